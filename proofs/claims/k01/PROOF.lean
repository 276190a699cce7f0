import PyProof.Rows.All
import Wide.All
import OpenK.AllK
import Wide.FinOn
import PyProof.ReprRoads
import KE.KExcIs
import HandS.ForMost
import HandS.ForExc
import HandS.ExcInit
import HandS.ExcField
import HandS.ExcIs
import HandS.IsInst
import HandS.Replace
import KE.GoesEnum
import KE.GoesEnumKw
import HandS.Walk
import PyProof.Rows.StrStep
import HandS.Style
import PySem.Challenge.RW_byteround_k01_rows_of_bytes_as_texts
set_option Elab.async false
set_option linter.all false
set_option maxRecDepth 100000
set_option maxHeartbeats 4000000
/-! An exception that a clause catches and keeps under a name: behind the suite it is tracked. -/
namespace Br
open PySem PySem.Spec PyProof.Rows L2
/-- at a: a caught exception of the class cls, its dict d -/
def xob (a : Addr) (cls : Value) (d : Option Addr) : HO := .ext fun h => ∃ oe vs, h.get? a = some oe ∧ Zc cls d oe ∧ oe.data = .fields vs
theorem xob_ok {P : Program} {w : World} {H : Hp} {h : Heap} {a : Addr} {cls : Value} {d : Option Addr} {oe : Obj} {vs : Array Value} (he : h.get? a = some oe) (hz : Zc cls d oe) (hd : oe.data = .fields vs) : ObjOk P w H h a (xob a cls d) :=
  ⟨⟨oe, vs, he, hz, hd⟩, ⟨_, he⟩, fun h1 h2 ⟨o, v, q, z, e⟩ k => ⟨o, v, k _ q, z, e⟩⟩
theorem xob_at {P : Program} {w : World} {H : Hp} {h : Heap} {a : Addr} {cls : Value} {d : Option Addr} (hok : HOk P w H h) (e : H a = some (xob a cls d)) : ∃ oe vs, h.get? a = some oe ∧ Zc cls d oe ∧ oe.data = .fields vs := by
  have x : ObjOk P w H h a (.ext fun h => ∃ oe vs, h.get? a = some oe ∧ Zc cls d oe ∧ oe.data = .fields vs) := hok a _ e
  exact x.1
section
variable {X : Cx} {pins : List (Addr × Obj)} {σ : L2.St} {H : Hp} {s : Shared}
theorem track {a : Addr} {cls : Value} {d : Option Addr} {oe : Obj} {vs : Array Value} (I : Inv X pins σ H s) (ha : s.heap.get? a = some oe) (hd : oe.data = .fields vs) (hz : Zc cls d oe) (na : H a = none) (nL : a ≠ X.env.locals)
    (n0 : X.s_0.heap.get? a = none) (np : ∀ p ∈ X.pn ++ pins, p.1 ≠ a) : Inv X pins σ (upd H a (xob a cls d)) s := by
  have ne : ∀ {b : Addr} {o : HO}, H b = some o → b ≠ a := fun {b o} q => ne_of_none q na
  refine ⟨I.ok, I.os, I.bare, ⟨I.base.keep, I.base.slot, fun b o e n hx => ?_, I.base.there, fun b xs e => ?_, fun b o u e => ?_, fun b ps e => ?_⟩, I.loc, I.cell, ?_, fun x c e => ?_, fun p hp => ?_, fun b o q => ?_, I.len⟩
  · have hb : b ≠ a := fun z => by rw [z, n0] at e; cases e
    rw [upd_ne hb]
    exact I.base.free b o e n hx
  · have q := I.base.tups b xs e
    rw [upd_ne (ne q)]
    exact q
  · have q := I.base.frzs b o u e
    rw [upd_ne (ne q)]
    exact q
  · obtain ⟨m, q⟩ := I.base.tbls b ps e
    exact ⟨m, by rw [upd_ne (ne q)]; exact q⟩
  · rw [upd_ne (Ne.symm nL)]
    exact I.free
  · have hc : c ≠ a := fun z => by
      obtain ⟨v, o, ho, hdc⟩ := I.cell x c e
      rw [z, ha] at ho
      cases ho
      rw [hd] at hdc
      cases hdc
    rw [upd_ne hc]
    exact I.freeC x c e
  · obtain ⟨e, n, neL, nf, dd⟩ := I.pin p hp
    exact ⟨e, by rw [upd_ne (np p hp)]; exact n, neL, nf, dd⟩
  · by_cases hb : b = a
    · subst hb
      rw [upd_same] at q
      cases q
      exact xob_ok ha hz hd
    · rw [upd_ne hb] at q
      exact (I.hok b o q).stay (fun c v _ r => r) (fun c r => by rw [upd_ne (ne r)]; exact r) fun c xs r => by rw [upd_ne (ne r)]; exact r
end
/-- behind the suite: its name (slot i) is gone, the exception at a is tracked -/
def endsKp (D : Ends) (i : Nat) (a : Addr) (o : HO) : Ends := { nx := fun σ' H' => H' a = none → D.nx (σ'.set i none) (upd H' a o), rt := fun v H' => H' a = none → D.rt v (upd H' a o), bk := fun σ' H' => H' a = none → D.bk (σ'.set i none) (upd H' a o), ct := fun σ' H' => H' a = none → D.ct (σ'.set i none) (upd H' a o) }
/-- what «except x as n: suite» wishes, the exception tracked behind the suite -/
def wKp (K : PySem.W.Frag) (c : Value) (i : Nat) (ts : Addr → Value → Option Addr → TS) (Wout : WX) (D : Ends) : WX := fun cls d σ H =>
  ∃ b, PySem.W.exmOne K cls c = some b ∧ (b = true → ∀ a, H a = none → ts a cls d (endsKp D i a (xob a cls d)) (σ.set i (some (.ref a))) H) ∧ (b = false → Wout cls d σ H)
section
variable {X : Cx} {x n : Str} {c : Value} {i : Nat} {body suite : List Stmt} {b₀ : Stmt} {np pos pos' : Pos} {tb : WX → TS} {ts : Addr → Value → Option Addr → TS} {Wout : WX}
theorem sky_none {B : Heap} {l : List Env} {a : Addr} {Z : Obj → Prop} {L : Addr} {h : Heap} (k : Sky B l a Z L h) : B.get? a = none := by
  rcases k with k | k | k
  · exact k.2.1
  · exact k.2.1
  · exact k.2.1
theorem ps_try_kp (hs : X.stack = X.env :: X.outer) (hf : X.env.frame = some X.env.locals) (hex : X.ex = []) (hN : X.N.Nodup) (hi : X.N[i]? = some n) (hln : X.env.kindOf n = some .local) (hc : Names X x c) (tk : Takes X Wout)
    (hb : ∀ (W : WX) (pn : List (Addr × Obj)) (xe : Value → Shared → Prop), Takes (X.tr pn xe) W → PassesOwn (model X.prog X.w) X.A X.env xe → PSs (X.tr pn xe) body (tb W))
    (hsu : ∀ (a : Addr) (oe : Obj) (cls : Value) (d : Option Addr) (pn : List (Addr × Obj)), Zc cls d oe → (∃ vs, oe.data = .fields vs) → PSs (X.suite a ((a, oe) :: pn)) (b₀ :: suite) (ts a cls d)) :
    PS X (.Try body [.ExceptHandler (some (.Name x np)) (some n) (b₀ :: suite) pos'] [] [] pos) (fun D σ H => tb (wKp X.K c i ts Wout D) D σ H) := by
  refine ⟨fun pins s σ H D I h => ?_⟩
  have ok := I.ok
  have hfr : X.A.frames = some (X.env :: X.outer) := by rw [ok.frames, hs]
  have hloc : Loc X.env.scope n := .inl hln
  refine wpAny_Try_except ?_
  refine wpAny_mono ((hb (wKp X.K c i ts Wout D) (X.pn ++ pins) (fun e s₁ => wpAny (model X.prog X.w) X.A (noteFrame e X.env) (fun _ s₂ => wpAny (model X.prog X.w) X.A (setFlight e none) (fun _ s₃ =>
    wpAny (model X.prog X.w) X.A (handleBy e X.env [.ExceptHandler (some (.Name x np)) (some n) (b₀ :: suite) pos']) (SP X pins D) X.xe s₃) X.xe s₂) X.xe s₁) (fun u s' xx => ?_) PassesOwn.looking).run [] s σ H D (I.toTry _) h) (fun f s1 hsp => ?_) (fun e s1 he => he)
  · -- the catch
    obtain ⟨a, B, sI, pins', σ', H', cls, d, rfl, J', nb, up, sky, na, os, ag, b, hb1, hyes, hno⟩ := xx
    have J : Inv X pins σ' H' sI := J'.ofTry ok
    have sky' : Sky B (X.env :: X.outer) a (Zc cls d) X.env.locals s'.heap := by rw [← hs]; exact sky
    have nBa : B.get? a = none := sky_none sky'
    show wpAny (model X.prog X.w) X.A (noteFrame (.ref a) X.env) _ _ _
    refine Sky.land Zc.steady hfr hf sky' fun h3 fl3 up3 => ?_
    have J3 : Inv X pins σ' H' { s' with heap := h3 } := J.landed nb fl3.1 (up.trans up3) os ag
    obtain ⟨oe3, vs3, he3, hz3, hd3⟩ := fl3.there
    have notFr : ∀ {h : Heap} {o : Obj} {vs : Array Value}, h.FunFrames B (X.env :: X.outer) → h.get? a = some o → o.data = .fields vs → a ∉ frs (X.env :: X.outer) := fun {h o vs} ff e dd hm => by
      obtain ⟨_, o', e', hnf⟩ := ff.mem hm
      rw [e] at e'; cases e'
      exact hnf _ dd
    have nfr := notFr fl3.2.2.1 he3 hd3
    have nL : a ≠ X.env.locals := fun z => nfr (List.mem_filterMap.mpr ⟨X.env, List.mem_cons_self, by rw [hf, z]⟩)
    have nF : a ∉ X.fs := fun hm => by
      obtain ⟨e, he, q⟩ := List.mem_filterMap.mp hm
      exact nfr (List.mem_filterMap.mpr ⟨e, List.mem_cons_of_mem _ he, q⟩)
    have nI : sI.heap.get? a = none := by
      cases q : sI.heap.get? a with
      | none => rfl
      | some o =>
        have z := nb a o q (by rw [hs]; exact nfr)
        rw [nBa] at z; cases z
    have n0 : X.s_0.heap.get? a = none := by
      cases q : X.s_0.heap.get? a with
      | none => rfl
      | some o =>
        obtain ⟨o', z⟩ := J.base.there a o q (by rw [hex]; simp)
        rw [nI] at z; cases z
    have npn : ∀ p ∈ X.pn ++ pins, p.1 ≠ a := fun p hp z => by
      obtain ⟨e, _⟩ := J.pin p hp
      rw [z, nI] at e; cases e
    have S3 := J3.suite he3 hd3 na nL nF
    refine wpAny_handleBy_cons (codeAny_handlers_test ?_) (by intro q; cases q)
    have LT : PySem.W.Looks (model X.prog X.w) h3 (typeOf (.ref a)) cls := fun A Q E s k q => wpAny_typeOf_ref (k _ _ he3) (by rw [hz3.1]; exact q)
    have LM := PySem.W.exm_one (M := model X.prog X.w) (J3.kIn) LT hb1
    have test : ∀ {Q : Value → Shared → Prop} {E : Value → Shared → Prop}, Q c { s' with heap := h3 } → wpAny (model X.prog X.w) (X.A.mark (some (.ref a))) (eval (.Name x np) X.env) Q E { s' with heap := h3 } := fun {Q E} q => by
      obtain ⟨hg, hdbg, hm | ⟨hm, hv, hnn⟩⟩ := hc
      · exact ld_glob (X := X.suite a ((a, oe3) :: (X.pn ++ pins))) S3 hg hm q hdbg
      · exact ld_blt (X := X.suite a ((a, oe3) :: (X.pn ++ pins))) S3 hg hm hv q hnn hdbg
    refine test (LM.here ?_)
    cases b with
    | true =>
      refine codeAny_handlers_suite_as ?_
      refine HandSPX.lands_againZ fl3 fun h4 fl4 up4 => ?_
      have J4 : Inv X pins σ' H' { s' with heap := h4 } := J.landed nb fl4.1 ((up.trans up3).trans up4) os ag
      obtain ⟨oe4, vs4, he4, hz4, hd4⟩ := fl4.there
      have S4 := J4.suite he4 hd4 na nL nF
      refine store_ok (X := X.suite a ((a, oe4) :: (X.pn ++ pins))) (v := .ref a) S4 hN hi hloc rfl (fun s5 S5 => ?_) (.inr hln)
      refine wpAny_mono ((hsu a oe4 cls d (X.pn ++ pins) hz4 ⟨_, hd4⟩).run [] s5 _ H' _ S5 (hyes rfl a na)) (fun f s6 hsp => ?_) (fun _ _ z => False.elim z)
      have end_ : ∀ {σ6 : L2.St} {H6 : Hp} {Q : Shared → Prop}, Inv (X.suite a ((a, oe4) :: (X.pn ++ pins))) [] σ6 H6 s6 → (H6 a = none → ∀ s7, Inv X pins (σ6.set i none) (upd H6 a (xob a cls d)) s7 → Q s7) →
          wpAny (model X.prog X.w) X.A (do bindName X.env n .none; unbindBehindTheSuite X.env n pos') (fun _ s7 => Q s7) X.xe s6 := fun {σ6 H6 Q} S6 hq => by
        obtain ⟨p1, p2, _⟩ := S6.pin (a, oe4) (List.mem_append_left _ List.mem_cons_self)
        exact gone_ok (track (S6.unsuite ok) p1 hd4 hz4 p2 nL n0 npn) hN hi hln (hq p2)
      cases f with
      | next =>
        obtain ⟨σ6, H6, S6, q6⟩ := hsp
        exact end_ S6 fun n6 s7 J7 => ⟨_, _, J7, q6 n6⟩
      | brk =>
        obtain ⟨σ6, H6, S6, q6⟩ := hsp
        exact end_ S6 fun n6 s7 J7 => ⟨_, _, J7, q6 n6⟩
      | cont =>
        obtain ⟨σ6, H6, S6, q6⟩ := hsp
        exact end_ S6 fun n6 s7 J7 => ⟨_, _, J7, q6 n6⟩
      | ret u =>
        obtain ⟨v6, σ6, H6, S6, r6, q6⟩ := hsp
        exact end_ S6 fun n6 s7 J7 => ⟨_, _, _, J7, r6, q6 n6⟩
    | false =>
      show wpAny _ X.A (handleBy (.ref a) X.env []) _ _ _
      refine wpAny_handleBy_nil ?_
      obtain ⟨k1, k2, k3, oe, vs, T, oT, ts', he, hz, hd, h1, hr⟩ := id fl3
      unfold PySem.passOn
      refine wpAny_bind (wpAny_field he hd h1 ?_)
      rw [if_neg (show ¬ ((Value.ref T == Value.none) = true) from by simp)]
      have fin : wpAny (model X.prog X.w) X.A (setFlight (.ref a) X.env.frame) (fun _ s4 => wpAny (model X.prog X.w) X.A (throw (.ref a) : Sem Flow) (SP X pins D) X.xe s4) X.xe { s' with heap := h3 } := by
        rw [hf]
        refine HandSPX.setFlight_upZ fl3 fun h4 hh4 up4 => wpAny_throw (tk _ _ ?_)
        exact ⟨a, B, sI, pins, σ', H', cls, d, rfl, J, nb, (up.trans up3).trans up4, .inr (.inr (by rw [hs]; exact hh4)), na, os, ag, hno rfl⟩
      first
        | exact wpAny_bind (wpAny_pure (wpAny_bind fin))
        | exact wpAny_bind fin
  · cases f with
    | next =>
      obtain ⟨σ', H', J', q⟩ := hsp
      exact wpAny_execs_nil ⟨σ', H', J'.ofTry ok, q⟩
    | brk =>
      obtain ⟨σ', H', J', q⟩ := hsp
      exact ⟨σ', H', J'.ofTry ok, q⟩
    | cont =>
      obtain ⟨σ', H', J', q⟩ := hsp
      exact ⟨σ', H', J'.ofTry ok, q⟩
    | ret u =>
      obtain ⟨v, σ', H', J', r, q⟩ := hsp
      exact ⟨v, σ', H', J'.ofTry ok, r, q⟩
end
/-- kept.f, kept a tracked exception -/
def tKf (K : PySem.W.Frag) (f : Str) (te : TE) : TE := fun σ H Q => te σ H fun x H1 => ∃ (a C dd : Addr) (fs : List (Str × V)) (v : V), x = .ref a ∧ H1 a = some (xob a (.ref C) (some dd)) ∧ XfC K C ∧ PySem.W.findIn K (.ref C) f = some none ∧
  H1 dd = some (.xd fs) ∧ fs.lookup f = some v ∧ Q v H1
theorem pe_kf {X : Cx} {e : Expr} {te : TE} {pos : Pos} {n : Str} (he : PE X e te) (hb : attributeBase e n X.env (eval e X.env) = eval e X.env := by rfl) : PE X (.Attribute e n pos) (tKf X.K n te) := by
  refine ⟨fun pins s σ H Q I h => ?_⟩
  refine attr_of hb (thn (he.run pins s σ H _ I h) fun u s1 hh => ?_)
  obtain ⟨x, H1, I1, rx, a, C, dd, fs, v, ex, ea, T, hno, ed, l, q⟩ := hh
  subst ex
  obtain rfl : u = Value.ref a := rx
  obtain ⟨oe, vs, ha, hz, hd⟩ := xob_at I1.hok ea
  have hx : ObjOk X.prog X.w H1 s1.heap dd (.xd fs) := I1.hok dd _ ed
  obtain ⟨mA, hns, hr⟩ := hx
  obtain ⟨od, ho, hl⟩ := lookIn_ns hns
  obtain ⟨u, hu, ru⟩ := RelO.some_of (v := v) (o := mA n) (by rw [← l]; exact hr n)
  have J : PySem.W.InstAt s1.heap a oe C (some od) := ⟨ha, hz.1, by unfold PySem.W.notCls; rw [hd] <;> rfl, by rw [hz.2]; exact ho⟩
  exact HandSPX.exc_get I1.kIn J T.ga T.gg T.exC (PySem.W.findObj_own T.hdC hno rfl (by rw [hl, hu])) (handed_of ru) ⟨v, H1, I1.tok _, ru, q⟩
/-- isinstance(kept, c) -/
def rIsX (K : PySem.W.Frag) : List V → Hp → VK → Prop := fun xs H Q => ∃ (a C dd : Addr) (fs : List (Str × V)) (c : V) (u : Value) (b : Bool), xs = [.ref a, c] ∧ H a = some (xob a (.ref C) (some dd)) ∧ H dd = some (.xd fs) ∧ ExcC K C ∧ ClsV c u ∧ PySem.W.kitOne K (.ref C) u = some b ∧ Q (.bl b) H
theorem call_isX {X : Cx} : CallR X (.builtin "isinstance") (rIsX X.K) := by
  intro pins s σ H xs us Q I r h
  obtain ⟨a, C, dd, fs, c, u, b, rfl, ea, ed, T, hcv, e, q⟩ := h
  obtain ⟨u1, u2, rfl, r1, r2⟩ := vals2 r
  have e2 := hcv.eq r2
  subst e2
  obtain rfl : u1 = Value.ref a := r1
  obtain ⟨oe, vs, ha, hz, hd⟩ := xob_at I.hok ea
  have hx : ObjOk X.prog X.w H s.heap dd (.xd fs) := I.hok dd _ ed
  obtain ⟨mA, hns, hr⟩ := hx
  obtain ⟨od, ho, hl⟩ := lookIn_ns hns
  have J : PySem.W.InstAt s.heap a oe C (some od) := ⟨ha, hz.1, by unfold PySem.W.notCls; rw [hd] <;> rfl, by rw [hz.2]; exact ho⟩
  have hcl : (PySem.W.clsIn X.K C).isSome = true := by
    obtain ⟨cd, hc, _⟩ := PySem.W.any_some T.hd
    rw [hc]
    rfl
  exact PySem.W.kia_one (PySem.W.kitx_exc hcl T.hg T.hk T.hs T.ha T.hn T.ht T.hm) I.kIn J e (fun z => nomatch z) fun tk => ⟨.bl b, H, I.tok tk, rfl, q⟩
/-- repr(x), x a list or a tuple of data -/
def rRepr (K : PySem.W.Frag) : List V → Hp → VK → Prop := fun xs H Q => ∃ (a : Addr) (d : PyData), xs = [.ref a] ∧ Dp K H (.ref a) d ∧ d.showable = true ∧ d.hasDict = false ∧ d.depth ≤ 60 ∧ d.shown.length ≤ sizeLine ∧ Q (.str d.shown) H
theorem call_repr {X : Cx} {k : Nat} (hr : Room k X.A) (hg : X.A.guards = some []) : CallR X (.builtin "repr") (rRepr X.K) := by
  intro pins s σ H xs us Q I r h
  obtain ⟨a, d, rfl, hd, hs, hdct, hdep, hz, q⟩ := h
  obtain ⟨u, rfl, e⟩ := vals1 r
  obtain rfl : u = Value.ref a := e
  obtain ⟨as, rd⟩ := Dp.reads I d _ _ hd rfl
  have hu := hr.un
  exact PySem.repr_of_reads' rd hs (fun z => by rw [hdct] at z; cases z) hg (by omega) (fun _ _ z => z) (fun h' u tk hk => ⟨.str d.shown, H, I.kept (t' := tk) hk, ⟨u, rfl⟩, q⟩) hz
end Br

/-! enumerate of a tuple and of a text. -/
namespace PySem
open Builtin
set_option maxHeartbeats 1000000 in
theorem br_meets_enum1 {v : Value} {o : Obj} {H : Heap → Prop} (B : Begins v o H) :
    Meets (Builtin.«enumerate.__new__» ⟨[.type "enumerate", v], []⟩) (fun _ R s => H s.heap ∧
      R (.ok (.ret (.ref (s.heap.push o).objs.size))) { s with heap := (s.heap.push o).push { cls := .type "enumerate", data := .fields #[.none, .bool false, .ref s.heap.objs.size, rawInt 0, .none, .none] } }) :=
  .of_wp fun prog w A R s h => by
    obtain ⟨hp, g, d, tk, os⟩ := s; obtain ⟨h1, h⟩ := h
    have hsub := sub_enumerate
    have q1 : ∀ {A' : Around} {E : Value → Shared → Prop} {Q : Value → Shared → Prop}, Q (.ref hp.objs.size) ⟨hp.push o, g, d, tk, os⟩ → wpAny (model prog w) A' (pyIter v) Q E ⟨hp, g, d, tk, os⟩ :=
      fun q => B.iter prog w _ _ ⟨hp, g, d, tk, os⟩ _ h1 q
    wp_walk using q1
    refine wpAny_stack_any fun st => wpAny_pure ?_
    split
    · rename_i c _ _ _ _ _
      cases (c == Value.type "enumerate")
      · wp_walk using q1
        exact ⟨_, rfl, h⟩
      · wp_walk using q1
        exact ⟨_, rfl, h⟩
    · wp_walk using q1
      exact ⟨_, rfl, h⟩
section
variable {prog : Program} {w : World} {A : Around} {E : Value → Shared → Prop} {s : Shared}
/-- enumerate(v): its two new cells -/
theorem br_enum1 {v : Value} {o : Obj} {H : Heap → Prop} {Q : Value → Shared → Prop} (B : Begins v o H) (h1 : H s.heap)
    (h : ∀ h', IsEnum h' (s.heap.objs.size + 1) s.heap.objs.size 0 .none → h'.get? s.heap.objs.size = some o → h'.objs.size = s.heap.objs.size + 2 →
      (∀ b o, s.heap.get? b = some o → h'.get? b = some o) → Q (.ref (s.heap.objs.size + 1)) { s with heap := h' }) :
    wpAny (model prog w) A (call (.type "enumerate") [v]) Q E s := by
  refine callType_new F.called_enumerate (by decide) (F.typeCall_enumerate_1 _) (F.newCall_enumerate_1 _) (fun obj => F.args_object_init_2 obj _) F.entry_enumerate_new (br_meets_enum1 B) ⟨h1, ?_⟩
  have hz : (s.heap.push o).objs.size = s.heap.objs.size + 1 := Heap.size_push ..
  show _ ∧ _
  rw [hz]
  have he : IsEnum ((s.heap.push o).push { cls := .type "enumerate", data := .fields #[.none, .bool false, .ref s.heap.objs.size, rawInt 0, .none, .none] }) (s.heap.objs.size + 1) s.heap.objs.size 0 .none := by
    have := Heap.get?_push_size (s.heap.push o) (o := { cls := .type "enumerate", data := .fields #[.none, .bool false, .ref s.heap.objs.size, rawInt 0, .none, .none] }) rfl
    rw [hz] at this; exact this
  refine ⟨⟨_, he, rfl⟩, h _ he (Heap.get?_push_of_some _ (Heap.get?_push_size _ B.free)) (by rw [Heap.size_push, hz]) fun b o x => Heap.get?_push_of_some _ (Heap.get?_push_of_some _ x)⟩
end
end PySem
namespace Br
open PySem PySem.Spec PyProof.Rows L2
/-- the tuple at a, each item in a new pair with its number from k on -/
def Itet (K : PySem.W.Frag) (a : Addr) (k : Int) : It :=
  ⟨fun i H => ∃ (xs : List V) (x : V), SqT K H a xs ∧ xs[i]? = some x, fun i H v H' => ∃ T x, v = .ref T ∧ H T = none ∧ H' = upd H T (.tup [.int (k + (i : Nat)), x]) ∧ ∀ xs, SqT K H a xs → xs[i]? = some x, fun i H => ∃ xs : List V, SqT K H a xs ∧ xs.length ≤ i⟩
theorem isTup_isTuple {h : Heap} {a : Addr} {its : Array Value} (p : IsTup h a its) : h.IsTuple a its := by
  obtain ⟨o, h1, h2, n, h3⟩ := p
  exact ⟨o, h1, h2, n, h3⟩
theorem turn_enumT {P : Program} {w : World} {K : PySem.W.Frag} {elts : List Expr} {kk : Nat} {tpos : Pos} (a e it : Addr) (k : Int) (hai : a ≠ it) (hae : a ≠ e) :
    Turn P w K (.Tuple elts kk tpos) (Itet K a k) [e, it] e (fun i h => (∃ old, IsEnum h e it (k + (i : Nat)) old) ∧ h.IsTupleIter it a i ∧ e ≠ it) where
  mem := by simp
  obj := fun i h st b hb => by
    obtain ⟨⟨old, he⟩, ⟨o, ho, hc, hd⟩, _⟩ := st
    have e' : b = e ∨ b = it := by simpa using hb
    rcases e' with z | z
    · rw [z]; exact ⟨_, he, fun v q => nomatch q⟩
    · rw [z]; exact ⟨o, ho, fun v q => by rw [hd] at q; cases q⟩
  keep := fun i h h' st k => let ⟨⟨old, he⟩, hi, hne⟩ := st; ⟨⟨old, k e (by simp) _ he⟩, hi.at fun o q => k it (by simp) o q, hne⟩
  item := by
    intro X hP hw hK hc i pins s σ H E I hf st hg
    subst hP hw hK
    obtain ⟨⟨old, he⟩, hit, hne⟩ := st
    obtain ⟨xs, x, hq, hx⟩ := hg
    obtain ⟨its, rv, p, hz⟩ := I.tuple hq
    obtain ⟨u, hu, ru⟩ := rv.get hx
    have hel : e < s.heap.objs.size := Heap.lt_size he
    have hil : it < s.heap.objs.size := by obtain ⟨_, q, _⟩ := hit; exact Heap.lt_size q
    have D : Draws X.prog X.w X.A.in1 it [it, a] its.toArray.size (fun i v => its.toArray[i]? = some v) (fun i h => h.IsTupleIter it a i ∧ h.IsTuple a its.toArray) := Draws.tuple (A := X.A.in1) (I.ok.hd hc) it a hai its.toArray
    have hil2 : i < its.toArray.size := by
      have := (List.getElem?_eq_some_iff.mp hu).1
      simpa using this
    refine wpAny_pyNext_enum_itemC D he ⟨hit, isTup_isTuple p⟩ hil2 hne (by simp [hne, Ne.symm hae]) fun x' h' tk hx' ho st' hT hsz hk => ?_
    have hxe : x' = u := by
      rw [show its.toArray[i]? = some u by simpa using hu] at hx'
      exact (Option.some.inj hx').symm
    subst hxe
    refine ⟨_, rfl, wpAny_letOwnedTupleGo_enum (s := { s with heap := h', toks := tk + 1 }) ho fun h'' he' sb => ?_⟩
    have hT2 : h''.get? s.heap.objs.size = some { cls := .type "tuple", data := .seq #[.int (k + (i : Nat)) tk, x'] } := (sb.2 _ (Nat.ne_of_gt hel)).trans hT
    have new : ObjOk X.prog X.w (upd H s.heap.objs.size (.tup [.int (k + (i : Nat)), x])) h'' s.heap.objs.size (.tup [.int (k + (i : Nat)), x]) :=
      ⟨by show 2 ≤ sizeLine; decide, [.int (k + (i : Nat)) tk, x'], .cons ⟨_, rfl⟩ (.cons ru .nil), ⟨_, hT2, rfl, _, rfl⟩⟩
    have I1 : Inv X pins σ (upd H s.heap.objs.size (.tup [.int (k + (i : Nat)), x])) { s with heap := h'', toks := tk + 1 } :=
      I.turnedNew (ch := [e, it]) (fun b ob hb q => (sb.2 b (fun z => hb (by simp [z]))).trans (hk b ob (fun z => hb (by simp [z])) (fun z => hb (by simp [z])) q)) hf (Nat.le_refl _) new
    refine ⟨.ref s.heap.objs.size, _, I1, rfl, ⟨_, x, rfl, I.hok.fresh (Nat.le_refl _), rfl, fun ys hy => by rw [I.tuple_inj hy hq]; exact hx⟩, ⟨⟨x', ?_⟩, st'.1.at fun o q => (sb.2 it (Ne.symm hne)).trans q, hne⟩, fun b hb => ?_⟩
    · have e1 : k + ((i + 1 : Nat) : Int) = k + (i : Nat) + 1 := by omega
      rw [e1]; exact he'
    · have hb' : b < s.heap.objs.size := by
        have e' : b = e ∨ b = it := by simpa using hb
        rcases e' with z | z
        · rw [z]; exact hel
        · rw [z]; exact hil
      rw [upd_ne (Nat.ne_of_lt hb')]
      exact (hf b hb).1
  done := by
    intro X hP hw hK hc i pins s σ H E I hf st hg
    subst hP hw hK
    obtain ⟨⟨old, he⟩, hit, hne⟩ := st
    obtain ⟨xs, hq, hx⟩ := hg
    obtain ⟨its, rv, p, hz⟩ := I.tuple hq
    obtain ⟨f0, f1, f2, f3, f4, f5⟩ := hf it (by simp)
    have hl := rv.length
    have hT : s.TypeIs (.ref e) "enumerate" := ⟨_, he, rfl⟩
    unfold pyNext
    refine wpAny_bind (wpAny_attempt (wpAny_callSpecial?_slot (name := Str.ofString "__next__") hT F.slot_enumerate_next
      (wpAny_call_entry F.slot_enumerate_next hT F.entry_enumerate_next ?_ (F.args_enumerate_next_1 _))))
    show wpAny _ _ (field (.ref e) 2 >>= _) _ _ _
    refine wpAny_bind (wpAny_field he rfl (x := .ref it) rfl ?_)
    refine wpAny_bind (wpAny_nextOf_tuple_end (I.ok.hd hc) hit (isTup_isTuple p) (by simp; omega) fun h' x he' hx' => ?_)
    obtain ⟨o, ho, hc'⟩ := hx'
    refine wpAny_bind (wpAny_isInstance (T := "StopIteration") (b := true) ⟨o, ho, hc'⟩ isSubtype_stop ?_)
    exact wpAny_pure ⟨rfl, I.turned (t' := s.toks) (fun b o hb q => he' b o hb q) f0 f1 f3 f4 f5⟩
  self := fun A i s Q E st h => let ⟨⟨_, he⟩, _⟩ := st; wpAny_pyIter_enum he h
/-- the text x, each sign in a new pair with its number -/
def Ites (x : Str) : It := ⟨fun i _ => i < x.cps.size, fun i H v H' => ∃ T c, v = .ref T ∧ H T = none ∧ H' = upd H T (.tup [.int (i : Nat), .str ⟨#[c]⟩]) ∧ x.cps[i]? = some c, fun i _ => x.cps.size ≤ i⟩
theorem turn_enumS {P : Program} {w : World} {K : PySem.W.Frag} {elts : List Expr} {kk : Nat} {tpos : Pos} (x : Str) (t : Tok) (e it : Addr) :
    Turn P w K (.Tuple elts kk tpos) (Ites x) [e, it] e (fun i h => (∃ old, IsEnum h e it ((i : Nat) : Int) old) ∧ h.IsStrIter it (strIterType x) x t i ∧ e ≠ it ∧ i ≤ x.cps.size) where
  mem := by simp
  obj := fun i h st b hb => by
    obtain ⟨⟨old, he⟩, ⟨o, ho, hc, hd⟩, _⟩ := st
    have e' : b = e ∨ b = it := by simpa using hb
    rcases e' with z | z
    · rw [z]; exact ⟨_, he, fun v q => nomatch q⟩
    · rw [z]; exact ⟨o, ho, fun v q => by rw [hd] at q; cases q⟩
  keep := fun i h h' st k => by
    obtain ⟨⟨old, he⟩, ⟨o, ho, hc, hd⟩, hne, hl⟩ := st
    exact ⟨⟨old, k e (by simp) _ he⟩, ⟨o, k it (by simp) _ ho, hc, hd⟩, hne, hl⟩
  item := by
    intro X hP hw hK hc i pins s σ H E I hf st hg
    subst hP hw hK
    obtain ⟨⟨old, he⟩, hit, hne, _⟩ := st
    have hg' : i < x.cps.size := hg
    have hel : e < s.heap.objs.size := Heap.lt_size he
    have hil : it < s.heap.objs.size := by obtain ⟨_, q, _⟩ := hit; exact Heap.lt_size q
    have D := Draws.text (prog := X.prog) (w := X.w) (A := X.A.in1) (I.ok.hd hc) it x t
    refine wpAny_pyNext_enum_itemC D he hit hg' hne (by simp [hne]) fun x' h' tk hx' ho st' hT hsz hk => ?_
    obtain ⟨c, uc, hcx, hxe⟩ := hx'
    subst hxe
    refine ⟨_, rfl, wpAny_letOwnedTupleGo_enum (s := { s with heap := h', toks := tk + 1 }) ho fun h'' he' sb => ?_⟩
    have hT2 : h''.get? s.heap.objs.size = some { cls := .type "tuple", data := .seq #[.int ((i : Nat) : Int) tk, .str ⟨#[c]⟩ uc] } := (sb.2 _ (Nat.ne_of_gt hel)).trans hT
    have new : ObjOk X.prog X.w (upd H s.heap.objs.size (.tup [.int (i : Nat), .str ⟨#[c]⟩])) h'' s.heap.objs.size (.tup [.int (i : Nat), .str ⟨#[c]⟩]) :=
      ⟨by show 2 ≤ sizeLine; decide, [.int (i : Nat) tk, .str ⟨#[c]⟩ uc], .cons ⟨_, rfl⟩ (.cons ⟨_, rfl⟩ .nil), ⟨_, hT2, rfl, _, rfl⟩⟩
    have I1 : Inv X pins σ (upd H s.heap.objs.size (.tup [.int (i : Nat), .str ⟨#[c]⟩])) { s with heap := h'', toks := tk + 1 } :=
      I.turnedNew (ch := [e, it]) (fun b ob hb q => (sb.2 b (fun z => hb (by simp [z]))).trans (hk b ob (fun z => hb (by simp [z])) (fun z => hb (by simp [z])) q)) hf (Nat.le_refl _) new
    refine ⟨.ref s.heap.objs.size, _, I1, rfl, ⟨_, c, rfl, I.hok.fresh (Nat.le_refl _), rfl, hcx⟩, ⟨⟨.str ⟨#[c]⟩ uc, ?_⟩, ?_, hne, hg'⟩, fun b hb => ?_⟩
    · have e1 : (((i + 1 : Nat)) : Int) = ((i : Nat) : Int) + 1 := by omega
      rw [e1]; exact he'
    · obtain ⟨o, h1, h2, h3⟩ := st'
      exact ⟨o, (sb.2 it (Ne.symm hne)).trans h1, h2, h3⟩
    · have hb' : b < s.heap.objs.size := by
        have e' : b = e ∨ b = it := by simpa using hb
        rcases e' with z | z
        · rw [z]; exact hel
        · rw [z]; exact hil
      rw [upd_ne (Nat.ne_of_lt hb')]
      exact (hf b hb).1
  done := by
    intro X hP hw hK hc i pins s σ H E I hf st hg
    subst hP hw hK
    obtain ⟨⟨old, he⟩, hit, hne, hle⟩ := st
    have hg' : x.cps.size ≤ i := hg
    have hi : i = x.cps.size := Nat.le_antisymm hle hg'
    subst hi
    obtain ⟨f0, f1, f2, f3, f4, f5⟩ := hf it (by simp)
    have D := Draws.text (prog := X.prog) (w := X.w) (A := X.A.in1) (I.ok.hd hc) it x t
    exact wpAny_pyNext_enum_endD D he hit fun h' eb => ⟨rfl, I.turned (t' := s.toks) (fun b o hb q => eb b o hb q) f0 f1 f3 f4 f5⟩
  self := fun A i s Q E st h => let ⟨⟨_, he⟩, _⟩ := st; wpAny_pyIter_enum he h
def iEnumT (K : PySem.W.Frag) (ta : TA) : TI := fun σ H R => ta σ H fun vs H1 => ∃ a xs, vs = [.ref a] ∧ SqT K H1 a xs ∧ R (Itet K a 0) H1
def iEnumS (ta : TA) : TI := fun σ H R => ta σ H fun vs H1 => ∃ x, vs = [.str x] ∧ R (Ites x) H1
section
variable {X : Cx} {e : Expr} {ta : TA} {p pos tpos : Pos} {elts : List Expr} {kk : Nat}
theorem pi_enumT (hg : Gl X "enumerate") (hm : X.mg "enumerate" = none) (ha : PA X [e] ta) (hs : starEach [e] X.env = [(false, eval e X.env)] := by rfl) :
    PI X (.Tuple elts kk tpos) (.Call (.Name "enumerate" p) [e] [] pos) (iEnumT X.K ta) := by
  refine ⟨fun pins s σ H R I h => ?_⟩
  refine Call_ (ld_blt I hg hm boot_enumerate (PyProof.Rows.callWith_type1 (thn (ha.run pos pins s σ H _ I h) fun us s1 ⟨vs, H1, I1, r1, q1⟩ => ?_) hs rfl))
  obtain ⟨a, xs, ex, hq, q⟩ := q1
  subst ex
  cases r1 with
  | cons r rr =>
    cases rr
    cases r
    obtain ⟨its, rv, p', hz⟩ := I1.tuple hq
    have hT := isTup_isTuple p'
    have hlt : a < s1.heap.objs.size := by obtain ⟨o, h1, _⟩ := hT; exact Heap.lt_size h1
    refine br_enum1 (begins_tuple a its.toArray) hT fun h' he hit hsz hk => wpAny_pyIter_enum he ?_
    have I2 : Inv X pins σ H1 { s1 with heap := h' } := I1.kept (t' := s1.toks) hk
    refine ⟨s1.heap.objs.size + 1, [s1.heap.objs.size + 1, s1.heap.objs.size], _, _, H1, rfl, I2, turn_enumT a (s1.heap.objs.size + 1) s1.heap.objs.size 0 (Nat.ne_of_lt hlt) (Nat.ne_of_lt (Nat.lt_succ_of_lt hlt)), ⟨⟨.none, he⟩, ⟨_, hit, rfl, rfl⟩, Nat.succ_ne_self _⟩, fun b hb => ?_, q⟩
    have e' : b = s1.heap.objs.size + 1 ∨ b = s1.heap.objs.size := by simpa using hb
    have hle : s1.heap.objs.size ≤ b := by
      rcases e' with z | z
      · rw [z]; exact Nat.le_add_right _ _
      · rw [z]; exact Nat.le_refl _
    exact I1.fpOk hle (I1.hok.fresh hle)
theorem pi_enumS (hg : Gl X "enumerate") (hm : X.mg "enumerate" = none) (ha : PA X [e] ta) (hs : starEach [e] X.env = [(false, eval e X.env)] := by rfl) :
    PI X (.Tuple elts kk tpos) (.Call (.Name "enumerate" p) [e] [] pos) (iEnumS ta) := by
  refine ⟨fun pins s σ H R I h => ?_⟩
  refine Call_ (ld_blt I hg hm boot_enumerate (PyProof.Rows.callWith_type1 (thn (ha.run pos pins s σ H _ I h) fun us s1 ⟨vs, H1, I1, r1, q1⟩ => ?_) hs rfl))
  obtain ⟨x, ex, q⟩ := q1
  subst ex
  cases r1 with
  | cons r rr =>
    cases rr
    obtain ⟨t, rfl⟩ := r
    refine call_enumerate_str fun h' he hit hsz hk => wpAny_pyIter_enum he ?_
    have I2 : Inv X pins σ H1 { s1 with heap := h' } := I1.kept (t' := s1.toks) hk
    refine ⟨s1.heap.objs.size + 1, [s1.heap.objs.size + 1, s1.heap.objs.size], _, _, H1, rfl, I2, turn_enumS x t (s1.heap.objs.size + 1) s1.heap.objs.size, ⟨⟨.none, he⟩, hit, Nat.succ_ne_self _, Nat.zero_le _⟩, fun b hb => ?_, q⟩
    have e' : b = s1.heap.objs.size + 1 ∨ b = s1.heap.objs.size := by simpa using hb
    have hle : s1.heap.objs.size ≤ b := by
      rcases e' with z | z
      · rw [z]; exact Nat.le_add_right _ _
      · rw [z]; exact Nat.le_refl _
    exact I1.fpOk hle (I1.hok.fresh hle)
end
/-- the turns of both -/
theorem walk_et {K : PySem.W.Frag} {a : Addr} {xs : List V} {k : Int} : Walk (Itet K a k) xs.length (fun H => SqT K H a xs) (fun i H v H' => ∃ T x, v = .ref T ∧ H T = none ∧ H' = upd H T (.tup [.int (k + (i : Nat)), x]) ∧ xs[i]? = some x) where
  goes := fun i H hi q => ⟨xs, xs[i], q, by simp [hi]⟩
  stops := fun H q => ⟨xs, q, Nat.le_refl _⟩
  yields := fun i H x H' hi q ⟨T, y, e1, e2, e3, e4⟩ => ⟨T, y, e1, e2, e3, e4 xs q⟩
theorem walk_es {x : Str} : Walk (Ites x) x.cps.size (fun _ => True) (fun i H v H' => ∃ T c, v = .ref T ∧ H T = none ∧ H' = upd H T (.tup [.int (i : Nat), .str ⟨#[c]⟩]) ∧ x.cps[i]? = some c) where
  goes := fun i H hi _ => hi
  stops := fun H _ => Nat.le_refl _
  yields := fun i H v H' _ _ y => y
end Br

/-! A def that is called where nothing is being shown (no repr runs): FnG; the law's end by it. -/
namespace Br
open PySem PySem.Spec PyProof.Rows L2
/-- as FnOk, where no repr runs around the call -/
structure FnG (P : Program) (w : World) (K : PySem.W.Frag) (mg : Str → Option Value) (base : Heap) (CX : CXT) (k : Nat) (f : Addr) (fd : FuncData) (ps : List Str) (sp : Sp) : Prop where
  len : ∀ vs H Q E, sp vs H Q E → vs.length = ps.length
  run : ∀ (A : Around) (outer : List Env) (s : Shared) (H : Hp) (args : Args) (us : List Value) (vs : List V) (Q : VK) (E : XK), A.guards = some [] → Room k A → Env0 P w K mg base A outer s H → BindsTo s fd args (ps.zip us) → Vals vs us → sp vs H Q E →
    codeAny (model P w) A (.call (.ref f) args) (CR CX outer P w H s Q E) s
section
variable {P : Program} {w : World} {K : PySem.W.Frag} {mg : Str → Option Value} {base : Heap} {CX : CXT}
theorem fn_ofG {k : Nat} {f : Addr} {name qual : Str} {params : Arguments} {body : List Stmt} {scope : Scope} {dV kV doc pm cdv ct oc : Value} {an od : Option Addr}
    {osl : Array (Option Value)} {N ps : List Str} {sp : Sp} (lk : K.lookup f = some ⟨oc, od, .func (PySem.W.fnOf name qual params body scope dV kV doc pm an cdv ct), osl⟩) (hcd : PySem.W.codeIn K cdv qual = true) (S : FnScope N ps scope)
    (len : ∀ vs H Q E, sp vs H Q E → vs.length = ps.length)
    (hbody : ∀ (A : Around) (outer : List Env) (s : Shared) (H : Hp) (vs : List V) (Q : VK) (E : XK), A.guards = some [] → Room k (A.deeper (envOfC qual scope s.heap.objs.size f cdv)) → sp vs H Q E →
      ∃ t, PSs (cxOf CX P w K mg base N qual scope f cdv A outer s H E) body t ∧ t { nx := fun _ H' => Q .non H', rt := Q } (start N vs) H) :
    FnG P w K mg base CX (k + 1) f (PySem.W.fnOf name qual params body scope dV kV doc pm an cdv ct) ps sp := by
  refine ⟨len, fun A outer s H args us vs Q E gd hr e0 hb r hsp => ?_⟩
  have hl := len _ _ _ _ hsp
  have KX : K.In s.heap := e0.mod.kin.keeps fun b o e => (e0.bs b o e).1
  have lim : s.heap.NoLimit := e0.mod.nolimit.keeps fun b o e => (e0.bs b o e).1
  have hkind : ∀ y ∈ ps.zip us, scope.names.lookup y.1 = some .local ∨ (scope.names.lookup y.1 = some .cell ∧ ((cellsFrom (s.heap.objs.size + 1) scope.names []).lookup y.1).isSome = true) := fun ⟨n, v⟩ hy =>
    (S.par n (List.of_mem_zip hy).1).elim .inl fun q => .inr ⟨q, PySem.W.cellsFrom_some _ _ _ (.inl q)⟩
  refine codeAny_call_function hr.depth (KX _ _ lk) rfl S.co S.gen rfl (PySem.W.codeRec_of KX hcd) (hb _ _ _ _ (wpAny_newFunctionEnv_cells S.kind hkind fun env he s1 x => ?_))
  subst he
  obtain ⟨t, ht, hq⟩ := hbody A outer s H vs Q E gd (hr.deeper _) hsp
  have I : Inv (cxOf CX P w K mg base N qual scope f cdv A outer s H E) [] (start N vs) H s1 := inv_start S hr.hd e0 hl r x
  refine ⟨lim.keeps x.toInCall.keep, codeAny_func (wpAny_mono (ht.run [] s1 (start N vs) H _ I hq) (fun fl s' hs => ?_) fun e s' hs => hs)⟩
  match fl, hs with
  | .ret u, ⟨v, σ', H', J, rv, q⟩ => exact ⟨v, H', J.os, J.bare, J.base, J.hok, rv, q⟩
  | .next, ⟨σ', H', J, q⟩ => exact ⟨V.non, H', J.os, J.bare, J.base, J.hok, rfl, q⟩
  | .brk, ⟨_, _, _, q⟩ => exact q.elim
  | .cont, ⟨_, _, _, q⟩ => exact q.elim
/-- the rule for a def that may call repr -/
theorem okG {x qual : Str} {st : Stmt} {f : Addr} {fd : FuncData} {N ps : List Str} {k : Nat} {sp : Sp} (F : Fun K x qual st f fd) (S : FnScope N ps (defScope st)) (len : ∀ vs H Q E, sp vs H Q E → vs.length = ps.length)
    (hbody : ∀ (cdv : Value) (A : Around) (outer : List Env) (s : Shared) (H : Hp) (vs : List V) (Q : VK) (E : XK), A.guards = some [] → Room k (A.deeper (envOfC qual (defScope st) s.heap.objs.size f cdv)) → sp vs H Q E →
      ∃ t, PSs (cxOf CX0 P w K mg base N qual (defScope st) f cdv A outer s H E).nox (defBody st) t ∧ t { nx := fun _ H' => Q .non H', rt := Q } (start N vs) H) : FnG P w K mg base CX0 (k + 1) f fd ps sp := by
  obtain ⟨oc, od, kV, doc, pm, an, cdv, ct, osl, rfl, lk, hcd⟩ := F.ex
  refine fn_ofG lk hcd S len fun A outer s H vs Q E gd hr hsp => ?_
  obtain ⟨t, h, q⟩ := hbody cdv A outer s H vs Q E gd hr hsp
  exact ⟨t, h.nox, q⟩
end
/-- the law's call: nothing but the script is tracked -/
theorem law_callG {P : Program} {w : World} {K : PySem.W.Frag} {mg mb : Str → Option Value} {k : Nat} {fa a : Addr} {fd : FuncData} {x : Str} {sp : Sp} {s₁ : Shared} {vs : List Value} {ns : List Int}
    (KX : K.In s₁.heap) (hns : s₁.heap.Ns mainGlobals mg) (hb : s₁.heap.Ns builtinsNs mb) (hbb : ∀ x : Str, x ≠ "__name__" → mb x = bootBuiltins x) (hlim : s₁.heap.NoLimit) (hg : s₁.gens = #[])
    (ha : s₁.heap.get? a = some { cls := .type "list", data := .seq vs.toArray }) (hi : IntsAre vs ns) (hl : ns.length ≤ sizeLine) (hr : Room k callerA)
    (F : ∀ base : Heap, K.In base → base.Ns mainGlobals mg → FnG P w K mg base CX0 k fa fd [x] sp) (hbind : ∀ (s : Shared) (u : Value), BindsTo s fd ⟨[u], []⟩ [(x, u)])
    (hsp : ∀ H : Hp, Only H → SqL K H a (ns.map V.int) → sp [.ref a] H (fun v _ => v = .bl true) fun _ _ _ => False) :
    codeAny (model P w) callerA (.call (.ref fa) ⟨[.ref a], []⟩) (fun r s' => r = .ok (.ret (.bool true)) ∧ OldK s₁.heap s'.heap ∧ s'.os = s₁.os ∧ AllBare s'.gens) s₁ := by
  have rv := vals_ints hi
  have core : ∀ H : Hp, Only H → SqL K H a (ns.map V.int) → HOk P w H s₁.heap → (∀ b, H b ≠ none → b = a) → (H a ≠ none → K.lookup a = none) →
      codeAny (model P w) callerA (.call (.ref fa) ⟨[.ref a], []⟩) (fun r s' => r = .ok (.ret (.bool true)) ∧ OldK s₁.heap s'.heap ∧ s'.os = s₁.os ∧ AllBare s'.gens) s₁ := by
    intro H hO hS hok hA hK
    have at_a : ∀ {b : Addr} {u : HO}, H b = some u → b = a := fun {b u} q => hA b (by rw [q]; simp)
    have noA : ∀ {b : Addr} {o : Obj} {es : Array DictEntry} {ep : Nat}, s₁.heap.get? b = some o → o.data = .dict es ep → H b = none := fun {b o es ep} e d => by
      cases q : H b with
      | none => rfl
      | some u =>
        obtain rfl := at_a q
        rw [ha] at e
        cases e
        cases d
    have nsK : ∀ {b : Addr} {m : Str → Option Value}, s₁.heap.Ns b m → (hidT s₁.heap H).Ns b m := fun {b m} ⟨o, es, ep, e, d, r⟩ => ⟨o, es, ep, hidT_get e (noA e d), d, r⟩
    have hKb : K.In (hidT s₁.heap H) := fun b o e => hidT_get (KX b o e) (by
      cases q : H b with
      | none => rfl
      | some u =>
        obtain rfl := at_a q
        rw [hK (by rw [q]; simp)] at e
        cases e)
    obtain ⟨mc, l1, l2⟩ := hlim
    have e0 : Env0 P w K mg (hidT s₁.heap H) callerA [] s₁ H := ⟨rfl, ⟨hKb, nsK hns, ⟨mb, nsK hb, hbb⟩, ⟨mc, nsK l1, l2⟩⟩, fun b o e => of_hidT e, Nat.le_of_eq (hidT_size _ _), trivial, fun b hb => (List.not_mem_nil (show b ∈ ([] : List Addr) from hb)).elim, hok, .of_eq hg⟩
    refine codeAny_mono ((F _ hKb (nsK hns)).run callerA [] s₁ H ⟨[.ref a], []⟩ [.ref a] [.ref a] _ _ rfl hr e0 (hbind s₁ (.ref a)) (.cons rfl .nil) (hsp H hO hS)) fun r s' h => ?_
    match r, h with
    | .error e, h => exact h.elim
    | .ok .next, h => exact h.elim
    | .ok .brk, h => exact h.elim
    | .ok .cont, h => exact h.elim
    | .ok (.ret u), ⟨v, H', os, bare, un, hok', r', q⟩ =>
      have q' : v = .bl true := q
      subst q'
      obtain rfl : u = Value.bool true := r'
      refine ⟨rfl, OldK.of_keep fun b o e => ?_, os, bare⟩
      cases q : H b with
      | none => exact un.keep b o e q (fun z => (List.not_mem_nil (show b ∈ ([] : List Addr) from z)).elim) (by simp)
      | some u =>
        rcases hO b with z | ⟨ob, xs, z⟩
        · rw [q] at z
          cases z
        · obtain ⟨e1, _⟩ := hok b _ z
          obtain ⟨e2, _⟩ := hok' b _ (un.frzs b ob _ z)
          rw [e] at e1
          cases e1
          exact e2
  cases hk : K.lookup a with
  | some o =>
    have e := KX a o hk
    rw [ha] at e
    cases e
    exact core (fun _ => none) (fun _ => .inl rfl) (.inr ⟨_, vs.toArray, _, hk, rfl, rfl, rfl, by rw [List.size_toArray, hi.length]; exact hl, by simpa using rv⟩) (fun b u z => nomatch (show (none : Option HO) = some u from z)) (fun b z => absurd rfl z) fun z => absurd rfl z
  | none =>
    refine core (upd (fun _ => none) a (.frz { cls := .type "list", data := .seq vs.toArray } (.lst (ns.map V.int)))) (fun b => ?_) (.inl (.inr ⟨{ cls := .type "list", data := .seq vs.toArray }, upd_same⟩)) (fun b u z => ?_) (fun b z => ?_) fun _ => hk
    · by_cases hb : b = a
      · subst hb
        exact .inr ⟨_, _, upd_same⟩
      · exact .inl (upd_ne hb)
    · by_cases hb : b = a
      · subst hb
        rw [upd_same] at z
        cases z
        exact ⟨ha, by rw [List.length_map]; exact hl, vs, _, rv, ha⟩
      · rw [upd_ne hb] at z
        cases z
    · exact Decidable.byContradiction fun hb => z (upd_ne hb)
/-- the goal that k_head leaves, from the law's promise -/
theorem walk_ofG {l : PySem.W.OpenLaw} {n k : Nat} {q : Program} {loose : List Str} {XP : (Str → Option Value) → Heap → Prop} {YP : World → Heap → Prop} {d : DefRec} {K : Params → PySem.W.Frag} {sp : PySem.W.Frag → Sp} {x : Str}
    (hn : l.most = some n) (hn2 : n ≤ sizeLine) (hdf : d.params.defaults = []) (hr : Room k callerA)
    (hY : ∀ (w : World) (h : Heap), YP w h → (K w.params).In h)
    (F : ∀ (w : World) (mg : Str → Option Value) (fa : Addr) (h : Heap), (K w.params).In h → h.Ns mainGlobals mg → mg d.name = some (.ref fa) →
      ∃ fd : FuncData, (∀ (s : Shared) (u : Value), BindsTo s fd ⟨[u], []⟩ [(x, u)]) ∧ ∀ base : Heap, (K w.params).In base → base.Ns mainGlobals mg → FnG l.prog w (K w.params) mg base CX0 k fa fd [x] (sp (K w.params)))
    (hsp : ∀ (K : PySem.W.Frag) (H : Hp) (a : Addr) (ns : List Int), ns.length ≤ n → Only H → SqL K H a (ns.map V.int) → sp K [.ref a] H (fun v _ => v = .bl true) fun _ _ _ => False) :
    PySem.W.WalkO q loose XP YP l.row.toRowW d [] (fun f vs => PySem.call f vs) := by
  refine Att.attach_call hn hdf fun w s₀ s₁ mg mb fa o pm cd doc a vs ns G Y ho hd hcd hmg hobj hints hlen hg => ?_
  obtain ⟨fd, hb, hF⟩ := F w mg fa _ (hY w _ Y) G.T.g hmg
  exact law_callG (hY w _ Y) G.T.g G.T.b G.T.builtins G.T.nolimit hg hobj hints (Nat.le_trans hlen hn2) hr hF hb fun H hO hS => hsp (K w.params) H a ns hlen hO hS
/-- t[::-1] of a text: some text that is no longer -/
def tRevS (te : TE) : TE := fun σ H Q => te σ H fun x H1 => ∃ z, x = .str z ∧ z.length ≤ sizeLine ∧ ∀ z' : Str, z'.length ≤ z.length → Q (.str z') H1
theorem pe_revS {X : Cx} {e : Expr} {te : TE} {k : Nat} {p1 p2 p3 pos : Pos} (he : PE X e te) : PE X (.Subscript e (.Slice none none (some (.UnaryOp .USub (.Constant (.int 1) k p1) p2)) p3) pos) (tRevS te) := by
  refine ⟨fun pins s σ H Q I h => ?_⟩
  refine Subscript_ (thn (he.run pins s σ H _ I h) fun v s1 ⟨x, H1, I1, r1, z, ex, hz, q⟩ => ?_)
  subst ex
  obtain ⟨t, rfl⟩ := r1
  have hst : PO X (some (.UnaryOp .USub (.Constant (.int 1) k p1) p2)) (tPart (tUn (rU fun i => .int (-i)) (tC (.int 1)))) := po_some (pe_un un_neg pe_int)
  refine wpAny_Slice (thn (po_none.run pins s1 σ H1 (fun o H2 => o = none ∧ H2 = H1) I1 ⟨rfl, rfl⟩) fun vl s2 ⟨l, H2, I2, pl, el, e2⟩ => ?_)
  subst el e2
  refine thn (po_none.run pins s2 σ H2 (fun o H3 => o = none ∧ H3 = H2) I2 ⟨rfl, rfl⟩) fun vu s3 ⟨u, H3, I3, pu, eu, e3⟩ => ?_
  subst eu e3
  refine thn (hst.run pins s3 σ H3 (fun o H4 => o = some (-1) ∧ H4 = H3) I3 ⟨1, rfl, -1, rfl, rfl, rfl⟩) fun vs s4 ⟨o, H4, I4, ps, eo, e4⟩ => ?_
  subst eo e4
  obtain ⟨l, rfl, el⟩ := IsPart.raw pl
  obtain ⟨u, rfl, eu⟩ := IsPart.raw pu
  obtain ⟨w, rfl, ew⟩ := IsPart.raw ps
  have I5 : Inv X pins σ H4 { s4 with heap := s4.heap.push { cls := .type "slice", data := .fields #[PySem.partValue l, PySem.partValue u, PySem.partValue w] } } := I4.kept (t' := s4.toks) fun b ob q => Heap.get?_push_of_some _ q
  refine tail_any (ops := [.ref s4.heap.objs.size, .str z t]) (typeIs_str _ _ _) F.slot_str_getitem.lookup (wpAny_getItem_str_slice (l := l) (u := u) (st := w) ⟨_, Heap.get?_push_size _ rfl, rfl, rfl⟩ (by rw [ew]; decide) ?_) (by with_unfolding_all rfl)
  have hle : ((PySem.slicePicked z l u w).filterMap (z.cps[·]?)).toArray.size ≤ z.length := by
    rw [List.size_toArray]
    refine Nat.le_trans (List.length_filterMap_le _ _) ?_
    unfold PySem.slicePicked
    exact PySem.sliceIndicesBy_le _ _ _ (by rw [ew]; decide) z.length
  unfold PySem.sliceMade
  split
  · exact ⟨.str z, H4, I5, ⟨t, rfl⟩, q z (Nat.le_refl _)⟩
  · exact ⟨Nat.le_trans hle hz, .str _, H4, I5.tok _, ⟨_, rfl⟩, q _ hle⟩
end Br

/-! Defs by their names, calls of them; readings step by step. -/
namespace Br
open PySem PySem.Spec PyProof.Rows L2
/-- the def st of the top under its name -/
structure DefT (K : PySem.W.Frag) (mg : Str → Option Value) (x : Str) (st : Stmt) (f : Addr) (fd : FuncData) : Prop where
  g : mg x = some (.ref f)
  F : Fun K x x st f fd
theorem defT {K : PySem.W.Frag} {h : Heap} {mg : Str → Option Value} {x : Str} {st : Stmt} {f : Addr} {oc : Value} {od an : Option Addr} {osl : Array (Option Value)} {kV doc pm cdv ct : Value} (X : K.In h) (G : h.Ns mainGlobals mg)
    (a : PySem.W.nsIn K mainGlobals x = some (some (.ref f))) (l : K.lookup f = some ⟨oc, od, .func (PySem.W.fnOf x x (defArgs st) (defBody st) (defScope st) .none kV doc pm an cdv ct), osl⟩)
    (c : PySem.W.codeIn K cdv x = true) (k : PySem.W.keepIn K (.ref f) = true) : ∃ f fd, DefT K mg x st f fd := ⟨f, _, PySem.W.mg_of X G a, fun_mk l c k⟩
/-- a def under its name keeps its promise -/
def OkD (P : Program) (w : World) (K : PySem.W.Frag) (mg : Str → Option Value) (base : Heap) (CX : CXT) (k : Nat) (x : Str) (ps : List Str) (sp : Sp) : Prop :=
  ∃ (f : Addr) (fd : FuncData), mg x = some (.ref f) ∧ PySem.W.keepIn K (.ref f) = true ∧ Binds K fd ps [] ∧ FnOk P w K mg base CX k f fd ps sp
def OkG (P : Program) (w : World) (K : PySem.W.Frag) (mg : Str → Option Value) (base : Heap) (CX : CXT) (k : Nat) (x : Str) (ps : List Str) (sp : Sp) : Prop :=
  ∃ (f : Addr) (fd : FuncData), mg x = some (.ref f) ∧ PySem.W.keepIn K (.ref f) = true ∧ Binds K fd ps [] ∧ FnG P w K mg base CX k f fd ps sp
theorem DefT.ok {P : Program} {w : World} {K : PySem.W.Frag} {mg : Str → Option Value} {base : Heap} {CX : CXT} {k : Nat} {x : Str} {st : Stmt} {ps : List Str} {sp : Sp} {f : Addr} {fd : FuncData} (d : DefT K mg x st f fd) (b : Binds K fd ps []) (F : FnOk P w K mg base CX k f fd ps sp) : OkD P w K mg base CX k x ps sp :=
  ⟨f, fd, d.g, d.F.kp, b, F⟩
/-- f(..) -/
def tCl (sp : Sp) (t : TA) : TE := fun σ H Q => t σ H fun vs H1 => sp vs H1 Q E0
/-- f(..) whose error is wished for at the slots -/
def tClS (sp : Sp) (W : WX) (t : TA) : TE := fun σ H Q => t σ H fun vs H1 => sp vs H1 Q (WE W σ)
section
variable {X : Cx} {k : Nat} {x : Str} {ps : List Str} {sp : Sp} {p pos : Pos} {e : Expr} {es : List Expr} {t : TA}
theorem pe_callD (D : OkD X.prog X.w X.K X.mg X.base CX0 k x ps sp) (hr : Room k X.A) (ha : PA X (e :: es) t) (hg : Gl X x := by rfl)
    (hdb : (x == ("__debug__" : Str)) = false := by decide) (he : starEach (e :: es) X.env = (false, eval e X.env) :: starEach es X.env := by rfl) (hpl : (backTo pos (starEach es X.env)).any (·.1) = false := by rfl) :
    PE X (.Call (.Name x p) (e :: es) [] pos) (tCl sp t) := by
  obtain ⟨f, fd, gm, kp, b, F⟩ := D
  have h := pe_call (E := E0) F hr hg gm kp b .nil pass0 ha hdb he hpl (p := p)
  refine ⟨fun pins s σ H Q I q => h.run pins s σ H Q I ?_⟩
  have e1 : (fun vs H1 => sp (vs ++ []) H1 Q E0) = (fun vs H1 => sp vs H1 Q E0) := by
    funext vs H1
    rw [List.append_nil]
  show t σ H fun vs H1 => sp (vs ++ []) H1 Q E0
  rw [e1]
  exact q
theorem pe_callD0 (D : OkD X.prog X.w X.K X.mg X.base CX0 k x ps sp) (hr : Room k X.A) (hg : Gl X x := by rfl) (hdb : (x == ("__debug__" : Str)) = false := by decide) : PE X (.Call (.Name x p) [] [] pos) (tCl sp tNil) := by
  obtain ⟨f, fd, gm, kp, b, F⟩ := D
  exact pe_call0 (E := E0) F hr hg gm kp b .nil pass0 hdb
theorem pe_callDS {W : WX} (D : OkD X.prog X.w X.K X.mg X.base (L2.CX X.prog X.w) k x ps sp) (hr : Room k X.A) (tk : Takes X W) (ha : PA X (e :: es) t) (hg : Gl X x := by rfl)
    (hdb : (x == ("__debug__" : Str)) = false := by decide) (he : starEach (e :: es) X.env = (false, eval e X.env) :: starEach es X.env := by rfl) (hpl : (backTo pos (starEach es X.env)).any (·.1) = false := by rfl) :
    PE X (.Call (.Name x p) (e :: es) [] pos) (tClS sp W t) := by
  obtain ⟨f, fd, gm, kp, b, F⟩ := D
  exact pe_callS (E := WE W) F hr hg gm kp b (fun σ => passAt tk σ) ha hdb he hpl
end
/-! ### an own error class with one field -/
/-- what the top says of the error class x (at C), whose __init__ (st) stores its argument as f -/
structure XcT (K : PySem.W.Frag) (mg : Str → Option Value) (x : Str) (qual : Str) (st : Stmt) (f : Str) (C fI : Addr) (fd : FuncData) : Prop where
  g : mg x = some (.ref C)
  O : OexC K C
  i : PySem.W.findIn K (.ref C) "__init__" = some (some (.ref fI))
  t : PySem.W.typeIn K (.ref fI) = some (.type "function")
  F : Fun K "__init__" qual st fI fd
  n : PySem.W.findIn K (.ref C) f = some none
  xf : XfC K C
  ec : ExcC K C
  self : PySem.W.exmOne K (.ref C) (.ref C) = some true
  ve : PySem.W.kitOne K (.ref C) (.type "ValueError") = some true
theorem exm_self {K : PySem.W.Frag} {S : Addr} (h1 : PySem.W.subIn K (.ref S) (.type "BaseException") = some true) (h2 : PySem.W.hasDictIn K S = true) (h3 : PySem.W.typeIn K (.ref S) = some (.type "type")) (h4 : PySem.W.subIn K (.ref S) (.ref S) = some true) :
    PySem.W.exmOne K (.ref S) (.ref S) = some true := PySem.W.exm_ref h1 h2 h3 h4
theorem xcT {K : PySem.W.Frag} {h : Heap} {mg : Str → Option Value} {x qual f : Str} {st : Stmt} {C fI : Addr} {nm q : Str} {N : Addr} {bs bm : List Value} {sn : List Str} {sub : List Value} {ab : Bool} {col : Option Bool} {dd : Option Addr} {m0 m1 m2 m3 m5 : Option Value}
    {oc : Value} {od an : Option Addr} {osl : Array (Option Value)} {kV doc pm cdv ct : Value} (X : K.In h) (G : h.Ns mainGlobals mg)
    (aC : PySem.W.nsIn K mainGlobals x = some (some (.ref C)))
    (xL : K.lookup C = some (excClassObj nm q C N bs bm true sn sub ab col dd m0 m1 m2 m3 m5 "ValueError.__new__")) (hbm : PySem.HandSPX.refsVE bm = true)
    (sa : PySem.W.findIn K (.ref C) "__setattr__" = some (some (.builtin "object.__setattr__"))) (eC : PySem.W.subIn K (.ref C) (.type "BaseException") = some true) (tC : PySem.W.typeIn K (.ref C) = some (.type "type")) (kC : PySem.W.keepIn K (.ref C) = true)
    (a1 : PySem.W.findIn K (.ref C) "__init__" = some (some (.ref fI))) (t1 : PySem.W.typeIn K (.ref fI) = some (.type "function"))
    (l1 : K.lookup fI = some ⟨oc, od, .func (PySem.W.fnOf "__init__" qual (defArgs st) (defBody st) (defScope st) .none kV doc pm an cdv ct), osl⟩) (c1 : PySem.W.codeIn K cdv qual = true) (k1 : PySem.W.keepIn K (.ref fI) = true)
    (nf : PySem.W.findIn K (.ref C) f = some none)
    (ga : PySem.W.findIn K (.ref C) "__getattribute__" = some (some (.builtin "BaseException.__getattribute__"))) (gg : PySem.W.findIn K (.ref C) "__getattr__" = some none) (hC : PySem.W.hasDictIn K C = true)
    (ha : PySem.W.findIn K (.ref C) "__class__" = some (some (.builtin "object.__class__"))) (hn : PySem.W.specialIn K (.builtin "object.__class__") "__get__" = some (some (.builtin "getset_descriptor.__get__")))
    (ht : PySem.W.takesIn K (.builtin "object.__class__") = some true) (hm : PySem.W.mroIn K C (.type "object") = some true) (sC : PySem.W.subIn K (.ref C) (.ref C) = some true) (ve : PySem.W.kitOne K (.ref C) (.type "ValueError") = some true) :
    ∃ C fI fd, XcT K mg x qual st f C fI fd :=
  ⟨C, fI, _, { g := PySem.W.mg_of X G aC, O := ⟨⟨nm, q, N, bs, bm, sn, sub, ab, col, dd, m0, m1, m2, m3, m5, xL, hbm⟩, sa, eC, tC, kC⟩, i := a1, t := t1, F := fun_mk l1 c1 k1, n := nf, xf := ⟨ga, gg, eC, hC⟩, ec := ⟨ga, gg, eC, hC, ha, hn, ht, hm⟩, self := exm_self eC hC tC sC, ve := ve }⟩
/-- __init__(self, f): the error has f in its new dict, all else as it was -/
def spXi (C : Addr) (f : Str) : Sp := fun vs H Q _ => ∃ (a : Addr) (v : V), vs = [.ref a, v] ∧ H a = some (exo a C none) ∧ ∀ d, H d = none → d ≠ a → Q .non (upd (upd H d (exd d [(f, v)])) a (exo a C (some d)))
/-- raise x(e): the wish with the new dict -/
def rXr (C : Addr) (f : Str) (v : V) (H : Hp) (W : XK) : Prop := ∀ (d : Addr) (H' : Hp), H d = none → Same H H' → H' d = some (.xd [(f, v)]) → W (.ref C) (some d) H'
/-- what follows may be weakened -/
def tUp (ta : TA) : TA := fun σ H R => ∃ R' : List V → Hp → Prop, ta σ H R' ∧ ∀ vs H1, R' vs H1 → R vs H1
theorem pa_up {X : Cx} {es : List Expr} {ta : TA} (h : PA X es ta) : PA X es (tUp ta) := by
  refine ⟨fun pos pins s σ H Q I ⟨R', q, k⟩ => thn (h.run pos pins s σ H R' I q) fun us s1 ⟨vs, H1, I1, r, z⟩ => ⟨vs, H1, I1, r, k vs H1 z⟩⟩
def tMkX (C : Addr) (f : Str) (ta : TA) : L2.St → Hp → XK → Prop := fun σ H Q => ta σ H fun vs H1 => ∃ v, vs = [v] ∧ rXr C f v H1 Q
/-- x(e), x an own error class with the one field f -/
theorem pmk_x {X : Cx} {x qual f : Str} {st : Stmt} {C fI : Addr} {fd : FuncData} {ps : List Str} {e : Expr} {ta : TA} {k : Nat} {p pos : Pos} (T : XcT X.K X.mg x qual st f C fI fd) (F1 : FnOk X.prog X.w X.K X.mg X.base CX0 k fI fd ps (spXi C f)) (hb : Binds X.K fd ps []) (hr : Room (k + 1) X.A)
    (ha : PA X [e] ta) (hg : Gl X x := by rfl) (hdb : (x == ("__debug__" : Str)) = false := by decide) (he : starEach [e] X.env = (false, eval e X.env) :: starEach [] X.env := by rfl) (hpl : (backTo pos (starEach [] X.env)).any (·.1) = false := by rfl) :
    PMk X (.Call (.Name x p) [e] [] pos) (tMkX C f ta) := by
  intro pins s σ H Q I h
  refine pmk_oex T.O T.i T.t F1 hr hb .nil pass0 hg T.g (pa_up ha) hdb he hpl pins s σ H Q I ⟨_, h, fun vs H1 ⟨v, ev, k⟩ => ?_⟩
  subst ev
  refine ⟨by simp, fun a ha => ⟨a, v, rfl, upd_same, fun d hd hda => ⟨rfl, d, [(f, v)], upd_same, by rw [upd_ne hda, upd_same], ?_, ?_⟩⟩⟩
  · rwa [upd_ne hda] at hd
  · have hd' : H1 d = none := by rwa [upd_ne hda] at hd
    refine k d _ hd' (fun b o q => ?_) upd_same
    have b1 : b ≠ d := ne_of_none q hd'
    have b2 : b ≠ a := ne_of_none q ha
    rw [upd_ne b1, del_ne b2, upd_ne b2, upd_ne b1, upd_ne b2]
    exact q
/-- raise x(e) -/
def tRz (C : Addr) (f : Str) (W : WX) (ta : TA) : TS := fun _ σ H => tMkX C f ta σ H fun cls d H' => W cls d σ H'
theorem ps_rz {X : Cx} {x qual f : Str} {st : Stmt} {C fI : Addr} {fd : FuncData} {ps : List Str} {e : Expr} {ta : TA} {k : Nat} {p pos pos2 : Pos} {W : WX} (hc : X.calm = true) (tk : Takes X W) (T : XcT X.K X.mg x qual st f C fI fd) (F1 : FnOk X.prog X.w X.K X.mg X.base CX0 k fI fd ps (spXi C f)) (hb : Binds X.K fd ps []) (hr : Room (k + 1) X.A)
    (ha : PA X [e] ta) (hg : Gl X x := by rfl) (hdb : (x == ("__debug__" : Str)) = false := by decide) (he : starEach [e] X.env = (false, eval e X.env) :: starEach [] X.env := by rfl) (hpl : (backTo pos (starEach [] X.env)).any (·.1) = false := by rfl) :
    PS X (.Raise (some (.Call (.Name x p) [e] [] pos)) none pos2) (tRz C f W ta) := ps_raise hc tk (pmk_x T F1 hb hr ha hg hdb he hpl)
end Br

/-! Readings, one step each, by the head of the reading. -/
namespace Br
open PySem PySem.Spec PyProof.Rows L2
section
variable {σ σ' : L2.St} {H H' : Hp} {Q : VK} {ta tb te : TE} {tt tu : TT} {t u : TS} {r : R2} {v x y : V} {K : PySem.W.Frag}
theorem s_var {i : Nat} (h : σ[i]? = some (some v)) (q : Q v H) : tVar i σ H Q := ⟨v, h, q⟩
theorem s_c (q : Q v H) : tC v σ H Q := q
theorem s_op (q : ta σ H fun x H1 => tb σ H1 fun y H2 => r x y H2 Q) : tOp r ta tb σ H Q := q
theorem s_un {r : V → Hp → VK → Prop} (q : ta σ H fun x H1 => r x H1 Q) : tUn r ta σ H Q := q
theorem s_I0 {g : Int → Int → V} {i j : Int} (q : Q (g i j) H) : rI0 g (.int i) (.int j) H Q := ⟨i, j, rfl, rfl, q⟩
theorem s_I {C : Int → Int → Prop} {g : Int → Int → V} {i j : Int} (c : C i j) (q : Q (g i j) H) : rI C g (.int i) (.int j) H Q := ⟨i, j, rfl, rfl, c, q⟩
theorem s_U {g : Int → V} {i : Int} (q : Q (g i) H) : rU g (.int i) H Q := ⟨i, rfl, q⟩
theorem s_eq (h : scal x y = true) (q : Q (.bl (decide (x = y))) H) : rEq x y H Q := ⟨h, q⟩
theorem s_ne (h : scal x y = true) (q : Q (.bl (!decide (x = y))) H) : rNe x y H Q := ⟨h, q⟩
theorem s_test {R : Bool → Hp → Prop} (q : te σ H fun x H1 => ∃ k, x = .bl k ∧ R k H1) : tTest te σ H R := q
theorem s_tB {R : Bool → Hp → Prop} (q : te σ H fun x H1 => ∃ k, x = .bl k ∧ R k H1) : tB te σ H R := q
theorem s_bl {R : Bool → Prop} {k : Bool} (q : R k) : ∃ k', V.bl k = .bl k' ∧ R k' := ⟨k, rfl, q⟩
theorem s_and {R : Bool → Hp → Prop} (q : tt σ H fun c H1 => if c = true then tu σ H1 R else R false H1) : tAnd tt tu σ H R := q
theorem s_or {R : Bool → Hp → Prop} (q : tt σ H fun c H1 => if c = true then R true H1 else tu σ H1 R) : tOr tt tu σ H R := q
theorem s_not {R : Bool → Hp → Prop} (q : tt σ H fun c H1 => R (!c) H1) : tNot tt σ H R := q
theorem s_andV (q : ta σ H fun x H1 => ∃ c, x = .bl c ∧ if c = true then tb σ H1 Q else Q (.bl false) H1) : tAndV ta tb σ H Q := q
theorem s_orV (q : ta σ H fun x H1 => ∃ c, x = .bl c ∧ if c = true then Q (.bl true) H1 else tb σ H1 Q) : tOrV ta tb σ H Q := q
theorem s_notV (q : ta σ H fun x H1 => ∃ c, x = .bl c ∧ Q (.bl (!c)) H1) : tNotV ta σ H Q := q
theorem s_if (q : tt σ H fun c H1 => if c = true then ta σ H1 Q else tb σ H1 Q) : tIf tt ta tb σ H Q := q
theorem s_ifS {D : Ends} (q : tt σ H fun b H1 => if b = true then t D σ H1 else u D σ H1) : tIfS tt t u D σ H := q
theorem s_seq {nx rt bk ct} (q : t ⟨u ⟨nx, rt, bk, ct⟩, rt, bk, ct⟩ σ H) : tSeq t u ⟨nx, rt, bk, ct⟩ σ H := q
theorem s_next {nx rt bk ct} (q : nx σ H) : tNext ⟨nx, rt, bk, ct⟩ σ H := q
theorem s_asg {nx rt bk ct} {i : Nat} (q : te σ H fun x H1 => nx (σ.set i (some x)) H1) : tAsg te (gName i) ⟨nx, rt, bk, ct⟩ σ H := q
theorem s_par {nx rt bk ct} {i j : Nat} {t : TA} (q : t σ H fun vs H1 => ∃ v w, vs = [v, w] ∧ nx ((σ.set i (some v)).set j (some w)) H1) : tPar i j t ⟨nx, rt, bk, ct⟩ σ H := q
theorem s_two {R : V → V → Prop} {v w : V} (q : R v w) : ∃ v' w', [v, w] = [v', w'] ∧ R v' w' := ⟨v, w, rfl, q⟩
theorem s_ret {nx rt bk ct} (q : te σ H rt) : tRet te ⟨nx, rt, bk, ct⟩ σ H := q
theorem s_retN {nx rt bk ct} (q : rt .non H) : tRetN ⟨nx, rt, bk, ct⟩ σ H := q
theorem s_drop {nx rt bk ct} (q : te σ H fun _ H1 => nx σ H1) : tDrop te ⟨nx, rt, bk, ct⟩ σ H := q
theorem s_nil {R : List V → Hp → Prop} (q : R [] H) : tNil σ H R := q
theorem s_cons {tr : TA} {R : List V → Hp → Prop} (q : ta σ H fun x H1 => tr σ H1 fun xs H2 => R (x :: xs) H2) : tCons ta tr σ H R := q
theorem s_cl {sp : Sp} {t : TA} (q : t σ H fun vs H1 => sp vs H1 Q E0) : tCl sp t σ H Q := q
theorem s_clS {sp : Sp} {W : WX} {t : TA} (q : t σ H fun vs H1 => sp vs H1 Q (WE W σ)) : tClS sp W t σ H Q := q
theorem s_cb {r : List V → Hp → VK → Prop} {t : TA} (q : t σ H fun vs H1 => r vs H1 Q) : tCB r t σ H Q := q
theorem s_sl {r : V → Option Int → Option Int → Hp → VK → Prop} {tl th : TO} (q : te σ H fun x H1 => tl σ H1 fun l H2 => th σ H2 fun u H3 => r x l u H3 Q) : tSl r te tl th σ H Q := q
theorem s_part {R : Option Int → Hp → Prop} (q : te σ H fun x H1 => ∃ i, x = .int i ∧ R (some i) H1) : tPart te σ H R := q
theorem s_nopart {R : Option Int → Hp → Prop} (q : R none H) : tNoPart σ H R := q
theorem s_int {R : Int → Prop} {i : Int} (q : R i) : ∃ j, V.int i = .int j ∧ R j := ⟨i, rfl, q⟩
theorem s_dget {td ty : TE} (q : td σ H fun x H1 => ty σ H1 fun y H2 => ∃ a v, x = .ref a ∧ DGet H2 a y (some v) ∧ Q v H2) : tDGet td ty σ H Q := q
theorem s_dput {nx rt bk ct} {td ty tv : TE} (q : tv σ H fun v H1 => td σ H1 fun x H2 => ty σ H2 fun y H3 => ∃ a H4, x = .ref a ∧ DPut H3 a y v H4 ∧ nx σ H4) : sDPut td ty tv ⟨nx, rt, bk, ct⟩ σ H := q
theorem s_bm {T : String} {r : V → List V → Hp → VK → Prop} {t : TA} (q : ta σ H fun x H1 => tyV K T x H1 ∧ t σ H1 fun xs H2 => r x xs H2 Q) : tBM K T r ta t σ H Q := q
theorem s_bm0 {T : String} {r : V → List V → Hp → VK → Prop} (q : ta σ H fun x H1 => tyV K T x H1 ∧ r x [] H1 Q) : tBM0 K T r ta σ H Q := q
theorem s_m1 {r : V → List V → Hp → VK → Prop} (q : ta σ H fun x H1 => (∃ a, x = .str a) ∧ tb σ H1 fun y H2 => r x [y] H2 Q) : tM1 r ta tb σ H Q := q
theorem s_isstr {A : Prop} {z : Str} (q : A) : (∃ a, V.str z = .str a) ∧ A := ⟨⟨z, rfl⟩, q⟩
theorem s_kf {f : Str} (q : te σ H fun x H1 => ∃ (a C dd : Addr) (fs : List (Str × V)) (v : V), x = .ref a ∧ H1 a = some (xob a (.ref C) (some dd)) ∧ XfC K C ∧ PySem.W.findIn K (.ref C) f = some none ∧ H1 dd = some (.xd fs) ∧ fs.lookup f = some v ∧ Q v H1) : tKf K f te σ H Q := q
/-- a new object o, then Q of it -/
def Nw (o : HO) (H : Hp) (Q : VK) : Prop := ∀ p, H p = none → Q (.ref p) (upd H p o)
theorem same_new {p : Addr} {o : HO} (h : H p = none) : Same H (upd H p o) := fun b u e => by
  rw [upd_ne (ne_of_none e h)]
  exact e
theorem s_new {o : HO} (q : ∀ p H2, H p = none → Same H H2 → H2 p = some o → Q (.ref p) H2) : Nw o H Q := fun p hp => q p _ hp (same_new hp) upd_same
theorem s_lst {t : TA} (q : t σ H fun xs H1 => xs.length ≤ sizeLine ∧ Nw (.lst xs) H1 Q) : tLst t σ H Q := q
theorem s_tup {t : TA} (q : t σ H fun xs H1 => xs.length ≤ sizeLine ∧ Nw (.tup xs) H1 Q) : tTup t σ H Q := q
/-- an object that H does not know may change -/
theorem same_mut {p : Addr} {o : HO} (e : Same H H') (h : H p = none) : Same H (upd H' p o) := fun a u ha => by
  rw [upd_ne (ne_of_none ha h)]
  exact e a u ha
theorem same_seqT {a : Addr} {xs : List V} (e : Same H H') (h : SqT K H a xs) : SqT K H' a xs := by
  rcases h with (h | ⟨o, h⟩) | h
  · exact .inl (.inl (e _ _ h))
  · exact .inl (.inr ⟨o, e _ _ h⟩)
  · exact .inr h
theorem sqT {a : Addr} {xs : List V} (h : H a = some (.tup xs)) : SqT K H a xs := .inl (.inl h)
theorem sqL {a : Addr} {xs : List V} (h : H a = some (.lst xs)) : SqL K H a xs := .inl (.inl h)
/-! ### values -/
theorem r_ixL {p : Addr} {xs : List V} {i : Int} (h : SqL K H p xs) (ha : atI xs i = some v) (q : Q v H) : rIxL K (.ref p) (.int i) H Q := ⟨p, xs, i, v, rfl, rfl, h, ha, q⟩
theorem r_ixT {p : Addr} {xs : List V} {i : Int} (h : SqT K H p xs) (ha : atI xs i = some v) (q : Q v H) : rIxT K (.ref p) (.int i) H Q := ⟨p, xs, i, v, rfl, rfl, h, ha, q⟩
theorem r_ixS {z : Str} {i : Int} {c : Nat} (h : z.length ≤ sizeLine) (ha : atI z.cps.toList i = some c) (q : Q (.str ⟨#[c]⟩) H) : rIxS (.str z) (.int i) H Q := ⟨z, i, c, rfl, rfl, h, ha, q⟩
theorem r_slL {a : Addr} {xs : List V} {lo hi : Option Int} (h : SqL K H a xs) (q : Nw (.lst (cutV xs lo hi)) H Q) : rSlL K (.ref a) lo hi H Q := ⟨a, xs, rfl, h, q⟩
/-- tuple(x), list(x) -/
def rTupN (K : PySem.W.Frag) : List V → Hp → VK → Prop := fun xs H Q => ∃ p ys, xs = [.ref p] ∧ ((SqL K H p ys ∧ Nw (.tup ys) H Q) ∨ (SqT K H p ys ∧ Q (.ref p) H))
theorem call_tupN {X : Cx} : CallR X (.type "tuple") (rTupN X.K) := call_tuple_of
theorem r_tupL {p : Addr} {ys : List V} (h : SqL K H p ys) (q : Nw (.tup ys) H Q) : rTupN K [.ref p] H Q := ⟨p, ys, rfl, .inl ⟨h, q⟩⟩
theorem r_tupT {p : Addr} {ys : List V} (h : SqT K H p ys) (q : Q (.ref p) H) : rTupN K [.ref p] H Q := ⟨p, ys, rfl, .inr ⟨h, q⟩⟩
theorem tyL {p : Addr} {xs : List V} (h : H p = some (.lst xs)) : tyV K "list" (.ref p) H := .inl ⟨rfl, _, sqL h⟩
theorem r_append {l : Addr} {xs : List V} {y : V} (h : H l = some (.lst xs)) (hl : xs.length < sizeLine) (q : Q .non (upd H l (.lst (xs ++ [y])))) : rAppend (.ref l) [y] H Q := ⟨l, xs, y, rfl, rfl, h, hl, q⟩
theorem r_slS {z : Str} {lo hi : Option Int} (h : z.length ≤ sizeLine) (q : ∀ z' : Str, z' = cutS z lo hi → z'.length ≤ z.length → Q (.str z') H) : rSlS (.str z) lo hi H Q := ⟨z, rfl, h, q _ rfl (cutS_length z lo hi)⟩
theorem ixN_nat {n j : Nat} (h : j < n) : ixN n (j : Int) = some j := by
  unfold ixN
  rw [if_pos (by omega), if_pos (by omega)]
  rfl
theorem atI_get {α : Type} {xs : List α} {i : Int} {x : α} (h0 : 0 ≤ i) (h : xs[i.toNat]? = some x) : atI xs i = some x := by
  have hl : i.toNat < xs.length := (List.getElem?_eq_some_iff.mp h).1
  have e : i = ((i.toNat : Nat) : Int) := (Int.toNat_of_nonneg h0).symm
  unfold atI
  rw [e, ixN_nat hl]
  exact h
theorem atI_lt {α : Type} {xs : List α} {i : Int} (h0 : 0 ≤ i) (h : i < xs.length) : ∃ x, atI xs i = some x ∧ xs[i.toNat]? = some x := by
  have hl : i.toNat < xs.length := by omega
  exact ⟨xs[i.toNat], atI_get h0 (List.getElem?_eq_getElem hl), List.getElem?_eq_getElem hl⟩
/-! ### tests -/
theorem ifd {p A B : Prop} [Decidable p] (h1 : p → A) (h2 : ¬ p → B) : if decide p = true then A else B := by
  by_cases h : p
  · rw [if_pos (decide_eq_true h)]
    exact h1 h
  · rw [if_neg (by simp [h])]
    exact h2 h
theorem ifn {p A B : Prop} [Decidable p] (h1 : ¬ p → A) (h2 : p → B) : if (!decide p) = true then A else B := by
  by_cases h : p
  · rw [if_neg (by simp [h])]
    exact h2 h
  · rw [if_pos (by simp [h])]
    exact h1 h
theorem ifb {b : Bool} {A B : Prop} (h1 : b = true → A) (h2 : b = false → B) : if b = true then A else B := by
  cases b
  · rw [if_neg Bool.false_ne_true]
    exact h2 rfl
  · rw [if_pos rfl]
    exact h1 rfl
theorem ifnb {b : Bool} {A B : Prop} (h1 : b = false → A) (h2 : b = true → B) : if (!b) = true then A else B := by
  cases b
  · exact h1 rfl
  · exact h2 rfl
theorem ifT {b : Bool} {A B : Prop} (hb : b = true) (h : A) : if b = true then A else B := by
  rw [if_pos hb]
  exact h
theorem ifF {b : Bool} {A B : Prop} (hb : b = false) (h : B) : if b = true then A else B := by
  rw [hb, if_neg Bool.false_ne_true]
  exact h
theorem ifdI {i j : Int} {A B : Prop} (h1 : i = j → A) (h2 : i ≠ j → B) : if decide (V.int i = V.int j) = true then A else B := ifd (fun e => h1 (V.int.inj e)) fun e => h2 fun z => e (by rw [z])
theorem ifnI {i j : Int} {A B : Prop} (h1 : i ≠ j → A) (h2 : i = j → B) : if (!decide (V.int i = V.int j)) = true then A else B := ifn (fun e => h1 fun z => e (by rw [z])) fun e => h2 (V.int.inj e)
theorem ifdS {i j : Str} {A B : Prop} (h1 : i = j → A) (h2 : i ≠ j → B) : if decide (V.str i = V.str j) = true then A else B := ifd (fun e => h1 (V.str.inj e)) fun e => h2 fun z => e (by rw [z])
theorem ifnS {i j : Str} {A B : Prop} (h1 : i ≠ j → A) (h2 : i = j → B) : if (!decide (V.str i = V.str j)) = true then A else B := ifn (fun e => h1 fun z => e (by rw [z])) fun e => h2 (V.str.inj e)
/-- the slots by another name -/
theorem go_at {t : TS} {D : Ends} (e : σ = σ') (h : t D σ' H) : t D σ H := by
  rw [e]
  exact h
end
/-- both ways of an if lead on to R; what follows, from R -/
theorem s_cut {b : Bool} {t u : TS} {nx : L2.St → Hp → Prop} {rt : VK} {bk ct : L2.St → Hp → Prop} {σ : L2.St} {H : Hp} (R : L2.St → Hp → Prop) (rest : ∀ σ' H', R σ' H' → nx σ' H')
    (h1 : b = true → ∀ nx' : L2.St → Hp → Prop, (∀ σ' H', R σ' H' → nx' σ' H') → t ⟨nx', rt, bk, ct⟩ σ H) (h2 : b = false → ∀ nx' : L2.St → Hp → Prop, (∀ σ' H', R σ' H' → nx' σ' H') → u ⟨nx', rt, bk, ct⟩ σ H) :
    if b = true then t ⟨nx, rt, bk, ct⟩ σ H else u ⟨nx, rt, bk, ct⟩ σ H := ifb (fun h => h1 h nx rest) (fun h => h2 h nx rest)
/-- the same for an expression -/
theorem s_cutE {b : Bool} {ta tb : TE} {Q : VK} {σ : L2.St} {H : Hp} (R : V → Hp → Prop) (rest : ∀ v H', R v H' → Q v H')
    (h1 : b = true → ∀ Q' : VK, (∀ v H', R v H' → Q' v H') → ta σ H Q') (h2 : b = false → ∀ Q' : VK, (∀ v H', R v H' → Q' v H') → tb σ H Q') : if b = true then ta σ H Q else tb σ H Q :=
  ifb (fun h => h1 h Q rest) (fun h => h2 h Q rest)
/-- the same for «c and test» -/
theorem s_cutA {c : Bool} {tt : TT} {t u : TS} {nx : L2.St → Hp → Prop} {rt : VK} {bk ct : L2.St → Hp → Prop} {σ : L2.St} {H : Hp} (R : L2.St → Hp → Prop) (rest : ∀ σ' H', R σ' H' → nx σ' H')
    (h1 : c = true → ∀ nx' : L2.St → Hp → Prop, (∀ σ' H', R σ' H' → nx' σ' H') → tt σ H fun b H1 => if b = true then t ⟨nx', rt, bk, ct⟩ σ H1 else u ⟨nx', rt, bk, ct⟩ σ H1)
    (h2 : c = false → ∀ nx' : L2.St → Hp → Prop, (∀ σ' H', R σ' H' → nx' σ' H') → u ⟨nx', rt, bk, ct⟩ σ H) :
    if c = true then (tt σ H fun b H1 => if b = true then t ⟨nx, rt, bk, ct⟩ σ H1 else u ⟨nx, rt, bk, ct⟩ σ H1) else (if false = true then t ⟨nx, rt, bk, ct⟩ σ H else u ⟨nx, rt, bk, ct⟩ σ H) :=
  ifb (fun h => h1 h nx rest) (fun h => iteF (h2 h nx rest))
theorem s_pairs {tk tv : TE} {r : List (TE × TE)} {σ : L2.St} {H : Hp} {R : List (V × V) → Hp → Prop} (q : tk σ H fun x H1 => tv σ H1 fun y H2 => tPairs r σ H2 fun ps H3 => R ((x, y) :: ps) H3) : tPairs ((tk, tv) :: r) σ H R := q
theorem s_pairs0 {σ : L2.St} {H : Hp} {R : List (V × V) → Hp → Prop} (q : R [] H) : tPairs [] σ H R := q
theorem s_disp {trs : List (TE × TE)} {σ : L2.St} {H : Hp} {Q : VK} (q : ∀ p, H p = none → tPairs trs σ (upd H p (.dK [])) fun ps H2 => H2 p = some (.dK []) ∧ ∃ kvs : List (Key × V), ps = kvs.map (fun kv => (kV kv.1, kv.2)) ∧ kvs.length ≤ 15 ∧ Q (.ref p) (upd H2 p (.dK (mergeK [] kvs)))) : tDisp trs σ H Q := q
theorem s_dnew {σ : L2.St} {H : Hp} {Q : VK} (q : Nw (.dK []) H Q) : tDNewK σ H Q := q
theorem s_for {wi : TI} {g : TG} {tb : TS} {nx : L2.St → Hp → Prop} {rt : VK} {bk ct : L2.St → Hp → Prop} {σ : L2.St} {H : Hp} (q : wi σ H fun J H1 => ∃ W : Nat → Nat → L2.St → Hp → Prop, (∃ m, W 0 m σ H1) ∧ ∀ i m σ H, W i m σ H →
    (J.stop i H ∧ nx σ H) ∨ (J.go i H ∧ ∃ N : L2.St → Hp → Prop, (∀ σ' H', N σ' H' → ∃ m', m' < m ∧ W (i + 1) m' σ' H') ∧ ∀ x H', J.yld i H x H' → g x σ H' fun σ2 H2 => tb ⟨N, rt, nx, N⟩ σ2 H2)) : tFor wi g tb ⟨nx, rt, bk, ct⟩ σ H := q
theorem s_lc {wi : TI} {g : TG} {tt : TT} {te : TE} {vs : List Nat} {σ : L2.St} {H : Hp} {Q : VK} (q : wi σ H fun J H1 => ∀ D, H1 D = none → ∃ W : Nat → Nat → Hp → Prop, (∃ m, W 0 m (upd H1 D (.lst []))) ∧ ∀ i m H, W i m H →
  (J.stop i H ∧ Q (.ref D) H) ∨ (J.go i H ∧ ∃ Nx : Hp → Prop, (∀ H', Nx H' → ∃ m', m' < m ∧ W (i + 1) m' H') ∧ ∀ x H', J.yld i H x H' → g x (wipe σ vs) H' fun σ2 H2 => wipe σ2 vs = wipe σ vs ∧ tt σ2 H2 fun b H3 =>
    if b = true then te σ2 H3 fun y H4 => ∃ acc, H4 D = some (.lst acc) ∧ acc.length < sizeLine ∧ Nx (upd H4 D (.lst (acc ++ [y]))) else Nx H3)) : tLc wi g tt te vs σ H Q := q
theorem s_iList {K : PySem.W.Frag} {tl : TE} {σ : L2.St} {H : Hp} {R : It → Hp → Prop} (q : tl σ H fun x H1 => ∃ a, x = .ref a ∧ (∃ xs, SqL K H1 a xs) ∧ R (Itl K a) H1) : iList K tl σ H R := q
theorem s_iTup {K : PySem.W.Frag} {tl : TE} {σ : L2.St} {H : Hp} {R : It → Hp → Prop} (q : tl σ H fun x H1 => ∃ a, x = .ref a ∧ (∃ xs, SqT K H1 a xs) ∧ R (Itt K a) H1) : iTup K tl σ H R := q
theorem s_iRng1 {t : TA} {σ : L2.St} {H : Hp} {R : It → Hp → Prop} (q : t σ H fun vs H1 => ∃ j : Int, vs = [.int j] ∧ -(2 ^ 62) ≤ j ∧ j < 2 ^ 62 ∧ R (Itr 0 j.toNat) H1) : iRng1 t σ H R := q
theorem s_iRng2 {t : TA} {σ : L2.St} {H : Hp} {R : It → Hp → Prop} (q : t σ H fun vs H1 => ∃ i j : Int, vs = [.int i, .int j] ∧ (-(2 ^ 62) ≤ i ∧ i < 2 ^ 62 ∧ -(2 ^ 62) ≤ j ∧ j < 2 ^ 62) ∧ R (Itr i (j - i).toNat) H1) : iRng2 t σ H R := q
theorem s_iRng3 {t : TA} {σ : L2.St} {H : Hp} {R : It → Hp → Prop} (q : t σ H fun vs H1 => ∃ (i j c : Int) (n : Nat), vs = [.int i, .int j, .int c] ∧ RgC i j c n ∧ R (Itc i c n) H1) : iRng3 t σ H R := q
theorem s_vei {K : PySem.W.Frag} {t : TA} {σ : L2.St} {H : Hp} {Q : VK} (q : t σ H fun vs H1 => ∃ (a C : Addr) (ws : List V), vs = .ref a :: ws ∧ ws.length ≤ 1000 ∧ OexC K C ∧ H1 a = some (exo a C none) ∧ Q .non H1) : tVeI K t σ H Q := q
theorem s_ost {K : PySem.W.Frag} {f : Str} {to te : TE} {nx : L2.St → Hp → Prop} {rt : VK} {bk ct : L2.St → Hp → Prop} {σ : L2.St} {H : Hp} (q : te σ H fun y H1 => to σ H1 fun x H2 => ∃ a C : Addr, x = .ref a ∧ OexC K C ∧ PySem.W.findIn K (.ref C) f = some none ∧
  ((H2 a = some (exo a C none) ∧ ∀ dx, H2 dx = none → dx ≠ a → nx σ (upd (upd H2 dx (exd dx [(f, y)])) a (exo a C (some dx)))) ∨
    ∃ (dx : Addr) (fs : List (Str × V)), H2 a = some (exo a C (some dx)) ∧ H2 dx = some (exd dx fs) ∧ fs.length ≤ 900 ∧ nx σ (upd H2 dx (exd dx ((f, y) :: fs))))) : tOst K f to te ⟨nx, rt, bk, ct⟩ σ H := q
theorem s_mkx {C : Addr} {f : Str} {t : TA} {σ : L2.St} {H : Hp} {Q : XK} (q : t σ H fun vs H1 => ∃ v, vs = [v] ∧ rXr C f v H1 Q) : tMkX C f t σ H Q := q
theorem s_rz {C : Addr} {f : Str} {W : WX} {t : TA} {D : Ends} {σ : L2.St} {H : Hp} (q : t σ H fun vs H1 => ∃ v, vs = [v] ∧ rXr C f v H1 fun cls d H' => W cls d σ H') : tRz C f W t D σ H := q
theorem s_iEnumT {K : PySem.W.Frag} {t : TA} {σ : L2.St} {H : Hp} {R : It → Hp → Prop} (q : t σ H fun vs H1 => ∃ a xs, vs = [.ref a] ∧ SqT K H1 a xs ∧ R (Itet K a 0) H1) : iEnumT K t σ H R := q
theorem s_iEnumS {t : TA} {σ : L2.St} {H : Hp} {R : It → Hp → Prop} (q : t σ H fun vs H1 => ∃ x, vs = [.str x] ∧ R (Ites x) H1) : iEnumS t σ H R := q
theorem s_revS {te : TE} {σ : L2.St} {H : Hp} {Q : VK} (q : te σ H fun x H1 => ∃ z, x = .str z ∧ z.length ≤ sizeLine ∧ ∀ z' : Str, z'.length ≤ z.length → Q (.str z') H1) : tRevS te σ H Q := q
theorem s_yes {σ : L2.St} {H : Hp} {R : Bool → Hp → Prop} (q : R true H) : tYes σ H R := q
theorem s_gName {i : Nat} {v : V} {σ : L2.St} {H : Hp} {R : L2.St → Hp → Prop} (q : R (σ.set i (some v)) H) : gName i v σ H R := q
theorem s_gTup {K : PySem.W.Frag} {n : Nat} {t : TGs} {a : Addr} {xs : List V} {σ : L2.St} {H : Hp} {R : L2.St → Hp → Prop} (h : SqT K H a xs) (hl : xs.length = n) (q : t xs σ H R) : gTup K n t (.ref a) σ H R := ⟨a, xs, rfl, h, hl, q⟩
theorem s_gCons {t : TG} {u : TGs} {v : V} {r : List V} {σ : L2.St} {H : Hp} {R : L2.St → Hp → Prop} (q : t v σ H fun σ' H' => u r σ' H' R) : gCons t u (v :: r) σ H R := ⟨v, r, rfl, q⟩
theorem s_gNil {σ : L2.St} {H : Hp} {R : L2.St → Hp → Prop} (q : R σ H) : gNil [] σ H R := ⟨rfl, q⟩
/-! ### loops, by a walk -/
section
variable {J : It} {n : Nat} {G : Hp → Prop} {Y : Nat → Hp → V → Hp → Prop} {g : TG} {tb : TS} {nx : L2.St → Hp → Prop} {rt : VK} {σ : L2.St} {H : Hp}
theorem f_it (w : Walk J n G Y) (Pv : Nat → L2.St → Hp → Prop) (h0 : Pv 0 σ H) (hG : ∀ i σ H, i ≤ n → Pv i σ H → G H)
    (hs : ∀ i x σ H H', i < n → Pv i σ H → Y i H x H' → g x σ H' fun σ2 H2 => tb ⟨Pv (i + 1), rt, nx, Pv (i + 1)⟩ σ2 H2) (hd : ∀ σ H, Pv n σ H → nx σ H) :
    ∃ W : Nat → Nat → L2.St → Hp → Prop, (∃ m, W 0 m σ H) ∧ ∀ i m σ H, W i m σ H →
      (J.stop i H ∧ nx σ H) ∨ (J.go i H ∧ ∃ N : L2.St → Hp → Prop, (∀ σ' H', N σ' H' → ∃ m', m' < m ∧ W (i + 1) m' σ' H') ∧ ∀ x H', J.yld i H x H' → g x σ H' fun σ2 H2 => tb ⟨N, rt, nx, N⟩ σ2 H2) :=
  for_it (D := ⟨nx, rt, fun _ _ => False, fun _ _ => False⟩) w Pv h0 hG hs hd
theorem walk_r {lo : Int} {n : Nat} : Walk (Itr lo n) n (fun _ => True) (fun i H x H' => H' = H ∧ x = .int (lo + (i : Nat))) := ⟨fun i H hi _ => hi, fun H _ => Nat.le_refl _, fun i H x H' _ _ y => y⟩
theorem walk_l {K : PySem.W.Frag} {a : Addr} {xs : List V} : Walk (Itl K a) xs.length (fun H => SqL K H a xs) (fun i H x H' => H' = H ∧ xs[i]? = some x) :=
  ⟨fun i H hi q => ⟨xs, xs[i], q, by simp [hi]⟩, fun H q => ⟨xs, q, Nat.le_refl _⟩, fun i H x H' hi q y => ⟨y.1, y.2 xs q⟩⟩
theorem walk_t {K : PySem.W.Frag} {a : Addr} {xs : List V} : Walk (Itt K a) xs.length (fun H => SqT K H a xs) (fun i H x H' => H' = H ∧ xs[i]? = some x) :=
  ⟨fun i H hi q => ⟨xs, xs[i], q, by simp [hi]⟩, fun H q => ⟨xs, q, Nat.le_refl _⟩, fun i H x H' hi q y => ⟨y.1, y.2 xs q⟩⟩
theorem walk_c {lo c : Int} {n : Nat} : Walk (Itc lo c n) n (fun _ => True) (fun i H x H' => H' = H ∧ x = .int (lo + (i : Nat) * c)) := ⟨fun i H hi _ => hi, fun H _ => Nat.le_refl _, fun i H x H' _ _ y => y⟩
theorem f_range {lo : Int} (Pv : Nat → L2.St → Hp → Prop) (h0 : Pv 0 σ H) (hs : ∀ i σ H, i < n → Pv i σ H → g (.int (lo + (i : Nat))) σ H fun σ2 H2 => tb ⟨Pv (i + 1), rt, nx, Pv (i + 1)⟩ σ2 H2) (hd : ∀ σ H, Pv n σ H → nx σ H) :
    ∃ W : Nat → Nat → L2.St → Hp → Prop, (∃ m, W 0 m σ H) ∧ ∀ i m σ H, W i m σ H →
      ((Itr lo n).stop i H ∧ nx σ H) ∨ ((Itr lo n).go i H ∧ ∃ N : L2.St → Hp → Prop, (∀ σ' H', N σ' H' → ∃ m', m' < m ∧ W (i + 1) m' σ' H') ∧ ∀ x H', (Itr lo n).yld i H x H' → g x σ H' fun σ2 H2 => tb ⟨N, rt, nx, N⟩ σ2 H2) :=
  f_it walk_r Pv h0 (fun _ _ _ _ _ => trivial) (fun i x σ H H' hi p y => by obtain ⟨rfl, rfl⟩ := y; exact hs i σ _ hi p) hd
theorem f_list {K : PySem.W.Frag} {a : Addr} {xs : List V} (Pv : Nat → L2.St → Hp → Prop) (h0 : Pv 0 σ H) (hl : ∀ i σ H, i ≤ xs.length → Pv i σ H → SqL K H a xs)
    (hs : ∀ i x σ H, xs[i]? = some x → Pv i σ H → g x σ H fun σ2 H2 => tb ⟨Pv (i + 1), rt, nx, Pv (i + 1)⟩ σ2 H2) (hd : ∀ σ H, Pv xs.length σ H → nx σ H) :
    ∃ W : Nat → Nat → L2.St → Hp → Prop, (∃ m, W 0 m σ H) ∧ ∀ i m σ H, W i m σ H →
      ((Itl K a).stop i H ∧ nx σ H) ∨ ((Itl K a).go i H ∧ ∃ N : L2.St → Hp → Prop, (∀ σ' H', N σ' H' → ∃ m', m' < m ∧ W (i + 1) m' σ' H') ∧ ∀ x H', (Itl K a).yld i H x H' → g x σ H' fun σ2 H2 => tb ⟨N, rt, nx, N⟩ σ2 H2) :=
  f_it walk_l Pv h0 hl (fun i x σ H H' hi p y => by obtain ⟨rfl, e⟩ := y; exact hs i x σ _ e p) hd
theorem f_tup {K : PySem.W.Frag} {a : Addr} {xs : List V} (Pv : Nat → L2.St → Hp → Prop) (h0 : Pv 0 σ H) (hl : ∀ i σ H, i ≤ xs.length → Pv i σ H → SqT K H a xs)
    (hs : ∀ i x σ H, xs[i]? = some x → Pv i σ H → g x σ H fun σ2 H2 => tb ⟨Pv (i + 1), rt, nx, Pv (i + 1)⟩ σ2 H2) (hd : ∀ σ H, Pv xs.length σ H → nx σ H) :
    ∃ W : Nat → Nat → L2.St → Hp → Prop, (∃ m, W 0 m σ H) ∧ ∀ i m σ H, W i m σ H →
      ((Itt K a).stop i H ∧ nx σ H) ∨ ((Itt K a).go i H ∧ ∃ N : L2.St → Hp → Prop, (∀ σ' H', N σ' H' → ∃ m', m' < m ∧ W (i + 1) m' σ' H') ∧ ∀ x H', (Itt K a).yld i H x H' → g x σ H' fun σ2 H2 => tb ⟨N, rt, nx, N⟩ σ2 H2) :=
  f_it walk_t Pv h0 hl (fun i x σ H H' hi p y => by obtain ⟨rfl, e⟩ := y; exact hs i x σ _ e p) hd
end
theorem take_more {α : Type} {l : List α} {i : Nat} {x : α} (h : l[i]? = some x) : l.take (i + 1) = l.take i ++ [x] := by
  rw [List.take_add_one, h]
  rfl
theorem emod_bd {a m : Int} (h : 0 < m) : 0 ≤ a % m ∧ a % m < m := ⟨Int.emod_nonneg _ (by omega), Int.emod_lt_of_pos _ h⟩
end Br

/-! The pen of a law: a dict of cells, a count, what is left of a great cell. -/
namespace Br
open PySem PySem.Spec PyProof.Rows L2
theorem val_hit {κ : Type} [DecidableEq κ] {k : κ} {v : V} {r : List (κ × V)} : valV ((k, v) :: r) k = some v := by
  unfold valV
  rw [List.find?_cons_of_pos (by simp)]
  rfl
theorem val_skip {κ : Type} [DecidableEq κ] {k k' : κ} {v : V} {r : List (κ × V)} (h : k' ≠ k) : valV ((k', v) :: r) k = valV r k := by
  unfold valV
  rw [List.find?_cons_of_neg (by simpa using h)]
/-- all but d is as it was -/
def SBut (d : Addr) (H H' : Hp) : Prop := ∀ b o, b ≠ d → H b = some o → H' b = some o
theorem SBut.refl (d : Addr) (H : Hp) : SBut d H H := fun _ _ _ h => h
theorem SBut.trans {d : Addr} {H H1 H2 : Hp} (a : SBut d H H1) (b : SBut d H1 H2) : SBut d H H2 := fun c o n h => b c o n (a c o n h)
theorem SBut.of {d : Addr} {H H' : Hp} (a : Same H H') : SBut d H H' := fun b o _ h => a b o h
theorem SBut.then {d : Addr} {H H1 H2 : Hp} (a : SBut d H H1) (b : Same H1 H2) : SBut d H H2 := fun c o n h => b c o (a c o n h)
/-- what was new is not d's -/
theorem SBut.at {d : Addr} {H H' : Hp} (a : SBut d H H') {p : Addr} {o : HO} (h : H p = some o) (n : p ≠ d) : H' p = some o := a p o n h
abbrev penL (kn : Str) (c : Addr) (a l : Int) : List (Key × V) := [(.inr "cells", .ref c), (.inr kn, .int a), (.inr "left", .int l)]
/-- a pen at d that has drawn at most n cells -/
def PenAt (kn : Str) (H : Hp) (d c : Addr) (n : Nat) : Prop := ∃ (ns : List Int) (a l : Int),
  H d = some (.dK (penL kn c a l)) ∧ H c = some (.lst (ns.map V.int)) ∧ ns.length ≤ 63 ∧ 0 ≤ a ∧ a ≤ n ∧ 0 ≤ l
/-- a name for the count: no other key's -/
structure PenKey (kn : Str) : Prop where
  c : ¬ (("cells" : Str) = kn)
  l : ¬ (("left" : Str) = kn)
  kl : ¬ (kn = "left")
theorem key_nth : PenKey "nth" := ⟨by decide +kernel, by decide +kernel, by decide +kernel⟩
theorem key_at : PenKey "at" := ⟨by decide +kernel, by decide +kernel, by decide +kernel⟩
theorem cells_left : ¬ (("cells" : Str) = "left") := by decide +kernel
section
variable {kn : Str} (P : PenKey kn) {c : Addr} {a l x : Int}
theorem inr_ne {x y : Str} (h : ¬ x = y) : (Sum.inr x : Key) ≠ Sum.inr y := fun z => h (Sum.inr.inj z)
theorem pen_cells : valV (penL kn c a l) (.inr "cells" : Key) = some (.ref c) := val_hit
include P in
theorem pen_nth : valV (penL kn c a l) (.inr kn : Key) = some (.int a) := (val_skip (inr_ne P.c)).trans val_hit
include P in
theorem pen_left : valV (penL kn c a l) (.inr "left" : Key) = some (.int l) := (val_skip (inr_ne cells_left)).trans ((val_skip (inr_ne P.kl)).trans val_hit)
include P in
theorem pen_put_nth : putK (penL kn c a l) (.inr kn : Key) (.int x) = penL kn c x l := by
  have h1 := P.c
  have h2 := P.l
  simp [putK, h1, h2, List.any]
include P in
theorem pen_put_left : putK (penL kn c a l) (.inr "left" : Key) (.int x) = penL kn c a x := by
  have h1 := P.kl
  have h2 := cells_left
  simp [putK, h1, h2, List.any]
end
theorem dget_k {H : Hp} {a : Addr} {kvs : List (Key × V)} {k : Key} {v : V} (e : H a = some (.dK kvs)) (h : valV kvs k = some v) : DGet H a (kV k) (some v) := h ▸ DGet.k e
theorem dput_k {H : Hp} {a : Addr} {kvs kvs' : List (Key × V)} {k : Key} {v : V} (e : H a = some (.dK kvs)) (hl : kvs.length < sizeLine) (h : putK kvs k v = kvs') : DPut H a (kV k) v (upd H a (.dK kvs')) := h ▸ DPut.k e hl
theorem three_lt (x y z : Key × V) : [x, y, z].length < sizeLine := by show 3 < sizeLine; decide
def spDraw (kn : Str) : Sp := fun vs H Q _ => ∃ (d c : Addr) (n : Nat) (m : Int), vs = [.ref d, .int m] ∧ PenAt kn H d c n ∧ n < 1000000000 ∧ 0 < m ∧ m < 1073741824 ∧
  ∀ (r : Int) (H' : Hp), 0 ≤ r → r < m → PenAt kn H' d c (n + 1) → SBut d H H' → Q (.int r) H'
/-! ### data -/
theorem dpAll_ints {K : PySem.W.Frag} {H : Hp} : ∀ ns : List Int, DpAll K H (ns.map V.int) (ns.map PyData.int)
  | [] => .nil
  | n :: r => .cons (.int n) (dpAll_ints r)
theorem lay_ints : ∀ ns : List Int, PyData.canLayAll0 (ns.map PyData.int) = true ∧ PyData.depthAll (ns.map PyData.int) = 0
  | [] => ⟨rfl, rfl⟩
  | n :: r => by
    obtain ⟨h1, h2⟩ := lay_ints r
    refine ⟨?_, ?_⟩
    · show (true && PyData.canLayAll0 (r.map PyData.int)) = true
      rw [h1]; rfl
    · show max 0 (PyData.depthAll (r.map PyData.int)) = 0
      rw [h2]; rfl
theorem shaped_listInts (ns : List Int) : SeqAt.shaped (.list (ns.map PyData.int)) = true := by
  obtain ⟨h1, h2⟩ := lay_ints ns
  show (PyData.canLayAll0 (ns.map PyData.int) && decide (PyData.depthAll (ns.map PyData.int) + 1 ≤ 64)) = true
  rw [h1, h2]; rfl
theorem shaped_tupInts (ns : List Int) : SeqAt.shaped (.tuple (ns.map PyData.int)) = true := by
  obtain ⟨h1, h2⟩ := lay_ints ns
  show (PyData.canLayAll0 (ns.map PyData.int) && decide (PyData.depthAll (ns.map PyData.int) + 1 ≤ 64)) = true
  rw [h1, h2]; rfl
theorem eqv_nil_ints (ns : List Int) : PyData.eqv (.list (ns.map PyData.int)) (.list []) = ns.isEmpty := by
  cases ns <;> rfl
/-! ### the promises of a law's small defs -/
def spFeed (kn : Str) (K : PySem.W.Frag) : Sp := fun vs H Q _ => ∃ (a : Addr) (ns : List Int), vs = [.ref a] ∧ SqL K H a (ns.map V.int) ∧ ns.length ≤ 63 ∧
  ∀ (d c : Addr) (H' : Hp), H d = none → Same H H' → PenAt kn H' d c 0 → Q (.ref d) H'
def spPick (kn : Str) : Sp := fun vs H Q _ => ∃ (d c q : Addr) (n : Nat) (xs : List V), vs = [.ref d, .ref q] ∧ PenAt kn H d c n ∧ n < 1000000000 ∧ H q = some (.lst xs) ∧ 0 < xs.length ∧ xs.length < 1000000 ∧
  ∀ (v : V) (H' : Hp), v ∈ xs → PenAt kn H' d c (n + 1) → SBut d H H' → Q v H'
def spByte (kn : Str) : Sp := fun vs H Q _ => ∃ (d c : Addr) (n : Nat), vs = [.ref d] ∧ PenAt kn H d c n ∧ n < 100000000 ∧
  ∀ (r : Int) (H' : Hp), 0 ≤ r → r < 256 → PenAt kn H' d c (n + 2) → SBut d H H' → Q (.int r) H'
theorem PenAt.ne {kn : Str} {H : Hp} {d c : Addr} {n : Nat} (p : PenAt kn H d c n) {q : Addr} {xs : List V} (h : H q = some (.lst xs)) : q ≠ d := by
  obtain ⟨ns, a, l, hd, _⟩ := p
  exact ne_of h hd (by intro z; cases z)
theorem PenAt.neT {kn : Str} {H : Hp} {d c : Addr} {n : Nat} (p : PenAt kn H d c n) {q : Addr} {xs : List V} (h : H q = some (.tup xs)) : q ≠ d := by
  obtain ⟨ns, a, l, hd, _⟩ := p
  exact ne_of h hd (by intro z; cases z)
theorem PenAt.mono {kn : Str} {H H' : Hp} {d c : Addr} {n m : Nat} (p : PenAt kn H d c n) (s : Same H H') (h : n ≤ m) : PenAt kn H' d c m := by
  obtain ⟨ns, a, l, hd, hc, h1, h2, h3, h4⟩ := p
  exact ⟨ns, a, l, s _ _ hd, s _ _ hc, h1, h2, by omega, h4⟩
/-- another object has changed -/
theorem PenAt.upd {kn : Str} {H : Hp} {d c : Addr} {n m : Nat} (p : PenAt kn H d c n) {q : Addr} {o : HO} (h1 : q ≠ d) (h2 : q ≠ c) (h : n ≤ m) : PenAt kn (upd H q o) d c m := by
  obtain ⟨ns, a, l, hd, hc, h3, h4, h5, h6⟩ := p
  exact ⟨ns, a, l, by rw [upd_ne (Ne.symm h1)]; exact hd, by rw [upd_ne (Ne.symm h2)]; exact hc, h3, h4, by omega, h6⟩
theorem PenAt.new {kn : Str} {H : Hp} {d c : Addr} {n : Nat} (p : PenAt kn H d c n) {q : Addr} (h : H q = none) : q ≠ d ∧ q ≠ c := by
  obtain ⟨ns, a, l, hd, hc, _⟩ := p
  exact ⟨(fun e => by rw [e, hd] at h; cases h), (fun e => by rw [e, hc] at h; cases h)⟩
theorem atI_mem {xs : List V} {i : Int} (h0 : 0 ≤ i) (h : i < xs.length) : ∃ x, x ∈ xs ∧ atI xs i = some x := by
  obtain ⟨x, h1, h2⟩ := atI_lt h0 h
  exact ⟨x, List.mem_of_getElem? h2, h1⟩
theorem pen_new {kn : Str} (P : PenKey kn) {c : Addr} : mergeK [] [(Sum.inr "cells", V.ref c), (Sum.inr kn, V.int 0), (Sum.inr "left", V.int 0)] = penL kn c 0 0 := by
  have h1 := P.c
  have h2 := P.kl
  have h3 := cells_left
  simp [mergeK, putK, h1, h2, h3, List.any]
/-! ### what is shown -/
theorem app_len (x y : Str) : (x ++ y).length = x.length + y.length := by
  show (x.cps ++ y.cps).size = _
  rw [Array.size_append]
  rfl
theorem textFrom_le : ∀ (ts : List Str) (k : Nat) (acc : Str), (textFrom k acc ts).length ≤ acc.length + piled ts
  | [], k, acc => Nat.le_refl _
  | t :: r, k, acc => by
    have h := textFrom_le r (k + 1) (acc ++ (if k > 0 then ", " else "" : String) ++ t)
    rw [app_len, app_len] at h
    have h2 : (Str.ofString (if k > 0 then ", " else "" : String)).length ≤ 2 := by split <;> decide
    rw [piled_cons]
    show (textFrom (k + 1) _ r).length ≤ _
    omega
theorem listText_le (ts : List Str) : (listText ts).length ≤ 2 + piled ts := by
  unfold listText
  rw [app_len]
  have h := textFrom_le ts 0 "["
  have h1 : (Str.ofString "[").length = 1 := by decide
  have h2 : (Str.ofString "]").length = 1 := by decide
  omega
theorem tupleText_le (ts : List Str) : (tupleText ts).length ≤ 3 + piled ts := by
  unfold tupleText
  rw [app_len, app_len]
  have h1 : (Str.ofString "(").length = 1 := by decide
  have h2 : (Str.ofString (if ts.length == 1 then ",)" else ")" : String)).length ≤ 2 := by split <;> decide
  have h3 : (Str.join ", " ts).length ≤ piled ts := by
    cases ts with
    | nil => exact Nat.zero_le _
    | cons t r =>
      have := join_length_add (t :: r) (by simp)
      omega
  omega
theorem piled_le {c : Nat} : ∀ ts : List Str, (∀ t ∈ ts, t.length ≤ c) → piled ts ≤ ts.length * (c + 2)
  | [], _ => Nat.zero_le _
  | t :: r, h => by
    have h1 := h t (by simp)
    have h2 := piled_le r fun x hx => h x (by simp [hx])
    rw [piled_cons, List.length_cons, Nat.add_mul]
    omega
/-- data that may be shown and compared: of a depth of at most j, of at most n signs -/
structure Shw (d : PyData) (j n : Nat) : Prop where
  sh : d.showable = true
  nd : d.hasDict = false
  dp : d.depth ≤ j
  ln : d.shown.length ≤ n
  cl : d.canLay0 = true
theorem Shw.shaped {d : PyData} {j n : Nat} (s : Shw d j n) (h : j ≤ 64) : SeqAt.shaped d = true := by
  show (d.canLay0 && decide (d.depth ≤ 64)) = true
  rw [s.cl, decide_eq_true (Nat.le_trans s.dp h)]
  rfl
theorem ofString_len (x : String) : (Str.ofString x).length = x.length := PySem.ofString_length x
theorem Shw.int {i : Int} (h : i.natAbs < 10 ^ 400) : Shw (.int i) 0 401 := by
  refine ⟨?_, rfl, Nat.le_refl _, ?_, rfl⟩
  · show decide (i.natAbs.log2 < 1920) = true
    refine decide_eq_true ?_
    by_cases h0 : i.natAbs = 0
    · rw [h0]; decide
    · rw [Nat.log2_lt h0]
      exact Nat.lt_of_lt_of_le h (by decide +kernel)
  · show (Str.ofString (toString i)).length ≤ 401
    have := int_text_length_le10 (a := i) (k := 400) (by decide) h
    rw [ofString_len]
    exact this
theorem Shw.small {i : Int} (h0 : 0 ≤ i) (h : i < 10000000) : Shw (.int i) 0 8 := by
  have h' : i.natAbs < 10 ^ 7 := by omega
  refine ⟨(Shw.int (i := i) (Nat.lt_of_lt_of_le h' (Nat.pow_le_pow_right (by decide) (by decide)))).sh, rfl, Nat.le_refl _, ?_, rfl⟩
  show (Str.ofString (toString i)).length ≤ 8
  have := int_text_length_le10 (a := i) (k := 7) (by decide) h'
  rw [ofString_len]
  exact this
theorem Shw.non : Shw .none 0 4 := ⟨rfl, rfl, Nat.le_refl _, by decide, rfl⟩
theorem Shw.bl (b : Bool) : Shw (.bool b) 0 5 := ⟨rfl, rfl, Nat.le_refl _, by cases b <;> decide, rfl⟩
theorem Shw.str {x : Str} (h : PyData.strOk x = true) : Shw (.str x) 0 (10 * x.length + 2) := by
  refine ⟨rfl, rfl, Nat.le_refl _, StrLaws.reprText_len x fun c hc => ?_, h⟩
  have h' : x.cps.all (· < 0x110000) = true := h
  rw [Array.all_eq_true'] at h'
  have := h' c (by simpa using hc)
  have : c < 0x110000 := by simpa using this
  exact Nat.lt_of_lt_of_le this (by decide)
theorem shw_all {j n : Nat} : ∀ xs : List PyData, (∀ x ∈ xs, Shw x j n) → PyData.showableAll xs = true ∧ PyData.hasDictAll xs = false ∧ PyData.depthAll xs ≤ j ∧ (∀ t ∈ PyData.shownAll xs, t.length ≤ n) ∧ PyData.canLayAll0 xs = true ∧ (PyData.shownAll xs).length = xs.length
  | [], _ => ⟨rfl, rfl, Nat.zero_le _, fun t h => (List.not_mem_nil (show t ∈ ([] : List Str) from h)).elim, rfl, rfl⟩
  | x :: r, h => by
    have s := h x (by simp)
    obtain ⟨a, b, c, d, e, f⟩ := shw_all r fun y hy => h y (by simp [hy])
    refine ⟨?_, ?_, ?_, ?_, ?_, ?_⟩
    · show (x.showable && PyData.showableAll r) = true
      rw [s.sh, a]; rfl
    · show (x.hasDict || PyData.hasDictAll r) = false
      rw [s.nd, b]; rfl
    · show max x.depth (PyData.depthAll r) ≤ j
      exact Nat.max_le.mpr ⟨s.dp, c⟩
    · intro t ht
      have ht' : t ∈ x.shown :: PyData.shownAll r := ht
      rcases List.mem_cons.mp ht' with e | e
      · rw [e]; exact s.ln
      · exact d t e
    · show (x.canLay0 && PyData.canLayAll0 r) = true
      rw [s.cl, e]; rfl
    · show (x.shown :: PyData.shownAll r).length = (x :: r).length
      rw [List.length_cons, List.length_cons, f]
theorem Shw.list {j n : Nat} {xs : List PyData} (h : ∀ x ∈ xs, Shw x j n) : Shw (.list xs) (j + 1) (3 + xs.length * (n + 2)) := by
  obtain ⟨a, b, c, d, e, f⟩ := shw_all xs h
  refine ⟨a, b, Nat.succ_le_succ c, ?_, e⟩
  show (listText (PyData.shownAll xs)).length ≤ _
  have h1 := listText_le (PyData.shownAll xs)
  have h2 := piled_le _ d
  rw [f] at h2
  omega
theorem Shw.tuple {j n : Nat} {xs : List PyData} (h : ∀ x ∈ xs, Shw x j n) : Shw (.tuple xs) (j + 1) (3 + xs.length * (n + 2)) := by
  obtain ⟨a, b, c, d, e, f⟩ := shw_all xs h
  refine ⟨a, b, Nat.succ_le_succ c, ?_, e⟩
  show (tupleText (PyData.shownAll xs)).length ≤ _
  have h1 := tupleText_le (PyData.shownAll xs)
  have h2 := piled_le _ d
  rw [f] at h2
  omega
theorem Shw.mono {d : PyData} {j n j' n' : Nat} (s : Shw d j n) (hj : j ≤ j') (hn : n ≤ n') : Shw d j' n' := ⟨s.sh, s.nd, Nat.le_trans s.dp hj, Nat.le_trans s.ln hn, s.cl⟩
section
variable {K : PySem.W.Frag} {H : Hp} {Q : VK}
theorem r_repr {a : Addr} {d : PyData} {j n : Nat} (h : Dp K H (.ref a) d) (s : Shw d j n) (hj : j ≤ 60) (hn : n ≤ 10000000) (q : Q (.str d.shown) H) : rRepr K [.ref a] H Q :=
  ⟨a, d, rfl, h, s.sh, s.nd, Nat.le_trans s.dp hj, Nat.le_trans s.ln (Nat.le_trans hn (by decide)), q⟩
theorem r_neD {x y : V} {d e : PyData} {j n j' n' : Nat} (hx : Dp K H x d) (hy : Dp K H y e) (s : Shw d j n) (s' : Shw e j' n') (hj : j ≤ 64) (hj' : j' ≤ 64) (q : Q (.bl (!PyData.eqv d e)) H) : rNeD K x y H Q :=
  ⟨d, e, hx, hy, s.shaped hj, s'.shaped hj', q⟩
theorem r_eqD {x y : V} {d e : PyData} {j n j' n' : Nat} (hx : Dp K H x d) (hy : Dp K H y e) (s : Shw d j n) (s' : Shw e j' n') (hj : j ≤ 64) (hj' : j' ≤ 64) (q : Q (.bl (PyData.eqv d e)) H) : rEqD K x y H Q :=
  ⟨d, e, hx, hy, s.shaped hj, s'.shaped hj', q⟩
end
mutual
theorem dp_same {K : PySem.W.Frag} {H H' : Hp} (s : Same H H') : ∀ (d : PyData) (v : V), Dp K H v d → Dp K H' v d
  | _, _, .non => .non
  | _, _, .bl b => .bl b
  | _, _, .int i => .int i
  | _, _, .str x => .str x
  | _, _, .lst h a => .lst (s.seq h) (dpAll_same s _ _ a)
  | _, _, .tup h a => .tup (same_seqT s h) (dpAll_same s _ _ a)
theorem dpAll_same {K : PySem.W.Frag} {H H' : Hp} (s : Same H H') : ∀ (ds : List PyData) (vs : List V), DpAll K H vs ds → DpAll K H' vs ds
  | _, _, .nil => .nil
  | _, _, .cons h r => .cons (dp_same s _ _ h) (dpAll_same s _ _ r)
end
end Br

/-! k01's plain law: hex texts of rows of bytes, and what is read of a text. -/
namespace M01
open PySem L2 Br
def SG : Str := "0123456789abcdef"
def sgL : List Nat := [48, 49, 50, 51, 52, 53, 54, 55, 56, 57, 97, 98, 99, 100, 101, 102]
theorem sg_eq : SG.cps.toList = sgL := by decide +kernel
theorem sg_len : SG.length = 16 := by decide +kernel
def sg (x : Int) : Nat := sgL.getD x.toNat 0
def sepC (k : Nat) : Nat := if k % 16 = 0 then 10 else 32
def piece (k : Nat) (b : Int) : List Nat := (if k = 0 then [] else [sepC k]) ++ [sg (b / 16), sg (b % 16)]
def hexF : Nat → List Int → List Nat
  | _, [] => []
  | k, b :: r => piece k b ++ hexF (k + 1) r
theorem hexF_snoc (b : Int) : ∀ (xs : List Int) (k : Nat), hexF k (xs ++ [b]) = hexF k xs ++ piece (k + xs.length) b
  | [], k => by simp [hexF]
  | x :: r, k => by
    show piece k x ++ hexF (k + 1) (r ++ [b]) = (piece k x ++ hexF (k + 1) r) ++ piece (k + (r.length + 1)) b
    rw [hexF_snoc b r (k + 1), List.append_assoc, show k + 1 + r.length = k + (r.length + 1) by omega]
theorem piece_len (k : Nat) (b : Int) : (piece k b).length = if k = 0 then 2 else 3 := by
  unfold piece
  split <;> rfl
def okAt (c k : Nat) : Bool := if k % 3 = 2 then c == sepC (k / 3 + 1) else decide (c ∈ sgL)
def firstBad (cs : List Nat) : Option Nat := (List.range cs.length).find? fun k => !okAt (cs.getD k 0) k
def dg (c : Nat) : Nat := (Builtin.Str.occurrences SG ⟨#[c]⟩ 0 SG.length 1).headD 0
theorem occ_ok : ∀ c ∈ sgL, (Builtin.Str.occurrences SG ⟨#[c]⟩ 0 SG.length 1 = [dg c] ∧ dg c < 16) := by decide +kernel
theorem dg_sg : ∀ x ∈ List.range 16, (sgL.getD x 0 ∈ sgL ∧ dg (sgL.getD x 0) = x) := by decide +kernel
def valAt (cs : List Nat) (j : Nat) : Int := (dg (cs.getD (3 * j) 0) : Int) * 16 + dg (cs.getD (3 * j + 1) 0)
def vals (cs : List Nat) : List Int := (List.range ((cs.length + 2) / 3)).map (valAt cs)
def noneAt (k : Nat) : PyData := .list [.str "none", .int k]
/-- what is read of a text: a row, or where it goes wrong -/
def rd (cs : List Nat) : Nat ⊕ List Int := match firstBad cs with
  | some k => .inl k
  | none => if cs ≠ [] ∧ cs.length % 3 ≠ 2 then .inl cs.length else .inr (vals cs)
def rdV : V → Nat ⊕ List Int
  | .str z => rd z.cps.toList
  | _ => .inl 0
def told : Nat ⊕ List Int → PyData
  | .inl k => noneAt k
  | .inr xs => .tuple (xs.map PyData.int)
theorem bad_at {cs : List Nat} {i c : Nat} (hk : ∀ k c, k < i → cs[k]? = some c → okAt c k = true) (hi : cs[i]? = some c) (hb : okAt c i = false) : firstBad cs = some i := by
  have hl : i < cs.length := (List.getElem?_eq_some_iff.mp hi).1
  unfold firstBad
  rw [List.find?_range_eq_some]
  refine ⟨?_, by simpa using hl, fun j hj => ?_⟩
  · rw [List.getD_eq_getElem?_getD, hi]
    simp [hb]
  · have hjl : j < cs.length := by omega
    have := hk j cs[j] hj (List.getElem?_eq_getElem hjl)
    rw [List.getD_eq_getElem?_getD, List.getElem?_eq_getElem hjl]
    simp [this]
theorem bad_none {cs : List Nat} (hk : ∀ k c, k < cs.length → cs[k]? = some c → okAt c k = true) : firstBad cs = none := by
  unfold firstBad
  rw [List.find?_eq_none]
  intro j hj
  have hjl : j < cs.length := by simpa using hj
  have := hk j cs[j] hjl (List.getElem?_eq_getElem hjl)
  rw [List.getD_eq_getElem?_getD, List.getElem?_eq_getElem hjl]
  simp [this]
/-- the sign at a place of an admitted text -/
theorem ok_sign {c k : Nat} (h : okAt c k = true) (h3 : k % 3 ≠ 2) : c ∈ sgL := by
  unfold okAt at h
  rw [if_neg h3] at h
  exact of_decide_eq_true h
theorem sg_ok {x : Int} (h0 : 0 ≤ x) (h1 : x < 16) : sg x ∈ sgL ∧ (dg (sg x) : Int) = x := by
  obtain ⟨a, b⟩ := dg_sg x.toNat (by rw [List.mem_range]; omega)
  exact ⟨a, by unfold sg; rw [b]; omega⟩
/-- what holds of the text of a row -/
structure Good (xs : List Int) (cs : List Nat) : Prop where
  len : cs.length = 3 * xs.length - 1
  ok : ∀ k c, cs[k]? = some c → okAt c k = true
  vs : ∀ j x, xs[j]? = some x → valAt cs j = x
theorem good_snoc {xs : List Int} {cs : List Nat} {b : Int} (g : Good xs cs) (h0 : 0 ≤ b) (h1 : b < 256) : Good (xs ++ [b]) (cs ++ piece xs.length b) := by
  obtain ⟨s1, d1⟩ := sg_ok (x := b / 16) (by omega) (by omega)
  obtain ⟨s2, d2⟩ := sg_ok (x := b % 16) (by omega) (by omega)
  have hl := g.len
  have pl := piece_len xs.length b
  -- the signs of the piece
  have at3 : (cs ++ piece xs.length b)[3 * xs.length]? = some (sg (b / 16)) := by
    rw [List.getElem?_append_right (by omega), hl]
    unfold piece
    split
    · rename_i e
      rw [e]; rfl
    · rw [show 3 * xs.length - (3 * xs.length - 1) = 1 by omega]; rfl
  have at4 : (cs ++ piece xs.length b)[3 * xs.length + 1]? = some (sg (b % 16)) := by
    rw [List.getElem?_append_right (by omega), hl]
    unfold piece
    split
    · rename_i e
      rw [e]; rfl
    · rw [show 3 * xs.length + 1 - (3 * xs.length - 1) = 2 by omega]; rfl
  have at2 : xs.length ≠ 0 → (cs ++ piece xs.length b)[3 * xs.length - 1]? = some (sepC xs.length) := fun hne => by
    rw [List.getElem?_append_right (by omega), hl]
    unfold piece
    rw [if_neg hne, show 3 * xs.length - 1 - (3 * xs.length - 1) = 0 by omega]; rfl
  refine ⟨?_, fun k c hk => ?_, fun j x hj => ?_⟩
  · rw [List.length_append, pl, hl, List.length_append]
    simp only [List.length_cons, List.length_nil]
    split <;> omega
  · by_cases h : k < cs.length
    · rw [List.getElem?_append_left h] at hk
      exact g.ok k c hk
    · have hkl : k < (cs ++ piece xs.length b).length := (List.getElem?_eq_some_iff.mp hk).1
      rw [List.length_append, pl] at hkl
      have cases3 : (xs.length ≠ 0 ∧ k = 3 * xs.length - 1) ∨ k = 3 * xs.length ∨ k = 3 * xs.length + 1 := by
        split at hkl <;> omega
      rcases cases3 with ⟨hne, rfl⟩ | rfl | rfl
      · rw [at2 hne] at hk
        cases hk
        unfold okAt
        rw [if_pos (by omega), show (3 * xs.length - 1) / 3 + 1 = xs.length by omega]
        simp
      · rw [at3] at hk
        cases hk
        unfold okAt
        rw [if_neg (by omega)]
        exact decide_eq_true s1
      · rw [at4] at hk
        cases hk
        unfold okAt
        rw [if_neg (by omega)]
        exact decide_eq_true s2
  · by_cases h : j < xs.length
    · rw [List.getElem?_append_left h] at hj
      have hv := g.vs j x hj
      unfold valAt at hv ⊢
      have e1 : (cs ++ piece xs.length b).getD (3 * j) 0 = cs.getD (3 * j) 0 := by
        rw [List.getD_eq_getElem?_getD, List.getD_eq_getElem?_getD, List.getElem?_append_left (by omega)]
      have e2 : (cs ++ piece xs.length b).getD (3 * j + 1) 0 = cs.getD (3 * j + 1) 0 := by
        rw [List.getD_eq_getElem?_getD, List.getD_eq_getElem?_getD, List.getElem?_append_left (by omega)]
      rw [e1, e2]
      exact hv
    · have hjl : j < (xs ++ [b]).length := (List.getElem?_eq_some_iff.mp hj).1
      rw [List.length_append] at hjl
      have e : j = xs.length := by simp only [List.length_cons, List.length_nil] at hjl; omega
      subst e
      have ex : x = b := by
        rw [List.getElem?_append_right (Nat.le_refl _)] at hj
        simpa using hj.symm
      subst ex
      unfold valAt
      rw [List.getD_eq_getElem?_getD, List.getD_eq_getElem?_getD, at3, at4]
      show (dg (sg (x / 16)) : Int) * 16 + dg (sg (x % 16)) = x
      rw [d1, d2]
      omega
theorem good_all {bs : List Int} (h : ∀ b ∈ bs, 0 ≤ b ∧ b < 256) : Good bs (hexF 0 bs) := by
  have key : ∀ n, n ≤ bs.length → Good (bs.take n) (hexF 0 (bs.take n)) := by
    intro n
    induction n with
    | zero => intro _; exact ⟨rfl, fun k c hk => by simp [hexF] at hk, fun j x hj => by simp at hj⟩
    | succ n ih =>
      intro hn
      have hb : bs[n]? = some bs[n] := List.getElem?_eq_getElem (by omega)
      rw [take_more hb, hexF_snoc]
      obtain ⟨b0, b1⟩ := h _ (List.getElem_mem (by omega : n < bs.length))
      have := good_snoc (ih (by omega)) b0 b1
      rw [Nat.zero_add]
      exact this
  have := key bs.length (Nat.le_refl _)
  rwa [List.take_length] at this
/-- the text of a row is read as the row -/
theorem rd_hex {bs : List Int} (h : ∀ b ∈ bs, 0 ≤ b ∧ b < 256) : rd (hexF 0 bs) = .inr bs := by
  have g := good_all h
  have hl := g.len
  unfold rd
  rw [bad_none fun k c _ hk => g.ok k c hk]
  have hn : ¬ (hexF 0 bs ≠ [] ∧ (hexF 0 bs).length % 3 ≠ 2) := by
    rintro ⟨h1, h2⟩
    cases bs with
    | nil => exact h1 rfl
    | cons b r =>
      rw [hl] at h2
      simp only [List.length_cons] at h2
      omega
  simp only [if_neg hn]
  congr 1
  unfold vals
  rw [hl]
  have e : (3 * bs.length - 1 + 2) / 3 = bs.length := by omega
  rw [e]
  apply List.ext_getElem?
  intro i
  rw [List.getElem?_map]
  by_cases hi : i < bs.length
  · rw [List.getElem?_range hi, List.getElem?_eq_getElem hi]
    show some (valAt _ i) = _
    rw [g.vs i _ (List.getElem?_eq_getElem hi)]
  · rw [List.getElem?_eq_none (by simpa using hi), List.getElem?_eq_none (by omega)]
    rfl
theorem hex_len {bs : List Int} (h : ∀ b ∈ bs, 0 ≤ b ∧ b < 256) : (hexF 0 bs).length ≤ 3 * bs.length := by
  have := (good_all h).len
  omega
theorem rd_bad {cs : List Nat} {i c : Nat} (hk : ∀ k c, k < i → cs[k]? = some c → okAt c k = true) (hi : cs[i]? = some c) (hb : okAt c i = false) : rd cs = .inl i := by
  unfold rd
  rw [bad_at hk hi hb]
theorem rd_short {cs : List Nat} (hk : ∀ k c, k < cs.length → cs[k]? = some c → okAt c k = true) (h1 : cs ≠ []) (h2 : cs.length % 3 ≠ 2) : rd cs = .inl cs.length := by
  unfold rd
  rw [bad_none hk]
  simp only [if_pos (And.intro h1 h2)]
theorem rd_good {cs : List Nat} (hk : ∀ k c, k < cs.length → cs[k]? = some c → okAt c k = true) (h : cs = [] ∨ cs.length % 3 = 2) : rd cs = .inr (vals cs) := by
  unfold rd
  rw [bad_none hk]
  have hn : ¬ (cs ≠ [] ∧ cs.length % 3 ≠ 2) := by
    rintro ⟨h1, h2⟩
    rcases h with h | h
    · exact h1 h
    · exact h2 h
  simp only [if_neg hn]
/-- the two signs of the j-th byte -/
theorem two_signs {cs : List Nat} (hk : ∀ k c, k < cs.length → cs[k]? = some c → okAt c k = true) (h : cs = [] ∨ cs.length % 3 = 2) {j : Nat} (hj : j < (cs.length + 2) / 3) :
    ∃ c1 c2, cs[3 * j]? = some c1 ∧ cs[3 * j + 1]? = some c2 ∧ c1 ∈ sgL ∧ c2 ∈ sgL ∧ valAt cs j = (dg c1 : Int) * 16 + dg c2 := by
  have hl : 3 * j + 1 < cs.length := by
    rcases h with h | h
    · rw [h] at hj
      simp at hj
    · omega
  have e1 : cs[3 * j]? = some cs[3 * j] := List.getElem?_eq_getElem (by omega)
  have e2 : cs[3 * j + 1]? = some cs[3 * j + 1] := List.getElem?_eq_getElem hl
  refine ⟨_, _, e1, e2, ok_sign (hk _ _ (by omega) e1) (by omega), ok_sign (hk _ _ hl e2) (by omega), ?_⟩
  unfold valAt
  rw [List.getD_eq_getElem?_getD, List.getD_eq_getElem?_getD, e1, e2]
  rfl
theorem bad_lt {cs : List Nat} {k : Nat} (h : firstBad cs = some k) : k < cs.length := by
  unfold firstBad at h
  have := List.mem_of_find?_eq_some h
  simpa using this
theorem none_ok {cs : List Nat} (h : firstBad cs = none) : ∀ k c, k < cs.length → cs[k]? = some c → okAt c k = true := by
  intro k c hk hc
  unfold firstBad at h
  rw [List.find?_eq_none] at h
  have := h k (by simpa using hk)
  rw [List.getD_eq_getElem?_getD, hc] at this
  simpa using this
theorem rd_inl {cs : List Nat} {k : Nat} (h : rd cs = .inl k) : k ≤ cs.length := by
  unfold rd at h
  split at h
  · rename_i k' e
    cases h
    exact Nat.le_of_lt (bad_lt e)
  · split at h
    · cases h
      exact Nat.le_refl _
    · cases h
theorem rd_inr {cs : List Nat} {xs : List Int} (h : rd cs = .inr xs) : xs.length ≤ cs.length ∧ ∀ x ∈ xs, 0 ≤ x ∧ x < 256 := by
  unfold rd at h
  split at h
  · cases h
  · rename_i e
    split at h
    · cases h
    · rename_i hn
      cases h
      have hg : cs = [] ∨ cs.length % 3 = 2 := by
        by_cases h1 : cs = []
        · exact .inl h1
        · exact .inr (Decidable.byContradiction fun h2 => hn ⟨h1, h2⟩)
      refine ⟨?_, fun x hx => ?_⟩
      · unfold vals
        rw [List.length_map, List.length_range]
        cases cs with
        | nil => decide
        | cons c r => rw [List.length_cons]; omega
      · unfold vals at hx
        obtain ⟨j, hj, rfl⟩ := List.mem_map.mp hx
        obtain ⟨c1, c2, _, _, m1, m2, ev⟩ := two_signs (none_ok e) hg (by simpa using hj)
        have := (occ_ok c1 m1).2
        have := (occ_ok c2 m2).2
        rw [ev]
        omega
theorem shw_noneAt {k : Nat} (h : k ≤ 1000000) : Shw (noneAt k) 1 91 := by
  have s : ∀ x ∈ ([.str "none", .int k] : List PyData), Shw x 0 42 := by
    intro x hx
    have hx' : x = .str "none" ∨ x = .int k := by simpa using hx
    rcases hx' with e | e
    · rw [e]
      exact (Shw.str (x := "none") (by decide +kernel)).mono (Nat.le_refl _) (by decide +kernel)
    · rw [e]
      exact (Shw.small (i := k) (by omega) (by omega)).mono (Nat.le_refl _) (by decide)
  exact Shw.list s
theorem shw_tupB {xs : List Int} (h : ∀ x ∈ xs, 0 ≤ x ∧ x < 256) (hl : xs.length ≤ 100000) : Shw (.tuple (xs.map PyData.int)) 1 1000003 := by
  refine (Shw.tuple (j := 0) (n := 8) fun d hd => ?_).mono (Nat.le_refl _) (by rw [List.length_map]; omega)
  obtain ⟨x, hx, rfl⟩ := List.mem_map.mp hd
  have := h x hx
  exact Shw.small (by omega) (by omega)
theorem shw_told {cs : List Nat} (h : cs.length ≤ 100000) : Shw (told (rd cs)) 1 1000003 := by
  cases e : rd cs with
  | inl k =>
    have := rd_inl e
    exact (shw_noneAt (by omega)).mono (Nat.le_refl _) (by decide)
  | inr xs =>
    obtain ⟨h1, h2⟩ := rd_inr e
    exact shw_tupB h2 (by omega)
end M01

namespace C01
open PySem L2 Br
local macro_rules | `(tactic| walk_at "side") => `(tactic| first | omega | (show (0 : Int) < _; omega) | exact ⟨by omega, by omega⟩ | exact Or.inl ⟨by omega, by omega⟩ | exact Or.inr ⟨by omega, by omega⟩ | exact ⟨by decide, by decide, by decide⟩ | assumption)
local macro_rules | `(tactic| walk_at "s1") => `(tactic| first
  | ((with_reducible apply s_var); exact rfl)
  | with_reducible refine s_c ?_ | with_reducible refine s_op ?_ | with_reducible refine s_un ?_ | with_reducible refine s_I0 ?_
  | ((with_reducible refine s_I ?_ ?_); walk_at "side")
  | with_reducible refine s_U ?_ | ((with_reducible refine s_eq ?_ ?_); exact rfl) | ((with_reducible refine s_ne ?_ ?_); exact rfl)
  | with_reducible refine s_test ?_ | with_reducible refine s_tB ?_ | with_reducible refine s_bl ?_ | with_reducible refine s_and ?_ | with_reducible refine s_or ?_ | with_reducible refine s_not ?_
  | with_reducible refine s_andV ?_ | with_reducible refine s_orV ?_ | with_reducible refine s_notV ?_ | with_reducible refine s_if ?_ | with_reducible refine s_ifS ?_
  | with_reducible refine s_seq ?_ | with_reducible refine s_next ?_ | with_reducible refine s_asg ?_ | with_reducible refine s_par ?_ | with_reducible refine s_two ?_ | with_reducible refine s_ret ?_ | with_reducible refine s_retN ?_ | with_reducible refine s_drop ?_
  | with_reducible refine s_nil ?_ | with_reducible refine s_cons ?_ | with_reducible refine s_cl ?_ | with_reducible refine s_clS ?_ | with_reducible refine s_cb ?_ | with_reducible refine s_sl ?_ | with_reducible refine s_part ?_ | with_reducible refine s_nopart ?_ | with_reducible refine s_int ?_
  | with_reducible refine s_dget ?_ | with_reducible refine s_dput ?_ | with_reducible refine s_bm ?_ | with_reducible refine s_bm0 ?_ | with_reducible refine s_m1 ?_ | with_reducible refine s_isstr ?_ | with_reducible refine s_kf ?_ | with_reducible refine s_lst ?_ | with_reducible refine s_tup ?_
  | with_reducible refine s_pairs ?_ | with_reducible refine s_pairs0 ?_ | with_reducible refine s_disp ?_ | with_reducible refine s_dnew ?_ | with_reducible refine s_for ?_ | with_reducible refine s_lc ?_ | with_reducible refine s_iList ?_ | with_reducible refine s_iTup ?_ | with_reducible refine s_iRng1 ?_ | with_reducible refine s_iRng2 ?_ | with_reducible refine s_iRng3 ?_ | with_reducible refine s_vei ?_ | with_reducible refine s_ost ?_ | with_reducible refine s_mkx ?_ | with_reducible refine s_rz ?_ | with_reducible refine s_iEnumT ?_ | with_reducible refine s_iEnumS ?_ | with_reducible refine s_revS ?_ | with_reducible refine s_yes ?_
  | with_reducible refine s_gName ?_ | with_reducible refine s_gCons ?_ | with_reducible refine s_gNil ?_)
local macro_rules | `(tactic| walk_at "s") => `(tactic| repeat walk_at "s1")
def top (i : Nat) : Stmt := PySem.Challenge.pw_byteround_k01_rows_of_bytes_as_texts.main.body.getD i (.Pass ⟨0, 0, 0, 0⟩)
abbrev penKey : Str := "nth"
theorem key_pen : PenKey penKey := key_nth
/-- the built-ins' names are no names of the module; its constants -/
structure Txt (mg : Str → Option Value) : Prop where
  n_len : mg "len" = none
  n_abs : mg "abs" = none
  n_range : mg "range" = none
  n_isinstance : mg "isinstance" = none
  n_str : mg "str" = none
  n_int : mg "int" = none
  n_bool : mg "bool" = none
  n_min : mg "min" = none
  n_repr : mg "repr" = none
  n_tuple : mg "tuple" = none
  n_enumerate : mg "enumerate" = none
  n_ValueError : mg "ValueError" = none
  g_SIGNS : ∃ t, mg "SIGNS" = some (.str "0123456789abcdef" t)
  g_IN_A_ROW : ∃ t, mg "IN_A_ROW" = some (.int 16 t)
section
variable {P : Program} {w : World} {K : PySem.W.Frag} {mg : Str → Option Value} {base : Heap}
abbrev s__law_draw : Stmt := top 11
theorem sc__law_draw : FnScope ["_law_pen", "_law_span", "_law_digit", "_law_nth", "_law_cell", "_law_mixed", "_law_turn"] ["_law_pen", "_law_span"] (defScope s__law_draw) := ⟨rfl, rfl, rfl, by decide +kernel, rfl, by decide +kernel, by decide +kernel⟩
theorem ok__law_draw {f : Addr} {fd : FuncData} (F : Fun K "_law_draw" "_law_draw" s__law_draw f fd) (T : Txt mg) : FnOk P w K mg base CX0 1 f fd ["_law_pen", "_law_span"] (spDraw penKey) := by
  refine F.ok sc__law_draw (fun vs H Q E h => ?_) (fun cdv A outer s H vs Q E hr h => ?_)
  · obtain ⟨d, c, n, m, rfl, _⟩ := h
    rfl
  · obtain ⟨d, c, n, m, rfl, ⟨ns, a, l, hd, hc, hlen, a0, an, l0⟩, hn, m0, m1, k⟩ := h
    have hu := hu_of hr
    refine ⟨_, (pss_cons (ps_if (pt_cmpR op_gt (pe_dget hu (pv 0) pe_str (fun _ _ => rfl)) pe_int (nomark _))
        (pss_cons (ps_set (i := 2) sc__law_draw.nd rfl (Or.inl rfl) (pe_op op_mod (pe_dget hu (pv 0) pe_str (fun _ _ => rfl)) (pv 1)))
      (pss_cons (ps_dput hu (pv 0) pe_str (pe_op op_fdiv (pe_dget hu (pv 0) pe_str (fun _ _ => rfl)) (pv 1)) rfl)
      (pss_one (ps_ret (pv 2)))))
        pss_nil)
      (pss_cons (ps_set (i := 3) sc__law_draw.nd rfl (Or.inl rfl) (pe_dget hu (pv 0) pe_str (fun _ _ => rfl)))
      (pss_cons (ps_dput hu (pv 0) pe_str (pe_op op_add (pv 3) pe_int) rfl)
      (pss_cons (ps_set (i := 4) sc__law_draw.nd rfl (Or.inl rfl) (pe_op op_add (pe_op op_mul (pv 3) (pv 3)) pe_int))
      (pss_cons (ps_if (pt_cmpR (op_neD hr.units) (pe_dget hu (pv 0) pe_str (fun _ _ => rfl)) (pe_lst pa_nil) (nomark _))
        (pss_one (ps_set (i := 4) sc__law_draw.nd rfl (Or.inl rfl) (pe_ix ix_list (pe_dget hu (pv 0) pe_str (fun _ _ => rfl)) (pe_op op_mod (pv 3) (pe_callB call_len (by rfl) T.n_len (by decide +kernel) (pa_cons (pe_dget hu (pv 0) pe_str (fun _ _ => rfl)) pa_nil))) (fun _ _ => rfl))))
        pss_nil)
      (pss_cons (ps_if (PW.pt (pw_and (pt_cmpR op_lt (pv 3) (pe_callB call_len (by rfl) T.n_len (by decide +kernel) (pa_cons (pe_dget hu (pv 0) pe_str (fun _ _ => rfl)) pa_nil)) (nomark _)) (pw_and1 (pt_cmpR op_ge (pe_callB call_abs (by rfl) T.n_abs (by decide +kernel) (pa_cons (pv 4) pa_nil)) (pe_op op_pow pe_int pe_int) (nomark _)))))
        (pss_cons (ps_dput hu (pv 0) pe_str (pe_op op_fdiv (pe_callB call_abs (by rfl) T.n_abs (by decide +kernel) (pa_cons (pv 4) pa_nil)) (pv 1)) rfl)
      (pss_one (ps_ret (pe_op op_mod (pe_callB call_abs (by rfl) T.n_abs (by decide +kernel) (pa_cons (pv 4) pa_nil)) (pv 1)))))
        pss_nil)
      (pss_cons (ps_set (i := 5) sc__law_draw.nd rfl (Or.inl rfl) (pe_op op_mod (pe_op op_mul (pe_op op_add (pe_op op_add (pe_op op_mod (pv 4) pe_int) (pe_op op_mul pe_int (pv 3))) pe_int) pe_int) pe_int))
      (pss_cons (ps_for PassesOwn.never rfl (pi_range1 (by rfl) T.n_range (pa_cons pe_int pa_nil)) (pg_name (i := 6) sc__law_draw.nd rfl (Or.inl rfl))
        (pss_cons (ps_set (i := 5) sc__law_draw.nd rfl (Or.inl rfl) (pe_op op_add (pe_op op_add (pe_op op_add (pe_op op_mul (pv 5) (pv 5)) (pe_op op_mul pe_int (pv 5))) (pv 3)) (pv 6)))
      (pss_one (ps_set (i := 5) sc__law_draw.nd rfl (Or.inl rfl) (pe_op op_mod (pv 5) pe_int)))))
      (pss_one (ps_ret (pe_op op_mod (pe_op op_fdiv (pv 5) pe_int) (pv 1)))))))))))), ?_⟩
    refine go_at (σ' := [some (.ref d), some (.int m), none, none, none, none, none]) rfl ?_
    have PK := key_pen
    walk_at "s"
    refine ⟨d, _, rfl, dget_k (k := .inr "left") hd (pen_left PK), ?_⟩
    walk_at "s"
    refine ifd (fun hl => ?_) (fun hl => ?_)
    · -- a digit of what is left
      walk_at "s"
      refine ⟨d, _, rfl, dget_k (k := .inr "left") hd (pen_left PK), ?_⟩
      walk_at "s"
      refine ⟨d, _, rfl, dget_k (k := .inr "left") hd (pen_left PK), ?_⟩
      walk_at "s"
      refine ⟨d, _, rfl, dput_k (k := .inr "left") hd (three_lt _ _ _) (pen_put_left PK), ?_⟩
      walk_at "s"
      have ncd : c ≠ d := ne_of hc hd (by intro z; cases z)
      refine k _ _ (Int.emod_nonneg _ (by omega)) (Int.emod_lt_of_pos _ m0) ⟨ns, a, _, upd_same, by rw [upd_ne ncd]; exact hc, hlen, a0, by omega, Int.ediv_nonneg l0 (by omega)⟩ fun b o hb e => ?_
      rw [upd_ne hb]
      exact e
    · walk_at "s"
      refine ⟨d, _, rfl, dget_k (k := .inr penKey) hd (pen_nth PK), ?_⟩
      walk_at "s"
      refine ⟨d, _, rfl, dput_k (k := .inr penKey) hd (three_lt _ _ _) (pen_put_nth PK), ?_⟩
      have ncd : c ≠ d := ne_of hc hd (by intro z; cases z)
      generalize hH1 : upd H d (.dK (penL penKey c (a + 1) l)) = H1
      have hd1 : H1 d = some (.dK (penL penKey c (a + 1) l)) := by rw [← hH1]; exact upd_same
      have hc1 : H1 c = some (.lst (ns.map V.int)) := by rw [← hH1, upd_ne ncd]; exact hc
      have sb1 : SBut d H H1 := fun b o hb e => by rw [← hH1, upd_ne hb]; exact e
      clear hH1
      walk_at "s"
      refine ⟨d, _, rfl, dget_k (k := .inr "cells") hd1 pen_cells, ?_⟩
      walk_at "s"
      refine ⟨Nat.zero_le _, s_new fun p H2 hp s2 h2 => ?_⟩
      have hd2 := s2 _ _ hd1
      have hc2 := s2 _ _ hc1
      have sb2 := sb1.then s2
      refine ⟨_, _, .lst (sqL hc2) (dpAll_ints ns), .lst (sqL h2) .nil, shaped_listInts ns, rfl, ?_⟩
      walk_at "s"
      refine s_cut (fun σ' H' => ∃ x : Int, σ' = [some (.ref d), some (.int m), none, some (.int a), some (.int x), none, none] ∧ H2 = H') ?_ ?_ ?_
      · rintro _ _ ⟨x, rfl, rfl⟩
        walk_at "s"
        refine ⟨d, _, rfl, dget_k (k := .inr "cells") hd2 pen_cells, ?_⟩
        walk_at "s"
        refine ⟨_, _, rfl, .inl ⟨_, sqL hc2, rfl⟩, ?_⟩
        walk_at "s"
        refine s_cutA (fun σ' H' => σ' = [some (.ref d), some (.int m), none, some (.int a), some (.int x), none, none] ∧ H2 = H') ?_ ?_ ?_
        · rintro _ _ ⟨rfl, rfl⟩
          walk_at "s"
          refine ⟨3, rfl, by decide, by decide, f_range (lo := 0) (n := 3) (fun i σ H' => ∃ (v : Int) (t : Option V), σ = [some (.ref d), some (.int m), none, some (.int a), some (.int x), some (.int v), t] ∧ 0 ≤ v ∧ v < 4294967311 ∧ H2 = H') ?_ ?_ ?_⟩
          · obtain ⟨e1, e2⟩ := emod_bd (a := (x % 4294967311 + 65539 * a + 17) * 48271) (m := 4294967311) (by decide)
            exact ⟨_, none, rfl, e1, e2, rfl⟩
          · rintro i _ _ hi ⟨v, t, rfl, v0, v1, rfl⟩
            walk_at "s"
            obtain ⟨e1, e2⟩ := emod_bd (a := v * v + 69621 * v + a + (0 + (i : Nat))) (m := 4294967311) (by decide)
            exact ⟨_, _, rfl, e1, e2, rfl⟩
          · rintro _ _ ⟨v, t, rfl, v0, v1, rfl⟩
            walk_at "s"
            obtain ⟨e1, e2⟩ := emod_bd (a := v / 32) m0
            exact k _ _ e1 e2 ⟨ns, a + 1, l, hd2, hc2, hlen, by omega, by omega, l0⟩ sb2
        · intro _ nx' hR
          walk_at "s"
          refine ⟨_, rfl, ?_⟩
          walk_at "s"
          refine ifb (fun _ => ?_) (fun _ => ?_)
          · walk_at "s"
            refine ⟨_, rfl, ?_⟩
            walk_at "s"
            refine ⟨d, _, rfl, dput_k (k := .inr "left") hd2 (three_lt _ _ _) (pen_put_left PK), ?_⟩
            walk_at "s"
            refine ⟨_, rfl, ?_⟩
            walk_at "s"
            obtain ⟨e1, e2⟩ := emod_bd (a := if x < 0 then -x else x) m0
            refine k _ _ e1 e2 ⟨ns, a + 1, _, upd_same, by rw [upd_ne ncd]; exact hc2, hlen, by omega, by omega, Int.ediv_nonneg (by split <;> omega) (by omega)⟩ fun b o hb e => ?_
            rw [upd_ne hb]
            exact sb2 b o hb e
          · walk_at "s"
            exact hR _ _ ⟨rfl, rfl⟩
        · intro _ nx' hR
          walk_at "s"
          exact hR _ _ ⟨rfl, rfl⟩
      · intro hne nx' hR
        walk_at "s"
        refine ⟨d, _, rfl, dget_k (k := .inr "cells") hd2 pen_cells, ?_⟩
        walk_at "s"
        refine ⟨d, _, rfl, dget_k (k := .inr "cells") hd2 pen_cells, ?_⟩
        walk_at "s"
        refine ⟨_, _, rfl, .inl ⟨_, sqL hc2, rfl⟩, ?_⟩
        have hpos : 0 < ns.length := by
          rw [eqv_nil_ints] at hne
          cases ns with
          | nil => simp at hne
          | cons n r => simp
        have hlm : (ns.map V.int).length = ns.length := List.length_map ..
        refine s_I (by show (0 : Int) < _; omega) ?_
        obtain ⟨e1, e2⟩ := emod_bd (a := a) (m := ((ns.map V.int).length : Nat)) (by omega)
        obtain ⟨x, hx, hx2⟩ := atI_lt (xs := ns.map V.int) e1 e2
        obtain ⟨z, _, rfl⟩ : ∃ z, ns[(a % ((ns.map V.int).length : Nat)).toNat]? = some z ∧ V.int z = x := by
          rw [List.getElem?_map] at hx2
          cases e : ns[(a % ((ns.map V.int).length : Nat)).toNat]? with
          | none => rw [e] at hx2; cases hx2
          | some z => rw [e] at hx2; exact ⟨z, rfl, Option.some.inj hx2⟩
        refine r_ixL (sqL hc2) hx ?_
        exact hR _ _ ⟨z, rfl, rfl⟩
      · intro _ nx' hR
        walk_at "s"
        exact hR _ _ ⟨_, rfl, rfl⟩
end
end C01

namespace C01
open PySem L2 Br
local macro_rules | `(tactic| walk_at "side") => `(tactic| first | omega | (show (0 : Int) < _; omega) | exact ⟨by omega, by omega⟩ | exact Or.inl ⟨by omega, by omega⟩ | exact Or.inr ⟨by omega, by omega⟩ | exact ⟨by decide, by decide, by decide⟩ | assumption)
local macro_rules | `(tactic| walk_at "s1") => `(tactic| first
  | ((with_reducible apply s_var); exact rfl)
  | with_reducible refine s_c ?_ | with_reducible refine s_op ?_ | with_reducible refine s_un ?_ | with_reducible refine s_I0 ?_
  | ((with_reducible refine s_I ?_ ?_); walk_at "side")
  | with_reducible refine s_U ?_ | ((with_reducible refine s_eq ?_ ?_); exact rfl) | ((with_reducible refine s_ne ?_ ?_); exact rfl)
  | with_reducible refine s_test ?_ | with_reducible refine s_tB ?_ | with_reducible refine s_bl ?_ | with_reducible refine s_and ?_ | with_reducible refine s_or ?_ | with_reducible refine s_not ?_
  | with_reducible refine s_andV ?_ | with_reducible refine s_orV ?_ | with_reducible refine s_notV ?_ | with_reducible refine s_if ?_ | with_reducible refine s_ifS ?_
  | with_reducible refine s_seq ?_ | with_reducible refine s_next ?_ | with_reducible refine s_asg ?_ | with_reducible refine s_par ?_ | with_reducible refine s_two ?_ | with_reducible refine s_ret ?_ | with_reducible refine s_retN ?_ | with_reducible refine s_drop ?_
  | with_reducible refine s_nil ?_ | with_reducible refine s_cons ?_ | with_reducible refine s_cl ?_ | with_reducible refine s_clS ?_ | with_reducible refine s_cb ?_ | with_reducible refine s_sl ?_ | with_reducible refine s_part ?_ | with_reducible refine s_nopart ?_ | with_reducible refine s_int ?_
  | with_reducible refine s_dget ?_ | with_reducible refine s_dput ?_ | with_reducible refine s_bm ?_ | with_reducible refine s_bm0 ?_ | with_reducible refine s_m1 ?_ | with_reducible refine s_isstr ?_ | with_reducible refine s_kf ?_ | with_reducible refine s_lst ?_ | with_reducible refine s_tup ?_
  | with_reducible refine s_pairs ?_ | with_reducible refine s_pairs0 ?_ | with_reducible refine s_disp ?_ | with_reducible refine s_dnew ?_ | with_reducible refine s_for ?_ | with_reducible refine s_lc ?_ | with_reducible refine s_iList ?_ | with_reducible refine s_iTup ?_ | with_reducible refine s_iRng1 ?_ | with_reducible refine s_iRng2 ?_ | with_reducible refine s_iRng3 ?_ | with_reducible refine s_vei ?_ | with_reducible refine s_ost ?_ | with_reducible refine s_mkx ?_ | with_reducible refine s_rz ?_ | with_reducible refine s_iEnumT ?_ | with_reducible refine s_iEnumS ?_ | with_reducible refine s_revS ?_ | with_reducible refine s_yes ?_
  | with_reducible refine s_gName ?_ | with_reducible refine s_gCons ?_ | with_reducible refine s_gNil ?_)
local macro_rules | `(tactic| walk_at "s") => `(tactic| repeat walk_at "s1")
section
variable {P : Program} {w : World} {K : PySem.W.Frag} {mg : Str → Option Value} {base : Heap}
abbrev s__law_feed : Stmt := top 10
theorem sc__law_feed : FnScope ["_law_script", "_law_cell"] ["_law_script"] (defScope s__law_feed) := ⟨rfl, rfl, rfl, by decide +kernel, rfl, by decide +kernel, by decide +kernel⟩
theorem ok__law_feed {f : Addr} {fd : FuncData} (F : Fun K "_law_feed" "_law_feed" s__law_feed f fd) : FnOk P w K mg base CX0 1 f fd ["_law_script"] (spFeed penKey K) := by
  refine F.ok sc__law_feed (fun vs H Q E h => ?_) (fun cdv A outer s H vs Q E hr h => ?_)
  · obtain ⟨a, ns, rfl, _⟩ := h
    rfl
  · obtain ⟨a, ns, rfl, hS, hlen, k⟩ := h
    refine ⟨_, (pss_one (ps_ret (pe_disp (pps_cons pe_str (pe_lc (own := [("_law_cell", 1)]) (g := gName 1) (tt := tYes) rfl sc__law_feed.nd (pi_list (pe_slice sl_list (pv 0) po_none (po_some pe_int))) (blkOk_by (own := [("_law_cell", 1)]) (N := ["_law_script", "_law_cell"]) (sc := defScope s__law_feed) (by decide +kernel)) (fun _ _ _ _ _ => pg_name (i := 1) sc__law_feed.nd rfl (Or.inl rfl)) (fun _ _ _ _ _ => pts_nil) (fun _ _ _ _ _ => (pv 1))) (pps_cons pe_str pe_int (pps_cons pe_str pe_int pps_nil))) (by rfl) (by rfl) (fun z => by cases z) (by decide)))), ?_⟩
    refine go_at (σ' := [some (.ref a), none]) rfl ?_
    have PK := key_pen
    walk_at "s"
    intro p hp
    walk_at "s"
    have s1 : Same H (upd H p (.dK [])) := same_new hp
    refine r_slL (s1.seq hS) (s_new fun q H2 hq s2 h2 => ?_)
    have e63 : cutV (ns.map V.int) none (some 63) = (ns.take 63).map V.int := by
      show ((ns.map V.int).drop 0).take (min 63 (ns.map V.int).length - 0) = _
      rw [List.drop_zero, Nat.sub_zero, List.map_take, List.take_eq_take_iff]
      simp
    rw [e63] at h2
    refine ⟨q, rfl, ⟨_, sqL h2⟩, fun D hD => lc_list (K := K) (a := q) (xs := (ns.take 63).map V.int) (fun i H' => Same H2 H' ∧ H' D = some (.lst (((ns.take 63).map V.int).take i))) ⟨same_new hD, upd_same⟩ (fun i H' _ ⟨z, _⟩ => sqL (z _ _ h2)) ?_ ?_⟩
    · rintro i x H' hi ⟨z, hz⟩
      refine ⟨rfl, ?_⟩
      walk_at "s"
      refine ifT rfl ?_
      walk_at "s"
      refine ⟨_, hz, ?_, same_mut z hD, ?_⟩
      · refine small1000 ?_
        rw [List.length_take, List.length_map, List.length_take]
        omega
      · rw [upd_same, take_more hi]
    · rintro H' ⟨z, hz⟩
      walk_at "s"
      have hp2 : H' p = some (.dK []) := z _ _ (s2 _ _ upd_same)
      have nD : D ≠ p := fun e => by rw [e, s2 _ _ upd_same] at hD; cases hD
      rw [List.take_length] at hz
      refine ⟨hp2, [(Sum.inr "cells", .ref D), (Sum.inr penKey, .int 0), (Sum.inr "left", .int 0)], rfl, by show 3 ≤ 15; decide, ?_⟩
      refine k p D _ hp (fun b o e => ?_) ⟨ns.take 63, 0, 0, ?_, ?_, ?_, by omega, by omega, by omega⟩
      · rw [upd_ne (ne_of_none e hp)]
        exact z _ _ (s2 _ _ (s1 _ _ e))
      · rw [upd_same, pen_new PK]
      · rw [upd_ne nD]
        exact hz
      · rw [List.length_take]
        omega
abbrev s__law_pick : Stmt := top 12
theorem sc__law_pick : FnScope ["_law_pen", "_law_some"] ["_law_pen", "_law_some"] (defScope s__law_pick) := ⟨rfl, rfl, rfl, by decide +kernel, rfl, by decide +kernel, by decide +kernel⟩
theorem ok__law_pick {f : Addr} {fd : FuncData} (F : Fun K "_law_pick" "_law_pick" s__law_pick f fd) (T : Txt mg) (D__law_draw : OkD P w K mg base CX0 1 "_law_draw" ["_law_pen", "_law_span"] (spDraw penKey)) : FnOk P w K mg base CX0 2 f fd ["_law_pen", "_law_some"] (spPick penKey) := by
  refine F.ok sc__law_pick (fun vs H Q E h => ?_) (fun cdv A outer s H vs Q E hr h => ?_)
  · obtain ⟨d, c, q, n, xs, rfl, _⟩ := h
    rfl
  · obtain ⟨d, c, q, n, xs, rfl, pen, hn, hq, h0, h1, k⟩ := h
    refine ⟨_, (pss_one (ps_ret (pe_ix ix_list (pv 1) (pe_callD D__law_draw (hr.mono (by decide)) (pa_cons (pv 0) (pa_cons (pe_callB call_len (by rfl) T.n_len (by decide +kernel) (pa_cons (pv 1) pa_nil)) pa_nil))) (fun _ _ => rfl)))), ?_⟩
    refine go_at (σ' := [some (.ref d), some (.ref q)]) rfl ?_
    walk_at "s"
    refine ⟨_, _, rfl, .inl ⟨_, sqL hq, rfl⟩, ?_⟩
    walk_at "s"
    refine ⟨d, c, n, _, rfl, pen, hn, by omega, by omega, fun r H' r0 r1 pen' sb => ?_⟩
    obtain ⟨x, hx, ha⟩ := atI_mem r0 r1
    exact r_ixL (sqL (sb _ _ (pen.ne hq) hq)) ha (k x H' hx pen' sb)
abbrev s__law_byte : Stmt := top 15
theorem sc__law_byte : FnScope ["_law_pen"] ["_law_pen"] (defScope s__law_byte) := ⟨rfl, rfl, rfl, by decide +kernel, rfl, by decide +kernel, by decide +kernel⟩
theorem ok__law_byte {f : Addr} {fd : FuncData} (F : Fun K "_law_byte" "_law_byte" s__law_byte f fd) (D__law_draw : OkD P w K mg base CX0 1 "_law_draw" ["_law_pen", "_law_span"] (spDraw penKey)) : FnOk P w K mg base CX0 2 f fd ["_law_pen"] (spByte penKey) := by
  refine F.ok sc__law_byte (fun vs H Q E h => ?_) (fun cdv A outer s H vs Q E hr h => ?_)
  · obtain ⟨d, c, n, rfl, _⟩ := h
    rfl
  · obtain ⟨d, c, n, rfl, pen, hn, k⟩ := h
    refine ⟨_, (pss_one (ps_ret (pe_ix ix_list (pe_lst (pa_cons pe_int (pa_cons pe_int (pa_cons pe_int (pa_cons pe_int (pa_cons (pe_callD D__law_draw (hr.mono (by decide)) (pa_cons (pv 0) (pa_cons pe_int pa_nil))) pa_nil)))))) (pe_callD D__law_draw (hr.mono (by decide)) (pa_cons (pv 0) (pa_cons pe_int pa_nil))) (fun _ _ => rfl)))), ?_⟩
    refine go_at (σ' := [some (.ref d)]) rfl ?_
    walk_at "s"
    refine ⟨d, c, n, _, rfl, pen, by omega, by omega, by omega, fun r H' r0 r1 pen' sb => ?_⟩
    walk_at "s"
    refine ⟨by show 5 ≤ sizeLine; decide, s_new fun q H2 hq s2 h2 => ?_⟩
    walk_at "s"
    refine ⟨d, c, n + 1, _, rfl, pen'.mono s2 (Nat.le_refl _), by omega, by omega, by omega, fun j H3 j0 j1 pen3 sb3 => ?_⟩
    obtain ⟨x, hx, ha⟩ := atI_mem (xs := [.int 0, .int 15, .int 16, .int 255, .int r]) j0 (by show j < 5; exact j1)
    refine r_ixL (sqL (sb3 _ _ ((pen'.mono s2 (Nat.le_refl _)).ne h2) h2)) ha ?_
    have fin : ∀ z : Int, 0 ≤ z → z < 256 → Q (.int z) H3 := fun z z0 z1 => k z H3 z0 z1 pen3 ((sb.then s2).trans sb3)
    have hx' : x = .int 0 ∨ x = .int 15 ∨ x = .int 16 ∨ x = .int 255 ∨ x = .int r := by simpa using hx
    rcases hx' with e | e | e | e | e <;> subst e
    · exact fin _ (by omega) (by omega)
    · exact fin _ (by omega) (by omega)
    · exact fin _ (by omega) (by omega)
    · exact fin _ (by omega) (by omega)
    · exact fin _ r0 r1
end
end C01

namespace C01
open PySem L2 Br M01
local macro_rules | `(tactic| walk_at "side") => `(tactic| first | omega | (show (0 : Int) < _; omega) | exact ⟨by omega, by omega⟩ | exact Or.inl ⟨by omega, by omega⟩ | exact Or.inr ⟨by omega, by omega⟩ | exact ⟨by decide, by decide, by decide⟩ | assumption)
local macro_rules | `(tactic| walk_at "s1") => `(tactic| first
  | ((with_reducible apply s_var); exact rfl)
  | with_reducible refine s_c ?_ | with_reducible refine s_op ?_ | with_reducible refine s_un ?_ | with_reducible refine s_I0 ?_
  | ((with_reducible refine s_I ?_ ?_); walk_at "side")
  | with_reducible refine s_U ?_ | ((with_reducible refine s_eq ?_ ?_); exact rfl) | ((with_reducible refine s_ne ?_ ?_); exact rfl)
  | with_reducible refine s_test ?_ | with_reducible refine s_tB ?_ | with_reducible refine s_bl ?_ | with_reducible refine s_and ?_ | with_reducible refine s_or ?_ | with_reducible refine s_not ?_
  | with_reducible refine s_andV ?_ | with_reducible refine s_orV ?_ | with_reducible refine s_notV ?_ | with_reducible refine s_if ?_ | with_reducible refine s_ifS ?_
  | with_reducible refine s_seq ?_ | with_reducible refine s_next ?_ | with_reducible refine s_asg ?_ | with_reducible refine s_par ?_ | with_reducible refine s_two ?_ | with_reducible refine s_ret ?_ | with_reducible refine s_retN ?_ | with_reducible refine s_drop ?_
  | with_reducible refine s_nil ?_ | with_reducible refine s_cons ?_ | with_reducible refine s_cl ?_ | with_reducible refine s_clS ?_ | with_reducible refine s_cb ?_ | with_reducible refine s_sl ?_ | with_reducible refine s_part ?_ | with_reducible refine s_nopart ?_ | with_reducible refine s_int ?_
  | with_reducible refine s_dget ?_ | with_reducible refine s_dput ?_ | with_reducible refine s_bm ?_ | with_reducible refine s_bm0 ?_ | with_reducible refine s_m1 ?_ | with_reducible refine s_isstr ?_ | with_reducible refine s_kf ?_ | with_reducible refine s_lst ?_ | with_reducible refine s_tup ?_
  | with_reducible refine s_pairs ?_ | with_reducible refine s_pairs0 ?_ | with_reducible refine s_disp ?_ | with_reducible refine s_dnew ?_ | with_reducible refine s_for ?_ | with_reducible refine s_lc ?_ | with_reducible refine s_iList ?_ | with_reducible refine s_iTup ?_ | with_reducible refine s_iRng1 ?_ | with_reducible refine s_iRng2 ?_ | with_reducible refine s_iRng3 ?_ | with_reducible refine s_vei ?_ | with_reducible refine s_ost ?_ | with_reducible refine s_mkx ?_ | with_reducible refine s_rz ?_ | with_reducible refine s_iEnumT ?_ | with_reducible refine s_iEnumS ?_ | with_reducible refine s_revS ?_ | with_reducible refine s_yes ?_
  | with_reducible refine s_gName ?_ | with_reducible refine s_gCons ?_ | with_reducible refine s_gNil ?_)
local macro_rules | `(tactic| walk_at "s") => `(tactic| repeat walk_at "s1")
theorem str_eta (z : Str) : z = ⟨z.cps.toList.toArray⟩ := by cases z; rfl
theorem str_app (a b : List Nat) : ((⟨a.toArray⟩ : Str) ++ (⟨b.toArray⟩ : Str)) = ⟨(a ++ b).toArray⟩ := by
  show (⟨a.toArray ++ b.toArray⟩ : Str) = _
  rw [List.append_toArray]
theorem one_eq (c : Nat) : (⟨#[c]⟩ : Str) = ⟨[c].toArray⟩ := rfl
theorem str_len (a : List Nat) : (⟨a.toArray⟩ : Str).length = a.length := List.size_toArray
theorem sg_at {x : Int} (h0 : 0 ≤ x) (h1 : x < 16) : atI SG.cps.toList x = some (sg x) := by
  rw [sg_eq]
  refine atI_get h0 ?_
  have hl : x.toNat < sgL.length := by show x.toNat < 16; omega
  unfold sg
  rw [List.getD_eq_getElem?_getD, List.getElem?_eq_getElem hl]
  rfl
theorem nl_eq : ("\n" : Str) = ⟨#[10]⟩ := by decide +kernel
theorem bl_eq : (" " : Str) = ⟨#[32]⟩ := by decide +kernel
theorem small_sz {n : Nat} (h : n ≤ 100000) : n ≤ sizeLine := Nat.le_trans h (by decide)
theorem sep_of {i : Nat} : (if i % 16 = 0 then ("\n" : Str) else " ") = ⟨#[sepC i]⟩ := by
  unfold sepC
  split
  · exact nl_eq
  · exact bl_eq
theorem joinL_nil : ∀ ps : List (List Nat), TL.joinL [] ps = ps.flatten
  | [] => rfl
  | [p] => by simp [TL.joinL]
  | p :: q :: r => by
    show p ++ ([] ++ TL.joinL [] (q :: r)) = _
    rw [joinL_nil (q :: r)]
    simp
theorem join_flat (ys : List Str) : Txt.join "" ys = ⟨(ys.map fun y => y.cps.toList).flatten.toArray⟩ := by
  rw [TL.join_eq]
  have h := TL.tl_join "" ys
  rw [show TL.tl "" = [] from rfl, joinL_nil] at h
  rw [str_eta (Str.join "" ys)]
  exact congrArg (fun l => (⟨l.toArray⟩ : Str)) h
/-! ### promises -/
def spBetween : Sp := fun vs H Q _ => ∃ k : Nat, vs = [.int k] ∧ Q (.str ⟨#[sepC k]⟩) H
def spMay : Sp := fun vs H Q _ => ∃ c k : Nat, vs = [.str ⟨#[c]⟩, .int k] ∧ Q (.bl (okAt c k)) H
def spHexD (K : PySem.W.Frag) : Sp := fun vs H Q _ => ∃ (a : Addr) (bs : List Int), vs = [.ref a] ∧ SqT K H a (bs.map V.int) ∧ (∀ b ∈ bs, 0 ≤ b ∧ b < 256) ∧ bs.length ≤ 1000 ∧
  ∀ H', Same H H' → Q (.str ⟨(hexF 0 bs).toArray⟩) H'
theorem item_of {ns : List Int} {i : Nat} {y : V} (hi : (ns.map V.int)[i]? = some y) : ∃ z, ns[i]? = some z ∧ y = V.int z := by
  rw [List.getElem?_map] at hi
  cases e : ns[i]? with
  | none => rw [e] at hi; cases hi
  | some z => rw [e] at hi; exact ⟨z, rfl, (Option.some.inj hi).symm⟩
section
variable {P : Program} {w : World} {K : PySem.W.Frag} {mg : Str → Option Value} {base : Heap}
abbrev s_between : Stmt := top 5
theorem sc_between : FnScope ["many"] ["many"] (defScope s_between) := ⟨rfl, rfl, rfl, by decide +kernel, rfl, by decide +kernel, by decide +kernel⟩
theorem ok_between {f : Addr} {fd : FuncData} (F : Fun K "between" "between" s_between f fd) (T : Txt mg) : FnOk P w K mg base CX0 1 f fd ["many"] spBetween := by
  refine F.ok sc_between (fun vs H Q E h => ?_) (fun cdv A outer s H vs Q E hr h => ?_)
  · obtain ⟨k, rfl, _⟩ := h
    rfl
  · obtain ⟨k, rfl, q⟩ := h
    obtain ⟨tR, g_IN_A_ROW⟩ := T.g_IN_A_ROW
    refine ⟨_, (pss_one (ps_ret (pe_ifExp (pt_cmpR op_eq (pe_op op_mod (pv 0) (pe_glob (v := .int 16) rfl g_IN_A_ROW ⟨_, rfl⟩)) pe_int (nomark _)) pe_str pe_str))), ?_⟩
    refine go_at (σ' := [some (.int k)]) rfl ?_
    walk_at "s"
    rw [← sep_of] at q
    refine ifdI (fun e => ?_) (fun e => ?_)
    · rw [if_pos (by omega)] at q
      walk_at "s"
      exact q
    · rw [if_neg (by omega)] at q
      walk_at "s"
      exact q
abbrev s_may_be : Stmt := top 7
theorem sc_may_be : FnScope ["sign", "at"] ["sign", "at"] (defScope s_may_be) := ⟨rfl, rfl, rfl, by decide +kernel, rfl, by decide +kernel, by decide +kernel⟩
theorem ok_may_be {f : Addr} {fd : FuncData} (F : Fun K "may_be" "may_be" s_may_be f fd) (T : Txt mg) (D_between : OkD P w K mg base CX0 1 "between" ["many"] spBetween) : FnOk P w K mg base CX0 2 f fd ["sign", "at"] spMay := by
  refine F.ok sc_may_be (fun vs H Q E h => ?_) (fun cdv A outer s H vs Q E hr h => ?_)
  · obtain ⟨c, k, rfl, _⟩ := h
    rfl
  · obtain ⟨c, k, rfl, q⟩ := h
    obtain ⟨tR, g_SIGNS⟩ := T.g_SIGNS
    refine ⟨_, (pss_one (ps_ret (pe_ifExp (pt_cmpR op_eq (pe_op op_mod (pv 1) pe_int) pe_int (nomark _)) (pe_cmpR op_eq (pv 0) (pe_callD D_between (hr.mono (by decide)) (pa_cons (pe_op op_add (pe_op op_fdiv (pv 1) pe_int) pe_int) pa_nil)) (nomark _)) (pe_cmpR op_in_sign (pv 0) (pe_glob (v := .str "0123456789abcdef") rfl g_SIGNS ⟨_, rfl⟩) rfl)))), ?_⟩
    refine go_at (σ' := [some (.str ⟨#[c]⟩), some (.int k)]) rfl ?_
    walk_at "s"
    refine ifdI (fun e => ?_) (fun e => ?_)
    · walk_at "s"
      refine ⟨k / 3 + 1, by rw [show ((k : Int) / 3 + 1) = ((k / 3 + 1 : Nat) : Int) by omega], ?_⟩
      walk_at "s"
      have h3 : k % 3 = 2 := by omega
      have eb : okAt c k = decide (V.str ⟨#[c]⟩ = V.str ⟨#[sepC (k / 3 + 1)]⟩) := by
        unfold okAt
        rw [if_pos h3]
        by_cases hc : c = sepC (k / 3 + 1)
        · rw [hc]
          simp
        · have : ¬ (V.str ⟨#[c]⟩ = V.str ⟨#[sepC (k / 3 + 1)]⟩) := fun z => hc (by have := V.str.inj z; injection this with h; simpa using h)
          simp [hc, this]
      rw [← eb]
      exact q
    · walk_at "s"
      have h3 : ¬ k % 3 = 2 := by omega
      refine ⟨c, _, rfl, rfl, ?_⟩
      have eb : okAt c k = decide (c ∈ ("0123456789abcdef" : Str).cps.toList) := by
        unfold okAt
        rw [if_neg h3, ← sg_eq]
        rfl
      rw [← eb]
      exact q
abbrev s__law_hex : Stmt := top 16
theorem sc__law_hex : FnScope ["_law_row", "_law_found", "_law_k"] ["_law_row"] (defScope s__law_hex) := ⟨rfl, rfl, rfl, by decide +kernel, rfl, by decide +kernel, by decide +kernel⟩
theorem ok__law_hex {f : Addr} {fd : FuncData} (F : Fun K "_law_hex" "_law_hex" s__law_hex f fd) (T : Txt mg) : FnOk P w K mg base CX0 1 f fd ["_law_row"] (spHexD K) := by
  refine F.ok sc__law_hex (fun vs H Q E h => ?_) (fun cdv A outer s H vs Q E hr h => ?_)
  · obtain ⟨a, bs, rfl, _⟩ := h
    rfl
  · obtain ⟨a, bs, rfl, hS, hb, hlen, k⟩ := h
    refine ⟨_, (pss_cons (ps_set (i := 1) sc__law_hex.nd rfl (Or.inl rfl) pe_str)
      (pss_cons (ps_for PassesOwn.never rfl (pi_range1 (by rfl) T.n_range (pa_cons (pe_callB call_len (by rfl) T.n_len (by decide +kernel) (pa_cons (pv 0) pa_nil)) pa_nil)) (pg_name (i := 2) sc__law_hex.nd rfl (Or.inl rfl))
        (pss_cons (ps_if (pt_cmpR op_gt (pv 2) pe_int (nomark _))
        (pss_one (ps_set (i := 1) sc__law_hex.nd rfl (Or.inl rfl) (pe_op op_add_str (pv 1) (pe_ix ix_list (pe_lst (pa_cons pe_str (pa_cons pe_str pa_nil))) (pe_callTy call_int1 (by rfl) T.n_int (by decide +kernel) (pa_cons (pe_cmpR op_gt (pe_op op_mod (pv 2) pe_int) pe_int (nomark _)) pa_nil)) (fun _ _ => rfl)))))
        pss_nil)
      (pss_one (ps_set (i := 1) sc__law_hex.nd rfl (Or.inl rfl) (pe_op op_add_str (pe_op op_add_str (pv 1) (pe_ix ix_str pe_str (pe_op op_fdiv (pe_ix ix_tup (pv 0) (pv 2) (fun _ _ => rfl)) pe_int) (fun _ _ => rfl))) (pe_ix ix_str pe_str (pe_op op_mod (pe_ix ix_tup (pv 0) (pv 2) (fun _ _ => rfl)) pe_int) (fun _ _ => rfl)))))))
      (pss_one (ps_ret (pv 1))))), ?_⟩
    refine go_at (σ' := [some (.ref a), none, none]) rfl ?_
    walk_at "s"
    refine ⟨_, bs.length, rfl, .inr ⟨_, hS, (List.length_map ..).symm⟩, ?_⟩
    walk_at "s"
    refine ⟨_, rfl, by omega, by omega, f_range (lo := 0) (n := bs.length) (fun i σ H' => ∃ t : Option V, σ = [some (.ref a), some (.str ⟨(hexF 0 (bs.take i)).toArray⟩), t] ∧ Same H H') ⟨none, rfl, Same.refl H⟩ ?_ ?_⟩
    · rintro i _ H' hi ⟨t, rfl, s1⟩
      obtain ⟨b, hbi⟩ : ∃ b, bs[i]? = some b := ⟨bs[i], List.getElem?_eq_getElem hi⟩
      obtain ⟨b0, b1⟩ := hb b (List.mem_of_getElem? hbi)
      have hat : atI (bs.map V.int) (0 + (i : Nat)) = some (.int b) := atI_get (by omega) (by rw [Int.zero_add, Int.toNat_natCast, List.getElem?_map, hbi]; rfl)
      have hl1 : (hexF 0 (bs.take i)).length ≤ 3000 := by
        have := hex_len (bs := bs.take i) fun x hx => hb x (List.mem_of_mem_take hx)
        rw [List.length_take] at this
        omega
      have hsn : hexF 0 (bs.take (i + 1)) = hexF 0 (bs.take i) ++ piece i b := by
        rw [take_more hbi, hexF_snoc, List.length_take, Nat.min_eq_left (by omega), Nat.zero_add]
      walk_at "s"
      refine s_cut (fun σ' H2 => ∃ pre : List Nat, pre.length ≤ 3001 ∧ pre ++ [sg (b / 16), sg (b % 16)] = hexF 0 (bs.take (i + 1)) ∧ σ' = [some (.ref a), some (.str ⟨pre.toArray⟩), some (.int (0 + (i : Nat)))] ∧ Same H H2) ?_ ?_ ?_
      · rintro _ H2 ⟨pre, hp, e, rfl, s2⟩
        walk_at "s"
        refine r_ixT (same_seqT s2 hS) hat ?_
        walk_at "s"
        refine r_ixS (by decide) (sg_at (x := b / 16) (by omega) (by omega)) ?_
        refine ⟨_, _, rfl, rfl, ?_, ?_⟩
        · rw [str_len]; exact small_sz (by show pre.length + 1 ≤ _; omega)
        rw [one_eq, str_app]
        walk_at "s"
        refine r_ixT (same_seqT s2 hS) hat ?_
        walk_at "s"
        refine r_ixS (by decide) (sg_at (x := b % 16) (by omega) (by omega)) ?_
        refine ⟨_, _, rfl, rfl, ?_, ?_⟩
        · rw [str_len, List.length_append]; exact small_sz (by show pre.length + 1 + 1 ≤ _; omega)
        rw [one_eq, str_app, List.append_assoc]
        exact ⟨_, by rw [← e]; rfl, s2⟩
      · intro hk nx' hR
        have hi0 : i ≠ 0 := by have := of_decide_eq_true hk; omega
        walk_at "s"
        refine ⟨by show 2 ≤ sizeLine; decide, s_new fun q H2 hq s2 h2 => ?_⟩
        walk_at "s"
        refine .inr ⟨_, rfl, ?_⟩
        have s3 := s1.trans s2
        have hsep : atI [V.str "\n", V.str " "] (if decide (0 < (0 + (i : Nat) : Int) % 16) = true then 1 else 0) = some (.str ⟨#[sepC i]⟩) := by
          rw [← sep_of]
          by_cases h : i % 16 = 0
          · rw [if_pos h, if_neg (by simp; omega)]
            rfl
          · rw [if_neg h, if_pos (by simp; omega)]
            rfl
        refine r_ixL (sqL h2) hsep ?_
        refine ⟨_, _, rfl, rfl, by rw [str_len]; exact small_sz (by show (hexF 0 (bs.take i)).length + 1 ≤ _; omega), ?_⟩
        rw [one_eq, str_app]
        refine hR _ _ ⟨hexF 0 (bs.take i) ++ [sepC i], by rw [List.length_append]; show _ + 1 ≤ _; omega, ?_, rfl, s3⟩
        rw [hsn]
        unfold piece
        rw [if_neg hi0, List.append_assoc]
      · intro hk nx' hR
        have hi0 : i = 0 := by have := of_decide_eq_false hk; omega
        walk_at "s"
        refine hR _ _ ⟨hexF 0 (bs.take i), by omega, ?_, rfl, s1⟩
        rw [hsn]
        unfold piece
        rw [if_pos hi0]
        rfl
    · rintro _ H' ⟨t, rfl, s1⟩
      walk_at "s"
      rw [List.take_length]
      exact k _ s1
abbrev s_show_hex : Stmt := top 6
theorem sc_show_hex : FnScope ["row", "pieces", "many", "byte"] ["row"] (defScope s_show_hex) := ⟨rfl, rfl, rfl, by decide +kernel, rfl, by decide +kernel, by decide +kernel⟩
theorem ok_show_hex {f : Addr} {fd : FuncData} (F : Fun K "show_hex" "show_hex" s_show_hex f fd) (T : Txt mg) (D_between : OkD P w K mg base CX0 1 "between" ["many"] spBetween) : FnOk P w K mg base CX0 2 f fd ["row"] (spHexD K) := by
  refine F.ok sc_show_hex (fun vs H Q E h => ?_) (fun cdv A outer s H vs Q E hr h => ?_)
  · obtain ⟨a, bs, rfl, _⟩ := h
    rfl
  · obtain ⟨a, bs, rfl, hS, hb, hlen, k⟩ := h
    obtain ⟨tR, g_SIGNS⟩ := T.g_SIGNS
    refine ⟨_, (pss_cons (ps_set (i := 1) sc_show_hex.nd rfl (Or.inl rfl) (pe_lst pa_nil))
      (pss_cons (ps_for PassesOwn.never rfl (pi_enumT (by rfl) T.n_enumerate (pa_cons (pv 0) pa_nil)) (pg_tup rfl (pgs_cons (pg_name (i := 2) sc_show_hex.nd rfl (Or.inl rfl)) (pgs_cons (pg_name (i := 3) sc_show_hex.nd rfl (Or.inl rfl)) pgs_nil)))
        (pss_one (ps_expr (pe_bm PySem.F.plainAttrs_list PySem.F.slot_list_append PySem.F.type_list_append mt_append (pv 1) (pa_cons (pe_op op_add_str (pe_op op_add_str (pe_ifExp (pt_cmpR op_eq (pv 2) pe_int (nomark _)) pe_str (pe_callD D_between (hr.mono (by decide)) (pa_cons (pv 2) pa_nil))) (pe_ix ix_str (pe_glob (v := .str "0123456789abcdef") rfl g_SIGNS ⟨_, rfl⟩) (pe_op op_fdiv (pv 3) pe_int) (fun _ _ => rfl))) (pe_ix ix_str (pe_glob (v := .str "0123456789abcdef") rfl g_SIGNS ⟨_, rfl⟩) (pe_op op_mod (pv 3) pe_int) (fun _ _ => rfl))) pa_nil)))))
      (pss_one (ps_ret (pe_join pe_str (pv 1)))))), ?_⟩
    refine go_at (σ' := [some (.ref a), none, none, none]) rfl ?_
    walk_at "s"
    refine ⟨Nat.zero_le _, s_new fun l H1 hl s1 h1 => ?_⟩
    walk_at "s"
    refine ⟨a, _, rfl, same_seqT s1 hS, f_it walk_et (fun i σ H' => ∃ t u : Option V, σ = [some (.ref a), some (.ref l), t, u] ∧ Same H H' ∧ ∃ ys : List Str, H' l = some (.lst (ys.map V.str)) ∧ ys.length = i ∧ (ys.map fun y => y.cps.toList).flatten = hexF 0 (bs.take i) ∧ ∀ y ∈ ys, y.length ≤ 3) ⟨none, none, rfl, s1, [], h1, rfl, rfl, fun _ h => by simp at h⟩ (fun i σ H' _ ⟨_, _, _, s2, _⟩ => same_seqT s2 hS) ?_ ?_⟩
    · rintro i x _ H1 H2 hi ⟨t, u, rfl, s2, ys, hys, hyl, hyf, hy3⟩ ⟨T2, y, rfl, hT, rfl, hy⟩
      obtain ⟨b, hbi, rfl⟩ := item_of hy
      obtain ⟨b0, b1⟩ := hb b (List.mem_of_getElem? hbi)
      rw [List.length_map] at hi
      have sT : Same H1 (upd H1 T2 (.tup [.int (0 + (i : Nat)), .int b])) := same_new hT
      have hl2 := sT _ _ hys
      have s3 := s2.trans sT
      refine s_gTup (sqT upd_same) rfl ?_
      generalize upd H1 T2 (.tup [.int (0 + (i : Nat)), .int b]) = H2 at *
      walk_at "s"
      refine ⟨tyL hl2, ?_⟩
      walk_at "s"
      refine s_cutE (fun v H' => v = .str ⟨(if i = 0 then [] else [sepC i] : List Nat).toArray⟩ ∧ H2 = H') ?_ ?_ ?_
      · rintro _ _ ⟨rfl, rfl⟩
        walk_at "s"
        refine r_ixS (by decide) (sg_at (x := b / 16) (by omega) (by omega)) ?_
        refine ⟨_, _, rfl, rfl, ?_, ?_⟩
        · rw [str_len]; exact small_sz (by split <;> show _ + 1 ≤ _ <;> simp)
        rw [one_eq, str_app]
        walk_at "s"
        refine r_ixS (by decide) (sg_at (x := b % 16) (by omega) (by omega)) ?_
        refine ⟨_, _, rfl, rfl, ?_, ?_⟩
        · rw [str_len]; exact small_sz (by split <;> show _ + 1 ≤ _ <;> simp)
        rw [one_eq, str_app, List.append_assoc]
        walk_at "s"
        refine r_append hl2 (by rw [List.length_map, hyl]; exact small1000 (by omega)) ?_
        refine ⟨_, _, rfl, same_mut s3 hl, ys ++ [⟨(piece i b).toArray⟩], by rw [upd_same, List.map_append]; rfl, by rw [List.length_append, hyl]; rfl, ?_, ?_⟩
        · rw [List.map_append, List.flatten_append, hyf, take_more hbi, hexF_snoc, List.length_take, Nat.min_eq_left (by omega), Nat.zero_add]
          simp
        · intro y hy
          rcases List.mem_append.mp hy with h | h
          · exact hy3 y h
          · have e : y = ⟨(piece i b).toArray⟩ := by simpa using h
            rw [e, str_len, piece_len]
            split <;> omega
      · intro he Q' hQ
        have h0 : i = 0 := by have := V.int.inj (of_decide_eq_true he); omega
        walk_at "s"
        exact hQ _ _ ⟨by rw [if_pos h0]; rfl, rfl⟩
      · intro he Q' hQ
        have h0 : i ≠ 0 := fun z => by have := of_decide_eq_false he; exact this (by rw [z]; rfl)
        walk_at "s"
        refine ⟨i, by rw [Int.zero_add], hQ _ _ ⟨by rw [if_neg h0], rfl⟩⟩
    · rintro _ H' ⟨t, u, rfl, s2, ys, hys, hyl, hyf, hy3⟩
      walk_at "s"
      have hsum : (ys.map (·.length)).sum ≤ 3 * ys.length := by
        clear hys hyl hyf
        induction ys with
        | nil => simp
        | cons y r ih =>
          have h1 := hy3 y (by simp)
          have h2 := ih fun z hz => hy3 z (by simp [hz])
          simp only [List.map_cons, List.sum_cons, List.length_cons]
          omega
      rw [List.length_map] at hyl hyf
      rw [List.take_length] at hyf
      refine ⟨_, l, ys, rfl, rfl, .inl (sqL hys), ?_, ?_⟩
      · rw [show Str.length "" = 0 from rfl]
        omega
      · have e : Txt.join "" ys = ⟨(hexF 0 bs).toArray⟩ := by
          rw [← hyf]
          exact join_flat ys
        rw [e]
        exact k _ s2
end
end C01

namespace C01
open PySem L2 Br M01
local macro_rules | `(tactic| walk_at "side") => `(tactic| first | omega | (show (0 : Int) < _; omega) | exact ⟨by omega, by omega⟩ | exact Or.inl ⟨by omega, by omega⟩ | exact Or.inr ⟨by omega, by omega⟩ | exact ⟨by decide, by decide, by decide⟩ | assumption)
local macro_rules | `(tactic| walk_at "s1") => `(tactic| first
  | ((with_reducible apply s_var); exact rfl)
  | with_reducible refine s_c ?_ | with_reducible refine s_op ?_ | with_reducible refine s_un ?_ | with_reducible refine s_I0 ?_
  | ((with_reducible refine s_I ?_ ?_); walk_at "side")
  | with_reducible refine s_U ?_ | ((with_reducible refine s_eq ?_ ?_); exact rfl) | ((with_reducible refine s_ne ?_ ?_); exact rfl)
  | with_reducible refine s_test ?_ | with_reducible refine s_tB ?_ | with_reducible refine s_bl ?_ | with_reducible refine s_and ?_ | with_reducible refine s_or ?_ | with_reducible refine s_not ?_
  | with_reducible refine s_andV ?_ | with_reducible refine s_orV ?_ | with_reducible refine s_notV ?_ | with_reducible refine s_if ?_ | with_reducible refine s_ifS ?_
  | with_reducible refine s_seq ?_ | with_reducible refine s_next ?_ | with_reducible refine s_asg ?_ | with_reducible refine s_par ?_ | with_reducible refine s_two ?_ | with_reducible refine s_ret ?_ | with_reducible refine s_retN ?_ | with_reducible refine s_drop ?_
  | with_reducible refine s_nil ?_ | with_reducible refine s_cons ?_ | with_reducible refine s_cl ?_ | with_reducible refine s_clS ?_ | with_reducible refine s_cb ?_ | with_reducible refine s_sl ?_ | with_reducible refine s_part ?_ | with_reducible refine s_nopart ?_ | with_reducible refine s_int ?_
  | with_reducible refine s_dget ?_ | with_reducible refine s_dput ?_ | with_reducible refine s_bm ?_ | with_reducible refine s_bm0 ?_ | with_reducible refine s_m1 ?_ | with_reducible refine s_isstr ?_ | with_reducible refine s_kf ?_ | with_reducible refine s_lst ?_ | with_reducible refine s_tup ?_
  | with_reducible refine s_pairs ?_ | with_reducible refine s_pairs0 ?_ | with_reducible refine s_disp ?_ | with_reducible refine s_dnew ?_ | with_reducible refine s_for ?_ | with_reducible refine s_lc ?_ | with_reducible refine s_iList ?_ | with_reducible refine s_iTup ?_ | with_reducible refine s_iRng1 ?_ | with_reducible refine s_iRng2 ?_ | with_reducible refine s_iRng3 ?_ | with_reducible refine s_vei ?_ | with_reducible refine s_ost ?_ | with_reducible refine s_mkx ?_ | with_reducible refine s_rz ?_ | with_reducible refine s_iEnumT ?_ | with_reducible refine s_iEnumS ?_ | with_reducible refine s_revS ?_ | with_reducible refine s_yes ?_
  | with_reducible refine s_gName ?_ | with_reducible refine s_gCons ?_ | with_reducible refine s_gNil ?_)
local macro_rules | `(tactic| walk_at "s") => `(tactic| repeat walk_at "s1")
def spSigns : Sp := fun vs H Q _ => vs = [] ∧ ∀ z : Str, 0 < z.length → z.length ≤ 1000 → Q (.str z) H
def spBent : Sp := fun vs H Q _ => ∃ (d c : Addr) (n : Nat) (t near : Str), vs = [.ref d, .str t, .str near] ∧ PenAt penKey H d c n ∧ n < 100000000 ∧ t.length ≤ 10000 ∧ 0 < near.length ∧ near.length ≤ 1000 ∧
  ∀ (z : Str) (H' : Hp), z.length ≤ 3 * t.length + 3 → PenAt penKey H' d c (n + 4) → SBut d H H' → Q (.str z) H'
section
variable {P : Program} {w : World} {K : PySem.W.Frag} {mg : Str → Option Value} {base : Heap}
abbrev s__law_signs : Stmt := top 13
theorem sc__law_signs : FnScope ["_law_signs_here"] [] (defScope s__law_signs) := ⟨rfl, rfl, rfl, by decide +kernel, rfl, by decide +kernel, by decide +kernel⟩
theorem ok__law_signs {f : Addr} {fd : FuncData} (F : Fun K "_law_signs" "_law_signs" s__law_signs f fd) : FnOk P w K mg base CX0 1 f fd [] spSigns := by
  refine F.ok sc__law_signs (fun vs H Q E h => ?_) (fun cdv A outer s H vs Q E hr h => ?_)
  · obtain ⟨rfl, _⟩ := h
    rfl
  · obtain ⟨rfl, k⟩ := h
    refine ⟨_, (pss_cons (ps_set (i := 0) sc__law_signs.nd rfl (Or.inl rfl) pe_str)
      (pss_one (ps_ret (pe_op op_add_str (pv 0) pe_str)))), ?_⟩
    refine go_at (σ' := [none]) rfl ?_
    walk_at "s"
    refine ⟨_, _, rfl, rfl, by decide +kernel, k _ ?_ ?_⟩
    · rw [app_len]
      decide +kernel
    · rw [app_len]
      decide +kernel
abbrev s__law_bent_text : Stmt := top 14
theorem sc__law_bent_text : FnScope ["_law_pen", "_law_text", "_law_near", "_law_spot", "_law_way", "_law_signs_here", "_law_sign"] ["_law_pen", "_law_text", "_law_near"] (defScope s__law_bent_text) := ⟨rfl, rfl, rfl, by decide +kernel, rfl, by decide +kernel, by decide +kernel⟩
theorem ok__law_bent_text {f : Addr} {fd : FuncData} (F : Fun K "_law_bent_text" "_law_bent_text" s__law_bent_text f fd) (T : Txt mg) (D__law_draw : OkD P w K mg base CX0 1 "_law_draw" ["_law_pen", "_law_span"] (spDraw penKey)) (D__law_signs : OkD P w K mg base CX0 1 "_law_signs" [] spSigns) :
    FnOk P w K mg base CX0 2 f fd ["_law_pen", "_law_text", "_law_near"] spBent := by
  refine F.ok sc__law_bent_text (fun vs H Q E h => ?_) (fun cdv A outer s H vs Q E hr h => ?_)
  · obtain ⟨d, cl, n, t, near, rfl, _⟩ := h
    rfl
  · obtain ⟨d, cl, n, t, near, rfl, pen, hn, ht, hn0, hn1, k⟩ := h
    refine ⟨_, (pss_cons (ps_par (i := 3) (j := 4) rfl sc__law_bent_text.nd rfl rfl (by decide) rfl rfl (pa_cons (pe_callD D__law_draw (hr.mono (by decide)) (pa_cons (pv 0) (pa_cons (pe_op op_add (pe_callB call_len (by rfl) T.n_len (by decide +kernel) (pa_cons (pv 1) pa_nil)) pe_int) pa_nil))) (pa_cons (pe_callD D__law_draw (hr.mono (by decide)) (pa_cons (pv 0) (pa_cons pe_int pa_nil))) pa_nil)) (by rfl))
      (pss_cons (ps_set (i := 5) sc__law_bent_text.nd rfl (Or.inl rfl) (pe_ix ix_list (pe_lst (pa_cons (pv 2) (pa_cons (pe_callD0 D__law_signs (hr.mono (by decide))) pa_nil))) (pe_callD D__law_draw (hr.mono (by decide)) (pa_cons (pv 0) (pa_cons pe_int pa_nil))) (fun _ _ => rfl)))
      (pss_cons (ps_set (i := 6) sc__law_bent_text.nd rfl (Or.inl rfl) (pe_ix ix_str (pv 5) (pe_callD D__law_draw (hr.mono (by decide)) (pa_cons (pv 0) (pa_cons (pe_callB call_len (by rfl) T.n_len (by decide +kernel) (pa_cons (pv 5) pa_nil)) pa_nil))) (fun _ _ => rfl)))
      (pss_cons (ps_if (pt_cmpR op_lt (pv 4) pe_int (nomark _))
        (pss_one (ps_ret (pe_op op_add_str (pe_op op_add_str (pe_slice sl_str (pv 1) po_none (po_some (pv 3))) (pv 6)) (pe_slice sl_str (pv 1) (po_some (pe_op op_add (pv 3) (pe_op op_fdiv (pv 4) pe_int))) po_none))))
        pss_nil)
      (pss_cons (ps_if (pt_cmpR op_eq (pv 4) pe_int (nomark _))
        (pss_one (ps_ret (pe_op op_add_str (pe_slice sl_str (pv 1) po_none (po_some (pv 3))) (pe_slice sl_str (pv 1) (po_some (pe_op op_add (pv 3) pe_int)) po_none))))
        pss_nil)
      (pss_cons (ps_if (pt_cmpR op_eq (pv 4) pe_int (nomark _))
        (pss_one (ps_ret (pe_op op_add_str (pe_op op_add_str (pe_slice sl_str (pv 1) po_none (po_some (pv 3))) (pe_revS (pe_slice sl_str (pv 1) (po_some (pv 3)) (po_some (pe_op op_add (pv 3) pe_int))))) (pe_slice sl_str (pv 1) (po_some (pe_op op_add (pv 3) pe_int)) po_none))))
        pss_nil)
      (pss_one (ps_ret (pe_ifExp (pt_cmpR op_eq (pv 4) pe_int (nomark _)) (pe_slice sl_str (pv 1) po_none (po_some (pv 3))) (pe_op op_add_str (pe_op op_add_str (pe_slice sl_str (pv 1) po_none (po_some (pv 3))) (pe_slice sl_str (pv 1) (po_some (pv 3)) (po_some (pe_op op_add (pv 3) pe_int)))) (pe_slice sl_str (pv 1) (po_some (pv 3)) po_none))))))))))), ?_⟩
    refine go_at (σ' := [some (.ref d), some (.str t), some (.str near), none, none, none, none]) rfl ?_
    have tsz : t.length ≤ sizeLine := small_sz (by omega)
    walk_at "s"
    refine ⟨_, _, rfl, ⟨tsz, rfl⟩, ?_⟩
    walk_at "s"
    refine ⟨d, cl, n, _, rfl, pen, by omega, by omega, by omega, fun r1 H1 r10 r11 pen1 sb1 => ?_⟩
    walk_at "s"
    refine ⟨d, cl, n + 1, _, rfl, pen1, by omega, by omega, by omega, fun r2 H2 r20 r21 pen2 sb2 => ?_⟩
    walk_at "s"
    refine ⟨rfl, fun sgn hs0 hs1 => ?_⟩
    walk_at "s"
    refine ⟨by show 2 ≤ sizeLine; decide, s_new fun q H3 hq s3 h3 => ?_⟩
    have pen3 := pen2.mono s3 (Nat.le_refl _)
    walk_at "s"
    refine ⟨d, cl, n + 2, _, rfl, pen3, by omega, by omega, by omega, fun r3 H4 r30 r31 pen4 sb4 => ?_⟩
    obtain ⟨x, hx, ha⟩ := atI_mem (xs := [.str near, .str sgn]) r30 (by show r3 < 2; exact r31)
    refine r_ixL (sqL (sb4 _ _ (pen3.ne h3) h3)) ha ?_
    obtain ⟨z, rfl, hz0, hz1⟩ : ∃ z : Str, x = .str z ∧ 0 < z.length ∧ z.length ≤ 1000 := by
      have hx' : x = .str near ∨ x = .str sgn := by simpa using hx
      rcases hx' with e | e
      · exact ⟨near, e, hn0, hn1⟩
      · exact ⟨sgn, e, hs0, hs1⟩
    walk_at "s"
    refine ⟨_, _, rfl, ⟨small_sz (by omega), rfl⟩, ?_⟩
    walk_at "s"
    refine ⟨d, cl, n + 3, _, rfl, pen4, by omega, by omega, by omega, fun r4 H5 r40 r41 pen5 sb5 => ?_⟩
    obtain ⟨c, hc, _⟩ := atI_lt (xs := z.cps.toList) r40 (by rw [Array.length_toList]; exact r41)
    refine r_ixS (small_sz (by omega)) hc ?_
    have sb : SBut d H H5 := ((((sb1.trans sb2).then s3).trans sb4).trans sb5)
    have fin : ∀ y : Str, y.length ≤ 3 * t.length + 3 → Q (.str y) H5 := fun y hy => k y H5 hy pen5 sb
    have l1 : (⟨#[c]⟩ : Str).length = 1 := rfl
    walk_at "s"
    refine ifb (fun _ => ?_) (fun _ => ?_)
    · walk_at "s"
      refine r_slS tsz fun y1 _ hy1 => ?_
      walk_at "s"
      refine ⟨_, _, rfl, rfl, small_sz (by omega), ?_⟩
      walk_at "s"
      refine r_slS tsz fun y2 _ hy2 => ?_
      refine ⟨_, _, rfl, rfl, by rw [app_len]; exact small_sz (by omega), fin _ ?_⟩
      rw [app_len, app_len]
      omega
    walk_at "s"
    refine ifb (fun _ => ?_) (fun _ => ?_)
    · walk_at "s"
      refine r_slS tsz fun y1 _ hy1 => ?_
      walk_at "s"
      refine r_slS tsz fun y2 _ hy2 => ?_
      refine ⟨_, _, rfl, rfl, small_sz (by omega), fin _ ?_⟩
      rw [app_len]
      omega
    walk_at "s"
    refine ifb (fun _ => ?_) (fun _ => ?_)
    · walk_at "s"
      refine r_slS tsz fun y1 _ hy1 => ?_
      walk_at "s"
      refine r_slS tsz fun y2 _ hy2 => ?_
      refine ⟨_, rfl, small_sz (by omega), fun y3 hy3 => ?_⟩
      refine ⟨_, _, rfl, rfl, small_sz (by omega), ?_⟩
      walk_at "s"
      refine r_slS tsz fun y4 _ hy4 => ?_
      refine ⟨_, _, rfl, rfl, by rw [app_len]; exact small_sz (by omega), fin _ ?_⟩
      rw [app_len, app_len]
      omega
    walk_at "s"
    refine ifb (fun _ => ?_) (fun _ => ?_)
    · walk_at "s"
      refine r_slS tsz fun y1 _ hy1 => fin _ ?_
      omega
    · walk_at "s"
      refine r_slS tsz fun y1 _ hy1 => ?_
      walk_at "s"
      refine r_slS tsz fun y2 _ hy2 => ?_
      refine ⟨_, _, rfl, rfl, small_sz (by omega), ?_⟩
      walk_at "s"
      refine r_slS tsz fun y3 _ hy3 => ?_
      refine ⟨_, _, rfl, rfl, by rw [app_len]; exact small_sz (by omega), fin _ ?_⟩
      rw [app_len, app_len]
      omega
end
end C01

namespace C01
open PySem L2 Br M01
local macro_rules | `(tactic| walk_at "side") => `(tactic| first | omega | (show (0 : Int) < _; omega) | exact ⟨by omega, by omega⟩ | exact Or.inl ⟨by omega, by omega⟩ | exact Or.inr ⟨by omega, by omega⟩ | exact ⟨by decide, by decide, by decide⟩ | assumption)
local macro_rules | `(tactic| walk_at "s1") => `(tactic| first
  | ((with_reducible apply s_var); exact rfl)
  | with_reducible refine s_c ?_ | with_reducible refine s_op ?_ | with_reducible refine s_un ?_ | with_reducible refine s_I0 ?_
  | ((with_reducible refine s_I ?_ ?_); walk_at "side")
  | with_reducible refine s_U ?_ | ((with_reducible refine s_eq ?_ ?_); exact rfl) | ((with_reducible refine s_ne ?_ ?_); exact rfl)
  | with_reducible refine s_test ?_ | with_reducible refine s_tB ?_ | with_reducible refine s_bl ?_ | with_reducible refine s_and ?_ | with_reducible refine s_or ?_ | with_reducible refine s_not ?_
  | with_reducible refine s_andV ?_ | with_reducible refine s_orV ?_ | with_reducible refine s_notV ?_ | with_reducible refine s_if ?_ | with_reducible refine s_ifS ?_
  | with_reducible refine s_seq ?_ | with_reducible refine s_next ?_ | with_reducible refine s_asg ?_ | with_reducible refine s_par ?_ | with_reducible refine s_two ?_ | with_reducible refine s_ret ?_ | with_reducible refine s_retN ?_ | with_reducible refine s_drop ?_
  | with_reducible refine s_nil ?_ | with_reducible refine s_cons ?_ | with_reducible refine s_cl ?_ | with_reducible refine s_clS ?_ | with_reducible refine s_cb ?_ | with_reducible refine s_sl ?_ | with_reducible refine s_part ?_ | with_reducible refine s_nopart ?_ | with_reducible refine s_int ?_
  | with_reducible refine s_dget ?_ | with_reducible refine s_dput ?_ | with_reducible refine s_bm ?_ | with_reducible refine s_bm0 ?_ | with_reducible refine s_m1 ?_ | with_reducible refine s_isstr ?_ | with_reducible refine s_kf ?_ | with_reducible refine s_lst ?_ | with_reducible refine s_tup ?_
  | with_reducible refine s_pairs ?_ | with_reducible refine s_pairs0 ?_ | with_reducible refine s_disp ?_ | with_reducible refine s_dnew ?_ | with_reducible refine s_for ?_ | with_reducible refine s_lc ?_ | with_reducible refine s_iList ?_ | with_reducible refine s_iTup ?_ | with_reducible refine s_iRng1 ?_ | with_reducible refine s_iRng2 ?_ | with_reducible refine s_iRng3 ?_ | with_reducible refine s_vei ?_ | with_reducible refine s_ost ?_ | with_reducible refine s_mkx ?_ | with_reducible refine s_rz ?_ | with_reducible refine s_iEnumT ?_ | with_reducible refine s_iEnumS ?_ | with_reducible refine s_revS ?_ | with_reducible refine s_yes ?_
  | with_reducible refine s_gName ?_ | with_reducible refine s_gCons ?_ | with_reducible refine s_gNil ?_)
local macro_rules | `(tactic| walk_at "s") => `(tactic| repeat walk_at "s1")
/-- a text, or what is none -/
def Thing (K : PySem.W.Frag) (H : Hp) (v : V) : Prop := (∃ z : Str, v = .str z ∧ z.length ≤ 100000) ∨ ((∀ z : Str, v ≠ .str z) ∧ ∃ t : String, TyX K H v (.type t) ∧ kitB t "str" = some false)
def spRead (K : PySem.W.Frag) (C : Addr) : Sp := fun vs H Q E => ∃ v, vs = [v] ∧ Thing K H v ∧
  (∀ k : Nat, rdV v = .inl k → ∀ (d : Addr) (H' : Hp), H d = none → Same H H' → H' d = some (.xd [("at", .int k)]) → E (.ref C) (some d) H') ∧
  (∀ xs, rdV v = .inr xs → ∀ (p : Addr) (H' : Hp), Same H H' → H' p = some (.tup (xs.map V.int)) → Q (.ref p) H')
def spRes (K : PySem.W.Frag) : Sp := fun vs H Q _ => ∃ v, vs = [v] ∧ Thing K H v ∧ ∀ (p : Addr) (H' : Hp), Same H H' → Dp K H' (.ref p) (told (rdV v)) → Q (.ref p) H'
theorem rg3 {n : Nat} (h : n ≤ 1000000) : RgC 0 n 3 ((n + 2) / 3) := by
  have e : Builtin.Range.rangeSize 0 n 3 = (((n + 2) / 3 : Nat) : Int) := by
    unfold Builtin.Range.rangeSize
    rw [if_pos (by decide)]
    split <;> omega
  refine ⟨by decide, by decide, ?_, e⟩
  unfold Builtin.Range.small
  rw [e]
  have f : ∀ x : Int, -(2 ^ 62) ≤ x → x < 2 ^ 62 → Builtin.Range.rangeFitsLong x = true := fun x h1 h2 => by
    simp only [Builtin.Range.rangeFitsLong, Bool.and_eq_true, decide_eq_true_eq]
    omega
  rw [f 0 (by omega) (by omega), f n (by omega) (by omega), f 3 (by omega) (by omega), f _ (by omega) (by omega), if_pos (by decide), f _ (by omega) (by omega), Bool.or_true]
  rfl
theorem ne_empty (z : Str) : z ≠ "" ↔ z.cps.toList ≠ [] := by
  constructor
  · intro h e
    exact h (by rw [str_eta z, e]; rfl)
  · intro h e
    exact h (by rw [e]; rfl)
theorem tl_len (z : Str) : z.length = z.cps.toList.length := by rw [Array.length_toList]; rfl
section
variable {P : Program} {w : World} {K : PySem.W.Frag} {mg : Str → Option Value} {base : Heap}
abbrev s_NoHex___init__ : Stmt := inClass (top 1) 0
theorem sc_NoHex___init__ : FnScope ["self", "at"] ["self", "at"] (defScope s_NoHex___init__) := ⟨rfl, rfl, rfl, by decide +kernel, rfl, by decide +kernel, by decide +kernel⟩
theorem ok_NoHex_init {C fI : Addr} {fd : FuncData} (X_NoHex : XcT K mg "NoHex" "NoHex.__init__" s_NoHex___init__ "at" C fI fd) (T : Txt mg) (v_ValueError : PySem.W.findCls K (.type "ValueError") (.type "type") "__init__" = some (.val (.builtin "ValueError.__init__"))) :
    FnOk P w K mg base CX0 1 fI fd ["self", "at"] (spXi C "at") := by
  refine X_NoHex.F.ok sc_NoHex___init__ (fun vs H Q E h => ?_) (fun cdv A outer s H vs Q E hr h => ?_)
  · obtain ⟨a, v, rfl, _⟩ := h
    rfl
  · obtain ⟨a, v, rfl, ha, k⟩ := h
    refine ⟨_, (pss_cons (ps_expr (pe_veinit rfl T.n_ValueError v_ValueError (pa_cons (pv 0) (pa_cons pe_str pa_nil))))
      (pss_one (ps_ost (pv 0) (pv 1)))), ?_⟩
    refine go_at (σ' := [some (.ref a), some v]) rfl ?_
    walk_at "s"
    refine ⟨a, C, _, rfl, by show 1 ≤ 1000; decide, X_NoHex.O, ha, ?_⟩
    walk_at "s"
    refine ⟨a, C, rfl, X_NoHex.O, X_NoHex.n, .inl ⟨ha, fun d hd hda => ?_⟩⟩
    exact k d hd hda
abbrev s_read_hex : Stmt := top 8
theorem sc_read_hex : FnScope ["text", "at", "sign"] ["text"] (defScope s_read_hex) := ⟨rfl, rfl, rfl, by decide +kernel, rfl, by decide +kernel, by decide +kernel⟩
theorem ok_read_hex {f C fI : Addr} {fd fdI : FuncData} (F : Fun K "read_hex" "read_hex" s_read_hex f fd) (T : Txt mg) (X_NoHex : XcT K mg "NoHex" "NoHex.__init__" s_NoHex___init__ "at" C fI fdI) (F_NoHex : FnOk P w K mg base CX0 1 fI fdI ["self", "at"] (spXi C "at")) (B_NoHex : Binds K fdI ["self", "at"] [])
    (D_may_be : OkD P w K mg base CX0 2 "may_be" ["sign", "at"] spMay) : FnOk P w K mg base (L2.CX P w) 4 f fd ["text"] (spRead K C) := by
  refine F.okX sc_read_hex (fun vs H Q E h => ?_) (fun cdv A outer s H vs Q E hr h => ?_)
  · obtain ⟨v, rfl, _⟩ := h
    rfl
  · obtain ⟨v, rfl, hT, kE, kQ⟩ := h
    obtain ⟨tR, g_SIGNS⟩ := T.g_SIGNS
    refine ⟨_, (pss_cons (ps_if (pt_not (pt_val (pe_callB call_isi (by rfl) T.n_isinstance (by decide +kernel) (pa_cons (pv 0) (pa_cons (pe_bltn (v := .ty "str") (by rfl) T.n_str (by decide +kernel) rfl) pa_nil)))))
        (pss_one (ps_rz rfl (takes_of rfl rfl rfl rfl) X_NoHex F_NoHex B_NoHex (hr.mono (by decide)) (pa_cons pe_int pa_nil)))
        pss_nil)
      (pss_cons (ps_for (passes_of rfl) rfl (pi_enumS (by rfl) T.n_enumerate (pa_cons (pv 0) pa_nil)) (pg_tup rfl (pgs_cons (pg_name (i := 1) sc_read_hex.nd rfl (Or.inl rfl)) (pgs_cons (pg_name (i := 2) sc_read_hex.nd rfl (Or.inl rfl)) pgs_nil)))
        (pss_one (ps_if (pt_not (pt_val (pe_callD D_may_be (hr.mono (by decide)) (pa_cons (pv 2) (pa_cons (pv 1) pa_nil)))))
        (pss_one (ps_rz rfl (takes_of rfl rfl rfl rfl) X_NoHex F_NoHex B_NoHex (hr.mono (by decide)) (pa_cons (pv 1) pa_nil)))
        pss_nil)))
      (pss_cons (ps_if (PW.pt (pw_and (pt_cmpR op_ne (pv 0) pe_str (nomark _)) (pw_and1 (pt_cmpR op_ne (pe_op op_mod (pe_callB call_len (by rfl) T.n_len (by decide +kernel) (pa_cons (pv 0) pa_nil)) pe_int) pe_int (nomark _)))))
        (pss_one (ps_rz rfl (takes_of rfl rfl rfl rfl) X_NoHex F_NoHex B_NoHex (hr.mono (by decide)) (pa_cons (pe_callB call_len (by rfl) T.n_len (by decide +kernel) (pa_cons (pv 0) pa_nil)) pa_nil)))
        pss_nil)
      (pss_one (ps_ret (pe_callTy call_tupN (by rfl) T.n_tuple (by decide +kernel) (pa_cons (pe_lc (own := [("at", 1)]) (g := gName 1) (tt := tYes) rfl sc_read_hex.nd (pi_range3 (by rfl) T.n_range (pa_cons pe_int (pa_cons (pe_callB call_len (by rfl) T.n_len (by decide +kernel) (pa_cons (pv 0) pa_nil)) (pa_cons pe_int pa_nil)))) (blkOk_by (own := [("at", 1)]) (N := ["text", "at", "sign"]) (sc := defScope s_read_hex) (by decide +kernel)) (fun _ _ _ _ _ => pg_name (i := 1) sc_read_hex.nd rfl (Or.inl rfl)) (fun _ _ _ _ _ => pts_nil) (fun _ _ _ _ _ => (pe_op op_add (pe_op op_mul (pe_m1 PySem.F.slot_str_index PySem.F.type_str_index mt_sindex (pe_glob (v := .str "0123456789abcdef") rfl g_SIGNS ⟨_, rfl⟩) (pe_ix ix_str (pv 0) (pv 1) (fun _ _ => rfl))) pe_int) (pe_m1 PySem.F.slot_str_index PySem.F.type_str_index mt_sindex (pe_glob (v := .str "0123456789abcdef") rfl g_SIGNS ⟨_, rfl⟩) (pe_ix ix_str (pv 0) (pe_op op_add (pv 1) pe_int) (fun _ _ => rfl)))))) pa_nil))))))), ?_⟩
    refine go_at (σ' := [some v, none, none]) rfl ?_
    walk_at "s"
    rcases hT with ⟨z, rfl, hz⟩ | ⟨hns, t, ty, hk⟩
    · refine ⟨_, _, _, _, true, rfl, .ty "str", .base (.str z), kit_ty (by decide +kernel), ?_⟩
      walk_at "s"
      refine iteF ?_
      walk_at "s"
      refine ⟨z, rfl, f_it walk_es (fun i σ H' => ∃ t u : Option V, σ = [some (.str z), t, u] ∧ Same H H' ∧ ∀ k c, k < i → z.cps.toList[k]? = some c → okAt c k = true) ⟨none, none, rfl, Same.refl H, fun k c h => by omega⟩ (fun _ _ _ _ _ => trivial) ?_ ?_⟩
      · rintro i x _ H1 H2 hi ⟨t, u, rfl, s2, hk⟩ ⟨T2, c, rfl, hT, rfl, hc⟩
        have hc' : z.cps.toList[i]? = some c := by rw [← hc]; simp
        have s3 := s2.trans (same_new (o := .tup [.int (i : Nat), .str ⟨#[c]⟩]) hT)
        refine s_gTup (sqT upd_same) rfl ?_
        generalize upd H1 T2 (.tup [.int (i : Nat), .str ⟨#[c]⟩]) = H2 at *
        walk_at "s"
        refine ⟨c, i, rfl, ?_⟩
        walk_at "s"
        refine ifnb (fun hb => ?_) (fun hb => ?_)
        · walk_at "s"
          refine ⟨_, rfl, fun d H' hd s4 h4 => ?_⟩
          exact kE i (rd_bad hk hc' hb) d H' (s3.free hd) (s3.trans s4) h4
        · walk_at "s"
          refine ⟨_, _, rfl, s3, fun k c' hki hkc => ?_⟩
          by_cases e : k = i
          · subst e
            rw [hc'] at hkc
            cases hkc
            exact hb
          · exact hk k c' (by omega) hkc
      · rintro _ H1 ⟨t, u, rfl, s2, hk⟩
        rw [← Array.length_toList] at hk
        walk_at "s"
        refine s_cutA (fun σ' H' => σ' = [some (.str z), t, u] ∧ H1 = H' ∧ (z.cps.toList = [] ∨ z.cps.toList.length % 3 = 2)) ?_ ?_ ?_
        · rintro _ _ ⟨rfl, rfl, hgood⟩
          walk_at "s"
          refine ⟨_, _, rfl, ⟨small_sz hz, rfl⟩, ?_⟩
          walk_at "s"
          refine ⟨0, z.length, 3, _, rfl, rg3 (by omega), fun D hD => lc_it walk_c (fun i H' => Same H1 H' ∧ H' D = some (.lst (((vals z.cps.toList).take i).map V.int))) ⟨same_new hD, upd_same⟩ (fun _ _ _ _ => trivial) ?_ ?_⟩
          · rintro i x H2 _ hi ⟨s3, h3⟩ ⟨rfl, rfl⟩
            have hil : i < (z.cps.toList.length + 2) / 3 := by rw [← tl_len]; exact hi
            obtain ⟨c1, c2, e1, e2, m1, m2, ev⟩ := two_signs hk hgood hil
            obtain ⟨o1, b1⟩ := occ_ok c1 m1
            obtain ⟨o2, b2⟩ := occ_ok c2 m2
            refine ⟨rfl, ?_⟩
            walk_at "s"
            refine ifT rfl ?_
            walk_at "s"
            refine r_ixS (small_sz hz) (atI_get (x := c1) (by omega) (by rw [show (0 + (i : Nat) * (3 : Int)).toNat = 3 * i by omega]; exact e1)) ?_
            refine ⟨_, _, _, _, rfl, rfl, o1, ?_⟩
            walk_at "s"
            refine r_ixS (small_sz hz) (atI_get (x := c2) (by omega) (by rw [show (0 + (i : Nat) * (3 : Int) + 1).toNat = 3 * i + 1 by omega]; exact e2)) ?_
            refine ⟨_, _, _, _, rfl, rfl, o2, ?_⟩
            walk_at "s"
            have hvl : (vals z.cps.toList)[i]? = some (valAt z.cps.toList i) := by
              unfold vals
              rw [List.getElem?_map, List.getElem?_range hil]
              rfl
            refine ⟨_, h3, ?_, same_mut s3 hD, ?_⟩
            · rw [List.length_map, List.length_take]
              have : (vals z.cps.toList).length = (z.cps.toList.length + 2) / 3 := by unfold vals; rw [List.length_map, List.length_range]
              refine Nat.lt_of_le_of_lt (m := 50000) ?_ (by decide)
              rw [this, ← tl_len]
              omega
            · rw [upd_same, take_more hvl, List.map_append, ev]
              rfl
          · rintro H2 ⟨s3, h3⟩
            have : (vals z.cps.toList).length = (z.length + 2) / 3 := by unfold vals; rw [List.length_map, List.length_range, ← tl_len]
            rw [← this, List.take_length] at h3
            refine r_tupL (sqL h3) (s_new fun p H3 hp s4 h4 => ?_)
            exact kQ _ (rd_good hk hgood) p H3 ((s2.trans s3).trans s4) h4
        · intro he nx' hR
          have hne : z.cps.toList ≠ [] := (ne_empty z).mp fun e => by
            rw [e] at he
            simp at he
          walk_at "s"
          refine ⟨_, _, rfl, ⟨small_sz hz, rfl⟩, ?_⟩
          walk_at "s"
          refine ifnI (fun e => ?_) (fun e => ?_)
          · walk_at "s"
            refine ⟨_, _, rfl, ⟨small_sz hz, rfl⟩, ?_⟩
            walk_at "s"
            refine ⟨_, rfl, fun d H' hd s4 h4 => ?_⟩
            refine kE z.length ?_ d H' (s2.free hd) (s2.trans s4) h4
            show rd z.cps.toList = _
            rw [rd_short hk hne (by rw [← tl_len]; omega), tl_len]
          · walk_at "s"
            exact hR _ _ ⟨rfl, rfl, .inr (by rw [← tl_len]; omega)⟩
        · intro he nx' hR
          walk_at "s"
          refine hR _ _ ⟨rfl, rfl, .inl ?_⟩
          have e : z = "" := Decidable.byContradiction fun h => by
            have h' : ¬ (V.str z = V.str "") := fun q => h (V.str.inj q)
            simp [h'] at he
          rw [e]
          rfl
    · refine ⟨_, _, _, _, false, rfl, .ty "str", ty, kit_ty hk, ?_⟩
      walk_at "s"
      refine iteT ?_
      walk_at "s"
      refine ⟨_, rfl, fun d H' hd s4 h4 => ?_⟩
      refine kE 0 ?_ d H' hd s4 h4
      cases v <;> first | rfl | exact absurd rfl (hns _)
end
end C01

namespace C01
open PySem L2 Br M01
local macro_rules | `(tactic| walk_at "side") => `(tactic| first | omega | (show (0 : Int) < _; omega) | exact ⟨by omega, by omega⟩ | exact Or.inl ⟨by omega, by omega⟩ | exact Or.inr ⟨by omega, by omega⟩ | exact ⟨by decide, by decide, by decide⟩ | assumption)
local macro_rules | `(tactic| walk_at "s1") => `(tactic| first
  | ((with_reducible apply s_var); exact rfl)
  | with_reducible refine s_c ?_ | with_reducible refine s_op ?_ | with_reducible refine s_un ?_ | with_reducible refine s_I0 ?_
  | ((with_reducible refine s_I ?_ ?_); walk_at "side")
  | with_reducible refine s_U ?_ | ((with_reducible refine s_eq ?_ ?_); exact rfl) | ((with_reducible refine s_ne ?_ ?_); exact rfl)
  | with_reducible refine s_test ?_ | with_reducible refine s_tB ?_ | with_reducible refine s_bl ?_ | with_reducible refine s_and ?_ | with_reducible refine s_or ?_ | with_reducible refine s_not ?_
  | with_reducible refine s_andV ?_ | with_reducible refine s_orV ?_ | with_reducible refine s_notV ?_ | with_reducible refine s_if ?_ | with_reducible refine s_ifS ?_
  | with_reducible refine s_seq ?_ | with_reducible refine s_next ?_ | with_reducible refine s_asg ?_ | with_reducible refine s_par ?_ | with_reducible refine s_two ?_ | with_reducible refine s_ret ?_ | with_reducible refine s_retN ?_ | with_reducible refine s_drop ?_
  | with_reducible refine s_nil ?_ | with_reducible refine s_cons ?_ | with_reducible refine s_cl ?_ | with_reducible refine s_clS ?_ | with_reducible refine s_cb ?_ | with_reducible refine s_sl ?_ | with_reducible refine s_part ?_ | with_reducible refine s_nopart ?_ | with_reducible refine s_int ?_
  | with_reducible refine s_dget ?_ | with_reducible refine s_dput ?_ | with_reducible refine s_bm ?_ | with_reducible refine s_bm0 ?_ | with_reducible refine s_m1 ?_ | with_reducible refine s_isstr ?_ | with_reducible refine s_kf ?_ | with_reducible refine s_lst ?_ | with_reducible refine s_tup ?_
  | with_reducible refine s_pairs ?_ | with_reducible refine s_pairs0 ?_ | with_reducible refine s_disp ?_ | with_reducible refine s_dnew ?_ | with_reducible refine s_for ?_ | with_reducible refine s_lc ?_ | with_reducible refine s_iList ?_ | with_reducible refine s_iTup ?_ | with_reducible refine s_iRng1 ?_ | with_reducible refine s_iRng2 ?_ | with_reducible refine s_iRng3 ?_ | with_reducible refine s_vei ?_ | with_reducible refine s_ost ?_ | with_reducible refine s_mkx ?_ | with_reducible refine s_rz ?_ | with_reducible refine s_iEnumT ?_ | with_reducible refine s_iEnumS ?_ | with_reducible refine s_revS ?_ | with_reducible refine s_yes ?_
  | with_reducible refine s_gName ?_ | with_reducible refine s_gCons ?_ | with_reducible refine s_gNil ?_)
local macro_rules | `(tactic| walk_at "s") => `(tactic| repeat walk_at "s1")
theorem dp_none {K : PySem.W.Frag} {H : Hp} {p : Addr} {k : Nat} (h : H p = some (.lst [.str "none", .int k])) : Dp K H (.ref p) (noneAt k) := .lst (sqL h) (.cons (.str _) (.cons (.int _) .nil))
theorem dp_tupInts {K : PySem.W.Frag} {H : Hp} {p : Addr} {xs : List Int} (h : H p = some (.tup (xs.map V.int))) : Dp K H (.ref p) (.tuple (xs.map PyData.int)) := .tup (sqT h) (dpAll_ints xs)
theorem vals_len (z : Str) : (vals z.cps.toList).length = (z.length + 2) / 3 := by unfold vals; rw [List.length_map, List.length_range, ← tl_len]
section
variable {P : Program} {w : World} {K : PySem.W.Frag} {mg : Str → Option Value} {base : Heap}
abbrev s__law_due : Stmt := top 17
theorem sc__law_due : FnScope ["_law_thing", "_law_k", "_law_some", "_law_signs_here", "_law_found"] ["_law_thing"] (defScope s__law_due) := ⟨rfl, rfl, rfl, by decide +kernel, rfl, by decide +kernel, by decide +kernel⟩
theorem ok__law_due {f : Addr} {fd : FuncData} (F : Fun K "_law_due" "_law_due" s__law_due f fd) (T : Txt mg) : FnOk P w K mg base CX0 1 f fd ["_law_thing"] (spRes K) := by
  refine F.ok sc__law_due (fun vs H Q E h => ?_) (fun cdv A outer s H vs Q E hr h => ?_)
  · obtain ⟨v, rfl, _⟩ := h
    rfl
  · obtain ⟨v, rfl, hT, kQ⟩ := h
    refine ⟨_, (pss_cons (ps_if (pt_not (pt_val (pe_callB call_isi (by rfl) T.n_isinstance (by decide +kernel) (pa_cons (pv 0) (pa_cons (pe_bltn (v := .ty "str") (by rfl) T.n_str (by decide +kernel) rfl) pa_nil)))))
        (pss_one (ps_ret (pe_lst (pa_cons pe_str (pa_cons pe_int pa_nil)))))
        pss_nil)
      (pss_cons (ps_for PassesOwn.never rfl (pi_range1 (by rfl) T.n_range (pa_cons (pe_callB call_len (by rfl) T.n_len (by decide +kernel) (pa_cons (pv 0) pa_nil)) pa_nil)) (pg_name (i := 1) sc__law_due.nd rfl (Or.inl rfl))
        (pss_cons (ps_set (i := 2) sc__law_due.nd rfl (Or.inl rfl) pe_str)
      (pss_cons (ps_if (pt_cmpR op_eq (pe_op op_mod (pv 1) pe_int) pe_int (nomark _))
        (pss_one (ps_set (i := 2) sc__law_due.nd rfl (Or.inl rfl) (pe_ix ix_list (pe_lst (pa_cons pe_str (pa_cons pe_str pa_nil))) (pe_callTy call_int1 (by rfl) T.n_int (by decide +kernel) (pa_cons (pe_cmpR op_eq (pe_op op_mod (pe_op op_fdiv (pv 1) pe_int) pe_int) pe_int (nomark _)) pa_nil)) (fun _ _ => rfl))))
        pss_nil)
      (pss_one (ps_if (pt_cmpR op_notIn_sign (pe_ix ix_str (pv 0) (pv 1) (fun _ _ => rfl)) (pv 2) rfl)
        (pss_one (ps_ret (pe_lst (pa_cons pe_str (pa_cons (pv 1) pa_nil)))))
        pss_nil)))))
      (pss_cons (ps_if (PW.pt (pw_and (pt_cmpR op_ne (pv 0) pe_str (nomark _)) (pw_and1 (pt_cmpR op_ne (pe_op op_mod (pe_callB call_len (by rfl) T.n_len (by decide +kernel) (pa_cons (pv 0) pa_nil)) pe_int) pe_int (nomark _)))))
        (pss_one (ps_ret (pe_lst (pa_cons pe_str (pa_cons (pe_callB call_len (by rfl) T.n_len (by decide +kernel) (pa_cons (pv 0) pa_nil)) pa_nil)))))
        pss_nil)
      (pss_cons (ps_set (i := 3) sc__law_due.nd rfl (Or.inr rfl) pe_str)
      (pss_cons (ps_setLc (i := 4) (own := [("_law_k", 1)]) (g := gName 1) (tt := tYes) rfl sc__law_due.nd rfl rfl (sw_true rfl rfl rfl (by decide +kernel)) (pi_range3 (by rfl) T.n_range (pa_cons pe_int (pa_cons (pe_callB call_len (by rfl) T.n_len (by decide +kernel) (pa_cons (pv 0) pa_nil)) (pa_cons pe_int pa_nil)))) (blkOk_by (own := [("_law_k", 1)]) (N := ["_law_thing", "_law_k", "_law_some", "_law_signs_here", "_law_found"]) (sc := defScope s__law_due) (by decide +kernel)) (fun _ _ _ _ _ => pg_name (i := 1) sc__law_due.nd rfl (Or.inl rfl)) (fun _ _ _ _ _ => pts_nil) (fun _ _ _ _ _ => (pe_op op_add (pe_op op_mul (pe_m1 PySem.F.slot_str_index PySem.F.type_str_index mt_sindex (pv 3) (pe_ix ix_str (pv 0) (pv 1) (fun _ _ => rfl))) pe_int) (pe_m1 PySem.F.slot_str_index PySem.F.type_str_index mt_sindex (pv 3) (pe_ix ix_str (pv 0) (pe_op op_add (pv 1) pe_int) (fun _ _ => rfl))))))
      (pss_one (ps_ret (pe_callTy call_tupN (by rfl) T.n_tuple (by decide +kernel) (pa_cons (pv 4) pa_nil))))))))), ?_⟩
    refine go_at (σ' := [some v, none, none, none, none]) rfl ?_
    walk_at "s"
    rcases hT with ⟨z, rfl, hz⟩ | ⟨hns, t, ty, hk⟩
    · refine ⟨_, _, _, _, true, rfl, .ty "str", .base (.str z), kit_ty (by decide +kernel), ?_⟩
      walk_at "s"
      refine iteF ?_
      walk_at "s"
      refine ⟨_, z.length, rfl, ⟨small_sz hz, rfl⟩, ?_⟩
      walk_at "s"
      refine ⟨_, rfl, by omega, by omega, f_range (lo := 0) (n := z.length) (fun i σ H' => ∃ t u : Option V, σ = [some (.str z), t, u, none, none] ∧ Same H H' ∧ ∀ k c, k < i → z.cps.toList[k]? = some c → okAt c k = true) ⟨none, none, rfl, Same.refl H, fun k c h => by omega⟩ ?_ ?_⟩
      · rintro i _ H1 hi ⟨t, u, rfl, s1, hk⟩
        obtain ⟨c, hc⟩ : ∃ c, z.cps.toList[i]? = some c := ⟨_, List.getElem?_eq_getElem (by rw [← tl_len]; exact hi)⟩
        have hat : atI z.cps.toList (0 + (i : Nat)) = some c := atI_get (by omega) (by rw [Int.zero_add, Int.toNat_natCast]; exact hc)
        walk_at "s"
        refine s_cut (fun σ' H2 => ∃ y : Str, σ' = [some (.str z), some (.int (0 + (i : Nat))), some (.str y), none, none] ∧ Same H H2 ∧ (decide (c ∈ y.cps.toList) = okAt c i)) ?_ ?_ ?_
        · rintro _ H2 ⟨y, rfl, s2, ey⟩
          walk_at "s"
          refine r_ixS (small_sz hz) hat ?_
          walk_at "s"
          refine ⟨c, y, rfl, rfl, ?_⟩
          walk_at "s"
          rw [ey]
          refine ifnb (fun hb => ?_) (fun hb => ?_)
          · walk_at "s"
            refine ⟨by show 2 ≤ sizeLine; decide, s_new fun p H3 hp s3 h3 => kQ p H3 (s2.trans s3) ?_⟩
            show Dp K H3 (.ref p) (told (rd z.cps.toList))
            rw [rd_bad hk hc hb]
            rw [Int.zero_add] at h3
            exact dp_none h3
          · walk_at "s"
            refine ⟨_, _, rfl, s2, fun k c' hki hkc => ?_⟩
            by_cases e : k = i
            · subst e
              rw [hc] at hkc
              cases hkc
              exact hb
            · exact hk k c' (by omega) hkc
        · intro he nx' hR
          have h3 : i % 3 = 2 := by have := V.int.inj (of_decide_eq_true he); omega
          walk_at "s"
          refine ⟨by show 2 ≤ sizeLine; decide, s_new fun q H2 hq s2 h2 => ?_⟩
          walk_at "s"
          refine .inr ⟨_, rfl, ?_⟩
          have hsep : atI [V.str " ", V.str "\n"] (if decide (V.int ((0 + (i : Nat) : Int) / 3 % 16) = V.int 15) = true then 1 else 0) = some (.str ⟨#[sepC (i / 3 + 1)]⟩) := by
            rw [← sep_of]
            by_cases h : (i / 3 + 1) % 16 = 0
            · rw [if_pos h, if_pos (decide_eq_true (congrArg V.int (by omega)))]
              rfl
            · rw [if_neg h, if_neg (fun e => h (by have := V.int.inj (of_decide_eq_true e); omega))]
              rfl
          refine r_ixL (sqL h2) hsep (hR _ _ ⟨_, rfl, s1.trans s2, ?_⟩)
          unfold okAt
          rw [if_pos h3]
          by_cases hcs : c = sepC (i / 3 + 1)
          · simp [hcs]
          · simp [hcs]
        · intro he nx' hR
          have h3 : ¬ i % 3 = 2 := fun h => by have := of_decide_eq_false he; exact this (congrArg V.int (by omega))
          walk_at "s"
          refine hR _ _ ⟨_, rfl, s1, ?_⟩
          unfold okAt
          rw [if_neg h3, ← sg_eq]
          rfl
      · rintro _ H1 ⟨t, u, rfl, s2, hk⟩
        rw [tl_len] at hk
        walk_at "s"
        refine s_cutA (fun σ' H' => σ' = [some (.str z), t, u, none, none] ∧ H1 = H' ∧ (z.cps.toList = [] ∨ z.cps.toList.length % 3 = 2)) ?_ ?_ ?_
        · rintro _ _ ⟨rfl, rfl, hgood⟩
          walk_at "s"
          refine ⟨_, _, rfl, ⟨small_sz hz, rfl⟩, ?_⟩
          walk_at "s"
          refine ⟨0, z.length, 3, _, rfl, rg3 (by omega), fun D hD => lc_it walk_c (fun i H' => Same H1 H' ∧ H' D = some (.lst (((vals z.cps.toList).take i).map V.int))) ⟨same_new hD, upd_same⟩ (fun _ _ _ _ => trivial) ?_ ?_⟩
          · rintro i x H2 _ hi ⟨s3, h3⟩ ⟨rfl, rfl⟩
            have hil : i < (z.cps.toList.length + 2) / 3 := by rw [← tl_len]; exact hi
            obtain ⟨c1, c2, e1, e2, m1, m2, ev⟩ := two_signs hk hgood hil
            obtain ⟨o1, b1⟩ := occ_ok c1 m1
            obtain ⟨o2, b2⟩ := occ_ok c2 m2
            refine ⟨rfl, ?_⟩
            walk_at "s"
            refine ifT rfl ?_
            walk_at "s"
            refine r_ixS (small_sz hz) (atI_get (x := c1) (by omega) (by rw [show (0 + (i : Nat) * (3 : Int)).toNat = 3 * i by omega]; exact e1)) ?_
            refine ⟨_, _, _, _, rfl, rfl, o1, ?_⟩
            walk_at "s"
            refine r_ixS (small_sz hz) (atI_get (x := c2) (by omega) (by rw [show (0 + (i : Nat) * (3 : Int) + 1).toNat = 3 * i + 1 by omega]; exact e2)) ?_
            refine ⟨_, _, _, _, rfl, rfl, o2, ?_⟩
            walk_at "s"
            have hvl : (vals z.cps.toList)[i]? = some (valAt z.cps.toList i) := by
              unfold vals
              rw [List.getElem?_map, List.getElem?_range hil]
              rfl
            refine ⟨_, h3, ?_, same_mut s3 hD, ?_⟩
            · rw [List.length_map, List.length_take, vals_len]
              refine Nat.lt_of_le_of_lt (m := 50000) ?_ (by decide)
              omega
            · rw [upd_same, take_more hvl, List.map_append, ev]
              rfl
          · rintro H2 ⟨s3, h3⟩
            rw [← vals_len, List.take_length] at h3
            walk_at "s"
            refine r_tupL (sqL h3) (s_new fun p H3 hp s4 h4 => kQ p H3 ((s2.trans s3).trans s4) ?_)
            show Dp K H3 (.ref p) (told (rd z.cps.toList))
            rw [rd_good hk hgood]
            exact dp_tupInts h4
        · intro he nx' hR
          have hne : z.cps.toList ≠ [] := (ne_empty z).mp fun e => by
            rw [e] at he
            simp at he
          walk_at "s"
          refine ⟨_, _, rfl, ⟨small_sz hz, rfl⟩, ?_⟩
          walk_at "s"
          refine ifnI (fun e => ?_) (fun e => ?_)
          · walk_at "s"
            refine ⟨_, z.length, rfl, ⟨small_sz hz, rfl⟩, ?_⟩
            walk_at "s"
            refine ⟨by show 2 ≤ sizeLine; decide, s_new fun p H3 hp s3 h3 => kQ p H3 (s2.trans s3) ?_⟩
            show Dp K H3 (.ref p) (told (rd z.cps.toList))
            rw [rd_short hk hne (by rw [← tl_len]; omega), ← tl_len]
            exact dp_none h3
          · walk_at "s"
            exact hR _ _ ⟨rfl, rfl, .inr (by rw [← tl_len]; omega)⟩
        · intro he nx' hR
          walk_at "s"
          refine hR _ _ ⟨rfl, rfl, .inl ?_⟩
          have e : z = "" := Decidable.byContradiction fun h => by
            have h' : ¬ (V.str z = V.str "") := fun q => h (V.str.inj q)
            simp [h'] at he
          rw [e]
          rfl
    · refine ⟨_, _, _, _, false, rfl, .ty "str", ty, kit_ty hk, ?_⟩
      walk_at "s"
      refine iteT ?_
      walk_at "s"
      refine ⟨by show 2 ≤ sizeLine; decide, s_new fun p H3 hp s3 h3 => kQ p H3 s3 ?_⟩
      have e : rdV v = .inl 0 := by cases v <;> first | rfl | exact absurd rfl (hns _)
      rw [e]
      exact dp_none h3
abbrev s__law_told : Stmt := top 18
theorem sc__law_told : FnScope ["_law_thing", "_law_kept", "_law_found", "e"] ["_law_thing"] (defScope s__law_told) := ⟨rfl, rfl, rfl, by decide +kernel, rfl, by decide +kernel, by decide +kernel⟩
theorem ok__law_told {f C fI : Addr} {fd fdI : FuncData} (F : Fun K "_law_told" "_law_told" s__law_told f fd) (T : Txt mg) (X_NoHex : XcT K mg "NoHex" "NoHex.__init__" s_NoHex___init__ "at" C fI fdI)
    (kVE : PySem.W.kitOne K (.ref C) (.type "ValueError") = some true) (D_read_hex : OkD P w K mg base (L2.CX P w) 4 "read_hex" ["text"] (spRead K C)) : FnOk P w K mg base CX0 5 f fd ["_law_thing"] (spRes K) := by
  refine F.ok sc__law_told (fun vs H Q E h => ?_) (fun cdv A outer s H vs Q E hr h => ?_)
  · obtain ⟨v, rfl, _⟩ := h
    rfl
  · obtain ⟨v, rfl, hT, kQ⟩ := h
    have g_NoHex := X_NoHex.g
    refine ⟨_, (pss_cons (ps_set (i := 1) sc__law_told.nd rfl (Or.inl rfl) pe_non)
      (pss_cons (ps_try_kp (i := 3) rfl rfl rfl sc__law_told.nd rfl rfl ⟨rfl, by decide, .inl g_NoHex⟩ takes0 (fun W pn xe tk _ => (pss_one (ps_set (i := 2) sc__law_told.nd rfl (Or.inl rfl) (pe_callDS D_read_hex (hr.mono (by decide)) tk (pa_cons (pv 0) pa_nil)))))
        (fun a oe cls d pn hz hf => (pss_one (ps_set (i := 1) sc__law_told.nd rfl (Or.inl rfl) (pv 3)))))
      (pss_cons (ps_if (pt_cmpR op_isN (pv 1) pe_non (nomark _))
        (pss_one (ps_ret (pv 2)))
        pss_nil)
      (pss_one (ps_ret (pe_ifExp (PW.pt (pw_and (pt_val (pe_callB call_isX (by rfl) T.n_isinstance (by decide +kernel) (pa_cons (pv 1) (pa_cons (pe_bltn (v := .ty "ValueError") (by rfl) T.n_ValueError (by decide +kernel) rfl) pa_nil)))) (pw_and1 (pt_not (pt_val (pe_callB call_isi (by rfl) T.n_isinstance (by decide +kernel) (pa_cons (pe_kf (pv 1)) (pa_cons (pe_bltn (v := .ty "bool") (by rfl) T.n_bool (by decide +kernel) rfl) pa_nil)))))))) (pe_lst (pa_cons pe_str (pa_cons (pe_kf (pv 1)) pa_nil))) pe_str)))))), ?_⟩
    refine go_at (σ' := [some v, none, none, none]) rfl ?_
    walk_at "s"
    refine ⟨v, rfl, hT, fun k hk d H1 hd s1 h1 => ?_, fun xs hxs p H1 s1 h1 => ?_⟩
    · refine ⟨true, X_NoHex.self, fun _ a ha => ?_, fun q => nomatch q⟩
      unfold endsKp
      walk_at "s"
      intro _
      have s2 : Same H1 (upd H1 a (xob a (.ref C) (some d))) := same_new ha
      have hx : upd H1 a (xob a (.ref C) (some d)) a = some (xob a (.ref C) (some d)) := upd_same
      have hd2 := s2 _ _ h1
      have s3 := s1.trans s2
      generalize upd H1 a (xob a (.ref C) (some d)) = H2 at *
      have at_ : List.lookup ("at" : Str) [(("at" : Str), V.int (k : Nat))] = some (.int k) := by simp [List.lookup]
      walk_at "s"
      refine ⟨rfl, ?_⟩
      walk_at "s"
      refine ifF rfl ?_
      walk_at "s"
      refine ⟨a, C, d, _, _, _, true, rfl, hx, hd2, X_NoHex.ec, .ty "ValueError", kVE, ?_⟩
      walk_at "s"
      refine iteT ?_
      walk_at "s"
      refine ⟨a, C, d, _, _, rfl, hx, X_NoHex.xf, X_NoHex.n, hd2, at_, ?_⟩
      walk_at "s"
      refine ⟨_, _, _, _, false, rfl, .ty "bool", .base (.int _), kit_ty (by decide +kernel), ?_⟩
      walk_at "s"
      refine iteT ?_
      walk_at "s"
      refine ⟨a, C, d, _, _, rfl, hx, X_NoHex.xf, X_NoHex.n, hd2, at_, ?_⟩
      walk_at "s"
      refine ⟨by show 2 ≤ sizeLine; decide, s_new fun p H3 hp s4 h4 => kQ p H3 (s3.trans s4) ?_⟩
      rw [hk]
      exact dp_none h4
    · walk_at "s"
      refine ⟨rfl, ?_⟩
      walk_at "s"
      refine ifT rfl ?_
      walk_at "s"
      refine kQ p H1 s1 ?_
      rw [hxs]
      exact dp_tupInts h1
end
end C01

namespace C01
open PySem L2 Br M01
local macro_rules | `(tactic| walk_at "side") => `(tactic| first | omega | (show (0 : Int) < _; omega) | exact ⟨by omega, by omega⟩ | exact Or.inl ⟨by omega, by omega⟩ | exact Or.inr ⟨by omega, by omega⟩ | exact ⟨by decide, by decide, by decide⟩ | assumption)
local macro_rules | `(tactic| walk_at "s1") => `(tactic| first
  | ((with_reducible apply s_var); exact rfl)
  | with_reducible refine s_c ?_ | with_reducible refine s_op ?_ | with_reducible refine s_un ?_ | with_reducible refine s_I0 ?_
  | ((with_reducible refine s_I ?_ ?_); walk_at "side")
  | with_reducible refine s_U ?_ | ((with_reducible refine s_eq ?_ ?_); exact rfl) | ((with_reducible refine s_ne ?_ ?_); exact rfl)
  | with_reducible refine s_test ?_ | with_reducible refine s_tB ?_ | with_reducible refine s_bl ?_ | with_reducible refine s_and ?_ | with_reducible refine s_or ?_ | with_reducible refine s_not ?_
  | with_reducible refine s_andV ?_ | with_reducible refine s_orV ?_ | with_reducible refine s_notV ?_ | with_reducible refine s_if ?_ | with_reducible refine s_ifS ?_
  | with_reducible refine s_seq ?_ | with_reducible refine s_next ?_ | with_reducible refine s_asg ?_ | with_reducible refine s_par ?_ | with_reducible refine s_two ?_ | with_reducible refine s_ret ?_ | with_reducible refine s_retN ?_ | with_reducible refine s_drop ?_
  | with_reducible refine s_nil ?_ | with_reducible refine s_cons ?_ | with_reducible refine s_cl ?_ | with_reducible refine s_clS ?_ | with_reducible refine s_cb ?_ | with_reducible refine s_sl ?_ | with_reducible refine s_part ?_ | with_reducible refine s_nopart ?_ | with_reducible refine s_int ?_
  | with_reducible refine s_dget ?_ | with_reducible refine s_dput ?_ | with_reducible refine s_bm ?_ | with_reducible refine s_bm0 ?_ | with_reducible refine s_m1 ?_ | with_reducible refine s_isstr ?_ | with_reducible refine s_kf ?_ | with_reducible refine s_lst ?_ | with_reducible refine s_tup ?_
  | with_reducible refine s_pairs ?_ | with_reducible refine s_pairs0 ?_ | with_reducible refine s_disp ?_ | with_reducible refine s_dnew ?_ | with_reducible refine s_for ?_ | with_reducible refine s_lc ?_ | with_reducible refine s_iList ?_ | with_reducible refine s_iTup ?_ | with_reducible refine s_iRng1 ?_ | with_reducible refine s_iRng2 ?_ | with_reducible refine s_iRng3 ?_ | with_reducible refine s_vei ?_ | with_reducible refine s_ost ?_ | with_reducible refine s_mkx ?_ | with_reducible refine s_rz ?_ | with_reducible refine s_iEnumT ?_ | with_reducible refine s_iEnumS ?_ | with_reducible refine s_revS ?_ | with_reducible refine s_yes ?_
  | with_reducible refine s_gName ?_ | with_reducible refine s_gCons ?_ | with_reducible refine s_gNil ?_)
local macro_rules | `(tactic| walk_at "s") => `(tactic| repeat walk_at "s1")
def spLaw (K : PySem.W.Frag) : Sp := fun vs H Q _ => ∃ (a : Addr) (ns : List Int), vs = [.ref a] ∧ SqL K H a (ns.map V.int) ∧ ns.length ≤ 63 ∧ ∀ H', Q (.bl true) H'
theorem thing_shw {K : PySem.W.Frag} {H : Hp} {v : V} (t : Thing K H v) : Shw (told (rdV v)) 1 1000003 := by
  rcases t with ⟨z, rfl, hz⟩ | ⟨hns, _⟩
  · exact shw_told (by rw [← tl_len]; exact hz)
  · have e : rdV v = .inl 0 := by cases v <;> first | rfl | exact absurd rfl (hns _)
    rw [e]
    exact (shw_noneAt (k := 0) (by omega)).mono (Nat.le_refl _) (by decide)
/-- a thing that may be drawn: no text, and known by what stands at its address -/
inductive Odd (H : Hp) : V → Prop where
  | non : Odd H .non
  | int (i : Int) : Odd H (.int i)
  | bl (b : Bool) : Odd H (.bl b)
  | tup {a : Addr} {xs : List V} (h : H a = some (.tup xs)) : Odd H (.ref a)
  | lst {a : Addr} {xs : List V} (h : H a = some (.lst xs)) : Odd H (.ref a)
  | dct {a : Addr} {kvs : List (Key × V)} (h : H a = some (.dK kvs)) : Odd H (.ref a)
theorem Odd.thing {K : PySem.W.Frag} {H : Hp} {v : V} (o : Odd H v) : Thing K H v := by
  cases o with
  | non => exact .inr ⟨(fun z h => nomatch h), "NoneType", .base .non, by decide +kernel⟩
  | int i => exact .inr ⟨(fun z h => nomatch h), "int", .base (.int i), by decide +kernel⟩
  | bl b => exact .inr ⟨(fun z h => nomatch h), "bool", .base (.bl b), by decide +kernel⟩
  | tup h => exact .inr ⟨(fun z h => nomatch h), "tuple", .base (.tup h), by decide +kernel⟩
  | lst h => exact .inr ⟨(fun z h => nomatch h), "list", .base (.lst h), by decide +kernel⟩
  | dct h => exact .inr ⟨(fun z h => nomatch h), "dict", .base (.dK h), by decide +kernel⟩
theorem Odd.keep {H H' : Hp} {v : V} (k : ∀ a o, v = .ref a → H a = some o → H' a = some o) (o : Odd H v) : Odd H' v := by
  cases o with
  | non => exact .non
  | int i => exact .int i
  | bl b => exact .bl b
  | tup h => exact .tup (k _ _ rfl h)
  | lst h => exact .lst (k _ _ rfl h)
  | dct h => exact .dct (k _ _ rfl h)
section
variable {P : Program} {w : World} {K : PySem.W.Frag} {mg : Str → Option Value} {base : Heap}
abbrev s_law : Stmt := top 19
theorem sc_law : FnScope ["_law_script", "_law_pen", "_law_turn", "_law_long", "_law_row", "_law_text", "_law_bent", "_law_odd", "_law_thing", "_law_k"] ["_law_script"] (defScope s_law) := ⟨rfl, rfl, rfl, by decide +kernel, rfl, by decide +kernel, by decide +kernel⟩
theorem ok_law {f : Addr} {fd : FuncData} (F : Fun K "law" "law" s_law f fd) (T : Txt mg) (D__law_feed : OkD P w K mg base CX0 1 "_law_feed" ["_law_script"] (spFeed penKey K)) (D__law_draw : OkD P w K mg base CX0 1 "_law_draw" ["_law_pen", "_law_span"] (spDraw penKey))
    (D__law_pick : OkD P w K mg base CX0 2 "_law_pick" ["_law_pen", "_law_some"] (spPick penKey)) (D__law_byte : OkD P w K mg base CX0 2 "_law_byte" ["_law_pen"] (spByte penKey)) (D__law_bent_text : OkD P w K mg base CX0 2 "_law_bent_text" ["_law_pen", "_law_text", "_law_near"] spBent)
    (D__law_hex : OkD P w K mg base CX0 1 "_law_hex" ["_law_row"] (spHexD K)) (D_show_hex : OkD P w K mg base CX0 2 "show_hex" ["row"] (spHexD K)) (D__law_told : OkD P w K mg base CX0 5 "_law_told" ["_law_thing"] (spRes K)) (D__law_due : OkD P w K mg base CX0 1 "_law_due" ["_law_thing"] (spRes K)) :
    FnG P w K mg base CX0 6 f fd ["_law_script"] (spLaw K) := by
  refine okG F sc_law (fun vs H Q E h => ?_) (fun cdv A outer s H vs Q E hgd hr h => ?_)
  · obtain ⟨a, ns, rfl, _⟩ := h
    rfl
  · obtain ⟨a, ns, rfl, hS, hlen, k⟩ := h
    refine ⟨_, (pss_cons (ps_set (i := 1) sc_law.nd rfl (Or.inr rfl) (pe_callD D__law_feed (hr.mono (by decide)) (pa_cons (pv 0) pa_nil)))
      (pss_cons (ps_for PassesOwn.never rfl (pi_range1 (by rfl) T.n_range (pa_cons (pe_op op_add pe_int (pe_callB (call_min2 rfl) (by rfl) T.n_min (by decide +kernel) (pa_cons pe_int (pa_cons (pe_callB call_len (by rfl) T.n_len (by decide +kernel) (pa_cons (pv 0) pa_nil)) pa_nil)))) pa_nil)) (pg_name (i := 2) sc_law.nd rfl (Or.inl rfl))
        (pss_cons (ps_set (i := 3) sc_law.nd rfl (Or.inl rfl) (pe_callD D__law_draw (hr.mono (by decide)) (pa_cons (pv 1) (pa_cons (pe_ix ix_list (pe_lst (pa_cons pe_int (pa_cons pe_int (pa_cons pe_int (pa_cons pe_int pa_nil))))) (pe_callD D__law_draw (hr.mono (by decide)) (pa_cons (pv 1) (pa_cons pe_int pa_nil))) (fun _ _ => rfl)) pa_nil))))
      (pss_cons (ps_set (i := 4) sc_law.nd rfl (Or.inl rfl) (pe_callTy call_tupN (by rfl) T.n_tuple (by decide +kernel) (pa_cons (pe_lc (own := [("_law_k", 9)]) (g := gName 9) (tt := tYes) rfl sc_law.nd (pi_range1 (by rfl) T.n_range (pa_cons (pv 3) pa_nil)) (blkOk_by (own := [("_law_k", 9)]) (N := ["_law_script", "_law_pen", "_law_turn", "_law_long", "_law_row", "_law_text", "_law_bent", "_law_odd", "_law_thing", "_law_k"]) (sc := defScope s_law) (by decide +kernel)) (fun _ _ _ _ _ => pg_name (i := 9) sc_law.nd rfl (Or.inl rfl)) (fun _ _ _ _ _ => pts_nil) (fun _ _ _ _ _ => (pe_callD D__law_byte (hr.mono (by decide)) (pa_cons (pv 1) pa_nil)))) pa_nil)))
      (pss_cons (ps_set (i := 5) sc_law.nd rfl (Or.inl rfl) (pe_callD D__law_hex (hr.mono (by decide)) (pa_cons (pv 4) pa_nil)))
      (pss_cons (ps_if (PW.pt (pw_or (pt_cmpR op_ne (pe_callD D_show_hex (hr.mono (by decide)) (pa_cons (pv 4) pa_nil)) (pv 5) (nomark _)) (pw_or1 (pt_cmpR op_ne (pe_callB (call_repr hr hgd) (by rfl) T.n_repr (by decide +kernel) (pa_cons (pe_callD D__law_told (hr.mono (by decide)) (pa_cons (pv 5) pa_nil)) pa_nil)) (pe_callB (call_repr hr hgd) (by rfl) T.n_repr (by decide +kernel) (pa_cons (pv 4) pa_nil)) (nomark _)))))
        (pss_one (ps_ret pe_bl))
        pss_nil)
      (pss_cons (ps_set (i := 6) sc_law.nd rfl (Or.inl rfl) (pe_callD D__law_bent_text (hr.mono (by decide)) (pa_cons (pv 1) (pa_cons (pv 5) (pa_cons pe_str pa_nil)))))
      (pss_cons (ps_set (i := 7) sc_law.nd rfl (Or.inl rfl) (pe_callD D__law_pick (hr.mono (by decide)) (pa_cons (pv 1) (pa_cons (pe_lst (pa_cons pe_non (pa_cons pe_int (pa_cons pe_bl (pa_cons (pv 4) (pa_cons (pe_lst (pa_cons (pv 5) pa_nil)) (pa_cons pe_dnewK (pa_cons (pe_tup pa_nil) (pa_cons (pe_lst (pa_cons pe_str (pa_cons pe_str pa_nil))) pa_nil))))))))) pa_nil))))
      (pss_one (ps_for PassesOwn.never rfl (pi_list (pe_lst (pa_cons (pv 6) (pa_cons (pe_callD D__law_bent_text (hr.mono (by decide)) (pa_cons (pv 1) (pa_cons (pv 6) (pa_cons pe_str pa_nil)))) (pa_cons (pv 7) pa_nil))))) (pg_name (i := 8) sc_law.nd rfl (Or.inl rfl))
        (pss_one (ps_if (PW.pt (pw_or (pt_cmpR op_ne (pe_callB (call_repr hr hgd) (by rfl) T.n_repr (by decide +kernel) (pa_cons (pe_callD D__law_told (hr.mono (by decide)) (pa_cons (pv 8) pa_nil)) pa_nil)) (pe_callB (call_repr hr hgd) (by rfl) T.n_repr (by decide +kernel) (pa_cons (pe_callD D__law_due (hr.mono (by decide)) (pa_cons (pv 8) pa_nil)) pa_nil)) (nomark _)) (pw_or1 (pt_cmpR (op_neD hr.units) (pe_callD D__law_told (hr.mono (by decide)) (pa_cons (pv 8) pa_nil)) (pe_callD D__law_due (hr.mono (by decide)) (pa_cons (pv 8) pa_nil)) (nomark _)))))
        (pss_one (ps_ret pe_bl))
        pss_nil)))))))))))
      (pss_one (ps_ret pe_bl)))), ?_⟩
    refine go_at (σ' := [some (.ref a), none, none, none, none, none, none, none, none, none]) rfl ?_
    walk_at "s"
    refine ⟨a, ns, rfl, hS, hlen, fun d cl H1 hd s1 pen => ?_⟩
    walk_at "s"
    refine ⟨_, ns.length, rfl, .inl ⟨_, s1.seq hS, (List.length_map ..).symm⟩, ?_⟩
    walk_at "s"
    refine ⟨_, _, rfl, ?_⟩
    walk_at "s"
    refine ⟨_, rfl, by split <;> omega, by split <;> omega, f_range (lo := 0) (fun i σ H' => ∃ t2 t3 t4 t5 t6 t7 t8 t9 : Option V, σ = [some (.ref a), some (.ref d), t2, t3, t4, t5, t6, t7, t8, t9] ∧ PenAt penKey H' d cl (1000 * i)) ⟨none, none, none, none, none, none, none, none, rfl, pen⟩ ?_ ?_⟩
    · rintro i _ H2 hi ⟨t2, t3, t4, t5, t6, t7, t8, t9, rfl, pen⟩
      have hi8 : i ≤ 8 := by
        split at hi <;> omega
      clear s1 hd
      walk_at "s"
      refine ⟨by show 4 ≤ sizeLine; decide, s_new fun q H3 hq s3 h3 => ?_⟩
      walk_at "s"
      have pen3 := pen.mono s3 (Nat.le_refl _)
      refine ⟨d, cl, 1000 * i, _, rfl, pen3, by omega, by omega, by omega, fun j H4 j0 j1 pen4 sb4 => ?_⟩
      obtain ⟨x, hx, ha⟩ := atI_mem (xs := [.int 3, .int 18, .int 49, .int 101]) j0 (by show j < 4; exact j1)
      obtain ⟨m, rfl, m0, m1⟩ : ∃ m : Int, x = .int m ∧ 0 < m ∧ m ≤ 101 := by
        have hx' : x = .int 3 ∨ x = .int 18 ∨ x = .int 49 ∨ x = .int 101 := by simpa using hx
        rcases hx' with e | e | e | e
        · exact ⟨_, e, by omega, by omega⟩
        · exact ⟨_, e, by omega, by omega⟩
        · exact ⟨_, e, by omega, by omega⟩
        · exact ⟨_, e, by omega, by omega⟩
      refine r_ixL (sqL (sb4 _ _ (pen3.ne h3) h3)) ha ?_
      walk_at "s"
      refine ⟨d, cl, 1000 * i + 1, _, rfl, pen4, by omega, by omega, by omega, fun long H5 l0 l1 pen5 sb5 => ?_⟩
      walk_at "s"
      -- the row
      refine ⟨_, rfl, by omega, by omega, fun D hD => lc_it walk_r (fun i' H' => ∃ bs : List Int, bs.length = i' ∧ (∀ b ∈ bs, 0 ≤ b ∧ b < 256) ∧ H' D = some (.lst (bs.map V.int)) ∧ PenAt penKey H' d cl (1000 * i + 2 + 2 * i')) ⟨[], rfl, (fun _ h => absurd h (by simp)), upd_same, pen5.mono (same_new hD) (Nat.le_refl _)⟩ (fun _ _ _ _ => trivial) ?_ ?_⟩
      · rintro i' x H6 _ hi' ⟨bs, hbl, hbb, hD6, pen6⟩ ⟨rfl, rfl⟩
        refine ⟨rfl, ?_⟩
        walk_at "s"
        refine ifT rfl ?_
        walk_at "s"
        refine ⟨d, cl, _, rfl, pen6, by omega, fun r H7 r0 r1 pen7 sb7 => ?_⟩
        have hD7 := sb7 _ _ (pen6.ne hD6) hD6
        refine ⟨_, hD7, by rw [List.length_map]; exact small1000 (by omega), bs ++ [r], by rw [List.length_append, hbl]; rfl, ?_, by rw [upd_same, List.map_append]; rfl, ?_⟩
        · intro b hb
          rcases List.mem_append.mp hb with h | h
          · exact hbb b h
          · have e : b = r := by simpa using h
            rw [e]
            exact ⟨r0, r1⟩
        · exact pen7.upd (pen5.new hD).1 (pen5.new hD).2 (by omega)
      · rintro H6 ⟨bs, hbl, hbb, hD6, pen6⟩
        refine r_tupL (sqL hD6) (s_new fun rw H7 hrw s7 h7 => ?_)
        have pen7 := pen6.mono s7 (Nat.le_refl _)
        have hbl' : bs.length ≤ 101 := by omega
        walk_at "s"
        refine ⟨rw, bs, rfl, sqT h7, hbb, by omega, fun H8 s8 => ?_⟩
        walk_at "s"
        have h8 := s8 _ _ h7
        refine ⟨rw, bs, rfl, sqT h8, hbb, by omega, fun H9 s9 => ?_⟩
        have h9 := s9 _ _ h8
        walk_at "s"
        refine ifnS (fun e => absurd rfl e) (fun _ => ?_)
        have hln : (hexF 0 bs).length ≤ 303 := by have := hex_len hbb; omega
        have rdh : rdV (.str ⟨(hexF 0 bs).toArray⟩) = .inr bs := by
          show rd (hexF 0 bs).toArray.toList = _
          rw [List.toList_toArray]
          exact rd_hex hbb
        walk_at "s"
        refine ⟨_, rfl, .inl ⟨_, rfl, by rw [str_len]; omega⟩, fun p H10 s10 hp => ?_⟩
        rw [rdh] at hp
        have h10 := s10 _ _ h9
        walk_at "s"
        refine r_repr hp (shw_tupB hbb (by omega)) (by decide) (by decide) ?_
        walk_at "s"
        refine r_repr (dp_tupInts h10) (shw_tupB hbb (by omega)) (by decide) (by decide) ?_
        walk_at "s"
        refine ifnS (fun e => absurd rfl e) (fun _ => ?_)
        have pen10 := pen7.mono ((s8.trans s9).trans s10) (Nat.le_refl _)
        clear hp
        walk_at "s"
        -- a bent text
        refine ⟨d, cl, _, _, _, rfl, pen10, by omega, by rw [str_len]; omega, by decide +kernel, by decide +kernel, fun b1 H11 hb1 pen11 sb11 => ?_⟩
        have e303 : (⟨(hexF 0 bs).toArray⟩ : Str).length = (hexF 0 bs).length := str_len _
        have hb1' : b1.length ≤ 912 := by omega
        have h11 := sb11 _ _ (pen10.neT h10) h10
        walk_at "s"
        -- an odd thing
        refine ⟨by show 1 ≤ sizeLine; decide, s_new fun p1 H12 hp1 s12 hh1 => ?_⟩
        walk_at "s"
        refine s_new fun p2 H13 hp2 s13 hh2 => ?_
        walk_at "s"
        refine ⟨Nat.zero_le _, s_new fun p3 H14 hp3 s14 hh3 => ?_⟩
        walk_at "s"
        refine ⟨by show 2 ≤ sizeLine; decide, s_new fun p4 H15 hp4 s15 hh4 => ?_⟩
        walk_at "s"
        refine ⟨by show 8 ≤ sizeLine; decide, s_new fun p5 H16 hp5 s16 hh5 => ?_⟩
        have pen16 := pen11.mono ((((s12.trans s13).trans s14).trans s15).trans s16) (Nat.le_refl _)
        walk_at "s"
        refine ⟨d, cl, p5, _, _, rfl, pen16, by omega, hh5, by show 0 < 8; decide, by show 8 < 1000000; decide, fun od H17 hod pen17 sb17 => ?_⟩
        have n12 : ∀ {b o}, H12 b = some o → H16 b = some o := fun h => s16 _ _ (s15 _ _ (s14 _ _ (s13 _ _ h)))
        have odd17 : Odd H17 od ∧ od ≠ .ref d := by
          have hx' : od = .non ∨ od = .int 7 ∨ od = .bl true ∨ od = .ref rw ∨ od = .ref p1 ∨ od = .ref p2 ∨ od = .ref p3 ∨ od = .ref p4 := by simpa using hod
          rcases hx' with e | e | e | e | e | e | e | e
          · rw [e]; exact ⟨.non, fun h => nomatch h⟩
          · rw [e]; exact ⟨.int 7, fun h => nomatch h⟩
          · rw [e]; exact ⟨.bl true, fun h => nomatch h⟩
          · have q : H16 rw = _ := n12 (s12 _ _ h11)
            rw [e]; exact ⟨.tup (sb17 _ _ (pen16.neT q) q), fun h => pen16.neT q (V.ref.inj h)⟩
          · have q : H16 p1 = _ := n12 hh1
            rw [e]; exact ⟨.lst (sb17 _ _ (pen16.ne q) q), fun h => pen16.ne q (V.ref.inj h)⟩
          · have q : H16 p2 = _ := s16 _ _ (s15 _ _ (s14 _ _ hh2))
            have nd : p2 ≠ d := ((pen11.mono s12 (Nat.le_refl _)).new hp2).1
            rw [e]; exact ⟨.dct (sb17 _ _ nd q), fun h => nd (V.ref.inj h)⟩
          · have q : H16 p3 = _ := s16 _ _ (s15 _ _ hh3)
            rw [e]; exact ⟨.tup (sb17 _ _ (pen16.neT q) q), fun h => pen16.neT q (V.ref.inj h)⟩
          · have q : H16 p4 = _ := s16 _ _ hh4
            rw [e]; exact ⟨.lst (sb17 _ _ (pen16.ne q) q), fun h => pen16.ne q (V.ref.inj h)⟩
        obtain ⟨odd17, ond⟩ := odd17
        walk_at "s"
        refine ⟨d, cl, _, _, _, rfl, pen17, by omega, by omega, by decide +kernel, by decide +kernel, fun b2 H18 hb2 pen18 sb18 => ?_⟩
        have odd18 : Odd H18 od := odd17.keep fun a' o e h => sb18 _ _ (fun z => ond (by rw [e, z])) h
        walk_at "s"
        refine ⟨by show 3 ≤ sizeLine; decide, s_new fun p6 H19 hp6 s19 hh6 => ?_⟩
        have odd19 : Odd H19 od := odd18.keep fun a' o _ h => s19 _ _ h
        have pen19 := pen18.mono s19 (Nat.le_refl _)
        -- the three things
        refine ⟨p6, rfl, ⟨_, sqL hh6⟩, f_list (K := K) (a := p6) (xs := [.str b1, .str b2, od]) (fun i' σ H' => ∃ t8' : Option V, σ = [some (.ref a), some (.ref d), some (.int (0 + (i : Nat))), some (.int long), some (.ref rw), some (.str ⟨(hexF 0 bs).toArray⟩), some (.str b1), some od, t8', t9] ∧ Same H19 H') ⟨_, rfl, Same.refl _⟩ (fun i' σ H' _ ⟨_, _, z⟩ => sqL (z _ _ hh6)) ?_ ?_⟩
        · rintro i' x _ H20 hi' ⟨t8', rfl, s20⟩
          have th : Thing K H20 x := by
            have hm : x ∈ ([.str b1, .str b2, od] : List V) := List.mem_of_getElem? hi'
            have hx' : x = .str b1 ∨ x = .str b2 ∨ x = od := by simpa using hm
            rcases hx' with e | e | e
            · rw [e]; exact .inl ⟨_, rfl, by omega⟩
            · rw [e]; exact .inl ⟨_, rfl, by omega⟩
            · rw [e]; exact (odd19.keep fun a' o _ h => s20 _ _ h).thing
          have sh := thing_shw th
          have keepT : ∀ {H'}, Same H20 H' → Thing K H' x := fun {H'} z => by
            rcases th with t | ⟨h1, t, ty, h2⟩
            · exact .inl t
            · have hm : x ∈ ([.str b1, .str b2, od] : List V) := List.mem_of_getElem? hi'
              have hx' : x = .str b1 ∨ x = .str b2 ∨ x = od := by simpa using hm
              rcases hx' with e | e | e
              · exact absurd e (h1 _)
              · exact absurd e (h1 _)
              · rw [e]; exact (odd19.keep fun a' o _ h => z _ _ (s20 _ _ h)).thing
          walk_at "s"
          refine ⟨x, rfl, th, fun q1 H21 s21 hq1 => ?_⟩
          walk_at "s"
          refine r_repr hq1 sh (by decide) (by decide) ?_
          walk_at "s"
          refine ⟨x, rfl, keepT s21, fun q2 H22 s22 hq2 => ?_⟩
          walk_at "s"
          refine r_repr hq2 sh (by decide) (by decide) ?_
          walk_at "s"
          refine ifnS (fun e => absurd rfl e) (fun _ => ?_)
          walk_at "s"
          refine ⟨x, rfl, keepT (s21.trans s22), fun q3 H23 s23 hq3 => ?_⟩
          walk_at "s"
          refine ⟨x, rfl, keepT ((s21.trans s22).trans s23), fun q4 H24 s24 hq4 => ?_⟩
          refine r_neD (dp_same s24 _ _ hq3) hq4 sh sh (by decide) (by decide) ?_
          walk_at "s"
          refine ifF (by rw [SeqAt.eqv_refl _ sh.cl]; rfl) ?_
          walk_at "s"
          exact ⟨_, rfl, (((s20.trans s21).trans s22).trans s23).trans s24⟩
        · rintro _ H20 ⟨t8', rfl, s20⟩
          exact ⟨_, _, _, _, _, _, _, _, rfl, pen19.mono s20 (by omega)⟩
    · rintro _ H2 ⟨t2, t3, t4, t5, t6, t7, t8, t9, rfl, pen⟩
      walk_at "s"
      exact k _
end
end C01

namespace C01
open PySem L2 Br M01
theorem all_mk {l : PySem.W.OpenLaw} {w : World} {K : PySem.W.Frag} {mg : Str → Option Value} {fa : Addr} (hfa : mg "law" = some (.ref fa)) (T : Txt mg) (v_ValueError : PySem.W.findCls K (.type "ValueError") (.type "type") "__init__" = some (.val (.builtin "ValueError.__init__")))
    (x_NoHex : ∃ C fI fd, XcT K mg "NoHex" "NoHex.__init__" s_NoHex___init__ "at" C fI fd)
    (d_between : ∃ f fd, DefT K mg "between" s_between f fd) (d_show_hex : ∃ f fd, DefT K mg "show_hex" s_show_hex f fd) (d_may_be : ∃ f fd, DefT K mg "may_be" s_may_be f fd) (d_read_hex : ∃ f fd, DefT K mg "read_hex" s_read_hex f fd)
    (d_feed : ∃ f fd, DefT K mg "_law_feed" s__law_feed f fd) (d_draw : ∃ f fd, DefT K mg "_law_draw" s__law_draw f fd) (d_pick : ∃ f fd, DefT K mg "_law_pick" s__law_pick f fd) (d_signs : ∃ f fd, DefT K mg "_law_signs" s__law_signs f fd)
    (d_bent : ∃ f fd, DefT K mg "_law_bent_text" s__law_bent_text f fd) (d_byte : ∃ f fd, DefT K mg "_law_byte" s__law_byte f fd) (d_hex : ∃ f fd, DefT K mg "_law_hex" s__law_hex f fd) (d_due : ∃ f fd, DefT K mg "_law_due" s__law_due f fd)
    (d_told : ∃ f fd, DefT K mg "_law_told" s__law_told f fd) (d_law : ∃ f fd, DefT K mg "law" s_law f fd) :
    ∃ fd : FuncData, (∀ (s : Shared) (u : Value), BindsTo s fd ⟨[u], []⟩ [("_law_script", u)]) ∧ ∀ base : Heap, K.In base → base.Ns mainGlobals mg → FnG l.prog w K mg base CX0 6 fa fd ["_law_script"] (spLaw K) := by
  obtain ⟨C, fI, fdI, X_NoHex⟩ := x_NoHex
  obtain ⟨_, _, d_between⟩ := d_between
  obtain ⟨_, _, d_show_hex⟩ := d_show_hex
  obtain ⟨_, _, d_may_be⟩ := d_may_be
  obtain ⟨_, _, d_read_hex⟩ := d_read_hex
  obtain ⟨_, _, d_feed⟩ := d_feed
  obtain ⟨_, _, d_draw⟩ := d_draw
  obtain ⟨_, _, d_pick⟩ := d_pick
  obtain ⟨_, _, d_signs⟩ := d_signs
  obtain ⟨_, _, d_bent⟩ := d_bent
  obtain ⟨_, _, d_byte⟩ := d_byte
  obtain ⟨_, _, d_hex⟩ := d_hex
  obtain ⟨_, _, d_due⟩ := d_due
  obtain ⟨_, _, d_told⟩ := d_told
  obtain ⟨f, fd, d_law⟩ := d_law
  obtain rfl : f = fa := Value.ref.inj (Option.some.inj (d_law.g.symm.trans hfa))
  refine ⟨fd, fun s u => ?_, fun base _ _ => ?_⟩
  · obtain ⟨oc, od, kV, doc, pm, an, cdv, ct, osl, rfl, lk, hcd⟩ := d_law.F.ex
    exact .of_eq rfl
  have B_NoHex := X_NoHex.F.binds (ps := ["self", "at"]) fun _ _ _ _ _ _ us hl => match us, hl with | [_, _], _ => rfl
  have O_between := d_between.ok (P := l.prog) (w := w) (base := base) (d_between.F.binds (ps := ["many"]) fun _ _ _ _ _ _ us hl => match us, hl with | [_], _ => rfl) (ok_between d_between.F T)
  have O_show_hex := d_show_hex.ok (d_show_hex.F.binds (ps := ["row"]) fun _ _ _ _ _ _ us hl => match us, hl with | [_], _ => rfl) (ok_show_hex d_show_hex.F T O_between)
  have O_may_be := d_may_be.ok (d_may_be.F.binds (ps := ["sign", "at"]) fun _ _ _ _ _ _ us hl => match us, hl with | [_, _], _ => rfl) (ok_may_be d_may_be.F T O_between)
  have O_read_hex := d_read_hex.ok (d_read_hex.F.binds (ps := ["text"]) fun _ _ _ _ _ _ us hl => match us, hl with | [_], _ => rfl) (ok_read_hex d_read_hex.F T X_NoHex (ok_NoHex_init X_NoHex T v_ValueError) B_NoHex O_may_be)
  have O_feed := d_feed.ok (P := l.prog) (w := w) (base := base) (d_feed.F.binds (ps := ["_law_script"]) fun _ _ _ _ _ _ us hl => match us, hl with | [_], _ => rfl) (ok__law_feed d_feed.F)
  have O_draw := d_draw.ok (P := l.prog) (w := w) (base := base) (d_draw.F.binds (ps := ["_law_pen", "_law_span"]) fun _ _ _ _ _ _ us hl => match us, hl with | [_, _], _ => rfl) (ok__law_draw d_draw.F T)
  have O_pick := d_pick.ok (d_pick.F.binds (ps := ["_law_pen", "_law_some"]) fun _ _ _ _ _ _ us hl => match us, hl with | [_, _], _ => rfl) (ok__law_pick d_pick.F T O_draw)
  have O_signs := d_signs.ok (P := l.prog) (w := w) (base := base) (d_signs.F.binds (ps := []) fun _ _ _ _ _ _ us hl => match us, hl with | [], _ => rfl) (ok__law_signs d_signs.F)
  have O_bent := d_bent.ok (d_bent.F.binds (ps := ["_law_pen", "_law_text", "_law_near"]) fun _ _ _ _ _ _ us hl => match us, hl with | [_, _, _], _ => rfl) (ok__law_bent_text d_bent.F T O_draw O_signs)
  have O_byte := d_byte.ok (d_byte.F.binds (ps := ["_law_pen"]) fun _ _ _ _ _ _ us hl => match us, hl with | [_], _ => rfl) (ok__law_byte d_byte.F O_draw)
  have O_hex := d_hex.ok (P := l.prog) (w := w) (base := base) (d_hex.F.binds (ps := ["_law_row"]) fun _ _ _ _ _ _ us hl => match us, hl with | [_], _ => rfl) (ok__law_hex d_hex.F T)
  have O_due := d_due.ok (P := l.prog) (w := w) (base := base) (d_due.F.binds (ps := ["_law_thing"]) fun _ _ _ _ _ _ us hl => match us, hl with | [_], _ => rfl) (ok__law_due d_due.F T)
  have O_told := d_told.ok (d_told.F.binds (ps := ["_law_thing"]) fun _ _ _ _ _ _ us hl => match us, hl with | [_], _ => rfl) (ok__law_told d_told.F T X_NoHex X_NoHex.ve O_read_hex)
  exact ok_law d_law.F T O_feed O_draw O_pick O_byte O_bent O_hex O_show_hex O_told O_due
end C01
open PySem PySem.W PyProof.Rows
set_option maxRecDepth 100000 in
set_option maxHeartbeats 0 in
theorem PySem.Challenge.cw_byteround_k01_rows_of_bytes_as_texts_holds : PySem.Challenge.rw_byteround_k01_rows_of_bytes_as_texts.Holds := by
  w_on; o_law; k_head; (case hw => w_witness2)
  k_fill
  refine Br.walk_ofG (l := PySem.Challenge.rw_byteround_k01_rows_of_bytes_as_texts) (n := 63) (k := 6) (x := "_law_script") (sp := C01.spLaw) rfl (by decide) rfl ⟨rfl, by decide, by decide⟩ (fun w h Y => PySem.W.kIn_of Y) ?F (fun K H a ns hl _ hS => ⟨a, ns, rfl, hS, hl, fun _ => rfl⟩)
  case F =>
    intro w mg fa h KX G hmg
    have n_len : mg "len" = none := PySem.W.mg_none_of KX G (by k_is)
    have n_abs : mg "abs" = none := PySem.W.mg_none_of KX G (by k_is)
    have n_range : mg "range" = none := PySem.W.mg_none_of KX G (by k_is)
    have n_isinstance : mg "isinstance" = none := PySem.W.mg_none_of KX G (by k_is)
    have n_str : mg "str" = none := PySem.W.mg_none_of KX G (by k_is)
    have n_int : mg "int" = none := PySem.W.mg_none_of KX G (by k_is)
    have n_bool : mg "bool" = none := PySem.W.mg_none_of KX G (by k_is)
    have n_min : mg "min" = none := PySem.W.mg_none_of KX G (by k_is)
    have n_repr : mg "repr" = none := PySem.W.mg_none_of KX G (by k_is)
    have n_tuple : mg "tuple" = none := PySem.W.mg_none_of KX G (by k_is)
    have n_enumerate : mg "enumerate" = none := PySem.W.mg_none_of KX G (by k_is)
    have n_ValueError : mg "ValueError" = none := PySem.W.mg_none_of KX G (by k_is)
    have g_SIGNS : ∃ t, mg "SIGNS" = some (.str "0123456789abcdef" t) := ⟨_, PySem.W.mg_of KX G (by k_is)⟩
    have g_IN_A_ROW : ∃ t, mg "IN_A_ROW" = some (.int 16 t) := ⟨_, PySem.W.mg_of KX G (by k_is)⟩
    have T : C01.Txt mg := ⟨n_len, n_abs, n_range, n_isinstance, n_str, n_int, n_bool, n_min, n_repr, n_tuple, n_enumerate, n_ValueError, g_SIGNS, g_IN_A_ROW⟩
    refine C01.all_mk hmg T ?vV ?xN ?d0 ?d1 ?d2 ?d3 ?d4 ?d5 ?d6 ?d7 ?d8 ?d9 ?d10 ?d11 ?d12 ?d13
    case vV => k_is
    case xN =>
      refine' Br.xcT KX G ?aC ?xL ?hbm ?sa ?eC ?tC ?kC ?a1 ?t1 ?l1 ?c1 ?k1 ?nf ?ga ?gg ?hC ?ha ?hn ?ht ?hm ?sC ?ve
      (case aC => k_is); (case xL => k_is); (case hbm => decide +kernel); (case sa => k_is); (case eC => k_is); (case tC => k_is); (case kC => k_is); (case a1 => k_is); (case t1 => k_is); (case l1 => k_is); (case c1 => k_is); (case k1 => k_is)
      (case nf => k_is); (case ga => k_is); (case gg => k_is); (case hC => k_is); (case ha => k_is); (case hn => k_is); (case ht => k_is); (case hm => k_is); (case sC => first | rfl | k_is); (case ve => first | rfl | k_is)
    case d0 =>
      refine' Br.defT KX G ?a ?l ?c ?k
      (case a => k_is); (case l => k_is); (case c => k_is); (case k => k_is)
    case d1 =>
      refine' Br.defT KX G ?a ?l ?c ?k
      (case a => k_is); (case l => k_is); (case c => k_is); (case k => k_is)
    case d2 =>
      refine' Br.defT KX G ?a ?l ?c ?k
      (case a => k_is); (case l => k_is); (case c => k_is); (case k => k_is)
    case d3 =>
      refine' Br.defT KX G ?a ?l ?c ?k
      (case a => k_is); (case l => k_is); (case c => k_is); (case k => k_is)
    case d4 =>
      refine' Br.defT KX G ?a ?l ?c ?k
      (case a => k_is); (case l => k_is); (case c => k_is); (case k => k_is)
    case d5 =>
      refine' Br.defT KX G ?a ?l ?c ?k
      (case a => k_is); (case l => k_is); (case c => k_is); (case k => k_is)
    case d6 =>
      refine' Br.defT KX G ?a ?l ?c ?k
      (case a => k_is); (case l => k_is); (case c => k_is); (case k => k_is)
    case d7 =>
      refine' Br.defT KX G ?a ?l ?c ?k
      (case a => k_is); (case l => k_is); (case c => k_is); (case k => k_is)
    case d8 =>
      refine' Br.defT KX G ?a ?l ?c ?k
      (case a => k_is); (case l => k_is); (case c => k_is); (case k => k_is)
    case d9 =>
      refine' Br.defT KX G ?a ?l ?c ?k
      (case a => k_is); (case l => k_is); (case c => k_is); (case k => k_is)
    case d10 =>
      refine' Br.defT KX G ?a ?l ?c ?k
      (case a => k_is); (case l => k_is); (case c => k_is); (case k => k_is)
    case d11 =>
      refine' Br.defT KX G ?a ?l ?c ?k
      (case a => k_is); (case l => k_is); (case c => k_is); (case k => k_is)
    case d12 =>
      refine' Br.defT KX G ?a ?l ?c ?k
      (case a => k_is); (case l => k_is); (case c => k_is); (case k => k_is)
    case d13 =>
      refine' Br.defT KX G ?a ?l ?c ?k
      (case a => k_is); (case l => k_is); (case c => k_is); (case k => k_is)
#print axioms PySem.Challenge.cw_byteround_k01_rows_of_bytes_as_texts_holds
