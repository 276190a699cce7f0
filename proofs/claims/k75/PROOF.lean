import PyProof.Rows.All
import Wide.All
import OpenK.AllK
import Wide.FinOn
import HandS.HeadWalk
import KE.OsRun
import KE.KNestM
import PyProof.ReprRoads
import KE.KExcIs
import HandS.ForMost
import HandS.ForExc
import HandS.ExcInit
import HandS.ExcField
import HandS.ExcIs
import HandS.IsInst
import HandS.Replace
import KE.GoesEnum
import KE.GoesEnumKw
import HandS.Walk
import PyProof.Rows.StrStep
import HandS.Style
import PyProof.InstNe
import HandS.OwnEq
import HandS.TupAny
import HandS.TupMul
import KE.KRevSl
import PyProof.Rows.CallKwBuiltin
import HandS.Defaults
import PyProof.Seq
import HandS.Lambda
import HandS.Wide
import PyProof.CallFns
import HandS.MakeKwOnly
import HandS.Dict
import HandS.DictComp
import HandS.More
import HandS.Text
import HandS.Steps
import KE.GoesMore
import HandS.Zip
import PyProof.Rows.IntBool
import HandS.CallSlots
import HandS.EndTab
import HandS.Iter
import PyProof.ListStr
import PyProof.StrBlock2
import HandS.TryOnly
import HandS.Comp
import HandS.TupLe
import HandS.SortRule
import HandS.SetBool
import HandS.SetKeys
import PyProof.Rows.StrCase
import PyProof.Rows.ReprOcc
import HandS.StrMore
import KE.GoesComp
import KE.GoesRaise
import HandS.RaiseMore
import HandS.SetFor
import HandS.Strs
import PyProof.Rows.SortShellAny
import HandS.Sort
import PyProof.EqKinds
import PyProof.DictKinds
import OpenK.KWalk
import HandS.Conv
import HandS.FStr
import PyProof.SeqIndex
import PyProof.P3Eq
import HandS.Flow
import KE.DatumOrd
import KE.SortData
import PySem.Challenge.RW_byteround_k75_whole_patches_as_deeds
set_option Elab.async false
set_option linter.all false
set_option maxRecDepth 100000
set_option maxHeartbeats 4000000
namespace Dn
open PySem PySem.W PySem.Calls PyProof.Rows
def seenT (as ts : List Addr) (s : SharedT) : List (Option Obj) × List (Option Obj) := (as.map (HeadRun.getT s), ts.map (HeadRun.getT s))
theorem seenT_eq {K : Params → Frag} {as ts : List Addr} (ek : ∀ P, as = (K P).map (·.1)) (s : SharedT) : seenT as ts s = (kmHook K as ek ts).obs s.abs :=
  Prod.ext (List.map_congr_left fun a _ => HeadRun.getT_eq s a) (List.map_congr_left fun a _ => HeadRun.getT_eq s a)
def Runs (r : OpenRow) (q : Program) (K : Params → Frag) (as ts : List Addr) (M : Nat) (loose : List PySem.Str) (row : String) (b : Bool) : Prop :=
  ∀ (w : World) (os : OsState), (HeadRun.endF (HeadRun.stepQ (HeadRun.denQ HeadRun.tabQ) r.prog (w.withFollow row b)) M r.prog (w.withFollow row b) os).map (fun s => (HeadRun.looksF r.prog (boot_heap (w.withFollow row b).params) s.abs, HeadRun.seenQ q loose (importedModules r.prog.main.body) (fun s => xlAt q [] s && recOk r.toRowW.records s) s.abs, seenT as ts s)) =
    some (true, openGood q loose, ((K (w.withFollow row b).params).map fun p => some p.2), ts.map fun _ => some (tabObj #[]))
theorem head_two {r : OpenRow} {q : Program} {K : Params → Frag} {as ts : List Addr} {M : Nat} {loose : List PySem.Str} {d : DefRec} {kwd : List (PySem.Str × PySem.Expr)} {row : String}
    (ek : ∀ P, as = (K P).map (·.1)) (no : Runs r q K as ts M loose row false) (yes : Runs r q K as ts M loose row true)
    (e : opening r.prog = plainProg r.prog.main.scope.names) (f : ∀ s, fenceModules? r.prog s = some s)
    (hdef : defOf q r.name = some (d, kwd)) (hp : r.prog.theDef r.name = some (d.params, d.body, d.scope)) (hk : kwWritten? d.params.kwonlyargs d.params.kw_defaults = some kwd)
    (hwr : (!r.writes || r.records.isEmpty) = true) (k1 : r.wellSaid = true)
    (ok : (chainsOk q && opensWell r.prog && (frees r.toRowW && r.within.isEmpty)) = true) (hb : r.prog.bare) (hw : r.toRowW.promised)
    (call : WalkO q loose (XL q []) (kmHook K as ek ts).says r.toRowW d kwd fun f vs => PySem.call f vs) : r.Holds :=
  HeadRun.head_any (H := kmHook K as ek ts) (ob := seenT as ts) (seenT_eq ek) e f (byRow2 row no yes) hdef hp hk hwr k1 ok hb hw call
end Dn
section
open PySem PySem.W PyProof.Rows
abbrev C75_row : OpenRow := (PySem.W.OpenLaw.row PySem.Challenge.rw_byteround_k75_whole_patches_as_deeds)
abbrev C75_view : Program := PySem.W.view C75_row.prog [35]
abbrev C75_loose : List PySem.Str := (["NoPatch", "Misfit", "is_whole", "is_from", "BYTE", "is_row", "is_spot", "spot_end", "first_bad", "Patch", "growth", "other_length", "need_fit", "fitted", "placed_behind", "turned_back", "bytes_by_place", "need_chain", "clustered", "filled_in", "chained", "_law_feed", "_law_draw", "_law_pick", "_law_bytes", "_law_spots", "_law_fit", "_law_in_groups", "_law_joined_up", "_law_are_seen"] : List PySem.Str)
abbrev C75_as : List Addr := ([2, 3, 15, 22, 24, 25, 27, 28, 29, 30, 31, 32, 35, 42, 44, 45, 47, 48, 49, 50, 51, 52, 55, 57, 58, 60, 61, 62, 64, 65, 67, 68, 69, 72, 73, 74, 76, 77, 79, 80, 81, 83, 84, 86, 87, 88, 90, 91, 93, 94] : List Addr) ++ ([102, 103, 104, 106, 107, 109, 110, 111, 113, 114, 116, 117, 118, 120, 121, 123, 124, 125, 126, 127, 128, 129, 132, 134, 135, 137, 138, 139, 142, 143, 144, 146, 147, 149, 150, 151, 153, 154, 156, 157, 158, 160, 161, 163, 164, 165, 168, 169, 170, 173] : List Addr) ++ ([174, 175, 178, 179, 180, 182, 183, 185, 186, 187, 190, 191, 192, 195, 196, 197, 200, 201, 202, 204, 205, 207, 208, 209, 211, 212, 214, 215, 216, 219, 220, 221, 223, 224, 226, 227, 228, 230, 231, 233, 234, 235, 237, 238, 240, 241, 242, 244, 245, 247] : List Addr) ++ ([248, 249, 252, 253, 254, 257, 258] : List Addr)
local macro_rules | `(tactic| o_head $H) => `(tactic| exact (fun (_ : PySem.W.Hook) => ‹_›) $H)
set_option maxHeartbeats 0 in
theorem C75_frag (h : C75_row.Holds) : C75_row.Holds := by k_head
set_option maxHeartbeats 0 in
theorem C75_run_false : Dn.Runs C75_row C75_view C75_frag.heap_1 C75_as [] 1696 C75_loose "special-get-raises" false := fun w os => by kernel_rfl
set_option maxHeartbeats 0 in
theorem C75_run_true : Dn.Runs C75_row C75_view C75_frag.heap_1 C75_as [] 1696 C75_loose "special-get-raises" true := fun w os => by kernel_rfl
end
namespace Br
open PySem PySem.Spec PyProof.Rows L2
def xob (a : Addr) (cls : Value) (d : Option Addr) : HO := .ext fun h => ∃ oe vs, h.get? a = some oe ∧ Zc cls d oe ∧ oe.data = .fields vs
section
variable {X : Cx} {pins : List (Addr × Obj)} {σ : L2.St} {H : Hp} {s : Shared}
end
section
variable {X : Cx} {x n : Str} {c : Value} {i : Nat} {body suite : List Stmt} {b₀ : Stmt} {np pos pos' : Pos} {tb : WX → TS} {ts : Addr → Value → Option Addr → TS} {Wout : WX}
end
def tKf (K : PySem.W.Frag) (f : Str) (te : TE) : TE := fun σ H Q => te σ H fun x H1 => ∃ (a C dd : Addr) (fs : List (Str × V)) (v : V), x = .ref a ∧ H1 a = some (xob a (.ref C) (some dd)) ∧ XfC K C ∧ PySem.W.findIn K (.ref C) f = some none ∧
  H1 dd = some (.xd fs) ∧ fs.lookup f = some v ∧ Q v H1
end Br
namespace PySem
open Builtin
set_option maxHeartbeats 1000000 in
theorem br_meets_enum1 {v : Value} {o : Obj} {H : Heap → Prop} (B : Begins v o H) :
    Meets (Builtin.«enumerate.__new__» ⟨[.type "enumerate", v], []⟩) (fun _ R s => H s.heap ∧
      R (.ok (.ret (.ref (s.heap.push o).objs.size))) { s with heap := (s.heap.push o).push { cls := .type "enumerate", data := .fields #[.none, .bool false, .ref s.heap.objs.size, rawInt 0, .none, .none] } }) :=
  .of_wp fun prog w A R s h => by
    obtain ⟨hp, g, d, tk, os⟩ := s; obtain ⟨h1, h⟩ := h
    have hsub := sub_enumerate
    have q1 : ∀ {A' : Around} {E : Value → Shared → Prop} {Q : Value → Shared → Prop}, Q (.ref hp.objs.size) ⟨hp.push o, g, d, tk, os⟩ → wpAny (model prog w) A' (pyIter v) Q E ⟨hp, g, d, tk, os⟩ :=
      fun q => B.iter prog w _ _ ⟨hp, g, d, tk, os⟩ _ h1 q
    wp_walk using q1
    refine wpAny_stack_any fun st => wpAny_pure ?_
    split
    · rename_i c _ _ _ _ _
      cases (c == Value.type "enumerate")
      · wp_walk using q1
        exact ⟨_, rfl, h⟩
      · wp_walk using q1
        exact ⟨_, rfl, h⟩
    · wp_walk using q1
      exact ⟨_, rfl, h⟩
section
variable {prog : Program} {w : World} {A : Around} {E : Value → Shared → Prop} {s : Shared}
theorem br_enum1 {v : Value} {o : Obj} {H : Heap → Prop} {Q : Value → Shared → Prop} (B : Begins v o H) (h1 : H s.heap)
    (h : ∀ h', IsEnum h' (s.heap.objs.size + 1) s.heap.objs.size 0 .none → h'.get? s.heap.objs.size = some o → h'.objs.size = s.heap.objs.size + 2 →
      (∀ b o, s.heap.get? b = some o → h'.get? b = some o) → Q (.ref (s.heap.objs.size + 1)) { s with heap := h' }) :
    wpAny (model prog w) A (call (.type "enumerate") [v]) Q E s := by
  refine callType_new F.called_enumerate (by decide) (F.typeCall_enumerate_1 _) (F.newCall_enumerate_1 _) (fun obj => F.args_object_init_2 obj _) F.entry_enumerate_new (br_meets_enum1 B) ⟨h1, ?_⟩
  have hz : (s.heap.push o).objs.size = s.heap.objs.size + 1 := Heap.size_push ..
  show _ ∧ _
  rw [hz]
  have he : IsEnum ((s.heap.push o).push { cls := .type "enumerate", data := .fields #[.none, .bool false, .ref s.heap.objs.size, rawInt 0, .none, .none] }) (s.heap.objs.size + 1) s.heap.objs.size 0 .none := by
    have := Heap.get?_push_size (s.heap.push o) (o := { cls := .type "enumerate", data := .fields #[.none, .bool false, .ref s.heap.objs.size, rawInt 0, .none, .none] }) rfl
    rw [hz] at this; exact this
  refine ⟨⟨_, he, rfl⟩, h _ he (Heap.get?_push_of_some _ (Heap.get?_push_size _ B.free)) (by rw [Heap.size_push, hz]) fun b o x => Heap.get?_push_of_some _ (Heap.get?_push_of_some _ x)⟩
end
end PySem
namespace Br
open PySem PySem.Spec PyProof.Rows L2
def Itet (K : PySem.W.Frag) (a : Addr) (k : Int) : It :=
  ⟨fun i H => ∃ (xs : List V) (x : V), SqT K H a xs ∧ xs[i]? = some x, fun i H v H' => ∃ T x, v = .ref T ∧ H T = none ∧ H' = upd H T (.tup [.int (k + (i : Nat)), x]) ∧ ∀ xs, SqT K H a xs → xs[i]? = some x, fun i H => ∃ xs : List V, SqT K H a xs ∧ xs.length ≤ i⟩
theorem isTup_isTuple {h : Heap} {a : Addr} {its : Array Value} (p : IsTup h a its) : h.IsTuple a its := by
  obtain ⟨o, h1, h2, n, h3⟩ := p
  exact ⟨o, h1, h2, n, h3⟩
theorem turn_enumT {P : Program} {w : World} {K : PySem.W.Frag} {elts : List Expr} {kk : Nat} {tpos : Pos} (a e it : Addr) (k : Int) (hai : a ≠ it) (hae : a ≠ e) :
    Turn P w K (.Tuple elts kk tpos) (Itet K a k) [e, it] e (fun i h => (∃ old, IsEnum h e it (k + (i : Nat)) old) ∧ h.IsTupleIter it a i ∧ e ≠ it) where
  mem := by simp
  obj := fun i h st b hb => by
    obtain ⟨⟨old, he⟩, ⟨o, ho, hc, hd⟩, _⟩ := st
    have e' : b = e ∨ b = it := by simpa using hb
    rcases e' with z | z
    · rw [z]; exact ⟨_, he, fun v q => nomatch q⟩
    · rw [z]; exact ⟨o, ho, fun v q => by rw [hd] at q; cases q⟩
  keep := fun i h h' st k => let ⟨⟨old, he⟩, hi, hne⟩ := st; ⟨⟨old, k e (by simp) _ he⟩, hi.at fun o q => k it (by simp) o q, hne⟩
  item := by
    intro X hP hw hK hc i pins s σ H E I hf st hg
    subst hP hw hK
    obtain ⟨⟨old, he⟩, hit, hne⟩ := st
    obtain ⟨xs, x, hq, hx⟩ := hg
    obtain ⟨its, rv, p, hz⟩ := I.tuple hq
    obtain ⟨u, hu, ru⟩ := rv.get hx
    have hel : e < s.heap.objs.size := Heap.lt_size he
    have hil : it < s.heap.objs.size := by obtain ⟨_, q, _⟩ := hit; exact Heap.lt_size q
    have D : Draws X.prog X.w X.A.in1 it [it, a] its.toArray.size (fun i v => its.toArray[i]? = some v) (fun i h => h.IsTupleIter it a i ∧ h.IsTuple a its.toArray) := Draws.tuple (A := X.A.in1) (I.ok.hd hc) it a hai its.toArray
    have hil2 : i < its.toArray.size := by
      have := (List.getElem?_eq_some_iff.mp hu).1
      simpa using this
    refine wpAny_pyNext_enum_itemC D he ⟨hit, isTup_isTuple p⟩ hil2 hne (by simp [hne, Ne.symm hae]) fun x' h' tk hx' ho st' hT hsz hk => ?_
    have hxe : x' = u := by
      rw [show its.toArray[i]? = some u by simpa using hu] at hx'
      exact (Option.some.inj hx').symm
    subst hxe
    refine ⟨_, rfl, wpAny_letOwnedTupleGo_enum (s := { s with heap := h', toks := tk + 1 }) ho fun h'' he' sb => ?_⟩
    have hT2 : h''.get? s.heap.objs.size = some { cls := .type "tuple", data := .seq #[.int (k + (i : Nat)) tk, x'] } := (sb.2 _ (Nat.ne_of_gt hel)).trans hT
    have new : ObjOk X.prog X.w (upd H s.heap.objs.size (.tup [.int (k + (i : Nat)), x])) h'' s.heap.objs.size (.tup [.int (k + (i : Nat)), x]) :=
      ⟨by show 2 ≤ sizeLine; decide, [.int (k + (i : Nat)) tk, x'], .cons ⟨_, rfl⟩ (.cons ru .nil), ⟨_, hT2, rfl, _, rfl⟩⟩
    have I1 : Inv X pins σ (upd H s.heap.objs.size (.tup [.int (k + (i : Nat)), x])) { s with heap := h'', toks := tk + 1 } :=
      I.turnedNew (ch := [e, it]) (fun b ob hb q => (sb.2 b (fun z => hb (by simp [z]))).trans (hk b ob (fun z => hb (by simp [z])) (fun z => hb (by simp [z])) q)) hf (Nat.le_refl _) new
    refine ⟨.ref s.heap.objs.size, _, I1, rfl, ⟨_, x, rfl, I.hok.fresh (Nat.le_refl _), rfl, fun ys hy => by rw [I.tuple_inj hy hq]; exact hx⟩, ⟨⟨x', ?_⟩, st'.1.at fun o q => (sb.2 it (Ne.symm hne)).trans q, hne⟩, fun b hb => ?_⟩
    · have e1 : k + ((i + 1 : Nat) : Int) = k + (i : Nat) + 1 := by omega
      rw [e1]; exact he'
    · have hb' : b < s.heap.objs.size := by
        have e' : b = e ∨ b = it := by simpa using hb
        rcases e' with z | z
        · rw [z]; exact hel
        · rw [z]; exact hil
      rw [upd_ne (Nat.ne_of_lt hb')]
      exact (hf b hb).1
  done := by
    intro X hP hw hK hc i pins s σ H E I hf st hg
    subst hP hw hK
    obtain ⟨⟨old, he⟩, hit, hne⟩ := st
    obtain ⟨xs, hq, hx⟩ := hg
    obtain ⟨its, rv, p, hz⟩ := I.tuple hq
    obtain ⟨f0, f1, f2, f3, f4, f5⟩ := hf it (by simp)
    have hl := rv.length
    have hT : s.TypeIs (.ref e) "enumerate" := ⟨_, he, rfl⟩
    unfold pyNext
    refine wpAny_bind (wpAny_attempt (wpAny_callSpecial?_slot (name := Str.ofString "__next__") hT F.slot_enumerate_next
      (wpAny_call_entry F.slot_enumerate_next hT F.entry_enumerate_next ?_ (F.args_enumerate_next_1 _))))
    show wpAny _ _ (field (.ref e) 2 >>= _) _ _ _
    refine wpAny_bind (wpAny_field he rfl (x := .ref it) rfl ?_)
    refine wpAny_bind (wpAny_nextOf_tuple_end (I.ok.hd hc) hit (isTup_isTuple p) (by simp; omega) fun h' x he' hx' => ?_)
    obtain ⟨o, ho, hc'⟩ := hx'
    refine wpAny_bind (wpAny_isInstance (T := "StopIteration") (b := true) ⟨o, ho, hc'⟩ isSubtype_stop ?_)
    exact wpAny_pure ⟨rfl, I.turned (t' := s.toks) (fun b o hb q => he' b o hb q) f0 f1 f3 f4 f5⟩
  self := fun A i s Q E st h => let ⟨⟨_, he⟩, _⟩ := st; wpAny_pyIter_enum he h
def Ites (x : Str) : It := ⟨fun i _ => i < x.cps.size, fun i H v H' => ∃ T c, v = .ref T ∧ H T = none ∧ H' = upd H T (.tup [.int (i : Nat), .str ⟨#[c]⟩]) ∧ x.cps[i]? = some c, fun i _ => x.cps.size ≤ i⟩
theorem turn_enumS {P : Program} {w : World} {K : PySem.W.Frag} {elts : List Expr} {kk : Nat} {tpos : Pos} (x : Str) (t : Tok) (e it : Addr) :
    Turn P w K (.Tuple elts kk tpos) (Ites x) [e, it] e (fun i h => (∃ old, IsEnum h e it ((i : Nat) : Int) old) ∧ h.IsStrIter it (strIterType x) x t i ∧ e ≠ it ∧ i ≤ x.cps.size) where
  mem := by simp
  obj := fun i h st b hb => by
    obtain ⟨⟨old, he⟩, ⟨o, ho, hc, hd⟩, _⟩ := st
    have e' : b = e ∨ b = it := by simpa using hb
    rcases e' with z | z
    · rw [z]; exact ⟨_, he, fun v q => nomatch q⟩
    · rw [z]; exact ⟨o, ho, fun v q => by rw [hd] at q; cases q⟩
  keep := fun i h h' st k => by
    obtain ⟨⟨old, he⟩, ⟨o, ho, hc, hd⟩, hne, hl⟩ := st
    exact ⟨⟨old, k e (by simp) _ he⟩, ⟨o, k it (by simp) _ ho, hc, hd⟩, hne, hl⟩
  item := by
    intro X hP hw hK hc i pins s σ H E I hf st hg
    subst hP hw hK
    obtain ⟨⟨old, he⟩, hit, hne, _⟩ := st
    have hg' : i < x.cps.size := hg
    have hel : e < s.heap.objs.size := Heap.lt_size he
    have hil : it < s.heap.objs.size := by obtain ⟨_, q, _⟩ := hit; exact Heap.lt_size q
    have D := Draws.text (prog := X.prog) (w := X.w) (A := X.A.in1) (I.ok.hd hc) it x t
    refine wpAny_pyNext_enum_itemC D he hit hg' hne (by simp [hne]) fun x' h' tk hx' ho st' hT hsz hk => ?_
    obtain ⟨c, uc, hcx, hxe⟩ := hx'
    subst hxe
    refine ⟨_, rfl, wpAny_letOwnedTupleGo_enum (s := { s with heap := h', toks := tk + 1 }) ho fun h'' he' sb => ?_⟩
    have hT2 : h''.get? s.heap.objs.size = some { cls := .type "tuple", data := .seq #[.int ((i : Nat) : Int) tk, .str ⟨#[c]⟩ uc] } := (sb.2 _ (Nat.ne_of_gt hel)).trans hT
    have new : ObjOk X.prog X.w (upd H s.heap.objs.size (.tup [.int (i : Nat), .str ⟨#[c]⟩])) h'' s.heap.objs.size (.tup [.int (i : Nat), .str ⟨#[c]⟩]) :=
      ⟨by show 2 ≤ sizeLine; decide, [.int (i : Nat) tk, .str ⟨#[c]⟩ uc], .cons ⟨_, rfl⟩ (.cons ⟨_, rfl⟩ .nil), ⟨_, hT2, rfl, _, rfl⟩⟩
    have I1 : Inv X pins σ (upd H s.heap.objs.size (.tup [.int (i : Nat), .str ⟨#[c]⟩])) { s with heap := h'', toks := tk + 1 } :=
      I.turnedNew (ch := [e, it]) (fun b ob hb q => (sb.2 b (fun z => hb (by simp [z]))).trans (hk b ob (fun z => hb (by simp [z])) (fun z => hb (by simp [z])) q)) hf (Nat.le_refl _) new
    refine ⟨.ref s.heap.objs.size, _, I1, rfl, ⟨_, c, rfl, I.hok.fresh (Nat.le_refl _), rfl, hcx⟩, ⟨⟨.str ⟨#[c]⟩ uc, ?_⟩, ?_, hne, hg'⟩, fun b hb => ?_⟩
    · have e1 : (((i + 1 : Nat)) : Int) = ((i : Nat) : Int) + 1 := by omega
      rw [e1]; exact he'
    · obtain ⟨o, h1, h2, h3⟩ := st'
      exact ⟨o, (sb.2 it (Ne.symm hne)).trans h1, h2, h3⟩
    · have hb' : b < s.heap.objs.size := by
        have e' : b = e ∨ b = it := by simpa using hb
        rcases e' with z | z
        · rw [z]; exact hel
        · rw [z]; exact hil
      rw [upd_ne (Nat.ne_of_lt hb')]
      exact (hf b hb).1
  done := by
    intro X hP hw hK hc i pins s σ H E I hf st hg
    subst hP hw hK
    obtain ⟨⟨old, he⟩, hit, hne, hle⟩ := st
    have hg' : x.cps.size ≤ i := hg
    have hi : i = x.cps.size := Nat.le_antisymm hle hg'
    subst hi
    obtain ⟨f0, f1, f2, f3, f4, f5⟩ := hf it (by simp)
    have D := Draws.text (prog := X.prog) (w := X.w) (A := X.A.in1) (I.ok.hd hc) it x t
    exact wpAny_pyNext_enum_endD D he hit fun h' eb => ⟨rfl, I.turned (t' := s.toks) (fun b o hb q => eb b o hb q) f0 f1 f3 f4 f5⟩
  self := fun A i s Q E st h => let ⟨⟨_, he⟩, _⟩ := st; wpAny_pyIter_enum he h
def iEnumT (K : PySem.W.Frag) (ta : TA) : TI := fun σ H R => ta σ H fun vs H1 => ∃ a xs, vs = [.ref a] ∧ SqT K H1 a xs ∧ R (Itet K a 0) H1
def iEnumS (ta : TA) : TI := fun σ H R => ta σ H fun vs H1 => ∃ x, vs = [.str x] ∧ R (Ites x) H1
section
variable {X : Cx} {e : Expr} {ta : TA} {p pos tpos : Pos} {elts : List Expr} {kk : Nat}
end
theorem walk_et {K : PySem.W.Frag} {a : Addr} {xs : List V} {k : Int} : Walk (Itet K a k) xs.length (fun H => SqT K H a xs) (fun i H v H' => ∃ T x, v = .ref T ∧ H T = none ∧ H' = upd H T (.tup [.int (k + (i : Nat)), x]) ∧ xs[i]? = some x) where
  goes := fun i H hi q => ⟨xs, xs[i], q, by simp [hi]⟩
  stops := fun H q => ⟨xs, q, Nat.le_refl _⟩
  yields := fun i H x H' hi q ⟨T, y, e1, e2, e3, e4⟩ => ⟨T, y, e1, e2, e3, e4 xs q⟩
theorem walk_es {x : Str} : Walk (Ites x) x.cps.size (fun _ => True) (fun i H v H' => ∃ T c, v = .ref T ∧ H T = none ∧ H' = upd H T (.tup [.int (i : Nat), .str ⟨#[c]⟩]) ∧ x.cps[i]? = some c) where
  goes := fun i H hi _ => hi
  stops := fun H _ => Nat.le_refl _
  yields := fun i H v H' _ _ y => y
structure FnG (P : Program) (w : World) (K : PySem.W.Frag) (mg : Str → Option Value) (base : Heap) (CX : CXT) (k : Nat) (f : Addr) (fd : FuncData) (ps : List Str) (sp : Sp) : Prop where
  len : ∀ vs H Q E, sp vs H Q E → vs.length = ps.length
  run : ∀ (A : Around) (outer : List Env) (s : Shared) (H : Hp) (args : Args) (us : List Value) (vs : List V) (Q : VK) (E : XK), A.guards = some [] → Room k A → Env0 P w K mg base A outer s H → BindsTo s fd args (ps.zip us) → Vals vs us → sp vs H Q E →
    codeAny (model P w) A (.call (.ref f) args) (CR CX outer P w H s Q E) s
section
variable {P : Program} {w : World} {K : PySem.W.Frag} {mg : Str → Option Value} {base : Heap} {CX : CXT}
theorem fn_ofG {k : Nat} {f : Addr} {name qual : Str} {params : Arguments} {body : List Stmt} {scope : Scope} {dV kV doc pm cdv ct oc : Value} {an od : Option Addr}
    {osl : Array (Option Value)} {N ps : List Str} {sp : Sp} (lk : K.lookup f = some ⟨oc, od, .func (PySem.W.fnOf name qual params body scope dV kV doc pm an cdv ct), osl⟩) (hcd : PySem.W.codeIn K cdv qual = true) (S : FnScope N ps scope)
    (len : ∀ vs H Q E, sp vs H Q E → vs.length = ps.length)
    (hbody : ∀ (A : Around) (outer : List Env) (s : Shared) (H : Hp) (vs : List V) (Q : VK) (E : XK), A.guards = some [] → Room k (A.deeper (envOfC qual scope s.heap.objs.size f cdv)) → sp vs H Q E →
      ∃ t, PSs (cxOf CX P w K mg base N qual scope f cdv A outer s H E) body t ∧ t { nx := fun _ H' => Q .non H', rt := Q } (start N vs) H) :
    FnG P w K mg base CX (k + 1) f (PySem.W.fnOf name qual params body scope dV kV doc pm an cdv ct) ps sp := by
  refine ⟨len, fun A outer s H args us vs Q E gd hr e0 hb r hsp => ?_⟩
  have hl := len _ _ _ _ hsp
  have KX : K.In s.heap := e0.mod.kin.keeps fun b o e => (e0.bs b o e).1
  have lim : s.heap.NoLimit := e0.mod.nolimit.keeps fun b o e => (e0.bs b o e).1
  have hkind : ∀ y ∈ ps.zip us, scope.names.lookup y.1 = some .local ∨ (scope.names.lookup y.1 = some .cell ∧ ((cellsFrom (s.heap.objs.size + 1) scope.names []).lookup y.1).isSome = true) := fun ⟨n, v⟩ hy =>
    (S.par n (List.of_mem_zip hy).1).elim .inl fun q => .inr ⟨q, PySem.W.cellsFrom_some _ _ _ (.inl q)⟩
  refine codeAny_call_function hr.depth (KX _ _ lk) rfl S.co S.gen rfl (PySem.W.codeRec_of KX hcd) (hb _ _ _ _ (wpAny_newFunctionEnv_cells S.kind hkind fun env he s1 x => ?_))
  subst he
  obtain ⟨t, ht, hq⟩ := hbody A outer s H vs Q E gd (hr.deeper _) hsp
  have I : Inv (cxOf CX P w K mg base N qual scope f cdv A outer s H E) [] (start N vs) H s1 := inv_start S hr.hd e0 hl r x
  refine ⟨lim.keeps x.toInCall.keep, codeAny_func (wpAny_mono (ht.run [] s1 (start N vs) H _ I hq) (fun fl s' hs => ?_) fun e s' hs => hs)⟩
  match fl, hs with
  | .ret u, ⟨v, σ', H', J, rv, q⟩ => exact ⟨v, H', J.os, J.bare, J.base, J.hok, rv, q⟩
  | .next, ⟨σ', H', J, q⟩ => exact ⟨V.non, H', J.os, J.bare, J.base, J.hok, rfl, q⟩
  | .brk, ⟨_, _, _, q⟩ => exact q.elim
  | .cont, ⟨_, _, _, q⟩ => exact q.elim
theorem okG {x qual : Str} {st : Stmt} {f : Addr} {fd : FuncData} {N ps : List Str} {k : Nat} {sp : Sp} (F : Fun K x qual st f fd) (S : FnScope N ps (defScope st)) (len : ∀ vs H Q E, sp vs H Q E → vs.length = ps.length)
    (hbody : ∀ (cdv : Value) (A : Around) (outer : List Env) (s : Shared) (H : Hp) (vs : List V) (Q : VK) (E : XK), A.guards = some [] → Room k (A.deeper (envOfC qual (defScope st) s.heap.objs.size f cdv)) → sp vs H Q E →
      ∃ t, PSs (cxOf CX0 P w K mg base N qual (defScope st) f cdv A outer s H E).nox (defBody st) t ∧ t { nx := fun _ H' => Q .non H', rt := Q } (start N vs) H) : FnG P w K mg base CX0 (k + 1) f fd ps sp := by
  obtain ⟨oc, od, kV, doc, pm, an, cdv, ct, osl, rfl, lk, hcd⟩ := F.ex
  refine fn_ofG lk hcd S len fun A outer s H vs Q E gd hr hsp => ?_
  obtain ⟨t, h, q⟩ := hbody cdv A outer s H vs Q E gd hr hsp
  exact ⟨t, h.nox, q⟩
end
theorem law_callG {P : Program} {w : World} {K : PySem.W.Frag} {mg mb : Str → Option Value} {k : Nat} {fa a : Addr} {fd : FuncData} {x : Str} {sp : Sp} {s₁ : Shared} {vs : List Value} {ns : List Int}
    (KX : K.In s₁.heap) (hns : s₁.heap.Ns mainGlobals mg) (hb : s₁.heap.Ns builtinsNs mb) (hbb : ∀ x : Str, x ≠ "__name__" → mb x = bootBuiltins x) (hlim : s₁.heap.NoLimit) (hg : s₁.gens = #[])
    (ha : s₁.heap.get? a = some { cls := .type "list", data := .seq vs.toArray }) (hi : IntsAre vs ns) (hl : ns.length ≤ sizeLine) (hr : Room k callerA)
    (F : ∀ base : Heap, K.In base → base.Ns mainGlobals mg → FnG P w K mg base CX0 k fa fd [x] sp) (hbind : ∀ (s : Shared) (u : Value), BindsTo s fd ⟨[u], []⟩ [(x, u)])
    (hsp : ∀ H : Hp, Only H → SqL K H a (ns.map V.int) → sp [.ref a] H (fun v _ => v = .bl true) fun _ _ _ => False) :
    codeAny (model P w) callerA (.call (.ref fa) ⟨[.ref a], []⟩) (fun r s' => r = .ok (.ret (.bool true)) ∧ OldK s₁.heap s'.heap ∧ s'.os = s₁.os ∧ AllBare s'.gens) s₁ := by
  have rv := vals_ints hi
  have core : ∀ H : Hp, Only H → SqL K H a (ns.map V.int) → HOk P w H s₁.heap → (∀ b, H b ≠ none → b = a) → (H a ≠ none → K.lookup a = none) →
      codeAny (model P w) callerA (.call (.ref fa) ⟨[.ref a], []⟩) (fun r s' => r = .ok (.ret (.bool true)) ∧ OldK s₁.heap s'.heap ∧ s'.os = s₁.os ∧ AllBare s'.gens) s₁ := by
    intro H hO hS hok hA hK
    have at_a : ∀ {b : Addr} {u : HO}, H b = some u → b = a := fun {b u} q => hA b (by rw [q]; simp)
    have noA : ∀ {b : Addr} {o : Obj} {es : Array DictEntry} {ep : Nat}, s₁.heap.get? b = some o → o.data = .dict es ep → H b = none := fun {b o es ep} e d => by
      cases q : H b with
      | none => rfl
      | some u =>
        obtain rfl := at_a q
        rw [ha] at e
        cases e
        cases d
    have nsK : ∀ {b : Addr} {m : Str → Option Value}, s₁.heap.Ns b m → (hidT s₁.heap H).Ns b m := fun {b m} ⟨o, es, ep, e, d, r⟩ => ⟨o, es, ep, hidT_get e (noA e d), d, r⟩
    have hKb : K.In (hidT s₁.heap H) := fun b o e => hidT_get (KX b o e) (by
      cases q : H b with
      | none => rfl
      | some u =>
        obtain rfl := at_a q
        rw [hK (by rw [q]; simp)] at e
        cases e)
    obtain ⟨mc, l1, l2⟩ := hlim
    have e0 : Env0 P w K mg (hidT s₁.heap H) callerA [] s₁ H := ⟨rfl, ⟨hKb, nsK hns, ⟨mb, nsK hb, hbb⟩, ⟨mc, nsK l1, l2⟩⟩, fun b o e => of_hidT e, Nat.le_of_eq (hidT_size _ _), trivial, fun b hb => (List.not_mem_nil (show b ∈ ([] : List Addr) from hb)).elim, hok, .of_eq hg⟩
    refine codeAny_mono ((F _ hKb (nsK hns)).run callerA [] s₁ H ⟨[.ref a], []⟩ [.ref a] [.ref a] _ _ rfl hr e0 (hbind s₁ (.ref a)) (.cons rfl .nil) (hsp H hO hS)) fun r s' h => ?_
    match r, h with
    | .error e, h => exact h.elim
    | .ok .next, h => exact h.elim
    | .ok .brk, h => exact h.elim
    | .ok .cont, h => exact h.elim
    | .ok (.ret u), ⟨v, H', os, bare, un, hok', r', q⟩ =>
      have q' : v = .bl true := q
      subst q'
      obtain rfl : u = Value.bool true := r'
      refine ⟨rfl, OldK.of_keep fun b o e => ?_, os, bare⟩
      cases q : H b with
      | none => exact un.keep b o e q (fun z => (List.not_mem_nil (show b ∈ ([] : List Addr) from z)).elim) (by simp)
      | some u =>
        rcases hO b with z | ⟨ob, xs, z⟩
        · rw [q] at z
          cases z
        · obtain ⟨e1, _⟩ := hok b _ z
          obtain ⟨e2, _⟩ := hok' b _ (un.frzs b ob _ z)
          rw [e] at e1
          cases e1
          exact e2
  cases hk : K.lookup a with
  | some o =>
    have e := KX a o hk
    rw [ha] at e
    cases e
    exact core (fun _ => none) (fun _ => .inl rfl) (.inr ⟨_, vs.toArray, _, hk, rfl, rfl, rfl, by rw [List.size_toArray, hi.length]; exact hl, by simpa using rv⟩) (fun b u z => nomatch (show (none : Option HO) = some u from z)) (fun b z => absurd rfl z) fun z => absurd rfl z
  | none =>
    refine core (upd (fun _ => none) a (.frz { cls := .type "list", data := .seq vs.toArray } (.lst (ns.map V.int)))) (fun b => ?_) (.inl (.inr ⟨{ cls := .type "list", data := .seq vs.toArray }, upd_same⟩)) (fun b u z => ?_) (fun b z => ?_) fun _ => hk
    · by_cases hb : b = a
      · subst hb
        exact .inr ⟨_, _, upd_same⟩
      · exact .inl (upd_ne hb)
    · by_cases hb : b = a
      · subst hb
        rw [upd_same] at z
        cases z
        exact ⟨ha, by rw [List.length_map]; exact hl, vs, _, rv, ha⟩
      · rw [upd_ne hb] at z
        cases z
    · exact Decidable.byContradiction fun hb => z (upd_ne hb)
theorem walk_ofG {l : PySem.W.OpenLaw} {n k : Nat} {q : Program} {loose : List Str} {XP : (Str → Option Value) → Heap → Prop} {YP : World → Heap → Prop} {d : DefRec} {K : Params → PySem.W.Frag} {sp : PySem.W.Frag → Sp} {x : Str}
    (hn : l.most = some n) (hn2 : n ≤ sizeLine) (hdf : d.params.defaults = []) (hr : Room k callerA)
    (hY : ∀ (w : World) (h : Heap), YP w h → (K w.params).In h)
    (F : ∀ (w : World) (mg : Str → Option Value) (fa : Addr) (h : Heap), (K w.params).In h → h.Ns mainGlobals mg → mg d.name = some (.ref fa) →
      ∃ fd : FuncData, (∀ (s : Shared) (u : Value), BindsTo s fd ⟨[u], []⟩ [(x, u)]) ∧ ∀ base : Heap, (K w.params).In base → base.Ns mainGlobals mg → FnG l.prog w (K w.params) mg base CX0 k fa fd [x] (sp (K w.params)))
    (hsp : ∀ (K : PySem.W.Frag) (H : Hp) (a : Addr) (ns : List Int), ns.length ≤ n → Only H → SqL K H a (ns.map V.int) → sp K [.ref a] H (fun v _ => v = .bl true) fun _ _ _ => False) :
    PySem.W.WalkO q loose XP YP l.row.toRowW d [] (fun f vs => PySem.call f vs) := by
  refine Att.attach_call hn hdf fun w s₀ s₁ mg mb fa o pm cd doc a vs ns G Y ho hd hcd hmg hobj hints hlen hg => ?_
  obtain ⟨fd, hb, hF⟩ := F w mg fa _ (hY w _ Y) G.T.g hmg
  exact law_callG (hY w _ Y) G.T.g G.T.b G.T.builtins G.T.nolimit hg hobj hints (Nat.le_trans hlen hn2) hr hF hb fun H hO hS => hsp (K w.params) H a ns hlen hO hS
def tRevS (te : TE) : TE := fun σ H Q => te σ H fun x H1 => ∃ z, x = .str z ∧ z.length ≤ sizeLine ∧ ∀ z' : Str, z'.length ≤ z.length → Q (.str z') H1
structure DefT (K : PySem.W.Frag) (mg : Str → Option Value) (x : Str) (st : Stmt) (f : Addr) (fd : FuncData) : Prop where
  g : mg x = some (.ref f)
  F : Fun K x x st f fd
theorem defT {K : PySem.W.Frag} {h : Heap} {mg : Str → Option Value} {x : Str} {st : Stmt} {f : Addr} {oc : Value} {od an : Option Addr} {osl : Array (Option Value)} {kV doc pm cdv ct : Value} (X : K.In h) (G : h.Ns mainGlobals mg)
    (a : PySem.W.nsIn K mainGlobals x = some (some (.ref f))) (l : K.lookup f = some ⟨oc, od, .func (PySem.W.fnOf x x (defArgs st) (defBody st) (defScope st) .none kV doc pm an cdv ct), osl⟩)
    (c : PySem.W.codeIn K cdv x = true) (k : PySem.W.keepIn K (.ref f) = true) : ∃ f fd, DefT K mg x st f fd := ⟨f, _, PySem.W.mg_of X G a, fun_mk l c k⟩
def OkD (P : Program) (w : World) (K : PySem.W.Frag) (mg : Str → Option Value) (base : Heap) (CX : CXT) (k : Nat) (x : Str) (ps : List Str) (sp : Sp) : Prop :=
  ∃ (f : Addr) (fd : FuncData), mg x = some (.ref f) ∧ PySem.W.keepIn K (.ref f) = true ∧ Binds K fd ps [] ∧ FnOk P w K mg base CX k f fd ps sp
def OkG (P : Program) (w : World) (K : PySem.W.Frag) (mg : Str → Option Value) (base : Heap) (CX : CXT) (k : Nat) (x : Str) (ps : List Str) (sp : Sp) : Prop :=
  ∃ (f : Addr) (fd : FuncData), mg x = some (.ref f) ∧ PySem.W.keepIn K (.ref f) = true ∧ Binds K fd ps [] ∧ FnG P w K mg base CX k f fd ps sp
def tCl (sp : Sp) (t : TA) : TE := fun σ H Q => t σ H fun vs H1 => sp vs H1 Q E0
def tClS (sp : Sp) (W : WX) (t : TA) : TE := fun σ H Q => t σ H fun vs H1 => sp vs H1 Q (WE W σ)
section
variable {X : Cx} {k : Nat} {x : Str} {ps : List Str} {sp : Sp} {p pos : Pos} {e : Expr} {es : List Expr} {t : TA}
theorem pe_callD (D : OkD X.prog X.w X.K X.mg X.base CX0 k x ps sp) (hr : Room k X.A) (ha : PA X (e :: es) t) (hg : Gl X x := by rfl)
    (hdb : (x == ("__debug__" : Str)) = false := by decide) (he : starEach (e :: es) X.env = (false, eval e X.env) :: starEach es X.env := by rfl) (hpl : (backTo pos (starEach es X.env)).any (·.1) = false := by rfl) :
    PE X (.Call (.Name x p) (e :: es) [] pos) (tCl sp t) := by
  obtain ⟨f, fd, gm, kp, b, F⟩ := D
  have h := pe_call (E := E0) F hr hg gm kp b .nil pass0 ha hdb he hpl (p := p)
  refine ⟨fun pins s σ H Q I q => h.run pins s σ H Q I ?_⟩
  have e1 : (fun vs H1 => sp (vs ++ []) H1 Q E0) = (fun vs H1 => sp vs H1 Q E0) := by
    funext vs H1
    rw [List.append_nil]
  show t σ H fun vs H1 => sp (vs ++ []) H1 Q E0
  rw [e1]
  exact q
theorem pe_callDS {W : WX} (D : OkD X.prog X.w X.K X.mg X.base (L2.CX X.prog X.w) k x ps sp) (hr : Room k X.A) (tk : Takes X W) (ha : PA X (e :: es) t) (hg : Gl X x := by rfl)
    (hdb : (x == ("__debug__" : Str)) = false := by decide) (he : starEach (e :: es) X.env = (false, eval e X.env) :: starEach es X.env := by rfl) (hpl : (backTo pos (starEach es X.env)).any (·.1) = false := by rfl) :
    PE X (.Call (.Name x p) (e :: es) [] pos) (tClS sp W t) := by
  obtain ⟨f, fd, gm, kp, b, F⟩ := D
  exact pe_callS (E := WE W) F hr hg gm kp b (fun σ => passAt tk σ) ha hdb he hpl
end
structure XcT (K : PySem.W.Frag) (mg : Str → Option Value) (x : Str) (qual : Str) (st : Stmt) (f : Str) (C fI : Addr) (fd : FuncData) : Prop where
  g : mg x = some (.ref C)
  O : OexC K C
  i : PySem.W.findIn K (.ref C) "__init__" = some (some (.ref fI))
  t : PySem.W.typeIn K (.ref fI) = some (.type "function")
  F : Fun K "__init__" qual st fI fd
  n : PySem.W.findIn K (.ref C) f = some none
  xf : XfC K C
  ec : ExcC K C
  self : PySem.W.exmOne K (.ref C) (.ref C) = some true
theorem exm_self {K : PySem.W.Frag} {S : Addr} (h1 : PySem.W.subIn K (.ref S) (.type "BaseException") = some true) (h2 : PySem.W.hasDictIn K S = true) (h3 : PySem.W.typeIn K (.ref S) = some (.type "type")) (h4 : PySem.W.subIn K (.ref S) (.ref S) = some true) :
    PySem.W.exmOne K (.ref S) (.ref S) = some true := PySem.W.exm_ref h1 h2 h3 h4
def rXr (C : Addr) (f : Str) (v : V) (H : Hp) (W : XK) : Prop := ∀ (d : Addr) (H' : Hp), H d = none → Same H H' → H' d = some (.xd [(f, v)]) → W (.ref C) (some d) H'
def tUp (ta : TA) : TA := fun σ H R => ∃ R' : List V → Hp → Prop, ta σ H R' ∧ ∀ vs H1, R' vs H1 → R vs H1
theorem pa_up {X : Cx} {es : List Expr} {ta : TA} (h : PA X es ta) : PA X es (tUp ta) := by
  refine ⟨fun pos pins s σ H Q I ⟨R', q, k⟩ => thn (h.run pos pins s σ H R' I q) fun us s1 ⟨vs, H1, I1, r, z⟩ => ⟨vs, H1, I1, r, k vs H1 z⟩⟩
def tMkX (C : Addr) (f : Str) (ta : TA) : L2.St → Hp → XK → Prop := fun σ H Q => ta σ H fun vs H1 => ∃ v, vs = [v] ∧ rXr C f v H1 Q
def tRz (C : Addr) (f : Str) (W : WX) (ta : TA) : TS := fun _ σ H => tMkX C f ta σ H fun cls d H' => W cls d σ H'
section
variable {σ σ' : L2.St} {H H' : Hp} {Q : VK} {ta tb te : TE} {tt tu : TT} {t u : TS} {r : R2} {v x y : V} {K : PySem.W.Frag}
theorem s_var {i : Nat} (h : σ[i]? = some (some v)) (q : Q v H) : tVar i σ H Q := ⟨v, h, q⟩
theorem s_c (q : Q v H) : tC v σ H Q := q
theorem s_op (q : ta σ H fun x H1 => tb σ H1 fun y H2 => r x y H2 Q) : tOp r ta tb σ H Q := q
theorem s_un {r : V → Hp → VK → Prop} (q : ta σ H fun x H1 => r x H1 Q) : tUn r ta σ H Q := q
theorem s_I0 {g : Int → Int → V} {i j : Int} (q : Q (g i j) H) : rI0 g (.int i) (.int j) H Q := ⟨i, j, rfl, rfl, q⟩
theorem s_I {C : Int → Int → Prop} {g : Int → Int → V} {i j : Int} (c : C i j) (q : Q (g i j) H) : rI C g (.int i) (.int j) H Q := ⟨i, j, rfl, rfl, c, q⟩
theorem s_U {g : Int → V} {i : Int} (q : Q (g i) H) : rU g (.int i) H Q := ⟨i, rfl, q⟩
theorem s_eq (h : scal x y = true) (q : Q (.bl (decide (x = y))) H) : rEq x y H Q := ⟨h, q⟩
theorem s_ne (h : scal x y = true) (q : Q (.bl (!decide (x = y))) H) : rNe x y H Q := ⟨h, q⟩
theorem s_test {R : Bool → Hp → Prop} (q : te σ H fun x H1 => ∃ k, x = .bl k ∧ R k H1) : tTest te σ H R := q
theorem s_tB {R : Bool → Hp → Prop} (q : te σ H fun x H1 => ∃ k, x = .bl k ∧ R k H1) : tB te σ H R := q
theorem s_bl {R : Bool → Prop} {k : Bool} (q : R k) : ∃ k', V.bl k = .bl k' ∧ R k' := ⟨k, rfl, q⟩
theorem s_and {R : Bool → Hp → Prop} (q : tt σ H fun c H1 => if c = true then tu σ H1 R else R false H1) : tAnd tt tu σ H R := q
theorem s_or {R : Bool → Hp → Prop} (q : tt σ H fun c H1 => if c = true then R true H1 else tu σ H1 R) : tOr tt tu σ H R := q
theorem s_not {R : Bool → Hp → Prop} (q : tt σ H fun c H1 => R (!c) H1) : tNot tt σ H R := q
theorem s_andV (q : ta σ H fun x H1 => ∃ c, x = .bl c ∧ if c = true then tb σ H1 Q else Q (.bl false) H1) : tAndV ta tb σ H Q := q
theorem s_orV (q : ta σ H fun x H1 => ∃ c, x = .bl c ∧ if c = true then Q (.bl true) H1 else tb σ H1 Q) : tOrV ta tb σ H Q := q
theorem s_notV (q : ta σ H fun x H1 => ∃ c, x = .bl c ∧ Q (.bl (!c)) H1) : tNotV ta σ H Q := q
theorem s_if (q : tt σ H fun c H1 => if c = true then ta σ H1 Q else tb σ H1 Q) : tIf tt ta tb σ H Q := q
theorem s_ifS {D : Ends} (q : tt σ H fun b H1 => if b = true then t D σ H1 else u D σ H1) : tIfS tt t u D σ H := q
theorem s_seq {nx rt bk ct} (q : t ⟨u ⟨nx, rt, bk, ct⟩, rt, bk, ct⟩ σ H) : tSeq t u ⟨nx, rt, bk, ct⟩ σ H := q
theorem s_next {nx rt bk ct} (q : nx σ H) : tNext ⟨nx, rt, bk, ct⟩ σ H := q
theorem s_asg {nx rt bk ct} {i : Nat} (q : te σ H fun x H1 => nx (σ.set i (some x)) H1) : tAsg te (gName i) ⟨nx, rt, bk, ct⟩ σ H := q
theorem s_par {nx rt bk ct} {i j : Nat} {t : TA} (q : t σ H fun vs H1 => ∃ v w, vs = [v, w] ∧ nx ((σ.set i (some v)).set j (some w)) H1) : tPar i j t ⟨nx, rt, bk, ct⟩ σ H := q
theorem s_two {R : V → V → Prop} {v w : V} (q : R v w) : ∃ v' w', [v, w] = [v', w'] ∧ R v' w' := ⟨v, w, rfl, q⟩
theorem s_ret {nx rt bk ct} (q : te σ H rt) : tRet te ⟨nx, rt, bk, ct⟩ σ H := q
theorem s_retN {nx rt bk ct} (q : rt .non H) : tRetN ⟨nx, rt, bk, ct⟩ σ H := q
theorem s_drop {nx rt bk ct} (q : te σ H fun _ H1 => nx σ H1) : tDrop te ⟨nx, rt, bk, ct⟩ σ H := q
theorem s_nil {R : List V → Hp → Prop} (q : R [] H) : tNil σ H R := q
theorem s_cons {tr : TA} {R : List V → Hp → Prop} (q : ta σ H fun x H1 => tr σ H1 fun xs H2 => R (x :: xs) H2) : tCons ta tr σ H R := q
theorem s_cl {sp : Sp} {t : TA} (q : t σ H fun vs H1 => sp vs H1 Q E0) : tCl sp t σ H Q := q
theorem s_clS {sp : Sp} {W : WX} {t : TA} (q : t σ H fun vs H1 => sp vs H1 Q (WE W σ)) : tClS sp W t σ H Q := q
theorem s_cb {r : List V → Hp → VK → Prop} {t : TA} (q : t σ H fun vs H1 => r vs H1 Q) : tCB r t σ H Q := q
theorem s_sl {r : V → Option Int → Option Int → Hp → VK → Prop} {tl th : TO} (q : te σ H fun x H1 => tl σ H1 fun l H2 => th σ H2 fun u H3 => r x l u H3 Q) : tSl r te tl th σ H Q := q
theorem s_part {R : Option Int → Hp → Prop} (q : te σ H fun x H1 => ∃ i, x = .int i ∧ R (some i) H1) : tPart te σ H R := q
theorem s_nopart {R : Option Int → Hp → Prop} (q : R none H) : tNoPart σ H R := q
theorem s_int {R : Int → Prop} {i : Int} (q : R i) : ∃ j, V.int i = .int j ∧ R j := ⟨i, rfl, q⟩
theorem s_dget {td ty : TE} (q : td σ H fun x H1 => ty σ H1 fun y H2 => ∃ a v, x = .ref a ∧ DGet H2 a y (some v) ∧ Q v H2) : tDGet td ty σ H Q := q
theorem s_dput {nx rt bk ct} {td ty tv : TE} (q : tv σ H fun v H1 => td σ H1 fun x H2 => ty σ H2 fun y H3 => ∃ a H4, x = .ref a ∧ DPut H3 a y v H4 ∧ nx σ H4) : sDPut td ty tv ⟨nx, rt, bk, ct⟩ σ H := q
theorem s_bm {T : String} {r : V → List V → Hp → VK → Prop} {t : TA} (q : ta σ H fun x H1 => tyV K T x H1 ∧ t σ H1 fun xs H2 => r x xs H2 Q) : tBM K T r ta t σ H Q := q
theorem s_bm0 {T : String} {r : V → List V → Hp → VK → Prop} (q : ta σ H fun x H1 => tyV K T x H1 ∧ r x [] H1 Q) : tBM0 K T r ta σ H Q := q
theorem s_m1 {r : V → List V → Hp → VK → Prop} (q : ta σ H fun x H1 => (∃ a, x = .str a) ∧ tb σ H1 fun y H2 => r x [y] H2 Q) : tM1 r ta tb σ H Q := q
theorem s_isstr {A : Prop} {z : Str} (q : A) : (∃ a, V.str z = .str a) ∧ A := ⟨⟨z, rfl⟩, q⟩
theorem s_kf {f : Str} (q : te σ H fun x H1 => ∃ (a C dd : Addr) (fs : List (Str × V)) (v : V), x = .ref a ∧ H1 a = some (xob a (.ref C) (some dd)) ∧ XfC K C ∧ PySem.W.findIn K (.ref C) f = some none ∧ H1 dd = some (.xd fs) ∧ fs.lookup f = some v ∧ Q v H1) : tKf K f te σ H Q := q
def Nw (o : HO) (H : Hp) (Q : VK) : Prop := ∀ p, H p = none → Q (.ref p) (upd H p o)
theorem same_new {p : Addr} {o : HO} (h : H p = none) : Same H (upd H p o) := fun b u e => by
  rw [upd_ne (ne_of_none e h)]
  exact e
theorem s_new {o : HO} (q : ∀ p H2, H p = none → Same H H2 → H2 p = some o → Q (.ref p) H2) : Nw o H Q := fun p hp => q p _ hp (same_new hp) upd_same
theorem s_lst {t : TA} (q : t σ H fun xs H1 => xs.length ≤ sizeLine ∧ Nw (.lst xs) H1 Q) : tLst t σ H Q := q
theorem s_tup {t : TA} (q : t σ H fun xs H1 => xs.length ≤ sizeLine ∧ Nw (.tup xs) H1 Q) : tTup t σ H Q := q
theorem same_mut {p : Addr} {o : HO} (e : Same H H') (h : H p = none) : Same H (upd H' p o) := fun a u ha => by
  rw [upd_ne (ne_of_none ha h)]
  exact e a u ha
theorem same_seqT {a : Addr} {xs : List V} (e : Same H H') (h : SqT K H a xs) : SqT K H' a xs := by
  rcases h with (h | ⟨o, h⟩) | h
  · exact .inl (.inl (e _ _ h))
  · exact .inl (.inr ⟨o, e _ _ h⟩)
  · exact .inr h
theorem sqT {a : Addr} {xs : List V} (h : H a = some (.tup xs)) : SqT K H a xs := .inl (.inl h)
theorem sqL {a : Addr} {xs : List V} (h : H a = some (.lst xs)) : SqL K H a xs := .inl (.inl h)
theorem r_ixL {p : Addr} {xs : List V} {i : Int} (h : SqL K H p xs) (ha : atI xs i = some v) (q : Q v H) : rIxL K (.ref p) (.int i) H Q := ⟨p, xs, i, v, rfl, rfl, h, ha, q⟩
theorem r_slL {a : Addr} {xs : List V} {lo hi : Option Int} (h : SqL K H a xs) (q : Nw (.lst (cutV xs lo hi)) H Q) : rSlL K (.ref a) lo hi H Q := ⟨a, xs, rfl, h, q⟩
theorem ixN_nat {n j : Nat} (h : j < n) : ixN n (j : Int) = some j := by
  unfold ixN
  rw [if_pos (by omega), if_pos (by omega)]
  rfl
theorem atI_get {α : Type} {xs : List α} {i : Int} {x : α} (h0 : 0 ≤ i) (h : xs[i.toNat]? = some x) : atI xs i = some x := by
  have hl : i.toNat < xs.length := (List.getElem?_eq_some_iff.mp h).1
  have e : i = ((i.toNat : Nat) : Int) := (Int.toNat_of_nonneg h0).symm
  unfold atI
  rw [e, ixN_nat hl]
  exact h
theorem atI_lt {α : Type} {xs : List α} {i : Int} (h0 : 0 ≤ i) (h : i < xs.length) : ∃ x, atI xs i = some x ∧ xs[i.toNat]? = some x := by
  have hl : i.toNat < xs.length := by omega
  exact ⟨xs[i.toNat], atI_get h0 (List.getElem?_eq_getElem hl), List.getElem?_eq_getElem hl⟩
theorem ifd {p A B : Prop} [Decidable p] (h1 : p → A) (h2 : ¬ p → B) : if decide p = true then A else B := by
  by_cases h : p
  · rw [if_pos (decide_eq_true h)]
    exact h1 h
  · rw [if_neg (by simp [h])]
    exact h2 h
theorem ifb {b : Bool} {A B : Prop} (h1 : b = true → A) (h2 : b = false → B) : if b = true then A else B := by
  cases b
  · rw [if_neg Bool.false_ne_true]
    exact h2 rfl
  · rw [if_pos rfl]
    exact h1 rfl
theorem ifT {b : Bool} {A B : Prop} (hb : b = true) (h : A) : if b = true then A else B := by
  rw [if_pos hb]
  exact h
theorem go_at {t : TS} {D : Ends} (e : σ = σ') (h : t D σ' H) : t D σ H := by
  rw [e]
  exact h
end
theorem s_cut {b : Bool} {t u : TS} {nx : L2.St → Hp → Prop} {rt : VK} {bk ct : L2.St → Hp → Prop} {σ : L2.St} {H : Hp} (R : L2.St → Hp → Prop) (rest : ∀ σ' H', R σ' H' → nx σ' H')
    (h1 : b = true → ∀ nx' : L2.St → Hp → Prop, (∀ σ' H', R σ' H' → nx' σ' H') → t ⟨nx', rt, bk, ct⟩ σ H) (h2 : b = false → ∀ nx' : L2.St → Hp → Prop, (∀ σ' H', R σ' H' → nx' σ' H') → u ⟨nx', rt, bk, ct⟩ σ H) :
    if b = true then t ⟨nx, rt, bk, ct⟩ σ H else u ⟨nx, rt, bk, ct⟩ σ H := ifb (fun h => h1 h nx rest) (fun h => h2 h nx rest)
theorem s_cutA {c : Bool} {tt : TT} {t u : TS} {nx : L2.St → Hp → Prop} {rt : VK} {bk ct : L2.St → Hp → Prop} {σ : L2.St} {H : Hp} (R : L2.St → Hp → Prop) (rest : ∀ σ' H', R σ' H' → nx σ' H')
    (h1 : c = true → ∀ nx' : L2.St → Hp → Prop, (∀ σ' H', R σ' H' → nx' σ' H') → tt σ H fun b H1 => if b = true then t ⟨nx', rt, bk, ct⟩ σ H1 else u ⟨nx', rt, bk, ct⟩ σ H1)
    (h2 : c = false → ∀ nx' : L2.St → Hp → Prop, (∀ σ' H', R σ' H' → nx' σ' H') → u ⟨nx', rt, bk, ct⟩ σ H) :
    if c = true then (tt σ H fun b H1 => if b = true then t ⟨nx, rt, bk, ct⟩ σ H1 else u ⟨nx, rt, bk, ct⟩ σ H1) else (if false = true then t ⟨nx, rt, bk, ct⟩ σ H else u ⟨nx, rt, bk, ct⟩ σ H) :=
  ifb (fun h => h1 h nx rest) (fun h => iteF (h2 h nx rest))
theorem s_pairs {tk tv : TE} {r : List (TE × TE)} {σ : L2.St} {H : Hp} {R : List (V × V) → Hp → Prop} (q : tk σ H fun x H1 => tv σ H1 fun y H2 => tPairs r σ H2 fun ps H3 => R ((x, y) :: ps) H3) : tPairs ((tk, tv) :: r) σ H R := q
theorem s_pairs0 {σ : L2.St} {H : Hp} {R : List (V × V) → Hp → Prop} (q : R [] H) : tPairs [] σ H R := q
theorem s_disp {trs : List (TE × TE)} {σ : L2.St} {H : Hp} {Q : VK} (q : ∀ p, H p = none → tPairs trs σ (upd H p (.dK [])) fun ps H2 => H2 p = some (.dK []) ∧ ∃ kvs : List (Key × V), ps = kvs.map (fun kv => (kV kv.1, kv.2)) ∧ kvs.length ≤ 15 ∧ Q (.ref p) (upd H2 p (.dK (mergeK [] kvs)))) : tDisp trs σ H Q := q
theorem s_dnew {σ : L2.St} {H : Hp} {Q : VK} (q : Nw (.dK []) H Q) : tDNewK σ H Q := q
theorem s_for {wi : TI} {g : TG} {tb : TS} {nx : L2.St → Hp → Prop} {rt : VK} {bk ct : L2.St → Hp → Prop} {σ : L2.St} {H : Hp} (q : wi σ H fun J H1 => ∃ W : Nat → Nat → L2.St → Hp → Prop, (∃ m, W 0 m σ H1) ∧ ∀ i m σ H, W i m σ H →
    (J.stop i H ∧ nx σ H) ∨ (J.go i H ∧ ∃ N : L2.St → Hp → Prop, (∀ σ' H', N σ' H' → ∃ m', m' < m ∧ W (i + 1) m' σ' H') ∧ ∀ x H', J.yld i H x H' → g x σ H' fun σ2 H2 => tb ⟨N, rt, nx, N⟩ σ2 H2)) : tFor wi g tb ⟨nx, rt, bk, ct⟩ σ H := q
theorem s_lc {wi : TI} {g : TG} {tt : TT} {te : TE} {vs : List Nat} {σ : L2.St} {H : Hp} {Q : VK} (q : wi σ H fun J H1 => ∀ D, H1 D = none → ∃ W : Nat → Nat → Hp → Prop, (∃ m, W 0 m (upd H1 D (.lst []))) ∧ ∀ i m H, W i m H →
  (J.stop i H ∧ Q (.ref D) H) ∨ (J.go i H ∧ ∃ Nx : Hp → Prop, (∀ H', Nx H' → ∃ m', m' < m ∧ W (i + 1) m' H') ∧ ∀ x H', J.yld i H x H' → g x (wipe σ vs) H' fun σ2 H2 => wipe σ2 vs = wipe σ vs ∧ tt σ2 H2 fun b H3 =>
    if b = true then te σ2 H3 fun y H4 => ∃ acc, H4 D = some (.lst acc) ∧ acc.length < sizeLine ∧ Nx (upd H4 D (.lst (acc ++ [y]))) else Nx H3)) : tLc wi g tt te vs σ H Q := q
theorem s_iList {K : PySem.W.Frag} {tl : TE} {σ : L2.St} {H : Hp} {R : It → Hp → Prop} (q : tl σ H fun x H1 => ∃ a, x = .ref a ∧ (∃ xs, SqL K H1 a xs) ∧ R (Itl K a) H1) : iList K tl σ H R := q
theorem s_iTup {K : PySem.W.Frag} {tl : TE} {σ : L2.St} {H : Hp} {R : It → Hp → Prop} (q : tl σ H fun x H1 => ∃ a, x = .ref a ∧ (∃ xs, SqT K H1 a xs) ∧ R (Itt K a) H1) : iTup K tl σ H R := q
theorem s_iRng1 {t : TA} {σ : L2.St} {H : Hp} {R : It → Hp → Prop} (q : t σ H fun vs H1 => ∃ j : Int, vs = [.int j] ∧ -(2 ^ 62) ≤ j ∧ j < 2 ^ 62 ∧ R (Itr 0 j.toNat) H1) : iRng1 t σ H R := q
theorem s_iRng2 {t : TA} {σ : L2.St} {H : Hp} {R : It → Hp → Prop} (q : t σ H fun vs H1 => ∃ i j : Int, vs = [.int i, .int j] ∧ (-(2 ^ 62) ≤ i ∧ i < 2 ^ 62 ∧ -(2 ^ 62) ≤ j ∧ j < 2 ^ 62) ∧ R (Itr i (j - i).toNat) H1) : iRng2 t σ H R := q
theorem s_iRng3 {t : TA} {σ : L2.St} {H : Hp} {R : It → Hp → Prop} (q : t σ H fun vs H1 => ∃ (i j c : Int) (n : Nat), vs = [.int i, .int j, .int c] ∧ RgC i j c n ∧ R (Itc i c n) H1) : iRng3 t σ H R := q
theorem s_vei {K : PySem.W.Frag} {t : TA} {σ : L2.St} {H : Hp} {Q : VK} (q : t σ H fun vs H1 => ∃ (a C : Addr) (ws : List V), vs = .ref a :: ws ∧ ws.length ≤ 1000 ∧ OexC K C ∧ H1 a = some (exo a C none) ∧ Q .non H1) : tVeI K t σ H Q := q
theorem s_ost {K : PySem.W.Frag} {f : Str} {to te : TE} {nx : L2.St → Hp → Prop} {rt : VK} {bk ct : L2.St → Hp → Prop} {σ : L2.St} {H : Hp} (q : te σ H fun y H1 => to σ H1 fun x H2 => ∃ a C : Addr, x = .ref a ∧ OexC K C ∧ PySem.W.findIn K (.ref C) f = some none ∧
  ((H2 a = some (exo a C none) ∧ ∀ dx, H2 dx = none → dx ≠ a → nx σ (upd (upd H2 dx (exd dx [(f, y)])) a (exo a C (some dx)))) ∨
    ∃ (dx : Addr) (fs : List (Str × V)), H2 a = some (exo a C (some dx)) ∧ H2 dx = some (exd dx fs) ∧ fs.length ≤ 900 ∧ nx σ (upd H2 dx (exd dx ((f, y) :: fs))))) : tOst K f to te ⟨nx, rt, bk, ct⟩ σ H := q
theorem s_mkx {C : Addr} {f : Str} {t : TA} {σ : L2.St} {H : Hp} {Q : XK} (q : t σ H fun vs H1 => ∃ v, vs = [v] ∧ rXr C f v H1 Q) : tMkX C f t σ H Q := q
theorem s_rz {C : Addr} {f : Str} {W : WX} {t : TA} {D : Ends} {σ : L2.St} {H : Hp} (q : t σ H fun vs H1 => ∃ v, vs = [v] ∧ rXr C f v H1 fun cls d H' => W cls d σ H') : tRz C f W t D σ H := q
theorem s_iEnumT {K : PySem.W.Frag} {t : TA} {σ : L2.St} {H : Hp} {R : It → Hp → Prop} (q : t σ H fun vs H1 => ∃ a xs, vs = [.ref a] ∧ SqT K H1 a xs ∧ R (Itet K a 0) H1) : iEnumT K t σ H R := q
theorem s_iEnumS {t : TA} {σ : L2.St} {H : Hp} {R : It → Hp → Prop} (q : t σ H fun vs H1 => ∃ x, vs = [.str x] ∧ R (Ites x) H1) : iEnumS t σ H R := q
theorem s_revS {te : TE} {σ : L2.St} {H : Hp} {Q : VK} (q : te σ H fun x H1 => ∃ z, x = .str z ∧ z.length ≤ sizeLine ∧ ∀ z' : Str, z'.length ≤ z.length → Q (.str z') H1) : tRevS te σ H Q := q
theorem s_yes {σ : L2.St} {H : Hp} {R : Bool → Hp → Prop} (q : R true H) : tYes σ H R := q
theorem s_gName {i : Nat} {v : V} {σ : L2.St} {H : Hp} {R : L2.St → Hp → Prop} (q : R (σ.set i (some v)) H) : gName i v σ H R := q
theorem s_gCons {t : TG} {u : TGs} {v : V} {r : List V} {σ : L2.St} {H : Hp} {R : L2.St → Hp → Prop} (q : t v σ H fun σ' H' => u r σ' H' R) : gCons t u (v :: r) σ H R := ⟨v, r, rfl, q⟩
theorem s_gNil {σ : L2.St} {H : Hp} {R : L2.St → Hp → Prop} (q : R σ H) : gNil [] σ H R := ⟨rfl, q⟩
section
variable {J : It} {n : Nat} {G : Hp → Prop} {Y : Nat → Hp → V → Hp → Prop} {g : TG} {tb : TS} {nx : L2.St → Hp → Prop} {rt : VK} {σ : L2.St} {H : Hp}
theorem f_it (w : Walk J n G Y) (Pv : Nat → L2.St → Hp → Prop) (h0 : Pv 0 σ H) (hG : ∀ i σ H, i ≤ n → Pv i σ H → G H)
    (hs : ∀ i x σ H H', i < n → Pv i σ H → Y i H x H' → g x σ H' fun σ2 H2 => tb ⟨Pv (i + 1), rt, nx, Pv (i + 1)⟩ σ2 H2) (hd : ∀ σ H, Pv n σ H → nx σ H) :
    ∃ W : Nat → Nat → L2.St → Hp → Prop, (∃ m, W 0 m σ H) ∧ ∀ i m σ H, W i m σ H →
      (J.stop i H ∧ nx σ H) ∨ (J.go i H ∧ ∃ N : L2.St → Hp → Prop, (∀ σ' H', N σ' H' → ∃ m', m' < m ∧ W (i + 1) m' σ' H') ∧ ∀ x H', J.yld i H x H' → g x σ H' fun σ2 H2 => tb ⟨N, rt, nx, N⟩ σ2 H2) :=
  for_it (D := ⟨nx, rt, fun _ _ => False, fun _ _ => False⟩) w Pv h0 hG hs hd
theorem walk_r {lo : Int} {n : Nat} : Walk (Itr lo n) n (fun _ => True) (fun i H x H' => H' = H ∧ x = .int (lo + (i : Nat))) := ⟨fun i H hi _ => hi, fun H _ => Nat.le_refl _, fun i H x H' _ _ y => y⟩
theorem walk_l {K : PySem.W.Frag} {a : Addr} {xs : List V} : Walk (Itl K a) xs.length (fun H => SqL K H a xs) (fun i H x H' => H' = H ∧ xs[i]? = some x) :=
  ⟨fun i H hi q => ⟨xs, xs[i], q, by simp [hi]⟩, fun H q => ⟨xs, q, Nat.le_refl _⟩, fun i H x H' hi q y => ⟨y.1, y.2 xs q⟩⟩
theorem walk_t {K : PySem.W.Frag} {a : Addr} {xs : List V} : Walk (Itt K a) xs.length (fun H => SqT K H a xs) (fun i H x H' => H' = H ∧ xs[i]? = some x) :=
  ⟨fun i H hi q => ⟨xs, xs[i], q, by simp [hi]⟩, fun H q => ⟨xs, q, Nat.le_refl _⟩, fun i H x H' hi q y => ⟨y.1, y.2 xs q⟩⟩
theorem f_range {lo : Int} (Pv : Nat → L2.St → Hp → Prop) (h0 : Pv 0 σ H) (hs : ∀ i σ H, i < n → Pv i σ H → g (.int (lo + (i : Nat))) σ H fun σ2 H2 => tb ⟨Pv (i + 1), rt, nx, Pv (i + 1)⟩ σ2 H2) (hd : ∀ σ H, Pv n σ H → nx σ H) :
    ∃ W : Nat → Nat → L2.St → Hp → Prop, (∃ m, W 0 m σ H) ∧ ∀ i m σ H, W i m σ H →
      ((Itr lo n).stop i H ∧ nx σ H) ∨ ((Itr lo n).go i H ∧ ∃ N : L2.St → Hp → Prop, (∀ σ' H', N σ' H' → ∃ m', m' < m ∧ W (i + 1) m' σ' H') ∧ ∀ x H', (Itr lo n).yld i H x H' → g x σ H' fun σ2 H2 => tb ⟨N, rt, nx, N⟩ σ2 H2) :=
  f_it walk_r Pv h0 (fun _ _ _ _ _ => trivial) (fun i x σ H H' hi p y => by obtain ⟨rfl, rfl⟩ := y; exact hs i σ _ hi p) hd
end
theorem take_more {α : Type} {l : List α} {i : Nat} {x : α} (h : l[i]? = some x) : l.take (i + 1) = l.take i ++ [x] := by
  rw [List.take_add_one, h]
  rfl
theorem emod_bd {a m : Int} (h : 0 < m) : 0 ≤ a % m ∧ a % m < m := ⟨Int.emod_nonneg _ (by omega), Int.emod_lt_of_pos _ h⟩
theorem val_hit {κ : Type} [DecidableEq κ] {k : κ} {v : V} {r : List (κ × V)} : valV ((k, v) :: r) k = some v := by
  unfold valV
  rw [List.find?_cons_of_pos (by simp)]
  rfl
theorem val_skip {κ : Type} [DecidableEq κ] {k k' : κ} {v : V} {r : List (κ × V)} (h : k' ≠ k) : valV ((k', v) :: r) k = valV r k := by
  unfold valV
  rw [List.find?_cons_of_neg (by simpa using h)]
def SBut (d : Addr) (H H' : Hp) : Prop := ∀ b o, b ≠ d → H b = some o → H' b = some o
theorem SBut.refl (d : Addr) (H : Hp) : SBut d H H := fun _ _ _ h => h
theorem SBut.trans {d : Addr} {H H1 H2 : Hp} (a : SBut d H H1) (b : SBut d H1 H2) : SBut d H H2 := fun c o n h => b c o n (a c o n h)
theorem SBut.of {d : Addr} {H H' : Hp} (a : Same H H') : SBut d H H' := fun b o _ h => a b o h
theorem SBut.then {d : Addr} {H H1 H2 : Hp} (a : SBut d H H1) (b : Same H1 H2) : SBut d H H2 := fun c o n h => b c o (a c o n h)
theorem SBut.at {d : Addr} {H H' : Hp} (a : SBut d H H') {p : Addr} {o : HO} (h : H p = some o) (n : p ≠ d) : H' p = some o := a p o n h
abbrev penL (kn : Str) (c : Addr) (a l : Int) : List (Key × V) := [(.inr "cells", .ref c), (.inr kn, .int a), (.inr "left", .int l)]
def PenAt (kn : Str) (H : Hp) (d c : Addr) (n : Nat) : Prop := ∃ (ns : List Int) (a l : Int),
  H d = some (.dK (penL kn c a l)) ∧ H c = some (.lst (ns.map V.int)) ∧ ns.length ≤ 63 ∧ 0 ≤ a ∧ a ≤ n ∧ 0 ≤ l
structure PenKey (kn : Str) : Prop where
  c : ¬ (("cells" : Str) = kn)
  l : ¬ (("left" : Str) = kn)
  kl : ¬ (kn = "left")
theorem key_at : PenKey "at" := ⟨by decide +kernel, by decide +kernel, by decide +kernel⟩
theorem cells_left : ¬ (("cells" : Str) = "left") := by decide +kernel
section
variable {kn : Str} (P : PenKey kn) {c : Addr} {a l x : Int}
theorem inr_ne {x y : Str} (h : ¬ x = y) : (Sum.inr x : Key) ≠ Sum.inr y := fun z => h (Sum.inr.inj z)
theorem pen_cells : valV (penL kn c a l) (.inr "cells" : Key) = some (.ref c) := val_hit
include P in
theorem pen_nth : valV (penL kn c a l) (.inr kn : Key) = some (.int a) := (val_skip (inr_ne P.c)).trans val_hit
include P in
theorem pen_left : valV (penL kn c a l) (.inr "left" : Key) = some (.int l) := (val_skip (inr_ne cells_left)).trans ((val_skip (inr_ne P.kl)).trans val_hit)
include P in
theorem pen_put_nth : putK (penL kn c a l) (.inr kn : Key) (.int x) = penL kn c x l := by
  have h1 := P.c
  have h2 := P.l
  simp [putK, h1, h2, List.any]
include P in
theorem pen_put_left : putK (penL kn c a l) (.inr "left" : Key) (.int x) = penL kn c a x := by
  have h1 := P.kl
  have h2 := cells_left
  simp [putK, h1, h2, List.any]
end
theorem dget_k {H : Hp} {a : Addr} {kvs : List (Key × V)} {k : Key} {v : V} (e : H a = some (.dK kvs)) (h : valV kvs k = some v) : DGet H a (kV k) (some v) := h ▸ DGet.k e
theorem dput_k {H : Hp} {a : Addr} {kvs kvs' : List (Key × V)} {k : Key} {v : V} (e : H a = some (.dK kvs)) (hl : kvs.length < sizeLine) (h : putK kvs k v = kvs') : DPut H a (kV k) v (upd H a (.dK kvs')) := h ▸ DPut.k e hl
theorem three_lt (x y z : Key × V) : [x, y, z].length < sizeLine := by show 3 < sizeLine; decide
def spDraw (kn : Str) : Sp := fun vs H Q _ => ∃ (d c : Addr) (n : Nat) (m : Int), vs = [.ref d, .int m] ∧ PenAt kn H d c n ∧ n < 1000000000 ∧ 0 < m ∧ m < 1073741824 ∧
  ∀ (r : Int) (H' : Hp), 0 ≤ r → r < m → PenAt kn H' d c (n + 1) → SBut d H H' → Q (.int r) H'
theorem dpAll_ints {K : PySem.W.Frag} {H : Hp} : ∀ ns : List Int, DpAll K H (ns.map V.int) (ns.map PyData.int)
  | [] => .nil
  | n :: r => .cons (.int n) (dpAll_ints r)
theorem lay_ints : ∀ ns : List Int, PyData.canLayAll0 (ns.map PyData.int) = true ∧ PyData.depthAll (ns.map PyData.int) = 0
  | [] => ⟨rfl, rfl⟩
  | n :: r => by
    obtain ⟨h1, h2⟩ := lay_ints r
    refine ⟨?_, ?_⟩
    · show (true && PyData.canLayAll0 (r.map PyData.int)) = true
      rw [h1]; rfl
    · show max 0 (PyData.depthAll (r.map PyData.int)) = 0
      rw [h2]; rfl
theorem shaped_listInts (ns : List Int) : SeqAt.shaped (.list (ns.map PyData.int)) = true := by
  obtain ⟨h1, h2⟩ := lay_ints ns
  show (PyData.canLayAll0 (ns.map PyData.int) && decide (PyData.depthAll (ns.map PyData.int) + 1 ≤ 64)) = true
  rw [h1, h2]; rfl
theorem shaped_tupInts (ns : List Int) : SeqAt.shaped (.tuple (ns.map PyData.int)) = true := by
  obtain ⟨h1, h2⟩ := lay_ints ns
  show (PyData.canLayAll0 (ns.map PyData.int) && decide (PyData.depthAll (ns.map PyData.int) + 1 ≤ 64)) = true
  rw [h1, h2]; rfl
theorem eqv_nil_ints (ns : List Int) : PyData.eqv (.list (ns.map PyData.int)) (.list []) = ns.isEmpty := by
  cases ns <;> rfl
def spFeed (kn : Str) (K : PySem.W.Frag) : Sp := fun vs H Q _ => ∃ (a : Addr) (ns : List Int), vs = [.ref a] ∧ SqL K H a (ns.map V.int) ∧ ns.length ≤ 63 ∧
  ∀ (d c : Addr) (H' : Hp), H d = none → Same H H' → PenAt kn H' d c 0 → Q (.ref d) H'
theorem PenAt.ne {kn : Str} {H : Hp} {d c : Addr} {n : Nat} (p : PenAt kn H d c n) {q : Addr} {xs : List V} (h : H q = some (.lst xs)) : q ≠ d := by
  obtain ⟨ns, a, l, hd, _⟩ := p
  exact ne_of h hd (by intro z; cases z)
theorem PenAt.mono {kn : Str} {H H' : Hp} {d c : Addr} {n m : Nat} (p : PenAt kn H d c n) (s : Same H H') (h : n ≤ m) : PenAt kn H' d c m := by
  obtain ⟨ns, a, l, hd, hc, h1, h2, h3, h4⟩ := p
  exact ⟨ns, a, l, s _ _ hd, s _ _ hc, h1, h2, by omega, h4⟩
theorem PenAt.upd {kn : Str} {H : Hp} {d c : Addr} {n m : Nat} (p : PenAt kn H d c n) {q : Addr} {o : HO} (h1 : q ≠ d) (h2 : q ≠ c) (h : n ≤ m) : PenAt kn (upd H q o) d c m := by
  obtain ⟨ns, a, l, hd, hc, h3, h4, h5, h6⟩ := p
  exact ⟨ns, a, l, by rw [upd_ne (Ne.symm h1)]; exact hd, by rw [upd_ne (Ne.symm h2)]; exact hc, h3, h4, by omega, h6⟩
theorem PenAt.new {kn : Str} {H : Hp} {d c : Addr} {n : Nat} (p : PenAt kn H d c n) {q : Addr} (h : H q = none) : q ≠ d ∧ q ≠ c := by
  obtain ⟨ns, a, l, hd, hc, _⟩ := p
  exact ⟨(fun e => by rw [e, hd] at h; cases h), (fun e => by rw [e, hc] at h; cases h)⟩
theorem pen_new {kn : Str} (P : PenKey kn) {c : Addr} : mergeK [] [(Sum.inr "cells", V.ref c), (Sum.inr kn, V.int 0), (Sum.inr "left", V.int 0)] = penL kn c 0 0 := by
  have h1 := P.c
  have h2 := P.kl
  have h3 := cells_left
  simp [mergeK, putK, h1, h2, h3, List.any]
theorem app_len (x y : Str) : (x ++ y).length = x.length + y.length := by
  show (x.cps ++ y.cps).size = _
  rw [Array.size_append]
  rfl
theorem textFrom_le : ∀ (ts : List Str) (k : Nat) (acc : Str), (textFrom k acc ts).length ≤ acc.length + piled ts
  | [], k, acc => Nat.le_refl _
  | t :: r, k, acc => by
    have h := textFrom_le r (k + 1) (acc ++ (if k > 0 then ", " else "" : String) ++ t)
    rw [app_len, app_len] at h
    have h2 : (Str.ofString (if k > 0 then ", " else "" : String)).length ≤ 2 := by split <;> decide
    rw [piled_cons]
    show (textFrom (k + 1) _ r).length ≤ _
    omega
theorem listText_le (ts : List Str) : (listText ts).length ≤ 2 + piled ts := by
  unfold listText
  rw [app_len]
  have h := textFrom_le ts 0 "["
  have h1 : (Str.ofString "[").length = 1 := by decide
  have h2 : (Str.ofString "]").length = 1 := by decide
  omega
theorem tupleText_le (ts : List Str) : (tupleText ts).length ≤ 3 + piled ts := by
  unfold tupleText
  rw [app_len, app_len]
  have h1 : (Str.ofString "(").length = 1 := by decide
  have h2 : (Str.ofString (if ts.length == 1 then ",)" else ")" : String)).length ≤ 2 := by split <;> decide
  have h3 : (Str.join ", " ts).length ≤ piled ts := by
    cases ts with
    | nil => exact Nat.zero_le _
    | cons t r =>
      have := join_length_add (t :: r) (by simp)
      omega
  omega
theorem piled_le {c : Nat} : ∀ ts : List Str, (∀ t ∈ ts, t.length ≤ c) → piled ts ≤ ts.length * (c + 2)
  | [], _ => Nat.zero_le _
  | t :: r, h => by
    have h1 := h t (by simp)
    have h2 := piled_le r fun x hx => h x (by simp [hx])
    rw [piled_cons, List.length_cons, Nat.add_mul]
    omega
structure Shw (d : PyData) (j n : Nat) : Prop where
  sh : d.showable = true
  nd : d.hasDict = false
  dp : d.depth ≤ j
  ln : d.shown.length ≤ n
  cl : d.canLay0 = true
theorem Shw.shaped {d : PyData} {j n : Nat} (s : Shw d j n) (h : j ≤ 64) : SeqAt.shaped d = true := by
  show (d.canLay0 && decide (d.depth ≤ 64)) = true
  rw [s.cl, decide_eq_true (Nat.le_trans s.dp h)]
  rfl
theorem ofString_len (x : String) : (Str.ofString x).length = x.length := PySem.ofString_length x
theorem Shw.int {i : Int} (h : i.natAbs < 10 ^ 400) : Shw (.int i) 0 401 := by
  refine ⟨?_, rfl, Nat.le_refl _, ?_, rfl⟩
  · show decide (i.natAbs.log2 < 1920) = true
    refine decide_eq_true ?_
    by_cases h0 : i.natAbs = 0
    · rw [h0]; decide
    · rw [Nat.log2_lt h0]
      exact Nat.lt_of_lt_of_le h (by decide +kernel)
  · show (Str.ofString (toString i)).length ≤ 401
    have := int_text_length_le10 (a := i) (k := 400) (by decide) h
    rw [ofString_len]
    exact this
theorem Shw.non : Shw .none 0 4 := ⟨rfl, rfl, Nat.le_refl _, by decide, rfl⟩
theorem Shw.bl (b : Bool) : Shw (.bool b) 0 5 := ⟨rfl, rfl, Nat.le_refl _, by cases b <;> decide, rfl⟩
theorem Shw.str {x : Str} (h : PyData.strOk x = true) : Shw (.str x) 0 (10 * x.length + 2) := by
  refine ⟨rfl, rfl, Nat.le_refl _, StrLaws.reprText_len x fun c hc => ?_, h⟩
  have h' : x.cps.all (· < 0x110000) = true := h
  rw [Array.all_eq_true'] at h'
  have := h' c (by simpa using hc)
  have : c < 0x110000 := by simpa using this
  exact Nat.lt_of_lt_of_le this (by decide)
theorem shw_all {j n : Nat} : ∀ xs : List PyData, (∀ x ∈ xs, Shw x j n) → PyData.showableAll xs = true ∧ PyData.hasDictAll xs = false ∧ PyData.depthAll xs ≤ j ∧ (∀ t ∈ PyData.shownAll xs, t.length ≤ n) ∧ PyData.canLayAll0 xs = true ∧ (PyData.shownAll xs).length = xs.length
  | [], _ => ⟨rfl, rfl, Nat.zero_le _, fun t h => (List.not_mem_nil (show t ∈ ([] : List Str) from h)).elim, rfl, rfl⟩
  | x :: r, h => by
    have s := h x (by simp)
    obtain ⟨a, b, c, d, e, f⟩ := shw_all r fun y hy => h y (by simp [hy])
    refine ⟨?_, ?_, ?_, ?_, ?_, ?_⟩
    · show (x.showable && PyData.showableAll r) = true
      rw [s.sh, a]; rfl
    · show (x.hasDict || PyData.hasDictAll r) = false
      rw [s.nd, b]; rfl
    · show max x.depth (PyData.depthAll r) ≤ j
      exact Nat.max_le.mpr ⟨s.dp, c⟩
    · intro t ht
      have ht' : t ∈ x.shown :: PyData.shownAll r := ht
      rcases List.mem_cons.mp ht' with e | e
      · rw [e]; exact s.ln
      · exact d t e
    · show (x.canLay0 && PyData.canLayAll0 r) = true
      rw [s.cl, e]; rfl
    · show (x.shown :: PyData.shownAll r).length = (x :: r).length
      rw [List.length_cons, List.length_cons, f]
theorem Shw.list {j n : Nat} {xs : List PyData} (h : ∀ x ∈ xs, Shw x j n) : Shw (.list xs) (j + 1) (3 + xs.length * (n + 2)) := by
  obtain ⟨a, b, c, d, e, f⟩ := shw_all xs h
  refine ⟨a, b, Nat.succ_le_succ c, ?_, e⟩
  show (listText (PyData.shownAll xs)).length ≤ _
  have h1 := listText_le (PyData.shownAll xs)
  have h2 := piled_le _ d
  rw [f] at h2
  omega
theorem Shw.tuple {j n : Nat} {xs : List PyData} (h : ∀ x ∈ xs, Shw x j n) : Shw (.tuple xs) (j + 1) (3 + xs.length * (n + 2)) := by
  obtain ⟨a, b, c, d, e, f⟩ := shw_all xs h
  refine ⟨a, b, Nat.succ_le_succ c, ?_, e⟩
  show (tupleText (PyData.shownAll xs)).length ≤ _
  have h1 := tupleText_le (PyData.shownAll xs)
  have h2 := piled_le _ d
  rw [f] at h2
  omega
theorem Shw.mono {d : PyData} {j n j' n' : Nat} (s : Shw d j n) (hj : j ≤ j') (hn : n ≤ n') : Shw d j' n' := ⟨s.sh, s.nd, Nat.le_trans s.dp hj, Nat.le_trans s.ln hn, s.cl⟩
section
variable {K : PySem.W.Frag} {H : Hp} {Q : VK}
end
mutual
theorem dp_same {K : PySem.W.Frag} {H H' : Hp} (s : Same H H') : ∀ (d : PyData) (v : V), Dp K H v d → Dp K H' v d
  | _, _, .non => .non
  | _, _, .bl b => .bl b
  | _, _, .int i => .int i
  | _, _, .str x => .str x
  | _, _, .lst h a => .lst (s.seq h) (dpAll_same s _ _ a)
  | _, _, .tup h a => .tup (same_seqT s h) (dpAll_same s _ _ a)
theorem dpAll_same {K : PySem.W.Frag} {H H' : Hp} (s : Same H H') : ∀ (ds : List PyData) (vs : List V), DpAll K H vs ds → DpAll K H' vs ds
  | _, _, .nil => .nil
  | _, _, .cons h r => .cons (dp_same s _ _ h) (dpAll_same s _ _ r)
end
theorem ns_at {K : PySem.W.Frag} {h : Heap} {N : Addr} {m : Str → Option Value} {n : Str} {v : Value} (X : K.In h) (G : h.Ns N m) (e : PySem.W.nsIn K N n = some (some v)) : m n = some v := by
  obtain ⟨o, es, ep, ho, hd, _, hf⟩ := G
  unfold PySem.W.nsIn at e
  split at e
  · rename_i c dc es' ep' sl hk
    have z := X _ _ hk
    rw [ho] at z
    cases z
    cases hd
    split at e
    · rename_i en he
      cases e
      rw [← hf]
      unfold nsFind findBy
      rw [← Array.find?_toList, he]
      rfl
    · split at e <;> cases e
  · cases e
structure EqT (K : PySem.W.Frag) (C f : Addr) : Prop where
  cls : ∃ nm q N bs hdct sn sub ab col dd k0 k1 k2 k3 k5 newId, K.lookup C = some (excClassObj nm q C N bs [.type "object"] hdct sn sub ab col dd k0 k1 k2 k3 k5 newId) ∧ PySem.W.nsOkIn K N = true ∧ PySem.W.nsIn K N "__eq__" = some (some (.ref f)) ∧ PySem.W.nsIn K N "__ne__" = some none
  fn : ∃ o, K.lookup f = some o ∧ o.cls = .type "function"
  find : PySem.W.findIn K (.ref C) "__eq__" = some (some (.ref f))
  isf : PySem.W.isFn K (.ref f) = true
def rNeO (C : Addr) (sp : Sp) : R2 := fun x y H Q => ∃ (a b dx dy : Addr) (fs gs : List (Str × V)), x = .ref a ∧ y = .ref b ∧ H a = some (.ins C dx fs) ∧ H b = some (.ins C dy gs) ∧ sp [.ref a, .ref b] H (fun v H' => ∃ k, v = .bl k ∧ Q (.bl (!k)) H') E0
section
variable {X : Cx} {C f : Addr} {fd : FuncData} {ps : List Str} {sp : Sp} {k : Nat}
theorem eq_call {A : Around} {pins : List (Addr × Obj)} {σ : L2.St} {H : Hp} {s : Shared} {a b : Addr} {R : VK} {Q : Value → Shared → Prop} {E : Value → Shared → Prop} (F : FnOk X.prog X.w X.K X.mg X.base CX0 k f fd ps sp) (hb : Binds X.K fd ps []) (hr : Room k A) (hfr : A.frames = X.A.frames)
    (I : Inv X pins σ H s) (h : sp [.ref a, .ref b] H R E0) (hq : ∀ u s', EP X pins σ R u s' → Q u s') : wpAny (model X.prog X.w) A (call (.ref f) [.ref a, .ref b]) Q E s := by
  have e0 : Env0 X.prog X.w X.K X.mg X.base A X.stack s H := by
    have e := I.env0
    exact ⟨by rw [hfr]; exact e.frames, e.mod, e.bs, e.bsz, e.funs, e.frf, e.hok, e.bare⟩
  have hl := F.len _ _ _ _ h
  refine wpAny_call (codeAny_mono (F.run A X.stack s H ⟨[.ref a, .ref b], []⟩ [.ref a, .ref b] [.ref a, .ref b] R E0 hr e0 (by
    have := hb s [.ref a, .ref b] I.kIn (by simpa using hl)
    simpa using this) (.cons rfl (.cons rfl .nil)) h) fun r s' hr' => ?_)
  match r, hr' with
  | .error e, z => exact z.elim
  | .ok (.ret u), z => exact hq u s' (I.after z)
  | .ok .next, z => exact z.elim
  | .ok .brk, z => exact z.elim
  | .ok .cont, z => exact z.elim
theorem op_neO (T : EqT X.K C f) (F : FnOk X.prog X.w X.K X.mg X.base CX0 k f fd ps sp) (hb : Binds X.K fd ps []) (hr : Room (k + 1) X.A) : OpR X (compareOp .NotEq) (rNeO C sp) := by
  intro pins s σ H x y v u Q I rx ry h
  obtain ⟨a, b, dx, dy, fs, gs, rfl, rfl, ha, hb', hs⟩ := h
  cases rx
  cases ry
  obtain ⟨nm, q, N, bs, hdct, sn, sub, ab, col, dd, k0, k1, k2, k3, k5, newId, hC, hN, he, hne⟩ := T.cls
  obtain ⟨o, ho, hoc⟩ := T.fn
  have KX := I.kIn
  obtain ⟨_, _, _, ga, _⟩ := (show ObjOk X.prog X.w H s.heap a (.ins C dx fs) from I.hok a _ ha)
  obtain ⟨_, _, _, gb, _⟩ := (show ObjOk X.prog X.w H s.heap b (.ins C dy gs) from I.hok b _ hb')
  have ns : s.heap.Ns N (s.heap.nsMap N) := .of_isNs (PySem.W.isNs_of_in KX hN)
  have hu : X.A.units + 1 < cLine := by have := hr.un; omega
  obtain ⟨hp, g, d, t, os⟩ := s
  refine compareOp_ne_ownEq PySem.F.cmp_object ⟨_, o, nm, q, N, bs, hdct, sn, sub, ab, col, dd, k0, k1, k2, k3, k5, newId, _, _, ga, rfl, KX _ _ hC, ns, ns_at KX ns he, KX _ _ ho, hoc, PySem.F.mro_object, rfl, PySem.W.ns_none_of KX ns hne⟩ gb rfl hu ?_
  refine eq_call F hb hr.in1 rfl I hs fun u s' ⟨z, H', J, rz, kk, ez, q⟩ => ?_
  subst ez
  exact ⟨kk, rz, .bl (!kk), H', J, rfl, q⟩
end
section
variable {K : PySem.W.Frag} {H : Hp} {Q : VK}
end
theorem sIx_pos {n d : Nat} {i : Int} (h : 0 ≤ i) : HT.sIx n d (some i) = min i.toNat n := by
  show (if i < 0 then (i + (n : Int)).toNat else min i.toNat n) = _
  rw [if_neg (by omega)]
section
variable {X : Cx}
end
theorem list_extend_tup (l : Addr) (items : Array Value) (n : Nat) (b : Addr) (items2 : Array Value) (n2 : Nat) (dd : Option Addr) (sl : Array (Option Value)) (hs0 : ¬(!items.isEmpty && Builtin.List.listTooLong (items.size + items2.size)) = true) (hs1 : items.size ≤ sizeLine) (hs2 : items.size + items2.size ≤ sizeLine + 1) :
    Meets (Builtin.«list.extend» ⟨[.ref l, .ref b], []⟩) (fun _ R s => s.heap.get? l = some { cls := .type "list", dict := none, data := .seq items n, slots := #[] } ∧ s.heap.get? b = some { cls := .type "tuple", dict := dd, data := .seq items2 n2, slots := sl } ∧ R (.ok (.ret Value.none)) { s with heap := s.heap.update l (Obj.mapSeq fun x => x ++ items2), toks := s.toks }) :=
  .of_wp fun prog w A R s h => by
    obtain ⟨hp, g, d, tk, os⟩ := s; obtain ⟨hl, hb, h⟩ := h; have f1 := AutoSeq1.idx_int; have f2 := AutoSeq1.sub_tuple_tuple; have f3 := AutoSeq1.sub_list_list; have f4 := AutoSeq1.sub_tuple_list; have f5 := AutoSeq1.sub_list_tuple
    have hz' : (items ++ items2).size ≤ sizeLine + 1 := by rw [Array.size_append]; exact hs2
    wp_walk using (wpAny_updateSeq hl rfl (hz := hs1) (_hz' := hz')), wpAny_loadPart' hl, wpAny_loadPart' hb; exact ⟨_, rfl, h⟩
def rExtendT (K : PySem.W.Frag) : V → List V → Hp → VK → Prop := fun x vs H Q => ∃ l b xs zs, x = .ref l ∧ vs = [.ref b] ∧ H l = some (.lst xs) ∧ SqT K H b zs ∧ xs.length + zs.length ≤ sizeLine ∧ Q .non (upd H l (.lst (xs ++ zs)))
section
variable {X : Cx}
theorem mt_extendT : MtM X "list.extend" (rExtendT X.K) := by
  intro pins s σ H x vs v us Q I rx rv h
  obtain ⟨l, b, xs, zs, rfl, rfl, hH, hB, hz, q⟩ := h
  cases rx
  obtain ⟨u, rfl, ru⟩ := rv.one
  cases ru
  obtain ⟨z, its, n, r, hl, e⟩ := I.lstM hH
  obtain ⟨its2, r2, ⟨⟨cls, dd, data, sl⟩, e2, hc, n2, hd⟩, hl2⟩ := I.tuple hB
  simp only at hc hd
  subst hc hd
  have h1 : its.length = xs.length := r.length.symm
  have h2 : its2.length = zs.length := r2.length.symm
  have hsz : its.toArray.size + its2.toArray.size ≤ sizeLine := by rw [List.size_toArray, List.size_toArray]; omega
  have hlong : ¬ (!its.toArray.isEmpty && Builtin.List.listTooLong (its.toArray.size + its2.toArray.size)) = true := by
    rw [notLongL hsz, Bool.and_false]
    exact Bool.false_ne_true
  refine call_meets F.slot_list_extend ⟨_, e, rfl⟩ F.entry_list_extend (F.args_list_extend_2 _ _)
    (list_extend_tup l its.toArray n b its2.toArray n2 dd sl hlong (by rw [List.size_toArray]; omega) (by omega)) ⟨e, e2, ?_⟩
  refine ⟨.non, _, I.lset (its' := its ++ its2) hH e (by simp) (r.append r2) ?_, rfl, q⟩
  rw [List.length_append]
  omega
end
theorem rev_adjust (n : Nat) : Builtin.Slice.sliceAdjust none none (-1) (n : Int) = ((n : Int) - 1, -1) := by
  unfold Builtin.Slice.sliceAdjust
  simp
theorem rev_places (n : Nat) : Builtin.Slice.slicePlaces ((n : Int) - 1) (-1) (-1) = n := by
  unfold Builtin.Slice.slicePlaces
  have h1 : ¬ ((-1 : Int) > 0) := by omega
  simp only [h1, if_false]
  split
  · rw [show (- -1 : Int) = 1 by decide, Int.ediv_one]
    omega
  · omega
theorem fm_congr {α β : Type} {f g : α → Option β} : ∀ {l : List α}, (∀ x ∈ l, f x = g x) → l.filterMap f = l.filterMap g
  | [], _ => rfl
  | x :: r, h => by
    rw [List.filterMap_cons, List.filterMap_cons, h x (by simp), fm_congr fun y hy => h y (by simp [hy])]
theorem rev_pick (xs : Array Value) : ((List.range xs.size).filterMap fun (m : Nat) => xs[(((xs.size : Int) - 1) + (m : Int) * (-1)).toNat]?).toArray = xs.toList.reverse.toArray := by
  have e : ((List.range xs.size).filterMap fun (m : Nat) => xs[(((xs.size : Int) - 1) + (m : Int) * (-1)).toNat]?) = ((List.range xs.size).map (fun k => xs.size - 1 - k)).filterMap (xs[·]?) := by
    rw [List.filterMap_map]
    refine fm_congr fun m hm => ?_
    have := List.mem_range.mp hm
    show xs[(((xs.size : Int) - 1) + (m : Int) * (-1)).toNat]? = xs[xs.size - 1 - m]?
    have e : (((xs.size : Int) - 1) + (m : Int) * (-1)).toNat = xs.size - 1 - m := by omega
    rw [e]
  rw [e, PySem.W.krv_range, List.filterMap_reverse, PySem.W.krv_all]
section
variable {prog : Program} {w : World} {A : Around} {E : Value → Shared → Prop} {s : Shared}
theorem sliceApplied_rev {sl : Addr} {vk : Value} {n : Nat} {Q : Int × Int × Nat → Shared → Prop} (hs : s.heap.IsSliceOf sl .none .none vk) (pk : IsPart vk (some (-1)))
    (h : Q ((n : Int) - 1, -1, n) s) : wpAny (model prog w) A (Builtin.Slice.sliceApplied (.ref sl) (pure (n : Int))) Q E s := by
  obtain ⟨os, hos, hcs, hds⟩ := id hs
  unfold Builtin.Slice.sliceApplied Builtin.Slice.sliceFields
  refine wpAny_bind (wpAny_bind (wpAny_field hos hds (x := .none) rfl (wpAny_bind (wpAny_field hos hds (x := .none) rfl (wpAny_bind (wpAny_field hos hds (x := vk) rfl (wpAny_pure ?_)))))))
  refine wpAny_bind (HT.slicePart_ pk ?_)
  show wpAny _ _ (if ((-1 : Int) == 0) = true then _ else _) _ _ s
  rw [if_neg (by decide)]
  refine wpAny_bind (HT.slicePart_ .none (wpAny_bind (HT.slicePart_ .none (wpAny_bind (wpAny_pure ?_)))))
  show wpAny _ _ (match Builtin.Slice.sliceAdjust none none (-1) (n : Int) with | (lo, hi) => pure (lo, (-1 : Int), Builtin.Slice.slicePlaces lo hi (-1))) _ _ s
  rw [rev_adjust]
  show wpAny _ _ (pure (((n : Int) - 1), (-1 : Int), Builtin.Slice.slicePlaces ((n : Int) - 1) (-1) (-1))) _ _ s
  rw [rev_places]
  exact wpAny_pure h
theorem getItem_tuple_rev {t sl : Addr} {items : Array Value} {vk : Value} {Q : Value → Shared → Prop} (ht : IsTup s.heap t items) (hs : s.heap.IsSliceOf sl .none .none vk) (pk : IsPart vk (some (-1)))
    (h : Q (.ref s.heap.objs.size) { s with heap := s.heap.push { cls := .type "tuple", data := .seq items.toList.reverse.toArray } })
    (hsz : items.size ≤ sizeLine) : wpAny (model prog w) A (getItem (.ref t) (.ref sl)) Q E s := by
  have htake : sizeOk (.seq items.toList.reverse.toArray) := by
    show items.toList.reverse.toArray.size ≤ sizeLine
    rw [List.size_toArray, List.length_reverse, Array.length_toList]
    exact hsz
  obtain ⟨os, hos, hcs, hds⟩ := id hs
  have hTs : s.TypeIs (.ref sl) "slice" := ⟨os, hos, hcs⟩
  unfold getItem
  try with_reducible refine wpAny_holding ?_
  first | refine wpAny_bind (wpAny_pure ?_) | skip
  refine wpAny_bind (wpAny_sequenceKey ht.typeIs (by decide) ?_)
  refine wpAny_bind (wpAny_callSpecial?_slot (name := Str.ofString "__getitem__") ht.typeIs PyProof.Rows.slot_tuple_getitem
    (wpAny_call_entry PyProof.Rows.slot_tuple_getitem ht.typeIs entry_tuple_getitem ?_ (args_tuple_getitem _ _)))
  show wpAny _ _ (Builtin.Tuple.tupleItemsOf (.ref t) >>= _) _ _ s
  refine wpAny_bind (tupleItemsOf_ ht ?_)
  refine wpAny_bind (wpAny_typeOf hTs ?_)
  rw [if_pos (by decide)]
  refine wpAny_bind (sliceApplied_rev hs pk ?_)
  have hno : ¬ ((((items.size : Int) - 1) == 0 && (-1 : Int) == 1 && items.size == items.size) = true) := by simp
  show wpAny _ _ (if (((items.size : Int) - 1) == 0 && (-1 : Int) == 1 && items.size == items.size) = true then _ else _) _ _ s
  rw [if_neg hno, rev_pick]
  first
    | exact wpAny_bind (m := Builtin.Tuple.tupleExact _) (wpAny_newObj_type (wpAny_pure ⟨_, rfl, wpAny_pure h⟩) htake)
    | exact wpAny_bind (m := Builtin.Tuple.tupleExact _) (wpAny_newObj_type (wpAny_bind (wpAny_pure (wpAny_pure ⟨_, rfl, wpAny_pure h⟩))) htake)
    | exact wpAny_bind (wpAny_bind (m := Builtin.Tuple.tupleExact _) (wpAny_newObj_type (wpAny_pure (wpAny_pure ⟨_, rfl, wpAny_pure h⟩)) htake))
    | exact wpAny_bind (wpAny_bind (m := Builtin.Tuple.tupleExact _) (wpAny_newObj_type (wpAny_pure ⟨_, rfl, wpAny_pure h⟩) htake))
end
def tRevT (K : PySem.W.Frag) (te : TE) : TE := fun σ H Q => te σ H fun x H1 => ∃ a xs, x = .ref a ∧ SqT K H1 a xs ∧ Nw (.tup xs.reverse) H1 Q
theorem s_revT {K : PySem.W.Frag} {te : TE} {σ : L2.St} {H : Hp} {Q : VK} (q : te σ H fun x H1 => ∃ a xs, x = .ref a ∧ SqT K H1 a xs ∧ Nw (.tup xs.reverse) H1 Q) : tRevT K te σ H Q := q
theorem vals_rev {vs : List V} {us : List Value} (h : Vals vs us) : Vals vs.reverse us.reverse := by
  induction h with
  | nil => exact .nil
  | cons r _ ih =>
    rw [List.reverse_cons, List.reverse_cons]
    exact ih.append (.cons r .nil)
theorem pe_revT {X : Cx} {e : Expr} {te : TE} {k : Nat} {p1 p2 p3 pos : Pos} (he : PE X e te) : PE X (.Subscript e (.Slice none none (some (.UnaryOp .USub (.Constant (.int 1) k p1) p2)) p3) pos) (tRevT X.K te) := by
  refine ⟨fun pins s σ H Q I h => ?_⟩
  refine Subscript_ (thn (he.run pins s σ H _ I h) fun v s1 ⟨x, H1, I1, r1, a, xs, ex, hx, q⟩ => ?_)
  subst ex
  cases r1
  have hst : PO X (some (.UnaryOp .USub (.Constant (.int 1) k p1) p2)) (tPart (tUn (rU fun i => .int (-i)) (tC (.int 1)))) := po_some (pe_un un_neg pe_int)
  refine wpAny_Slice ?_
  rw [evalPart_none]
  refine wpAny_pure (wpAny_pure ?_)
  refine thn (hst.run pins s1 σ H1 (fun o H4 => o = some (-1) ∧ H4 = H1) I1 ⟨1, rfl, -1, rfl, rfl, rfl⟩) fun vs s4 ⟨o, H4, I4, ps, eo, e4⟩ => ?_
  subst eo e4
  have I5 : Inv X pins σ H4 { s4 with heap := s4.heap.push { cls := .type "slice", data := .fields #[.none, .none, vs] } } := I4.kept (t' := s4.toks) fun b ob q => Heap.get?_push_of_some _ q
  obtain ⟨its, r, ht, hz⟩ := I5.tuple hx
  refine tail_any (ops := [.ref a, .ref s4.heap.objs.size]) ht.typeIs PyProof.Rows.slot_tuple_getitem.lookup (getItem_tuple_rev ht (Heap.IsSliceOf.new ..) ps ?_ (by rw [List.size_toArray, ← r.length]; exact hz)) (by with_unfolding_all rfl)
  refine ⟨.ref _, _, I5.laid (t' := s4.toks) (o := .tup xs.reverse) (fun b ob q => Heap.get?_push_of_some _ q) (Nat.le_refl _) ?_, rfl, q _ (I5.hok.fresh (Nat.le_refl _))⟩
  exact ⟨by rw [List.length_reverse]; exact hz, _, vals_rev r, IsTup.new _ _⟩
theorem callWith_tyKw {M : Model} {A : Around} {E : Value → Shared → Prop} {s : Shared} {env : Env} {pos : Pos} {T : String} {e : Expr} {rest : List Expr} {kws : List Keyword} {Q : Value → Shared → Prop}
    (h : wpAny M A (spliced (backTo pos (starEach (e :: rest) env))) (fun vs s₁ => wpAny M A (evalAll ((backToKw pos (keywordEach kws env)).map (·.2)))
      (fun kvs s₂ => wpAny M A (call (.type T) vs (((backToKw pos (keywordEach kws env)).filterMap (·.1)).zip kvs)) Q E s₂) E s₁) E s)
    (he : backTo pos (starEach (e :: rest) env) = (false, eval e env) :: backTo pos (starEach rest env))
    (hplain : (backTo pos (starEach (e :: rest) env)).any (·.1) = false)
    (hall : (backToKw pos (keywordEach kws env)).all (·.1.isSome) = true)
    (hkw : (backToKw pos (keywordEach kws env)).any (·.1.isNone) = false) :
    wpAny M A (callWith pos (.type T) [] (backTo pos (starEach (e :: rest) env)) (backToKw pos (keywordEach kws env))) Q E s := by
  unfold callWith
  have hh : wpAny M A (evalArgs (.type T) true (backTo pos (starEach (e :: rest) env)) (backToKw pos (keywordEach kws env))) (fun a s₁ => wpAny M A (call (.type T) ([] ++ a.pos) a.kw) Q E s₁) E s := by
    rw [he] at h ⊢
    exact evalArgs_kwB hall h
  refine wpAny_bind (wpAny_holding (wpAny_mono hh (fun a s₁ h₁ => wpAny_bind (wpAny_standAt ?_)) fun _ _ x => x))
  simp only [hplain, hkw, Bool.or_false]
  refine wpAny_bind (wpAny_pure ?_)
  exact wpAny_bind (wpAny_mono h₁ (fun r s₂ hr => wpAny_bind (wpAny_holding (wpAny_point (wpAny_pure hr)))) fun _ _ x => x)
def iEnumTk (K : PySem.W.Frag) (t tk : TA) : TI := fun σ H R => t σ H fun vs H1 => tk σ H1 fun zs H2 => ∃ a xs k, vs = [.ref a] ∧ zs = [.int k] ∧ -(2 ^ 62) ≤ k ∧ k < 2 ^ 62 ∧ SqT K H2 a xs ∧ R (Itet K a k) H2
theorem s_iEnumTk {K : PySem.W.Frag} {t tk : TA} {σ : L2.St} {H : Hp} {R : It → Hp → Prop} (q : t σ H fun vs H1 => tk σ H1 fun zs H2 => ∃ a xs k, vs = [.ref a] ∧ zs = [.int k] ∧ -(2 ^ 62) ≤ k ∧ k < 2 ^ 62 ∧ SqT K H2 a xs ∧ R (Itet K a k) H2) : iEnumTk K t tk σ H R := q
section
variable {X : Cx} {e ek : Expr} {ta tk : TA} {p pos kp tpos : Pos} {elts : List Expr} {kk : Nat}
theorem pi_enumTk (hg : Gl X "enumerate") (hm : X.mg "enumerate" = none) (ha : PA X [e] ta) (hkw : PK X [⟨some "start", ek, kp⟩] tk) (hs : backTo pos (starEach [e] X.env) = (false, eval e X.env) :: backTo pos (starEach [] X.env) := by rfl) (hpl : (backTo pos (starEach [e] X.env)).any (·.1) = false := by rfl) :
    PI X (.Tuple elts kk tpos) (.Call (.Name "enumerate" p) [e] [⟨some "start", ek, kp⟩] pos) (iEnumTk X.K ta tk) := by
  refine ⟨fun pins s σ H R I h => ?_⟩
  refine wpAny_Call_Name_kw (ld_blt I hg hm boot_enumerate (callWith_tyKw (thn (ha.run pos pins s σ H _ I h) fun us s1 ⟨vs, H1, I1, r1, q1⟩ => thn (hkw.run pos pins s1 σ H1 _ I1 q1) fun ws s2 ⟨zs, H2, I2, rz, q2⟩ => ?_) hs hpl rfl rfl))
  obtain ⟨a, xs, k, ex, ez, k0, k1, hq, q⟩ := q2
  subst ex ez
  cases r1 with
  | cons r rr =>
    cases rr
    cases r
    cases rz with
    | cons r rr =>
      cases rr
      obtain ⟨tok, rfl⟩ := r
      obtain ⟨its, rv, p', hz⟩ := I2.tuple hq
      have hT := isTup_isTuple p'
      have hlt : a < s2.heap.objs.size := by obtain ⟨o, h1, _⟩ := hT; exact Heap.lt_size h1
      show wpAny _ _ (call (.type "enumerate") [.ref a] [(Str.ofString "start", .int k tok)]) _ _ _
      refine enum_begins_start (begins_tuple a its.toArray) hT (by omega) (by omega) fun h' he hit hsz hk => wpAny_pyIter_enum he ?_
      have I3 : Inv X pins σ H2 { s2 with heap := h' } := I2.kept (t' := s2.toks) hk
      refine ⟨s2.heap.objs.size + 1, [s2.heap.objs.size + 1, s2.heap.objs.size], _, _, H2, rfl, I3, turn_enumT a (s2.heap.objs.size + 1) s2.heap.objs.size k (Nat.ne_of_lt hlt) (Nat.ne_of_lt (Nat.lt_succ_of_lt hlt)), ⟨⟨.none, by simpa using he⟩, ⟨_, hit, rfl, rfl⟩, Nat.succ_ne_self _⟩, fun b hb => ?_, q⟩
      have e' : b = s2.heap.objs.size + 1 ∨ b = s2.heap.objs.size := by simpa using hb
      have hle : s2.heap.objs.size ≤ b := by
        rcases e' with z | z
        · rw [z]; exact Nat.le_add_right _ _
        · rw [z]; exact Nat.le_refl _
      exact I2.fpOk hle (I2.hok.fresh hle)
end
section
variable {X : Cx} {CX : CXT} {k : Nat} {f : Addr} {fd : FuncData} {ps ks : List Str} {sp : Sp} {E : XK} {x : Str} {p pos : Pos} {kws : List Keyword} {tk : TA}
variable {g : List Value → List Value → List Value} {gV : List V → List V → List V}
theorem pe_callK0 (F : FnOk X.prog X.w X.K X.mg X.base CX k f fd ps sp) (hr : Room k X.A) (hg : Gl X x) (hm : X.mg x = some (.ref f)) (hk : PySem.W.keepIn X.K (.ref f) = true) (hb : KBinds X.K fd ps ks g gV) (hx : Passes CX X E)
    (hkw : PK X kws tk) (hall : (backToKw pos (keywordEach kws X.env)).all (·.1.isSome) = true := by rfl) (hks : (backToKw pos (keywordEach kws X.env)).filterMap (·.1) = ks := by rfl)
    (hdb : (x == ("__debug__" : Str)) = false := by decide)
    (hpl : ((backTo pos (starEach [] X.env)).any (·.1) || (backToKw pos (keywordEach kws X.env)).any (·.1.isNone)) = false := by rfl) :
    PE X (.Call (.Name x p) [] kws pos) (tCallK sp gV E tNil tk) := by
  refine ⟨fun pins s σ H Q I h => ?_⟩
  refine wpAny_Call_Name_kw (ld_glob I hg hm ?_ hdb)
  refine PySem.W.callWith_KW0 (h₀ := X.base) I.ok.mod.kin hk hall ?_ hpl
  refine thn (hkw.run pos pins s σ H _ I h) fun ws s2 ⟨zs, H2, I2, rz, q2⟩ => ⟨I2.kIn, ?_⟩
  rw [hks]
  exact run_fnk F hr hb hx I2 .nil rz q2
end
section
variable {σ : L2.St} {H : Hp} {Q : VK} {ta tb tc te : TE} {tt : TT} {t : TS} {nx : L2.St → Hp → Prop} {rt : VK} {bk ct : L2.St → Hp → Prop}
theorem s_aug {i : Nat} {ti : TIp} {x : V} (h : σ[i]? = some (some x)) (q : te σ H fun y H1 => ti x y H1 fun z H2 => nx (σ.set i (some z)) H2) : tAug i te ti ⟨nx, rt, bk, ct⟩ σ H := ⟨x, h, q⟩
theorem s_ipI {g : Int → Int → Int} {i j : Int} (q : Q (.int (g i j)) H) : ipI g (.int i) (.int j) H Q := ⟨i, j, rfl, rfl, q⟩
theorem s_chain {r r' : R2} (q : ta σ H fun x H1 => tb σ H1 fun y H2 => r x y H2 fun z H3 => ∃ k, z = .bl k ∧ (if k = true then tc σ H3 fun w' H4 => r' y w' H4 Q else Q (.bl false) H3)) : tChain r r' ta tb tc σ H Q := q
theorem s_fld {K : PySem.W.Frag} {f : Str} (q : ta σ H fun x H1 => ∃ a C dx fs v, x = .ref a ∧ H1 a = some (.ins C dx fs) ∧ Cls K C ∧ NoAttr K C f ∧ fs.lookup f = some v ∧ Q v H1) : tFld K ta f σ H Q := q
theorem s_sfld {K : PySem.W.Frag} {f : Str} (q : tb σ H fun y H1 => ta σ H1 fun x H2 => ∃ a C dx fs, x = .ref a ∧ H2 a = some (.ins C dx fs) ∧ Cls K C ∧ NoAttr K C f ∧ fs.length < 1000 ∧ nx σ (upd H2 a (.ins C dx (putF f y fs)))) : sFld K ta tb f ⟨nx, rt, bk, ct⟩ σ H := q
end
structure FunB (K : PySem.W.Frag) (x qual : Str) (st : Stmt) (f : Addr) (fd : FuncData) : Prop where
  ex : ∃ (oc : Value) (od : Option Addr) (dV kV doc pm : Value) (an : Option Addr) (cdv ct : Value) (osl : Array (Option Value)),
    fd = PySem.W.fnOf x qual (defArgs st) (defBody st) (defScope st) dV kV doc pm an cdv ct ∧ K.lookup f = some ⟨oc, od, .func fd, osl⟩ ∧ PySem.W.codeIn K cdv qual = true
section
variable {P : Program} {w : World} {K : PySem.W.Frag} {mg : Str → Option Value} {base : Heap} {x qual : Str} {st : Stmt} {f : Addr} {fd : FuncData} {N ps : List Str} {k : Nat} {sp : Sp}
theorem FunB.ok (F : FunB K x qual st f fd) (S : FnScope N ps (defScope st)) (len : ∀ vs H Q E, sp vs H Q E → vs.length = ps.length)
    (hbody : ∀ (cdv : Value) (A : Around) (outer : List Env) (s : Shared) (H : Hp) (vs : List V) (Q : VK) (E : XK), Room k (A.deeper (envOfC qual (defScope st) s.heap.objs.size f cdv)) → sp vs H Q E →
      ∃ t, PSs (cxOf CX0 P w K mg base N qual (defScope st) f cdv A outer s H E).nox (defBody st) t ∧ t { nx := fun _ H' => Q .non H', rt := Q } (start N vs) H) : FnOk P w K mg base CX0 (k + 1) f fd ps sp := by
  obtain ⟨oc, od, dV, kV, doc, pm, an, cdv, ct, osl, rfl, lk, hcd⟩ := F.ex
  refine fn_of lk hcd S len fun A outer s H vs Q E hr hsp => ?_
  obtain ⟨t, h, q⟩ := hbody cdv A outer s H vs Q E hr hsp
  exact ⟨t, h.nox, q⟩
end
structure ClT (K : PySem.W.Frag) (mg : Str → Option Value) (x : Str) (C : Addr) : Prop where
  g : mg x = some (.ref C)
  cl : Cls K C
  ha : PySem.W.findIn K (.ref C) "__class__" = some (some (.builtin "object.__class__"))
  hn : PySem.W.specialIn K (.builtin "object.__class__") "__get__" = some (some (.builtin "getset_descriptor.__get__"))
  ht : PySem.W.takesIn K (.builtin "object.__class__") = some true
  hm : PySem.W.mroIn K C (.type "object") = some true
  self : PySem.W.kitOne K (.ref C) (.ref C) = some true
theorem ClT.ty {K : PySem.W.Frag} {mg : Str → Option Value} {x : Str} {C : Addr} (T : ClT K mg x C) {H : Hp} {a dx : Addr} {fs : List (Str × V)} (e : H a = some (.ins C dx fs)) : TyX K H (.ref a) (.ref C) := .base (.ins e T.cl T.ha T.hn T.ht T.hm)
def OkE (P : Program) (w : World) (K : PySem.W.Frag) (mg : Str → Option Value) (base : Heap) (k : Nat) (C : Addr) (sp : Sp) : Prop :=
  ∃ (f : Addr) (fd : FuncData) (ps : List Str), EqT K C f ∧ Binds K fd ps [] ∧ FnOk P w K mg base CX0 k f fd ps sp
def OkK (P : Program) (w : World) (K : PySem.W.Frag) (mg : Str → Option Value) (base : Heap) (k : Nat) (x : Str) (ks : List Str) (gV : List V → List V → List V) (sp : Sp) : Prop :=
  ∃ (f : Addr) (fd : FuncData) (ps : List Str) (g : List Value → List Value → List Value), mg x = some (.ref f) ∧ PySem.W.keepIn K (.ref f) = true ∧ KBinds K fd ps ks g gV ∧ FnOk P w K mg base CX0 k f fd ps sp
def tMk (C : Addr) (sp : Sp) (t : TA) : TE := fun σ H Q => t σ H fun vs H1 => ∀ x dx, H1 x = none → H1 dx = none → dx ≠ x → sp (.ref x :: vs) (upd (upd H1 dx (.own x)) x (.ins C dx [])) (fun v H2 => v = .non ∧ Q (.ref x) H2) E0
theorem s_mk {C : Addr} {sp : Sp} {t : TA} {σ : L2.St} {H : Hp} {Q : VK} (q : t σ H fun vs H1 => ∀ x dx, H1 x = none → H1 dx = none → dx ≠ x → sp (.ref x :: vs) (upd (upd H1 dx (.own x)) x (.ins C dx [])) (fun v H2 => v = .non ∧ Q (.ref x) H2) E0) : tMk C sp t σ H Q := q
def tClK (sp : Sp) (gV : List V → List V → List V) (tk : TA) : TE := fun σ H Q => tk σ H fun zs H2 => sp (gV [] zs) H2 Q E0
theorem s_clK {sp : Sp} {gV : List V → List V → List V} {tk : TA} {σ : L2.St} {H : Hp} {Q : VK} (q : tk σ H fun zs H2 => sp (gV [] zs) H2 Q E0) : tClK sp gV tk σ H Q := q
section
variable {X : Cx} {k : Nat} {x : Str} {C : Addr} {ps ks : List Str} {sp : Sp} {p pos : Pos} {e : Expr} {es : List Expr} {t tk : TA} {kws : List Keyword} {gV : List V → List V → List V}
theorem op_neC (O : OkE X.prog X.w X.K X.mg X.base k C sp) (hr : Room (k + 1) X.A) : OpR X (compareOp .NotEq) (rNeO C sp) := by
  obtain ⟨f, fd, ps, T, b, F⟩ := O
  exact op_neO T F b hr
theorem pe_callDK (D : OkK X.prog X.w X.K X.mg X.base k x ks gV sp) (hr : Room k X.A) (hkw : PK X kws tk) (hg : Gl X x := by rfl) (hall : (backToKw pos (keywordEach kws X.env)).all (·.1.isSome) = true := by rfl) (hks : (backToKw pos (keywordEach kws X.env)).filterMap (·.1) = ks := by rfl)
    (hdb : (x == ("__debug__" : Str)) = false := by decide)
    (hpl : ((backTo pos (starEach [] X.env)).any (·.1) || (backToKw pos (keywordEach kws X.env)).any (·.1.isNone)) = false := by rfl) : PE X (.Call (.Name x p) [] kws pos) (tClK sp gV tk) := by
  obtain ⟨f, fd, ps, g, gm, kp, b, F⟩ := D
  exact pe_callK0 (E := E0) F hr hg gm kp b pass0 hkw hall hks hdb hpl
end
end Br
namespace PySem
namespace BrX
open PySem.W PySem.Calls PyProof.Rows PySem.HandSPX PySem.OEX
structure ExB (B newId initId : String) (bmB : List Value) : Prop where
  F : ExcBaseFacts B newId initId bmB
  ne : bmB.isEmpty = false
  ob : bmB.contains (.type "object") = true
  pass : ∀ self, refuseLoop self "__setattr__" bmB = pure ()
theorem xb_RuntimeError : ExB "RuntimeError" "RuntimeError.__new__" "RuntimeError.__init__" [.type "RuntimeError", .type "Exception", .type "BaseException", .type "object"] := ⟨F.excBase_RuntimeError, rfl, by decide +kernel, fun _ => by kernel_rfl⟩
theorem xb_ValueError : ExB "ValueError" "ValueError.__new__" "ValueError.__init__" [.type "ValueError", .type "Exception", .type "BaseException", .type "object"] := ⟨F.excBase_ValueError, rfl, by decide +kernel, fun _ => by kernel_rfl⟩
section
open Builtin Builtin.ObjectAttr
variable {prog : Program} {w : World} {A : Around} {E : Value → Shared → Prop} {R : Result → Shared → Prop} {hp : Heap} {g : Array GenState} {d : Drawn} {t : Nat} {os : OsState} {B newId initId : String} {bmB : List Value}
theorem new_osa {K : W.Frag} {name : Str} {tk : Tok} {v : Value} {x C : Addr} {fv : Array Value} {cd : ClassData} (XB : ExB B newId initId bmB)
    (X : K.In hp) (hx : hp.get? x = some { cls := .ref C, data := .fields fv }) (hcd : W.clsIn K C = some cd) (hmr0 : cd.mro = .ref C :: bmB) (hh : cd.hasDict = true) (ha : W.findIn K (.ref C) name = some none)
    (hq : ∀ h' tk' dx, (∀ b o, b ≠ x → hp.get? b = some o → h'.get? b = some o) → hp.objs.size ≤ dx → dx ≠ x → h'.get? x = some { cls := .ref C, dict := some dx, data := .fields fv } →
      h'.Ns1 dx (fun y => if y = name then some v else none) → R (.ok (.ret .none)) ⟨h', g, d, tk', os⟩) :
    codeAny (model prog w) A (.call (.builtin "object.__setattr__") ⟨[.ref x, .str name tk, v], []⟩) R ⟨hp, g, d, t, os⟩ := by
  have I : W.InstAt hp x { cls := .ref C, data := .fields fv } C none := ⟨hx, rfl, rfl, trivial⟩
  have SF := F.store_object
  have ne : cd.mro.isEmpty = false := by rw [hmr0]; rfl
  have hob : cd.mro.contains (.type "object") = true := by rw [hmr0, List.contains_cons, XB.ob, Bool.or_true]
  have hxs : x ≠ hp.objs.size := Nat.ne_of_lt (Heap.lt_size hx)
  have sub : W.Looks (model prog w) hp (isInstance (.ref x) (.type "object")) true := I.type.andThen (W.looks_mroIn X (by unfold W.mroIn; rw [hcd, Option.bind_some, if_neg (by rw [ne]; decide), hob]))
  refine codeAny_call_builtin SF.slot.plain SF.entry (@W.check_slot (model prog w) _ _ ⟨hp, g, d, t, os⟩ "object.__setattr__" "object" "__setattr__" (.ref x) [.str name tk, v] [] _ SF.kind SF.split sub (SF.args (.ref x) (.str name tk) v) ?_)
  have hmr : W.Looks (model prog w) hp (mroOf (.ref C)) cd.mro := (W.looks_clsIn X hcd).andThen .now
  have L3 : W.Looks (model prog w) hp (storeTaker? none) none := .now
  have hcls : W.Looks (model prog w) hp (classData C) cd := W.looks_clsIn X hcd
  rw [W.osa_eq, refuse_eq]
  refine wpAny_bind (wpAny_bind (I.type.at (wpAny_bind (hmr.at ?_))))
  rw [hmr0, refuseLoop_ref, XB.pass]
  refine wpAny_pure (wpAny_bind (I.type.at (wpAny_bind ((W.looks_findIn X ha).at (wpAny_bind (L3.at ?_))))))
  show wpAny _ _ (storeInOwnDict (.ref x) (.ref C) (.str name tk) name v false) _ _ _
  obtain ⟨nm, bs, mro, ns, qn, hd, sn, sb, ab, col, del⟩ := cd
  dsimp only at hh
  subst hh
  unfold storeInOwnDict ownDictForStores
  repeat (first | with_reducible refine store_in_new ?_ ?_ | with_reducible refine wpAny_loadPart_at hx ?_ | with_reducible refine hcls.at ?_ | wp_step)
  · exact ⟨_, #[], _, (Heap.get?_update_ne _ _ _ _ hxs.symm).trans (Heap.get?_push_at rfl rfl), rfl, fun e he => absurd he (by simp), fun _ => rfl⟩
  · intro h' tk' hn' hs
    have hx₁ : (hp.push { cls := .type "dict", data := .dict #[] }).get? x = some { cls := .ref C, data := .fields fv } := Heap.get?_push_of_some _ hx
    refine hq h' tk' hp.objs.size (fun b o hb ho => ?_) (Nat.le_refl _) hxs.symm ?_ hn'
    · exact (hs.2 b (Nat.ne_of_lt (Heap.lt_size ho))).trans ((Heap.get?_update_ne _ _ _ _ hb).trans (Heap.get?_push_of_some _ ho))
    · exact (hs.2 x hxs).trans (Heap.get?_update_self _ hx₁ rfl)
theorem old_osa {K : W.Frag} {name : Str} {tk : Tok} {v : Value} {x C dx : Addr} {fv : Array Value} {cd : ClassData} {m0 : Str → Option Value} {nl : List Str} (XB : ExB B newId initId bmB)
    (X : K.In hp) (hx : hp.get? x = some { cls := .ref C, dict := some dx, data := .fields fv }) (hns : hp.Ns1 dx m0) (hw : Within m0 nl) (hz : nl.length ≤ 1000) (hcd : W.clsIn K C = some cd) (hmr0 : cd.mro = .ref C :: bmB) (hh : cd.hasDict = true)
    (ha : W.findIn K (.ref C) name = some none)
    (hq : ∀ h' tk', (∀ b o, b ≠ dx → hp.get? b = some o → h'.get? b = some o) → h'.Ns1 dx (fun y => if y = name then some v else m0 y) → R (.ok (.ret .none)) ⟨h', g, d, tk', os⟩) :
    codeAny (model prog w) A (.call (.builtin "object.__setattr__") ⟨[.ref x, .str name tk, v], []⟩) R ⟨hp, g, d, t, os⟩ := by
  obtain ⟨oD, esD, epD, hoD, hdD, _⟩ := hns.count hw
  have I : W.InstAt hp x { cls := .ref C, dict := some dx, data := .fields fv } C (some oD) := ⟨hx, rfl, rfl, hoD⟩
  have SF := F.store_object
  have ne : cd.mro.isEmpty = false := by rw [hmr0]; rfl
  have hob : cd.mro.contains (.type "object") = true := by rw [hmr0, List.contains_cons, XB.ob, Bool.or_true]
  have sub : W.Looks (model prog w) hp (isInstance (.ref x) (.type "object")) true := I.type.andThen (W.looks_mroIn X (by unfold W.mroIn; rw [hcd, Option.bind_some, if_neg (by rw [ne]; decide), hob]))
  refine codeAny_call_builtin SF.slot.plain SF.entry (@W.check_slot (model prog w) _ _ ⟨hp, g, d, t, os⟩ "object.__setattr__" "object" "__setattr__" (.ref x) [.str name tk, v] [] _ SF.kind SF.split sub (SF.args (.ref x) (.str name tk) v) ?_)
  have hmr : W.Looks (model prog w) hp (mroOf (.ref C)) cd.mro := (W.looks_clsIn X hcd).andThen .now
  have L3 : W.Looks (model prog w) hp (storeTaker? none) none := .now
  have hcls : W.Looks (model prog w) hp (classData C) cd := W.looks_clsIn X hcd
  rw [W.osa_eq, refuse_eq]
  refine wpAny_bind (wpAny_bind (I.type.at (wpAny_bind (hmr.at ?_))))
  rw [hmr0, refuseLoop_ref, XB.pass]
  refine wpAny_pure (wpAny_bind (I.type.at (wpAny_bind ((W.looks_findIn X ha).at (wpAny_bind (L3.at ?_))))))
  show wpAny _ _ (storeInOwnDict (.ref x) (.ref C) (.str name tk) name v false) _ _ _
  obtain ⟨nm, bs, mro, ns, qn, hd, sn, sb, ab, col, del⟩ := cd
  dsimp only at hh
  subst hh
  unfold storeInOwnDict ownDictForStores
  repeat (first | with_reducible refine store_in_old hns hw hz ?_ | with_reducible refine wpAny_loadPart_at hx ?_ | with_reducible refine hcls.at ?_ | wp_step)
  intro h' tk' hn' hs
  exact hq h' tk' (fun b o hb ho => (hs.2 b hb).trans ho) hn'
end
end BrX
end PySem
namespace Br
open PySem PySem.Spec PyProof.Rows L2 PySem.BrX
structure OxB (K : PySem.W.Frag) (C : Addr) (newId : String) (bmB : List Value) : Prop where
  cls : ∃ nm q N bs sn sub ab col dd k0 k1 k2 k3 k5, K.lookup C = some (excClassObj nm q C N bs bmB true sn sub ab col dd k0 k1 k2 k3 k5 newId)
  sa : PySem.W.findIn K (.ref C) "__setattr__" = some (some (.builtin "object.__setattr__"))
  exC : PySem.W.subIn K (.ref C) (.type "BaseException") = some true
  tyC : PySem.W.typeIn K (.ref C) = some (.type "type")
  kC : PySem.W.keepIn K (.ref C) = true
section
variable {X : Cx} {pins : List (Addr × Obj)} {σ : L2.St} {H : Hp} {s : Shared} {a C dx : Addr} {f : Str} {y : V} {u : Value} {fs : List (Str × V)} {E : Value → Shared → Prop} {A : Around} {B newId initId : String} {bmB : List Value}
theorem ostB_new {Q : Unit → Shared → Prop} (XB : ExB B newId initId bmB) (T : OxB X.K C newId bmB) (I : Inv X pins σ H s) (e : H a = some (exo a C none)) (hno : PySem.W.findIn X.K (.ref C) f = some none) (ry : RelV y u)
    (h : ∀ dx s', H dx = none → dx ≠ a → Inv X pins σ (upd (upd H dx (exd dx [(f, y)])) a (exo a C (some dx))) s' → Q () s') : wpAny (model X.prog X.w) A (setAttr (.ref a) f u) Q E s := by
  obtain ⟨nm, q, N, bs, sn, sub, ab, col, dd, k0, k1, k2, k3, k5, hC⟩ := T.cls
  have hcl : PySem.W.clsIn X.K C = some { name := nm, bases := bs, mro := .ref C :: bmB, ns := N, qualname := q, hasDict := true, slotNames := sn, subclasses := sub, abstract := ab, collection := col, hasDel := false } := by unfold PySem.W.clsIn; rw [hC] <;> rfl
  obtain ⟨t1, ho⟩ := exo_at I.hok e
  obtain ⟨hp, g, d, t, os⟩ := s
  refine PySem.W.set_plain I.kIn (ox := { cls := .ref C, dict := none, data := .fields #[.ref t1, .none, .none, .none, .bool false, .none] }) (od := none) ⟨ho, rfl, rfl, trivial⟩ T.sa ?_
  refine new_osa XB I.kIn ho hcl rfl rfl hno (fun h' tk' dx k dn dne hx hn => ?_)
  have hnd : H dx = none := I.hok.fresh dn
  have nd : ∀ {b : Addr} {o : Obj}, hp.get? b = some o → b ≠ dx := fun {b o} q => Nat.ne_of_lt (Nat.lt_of_lt_of_le (Heap.lt_size q) dn)
  have na : ∀ {b : Addr}, H b = none → b ≠ a := fun {b} n z => by rw [z, e] at n; cases n
  have Un1 : Un X.fs [] H (upd (upd H dx (exd dx [(f, y)])) a (exo a C (some dx))) hp h' :=
    ⟨fun b o q n _ _ => k b o (na n) q, fun b o q n _ _ => ⟨o.slots, k b o (na n) q⟩, fun b o q n _ => by rw [upd_ne (na n), upd_ne (nd q)]; exact n, fun b o q _ => by
      by_cases hb : b = a
      · exact ⟨_, by rw [hb]; exact hx⟩
      · exact ⟨o, k b o hb q⟩, fun b xs q => by rw [upd_ne (at_ne e q exo_tup), upd_ne (ne_of_none q hnd)]; exact q, fun b o v q => by rw [upd_ne (at_ne e q exo_frz), upd_ne (ne_of_none q hnd)]; exact q, fun b ps q => ⟨#[], by rw [upd_ne (at_ne e q exo_tbl), upd_ne (ne_of_none q hnd), q]; simp⟩⟩
  refine h dx _ hnd dne (I.un (t' := tk') Un1 fun b o q => ?_)
  by_cases hb : b = a
  · subst hb
    rw [upd_same] at q
    cases q
    exact exo_ok hx
  · rw [upd_ne hb] at q
    by_cases hd : b = dx
    · subst hd
      rw [upd_same] at q
      cases q
      exact exd_ok hn (relO_put (fs := []) ry fun g => True.intro)
    · rw [upd_ne hd] at q
      exact (I.hok b o q).stay (fun c v hc z => k c v (hc.elim (fun w => by rw [w]; exact hb) fun w => at_ne e w exo_own) z)
        (fun c hc => by rw [upd_ne (at_ne e hc exo_own), upd_ne (ne_of_none hc hnd)]; exact hc) (fun c xs hc => by rw [upd_ne (at_ne e hc exo_tup), upd_ne (ne_of_none hc hnd)]; exact hc)
theorem ostB_old {Q : Unit → Shared → Prop} (XB : ExB B newId initId bmB) (T : OxB X.K C newId bmB) (I : Inv X pins σ H s) (e : H a = some (exo a C (some dx))) (ed : H dx = some (exd dx fs)) (hl : fs.length ≤ 900) (hno : PySem.W.findIn X.K (.ref C) f = some none) (ry : RelV y u)
    (h : ∀ s', Inv X pins σ (upd H dx (exd dx ((f, y) :: fs))) s' → Q () s') : wpAny (model X.prog X.w) A (setAttr (.ref a) f u) Q E s := by
  obtain ⟨nm, q, N, bs, sn, sub, ab, col, dd, k0, k1, k2, k3, k5, hC⟩ := T.cls
  have hcl : PySem.W.clsIn X.K C = some { name := nm, bases := bs, mro := .ref C :: bmB, ns := N, qualname := q, hasDict := true, slotNames := sn, subclasses := sub, abstract := ab, collection := col, hasDel := false } := by unfold PySem.W.clsIn; rw [hC] <;> rfl
  obtain ⟨t1, ho⟩ := exo_at I.hok e
  obtain ⟨mA, hns, rel⟩ := exd_at I.hok ed
  have hw := within_of rel
  obtain ⟨hp, g, d, t, os⟩ := s
  obtain ⟨oD, _, _, hoD, _, _⟩ := hns.count hw
  refine PySem.W.set_plain I.kIn (ox := { cls := .ref C, dict := some dx, data := .fields #[.ref t1, .none, .none, .none, .bool false, .none] }) (od := some oD) ⟨ho, rfl, rfl, hoD⟩ T.sa ?_
  refine old_osa XB I.kIn ho hns hw (by rw [List.length_map]; omega) hcl rfl rfl hno (fun h' tk' k hn => ?_)
  have hd : ∃ o, h'.get? dx = some o := by
    obtain ⟨o, _, _, e', _⟩ := hn
    exact ⟨o, e'⟩
  exact h _ (I.write (t' := tk') (x := dx) (e := dx) (o := exd dx ((f, y) :: fs)) (by rw [ed]; exact True.intro) (.inl rfl) k hd (exd_ok hn (relO_put ry rel)))
theorem oinitB_ok {us : List Value} {Q : Value → Shared → Prop} (XB : ExB B newId initId bmB) (T : OxB X.K C newId bmB) (I : Inv X pins σ H s) (e : H a = some (exo a C none)) (hl : us.length ≤ sizeLine) (h : ∀ s', Inv X pins σ H s' → Q .none s') :
    wpAny (model X.prog X.w) A (call (.builtin initId) (.ref a :: us)) Q E s := by
  obtain ⟨nm, q, N, bs, sn, sub, ab, col, dd, k0, k1, k2, k3, k5, hC⟩ := T.cls
  obtain ⟨t1, ho⟩ := exo_at I.hok e
  obtain ⟨hp, g, d, t, os⟩ := s
  refine wpAny_call (PySem.HandSPX.init_base XB.F (fun _ => rfl) (I.kIn _ _ hC) ho hl fun h' t2 k hx => ?_)
  have J := I.write (t' := t) (x := a) (e := a) (o := exo a C none) (by rw [e]; exact True.intro) (.inl rfl) k ⟨_, hx⟩ (exo_ok hx)
  have eu : upd H a (exo a C none) = H := by
    funext b
    by_cases hb : b = a
    · rw [hb, upd_same, e]
    · rw [upd_ne hb]
  rw [eu] at J
  exact h _ J
end
def tBI (K : PySem.W.Frag) (newId : String) (bmB : List Value) (ta : TA) : TE := fun σ H Q => ta σ H fun vs H1 => ∃ (a C : Addr) (ws : List V), vs = .ref a :: ws ∧ ws.length ≤ 1000 ∧ OxB K C newId bmB ∧ H1 a = some (exo a C none) ∧ Q .non H1
def tBst (K : PySem.W.Frag) (newId : String) (bmB : List Value) (f : Str) (to te : TE) : TS := fun D σ H => te σ H fun y H1 => to σ H1 fun x H2 => ∃ a C : Addr, x = .ref a ∧ OxB K C newId bmB ∧ PySem.W.findIn K (.ref C) f = some none ∧
  ((H2 a = some (exo a C none) ∧ ∀ dx, H2 dx = none → dx ≠ a → D.nx σ (upd (upd H2 dx (exd dx [(f, y)])) a (exo a C (some dx)))) ∨
    ∃ (dx : Addr) (fs : List (Str × V)), H2 a = some (exo a C (some dx)) ∧ H2 dx = some (exd dx fs) ∧ fs.length ≤ 900 ∧ D.nx σ (upd H2 dx (exd dx ((f, y) :: fs))))
section
variable {X : Cx} {o e : Expr} {es : List Expr} {to te : TE} {ta : TA} {f : Str} {p p' p1 p2 pos : Pos} {B newId initId : String} {bmB : List Value}
theorem pe_binit {pl : Sem Bool} (XB : ExB B newId initId bmB) {x : Str} (hg : Gl X x) (hm : X.mg x = none) (bv : bootBuiltins x = some (.type B)) (hty : typeOf (.type B) = pure (.type "type")) (hst : Manifest.isStub B = false) (hhd : PySem.W.handedIn (.builtin initId) = true)
    (vV : PySem.W.findCls X.K (.type B) (.type "type") "__init__" = some (.val (.builtin initId))) (ha : PA X (e :: es) ta) (hn : x ≠ "__name__" := by decide) (hdb : (x == ("__debug__" : Str)) = false := by decide)
    (hc : eval (.Call (.Attribute (.Name x p1) "__init__" p2) (e :: es) [] pos) X.env = (do
      let ov ← eval (.Name x p1) X.env
      standAt p2.atName
      let (f, first) ← holding [ov] (getMethod ov "__init__" pl)
      callWith pos f first (backTo pos (starEach (e :: es) X.env)) (backToKw pos (keywordEach [] X.env))) := by rfl)
    (he : starEach (e :: es) X.env = (false, eval e X.env) :: starEach es X.env := by rfl) (hpl : (backTo pos (starEach es X.env)).any (·.1) = false := by rfl) :
    PE X (.Call (.Attribute (.Name x p1) "__init__" p2) (e :: es) [] pos) (tBI X.K newId bmB ta) := by
  refine ⟨fun pins s σ H Q I h => ?_⟩
  refine PySem.W.methodCall_KW (ld_blt I hg hm bv ?_ hn hdb) hc
  obtain ⟨m, fr⟩ := I.fr
  refine PySem.W.method_type fr I.ok.mod.kin hty hst vV hhd ?_
  show wpAny _ _ (callWith pos (Value.builtin initId) [] (backTo pos (starEach (e :: es) X.env)) []) _ _ _
  refine PyProof.Rows.callWith_method1 (thn (ha.run pos pins _ σ H _ (I.tok _) h) fun us s1 ⟨vs, H1, I1, r1, a, C, ws, ev, hl, T, ea, q⟩ => ?_) he hpl
  subst ev
  cases r1 with
  | @cons _ u0 _ ur ra rw' =>
    obtain rfl : u0 = Value.ref a := ra
    have hlen : ur.length ≤ sizeLine := by
      rw [← Paired.length rw', sizeLine_eq]
      omega
    exact oinitB_ok XB T I1 ea hlen fun s' J => ⟨.non, H1, J, rfl, q⟩
theorem ps_bst (XB : ExB B newId initId bmB) (ho : PE X o to) (he : PE X e te) (hs : swapsWith e (some (.Attribute o f p')) pos.line X.env = pure false := by rfl) : PS X (.Assign [.Attribute o f p'] e pos) (tBst X.K newId bmB f to te) := by
  refine ⟨fun pins s σ H D I h => ?_⟩
  refine plainObj_wpAny_Assign_Attribute (thn (he.run pins s σ H _ I h) fun v s1 ⟨y, H1, I1, r1, q1⟩ => thn (ho.run pins s1 σ H1 _ I1 q1) fun u s2 ⟨x, H2, I2, r2, a, C, ex, T, hno, q⟩ => ?_) hs
  subst ex
  obtain rfl : u = Value.ref a := r2
  rcases q with ⟨ea, q⟩ | ⟨dx, fs, ea, ed, hl, q⟩
  · exact ostB_new XB T I2 ea hno r1 fun dx s' n ne J => ⟨σ, _, J, q dx n ne⟩
  · exact ostB_old XB T I2 ea ed hl hno r1 fun s' J => ⟨σ, _, J, q⟩
theorem pmk_bx {x : Str} {C fI : Addr} {k : Nat} {fd : FuncData} {ps : List Str} {sp : Sp} (XB : ExB B newId initId bmB) (T : OxB X.K C newId bmB) (iC : PySem.W.findIn X.K (.ref C) "__init__" = some (some (.ref fI))) (tI : PySem.W.typeIn X.K (.ref fI) = some (.type "function"))
    (F1 : FnOk X.prog X.w X.K X.mg X.base CX0 k fI fd ps sp) (hr : Room (k + 1) X.A) (hb : Binds X.K fd ps []) (hg : Gl X x) (hm : X.mg x = some (.ref C)) (ha : PA X (e :: es) ta)
    (hdb : (x == ("__debug__" : Str)) = false := by decide) (he : starEach (e :: es) X.env = (false, eval e X.env) :: starEach es X.env := by rfl) (hpl : (backTo pos (starEach es X.env)).any (·.1) = false := by rfl) :
    PMk X (.Call (.Name x p) (e :: es) [] pos) (tMkO C sp [] ta) := by
  intro pins s σ H Q I h
  obtain ⟨nm, q, N, bs, sn, sub, ab, col, dd, k0, k1, k2, k3, k5, hC⟩ := T.cls
  refine wpAny_Call_Name_kw (ld_glob I hg hm ?_ hdb)
  refine PySem.W.callWith_K (h₀ := X.base) I.ok.mod.kin T.kC (thn (ha.run pos pins s σ H _ I h) fun us s1 ⟨vs, H1, I1, r1, hz, q1⟩ => ⟨I1.kIn, ?_⟩) he hpl
  show wpAny _ _ (call (.ref C) us) _ _ _
  obtain ⟨hp, g, dr, tk, os⟩ := s1
  have hsz : hp.objs.size ≤ hp.objs.size + 1 := Nat.le_succ _
  have hq := q1 (hp.objs.size + 1) (I1.hok.fresh hsz)
  have kk : ∀ b o, hp.get? b = some o → ((hp.push (PySem.W.kdv_tup us)).push (PySem.HandSPX.excO C hp.objs.size)).get? b = some o := fun b o e => Heap.get?_push_of_some _ (Heap.get?_push_of_some _ e)
  have hget : ((hp.push (PySem.W.kdv_tup us)).push (PySem.HandSPX.excO C hp.objs.size)).get? (hp.objs.size + 1) = some (PySem.HandSPX.excO C hp.objs.size) := by heap_get
  have I2 : Inv X pins σ (upd H1 (hp.objs.size + 1) (exo (hp.objs.size + 1) C none)) ⟨(hp.push (PySem.W.kdv_tup us)).push (PySem.HandSPX.excO C hp.objs.size), g, dr, tk, os⟩ := I1.laid (t' := tk) kk hsz (exo_ok hget)
  rw [List.append_nil] at hq
  have r2 : Vals (V.ref (hp.objs.size + 1) :: vs) (Value.ref (hp.objs.size + 1) :: us) := .cons rfl r1
  have hl : (Value.ref (hp.objs.size + 1) :: us).length = ps.length := by
    have e := r2.length
    rw [F1.len _ _ _ _ hq] at e
    exact e.symm
  have hus : us.length ≤ sizeLine := by
    rw [← Paired.length r1, sizeLine_eq]
    omega
  have hbb := hb ⟨(hp.push (PySem.W.kdv_tup us)).push (PySem.HandSPX.excO C hp.objs.size), g, dr, tk, os⟩ (Value.ref (hp.objs.size + 1) :: us) I2.kIn (by simpa using hl)
  rw [List.append_nil] at hbb
  refine wpAny_call (PySem.HandSPX.call_own XB.F (fun _ => rfl) (I1.kIn _ _ hC) (PySem.W.looks_findIn I1.kIn iC) (fun self => PySem.W.bind_fn I1.kIn self tI) hus
    (codeAny_mono (F1.run _ X.stack _ _ ⟨Value.ref (hp.objs.size + 1) :: us, []⟩ (Value.ref (hp.objs.size + 1) :: us) _ _ (fun _ _ _ => False) (hr.make C us []) (I2.env0.make C us []) hbb r2 hq) fun r s' hq' => ?_))
  cases r with
  | error er => exact hq'.elim
  | ok fl =>
    cases fl with
    | ret u =>
      obtain ⟨v, H2, os2, bare2, un2, hok2, rv, ev, d, fs, ea, ed, hd1, q2⟩ := hq'
      subst ev
      obtain ⟨h2, g2, d2, t2, os'⟩ := s'
      exact ⟨rv, mk_end (raises_own T.exC T.tyC) I1 hsz kk un2 hok2 os2 bare2 ea ed hd1 q2⟩
    | next => exact False.elim hq'
    | brk => exact False.elim hq'
    | cont => exact False.elim hq'
end
structure XcB (K : PySem.W.Frag) (mg : Str → Option Value) (x qual : Str) (st : Stmt) (newId : String) (bmB : List Value) (C fI : Addr) (fd : FuncData) : Prop where
  g : mg x = some (.ref C)
  O : OxB K C newId bmB
  i : PySem.W.findIn K (.ref C) "__init__" = some (some (.ref fI))
  t : PySem.W.typeIn K (.ref fI) = some (.type "function")
  F : Fun K "__init__" qual st fI fd
  xf : XfC K C
  ec : ExcC K C
  self : PySem.W.exmOne K (.ref C) (.ref C) = some true
theorem xcB {K : PySem.W.Frag} {h : Heap} {mg : Str → Option Value} {x qual : Str} {st : Stmt} {newId : String} {bmB : List Value} {C fI : Addr} {nm q : Str} {N : Addr} {bs : List Value} {sn : List Str} {sub : List Value} {ab : Bool} {col : Option Bool} {dd : Option Addr} {m0 m1 m2 m3 m5 : Option Value}
    {oc : Value} {od an : Option Addr} {osl : Array (Option Value)} {kV doc pm cdv ct : Value} (X : K.In h) (G : h.Ns mainGlobals mg)
    (aC : PySem.W.nsIn K mainGlobals x = some (some (.ref C)))
    (xL : K.lookup C = some (excClassObj nm q C N bs bmB true sn sub ab col dd m0 m1 m2 m3 m5 newId))
    (sa : PySem.W.findIn K (.ref C) "__setattr__" = some (some (.builtin "object.__setattr__"))) (eC : PySem.W.subIn K (.ref C) (.type "BaseException") = some true) (tC : PySem.W.typeIn K (.ref C) = some (.type "type")) (kC : PySem.W.keepIn K (.ref C) = true)
    (a1 : PySem.W.findIn K (.ref C) "__init__" = some (some (.ref fI))) (t1 : PySem.W.typeIn K (.ref fI) = some (.type "function"))
    (l1 : K.lookup fI = some ⟨oc, od, .func (PySem.W.fnOf "__init__" qual (defArgs st) (defBody st) (defScope st) .none kV doc pm an cdv ct), osl⟩) (c1 : PySem.W.codeIn K cdv qual = true) (k1 : PySem.W.keepIn K (.ref fI) = true)
    (ga : PySem.W.findIn K (.ref C) "__getattribute__" = some (some (.builtin "BaseException.__getattribute__"))) (gg : PySem.W.findIn K (.ref C) "__getattr__" = some none) (hC : PySem.W.hasDictIn K C = true)
    (ha : PySem.W.findIn K (.ref C) "__class__" = some (some (.builtin "object.__class__"))) (hn : PySem.W.specialIn K (.builtin "object.__class__") "__get__" = some (some (.builtin "getset_descriptor.__get__")))
    (ht : PySem.W.takesIn K (.builtin "object.__class__") = some true) (hm : PySem.W.mroIn K C (.type "object") = some true) (sC : PySem.W.subIn K (.ref C) (.ref C) = some true) :
    XcB K mg x qual st newId bmB C fI (PySem.W.fnOf "__init__" qual (defArgs st) (defBody st) (defScope st) .none kV doc pm an cdv ct) :=
  { g := PySem.W.mg_of X G aC, O := ⟨⟨nm, q, N, bs, sn, sub, ab, col, dd, m0, m1, m2, m3, m5, xL⟩, sa, eC, tC, kC⟩, i := a1, t := t1, F := fun_mk l1 c1 k1, xf := ⟨ga, gg, eC, hC⟩, ec := ⟨ga, gg, eC, hC, ha, hn, ht, hm⟩, self := exm_self eC hC tC sC }
def spXs (C : Addr) (mk : List V → Option (List (Str × V))) : Sp := fun vs H Q _ => ∃ (a : Addr) (ws : List V) (fs : List (Str × V)), vs = .ref a :: ws ∧ mk ws = some fs ∧ H a = some (exo a C none) ∧ ∀ d, H d = none → d ≠ a → Q .non (upd (upd H d (exd d fs)) a (exo a C (some d)))
def rXs (C : Addr) (fs : List (Str × V)) (H : Hp) (W : XK) : Prop := ∀ (d : Addr) (H' : Hp), H d = none → Same H H' → H' d = some (.xd fs) → W (.ref C) (some d) H'
def tRzs (C : Addr) (mk : List V → Option (List (Str × V))) (W : WX) (ta : TA) : TS := fun _ σ H => ta σ H fun vs H1 => vs.length ≤ 1000 ∧ ∃ fs, mk vs = some fs ∧ rXs C fs H1 fun cls d H' => W cls d σ H'
theorem ps_rzs {X : Cx} {x qual : Str} {st : Stmt} {C fI : Addr} {fd : FuncData} {ps : List Str} {e : Expr} {es : List Expr} {ta : TA} {k : Nat} {p pos pos2 : Pos} {W : WX} {B newId initId : String} {bmB : List Value} {mk : List V → Option (List (Str × V))} (XB : ExB B newId initId bmB) (hc : X.calm = true) (tk : Takes X W) (T : XcB X.K X.mg x qual st newId bmB C fI fd) (F1 : FnOk X.prog X.w X.K X.mg X.base CX0 k fI fd ps (spXs C mk)) (hb : Binds X.K fd ps []) (hr : Room (k + 1) X.A)
    (ha : PA X (e :: es) ta) (hg : Gl X x := by rfl) (hdb : (x == ("__debug__" : Str)) = false := by decide) (he : starEach (e :: es) X.env = (false, eval e X.env) :: starEach es X.env := by rfl) (hpl : (backTo pos (starEach es X.env)).any (·.1) = false := by rfl) :
    PS X (.Raise (some (.Call (.Name x p) (e :: es) [] pos)) none pos2) (tRzs C mk W ta) := by
  have pm : PMk X (.Call (.Name x p) (e :: es) [] pos) (fun σ H Q => ta σ H fun vs H1 => vs.length ≤ 1000 ∧ ∃ fs, mk vs = some fs ∧ rXs C fs H1 Q) := by
    intro pins s σ H Q I h
    refine pmk_bx XB T.O T.i T.t F1 hr hb hg T.g (pa_up ha) hdb he hpl pins s σ H Q I ⟨_, h, fun vs H1 ⟨hl, fs, hfs, k⟩ => ⟨hl, fun a ha => ⟨a, vs, fs, by rw [List.append_nil], hfs, upd_same, fun d hd hda => ⟨rfl, d, fs, upd_same, by rw [upd_ne hda, upd_same], ?_, ?_⟩⟩⟩⟩
    · rwa [upd_ne hda] at hd
    · have hd' : H1 d = none := by rwa [upd_ne hda] at hd
      refine k d _ hd' (fun b o q => ?_) upd_same
      have b1 : b ≠ d := ne_of_none q hd'
      have b2 : b ≠ a := ne_of_none q ha
      rw [upd_ne b1, del_ne b2, upd_ne b2, upd_ne b1, upd_ne b2]
      exact q
  exact ps_raise hc tk pm
section
variable {prog : Program} {w : World} {A : Around} {E : Value → Shared → Prop} {s : Shared}
theorem lst_keep {h h' : Heap} {l it : Addr} {its : Array Value} (x : h.IsList l its) (e : Heap.ExtBut it h h') (n : l ≠ it) : h'.IsList l its := by
  obtain ⟨o, ho, r⟩ := x
  exact ⟨o, e _ _ n ho, r⟩
theorem draw_lst {it l : Addr} {its : Array Value} (hne : l ≠ it) : ∀ (k i : Nat) (s : Shared) (Q : List Value → Shared → Prop), s.heap.IsListIter it l i → s.heap.IsList l its → i + k ≤ its.size →
    (∀ h', h'.IsListIter it l (i + k) → Heap.SameBut it s.heap h' → Q ((its.toList.drop i).take k) { s with heap := h' }) → wpAny (model prog w) A (draw (.ref it) k) Q E s := by
  intro k
  induction k with
  | zero =>
    intro i s Q hit _ _ go
    have := go s.heap hit (Heap.SameBut.refl ..)
    exact wpAny_pure (by simpa using this)
  | succ k ih =>
    intro i s Q hit hl hle go
    have hi : i < its.size := by omega
    refine wpAny_bind (m := pyNext (.ref it)) (wpAny_pyNext_list_item hit hl (x := its[i]) (by simp [hi]) fun h1 hit1 e1 => ?_)
    refine wpAny_bind (wpAny_holding (ih (i + 1) _ _ hit1 (lst_keep hl e1.extBut hne) (by omega) fun h2 hit2 e2 => wpAny_pure ?_))
    have q := go h2 (by rw [show i + (k + 1) = i + 1 + k by omega]; exact hit2) (e1.trans e2)
    have hd : its.toList.drop i = its[i] :: its.toList.drop (i + 1) := by simp [List.drop_eq_getElem_cons, hi]
    rw [hd, List.take_succ_cons] at q
    exact q
theorem unpack_lst {l : Addr} {its : Array Value} {tgs : List (Bool × (Value → Sem Unit))} {Q : Unit → Shared → Prop} (hh : A.handled = none) (hl : s.heap.IsList l its) (hn : tgs.length = its.size) (hst : tgs.findIdx? (·.1) = none)
    (go : ∀ h', Heap.ExtBut s.heap.objs.size s.heap h' → wpAny (model prog w) A (assignInOrder (tgs.map (·.2)) its.toList) Q E { s with heap := h' }) : wpAny (model prog w) A (unpack (.ref l) tgs) Q E s := by
  have hlt : l ≠ s.heap.objs.size := by
    obtain ⟨o, ho, _⟩ := hl
    exact Nat.ne_of_lt (Heap.lt_size ho)
  unfold unpack
  rw [hn, hst]
  refine wpAny_bind (wpAny_holding ?_)
  unfold unpackItems
  refine wpAny_bind ?_
  unfold notIterableAtAll
  refine wpAny_bind (wpAny_specialOf hl.typeIs slot_list_iter.lookup (wpAny_pure ?_))
  simp only [Bool.false_eq_true, if_false]
  refine wpAny_bind (wpAny_holding (wpAny_pyIter_list hl ?_))
  have hl0 : (s.heap.push { cls := .type "list_iterator", data := .fields #[.ref l, .int 0 0] }).IsList l its := by
    obtain ⟨o, ho, r⟩ := hl
    exact ⟨o, Heap.get?_push_of_some _ ho, r⟩
  refine wpAny_bind (wpAny_holding (draw_lst hlt its.size 0 _ _ ⟨_, Heap.get?_push_size _ rfl, rfl, rfl⟩ hl0 (by omega) fun h1 hit1 e1 => ?_))
  rw [List.drop_zero, List.take_of_length_le (by simp), if_neg (by simp)]
  refine wpAny_bind (wpAny_holding (wpAny_pyNext_list_end hh hit1 (lst_keep hl0 e1.extBut hlt) (by simp) fun h2 e2 => ?_))
  simp only [Option.isSome_none, Bool.false_eq_true, if_false]
  exact wpAny_pure (go h2 fun b o hb e => e2 b o hb (e1.extBut b o hb (Heap.get?_push_of_some _ e)))
end
def gSq (K : PySem.W.Frag) (n : Nat) (t : TGs) : TG := fun v σ H Q => gTup K n t v σ H Q ∨ ∃ a xs, v = .ref a ∧ SqL K H a xs ∧ xs.length = n ∧ t xs σ H Q
theorem pg_sq {X : Cx} {es : List Expr} {k : Nat} {t : TGs} {n : Nat} {pos : Pos} (hc : X.calm = true) (h : PGs X es t) (hn : (assignEach es X.env).length = n := by rfl) (hst : (assignEach es X.env).findIdx? (·.1) = none := by rfl) : PG X (.Tuple es k pos) (gSq X.K n t) := by
  refine ⟨fun pins s σ H v u Q I r hw => ?_⟩
  rcases hw with hw | ⟨a, xs, rfl, hq, hl, hw⟩
  · exact (pg_tup hc h hn hst).run pins s σ H v u Q I r hw
  · cases r
    obtain ⟨its, rv, ⟨o, m, ho, hcl, hdi, hda⟩, hz⟩ := I.list hq
    rw [assign_Tuple]
    refine wpAny_bind (wpAny_standAt (unpack_lst (its := its.toArray) (I.ok.hd hc) ⟨o, ho, hcl, m, hda⟩ (by simp [hn, ← hl, rv.length]) hst fun h' hx => ?_))
    have I1 : Inv X pins σ H { s with heap := h' } := I.kept (t' := s.toks) fun b o e => hx b o (Nat.ne_of_lt (Heap.lt_size e)) e
    exact h.run pins _ σ H xs _ Q I1 (by simpa using rv) hw
end Br
namespace Dn
open PySem PySem.Spec PyProof.Rows L2 Br
inductive D where
  | non | bl (b : Bool) | int (i : Int) | str (x : Str)
  | lst (xs : List D) | tup (xs : List D)
  | obj (c : Str) (fs : List (Str × D)) | exc (c : Str) (fs : List (Str × D))
  | dct (kvs : List (Key × D))
  | pen
  | scr (n : Nat)
  | fn (f c : Addr) (q : Str)
structure Kn where
  key : Str
  tb : List (Addr × Str)
structure G where
  K : PySem.W.Frag
  mg : Str → Option Value
  pd : Addr
  pc : Addr
  kn : Kn
mutual
inductive Dv (g : G) (H : Hp) : V → D → Prop
  | non : Dv g H .non .non
  | bl (b : Bool) : Dv g H (.bl b) (.bl b)
  | int (i : Int) : Dv g H (.int i) (.int i)
  | str (x : Str) : Dv g H (.str x) (.str x)
  | lst {a : Addr} {xs : List V} {ds : List D} : H a = some (.lst xs) → DvAll g H xs ds → Dv g H (.ref a) (.lst ds)
  | tup {a : Addr} {xs : List V} {ds : List D} : SqT g.K H a xs → DvAll g H xs ds → Dv g H (.ref a) (.tup ds)
  | obj {a C dx : Addr} {c : Str} {fs : List (Str × V)} {gs : List (Str × D)} : H a = some (.ins C dx fs) → g.mg c = some (.ref C) → DvF g H fs gs → Dv g H (.ref a) (.obj c gs)
  | exc {a C dd : Addr} {c : Str} {fs : List (Str × V)} {gs : List (Str × D)} : H a = some (xob a (.ref C) (some dd)) → g.mg c = some (.ref C) → H dd = some (.xd fs) → DvF g H fs gs → Dv g H (.ref a) (.exc c gs)
  | dct {a : Addr} {o : Obj} {kvs : List (Key × V)} {ks : List (Key × D)} : H a = some (.frz o (.dK kvs)) → DvK g H kvs ks → Dv g H (.ref a) (.dct ks)
  | pen : Dv g H (.ref g.pd) .pen
  | scr {a : Addr} {xs : List V} : SqL g.K H a xs → Dv g H (.ref a) (.scr xs.length)
  | fn (f c : Addr) (q : Str) : Dv g H (.ref f) (.fn f c q)
inductive DvAll (g : G) (H : Hp) : List V → List D → Prop
  | nil : DvAll g H [] []
  | cons {v : V} {vs : List V} {d : D} {ds : List D} : Dv g H v d → DvAll g H vs ds → DvAll g H (v :: vs) (d :: ds)
inductive DvF (g : G) (H : Hp) : List (Str × V) → List (Str × D) → Prop
  | nil : DvF g H [] []
  | cons {f : Str} {v : V} {d : D} {fs : List (Str × V)} {gs : List (Str × D)} : Dv g H v d → DvF g H fs gs → DvF g H ((f, v) :: fs) ((f, d) :: gs)
inductive DvK (g : G) (H : Hp) : List (Key × V) → List (Key × D) → Prop
  | nil : DvK g H [] []
  | cons {f : Key} {v : V} {d : D} {fs : List (Key × V)} {gs : List (Key × D)} : Dv g H v d → DvK g H fs gs → DvK g H ((f, v) :: fs) ((f, d) :: gs)
end
section
variable {g : G} {H H' : Hp}
mutual
theorem Dv.mono (s : Same H H') : ∀ {d : D} {v : V}, Dv g H v d → Dv g H' v d
  | _, _, .non => .non
  | _, _, .bl b => .bl b
  | _, _, .int i => .int i
  | _, _, .str x => .str x
  | _, _, .lst h a => .lst (s _ _ h) (DvAll.mono s a)
  | _, _, .tup h a => .tup (same_seqT s h) (DvAll.mono s a)
  | _, _, .obj h m a => .obj (s _ _ h) m (DvF.mono s a)
  | _, _, .exc h m h2 a => .exc (s _ _ h) m (s _ _ h2) (DvF.mono s a)
  | _, _, .dct h a => .dct (s _ _ h) (DvK.mono s a)
  | _, _, .pen => .pen
  | _, _, .scr h => .scr (s.seq h)
  | _, _, .fn f c q => .fn f c q
theorem DvAll.mono (s : Same H H') : ∀ {ds : List D} {vs : List V}, DvAll g H vs ds → DvAll g H' vs ds
  | _, _, .nil => .nil
  | _, _, .cons h r => .cons (Dv.mono s h) (DvAll.mono s r)
theorem DvF.mono (s : Same H H') : ∀ {gs : List (Str × D)} {fs : List (Str × V)}, DvF g H fs gs → DvF g H' fs gs
  | _, _, .nil => .nil
  | _, _, .cons h r => .cons (Dv.mono s h) (DvF.mono s r)
theorem DvK.mono (s : Same H H') : ∀ {gs : List (Key × D)} {fs : List (Key × V)}, DvK g H fs gs → DvK g H' fs gs
  | _, _, .nil => .nil
  | _, _, .cons h r => .cons (Dv.mono s h) (DvK.mono s r)
end
theorem DvAll.len {vs : List V} {ds : List D} (h : DvAll g H vs ds) : vs.length = ds.length := by
  induction ds generalizing vs with
  | nil => cases h; rfl
  | cons d r ih => cases h with | cons a b => rw [List.length_cons, List.length_cons, ih b]
theorem DvAll.get {vs : List V} {ds : List D} (h : DvAll g H vs ds) : ∀ {i : Nat} {d : D}, ds[i]? = some d → ∃ v, vs[i]? = some v ∧ Dv g H v d := by
  induction ds generalizing vs with
  | nil => intro i d e; simp at e
  | cons d r ih =>
    intro i x e
    cases h with
    | cons a b =>
      cases i with
      | zero =>
        rw [List.getElem?_cons_zero] at e
        cases e
        exact ⟨_, by rw [List.getElem?_cons_zero], a⟩
      | succ i =>
        rw [List.getElem?_cons_succ] at e
        obtain ⟨v, h1, h2⟩ := ih b e
        exact ⟨v, by rw [List.getElem?_cons_succ]; exact h1, h2⟩
theorem DvAll.getV {vs : List V} {ds : List D} (h : DvAll g H vs ds) : ∀ {i : Nat} {v : V}, vs[i]? = some v → ∃ d, ds[i]? = some d ∧ Dv g H v d := by
  induction ds generalizing vs with
  | nil => intro i v e; cases h; simp at e
  | cons d r ih =>
    intro i x e
    cases h with
    | cons a b =>
      cases i with
      | zero =>
        rw [List.getElem?_cons_zero] at e
        cases e
        exact ⟨_, by rw [List.getElem?_cons_zero], a⟩
      | succ i =>
        rw [List.getElem?_cons_succ] at e
        obtain ⟨v, h1, h2⟩ := ih b e
        exact ⟨v, by rw [List.getElem?_cons_succ]; exact h1, h2⟩
theorem DvAll.append {vs ws : List V} {ds es : List D} (h : DvAll g H vs ds) (k : DvAll g H ws es) : DvAll g H (vs ++ ws) (ds ++ es) := by
  induction ds generalizing vs with
  | nil => cases h; exact k
  | cons d r ih => cases h with | cons a b => exact .cons a (ih b)
theorem DvAll.take {vs : List V} {ds : List D} (h : DvAll g H vs ds) (n : Nat) : DvAll g H (vs.take n) (ds.take n) := by
  induction ds generalizing vs n with
  | nil => cases h; cases n <;> exact .nil
  | cons d r ih =>
    cases h with
    | cons a b =>
      cases n with
      | zero => exact .nil
      | succ n => exact .cons a (ih b n)
theorem DvAll.drop {vs : List V} {ds : List D} (h : DvAll g H vs ds) (n : Nat) : DvAll g H (vs.drop n) (ds.drop n) := by
  induction ds generalizing vs n with
  | nil => cases h; cases n <;> exact .nil
  | cons d r ih =>
    cases h with
    | cons a b =>
      cases n with
      | zero => exact .cons a b
      | succ n => exact ih b n
theorem DvAll.reverse {vs : List V} {ds : List D} (h : DvAll g H vs ds) : DvAll g H vs.reverse ds.reverse := by
  induction ds generalizing vs with
  | nil => cases h; exact .nil
  | cons d r ih =>
    cases h with
    | cons a b =>
      rw [List.reverse_cons, List.reverse_cons]
      exact (ih b).append (.cons a .nil)
theorem DvAll.set {vs : List V} {ds : List D} (h : DvAll g H vs ds) {v : V} {d : D} (k : Dv g H v d) (n : Nat) : DvAll g H (vs.set n v) (ds.set n d) := by
  induction ds generalizing vs n with
  | nil => cases h; cases n <;> exact .nil
  | cons e r ih =>
    cases h with
    | cons a b =>
      cases n with
      | zero => exact .cons k b
      | succ n => exact .cons a (ih b n)
theorem DvF.look {fs : List (Str × V)} {gs : List (Str × D)} (h : DvF g H fs gs) {f : Str} {d : D} (e : gs.lookup f = some d) : ∃ v, fs.lookup f = some v ∧ Dv g H v d := by
  induction gs generalizing fs with
  | nil => simp at e
  | cons p r ih =>
    cases h with
    | @cons f' v d' fs' _ a b =>
      unfold List.lookup at e ⊢
      cases q : f == f' with
      | true => rw [q] at e; cases e; exact ⟨v, rfl, a⟩
      | false => rw [q] at e; exact ih b e
end
def TBut (d : Addr) (H H' : Hp) : Prop := ∀ b o, b ≠ d → H b = some o → ∃ o', H' b = some o' ∧ ((∀ ps, o ≠ .tbl ps) → o' = o)
theorem TBut.refl (d : Addr) (H : Hp) : TBut d H H := fun _ o _ h => ⟨o, h, fun _ => rfl⟩
theorem TBut.trans {d : Addr} {H H1 H2 : Hp} (a : TBut d H H1) (b : TBut d H1 H2) : TBut d H H2 := fun c o n h => by
  obtain ⟨o1, h1, k1⟩ := a c o n h
  obtain ⟨o2, h2, k2⟩ := b c o1 n h1
  refine ⟨o2, h2, fun z => ?_⟩
  have := k1 z
  subst this
  exact k2 z
theorem TBut.of {d : Addr} {H H' : Hp} (a : Same H H') : TBut d H H' := fun b o _ h => ⟨o, a b o h, fun _ => rfl⟩
theorem TBut.ofB {d : Addr} {H H' : Hp} (a : SBut d H H') : TBut d H H' := fun b o n h => ⟨o, a b o n h, fun _ => rfl⟩
def NoT (Hv : Hp) : Prop := ∀ b ps, Hv b ≠ some (.tbl ps)
theorem NoT.upd {Hv : Hp} (h : NoT Hv) {p : Addr} {o : HO} (no : ∀ ps, o ≠ .tbl ps) : NoT (L2.upd Hv p o) := fun b ps e => by
  by_cases hb : b = p
  · subst hb; rw [upd_same] at e; exact no ps (Option.some.inj e)
  · rw [upd_ne hb] at e; exact h b ps e
structure Ext (g : G) (H Hv H' Hv' : Hp) : Prop where
  but : TBut g.pd H H'
  see : Same Hv Hv'
  sub : Same Hv' H'
  hid : ∀ a, Hv a = none → H a ≠ none → Hv' a = none
  nt : NoT Hv → NoT Hv'
theorem Ext.refl {g : G} {H Hv : Hp} (s : Same Hv H) : Ext g H Hv H Hv := ⟨.refl _ _, .refl _, s, fun _ h _ => h, fun z => z⟩
theorem Ext.trans {g : G} {H Hv H1 Hv1 H2 Hv2 : Hp} (np : H g.pd ≠ none → H1 g.pd ≠ none) (a : Ext g H Hv H1 Hv1) (b : Ext g H1 Hv1 H2 Hv2) : Ext g H Hv H2 Hv2 := by
  refine ⟨a.but.trans b.but, a.see.trans b.see, b.sub, fun c h1 h2 => b.hid c (a.hid c h1 h2) fun z => ?_, fun z => b.nt (a.nt z)⟩
  by_cases e : c = g.pd
  · subst e; exact np h2 z
  · cases q : H c with
    | none => exact h2 q
    | some o =>
      obtain ⟨_, w, _⟩ := a.but c o e q
      rw [w] at z; cases z
theorem Ext.at {g : G} {H Hv H' Hv' : Hp} (e : Ext g H Hv H' Hv') {p : Addr} {o : HO} (n : p ≠ g.pd) (h : H p = some o) (t : ∀ ps, o ≠ .tbl ps) : H' p = some o := by
  obtain ⟨o', w, k⟩ := e.but p o n h
  rw [w, k t]
structure Pn (g : G) (H : Hp) (n : Nat) : Prop where
  pen : PenAt g.kn.key H g.pd g.pc n
  tab : LamX.Tabs g.kn.tb H
theorem Pn.pd {g : G} {H : Hp} {n : Nat} (p : Pn g H n) : H g.pd ≠ none := by
  obtain ⟨_, _, _, h, _⟩ := p.pen
  rw [h]; simp
theorem Pn.pc {g : G} {H : Hp} {n : Nat} (p : Pn g H n) : H g.pc ≠ none := by
  obtain ⟨_, _, _, _, h, _⟩ := p.pen
  rw [h]; simp
theorem Pn.mono {g : G} {H H' : Hp} {n n' : Nat} (p : Pn g H n) (s : Same H H') (h : n ≤ n') : Pn g H' n' := ⟨p.pen.mono s h, p.tab.ext s⟩
def NoTab (o : HO) : Prop := (∀ ps, o ≠ .tbl ps) ∧ ∀ f, o ≠ .ext f
theorem tabs_but {T : List (Addr × Str)} {H H' : Hp} {p : Addr} {o : HO} (t : LamX.Tabs T H) (hp : H p = some o) (no : NoTab o) (sb : ∀ b u, b ≠ p → H b = some u → H' b = some u) : LamX.Tabs T H' := fun q hq => by
  obtain ⟨ps, h1, h2, h3⟩ := t q hq
  refine ⟨ps, sb _ _ (fun z => ?_) h1, h2, fun pos cv hc => ?_⟩
  · rw [z, hp] at h1
    exact no.1 _ (Option.some.inj h1)
  · obtain ⟨c, e1, e2⟩ := h3 pos cv hc
    refine ⟨c, e1, sb _ _ (fun z => ?_) e2⟩
    rw [z, hp] at e2
    exact no.2 _ (Option.some.inj e2)
theorem Pn.upd {g : G} {H : Hp} {n n' : Nat} {p : Addr} {o u : HO} (q : Pn g H n) (np : p ≠ g.pd) (nc : p ≠ g.pc) (h : n ≤ n') (hp : H p = some o) (no : NoTab o := by constructor <;> (intro _ z; cases z)) : Pn g (L2.upd H p u) n' :=
  ⟨q.pen.upd np nc h, tabs_but q.tab hp no fun b w nb e => by rw [upd_ne nb]; exact e⟩
theorem ext_new {g : G} {H Hv : Hp} {p : Addr} {o : HO} (s : Same Hv H) (h : H p = none) (no : ∀ ps, o ≠ .tbl ps := by intro _ z; cases z) : Ext g H Hv (upd H p o) (upd Hv p o) := by
  have hv : Hv p = none := by
    cases q : Hv p with
    | none => rfl
    | some u => rw [s _ _ q] at h; cases h
  refine ⟨.of (same_new h), same_new hv, fun b u e => ?_, fun a h1 h2 => ?_, fun z => z.upd no⟩
  · by_cases hb : b = p
    · subst hb; rw [upd_same] at e ⊢; exact e
    · rw [upd_ne hb] at e ⊢; exact s _ _ e
  · have : a ≠ p := fun z => h2 (by rw [z]; exact h)
    rw [upd_ne this]; exact h1
inductive Sl where
  | sh (d : D) | ow (ds : List D) | sf (a : Addr) (c : Str) (fs : List (Str × D)) | od (ks : List (Key × D))
abbrev DS := List (Option Sl)
def SlOk (g : G) (H0 H Hv : Hp) : Option V → Sl → Prop
  | v, .sh d => ∃ u, v = some u ∧ Dv g Hv u d
  | v, .ow ds => ∃ p vs, v = some (.ref p) ∧ H p = some (.lst vs) ∧ Hv p = none ∧ H0 p = none ∧ DvAll g Hv vs ds
  | v, .sf p c fs => ∃ C dx vs, v = some (.ref p) ∧ H p = some (.ins C dx vs) ∧ Hv p = none ∧ H0 p = none ∧ g.mg c = some (.ref C) ∧ DvF g Hv vs fs
  | v, .od ks => ∃ p kvs, v = some (.ref p) ∧ H p = some (.dK kvs) ∧ Hv p = none ∧ H0 p = none ∧ DvK g Hv kvs ks
def Sl.own : Sl → Bool
  | .sh _ => false
  | _ => true
def Hd (pd : Addr) (Hv : Hp) : Prop := Hv pd = none ∧ NoT Hv
structure Rel (g : G) (H0 Hv0 : Hp) (σ : L2.St) (H Hv : Hp) (δ : DS) (n : Nat) : Prop where
  ext : Ext g H0 Hv0 H Hv
  pen : Pn g H n
  pd0 : H0 g.pd ≠ none
  pc0 : H0 g.pc ≠ none
  npd : Hd g.pd Hv
  len : δ.length = σ.length
  sl : ∀ (i : Nat) (s : Sl), δ[i]? = some (some s) → SlOk g H0 H Hv ((σ[i]?).join) s
  dist : ∀ (i j : Nat) (s t : Sl) (p : Addr), δ[i]? = some (some s) → δ[j]? = some (some t) → s.own = true → t.own = true → σ[i]? = some (some (.ref p)) → σ[j]? = some (some (.ref p)) → i = j
theorem SlOk.step {g : G} {H0 H Hv H' Hv' : Hp} {v : Option V} {s : Sl} (h : SlOk g H0 H Hv v s) (e : Ext g H Hv H' Hv') (pd0 : H0 g.pd ≠ none) : SlOk g H0 H' Hv' v s := by
  cases s with
  | sh d => obtain ⟨u, e1, e2⟩ := h; exact ⟨u, e1, e2.mono e.see⟩
  | ow ds =>
    obtain ⟨p, vs, e1, e2, e3, e4, e5⟩ := h
    have np : p ≠ g.pd := fun z => pd0 (by rw [← z]; exact e4)
    exact ⟨p, vs, e1, e.at np e2 (fun _ z => by cases z), e.hid _ e3 (by rw [e2]; simp), e4, e5.mono e.see⟩
  | sf p c fs =>
    obtain ⟨C, dx, vs, e1, e2, e3, e4, e6, e5⟩ := h
    have np : p ≠ g.pd := fun z => pd0 (by rw [← z]; exact e4)
    exact ⟨C, dx, vs, e1, e.at np e2 (fun _ z => by cases z), e.hid _ e3 (by rw [e2]; simp), e4, e6, e5.mono e.see⟩
  | od ks =>
    obtain ⟨p, vs, e1, e2, e3, e4, e5⟩ := h
    have np : p ≠ g.pd := fun z => pd0 (by rw [← z]; exact e4)
    exact ⟨p, vs, e1, e.at np e2 (fun _ z => by cases z), e.hid _ e3 (by rw [e2]; simp), e4, e5.mono e.see⟩
theorem Rel.step {g : G} {H0 Hv0 : Hp} {σ : L2.St} {H Hv H' Hv' : Hp} {δ : DS} {n n' : Nat} (r : Rel g H0 Hv0 σ H Hv δ n) (e : Ext g H Hv H' Hv') (p : Pn g H' n') : Rel g H0 Hv0 σ H' Hv' δ n' :=
  ⟨r.ext.trans (fun _ => r.pen.pd) e, p, r.pd0, r.pc0, ⟨e.hid _ r.npd.1 r.pen.pd, e.nt r.npd.2⟩, r.len, fun i s h => (r.sl i s h).step e r.pd0, r.dist⟩
theorem Rel.sub {g : G} {H0 Hv0 : Hp} {σ : L2.St} {H Hv : Hp} {δ : DS} {n : Nat} (r : Rel g H0 Hv0 σ H Hv δ n) : Same Hv H := r.ext.sub
theorem Rel.set {g : G} {H0 Hv0 : Hp} {σ : L2.St} {H Hv : Hp} {δ : DS} {n i : Nat} {v : V} {d : D} (r : Rel g H0 Hv0 σ H Hv δ n) (h : Dv g Hv v d) : Rel g H0 Hv0 (σ.set i (some v)) H Hv (δ.set i (some (.sh d))) n := by
  refine ⟨r.ext, r.pen, r.pd0, r.pc0, r.npd, by rw [List.length_set, List.length_set, r.len], fun j s hj => ?_, fun j k s t p hj hk os ot sj sk => ?_⟩
  · by_cases e : i = j
    · subst e
      have hl : i < δ.length := by
        have := (List.getElem?_eq_some_iff.mp hj).1
        rwa [List.length_set] at this
      rw [List.getElem?_set_self hl] at hj
      cases hj
      rw [List.getElem?_set_self (by rw [← r.len]; exact hl)]
      exact ⟨v, rfl, h⟩
    · rw [List.getElem?_set_ne e] at hj ⊢
      exact r.sl j s hj
  · have nj : i ≠ j := fun e => by
      subst e
      have hl : i < δ.length := by
        have := (List.getElem?_eq_some_iff.mp hj).1
        rwa [List.length_set] at this
      rw [List.getElem?_set_self hl] at hj
      cases hj; cases os
    have nk : i ≠ k := fun e => by
      subst e
      have hl : i < δ.length := by
        have := (List.getElem?_eq_some_iff.mp hk).1
        rwa [List.length_set] at this
      rw [List.getElem?_set_self hl] at hk
      cases hk; cases ot
    rw [List.getElem?_set_ne nj] at hj sj
    rw [List.getElem?_set_ne nk] at hk sk
    exact r.dist j k s t p hj hk os ot sj sk
theorem Rel.wipe1 {g : G} {H0 Hv0 : Hp} {σ : L2.St} {H Hv : Hp} {δ : DS} {n i : Nat} {v : Option V} (r : Rel g H0 Hv0 σ H Hv δ n) : Rel g H0 Hv0 (σ.set i v) H Hv (δ.set i none) n := by
  have ne : ∀ {j : Nat} {s : Sl}, (δ.set i none)[j]? = some (some s) → i ≠ j := fun {j s} hj e => by
    subst e
    have hl : i < δ.length := by
      have := (List.getElem?_eq_some_iff.mp hj).1
      rwa [List.length_set] at this
    rw [List.getElem?_set_self hl] at hj
    cases hj
  refine ⟨r.ext, r.pen, r.pd0, r.pc0, r.npd, by rw [List.length_set, List.length_set, r.len], fun j s hj => ?_, fun j k s t p hj hk os ot sj sk => ?_⟩
  · have e := ne hj
    rw [List.getElem?_set_ne e] at hj ⊢
    exact r.sl j s hj
  · have nj := ne hj
    have nk := ne hk
    rw [List.getElem?_set_ne nj] at hj sj
    rw [List.getElem?_set_ne nk] at hk sk
    exact r.dist j k s t p hj hk os ot sj sk
theorem Rel.setOw {g : G} {H0 Hv0 : Hp} {σ : L2.St} {H Hv : Hp} {δ : DS} {n i : Nat} {p : Addr} {vs : List V} {ds : List D} (r : Rel g H0 Hv0 σ H Hv δ n) (hp : H p = some (.lst vs)) (hv : Hv p = none) (h0 : H0 p = none) (h : DvAll g Hv vs ds)
    (fr : ∀ (j : Nat) (s : Sl), δ[j]? = some (some s) → s.own = true → σ[j]? ≠ some (some (.ref p))) : Rel g H0 Hv0 (σ.set i (some (.ref p))) H Hv (δ.set i (some (.ow ds))) n := by
  refine ⟨r.ext, r.pen, r.pd0, r.pc0, r.npd, by rw [List.length_set, List.length_set, r.len], fun j s hj => ?_, fun j k s t q hj hk os ot sj sk => ?_⟩
  · by_cases e : i = j
    · subst e
      have hl : i < δ.length := by
        have := (List.getElem?_eq_some_iff.mp hj).1
        rwa [List.length_set] at this
      rw [List.getElem?_set_self hl] at hj
      cases hj
      rw [List.getElem?_set_self (by rw [← r.len]; exact hl)]
      exact ⟨p, vs, rfl, hp, hv, h0, h⟩
    · rw [List.getElem?_set_ne e] at hj ⊢
      exact r.sl j s hj
  · by_cases ej : i = j
    · by_cases ek : i = k
      · rw [← ej, ← ek]
      · subst ej
        rw [List.getElem?_set_ne ek] at hk sk
        have hl : i < σ.length := by
          have := (List.getElem?_eq_some_iff.mp sj).1
          rwa [List.length_set] at this
        rw [List.getElem?_set_self hl] at sj
        cases sj
        exact absurd sk (fr k t hk ot)
    · rw [List.getElem?_set_ne ej] at hj sj
      by_cases ek : i = k
      · subst ek
        have hl : i < σ.length := by
          have := (List.getElem?_eq_some_iff.mp sk).1
          rwa [List.length_set] at this
        rw [List.getElem?_set_self hl] at sk
        cases sk
        exact absurd sj (fr j s hj os)
      · rw [List.getElem?_set_ne ek] at hk sk
        exact r.dist j k s t q hj hk os ot sj sk
theorem Rel.setOd {g : G} {H0 Hv0 : Hp} {σ : L2.St} {H Hv : Hp} {δ : DS} {n i : Nat} {p : Addr} {vs : List (Key × V)} {ds : List (Key × D)} (r : Rel g H0 Hv0 σ H Hv δ n) (hp : H p = some (.dK vs)) (hv : Hv p = none) (h0 : H0 p = none) (h : DvK g Hv vs ds)
    (fr : ∀ (j : Nat) (s : Sl), δ[j]? = some (some s) → s.own = true → σ[j]? ≠ some (some (.ref p))) : Rel g H0 Hv0 (σ.set i (some (.ref p))) H Hv (δ.set i (some (.od ds))) n := by
  refine ⟨r.ext, r.pen, r.pd0, r.pc0, r.npd, by rw [List.length_set, List.length_set, r.len], fun j s hj => ?_, fun j k s t q hj hk os ot sj sk => ?_⟩
  · by_cases e : i = j
    · subst e
      have hl : i < δ.length := by
        have := (List.getElem?_eq_some_iff.mp hj).1
        rwa [List.length_set] at this
      rw [List.getElem?_set_self hl] at hj
      cases hj
      rw [List.getElem?_set_self (by rw [← r.len]; exact hl)]
      exact ⟨p, vs, rfl, hp, hv, h0, h⟩
    · rw [List.getElem?_set_ne e] at hj ⊢
      exact r.sl j s hj
  · by_cases ej : i = j
    · by_cases ek : i = k
      · rw [← ej, ← ek]
      · subst ej
        rw [List.getElem?_set_ne ek] at hk sk
        have hl : i < σ.length := by
          have := (List.getElem?_eq_some_iff.mp sj).1
          rwa [List.length_set] at this
        rw [List.getElem?_set_self hl] at sj
        cases sj
        exact absurd sk (fr k t hk ot)
    · rw [List.getElem?_set_ne ej] at hj sj
      by_cases ek : i = k
      · subst ek
        have hl : i < σ.length := by
          have := (List.getElem?_eq_some_iff.mp sk).1
          rwa [List.length_set] at this
        rw [List.getElem?_set_self hl] at sk
        cases sk
        exact absurd sj (fr j s hj os)
      · rw [List.getElem?_set_ne ek] at hk sk
        exact r.dist j k s t q hj hk os ot sj sk
theorem Rel.mut {g : G} {H0 Hv0 : Hp} {σ : L2.St} {H Hv : Hp} {δ : DS} {n i : Nat} {p : Addr} {ds es : List D} {ws : List V} (r : Rel g H0 Hv0 σ H Hv δ n) (hi : δ[i]? = some (some (.ow ds))) (hs : σ[i]? = some (some (.ref p))) (h : DvAll g Hv ws es) :
    Rel g H0 Hv0 σ (upd H p (.lst ws)) Hv (δ.set i (some (.ow es))) n := by
  obtain ⟨p', vs, e1, e2, e3, e4, e5⟩ := r.sl i _ hi
  rw [hs] at e1
  cases e1
  have np : p ≠ g.pd := fun z => r.pd0 (by rw [← z]; exact e4)
  have nc : p ≠ g.pc := fun z => r.pc0 (by rw [← z]; exact e4)
  have hl : i < δ.length := (List.getElem?_eq_some_iff.mp hi).1
  refine ⟨⟨fun b o hb e => ?_, r.ext.see, fun b o e => ?_, r.ext.hid, r.ext.nt⟩, r.pen.upd np nc (Nat.le_refl _) e2, r.pd0, r.pc0, r.npd, by rw [List.length_set, r.len], fun j s hj => ?_, fun j k s t q hj hk os ot sj sk => ?_⟩
  · have : b ≠ p := fun z => by rw [z, e4] at e; cases e
    obtain ⟨o', w1, w2⟩ := r.ext.but b o hb e
    exact ⟨o', (by rw [upd_ne this]; exact w1), w2⟩
  · have : b ≠ p := fun z => by rw [z, e3] at e; cases e
    rw [upd_ne this]; exact r.sub b o e
  · by_cases e : i = j
    · subst e
      rw [List.getElem?_set_self hl] at hj
      cases hj
      rw [hs]
      exact ⟨p, ws, rfl, upd_same, e3, e4, h⟩
    · rw [List.getElem?_set_ne e] at hj
      have old := r.sl j s hj
      cases s with
      | sh d => exact old
      | ow ds' =>
        obtain ⟨p2, vs2, f1, f2, f3, f4, f5⟩ := old
        have : p2 ≠ p := fun z => by
          subst z
          refine e (r.dist i j _ _ p2 hi hj rfl rfl hs ?_)
          cases q : σ[j]? with
          | none => rw [q] at f1; cases f1
          | some o => rw [q] at f1; exact congrArg some f1
        exact ⟨p2, vs2, f1, by rw [upd_ne this]; exact f2, f3, f4, f5⟩
      | sf p2 c fs =>
        obtain ⟨C, dx, vs2, f1, f2, f3, f4, f5⟩ := old
        have : p2 ≠ p := fun z => by rw [z, e2] at f2; cases f2
        exact ⟨C, dx, vs2, f1, by rw [upd_ne this]; exact f2, f3, f4, f5⟩
      | od ks' =>
        obtain ⟨p2, vs2, f1, f2, f3, f4, f5⟩ := old
        have : p2 ≠ p := fun z => by rw [z, e2] at f2; cases f2
        exact ⟨p2, vs2, f1, by rw [upd_ne this]; exact f2, f3, f4, f5⟩
  · have gen : ∀ {j : Nat} {s : Sl}, (δ.set i (some (.ow es)))[j]? = some (some s) → s.own = true → ∃ s', δ[j]? = some (some s') ∧ s'.own = true := fun {j s} hj os => by
      by_cases e : i = j
      · subst e; exact ⟨_, hi, rfl⟩
      · rw [List.getElem?_set_ne e] at hj; exact ⟨s, hj, os⟩
    obtain ⟨s', a1, a2⟩ := gen hj os
    obtain ⟨t', b1, b2⟩ := gen hk ot
    exact r.dist j k s' t' q a1 b1 a2 b2 sj sk
theorem Rel.unown2 {g : G} {H0 Hv0 : Hp} {σ : L2.St} {H Hv : Hp} {δ : DS} {n i : Nat} {ds : List D} (r : Rel g H0 Hv0 σ H Hv δ n) (hi : δ[i]? = some (some (.ow ds))) : ∃ p vs, Hv p = none ∧ H p = some (.lst vs) ∧ Same Hv (upd Hv p (.lst vs)) ∧ Rel g H0 Hv0 σ H (upd Hv p (.lst vs)) (δ.set i (some (.sh (.lst ds)))) n := by
  obtain ⟨p, vs, e1, e2, e3, e4, e5⟩ := r.sl i _ hi
  have hs : σ[i]? = some (some (.ref p)) := by
    cases q : σ[i]? with
    | none => rw [q] at e1; cases e1
    | some o => rw [q] at e1; exact congrArg some e1
  have hl : i < δ.length := (List.getElem?_eq_some_iff.mp hi).1
  have sv : Same Hv (upd Hv p (.lst vs)) := same_new e3
  refine ⟨p, vs, e3, e2, sv, ⟨r.ext.but, r.ext.see.trans sv, fun b o e => ?_, fun a h1 h2 => ?_, fun z => (r.ext.nt z).upd (fun _ w => by cases w)⟩, r.pen, r.pd0, r.pc0, ⟨by rw [upd_ne (fun z => r.pd0 (by rw [z]; exact e4))]; exact r.npd.1, r.npd.2.upd (fun _ w => by cases w)⟩, by rw [List.length_set, r.len], fun j s hj => ?_, fun j k s t q hj hk os ot sj sk => ?_⟩
  · by_cases hb : b = p
    · subst hb; rw [upd_same] at e; cases e; exact e2
    · rw [upd_ne hb] at e; exact r.sub b o e
  · have : a ≠ p := fun z => h2 (by rw [z]; exact e4)
    rw [upd_ne this]; exact r.ext.hid a h1 h2
  · by_cases e : i = j
    · subst e
      rw [List.getElem?_set_self hl] at hj
      cases hj
      rw [hs]
      exact ⟨_, rfl, .lst upd_same (e5.mono sv)⟩
    · rw [List.getElem?_set_ne e] at hj
      have old := r.sl j s hj
      cases s with
      | sh d => obtain ⟨u, f1, f2⟩ := old; exact ⟨u, f1, f2.mono sv⟩
      | ow ds' =>
        obtain ⟨p2, vs2, f1, f2, f3, f4, f5⟩ := old
        have : p2 ≠ p := fun z => by
          subst z
          refine e (r.dist i j _ _ p2 hi hj rfl rfl hs ?_)
          cases q : σ[j]? with
          | none => rw [q] at f1; cases f1
          | some o => rw [q] at f1; exact congrArg some f1
        exact ⟨p2, vs2, f1, f2, by rw [upd_ne this]; exact f3, f4, f5.mono sv⟩
      | sf p2 c fs =>
        obtain ⟨C, dx, vs2, f1, f2, f3, f4, f6, f5⟩ := old
        have : p2 ≠ p := fun z => by rw [z, e2] at f2; cases f2
        exact ⟨C, dx, vs2, f1, f2, by rw [upd_ne this]; exact f3, f4, f6, f5.mono sv⟩
      | od ks' =>
        obtain ⟨p2, vs2, f1, f2, f3, f4, f5⟩ := old
        have : p2 ≠ p := fun z => by rw [z, e2] at f2; cases f2
        exact ⟨p2, vs2, f1, f2, by rw [upd_ne this]; exact f3, f4, f5.mono sv⟩
  · have ne : ∀ {j : Nat} {s : Sl}, (δ.set i (some (.sh (.lst ds))))[j]? = some (some s) → s.own = true → δ[j]? = some (some s) := fun {j s} hj os => by
      by_cases e : i = j
      · subst e
        rw [List.getElem?_set_self hl] at hj
        cases hj; cases os
      · rw [List.getElem?_set_ne e] at hj; exact hj
    exact r.dist j k s t q (ne hj os) (ne hk ot) os ot sj sk
theorem Rel.unownD {g : G} {H0 Hv0 : Hp} {σ : L2.St} {H Hv : Hp} {δ : DS} {n i : Nat} {ds : List (Key × D)} (r : Rel g H0 Hv0 σ H Hv δ n) (hi : δ[i]? = some (some (.od ds))) : ∃ p vs, H p = some (.dK vs) ∧ ∀ o : Obj, Same Hv (upd Hv p (.frz o (.dK vs))) ∧ Rel g H0 Hv0 σ (upd H p (.frz o (.dK vs))) (upd Hv p (.frz o (.dK vs))) (δ.set i (some (.sh (.dct ds)))) n := by
  obtain ⟨p, vs, e1, e2, e3, e4, e5⟩ := r.sl i _ hi
  have hs : σ[i]? = some (some (.ref p)) := by
    cases q : σ[i]? with
    | none => rw [q] at e1; cases e1
    | some o => rw [q] at e1; exact congrArg some e1
  have hl : i < δ.length := (List.getElem?_eq_some_iff.mp hi).1
  have np : p ≠ g.pd := fun z => r.pd0 (by rw [← z]; exact e4)
  have nc : p ≠ g.pc := fun z => r.pc0 (by rw [← z]; exact e4)
  refine ⟨p, vs, e2, fun o => ?_⟩
  have sv : Same Hv (upd Hv p (.frz o (.dK vs))) := same_new e3
  refine ⟨sv, ⟨fun b u hb e => ?_, r.ext.see.trans sv, fun b o e => ?_, fun a h1 h2 => ?_, fun z => (r.ext.nt z).upd (fun _ w => by cases w)⟩, r.pen.upd np nc (Nat.le_refl _) e2, r.pd0, r.pc0, ⟨by rw [upd_ne (fun z => r.pd0 (by rw [z]; exact e4))]; exact r.npd.1, r.npd.2.upd (fun _ w => by cases w)⟩, by rw [List.length_set, r.len], fun j s hj => ?_, fun j k s t q hj hk os ot sj sk => ?_⟩
  · have hb2 : b ≠ p := fun z => by rw [z, e4] at e; cases e
    obtain ⟨o', w1, w2⟩ := r.ext.but b u hb e
    exact ⟨o', (by rw [upd_ne hb2]; exact w1), w2⟩
  · by_cases hb : b = p
    · subst hb; rw [upd_same] at e ⊢; exact e
    · rw [upd_ne hb] at e ⊢; exact r.sub b _ e
  · have : a ≠ p := fun z => h2 (by rw [z]; exact e4)
    rw [upd_ne this]; exact r.ext.hid a h1 h2
  · by_cases e : i = j
    · subst e
      rw [List.getElem?_set_self hl] at hj
      cases hj
      rw [hs]
      exact ⟨_, rfl, .dct upd_same (e5.mono sv)⟩
    · rw [List.getElem?_set_ne e] at hj
      have old := r.sl j s hj
      cases s with
      | sh d => obtain ⟨u, f1, f2⟩ := old; exact ⟨u, f1, f2.mono sv⟩
      | ow ds' =>
        obtain ⟨p2, vs2, f1, f2, f3, f4, f5⟩ := old
        have : p2 ≠ p := fun z => by rw [z, e2] at f2; cases f2
        exact ⟨p2, vs2, f1, by rw [upd_ne this]; exact f2, by rw [upd_ne this]; exact f3, f4, f5.mono sv⟩
      | sf p2 c fs =>
        obtain ⟨C, dx, vs2, f1, f2, f3, f4, f6, f5⟩ := old
        have : p2 ≠ p := fun z => by rw [z, e2] at f2; cases f2
        exact ⟨C, dx, vs2, f1, by rw [upd_ne this]; exact f2, by rw [upd_ne this]; exact f3, f4, f6, f5.mono sv⟩
      | od ks' =>
        obtain ⟨p2, vs2, f1, f2, f3, f4, f5⟩ := old
        have : p2 ≠ p := fun z => by
          subst z
          refine e (r.dist i j _ _ p2 hi hj rfl rfl hs ?_)
          cases q : σ[j]? with
          | none => rw [q] at f1; cases f1
          | some o => rw [q] at f1; exact congrArg some f1
        exact ⟨p2, vs2, f1, by rw [upd_ne this]; exact f2, by rw [upd_ne this]; exact f3, f4, f5.mono sv⟩
  · have ne : ∀ {j : Nat} {s : Sl}, (δ.set i (some (.sh (.dct ds))))[j]? = some (some s) → s.own = true → δ[j]? = some (some s) := fun {j s} hj os => by
      by_cases e : i = j
      · subst e
        rw [List.getElem?_set_self hl] at hj
        cases hj; cases os
      · rw [List.getElem?_set_ne e] at hj; exact hj
    exact r.dist j k s t q (ne hj os) (ne hk ot) os ot sj sk
theorem Rel.unown {g : G} {H0 Hv0 : Hp} {σ : L2.St} {H Hv : Hp} {δ : DS} {n i : Nat} {ds : List D} (r : Rel g H0 Hv0 σ H Hv δ n) (hi : δ[i]? = some (some (.ow ds))) : ∃ Hv', Same Hv Hv' ∧ Rel g H0 Hv0 σ H Hv' (δ.set i (some (.sh (.lst ds)))) n :=
  let ⟨_, _, _, _, s, r'⟩ := r.unown2 hi
  ⟨_, s, r'⟩
abbrev XD := Str → List (Str × D) → Nat → Prop
abbrev M (α : Type) := Nat → (α → Nat → Prop) → XD → Prop
abbrev DE := DS → M D
abbrev DA := DS → M (List D)
def dVar (i : Nat) : DE := fun δ n P _ => ∃ d, δ[i]? = some (some (.sh d)) ∧ P d n
def dC (d : D) : DE := fun _ n P _ => P d n
def dNil : DA := fun _ n P _ => P [] n
def dCons (a : DE) (r : DA) : DA := fun δ n P E => a δ n (fun x n1 => r δ n1 (fun xs n2 => P (x :: xs) n2) E) E
def dApp (f : List D → Option D) (a : DA) : DE := fun δ n P E => a δ n (fun xs n1 => ∃ d, f xs = some d ∧ P d n1) E
def dCall (U : List D → M D) (a : DA) : DE := fun δ n P E => a δ n (fun xs n1 => U xs n1 P E) E
def dAnd (a b : DE) : DE := fun δ n P E => a δ n (fun x n1 => ∃ c, x = .bl c ∧ if c = true then b δ n1 P E else P (.bl false) n1) E
def dOr (a b : DE) : DE := fun δ n P E => a δ n (fun x n1 => ∃ c, x = .bl c ∧ if c = true then P (.bl true) n1 else b δ n1 P E) E
def dIf (t a b : DE) : DE := fun δ n P E => t δ n (fun x n1 => ∃ c, x = .bl c ∧ if c = true then a δ n1 P E else b δ n1 P E) E
def dChain (f f' : List D → Option D) (a b c : DE) : DE := fun δ n P E => a δ n (fun x n1 => b δ n1 (fun y n2 => ∃ k, f [x, y] = some (.bl k) ∧ if k = true then c δ n2 (fun z n3 => ∃ d, f' [y, z] = some d ∧ P d n3) E else P (.bl false) n2) E) E
structure Zx where
  g : G
  H0 : Hp
  Hv0 : Hp
  W : WX
def ExcOk (g : G) (Hv : Hp) (c : Str) (fs : List (Str × D)) (cls : Value) (dd : Option Addr) : Prop := ∃ (C d : Addr) (gs : List (Str × V)), cls = .ref C ∧ g.mg c = some (.ref C) ∧ dd = some d ∧ Hv d = some (.xd gs) ∧ DvF g Hv gs fs
def QOk (g : G) (H Hv : Hp) (P : D → Nat → Prop) (Q : VK) : Prop := ∀ d v H' Hv' n', P d n' → Ext g H Hv H' Hv' → Pn g H' n' → Dv g Hv' v d → Q v H'
def AOk (g : G) (H Hv : Hp) (P : List D → Nat → Prop) (Q : List V → Hp → Prop) : Prop := ∀ d v H' Hv' n', P d n' → Ext g H Hv H' Hv' → Pn g H' n' → DvAll g Hv' v d → Q v H'
def EOk (g : G) (H Hv : Hp) (E : XD) (W : XK) : Prop := ∀ c fs n' cls dd H' Hv', E c fs n' → Ext g H Hv H' Hv' → Pn g H' n' → ExcOk g Hv' c fs cls dd → W cls dd H'
theorem EOk.step {g : G} {H Hv H1 Hv1 : Hp} {E : XD} {W : XK} {n : Nat} (h : EOk g H Hv E W) (e : Ext g H Hv H1 Hv1) (p : Pn g H1 n) : EOk g H1 Hv1 E W := fun c fs n' cls dd H' Hv' he e' p' x => h c fs n' cls dd H' Hv' he (e.trans (fun _ => p.pd) e') p' x
theorem QOk.step {g : G} {H Hv H1 Hv1 : Hp} {P : D → Nat → Prop} {Q : VK} {n : Nat} (h : QOk g H Hv P Q) (e : Ext g H Hv H1 Hv1) (p : Pn g H1 n) : QOk g H1 Hv1 P Q := fun d v H' Hv' n' hp e' p' x => h d v H' Hv' n' hp (e.trans (fun _ => p.pd) e') p' x
def lift (Z : Zx) (de : DE) : TE := fun σ H Q => ∃ δ Hv n P E, Rel Z.g Z.H0 Z.Hv0 σ H Hv δ n ∧ de δ n P E ∧ QOk Z.g H Hv P Q ∧ EOk Z.g H Hv E (fun c d H' => Z.W c d σ H')
def liftA (Z : Zx) (da : DA) : TA := fun σ H Q => ∃ δ Hv n P E, Rel Z.g Z.H0 Z.Hv0 σ H Hv δ n ∧ da δ n P E ∧ AOk Z.g H Hv P Q ∧ EOk Z.g H Hv E (fun c d H' => Z.W c d σ H')
def liftT (Z : Zx) (de : DE) : TT := fun σ H Q => lift Z de σ H fun x H1 => ∃ k, x = .bl k ∧ Q k H1
section
variable {X : Cx} {Z : Zx} {e a b c : Expr} {es : List Expr} {da db dc de : DE} {ra : DA} {pos : Pos}
theorem up {t t' : TE} (h : PE X e t) (k : ∀ σ H Q, t' σ H Q → t σ H Q) : PE X e t' := ⟨fun pins s σ H Q I q => h.run pins s σ H Q I (k σ H Q q)⟩
theorem upA {t t' : TA} (h : PA X es t) (k : ∀ σ H Q, t' σ H Q → t σ H Q) : PA X es t' := ⟨fun pos pins s σ H Q I q => h.run pos pins s σ H Q I (k σ H Q q)⟩
theorem upT {t t' : TT} (h : PT X e t) (k : ∀ σ H Q, t' σ H Q → t σ H Q) : PT X e t' := ⟨fun pins s σ H Q I q => h.run pins s σ H Q I (k σ H Q q)⟩
theorem slot_at {g : G} {H0 Hv0 : Hp} {σ : L2.St} {H Hv : Hp} {δ : DS} {n i : Nat} {d : D} (r : Rel g H0 Hv0 σ H Hv δ n) (h : δ[i]? = some (some (.sh d))) : ∃ v, σ[i]? = some (some v) ∧ Dv g Hv v d := by
  obtain ⟨u, e1, e2⟩ := r.sl i _ h
  cases q : σ[i]? with
  | none => rw [q] at e1; cases e1
  | some o => rw [q] at e1; exact ⟨u, congrArg some e1, e2⟩
theorem dv (i : Nat) {x : Str} (hN : X.N[i]? = some x := by rfl) (hv : Vis X.env.scope x := by first | exact Or.inl rfl | exact Or.inr (Or.inl rfl) | exact Or.inr (Or.inr rfl)) (hd : (x == ("__debug__" : Str)) = false := by decide)
    (hcd : (x == ("__classdict__" : Str)) = false := by decide) : PE X (.Name x pos) (lift Z (dVar i)) := up (pv i hN hv hd hcd) fun σ H Q h => by
  obtain ⟨δ, Hv, n, P, E, r, ⟨d, h1, h2⟩, q, _⟩ := h
  obtain ⟨v, e1, e2⟩ := slot_at r h1
  exact ⟨v, e1, q d v H Hv n h2 (.refl r.sub) r.pen e2⟩
theorem d_c {v : V} {d : D} (h : PE X e (tC v)) (k : ∀ Hv, Dv Z.g Hv v d) : PE X e (lift Z (dC d)) := up h fun σ H Q ⟨δ, Hv, n, P, E, r, h1, q, _⟩ => q d v H Hv n h1 (.refl r.sub) r.pen (k Hv)
theorem d_int {i : Int} {kk : Nat} : PE X (.Constant (.int i) kk pos) (lift Z (dC (.int i))) := d_c pe_int fun _ => .int i
theorem d_bl {x : Bool} {kk : Nat} : PE X (.Constant (.bool x) kk pos) (lift Z (dC (.bl x))) := d_c pe_bl fun _ => .bl x
theorem d_non {kk : Nat} : PE X (.Constant .none kk pos) (lift Z (dC .non)) := d_c pe_non fun _ => .non
theorem da_nil : PA X [] (liftA Z dNil) := upA pa_nil fun σ H Q ⟨δ, Hv, n, P, E, r, h1, q, _⟩ => q [] [] H Hv n h1 (.refl r.sub) r.pen .nil
theorem da_cons (ha : PE X e (lift Z de)) (hr : PA X es (liftA Z ra)) (hs : starEach (e :: es) X.env = (false, eval e X.env) :: starEach es X.env := by rfl) : PA X (e :: es) (liftA Z (dCons de ra)) :=
  upA (pa_cons ha hr hs) fun σ H Q ⟨δ, Hv, n, P, E, r, h1, q, x⟩ => ⟨δ, Hv, n, _, E, r, h1, fun d v H' Hv' n' h2 e p k =>
    ⟨δ, Hv', n', _, E, r.step e p, h2, fun ds vs H2 Hv2 n2 h3 e2 p2 k2 => q (d :: ds) (v :: vs) H2 Hv2 n2 h3 (e.trans (fun _ => p.pd) e2) p2 (.cons (k.mono e2.see) k2), x.step e p⟩, x⟩
def Gives (g : G) (H Hv : Hp) (d : D) (Q : VK) : Prop := ∀ v H' Hv', Ext g H Hv H' Hv' → Same H H' → Dv g Hv' v d → Q v H'
theorem Gives.here {g : G} {H Hv : Hp} {d : D} {Q : VK} {v : V} (h : Gives g H Hv d Q) (s : Same Hv H) (k : Dv g Hv v d) : Q v H := h v H Hv (.refl s) (.refl _) k
theorem Gives.lst {g : G} {H Hv : Hp} {ds : List D} {vs : List V} {Q : VK} {p : Addr} (h : Gives g H Hv (.lst ds) Q) (s : Same Hv H) (hp : H p = none) (k : DvAll g Hv vs ds) : Q (.ref p) (upd H p (.lst vs)) :=
  h _ _ _ (ext_new s hp) (same_new hp) (.lst upd_same (k.mono (ext_new (g := g) s hp).see))
theorem Gives.tup {g : G} {H Hv : Hp} {ds : List D} {vs : List V} {Q : VK} {p : Addr} (h : Gives g H Hv (.tup ds) Q) (s : Same Hv H) (hp : H p = none) (k : DvAll g Hv vs ds) : Q (.ref p) (upd H p (.tup vs)) :=
  h _ _ _ (ext_new s hp) (same_new hp) (.tup (.inl (.inl upd_same)) (k.mono (ext_new (g := g) s hp).see))
theorem Gives.dct {g : G} {H Hv : Hp} {ks : List (Key × D)} {kvs : List (Key × V)} {Q : VK} {p : Addr} {o : Obj} (h : Gives g H Hv (.dct ks) Q) (s : Same Hv H) (hp : H p = none) (k : DvK g Hv kvs ks) : Q (.ref p) (upd H p (.frz o (.dK kvs))) :=
  h _ _ _ (ext_new s hp) (same_new hp) (.dct upd_same (k.mono (ext_new (g := g) s hp).see))
theorem gives_of {g : G} {H Hv : Hp} {P : D → Nat → Prop} {Q : VK} {d : D} {n : Nat} (q : QOk g H Hv P Q) (p : Pn g H n) (h : P d n) : Gives g H Hv d Q := fun v H' Hv' e s k => q d v H' Hv' n h e (p.mono s (Nat.le_refl _)) k
def Op1 (g : G) (f : List D → Option D) (r : V → Hp → VK → Prop) : Prop := ∀ {H Hv : Hp} {x : V} {dx d : D} {Q : VK}, Same Hv H → Dv g Hv x dx → f [dx] = some d → Gives g H Hv d Q → r x H Q
def Op2 (g : G) (f : List D → Option D) (r : R2) : Prop := ∀ {H Hv : Hp} {x y : V} {dx dy d : D} {Q : VK}, Same Hv H → Dv g Hv x dx → Dv g Hv y dy → f [dx, dy] = some d → Gives g H Hv d Q → r x y H Q
def OpN (g : G) (f : List D → Option D) (r : List V → Hp → VK → Prop) : Prop := ∀ {H Hv : Hp} {xs : List V} {ds : List D} {d : D} {Q : VK}, Same Hv H → DvAll g Hv xs ds → f ds = some d → Gives g H Hv d Q → r xs H Q
theorem lift_op {f : List D → Option D} {r : R2} (o : Op2 Z.g f r) : ∀ σ H Q, lift Z (dApp f (dCons da (dCons db dNil))) σ H Q → tOp r (lift Z da) (lift Z db) σ H Q := fun σ H Q ⟨δ, Hv, n, P, E, rr, h1, q, x⟩ =>
  ⟨δ, Hv, n, _, E, rr, h1, fun d v H' Hv' n' h2 e p k => ⟨δ, Hv', n', _, E, rr.step e p, h2, fun d2 v2 H2 Hv2 n2 h3 e2 p2 k2 => by
    obtain ⟨z, hz, h3⟩ := h3
    exact o e2.sub (k.mono e2.see) k2 hz (gives_of (q.step (e.trans (fun _ => p.pd) e2) p2) p2 h3), x.step e p⟩, x⟩
theorem lift_un {f : List D → Option D} {r : V → Hp → VK → Prop} (o : Op1 Z.g f r) : ∀ σ H Q, lift Z (dApp f (dCons da dNil)) σ H Q → tUn r (lift Z da) σ H Q := fun σ H Q ⟨δ, Hv, n, P, E, rr, h1, q, x⟩ =>
  ⟨δ, Hv, n, _, E, rr, h1, fun d v H' Hv' n' h2 e p k => by
    obtain ⟨z, hz, h3⟩ := h2
    exact o e.sub k hz (gives_of (q.step e p) p h3), x⟩
theorem lift_cb {f : List D → Option D} {r : List V → Hp → VK → Prop} (o : OpN Z.g f r) : ∀ σ H Q, lift Z (dApp f ra) σ H Q → tCB r (liftA Z ra) σ H Q := fun σ H Q ⟨δ, Hv, n, P, E, rr, h1, q, x⟩ =>
  ⟨δ, Hv, n, _, E, rr, h1, fun d v H' Hv' n' h2 e p k => by
    obtain ⟨z, hz, h3⟩ := h2
    exact o e.sub k hz (gives_of (q.step e p) p h3), x⟩
def DOp (X : Cx) (g : G) (op : Value → Value → Sem Value) (f : List D → Option D) : Prop := ∃ r, OpR X op r ∧ Op2 g f r
def DIx (X : Cx) (g : G) (f : List D → Option D) : Prop := ∃ r, IxR X r ∧ Op2 g f r
def DUn (X : Cx) (g : G) (op : Value → Sem Value) (f : List D → Option D) : Prop := ∃ r, UnR X op r ∧ Op1 g f r
def DCl (X : Cx) (g : G) (v : Value) (f : List D → Option D) : Prop := ∃ r, CallR X v r ∧ OpN g f r
theorem d_bin {op : Operator} {f : List D → Option D} (o : DOp X Z.g (binaryOp op) f) (ha : PE X a (lift Z da)) (hb : PE X b (lift Z db)) : PE X (.BinOp a op b pos) (lift Z (dApp f (dCons da (dCons db dNil)))) := by
  obtain ⟨r, h1, h2⟩ := o
  exact up (pe_op h1 ha hb) (lift_op h2)
theorem d_cmp {op : CmpOp} {f : List D → Option D} (o : DOp X Z.g (compareOp op) f) (ha : PE X a (lift Z da)) (hb : PE X b (lift Z db)) (hm : behindInMarks op b = false) : PE X (.Compare a [op] [b] pos) (lift Z (dApp f (dCons da (dCons db dNil)))) := by
  obtain ⟨r, h1, h2⟩ := o
  exact up (pe_cmpR h1 ha hb hm) (lift_op h2)
theorem d_ix {f : List D → Option D} (o : DIx X Z.g f) (ha : PE X a (lift Z da)) (hb : PE X b (lift Z db)) (hs : PlainIx b) : PE X (.Subscript a b pos) (lift Z (dApp f (dCons da (dCons db dNil)))) := by
  obtain ⟨r, h1, h2⟩ := o
  exact up (pe_ix h1 ha hb hs) (lift_op h2)
theorem d_un {op : UnaryOp} {f : List D → Option D} (o : DUn X Z.g (unaryOp op) f) (ha : PE X a (lift Z da)) : PE X (.UnaryOp op a pos) (lift Z (dApp f (dCons da dNil))) := by
  obtain ⟨r, h1, h2⟩ := o
  exact up (pe_un h1 ha) (lift_un h2)
theorem d_callB {f : List D → Option D} {x : Str} {id : String} {p : Pos} (o : DCl X Z.g (.builtin id) f) (hg : Gl X x) (hm : X.mg x = none) (hv : bootBuiltins x = some (.builtin id)) (ha : PA X (e :: es) (liftA Z ra)) (hn : x ≠ "__name__" := by decide) (hdb : (x == ("__debug__" : Str)) = false := by decide)
    (he : starEach (e :: es) X.env = (false, eval e X.env) :: starEach es X.env := by rfl) (hpl : (backTo pos (starEach es X.env)).any (·.1) = false := by rfl) : PE X (.Call (.Name x p) (e :: es) [] pos) (lift Z (dApp f ra)) := by
  obtain ⟨r, h1, h2⟩ := o
  exact up (pe_callB h1 hg hm hv ha hn hdb he hpl) (lift_cb h2)
theorem d_callTy {f : List D → Option D} {x : Str} {T : String} {p : Pos} (o : DCl X Z.g (.type T) f) (hg : Gl X x) (hm : X.mg x = none) (hv : bootBuiltins x = some (.type T)) (ha : PA X (e :: es) (liftA Z ra)) (hn : x ≠ "__name__" := by decide) (hdb : (x == ("__debug__" : Str)) = false := by decide)
    (he : starEach (e :: es) X.env = (false, eval e X.env) :: starEach es X.env := by rfl) (hpl : (backTo pos (starEach es X.env)).any (·.1) = false := by rfl) : PE X (.Call (.Name x p) (e :: es) [] pos) (lift Z (dApp f ra)) := by
  obtain ⟨r, h1, h2⟩ := o
  exact up (pe_callTy h1 hg hm hv ha hn hdb he hpl) (lift_cb h2)
def gTupl : List D → Option D := fun ds => if ds.length ≤ sizeLine then some (.tup ds) else none
def gList : List D → Option D := fun ds => if ds.length ≤ sizeLine then some (.lst ds) else none
theorem d_tup {x1} (h : PA X es (liftA Z ra)) : PE X (.Tuple es x1 pos) (lift Z (dApp gTupl ra)) := up (pe_tup h) fun σ H Q ⟨δ, Hv, n, P, E, rr, h1, q, x⟩ =>
  ⟨δ, Hv, n, _, E, rr, h1, (fun d v H' Hv' n' h2 e p k => by
    obtain ⟨z, hz, h3⟩ := h2
    unfold gTupl at hz
    split at hz
    · rename_i hl
      cases hz
      exact ⟨by rw [k.len]; exact hl, fun a ha => (gives_of (q.step e p) p h3).tup e.sub ha k⟩
    · exact nomatch hz), x⟩
theorem d_lst (h : PA X es (liftA Z ra)) : PE X (.List es pos) (lift Z (dApp gList ra)) := up (pe_lst h) fun σ H Q ⟨δ, Hv, n, P, E, rr, h1, q, x⟩ =>
  ⟨δ, Hv, n, _, E, rr, h1, (fun d v H' Hv' n' h2 e p k => by
    obtain ⟨z, hz, h3⟩ := h2
    unfold gList at hz
    split at hz
    · rename_i hl
      cases hz
      exact ⟨by rw [k.len]; exact hl, fun a ha => (gives_of (q.step e p) p h3).lst e.sub ha k⟩
    · exact nomatch hz), x⟩
theorem d_one {op} (h : PE X a (lift Z da)) : PE X (.BoolOp op [a] pos) (lift Z da) := pe_one h
theorem dv_bl {g : G} {H : Hp} {v : V} {c : Bool} (h : Dv g H v (.bl c)) : v = .bl c := by cases h; rfl
theorem d_and {rest : List Expr} (ha : PE X a (lift Z da)) (hb : PE X (.BoolOp .And (b :: rest) pos) (lift Z db)) : PE X (.BoolOp .And (a :: b :: rest) pos) (lift Z (dAnd da db)) := up (pe_and ha hb) fun σ H Q ⟨δ, Hv, n, P, E, rr, h1, q, x⟩ =>
  ⟨δ, Hv, n, _, E, rr, h1, fun d v H' Hv' n' h2 e p k => by
    obtain ⟨c, rfl, h3⟩ := h2
    refine ⟨c, dv_bl k, ?_⟩
    cases c with
    | true => rw [if_pos rfl] at h3 ⊢; exact ⟨δ, Hv', n', P, E, rr.step e p, h3, q.step e p, x.step e p⟩
    | false => rw [if_neg Bool.false_ne_true] at h3 ⊢; exact q _ _ _ _ _ h3 e p (.bl false), x⟩
theorem d_or {rest : List Expr} (ha : PE X a (lift Z da)) (hb : PE X (.BoolOp .Or (b :: rest) pos) (lift Z db)) : PE X (.BoolOp .Or (a :: b :: rest) pos) (lift Z (dOr da db)) := up (pe_or ha hb) fun σ H Q ⟨δ, Hv, n, P, E, rr, h1, q, x⟩ =>
  ⟨δ, Hv, n, _, E, rr, h1, fun d v H' Hv' n' h2 e p k => by
    obtain ⟨c, rfl, h3⟩ := h2
    refine ⟨c, dv_bl k, ?_⟩
    cases c with
    | false => rw [if_neg Bool.false_ne_true] at h3 ⊢; exact ⟨δ, Hv', n', P, E, rr.step e p, h3, q.step e p, x.step e p⟩
    | true => rw [if_pos rfl] at h3 ⊢; exact q _ _ _ _ _ h3 e p (.bl true), x⟩
def gNot : List D → Option D
  | [.bl c] => some (.bl !c)
  | _ => none
theorem d_not (ha : PE X a (lift Z da)) : PE X (.UnaryOp .Not a pos) (lift Z (dApp gNot (dCons da dNil))) := up (pe_not ha) fun σ H Q ⟨δ, Hv, n, P, E, rr, h1, q, x⟩ =>
  ⟨δ, Hv, n, _, E, rr, h1, (fun d v H' Hv' n' h2 e p k => by
    obtain ⟨z, hz, h3⟩ := h2
    unfold gNot at hz
    split at hz
    · rename_i c hc
      cases hz
      cases hc
      exact ⟨c, dv_bl k, q _ _ _ _ _ h3 e p (.bl _)⟩
    · exact nomatch hz), x⟩
theorem dt_val (h : PE X e (lift Z de)) (he : ∀ whole, isTrue e X.env whole = (do let v ← whole; standAt e.pos; holding [v] (truthy v)) := by intro _; rfl) : PT X e (liftT Z de) := pt_val h he
theorem dt_cmp {op : CmpOp} {f : List D → Option D} (o : DOp X Z.g (compareOp op) f) (ha : PE X a (lift Z da)) (hb : PE X b (lift Z db)) (hm : behindInMarks op b = false) : PT X (.Compare a [op] [b] pos) (liftT Z (dApp f (dCons da (dCons db dNil)))) := by
  obtain ⟨r, h1, h2⟩ := o
  exact upT (pt_cmpR h1 ha hb hm) fun σ H Q h => lift_op h2 σ H _ h
theorem lift_chain {f f' : List D → Option D} {r r' : R2} (o : Op2 Z.g f r) (o' : Op2 Z.g f' r') : ∀ σ H Q, lift Z (dChain f f' da db dc) σ H Q → tChain r r' (lift Z da) (lift Z db) (lift Z dc) σ H Q := fun σ H Q ⟨δ, Hv, n, P, E, rr, h1, q, x⟩ =>
  ⟨δ, Hv, n, _, E, rr, h1, fun d v H1 Hv1 n1 h2 e1 p1 k1 => ⟨δ, Hv1, n1, _, E, rr.step e1 p1, h2, fun d2 v2 H2 Hv2 n2 h3 e2 p2 k2 => by
    obtain ⟨c, hc, h3⟩ := h3
    have e02 := e1.trans (fun _ => p1.pd) e2
    refine o e2.sub (k1.mono e2.see) k2 hc fun v3 H3 Hv3 e3 s3 k3 => ⟨c, dv_bl k3, ?_⟩
    have p3 : Pn Z.g H3 n2 := p2.mono s3 (Nat.le_refl _)
    have e03 := e02.trans (fun _ => p2.pd) e3
    cases c with
    | true =>
      rw [if_pos rfl] at h3 ⊢
      exact ⟨δ, Hv3, n2, _, E, rr.step e03 p3, h3, fun d4 v4 H4 Hv4 n4 h4 e4 p4 k4 => by
        obtain ⟨z, hz, h4⟩ := h4
        exact o' e4.sub (k2.mono (e3.see.trans e4.see)) k4 hz (gives_of (q.step (e03.trans (fun _ => p3.pd) e4) p4) p4 h4), x.step e03 p3⟩
    | false =>
      rw [if_neg Bool.false_ne_true] at h3 ⊢
      exact q _ _ _ _ _ h3 e03 p3 (.bl false), x.step e1 p1⟩, x⟩
theorem d_chain {op op' : CmpOp} {f f' : List D → Option D} (o : DOp X Z.g (compareOp op) f) (o' : DOp X Z.g (compareOp op') f') (ha : PE X a (lift Z da)) (hb : PE X b (lift Z db)) (hc : PE X c (lift Z dc))
    (hm : lastMarks [op, op'] [b, c] = false := by with_unfolding_all rfl) : PE X (.Compare a [op, op'] [b, c] pos) (lift Z (dChain f f' da db dc)) := by
  obtain ⟨r, h1, h2⟩ := o
  obtain ⟨r', h1', h2'⟩ := o'
  exact up (pe_chain h1 h1' ha hb hc hm) (lift_chain h2 h2')
theorem dt_not (ha : PT X a (liftT Z da)) : PT X (.UnaryOp .Not a pos) (liftT Z (dApp gNot (dCons da dNil))) := upT (pt_not ha) fun σ H Q ⟨δ, Hv, n, P, E, rr, h1, q, x⟩ =>
  ⟨δ, Hv, n, _, E, rr, h1, (fun d v H' Hv' n' h2 e p k => by
    obtain ⟨z, hz, h3⟩ := h2
    unfold gNot at hz
    split at hz
    · rename_i c hc
      cases hz
      cases hc
      obtain ⟨c', ec, hq⟩ := q _ _ _ _ _ h3 e p (.bl _)
      cases ec
      exact ⟨c, dv_bl k, hq⟩
    · exact nomatch hz), x⟩
end
structure DEnds where
  nx : DS → Nat → Prop
  rt : Sl → Nat → Prop
  bk : DS → Nat → Prop
  ct : DS → Nat → Prop
  xe : DS → XD
abbrev DT := DEnds → DS → Nat → Prop
abbrev DO := DS → M Sl
def dNext : DT := fun F δ n => F.nx δ n
def dSeq (a b : DT) : DT := fun F δ n => a ⟨fun δ' n' => b F δ' n', F.rt, F.bk, F.ct, F.xe⟩ δ n
def dSet (i : Nat) (e : DE) : DT := fun F δ n => e δ n (fun d n' => F.nx (δ.set i (some (.sh d))) n') (F.xe δ)
def dSetO (i : Nat) (e : DO) : DT := fun F δ n => e δ n (fun s n' => F.nx (δ.set i (some s)) n') (F.xe δ)
def dPar (i j : Nat) (a b : DO) : DT := fun F δ n => a δ n (fun s n1 => b δ n1 (fun t n2 => F.nx ((δ.set i (some s)).set j (some t)) n2) (F.xe δ)) (F.xe δ)
def dRet (e : DE) : DT := fun F δ n => e δ n (fun d n' => F.rt (.sh d) n') (F.xe δ)
def dRetN : DT := fun F _ n => F.rt (.sh .non) n
def shP (P : D → Nat → Prop) : Sl → Nat → Prop
  | .sh d, n => P d n
  | _, _ => False
def Sl.out : Sl → Bool
  | .sf _ _ _ => false
  | _ => true
def dRetS (i : Nat) : DT := fun F δ n => ∃ s, δ[i]? = some (some s) ∧ s.out = true ∧ F.rt s n
def dRetO (e : DO) : DT := fun F δ n => e δ n F.rt (F.xe δ)
def dIfS (t : DE) (a b : DT) : DT := fun F δ n => t δ n (fun x n' => ∃ c, x = .bl c ∧ if c = true then a F δ n' else b F δ n') (F.xe δ)
def dExpr (e : DE) : DT := fun F δ n => e δ n (fun _ n' => F.nx δ n') (F.xe δ)
def dNever : DT := fun _ _ _ => False
def dWhile (t : DE) (b : DT) : DT := fun F δ n => ∃ W : Nat → DS → Nat → Prop, (∃ m, W m δ n) ∧ ∀ m δ n, W m δ n →
  t δ n (fun x n1 => ∃ c, x = .bl c ∧ if c = true then ∃ N : DS → Nat → Prop, (∀ δ' n', N δ' n' → ∃ m', m' < m ∧ W m' δ' n') ∧ b ⟨N, F.rt, F.nx, N, F.xe⟩ δ n1 else F.nx δ n1) (F.xe δ)
def dAug (i : Nat) (f : List D → Option D) (e : DE) : DT := fun F δ n => ∃ x, δ[i]? = some (some (.sh x)) ∧ e δ n (fun y n' => ∃ d, f [x, y] = some d ∧ F.nx (δ.set i (some (.sh d))) n') (F.xe δ)
inductive Tg where
  | nm (i : Nat) | tp (is : List Nat) | tq (ts : List (Nat ⊕ List Nat))
def setAll : DS → List Nat → List D → DS
  | δ, i :: is, d :: ds => setAll (δ.set i (some (.sh d))) is ds
  | δ, _, _ => δ
def dTp (is : List Nat) : D → DS → Option DS
  | .tup ds, δ => if is.length = ds.length then some (setAll δ is ds) else none
  | .lst ds, δ => if is.length = ds.length then some (setAll δ is ds) else none
  | _, _ => none
def setQ : List (Nat ⊕ List Nat) → List D → DS → Option DS
  | [], [], δ => some δ
  | .inl i :: ts, d :: ds, δ => setQ ts ds (δ.set i (some (.sh d)))
  | .inr is :: ts, d :: ds, δ => match dTp is d δ with
    | some δ' => setQ ts ds δ'
    | none => none
  | _, _, _ => none
def dTg : Tg → D → DS → Option DS
  | .nm i, d, δ => some (δ.set i (some (.sh d)))
  | .tp is, .tup ds, δ => if is.length = ds.length then some (setAll δ is ds) else none
  | .tp is, .lst ds, δ => if is.length = ds.length then some (setAll δ is ds) else none
  | .tq ts, .tup ds, δ => setQ ts ds δ
  | .tq ts, .lst ds, δ => setQ ts ds δ
  | _, _, _ => none
def forGo (tg : Tg) (b : DT) (F : DEnds) : List D → DS → Nat → Prop
  | [], δ, n => F.nx δ n
  | x :: xs, δ, n => ∃ δ', dTg tg x δ = some δ' ∧ b ⟨forGo tg b F xs, F.rt, F.nx, forGo tg b F xs, F.xe⟩ δ' n
def dIt (f : List D → Option (List D)) (a : DA) : DA := fun δ n P E => a δ n (fun xs n' => ∃ ys, f xs = some ys ∧ P ys n') E
def dFor (it : DA) (tg : Tg) (b : DT) : DT := fun F δ n => it δ n (fun xs n' => forGo tg b F xs δ n') (F.xe δ)
def wipeD (δ : DS) : List Nat → DS
  | [] => δ
  | v :: vs => (wipeD δ vs).set v none
def lcGo (tg : Tg) (t e : DE) (δ : DS) : List D → Nat → (List D → Nat → Prop) → Prop
  | [], n, P => P [] n
  | x :: xs, n, P => ∃ δ', dTg tg x δ = some δ' ∧ t δ' n (fun b n1 => ∃ c, b = .bl c ∧ if c = true then e δ' n1 (fun y n2 => lcGo tg t e δ xs n2 (fun ys n3 => P (y :: ys) n3)) (fun _ _ _ => False) else lcGo tg t e δ xs n1 P) (fun _ _ _ => False)
def dLc (it : DA) (tg : Tg) (t e : DE) (vs : List Nat) : DA := fun δ n P E => it δ n (fun xs n' => xs.length ≤ sizeLine ∧ lcGo tg t e (wipeD δ vs) xs n' P) E
def dNew (a : DA) : DE := fun δ n P E => a δ n (fun ys n' => P (.lst ys) n') E
def dOwn (a : DA) : DO := fun δ n P E => a δ n (fun ys n' => P (.ow ys) n') E
def dSh (a : DE) : DO := fun δ n P E => a δ n (fun d n' => P (.sh d) n') E
def frz (δ : DS) (i : Nat) : DS := match δ[i]? with
  | some (some (.ow ds)) => δ.set i (some (.sh (.lst ds)))
  | some (some (.od ks)) => δ.set i (some (.sh (.dct ks)))
  | _ => δ
def frzB (δ : DS) (i : Nat) : DS := match δ[i]? with
  | some (some (.ow ds)) => δ.set i (some (.sh (.lst ds)))
  | _ => δ
def dUn (i : Nat) (t : DT) : DT := fun F δ n => t F (frz δ i) n
def D.flat : D → Bool
  | .non => true
  | .bl _ => true
  | .int _ => true
  | .str _ => true
  | _ => false
def dBor (i : Nat) (e : DE) : DE := fun δ n P E => e (frzB δ i) n (fun d n' => d.flat = true ∧ P d n') (fun _ _ _ => False)
def XOk (Z : Zx) (Hv : Hp) (xe : DS → XD) : Prop := ∀ δ' σ' H' Hv' n' c fs cls dd, xe δ' c fs n' → Same Hv Hv' → Rel Z.g Z.H0 Z.Hv0 σ' H' Hv' δ' n' → ExcOk Z.g Hv' c fs cls dd → Z.W cls dd σ' H'
def NOk (Z : Zx) (Hv : Hp) (N : DS → Nat → Prop) (nx : L2.St → Hp → Prop) : Prop := ∀ δ' n' σ' H' Hv', N δ' n' → Same Hv Hv' → Rel Z.g Z.H0 Z.Hv0 σ' H' Hv' δ' n' → nx σ' H'
def SOk (g : G) (H H' Hv' : Hp) : V → Sl → Prop
  | v, .sh d => Dv g Hv' v d
  | v, .ow ds => ∃ p vs, v = .ref p ∧ H p = none ∧ H' p = some (.lst vs) ∧ Hv' p = none ∧ DvAll g Hv' vs ds
  | _, .sf _ _ _ => False
  | v, .od ks => ∃ p vs, v = .ref p ∧ H p = none ∧ H' p = some (.dK vs) ∧ Hv' p = none ∧ DvK g Hv' vs ks
def ROk (Z : Zx) (R : Sl → Nat → Prop) (rt : VK) : Prop := ∀ s v H' Hv' n', R s n' → Ext Z.g Z.H0 Z.Hv0 H' Hv' → Pn Z.g H' n' → SOk Z.g Z.H0 H' Hv' v s → rt v H'
def liftS (Z : Zx) (t : DT) : TS := fun D σ H => ∃ δ Hv n F, Rel Z.g Z.H0 Z.Hv0 σ H Hv δ n ∧ t F δ n ∧ NOk Z Hv F.nx D.nx ∧ ROk Z F.rt D.rt ∧ NOk Z Hv F.bk D.bk ∧ NOk Z Hv F.ct D.ct ∧ XOk Z Hv F.xe
theorem NOk.see {Z : Zx} {Hv Hv' : Hp} {N : DS → Nat → Prop} {nx : L2.St → Hp → Prop} (h : NOk Z Hv N nx) (s : Same Hv Hv') : NOk Z Hv' N nx := fun δ' n' σ' H' Hv2 a b c => h δ' n' σ' H' Hv2 a (s.trans b) c
theorem XOk.see {Z : Zx} {Hv Hv' : Hp} {xe : DS → XD} (h : XOk Z Hv xe) (s : Same Hv Hv') : XOk Z Hv' xe := fun δ' σ' H' Hv2 n' c fs cls dd a b r x => h δ' σ' H' Hv2 n' c fs cls dd a (s.trans b) r x
theorem XOk.e {Z : Zx} {H Hv : Hp} {xe : DS → XD} {σ : L2.St} {δ : DS} {n : Nat} (h : XOk Z Hv xe) (r : Rel Z.g Z.H0 Z.Hv0 σ H Hv δ n) : EOk Z.g H Hv (xe δ) (fun c d H' => Z.W c d σ H') := fun c fs n' cls dd H' Hv' a e p x => h δ σ H' Hv' n' c fs cls dd a e.see (r.step e p) x
def liftO (Z : Zx) (o : DO) : TE := fun σ H Q => ∃ δ Hv n P E, Rel Z.g Z.H0 Z.Hv0 σ H Hv δ n ∧ o δ n P E ∧ (∀ s v H' Hv' n', P s n' → Ext Z.g H Hv H' Hv' → Pn Z.g H' n' → SOk Z.g H H' Hv' v s → Q v H') ∧ EOk Z.g H Hv E (fun c d H' => Z.W c d σ H')
theorem upS {X : Cx} {st : Stmt} {t t' : TS} (h : PS X st t) (k : ∀ D σ H, t' D σ H → t D σ H) : PS X st t' := ⟨fun pins s σ H D I q => h.run pins s σ H D I (k D σ H q)⟩
theorem upSs {X : Cx} {st : List Stmt} {t t' : TS} (h : PSs X st t) (k : ∀ D σ H, t' D σ H → t D σ H) : PSs X st t' := ⟨fun pins s σ H D I q => h.run pins s σ H D I (k D σ H q)⟩
theorem upI {X : Cx} {tg it : Expr} {t t' : TI} (h : PI X tg it t) (k : ∀ σ H R, t' σ H R → t σ H R) : PI X tg it t' := ⟨fun pins s σ H R I q => h.run pins s σ H R I (k σ H R q)⟩
theorem Rel.fresh {g : G} {H0 Hv0 : Hp} {σ : L2.St} {H Hv : Hp} {δ : DS} {n : Nat} (r : Rel g H0 Hv0 σ H Hv δ n) {p : Addr} (hp : H p = none) (j : Nat) (s : Sl) (hj : δ[j]? = some (some s)) (os : s.own = true) : σ[j]? ≠ some (some (.ref p)) := fun e => by
  have h := r.sl j s hj
  rw [e] at h
  cases s with
  | sh d => cases os
  | ow ds =>
    obtain ⟨q, vs, e1, e2, _⟩ := h
    cases e1
    rw [hp] at e2; cases e2
  | sf q c fs =>
    obtain ⟨C, dx, vs, e1, e2, _⟩ := h
    cases e1
    rw [hp] at e2; cases e2
  | od ks =>
    obtain ⟨q, vs, e1, e2, _⟩ := h
    cases e1
    rw [hp] at e2; cases e2
theorem Rel.h0 {g : G} {H0 Hv0 : Hp} {σ : L2.St} {H Hv : Hp} {δ : DS} {n : Nat} (r : Rel g H0 Hv0 σ H Hv δ n) {p : Addr} (hp : H p = none) : H0 p = none := by
  cases q : H0 p with
  | none => rfl
  | some o =>
    by_cases e : p = g.pd
    · subst e; exact absurd hp r.pen.pd
    · obtain ⟨_, w, _⟩ := r.ext.but _ _ e q
      rw [w] at hp; cases hp
theorem Rel.setS {g : G} {H0 Hv0 : Hp} {σ : L2.St} {H Hv H' Hv' : Hp} {δ : DS} {n n' i : Nat} {v : V} {s : Sl} (r : Rel g H0 Hv0 σ H Hv δ n) (r' : Rel g H0 Hv0 σ H' Hv' δ n') (h : SOk g H H' Hv' v s) : Rel g H0 Hv0 (σ.set i (some v)) H' Hv' (δ.set i (some s)) n' := by
  cases s with
  | sh d => exact r'.set h
  | ow ds =>
    obtain ⟨p, vs, rfl, h1, h2, h3, h4⟩ := h
    exact r'.setOw h2 h3 (r.h0 h1) h4 fun j s hj os => r.fresh h1 j s hj os
  | sf q c fs => exact h.elim
  | od ks =>
    obtain ⟨p, vs, rfl, h1, h2, h3, h4⟩ := h
    exact r'.setOd h2 h3 (r.h0 h1) h4 fun j s hj os => r.fresh h1 j s hj os
theorem SOk.step {g : G} {H H1 Hv1 H2 Hv2 : Hp} {v : V} {s : Sl} {n : Nat} (h : SOk g H H1 Hv1 v s) (e : Ext g H1 Hv1 H2 Hv2) (p : Pn g H n) : SOk g H H2 Hv2 v s := by
  cases s with
  | sh d => exact Dv.mono e.see h
  | ow ds =>
    obtain ⟨q, vs, rfl, h1, h2, h3, h4⟩ := h
    have nq : q ≠ g.pd := fun z => p.pd (by rw [← z]; exact h1)
    exact ⟨q, vs, rfl, h1, e.at nq h2 (fun _ z => by cases z), e.hid _ h3 (by rw [h2]; simp), h4.mono e.see⟩
  | sf q c fs => exact h.elim
  | od ks =>
    obtain ⟨q, vs, rfl, h1, h2, h3, h4⟩ := h
    have nq : q ≠ g.pd := fun z => p.pd (by rw [← z]; exact h1)
    exact ⟨q, vs, rfl, h1, e.at nq h2 (fun _ z => by cases z), e.hid _ h3 (by rw [h2]; simp), h4.mono e.see⟩
section
variable {X : Cx} {Z : Zx} {e a b c : Expr} {es : List Expr} {da db dc de : DE} {oa ob : DO} {ra it : DA} {pos : Pos} {st : Stmt} {sts : List Stmt} {t u : DT}
theorem ds_nil : PSs X [] (liftS Z dNext) := upSs pss_nil fun D σ H ⟨δ, Hv, n, F, r, h, k, _⟩ => k δ n σ H Hv h (.refl _) r
theorem ds_cons (h1 : PS X st (liftS Z t)) (h2 : PSs X sts (liftS Z u)) : PSs X (st :: sts) (liftS Z (dSeq t u)) := upSs (pss_cons h1 h2) fun D σ H ⟨δ, Hv, n, F, r, h, k1, k2, k3, k4, k5⟩ =>
  ⟨δ, Hv, n, _, r, h, fun δ' n' σ' H' Hv' h' s r' => ⟨δ', Hv', n', F, r', h', k1.see s, k2, k3.see s, k4.see s, k5.see s⟩, k2, k3, k4, k5⟩
theorem ds_one (h1 : PS X st (liftS Z t)) : PSs X [st] (liftS Z t) := pss_one h1
theorem ds_set {i : Nat} {x : Str} {pos' : Pos} (hN : X.N.Nodup) (hi : X.N[i]? = some x) (hx : Loc X.env.scope x) (he : PE X e (lift Z de)) (hs : swapsWith e (some (.Name x pos')) pos.line X.env = pure false := by rfl) (hf : X.fn x = true ∨ X.env.scope.names.lookup x = some .local := by first | exact .inl rfl | exact .inr rfl | assumption) :
    PS X (.Assign [.Name x pos'] e pos) (liftS Z (dSet i de)) := upS (ps_set hN hi hx he hs hf) fun D σ H ⟨δ, Hv, n, F, r, h, k1, k2, k3, k4, k5⟩ =>
  ⟨δ, Hv, n, _, _, r, h, fun d v H' Hv' n' h' e p k => k1 _ _ _ _ _ h' e.see ((r.step e p).set k), k5.e r⟩
theorem ds_setO {i : Nat} {x : Str} {pos' : Pos} (hN : X.N.Nodup) (hi : X.N[i]? = some x) (hx : Loc X.env.scope x) (he : PE X e (liftO Z oa)) (hs : swapsWith e (some (.Name x pos')) pos.line X.env = pure false := by rfl) (hf : X.fn x = true ∨ X.env.scope.names.lookup x = some .local := by first | exact .inl rfl | exact .inr rfl | assumption) :
    PS X (.Assign [.Name x pos'] e pos) (liftS Z (dSetO i oa)) := upS (ps_set hN hi hx he hs hf) fun D σ H ⟨δ, Hv, n, F, r, h, k1, k2, k3, k4, k5⟩ =>
  ⟨δ, Hv, n, _, _, r, h, fun d v H' Hv' n' h' e p k => k1 _ _ _ _ _ h' e.see (r.setS (r.step e p) k), k5.e r⟩
theorem o_sh (h : PE X e (lift Z de)) : PE X e (liftO Z (dSh de)) := up h fun σ H Q ⟨δ, Hv, n, P, E, r, h1, q, x⟩ => ⟨δ, Hv, n, _, E, r, h1, fun d v H' Hv' n' h2 e p k => q _ v H' Hv' n' h2 e p k, x⟩
theorem ds_par {i j : Nat} {x y : Str} {px py pt : Pos} {kt k2 pt2} (hc : X.calm = true) (hN : X.N.Nodup) (hi : X.N[i]? = some x) (hj : X.N[j]? = some y) (hij : i ≠ j)
    (hx : X.env.scope.names.lookup x = some .local) (hy : X.env.scope.names.lookup y = some .local) (ha : PE X a (liftO Z oa)) (hb : PE X b (liftO Z ob))
    (hw : swappedStores [.Tuple [.Name x px, .Name y py] kt pt] (.Tuple [a, b] k2 pt2) X.env = pure (some [x, y]))
    (hs : swapsWithSole [.Tuple [.Name x px, .Name y py] kt pt] (.Tuple [a, b] k2 pt2) pos.line X.env = pure false := by rfl)
    (h1 : starEach [a, b] X.env = (false, eval a X.env) :: starEach [b] X.env := by rfl) (h2 : starEach [b] X.env = (false, eval b X.env) :: starEach [] X.env := by rfl) :
    PS X (.Assign [.Tuple [.Name x px, .Name y py] kt pt] (.Tuple [a, b] k2 pt2) pos) (liftS Z (dPar i j oa ob)) := upS (ps_par hc hN hi hj hij hx hy (pa_cons ha (pa_cons hb pa_nil h2) h1) hw hs) fun D σ H ⟨δ, Hv, n, F, r, h, k1, k2, k3, k4, k5⟩ =>
  ⟨δ, Hv, n, _, _, r, h, fun s v H1 Hv1 n1 h' e1 p1 q1 => ⟨δ, Hv1, n1, _, _, r.step e1 p1, h', fun s2 v2 H2 Hv2 n2 h2 e2 p2 q2 => ⟨v, v2, rfl, by
    have r1 := r.step e1 p1
    have r2 := r1.step e2 p2
    refine k1 _ _ _ _ _ h2 (e1.see.trans e2.see) ?_
    have q1' := q1.step e2 r.pen
    have ra := r.setS (i := i) r2 q1'
    cases s2 with
    | sh d => exact ra.set q2
    | ow ds =>
      obtain ⟨p, vs, rfl, a1, a2, a3, a4⟩ := q2
      refine ra.setOw a2 a3 (r1.h0 a1) a4 fun k s' hk os => ?_
      by_cases ek : i = k
      · subst ek
        have hl : i < δ.length := by
          have := (List.getElem?_eq_some_iff.mp hk).1
          rwa [List.length_set] at this
        rw [List.getElem?_set_self hl] at hk
        cases hk
        rw [List.getElem?_set_self (by rw [← r.len]; exact hl)]
        cases s with
        | sh d => cases os
        | ow ds' =>
          obtain ⟨p', vs', rfl, b1, b2, b3, b4⟩ := q1
          intro z
          cases z
          rw [a1] at b2; cases b2
        | sf q c fs => exact q1.elim
        | od ds' =>
          obtain ⟨p', vs', rfl, b1, b2, b3, b4⟩ := q1
          intro z
          cases z
          rw [a1] at b2; cases b2
      · rw [List.getElem?_set_ne ek] at hk ⊢
        exact r1.fresh a1 k s' hk os
    | sf q c fs => exact q2.elim
    | od ds =>
      obtain ⟨p, vs, rfl, a1, a2, a3, a4⟩ := q2
      refine ra.setOd a2 a3 (r1.h0 a1) a4 fun k s' hk os => ?_
      by_cases ek : i = k
      · subst ek
        have hl : i < δ.length := by
          have := (List.getElem?_eq_some_iff.mp hk).1
          rwa [List.length_set] at this
        rw [List.getElem?_set_self hl] at hk
        cases hk
        rw [List.getElem?_set_self (by rw [← r.len]; exact hl)]
        cases s with
        | sh d => cases os
        | ow ds' =>
          obtain ⟨p', vs', rfl, b1, b2, b3, b4⟩ := q1
          intro z
          cases z
          rw [a1] at b2; cases b2
        | sf q c fs => exact q1.elim
        | od ds' =>
          obtain ⟨p', vs', rfl, b1, b2, b3, b4⟩ := q1
          intro z
          cases z
          rw [a1] at b2; cases b2
      · rw [List.getElem?_set_ne ek] at hk ⊢
        exact r1.fresh a1 k s' hk os⟩, (k5.see e1.see).e (r.step e1 p1)⟩, k5.e r⟩
theorem ds_ret (he : PE X e (lift Z de)) : PS X (.Return (some e) pos) (liftS Z (dRet de)) := upS (ps_ret he) fun D σ H ⟨δ, Hv, n, F, r, h, k1, k2, k3, k4, k5⟩ =>
  ⟨δ, Hv, n, _, _, r, h, fun d v H' Hv' n' h' e p k => k2 (.sh d) v H' Hv' n' h' (r.ext.trans (fun _ => r.pen.pd) e) p k, k5.e r⟩
theorem SOk.h0 {g : G} {H0 Hv0 H Hv H' Hv' : Hp} {σ : L2.St} {δ : DS} {n : Nat} {v : V} {s : Sl} (r : Rel g H0 Hv0 σ H Hv δ n) (h : SOk g H H' Hv' v s) : SOk g H0 H' Hv' v s := by
  cases s with
  | sh d => exact h
  | ow ds =>
    obtain ⟨q, vs, rfl, h1, h2, h3, h4⟩ := h
    exact ⟨q, vs, rfl, r.h0 h1, h2, h3, h4⟩
  | sf q c fs => exact h.elim
  | od ks =>
    obtain ⟨q, vs, rfl, h1, h2, h3, h4⟩ := h
    exact ⟨q, vs, rfl, r.h0 h1, h2, h3, h4⟩
theorem ds_if {x y : List Stmt} (hc : PT X c (liftT Z dc)) (ha : PSs X x (liftS Z t)) (hb : PSs X y (liftS Z u)) : PS X (.If c x y pos) (liftS Z (dIfS dc t u)) := upS (ps_if hc ha hb) fun D σ H ⟨δ, Hv, n, F, r, h, k1, k2, k3, k4, k5⟩ =>
  ⟨δ, Hv, n, _, _, r, h, (fun d v H' Hv' n' h' e p k => by
    obtain ⟨c, rfl, h3⟩ := h'
    refine ⟨c, dv_bl k, ?_⟩
    cases c with
    | true => rw [if_pos rfl] at h3 ⊢; exact ⟨δ, Hv', n', F, r.step e p, h3, k1.see e.see, k2, k3.see e.see, k4.see e.see, k5.see e.see⟩
    | false => rw [if_neg Bool.false_ne_true] at h3 ⊢; exact ⟨δ, Hv', n', F, r.step e p, h3, k1.see e.see, k2, k3.see e.see, k4.see e.see, k5.see e.see⟩), k5.e r⟩
theorem ds_expr (he : PE X e (lift Z de)) (hs : swapsWith e none pos.line X.env = pure false := by rfl) : PS X (.Expr e pos) (liftS Z (dExpr de)) := upS (ps_expr he hs) fun D σ H ⟨δ, Hv, n, F, r, h, k1, k2, k3, k4, k5⟩ =>
  ⟨δ, Hv, n, _, _, r, h, fun d v H' Hv' n' h' e p k => k1 _ _ _ _ _ h' e.see (r.step e p), k5.e r⟩
theorem ds_never : PS X st (liftS Z dNever) := ⟨fun pins s σ H D I ⟨δ, Hv, n, F, r, h, _⟩ => h.elim⟩
theorem ds_while {body : List Stmt} (hp : PassesOwn (model X.prog X.w) X.A X.env X.xe) (hc : PT X c (liftT Z dc)) (hb : PSs X body (liftS Z t)) : PS X (.While c body [] pos) (liftS Z (dWhile dc t)) := upS (ps_while hp hc hb) fun D σ H ⟨δ, Hv, n, F, r, ⟨W, ⟨m0, w0⟩, turn⟩, k1, k2, k3, k4, k5⟩ => by
  refine ⟨fun m σ' H' => ∃ δ' Hv' n', Rel Z.g Z.H0 Z.Hv0 σ' H' Hv' δ' n' ∧ Same Hv Hv' ∧ W m δ' n', ⟨m0, δ, Hv, n, r, .refl _, w0⟩, ?_⟩
  rintro m σ1 H1 ⟨δ1, Hv1, n1, r1, s1, w1⟩
  refine ⟨δ1, Hv1, n1, _, _, r1, turn m δ1 n1 w1, (fun d v H' Hv' n' h' e p k => ?_), (k5.see s1).e r1⟩
  obtain ⟨c, rfl, h3⟩ := h'
  refine ⟨c, dv_bl k, ?_⟩
  cases c with
  | true =>
    rw [if_pos rfl] at h3 ⊢
    obtain ⟨N, hN, h3⟩ := h3
    refine ⟨fun σ' H' => ∃ δ' Hv' n', Rel Z.g Z.H0 Z.Hv0 σ' H' Hv' δ' n' ∧ Same Hv Hv' ∧ N δ' n', ?_, ?_⟩
    · rintro σ' H2 ⟨δ2, Hv2, n2, r2, s2, w2⟩
      obtain ⟨m', hm, w3⟩ := hN _ _ w2
      exact ⟨m', hm, δ2, Hv2, n2, r2, s2, w3⟩
    · have s2 := s1.trans e.see
      exact ⟨δ1, Hv', n', _, r1.step e p, h3, fun δ2 n2 σ2 H2 Hv2 a b r2 => ⟨δ2, Hv2, n2, r2, s2.trans b, a⟩, k2, k1.see s2, fun δ2 n2 σ2 H2 Hv2 a b r2 => ⟨δ2, Hv2, n2, r2, s2.trans b, a⟩, k5.see s2⟩
  | false =>
    rw [if_neg Bool.false_ne_true] at h3 ⊢
    exact k1 _ _ _ _ _ h3 (s1.trans e.see) (r1.step e p)
theorem ds_aug {i : Nat} {x : Str} {op : Operator} {f : List D → Option D} {ti : TIp} {pos' : Pos} (o : Op2 Z.g f ti) (hN : X.N.Nodup) (hi : X.N[i]? = some x) (hx : Loc X.env.scope x) (he : PE X e (lift Z de)) (ho : PIp X op ti) (hf : X.fn x = true ∨ X.env.scope.names.lookup x = some .local := by first | exact .inl rfl | exact .inr rfl | assumption) :
    PS X (.AugAssign (.Name x pos') op e pos) (liftS Z (dAug i f de)) := upS (ps_aug hN hi hx he ho hf) fun D σ H ⟨δ, Hv, n, F, r, ⟨dx, hx, h⟩, k1, k2, k3, k4, k5⟩ => by
  obtain ⟨v, e1, e2⟩ := slot_at r hx
  refine ⟨v, e1, δ, Hv, n, _, _, r, h, (fun d w H' Hv' n' h' e p k => ?_), k5.e r⟩
  obtain ⟨z, hz, h3⟩ := h'
  refine o e.sub (e2.mono e.see) k hz fun u H2 Hv2 e3 s3 k3 => k1 _ _ _ _ _ h3 (e.see.trans e3.see) ?_
  exact ((r.step e p).step e3 (p.mono s3 (Nat.le_refl _))).set k3
theorem frzB_rel {g : G} {H0 Hv0 : Hp} {σ : L2.St} {H Hv : Hp} {δ : DS} {n : Nat} (i : Nat) (r : Rel g H0 Hv0 σ H Hv δ n) : ∃ Hv', Same Hv Hv' ∧ Rel g H0 Hv0 σ H Hv' (frzB δ i) n := by
  unfold frzB
  split
  · rename_i ds h; exact r.unown h
  · exact ⟨Hv, .refl _, r⟩
theorem inv_frz {pins : List (Addr × Obj)} {σ : L2.St} {H : Hp} {s : Shared} {p : Addr} {kvs : List (Key × V)} (I : Inv X pins σ H s) (hp : H p = some (.dK kvs)) : ∃ o : Obj, Inv X pins σ (upd H p (.frz o (.dK kvs))) s := by
  obtain ⟨z, y, vs, rk, o, es, ep, e, c⟩ := I.hok p _ hp
  have ne : ∀ {b : Addr} {u : HO}, H b = some u → (∀ ks, u ≠ .dK ks) → upd H p (.frz o (.dK kvs)) b = some u := fun {b u} h n => by
    have : b ≠ p := fun z => n kvs (by rw [z, hp] at h; exact (Option.some.inj h).symm)
    rw [upd_ne this]; exact h
  have no : ∀ {b : Addr}, H b = none → upd H p (.frz o (.dK kvs)) b = none := fun {b} h => by
    have : b ≠ p := fun z => by rw [z, hp] at h; cases h
    rw [upd_ne this]; exact h
  refine ⟨o, I.ok, I.os, I.bare, ⟨I.base.keep, I.base.slot, fun b u h1 h2 h3 => no (I.base.free b u h1 h2 h3), I.base.there, fun b xs h => ne (I.base.tups b xs h) (fun _ w => by cases w), fun b ob u h => ne (I.base.frzs b ob u h) (fun _ w => by cases w), fun b ps h => ?_⟩, I.loc, I.cell, no I.free, fun x c h => no (I.freeC x c h), fun q hq => ?_, fun b u h => ?_, I.len⟩
  · obtain ⟨more, w⟩ := I.base.tbls b ps h
    exact ⟨more, ne w (fun _ w => by cases w)⟩
  · obtain ⟨a1, a2, a3⟩ := I.pin q hq
    exact ⟨a1, no a2, a3⟩
  · have st : ∀ {b : Addr} {u : HO}, ObjOk X.prog X.w H s.heap b u → ObjOk X.prog X.w (upd H p (.frz o (.dK kvs))) s.heap b u := fun {b u} h => h.stay (fun _ _ _ h => h) (fun b h => ne h (fun _ w => by cases w)) (fun b xs h => ne h (fun _ w => by cases w))
    by_cases hb : b = p
    · subst hb
      rw [upd_same] at h
      cases h
      exact ⟨e, st ⟨z, y, vs, rk, o, es, ep, e, c⟩⟩
    · rw [upd_ne hb] at h
      exact st (I.hok b u h)
theorem pe_frz {t : TE} {e : Expr} (h : PE X e t) : PE X e (fun σ H Q => t σ H fun v H1 => ∃ p kvs, v = .ref p ∧ H1 p = some (.dK kvs) ∧ ∀ o : Obj, Q v (upd H1 p (.frz o (.dK kvs)))) := ⟨fun pins s σ H Q I q => wpAny_mono (h.run pins s σ H _ I q) (fun u s1 ⟨v, H1, I1, rv, p, kvs, ev, hp, k⟩ => by
  obtain ⟨o, I2⟩ := inv_frz I1 hp
  exact ⟨v, _, I2, rv, k o⟩) (fun _ _ z => z)⟩
theorem ds_un (i : Nat) (h : PS X st (liftS Z t)) : PS X st (liftS Z (dUn i t)) := ⟨fun pins s σ H D I ⟨δ, Hv, n, F, r, h1, k1, k2, k3, k4, k5⟩ => by
  unfold dUn frz at h1
  split at h1
  · rename_i ds e
    obtain ⟨Hv', sm, r'⟩ := r.unown e
    exact h.run pins s σ H D I ⟨_, Hv', n, F, r', h1, k1.see sm, k2, k3.see sm, k4.see sm, k5.see sm⟩
  · rename_i ks e
    obtain ⟨p, vs, hp, r'⟩ := r.unownD e
    obtain ⟨o, I'⟩ := inv_frz I hp
    obtain ⟨sm, r'⟩ := r' o
    exact h.run pins s σ _ D I' ⟨_, _, n, F, r', h1, k1.see sm, k2, k3.see sm, k4.see sm, k5.see sm⟩
  · exact h.run pins s σ H D I ⟨δ, Hv, n, F, r, h1, k1, k2, k3, k4, k5⟩⟩
theorem dv_flat {g : G} {H H' : Hp} {v : V} {d : D} (h : Dv g H v d) (f : d.flat = true) : Dv g H' v d := by
  cases h with
  | non => exact .non
  | bl b => exact .bl b
  | int i => exact .int i
  | str x => exact .str x
  | lst _ _ => cases f
  | tup _ _ => cases f
  | obj _ _ _ => cases f
  | exc _ _ _ _ => cases f
  | dct _ _ => cases f
  | pen => cases f
  | scr _ => cases f
  | fn _ _ _ => cases f
theorem d_bor (i : Nat) (h : PE X e (lift Z de)) : PE X e (lift Z (dBor i de)) := up h fun σ H Q ⟨δ, Hv, n, P, E, r, h1, q, x⟩ => by
  obtain ⟨Hv', s, r'⟩ := frzB_rel i r
  refine ⟨frzB δ i, Hv', n, _, _, r', h1, (fun d v H2 Hv2 n2 h2 e p k => ?_), (fun _ _ _ _ _ _ _ z => z.elim)⟩
  refine q d v H2 Hv n2 h2.2 ⟨e.but, .refl _, (s.trans e.see).trans e.sub, fun _ h _ => h, fun z => z⟩ p (dv_flat k h2.1)
theorem dt_bor (i : Nat) (h : PT X e (liftT Z de)) : PT X e (liftT Z (dBor i de)) := upT h fun σ H Q ⟨δ, Hv, n, P, E, r, h1, q, x⟩ => by
  obtain ⟨Hv', s, r'⟩ := frzB_rel i r
  refine ⟨frzB δ i, Hv', n, _, _, r', h1, (fun d v H2 Hv2 n2 h2 e p k => ?_), (fun _ _ _ _ _ _ _ z => z.elim)⟩
  exact q d v H2 Hv n2 h2.2 ⟨e.but, .refl _, (s.trans e.see).trans e.sub, fun _ h _ => h, fun z => z⟩ p (dv_flat k h2.1)
end
def Tg.is : Tg → List Nat
  | .nm i => [i]
  | .tp is => is
  | .tq ts => (ts.map fun t => match t with | .inl i => [i] | .inr is => is).flatten
theorem set_set_ne {α : Type} {l : List α} {i j : Nat} {a b : α} (h : i ≠ j) : (l.set i a).set j b = (l.set j b).set i a := List.set_comm a b h
theorem wipe_set {σ : L2.St} {i : Nat} {v : Option V} : ∀ {vs : List Nat}, i ∈ vs → wipe (σ.set i v) vs = wipe σ vs
  | [], h => by cases h
  | j :: vs, h => by
    unfold wipe
    by_cases e : i = j
    · subst e
      by_cases hi : i ∈ vs
      · rw [wipe_set hi]
      · have go : ∀ ws : List Nat, i ∉ ws → wipe (σ.set i v) ws = (wipe σ ws).set i v := by
          intro ws
          induction ws with
          | nil => intro _; rfl
          | cons k ws ih =>
            intro hk
            simp only [List.mem_cons, not_or] at hk
            unfold wipe
            rw [ih hk.2, set_set_ne hk.1]
        rw [go vs hi, List.set_set]
    · have : i ∈ vs := by
        rcases List.mem_cons.mp h with z | z
        · exact absurd z e
        · exact z
      rw [wipe_set this]
def TgOk (Z : Zx) (tg : Tg) (gg : TG) : Prop := ∀ {v : V} {d : D} {σ : L2.St} {H Hv : Hp} {δ δ' : DS} {n : Nat} {R : L2.St → Hp → Prop}, Rel Z.g Z.H0 Z.Hv0 σ H Hv δ n → Dv Z.g Hv v d → dTg tg d δ = some δ' →
  (∀ σ', Rel Z.g Z.H0 Z.Hv0 σ' H Hv δ' n → (∀ vs : List Nat, (∀ i ∈ tg.is, i ∈ vs) → wipe σ' vs = wipe σ vs) → R σ' H) → gg v σ H R
theorem tg_nm {Z : Zx} {i : Nat} : TgOk Z (.nm i) (gName i) := by
  intro v d σ H Hv δ δ' n R r k e q
  cases e
  exact q _ (r.set k) fun vs h => wipe_set (h i (by simp [Tg.is]))
def gNames : List Nat → TGs
  | [] => gNil
  | i :: is => gCons (gName i) (gNames is)
theorem gNames_ok {Z : Zx} {H Hv : Hp} {n : Nat} {R : L2.St → Hp → Prop} : ∀ (is : List Nat) (ds : List D) (vs : List V) (σ : L2.St) (δ : DS), is.length = ds.length → Rel Z.g Z.H0 Z.Hv0 σ H Hv δ n → DvAll Z.g Hv vs ds →
    (∀ σ', Rel Z.g Z.H0 Z.Hv0 σ' H Hv (setAll δ is ds) n → (∀ ws : List Nat, (∀ i ∈ is, i ∈ ws) → wipe σ' ws = wipe σ ws) → R σ' H) → gNames is vs σ H R
  | [], [], vs, σ, δ, _, r, k, q => by
    cases k
    exact ⟨rfl, q σ r fun _ _ => rfl⟩
  | i :: is, d :: ds, _, σ, δ, hl, r, .cons k ks, q => by
    refine ⟨_, _, rfl, ?_⟩
    refine gNames_ok is ds _ _ _ (by simpa using hl) (r.set k) ks fun σ' r' w => q σ' r' fun ws h => ?_
    rw [w ws fun j hj => h j (List.mem_cons_of_mem _ hj), wipe_set (h i List.mem_cons_self)]
theorem tg_tp {Z : Zx} {is : List Nat} {K : PySem.W.Frag} (hK : K = Z.g.K) {m : Nat} (hm : m = is.length) : TgOk Z (.tp is) (gSq K m (gNames is)) := by
  subst hK hm
  intro v d σ H Hv δ δ' n R r k e q
  cases k with
  | @tup a xs ds hs ks =>
    unfold dTg at e
    simp only at e
    split at e
    · rename_i hl
      cases e
      exact .inl ⟨a, xs, rfl, same_seqT r.sub hs, by rw [ks.len, hl], gNames_ok is ds xs σ δ hl r ks q⟩
    · cases e
  | @lst a xs ds hs ks =>
    unfold dTg at e
    simp only at e
    split at e
    · rename_i hl
      cases e
      exact .inr ⟨a, xs, rfl, sqL (r.sub _ _ hs), by rw [ks.len, hl], gNames_ok is ds xs σ δ hl r ks q⟩
    · cases e
  | _ => cases e
def Wk (g : G) (HI : Hp) (J : It) (xs : List D) : Prop := Walk J xs.length (fun H => Same HI H) (fun i H v H' => ∀ Hv, Same HI Hv → Same Hv H → ∃ d Hv', xs[i]? = some d ∧ Ext g H Hv H' Hv' ∧ Same H H' ∧ Dv g Hv' v d)
def liftI (Z : Zx) (di : DA) : TI := fun σ H R => ∃ δ Hv n P E, Rel Z.g Z.H0 Z.Hv0 σ H Hv δ n ∧ di δ n P E ∧ (∀ xs H' Hv' n' J, P xs n' → Ext Z.g H Hv H' Hv' → Pn Z.g H' n' → Wk Z.g Hv' J xs → R J H') ∧ EOk Z.g H Hv E (fun c d H' => Z.W c d σ H')
theorem drop_at {α : Type} {xs : List α} {i : Nat} {x : α} (h : xs[i]? = some x) : xs.drop i = x :: xs.drop (i + 1) := by
  obtain ⟨hl, e⟩ := List.getElem?_eq_some_iff.mp h
  rw [List.drop_eq_getElem_cons hl, e]
section
variable {X : Cx} {Z : Zx} {e a b c tge iter : Expr} {es : List Expr} {da db dc de dt : DE} {oa ob : DO} {ra it : DA} {pos : Pos} {st : Stmt} {sts body : List Stmt} {t u : DT} {tg : Tg} {gg : TG}
theorem ds_for (hp : PassesOwn (model X.prog X.w) X.A X.env X.xe) (hc : X.calm = true) (hi : PI X tge iter (liftI Z it)) (hg : PG X tge gg) (ho : TgOk Z tg gg) (hb : PSs X body (liftS Z t))
    (hs : ∀ x, foldedSetIterable iter X.env x = pure x := by intro _; rfl) : PS X (.For tge iter body [] pos) (liftS Z (dFor it tg t)) := upS (ps_for hp hc hi hg hb hs) fun D σ H ⟨δ, Hv, n, F, r, h, k1, k2, k3, k4, k5⟩ => by
  refine ⟨δ, Hv, n, _, _, r, h, (fun xs H1 Hv1 n1 J h1 e1 p1 wk => ?_), k5.e r⟩
  refine for_it wk (fun i σ' H' => ∃ δ' Hv' n', Rel Z.g Z.H0 Z.Hv0 σ' H' Hv' δ' n' ∧ Same Hv1 Hv' ∧ forGo tg t F (xs.drop i) δ' n') ⟨δ, Hv1, n1, r.step e1 p1, .refl _, h1⟩ ?_ ?_ ?_
  · rintro i σ' H' _ ⟨δ', Hv', n', r', s', _⟩
    exact s'.trans r'.sub
  · rintro i v σ2 H2 H3 hi ⟨δ2, Hv2, n2, r2, s2, g2⟩ y
    obtain ⟨d, Hv3, hd, e3, sm, k⟩ := y Hv2 s2 r2.sub
    rw [drop_at hd] at g2
    obtain ⟨δ3, ht, g3⟩ := g2
    have r3 := r2.step e3 (r2.pen.mono sm (Nat.le_refl _))
    refine ho r3 k ht fun σ4 r4 _ => ?_
    have s3 := s2.trans e3.see
    have s03 := e1.see.trans s3
    exact ⟨δ3, Hv3, n2, _, r4, g3, fun δ5 n5 σ5 H5 Hv5 a b r5 => ⟨δ5, Hv5, n5, r5, s3.trans b, a⟩, k2, k1.see s03, fun δ5 n5 σ5 H5 Hv5 a b r5 => ⟨δ5, Hv5, n5, r5, s3.trans b, a⟩, k5.see s03⟩
  · rintro σ2 H2 ⟨δ2, Hv2, n2, r2, s2, g2⟩
    rw [List.drop_length] at g2
    exact k1 _ _ _ _ _ g2 (e1.see.trans s2) r2
theorem wipe_rel {g : G} {H0 Hv0 : Hp} {σ : L2.St} {H Hv : Hp} {δ : DS} {n : Nat} (r : Rel g H0 Hv0 σ H Hv δ n) : ∀ vs : List Nat, Rel g H0 Hv0 (wipe σ vs) H Hv (wipeD δ vs) n
  | [] => r
  | v :: vs => (wipe_rel r vs).wipe1
abbrev Zx.calm (Z : Zx) : Zx := ⟨Z.g, Z.H0, Z.Hv0, fun _ _ _ _ => False⟩
theorem ext_hid {g : G} {H Hv : Hp} {p : Addr} {o : HO} (s : Same Hv H) (h : H p = none) : Ext g H Hv (upd H p o) Hv ∧ Hv p = none := by
  have hv : Hv p = none := by
    cases q : Hv p with
    | none => rfl
    | some u => rw [s _ _ q] at h; cases h
  exact ⟨⟨.of (same_new h), .refl _, s.trans (same_new h), fun a h1 _ => h1, fun z => z⟩, hv⟩
theorem wipe_sub (σ : L2.St) (vs : List Nat) : ∀ ws : List Nat, (∀ i ∈ ws, i ∈ vs) → wipe (wipe σ ws) vs = wipe σ vs
  | [], _ => rfl
  | w :: ws, h => by
    show wipe ((wipe σ ws).set w none) vs = _
    rw [wipe_set (h w List.mem_cons_self), wipe_sub σ vs ws fun i hi => h i (List.mem_cons_of_mem _ hi)]
theorem lc_lift {tt : TT} {vs : List Nat} {Z0 : Zx} (hv : ∀ i ∈ tg.is, i ∈ vs) (ho : TgOk Z.calm tg gg) (htt : ∀ σ H R, liftT Z.calm dt σ H R → tt σ H R) {σ : L2.St} {H Hv : Hp} {δ : DS} {n : Nat} {P : List D → Nat → Prop} {Q : VK} {E : XD}
    (r : Rel Z.g Z.H0 Z.Hv0 σ H Hv δ n) (h : dLc it tg dt de vs δ n P E) (q : ∀ ys p ws H' Hv' n', P ys n' → Ext Z.g H Hv H' Hv' → Pn Z.g H' n' → H p = none → H' p = some (.lst ws) → Hv' p = none → DvAll Z.g Hv' ws ys → Q (.ref p) H') (x : EOk Z.g H Hv E (fun c d H' => Z.W c d σ H')) :
    tLc (liftI Z it) gg tt (lift Z.calm de) vs σ H Q := by
  refine ⟨δ, Hv, n, _, E, r, h, (fun xs H1 Hv1 n1 J h1 e1 p1 wk => ?_), x⟩
  obtain ⟨hsz, h1⟩ := h1
  intro Dd hD
  obtain ⟨e2, hv2⟩ := ext_hid (g := Z.g) (o := .lst []) e1.sub hD
  have nD : H Dd = none := by
    cases z : H Dd with
    | none => rfl
    | some o =>
      by_cases ez : Dd = Z.g.pd
      · subst ez; exact absurd hD p1.pd
      · obtain ⟨_, w, _⟩ := e1.but _ _ ez z
        rw [w] at hD; cases hD
  have npd : Dd ≠ Z.g.pd := fun z => p1.pd (by rw [← z]; exact hD)
  have npc : Dd ≠ Z.g.pc := fun z => p1.pc (by rw [← z]; exact hD)
  refine lc_it wk (fun i H' => ∃ Hv' n' acc ws, Ext Z.g H1 Hv1 H' Hv' ∧ Pn Z.g H' n' ∧ H' Dd = some (.lst ws) ∧ Hv' Dd = none ∧ DvAll Z.g Hv' ws acc ∧ acc.length ≤ i ∧ lcGo tg dt de (wipeD δ vs) (xs.drop i) n' (fun ys n2 => P (acc ++ ys) n2)) ?_ ?_ ?_ ?_
  · exact ⟨Hv1, n1, [], [], e2, p1.mono (same_new hD) (Nat.le_refl _), upd_same, hv2, .nil, Nat.zero_le _, h1⟩
  · rintro i H' _ ⟨Hv', n', acc, ws, a1, _⟩
    exact a1.see.trans a1.sub
  · rintro i v H2 H3 hi ⟨Hv2, n2, acc, ws, a1, a2, a3, a4, a5, al, a6⟩ y
    obtain ⟨d, Hv3, hd, e3, sm, k⟩ := y Hv2 a1.see a1.sub
    rw [drop_at hd] at a6
    obtain ⟨δ3, ht, g3⟩ := a6
    have p3 : Pn Z.g H3 n2 := a2.mono sm (Nat.le_refl _)
    have a13 := a1.trans (fun _ => a2.pd) e3
    have r3 : Rel Z.g Z.H0 Z.Hv0 (wipe σ vs) H3 Hv3 (wipeD δ vs) n2 := (wipe_rel (r.step e1 p1) vs).step a13 p3
    refine ho r3 k ht fun σ4 r4 w4 => ⟨by rw [w4 vs hv]; exact wipe_sub σ vs vs fun _ h => h, ?_⟩
    refine htt _ _ _ ⟨δ3, Hv3, n2, _, _, r4, g3, (fun b vb H5 Hv5 n5 h5 e5 p5 k5 => ?_), fun _ _ _ _ _ _ _ z => z.elim⟩
    obtain ⟨cb, rfl, h5⟩ := h5
    refine ⟨cb, dv_bl k5, ?_⟩
    show (if cb = true then _ else _)
    have hD3 : H3 Dd = some (.lst ws) := sm _ _ a3
    have hD5 : H5 Dd = some (.lst ws) := e5.at npd hD3 (fun _ z => by cases z)
    have hvD3 : Hv3 Dd = none := e3.hid _ a4 (by rw [a3]; simp)
    have hvD5 : Hv5 Dd = none := e5.hid _ hvD3 (by rw [hD3]; simp)
    have a15 := a13.trans (fun _ => p3.pd) e5
    cases cb with
    | false =>
      rw [if_neg Bool.false_ne_true] at h5 ⊢
      exact ⟨Hv5, n5, acc, ws, a15, p5, hD5, hvD5, a5.mono (e3.see.trans e5.see), by omega, h5⟩
    | true =>
      rw [if_pos rfl] at h5 ⊢
      refine ⟨δ3, Hv5, n5, _, _, r4.step e5 p5, h5, (fun dy vy H6 Hv6 n6 h6 e6 p6 k6 => ?_), fun _ _ _ _ _ _ _ z => z.elim⟩
      have hD6 : H6 Dd = some (.lst ws) := e6.at npd hD5 (fun _ z => by cases z)
      have hvD6 : Hv6 Dd = none := e6.hid _ hvD5 (by rw [hD5]; simp)
      have a16 := a15.trans (fun _ => p5.pd) e6
      have a56 := a5.mono ((e3.see.trans e5.see).trans e6.see)
      refine ⟨ws, hD6, ?_, Hv6, n6, acc ++ [dy], ws ++ [vy], ⟨fun bb o nb eo => ?_, a16.see, fun bb o eo => ?_, a16.hid, a16.nt⟩, p6.upd npd npc (Nat.le_refl _) hD6, upd_same, hvD6, a56.append (.cons k6 .nil), by rw [List.length_append]; show acc.length + 1 ≤ i + 1; omega, ?_⟩
      · rw [a5.len]; omega
      · have : bb ≠ Dd := fun z => by rw [z, hD] at eo; cases eo
        obtain ⟨o', w1, w2⟩ := a16.but _ _ nb eo
        exact ⟨o', (by rw [upd_ne this]; exact w1), w2⟩
      · have : bb ≠ Dd := fun z => by rw [z, hvD6] at eo; cases eo
        rw [upd_ne this]; exact a16.sub _ _ eo
      · have ea : ∀ ys : List D, (acc ++ [dy]) ++ ys = acc ++ dy :: ys := fun ys => by simp
        simp only [ea]
        exact h6
  · rintro H' ⟨Hv', n', acc, ws, a1, a2, a3, a4, a5, _, a6⟩
    rw [List.drop_length] at a6
    have a6 : P (acc ++ []) n' := a6
    rw [List.append_nil] at a6
    exact q acc Dd ws H' Hv' n' a6 (e1.trans (fun _ => p1.pd) a1) a2 nD a3 a4 a5
end
def iSeq (K : PySem.W.Frag) (te : TE) : TI := fun σ H R => te σ H fun x H1 => (∃ a xs, x = .ref a ∧ SqL K H1 a xs ∧ R (Itl K a) H1) ∨ (∃ a xs, x = .ref a ∧ SqT K H1 a xs ∧ R (Itt K a) H1) ∨ (∃ z, x = .str z ∧ R (Its z) H1)
theorem pi_seq {X : Cx} {tg l : Expr} {te : TE} (hl : PE X l te) : PI X tg l (iSeq X.K te) := by
  refine ⟨fun pins s σ H R I h => ?_⟩
  refine thn (hl.run pins s σ H _ I h) fun v s1 ⟨x, H1, I1, r1, q1⟩ => ?_
  rcases q1 with ⟨a, xs, rfl, hq, q⟩ | ⟨a, xs, rfl, hq, q⟩ | ⟨z, rfl, q⟩
  · cases r1
    obtain ⟨its, rv, p, hz⟩ := I1.list hq
    refine wpAny_pyIter_list p.isList ?_
    refine ⟨s1.heap.objs.size, [s1.heap.objs.size], _, _, H1, rfl, I1.kept (t' := s1.toks) fun b o e => Heap.get?_push_of_some _ e, turn_list a _, ⟨_, Heap.get?_push_size _ rfl, rfl, rfl⟩, fun b hb => ?_, q⟩
    have e : b = s1.heap.objs.size := by simpa using hb
    subst e
    exact I1.fpOk (Nat.le_refl _) (I1.hok.fresh (Nat.le_refl _))
  · cases r1
    obtain ⟨its, rv, p, hz⟩ := I1.tuple hq
    refine wpAny_pyIter_tuple (show s1.heap.IsTuple a its.toArray from p) ?_
    refine ⟨s1.heap.objs.size, [s1.heap.objs.size], _, _, H1, rfl, I1.kept (t' := s1.toks) fun b o e => Heap.get?_push_of_some _ e, turn_tuple a _, ⟨_, Heap.get?_push_size _ rfl, rfl, rfl⟩, fun b hb => ?_, q⟩
    have e : b = s1.heap.objs.size := by simpa using hb
    subst e
    exact I1.fpOk (Nat.le_refl _) (I1.hok.fresh (Nat.le_refl _))
  · obtain ⟨t, rfl⟩ := r1
    cases ha : z.cps.all (· < 128)
    · exact wpAny_pyIter_wide ha (pi_one (tk := s1.toks) I1 _ (turn_str _ z t "str_iterator" (.inr rfl)) ⟨_, Heap.get?_push_size _ rfl, rfl, rfl⟩ q)
    · exact wpAny_pyIter_ascii ha (pi_one (tk := s1.toks) I1 _ (turn_str _ z t "str_ascii_iterator" (.inl rfl)) ⟨_, Heap.get?_push_size _ rfl, rfl, rfl⟩ q)
def iEnumA (K : PySem.W.Frag) (ta : TA) : TI := fun σ H R => ta σ H fun vs H1 => (∃ a xs, vs = [.ref a] ∧ SqL K H1 a xs ∧ R (Ite K a) H1) ∨ (∃ a xs, vs = [.ref a] ∧ SqT K H1 a xs ∧ R (Itet K a 0) H1) ∨ (∃ z, vs = [.str z] ∧ R (Ites z) H1)
theorem pi_enumA {X : Cx} {e : Expr} {ta : TA} {p pos tpos : Pos} {elts : List Expr} {kk : Nat} (hg : Gl X "enumerate") (hm : X.mg "enumerate" = none) (ha : PA X [e] ta) (hs : starEach [e] X.env = [(false, eval e X.env)] := by rfl) :
    PI X (.Tuple elts kk tpos) (.Call (.Name "enumerate" p) [e] [] pos) (iEnumA X.K ta) := by
  refine ⟨fun pins s σ H R I h => ?_⟩
  refine Call_ (ld_blt I hg hm boot_enumerate (PyProof.Rows.callWith_type1 (thn (ha.run pos pins s σ H _ I h) fun us s1 ⟨vs, H1, I1, r1, q1⟩ => ?_) hs rfl))
  rcases q1 with ⟨a, xs, rfl, hq, q⟩ | ⟨a, xs, rfl, hq, q⟩ | ⟨z, rfl, q⟩
  · cases r1 with
    | cons r rr =>
      cases rr
      cases r
      obtain ⟨its, rv, p', hz⟩ := I1.list hq
      refine call_enumerate_list p'.isList fun h' he hit hsz hk => wpAny_pyIter_enum he ?_
      have I2 : Inv X pins σ H1 { s1 with heap := h' } := I1.kept (t' := s1.toks) hk
      refine ⟨s1.heap.objs.size + 1, [s1.heap.objs.size + 1, s1.heap.objs.size], _, _, H1, rfl, I2, turn_enum a (s1.heap.objs.size + 1) s1.heap.objs.size, ⟨⟨.none, he⟩, hit, Nat.succ_ne_self _⟩, fun b hb => ?_, q⟩
      have e' : b = s1.heap.objs.size + 1 ∨ b = s1.heap.objs.size := by simpa using hb
      have hle : s1.heap.objs.size ≤ b := by
        rcases e' with z | z
        · rw [z]; exact Nat.le_add_right _ _
        · rw [z]; exact Nat.le_refl _
      exact I1.fpOk hle (I1.hok.fresh hle)
  · cases r1 with
    | cons r rr =>
      cases rr
      cases r
      obtain ⟨its, rv, p', hz⟩ := I1.tuple hq
      have hT := isTup_isTuple p'
      have hlt : a < s1.heap.objs.size := by obtain ⟨o, h1, _⟩ := hT; exact Heap.lt_size h1
      refine br_enum1 (begins_tuple a its.toArray) hT fun h' he hit hsz hk => wpAny_pyIter_enum he ?_
      have I2 : Inv X pins σ H1 { s1 with heap := h' } := I1.kept (t' := s1.toks) hk
      refine ⟨s1.heap.objs.size + 1, [s1.heap.objs.size + 1, s1.heap.objs.size], _, _, H1, rfl, I2, turn_enumT a (s1.heap.objs.size + 1) s1.heap.objs.size 0 (Nat.ne_of_lt hlt) (Nat.ne_of_lt (Nat.lt_succ_of_lt hlt)), ⟨⟨.none, he⟩, ⟨_, hit, rfl, rfl⟩, Nat.succ_ne_self _⟩, fun b hb => ?_, q⟩
      have e' : b = s1.heap.objs.size + 1 ∨ b = s1.heap.objs.size := by simpa using hb
      have hle : s1.heap.objs.size ≤ b := by
        rcases e' with z | z
        · rw [z]; exact Nat.le_add_right _ _
        · rw [z]; exact Nat.le_refl _
      exact I1.fpOk hle (I1.hok.fresh hle)
  · cases r1 with
    | cons r rr =>
      cases rr
      obtain ⟨t, rfl⟩ := r
      refine call_enumerate_str fun h' he hit hsz hk => wpAny_pyIter_enum he ?_
      have I2 : Inv X pins σ H1 { s1 with heap := h' } := I1.kept (t' := s1.toks) hk
      refine ⟨s1.heap.objs.size + 1, [s1.heap.objs.size + 1, s1.heap.objs.size], _, _, H1, rfl, I2, turn_enumS z t (s1.heap.objs.size + 1) s1.heap.objs.size, ⟨⟨.none, he⟩, hit, Nat.succ_ne_self _, Nat.zero_le _⟩, fun b hb => ?_, q⟩
      have e' : b = s1.heap.objs.size + 1 ∨ b = s1.heap.objs.size := by simpa using hb
      have hle : s1.heap.objs.size ≤ b := by
        rcases e' with z | z
        · rw [z]; exact Nat.le_add_right _ _
        · rw [z]; exact Nat.le_refl _
      exact I1.fpOk hle (I1.hok.fresh hle)
def signs (z : Str) : List D := z.cps.toList.map fun c => .str ⟨#[c]⟩
def gIter : List D → Option (List D)
  | [.lst xs] => some xs
  | [.tup xs] => some xs
  | [.str z] => some (signs z)
  | _ => none
def intsD (lo : Int) (n : Nat) : List D := (List.range n).map fun (k : Nat) => .int (lo + k)
def gRange : List D → Option (List D)
  | [.int j] => if -(2 ^ 62) ≤ j ∧ j < 2 ^ 62 then some (intsD 0 j.toNat) else none
  | _ => none
def gRange2 : List D → Option (List D)
  | [.int i, .int j] => if (-(2 ^ 62) ≤ i ∧ i < 2 ^ 62) ∧ -(2 ^ 62) ≤ j ∧ j < 2 ^ 62 then some (intsD i (j - i).toNat) else none
  | _ => none
def numd (k : Int) : List D → List D
  | [] => []
  | x :: xs => .tup [.int k, x] :: numd (k + 1) xs
theorem numd_at {k : Int} {xs : List D} {i : Nat} {x : D} (h : xs[i]? = some x) : (numd k xs)[i]? = some (.tup [.int (k + (i : Nat)), x]) := by
  induction xs generalizing k i with
  | nil => simp at h
  | cons y ys ih =>
    cases i with
    | zero =>
      rw [List.getElem?_cons_zero] at h
      cases h
      show some (D.tup [.int k, _]) = _
      rw [show k + ((0 : Nat) : Int) = k by omega]
    | succ i =>
      rw [List.getElem?_cons_succ] at h
      show (numd (k + 1) ys)[i]? = _
      rw [ih h, show k + 1 + (i : Int) = k + ((i + 1 : Nat) : Int) by omega]
theorem numd_len (k : Int) (xs : List D) : (numd k xs).length = xs.length := by
  induction xs generalizing k with
  | nil => rfl
  | cons y ys ih => show (numd (k + 1) ys).length + 1 = _; rw [ih]; rfl
def gEnum : List D → Option (List D)
  | [.lst xs] => some (numd 0 xs)
  | [.tup xs] => some (numd 0 xs)
  | [.str z] => some (numd 0 (signs z))
  | _ => none
def gEnumK : List D → Option (List D)
  | [.tup xs, .int k] => if -(2 ^ 62) ≤ k ∧ k < 2 ^ 62 then some (numd k xs) else none
  | _ => none
theorem wk_list {g : G} {H : Hp} {a : Addr} {vs : List V} {ds : List D} (h : H a = some (.lst vs)) (k : DvAll g H vs ds) : Wk g H (Itl g.K a) ds := by
  have w := walk_l (K := g.K) (a := a) (xs := vs)
  rw [k.len] at w
  refine w.mono (fun H' s => sqL (s _ _ h)) fun i H1 v H' hi s y Hv sv su => ?_
  obtain ⟨rfl, e⟩ := y
  obtain ⟨d, e1, e2⟩ := k.getV e
  exact ⟨d, Hv, e1, .refl su, .refl _, e2.mono sv⟩
theorem wk_tup {g : G} {H : Hp} {a : Addr} {vs : List V} {ds : List D} (h : SqT g.K H a vs) (k : DvAll g H vs ds) : Wk g H (Itt g.K a) ds := by
  have w := walk_t (K := g.K) (a := a) (xs := vs)
  rw [k.len] at w
  refine w.mono (fun H' s => same_seqT s h) fun i H1 v H' hi s y Hv sv su => ?_
  obtain ⟨rfl, e⟩ := y
  obtain ⟨d, e1, e2⟩ := k.getV e
  exact ⟨d, Hv, e1, .refl su, .refl _, e2.mono sv⟩
theorem signs_len (z : Str) : (signs z).length = z.cps.size := by
  unfold signs
  rw [List.length_map, Array.length_toList]
theorem signs_at {z : Str} {i c : Nat} (h : z.cps[i]? = some c) : (signs z)[i]? = some (.str ⟨#[c]⟩) := by
  unfold signs
  rw [List.getElem?_map, Array.getElem?_toList, h]
  rfl
theorem wk_str {g : G} {H : Hp} {z : Str} : Wk g H (Its z) (signs z) := by
  have w := walk_str (z := z)
  rw [← signs_len] at w
  refine w.mono (fun _ _ => trivial) fun i H1 v H' hi s y Hv sv su => ?_
  obtain ⟨rfl, c, e1, rfl⟩ := y
  exact ⟨_, Hv, signs_at e1, .refl su, .refl _, .str _⟩
theorem intsD_len (lo : Int) (n : Nat) : (intsD lo n).length = n := by unfold intsD; rw [List.length_map, List.length_range]
theorem intsD_at {lo : Int} {n i : Nat} (h : i < n) : (intsD lo n)[i]? = some (.int (lo + i)) := by
  unfold intsD
  rw [List.getElem?_map, List.getElem?_range h]
  rfl
theorem wk_intsD {g : G} {H : Hp} {lo : Int} {n : Nat} : Wk g H (Itr lo n) (intsD lo n) := by
  have w := walk_r (lo := lo) (n := n)
  rw [show Walk (Itr lo n) n = Walk (Itr lo n) (intsD lo n).length by rw [intsD_len]] at w
  refine w.mono (fun _ _ => trivial) fun i H1 v H' hi s y Hv sv su => ?_
  obtain ⟨rfl, rfl⟩ := y
  rw [intsD_len] at hi
  exact ⟨_, Hv, intsD_at hi, .refl su, .refl _, .int _⟩
theorem pair_ext {g : G} {H Hv : Hp} {T : Addr} {x : V} {d : D} {k : Int} (s : Same Hv H) (h : H T = none) (kx : Dv g Hv x d) : Ext g H Hv (upd H T (.tup [.int k, x])) (upd Hv T (.tup [.int k, x])) ∧ Dv g (upd Hv T (.tup [.int k, x])) (.ref T) (.tup [.int k, d]) := by
  have e := ext_new (g := g) (o := .tup [.int k, x]) s h
  exact ⟨e, .tup (sqT upd_same) (.cons (.int k) (.cons (kx.mono e.see) .nil))⟩
theorem wk_enum {g : G} {H : Hp} {a : Addr} {vs : List V} {ds : List D} (h : H a = some (.lst vs)) (k : DvAll g H vs ds) : Wk g H (Ite g.K a) (numd 0 ds) := by
  have w := walk_enum (K := g.K) (a := a) (xs := vs)
  rw [show Walk (Ite g.K a) vs.length = Walk (Ite g.K a) (numd 0 ds).length by rw [numd_len, k.len]] at w
  refine w.mono (fun H' s => sqL (s _ _ h)) fun i H1 v H' hi s y Hv sv su => ?_
  obtain ⟨T, i', x, rfl, hT, rfl, e1, e⟩ := y
  have e1' : V.int ((i : Nat) : Int) = i' := Option.some.inj e1
  subst e1'
  obtain ⟨d, e1, e2⟩ := k.getV e
  obtain ⟨a1, a2⟩ := pair_ext (k := (i : Nat)) su hT (e2.mono sv)
  exact ⟨_, _, by rw [numd_at e1, show (0 : Int) + (i : Nat) = (i : Nat) by omega], a1, same_new hT, a2⟩
theorem wk_enumT {g : G} {H : Hp} {a : Addr} {vs : List V} {ds : List D} {k0 : Int} (h : SqT g.K H a vs) (k : DvAll g H vs ds) : Wk g H (Itet g.K a k0) (numd k0 ds) := by
  have w := walk_et (K := g.K) (a := a) (xs := vs) (k := k0)
  rw [show Walk (Itet g.K a k0) vs.length = Walk (Itet g.K a k0) (numd k0 ds).length by rw [numd_len, k.len]] at w
  refine w.mono (fun H' s => same_seqT s h) fun i H1 v H' hi s y Hv sv su => ?_
  obtain ⟨T, x, rfl, hT, rfl, e⟩ := y
  obtain ⟨d, e1, e2⟩ := k.getV e
  obtain ⟨a1, a2⟩ := pair_ext (k := k0 + (i : Nat)) su hT (e2.mono sv)
  exact ⟨_, _, numd_at e1, a1, same_new hT, a2⟩
theorem wk_enumS {g : G} {H : Hp} {z : Str} : Wk g H (Ites z) (numd 0 (signs z)) := by
  have w := walk_es (x := z)
  rw [show Walk (Ites z) z.cps.size = Walk (Ites z) (numd 0 (signs z)).length by rw [numd_len, signs_len]] at w
  refine w.mono (fun _ _ => trivial) fun i H1 v H' hi s y Hv sv su => ?_
  obtain ⟨T, c, rfl, hT, rfl, e⟩ := y
  obtain ⟨a1, a2⟩ := pair_ext (g := g) (k := (i : Nat)) su hT (.str ⟨#[c]⟩)
  exact ⟨_, _, by rw [numd_at (signs_at e), show (0 : Int) + (i : Nat) = (i : Nat) by omega], a1, same_new hT, a2⟩
section
variable {X : Cx} {Z : Zx} {e a b c tge : Expr} {de : DE} {ra : DA} {pos p tpos : Pos}
theorem di_seq (hK : Z.g.K = X.K) (h : PE X e (lift Z de)) : PI X tge e (liftI Z (dIt gIter (dCons de dNil))) := upI (pi_seq h) fun σ H R ⟨δ, Hv, n, P, E, r, h1, q, x⟩ => by
  refine ⟨δ, Hv, n, _, E, r, h1, (fun d v H' Hv' n' h2 e p k => ?_), x⟩
  obtain ⟨ys, hy, h3⟩ := h2
  rw [← hK]
  cases k with
  | lst ha ks => cases hy; exact .inl ⟨_, _, rfl, sqL (e.sub _ _ ha), q _ _ _ _ _ h3 e p (wk_list ha ks)⟩
  | tup ha ks => cases hy; exact .inr (.inl ⟨_, _, rfl, same_seqT e.sub ha, q _ _ _ _ _ h3 e p (wk_tup ha ks)⟩)
  | str z => cases hy; exact .inr (.inr ⟨z, rfl, q _ _ _ _ _ h3 e p wk_str⟩)
  | _ => cases hy
theorem di_range1 (hg : Gl X "range") (hm : X.mg "range" = none) (ha : PE X a (lift Z de)) (hs : starEach [a] X.env = [(false, eval a X.env)] := by rfl) : PI X tge (.Call (.Name "range" p) [a] [] pos) (liftI Z (dIt gRange (dCons de dNil))) :=
  upI (pi_range1 hg hm (da_cons (Z := Z) ha da_nil hs) hs) fun σ H R ⟨δ, Hv, n, P, E, r, h1, q, x⟩ => by
  refine ⟨δ, Hv, n, _, E, r, h1, (fun d v H' Hv' n' h2 e p k => ?_), x⟩
  obtain ⟨ys, hy, h3⟩ := h2
  unfold gRange at hy
  split at hy
  · rename_i j
    split at hy
    · rename_i hj
      cases hy
      cases k with
      | cons k1 k2 =>
        cases k2
        cases k1
        exact ⟨j, rfl, hj.1, hj.2, q _ _ _ _ _ h3 e p wk_intsD⟩
    · cases hy
  · cases hy
theorem di_range2 (hg : Gl X "range") (hm : X.mg "range" = none) (ha : PA X [a, b] (liftA Z ra)) (hs : starEach [a, b] X.env = [(false, eval a X.env), (false, eval b X.env)] := by rfl) (hs2 : starEach [b] X.env = [(false, eval b X.env)] := by rfl) :
    PI X tge (.Call (.Name "range" p) [a, b] [] pos) (liftI Z (dIt gRange2 ra)) := upI (pi_range2 hg hm ha hs hs2) fun σ H R ⟨δ, Hv, n, P, E, r, h1, q, x⟩ => by
  refine ⟨δ, Hv, n, _, E, r, h1, (fun d v H' Hv' n' h2 e p k => ?_), x⟩
  obtain ⟨ys, hy, h3⟩ := h2
  unfold gRange2 at hy
  split at hy
  · rename_i i j
    split at hy
    · rename_i hj
      cases hy
      cases k with
      | cons k1 k2 =>
        cases k2 with
        | cons k2 k3 =>
          cases k3
          cases k1
          cases k2
          exact ⟨i, j, rfl, ⟨hj.1.1, hj.1.2, hj.2.1, hj.2.2⟩, q _ _ _ _ _ h3 e p wk_intsD⟩
    · cases hy
  · cases hy
theorem di_enum {elts : List Expr} {kk : Nat} (hK : Z.g.K = X.K) (hg : Gl X "enumerate") (hm : X.mg "enumerate" = none) (ha : PA X [a] (liftA Z ra)) (hs : starEach [a] X.env = [(false, eval a X.env)] := by rfl) :
    PI X (.Tuple elts kk tpos) (.Call (.Name "enumerate" p) [a] [] pos) (liftI Z (dIt gEnum ra)) := upI (pi_enumA hg hm ha hs) fun σ H R ⟨δ, Hv, n, P, E, r, h1, q, x⟩ => by
  refine ⟨δ, Hv, n, _, E, r, h1, (fun d v H' Hv' n' h2 e p k => ?_), x⟩
  obtain ⟨ys, hy, h3⟩ := h2
  rw [← hK]
  unfold gEnum at hy
  split at hy
  · cases hy
    cases k with
    | cons k1 k2 =>
      cases k2
      cases k1 with
      | lst ha ks => exact .inl ⟨_, _, rfl, sqL (e.sub _ _ ha), q _ _ _ _ _ h3 e p (wk_enum ha ks)⟩
  · cases hy
    cases k with
    | cons k1 k2 =>
      cases k2
      cases k1 with
      | tup ha ks => exact .inr (.inl ⟨_, _, rfl, same_seqT e.sub ha, q _ _ _ _ _ h3 e p (wk_enumT ha ks)⟩)
  · cases hy
    cases k with
    | cons k1 k2 =>
      cases k2
      cases k1
      exact .inr (.inr ⟨_, rfl, q _ _ _ _ _ h3 e p wk_enumS⟩)
  · cases hy
theorem yes_lift : ∀ σ H R, liftT Z (dC (.bl true)) σ H R → tYes σ H R := fun σ H R ⟨δ, Hv, n, P, E, r, h1, q, x⟩ => by
  obtain ⟨k, e, h⟩ := q (.bl true) (.bl true) H Hv n h1 (.refl r.sub) r.pen (.bl true)
  cases e
  exact h
theorem id_lift {dt : DE} : ∀ σ H R, liftT Z dt σ H R → liftT Z dt σ H R := fun _ _ _ h => h
variable {elt iter : Expr} {ifs : List Expr} {scope : Scope} {own : List (Str × Nat)} {it : DA} {dt : DE} {tg : Tg} {gg : TG} {tt : TT}
theorem d_lc (hc : X.calm = true) (hN : X.N.Nodup) (hi : PI X tge iter (liftI Z it)) (ok : BlkOk X.N X.env.scope scope own)
    (hg : ∀ (s : Shared) (H : Hp) (C : Addr) (cl : List (Str × Addr)) (fp : List Addr), PG (X.blk s H scope (compEnvC scope cl C X.env) fp) tge gg) (ho : TgOk Z.calm tg gg) (ht : ∀ (s : Shared) (H : Hp) (C : Addr) (cl : List (Str × Addr)) (fp : List Addr), PTs (X.blk s H scope (compEnvC scope cl C X.env) fp) ifs tt)
    (htt : ∀ σ H R, liftT Z.calm dt σ H R → tt σ H R) (he : ∀ (s : Shared) (H : Hp) (C : Addr) (cl : List (Str × Addr)) (fp : List Addr), PE (X.blk s H scope (compEnvC scope cl C X.env) fp) elt (lift Z.calm de)) (hv : ∀ i ∈ tg.is, i ∈ own.map (·.2))
    (hs : ∀ x, foldedSetIterable iter X.env x = pure x := by intro _; rfl) : PE X (.ListComp elt [⟨tge, iter, ifs, 0⟩] scope pos) (lift Z (dNew (dLc it tg dt de (own.map (·.2))))) :=
  up (pe_lc hc hN hi ok hg ht he hs) fun σ H Q ⟨δ, Hv, n, P, E, r, h1, q, x⟩ => lc_lift (Z0 := Z) hv ho htt r h1 (fun ys p ws H' Hv' n' h2 e pn hp hp' hv' k => by
    refine q (.lst ys) (.ref p) H' (upd Hv' p (.lst ws)) n' h2 ⟨e.but, e.see.trans (same_new hv'), fun b o hb => ?_, fun a h3 h4 => ?_, fun z => (e.nt z).upd (fun _ w => by cases w)⟩ pn (.lst upd_same (k.mono (same_new hv')))
    · by_cases eb : b = p
      · subst eb; rw [upd_same] at hb; cases hb; exact hp'
      · rw [upd_ne eb] at hb; exact e.sub _ _ hb
    · have : a ≠ p := fun z => h4 (by rw [z]; exact hp)
      rw [upd_ne this]; exact e.hid a h3 h4) x
theorem ds_setLc {i : Nat} {y : Str} {py spos : Pos} (hc : X.calm = true) (hN : X.N.Nodup) (hy : X.N[i]? = some y) (hyl : X.env.scope.names.lookup y = some .local)
    (hsw : swapsWith (.ListComp elt [⟨tge, iter, ifs, 0⟩] scope pos) (some (.Name y py)) spos.line X.env = pure true) (hi : PI X tge iter (liftI Z it)) (ok : BlkOk X.N X.env.scope scope own)
    (hg : ∀ (s : Shared) (H : Hp) (C : Addr) (cl : List (Str × Addr)) (fp : List Addr), PG (X.blk s H scope (compEnvC scope cl C X.env) fp) tge gg) (ho : TgOk Z.calm tg gg) (ht : ∀ (s : Shared) (H : Hp) (C : Addr) (cl : List (Str × Addr)) (fp : List Addr), PTs (X.blk s H scope (compEnvC scope cl C X.env) fp) ifs tt)
    (htt : ∀ σ H R, liftT Z.calm dt σ H R → tt σ H R) (he : ∀ (s : Shared) (H : Hp) (C : Addr) (cl : List (Str × Addr)) (fp : List Addr), PE (X.blk s H scope (compEnvC scope cl C X.env) fp) elt (lift Z.calm de)) (hv : ∀ i ∈ tg.is, i ∈ own.map (·.2))
    (hs : ∀ x, foldedSetIterable iter X.env x = pure x := by intro _; rfl) : PS X (.Assign [.Name y py] (.ListComp elt [⟨tge, iter, ifs, 0⟩] scope pos) spos) (liftS Z (dSet i (dNew (dLc it tg dt de (own.map (·.2)))))) :=
  upS (ps_setLc hc hN hy hyl hsw hi ok hg ht he hs) fun D σ H ⟨δ, Hv, n, F, r, h, k1, k2, k3, k4, k5⟩ => lc_lift (Z0 := Z) hv ho htt r h (fun ys p ws H' Hv' n' h2 e pn hp hp' hv' k => by
    refine k1 _ _ _ _ _ h2 (e.see.trans (same_new hv')) (Rel.set (Hv := upd Hv' p (.lst ws)) ((r.step (H' := H') (Hv' := upd Hv' p (.lst ws)) ⟨e.but, e.see.trans (same_new hv'), fun b o hb => ?_, fun a h3 h4 => ?_, fun z => (e.nt z).upd (fun _ w => by cases w)⟩ pn)) (.lst upd_same (k.mono (same_new hv'))))
    · by_cases eb : b = p
      · subst eb; rw [upd_same] at hb; cases hb; exact hp'
      · rw [upd_ne eb] at hb; exact e.sub _ _ hb
    · have : a ≠ p := fun z => h4 (by rw [z]; exact hp)
      rw [upd_ne this]; exact e.hid a h3 h4) (k5.e r)
end
def startD (N : Nat) (ds : List D) : DS := ds.map (fun d => some (.sh d)) ++ List.replicate (N - ds.length) none
def dDef (m N : Nat) (t : DT) : List D → M D := fun ds n P E => ds.length = m ∧ t ⟨fun _ n' => P .non n', shP P, fun _ _ => False, fun _ _ => False, fun _ => E⟩ (startD N ds) n
def spU (K : PySem.W.Frag) (mg : Str → Option Value) (kn : Kn) (U : List D → M D) : Sp := fun vs H Q E => ∃ pd pc Hv ds n P Ex, Same Hv H ∧ Hd pd Hv ∧ Pn ⟨K, mg, pd, pc, kn⟩ H n ∧ DvAll ⟨K, mg, pd, pc, kn⟩ Hv vs ds ∧ U ds n P Ex ∧ QOk ⟨K, mg, pd, pc, kn⟩ H Hv P Q ∧ EOk ⟨K, mg, pd, pc, kn⟩ H Hv Ex E
def dCall0 (U : List D → M D) (a : DA) : DE := fun δ n P E => a δ n (fun xs n1 => U xs n1 P (fun _ _ _ => False)) E
theorem start_rel {g : G} {H Hv : Hp} {n : Nat} {N : List Str} {vs : List V} {ds : List D} (s : Same Hv H) (np : Hd g.pd Hv) (p : Pn g H n) (k : DvAll g Hv vs ds) : Rel g H Hv (L2.start N vs) H Hv (startD N.length ds) n := by
  have hl := k.len
  have sh : ∀ {i : Nat} {s : Sl}, (startD N.length ds)[i]? = some (some s) → ∃ d, s = .sh d ∧ ds[i]? = some d := fun {i s} h => by
    unfold startD at h
    by_cases hi : i < ds.length
    · rw [List.getElem?_append_left (by simpa using hi), List.getElem?_map] at h
      cases e : ds[i]? with
      | none => rw [e] at h; cases h
      | some d => rw [e] at h; cases h; exact ⟨d, rfl, rfl⟩
    · rw [List.getElem?_append_right (by simpa using hi)] at h
      have := List.mem_of_getElem? h
      rw [List.mem_replicate] at this
      cases this.2
  refine ⟨.refl s, p, p.pd, p.pc, np, ?_, fun i s h => ?_, fun i j s t q h1 h2 o1 o2 _ _ => ?_⟩
  · unfold startD L2.start
    rw [List.length_append, List.length_append, List.length_map, List.length_map, List.length_replicate, List.length_replicate, hl]
  · obtain ⟨d, rfl, hd⟩ := sh h
    obtain ⟨v, e1, e2⟩ := k.get hd
    refine ⟨v, ?_, e2⟩
    unfold L2.start
    have hi : i < vs.length := (List.getElem?_eq_some_iff.mp e1).1
    rw [List.getElem?_append_left (by simpa using hi), List.getElem?_map, e1]
    rfl
  · obtain ⟨d, rfl, _⟩ := sh h1
    cases o1
section
variable {P : Program} {w : World} {K : PySem.W.Frag} {mg : Str → Option Value} {base : Heap} {kn : Kn} {x qual : Str} {st : Stmt} {f : Addr} {fd : FuncData} {N ps : List Str} {k m nn : Nat} {t : DT} {U : List D → M D}
theorem spU_len {vs : List V} {H : Hp} {Q : VK} {E : XK} (h : spU K mg kn (dDef m nn t) vs H Q E) : vs.length = m := by
  obtain ⟨pd, pc, Hv, ds, n, Pz, Ex, _, _, _, k, ⟨hl, _⟩, _⟩ := h
  rw [k.len, hl]
theorem body_of {Z : Zx} {H Hv : Hp} {vs : List V} {ds : List D} {n : Nat} {Pz : D → Nat → Prop} {Ex : XD} {Q : VK} {E : XK} (h0 : Z.H0 = H) (hv0 : Z.Hv0 = Hv) (hW : ∀ c d σ H', E c d H' → Z.W c d σ H') (s : Same Hv H) (np : Hd Z.g.pd Hv) (p : Pn Z.g H n) (k : DvAll Z.g Hv vs ds) (hU : dDef m N.length t ds n Pz Ex) (q : QOk Z.g H Hv Pz Q) (x : EOk Z.g H Hv Ex E) :
    liftS Z t { nx := fun _ H' => Q .non H', rt := Q } (L2.start N vs) H := by
  subst h0 hv0
  refine ⟨startD N.length ds, Z.Hv0, n, _, start_rel s np p k, hU.2, fun δ' n' σ' H' Hv' a b r => q .non .non H' Hv' n' a r.ext r.pen .non, fun s v H' Hv' n' a e p' kd => (match s, a, kd with | .sh d, a, kd => q d v H' Hv' n' a e p' kd), fun _ _ _ _ _ a => a.elim, fun _ _ _ _ _ a => a.elim, fun δ' σ' H' Hv' n' c fs cls dd a b r y => hW _ _ _ _ (x c fs n' cls dd H' Hv' a r.ext r.pen y)⟩
theorem fn_D (F : Fun K x qual st f fd) (S : FnScope N ps (defScope st)) (hm : ps.length = m)
    (hb : ∀ (cdv : Value) (A : Around) (outer : List Env) (s : Shared) (H : Hp) (E : XK) (Z : Zx), Room k (A.deeper (envOfC qual (defScope st) s.heap.objs.size f cdv)) → Z.g.K = K → Z.g.mg = mg → Z.g.kn = kn → PSs (cxOf CX0 P w K mg base N qual (defScope st) f cdv A outer s H E).nox (defBody st) (liftS Z t)) :
    FnOk P w K mg base CX0 (k + 1) f fd ps (spU K mg kn (dDef m N.length t)) := by
  refine F.ok S (fun vs H Q E h => by rw [spU_len h, hm]) (fun cdv A outer s H vs Q E hr h => ?_)
  obtain ⟨pd, pc, Hv, ds, n, Pz, Ex, sm, np, p, kk, hU, q, xx⟩ := h
  exact ⟨_, hb cdv A outer s H E ⟨⟨K, mg, pd, pc, kn⟩, H, Hv, fun c d _ H' => E c d H'⟩ hr rfl rfl rfl, body_of rfl rfl (fun _ _ _ _ z => z) sm np p kk hU q xx⟩
theorem fn_DX (F : Fun K x qual st f fd) (S : FnScope N ps (defScope st)) (hm : ps.length = m)
    (hb : ∀ (cdv : Value) (A : Around) (outer : List Env) (s : Shared) (H : Hp) (E : XK) (Z : Zx), Room k (A.deeper (envOfC qual (defScope st) s.heap.objs.size f cdv)) → Z.g.K = K → Z.g.mg = mg → Z.g.kn = kn → Z.W = (fun c d _ H' => E c d H') → PSs (cxOf (L2.CX P w) P w K mg base N qual (defScope st) f cdv A outer s H E) (defBody st) (liftS Z t)) :
    FnOk P w K mg base (L2.CX P w) (k + 1) f fd ps (spU K mg kn (dDef m N.length t)) := by
  refine F.okX S (fun vs H Q E h => by rw [spU_len h, hm]) (fun cdv A outer s H vs Q E hr h => ?_)
  obtain ⟨pd, pc, Hv, ds, n, Pz, Ex, sm, np, p, kk, hU, q, xx⟩ := h
  exact ⟨_, hb cdv A outer s H E ⟨⟨K, mg, pd, pc, kn⟩, H, Hv, fun c d _ H' => E c d H'⟩ hr rfl rfl rfl rfl, body_of rfl rfl (fun _ _ _ _ z => z) sm np p kk hU q xx⟩
end
section
variable {X : Cx} {Z : Zx} {e a b : Expr} {es : List Expr} {de : DE} {ra : DA} {pos p : Pos} {k : Nat} {x : Str} {ps : List Str} {U : List D → M D}
theorem eta_g {g : G} {K : PySem.W.Frag} {mg : Str → Option Value} {kn : Kn} (h1 : g.K = K) (h2 : g.mg = mg) (h3 : g.kn = kn) : (⟨K, mg, g.pd, g.pc, kn⟩ : G) = g := by
  subst h1 h2 h3
  rfl
theorem d_call0 (o : OkD X.prog X.w X.K X.mg X.base CX0 k x ps (spU X.K X.mg kn U)) (hr : Room k X.A) (zk : Z.g.K = X.K) (zm : Z.g.mg = X.mg) (zn : Z.g.kn = kn) (ha : PA X (e :: es) (liftA Z ra)) (hg : Gl X x := by rfl)
    (hdb : (x == ("__debug__" : Str)) = false := by decide) (he : starEach (e :: es) X.env = (false, eval e X.env) :: starEach es X.env := by rfl) (hpl : (backTo pos (starEach es X.env)).any (·.1) = false := by rfl) :
    PE X (.Call (.Name x p) (e :: es) [] pos) (lift Z (dCall0 U ra)) := up (pe_callD o hr ha hg hdb he hpl) fun σ H Q ⟨δ, Hv, n, P, E, r, h1, q, xx⟩ => by
  refine ⟨δ, Hv, n, _, E, r, h1, (fun d v H' Hv' n' h2 ee p k => ?_), xx⟩
  have eg := eta_g zk zm zn
  refine ⟨Z.g.pd, Z.g.pc, Hv', d, n', P, (fun _ _ _ => False), ee.sub, (r.step ee p).npd, ?_⟩
  rw [eg]
  exact ⟨p, k, h2, q.step ee p, fun _ _ _ _ _ _ _ z => z.elim⟩
theorem d_callX (o : OkD X.prog X.w X.K X.mg X.base (L2.CX X.prog X.w) k x ps (spU X.K X.mg kn U)) (hr : Room k X.A) (zk : Z.g.K = X.K) (zm : Z.g.mg = X.mg) (zn : Z.g.kn = kn) (tk : Takes X Z.W) (ha : PA X (e :: es) (liftA Z ra)) (hg : Gl X x := by rfl)
    (hdb : (x == ("__debug__" : Str)) = false := by decide) (he : starEach (e :: es) X.env = (false, eval e X.env) :: starEach es X.env := by rfl) (hpl : (backTo pos (starEach es X.env)).any (·.1) = false := by rfl) :
    PE X (.Call (.Name x p) (e :: es) [] pos) (lift Z (dCall U ra)) := up (pe_callDS o hr tk ha hg hdb he hpl) fun σ H Q ⟨δ, Hv, n, P, E, r, h1, q, xx⟩ => by
  refine ⟨δ, Hv, n, _, E, r, h1, (fun d v H' Hv' n' h2 ee p k => ?_), xx⟩
  have eg := eta_g zk zm zn
  refine ⟨Z.g.pd, Z.g.pc, Hv', d, n', P, E, ee.sub, (r.step ee p).npd, ?_⟩
  rw [eg]
  exact ⟨p, k, h2, q.step ee p, xx.step ee p⟩
theorem d_callK {kws : List Keyword} {ks : List Str} {gV : List V → List V → List V} {gD : List D → List D} (o : OkK X.prog X.w X.K X.mg X.base k x ks gV (spU X.K X.mg kn U)) (hr : Room k X.A) (zk : Z.g.K = X.K) (zm : Z.g.mg = X.mg) (zn : Z.g.kn = kn) (hkw : PK X kws (liftA Z ra))
    (hG : ∀ {Hv : Hp} {vs : List V} {ds : List D}, DvAll Z.g Hv vs ds → DvAll Z.g Hv (gV [] vs) (gD ds)) (hg : Gl X x := by rfl) (hall : (backToKw pos (keywordEach kws X.env)).all (·.1.isSome) = true := by rfl) (hks : (backToKw pos (keywordEach kws X.env)).filterMap (·.1) = ks := by rfl)
    (hdb : (x == ("__debug__" : Str)) = false := by decide)
    (hpl : ((backTo pos (starEach [] X.env)).any (·.1) || (backToKw pos (keywordEach kws X.env)).any (·.1.isNone)) = false := by rfl) : PE X (.Call (.Name x p) [] kws pos) (lift Z (dCall0 (fun ds => U (gD ds)) ra)) := up (pe_callDK o hr hkw hg hall hks hdb hpl) fun σ H Q ⟨δ, Hv, n, P, E, r, h1, q, xx⟩ => by
  refine ⟨δ, Hv, n, _, E, r, h1, (fun d v H' Hv' n' h2 ee p k => ?_), xx⟩
  have eg := eta_g zk zm zn
  refine ⟨Z.g.pd, Z.g.pc, Hv', gD d, n', P, (fun _ _ _ => False), ee.sub, (r.step ee p).npd, ?_⟩
  rw [eg]
  exact ⟨p, hG k, h2, q.step ee p, fun _ _ _ _ _ _ _ z => z.elim⟩
theorem upK {kws : List Keyword} {t t' : TA} (h : PK X kws t) (k : ∀ σ H Q, t' σ H Q → t σ H Q) : PK X kws t' := ⟨fun pos pins s σ H Q I q => h.run pos pins s σ H Q I (k σ H Q q)⟩
theorem dk_nil : PK X [] (liftA Z dNil) := upK pk_nil fun σ H Q ⟨δ, Hv, n, P, E, r, h1, q, _⟩ => q [] [] H Hv n h1 (.refl r.sub) r.pen .nil
theorem dk_cons {kws : List Keyword} {nm : Option Str} {kpos : Pos} (ha : PE X e (lift Z de)) (hr : PK X kws (liftA Z ra)) : PK X (⟨nm, e, kpos⟩ :: kws) (liftA Z (dCons de ra)) :=
  upK (pk_cons ha hr) fun σ H Q ⟨δ, Hv, n, P, E, r, h1, q, x⟩ => ⟨δ, Hv, n, _, E, r, h1, fun d v H' Hv' n' h2 e p k =>
    ⟨δ, Hv', n', _, E, r.step e p, h2, fun ds vs H2 Hv2 n2 h3 e2 p2 k2 => q (d :: ds) (v :: vs) H2 Hv2 n2 h3 (e.trans (fun _ => p.pd) e2) p2 (.cons (k.mono e2.see) k2), x.step e p⟩, x⟩
end
theorem opr_or {X : Cx} {f : Value → Value → Sem Value} {r r' : R2} (h : OpR X f r) (h' : OpR X f r') : OpR X f (fun x y H Q => r x y H Q ∨ r' x y H Q) := by
  intro pins s σ H x y v u Q I rx ry q
  rcases q with q | q
  · exact h pins s σ H x y v u Q I rx ry q
  · exact h' pins s σ H x y v u Q I rx ry q
theorem slr_or {X : Cx} {r r' : V → Option Int → Option Int → Hp → VK → Prop} (h : SlR X r) (h' : SlR X r') : SlR X (fun x lo hi H Q => r x lo hi H Q ∨ r' x lo hi H Q) := by
  intro pins s σ H x v vl vu lo hi sl Q I rx hs pl pu q
  rcases q with q | q
  · exact h pins s σ H x v vl vu lo hi sl Q I rx hs pl pu q
  · exact h' pins s σ H x v vl vu lo hi sl Q I rx hs pl pu q
def gAdd : List D → Option D
  | [.int i, .int j] => some (.int (i + j))
  | [.str x, .str y] => if x.length + y.length ≤ sizeLine then some (.str (x ++ y)) else none
  | [.lst xs, .lst ys] => if xs.length + ys.length ≤ sizeLine then some (.lst (xs ++ ys)) else none
  | [.tup xs, .tup ys] => if xs.length + ys.length ≤ sizeLine then some (.tup (xs ++ ys)) else none
  | _ => none
section
variable {X : Cx} {Z : Zx} {g : G}
theorem o_add (zk : g.K = X.K) : DOp X g (binaryOp .Add) gAdd := by
  refine ⟨_, opr_or op_add (opr_or op_add_str (opr_or op_cat op_catA)), ?_⟩
  intro H Hv x y dx dy d Q s kx ky hf q
  unfold gAdd at hf
  split at hf
  · rename_i i j e
    cases e; cases hf; cases kx; cases ky
    exact .inl ⟨i, j, rfl, rfl, q.here s (.int _)⟩
  · rename_i a b e
    cases e
    split at hf
    · rename_i hl
      cases hf; cases kx; cases ky
      exact .inr (.inl ⟨a, b, rfl, rfl, hl, q.here s (.str _)⟩)
    · cases hf
  · rename_i a b e
    cases e
    split at hf
    · rename_i hl
      cases hf
      cases kx with
      | @lst p xs _ h1 k1 =>
        cases ky with
        | @lst p2 ys _ h2 k2 => exact .inr (.inr (.inl ⟨p, p2, xs, ys, rfl, rfl, s _ _ h1, s _ _ h2, by rw [k1.len, k2.len]; exact hl, fun a ha => q.lst s ha (k1.append k2)⟩))
    · cases hf
  · rename_i a b e
    cases e
    split at hf
    · rename_i hl
      cases hf
      cases kx with
      | @tup p xs _ h1 k1 =>
        cases ky with
        | @tup p2 ys _ h2 k2 =>
          refine .inr (.inr (.inr ⟨p, p2, xs, ys, rfl, rfl, zk ▸ same_seqT s h1, zk ▸ same_seqT s h2, by rw [k1.len, k2.len]; exact hl, fun e => ?_, fun _ e => ?_, fun _ _ a ha => q.tup s ha (k1.append k2)⟩))
          · subst e; cases k1; exact q.here s (.tup h2 k2)
          · subst e; cases k2; rw [List.append_nil] at q; exact q.here s (.tup h1 k1)
    · cases hf
  · cases hf
def gI2 (f : Int → Int → D) : List D → Option D
  | [.int i, .int j] => some (f i j)
  | _ => none
theorem o_I0 {op : Value → Value → Sem Value} {h : Int → Int → V} {f : Int → Int → D} (o : OpR X op (rI0 h)) (k : ∀ i j Hv, Dv g Hv (h i j) (f i j)) : DOp X g op (gI2 f) := by
  refine ⟨_, o, ?_⟩
  intro H Hv x y dx dy d Q s kx ky hf q
  unfold gI2 at hf
  split at hf
  · rename_i i j e
    cases e; cases hf; cases kx; cases ky
    exact ⟨i, j, rfl, rfl, q.here s (k i j Hv)⟩
  · cases hf
def gSub := gI2 fun i j => .int (i - j)
def gLt := gI2 fun i j => .bl (decide (i < j))
def gLe := gI2 fun i j => .bl (decide (i ≤ j))
def gGt := gI2 fun i j => .bl (decide (j < i))
def gGe := gI2 fun i j => .bl (decide (j ≤ i))
theorem o_sub : DOp X g (binaryOp .Sub) gSub := o_I0 op_sub fun _ _ _ => .int _
theorem o_lt : DOp X g (compareOp .Lt) gLt := o_I0 op_lt fun _ _ _ => .bl _
theorem o_le : DOp X g (compareOp .LtE) gLe := o_I0 op_le fun _ _ _ => .bl _
theorem o_gt : DOp X g (compareOp .Gt) gGt := o_I0 op_gt fun _ _ _ => .bl _
def gIc (C : Int → Int → Prop) [∀ i j, Decidable (C i j)] (f : Int → Int → D) : List D → Option D
  | [.int i, .int j] => if C i j then some (f i j) else none
  | _ => none
instance (i j : Int) : Decidable (CMulW i j) := by unfold CMulW; infer_instance
instance (i j : Int) : Decidable (CDivW i j) := by unfold CDivW; infer_instance
instance (i j : Int) : Decidable (CPow i j) := by unfold CPow; infer_instance
def gMod := gIc (fun _ j => 0 < j) fun i j => .int (i % j)
def gDiv := gIc CDivW fun i j => .int (i / j)
def gPow := gIc CPow fun i j => .int (i ^ j.toNat)
def rep : Nat → List D → List D
  | 0, _ => []
  | n + 1, xs => xs ++ rep n xs
def gMul : List D → Option D
  | [.int i, .int j] => if CMulW i j then some (.int (i * j)) else none
  | [.tup xs, .int k] => if xs ≠ [] ∧ 0 ≤ k ∧ k ≤ 1000 ∧ xs.length ≤ 1000 then some (.tup (rep k.toNat xs)) else none
  | [.lst xs, .int k] => if -(2 ^ 63) ≤ k ∧ k < 2 ^ 63 ∧ xs.length * k.toNat ≤ sizeLine then some (.lst (rep k.toNat xs)) else none
  | _ => none
def gNeg : List D → Option D
  | [.int i] => some (.int (-i))
  | _ => none
theorem o_neg : DUn X g (unaryOp .USub) gNeg := by
  refine ⟨_, un_neg, ?_⟩
  intro H Hv x dx d Q s kx hf q
  unfold gNeg at hf
  split at hf
  · rename_i i e
    cases e; cases hf; cases kx
    exact ⟨i, rfl, q.here s (.int _)⟩
  · cases hf
mutual
def D.py : D → Option PyData
  | .non => some .none
  | .bl b => some (.bool b)
  | .int i => some (.int i)
  | .str x => some (.str x)
  | .lst xs => (D.pyAll xs).map .list
  | .tup xs => (D.pyAll xs).map .tuple
  | _ => none
def D.pyAll : List D → Option (List PyData)
  | [] => some []
  | x :: xs => match D.py x, D.pyAll xs with
    | some a, some b => some (a :: b)
    | _, _ => none
end
mutual
theorem dp_of {H : Hp} : ∀ {d : D} {v : V} {p : PyData}, Dv g H v d → d.py = some p → Dp g.K H v p
  | _, _, _, .non, h => by cases h; exact .non
  | _, _, _, .bl b, h => by cases h; exact .bl b
  | _, _, _, .int i, h => by cases h; exact .int i
  | _, _, _, .str x, h => by cases h; exact .str x
  | .lst ds, _, p, .lst ha ks, h => by
    unfold D.py at h
    cases e : D.pyAll ds with
    | none => rw [e] at h; cases h
    | some q => rw [e] at h; cases h; exact .lst (sqL ha) (dpAll_of ks e)
  | .tup ds, _, p, .tup ha ks, h => by
    unfold D.py at h
    cases e : D.pyAll ds with
    | none => rw [e] at h; cases h
    | some q => rw [e] at h; cases h; exact .tup ha (dpAll_of ks e)
  | _, _, _, .obj _ _ _, h => by cases h
  | _, _, _, .exc _ _ _ _, h => by cases h
  | _, _, _, .dct _ _, h => by cases h
  | _, _, _, .pen, h => by cases h
  | _, _, _, .scr _, h => by cases h
  | _, _, _, .fn _ _ _, h => by cases h
theorem dpAll_of {H : Hp} : ∀ {ds : List D} {vs : List V} {ps : List PyData}, DvAll g H vs ds → D.pyAll ds = some ps → DpAll g.K H vs ps
  | [], _, _, .nil, h => by cases h; exact .nil
  | d :: ds, _, ps, .cons k ks, h => by
    unfold D.pyAll at h
    cases e : d.py with
    | none => rw [e] at h; cases h
    | some a =>
      cases e2 : D.pyAll ds with
      | none => rw [e, e2] at h; cases h
      | some b => rw [e, e2] at h; cases h; exact .cons (dp_of k e) (dpAll_of ks e2)
end
def eqD (d e : D) : Option Bool := match d, e with
  | .int i, .int j => some (decide (i = j))
  | .str x, .str y => some (decide (x = y))
  | d, e => match d.py, e.py with
    | some p, some q => if SeqAt.shaped p = true ∧ SeqAt.shaped q = true then some (PyData.eqv p q) else none
    | _, _ => none
def gEq : List D → Option D
  | [d, e] => (eqD d e).map .bl
  | _ => none
def gNe : List D → Option D
  | [d, e] => (eqD d e).map fun b => .bl !b
  | _ => none
theorem eqD_cases {d e : D} {b : Bool} (h : eqD d e = some b) : (∃ i j, d = .int i ∧ e = .int j ∧ b = decide (i = j)) ∨ (∃ x y, d = .str x ∧ e = .str y ∧ b = decide (x = y)) ∨ ∃ p q, d.py = some p ∧ e.py = some q ∧ SeqAt.shaped p = true ∧ SeqAt.shaped q = true ∧ b = PyData.eqv p q := by
  unfold eqD at h
  split at h
  · exact .inl ⟨_, _, rfl, rfl, (Option.some.inj h).symm⟩
  · exact .inr (.inl ⟨_, _, rfl, rfl, (Option.some.inj h).symm⟩)
  · split at h
    · rename_i p q e1 e2
      split at h
      · rename_i hc
        exact .inr (.inr ⟨p, q, e1, e2, hc.1, hc.2, (Option.some.inj h).symm⟩)
      · cases h
    · cases h
theorem o_eq (zk : g.K = X.K) (hu : X.A.units + 64 < cLine) : DOp X g (compareOp .Eq) gEq := by
  refine ⟨_, opr_or op_eq (op_eqD hu), ?_⟩
  intro H Hv x y dx dy d Q s kx ky hf q
  unfold gEq at hf
  simp only at hf
  cases e : eqD dx dy with
  | none => rw [e] at hf; cases hf
  | some b =>
    rw [e] at hf
    cases hf
    rcases eqD_cases e with ⟨i, j, rfl, rfl, rfl⟩ | ⟨a, c, rfl, rfl, rfl⟩ | ⟨p, r, e1, e2, s1, s2, rfl⟩
    · cases kx; cases ky
      refine .inl ⟨rfl, ?_⟩
      have ev : decide (V.int i = V.int j) = decide (i = j) := by by_cases h : i = j <;> simp [h]
      rw [ev]
      exact q.here s (.bl _)
    · cases kx; cases ky
      refine .inl ⟨rfl, ?_⟩
      have ev : decide (V.str a = V.str c) = decide (a = c) := by by_cases h : a = c <;> simp [h]
      rw [ev]
      exact q.here s (.bl _)
    · exact .inr ⟨p, r, zk ▸ dp_same s _ _ (dp_of kx e1), zk ▸ dp_same s _ _ (dp_of ky e2), s1, s2, q.here s (.bl _)⟩
theorem o_ne (zk : g.K = X.K) (hu : X.A.units + 64 < cLine) : DOp X g (compareOp .NotEq) gNe := by
  refine ⟨_, opr_or op_ne (op_neD hu), ?_⟩
  intro H Hv x y dx dy d Q s kx ky hf q
  unfold gNe at hf
  simp only at hf
  cases e : eqD dx dy with
  | none => rw [e] at hf; cases hf
  | some b =>
    rw [e] at hf
    cases hf
    rcases eqD_cases e with ⟨i, j, rfl, rfl, rfl⟩ | ⟨a, c, rfl, rfl, rfl⟩ | ⟨p, r, e1, e2, s1, s2, rfl⟩
    · cases kx; cases ky
      refine .inl ⟨rfl, ?_⟩
      have ev : decide (V.int i = V.int j) = decide (i = j) := by by_cases h : i = j <;> simp [h]
      rw [ev]
      exact q.here s (.bl _)
    · cases kx; cases ky
      refine .inl ⟨rfl, ?_⟩
      have ev : decide (V.str a = V.str c) = decide (a = c) := by by_cases h : a = c <;> simp [h]
      rw [ev]
      exact q.here s (.bl _)
    · exact .inr ⟨p, r, zk ▸ dp_same s _ _ (dp_of kx e1), zk ▸ dp_same s _ _ (dp_of ky e2), s1, s2, q.here s (.bl _)⟩
def D.isN : D → Bool
  | .non => true
  | _ => false
def gIs : List D → Option D
  | [d, .non] => some (.bl d.isN)
  | _ => none
def gIsNot : List D → Option D
  | [d, .non] => some (.bl !d.isN)
  | _ => none
theorem isN_dv {H : Hp} {v : V} {d : D} (k : Dv g H v d) : decide (v = .non) = d.isN := by
  cases k <;> rfl
theorem o_isNot : DOp X g (compareOp .IsNot) gIsNot := by
  refine ⟨_, op_notN, ?_⟩
  intro H Hv x y dx dy d Q s kx ky hf q
  unfold gIsNot at hf
  split at hf
  · rename_i e
    cases e
    cases hf
    cases ky
    exact ⟨rfl, by rw [isN_dv kx]; exact q.here s (.bl _)⟩
  · cases hf
def gIx : List D → Option D
  | [.lst xs, .int i] => atI xs i
  | [.tup xs, .int i] => atI xs i
  | [.str z, .int i] => if z.length ≤ sizeLine then (atI z.cps.toList i).map fun c => .str ⟨#[c]⟩ else none
  | _ => none
theorem at_dv {H : Hp} {vs : List V} {ds : List D} {i : Int} {d : D} (k : DvAll g H vs ds) (h : atI ds i = some d) : ∃ v, atI vs i = some v ∧ Dv g H v d := by
  unfold atI at h ⊢
  rw [k.len]
  cases e : ixN ds.length i with
  | none => rw [e] at h; cases h
  | some j =>
    rw [e] at h
    obtain ⟨v, h1, h2⟩ := k.get (show ds[j]? = some d from h)
    exact ⟨v, h1, h2⟩
theorem o_ix (zk : g.K = X.K) : DIx X g gIx := by
  refine ⟨_, ix_seq, ?_⟩
  intro H Hv x y dx dy d Q s kx ky hf q
  unfold gIx at hf
  split at hf
  · rename_i xs i e
    cases e
    cases ky
    cases kx with
    | @lst p vs _ h1 k1 =>
      obtain ⟨v, a1, a2⟩ := at_dv k1 hf
      exact .inl ⟨p, vs, i, v, rfl, rfl, sqL (s _ _ h1), a1, q.here s a2⟩
  · rename_i xs i e
    cases e
    cases ky
    cases kx with
    | @tup p vs _ h1 k1 =>
      obtain ⟨v, a1, a2⟩ := at_dv k1 hf
      exact .inr (.inl ⟨p, vs, i, v, rfl, rfl, zk ▸ same_seqT s h1, a1, q.here s a2⟩)
  · rename_i z i e
    cases e
    cases ky
    cases kx
    split at hf
    · rename_i hl
      cases e : atI z.cps.toList i with
      | none => rw [e] at hf; cases hf
      | some c =>
        rw [e] at hf
        cases hf
        exact .inr (.inr ⟨z, i, c, rfl, rfl, hl, e, q.here s (.str _)⟩)
    · cases hf
  · cases hf
end
abbrev DB := DS → M (Option Int)
def dNoB : DB := fun _ n P _ => P none n
def dB (e : DE) : DB := fun δ n P E => e δ n (fun d n' => ∃ i, d = .int i ∧ P (some i) n') E
def cut {α : Type} (xs : List α) (lo hi : Option Int) : List α := (xs.drop (HT.sIx xs.length 0 lo)).take (HT.sIx xs.length xs.length hi - HT.sIx xs.length 0 lo)
def gSl (lo hi : Option Int) : D → Option D
  | .lst xs => some (.lst (cut xs lo hi))
  | .tup xs => some (.tup (cut xs lo hi))
  | .str z => if z.length ≤ sizeLine then some (.str (cutS z lo hi)) else none
  | _ => none
def dSl (e : DE) (l h : DB) : DE := fun δ n P E => e δ n (fun x n1 => l δ n1 (fun lo n2 => h δ n2 (fun hi n3 => ∃ d, gSl lo hi x = some d ∧ P d n3) E) E) E
def liftB (Z : Zx) (b : DB) : TO := fun σ H Q => ∃ δ Hv n P E, Rel Z.g Z.H0 Z.Hv0 σ H Hv δ n ∧ b δ n P E ∧ (∀ o H' Hv' n', P o n' → Ext Z.g H Hv H' Hv' → Pn Z.g H' n' → Q o H') ∧ EOk Z.g H Hv E (fun c d H' => Z.W c d σ H')
theorem cut_dv {g : G} {H : Hp} {vs : List V} {ds : List D} (k : DvAll g H vs ds) (lo hi : Option Int) : DvAll g H (cutV vs lo hi) (cut ds lo hi) := by
  unfold cutV cut
  rw [k.len]
  exact (k.drop _).take _
section
variable {X : Cx} {Z : Zx} {e a b c : Expr} {es : List Expr} {da db de : DE} {ra : DA} {pos p p2 : Pos} {bl bh : DB} {lo hi : Option Expr} {g : G}
theorem db_none : PO X none (liftB Z dNoB) := ⟨fun pins s σ H Q I ⟨δ, Hv, n, P, E, r, h1, q, x⟩ => po_none.run pins s σ H Q I (q none H Hv n h1 (.refl r.sub) r.pen)⟩
theorem db_some (h : PE X e (lift Z de)) : PO X (some e) (liftB Z (dB de)) := ⟨fun pins s σ H Q I ⟨δ, Hv, n, P, E, r, h1, q, x⟩ => (po_some h).run pins s σ H Q I ⟨δ, Hv, n, _, E, r, h1, (fun d v H' Hv' n' h2 e p k => by
  obtain ⟨i, rfl, h3⟩ := h2
  cases k
  exact ⟨i, rfl, q _ _ _ _ h3 e p⟩), x⟩⟩
theorem d_sl (zk : Z.g.K = X.K) (he : PE X e (lift Z de)) (hl : PO X lo (liftB Z bl)) (hh : PO X hi (liftB Z bh)) : PE X (.Subscript e (.Slice lo hi none p2) pos) (lift Z (dSl de bl bh)) :=
  up (pe_slice (slr_or sl_list (slr_or sl_tupA sl_str)) he hl hh) fun σ H Q ⟨δ, Hv, n, P, E, r, h1, q, x⟩ => ⟨δ, Hv, n, _, E, r, h1, fun d v H1 Hv1 n1 h2 e1 p1 k => ⟨δ, Hv1, n1, _, E, r.step e1 p1, h2, fun lo H2 Hv2 n2 h3 e2 p2 =>
    ⟨δ, Hv2, n2, _, E, (r.step e1 p1).step e2 p2, h3, (fun hi H3 Hv3 n3 h4 e3 p3 => by
      obtain ⟨z, hz, h5⟩ := h4
      have e12 := e1.trans (fun _ => p1.pd) e2
      have e13 := e12.trans (fun _ => p2.pd) e3
      have gv := gives_of (q.step e13 p3) p3 h5
      have k3 := k.mono (e2.see.trans e3.see)
      unfold gSl at hz
      split at hz
      · cases hz
        cases k3 with
        | @lst a vs _ ha ks => exact .inl ⟨a, vs, rfl, sqL (e3.sub _ _ ha), fun p hp => gv.lst e3.sub hp (cut_dv ks _ _)⟩
      · cases hz
        cases k3 with
        | @tup a vs _ ha ks =>
          refine .inr (.inl ⟨a, vs, rfl, zk ▸ same_seqT e3.sub ha, fun hw => ?_, fun _ p hp => gv.tup e3.sub hp (cut_dv ks _ _)⟩)
          refine gv.here e3.sub (.tup ha ?_)
          have := cut_dv ks lo hi
          unfold cutV at this
          rw [hw.1, hw.2, List.drop_zero, Nat.sub_zero, List.take_length] at this
          exact this
      · split at hz
        · rename_i hl
          cases hz
          cases k3
          exact .inr (.inr ⟨_, rfl, hl, gv.here e3.sub (.str _)⟩)
        · cases hz
      · cases hz), ((x.step e1 p1).step e2 p2)⟩, x.step e1 p1⟩, x⟩
def gRevT : List D → Option D
  | [.tup xs] => some (.tup xs.reverse)
  | _ => none
theorem d_revT {k : Nat} {p1 p3 : Pos} (zk : Z.g.K = X.K) (he : PE X e (lift Z de)) : PE X (.Subscript e (.Slice none none (some (.UnaryOp .USub (.Constant (.int 1) k p1) p2)) p3) pos) (lift Z (dApp gRevT (dCons de dNil))) :=
  up (pe_revT he) fun σ H Q ⟨δ, Hv, n, P, E, rr, h1, q, x⟩ => ⟨δ, Hv, n, _, E, rr, h1, (fun d v H' Hv' n' h2 e p k => by
    obtain ⟨z, hz, h3⟩ := h2
    unfold gRevT at hz
    split at hz
    · rename_i xs ee
      cases ee
      cases hz
      cases k with
      | @tup a vs _ ha ks => exact ⟨a, vs, rfl, zk ▸ same_seqT e.sub ha, fun p' hp => (gives_of (q.step e p) p h3).tup e.sub hp ks.reverse⟩
    · cases hz), x⟩
def gLen : List D → Option D
  | [.lst xs] => some (.int xs.length)
  | [.tup xs] => some (.int xs.length)
  | [.str z] => if z.length ≤ sizeLine then some (.int z.length) else none
  | [.scr n] => some (.int n)
  | _ => none
theorem c_len (zk : g.K = X.K) : DCl X g (.builtin "len") gLen := by
  refine ⟨_, call_len, ?_⟩
  intro H Hv xs ds d Q s k hf q
  unfold gLen at hf
  split at hf
  · rename_i ys
    cases hf
    cases k with
    | cons k1 k2 =>
      cases k2
      cases k1 with
      | lst ha ks => exact ⟨_, ys.length, rfl, .inl ⟨_, sqL (s _ _ ha), ks.len.symm⟩, q.here s (.int _)⟩
  · rename_i ys
    cases hf
    cases k with
    | cons k1 k2 =>
      cases k2
      cases k1 with
      | tup ha ks => exact ⟨_, ys.length, rfl, .inr ⟨_, zk ▸ same_seqT s ha, ks.len.symm⟩, q.here s (.int _)⟩
  · rename_i z
    split at hf
    · rename_i hl
      cases hf
      cases k with
      | cons k1 k2 =>
        cases k2
        cases k1
        exact ⟨_, z.length, rfl, ⟨hl, rfl⟩, q.here s (.int _)⟩
    · cases hf
  · cases hf
    cases k with
    | cons k1 k2 =>
      cases k2
      cases k1 with
      | scr ha => exact ⟨_, _, rfl, .inl ⟨_, zk ▸ s.seq ha, rfl⟩, q.here s (.int _)⟩
  · cases hf
def gAbs : List D → Option D
  | [.int i] => some (.int (if i < 0 then -i else i))
  | _ => none
def gMin : List D → Option D
  | [.int i, .int j] => some (.int (if j < i then j else i))
  | _ => none
def gMax : List D → Option D
  | [.int i, .int j] => some (.int (if j > i then j else i))
  | _ => none
theorem c_min (hc : X.calm = true) : DCl X g (.builtin "min") gMin := by
  refine ⟨_, call_min2 hc, ?_⟩
  intro H Hv xs ds d Q s k hf q
  unfold gMin at hf
  split at hf
  · rename_i i j
    cases hf
    cases k with
    | cons k1 k2 =>
      cases k2 with
      | cons k2 k3 =>
        cases k3
        cases k1
        cases k2
        exact ⟨i, j, rfl, q.here s (.int _)⟩
  · cases hf
theorem c_max (hc : X.calm = true) : DCl X g (.builtin "max") gMax := by
  refine ⟨_, call_max2 hc, ?_⟩
  intro H Hv xs ds d Q s k hf q
  unfold gMax at hf
  split at hf
  · rename_i i j
    cases hf
    cases k with
    | cons k1 k2 =>
      cases k2 with
      | cons k2 k3 =>
        cases k3
        cases k1
        cases k2
        exact ⟨i, j, rfl, q.here s (.int _)⟩
  · cases hf
def gInt : List D → Option D
  | [.int i] => some (.int i)
  | [.bl b] => some (.int (if b then 1 else 0))
  | _ => none
def gTuple : List D → Option D
  | [.lst xs] => some (.tup xs)
  | [.tup xs] => some (.tup xs)
  | _ => none
theorem c_tuple (zk : g.K = X.K) : DCl X g (.type "tuple") gTuple := by
  refine ⟨_, call_tuple_of, ?_⟩
  intro H Hv xs ds d Q s k hf q
  unfold gTuple at hf
  split at hf
  · cases hf
    cases k with
    | cons k1 k2 =>
      cases k2
      cases k1 with
      | lst ha ks => exact ⟨_, _, rfl, .inl ⟨sqL (s _ _ ha), fun l hl => q.tup s hl ks⟩⟩
  · cases hf
    cases k with
    | cons k1 k2 =>
      cases k2
      cases k1 with
      | tup ha ks => exact ⟨_, _, rfl, .inr ⟨zk ▸ same_seqT s ha, q.here s (.tup ha ks)⟩⟩
  · cases hf
def gListOf : List D → Option D
  | [.lst xs] => some (.lst xs)
  | [.tup xs] => some (.lst xs)
  | _ => none
def bools : List D → Option (List Bool)
  | [] => some []
  | .bl b :: r => (bools r).map (b :: ·)
  | _ => none
theorem bools_dv {H : Hp} : ∀ {ds : List D} {vs : List V} {bs : List Bool}, DvAll g H vs ds → bools ds = some bs → vs = bs.map V.bl
  | [], _, _, .nil, h => by cases h; rfl
  | d :: ds, _, bs, .cons k ks, h => by
    cases d with
    | bl b =>
      unfold bools at h
      cases e : bools ds with
      | none => rw [e] at h; cases h
      | some bs' =>
        rw [e] at h
        cases h
        cases k
        rw [bools_dv ks e]
        rfl
    | _ => cases h
def gAll : List D → Option D
  | [.lst xs] => (bools xs).map fun bs => .bl (bs.all id)
  | _ => none
theorem c_all (hc : X.calm = true) (zk : g.K = X.K) : DCl X g (.builtin "all") gAll := by
  refine ⟨_, cr_all hc, ?_⟩
  intro H Hv xs ds d Q s k hf q
  unfold gAll at hf
  split at hf
  · rename_i ys
    cases e : bools ys with
    | none => rw [e] at hf; cases hf
    | some bs =>
      rw [e] at hf
      cases hf
      cases k with
      | cons k1 k2 =>
        cases k2
        cases k1 with
        | lst ha ks => exact ⟨_, bs, rfl, by rw [← bools_dv ks e]; exact sqL (s _ _ ha), q.here s (.bl _)⟩
  · cases hf
def intsOf : List D → Option (List Int)
  | [] => some []
  | .int b :: r => (intsOf r).map (b :: ·)
  | _ => none
theorem intsOf_dv {H : Hp} : ∀ {ds : List D} {vs : List V} {bs : List Int}, DvAll g H vs ds → intsOf ds = some bs → vs = bs.map V.int
  | [], _, _, .nil, h => by cases h; rfl
  | d :: ds, _, bs, .cons k ks, h => by
    cases d with
    | int b =>
      unfold intsOf at h
      cases e : intsOf ds with
      | none => rw [e] at h; cases h
      | some bs' =>
        rw [e] at h
        cases h
        cases k
        rw [intsOf_dv ks e]
        rfl
    | _ => cases h
def gSum : List D → Option D
  | [.lst xs] => (intsOf xs).map fun bs => .int bs.sum
  | _ => none
theorem c_sum (hc : X.calm = true) (zk : g.K = X.K) : DCl X g (.builtin "sum") gSum := by
  refine ⟨_, cr_sum hc, ?_⟩
  intro H Hv xs ds d Q s k hf q
  unfold gSum at hf
  split at hf
  · rename_i ys
    cases e : intsOf ys with
    | none => rw [e] at hf; cases hf
    | some bs =>
      rw [e] at hf
      cases hf
      cases k with
      | cons k1 k2 =>
        cases k2
        cases k1 with
        | lst ha ks => exact ⟨_, bs, rfl, by rw [← intsOf_dv ks e]; exact sqL (s _ _ ha), q.here s (.int _)⟩
  · cases hf
def IsF (X : Cx) (g : G) (u : Value) (f : D → Option Bool) : Prop := ∀ {H Hv : Hp} {v : V} {d : D} {b : Bool}, Same Hv H → Dv g Hv v d → f d = some b → ∃ t, TyX X.K H v t ∧ PySem.W.kitOne X.K t u = some b
def gIsi (f : D → Option Bool) : List D → Option D
  | [d] => (f d).map .bl
  | _ => none
theorem d_isi {f : D → Option Bool} {cv : V} {u : Value} {px : Pos} (hf : IsF X Z.g u f) (hc : ClsV cv u) (hg : Gl X "isinstance") (hm : X.mg "isinstance" = none) (ha : PE X a (lift Z da)) (hb : PE X b (tC cv))
    (h1 : starEach [a, b] X.env = (false, eval a X.env) :: starEach [b] X.env := by rfl) (h2 : starEach [b] X.env = (false, eval b X.env) :: starEach [] X.env := by rfl) (hpl : (backTo pos (starEach [b] X.env)).any (·.1) = false := by rfl) :
    PE X (.Call (.Name "isinstance" px) [a, b] [] pos) (lift Z (dApp (gIsi f) (dCons da dNil))) :=
  up (pe_callB call_isi hg hm (by decide +kernel) (pa_cons ha (pa_cons hb pa_nil h2) h1) (by decide) (by decide) h1 hpl) fun σ H Q ⟨δ, Hv, n, P, E, rr, h1, q, x⟩ => ⟨δ, Hv, n, _, E, rr, h1, (fun d v H' Hv' n' h2 e p k => by
    obtain ⟨z, hz, h3⟩ := h2
    unfold gIsi at hz
    simp only at hz
    cases ef : f d with
    | none => rw [ef] at hz; cases hz
    | some bb =>
      rw [ef] at hz
      cases hz
      obtain ⟨t, t1, t2⟩ := hf e.sub k ef
      exact ⟨v, cv, t, u, bb, rfl, hc, t1, t2, q _ _ _ _ _ h3 e p (.bl _)⟩), x⟩
theorem tyx_tup {K : PySem.W.Frag} {H : Hp} {a : Addr} {xs : List V} (h : SqT K H a xs) : TyX K H (.ref a) (.type "tuple") := by
  rcases h with (h | ⟨o, h⟩) | ⟨o, its, n, h1, h2, _⟩
  · exact .base (.tup h)
  · exact .fTuple h
  · exact .kTuple h1 h2
def isInt : D → Option Bool
  | .non => some false
  | .bl _ => some true
  | .int _ => some true
  | .str _ => some false
  | .lst _ => some false
  | .tup _ => some false
  | .dct _ => some false
  | _ => none
def isBool : D → Option Bool
  | .non => some false
  | .bl _ => some true
  | .int _ => some false
  | .str _ => some false
  | .lst _ => some false
  | .tup _ => some false
  | .dct _ => some false
  | _ => none
def isStr : D → Option Bool
  | .non => some false
  | .bl _ => some false
  | .int _ => some false
  | .str _ => some true
  | .lst _ => some false
  | .tup _ => some false
  | .dct _ => some false
  | _ => none
def isTuple : D → Option Bool
  | .non => some false
  | .bl _ => some false
  | .int _ => some false
  | .str _ => some false
  | .lst _ => some false
  | .tup _ => some true
  | .dct _ => some false
  | _ => none
def isList : D → Option Bool
  | .non => some false
  | .bl _ => some false
  | .int _ => some false
  | .str _ => some false
  | .lst _ => some true
  | .tup _ => some false
  | .dct _ => some false
  | _ => none
def isDict : D → Option Bool
  | .non => some false
  | .bl _ => some false
  | .int _ => some false
  | .str _ => some false
  | .lst _ => some false
  | .tup _ => some false
  | .dct _ => some true
  | _ => none
theorem f_int (zk : g.K = X.K) : IsF X g (.type "int") isInt := by
  intro H Hv v d b s k e
  cases k <;> first | exact ⟨_, .base .non, e⟩ | exact ⟨_, .base (.bl _), e⟩ | exact ⟨_, .base (.int _), e⟩ | exact ⟨_, .base (.str _), e⟩ | (rename_i h _; exact ⟨_, .base (.lst (s _ _ h)), e⟩) | (rename_i h _; exact ⟨_, tyx_tup (zk ▸ same_seqT s h), e⟩) | (rename_i h _; exact ⟨_, .fDict (s _ _ h), e⟩) | cases e
theorem f_bool (zk : g.K = X.K) : IsF X g (.type "bool") isBool := by
  intro H Hv v d b s k e
  cases k <;> first | exact ⟨_, .base .non, e⟩ | exact ⟨_, .base (.bl _), e⟩ | exact ⟨_, .base (.int _), e⟩ | exact ⟨_, .base (.str _), e⟩ | (rename_i h _; exact ⟨_, .base (.lst (s _ _ h)), e⟩) | (rename_i h _; exact ⟨_, tyx_tup (zk ▸ same_seqT s h), e⟩) | (rename_i h _; exact ⟨_, .fDict (s _ _ h), e⟩) | cases e
theorem f_tuple (zk : g.K = X.K) : IsF X g (.type "tuple") isTuple := by
  intro H Hv v d b s k e
  cases k <;> first | exact ⟨_, .base .non, e⟩ | exact ⟨_, .base (.bl _), e⟩ | exact ⟨_, .base (.int _), e⟩ | exact ⟨_, .base (.str _), e⟩ | (rename_i h _; exact ⟨_, .base (.lst (s _ _ h)), e⟩) | (rename_i h _; exact ⟨_, tyx_tup (zk ▸ same_seqT s h), e⟩) | (rename_i h _; exact ⟨_, .fDict (s _ _ h), e⟩) | cases e
end
def dOwnL (a : DA) : DO := fun δ n P E => a δ n (fun ys n' => ys.length ≤ sizeLine ∧ P (.ow ys) n') E
def dOwnF (f : List D → Option D) (a : DA) : DO := fun δ n P E => a δ n (fun xs n' => ∃ ys, f xs = some (.lst ys) ∧ P (.ow ys) n') E
def dMut (i : Nat) (f : List D → List D → Option (List D)) (a : DA) : DT := fun F δ n => ∃ ds, δ[i]? = some (some (.ow ds)) ∧ a δ n (fun xs n' => ∃ es, f ds xs = some es ∧ F.nx (δ.set i (some (.ow es))) n') (F.xe δ)
section
variable {X : Cx} {Z : Zx} {e a b c : Expr} {es : List Expr} {da db de : DE} {ra : DA} {pos p p2 apos cpos : Pos} {g : G} {i : Nat} {x : Str}
theorem o_lst (h : PA X es (liftA Z ra)) : PE X (.List es pos) (liftO Z (dOwnL ra)) := up (pe_lst h) fun σ H Q ⟨δ, Hv, n, P, E, rr, h1, q, x⟩ =>
  ⟨δ, Hv, n, _, E, rr, h1, fun d v H' Hv' n' h2 e p k => ⟨by rw [k.len]; exact h2.1, fun a ha => by
    obtain ⟨e2, hv2⟩ := ext_hid (g := Z.g) (o := .lst v) e.sub ha
    refine q (.ow d) (.ref a) _ Hv' n' h2.2 (e.trans (fun _ => p.pd) e2) (p.mono (same_new ha) (Nat.le_refl _)) ⟨a, v, rfl, ?_, upd_same, hv2, k⟩
    cases z : H a with
    | none => rfl
    | some o =>
      by_cases ez : a = Z.g.pd
      · subst ez; exact absurd ha p.pd
      · obtain ⟨_, w, _⟩ := e.but _ _ ez z
        rw [w] at ha; cases ha⟩, x⟩
theorem ext_fresh {g : G} {H Hv H' Hv' : Hp} {a : Addr} {n : Nat} (e : Ext g H Hv H' Hv') (p : Pn g H' n) (ha : H' a = none) : H a = none := by
  cases z : H a with
  | none => rfl
  | some o =>
    by_cases ez : a = g.pd
    · subst ez; exact absurd ha p.pd
    · obtain ⟨_, w, _⟩ := e.but _ _ ez z
      rw [w] at ha; cases ha
def gCatL : List D → Option D
  | [.lst xs, .lst ys] => if xs.length + ys.length ≤ sizeLine then some (.lst (xs ++ ys)) else none
  | _ => none
def mAppend : List D → List D → Option (List D)
  | ds, [d] => if ds.length < sizeLine then some (ds ++ [d]) else none
  | _, _ => none
def mExtend : List D → List D → Option (List D)
  | ds, [.tup es] => if ds.length + es.length ≤ sizeLine then some (ds ++ es) else none
  | ds, [.lst es] => if ds.length + es.length ≤ sizeLine then some (ds ++ es) else none
  | _, _ => none
def mInsert : List D → List D → Option (List D)
  | ds, [.int i, d] => if ds.length < sizeLine ∧ 0 ≤ i ∧ i < 2 ^ 63 then some (ds.take i.toNat ++ [d] ++ ds.drop i.toNat) else none
  | _, _ => none
theorem own_at {g : G} {H0 Hv0 : Hp} {σ : L2.St} {H Hv : Hp} {δ : DS} {n i : Nat} {ds : List D} (r : Rel g H0 Hv0 σ H Hv δ n) (h : δ[i]? = some (some (.ow ds))) : ∃ p vs, σ[i]? = some (some (.ref p)) ∧ H p = some (.lst vs) ∧ p ≠ g.pd ∧ DvAll g Hv vs ds := by
  obtain ⟨p, vs, e1, e2, e3, e4, e5⟩ := r.sl i _ h
  refine ⟨p, vs, ?_, e2, fun z => r.pd0 (by rw [← z]; exact e4), e5⟩
  cases q : σ[i]? with
  | none => rw [q] at e1; cases e1
  | some o => rw [q] at e1; exact congrArg some e1
theorem ds_mut {f : List D → List D → Option (List D)} {m : Str} {r : V → List V → Hp → VK → Prop} {id : String} (slot : Slot "list" m id) (hty : typeOf (.builtin id) = pure (.type "method_descriptor")) (hm : MtR X id r)
    (hf : ∀ {H Hv : Hp} {p : Addr} {vs : List V} {ds es : List D} {ws : List V} {xs : List D} {Q : VK}, Same Hv H → H p = some (.lst vs) → DvAll Z.g Hv vs ds → DvAll Z.g Hv ws xs → f ds xs = some es → (∀ vs', DvAll Z.g Hv vs' es → Q .non (upd H p (.lst vs'))) → r (.ref p) ws H Q)
    (hx : PE X (.Name x p) (tVar i)) (ha : PA X (e :: es) (liftA Z ra)) (hbase : attributeBase (.Name x p) m X.env (eval (.Name x p) X.env) = eval (.Name x p) X.env := by rfl)
    (hfew : ((backTo cpos (starEach (e :: es) X.env)).all (fun x => !x.1) && (backToKw cpos (keywordEach [] X.env)).all (fun x => x.1.isSome)
      && decide ((e :: es).length + ([] : List Keyword).length + (if ([] : List Keyword).isEmpty then 0 else 1) < 30)) = true := by rfl)
    (hline : (apos.endLine == cpos.line) = true := by rfl) (hs : starEach (e :: es) X.env = (false, eval e X.env) :: starEach es X.env := by rfl) (hplain : (backTo cpos (starEach es X.env)).any (·.1) = false := by rfl)
    (hsw : swapsWith (.Call (.Attribute (.Name x p) m apos) (e :: es) [] cpos) none pos.line X.env = pure false := by rfl) :
    PS X (.Expr (.Call (.Attribute (.Name x p) m apos) (e :: es) [] cpos) pos) (liftS Z (dMut i f ra)) :=
  upS (ps_expr (pe_bm PySem.F.plainAttrs_list slot hty hm hx ha hbase hfew hline hs hplain) hsw) fun D σ H ⟨δ, Hv, n, F, r, ⟨ds, hd, h⟩, k1, k2, k3, k4, k5⟩ => by
  obtain ⟨p, vs, s1, s2, s3, s4⟩ := own_at r hd
  refine ⟨.ref p, s1, .inl ⟨rfl, _, sqL s2⟩, δ, Hv, n, _, _, r, h, (fun xs ws H' Hv' n' h' e pn k => ?_), k5.e r⟩
  obtain ⟨es', hes, hn⟩ := h'
  have r' := r.step e pn
  refine hf e.sub (e.at s3 s2 (fun _ z => by cases z)) (s4.mono e.see) k hes fun vs' kv => ?_
  exact k1 _ _ _ _ _ hn e.see (r'.mut hd s1 kv)
theorem m_append {H Hv : Hp} {p : Addr} {vs : List V} {ds es : List D} {ws : List V} {xs : List D} {Q : VK} (s : Same Hv H) (hp : H p = some (.lst vs)) (k : DvAll g Hv vs ds) (kx : DvAll g Hv ws xs) (h : mAppend ds xs = some es) (q : ∀ vs', DvAll g Hv vs' es → Q .non (upd H p (.lst vs'))) : rAppend (.ref p) ws H Q := by
  unfold mAppend at h
  split at h
  · split at h
    · rename_i hl
      cases h
      cases kx with
      | cons k1 k2 =>
        cases k2
        exact ⟨p, vs, _, rfl, rfl, hp, by rw [k.len]; exact hl, q _ (k.append (.cons k1 .nil))⟩
    · cases h
  · cases h
theorem m_extend (zk : g.K = X.K) {H Hv : Hp} {p : Addr} {vs : List V} {ds es : List D} {ws : List V} {xs : List D} {Q : VK} (s : Same Hv H) (hp : H p = some (.lst vs)) (k : DvAll g Hv vs ds) (kx : DvAll g Hv ws xs) (h : mExtend ds xs = some es) (q : ∀ vs', DvAll g Hv vs' es → Q .non (upd H p (.lst vs'))) :
    rExtendT X.K (.ref p) ws H Q ∨ rExtend (.ref p) ws H Q := by
  unfold mExtend at h
  split at h
  · split at h
    · rename_i hl
      cases h
      cases kx with
      | cons k1 k2 =>
        cases k2
        cases k1 with
        | tup ha ks => exact .inl ⟨p, _, vs, _, rfl, rfl, hp, zk ▸ same_seqT s ha, by rw [k.len, ks.len]; exact hl, q _ (k.append ks)⟩
    · cases h
  · split at h
    · rename_i hl
      cases h
      cases kx with
      | cons k1 k2 =>
        cases k2
        cases k1 with
        | lst ha ks => exact .inr ⟨p, _, vs, _, rfl, rfl, hp, s _ _ ha, by rw [k.len, ks.len]; exact hl, q _ (k.append ks)⟩
    · cases h
  · cases h
def gFld (cs : List Str) (f : Str) : List D → Option D
  | [.obj c fs] => if c ∈ cs then fs.lookup f else none
  | _ => none
theorem d_fld {cs : List Str} {f : Str} (zk : Z.g.K = X.K) (hC : ∀ c ∈ cs, ∀ C, Z.g.mg c = some (.ref C) → Cls X.K C ∧ NoAttr X.K C f) (he : PE X e (lift Z de)) (hb : attributeBase e f X.env (eval e X.env) = eval e X.env := by rfl) : PE X (.Attribute e f pos) (lift Z (dApp (gFld cs f) (dCons de dNil))) :=
  up (pe_fld he hb) fun σ H Q ⟨δ, Hv, n, P, E, rr, h1, q, x⟩ => ⟨δ, Hv, n, _, E, rr, h1, (fun d v H' Hv' n' h2 e p k => by
    obtain ⟨z, hz, h3⟩ := h2
    unfold gFld at hz
    split at hz
    · rename_i c fs ee
      cases ee
      split at hz
      · rename_i hc
        cases k with
        | @obj a C dx _ vs _ ha hm ks =>
          obtain ⟨v, v1, v2⟩ := ks.look hz
          obtain ⟨c1, c2⟩ := hC c hc C hm
          exact ⟨a, C, dx, vs, v, rfl, e.sub _ _ ha, c1, c2, v1, q _ _ _ _ _ h3 e p v2⟩
      · cases hz
    · cases hz), x⟩
def putD (f : Str) (v : D) : List (Str × D) → List (Str × D)
  | [] => [(f, v)]
  | (g, x) :: r => if g = f then (g, v) :: r else (g, x) :: putD f v r
theorem put_dv {H : Hp} {f : Str} {v : V} {d : D} (k : Dv g H v d) : ∀ {fs : List (Str × V)} {gs : List (Str × D)}, DvF g H fs gs → DvF g H (putF f v fs) (putD f d gs)
  | _, _, .nil => .cons k .nil
  | _, _, .cons (f := f') k1 r => by
    unfold putF putD
    by_cases e : f' = f
    · rw [if_pos e, if_pos e]; exact .cons k r
    · rw [if_neg e, if_neg e]; exact .cons k1 (put_dv k r)
theorem DvF.len {H : Hp} {fs : List (Str × V)} {gs : List (Str × D)} (h : DvF g H fs gs) : fs.length = gs.length := by
  induction gs generalizing fs with
  | nil => cases h; rfl
  | cons p r ih => cases h with | cons a b => rw [List.length_cons, List.length_cons, ih b]
def dFst (i : Nat) (c f : Str) (e : DE) : DT := fun F δ n => e δ n (fun d n' => ∃ a fs, δ[i]? = some (some (.sf a c fs)) ∧ fs.length < 1000 ∧ F.nx (δ.set i (some (.sf a c (putD f d fs)))) n') (F.xe δ)
theorem Rel.mutF {H0 Hv0 : Hp} {σ : L2.St} {H Hv : Hp} {δ : DS} {n i : Nat} {p C dx : Addr} {c : Str} {fs fs' : List (Str × D)} {ws : List (Str × V)} (r : Rel g H0 Hv0 σ H Hv δ n) (hi : δ[i]? = some (some (.sf p c fs))) (hC : g.mg c = some (.ref C)) (h : DvF g Hv ws fs') :
    Rel g H0 Hv0 σ (upd H p (.ins C dx ws)) Hv (δ.set i (some (.sf p c fs'))) n := by
  obtain ⟨C', dx', vs, e1, e2, e3, e4, e6, e5⟩ := r.sl i _ hi
  have hs : σ[i]? = some (some (.ref p)) := by
    cases q : σ[i]? with
    | none => rw [q] at e1; cases e1
    | some o => rw [q] at e1; exact congrArg some e1
  have np : p ≠ g.pd := fun z => r.pd0 (by rw [← z]; exact e4)
  have nc : p ≠ g.pc := fun z => r.pc0 (by rw [← z]; exact e4)
  have hl : i < δ.length := (List.getElem?_eq_some_iff.mp hi).1
  refine ⟨⟨fun b o hb e => ?_, r.ext.see, fun b o e => ?_, r.ext.hid, r.ext.nt⟩, r.pen.upd np nc (Nat.le_refl _) e2, r.pd0, r.pc0, r.npd, by rw [List.length_set, r.len], fun j s hj => ?_, fun j k s t q hj hk os ot sj sk => ?_⟩
  · have : b ≠ p := fun z => by rw [z, e4] at e; cases e
    obtain ⟨o', w1, w2⟩ := r.ext.but b o hb e
    exact ⟨o', (by rw [upd_ne this]; exact w1), w2⟩
  · have : b ≠ p := fun z => by rw [z, e3] at e; cases e
    rw [upd_ne this]; exact r.sub b o e
  · by_cases e : i = j
    · subst e
      rw [List.getElem?_set_self hl] at hj
      cases hj
      rw [hs]
      exact ⟨C, dx, ws, rfl, upd_same, e3, e4, hC, h⟩
    · rw [List.getElem?_set_ne e] at hj
      have old := r.sl j s hj
      cases s with
      | sh d => exact old
      | ow ds' =>
        obtain ⟨p2, vs2, f1, f2, f3, f4, f5⟩ := old
        have : p2 ≠ p := fun z => by rw [z, e2] at f2; cases f2
        exact ⟨p2, vs2, f1, by rw [upd_ne this]; exact f2, f3, f4, f5⟩
      | sf p2 c2 fs2 =>
        obtain ⟨C2, dx2, vs2, f1, f2, f3, f4, f5⟩ := old
        have : p2 ≠ p := fun z => by
          subst z
          refine e (r.dist i j _ _ p2 hi hj rfl rfl hs ?_)
          cases q : σ[j]? with
          | none => rw [q] at f1; cases f1
          | some o => rw [q] at f1; exact congrArg some f1
        exact ⟨C2, dx2, vs2, f1, by rw [upd_ne this]; exact f2, f3, f4, f5⟩
      | od ks' =>
        obtain ⟨p2, vs2, f1, f2, f3, f4, f5⟩ := old
        have : p2 ≠ p := fun z => by rw [z, e2] at f2; cases f2
        exact ⟨p2, vs2, f1, by rw [upd_ne this]; exact f2, f3, f4, f5⟩
  · have gen : ∀ {j : Nat} {s : Sl}, (δ.set i (some (.sf p c fs')))[j]? = some (some s) → s.own = true → ∃ s', δ[j]? = some (some s') ∧ s'.own = true := fun {j s} hj os => by
      by_cases e : i = j
      · subst e; exact ⟨_, hi, rfl⟩
      · rw [List.getElem?_set_ne e] at hj; exact ⟨s, hj, os⟩
    obtain ⟨s', a1, a2⟩ := gen hj os
    obtain ⟨t', b1, b2⟩ := gen hk ot
    exact r.dist j k s' t' q a1 b1 a2 b2 sj sk
theorem ds_fst {f : Str} {pos' : Pos} {cn : Str} (hC : ∀ C, Z.g.mg cn = some (.ref C) → Cls X.K C ∧ NoAttr X.K C f) (hx : PE X (.Name x p) (tVar i)) (hv : PE X e (lift Z de)) (hs : swapsWith e (some (.Attribute (.Name x p) f pos')) pos.line X.env = pure false := by rfl) : PS X (.Assign [.Attribute (.Name x p) f pos'] e pos) (liftS Z (dFst i cn f de)) :=
  upS (ps_fld hx hv hs) fun D σ H ⟨δ, Hv, n, F, r, h, k1, k2, k3, k4, k5⟩ => ⟨δ, Hv, n, _, _, r, h, (fun d v H' Hv' n' h' e pn k => by
    obtain ⟨p, fs, hd, hl, hn⟩ := h'
    have r' := r.step e pn
    obtain ⟨C, dx, vs, e1, e2, e3, e4, e6, e5⟩ := r'.sl i _ hd
    have hs : σ[i]? = some (some (.ref p)) := by
      cases q : σ[i]? with
      | none => rw [q] at e1; cases e1
      | some o => rw [q] at e1; exact congrArg some e1
    obtain ⟨c1, c2⟩ := hC C e6
    refine ⟨.ref p, hs, p, C, dx, vs, rfl, e2, c1, c2, by rw [e5.len]; exact hl, ?_⟩
    exact k1 _ _ _ _ _ hn e.see (r'.mutF hd e6 (put_dv k e5))), k5.e r⟩
end
abbrev MI := List D → M (List (Str × D))
def dInit (m N : Nat) (c : Str) (t : DT) : MI := fun ds n P E => ds.length = m ∧ ∀ a, t ⟨fun δ n' => ∃ fs, δ[0]? = some (some (.sf a c fs)) ∧ P fs n', fun _ _ => False, fun _ _ => False, fun _ _ => False, fun _ => E⟩ (some (.sf a c []) :: startD (N - 1) ds) n
def without (H : Hp) (x : Addr) : Hp := fun a => if a = x then none else H a
theorem without_ne {H : Hp} {x a : Addr} (h : a ≠ x) : without H x a = H a := if_neg h
theorem without_same {H : Hp} {x : Addr} : without H x x = none := if_pos rfl
def FOk (g : G) (H Hv : Hp) (x C dx : Addr) (P : List (Str × D) → Nat → Prop) (Q : VK) : Prop := ∀ fs fvs dx' H' Hv' n', P fs n' → Ext g (without H x) Hv H' Hv' → Pn g H' n' → H' x = some (.ins C dx' fvs) → Hv' x = none → DvF g Hv' fvs fs → Q .non H'
def spI (K : PySem.W.Frag) (mg : Str → Option Value) (kn : Kn) (c : Str) (U : MI) : Sp := fun vs H Q E => ∃ pd pc C dx x ws Hv ds n P Ex, vs = .ref x :: ws ∧ H x = some (.ins C dx []) ∧ mg c = some (.ref C) ∧ Hv x = none ∧ Same Hv H ∧ Hd pd Hv ∧ Pn ⟨K, mg, pd, pc, kn⟩ H n ∧ DvAll ⟨K, mg, pd, pc, kn⟩ Hv ws ds ∧ U ds n P Ex ∧
  FOk ⟨K, mg, pd, pc, kn⟩ H Hv x C dx P Q ∧ EOk ⟨K, mg, pd, pc, kn⟩ (without H x) Hv Ex E
theorem init_rel {g : G} {H Hv : Hp} {n : Nat} {N : List Str} {vs : List V} {ds : List D} {x C dx : Addr} {c : Str} (hx : H x = some (.ins C dx [])) (hC : g.mg c = some (.ref C)) (hv : Hv x = none) (s : Same Hv H) (npp : Hd g.pd Hv) (p : Pn g H n) (k : DvAll g Hv vs ds) (hN : 0 < N.length) :
    Rel g (without H x) Hv (L2.start N (.ref x :: vs)) H Hv (some (.sf x c []) :: startD (N.length - 1) ds) n := by
  obtain ⟨ns, a, l, hd, hc, hlen, h2, h3, h4⟩ := p.pen
  have nd : g.pd ≠ x := fun z => by rw [z, hx] at hd; cases hd
  have nc : g.pc ≠ x := fun z => by rw [z, hx] at hc; cases hc
  have st : L2.start N (.ref x :: vs) = some (.ref x) :: (vs.map some ++ List.replicate (N.length - 1 - vs.length) none) := by
    unfold L2.start
    rw [List.map_cons, List.cons_append, List.length_cons, show N.length - (vs.length + 1) = N.length - 1 - vs.length by omega]
  have hl := k.len
  have sh : ∀ {i : Nat} {s : Sl}, (startD (N.length - 1) ds)[i]? = some (some s) → ∃ d, s = .sh d ∧ ds[i]? = some d := fun {i s} h => by
    unfold startD at h
    by_cases hi : i < ds.length
    · rw [List.getElem?_append_left (by simpa using hi), List.getElem?_map] at h
      cases e : ds[i]? with
      | none => rw [e] at h; cases h
      | some d => rw [e] at h; cases h; exact ⟨d, rfl, rfl⟩
    · rw [List.getElem?_append_right (by simpa using hi)] at h
      have := List.mem_of_getElem? h
      rw [List.mem_replicate] at this
      cases this.2
  rw [st]
  refine ⟨⟨fun b o _ e => ?_, .refl _, s, fun _ h _ => h, fun z => z⟩, p, by rw [without_ne nd]; exact p.pd, by rw [without_ne nc]; exact p.pc, npp, ?_, fun i s h => ?_, fun i j s t q h1 h2 o1 o2 e1 e2 => ?_⟩
  · have : b ≠ x := fun z => by rw [z, without_same] at e; cases e
    rw [without_ne this] at e; exact ⟨o, e, fun _ => rfl⟩
  · unfold startD
    simp only [List.length_cons, List.length_append, List.length_map, List.length_replicate, hl]
  · cases i with
    | zero =>
      rw [List.getElem?_cons_zero] at h ⊢
      cases h
      exact ⟨C, dx, [], rfl, hx, hv, without_same, hC, .nil⟩
    | succ i =>
      rw [List.getElem?_cons_succ] at h ⊢
      obtain ⟨d, rfl, hd⟩ := sh h
      obtain ⟨v, e1, e2⟩ := k.get hd
      refine ⟨v, ?_, e2⟩
      have hi : i < vs.length := (List.getElem?_eq_some_iff.mp e1).1
      rw [List.getElem?_append_left (by simpa using hi), List.getElem?_map, e1]
      rfl
  · have z : ∀ {i : Nat} {s : Sl}, (some (Sl.sf x c []) :: startD (N.length - 1) ds)[i]? = some (some s) → s.own = true → i = 0 := fun {i s} h o => by
      cases i with
      | zero => rfl
      | succ i =>
        rw [List.getElem?_cons_succ] at h
        obtain ⟨d, rfl, _⟩ := sh h
        cases o
    rw [z h1 o1, z h2 o2]
section
variable {P : Program} {w : World} {K : PySem.W.Frag} {mg : Str → Option Value} {base : Heap} {kn : Kn} {c : Str} {x qual : Str} {st : Stmt} {f : Addr} {fd : FuncData} {N ps : List Str} {k m : Nat} {t : DT}
theorem spI_len {nn : Nat} {vs : List V} {H : Hp} {Q : VK} {E : XK} (h : spI K mg kn c (dInit m nn c t) vs H Q E) : vs.length = m + 1 := by
  obtain ⟨pd, pc, C, dx, x, ws, Hv, ds, n, Pz, Ex, rfl, _, _, _, _, _, _, k, ⟨hl, _⟩, _⟩ := h
  rw [List.length_cons, k.len, hl]
theorem init_of {Z : Zx} {H Hv : Hp} {ws : List V} {ds : List D} {n : Nat} {Pz : List (Str × D) → Nat → Prop} {Ex : XD} {Q : VK} {E : XK} {y C dx : Addr} (hN : 0 < N.length) (h0 : Z.H0 = without H y) (hv0 : Z.Hv0 = Hv) (hW : ∀ c d σ H', E c d H' → Z.W c d σ H') (hy : H y = some (.ins C dx [])) (hC : Z.g.mg c = some (.ref C)) (hvy : Hv y = none) (s : Same Hv H) (np : Hd Z.g.pd Hv) (p : Pn Z.g H n) (k : DvAll Z.g Hv ws ds)
    (hU : dInit m N.length c t ds n Pz Ex) (q : FOk Z.g H Hv y C dx Pz Q) (x : EOk Z.g (without H y) Hv Ex E) : liftS Z t { nx := fun _ H' => Q .non H', rt := Q } (L2.start N (.ref y :: ws)) H := by
  obtain ⟨g, H0, Hv0, W⟩ := Z
  simp only at h0 hv0
  subst h0 hv0
  refine ⟨_, Hv0, n, _, init_rel hy hC hvy s np p k hN, hU.2 y, (fun δ' n' σ' H' Hv' a b r => ?_), fun _ _ _ _ _ a => a.elim, fun _ _ _ _ _ a => a.elim, fun _ _ _ _ _ a => a.elim, fun δ' σ' H' Hv' n' c fs cls dd a b r y => hW _ _ _ _ (x c fs n' cls dd H' Hv' a r.ext r.pen y)⟩
  obtain ⟨fs, h1, h2⟩ := a
  obtain ⟨C', dx', vs, e1, e2, e3, e4, e6, e5⟩ := r.sl 0 _ h1
  have ec : C' = C := by
    rw [hC] at e6
    cases e6
    rfl
  subst ec
  exact q fs vs dx' H' Hv' n' h2 r.ext r.pen e2 e3 e5
end
section
variable {X : Cx} {Z : Zx} {e a b : Expr} {es : List Expr} {de da db : DE} {ra : DA} {pos p : Pos} {k : Nat} {x : Str} {ps : List Str} {U : MI} {C : Addr}
def dMake (c : Str) (U : MI) (a : DA) : DE := fun δ n P E => a δ n (fun xs n1 => U xs n1 (fun fs n2 => P (.obj c fs) n2) (fun _ _ _ => False)) E
def dCmpO (neg : Bool) (c : Str) (U : List D → M D) (a b : DE) : DE := fun δ n P E => a δ n (fun x n1 => b δ n1 (fun y n2 => ∃ fs gs, x = .obj c fs ∧ y = .obj c gs ∧ U [x, y] n2 (fun d n3 => ∃ k, d = .bl k ∧ P (.bl (if neg then !k else k)) n3) (fun _ _ _ => False)) E) E
theorem lift_cmpO {c : Str} {U : List D → M D} {neg : Bool} {r : R2} (hmC : X.mg c = some (.ref C)) (zk : Z.g.K = X.K) (zm : Z.g.mg = X.mg) (zn : Z.g.kn = kn)
    (hr : ∀ {x y : V} {H : Hp} {Q : VK} {a b dx dy : Addr} {fs gs : List (Str × V)}, x = .ref a → y = .ref b → H a = some (.ins C dx fs) → H b = some (.ins C dy gs) → spU X.K X.mg kn U [.ref a, .ref b] H (fun v H' => ∃ k, v = .bl k ∧ Q (.bl (if neg then !k else k)) H') E0 → r x y H Q) :
    ∀ σ H Q, lift Z (dCmpO neg c U da db) σ H Q → tOp r (lift Z da) (lift Z db) σ H Q := fun σ H Q ⟨δ, Hv, n, P, E, rr, h1, q, x⟩ =>
  ⟨δ, Hv, n, _, E, rr, h1, fun d v H1 Hv1 n1 h2 e1 p1 k1 => ⟨δ, Hv1, n1, _, E, rr.step e1 p1, h2, (fun d2 v2 H2 Hv2 n2 h3 e2 p2 k2 => by
    obtain ⟨fs, gs, rfl, rfl, h4⟩ := h3
    have k1' := k1.mono e2.see
    have eg := eta_g zk zm zn
    have e12 := e1.trans (fun _ => p1.pd) e2
    have kk : DvAll Z.g Hv2 [v, v2] [.obj c fs, .obj c gs] := .cons k1' (.cons k2 .nil)
    cases k1' with
    | @obj a C1 dx _ f1 _ ha hm1 kf1 =>
      cases k2 with
      | @obj b C2 dy _ f2 _ hb hm2 kf2 =>
        rw [zm, hmC] at hm1 hm2
        cases hm1
        cases hm2
        refine hr rfl rfl (e2.sub _ _ ha) (e2.sub _ _ hb) ⟨Z.g.pd, Z.g.pc, Hv2, [.obj c fs, .obj c gs], n2, (fun d n3 => ∃ k, d = .bl k ∧ P (.bl (if neg then !k else k)) n3), (fun _ _ _ => False), e2.sub, ((rr.step e1 p1).step e2 p2).npd, ?_⟩
        rw [eg]
        refine ⟨p2, kk, h4, fun d v H3 Hv3 n3 h5 e3 p3 k3 => ?_, fun _ _ _ _ _ _ _ z => z.elim⟩
        obtain ⟨kb, rfl, h5⟩ := h5
        exact ⟨kb, dv_bl k3, q _ _ _ _ _ h5 (e12.trans (fun _ => p2.pd) e3) p3 (.bl _)⟩), x.step e1 p1⟩, x⟩
theorem dt_neO {c : Str} {U : List D → M D} (o : OkE X.prog X.w X.K X.mg X.base k C (spU X.K X.mg kn U)) (hmC : X.mg c = some (.ref C)) (hr : Room (k + 1) X.A) (zk : Z.g.K = X.K) (zm : Z.g.mg = X.mg) (zn : Z.g.kn = kn) (ha : PE X a (lift Z da)) (hb : PE X b (lift Z db)) (hm : behindInMarks .NotEq b = false) :
    PT X (.Compare a [.NotEq] [b] pos) (liftT Z (dCmpO true c U da db)) := upT (pt_cmpR (op_neC o hr) ha hb hm) fun σ H Q h => lift_cmpO hmC zk zm zn (fun {x y H Q a b dx dy fs gs} e1 e2 h1 h2 h3 => ⟨a, b, dx, dy, fs, gs, e1, e2, h1, h2, h3⟩) σ H _ h
end
def U_draw : List D → M D := fun ds n P _ => ∃ m, ds = [.pen, .int m] ∧ n < 1000000000 ∧ 0 < m ∧ m < 1073741824 ∧ ∀ r, 0 ≤ r → r < m → P (.int r) (n + 1)
section
variable {P : Program} {w : World} {K : PySem.W.Frag} {mg : Str → Option Value} {base : Heap} {kn : Kn} {x qual : Str} {st : Stmt} {f : Addr} {fd : FuncData} {N ps : List Str} {k : Nat}
theorem draw_U (F : FnOk P w K mg base CX0 k f fd ps (spDraw kn.key)) : FnOk P w K mg base CX0 k f fd ps (spU K mg kn U_draw) := F.imp fun vs H Q E h => by
  obtain ⟨pd, pc, Hv, ds, n, Pz, Ex, sm, np, p, kk, ⟨m, rfl, hn, m0, m1, hr⟩, q, _⟩ := h
  cases kk with
  | cons k1 k2 =>
    cases k2 with
    | cons k2 k3 =>
      cases k3
      cases k1
      cases k2
      refine ⟨pd, pc, n, m, rfl, p.pen, hn, m0, m1, fun r H' r0 r1 p' sb => ?_⟩
      have tb : LamX.Tabs kn.tb H' := by
        obtain ⟨_, _, _, hd, _⟩ := p.pen
        exact tabs_but p.tab hd (by constructor <;> (intro _ z; cases z)) sb
      refine q (.int r) (.int r) H' Hv (n + 1) (hr r r0 r1) ⟨.ofB sb, .refl _, fun b o hb => ?_, fun _ h _ => h, fun z => z⟩ ⟨p', tb⟩ (.int r)
      exact sb b o (fun z => by rw [z, np.1] at hb; cases hb) (sm _ _ hb)
def spLaw (K : PySem.W.Frag) : Sp := fun vs H Q _ => ∃ (a : Addr) (ns : List Int), vs = [.ref a] ∧ SqL K H a (ns.map V.int) ∧ ns.length ≤ 63 ∧ ∀ H', Q (.bl true) H'
end
section
variable {X : Cx} {Z : Zx} {a b c : Expr} {rest : List Expr} {da db : DE} {pos : Pos}
theorem upW {e : Expr} {t t' : TT} (h : PW X e t) (k : ∀ σ H Q, t' σ H Q → t σ H Q) : PW X e t' := ⟨fun wh pins s σ H Q I q => h.run wh pins s σ H Q I (k σ H Q q)⟩
theorem dw_and1 (ha : PT X a (liftT Z da)) : PW X (.BoolOp .And [a] pos) (liftT Z da) := pw_and1 ha
theorem dw_or1 (ha : PT X a (liftT Z da)) : PW X (.BoolOp .Or [a] pos) (liftT Z da) := pw_or1 ha
theorem dw_and (ha : PT X a (liftT Z da)) (hb : PW X (.BoolOp .And (b :: rest) pos) (liftT Z db)) : PW X (.BoolOp .And (a :: b :: rest) pos) (liftT Z (dAnd da db)) := upW (pw_and ha hb) fun σ H Q ⟨δ, Hv, n, P, E, rr, h1, q, x⟩ =>
  ⟨δ, Hv, n, _, E, rr, h1, (fun d v H' Hv' n' h2 e p k => by
    obtain ⟨c, rfl, h3⟩ := h2
    refine ⟨c, dv_bl k, ?_⟩
    cases c with
    | true => rw [if_pos rfl] at h3 ⊢; exact ⟨δ, Hv', n', P, E, rr.step e p, h3, q.step e p, x.step e p⟩
    | false =>
      rw [if_neg Bool.false_ne_true] at h3 ⊢
      obtain ⟨c', ec, hq⟩ := q _ _ _ _ _ h3 e p (.bl false)
      cases ec
      exact hq), x⟩
theorem dw_or (ha : PT X a (liftT Z da)) (hb : PW X (.BoolOp .Or (b :: rest) pos) (liftT Z db)) : PW X (.BoolOp .Or (a :: b :: rest) pos) (liftT Z (dOr da db)) := upW (pw_or ha hb) fun σ H Q ⟨δ, Hv, n, P, E, rr, h1, q, x⟩ =>
  ⟨δ, Hv, n, _, E, rr, h1, (fun d v H' Hv' n' h2 e p k => by
    obtain ⟨c, rfl, h3⟩ := h2
    refine ⟨c, dv_bl k, ?_⟩
    cases c with
    | false => rw [if_neg Bool.false_ne_true] at h3 ⊢; exact ⟨δ, Hv', n', P, E, rr.step e p, h3, q.step e p, x.step e p⟩
    | true =>
      rw [if_pos rfl] at h3 ⊢
      obtain ⟨c', ec, hq⟩ := q _ _ _ _ _ h3 e p (.bl true)
      cases ec
      exact hq), x⟩
def IsFs (X : Cx) (g : G) (us : List Value) (f : D → Option Bool) : Prop := ∀ {H Hv : Hp} {v : V} {d : D} {b : Bool}, Same Hv H → Dv g Hv v d → f d = some b → ∃ t, TyX X.K H v t ∧ PySem.W.kitAny X.K t us = some b
theorem d_isi2 {f : D → Option Bool} {b1 b2 : Expr} {c1 c2 : V} {u1 u2 : Value} {px pt : Pos} {kt : Nat} (hf : IsFs X Z.g [u1, u2] f) (hc1 : ClsV c1 u1) (hc2 : ClsV c2 u2) (hg : Gl X "isinstance") (hm : X.mg "isinstance" = none) (ha : PE X a (lift Z da)) (hb1 : PE X b1 (tC c1)) (hb2 : PE X b2 (tC c2))
    (h1 : starEach [a, .Tuple [b1, b2] kt pt] X.env = (false, eval a X.env) :: starEach [.Tuple [b1, b2] kt pt] X.env := by rfl) (h2 : starEach [.Tuple [b1, b2] kt pt] X.env = (false, eval (.Tuple [b1, b2] kt pt) X.env) :: starEach [] X.env := by rfl)
    (h3 : starEach [b1, b2] X.env = (false, eval b1 X.env) :: starEach [b2] X.env := by rfl) (h4 : starEach [b2] X.env = (false, eval b2 X.env) :: starEach [] X.env := by rfl) (hpl : (backTo pos (starEach [.Tuple [b1, b2] kt pt] X.env)).any (·.1) = false := by rfl) :
    PE X (.Call (.Name "isinstance" px) [a, .Tuple [b1, b2] kt pt] [] pos) (lift Z (dApp (gIsi f) (dCons da dNil))) :=
  up (pe_callB call_isiT hg hm (by decide +kernel) (pa_cons ha (pa_cons (pe_tup (pa_cons hb1 (pa_cons hb2 pa_nil h4) h3)) pa_nil h2) h1) (by decide) (by decide) h1 hpl) fun σ H Q ⟨δ, Hv, n, P, E, rr, h1, q, x⟩ => ⟨δ, Hv, n, _, E, rr, h1, (fun d v H' Hv' n' h2 e p k => by
    obtain ⟨z, hz, h3⟩ := h2
    unfold gIsi at hz
    simp only at hz
    cases ef : f d with
    | none => rw [ef] at hz; cases hz
    | some bb =>
      rw [ef] at hz
      cases hz
      refine ⟨by show 2 ≤ sizeLine; decide, fun tp htp => ?_⟩
      have e2 := ext_hid (g := Z.g) (o := .tup [c1, c2]) e.sub htp
      obtain ⟨t, t1, t2⟩ := hf e2.1.sub k ef
      exact ⟨v, tp, [c1, c2], t, [u1, u2], bb, rfl, upd_same, .cons hc1 (.cons hc2 .nil), t1, t2, q _ _ _ _ _ h3 (e.trans (fun _ => p.pd) e2.1) (p.mono (same_new htp) (Nat.le_refl _)) (.bl _)⟩), x⟩
def isSeq : D → Option Bool
  | .non => some false
  | .bl _ => some false
  | .int _ => some false
  | .str _ => some false
  | .lst _ => some true
  | .tup _ => some true
  | .dct _ => some false
  | _ => none
theorem f_seq {g : G} (zk : g.K = X.K) : IsFs X g [.type "tuple", .type "list"] isSeq := by
  intro H Hv v d b s k e
  cases k <;> first | exact ⟨_, .base .non, e⟩ | exact ⟨_, .base (.bl _), e⟩ | exact ⟨_, .base (.int _), e⟩ | exact ⟨_, .base (.str _), e⟩ | (rename_i h _; exact ⟨_, .base (.lst (s _ _ h)), e⟩) | (rename_i h _; exact ⟨_, tyx_tup (zk ▸ same_seqT s h), e⟩) | (rename_i h _; exact ⟨_, .fDict (s _ _ h), e⟩) | cases e
theorem oi_add {g : G} : Op2 g (gI2 fun i j => .int (i + j)) (ipI fun i j => i + j) := by
  intro H Hv x y dx dy d Q s kx ky hf q
  unfold gI2 at hf
  split at hf
  · rename_i i j e
    cases e; cases hf; cases kx; cases ky
    exact ⟨i, j, rfl, rfl, q.here s (.int _)⟩
  · cases hf
theorem fld1 {g : G} {x f : Str} {C : Addr} (T : ClT X.K X.mg x C) (na : NoAttr X.K C f) (zm : g.mg = X.mg) : ∀ c ∈ [x], ∀ C', g.mg c = some (.ref C') → Cls X.K C' ∧ NoAttr X.K C' f := fun c hc C' h => by
  have e : c = x := by simpa using hc
  subst e
  rw [zm, T.g] at h
  cases h
  exact ⟨T.cl, na⟩
theorem di_enumK {elts : List Expr} {kk : Nat} {ra : DA} {ek : Expr} {dk : DE} {kp p tpos : Pos} (zk : Z.g.K = X.K) (hg : Gl X "enumerate") (hm : X.mg "enumerate" = none) (ha : PE X a (lift Z da)) (hk : PE X ek (lift Z dk)) (h1 : starEach [a] X.env = (false, eval a X.env) :: starEach [] X.env := by rfl)
    (hs : backTo pos (starEach [a] X.env) = (false, eval a X.env) :: backTo pos (starEach [] X.env) := by rfl) (hpl : (backTo pos (starEach [a] X.env)).any (·.1) = false := by rfl) :
    PI X (.Tuple elts kk tpos) (.Call (.Name "enumerate" p) [a] [⟨some "start", ek, kp⟩] pos) (liftI Z (dIt gEnumK (dCons da (dCons dk dNil)))) :=
  upI (pi_enumTk hg hm (pa_cons ha pa_nil h1) (pk_cons hk pk_nil) hs hpl) fun σ H R ⟨δ, Hv, n, P, E, r, h1, q, x⟩ => by
  refine ⟨δ, Hv, n, _, E, r, h1, (fun d v H1 Hv1 n1 h2 e1 p1 k1 => ⟨δ, Hv1, n1, _, E, r.step e1 p1, h2, (fun d2 v2 H2 Hv2 n2 h3 e2 p2 k2 => ?_), x.step e1 p1⟩), x⟩
  obtain ⟨ys, hy, h3⟩ := h3
  unfold gEnumK at hy
  split at hy
  · rename_i xs k ee
    cases ee
    split at hy
    · rename_i hk
      cases hy
      cases k2
      have k1' := k1.mono e2.see
      cases k1' with
      | tup ha ks =>
        rw [← zk]
        exact ⟨_, _, k, rfl, rfl, hk.1, hk.2, same_seqT e2.sub ha, q _ _ _ _ _ h3 (e1.trans (fun _ => p1.pd) e2) p2 (wk_enumT ha ks)⟩
    · cases hy
  · cases hy
theorem mt_extA : MtR X "list.extend" (fun x xs H Q => rExtendT X.K x xs H Q ∨ rExtend x xs H Q) := MtR.or mt_extendT mt_extend
def isOwn (x : Str) : D → Option Bool
  | .obj c _ => if c = x then some true else none
  | _ => none
theorem f_own {g : G} {x : Str} {C : Addr} (T : ClT X.K X.mg x C) (zm : g.mg = X.mg) : IsF X g (.ref C) (isOwn x) := by
  intro H Hv v d b s k e
  cases k with
  | @obj a C' dx c fs gs ha hm ks =>
    unfold isOwn at e
    simp only at e
    split at e
    · rename_i hc
      subst hc
      cases e
      rw [zm, T.g] at hm
      cases hm
      exact ⟨_, T.ty (s _ _ ha), T.self⟩
    · cases e
  | _ => cases e
end
theorem for_inv {tg : Tg} {b : DT} {F : DEnds} {xs : List D} {δ : DS} {n : Nat} (Pv : Nat → DS → Nat → Prop) (h0 : Pv 0 δ n)
    (hs : ∀ i x δ n N, xs[i]? = some x → Pv i δ n → (∀ δ' n', Pv (i + 1) δ' n' → N δ' n') → ∃ δ', dTg tg x δ = some δ' ∧ b ⟨N, F.rt, F.nx, N, F.xe⟩ δ' n) (hd : ∀ δ n, Pv xs.length δ n → F.nx δ n) : forGo tg b F xs δ n := by
  have go : ∀ (k i : Nat) (δ : DS) (n : Nat), i + k = xs.length → Pv i δ n → forGo tg b F (xs.drop i) δ n := by
    intro k
    induction k with
    | zero =>
      intro i δ n hi p
      have : i = xs.length := by omega
      subst this
      rw [List.drop_length]
      exact hd δ n p
    | succ k ih =>
      intro i δ n hi p
      have hl : i < xs.length := by omega
      rw [List.drop_eq_getElem_cons hl]
      obtain ⟨δ', h1, h2⟩ := hs i xs[i] δ n (forGo tg b F (xs.drop (i + 1))) (List.getElem?_eq_getElem hl) p fun δ' n' p' => ih (i + 1) δ' n' (by omega) p'
      exact ⟨δ', h1, h2⟩
  have := go xs.length 0 δ n (by omega) h0
  rwa [List.drop_zero] at this
theorem lc_inv {tg : Tg} {t e : DE} {δ : DS} {xs : List D} {n : Nat} {P : List D → Nat → Prop} (Pv : Nat → List D → Nat → Prop) (h0 : Pv 0 [] n)
    (hs : ∀ i x acc n (N : List D → Nat → Prop), xs[i]? = some x → Pv i acc n → (∀ ys n', Pv (i + 1) (acc ++ ys) n' → N ys n') → ∃ δ', dTg tg x δ = some δ' ∧ t δ' n (fun b n1 => ∃ c, b = .bl c ∧ if c = true then e δ' n1 (fun y n2 => N [y] n2) (fun _ _ _ => False) else N [] n1) (fun _ _ _ => False))
    (hd : ∀ ys n, Pv xs.length ys n → P ys n) : lcGo tg t e δ xs n P := by
  have go : ∀ (k i : Nat) (acc : List D) (n : Nat), i + k = xs.length → Pv i acc n → lcGo tg t e δ (xs.drop i) n (fun ys n' => P (acc ++ ys) n') := by
    intro k
    induction k with
    | zero =>
      intro i acc n hi p
      have : i = xs.length := by omega
      subst this
      rw [List.drop_length]
      show P (acc ++ []) n
      rw [List.append_nil]
      exact hd acc n p
    | succ k ih =>
      intro i acc n hi p
      have hl : i < xs.length := by omega
      rw [List.drop_eq_getElem_cons hl]
      obtain ⟨δ', h1, h2⟩ := hs i xs[i] acc n (fun ys n' => lcGo tg t e δ (xs.drop (i + 1)) n' (fun zs n2 => P (acc ++ (ys ++ zs)) n2)) (List.getElem?_eq_getElem hl) p fun ys n' p' => by
        have := ih (i + 1) (acc ++ ys) n' (by omega) p'
        simp only [List.append_assoc] at this
        exact this
      exact ⟨δ', h1, h2⟩
  have := go xs.length 0 [] n (by omega) h0
  rw [List.drop_zero] at this
  exact this
theorem lc_pure {tg : Tg} {e : DE} {δ : DS} (f : D → D) : ∀ {xs : List D} {n : Nat} {P : List D → Nat → Prop},
    (∀ x ∈ xs, ∃ δ', dTg tg x δ = some δ' ∧ ∀ (n : Nat) (Q : D → Nat → Prop), Q (f x) n → e δ' n Q (fun _ _ _ => False)) → P (xs.map f) n → lcGo tg (dC (.bl true)) e δ xs n P
  | [], _, _, _, h => h
  | x :: xs, n, P, hs, h => by
    obtain ⟨δ', h1, h2⟩ := hs x (by simp)
    refine ⟨δ', h1, true, rfl, ?_⟩
    rw [if_pos rfl]
    exact h2 _ _ (lc_pure f (fun y hy => hs y (by simp [hy])) h)
theorem while_inv {t : DE} {b : DT} {F : DEnds} {δ : DS} {n : Nat} (W : Nat → DS → Nat → Prop) (m : Nat) (h0 : W m δ n)
    (hs : ∀ m δ n, W m δ n → t δ n (fun x n1 => ∃ c, x = .bl c ∧ if c = true then ∃ N : DS → Nat → Prop, (∀ δ' n', N δ' n' → ∃ m', m' < m ∧ W m' δ' n') ∧ b ⟨N, F.rt, F.nx, N, F.xe⟩ δ n1 else F.nx δ n1) (F.xe δ)) : dWhile t b F δ n := ⟨W, ⟨m, h0⟩, hs⟩
theorem draw {δ : DS} {n : Nat} {m : Int} {P : D → Nat → Prop} {E : XD} (hn : n < 1000000000) (h0 : 0 < m) (h1 : m < 1073741824) (h : ∀ r, 0 ≤ r → r < m → P (.int r) (n + 1)) : U_draw [.pen, .int m] n P E := ⟨m, rfl, hn, h0, h1, h⟩
theorem iteI {p A B : Prop} [Decidable p] (h1 : p → A) (h2 : ¬ p → B) : if p then A else B := by
  by_cases h : p
  · rw [if_pos h]; exact h1 h
  · rw [if_neg h]; exact h2 h
def row (xs : List Int) : List D := xs.map .int
theorem row_len (xs : List Int) : (row xs).length = xs.length := List.length_map ..
theorem row_at {xs : List Int} {i : Nat} {x : Int} (h : xs[i]? = some x) : (row xs)[i]? = some (.int x) := by
  unfold row
  rw [List.getElem?_map, h]
  rfl
theorem at_row {xs : List Int} {i : Nat} {d : D} (h : (row xs)[i]? = some d) : ∃ x, xs[i]? = some x ∧ d = .int x := by
  unfold row at h
  rw [List.getElem?_map] at h
  cases e : xs[i]? with
  | none => rw [e] at h; cases h
  | some x => rw [e] at h; exact ⟨x, rfl, (Option.some.inj h).symm⟩
theorem row_cut (xs : List Int) (lo hi : Option Int) : cut (row xs) lo hi = row (cut xs lo hi) := by
  unfold cut row
  rw [List.length_map, ← List.map_drop, ← List.map_take]
theorem row_app (xs ys : List Int) : row xs ++ row ys = row (xs ++ ys) := (List.map_append ..).symm
theorem row_rev (xs : List Int) : (row xs).reverse = row xs.reverse := (List.map_reverse ..).symm
theorem pyAll_row : ∀ xs : List Int, D.pyAll (row xs) = some (xs.map PyData.int)
  | [] => rfl
  | x :: r => by
    show (match D.py (.int x), D.pyAll (row r) with | some a, some b => some (a :: b) | _, _ => none) = _
    rw [pyAll_row r]
    rfl
theorem eqv_row : ∀ xs ys : List Int, PyData.eqvAll (xs.map PyData.int) (ys.map PyData.int) = decide (xs = ys)
  | [], [] => rfl
  | [], _ :: _ => rfl
  | _ :: _, [] => rfl
  | x :: xs, y :: ys => by
    show (x == y && PyData.eqvAll (xs.map PyData.int) (ys.map PyData.int)) = _
    rw [eqv_row xs ys]
    by_cases h : x = y
    · subst h; simp
    · have : ¬ (x :: xs = y :: ys) := fun e => h (List.cons.inj e).1
      simp [h]
theorem eqD_row (xs ys : List Int) : eqD (.tup (row xs)) (.tup (row ys)) = some (decide (xs = ys)) := by
  show (match (D.tup (row xs)).py, (D.tup (row ys)).py with | some p, some q => if SeqAt.shaped p = true ∧ SeqAt.shaped q = true then some (PyData.eqv p q) else none | _, _ => none) = _
  have e : ∀ zs : List Int, (D.tup (row zs)).py = some (.tuple (zs.map PyData.int)) := fun zs => by
    show (D.pyAll (row zs)).map PyData.tuple = _
    rw [pyAll_row]
    rfl
  rw [e, e]
  simp only
  rw [if_pos ⟨shaped_tupInts xs, shaped_tupInts ys⟩]
  show some (PyData.eqvAll _ _) = _
  rw [eqv_row]
theorem cut_to {α : Type} {xs : List α} {i : Int} (h : 0 ≤ i) : cut xs none (some i) = xs.take i.toNat := by
  unfold cut
  rw [sIx_pos h, show HT.sIx xs.length 0 none = 0 from rfl, List.drop_zero, Nat.sub_zero, List.take_eq_take_iff]
  omega
theorem cut_from {α : Type} {xs : List α} {i : Int} (h : 0 ≤ i) : cut xs (some i) none = xs.drop i.toNat := by
  unfold cut
  rw [sIx_pos h, show HT.sIx xs.length xs.length none = xs.length from rfl]
  by_cases hl : i.toNat ≤ xs.length
  · rw [Nat.min_eq_left hl, List.take_of_length_le (by rw [List.length_drop]; omega)]
  · rw [Nat.min_eq_right (by omega), List.drop_eq_nil_of_le (Nat.le_refl _), List.drop_eq_nil_of_le (by omega), List.take_nil]
theorem cut_mid {α : Type} {xs : List α} {i j : Int} (hi : 0 ≤ i) (hj : 0 ≤ j) : cut xs (some i) (some j) = (xs.drop i.toNat).take (j.toNat - i.toNat) := by
  unfold cut
  rw [sIx_pos hi, sIx_pos hj]
  by_cases hl : i.toNat ≤ xs.length
  · rw [Nat.min_eq_left hl, List.take_eq_take_iff, List.length_drop]
    omega
  · rw [Nat.min_eq_right (show xs.length ≤ i.toNat by omega), List.drop_eq_nil_of_le (Nat.le_refl _), List.drop_eq_nil_of_le (by omega), List.take_nil, List.take_nil]
theorem cut_len {α : Type} (xs : List α) (lo hi : Option Int) : (cut xs lo hi).length ≤ xs.length := by
  unfold cut
  rw [List.length_take, List.length_drop]
  omega
theorem atI0 {α : Type} {x : α} {xs : List α} : atI (x :: xs) (0 : Int) = some x := atI_get (by omega) rfl
theorem atI1 {α : Type} {x y : α} {xs : List α} : atI (x :: y :: xs) (1 : Int) = some y := atI_get (by omega) rfl
theorem atI2 {α : Type} {x y z : α} {xs : List α} : atI (x :: y :: z :: xs) (2 : Int) = some z := atI_get (by omega) rfl
theorem atI3 {α : Type} {x y z w : α} {xs : List α} : atI (x :: y :: z :: w :: xs) (3 : Int) = some w := atI_get (by omega) rfl
theorem atI4 {α : Type} {x y z w v : α} {xs : List α} : atI (x :: y :: z :: w :: v :: xs) (4 : Int) = some v := atI_get (by omega) rfl
theorem eqD_int (i j : Int) : eqD (.int i) (.int j) = some (decide (i = j)) := rfl
theorem eqD_str (i j : Str) : eqD (.str i) (.str j) = some (decide (i = j)) := rfl
theorem ex_if {α : Type} {c : Prop} [Decidable c] {a : α} {P : α → Prop} : (∃ d, (if c then some a else none) = some d ∧ P d) ↔ (c ∧ P a) := by
  constructor
  · rintro ⟨d, h1, h2⟩
    split at h1
    · cases h1; exact ⟨by assumption, h2⟩
    · cases h1
  · rintro ⟨hc, h⟩
    exact ⟨a, if_pos hc, h⟩
theorem numd_get {k : Int} {xs : List D} {i : Nat} {x : D} (h : (numd k xs)[i]? = some x) : ∃ y, xs[i]? = some y ∧ x = .tup [.int (k + (i : Nat)), y] := by
  have hl : i < xs.length := by
    have := (List.getElem?_eq_some_iff.mp h).1
    rwa [numd_len] at this
  have e := List.getElem?_eq_getElem hl
  rw [numd_at e] at h
  exact ⟨_, e, (Option.some.inj h).symm⟩
theorem map_get {α β : Type} {f : α → β} {xs : List α} {i : Nat} {y : β} (h : (xs.map f)[i]? = some y) : ∃ x, xs[i]? = some x ∧ y = f x := by
  rw [List.getElem?_map] at h
  cases e : xs[i]? with
  | none => rw [e] at h; cases h
  | some x => rw [e] at h; exact ⟨x, rfl, (Option.some.inj h).symm⟩
theorem bools_map {α : Type} (p : α → Bool) : ∀ xs : List α, bools (xs.map fun x => D.bl (p x)) = some (xs.map p)
  | [] => rfl
  | x :: r => by
    show (bools (r.map fun x => D.bl (p x))).map (p x :: ·) = _
    rw [bools_map p r]
    rfl
theorem gAll_map {α : Type} (p : α → Bool) (xs : List α) : gAll [.lst (xs.map fun x => D.bl (p x))] = some (.bl (xs.all p)) := by
  show (bools (xs.map fun x => D.bl (p x))).map (fun bs => D.bl (bs.all id)) = _
  rw [bools_map]
  show some (D.bl ((xs.map p).all id)) = _
  rw [List.all_map]
  rfl
theorem eqD_row0 (xs : List Int) : eqD (.tup (row xs)) (.tup []) = some (decide (xs = [])) := eqD_row xs []
theorem x_add1 (i j : Int) : gAdd [.int i, .int j] = some (.int (i + j)) := rfl
theorem x_add2 (x y : Str) : gAdd [.str x, .str y] = if x.length + y.length ≤ sizeLine then some (.str (x ++ y)) else none := rfl
theorem x_add3 (xs ys : List D) : gAdd [.lst xs, .lst ys] = if xs.length + ys.length ≤ sizeLine then some (.lst (xs ++ ys)) else none := rfl
theorem x_add4 (xs ys : List D) : gAdd [.tup xs, .tup ys] = if xs.length + ys.length ≤ sizeLine then some (.tup (xs ++ ys)) else none := rfl
theorem x_i2 (f : Int → Int → D) (i j : Int) : gI2 f [.int i, .int j] = some (f i j) := rfl
theorem x_sub (i j : Int) : gSub [.int i, .int j] = some (.int (i - j)) := rfl
theorem x_lt (i j : Int) : gLt [.int i, .int j] = some (.bl (decide (i < j))) := rfl
theorem x_le (i j : Int) : gLe [.int i, .int j] = some (.bl (decide (i ≤ j))) := rfl
theorem x_gt (i j : Int) : gGt [.int i, .int j] = some (.bl (decide (j < i))) := rfl
theorem x_ge (i j : Int) : gGe [.int i, .int j] = some (.bl (decide (j ≤ i))) := rfl
theorem x_mod (i j : Int) : gMod [.int i, .int j] = if 0 < j then some (.int (i % j)) else none := rfl
theorem x_div (i j : Int) : gDiv [.int i, .int j] = if CDivW i j then some (.int (i / j)) else none := rfl
theorem x_pow (i j : Int) : gPow [.int i, .int j] = if CPow i j then some (.int (i ^ j.toNat)) else none := rfl
theorem x_mul1 (i j : Int) : gMul [.int i, .int j] = if CMulW i j then some (.int (i * j)) else none := rfl
theorem x_mul2 (xs : List D) (k : Int) : gMul [.tup xs, .int k] = if xs ≠ [] ∧ 0 ≤ k ∧ k ≤ 1000 ∧ xs.length ≤ 1000 then some (.tup (rep k.toNat xs)) else none := rfl
theorem x_mul3 (xs : List D) (k : Int) : gMul [.lst xs, .int k] = if -(2 ^ 63) ≤ k ∧ k < 2 ^ 63 ∧ xs.length * k.toNat ≤ sizeLine then some (.lst (rep k.toNat xs)) else none := rfl
theorem x_neg (i : Int) : gNeg [.int i] = some (.int (-i)) := rfl
theorem x_not (c : Bool) : gNot [.bl c] = some (.bl !c) := rfl
theorem x_tupl (ds : List D) : gTupl ds = if ds.length ≤ sizeLine then some (.tup ds) else none := rfl
theorem x_list (ds : List D) : gList ds = if ds.length ≤ sizeLine then some (.lst ds) else none := rfl
theorem x_len1 (xs : List D) : gLen [.lst xs] = some (.int xs.length) := rfl
theorem x_len2 (xs : List D) : gLen [.tup xs] = some (.int xs.length) := rfl
theorem x_len3 (z : Str) : gLen [.str z] = if z.length ≤ sizeLine then some (.int z.length) else none := rfl
theorem x_abs (i : Int) : gAbs [.int i] = some (.int (if i < 0 then -i else i)) := rfl
theorem x_min (i j : Int) : gMin [.int i, .int j] = some (.int (if j < i then j else i)) := rfl
theorem x_max (i j : Int) : gMax [.int i, .int j] = some (.int (if j > i then j else i)) := rfl
theorem x_int1 (i : Int) : gInt [.int i] = some (.int i) := rfl
theorem x_int2 (b : Bool) : gInt [.bl b] = some (.int (if b then 1 else 0)) := rfl
theorem x_tuple1 (xs : List D) : gTuple [.lst xs] = some (.tup xs) := rfl
theorem x_tuple2 (xs : List D) : gTuple [.tup xs] = some (.tup xs) := rfl
theorem x_listof1 (xs : List D) : gListOf [.lst xs] = some (.lst xs) := rfl
theorem x_listof2 (xs : List D) : gListOf [.tup xs] = some (.lst xs) := rfl
theorem x_iter1 (xs : List D) : gIter [.lst xs] = some xs := rfl
theorem x_iter2 (xs : List D) : gIter [.tup xs] = some xs := rfl
theorem x_iter3 (z : Str) : gIter [.str z] = some (signs z) := rfl
theorem x_range (j : Int) : gRange [.int j] = if -(2 ^ 62) ≤ j ∧ j < 2 ^ 62 then some (intsD 0 j.toNat) else none := rfl
theorem x_range2 (i j : Int) : gRange2 [.int i, .int j] = if (-(2 ^ 62) ≤ i ∧ i < 2 ^ 62) ∧ -(2 ^ 62) ≤ j ∧ j < 2 ^ 62 then some (intsD i (j - i).toNat) else none := rfl
theorem x_enum1 (xs : List D) : gEnum [.lst xs] = some (numd 0 xs) := rfl
theorem x_enum2 (xs : List D) : gEnum [.tup xs] = some (numd 0 xs) := rfl
theorem x_enum3 (z : Str) : gEnum [.str z] = some (numd 0 (signs z)) := rfl
theorem x_enumK (xs : List D) (k : Int) : gEnumK [.tup xs, .int k] = if -(2 ^ 62) ≤ k ∧ k < 2 ^ 62 then some (numd k xs) else none := rfl
theorem x_isi (f : D → Option Bool) (d : D) : gIsi f [d] = (f d).map .bl := rfl
theorem x_isown (x c : Str) (fs : List (Str × D)) : isOwn x (.obj c fs) = if c = x then some true else none := rfl
theorem x_is (d : D) : gIs [d, .non] = some (.bl d.isN) := rfl
theorem x_isnot (d : D) : gIsNot [d, .non] = some (.bl !d.isN) := rfl
theorem x_revT (xs : List D) : gRevT [.tup xs] = some (.tup xs.reverse) := rfl
theorem x_sl1 (lo hi : Option Int) (xs : List D) : gSl lo hi (.lst xs) = some (.lst (cut xs lo hi)) := rfl
theorem x_sl2 (lo hi : Option Int) (xs : List D) : gSl lo hi (.tup xs) = some (.tup (cut xs lo hi)) := rfl
theorem x_sl3 (lo hi : Option Int) (z : Str) : gSl lo hi (.str z) = if z.length ≤ sizeLine then some (.str (cutS z lo hi)) else none := rfl
theorem x_ix1 (xs : List D) (i : Int) : gIx [.lst xs, .int i] = atI xs i := rfl
theorem x_ix2 (xs : List D) (i : Int) : gIx [.tup xs, .int i] = atI xs i := rfl
theorem x_ix3 (z : Str) (i : Int) : gIx [.str z, .int i] = if z.length ≤ sizeLine then (atI z.cps.toList i).map (fun c => D.str ⟨#[c]⟩) else none := rfl
theorem x_fld (cs : List Str) (f c : Str) (fs : List (Str × D)) : gFld cs f [.obj c fs] = if c ∈ cs then fs.lookup f else none := rfl
theorem x_catL (xs ys : List D) : gCatL [.lst xs, .lst ys] = if xs.length + ys.length ≤ sizeLine then some (.lst (xs ++ ys)) else none := rfl
theorem x_append (ds : List D) (d : D) : mAppend ds [d] = if ds.length < sizeLine then some (ds ++ [d]) else none := rfl
theorem x_extend1 (ds es : List D) : mExtend ds [.tup es] = if ds.length + es.length ≤ sizeLine then some (ds ++ es) else none := rfl
theorem x_extend2 (ds es : List D) : mExtend ds [.lst es] = if ds.length + es.length ≤ sizeLine then some (ds ++ es) else none := rfl
theorem x_insert (ds : List D) (i : Int) (d : D) : mInsert ds [.int i, d] = if ds.length < sizeLine ∧ 0 ≤ i ∧ i < 2 ^ 63 then some (ds.take i.toNat ++ [d] ++ ds.drop i.toNat) else none := rfl
theorem x_tg1 (i : Nat) (d : D) (δ : DS) : dTg (.nm i) d δ = some (δ.set i (some (.sh d))) := rfl
theorem x_tg2 (is : List Nat) (ds : List D) (δ : DS) : dTg (.tp is) (.tup ds) δ = if is.length = ds.length then some (setAll δ is ds) else none := rfl
theorem x_tg3 (is : List Nat) (ds : List D) (δ : DS) : dTg (.tp is) (.lst ds) δ = if is.length = ds.length then some (setAll δ is ds) else none := rfl
theorem x_setall1 (δ : DS) (i : Nat) (is : List Nat) (d : D) (ds : List D) : setAll δ (i :: is) (d :: ds) = setAll (δ.set i (some (.sh d))) is ds := rfl
theorem x_eq (d e : D) : gEq [d, e] = (eqD d e).map .bl := rfl
theorem x_ne (d e : D) : gNe [d, e] = (eqD d e).map fun b => .bl !b := rfl
theorem x_isInt0  : isInt .non = some false := rfl
theorem x_isInt1 (b : Bool) : isInt (.bl b) = some true := rfl
theorem x_isInt2 (i : Int) : isInt (.int i) = some true := rfl
theorem x_isInt3 (x : Str) : isInt (.str x) = some false := rfl
theorem x_isInt4 (xs : List D) : isInt (.lst xs) = some false := rfl
theorem x_isInt5 (xs : List D) : isInt (.tup xs) = some false := rfl
theorem x_isBool0  : isBool .non = some false := rfl
theorem x_isBool1 (b : Bool) : isBool (.bl b) = some true := rfl
theorem x_isBool2 (i : Int) : isBool (.int i) = some false := rfl
theorem x_isBool3 (x : Str) : isBool (.str x) = some false := rfl
theorem x_isBool4 (xs : List D) : isBool (.lst xs) = some false := rfl
theorem x_isBool5 (xs : List D) : isBool (.tup xs) = some false := rfl
theorem x_isStr0  : isStr .non = some false := rfl
theorem x_isStr1 (b : Bool) : isStr (.bl b) = some false := rfl
theorem x_isStr2 (i : Int) : isStr (.int i) = some false := rfl
theorem x_isStr3 (x : Str) : isStr (.str x) = some true := rfl
theorem x_isStr4 (xs : List D) : isStr (.lst xs) = some false := rfl
theorem x_isStr5 (xs : List D) : isStr (.tup xs) = some false := rfl
theorem x_isTuple0  : isTuple .non = some false := rfl
theorem x_isTuple1 (b : Bool) : isTuple (.bl b) = some false := rfl
theorem x_isTuple2 (i : Int) : isTuple (.int i) = some false := rfl
theorem x_isTuple3 (x : Str) : isTuple (.str x) = some false := rfl
theorem x_isTuple4 (xs : List D) : isTuple (.lst xs) = some false := rfl
theorem x_isTuple5 (xs : List D) : isTuple (.tup xs) = some true := rfl
theorem x_isList0  : isList .non = some false := rfl
theorem x_isList1 (b : Bool) : isList (.bl b) = some false := rfl
theorem x_isList2 (i : Int) : isList (.int i) = some false := rfl
theorem x_isList3 (x : Str) : isList (.str x) = some false := rfl
theorem x_isList4 (xs : List D) : isList (.lst xs) = some true := rfl
theorem x_isList5 (xs : List D) : isList (.tup xs) = some false := rfl
theorem x_isSeq0  : isSeq .non = some false := rfl
theorem x_isSeq1 (b : Bool) : isSeq (.bl b) = some false := rfl
theorem x_isSeq2 (i : Int) : isSeq (.int i) = some false := rfl
theorem x_isSeq3 (x : Str) : isSeq (.str x) = some false := rfl
theorem x_isSeq4 (xs : List D) : isSeq (.lst xs) = some true := rfl
theorem x_isSeq5 (xs : List D) : isSeq (.tup xs) = some true := rfl
theorem x_setall0 (δ : DS) (is : List Nat) : setAll δ is [] = δ := by cases is <;> rfl
section
variable {K : PySem.W.Frag} {h : Heap} {mg : Str → Option Value} {x qual : Str} {st : Stmt} {f C : Addr} {oc : Value} {od an : Option Addr} {osl : Array (Option Value)} {dV kV doc pm cdv ct : Value}
theorem DefT.okD {P : Program} {w : World} {base : Heap} {CX : CXT} {fd : FuncData} {k : Nat} {ps : List Str} {sp : Sp} (T : DefT K mg x st f fd) (hb : Binds K fd ps []) (F : FnOk P w K mg base CX k f fd ps sp) : OkD P w K mg base CX k x ps sp := ⟨f, fd, T.g, T.F.kp, hb, F⟩
def Dfl (K : PySem.W.Frag) (dV : Value) (nd : Nat) : Prop := (nd = 0 ∧ dV = .none) ∨ ∃ (T : Addr) (o : Obj) (its : Array Value) (n : Nat), dV = .ref T ∧ K.lookup T = some o ∧ o.data = .seq its n ∧ its.size = nd
structure FunC (K : PySem.W.Frag) (x qual : Str) (st : Stmt) (nd : Nat) (f : Addr) (fd : FuncData) : Prop where
  ex : ∃ (oc : Value) (od : Option Addr) (dV kV doc pm : Value) (an : Option Addr) (cdv ct : Value) (osl : Array (Option Value)),
    fd = PySem.W.fnOf x qual (defArgs st) (defBody st) (defScope st) dV kV doc pm an cdv ct ∧ K.lookup f = some ⟨oc, od, .func fd, osl⟩ ∧ PySem.W.codeIn K cdv qual = true ∧ Dfl K dV nd
theorem FunC.b {nd : Nat} {fd : FuncData} (F : FunC K x qual st nd f fd) : FunB K x qual st f fd := by
  obtain ⟨oc, od, dV, kV, doc, pm, an, cdv, ct, osl, e, lk, hcd, _⟩ := F.ex
  exact ⟨⟨oc, od, dV, kV, doc, pm, an, cdv, ct, osl, e, lk, hcd⟩⟩
theorem FunC.binds {nd : Nat} {fd : FuncData} {ps : List Str} (F : FunC K x qual st nd f fd)
    (h0 : nd = 0 → ∀ (kV doc pm : Value) (an : Option Addr) (cdv ct : Value) (us : List Value), us.length = ps.length → bindArgs (PySem.W.fnOf x qual (defArgs st) (defBody st) (defScope st) .none kV doc pm an cdv ct) ⟨us, []⟩ = pure (ps.zip us))
    (h : ∀ (T : Addr) (kV doc pm : Value) (an : Option Addr) (cdv ct : Value) (us its : List Value), us.length = ps.length → its.length = nd →
      ∃ k, bindArgs (PySem.W.fnOf x qual (defArgs st) (defBody st) (defScope st) (.ref T) kV doc pm an cdv ct) ⟨us, []⟩ = seqItems? (.ref T) >>= k ∧ k (some its.toArray) = pure (ps.zip us)) : Binds K fd ps [] := by
  obtain ⟨oc, od, dV, kV, doc, pm, an, cdv, ct, osl, rfl, lk, hcd, hD⟩ := F.ex
  rcases hD with ⟨e, rfl⟩ | ⟨T, o, its, n, rfl, lT, oT, hl⟩
  · exact .all (h0 e kV doc pm an cdv ct)
  · intro s us X hlen
    rw [List.append_nil] at hlen ⊢
    obtain ⟨k, e1, e2⟩ := h T kV doc pm an cdv ct us its.toList hlen (by rw [Array.length_toList]; exact hl)
    refine BindsTo.of_looks fun M => ?_
    rw [e1]
    exact looks_items X lT oT (.of_pure (by simpa using e2))
structure CsT (K : PySem.W.Frag) (mg : Str → Option Value) (x qual : Str) (st : Stmt) (nd : Nat) (C fI : Addr) (fd : FuncData) : Prop where
  ct : ClT K mg x C
  mkC : Mk K C fI
  F : FunC K "__init__" qual st nd fI fd
theorem csTd {fI T : Addr} {nd : Nat} {oT : Obj} {its : Array Value} {nT : Nat} (X : K.In h) (G : h.Ns mainGlobals mg) (aC : PySem.W.nsIn K mainGlobals x = some (some (.ref C))) (pg : PySem.W.plainGet K C Str.empty = true) (hd : PySem.W.hasDictIn K C = true) (po : PySem.W.plainOver K C = true)
    (sa : PySem.W.findIn K (.ref C) "__setattr__" = some (some (.builtin "object.__setattr__"))) (ha : PySem.W.findIn K (.ref C) "__class__" = some (some (.builtin "object.__class__"))) (hn : PySem.W.specialIn K (.builtin "object.__class__") "__get__" = some (some (.builtin "getset_descriptor.__get__")))
    (ht : PySem.W.takesIn K (.builtin "object.__class__") = some true) (hm : PySem.W.mroIn K C (.type "object") = some true) (self : PySem.W.kitOne K (.ref C) (.ref C) = some true)
    (mk : PySem.W.makesIn K C = true) (ini : PySem.W.findIn K (.ref C) "__init__" = some (some (.ref fI))) (fn : PySem.W.isFn K (.ref fI) = true) (kp : PySem.W.keepIn K (.ref C) = true)
    (l : K.lookup fI = some ⟨oc, od, .func (PySem.W.fnOf "__init__" qual (defArgs st) (defBody st) (defScope st) (.ref T) kV doc pm an cdv ct), osl⟩) (c : PySem.W.codeIn K cdv qual = true) (lT : K.lookup T = some oT) (dT : oT.data = .seq its nT) (nT' : its.size = nd) : CsT K mg x qual st nd C fI (PySem.W.fnOf "__init__" qual (defArgs st) (defBody st) (defScope st) (.ref T) kV doc pm an cdv ct) :=
  ⟨⟨PySem.W.mg_of X G aC, ⟨pg, hd, po, sa⟩, ha, hn, ht, hm, self⟩, ⟨mk, ini, fn, kp⟩, ⟨⟨oc, od, .ref T, kV, doc, pm, an, cdv, ct, osl, rfl, l, c, .inr ⟨T, oT, its, nT, rfl, lT, dT, nT'⟩⟩⟩⟩
theorem eqT {fE N : Addr} {nm q : Str} {bs : List Value} {hdct : Bool} {sn : List Str} {sub : List Value} {ab : Bool} {col : Option Bool} {dd : Option Addr} {k0 k1 k2 k3 k5 : Option Value} {newId : String} {o : Obj}
    (xL : K.lookup C = some (excClassObj nm q C N bs [.type "object"] hdct sn sub ab col dd k0 k1 k2 k3 k5 newId)) (ok : PySem.W.nsOkIn K N = true) (e1 : PySem.W.nsIn K N "__eq__" = some (some (.ref fE))) (e2 : PySem.W.nsIn K N "__ne__" = some none)
    (l : K.lookup fE = some o) (oc : o.cls = .type "function") (find : PySem.W.findIn K (.ref C) "__eq__" = some (some (.ref fE))) (isf : PySem.W.isFn K (.ref fE) = true) : EqT K C fE :=
  ⟨⟨nm, q, N, bs, hdct, sn, sub, ab, col, dd, k0, k1, k2, k3, k5, newId, xL, ok, e1, e2⟩, ⟨o, l, oc⟩, find, isf⟩
theorem methT (l : K.lookup f = some ⟨oc, od, .func (PySem.W.fnOf x qual (defArgs st) (defBody st) (defScope st) .none kV doc pm an cdv ct), osl⟩) (c : PySem.W.codeIn K cdv qual = true) (k : PySem.W.keepIn K (.ref f) = true) : Fun K x qual st f (PySem.W.fnOf x qual (defArgs st) (defBody st) (defScope st) .none kV doc pm an cdv ct) := fun_mk l c k
end
end Dn
namespace Dn
open PySem PySem.Spec PyProof.Rows L2 Br PySem.BrX
def mkF {α : Type} (names : List Str) (vs : List α) : Option (List (Str × α)) := if vs.length = names.length then some (names.zip vs).reverse else none
def dRaise (c : Str) (names : List Str) (a : DA) : DT := fun F δ n => a δ n (fun ds n' => ∃ fs, mkF names ds = some fs ∧ F.xe δ c fs n') (F.xe δ)
theorem DvF.append {g : G} {H : Hp} {a c : List (Str × V)} {b d : List (Str × D)} (h : DvF g H a b) (k : DvF g H c d) : DvF g H (a ++ c) (b ++ d) := by
  induction b generalizing a with
  | nil => cases h; exact k
  | cons p r ih => cases h with | cons x y => exact .cons x (ih y)
theorem DvF.reverse {g : G} {H : Hp} {a : List (Str × V)} {b : List (Str × D)} (h : DvF g H a b) : DvF g H a.reverse b.reverse := by
  induction b generalizing a with
  | nil => cases h; exact .nil
  | cons p r ih =>
    cases h with
    | cons x y =>
      rw [List.reverse_cons, List.reverse_cons]
      exact (ih y).append (.cons x .nil)
theorem zip_dv {g : G} {H : Hp} {vs : List V} {ds : List D} (k : DvAll g H vs ds) : ∀ names : List Str, DvF g H (names.zip vs) (names.zip ds)
  | [] => .nil
  | f :: r => by
    cases k with
    | nil => exact .nil
    | cons a b => exact .cons a (zip_dv b r)
theorem mkF_dv {g : G} {H : Hp} {vs : List V} {ds : List D} {names : List Str} {fs : List (Str × D)} (k : DvAll g H vs ds) (h : mkF names ds = some fs) : ∃ gs, mkF names vs = some gs ∧ DvF g H gs fs := by
  unfold mkF at h ⊢
  split at h
  · rename_i hl
    cases h
    exact ⟨_, if_pos (by rw [k.len]; exact hl), (zip_dv k names).reverse⟩
  · cases h
section
variable {X : Cx} {Z : Zx} {e a b : Expr} {es : List Expr} {de da db : DE} {ra : DA} {pos pos2 p : Pos} {k : Nat} {x qual : Str} {ps : List Str} {C fI : Addr} {st : Stmt} {fd : FuncData} {B newId initId : String} {bmB : List Value}
theorem ds_raise {names : List Str} (XB : ExB B newId initId bmB) (hc : X.calm = true) (tk : Takes X Z.W) (T : XcB X.K X.mg x qual st newId bmB C fI fd) (F1 : FnOk X.prog X.w X.K X.mg X.base CX0 k fI fd ps (spXs C (mkF names))) (hb : Binds X.K fd ps []) (hr : Room (k + 1) X.A) (zm : Z.g.mg = X.mg)
    (ha : PA X (e :: es) (liftA Z ra)) (hn : names.length ≤ 1000) (hg : Gl X x := by rfl) (hdb : (x == ("__debug__" : Str)) = false := by decide) (he : starEach (e :: es) X.env = (false, eval e X.env) :: starEach es X.env := by rfl) (hpl : (backTo pos (starEach es X.env)).any (·.1) = false := by rfl) :
    PS X (.Raise (some (.Call (.Name x p) (e :: es) [] pos)) none pos2) (liftS Z (dRaise x names ra)) := upS (ps_rzs XB hc tk T F1 hb hr ha hg hdb he hpl) fun D σ H ⟨δ, Hv, n, F, r, h, k1, k2, k3, k4, k5⟩ => by
  refine ⟨δ, Hv, n, _, _, r, h, (fun ds vs H1 Hv1 n1 h2 e1 p1 kk => ?_), k5.e r⟩
  obtain ⟨fs, hfs, hx⟩ := h2
  obtain ⟨gs, hgs, kf⟩ := mkF_dv kk hfs
  have hl : vs.length = names.length := by
    unfold mkF at hgs
    split at hgs
    · assumption
    · cases hgs
  refine ⟨by rw [hl]; exact hn, gs, hgs, fun d H' hd sm hd' => ?_⟩
  have r1 := r.step e1 p1
  have hvd : Hv1 d = none := by
    cases q : Hv1 d with
    | none => rfl
    | some u => rw [e1.sub _ _ q] at hd; cases hd
  have ex : Ext Z.g H1 Hv1 H' (upd Hv1 d (.xd gs)) := ⟨.of sm, same_new hvd, fun b o hb => by
      by_cases eb : b = d
      · subst eb; rw [upd_same] at hb; cases hb; exact hd'
      · rw [upd_ne eb] at hb; exact sm _ _ (e1.sub _ _ hb), fun c h1 h2 => by
      have : c ≠ d := fun z => h2 (by rw [z]; exact hd)
      rw [upd_ne this]; exact h1, fun z => z.upd (fun _ w => by cases w)⟩
  exact k5 δ σ H' _ n1 x fs _ _ hx (e1.see.trans ex.see) (r1.step ex (p1.mono sm (Nat.le_refl _))) ⟨C, d, gs, rfl, by rw [zm]; exact T.g, rfl, upd_same, kf.mono ex.see⟩
def dTry (i j : Nat) (c : Str) (t : DT) : DT := fun F δ n => t ⟨F.nx, F.rt, F.bk, F.ct, fun δ' c' fs n' => c' = c ∧ i < δ'.length ∧ F.nx ((δ'.set j (some (.sh (.exc c' fs)))).set i none) n'⟩ δ n
def gXf (cs : List Str) (f : Str) : List D → Option D
  | [.exc c fs] => if c ∈ cs then fs.lookup f else none
  | _ => none
def gIsX (f : Str → Option Bool) : List D → Option D
  | [.exc c _] => (f c).map .bl
  | _ => none
def only (x : Str) (b : Bool) (c : Str) : Option Bool := if c = x then some b else none
def dIxO (i : Nat) (e : DE) : DE := fun δ n P E => ∃ ds, δ[i]? = some (some (.ow ds)) ∧ e δ n (fun k n' => ∃ j d, k = .int j ∧ atI ds j = some d ∧ P d n') E
theorem d_ixO {i : Nat} {y : Str} {p1 : Pos} (zk : Z.g.K = X.K) (hx : PE X (.Name y p1) (tVar i)) (hb : PE X b (lift Z db)) (hs : PlainIx b) : PE X (.Subscript (.Name y p1) b pos) (lift Z (dIxO i db)) := up (pe_ix ix_list hx hb hs) fun σ H Q ⟨δ, Hv, n, P, E, rr, ⟨ds, hd, h1⟩, q, x⟩ => by
  obtain ⟨p, vs, s1, s2, s3, s4⟩ := own_at rr hd
  refine ⟨.ref p, s1, δ, Hv, n, _, E, rr, h1, (fun d v H' Hv' n' h2 e pn k => ?_), x⟩
  obtain ⟨j, dd, rfl, hj, h3⟩ := h2
  cases k
  obtain ⟨w, w1, w2⟩ := at_dv (s4.mono e.see) hj
  exact ⟨p, vs, j, w, rfl, rfl, sqL (e.at s3 s2 (fun _ z => by cases z)), w1, q _ _ _ _ _ h3 e pn w2⟩
end
section
variable {X : Cx} {Z : Zx} {e : Expr} {es : List Expr} {ra : DA} {pos p : Pos} {k : Nat} {x : Str} {ps : List Str} {U : List D → M D} {kn : Kn}
theorem d_callX0 (o : OkD X.prog X.w X.K X.mg X.base (L2.CX X.prog X.w) k x ps (spU X.K X.mg kn U)) (hr : Room k X.A) (zk : Z.g.K = X.K) (zm : Z.g.mg = X.mg) (zn : Z.g.kn = kn) (ha : PA X (e :: es) (liftA Z ra)) (hg : Gl X x := by rfl)
    (hdb : (x == ("__debug__" : Str)) = false := by decide) (he : starEach (e :: es) X.env = (false, eval e X.env) :: starEach es X.env := by rfl) (hpl : (backTo pos (starEach es X.env)).any (·.1) = false := by rfl) :
    PE X (.Call (.Name x p) (e :: es) [] pos) (lift Z (dCall0 U ra)) := up (pe_callDS o hr takes0 ha hg hdb he hpl) fun σ H Q ⟨δ, Hv, n, P, E, r, h1, q, xx⟩ => by
  refine ⟨δ, Hv, n, _, E, r, h1, (fun d v H' Hv' n' h2 ee p k => ?_), xx⟩
  have eg := eta_g zk zm zn
  refine ⟨Z.g.pd, Z.g.pc, Hv', d, n', P, (fun _ _ _ => False), ee.sub, (r.step ee p).npd, ?_⟩
  rw [eg]
  exact ⟨p, k, h2, q.step ee p, fun _ _ _ _ _ _ _ z => z.elim⟩
end
theorem mkF1 {f : Str} {ws : List V} {fs : List (Str × V)} (h : mkF [f] ws = some fs) : ∃ v, ws = [v] ∧ fs = [(f, v)] := by
  unfold mkF at h
  split at h
  · rename_i hl
    cases h
    match ws, hl with
    | [v], _ => exact ⟨v, rfl, rfl⟩
  · cases h
section
variable {P : Program} {w : World} {K : PySem.W.Frag} {mg : Str → Option Value} {base : Heap} {kn : Kn} {x qual : Str} {st : Stmt} {f : Addr} {fd : FuncData} {N ps : List Str} {k : Nat}
end
mutual
def D.pd : D → Option PyData
  | .non => some .none
  | .bl b => some (.bool b)
  | .int i => some (.int i)
  | .str x => some (.str x)
  | .lst xs => (D.pdAll xs).map .list
  | .tup xs => (D.pdAll xs).map .tuple
  | .dct kvs => match kvs with
    | [] => some (.dict [])
    | _ => none
  | _ => none
def D.pdAll : List D → Option (List PyData)
  | [] => some []
  | x :: xs => match D.pd x, D.pdAll xs with
    | some a, some b => some (a :: b)
    | _, _ => none
end
section
variable {X : Cx} {pins : List (Addr × Obj)} {σ : L2.St} {H Hv : Hp} {s : Shared} {g : G}
mutual
theorem rk_of (I : Inv X pins σ H s) (zk : g.K = X.K) (sm : Same Hv H) : ∀ {d : D} {v : V} {u : Value} {p : PyData}, Dv g Hv v d → d.pd = some p → RelV v u → p.showable = true → p.shown.length ≤ sizeLine →
    (∃ as, Reads s.heap u p as) ∧ ∃ bs, ReadAtMost s.heap p.depth bs ∧ ReprK X.prog X.w bs s.heap p.depth u p.shown
  | _, _, _, _, .non, h, r, _, _ => by
    cases h; cases r
    exact ⟨⟨_, .none⟩, [], (fun _ h => nomatch h), .of_is ReprIs.none _ _ _⟩
  | _, _, _, _, .bl b, h, r, _, _ => by
    cases h; cases r
    exact ⟨⟨_, .bool b⟩, [], (fun _ h => nomatch h), .of_is (ReprIs.bool b) _ _ _⟩
  | _, _, _, _, .int i, h, r, hs, _ => by
    cases h; obtain ⟨t, rfl⟩ := r
    exact ⟨⟨_, .int i t⟩, [], (fun _ h => nomatch h), .of_is (ReprIs.int t (by simpa [PyData.showable] using hs)) _ _ _⟩
  | _, _, _, _, .str x, h, r, _, hz => by
    cases h; obtain ⟨t, rfl⟩ := r
    exact ⟨⟨_, .str x t⟩, [], (fun _ h => nomatch h), .of_is (ReprIs.str x t hz) _ _ _⟩
  | .lst ds, _, _, p, .lst ha ks, h, r, hs, hz => by
    unfold D.pd at h
    cases e : D.pdAll ds with
    | none => rw [e] at h; cases h
    | some q =>
      rw [e] at h
      cases h
      cases r
      obtain ⟨its, rv, ⟨o, n, ho, hc, _, hd⟩, _⟩ := I.list (sqL (sm _ _ ha))
      have hz' : (listText (PyData.shownAll q)).length ≤ sizeLine := hz
      obtain ⟨⟨as, hr⟩, bs, hb, hk⟩ := rkAll_of I zk sm ks e rv (by simpa [PyData.showable] using hs) (fun t ht => Nat.le_trans (listText_mem_le ht) hz')
      have r1 : Reads s.heap (.ref _) (.list q) _ := .list ho hc hd hr
      have hna := not_mem_of_deeper r1 (by show PyData.depthAll q < PyData.depthAll q + 1; omega) hb
      refine ⟨⟨_, r1⟩, _ :: bs, ReadAtMost.cons r1 (by show PyData.depthAll q ≤ PyData.depthAll q + 1; omega) hb, ?_⟩
      cases its with
      | nil =>
        cases hr
        have e1 : PyData.shown (.list []) = "[]" := by simp only [PyData.shown, PyData.shownAll, listText_nil]
        rw [e1]
        exact ReprK.listEmpty ho hc hd
      | cons x l =>
        simp only [PyData.depth, PyData.shown]
        exact ReprK.list ho hc hd hna (by simpa using hk.length_eq) (fun i y e => hk.item i y (by simpa using e))
  | .tup ds, _, _, p, .tup ha ks, h, r, hs, hz => by
    unfold D.pd at h
    cases e : D.pdAll ds with
    | none => rw [e] at h; cases h
    | some q =>
      rw [e] at h
      cases h
      cases r
      obtain ⟨its, rv, ⟨o, ho, hc, n, hd⟩, _⟩ := I.tuple (zk ▸ same_seqT sm ha)
      have hz' : (tupleText (PyData.shownAll q)).length ≤ sizeLine := hz
      obtain ⟨⟨as, hr⟩, bs, hb, hk⟩ := rkAll_of I zk sm ks e rv (by simpa [PyData.showable] using hs) (fun t ht => Nat.le_trans (tupleText_mem_le ht) hz')
      have r1 : Reads s.heap (.ref _) (.tuple q) _ := .tuple ho hc hd hr
      have hna := not_mem_of_deeper r1 (by show PyData.depthAll q < PyData.depthAll q + 1; omega) hb
      refine ⟨⟨_, r1⟩, _ :: bs, ReadAtMost.cons r1 (by show PyData.depthAll q ≤ PyData.depthAll q + 1; omega) hb, ?_⟩
      simp only [PyData.depth, PyData.shown]
      exact ReprK.tuple ho hc hd hna hk
  | .dct [], _, _, p, .dct ha ks, h, r, hs, hz => by
    cases h
    cases r
    cases ks
    obtain ⟨_, hsys, vs, rk, o, es, ep, ho, hc, hd, _, hp, _⟩ := dk_rd I.hok (.inr ⟨_, sm _ _ ha⟩)
    cases rk
    have he : es.toList = [] := by
      cases q : es.toList with
      | nil => rfl
      | cons a b => rw [q] at hp; cases hp
    have r1 : Reads s.heap (.ref _) (.dict []) _ := .dict (as := []) (bs := []) ho hc.1 hd (by rw [he]; exact .nil) (by rw [he]; exact .nil)
    refine ⟨⟨_, r1⟩, _ :: [], ReadAtMost.cons (n := 0) r1 (Nat.zero_le _) (fun _ h => nomatch h), ?_⟩
    have := ReprK.dict (prog := X.prog) (w := X.w) (as := []) (d := 0) (ps := []) ho hc.1 hd hsys (by simp) (by rw [he]; exact .nil)
    exact this
  | .dct (_ :: _), _, _, p, .dct ha ks, h, r, _, _ => by cases h
  | _, _, _, _, .obj _ _ _, h, _, _, _ => by cases h
  | _, _, _, _, .exc _ _ _ _, h, _, _, _ => by cases h
  | _, _, _, _, .pen, h, _, _, _ => by cases h
  | _, _, _, _, .scr _, h, _, _, _ => by cases h
  | _, _, _, _, .fn _ _ _, h, _, _, _ => by cases h
theorem rkAll_of (I : Inv X pins σ H s) (zk : g.K = X.K) (sm : Same Hv H) : ∀ {ds : List D} {vs : List V} {us : List Value} {ps : List PyData}, DvAll g Hv vs ds → D.pdAll ds = some ps → Vals vs us → PyData.showableAll ps = true → (∀ t ∈ PyData.shownAll ps, t.length ≤ sizeLine) →
    (∃ as, ReadsAll s.heap us ps as) ∧ ∃ bs, ReadAtMost s.heap (PyData.depthAll ps) bs ∧ ReprAllK X.prog X.w bs s.heap (PyData.depthAll ps) us (PyData.shownAll ps)
  | [], _, _, _, .nil, h, r, _, _ => by
    cases h; cases r
    exact ⟨⟨_, .nil⟩, [], (fun _ h => nomatch h), .nil⟩
  | d :: ds, _, _, ps, .cons k ks, h, r, hs, hz => by
    unfold D.pdAll at h
    cases e : d.pd with
    | none => rw [e] at h; cases h
    | some a =>
      cases e2 : D.pdAll ds with
      | none => rw [e, e2] at h; cases h
      | some b =>
        rw [e, e2] at h
        cases h
        cases r with
        | cons r1 r2 =>
          have hs' : a.showable = true ∧ PyData.showableAll b = true := by simpa [PyData.showableAll] using hs
          obtain ⟨⟨as, q1⟩, b1, hb1, k1⟩ := rk_of I zk sm k e r1 hs'.1 (hz _ (by simp [PyData.shownAll]))
          obtain ⟨⟨bs, q2⟩, b2, hb2, k2⟩ := rkAll_of I zk sm ks e2 r2 hs'.2 (fun t ht => hz t (by simp [PyData.shownAll, ht]))
          refine ⟨⟨_, .cons q1 q2⟩, b1 ++ b2, (hb1.mono (Nat.le_max_left _ _)).append (hb2.mono (Nat.le_max_right _ _)), ?_⟩
          exact .cons ((k1.more fun b hb => List.mem_append_left _ hb).level_le (Nat.le_max_left _ _)) (k2.more_le (fun b hb => List.mem_append_right _ hb) (Nat.le_max_right _ _))
end
def dDct0 : DE := fun δ n P E => P (.dct []) n
end
section
variable {X : Cx} {CX : CXT} {k : Nat} {f C : Addr} {fd : FuncData} {ps : List Str} {sp : Sp} {dw : List V} {dv : List Value} {E : XK}
theorem mk_at {pins : List (Addr × Obj)} {σ : L2.St} {H : Hp} {s : Shared} {Q : VK} {us : List Value} {vs : List V} (M : Mk X.K C f) (F : FnOk X.prog X.w X.K X.mg X.base CX k f fd ps sp) (hr : Room (k + 1) X.A) (bd : Binds X.K fd ps dv) (rd : Vals dw dv)
    (px : PassesAt CX X σ E) (I : Inv X pins σ H s) (rv : Vals vs us)
    (go : ∀ y dy, H y = none → H dy = none → dy ≠ y → sp (.ref y :: (vs ++ dw)) (upd (upd H dy (.own y)) y (.ins C dy [])) (fun v H2 => v = .non ∧ Q (.ref y) H2) E) :
    wpAny (model X.prog X.w) X.A (call (.ref C) us) (EP X pins σ Q) X.xe s := by
  have pre := go _ _ (I.hok.fresh (Nat.le_succ s.heap.objs.size)) (I.hok.fresh (Nat.le_refl s.heap.objs.size)) (Nat.ne_of_lt (Nat.lt_succ_self _))
  have J := Inv.made (C := C) I
  have all : Vals (V.ref (s.heap.objs.size + 1) :: (vs ++ dw)) (Value.ref (s.heap.objs.size + 1) :: (us ++ dv)) := .cons rfl (rv.append rd)
  have ln : (Value.ref (s.heap.objs.size + 1) :: us ++ dv).length = ps.length := all.length.symm.trans (F.len _ _ _ _ pre)
  have body := F.run _ X.stack _ _ ⟨Value.ref (s.heap.objs.size + 1) :: us, []⟩ _ _ _ E (hr.make C us []) (J.env0.make C us []) (bd _ (Value.ref (s.heap.objs.size + 1) :: us) J.kIn ln) all pre
  refine wpAny_call (make_map (f := f) I.kIn M.makes M.init (beq_iff_eq.mp M.fn) (codeAny_mono body fun out s' w => ?_))
  rcases out with e | (u | _ | _ | _)
  · exact px pins _ _ e s' J w
  all_goals first | exact False.elim w | skip
  · obtain ⟨v, H', J', ru, hv, q⟩ := J.after w
    subst hv
    exact ⟨ru, V.ref (s.heap.objs.size + 1), H', J', rfl, q⟩
def OkCx (P : Program) (w : World) (K : PySem.W.Frag) (mg : Str → Option Value) (base : Heap) (k : Nat) (x : Str) (C : Addr) (ps : List Str) (dw : List V) (sp : Sp) : Prop :=
  ∃ (f : Addr) (fd : FuncData) (dv : List Value), mg x = some (.ref C) ∧ Mk K C f ∧ Binds K fd ps dv ∧ Vals dw dv ∧ FnOk P w K mg base (L2.CX P w) k f fd ps sp
def tMkS (C : Addr) (sp : Sp) (dw : List V) (W : WX) (t : TA) : TE := fun σ H Q => t σ H fun vs H1 => ∀ y dy, H1 y = none → H1 dy = none → dy ≠ y →
  sp (.ref y :: (vs ++ dw)) (upd (upd H1 dy (.own y)) y (.ins C dy [])) (fun v H2 => v = .non ∧ Q (.ref y) H2) (WE W σ)
theorem pe_mkS {W : WX} {x : Str} {p pos : Pos} {e : Expr} {es : List Expr} {t : TA} (O : OkCx X.prog X.w X.K X.mg X.base k x C ps dw sp) (hr : Room (k + 1) X.A) (tk : Takes X W) (ha : PA X (e :: es) t) (hg : Gl X x := by rfl)
    (hdb : (x == ("__debug__" : Str)) = false := by decide) (he : starEach (e :: es) X.env = (false, eval e X.env) :: starEach es X.env := by rfl) (hpl : (backTo pos (starEach es X.env)).any (·.1) = false := by rfl) :
    PE X (.Call (.Name x p) (e :: es) [] pos) (tMkS C sp dw W t) := by
  obtain ⟨f, fd, dv, gm, M, b, rd, F⟩ := O
  refine ⟨fun pins s σ H Q I h => wpAny_Call_Name_kw (ld_glob I hg gm ?_ hdb)⟩
  exact PySem.W.callWith_K (h₀ := X.base) I.ok.mod.kin M.kp (thn (ha.run pos pins s σ H _ I h) fun us s1 ⟨vs, H1, I1, r, q⟩ => ⟨I1.kIn, mk_at M F hr b rd (passAt tk σ) I1 r q⟩) he hpl
end
section
variable {P : Program} {w : World} {K : PySem.W.Frag} {mg : Str → Option Value} {base : Heap} {kn : Kn} {c x qual : Str} {st : Stmt} {f : Addr} {fd : FuncData} {N ps : List Str} {k m : Nat} {t : DT}
theorem FunB.okX {sp : Sp} (F : FunB K x qual st f fd) (S : FnScope N ps (defScope st)) (hlen : ∀ vs H Q E, sp vs H Q E → vs.length = ps.length)
    (hbd : ∀ (cd : Value) (A : Around) (out : List Env) (s : Shared) (H : Hp) (vs : List V) (Q : VK) (E : XK), Room k (A.deeper (envOfC qual (defScope st) s.heap.objs.size f cd)) → sp vs H Q E →
      ∃ t, PSs (cxOf (L2.CX P w) P w K mg base N qual (defScope st) f cd A out s H E) (defBody st) t ∧ t { nx := fun _ H' => Q .non H', rt := Q } (L2.start N vs) H) : FnOk P w K mg base (L2.CX P w) (k + 1) f fd ps sp := by
  obtain ⟨_, _, _, _, _, _, _, cd, _, _, rfl, lk, hcd⟩ := F.ex
  exact fn_of lk hcd S hlen fun A out s H vs Q E hr z => hbd cd A out s H vs Q E hr z
theorem init_DX (F : FunB K x qual st f fd) (S : FnScope N ps (defScope st)) (hm : ps.length = m + 1) (hN : 0 < N.length)
    (hb : ∀ (cdv : Value) (A : Around) (outer : List Env) (s : Shared) (H : Hp) (E : XK) (Z : Zx), Room k (A.deeper (envOfC qual (defScope st) s.heap.objs.size f cdv)) → Z.g.K = K → Z.g.mg = mg → Z.g.kn = kn → Z.W = (fun c d _ H' => E c d H') → PSs (cxOf (L2.CX P w) P w K mg base N qual (defScope st) f cdv A outer s H E) (defBody st) (liftS Z t)) :
    FnOk P w K mg base (L2.CX P w) (k + 1) f fd ps (spI K mg kn c (dInit m N.length c t)) := by
  refine FunB.okX F S (fun vs H Q E h => by rw [spI_len h, hm]) (fun cdv A outer s H vs Q E hr h => ?_)
  obtain ⟨pd, pc, C, dx, y, ws, Hv, ds, n, Pz, Ex, rfl, hy, hC, hvy, sm, np, p, kk, hU, q, xx⟩ := h
  exact ⟨_, hb cdv A outer s H E ⟨⟨K, mg, pd, pc, kn⟩, without H y, Hv, fun c d _ H' => E c d H'⟩ hr rfl rfl rfl rfl, init_of hN rfl rfl (fun _ _ _ _ z => z) hy hC hvy sm np p kk hU q xx⟩
end
section
variable {X : Cx} {Z : Zx} {e : Expr} {es : List Expr} {ra : DA} {pos p : Pos} {k : Nat} {x : Str} {kn : Kn} {ps : List Str} {C : Addr} {U : MI}
def dMakeX (c : Str) (U : MI) (es : List D) (a : DA) : DE := fun δ n P E => a δ n (fun ds n' => U (ds ++ es) n' (fun fs n2 => P (.obj c fs) n2) E) E
theorem ext_mk {g : G} {H Hv H' Hv' H2 Hv2 : Hp} {n : Nat} {y dy : Addr} {o : HO} (ee : Ext g H Hv H' Hv') (pn : Pn g H' n) (hy : H' y = none) (hdy : H' dy = none) (e2 : Ext g (without (upd (upd H' dy (.own y)) y o) y) Hv' H2 Hv2) : Ext g H Hv H2 Hv2 := by
  have w1 : ∀ b v, b ≠ y → H' b = some v → without (upd (upd H' dy (.own y)) y o) y b = some v := fun b v hb e => by
    rw [without_ne hb, upd_ne hb, upd_ne (ne_of_none e hdy)]
    exact e
  refine ⟨fun b v nb e => ?_, ee.see.trans e2.see, e2.sub, fun c hc1 hc2 => ?_, fun z => e2.nt (ee.nt z)⟩
  · by_cases eb : b = y
    · subst eb
      obtain ⟨_, w, _⟩ := ee.but _ _ nb e
      rw [hy] at w; cases w
    · obtain ⟨o1, a1, a2⟩ := ee.but _ _ nb e
      obtain ⟨o2, b1, b2⟩ := e2.but b o1 nb (w1 b o1 eb a1)
      exact ⟨o2, b1, fun z => by have := a2 z; subst this; exact b2 z⟩
  · have ny : c ≠ y := fun z => by
      subst z
      exact hc2 (ext_fresh ee pn hy)
    refine e2.hid c (ee.hid c hc1 hc2) fun z => ?_
    cases w : H' c with
    | none =>
      by_cases ez : c = g.pd
      · subst ez; exact pn.pd w
      · cases w2 : H c with
        | none => exact hc2 w2
        | some o =>
          obtain ⟨_, w3, _⟩ := ee.but _ _ ez w2
          rw [w3] at w; cases w
    | some o => rw [w1 c o ny w] at z; cases z
theorem d_makeX {dw : List V} {es' : List D} (o : OkCx X.prog X.w X.K X.mg X.base k x C ps dw (spI X.K X.mg kn x U)) (hdw : ∀ Hv, DvAll Z.g Hv dw es') (hr : Room (k + 1) X.A) (zk : Z.g.K = X.K) (zm : Z.g.mg = X.mg) (zn : Z.g.kn = kn) (tk : Takes X Z.W) (ha : PA X (e :: es) (liftA Z ra)) (hg : Gl X x := by rfl)
    (hdb : (x == ("__debug__" : Str)) = false := by decide) (he : starEach (e :: es) X.env = (false, eval e X.env) :: starEach es X.env := by rfl) (hpl : (backTo pos (starEach es X.env)).any (·.1) = false := by rfl) :
    PE X (.Call (.Name x p) (e :: es) [] pos) (lift Z (dMakeX x U es' ra)) := up (pe_mkS o hr tk ha hg hdb he hpl) fun σ H Q ⟨δ, Hv, n, P, E, r, h1, q, xx⟩ => by
  obtain ⟨_, _, _, hmC, _⟩ := o
  refine ⟨δ, Hv, n, _, E, r, h1, (fun d v H' Hv' n' h2 ee pn k => ?_), xx⟩
  have eg := eta_g zk zm zn
  intro y dy hy hdy hne
  have hv0 : ∀ {b : Addr}, H' b = none → Hv' b = none := fun {b} hb => by
    cases z : Hv' b with
    | none => rfl
    | some o => rw [ee.sub _ _ z] at hb; cases hb
  have s1 : Same H' (upd (upd H' dy (.own y)) y (.ins C dy [])) := fun b o hb => by
    rw [upd_ne (ne_of_none hb hy), upd_ne (ne_of_none hb hdy)]; exact hb
  refine ⟨Z.g.pd, Z.g.pc, C, dy, y, v ++ dw, Hv', d ++ es', n', (fun fs n2 => P (.obj x fs) n2), E, rfl, upd_same, hmC, hv0 hy, ee.sub.trans s1, (r.step ee pn).npd, ?_⟩
  rw [eg]
  refine ⟨pn.mono s1 (Nat.le_refl _), k.append (hdw _), h2, fun fs fvs dx' H2 Hv2 n2 hp e2 p2 h3 hv3 kf => ⟨rfl, ?_⟩, fun c fs n2 cls dd H2 Hv2 hE e2 p2 z => xx c fs n2 cls dd H2 Hv2 hE (ext_mk ee pn hy hdy e2) p2 z⟩
  have e3 := ext_mk ee pn hy hdy e2
  refine q (.obj x fs) (.ref y) H2 (upd Hv2 y (.ins C dx' fvs)) n2 hp ⟨e3.but, e3.see.trans (same_new hv3), fun b o e => ?_, fun c hc1 hc2 => ?_, fun z => (e3.nt z).upd (fun _ w => by cases w)⟩ p2 (.obj upd_same (zm ▸ hmC) (kf.mono (same_new hv3)))
  · by_cases eb : b = y
    · subst eb; rw [upd_same] at e; cases e; exact h3
    · rw [upd_ne eb] at e; exact e2.sub _ _ e
  · have ny : c ≠ y := fun z => by
      subst z
      exact hc2 (ext_fresh ee pn hy)
    rw [upd_ne ny]
    exact e3.hid c hc1 hc2
def dMakeX0 (c : Str) (U : MI) (es : List D) (a : DA) : DE := fun δ n P E => a δ n (fun ds n' => U (ds ++ es) n' (fun fs n2 => P (.obj c fs) n2) (fun _ _ _ => False)) E
theorem d_makeX0 {dw : List V} {es' : List D} (o : OkCx X.prog X.w X.K X.mg X.base k x C ps dw (spI X.K X.mg kn x U)) (hdw : ∀ Hv, DvAll Z.g Hv dw es') (hr : Room (k + 1) X.A) (zk : Z.g.K = X.K) (zm : Z.g.mg = X.mg) (zn : Z.g.kn = kn) (ha : PA X (e :: es) (liftA Z ra)) (hg : Gl X x := by rfl)
    (hdb : (x == ("__debug__" : Str)) = false := by decide) (he : starEach (e :: es) X.env = (false, eval e X.env) :: starEach es X.env := by rfl) (hpl : (backTo pos (starEach es X.env)).any (·.1) = false := by rfl) :
    PE X (.Call (.Name x p) (e :: es) [] pos) (lift Z (dMakeX0 x U es' ra)) := up (pe_mkS o hr takes0 ha hg hdb he hpl) fun σ H Q ⟨δ, Hv, n, P, E, r, h1, q, xx⟩ => by
  obtain ⟨_, _, _, hmC, _⟩ := o
  refine ⟨δ, Hv, n, _, E, r, h1, (fun d v H' Hv' n' h2 ee pn k => ?_), xx⟩
  have eg := eta_g zk zm zn
  intro y dy hy hdy hne
  have hv0 : ∀ {b : Addr}, H' b = none → Hv' b = none := fun {b} hb => by
    cases z : Hv' b with
    | none => rfl
    | some o => rw [ee.sub _ _ z] at hb; cases hb
  have s1 : Same H' (upd (upd H' dy (.own y)) y (.ins C dy [])) := fun b o hb => by
    rw [upd_ne (ne_of_none hb hy), upd_ne (ne_of_none hb hdy)]; exact hb
  refine ⟨Z.g.pd, Z.g.pc, C, dy, y, v ++ dw, Hv', d ++ es', n', (fun fs n2 => P (.obj x fs) n2), (fun _ _ _ => False), rfl, upd_same, hmC, hv0 hy, ee.sub.trans s1, (r.step ee pn).npd, ?_⟩
  rw [eg]
  refine ⟨pn.mono s1 (Nat.le_refl _), k.append (hdw _), h2, fun fs fvs dx' H2 Hv2 n2 hp e2 p2 h3 hv3 kf => ⟨rfl, ?_⟩, fun c fs n2 cls dd H2 Hv2 hE e2 p2 z => hE.elim⟩
  have e3 := ext_mk ee pn hy hdy e2
  refine q (.obj x fs) (.ref y) H2 (upd Hv2 y (.ins C dx' fvs)) n2 hp ⟨e3.but, e3.see.trans (same_new hv3), fun b o e => ?_, fun c hc1 hc2 => ?_, fun z => (e3.nt z).upd (fun _ w => by cases w)⟩ p2 (.obj upd_same (zm ▸ hmC) (kf.mono (same_new hv3)))
  · by_cases eb : b = y
    · subst eb; rw [upd_same] at e; cases e; exact h3
    · rw [upd_ne eb] at e; exact e2.sub _ _ e
  · have ny : c ≠ y := fun z => by
      subst z
      exact hc2 (ext_fresh ee pn hy)
    rw [upd_ne ny]
    exact e3.hid c hc1 hc2
end
def OkL (P : Program) (w : World) (K : PySem.W.Frag) (mg : Str → Option Value) (base : Heap) (k : Nat) (C : Addr) (sp : Sp) : Prop :=
  ∃ (f : Addr) (fd : FuncData) (ps : List Str), PySem.W.findIn K (.ref C) "__len__" = some (some (.ref f)) ∧ PySem.W.isFn K (.ref f) = true ∧ Binds K fd ps [] ∧ FnOk P w K mg base CX0 k f fd ps sp
section
variable {X : Cx} {Z : Zx} {C : Addr} {sp : Sp} {k : Nat} {a : Expr} {da : DE} {pos : Pos} {kn : Kn}
def dLenO (c : Str) (U : List D → M D) (a : DE) : DE := fun δ n P E => a δ n (fun x n1 => ∃ fs, x = .obj c fs ∧ U [x] n1 (fun d n2 => ∃ i, d = .int i ∧ (0 ≤ i ∧ i < 2 ^ 63) ∧ P (.int i) n2) (fun _ _ _ => False)) E
end
section
variable {X : Cx} {Z : Zx} {g : G} {e : Expr} {de : DE} {pos p2 : Pos}
def gRevL : List D → Option D
  | [.lst xs] => some (.lst xs.reverse)
  | _ => none
theorem d_revL {k : Nat} {p1 p3 : Pos} (zk : Z.g.K = X.K) (he : PE X e (lift Z de)) : PE X (.Subscript e (.Slice none none (some (.UnaryOp .USub (.Constant (.int 1) k p1) p2)) p3) pos) (lift Z (dApp gRevL (dCons de dNil))) :=
  up (pe_revL he) fun σ H Q ⟨δ, Hv, n, P, E, rr, h1, q, x⟩ => ⟨δ, Hv, n, _, E, rr, h1, (fun d v H' Hv' n' h2 e p k => by
    obtain ⟨z, hz, h3⟩ := h2
    unfold gRevL at hz
    split at hz
    · rename_i xs ee
      cases ee
      cases hz
      cases k with
      | @lst a vs _ ha ks => exact ⟨a, vs, rfl, sqL (e.sub _ _ ha), fun p' hp => (gives_of (q.step e p) p h3).lst e.sub hp ks.reverse⟩
    · cases hz), x⟩
mutual
def D.noL : D → Bool
  | .non => true
  | .bl _ => true
  | .int _ => true
  | .str _ => true
  | .tup xs => D.noLs xs
  | .obj _ fs => D.noLf fs
  | _ => false
def D.noLs : List D → Bool
  | [] => true
  | x :: xs => D.noL x && D.noLs xs
def D.noLf : List (Str × D) → Bool
  | [] => true
  | (_, x) :: xs => D.noL x && D.noLf xs
end
mutual
theorem dv_noL {H H' : Hp} {p : Addr} {vs : List V} (hp : H p = some (.lst vs)) (s : ∀ b o, b ≠ p → H b = some o → H' b = some o) : ∀ {d : D} {v : V}, Dv g H v d → d.noL = true → Dv g H' v d
  | _, _, .non, _ => .non
  | _, _, .bl b, _ => .bl b
  | _, _, .int i, _ => .int i
  | _, _, .str x, _ => .str x
  | _, _, .lst _ _, h => by cases h
  | .tup ds, _, .tup (a := a) ha ks, h => by
    refine .tup ?_ (dvs_noL hp s ks h)
    rcases ha with (z | ⟨o, z⟩) | z
    · exact .inl (.inl (s _ _ (ne_of z hp (fun e => by cases e)) z))
    · exact .inl (.inr ⟨o, s _ _ (ne_of z hp (fun e => by cases e)) z⟩)
    · exact .inr z
  | .obj c fs, _, .obj ha hm ks, h => .obj (s _ _ (ne_of ha hp (fun e => by cases e)) ha) hm (dvf_noL hp s ks h)
  | _, _, .exc _ _ _ _, h => by cases h
  | _, _, .dct _ _, h => by cases h
  | _, _, .pen, h => by cases h
  | _, _, .scr _, h => by cases h
  | _, _, .fn _ _ _, h => by cases h
theorem dvs_noL {H H' : Hp} {p : Addr} {vs : List V} (hp : H p = some (.lst vs)) (s : ∀ b o, b ≠ p → H b = some o → H' b = some o) : ∀ {ds : List D} {ws : List V}, DvAll g H ws ds → D.noLs ds = true → DvAll g H' ws ds
  | _, _, .nil, _ => .nil
  | d :: ds, _, .cons k ks, h => by
    have h' : d.noL = true ∧ D.noLs ds = true := by simpa [D.noLs] using h
    exact .cons (dv_noL hp s k h'.1) (dvs_noL hp s ks h'.2)
theorem dvf_noL {H H' : Hp} {p : Addr} {vs : List V} (hp : H p = some (.lst vs)) (s : ∀ b o, b ≠ p → H b = some o → H' b = some o) : ∀ {gs : List (Str × D)} {fs : List (Str × V)}, DvF g H fs gs → D.noLf gs = true → DvF g H' fs gs
  | _, _, .nil, _ => .nil
  | (f, d) :: gs, _, .cons k ks, h => by
    have h' : d.noL = true ∧ D.noLf gs = true := by simpa [D.noLf] using h
    exact .cons (dv_noL hp s k h'.1) (dvf_noL hp s ks h'.2)
end
def frzL (δ : DS) (i : Nat) : DS := match δ[i]? with
  | some (some (.ow ds)) => δ.set i (some (.sh (.lst ds)))
  | _ => δ
def dBorL (i : Nat) (e : DE) : DE := fun δ n P E => e (frzL δ i) n (fun d n' => d.noL = true ∧ P d n') (fun _ _ _ => False)
end
section
variable {X : Cx} {Z : Zx} {C : Addr} {sp : Sp} {k : Nat} {a b : Expr} {da db : DE} {pos : Pos} {kn : Kn}
def dEqT (c : Str) (U : List D → M D) (a b : DE) : DE := fun δ n P E => a δ n (fun x n1 => b δ n1 (fun y n2 => ∃ fs ys, x = .obj c fs ∧ y = .tup ys ∧ U [x, y] n2 (fun d n3 => ∃ k, d = .bl k ∧ P (.bl k) n3) (fun _ _ _ => False)) E) E
end
def OkCk (P : Program) (w : World) (K : PySem.W.Frag) (mg : Str → Option Value) (base : Heap) (k : Nat) (x : Str) (C : Addr) (ks : List Str) (gV : List V → List V → List V) (sp : Sp) : Prop :=
  ∃ (f : Addr) (fd : FuncData) (ps : List Str) (g : List Value → List Value → List Value), mg x = some (.ref C) ∧ Mk K C f ∧ KBn K fd ps 1 ks g gV ∧ FnOk P w K mg base (L2.CX P w) k f fd ps sp
section
variable {X : Cx} {Z : Zx} {ra : DA} {pos p : Pos} {k : Nat} {x : Str} {kn : Kn} {ks : List Str} {kws : List Keyword} {C : Addr} {U : MI} {gV : List V → List V → List V} {gW : List V → List V} {gD : List D → List D}
def dMakeK (c : Str) (m : Nat) (U : MI) (gD : List D → List D) (a : DA) : DE := fun δ n P E => a δ n (fun ds n' => ds.length = m ∧ U (gD ds) n' (fun fs n2 => P (.obj c fs) n2) (fun _ _ _ => False)) E
end
def swp1 : List V → List V → List V
  | [x], [b, a] => [x, a, b]
  | _, _ => []
theorem dfl_dv {K : PySem.W.Frag} {g : G} {Hv : Hp} {T : Addr} (zk : g.K = K) (z : SqT K (fun _ => none) T []) : DvAll g Hv [.ref T] [.tup []] := by
  refine .cons (.tup ?_ .nil) .nil
  rcases z with (z | ⟨o, z⟩) | z
  · cases z
  · cases z
  · exact .inr (zk ▸ z)
section
variable {X : Cx} {Z : Zx} {k : Nat} {x : Str} {kn : Kn} {ps : List Str} {sp : Sp} {p pos : Pos} {e : Expr} {es : List Expr} {t : TA} {ra : DA} {U : List D → M D}
end
section
variable {P : Program} {w : World} {K : PySem.W.Frag} {mg : Str → Option Value} {base : Heap} {kn : Kn} {x qual : Str} {st : Stmt} {f : Addr} {fd : FuncData} {N ps : List Str} {k m : Nat} {t : DT}
theorem DefT.okG {sp : Sp} (T : DefT K mg x st f fd) (hb : Binds K fd ps []) (F : FnG P w K mg base CX0 k f fd ps sp) : OkG P w K mg base CX0 k x ps sp := ⟨f, fd, T.g, T.F.kp, hb, F⟩
end
def swp1v : List Value → List Value → List Value
  | [x], [b, a] => [x, a, b]
  | _, _ => []
theorem swp1_rel {vs zs : List V} {us ws : List Value} (r : Vals vs us) (rz : Vals zs ws) : Vals (swp1 vs zs) (swp1v us ws) := by
  cases r with
  | nil => exact .nil
  | cons r1 r2 =>
    cases r2 with
    | cons _ _ => cases rz <;> exact .nil
    | nil =>
      cases rz with
      | nil => exact .nil
      | cons z1 z2 =>
        cases z2 with
        | nil => exact .nil
        | cons z2 z3 =>
          cases z3 with
          | nil => exact .cons r1 (.cons z2 (.cons z1 .nil))
          | cons _ _ => exact .nil
section
variable {K : PySem.W.Frag} {x qual : Str} {st : Stmt} {f : Addr} {fd : FuncData} {nd : Nat}
theorem FunC.kbn {p0 p1 p2 : Str} (F : FunC K x qual st nd f fd) (hnd : nd ≠ 0)
    (h : ∀ (T : Addr) (kV doc pm : Value) (an : Option Addr) (cdv ct : Value) (y a b : Value) (its : List Value), its.length = nd →
      ∃ k, bindArgs (PySem.W.fnOf x qual (defArgs st) (defBody st) (defScope st) (.ref T) kV doc pm an cdv ct) ⟨[y], [(p2, b), (p1, a)]⟩ = seqItems? (.ref T) >>= k ∧ k (some its.toArray) = pure [(p0, y), (p1, a), (p2, b)]) : KBn K fd [p0, p1, p2] 1 [p2, p1] swp1v swp1 := by
  obtain ⟨oc, od, dV, kV, doc, pm, an, cdv, ct, osl, rfl, lk, hcd, hD⟩ := F.ex
  rcases hD with ⟨e, rfl⟩ | ⟨T, o, its, n, rfl, lT, oT, hl⟩
  · exact absurd e hnd
  · refine ⟨fun s us ws X h1 h2 => ?_, fun r rz => swp1_rel r rz⟩
    match us, ws, h1, h2 with
    | [y], [b, a], _, _ =>
      obtain ⟨k, e1, e2⟩ := h T kV doc pm an cdv ct y a b its.toList (by rw [Array.length_toList]; exact hl)
      refine BindsTo.of_looks fun M => ?_
      show PySem.W.Looks M s.heap (bindArgs _ ⟨[y], [(p2, b), (p1, a)]⟩) [(p0, y), (p1, a), (p2, b)]
      rw [e1]
      exact looks_items X lT oT (.of_pure (by simpa using e2))
def DflIs (K : PySem.W.Frag) (x qual : Str) (st : Stmt) (fd : FuncData) (d : Value) : Prop := ∃ (T : Addr) (kV doc pm : Value) (an : Option Addr) (cdv ct : Value) (o : Obj) (n : Nat),
  fd = PySem.W.fnOf x qual (defArgs st) (defBody st) (defScope st) (.ref T) kV doc pm an cdv ct ∧ K.lookup T = some o ∧ o.data = .seq #[d] n
theorem DflIs.binds {ps : List Str} {d : Value} (F : DflIs K x qual st fd d)
    (h : ∀ (T : Addr) (kV doc pm : Value) (an : Option Addr) (cdv ct : Value) (us : List Value), us.length + 1 = ps.length →
      ∃ k, bindArgs (PySem.W.fnOf x qual (defArgs st) (defBody st) (defScope st) (.ref T) kV doc pm an cdv ct) ⟨us, []⟩ = seqItems? (.ref T) >>= k ∧ k (some #[d]) = pure (ps.zip (us ++ [d]))) : Binds K fd ps [d] := by
  obtain ⟨T, kV, doc, pm, an, cdv, ct, o, n, rfl, lT, oT⟩ := F
  intro s us X hlen
  obtain ⟨k, e1, e2⟩ := h T kV doc pm an cdv ct us (by simpa using hlen)
  refine BindsTo.of_looks fun M => ?_
  rw [e1]
  exact looks_items X lT oT (.of_pure e2)
theorem sqT0 {T : Addr} {o : Obj} {n : Nat} (l : K.lookup T = some o) (c : o.cls = .type "tuple") (d : o.data = .seq #[] n) : SqT K (fun _ => none) T [] := .inr ⟨o, #[], n, l, c, d, by simp, .nil⟩
end
end Dn
namespace Dn
open PySem PySem.Spec PyProof.Rows L2 Br
section
variable {X : Cx} {g : G}
def gEq0 : List D → Option D
  | [.lst xs, .lst []] => some (.bl xs.isEmpty)
  | _ => none
end
def valD (ks : List (Key × D)) (k : Key) : Option D := (ks.find? fun kv => decide (kv.1 = k)).map (·.2)
def putKD (ks : List (Key × D)) (k : Key) (v : D) : List (Key × D) :=
  if ks.any fun kv => decide (kv.1 = k) then ks.map fun kv => if kv.1 = k then (kv.1, v) else kv else ks ++ [(k, v)]
def mergeD (ks more : List (Key × D)) : List (Key × D) := more.foldl (fun acc kv => putKD acc kv.1 kv.2) ks
section
variable {g : G} {H : Hp}
theorem DvK.val {kvs : List (Key × V)} {ks : List (Key × D)} (h : DvK g H kvs ks) (k : Key) : (∀ d, valD ks k = some d → ∃ v, valV kvs k = some v ∧ Dv g H v d) ∧ (valD ks k = none → valV kvs k = none) := by
  induction ks generalizing kvs with
  | nil => cases h; exact ⟨(fun d e => by cases e), fun _ => rfl⟩
  | cons p r ih =>
    cases h with
    | @cons f v d fs _ a b =>
      by_cases e : f = k
      · have e1 : valD ((f, d) :: r) k = some d := by simp [valD, List.find?_cons, e]
        rw [e1]
        refine ⟨fun d' z => ?_, fun z => by cases z⟩
        cases z
        exact ⟨v, valV_pos e, a⟩
      · have e1 : valD ((f, d) :: r) k = valD r k := by simp [valD, List.find?_cons, e]
        rw [e1, valV_neg (p := (f, v)) e]
        exact ih b
theorem DvK.any {kvs : List (Key × V)} {ks : List (Key × D)} (h : DvK g H kvs ks) (k : Key) : (kvs.any fun kv => decide (kv.1 = k)) = ks.any fun kv => decide (kv.1 = k) := by
  induction ks generalizing kvs with
  | nil => cases h; rfl
  | cons p r ih =>
    cases h with
    | cons a b => rw [List.any_cons, List.any_cons, ih b]
theorem DvK.map {kvs : List (Key × V)} {ks : List (Key × D)} (h : DvK g H kvs ks) (k : Key) {v : V} {d : D} (a : Dv g H v d) : DvK g H (kvs.map fun kv => if kv.1 = k then (kv.1, v) else kv) (ks.map fun kv => if kv.1 = k then (kv.1, d) else kv) := by
  induction ks generalizing kvs with
  | nil => cases h; exact .nil
  | cons p r ih =>
    cases h with
    | @cons f v' d' fs _ a' b =>
      rw [List.map_cons, List.map_cons]
      by_cases e : f = k
      · rw [if_pos e, if_pos e]; exact .cons a (ih b)
      · rw [if_neg e, if_neg e]; exact .cons a' (ih b)
theorem DvK.append {kvs ls : List (Key × V)} {ks ms : List (Key × D)} (h : DvK g H kvs ks) (h2 : DvK g H ls ms) : DvK g H (kvs ++ ls) (ks ++ ms) := by
  induction ks generalizing kvs with
  | nil => cases h; exact h2
  | cons p r ih => cases h with | cons a b => exact .cons a (ih b)
theorem DvK.put {kvs : List (Key × V)} {ks : List (Key × D)} (h : DvK g H kvs ks) (k : Key) {v : V} {d : D} (a : Dv g H v d) : DvK g H (putK kvs k v) (putKD ks k d) := by
  unfold putK putKD
  rw [h.any k]
  split
  · exact h.map k a
  · exact h.append (.cons a .nil)
theorem DvK.len {kvs : List (Key × V)} {ks : List (Key × D)} (h : DvK g H kvs ks) : kvs.length = ks.length := by
  induction ks generalizing kvs with
  | nil => cases h; rfl
  | cons p r ih => cases h with | cons a b => rw [List.length_cons, List.length_cons, ih b]
theorem DvK.keys {kvs : List (Key × V)} {ks : List (Key × D)} (h : DvK g H kvs ks) : kvs.map (·.1) = ks.map (·.1) := by
  induction ks generalizing kvs with
  | nil => cases h; rfl
  | cons p r ih => cases h with | cons a b => rw [List.map_cons, List.map_cons, ih b]
end
def dKey : D → Option Key
  | .int i => some (.inl i)
  | .str x => some (.inr x)
  | _ => none
theorem key_dv {g : G} {H : Hp} {v : V} {d : D} {k : Key} (h : Dv g H v d) (e : dKey d = some k) : v = kV k := by
  cases h <;> cases e <;> rfl
def gDGet : List D → Option D
  | [.dct ks, k] => match dKey k with
    | some q => valD ks q
    | none => none
  | _ => none
def gDIn : List D → Option D
  | [k, .dct ks] => (dKey k).map fun q => .bl (valD ks q).isSome
  | _ => none
def gDNotIn : List D → Option D
  | [k, .dct ks] => (dKey k).map fun q => .bl !(valD ks q).isSome
  | _ => none
section
variable {X : Cx} {Z : Zx} {o i e : Expr} {pos : Pos} {dd dk de : DE} {ra : DA}
theorem dct_get {g : G} {H Hv : Hp} {v w : V} {ks : List (Key × D)} {d : D} {k : Key} (s : Same Hv H) (h : Dv g Hv v (.dct ks)) (hk : Dv g Hv w d) (e : dKey d = some k) : ∃ a kvs, v = .ref a ∧ w = kV k ∧ Rd H a (.dK kvs) ∧ DvK g Hv kvs ks ∧ DGet H a w (valV kvs k) := by
  have e2 := key_dv hk e
  subst e2
  cases h with
  | dct ha kk =>
    have rd := (.inr ⟨_, s _ _ ha⟩ : Rd H _ (.dK _))
    exact ⟨_, _, rfl, rfl, rd, kk, .inl ⟨_, _, rd, rfl, rfl⟩⟩
theorem d_dget (hu : X.A.units + 64 < cLine) (ho : PE X o (lift Z dd)) (hi : PE X i (lift Z dk)) (hs : NoSl i := by intro _ _; rfl) : PE X (.Subscript o i pos) (lift Z (dApp gDGet (dCons dd (dCons dk dNil)))) :=
  up (pe_dget (by omega) ho hi hs) fun σ H Q ⟨δ, Hv, n, P, E, r, h1, q, x⟩ => ⟨δ, Hv, n, _, E, r, h1, (fun d v H1 Hv1 n1 h2 e1 p1 k1 => ⟨δ, Hv1, n1, _, E, r.step e1 p1, h2, (fun d2 v2 H2 Hv2 n2 h3 e2 p2 k2 => by
    obtain ⟨z, hz, h3⟩ := h3
    unfold gDGet at hz
    split at hz
    · rename_i ks kd ee
      cases ee
      split at hz
      · rename_i k ek
        obtain ⟨a, kvs, rfl, rfl, ha, kk, gg⟩ := dct_get e2.sub (k1.mono e2.see) k2 ek
        obtain ⟨v, hv, kv⟩ := (kk.val k).1 _ hz
        rw [hv] at gg
        exact ⟨a, v, rfl, gg, q _ _ _ _ _ h3 (e1.trans (fun _ => p1.pd) e2) p2 kv⟩
      · cases hz
    · cases hz), x.step e1 p1⟩), x⟩
def dGet1 (dd dk : DE) : DE := fun δ n P E => dd δ n (fun x n1 => ∃ ks, x = .dct ks ∧ dk δ n1 (fun y n2 => ∃ q, dKey y = some q ∧ P ((valD ks q).getD .non) n2) E) E
def pairUp : List D → Option (List (Key × D))
  | [] => some []
  | k :: v :: r => match dKey k, pairUp r with
    | some q, some ps => some ((q, v) :: ps)
    | _, _ => none
  | _ => none
def flat2 : List (V × V) → List V
  | [] => []
  | p :: r => p.1 :: p.2 :: flat2 r
structure PPD (X : Cx) (Z : Zx) (pos : Pos) (keys : List (Option Expr)) (values : List Expr) (ra : DA) : Prop where
  go : ∃ trs, PPs X pos keys values trs ∧ ∀ σ H (Q : List (V × V) → Hp → Prop), liftA Z ra σ H (fun vs H' => ∃ ps, vs = flat2 ps ∧ Q ps H') → tPairs trs σ H Q
def dDisp (ra : DA) : DE := fun δ n P E => ra δ n (fun ds n' => ∃ ks, pairUp ds = some ks ∧ ks.length ≤ 15 ∧ P (.dct (mergeD [] ks)) n') E
def dDispO (ra : DA) : DO := fun δ n P E => ra δ n (fun ds n' => ∃ ks, pairUp ds = some ks ∧ ks.length ≤ 15 ∧ P (.od (mergeD [] ks)) n') E
def dUpd (i : Nat) (dk : DE) : DT := fun F δ n => ∃ ks, δ[i]? = some (some (.od ks)) ∧ dk δ n (fun y n' => ∃ ms, y = .dct ms ∧ ks.length + ms.length ≤ sizeLine ∧ F.nx (δ.set i (some (.od (mergeD ks ms)))) n') (F.xe δ)
end
section
variable {X : Cx} {Z : Zx} {e o a b : Expr} {es : List Expr} {pos p apos : Pos} {de da db : DE} {ra : DA} {g : G}
def dSortD (a : DE) : DE := fun δ n P E => a δ n (fun x n' => ∃ ks kss, x = .dct ks ∧ ks.map (·.1) = kss.map Sum.inr ∧ kss.length < 64 ∧ ∀ ys : List Str, ys.Perm kss → P (.lst (ys.map .str)) n') E
def dUnp (is : List Nat) (e : DE) : DT := fun F δ n => e δ n (fun d n' => ∃ δ', dTg (.tp is) d δ = some δ' ∧ F.nx δ' n') (F.xe δ)
def dJoin (a b : DE) : DE := fun δ n P E => a δ n (fun x n1 => ∃ z, x = .str z ∧ b δ n1 (fun y n2 => ∃ ys : List Str, (y = .lst (ys.map .str) ∨ y = .tup (ys.map .str)) ∧ (ys.map (·.length)).sum + ys.length * z.length ≤ 16777216 ∧ P (.str (Txt.join z ys)) n2) E) E
def dUpper (a : DE) : DE := fun δ n P E => a δ n (fun x n1 => ∃ z, x = .str z ∧ z.length ≤ 5592405 ∧ P (.str (Txt.upper z)) n1) E
def gInS : List D → Option D
  | [.str x, .str z] => match x.cps.toList with
    | [c] => some (.bl (decide (c ∈ z.cps.toList)))
    | _ => none
  | _ => none
def gNotInS : List D → Option D
  | [.str x, .str z] => match x.cps.toList with
    | [c] => some (.bl (!decide (c ∈ z.cps.toList)))
    | _ => none
  | _ => none
def gIsB : List D → Option D
  | [.bl a, .bl b] => some (.bl (a == b))
  | _ => none
def gIsNotB : List D → Option D
  | [.bl a, .bl b] => some (.bl (!(a == b)))
  | _ => none
theorem op_ne0T (hu : X.A.units < cLine) : OpR X (compareOp .NotEq) (fun x y H Q => ∃ a b xs, x = .ref a ∧ y = .ref b ∧ SqT X.K H a xs ∧ SqT X.K H b [] ∧ Q (.bl (!xs.isEmpty)) H) := by
  intro pins s σ H x y v u Q I rx ry h
  obtain ⟨a, b, xs, rfl, rfl, ha, hb, q⟩ := h
  cases rx
  cases ry
  obtain ⟨us, r1, p1, _⟩ := I.tuple ha
  obtain ⟨ws, r2, p2, _⟩ := I.tuple hb
  cases r2
  refine SeqAt.RcNeAt.tuples (e := fun _ => true) p1 p2 hu (fun j h1 h2 => by simp at h2) X.prog X.w X.xe _ ?_
  have e : us.isEmpty = xs.isEmpty := by cases r1 <;> rfl
  refine ⟨.bl (!xs.isEmpty), H, I, ?_, q⟩
  show _ = Value.bool (!xs.isEmpty)
  rw [← e]
  cases us <;> simp
def gNe0 : List D → Option D
  | [.tup xs, .tup []] => some (.bl (!xs.isEmpty))
  | _ => none
theorem o_ne0 (zk : g.K = X.K) (hu : X.A.units + 64 < cLine) : DOp X g (compareOp .NotEq) gNe0 := by
  refine ⟨_, op_ne0T (by omega), ?_⟩
  intro H Hv x y dx dy d Q s kx ky hf q
  unfold gNe0 at hf
  split at hf
  · rename_i xs ee
    cases ee
    cases hf
    cases kx with
    | tup ha ks =>
      cases ky with
      | tup hb ks2 =>
        cases ks2
        refine ⟨_, _, _, rfl, rfl, zk ▸ same_seqT s ha, zk ▸ same_seqT s hb, ?_⟩
        have e : ∀ {vs : List V} {ds : List D}, DvAll g Hv vs ds → vs.isEmpty = ds.isEmpty := fun k => by cases k <;> rfl
        rw [e ks]
        exact q.here s (.bl _)
  · cases hf
end
def dcGo (tg : Tg) (t k v : DE) (δ : DS) : List D → List (Key × D) → Nat → (List (Key × D) → Nat → Prop) → Prop
  | [], acc, n, P => P acc n
  | x :: xs, acc, n, P => ∃ δ', dTg tg x δ = some δ' ∧ t δ' n (fun b n1 => ∃ c, b = .bl c ∧ if c = true then k δ' n1 (fun y n2 => v δ' n2 (fun z n3 => ∃ q, dKey y = some q ∧ dcGo tg t k v δ xs (putKD acc q z) n3 P) (fun _ _ _ => False)) (fun _ _ _ => False) else dcGo tg t k v δ xs acc n1 P) (fun _ _ _ => False)
def dDc (it : DA) (tg : Tg) (t k v : DE) (vs : List Nat) : DE := fun δ n P E => it δ n (fun xs n' => xs.length ≤ sizeLine ∧ dcGo tg t k v (wipeD δ vs) xs [] n' (fun ks n2 => P (.dct ks) n2)) E
theorem putKD_len (ks : List (Key × D)) (k : Key) (v : D) : (putKD ks k v).length ≤ ks.length + 1 := by
  unfold putKD
  split
  · rw [List.length_map]; omega
  · rw [List.length_append]; exact Nat.le_refl _
section
variable {X : Cx} {Z : Zx} {tge iter kx vx : Expr} {ifs : List Expr} {scope : Scope} {own : List (Str × Nat)} {pos : Pos} {it : DA} {dt dk dv' : DE} {tg : Tg} {gg : TG} {tt : TT}
end
end Dn
namespace Br
open PySem PySem.Spec PyProof.Rows L2
end Br
namespace Dn
open PySem PySem.Spec PyProof.Rows L2 Br
def revS (x : Str) : Str := ⟨x.cps.toList.reverse.toArray⟩
section
variable {X : Cx} {Z : Zx} {e o a b : Expr} {es : List Expr} {pos p apos : Pos} {de da db : DE} {ra : DA} {g : G}
def tRevS (te : TE) : TE := fun σ H Q => te σ H fun x H1 => ∃ z, x = .str z ∧ z.length ≤ sizeLine ∧ Q (.str (revS z)) H1
def gRevS : List D → Option D
  | [.str z] => if z.length ≤ sizeLine then some (.str (revS z)) else none
  | _ => none
def zipD (xs ys : List D) : List D := (xs.zip ys).map fun p => .tup [p.1, p.2]
def gZipS : List D → Option (List D)
  | [.str x, .str y] => some (zipD (signs x) (signs y))
  | _ => none
end
def dLawS (N i : Nat) (t : DT) : Prop := ∀ k : Nat, k ≤ 63 → t ⟨fun _ _ => False, shP (fun d _ => d = .bl true), fun _ _ => False, fun _ _ => False, fun _ _ _ _ => False⟩ (((List.replicate N none).set 0 (some (.sh (.scr k)))).set i (some (.sh .pen))) 0
section
variable {P : Program} {w : World} {K : PySem.W.Frag} {mg : Str → Option Value} {base : Heap} {kn : Kn} {x qual : Str} {st : Stmt} {f : Addr} {fd : FuncData} {N ps : List Str} {k : Nat}
theorem scr_see {g : G} {H : Hp} {a : Addr} {xs : List V} (h : SqL g.K H a xs) (hp : H g.pd = none) : ∃ Hv : Hp, Same Hv H ∧ Hd g.pd Hv ∧ Dv g Hv (.ref a) (.scr xs.length) := by
  have no : NoT (fun _ => none) := fun _ _ z => by cases z
  have one : ∀ o : HO, H a = some o → (∀ ps, o ≠ .tbl ps) → Same (upd (fun _ => none) a o) H ∧ Hd g.pd (upd (fun _ => none) a o) := fun o ho ht => by
    refine ⟨fun b u e => ?_, upd_ne (fun z => by rw [← z, hp] at ho; cases ho), no.upd ht⟩
    by_cases hb : b = a
    · subst hb; rw [upd_same] at e; cases e; exact ho
    · rw [upd_ne hb] at e; cases e
  rcases h with h | h
  · rcases h with h | ⟨o, h⟩
    · have w := one _ h (fun _ z => by cases z)
      exact ⟨_, w.1, w.2, .scr (.inl (.inl upd_same))⟩
    · have w := one _ h (fun _ z => by cases z)
      exact ⟨_, w.1, w.2, .scr (.inl (.inr ⟨o, upd_same⟩))⟩
  · exact ⟨fun _ => none, (fun b o e => nomatch (show (none : Option HO) = some o from e)), ⟨rfl, no⟩, .scr (.inr h)⟩
theorem lawS_rel {g : G} {H' Hv : Hp} {a : Addr} {i k : Nat} (hN : 0 < N.length) (hi : 0 < i) (p : Pn g H' 0) (s : Same Hv H') (np : Hd g.pd Hv) (hk : Dv g Hv (.ref a) (.scr k)) : Rel g H' Hv ((L2.start N [.ref a]).set i (some (.ref g.pd))) H' Hv (((List.replicate N.length none).set 0 (some (.sh (.scr k)))).set i (some (.sh .pen))) 0 := by
  have at_i : ∀ {j : Nat} {s : Sl}, (((List.replicate N.length (none : Option Sl)).set 0 (some (.sh (.scr k)))).set i (some (.sh .pen)))[j]? = some (some s) → (j = i ∧ i < N.length ∧ s = .sh .pen) ∨ (j = 0 ∧ s = .sh (.scr k)) := fun {j s} h => by
    by_cases e : i = j
    · subst e
      have hl : i < N.length := by
        have := (List.getElem?_eq_some_iff.mp h).1
        rwa [List.length_set, List.length_set, List.length_replicate] at this
      rw [List.getElem?_set_self (by rw [List.length_set, List.length_replicate]; exact hl)] at h
      cases h
      exact .inl ⟨rfl, hl, rfl⟩
    · rw [List.getElem?_set_ne e] at h
      by_cases e0 : 0 = j
      · subst e0
        rw [List.getElem?_set_self (by rw [List.length_replicate]; exact hN)] at h
        cases h
        exact .inr ⟨rfl, rfl⟩
      · rw [List.getElem?_set_ne e0] at h
        have := List.mem_of_getElem? h
        rw [List.mem_replicate] at this
        cases this.2
  have hl : (L2.start N [V.ref a]).length = N.length := by
    unfold L2.start
    simp only [List.length_append, List.length_map, List.length_replicate, List.length_cons, List.length_nil]
    omega
  refine ⟨.refl s, p, p.pd, p.pc, np, ?_, fun j s h => ?_, fun j k s t q h1 h2 o1 _ _ _ => ?_⟩
  · rw [List.length_set, List.length_set, List.length_set, List.length_replicate, hl]
  · rcases at_i h with ⟨rfl, hi, rfl⟩ | ⟨rfl, rfl⟩
    · rw [List.getElem?_set_self (by rw [hl]; exact hi)]
      exact ⟨_, rfl, .pen⟩
    · rw [List.getElem?_set_ne (by omega)]
      refine ⟨.ref a, ?_, hk⟩
      unfold L2.start
      rfl
  · rcases at_i h1 with ⟨_, _, rfl⟩ | ⟨_, rfl⟩ <;> cases o1
theorem law_DGS {i : Nat} {t : DT} {s1 : Stmt} {rest : List Stmt} (F : Fun K x qual st f fd) (S : FnScope N ps (defScope st)) (hps : ps.length = 1) (hN : 0 < N.length) (hbd : defBody st = s1 :: rest)
    (h1 : ∀ (cdv : Value) (A : Around) (outer : List Env) (s : Shared) (H : Hp) (E : XK), Room k (A.deeper (envOfC qual (defScope st) s.heap.objs.size f cdv)) → PS (cxOf CX0 P w K mg base N qual (defScope st) f cdv A outer s H E).nox s1 (tAsg (tCl (spFeed kn.key K) (tCons (tVar 0) tNil)) (gName i)))
    (h2 : ∀ (cdv : Value) (A : Around) (outer : List Env) (s : Shared) (H : Hp) (E : XK) (Z : Zx), A.guards = some [] → Room k (A.deeper (envOfC qual (defScope st) s.heap.objs.size f cdv)) → Z.g.K = K → Z.g.mg = mg → Z.g.kn = kn → PSs (cxOf CX0 P w K mg base N qual (defScope st) f cdv A outer s H E).nox rest (liftS Z t))
    (hU : dLawS N.length i t) (hi : 0 < i := by decide) (ht : kn.tb = [] := by rfl) : FnG P w K mg base CX0 (k + 1) f fd ps (spLaw K) := by
  refine okG F S (fun vs H Q E h => ?_) (fun cdv A outer s H vs Q E gd hr h => ?_)
  · obtain ⟨a, ns, rfl, _⟩ := h
    rw [hps]; rfl
  · obtain ⟨a, ns, rfl, hs, hl, q⟩ := h
    rw [hbd]
    refine ⟨tSeq _ (fun D σ H' => ∃ Z : Zx, Z.g.K = K ∧ Z.g.mg = mg ∧ Z.g.kn = kn ∧ liftS Z t D σ H'), pss_cons (h1 cdv A outer s H E hr) ⟨fun pins s' σ H' D I ⟨Z, a1, a2, a3, a4⟩ => (h2 cdv A outer s H E Z gd hr a1 a2 a3).run pins s' σ H' D I a4⟩, ?_⟩
    refine ⟨.ref a, by unfold L2.start; rfl, a, ns, rfl, hs, hl, fun d c H' hd sm pen => ?_⟩
    obtain ⟨Hv, v1, v2, v3⟩ := scr_see (g := ⟨K, mg, d, c, kn⟩) hs hd
    rw [List.length_map] at v3
    refine ⟨⟨⟨K, mg, d, c, kn⟩, H', Hv, fun _ _ _ _ => False⟩, rfl, rfl, rfl, ?_⟩
    refine ⟨_, Hv, 0, _, lawS_rel (g := ⟨K, mg, d, c, kn⟩) hN hi ⟨pen, by show LamX.Tabs kn.tb _; rw [ht]; intro p hp; cases hp⟩ (v1.trans sm) v2 v3, hU _ hl, fun _ _ _ _ _ z => z.elim, (fun dd v H2 Hv2 n2 hd2 e2 p2 k2 => ?_), fun _ _ _ _ _ z => z.elim, fun _ _ _ _ _ z => z.elim, fun _ _ _ _ _ _ _ _ _ z => z.elim⟩
    obtain ⟨dd, rfl⟩ : ∃ d, dd = .sh d := by
      cases dd with
      | sh d => exact ⟨d, rfl⟩
      | ow _ => exact hd2.elim
      | sf _ _ _ => exact hd2.elim
      | od _ => exact hd2.elim
    have hd2 : dd = .bl true := hd2
    subst hd2
    rw [dv_bl k2]
    exact q H2
end
mutual
def treeK (K : PySem.W.Frag) : Nat → Value → Option D
  | 0, _ => none
  | n + 1, v => match v with
    | .none => some .non
    | .bool b => some (.bl b)
    | .int i _ => some (.int i)
    | .str x _ => some (.str x)
    | .ref a => match K.lookup a with
      | some o => match o.cls, o.data with
        | .type "tuple", .seq its _ => if its.size ≤ 1000 then (treeKs K n its.toList).map .tup else none
        | _, _ => none
      | none => none
    | _ => none
def treeKs (K : PySem.W.Frag) : Nat → List Value → Option (List D)
  | 0, _ => none
  | n + 1, vs => match vs with
    | [] => some []
    | v :: r => match treeK K n v, treeKs K n r with
      | some d, some ds => some (d :: ds)
      | _, _ => none
end
section
variable {X : Cx} {Z : Zx} {pos : Pos} {g : G}
def gAddN : List D → Option D
  | [a, b] => match a, b with
    | .int i, .int j => some (.int (i + j))
    | .bl a, .int j => some (.int (b2i a + j))
    | _, _ => none
  | _ => none
def gSubN : List D → Option D
  | [a, b] => match a, b with
    | .int i, .int j => some (.int (i - j))
    | .bl a, .int j => some (.int (b2i a - j))
    | .int i, .bl b => some (.int (i - b2i b))
    | _, _ => none
  | _ => none
def blS (b : Bool) : Str := if b = true then "True" else "False"
theorem callr_or {v : Value} {r r' : List V → Hp → VK → Prop} (h : CallR X v r) (h' : CallR X v r') : CallR X v (fun xs H Q => r xs H Q ∨ r' xs H Q) := by
  intro pins s σ H xs us Q I rr z
  rcases z with z | z
  · exact h pins s σ H xs us Q I rr z
  · exact h' pins s σ H xs us Q I rr z
def gStrN : List D → Option D
  | [.int i] => if i.natAbs.log2 < 1920 then some (.str (toString i)) else none
  | [.bl b] => some (.str (blS b))
  | _ => none
def eqF : D → D → Bool
  | .non, .non => true
  | .bl a, .bl b => a == b
  | .bl a, .int b => (if a then 1 else 0) == b
  | .int a, .bl b => a == (if b then 1 else 0)
  | .int a, .int b => a == b
  | .str a, .str b => a == b
  | _, _ => false
def inF (d : D) (ds : List D) : Bool := ds.any fun y => eqF y d
def gIn : List D → Option D
  | [d, .tup ds] => if d.flat = true ∧ ds.all D.flat = true then some (.bl (inF d ds)) else none
  | [d, .lst ds] => if d.flat = true ∧ ds.all D.flat = true then some (.bl (inF d ds)) else none
  | _ => none
theorem op_ne0L (hu : X.A.units < cLine) : OpR X (compareOp .NotEq) (fun x y H Q => ∃ a b xs, x = .ref a ∧ y = .ref b ∧ SqL X.K H a xs ∧ SqL X.K H b [] ∧ Q (.bl (!xs.isEmpty)) H) := by
  intro pins s σ H x y v u Q I rx ry h
  obtain ⟨a, b, xs, rfl, rfl, ha, hb, q⟩ := h
  cases rx
  cases ry
  obtain ⟨us, r1, p1, _⟩ := I.list ha
  obtain ⟨ws, r2, p2, _⟩ := I.list hb
  cases r2
  cases r1 with
  | nil => exact SeqAt.RcNeAt.lists (e := fun _ => true) p1.isList p2.isList rfl hu (fun j h1 h2 => by simp at h1) X.prog X.w X.xe _ ⟨.bl false, H, I, rfl, q⟩
  | cons _ _ => exact SeqAt.RcNeAt.lists_lengths p1.isList p2.isList (by simp) hu X.prog X.w X.xe _ ⟨.bl true, H, I, rfl, q⟩
def gNe0L : List D → Option D
  | [.lst xs, .lst []] => some (.bl (!xs.isEmpty))
  | _ => none
theorem o_ne0L (zk : g.K = X.K) (hu : X.A.units + 64 < cLine) : DOp X g (compareOp .NotEq) gNe0L := by
  refine ⟨_, op_ne0L (by omega), ?_⟩
  intro H Hv x y dx dy d Q s kx ky hf q
  unfold gNe0L at hf
  split at hf
  · rename_i xs ee
    cases ee
    cases hf
    cases kx with
    | lst ha ks =>
      cases ky with
      | lst hb ks2 =>
        cases ks2
        refine ⟨_, _, _, rfl, rfl, sqL (s _ _ ha), sqL (s _ _ hb), ?_⟩
        have e : ∀ {vs : List V} {ds : List D}, DvAll g Hv vs ds → vs.isEmpty = ds.isEmpty := fun k => by cases k <;> rfl
        rw [e ks]
        exact q.here s (.bl _)
  · cases hf
end
end Dn
namespace Dn
open PySem PySem.Spec PyProof.Rows L2 Br LamX
def dAct (i : Nat) (fd : D) (T : M D) : DE := fun δ n P E => δ[i]? = some (some (.sh fd)) ∧ T n P E
abbrev Zx.with (Z : Zx) (E : XK) : Zx := ⟨Z.g, Z.H0, Z.Hv0, fun c d _ H' => E c d H'⟩
def dLamDef (m N : Nat) (B : D → M D → DT) (T : M D) (xs : List D) : M D := fun n P E => ∀ f c q, dDef m N (B (.fn f c q) T) (.fn f c q :: xs) n P E
def dLam (U : M D → List D → M D) (de : DE) (xs : List D) : DE := fun δ n P E => U (fun n P E => de δ n P E) xs n P (fun _ _ _ => False)
section
variable {X : Cx} {Z : Zx} {x a : Str} {kn : Kn} {k kf m N : Nat} {B : D → M D → DT} {cm P : Addr} {params : Arguments} {body : Expr} {scope : Scope} {lpos p pos cpos : Pos} {de : DE} {j : Nat} {y : Str}
end
def dCat (k m : Nat) (a b : DA) : DA := fun δ n P E => a δ n (fun xs n1 => b δ n1 (fun ys n2 => (xs.length = k ∧ ys.length = m) ∧ P (xs ++ ys) n2) E) E
section
variable {X : Cx} {Z : Zx} {CX : CXT} {e : Expr} {es : List Expr} {kws : List Keyword} {ra rk : DA} {pos p : Pos} {k m m2 : Nat} {x : Str} {ks : List Str} {U : List D → M D} {kn : Kn} {sp : Sp} {E : L2.St → XK} {ta tk : TA}
variable {dvs : List V} {es' : List D}
end
section
variable {P : Program} {w : World} {K : PySem.W.Frag} {mg mb : Str → Option Value} {k : Nat} {fa a : Addr} {cs : List (Addr × Addr)} {fd : FuncData} {x : Str} {sp : Sp} {s1 : Shared} {vs : List Value} {ns : List Int}
end
structure FunCd (K : PySem.W.Frag) (x qual : Str) (st : Stmt) (f : Addr) (fd : FuncData) (cm : Addr) : Prop where
  ex : ∃ (oc : Value) (od : Option Addr) (kV doc pm : Value) (an : Option Addr) (ct : Value) (osl : Array (Option Value)),
    fd = PySem.W.fnOf x qual (defArgs st) (defBody st) (defScope st) .none kV doc pm an (.ref cm) ct ∧ K.lookup f = some ⟨oc, od, .func fd, osl⟩ ∧ PySem.W.codeIn K (.ref cm) qual = true
  kp : PySem.W.keepIn K (.ref f) = true
section
variable {P : Program} {w : World} {K : PySem.W.Frag} {mg : Str → Option Value} {base : Heap} {kn : Kn} {x qual : Str} {st : Stmt} {f cm : Addr} {fd : FuncData} {N ps : List Str} {k : Nat} {sp : Sp}
theorem FunCd.fun (F : FunCd K x qual st f fd cm) : Fun K x qual st f fd := by
  obtain ⟨oc, od, kV, doc, pm, an, ct, osl, h1, h2, h3⟩ := F.ex
  exact ⟨⟨oc, od, kV, doc, pm, an, .ref cm, ct, osl, h1, h2, h3⟩, F.kp⟩
end
section
variable {P : Program} {w : World} {K : PySem.W.Frag} {mg : Str → Option Value} {base : Heap} {x : Str} {st : Stmt} {f : Addr} {fd : FuncData} {ps ks : List Str} {k n : Nat} {sp : Sp} {CX : CXT} {kws : List (Str × V)}
end
end Dn
namespace Dn
open PySem PySem.Spec PyProof.Rows L2 Br
def keyD : Key → D
  | .inl i => .int i
  | .inr x => .str x
def gKeys : List D → Option (List D)
  | [.dct ks] => some (ks.map fun kv => keyD kv.1)
  | _ => none
theorem keyD_dv {g : G} {H : Hp} (k : Key) : Dv g H (kV k) (keyD k) := by cases k <;> first | exact .int _ | exact .str _
theorem walk_keys {d : Addr} {o : Obj} {kvs : List (Key × V)} : Walk (Itk d o kvs) kvs.length (fun H => H d = some (.frz o (.dK kvs))) (fun i H v H' => H' = H ∧ ∃ k w, kvs[i]? = some (k, w) ∧ v = kV k) :=
  ⟨fun i H hi h => ⟨h, hi⟩, fun H h => ⟨h, Nat.le_refl _⟩, fun i H v H' hi _ y => y⟩
theorem wk_keys {g : G} {H : Hp} {d : Addr} {o : Obj} {kvs : List (Key × V)} {ks : List (Key × D)} (h : H d = some (.frz o (.dK kvs))) (k : DvK g H kvs ks) : Wk g H (Itk d o kvs) (ks.map fun kv => keyD kv.1) := by
  have w := walk_keys (d := d) (o := o) (kvs := kvs)
  have e : kvs.length = (ks.map fun kv => keyD kv.1).length := by rw [List.length_map, k.len]
  rw [e] at w
  refine w.mono (fun H' s => s _ _ h) fun i H1 v H' hi s y Hv sv su => ?_
  obtain ⟨rfl, q, u, e1, rfl⟩ := y
  have e2 := k.keys
  have e3 : (ks.map (·.1))[i]? = some q := by rw [← e2, List.getElem?_map, e1]; rfl
  refine ⟨keyD q, Hv, ?_, .refl su, .refl _, keyD_dv q⟩
  rw [List.getElem?_map] at e3 ⊢
  cases q2 : ks[i]? with
  | none => rw [q2] at e3; cases e3
  | some kv => rw [q2] at e3; cases e3; rfl
section
variable {X : Cx} {Z : Zx} {e tge : Expr} {de : DE}
theorem di_keys (h : PE X e (lift Z de)) : PI X tge e (liftI Z (dIt gKeys (dCons de dNil))) := upI (pi_keys h) fun σ H R ⟨δ, Hv, n, P, E, r, h1, q, x⟩ => by
  refine ⟨δ, Hv, n, _, E, r, h1, (fun d v H' Hv' n' h2 e p k => ?_), x⟩
  obtain ⟨ys, hy, h3⟩ := h2
  cases k with
  | dct ha kk => cases hy; exact ⟨_, _, rfl, .inl ⟨_, e.sub _ _ ha, q _ _ _ _ _ h3 e p (wk_keys ha kk)⟩⟩
  | _ => cases hy
end
section
variable {X : Cx} {g : G}
def gSumA : List D → Option D
  | [.lst xs] => (intsOf xs).map fun bs => .int bs.sum
  | [.tup xs] => (intsOf xs).map fun bs => .int bs.sum
  | _ => none
end
end Dn
namespace Dn
open PySem PySem.Spec PyProof.Rows L2 Br LamX
def dDefS (m N : Nat) (t : DT) : List D → M Sl := fun ds n P E => ds.length = m ∧ t ⟨fun _ n' => P (.sh .non) n', P, fun _ _ => False, fun _ _ => False, fun _ => E⟩ (startD N ds) n
def QOkS (g : G) (H Hv : Hp) (P : Sl → Nat → Prop) (Q : VK) : Prop := ∀ s v H' Hv' n', P s n' → Ext g H Hv H' Hv' → Pn g H' n' → SOk g H H' Hv' v s → Q v H'
theorem SOk.back {g : G} {H Hv H1 Hv1 H' Hv' : Hp} {v : V} {s : Sl} {n : Nat} (e : Ext g H Hv H1 Hv1) (p : Pn g H1 n) (h : SOk g H1 H' Hv' v s) : SOk g H H' Hv' v s := by
  have back : ∀ {q : Addr}, H1 q = none → H q = none := fun {q} hq => by
    by_cases hz : q = g.pd
    · subst hz; exact absurd hq p.pd
    · cases w : H q with
      | none => rfl
      | some o =>
        obtain ⟨_, w1, _⟩ := e.but q o hz w
        rw [hq] at w1; cases w1
  cases s with
  | sh d => exact h
  | ow ds =>
    obtain ⟨q, vs, rfl, h1, h2, h3, h4⟩ := h
    exact ⟨q, vs, rfl, back h1, h2, h3, h4⟩
  | sf q c fs => exact h.elim
  | od ks =>
    obtain ⟨q, vs, rfl, h1, h2, h3, h4⟩ := h
    exact ⟨q, vs, rfl, back h1, h2, h3, h4⟩
theorem QOkS.step {g : G} {H Hv H1 Hv1 : Hp} {P : Sl → Nat → Prop} {Q : VK} {n : Nat} (h : QOkS g H Hv P Q) (e : Ext g H Hv H1 Hv1) (p : Pn g H1 n) : QOkS g H1 Hv1 P Q := fun s v H' Hv' n' hp e' p' x => h s v H' Hv' n' hp (e.trans (fun _ => p.pd) e') p' (x.back e p)
def dSee (o : DO) : DE := fun δ n P E => o δ n (fun s n' => match s with | .sh d => P d n' | .ow ds => P (.lst ds) n' | _ => False) E
def dIfO (t : DE) (a b : DO) : DO := fun δ n P E => t δ n (fun x n' => ∃ c, x = .bl c ∧ if c = true then a δ n' P E else b δ n' P E) E
def dCallO0 (U : List D → M Sl) (a : DA) : DO := fun δ n P E => a δ n (fun xs n1 => U xs n1 P (fun _ _ _ => False)) E
def dCallO (U : List D → M Sl) (a : DA) : DO := fun δ n P E => a δ n (fun xs n1 => U xs n1 P E) E
section
variable {P : Program} {w : World} {K : PySem.W.Frag} {mg : Str → Option Value} {base : Heap} {kn : Kn} {x qual : Str} {st : Stmt} {f : Addr} {fd : FuncData} {N ps : List Str} {k m nn : Nat} {t : DT} {U : List D → M Sl}
end
section
variable {X : Cx} {Z : Zx} {e a b c : Expr} {es : List Expr} {dc : DE} {oa ob : DO} {ra : DA} {pos p : Pos} {k : Nat} {x : Str} {ps : List Str} {U : List D → M Sl} {kn : Kn}
end
def dActS (i : Nat) (fd : D) (T : M Sl) : DO := fun δ n P E => δ[i]? = some (some (.sh fd)) ∧ T n P E
def dLamS (U : M Sl → List D → M Sl) (de : DO) (xs : List D) : DO := fun δ n P E => U (fun n P E => de δ n P E) xs n P (fun _ _ _ => False)
section
variable {X : Cx} {Z : Zx} {x a : Str} {kn : Kn} {k kf m N : Nat} {B : D → M Sl → DT} {cm P : Addr} {params : Arguments} {body : Expr} {scope : Scope} {lpos p pos cpos : Pos} {de : DO} {j : Nat} {y : Str}
end
section
variable {P : Program} {w : World} {K : PySem.W.Frag} {g : G}
end
def gCD (ks : List (Key × D)) : List D → Option D
  | [k] => match dKey k with
    | some q => valD ks q
    | none => none
  | _ => none
def gCDIn (ks : List (Key × D)) : List D → Option D
  | [k] => (dKey k).map fun q => .bl (valD ks q).isSome
  | _ => none
def gCDNotIn (ks : List (Key × D)) : List D → Option D
  | [k] => (dKey k).map fun q => .bl !(valD ks q).isSome
  | _ => none
def gCDGet (ks : List (Key × D)) : List D → Option D
  | [k, d] => (dKey k).map fun q => (valD ks q).getD d
  | _ => none
section
variable {X : Cx} {Z : Zx} {o i e : Expr} {pos p : Pos} {dd dk de : DE} {ra : DA} {x : Str} {ks : List (Key × D)}
end
def dPutO (i : Nat) (k v : DE) : DT := fun F δ n => ∃ ks, δ[i]? = some (some (.od ks)) ∧ v δ n (fun y n1 => k δ n1 (fun q n2 => ∃ kq, dKey q = some kq ∧ ks.length < sizeLine ∧ F.nx (δ.set i (some (.od (putKD ks kq y)))) n2) (F.xe δ)) (F.xe δ)
def dOwnD0 : DO := fun _ n P _ => P (.od []) n
section
variable {X : Cx} {Z : Zx} {o i e value : Expr} {pos p pos' : Pos} {dk dv : DE} {x : Str} {j : Nat}
end
def dSIdx (a b : DE) : DE := fun δ n P E => a δ n (fun x n1 => ∃ z, x = .str z ∧ b δ n1 (fun y n2 => ∃ w i rest, y = .str w ∧ Builtin.Str.occurrences z w 0 z.length 1 = i :: rest ∧ P (.int (i : Nat)) n2) E) E
section
variable {X : Cx} {Z : Zx} {o e : Expr} {cpos apos : Pos} {da de : DE}
end
section
variable {P : Program} {w : World} {K : PySem.W.Frag} {mg : Str → Option Value} {base : Heap} {kn : Kn} {x qual : Str} {st : Stmt} {f cm : Addr} {fd : FuncData} {N ps : List Str} {k : Nat} {sp : Sp}
end
section
variable {X : Cx} {Z : Zx} {g : G} {o e a b c : Expr} {es : List Expr} {cpos apos pos p : Pos} {da de : DE} {ra : DA}
def dSplit (a b : DE) : DE := fun δ n P E => a δ n (fun x n1 => ∃ z, x = .str z ∧ b δ n1 (fun y n2 => ∃ w, y = .str w ∧ (w.length == 0) = false ∧ z.length + 2 ≤ sizeLine ∧ P (.lst ((Txt.split z w).map .str)) n2) E) E
def dStarts (a b : DE) : DE := fun δ n P E => a δ n (fun x n1 => ∃ z, x = .str z ∧ b δ n1 (fun y n2 => ∃ w, y = .str w ∧ P (.bl (Txt.startswith z w)) n2) E) E
def gIntS : List D → Option D
  | [.str z] => if z.length ≤ 640 then (intText? z).map .int else none
  | [.int i] => some (.int i)
  | [.bl b] => some (.int (if b then 1 else 0))
  | _ => none
def rListS : List V → Hp → VK → Prop := fun xs H Q => ∃ z : Str, xs = [.str z] ∧ z.length ≤ sizeLine ∧ ∀ p, H p = none → Q (.ref p) (upd H p (.lst (z.cps.toList.map fun c => V.str ⟨#[c]⟩)))
theorem signs_vals {z : Str} {acc : Array Value} (h : ItemsOf (SignAt z) acc z.cps.size) : Vals (z.cps.toList.map fun c => V.str ⟨#[c]⟩) acc.toList := by
  obtain ⟨h1, h2⟩ := h
  have go : ∀ (l : List Nat) (vs : List Value), l.length = vs.length → (∀ (i : Nat) (v : Value), vs[i]? = some v → ∃ (c : Nat) (u : Tok), l[i]? = some c ∧ v = Value.str ⟨#[c]⟩ u) → Vals (l.map fun c => V.str ⟨#[c]⟩) vs := by
    intro l
    induction l with
    | nil =>
      intro vs hl _
      cases vs with
      | nil => exact .nil
      | cons v r => cases hl
    | cons c r ih =>
      intro vs hl hv
      cases vs with
      | nil => cases hl
      | cons v q =>
        obtain ⟨c', u, e1, e2⟩ := hv 0 v rfl
        cases e1
        refine .cons ⟨u, e2⟩ (ih q (Nat.succ.inj hl) fun i w hw => ?_)
        obtain ⟨c2, u2, e3, e4⟩ := hv (i + 1) w (by rw [List.getElem?_cons_succ]; exact hw)
        rw [List.getElem?_cons_succ] at e3
        exact ⟨c2, u2, e3, e4⟩
  refine go _ _ (by rw [Array.length_toList, Array.length_toList]; exact h1.symm) fun i v hv => ?_
  obtain ⟨c, u, e1, e2⟩ := h2 i v (by rw [← Array.getElem?_toList]; exact hv)
  exact ⟨c, u, by rw [Array.getElem?_toList]; exact e1, e2⟩
theorem cr_listS (hc : X.calm = true) : CallR X (.type "list") rListS := by
  intro pins s σ H vs us Q I r h
  obtain ⟨z, rfl, hz, q⟩ := h
  cases r with
  | cons r1 r2 =>
    cases r2
    obtain ⟨t, rfl⟩ := r1
    refine call_list_str (I.ok.hd hc) z t (fun h' tk acc c' hk e hi => ?_) hz
    have rv := signs_vals hi
    refine ⟨.ref s.heap.objs.size, _, I.laid (t' := tk) hk (Nat.le_refl _) (show ObjOk X.prog X.w _ h' _ (.lst _) from ⟨by rw [List.length_map, Array.length_toList]; exact hz, acc.toList, c', rv, e⟩), rfl, q _ (I.hok.fresh (Nat.le_refl _))⟩
def gListS : List D → Option D
  | [.str z] => if z.length ≤ sizeLine then some (.lst (signs z)) else none
  | [.lst xs] => some (.lst xs)
  | [.tup xs] => some (.lst xs)
  | _ => none
theorem signs_dv {H : Hp} (z : Str) : DvAll g H (z.cps.toList.map fun c => V.str ⟨#[c]⟩) (signs z) := by
  unfold signs
  generalize z.cps.toList = l
  induction l with
  | nil => exact .nil
  | cons c r ih => exact .cons (.str _) ih
theorem c_listS (hc : X.calm = true) (zk : g.K = X.K) : DCl X g (.type "list") gListS := by
  refine ⟨_, callr_or (cr_listS hc) call_list_of, ?_⟩
  intro H Hv xs ds d Q s k hf q
  unfold gListS at hf
  split at hf
  · rename_i z
    split at hf
    · rename_i hz
      cases hf
      cases k with
      | cons k1 k2 =>
        cases k2
        cases k1
        exact .inl ⟨z, rfl, hz, fun p hp => q.lst s hp (signs_dv z)⟩
    · cases hf
  · cases hf
    cases k with
    | cons k1 k2 =>
      cases k2
      cases k1 with
      | lst ha ks => exact .inr ⟨_, _, rfl, .inl (sqL (s _ _ ha)), fun l hl => q.lst s hl ks⟩
  · cases hf
    cases k with
    | cons k1 k2 =>
      cases k2
      cases k1 with
      | tup ha ks => exact .inr ⟨_, _, rfl, .inr (zk ▸ same_seqT s ha), fun l hl => q.lst s hl ks⟩
  · cases hf
def gMulS : List D → Option D
  | [.str z, .int i] => if -(2 ^ 63) ≤ i ∧ i < 2 ^ 63 ∧ z.length * i.toNat ≤ 1000000 then some (.str (Txt.mul z i)) else none
  | _ => none
end
variable {X : Cx} {Z : Zx}
def dPar3 (i j k : Nat) (a b c : DE) : DT := fun F δ n => a δ n (fun x n1 => b δ n1 (fun y n2 => c δ n2 (fun z n3 => F.nx (((δ.set i (some (.sh x))).set j (some (.sh y))).set k (some (.sh z))) n3) (F.xe δ)) (F.xe δ)) (F.xe δ)
def dTryN (c : Str) (t : DT) : DT := fun F δ n => t ⟨F.nx, F.rt, F.bk, F.ct, fun _ c' _ n' => c' = c ∧ F.rt (.sh .non) n'⟩ δ n
end Dn
namespace L2
open PySem PySem.Spec PyProof.Rows
variable {X : Cx} {J : It} {n : Nat} {G : Hp → Prop} {Y : Nat → Hp → V → Hp → Prop}
end L2
namespace Dn
open PySem PySem.Spec PyProof.Rows L2 Br LamX
variable {X : Cx} {Z : Zx}
def noOw (δ : DS) : Bool := δ.all fun s => match s with | some t => !t.own | none => true
theorem noOw_at {δ : DS} (h : noOw δ = true) {i : Nat} {s : Sl} (hi : δ[i]? = some (some s)) : s.own = false := by
  have := List.all_eq_true.mp h _ (List.mem_of_getElem? hi)
  simpa using this
def lc2In (it1 : DA) (tg1 : Tg) (t1 e : DE) (vs1 : List Nat) : DA := fun δ n P E => noOw δ = true ∧ it1 δ n (fun xs n' => xs.length ≤ 1000 ∧ lcGo tg1 t1 e (wipeD δ vs1) xs n' P) E
def lc2Go (tg : Tg) (t : DE) (inn : DA) (δ : DS) : List D → Nat → (List D → Nat → Prop) → Prop
  | [], n, P => P [] n
  | x :: xs, n, P => ∃ δ', dTg tg x δ = some δ' ∧ t δ' n (fun b n1 => ∃ c, b = .bl c ∧ if c = true then inn δ' n1 (fun ys n2 => lc2Go tg t inn δ xs n2 (fun zs n3 => P (ys ++ zs) n3)) (fun _ _ _ => False) else lc2Go tg t inn δ xs n1 P) (fun _ _ _ => False)
def dLc2 (it : DA) (tg : Tg) (t : DE) (it1 : DA) (tg1 : Tg) (t1 e : DE) (vs vs1 : List Nat) : DA := fun δ n P E => it δ n (fun xs n' => xs.length ≤ 10000 ∧ lc2Go tg t (lc2In it1 tg1 t1 e vs1) (wipeD δ vs) xs n' P) E
section
variable {X : Cx} {Z : Zx} {elt tge iter tge1 iter1 : Expr} {ifs ifs1 : List Expr} {scope : Scope} {own : List (Str × Nat)} {vs1 : List Nat} {pos : Pos} {it it1 : DA} {tg tg1 : Tg} {gg gg1 : TG} {dt dt1 de : DE} {tt tt1 : TT}
end
section
variable {X : Cx} {Z : Zx} {o i e : Expr} {pos p : Pos} {dd dk de : DE} {ra : DA} {x : Str} {ks : List (Key × D)}
end
end Dn
namespace L2
open PySem PySem.Spec PyProof.Rows
end L2
namespace Dn
open PySem PySem.Spec PyProof.Rows L2 Br LamX
variable {X : Cx} {g : G}
def gMulT : List D → Option D
  | [.tup xs, .int k] => if xs ≠ [] ∧ 0 ≤ k ∧ k.toNat * xs.length ≤ 1000000 then some (.tup (rep k.toNat xs)) else none
  | _ => none
end Dn
namespace L2
open PySem PySem.Spec PyProof.Rows
def pairLt (i : Int) (x : Str) (j : Int) (y : Str) : Bool := if i = j then (if x = y then false else decide (x.cps.toList < y.cps.toList)) else decide (i < j)
end L2
namespace Dn
open PySem PySem.Spec PyProof.Rows L2 Br LamX
variable {X : Cx} {g : G}
def gLtR : List D → Option D
  | [.int i, .int j] => some (.bl (decide (i < j)))
  | [.tup [.int i, .str x], .tup [.int j, .str y]] => some (.bl (pairLt i x j y))
  | _ => none
theorem x_ltR1 (i j : Int) : gLtR [.int i, .int j] = some (.bl (decide (i < j))) := rfl
theorem x_ltR2 (i j : Int) (x y : Str) : gLtR [.tup [.int i, .str x], .tup [.int j, .str y]] = some (.bl (pairLt i x j y)) := rfl
end Dn
namespace SrtP
open PySem PySem.Spec PyProof.Rows L2
open SrtO hiding Str
variable {prog : Program} {w : World} {A : Around} {s : Shared} {E : Value → Shared → Prop}
def IsPairS (h : Heap) (v : Value) (x : Int) (y : Str) : Prop := ∃ a o t u n, v = .ref a ∧ h.get? a = some o ∧ o.cls = .type "tuple" ∧ o.data = .seq #[.int x t, .str y u] n
theorem IsPairS.keeps {h h' : Heap} {v : Value} {x : Int} {y : Str} (p : IsPairS h v x y) (k : ∀ b o, h.get? b = some o → o.cls = .type "tuple" → h'.get? b = some o) : IsPairS h' v x y := by
  obtain ⟨a, o, t, u, n, e, ho, hc, hd⟩ := p
  exact ⟨a, o, t, u, n, e, k _ _ ho hc, hc, hd⟩
def lexS (p q : Int × Str) : Bool := pairLt p.1 p.2 q.1 q.2
end SrtP
namespace L2
open PySem PySem.Spec PyProof.Rows SrtP
end L2
namespace L2
open PySem PySem.Spec PyProof.Rows PpSet LamX
section
variable {X : Cx}
end
end L2
namespace Dn
open PySem PySem.Spec PyProof.Rows L2 Br LamX
def memK (acc : List Key) (k : Key) : Bool := acc.any fun j => decide (j = k)
def addD (acc : List Key) (k : Key) : List Key := if memK acc k = true then acc else acc ++ [k]
def skGo (tg : Tg) (t e : DE) (δ : DS) : List D → List Key → Nat → (List Key → Nat → Prop) → Prop
  | [], acc, n, P => P acc n
  | x :: xs, acc, n, P => ∃ δ', dTg tg x δ = some δ' ∧ t δ' n (fun b n1 => ∃ c, b = .bl c ∧ if c = true then e δ' n1 (fun y n2 => ∃ q, dKey y = some q ∧ skGo tg t e δ xs (addD acc q) n2 P) (fun _ _ _ => False) else skGo tg t e δ xs acc n1 P) (fun _ _ _ => False)
def dScLen (it : DA) (tg : Tg) (t e : DE) (vs : List Nat) : DE := fun δ n P E => it δ n (fun xs n' => xs.length < 4000 ∧ skGo tg t e (wipeD δ vs) xs [] n' (fun ks n2 => P (.int ks.length) n2)) E
section
variable {X : Cx} {Z : Zx} {tge iter kx : Expr} {ifs : List Expr} {scope : Scope} {own : List (Str × Nat)} {pos pos2 p : Pos} {it : DA} {dt dk : DE} {tg : Tg} {gg : TG} {tt : TT}
end
end Dn
namespace L2
open PySem PySem.Spec PyProof.Rows SrtP
inductive PrsAt (K : PySem.W.Frag) (H : Hp) : List V → List (Int × Str) → Prop
  | nil : PrsAt K H [] []
  | cons {t : Addr} {x : Int} {y : Str} {vs : List V} {ps : List (Int × Str)} : SqT K H t [.int x, .str y] → PrsAt K H vs ps → PrsAt K H (.ref t :: vs) ((x, y) :: ps)
theorem PrsAt.refs {K : PySem.W.Frag} {H : Hp} : ∀ {vs : List V} {ps : List (Int × Str)}, PrsAt K H vs ps → ∀ x ∈ vs, ∃ a, x = V.ref a
  | _, _, .nil, _, hm => by simp at hm
  | _, _, .cons h r, x, hm => by
    rcases List.mem_cons.mp hm with rfl | hm
    · exact ⟨_, rfl⟩
    · exact r.refs x hm
end L2
namespace Dn
open PySem PySem.Spec PyProof.Rows L2 Br LamX SrtP
def pairD (p : Int × Str) : D := .tup [.int p.1, .str p.2]
def dSortP (a : DE) : DE := fun δ n P E => a δ n (fun x n' => ∃ ps : List (Int × Str), x = .lst (ps.map pairD) ∧ ∀ qs : List (Int × Str), qs.Perm ps → qs.Pairwise (fun x y => lexS y x = false) → P (.lst (qs.map pairD)) n') E
section
variable {X : Cx} {Z : Zx} {e a b : Expr} {pos p : Pos} {de da db : DE}
end
end Dn
namespace Dn
open PySem PySem.Spec PyProof.Rows L2 Br PySem.BrX
section
variable {X : Cx} {CX : CXT} {k n m : Nat} {f C : Addr} {fd : FuncData} {ps ks : List Str} {sp : Sp} {E : XK} {x : Str} {p pos : Pos} {e : Expr} {es : List Expr} {kws : List Keyword} {t ta : TA} {gq : List Value → List Value → List Value} {gV : List V → List V → List V}
end
section
variable {X : Cx} {Z : Zx} {e : Expr} {es : List Expr} {kws : List Keyword} {ra rk : DA} {pos p : Pos} {k nn L : Nat} {x : Str} {kn : Kn} {ks : List Str} {C : Addr} {U : MI} {gV : List V → List V → List V} {gW : List V → List V} {gD : List D → List D}
def dMakeKX (c : Str) (U : MI) (gD : List D → List D) (a : DA) : DE := fun δ n P E => a δ n (fun ds n' => U (gD ds) n' (fun fs n2 => P (.obj c fs) n2) E) E
def dMakeKX0 (c : Str) (U : MI) (gD : List D → List D) (a : DA) : DE := fun δ n P E => a δ n (fun ds n' => U (gD ds) n' (fun fs n2 => P (.obj c fs) n2) (fun _ _ _ => False)) E
end
def insAt {α : Type} (i : Nat) (d : α) (l : List α) : List α := l.take i ++ d :: l.drop i
def insL {α : Type} : List Nat → List α → List α → List α
  | i :: is, d :: ds, l => insL is ds (insAt i d l)
  | _, _, l => l
theorem vals_take : ∀ {vs : List V} {us : List Value} (n : Nat), Vals vs us → Vals (vs.take n) (us.take n)
  | _, _, 0, _ => .nil
  | _, _, _ + 1, .nil => .nil
  | _, _, n + 1, .cons a b => .cons a (vals_take n b)
theorem vals_drop : ∀ {vs : List V} {us : List Value} (n : Nat), Vals vs us → Vals (vs.drop n) (us.drop n)
  | _, _, 0, h => h
  | _, _, _ + 1, .nil => .nil
  | _, _, n + 1, .cons _ b => vals_drop n b
theorem insL_vals : ∀ (is : List Nat) {ms : List V} {mv : List Value} {vs : List V} {us : List Value}, Vals ms mv → Vals vs us → Vals (insL is ms vs) (insL is mv us)
  | [], _, _, _, _, _, h => h
  | _ :: _, _, _, _, _, .nil, h => h
  | i :: is, _, _, _, _, .cons a b, h => insL_vals is b ((vals_take i h).append (.cons a (vals_drop i h)))
def KwIn (K : PySem.W.Frag) (D : Addr) (kws : List (Str × V)) : Prop := ∀ q ∈ kws, ∃ u, PySem.W.nsIn K D q.1 = some (some u) ∧ RelV q.2 u
def FKw (K : PySem.W.Frag) (x qual : Str) (st : Stmt) (fd : FuncData) (kws : List (Str × V)) : Prop :=
  ∃ (D : Addr) (doc pm : Value) (an : Option Addr) (cdv ct : Value), fd = PySem.W.fnOf x qual (defArgs st) (defBody st) (defScope st) .none (.ref D) doc pm an cdv ct ∧ KwIn K D kws
theorem FKw.kbn {K : PySem.W.Frag} {x qual : Str} {st : Stmt} {fd : FuncData} {kws ms : List (Str × V)} {n : Nat} {ps ks : List Str} (F : FKw K x qual st fd kws) (is : List Nat) (hms : ∀ q ∈ ms, q ∈ kws)
    (h : ∀ (D : Addr) (doc pm : Value) (an : Option Addr) (cdv ct : Value) (us mv ws : List Value), us.length = n → mv.length = ms.length → ws.length = ks.length →
      KwChain D ((ms.map (·.1)).zip mv) (bindArgs (PySem.W.fnOf x qual (defArgs st) (defBody st) (defScope st) .none (.ref D) doc pm an cdv ct) ⟨us, ks.zip ws⟩) (ps.zip (insL is mv (us ++ ws)))) :
    ∃ gq, KBn K fd ps n ks gq (fun vs zs => insL is (ms.map (·.2)) (vs ++ zs)) := by
  obtain ⟨D, doc, pm, an, cdv, ct, rfl, hk⟩ := F
  obtain ⟨mv, hl, rk, hq⟩ := kwd_vals (ms := ms) fun q hm => hk q (hms q hm)
  exact ⟨fun us ws => insL is mv (us ++ ws), ⟨fun s us ws XX l1 l2 => BindsTo.of_looks fun M => KwChain.looks XX hq (h D doc pm an cdv ct us mv ws l1 hl l2), fun r1 r2 => insL_vals is rk (r1.append r2)⟩⟩
section
variable {X : Cx} {Z : Zx} {a b : Expr} {bs : List Expr} {da : DE} {tb : TA} {pos px pt : Pos} {kt : Nat}
end
end Dn
namespace Dn
open PySem PySem.Spec PyProof.Rows L2 Br
theorem y_isInt6 (ks : List (Key × D)) : isInt (.dct ks) = some false := rfl
theorem y_isBool6 (ks : List (Key × D)) : isBool (.dct ks) = some false := rfl
theorem y_isStr6 (ks : List (Key × D)) : isStr (.dct ks) = some false := rfl
theorem y_isTuple6 (ks : List (Key × D)) : isTuple (.dct ks) = some false := rfl
theorem y_isList6 (ks : List (Key × D)) : isList (.dct ks) = some false := rfl
theorem y_isSeq6 (ks : List (Key × D)) : isSeq (.dct ks) = some false := rfl
theorem y_len4 (n : Nat) : gLen [.scr n] = some (.int n) := rfl
theorem y_inS (c : Nat) (z : Str) : gInS [.str ⟨#[c]⟩, .str z] = some (.bl (decide (c ∈ z.cps.toList))) := rfl
theorem y_notInS (c : Nat) (z : Str) : gNotInS [.str ⟨#[c]⟩, .str z] = some (.bl (!decide (c ∈ z.cps.toList))) := rfl
theorem y_in1 (d : D) (ds : List D) : gIn [d, .tup ds] = if d.flat = true ∧ ds.all D.flat = true then some (.bl (inF d ds)) else none := rfl
theorem y_in2 (d : D) (ds : List D) : gIn [d, .lst ds] = if d.flat = true ∧ ds.all D.flat = true then some (.bl (inF d ds)) else none := rfl
theorem y_ne0 (xs : List D) : gNe0 [.tup xs, .tup []] = some (.bl (!xs.isEmpty)) := rfl
theorem y_ne0L (xs : List D) : gNe0L [.lst xs, .lst []] = some (.bl (!xs.isEmpty)) := rfl
theorem y_eq0 (xs : List D) : gEq0 [.lst xs, .lst []] = some (.bl xs.isEmpty) := rfl
theorem y_isB (a b : Bool) : gIsB [.bl a, .bl b] = some (.bl (a == b)) := rfl
theorem y_isNotB (a b : Bool) : gIsNotB [.bl a, .bl b] = some (.bl (!(a == b))) := rfl
theorem y_revS (z : Str) : gRevS [.str z] = if z.length ≤ sizeLine then some (.str (revS z)) else none := rfl
theorem y_addN1 (i j : Int) : gAddN [.int i, .int j] = some (.int (i + j)) := rfl
theorem y_addN2 (a : Bool) (j : Int) : gAddN [.bl a, .int j] = some (.int (b2i a + j)) := rfl
theorem y_subN1 (i j : Int) : gSubN [.int i, .int j] = some (.int (i - j)) := rfl
theorem y_subN2 (a : Bool) (j : Int) : gSubN [.bl a, .int j] = some (.int (b2i a - j)) := rfl
theorem y_subN3 (i : Int) (b : Bool) : gSubN [.int i, .bl b] = some (.int (i - b2i b)) := rfl
theorem y_strN1 (i : Int) : gStrN [.int i] = if i.natAbs.log2 < 1920 then some (.str (toString i)) else none := rfl
theorem y_strN2 (b : Bool) : gStrN [.bl b] = some (.str (blS b)) := rfl
theorem y_zipS (x y : Str) : gZipS [.str x, .str y] = some (zipD (signs x) (signs y)) := rfl
theorem y_dget (ks : List (Key × D)) (d : D) : gDGet [.dct ks, d] = match dKey d with | some k => valD ks k | none => none := rfl
theorem y_dnotin (ks : List (Key × D)) (d : D) : gDNotIn [d, .dct ks] = (dKey d).map fun k => .bl !(valD ks k).isSome := rfl
theorem y_din (ks : List (Key × D)) (d : D) : gDIn [d, .dct ks] = (dKey d).map fun k => .bl (valD ks k).isSome := rfl
theorem y_key1 (i : Int) : dKey (.int i) = some (.inl i) := rfl
theorem y_key2 (x : Str) : dKey (.str x) = some (.inr x) := rfl
theorem eqD_bl' (a b : Bool) : eqD (.bl a) (.bl b) = some (a == b) := by cases a <;> cases b <;> decide +kernel
end Dn
namespace Tr
open PySem PySem.Spec PyProof.Rows L2 Br Dn
mutual
def wt : D → Nat
  | .lst xs => 5 + wtA xs
  | .tup xs => 5 + wtA xs
  | _ => 10000
def wtA : List D → Nat
  | [] => 0
  | x :: xs => wt x + 2 + wtA xs
end
def Asc (x : Str) : Prop := ∀ c ∈ x.cps.toList, c < 128
theorem Asc.ok {x : Str} (h : Asc x) : PyData.strOk x = true := by
  show x.cps.all (· < 0x110000) = true
  rw [← Array.all_toList, List.all_eq_true]
  intro c hc
  have := h c hc
  exact decide_eq_true (by omega)
def Leaf (c : Nat) (m : Int) (d : D) : Prop := d = .non ∨ (∃ b, d = .bl b) ∨ (∃ i : Int, d = .int i ∧ -m ≤ i ∧ i ≤ m) ∨ (∃ x : Str, d = .str x ∧ x.length ≤ c ∧ Asc x) ∨ d = .dct []
def OkT (c : Nat) (m : Int) : Nat → D → Prop
  | 0, d => Leaf c m d
  | j + 1, d => Leaf c m d ∨ ∃ xs, (d = .lst xs ∨ d = .tup xs) ∧ ∀ x ∈ xs, OkT c m j x
variable {c c' : Nat} {m m' : Int} {j : Nat} {d : D} {xs : List D}
theorem Leaf.mono (h : Leaf c m d) (hc : c ≤ c') (hm : m ≤ m') : Leaf c' m' d := by
  rcases h with h | h | ⟨i, h, h1, h2⟩ | ⟨x, h, h1, h2⟩ | h
  · exact .inl h
  · exact .inr (.inl h)
  · exact .inr (.inr (.inl ⟨i, h, by omega, by omega⟩))
  · exact .inr (.inr (.inr (.inl ⟨x, h, by omega, h2⟩)))
  · exact .inr (.inr (.inr (.inr h)))
theorem OkT.mono (hc : c ≤ c') (hm : m ≤ m') : ∀ {j j' : Nat} {d : D}, OkT c m j d → j ≤ j' → OkT c' m' j' d
  | 0, 0, d, h, _ => Leaf.mono h hc hm
  | 0, j' + 1, d, h, _ => .inl (Leaf.mono h hc hm)
  | j + 1, j' + 1, d, h, hj => by
    rcases h with h | ⟨xs, h, hx⟩
    · exact .inl (h.mono hc hm)
    · exact .inr ⟨xs, h, fun x hx' => OkT.mono hc hm (hx x hx') (by omega)⟩
theorem OkT.lst (h : ∀ x ∈ xs, OkT c m j x) : OkT c m (j + 1) (.lst xs) := .inr ⟨xs, .inl rfl, h⟩
theorem OkT.tup (h : ∀ x ∈ xs, OkT c m j x) : OkT c m (j + 1) (.tup xs) := .inr ⟨xs, .inr rfl, h⟩
theorem Leaf.int {i : Int} (h1 : -m ≤ i) (h2 : i ≤ m) : Leaf c m (.int i) := .inr (.inr (.inl ⟨i, rfl, h1, h2⟩))
theorem Leaf.bl (b : Bool) : Leaf c m (.bl b) := .inr (.inl ⟨b, rfl⟩)
theorem Leaf.non : Leaf c m .non := .inl rfl
theorem Leaf.dct : Leaf c m (.dct []) := .inr (.inr (.inr (.inr rfl)))
theorem Leaf.str {x : Str} (h : x.length ≤ c) (h2 : Asc x) : Leaf c m (.str x) := .inr (.inr (.inr (.inl ⟨x, rfl, h, h2⟩)))
theorem Leaf.wt (h : Leaf c m d) : wt d = 10000 := by
  rcases h with rfl | ⟨_, rfl⟩ | ⟨_, rfl, _⟩ | ⟨_, rfl, _⟩ | rfl <;> (unfold Tr.wt; rfl)
def Pl : D → Prop
  | .obj _ _ => False
  | .exc _ _ => False
  | .pen => False
  | .scr _ => False
  | .fn _ _ _ => False
  | _ => True
theorem OkT.pl (h : OkT c m j d) : Pl d := by
  cases j with
  | zero => rcases h with rfl | ⟨_, rfl⟩ | ⟨_, rfl, _⟩ | ⟨_, rfl, _⟩ | rfl <;> trivial
  | succ j =>
    rcases h with h | ⟨xs, rfl | rfl, hx⟩
    · rcases h with rfl | ⟨_, rfl⟩ | ⟨_, rfl, _⟩ | ⟨_, rfl, _⟩ | rfl <;> trivial
    · trivial
    · trivial
mutual
def wq : D → Nat
  | .lst xs => 5 + wqA xs
  | .tup xs => 5 + wqA xs
  | _ => 210
def wqA : List D → Nat
  | [] => 0
  | x :: xs => wq x + 2 + wqA xs
end
variable {c : Nat} {m : Int} {j : Nat} {d : D}
end Tr
namespace ZipM
open PySem RZ
open PySem.Sem (wp)
def SIt : Bool → Heap → Addr → Addr → Nat → Prop
  | true, h, it, l, i => h.IsTupleIter it l i
  | false, h, it, l, i => h.IsListIter it l i
def SSq : Bool → Heap → Addr → Array Value → Prop
  | true, h, l, xs => h.IsTuple l xs
  | false, h, l, xs => h.IsList l xs
theorem SIt.extBut {v : Bool} {h h' : Heap} {a b l : Addr} {i : Nat} (x : SIt v h a l i) (k : Heap.ExtBut b h h') (n : a ≠ b) : SIt v h' a l i := by
  cases v
  · exact Heap.IsListIter.extBut x k n
  · exact Heap.IsTupleIter.extBut x k n
theorem SSq.extBut {v : Bool} {h h' : Heap} {a b : Addr} {xs : Array Value} (x : SSq v h a xs) (k : Heap.ExtBut b h h') (n : a ≠ b) : SSq v h' a xs := by
  cases v
  · exact Heap.IsList.extBut x k n
  · exact Heap.IsTuple.extBut x k n
theorem SIt.at {v : Bool} {h h' : Heap} {a l : Addr} {i : Nat} (x : SIt v h a l i) (e : ∀ o, h.get? a = some o → h'.get? a = some o) : SIt v h' a l i := by
  cases v
  · exact Heap.IsListIter.at x e
  · exact Heap.IsTupleIter.at x e
theorem SIt.lt {v : Bool} {h : Heap} {a l : Addr} {i : Nat} (x : SIt v h a l i) : a < h.objs.size := by
  cases v
  · obtain ⟨_, e, _⟩ := (show h.IsListIter a l i from x); exact Heap.lt_size e
  · obtain ⟨_, e, _⟩ := (show h.IsTupleIter a l i from x); exact Heap.lt_size e
theorem SIt.obj {v : Bool} {h : Heap} {a l : Addr} {i : Nat} (x : SIt v h a l i) : ∃ o, h.get? a = some o ∧ ∀ u, o.data ≠ .cell u := by
  cases v
  · obtain ⟨o, e, _, d⟩ := (show h.IsListIter a l i from x); exact ⟨o, e, fun u q => by rw [d] at q; cases q⟩
  · obtain ⟨o, e, _, d⟩ := (show h.IsTupleIter a l i from x); exact ⟨o, e, fun u q => by rw [d] at q; cases q⟩
section
variable {prog : Program} {w : World} {A : Around} {E : Value → Shared → Prop} {s : Shared}
end
section
variable {prog : Program} {w : World} {A : Around} {E : Value → Shared → Prop} {s : Shared}
end
end ZipM
namespace ZipM
open PySem PySem.Spec PyProof.Rows L2 RZ
def SqV : Bool → PySem.W.Frag → Hp → Addr → List V → Prop
  | true, K, H, a, xs => SqT K H a xs
  | false, K, H, a, xs => SqL K H a xs
theorem SqV.get {v : Bool} {X : Cx} {pins : List (Addr × Obj)} {σ : L2.St} {H : Hp} {s : Shared} {a : Addr} {xs : List V} (I : Inv X pins σ H s) (h : SqV v X.K H a xs) : ∃ its : List Value, Vals xs its ∧ SSq v s.heap a its.toArray ∧ a < s.heap.objs.size := by
  cases v
  · obtain ⟨its, rv, p, _⟩ := I.list h
    exact ⟨its, rv, p.isList, p.lt⟩
  · obtain ⟨its, rv, p, _⟩ := I.tuple h
    obtain ⟨o, ho, _⟩ := id p
    exact ⟨its, rv, p, Heap.lt_size ho⟩
theorem SqV.inj {v : Bool} {X : Cx} {pins : List (Addr × Obj)} {σ : L2.St} {H : Hp} {s : Shared} {a : Addr} {xs ys : List V} (I : Inv X pins σ H s) (h : SqV v X.K H a xs) (k : SqV v X.K H a ys) : xs = ys := by
  cases v
  · exact I.list_inj h k
  · exact I.tuple_inj h k
end ZipM
namespace Dn
open PySem PySem.Spec PyProof.Rows L2 Br LamX ZipM
def gZip : List D → Option (List D)
  | [.lst x, .lst y] => some (zipD x y)
  | [.lst x, .tup y] => some (zipD x y)
  | [.tup x, .lst y] => some (zipD x y)
  | [.tup x, .tup y] => some (zipD x y)
  | _ => none
section
variable {X : Cx} {Z : Zx} {a b : Expr} {ra : DA} {pos p : Pos}
end
theorem x_zip1 (x y : List D) : gZip [.lst x, .lst y] = some (zipD x y) := rfl
theorem x_zip2 (x y : List D) : gZip [.lst x, .tup y] = some (zipD x y) := rfl
theorem x_zip3 (x y : List D) : gZip [.tup x, .lst y] = some (zipD x y) := rfl
theorem x_zip4 (x y : List D) : gZip [.tup x, .tup y] = some (zipD x y) := rfl
end Dn
namespace Dn
open PySem PySem.Spec PyProof.Rows L2 Br
section
variable {X : Cx} {Z : Zx} {i : Nat} {x : Str} {pos p : Pos}
def dFldS (i : Nat) (c f : Str) : DE := fun δ n P _ => ∃ a fs d, δ[i]? = some (some (.sf a c fs)) ∧ fs.lookup f = some d ∧ P d n
end
end Dn
namespace Br
open PySem PySem.Spec PyProof.Rows L2
section
variable {X : Cx} {e ek : Expr} {ta tk : TA} {p pos kp tpos : Pos} {elts : List Expr} {kk : Nat}
end
end Br
namespace Dn
open PySem PySem.Spec PyProof.Rows L2 Br LamX
def gEnumL : List D → Option (List D)
  | [.lst xs, .int k] => if -(2 ^ 62) ≤ k ∧ k < 2 ^ 62 then some (numd k xs) else none
  | [.str z, .int k] => if -(2 ^ 62) ≤ k ∧ k < 2 ^ 62 then some (numd k (signs z)) else none
  | _ => none
theorem x_enumL1 (xs : List D) (k : Int) : gEnumL [.lst xs, .int k] = if -(2 ^ 62) ≤ k ∧ k < 2 ^ 62 then some (numd k xs) else none := rfl
theorem x_enumL2 (z : Str) (k : Int) : gEnumL [.str z, .int k] = if -(2 ^ 62) ≤ k ∧ k < 2 ^ 62 then some (numd k (signs z)) else none := rfl
section
variable {X : Cx} {Z : Zx} {a e o : Expr} {p pos cpos apos : Pos} {da de dk : DE}
def dPart (a b : DE) : DE := fun δ n P E => a δ n (fun x n1 => ∃ z, x = .str z ∧ b δ n1 (fun y n2 => ∃ w, y = .str w ∧ (w.length == 0) = false ∧ z.length ≤ sizeLine ∧ P (.tup [.str (Txt.partition z w).1, .str (Txt.partition z w).2.1, .str (Txt.partition z w).2.2]) n2) E) E
def dStripC (a b : DE) : DE := fun δ n P E => a δ n (fun x n1 => ∃ z, x = .str z ∧ b δ n1 (fun y n2 => ∃ w, y = .str w ∧ z.length ≤ sizeLine ∧ P (.str (Txt.stripChars z w)) n2) E) E
def dEnds (a b : DE) : DE := fun δ n P E => a δ n (fun x n1 => ∃ z, x = .str z ∧ b δ n1 (fun y n2 => ∃ w, y = .str w ∧ P (.bl (Txt.endswith z w)) n2) E) E
end
section
variable {X : Cx} {g : G}
def gLtT : List D → Option D
  | [.int i, .int j] => some (.bl (decide (i < j)))
  | [.str x, .str y] => some (.bl (decide (x.cps.toList < y.cps.toList)))
  | _ => none
def gGtT : List D → Option D
  | [.int i, .int j] => some (.bl (decide (j < i)))
  | [.str x, .str y] => some (.bl (decide (y.cps.toList < x.cps.toList)))
  | _ => none
theorem x_ltT1 (i j : Int) : gLtT [.int i, .int j] = some (.bl (decide (i < j))) := rfl
theorem x_ltT2 (x y : Str) : gLtT [.str x, .str y] = some (.bl (decide (x.cps.toList < y.cps.toList))) := rfl
theorem x_gtT1 (i j : Int) : gGtT [.int i, .int j] = some (.bl (decide (j < i))) := rfl
theorem x_gtT2 (x y : Str) : gGtT [.str x, .str y] = some (.bl (decide (y.cps.toList < x.cps.toList))) := rfl
end
def dGet2 (dd dk df : DE) : DE := fun δ n P E => dd δ n (fun x n1 => ∃ ks, x = .dct ks ∧ dk δ n1 (fun y n2 => df δ n2 (fun z n3 => ∃ q, dKey y = some q ∧ P ((valD ks q).getD z) n3) E) E) E
section
variable {X : Cx} {Z : Zx} {o e f i value : Expr} {pos p pos' : Pos} {dd dk df da dv : DE} {x : Str} {j : Nat}
theorem d_dget2 {apos cpos : Pos} (hu : X.A.units + 64 < cLine) (ho : PE X o (lift Z dd)) (he : PE X e (lift Z dk)) (hf : PE X f (lift Z df)) (m : M2 X o "get" apos e f cpos := by exact ⟨rfl, rfl, rfl, rfl⟩) : PE X (.Call (.Attribute o "get" apos) [e, f] [] cpos) (lift Z (dGet2 dd dk df)) :=
  up (pe_dget2 (by omega) ho he hf m) fun σ H Q ⟨δ, Hv, n, P, E, r, h1, q, x⟩ => ⟨δ, Hv, n, _, E, r, h1, (fun d v H1 Hv1 n1 h2 e1 p1 k1 => by
    obtain ⟨ks, rfl, h2⟩ := h2
    cases k1 with
    | @dct a oo kvs _ ha kk =>
      refine ⟨a, rfl, .inl ⟨_, .inr ⟨_, e1.sub _ _ ha⟩⟩, δ, Hv1, n1, _, E, r.step e1 p1, h2, (fun d2 v2 H2 Hv2 n2 h3 e2 p2 k2 => ?_), x.step e1 p1⟩
      have e12 := e1.trans (fun _ => p1.pd) e2
      refine ⟨δ, Hv2, n2, _, E, r.step e12 p2, h3, (fun d3 v3 H3 Hv3 n3 h4 e3 p3 k3 => ?_), x.step e12 p2⟩
      obtain ⟨kq, ek, h4⟩ := h4
      obtain ⟨a', kvs', e4, rfl, ha', kk', gg⟩ := dct_get e3.sub (Dv.mono (e2.see.trans e3.see) (Dv.dct ha kk)) (k2.mono e3.see) ek
      cases e4
      refine ⟨_, gg, ?_⟩
      have : Dv Z.g Hv3 ((valV kvs' kq).getD v3) ((valD ks kq).getD d3) := by
        cases ev : valD ks kq with
        | none => rw [(kk'.val kq).2 ev]; exact k3
        | some d3 => obtain ⟨v3, hv3, k3⟩ := (kk'.val kq).1 d3 ev; rw [hv3]; exact k3
      exact q _ _ _ _ _ h4 (e12.trans (fun _ => p2.pd) e3) p3 this), x⟩
def dLput (i : Nat) (k v : DE) : DT := fun F δ n => ∃ ds, δ[i]? = some (some (.ow ds)) ∧ v δ n (fun y n1 => k δ n1 (fun q n2 => ∃ z j, q = .int z ∧ ixN ds.length z = some j ∧ F.nx (δ.set i (some (.ow (ds.set j y)))) n2) (F.xe δ)) (F.xe δ)
theorem ds_lput (ho : PE X (.Name x p) (tVar j)) (hi : PE X i (lift Z dk)) (hv : PE X value (lift Z dv)) (hs : swapsWithSole [.Subscript (.Name x p) i pos'] value pos.line X.env = pure false := by rfl) (hw : swappedStores [.Subscript (.Name x p) i pos'] value X.env = pure none := by rfl)
    (h1 : (assignEach [.Subscript (.Name x p) i pos'] X.env).map (·.2) = [assign (.Subscript (.Name x p) i pos') X.env] := by rfl)
    (ha : ∀ v, assign (.Subscript (.Name x p) i pos') X.env v = (do
      let ov ← holding [v] (eval (.Name x p) X.env)
      let iv ← holding [v, ov] (eval i X.env)
      standAt pos'
      holding [v, ov, iv] (setItem ov iv v)
      release [v, ov, iv] []) := by intro _; rfl) :
    PS X (.Assign [.Subscript (.Name x p) i pos'] value pos) (liftS Z (dLput j dk dv)) := upS (ps_asg hv (pg_sub ho hi set_list ha) hs hw h1) fun _ σ H ⟨δ, Hv, n, F, r, ⟨ds, hd, h⟩, k1, k2, k3, k4, k5⟩ => by
  obtain ⟨p, vs, s1, s2, s3, s4⟩ := own_at r hd
  refine ⟨δ, Hv, n, _, _, r, h, (fun y v H1 Hv1 n1 h' e1 p1 q1 => ?_), k5.e r⟩
  have r1 := r.step e1 p1
  refine ⟨.ref p, s1, δ, Hv1, n1, _, _, r1, h', (fun q w H2 Hv2 n2 h2 e2 p2 q2 => ?_), (k5.see e1.see).e r1⟩
  obtain ⟨z, j', rfl, hj, h3⟩ := h2
  cases q2
  have r2 := r1.step e2 p2
  obtain ⟨p', vs', t1, t2, t3, t4⟩ := own_at r2 hd
  rw [s1] at t1
  cases t1
  exact ⟨p, vs', z, j', rfl, rfl, t2, by rw [t4.len]; exact hj, k1 _ _ _ _ _ h3 (e1.see.trans e2.see) (r2.mut hd s1 (t4.set (q1.mono e2.see) j'))⟩
def dStop (a : DE) : DE := fun δ n _ E => a δ n (fun _ _ => False) E
end
end Dn
namespace PySem
namespace HandSPX
open PySem.W PySem.Calls PyProof.Rows
section
variable {M : Model} {A : Around} {E : Value → Shared → Prop} {s : Shared} {base : Heap} {env : Env} {outer : List Env} {e L : Addr} {Z : Obj → Prop}
end
end HandSPX
end PySem
namespace L2
open PySem PySem.Spec PyProof.Rows
end L2
namespace Dn
open PySem PySem.Spec PyProof.Rows L2 Br LamX
def lcGoX (tg : Tg) (t e : DE) (E : XD) (δ : DS) : List D → Nat → (List D → Nat → Prop) → Prop
  | [], n, P => P [] n
  | x :: xs, n, P => ∃ δ', dTg tg x δ = some δ' ∧ t δ' n (fun b n1 => ∃ c, b = .bl c ∧ if c = true then e δ' n1 (fun y n2 => lcGoX tg t e E δ xs n2 (fun ys n3 => P (y :: ys) n3)) E else lcGoX tg t e E δ xs n1 P) (fun _ _ _ => False)
def dLcX (it : DA) (tg : Tg) (t e : DE) (vs : List Nat) : DA := fun δ n P E => it δ n (fun xs n' => xs.length ≤ sizeLine ∧ lcGoX tg t e E (wipeD δ vs) xs n' P) E
section
variable {X : Cx} {Z : Zx} {elt iter tge : Expr} {ifs : List Expr} {scope : Scope} {own : List (Str × Nat)} {it : DA} {dt de : DE} {tg : Tg} {gg : TG} {tt : TT} {pos : Pos}
end
def dIxD (i : Nat) (k : DE) : DE := fun δ n P E => ∃ ks, δ[i]? = some (some (.od ks)) ∧ k δ n (fun y n1 => ∃ kq v, dKey y = some kq ∧ valD ks kq = some v ∧ P v n1) E
end Dn
namespace Dn
open PySem PySem.Spec PyProof.Rows L2 Br PySem.BrX
section
variable {X : Cx} {Z : Zx} {g : G} {e : Expr} {de : DE} {pos p2 : Pos}
def gStrT : List D → Option D
  | [.int i] => if i.natAbs.log2 < 1920 then some (.str (toString i)) else none
  | [.str z] => some (.str z)
  | _ => none
theorem x_strT1 (i : Int) : gStrT [.int i] = if i.natAbs.log2 < 1920 then some (.str (toString i)) else none := rfl
theorem x_strT2 (z : Str) : gStrT [.str z] = some (.str z) := rfl
end
structure OkM (P : Program) (w : World) (K : PySem.W.Frag) (mg : Str → Option Value) (base : Heap) (k : Nat) (C : Addr) (m : Str) (ps : List Str) (sp : Sp) (f : Addr) (fd : FuncData) : Prop where
  cl : Cls K C
  hm : Meth K C m f
  hb : Binds K fd ps []
  ok : FnOk P w K mg base CX0 k f fd ps sp
def dMeth (c m : Str) (U : List D → M D) (a : DE) (t : DA) : DE := fun δ n P E => a δ n (fun x n1 => ∃ gs, x = .obj c gs ∧ gs.lookup m = none ∧ t δ n1 (fun xs n2 => U (x :: xs) n2 P (fun _ _ _ => False)) E) E
theorem DvF.none {g : G} {H : Hp} {m : Str} : ∀ {fs : List (Str × V)} {gs : List (Str × D)}, DvF g H fs gs → gs.lookup m = none → fs.lookup m = none
  | _, _, .nil, _ => rfl
  | (f, v) :: fs, (_, d) :: gs, .cons h r, q => by
    rw [List.lookup_cons] at q ⊢
    split at q
    · cases q
    · exact DvF.none r q
section
variable {X : Cx} {Z : Zx} {o e : Expr} {es : List Expr} {pos apos : Pos} {da : DE} {ra : DA} {k : Nat} {C : Addr} {kn : Kn}
end
end Dn
namespace Dn
open PySem PySem.Spec PyProof.Rows L2 Br LamX
variable {X : Cx} {Z : Zx}
def dPar3O (i j k : Nat) (a b c : DO) : DT := fun F δ n => a δ n (fun x n1 => b δ n1 (fun y n2 => c δ n2 (fun z n3 => F.nx (((δ.set i (some x)).set j (some y)).set k (some z)) n3) (F.xe δ)) (F.xe δ)) (F.xe δ)
end Dn
namespace Dn
open PySem PySem.Spec PyProof.Rows L2 Br
section
variable {X : Cx} {Z : Zx} {a : Expr} {pos p : Pos} {da : DE}
def dSortS (a : DE) : DE := fun δ n P E => a δ n (fun x n' => ∃ ks : List Str, x = .lst (ks.map .str) ∧ ks.length < 64 ∧ ∀ ys : List Str, ys.Perm ks → P (.lst (ys.map .str)) n') E
end
end Dn
namespace L2
open PySem PySem.Spec PyProof.Rows
section
variable {P : Program} {w : World} {A : Around} {E : Value → Shared → Prop} {s : Shared} {a : Addr}
end
section
variable {X : Cx}
end
end L2
namespace Dn
open PySem PySem.Spec PyProof.Rows L2 Br
section
variable {X : Cx} {Z : Zx} {a : Expr} {pos p pos2 p2 : Pos} {da : DE}
def dSortSet (a : DE) : DE := fun δ n P E => a δ n (fun x n' => ∃ ks : List Int, x = .lst (ks.map .int) ∧ ks.length < 1000 ∧ ∀ ys : List Int, ys.Pairwise (· < ·) → (∀ k, k ∈ ys ↔ k ∈ ks) → P (.lst (ys.map .int)) n') E
end
section
variable {X : Cx} {Z : Zx} {a : Expr} {pos p0 : Pos} {da : DE}
def dDictC (a : DE) : DO := fun δ n P E => a δ n (fun x n' => ∃ ks, x = .dct ks ∧ P (.od ks) n') E
end
end Dn
namespace Dn
open PySem PySem.Spec PyProof.Rows L2 Br PySem.BrX
def ixL {α : Type} (z : α) (is : List Nat) (l : List α) : List α := is.map fun i => l.getD i z
section
variable {X : Cx} {k n m : Nat} {f C : Addr} {fd : FuncData} {ks : List Str} {sp : Sp} {E : XK} {x : Str} {p pos : Pos} {kws : List Keyword} {ta : TA} {gV : List V → List V → List V}
end
section
variable {X : Cx} {Z : Zx} {kws : List Keyword} {rk : DA} {pos p : Pos} {k L : Nat} {x : Str} {kn : Kn} {ks : List Str} {C : Addr} {U : MI} {gV : List V → List V → List V} {gW : List V → List V} {gD : List D → List D}
def dMakeK00 (c : Str) (U : MI) (L : Nat) (gD : List D → List D) (a : DA) : DE := fun δ n P E => a δ n (fun ds n' => ds.length = L ∧ U (gD ds) n' (fun fs n2 => P (.obj c fs) n2) (fun _ _ _ => False)) E
end
end Dn
namespace L2
open PySem PySem.Spec PyProof.Rows
end L2
namespace Dn
open PySem PySem.Spec PyProof.Rows L2 Br
section
variable {X : Cx} {Z : Zx} {a b c : Expr} {pos p0 p1 : Pos} {da db dc : DE}
def dInR (a : DE) (r : DA) : DE := fun δ n P E => a δ n (fun x n1 => r δ n1 (fun ds n3 => ∃ k i j : Int, x = .int k ∧ ds = [.int i, .int j] ∧ P (.bl (decide (i ≤ k) && decide (k < j))) n3) E) E
end
end Dn
namespace L2
open PySem PySem.Spec PyProof.Rows PpSet LamX
abbrev ddK (ks : List Key) : List Key := ks.foldl Dn.addD []
end L2
namespace Dn
open PySem PySem.Spec PyProof.Rows L2 Br LamX
section
variable {X : Cx} {Z : Zx} {a : Expr} {pos p pos2 p2 : Pos} {da : DE}
def dLenSet (a : DE) : DE := fun δ n P E => a δ n (fun x n' => ∃ (xs : List D) (ks : List Key), x = .lst xs ∧ xs.map dKey = ks.map some ∧ ks.length < 4000 ∧ P (.int (ddK ks).length) n') E
end
variable {X : Cx} {Z : Zx}
def dPar4O (i j k l : Nat) (a b c d : DO) : DT := fun F δ n => a δ n (fun x n1 => b δ n1 (fun y n2 => c δ n2 (fun z n3 => d δ n3 (fun w n4 => F.nx ((((δ.set i (some x)).set j (some y)).set k (some z)).set l (some w)) n4) (F.xe δ)) (F.xe δ)) (F.xe δ)) (F.xe δ)
end Dn
namespace Dn
open PySem PySem.Spec PyProof.Rows L2 Br
def kP : Key → PyData
  | .inl i => .int i
  | .inr x => .str x
def kT : Key → Str
  | .inl _ => ""
  | .inr x => reprText x
def kOk : Key → Bool
  | .inl _ => false
  | .inr x => decide ((reprText x).length ≤ 1000)
section
variable {X : Cx} {pins : List (Addr × Obj)} {σ : L2.St} {H Hv : Hp} {s : Shared} {g : G}
theorem ents_of {prog : Program} {w : World} {h : Heap} : ∀ {ks : List (Key × D)} {kvs : List (Key × V)} {vs : List (Key × Value)} {es : List DictEntry}, DvK g Hv kvs ks → KV kvs vs → Pairs (mixKind prog w) es vs → (ks.all fun q => kOk q.1) = true →
    DvAll g Hv (kvs.map (·.2)) (ks.map (·.2)) ∧ Vals (kvs.map (·.2)) (es.map (·.val)) ∧ (∀ as d, ReprAllK prog w as h d (es.map (·.key)) (ks.map fun q => kT q.1)) ∧ ReadsAll h (es.map (·.key)) (ks.map fun q => kP q.1) []
  | [], _, _, _, .nil, .nil, .nil, _ => ⟨.nil, .nil, fun _ _ => .nil, .nil⟩
  | (k, d) :: ks, _, _, _, .cons d1 d2, .cons k1 k2, .cons p1 p2 p3, hk => by
    rw [List.all_cons, Bool.and_eq_true] at hk
    obtain ⟨i1, i2, i3, i4⟩ := ents_of (h := h) d2 k2 p3 hk.2
    obtain ⟨e1, e2⟩ := k1
    cases k with
    | inl i => exact Bool.noConfusion (show (false = true) from hk.1)
    | inr x =>
      have hx : (reprText x).length ≤ 1000 := of_decide_eq_true hk.1
      rw [← e1] at p1
      have p1 : keyIs (.inr x) _ = true := p1
      rcases keyIs_shape p1 with ⟨i, t, e, ek⟩ | ⟨y, t, e, ek⟩
      · cases e
      · cases e
        refine ⟨.cons d1 i1, .cons ?_ i2, fun as d => ?_, ?_⟩
        · dsimp only
          rw [p2]
          exact e2
        · show ReprAllK prog w as h d (_ :: _) (reprText x :: _)
          dsimp only
          rw [ek]
          exact .cons (.of_is (ReprIs.str x t (by rw [sizeLine_eq]; omega)) _ _ _) (i3 as d)
        · show ReadsAll h (_ :: _) (PyData.str x :: _) []
          dsimp only
          rw [ek]
          exact .cons (.str x t) i4
end
end Dn
namespace Dn
open PySem PySem.SeqAt
open AutoSeq1 (wpAny_loadPart')
open MeetsSeq MeetsSeq2 MeetsSeq3 SeqRoads2
section
variable {prog : Program} {w : World} {A : Around} {E : Value → Shared → Prop} {s : Shared} {K : PySem.W.Frag} {x C f : Addr} {ox : Obj} {od : Option Obj}
end
section
variable {prog : Program} {w : World} {A : Around} {R : Result → Shared → Prop} {s : Shared} {K : PySem.W.Frag} {x C : Addr}
end
section
open Sem (wp)
open Builtin
variable {prog : Program} {w : World} {A : Around} {E : Value → Shared → Prop} {h : Heap} {g : Array GenState} {d : Drawn} {t : Nat} {os : OsState} {C x f : Addr} {b : Value} {B : String} {bm : List Value} {K : PySem.W.Frag} {tb : Value}
end
end Dn
namespace Dn
open PySem PySem.Spec PyProof.Rows L2 Br
def anyT : List String := ["NoneType", "bool", "int", "str", "list", "tuple", "dict"]
structure AnyOk (K : PySem.W.Frag) (C : Addr) : Prop where
  nf : ∀ T ∈ anyT, PySem.W.notFirst K C (.type T) = true
  no : ∀ T ∈ anyT, PySem.W.subIn K (.ref C) (.type T) = some false
  ki : ∀ T ∈ anyT, PySem.W.kitOne K (.type T) (.ref C) = some false
inductive AnyV (K : PySem.W.Frag) (H : Hp) : V → Prop
  | non : AnyV K H .non
  | bl (b : Bool) : AnyV K H (.bl b)
  | int (i : Int) : AnyV K H (.int i)
  | str (x : Str) : AnyV K H (.str x)
  | lst {p : Addr} {xs : List V} : SqL K H p xs → AnyV K H (.ref p)
  | tup {p : Addr} {xs : List V} : SqT K H p xs → AnyV K H (.ref p)
  | dct {p : Addr} {o : Obj} {kvs : List (Key × V)} : H p = some (.frz o (.dK kvs)) → AnyV K H (.ref p)
theorem AnyV.mono {K : PySem.W.Frag} {H H' : Hp} {v : V} (h : AnyV K H v) (s : Same H H') : AnyV K H' v := by
  cases h with
  | non => exact .non
  | bl b => exact .bl b
  | int i => exact .int i
  | str x => exact .str x
  | lst h => exact .lst (s.seq h)
  | tup h => exact .tup (same_seqT s h)
  | dct h => exact .dct (s _ _ h)
section
variable {X : Cx} {pins : List (Addr × Obj)} {σ : L2.St} {H : Hp} {s : Shared} {x C dx : Addr}
end
section
variable {X : Cx} {C f : Addr} {fd : FuncData} {ps : List Str} {sp : Sp} {k : Nat}
end
end Dn
namespace Dn
open PySem PySem.SeqAt
open AutoSeq1 (wpAny_loadPart')
open MeetsSeq MeetsSeq2 MeetsSeq3 SeqRoads2
section
variable {prog : Program} {w : World} {A : Around} {E : Value → Shared → Prop} {s : Shared}
end
end Dn
namespace Dn
open PySem PySem.Spec PyProof.Rows L2 Br
structure TupFun (K : PySem.W.Frag) (H : Hp) : Prop where
  fn : ∀ p xs ys, SqT K H p xs → SqT K H p ys → xs = ys
  no : ∀ p C dx fs xs, H p = some (.ins C dx fs) → SqT K H p xs → False
section
variable {X : Cx} {C : Addr} {sp : Sp} {k : Nat}
end
mutual
def D.tt : D → Bool
  | .non => true
  | .bl _ => true
  | .int _ => true
  | .str _ => true
  | .lst _ => false
  | .tup xs => D.ttL xs
  | .obj _ _ => false
  | .exc _ _ => false
  | .dct _ => false
  | .pen => false
  | .scr _ => false
  | .fn _ _ _ => false
def D.ttL : List D → Bool
  | [] => true
  | d :: ds => d.tt && D.ttL ds
end
def ttF : List (Str × D) → Bool
  | [] => true
  | (_, d) :: ds => d.tt && ttF ds
section
variable {g : G} {H : Hp}
mutual
theorem Dv.inj (tf : TupFun g.K H) : ∀ {d d' : D} {v : V}, Dv g H v d → Dv g H v d' → d.tt = true → d'.tt = true → d = d'
  | .non, d', _, .non, k, _, t => by cases k with | non => rfl
  | .bl b, d', _, .bl _, k, _, t => by cases k with | bl => rfl
  | .int b, d', _, .int _, k, _, t => by cases k with | int => rfl
  | .str b, d', _, .str _, k, _, t => by cases k with | str => rfl
  | .tup xs, d', _, .tup ha a, k, t, t' => by
    cases k with
    | tup hb b =>
      have e := tf.fn _ _ _ ha hb
      subst e
      rw [DvAll.inj tf a b t t']
    | lst _ _ => cases t'
    | obj _ _ _ => cases t'
    | exc _ _ _ _ => cases t'
    | dct _ _ => cases t'
    | pen => cases t'
    | scr _ => cases t'
    | fn _ _ _ => cases t'
  | .lst _, _, _, _, _, t, _ => by cases t
  | .obj _ _, _, _, _, _, t, _ => by cases t
  | .exc _ _, _, _, _, _, t, _ => by cases t
  | .dct _, _, _, _, _, t, _ => by cases t
  | .pen, _, _, _, _, t, _ => by cases t
  | .scr _, _, _, _, _, t, _ => by cases t
  | .fn _ _ _, _, _, _, _, t, _ => by cases t
theorem DvAll.inj (tf : TupFun g.K H) : ∀ {ds ds' : List D} {vs : List V}, DvAll g H vs ds → DvAll g H vs ds' → D.ttL ds = true → D.ttL ds' = true → ds = ds'
  | [], _, _, .nil, k, _, _ => by cases k; rfl
  | d :: ds, _, _, .cons a b, k, t, t' => by
    cases k with
    | cons a' b' =>
      unfold D.ttL at t t'
      rw [Bool.and_eq_true] at t t'
      rw [Dv.inj tf a a' t.1 t'.1, DvAll.inj tf b b' t.2 t'.2]
end
theorem DvF.inj (tf : TupFun g.K H) : ∀ {fs gs : List (Str × D)} {vs : List (Str × V)}, DvF g H vs fs → DvF g H vs gs → ttF fs = true → ttF gs = true → fs = gs
  | [], _, _, .nil, k, _, _ => by cases k; rfl
  | (f, d) :: ds, _, _, .cons a b, k, t, t' => by
    cases k with
    | cons a' b' =>
      unfold ttF at t t'
      rw [Bool.and_eq_true] at t t'
      rw [Dv.inj tf a a' t.1 t'.1, DvF.inj tf b b' t.2 t'.2]
end
section
variable {X : Cx} {Z : Zx} {C : Addr} {k : Nat} {a b : Expr} {da db : DE} {pos : Pos} {kn : Kn} {c : Str} {U : List D → M D}
variable (o : OkE X.prog X.w X.K X.mg X.base k C (spU X.K X.mg kn U)) (hmC : X.mg c = some (.ref C)) (hr : Room (k + 1) X.A) (zk : Z.g.K = X.K) (zm : Z.g.mg = X.mg) (zn : Z.g.kn = kn) (ha : PE X a (lift Z da)) (hb : PE X b (lift Z db))
include o hmC hr zk zm zn ha hb
end
section
variable {X : Cx} {Z : Zx} {e : Expr} {es ns : List Expr} {ra : DA} {x1 : Nat} {p pos pos2 ip apos cpos epos tpos : Pos} {x : Str} {is : List Nat} {i : Nat}
end
section
variable {X : Cx} {Z : Zx} {a b : Expr} {oa ob : DO} {es : List Expr} {kt k2 : Nat} {p pt2 pos : Pos} {i j : Nat} {K : PySem.W.Frag}
end
section
variable {X : Cx} {g : G}
end
end Dn
namespace L2
open PySem PySem.Spec PyProof.Rows
abbrev dcx (kx vx t0 i0 t1 i1 : Expr) (c0 c1 : List Expr) (sc : Scope) (po : Pos) : Expr := .DictComp kx vx [⟨t0, i0, c0, 0⟩, ⟨t1, i1, c1, 0⟩] sc po
def dcEmit (kx vx : Expr) (D : Addr) (env : Env) : Sem Unit := do
  let kv ← eval kx env
  let vv ← holding [kv] (eval vx env)
  standAt { kx.pos with endLine := vx.pos.endLine, endCol := vx.pos.endCol }
  holding [kv, vv] (dictSet D kv vv)
section
variable {kx vx t0 i0 t1 i1 : Expr} {c0 c1 : List Expr} {sc : Scope} {po : Pos} {it acc : Value} {env : Env} {D : Addr}
theorem dcx_turn0 : compTurn (dcx kx vx t0 i0 t1 i1 c0 c1 sc po) 0 it acc env = (do
    standAt i0.pos
    match ← pyNext it with
    | none => pure (.done .next)
    | some v =>
      letOwnedTupleGo t0 it v
      assign t0 env v
      let mut ok := true
      for c in c0 do
        if ok then ok ← isTrue c env (eval c env)
      if ok then
        let x ← eval i1 env
        standAt i1.pos
        let x ← foldedSetIterable i1 env x
        let _ ← runOwn (.compStart (dcx kx vx t0 i0 t1 i1 c0 c1 sc po) 1 (← holding [x] (pyIter x)) acc env) env
      again (.compLoop (dcx kx vx t0 i0 t1 i1 c0 c1 sc po) 0 it acc env)) := by rfl
theorem dcx_turn1 : compTurn (dcx kx vx t0 i0 t1 i1 c0 c1 sc po) 1 it (.ref D) env = (do
    standAt i1.pos
    match ← pyNext it with
    | none => pure (.done .next)
    | some v =>
      letOwnedTupleGo t1 it v
      assign t1 env v
      let mut ok := true
      for c in c1 do
        if ok then ok ← isTrue c env (eval c env)
      if ok then dcEmit kx vx D env
      again (.compLoop (dcx kx vx t0 i0 t1 i1 c0 c1 sc po) 1 it (.ref D) env)) := by rfl
variable {prog : Program} {w : World} {A : Around} {R : Result → Shared → Prop} {s : Shared}
abbrev Nb (prog : Program) (w : World) (A : Around) (env : Env) (R : Result → Shared → Prop) : Value → Shared → Prop := notedBy (model prog w) A env fun e s' => R (.error e) s'
abbrev clauseTests (cs : List Expr) (env : Env) : Sem Bool := forIn cs true fun c r => if r = true then do let ok ← isTrue c env (eval c env); pure (ForInStep.yield ok) else pure (ForInStep.yield r)
theorem dcx_loop0 (hs : ∀ x, foldedSetIterable i1 env x = pure x) (I : Nat → Shared → Prop)
    (turn : ∀ n s, I n s → wpAny (model prog w) A (pyNext it) (fun r sa => match r with
      | none => R (.ok .next) sa
      | some v => wpAny (model prog w) A (letOwnedTupleGo t0 it v) (fun _ sb => wpAny (model prog w) A (assign t0 env v) (fun _ sc' =>
          wpAny (model prog w) A (clauseTests c0 env) (fun ok sd => if ok = true then
              wpAny (model prog w) A (eval i1 env) (fun x se => wpAny (model prog w) A (pyIter x) (fun it1 sf =>
                codeAny (model prog w) A (.compStart (dcx kx vx t0 i0 t1 i1 c0 c1 sc po) 1 it1 acc env) (fun r s' => match r with
                  | .ok _ => ∃ m, m < n ∧ I m s'
                  | .error _ => False) sf) (Nb prog w A env R) se) (Nb prog w A env R) sd
            else ∃ m, m < n ∧ I m sd) (Nb prog w A env R) sc') (Nb prog w A env R) sb) (Nb prog w A env R) sa) (Nb prog w A env R) s)
    (n : Nat) (h : I n s) : codeAny (model prog w) A (.compLoop (dcx kx vx t0 i0 t1 i1 c0 c1 sc po) 0 it acc env) R s := by
  refine codeAny_loop rfl I (fun n s hI => ?_) n h
  show wpAny _ A ((compTurn (dcx kx vx t0 i0 t1 i1 c0 c1 sc po) 0 it acc env).onRaise (fun x => do noteFrame x env; theTreesLotGoes x)) _ _ s
  rw [dcx_turn0]
  refine wpAny_noted (wpAny_bind (wpAny_standAt (wpAny_bind (wpAny_mono (turn n s hI) (fun r sa ha => ?_) fun _ _ z => z))))
  cases r with
  | none => exact wpAny_pure ha
  | some v =>
    refine wpAny_bind (wpAny_mono ha (fun _ sb hb => wpAny_bind (wpAny_mono hb (fun _ sc' hc => wpAny_bind (wpAny_mono hc (fun ok sd hd => ?_) fun _ _ z => z)) fun _ _ z => z)) fun _ _ z => z)
    cases ok with
    | false => exact wpAny_pure ⟨rfl, hd⟩
    | true =>
      refine wpAny_bind (wpAny_mono hd (fun x se he => wpAny_bind (wpAny_standAt (wpAny_bind (wpAny_of_eq (hs x) (wpAny_bind (wpAny_holding (wpAny_mono he (fun it1 sf hf => wpAny_bind (wpAny_runOwn ?_)) fun _ _ z => z))))))) fun _ _ z => z)
      rw [Around.mark_none]
      refine codeAny_mono hf fun r s' hr => ?_
      cases r with
      | ok f => first | exact wpAny_pure ⟨rfl, hr⟩ | exact wpAny_bind (wpAny_pure (wpAny_pure ⟨rfl, hr⟩))
      | error e => exact hr.elim
theorem dcx_loop1 (I : Nat → Shared → Prop)
    (turn : ∀ n s, I n s → wpAny (model prog w) A (pyNext it) (fun r sa => match r with
      | none => R (.ok .next) sa
      | some v => wpAny (model prog w) A (letOwnedTupleGo t1 it v) (fun _ sb => wpAny (model prog w) A (assign t1 env v) (fun _ sc' =>
          wpAny (model prog w) A (clauseTests c1 env) (fun ok sd => if ok = true then wpAny (model prog w) A (dcEmit kx vx D env) (fun _ se => ∃ m, m < n ∧ I m se) (Nb prog w A env R) sd
            else ∃ m, m < n ∧ I m sd) (Nb prog w A env R) sc') (Nb prog w A env R) sb) (Nb prog w A env R) sa) (Nb prog w A env R) s)
    (n : Nat) (h : I n s) : codeAny (model prog w) A (.compLoop (dcx kx vx t0 i0 t1 i1 c0 c1 sc po) 1 it (.ref D) env) R s := by
  refine codeAny_loop rfl I (fun n s hI => ?_) n h
  show wpAny _ A ((compTurn (dcx kx vx t0 i0 t1 i1 c0 c1 sc po) 1 it (.ref D) env).onRaise (fun x => do noteFrame x env; theTreesLotGoes x)) _ _ s
  rw [dcx_turn1]
  refine wpAny_noted (wpAny_bind (wpAny_standAt (wpAny_bind (wpAny_mono (turn n s hI) (fun r sa ha => ?_) fun _ _ z => z))))
  cases r with
  | none => exact wpAny_pure ha
  | some v =>
    refine wpAny_bind (wpAny_mono ha (fun _ sb hb => wpAny_bind (wpAny_mono hb (fun _ sc' hc => wpAny_bind (wpAny_mono hc (fun ok sd hd => ?_) fun _ _ z => z)) fun _ _ z => z)) fun _ _ z => z)
    cases ok with
    | false => exact wpAny_pure ⟨rfl, hd⟩
    | true => exact wpAny_bind (wpAny_mono hd (fun _ se he => wpAny_pure ⟨rfl, he⟩) fun _ _ z => z)
theorem dcx_start1 (h0 : codeAny (model prog w) A (.compLoop (dcx kx vx t0 i0 t1 i1 c0 c1 sc po) 1 it acc env) R s)
    (h : wpAny (model prog w) A (pyIter it) (fun it' s' => codeAny (model prog w) A (.compLoop (dcx kx vx t0 i0 t1 i1 c0 c1 sc po) 1 it' acc env) R s') (Nb prog w A env R) s) :
    codeAny (model prog w) A (.compStart (dcx kx vx t0 i0 t1 i1 c0 c1 sc po) 1 it acc env) R s := by
  refine codeAny_of_tree ?_
  show wpAny _ _ ((compStart (dcx kx vx t0 i0 t1 i1 c0 c1 sc po) 1 it acc env).onRaise (fun x => do noteFrame x env; standAt theWindowsPlace)) _ _ s
  refine wpAny_notedAt ?_
  unfold compStart
  show wpAny _ _ (ask >>= _) _ _ s
  refine wpAny_bind (wpAny_askSetting (wpAny_ite ?_))
  split
  · first | exact wpAny_bind (wpAny_pure (wpAny_pure ⟨rfl, h0⟩)) | exact wpAny_pure ⟨rfl, h0⟩
  · refine wpAny_bind (wpAny_rule ?_)
    show wpAny _ _ (standAt i1.pos >>= _) _ _ s
    exact wpAny_bind (wpAny_standAt (wpAny_bind (wpAny_mono h (fun it' s' h' => wpAny_pure ⟨rfl, h'⟩) fun _ _ z => z)))
theorem dcEmit_ok {E : Value → Shared → Prop} {Q : Shared → Prop} (h : wpAny (model prog w) A (eval kx env) (fun kv sa => wpAny (model prog w) A (eval vx env) (fun vv sb => wpAny (model prog w) A (dictSet D kv vv) (fun _ sc' => Q sc') E sb) E sa) E s) :
    wpAny (model prog w) A (dcEmit kx vx D env) (fun _ s' => Q s') E s := by
  unfold dcEmit
  exact wpAny_bind (wpAny_mono h (fun kv sa ha => wpAny_bind (wpAny_holding (wpAny_mono ha (fun vv sb hb => wpAny_bind (wpAny_standAt (wpAny_holding hb))) fun _ _ z => z))) fun _ _ z => z)
end
section
variable {X : Cx}
def tDcIn (wi1 : TI) (g1 : TG) (tt1 : TT) (tk tv : TE) (vs1 : List Nat) (D : Addr) (Nx : Hp → Prop) : L2.St → Hp → Prop := fun σ2 H3 => wi1 σ2 H3 fun J1 H4 => ∃ W1 : Nat → Nat → Hp → Prop, (∃ m, W1 0 m H4) ∧ ∀ j k H, W1 j k H →
  (J1.stop j H ∧ Nx H) ∨ (J1.go j H ∧ ∃ Nx1 : Hp → Prop, (∀ H', Nx1 H' → ∃ k', k' < k ∧ W1 (j + 1) k' H') ∧ ∀ x H', J1.yld j H x H' → g1 x (wipe σ2 vs1) H' fun σ3 H5 => wipe σ3 vs1 = wipe σ2 vs1 ∧ tt1 σ3 H5 fun b H6 =>
    if b = true then tk σ3 H6 fun y H7 => tv σ3 H7 fun z H8 => ∃ kvs k, y = kV k ∧ H8 D = some (.dK kvs) ∧ kvs.length < sizeLine ∧ Nx1 (upd H8 D (.dK (putK kvs k z))) else Nx1 H6)
def tDc2 (wi : TI) (g : TG) (tt : TT) (wi1 : TI) (g1 : TG) (tt1 : TT) (tk tv : TE) (vs vs1 : List Nat) : TE := fun σ H Q => wi σ H fun J H1 => ∀ D, H1 D = none → ∃ W : Nat → Nat → Hp → Prop, (∃ m, W 0 m (upd H1 D (.dK []))) ∧ ∀ i m H, W i m H →
  (J.stop i H ∧ Q (.ref D) H) ∨ (J.go i H ∧ ∃ Nx : Hp → Prop, (∀ H', Nx H' → ∃ m', m' < m ∧ W (i + 1) m' H') ∧ ∀ x H', J.yld i H x H' → g x (wipe σ vs) H' fun σ2 H2 => wipe σ2 vs = wipe σ vs ∧ tt σ2 H2 fun b H3 =>
    if b = true then tDcIn wi1 g1 tt1 tk tv vs1 D Nx σ2 H3 else Nx H3)
abbrev InBlk (X : Cx) (sc : Scope) (p : Cx → Prop) : Prop := ∀ (s : Shared) (H : Hp) (C : Addr) (cl : List (Str × Addr)) (fp : List Addr), p (X.blk s H sc (compEnvC sc cl C X.env) fp)
theorem dcx_core {pins : List (Addr × Obj)} {s : Shared} {σ : L2.St} {H : Hp} {Q : VK} {kx vx t0 i0 t1 i1 : Expr} {c0 c1 : List Expr} {sc : Scope} {own : List (Str × Nat)} {vs1 : List Nat} {po pos' : Pos} {wi wi1 : TI} {g g1 : TG} {tt tt1 : TT} {tk tv : TE} {use : Option (Value → Sem Unit)} {Qf : Value → Shared → Prop}
    (hc : X.calm = true) (hN : X.N.Nodup) (I : Inv X pins σ H s) (hi : PI X t0 i0 wi) (ok : BlkOk X.N X.env.scope sc own) (hv : ∀ i ∈ vs1, i ∈ own.map (·.2))
    (hg : InBlk X sc fun Y => PG Y t0 g) (ht : InBlk X sc fun Y => PTs Y c0 tt) (hk : InBlk X sc fun Y => PE Y kx tk) (he : InBlk X sc fun Y => PE Y vx tv) (hs : ∀ x, foldedSetIterable i0 X.env x = pure x)
    (hi1 : InBlk X sc fun Y => PI Y t1 i1 wi1) (hg1 : InBlk X sc fun Y => PG Y t1 g1) (ht1 : InBlk X sc fun Y => PTs Y c1 tt1) (hs1 : ∀ env x, foldedSetIterable i1 env x = pure x)
    (h : tDc2 wi g tt wi1 g1 tt1 tk tv (own.map (·.2)) vs1 σ H Q)
    (done : ∀ D C s' m H', Inv X pins σ H' s' → Q (.ref D) H' → s'.heap.Ns C m → FpOk X pins H' C → compPost (model X.prog X.w) X.A X.xe use Qf (.ref D) C (.ok .next) s') :
    wpAny (model X.prog X.w) X.A (comprehension (dcx kx vx t0 i0 t1 i1 c0 c1 sc po) sc X.env pos' newDict false (eval i0 X.env) use) Qf X.xe s := by
  have free : ∀ y ∈ sc.names, y.2 = .free → ∃ c, X.env.cells.lookup y.1 = some c := fun y hy e => (ok.free y hy e).elim (fun k => I.ok.has _ (.inl k)) fun k => I.ok.has _ (.inr k)
  refine wpAny_comprehension_free (use := use) rfl hs (closure_ok free) ok.kind (fun y hy e => by rw [ok.uniq y hy, e]) (thn (hi.run pins s σ H _ I h) fun xv s1 hx => thn hx fun itv s2 h2 => ?_)
  obtain ⟨it, fp, tn, J, H2, rfl, I2, T, st2, f2, q⟩ := h2
  refine wpAny_newObj_type (newEnv_comp ?_)
  generalize hD : s2.heap.objs.size = D
  have hDn : H2 D = none := I2.hok.fresh (Nat.le_of_eq hD)
  obtain ⟨W, ⟨m0, w0⟩, turn⟩ := q D hDn
  generalize es3 : ({ s2 with heap := s2.heap.push { cls := .type "dict", data := .dict #[] } } : Shared) = s3
  have I3 : Inv X pins σ (upd H2 D (.dK [])) s3 := by
    subst es3
    exact I2.laid (t' := s2.toks) (fun b o e => Heap.get?_push_of_some _ e) (Nat.le_of_eq hD) (by rw [← hD]; exact dk_empty s2.heap I2.big)
  have h3 : s3.heap = s2.heap.push { cls := .type "dict", data := .dict #[] } := by rw [← es3]
  have f3 : ∀ b ∈ fp, FpOk X pins (upd H2 D (.dK [])) b ∧ b < s3.heap.objs.size := fun b hb => by
    have hlt : b < s2.heap.objs.size := let ⟨_, e, _⟩ := T.obj _ _ st2 b hb; Heap.lt_size e
    exact ⟨⟨by rw [upd_ne (by rw [← hD]; exact Nat.ne_of_lt hlt)]; exact (f2 b hb).1, (f2 b hb).2⟩, by rw [h3, Heap.size_push]; exact Nat.lt_succ_of_lt hlt⟩
  have st3 : tn 0 s3.heap := T.keep _ _ _ st2 fun b _ o e => by rw [h3]; exact Heap.get?_push_of_some _ e
  have I4 := block_start I3 ok hN f3
  generalize ecl : cellsFrom (s3.heap.objs.size + 1) sc.names (cloFrom X.env.cells sc.names []) = cl at I4
  have pg := hg s3 (upd H2 D (.dK [])) s3.heap.objs.size cl fp
  have pt := ht s3 (upd H2 D (.dK [])) s3.heap.objs.size cl fp
  have pk := hk s3 (upd H2 D (.dK [])) s3.heap.objs.size cl fp
  have pe := he s3 (upd H2 D (.dK [])) s3.heap.objs.size cl fp
  have pi1 := hi1 s3 (upd H2 D (.dK [])) s3.heap.objs.size cl fp
  have pg1 := hg1 s3 (upd H2 D (.dK [])) s3.heap.objs.size cl fp
  have pt1 := ht1 s3 (upd H2 D (.dK [])) s3.heap.objs.size cl fp
  show codeAny _ _ (.compStart (dcx kx vx t0 i0 t1 i1 c0 c1 sc po) 0 (.ref it) (.ref D) (compEnvC sc cl s3.heap.objs.size X.env)) (compPost (model X.prog X.w) X.A X.xe use Qf (.ref D) s3.heap.objs.size) { s3 with heap := pushCells (s3.heap.push { cls := .type "dict", data := .dict #[] }) sc.names }
  have nfp : ∀ b ∈ fp, (upd H2 D (.dK [])) b = none := fun b hb => (f3 b hb).1.1
  generalize ece : compEnvC sc cl s3.heap.objs.size X.env = ce at I4 pg pt pk pe pi1 pg1 pt1 ⊢
  have cL : ce.locals = s3.heap.objs.size := by subst ece; rfl
  generalize eH3 : upd H2 D (.dK []) = H3 at I3 I4 pg pt pk pe pi1 pg1 pt1 w0 nfp f3
  generalize es4 : ({ s3 with heap := pushCells (s3.heap.push { cls := .type "dict", data := .dict #[] }) sc.names } : Shared) = s4 at I4 ⊢
  have st4 : tn 0 s4.heap := T.keep _ _ _ st3 fun b _ o e => by rw [← es4]; exact pushCells_keeps _ _ _ _ (Heap.get?_push_of_some _ e)
  have stat : ∀ {σ' : L2.St} {H' : Hp} {s' : Shared}, Inv (X.blk s3 H3 sc ce fp) [] σ' H' s' → (∀ b ∈ fp, H' b = none) → ∀ b ∈ fp, FpOk (X.blk s3 H3 sc ce fp) [] H' b := fun I' hn b hb =>
    ⟨hn b hb, (I'.ok.exf b hb).1, I'.ok.exfs b hb, .inl hb, fun x c e => (I'.ok.exf b hb).2 x c e, fun p hp => absurd (show p ∈ ([] : List (Addr × Obj)) ++ [] from hp) (by simp)⟩
  have loop : codeAny (model X.prog X.w) X.A (.compLoop (dcx kx vx t0 i0 t1 i1 c0 c1 sc po) 0 (.ref it) (.ref D) ce) (compPost (model X.prog X.w) X.A X.xe use Qf (.ref D) s3.heap.objs.size) s4 := by
    refine dcx_loop0 (hs1 ce) (fun n s' => ∃ i H', Inv (X.blk s3 H3 sc ce fp) [] (wipe σ (own.map (·.2))) H' s' ∧ tn i s'.heap ∧ (∀ b ∈ fp, H' b = none) ∧ W i n H') ?_ m0 ⟨0, H3, I4, st4, nfp, w0⟩
    rintro n s5 ⟨i, H5, I5, st5, n5, w5⟩
    rcases turn i n H5 w5 with ⟨stop, qq⟩ | ⟨go, Nx, hNx, step⟩
    · refine thnF (T.done (X.blk s3 H3 sc ce fp) rfl rfl rfl hc i [] s5 _ H5 (fun _ _ => False) I5 (stat I5 n5) st5 stop) fun r s6 ⟨hr, I6⟩ => ?_
      subst hr
      have I7 : Inv X pins σ H5 s6 := I3.call' (ch := fp) I6.os I6.base I6.hok I6.bare fun b hb => ⟨(f3 b hb).1.2.2.2.1, (f3 b hb).1.2.1, (f3 b hb).1.2.2.2.2.1, (f3 b hb).1.2.2.2.2.2⟩
      have nC : H5 s3.heap.objs.size = none := by rw [← cL]; exact I6.free
      obtain ⟨m, hn, _⟩ := I6.loc
      exact done D s3.heap.objs.size s6 m H5 I7 qq (cL ▸ hn) (I3.fpOk (Nat.le_refl _) nC)
    · refine thnF (T.item (X.blk s3 H3 sc ce fp) rfl rfl rfl hc i [] s5 _ H5 (fun _ _ => False) I5 (stat I5 n5) st5 go) fun r s6 ⟨u, hr, h6⟩ => ?_
      subst hr
      refine thnF h6 fun _ s7 ⟨x, H7, I7, r7, y7, st7, n7⟩ => ?_
      refine thnF (pg.run _ s7 _ H7 x u _ (I7.pinned (stat I7 n7) (T.obj _ _ st7)) r7 (step x H7 y7)) fun _ s8 ⟨σ8, H8, I8, hw8, q8⟩ => thnF (pt.run _ s8 σ8 H8 _ I8 q8) fun b s9 ⟨H9, I9, q9⟩ => ?_
      have fin : ∀ {σ9 : L2.St} {s' : Shared} {H' : Hp}, Inv (X.blk s3 H3 sc ce fp) ([] ++ pinsAt fp s7.heap) σ9 H' s' → (wipe σ (own.map (·.2))).length = σ9.length → (∀ (j : Nat) v, (wipe σ (own.map (·.2)))[j]? = some (some v) → σ9[j]? = some (some v)) → Nx H' →
          ∃ m, m < n ∧ ∃ i H', Inv (X.blk s3 H3 sc ce fp) [] (wipe σ (own.map (·.2))) H' s' ∧ tn i s'.heap ∧ (∀ b ∈ fp, H' b = none) ∧ W i m H' := fun {σ9 s' H'} I' hl hk nx => by
        obtain ⟨m', hm, w'⟩ := hNx H' nx
        have pin' : ∀ b ∈ fp, ∀ o, s7.heap.get? b = some o → s'.heap.get? b = some o ∧ H' b = none := fun b hb o e =>
          let z := I'.pin (b, o) (List.mem_append_right _ (List.mem_append_right _ (mem_pinsAt hb e)))
          ⟨z.1, z.2.1⟩
        exact ⟨m', hm, i + 1, H', (I'.unpinned (pins := [])).weak hl hk, T.keep _ _ _ st7 fun b hb o e => (pin' b hb o e).1, fun b hb => let ⟨o, e, _⟩ := T.obj _ _ st7 b hb; (pin' b hb o e).2, w'⟩
      have hl8 : (wipe σ (own.map (·.2))).length = σ8.length := by rw [← hw8, wipe_length]
      have hk8 : ∀ (j : Nat) v, (wipe σ (own.map (·.2)))[j]? = some (some v) → σ8[j]? = some (some v) := fun j v e => (wipe_some (hw8 ▸ e)).1
      have hk9 : ∀ (j : Nat) v, (wipe σ (own.map (·.2)))[j]? = some (some v) → (wipe σ8 vs1)[j]? = some (some v) := fun j v e => by
        obtain ⟨e1, e2⟩ := wipe_some (hw8 ▸ e)
        rw [wipe_out fun z => e2 (hv j z)]
        exact e1
      cases b with
      | false =>
        rw [if_neg Bool.false_ne_true] at q9 ⊢
        exact fin I9 hl8 hk8 q9
      | true =>
        rw [if_pos rfl] at q9 ⊢
        refine thnF (pi1.run _ s9 σ8 H9 _ I9 q9) fun xv s10 hx => thnF hx fun itv s11 h11 => ?_
        obtain ⟨it1, fp1, tn1, J1, H11, rfl, I11, T1, st11, f11, W1, ⟨m1, w1⟩, turn1⟩ := h11
        have stat1 : ∀ {H' : Hp}, (∀ b ∈ fp1, H' b = none) → ∀ b ∈ fp1, FpOk (X.blk s3 H3 sc ce fp) ([] ++ pinsAt fp s7.heap) H' b := fun hn b hb => ⟨hn b hb, (f11 b hb).2⟩
        have inner : codeAny (model X.prog X.w) X.A (.compLoop (dcx kx vx t0 i0 t1 i1 c0 c1 sc po) 1 (.ref it1) (.ref D) ce) (fun r s' => match r with
            | .ok _ => ∃ m, m < n ∧ ∃ i H', Inv (X.blk s3 H3 sc ce fp) [] (wipe σ (own.map (·.2))) H' s' ∧ tn i s'.heap ∧ (∀ b ∈ fp, H' b = none) ∧ W i m H'
            | .error _ => False) s11 := by
          refine dcx_loop1 (fun k s' => ∃ j H', Inv (X.blk s3 H3 sc ce fp) ([] ++ pinsAt fp s7.heap) (wipe σ8 vs1) H' s' ∧ tn1 j s'.heap ∧ (∀ b ∈ fp1, H' b = none) ∧ W1 j k H') ?_ m1 ⟨0, H11, I11.weak (wipe_length _ _) (fun j v e => (wipe_some e).1), st11, fun b hb => (f11 b hb).1, w1⟩
          rintro k s12 ⟨j, H12, I12, st12, n12, w12⟩
          rcases turn1 j k H12 w12 with ⟨stop1, nx1⟩ | ⟨go1, Nx1, hNx1, step1⟩
          · refine thnF (T1.done (X.blk s3 H3 sc ce fp) rfl rfl rfl hc j _ s12 (wipe σ8 vs1) H12 (fun _ _ => False) I12 (stat1 n12) st12 stop1) fun r s13 ⟨hr, I13⟩ => ?_
            subst hr
            exact fin I13 (hl8.trans (wipe_length σ8 vs1).symm) hk9 nx1
          · refine thnF (T1.item (X.blk s3 H3 sc ce fp) rfl rfl rfl hc j _ s12 (wipe σ8 vs1) H12 (fun _ _ => False) I12 (stat1 n12) st12 go1) fun r s13 ⟨u1, hr, h13⟩ => ?_
            subst hr
            refine thnF h13 fun _ s14 ⟨x1, H14, I14, r14, y14, st14, n14⟩ => ?_
            refine thnF (pg1.run _ s14 (wipe σ8 vs1) H14 x1 u1 _ (I14.pinned (stat1 n14) (T1.obj _ _ st14)) r14 (step1 x1 H14 y14)) fun _ s15 ⟨σ15, H15, I15, hw15, q15⟩ => thnF (pt1.run _ s15 σ15 H15 _ I15 q15) fun b1 s16 ⟨H16, I16, q16⟩ => ?_
            have fin1 : ∀ {s' : Shared} {H' : Hp}, Inv (X.blk s3 H3 sc ce fp) (([] ++ pinsAt fp s7.heap) ++ pinsAt fp1 s14.heap) σ15 H' s' → Nx1 H' → ∃ m, m < k ∧ ∃ j H', Inv (X.blk s3 H3 sc ce fp) ([] ++ pinsAt fp s7.heap) (wipe σ8 vs1) H' s' ∧ tn1 j s'.heap ∧ (∀ b ∈ fp1, H' b = none) ∧ W1 j m H' := fun {s' H'} I' nx => by
              obtain ⟨m', hm, w'⟩ := hNx1 H' nx
              have pin' : ∀ b ∈ fp1, ∀ o, s14.heap.get? b = some o → s'.heap.get? b = some o ∧ H' b = none := fun b hb o e =>
                let z := I'.pin (b, o) (List.mem_append_right _ (List.mem_append_right _ (mem_pinsAt hb e)))
                ⟨z.1, z.2.1⟩
              exact ⟨m', hm, j + 1, H', I'.unpinned.weak (by rw [← hw15, wipe_length]) (fun j v e => (wipe_some (hw15 ▸ e)).1), T1.keep _ _ _ st14 fun b hb o e => (pin' b hb o e).1, fun b hb => let ⟨o, e, _⟩ := T1.obj _ _ st14 b hb; (pin' b hb o e).2, w'⟩
            cases b1 with
            | false =>
              rw [if_neg Bool.false_ne_true] at q16 ⊢
              exact fin1 I16 q16
            | true =>
              rw [if_pos rfl] at q16 ⊢
              refine dcEmit_ok (thnF (pk.run _ s16 σ15 H16 _ I16 q16) fun z s17 ⟨yk, H17, I17, r17, q17⟩ => thnF (pe.run _ s17 σ15 H17 _ I17 q17) fun z2 s18 ⟨yv, H18, I18, r18, kvs, k', ek, hD18, hz18, nx⟩ => ?_)
              subst ek
              exact d_dictSet (X := X.blk s3 H3 sc ce fp) I18 hD18 hz18 r17 r18 fun s19 I19 => fin1 I19 nx
        exact dcx_start1 inner (T1.self X.A 0 _ _ _ st11 inner)
  exact codeAny_compStart_dict loop (T.self X.A 0 _ _ _ st4 loop)
theorem pe_dcx {kx vx t0 i0 t1 i1 : Expr} {c0 c1 : List Expr} {sc : Scope} {own : List (Str × Nat)} {vs1 : List Nat} {po : Pos} {wi wi1 : TI} {g g1 : TG} {tt tt1 : TT} {tk tv : TE}
    (hc : X.calm = true) (hN : X.N.Nodup) (hi : PI X t0 i0 wi) (ok : BlkOk X.N X.env.scope sc own) (hv : ∀ i ∈ vs1, i ∈ own.map (·.2))
    (hg : InBlk X sc fun Y => PG Y t0 g) (ht : InBlk X sc fun Y => PTs Y c0 tt) (hi1 : InBlk X sc fun Y => PI Y t1 i1 wi1) (hg1 : InBlk X sc fun Y => PG Y t1 g1) (ht1 : InBlk X sc fun Y => PTs Y c1 tt1) (hk : InBlk X sc fun Y => PE Y kx tk) (he : InBlk X sc fun Y => PE Y vx tv)
    (hs : ∀ x, foldedSetIterable i0 X.env x = pure x := by intro _; rfl) (hs1 : ∀ env x, foldedSetIterable i1 env x = pure x := by intro _ _; rfl) :
    PE X (.DictComp kx vx [⟨t0, i0, c0, 0⟩, ⟨t1, i1, c1, 0⟩] sc po) (tDc2 wi g tt wi1 g1 tt1 tk tv (own.map (·.2)) vs1) := by
  refine ⟨fun pins s σ H Q I h => ?_⟩
  rw [arm_eval_DictComp]
  refine dcx_core hc hN I hi ok hv hg ht hk he hs hi1 hg1 ht1 hs1 h fun D C s' m H' I' q hn f => ⟨m, hn, fun h'' sb => ?_⟩
  obtain ⟨f0, f1, f2, f3, f4, f5⟩ := f
  exact ⟨.ref D, H', I'.turned (t' := s'.toks) (fun b o hb e => (sb.2 b hb).trans e) f0 f1 f3 f4 f5, rfl, q⟩
end
variable {J : It} {n : Nat} {G : Hp → Prop} {Y : Nat → Hp → V → Hp → Prop}
theorem dcin_it (w : Walk J n G Y) {g : TG} {tt : TT} {tk tv : TE} {vs : List Nat} {σ : L2.St} {H1 : Hp} {D : Addr} {Qd : Hp → Prop} (Pv : Nat → Hp → Prop) (h0 : Pv 0 H1) (hG : ∀ i H, i ≤ n → Pv i H → G H)
    (hs : ∀ i x H H', i < n → Pv i H → Y i H x H' → g x (wipe σ vs) H' fun σ2 H2 => wipe σ2 vs = wipe σ vs ∧ tt σ2 H2 fun b H3 =>
      if b = true then tk σ2 H3 fun y H4 => tv σ2 H4 fun z H5 => ∃ kvs k, y = kV k ∧ H5 D = some (.dK kvs) ∧ kvs.length < sizeLine ∧ Pv (i + 1) (upd H5 D (.dK (putK kvs k z))) else Pv (i + 1) H3) (hd : ∀ H, Pv n H → Qd H) :
    ∃ W : Nat → Nat → Hp → Prop, (∃ m, W 0 m H1) ∧ ∀ i m H, W i m H →
      (J.stop i H ∧ Qd H) ∨ (J.go i H ∧ ∃ Nx : Hp → Prop, (∀ H', Nx H' → ∃ m', m' < m ∧ W (i + 1) m' H') ∧ ∀ x H', J.yld i H x H' → g x (wipe σ vs) H' fun σ2 H2 => wipe σ2 vs = wipe σ vs ∧ tt σ2 H2 fun b H3 =>
        if b = true then tk σ2 H3 fun y H4 => tv σ2 H4 fun z H5 => ∃ kvs k, y = kV k ∧ H5 D = some (.dK kvs) ∧ kvs.length < sizeLine ∧ Nx (upd H5 D (.dK (putK kvs k z))) else Nx H3) := by
  refine ⟨fun i m H => m = n - i ∧ i ≤ n ∧ Pv i H, ⟨n, by simp, Nat.zero_le _, h0⟩, ?_⟩
  rintro i m H ⟨rfl, hi, p⟩
  have q := hG i H hi p
  by_cases hlt : i < n
  · refine .inr ⟨w.goes i H hlt q, Pv (i + 1), fun H' p' => ⟨n - (i + 1), by omega, rfl, hlt, p'⟩, fun x H' y => hs i x H H' hlt p (w.yields i H x H' hlt q y)⟩
  · have e : i = n := by omega
    subst e
    exact .inl ⟨w.stops H q, hd H p⟩
theorem dc2_it (w : Walk J n G Y) {g g1 : TG} {tt tt1 : TT} {wi1 : TI} {tk tv : TE} {vs vs1 : List Nat} {σ : L2.St} {H1 : Hp} {D : Addr} {Qd : Hp → Prop} (Pv : Nat → Hp → Prop) (h0 : Pv 0 (upd H1 D (.dK []))) (hG : ∀ i H, i ≤ n → Pv i H → G H)
    (hs : ∀ i x H H', i < n → Pv i H → Y i H x H' → g x (wipe σ vs) H' fun σ2 H2 => wipe σ2 vs = wipe σ vs ∧ tt σ2 H2 fun b H3 =>
      if b = true then tDcIn wi1 g1 tt1 tk tv vs1 D (Pv (i + 1)) σ2 H3 else Pv (i + 1) H3) (hd : ∀ H, Pv n H → Qd H) :
    ∃ W : Nat → Nat → Hp → Prop, (∃ m, W 0 m (upd H1 D (.dK []))) ∧ ∀ i m H, W i m H →
      (J.stop i H ∧ Qd H) ∨ (J.go i H ∧ ∃ Nx : Hp → Prop, (∀ H', Nx H' → ∃ m', m' < m ∧ W (i + 1) m' H') ∧ ∀ x H', J.yld i H x H' → g x (wipe σ vs) H' fun σ2 H2 => wipe σ2 vs = wipe σ vs ∧ tt σ2 H2 fun b H3 =>
        if b = true then tDcIn wi1 g1 tt1 tk tv vs1 D Nx σ2 H3 else Nx H3) := by
  refine ⟨fun i m H => m = n - i ∧ i ≤ n ∧ Pv i H, ⟨n, by simp, Nat.zero_le _, h0⟩, ?_⟩
  rintro i m H ⟨rfl, hi, p⟩
  have q := hG i H hi p
  by_cases hlt : i < n
  · refine .inr ⟨w.goes i H hlt q, Pv (i + 1), fun H' p' => ⟨n - (i + 1), by omega, rfl, hlt, p'⟩, fun x H' y => hs i x H H' hlt p (w.yields i H x H' hlt q y)⟩
  · have e : i = n := by omega
    subst e
    exact .inl ⟨w.stops H q, hd H p⟩
end L2
namespace Dn
open PySem PySem.Spec PyProof.Rows L2 Br LamX
variable {X : Cx} {Z : Zx}
theorem Rel.updK {g : G} {H0 Hv0 : Hp} {σ : L2.St} {H Hv : Hp} {δ : DS} {n : Nat} {D : Addr} {ws : List (Key × V)} {o : HO} (r : Rel g H0 Hv0 σ H Hv δ n) (no : noOw δ = true) (h0 : H0 D = none) (hv : Hv D = none) (np : D ≠ g.pd) (nc : D ≠ g.pc) (hD : H D = some (.dK ws)) : Rel g H0 Hv0 σ (upd H D o) Hv δ n := by
  refine ⟨⟨fun b o' nb eo => ?_, r.ext.see, fun b o' eo => ?_, r.ext.hid, r.ext.nt⟩, r.pen.upd np nc (Nat.le_refl _) hD, r.pd0, r.pc0, r.npd, r.len, fun i s hs => ?_, r.dist⟩
  · have : b ≠ D := fun z => by rw [z, h0] at eo; cases eo
    obtain ⟨u, w1, w2⟩ := r.ext.but _ _ nb eo
    exact ⟨u, (by rw [upd_ne this]; exact w1), w2⟩
  · have : b ≠ D := fun z => by rw [z, hv] at eo; cases eo
    rw [upd_ne this]; exact r.ext.sub _ _ eo
  · have q := noOw_at no hs
    have w := r.sl i s hs
    cases s with
    | sh d => exact w
    | _ => cases q
def dc2In (it1 : DA) (tg1 : Tg) (t1 k v : DE) (vs1 : List Nat) (δ : DS) (acc : List (Key × D)) (n : Nat) (P : List (Key × D) → Nat → Prop) : Prop := noOw δ = true ∧ it1 δ n (fun xs n' => xs.length ≤ 5000 ∧ dcGo tg1 t1 k v (wipeD δ vs1) xs acc n' P) (fun _ _ _ => False)
def dc2Go (tg : Tg) (t : DE) (inn : DS → List (Key × D) → Nat → (List (Key × D) → Nat → Prop) → Prop) (δ : DS) : List D → List (Key × D) → Nat → (List (Key × D) → Nat → Prop) → Prop
  | [], acc, n, P => P acc n
  | x :: xs, acc, n, P => ∃ δ', dTg tg x δ = some δ' ∧ t δ' n (fun b n1 => ∃ c, b = .bl c ∧ if c = true then inn δ' acc n1 (fun acc2 n2 => dc2Go tg t inn δ xs acc2 n2 P) else dc2Go tg t inn δ xs acc n1 P) (fun _ _ _ => False)
def dDc2 (it : DA) (tg : Tg) (t : DE) (it1 : DA) (tg1 : Tg) (t1 k v : DE) (vs vs1 : List Nat) : DE := fun δ n P E => it δ n (fun xs n' => xs.length ≤ 3000 ∧ dc2Go tg t (dc2In it1 tg1 t1 k v vs1) (wipeD δ vs) xs [] n' (fun ks n2 => P (.dct ks) n2)) E
theorem dc2_lift {it it1 : DA} {tg tg1 : Tg} {gg gg1 : TG} {dt dt1 dk dv' : DE} {tt tt1 : TT} {vs vs1 : List Nat} (hv : ∀ i ∈ tg.is, i ∈ vs) (hv1 : ∀ i ∈ tg1.is, i ∈ vs1) (ho : TgOk Z.calm tg gg) (ho1 : TgOk Z.calm tg1 gg1)
    (htt : ∀ σ H R, liftT Z.calm dt σ H R → tt σ H R) (htt1 : ∀ σ H R, liftT Z.calm dt1 σ H R → tt1 σ H R) {σ : L2.St} {H Hv : Hp} {δ : DS} {n : Nat} {P : List (Key × D) → Nat → Prop} {Q : VK} {E : XD}
    (r : Rel Z.g Z.H0 Z.Hv0 σ H Hv δ n) (h : it δ n (fun xs n' => xs.length ≤ 3000 ∧ dc2Go tg dt (dc2In it1 tg1 dt1 dk dv' vs1) (wipeD δ vs) xs [] n' P) E) (q : ∀ ys p ws H' Hv' n', P ys n' → Ext Z.g H Hv H' Hv' → Pn Z.g H' n' → H p = none → H' p = some (.dK ws) → Hv' p = none → DvK Z.g Hv' ws ys → Q (.ref p) H') (x : EOk Z.g H Hv E (fun c d H' => Z.W c d σ H')) :
    tDc2 (liftI Z it) gg tt (liftI Z.calm it1) gg1 tt1 (lift Z.calm dk) (lift Z.calm dv') vs vs1 σ H Q := by
  refine ⟨δ, Hv, n, _, E, r, h, (fun xs H1 Hv1 n1 J h1 e1 p1 wk => ?_), x⟩
  obtain ⟨hsz, h1⟩ := h1
  intro Dd hD
  obtain ⟨e2, hv2⟩ := ext_hid (g := Z.g) (o := .dK []) e1.sub hD
  have nD : H Dd = none := by
    cases z : H Dd with
    | none => rfl
    | some o =>
      by_cases ez : Dd = Z.g.pd
      · subst ez; exact absurd hD p1.pd
      · obtain ⟨_, w, _⟩ := e1.but _ _ ez z
        rw [w] at hD; cases hD
  have npd : Dd ≠ Z.g.pd := fun z => p1.pd (by rw [← z]; exact hD)
  have npc : Dd ≠ Z.g.pc := fun z => p1.pc (by rw [← z]; exact hD)
  have n0 : Z.H0 Dd = none := r.h0 nD
  have hdone : ∀ {Hv' : Hp} {H' : Hp} {ws : List (Key × V)}, Ext Z.g H1 Hv1 H' Hv' → H' Dd = some (.dK ws) → Hv' Dd = none → ∀ us : List (Key × V), Ext Z.g H1 Hv1 (upd H' Dd (.dK us)) Hv' := by
    intro Hv' H' ws a16 _ hvD6 us
    refine ⟨fun bb o nb eo => ?_, a16.see, fun bb o eo => ?_, a16.hid, a16.nt⟩
    · have : bb ≠ Dd := fun z => by rw [z, hD] at eo; cases eo
      obtain ⟨o', w1, w2⟩ := a16.but _ _ nb eo
      exact ⟨o', (by rw [upd_ne this]; exact w1), w2⟩
    · have : bb ≠ Dd := fun z => by rw [z, hvD6] at eo; cases eo
      rw [upd_ne this]; exact a16.sub _ _ eo
  refine dc2_it (wi1 := liftI Z.calm it1) (g1 := gg1) (tt1 := tt1) (tk := lift Z.calm dk) (tv := lift Z.calm dv') (vs1 := vs1) wk (fun i H' => ∃ Hv' n' acc ws, Ext Z.g H1 Hv1 H' Hv' ∧ Pn Z.g H' n' ∧ H' Dd = some (.dK ws) ∧ Hv' Dd = none ∧ DvK Z.g Hv' ws acc ∧ acc.length ≤ 5000 * i ∧ dc2Go tg dt (dc2In it1 tg1 dt1 dk dv' vs1) (wipeD δ vs) (xs.drop i) acc n' P) ?_ ?_ ?_ ?_
  · exact ⟨Hv1, n1, [], [], e2, p1.mono (same_new hD) (Nat.le_refl _), upd_same, hv2, .nil, Nat.zero_le _, h1⟩
  · rintro i H' _ ⟨Hv', n', acc, ws, a1, _⟩
    exact a1.see.trans a1.sub
  · rintro i v H2 H3 hi ⟨Hv2, n2, acc, ws, a1, a2, a3, a4, a5, al, a6⟩ y
    obtain ⟨d, Hv3, hd, e3, sm, k⟩ := y Hv2 a1.see a1.sub
    rw [drop_at hd] at a6
    obtain ⟨δ3, ht, g3⟩ := a6
    have p3 : Pn Z.g H3 n2 := a2.mono sm (Nat.le_refl _)
    have a13 := a1.trans (fun _ => a2.pd) e3
    have r3 : Rel Z.g Z.H0 Z.Hv0 (wipe σ vs) H3 Hv3 (wipeD δ vs) n2 := (wipe_rel (r.step e1 p1) vs).step a13 p3
    refine ho r3 k ht fun σ4 r4 w4 => ⟨by rw [w4 vs hv]; exact wipe_sub σ vs vs fun _ h => h, ?_⟩
    refine htt _ _ _ ⟨δ3, Hv3, n2, _, _, r4, g3, (fun b vb H5 Hv5 n5 h5 e5 p5 k5 => ?_), fun _ _ _ _ _ _ _ z => z.elim⟩
    obtain ⟨cb, rfl, h5⟩ := h5
    refine ⟨cb, dv_bl k5, ?_⟩
    show (if cb = true then _ else _)
    have hD3 : H3 Dd = some (.dK ws) := sm _ _ a3
    have hD5 : H5 Dd = some (.dK ws) := e5.at npd hD3 (fun _ z => by cases z)
    have hvD3 : Hv3 Dd = none := e3.hid _ a4 (by rw [a3]; simp)
    have hvD5 : Hv5 Dd = none := e5.hid _ hvD3 (by rw [hD3]; simp)
    have a15 := a13.trans (fun _ => p3.pd) e5
    have hil : i < xs.length := hi
    cases cb with
    | false =>
      rw [if_neg Bool.false_ne_true] at h5 ⊢
      exact ⟨Hv5, n5, acc, ws, a15, p5, hD5, hvD5, a5.mono (e3.see.trans e5.see), by omega, h5⟩
    | true =>
      rw [if_pos rfl] at h5 ⊢
      obtain ⟨no, h5⟩ := h5
      have r5 := r4.step e5 p5
      have a55 : DvK Z.g Hv5 ws acc := a5.mono (e3.see.trans e5.see)
      refine ⟨δ3, Hv5, n5, _, _, r5, h5, (fun xs1 H6 Hv6 n6 J1 h6 e6 p6 wk1 => ?_), fun _ _ _ _ _ _ _ z => z.elim⟩
      obtain ⟨hs1, h6⟩ := h6
      have hD6 : H6 Dd = some (.dK ws) := e6.at npd hD5 (fun _ z => by cases z)
      have hvD6 : Hv6 Dd = none := e6.hid _ hvD5 (by rw [hD5]; simp)
      have a16 := a15.trans (fun _ => p5.pd) e6
      refine dcin_it wk1 (fun j H' => ∃ Hv' n' acc1 ws1, Rel Z.g Z.H0 Z.Hv0 σ4 H' Hv' δ3 n' ∧ Same Hv6 Hv' ∧ Ext Z.g H1 Hv1 H' Hv' ∧ H' Dd = some (.dK ws1) ∧ Hv' Dd = none ∧ DvK Z.g Hv' ws1 acc1 ∧ acc1.length ≤ acc.length + j ∧ dcGo tg1 dt1 dk dv' (wipeD δ3 vs1) (xs1.drop j) acc1 n' (fun acc2 n2 => dc2Go tg dt (dc2In it1 tg1 dt1 dk dv' vs1) (wipeD δ vs) (xs.drop (i + 1)) acc2 n2 P)) ?_ ?_ ?_ ?_
      · exact ⟨Hv6, n6, acc, ws, r5.step e6 p6, .refl _, a16, hD6, hvD6, a55.mono e6.see, Nat.le_refl _, h6⟩
      · rintro j H' _ ⟨Hv', n', acc1, ws1, rr, ss, _⟩
        exact ss.trans rr.ext.sub
      · rintro j v1 H7 H8 hj ⟨Hv7, n7, acc1, ws1, b1, b2, b3, b4, b5, b6, bl, b7⟩ y1
        obtain ⟨d1, Hv8, hd1, e8, sm8, k8⟩ := y1 Hv7 b2 b1.ext.sub
        rw [drop_at hd1] at b7
        obtain ⟨δ8, ht8, g8⟩ := b7
        have p8 : Pn Z.g H8 n7 := b1.pen.mono sm8 (Nat.le_refl _)
        have b18 := b3.trans (fun _ => b1.pen.pd) e8
        have r8 := b1.step e8 p8
        refine ho1 (wipe_rel r8 vs1) k8 ht8 fun σ9 r9 w9 => ⟨by rw [w9 vs1 hv1]; exact wipe_sub σ4 vs1 vs1 fun _ h => h, ?_⟩
        refine htt1 _ _ _ ⟨δ8, Hv8, n7, _, _, r9, g8, (fun b vb H10 Hv10 n10 h10 e10 p10 k10 => ?_), fun _ _ _ _ _ _ _ z => z.elim⟩
        obtain ⟨cb, rfl, h10⟩ := h10
        refine ⟨cb, dv_bl k10, ?_⟩
        show (if cb = true then _ else _)
        have hD8 : H8 Dd = some (.dK ws1) := sm8 _ _ b4
        have hD10 : H10 Dd = some (.dK ws1) := e10.at npd hD8 (fun _ z => by cases z)
        have hvD8 : Hv8 Dd = none := e8.hid _ b5 (by rw [b4]; simp)
        have hvD10 : Hv10 Dd = none := e10.hid _ hvD8 (by rw [hD8]; simp)
        have b110 := b18.trans (fun _ => p8.pd) e10
        have r10 := r8.step e10 p10
        have s10 := (b2.trans e8.see).trans e10.see
        have b610 := b6.mono (e8.see.trans e10.see)
        have hjl : j < xs1.length := hj
        cases cb with
        | false =>
          rw [if_neg Bool.false_ne_true] at h10 ⊢
          exact ⟨Hv10, n10, acc1, ws1, r10, s10, b110, hD10, hvD10, b610, by omega, h10⟩
        | true =>
          rw [if_pos rfl] at h10 ⊢
          refine ⟨δ8, Hv10, n10, _, _, r9.step e10 p10, h10, (fun dy vy H11 Hv11 n11 h11 e11 p11 k11 => ?_), fun _ _ _ _ _ _ _ z => z.elim⟩
          have e1011 := e10.trans (fun _ => p10.pd) e11
          refine ⟨δ8, Hv11, n11, _, _, r9.step e1011 p11, h11, (fun dz vz H12 Hv12 n12 h12 e12 p12 k12 => ?_), fun _ _ _ _ _ _ _ z => z.elim⟩
          obtain ⟨kq, ek, h12⟩ := h12
          have hD11 : H11 Dd = some (.dK ws1) := e11.at npd hD10 (fun _ z => by cases z)
          have hvD11 : Hv11 Dd = none := e11.hid _ hvD10 (by rw [hD10]; simp)
          have hD12 : H12 Dd = some (.dK ws1) := e12.at npd hD11 (fun _ z => by cases z)
          have hvD12 : Hv12 Dd = none := e12.hid _ hvD11 (by rw [hD11]; simp)
          have b112 := (b110.trans (fun _ => p10.pd) e11).trans (fun _ => p11.pd) e12
          have b612 := (b610.mono e11.see).mono e12.see
          have pl := putKD_len acc1 kq dz
          refine ⟨ws1, kq, key_dv k11 ek, hD12, ?_, Hv12, n12, putKD acc1 kq dz, putK ws1 kq vz, ((r10.step e11 p11).step e12 p12).updK no n0 hvD12 npd npc hD12, (s10.trans e11.see).trans e12.see, hdone b112 hD12 hvD12 _, upd_same, hvD12, b612.put kq k12, by omega, h12⟩
          rw [b612.len]
          have e : sizeLine = 16777216 := by decide
          have : 5000 * i ≤ 5000 * 3000 := Nat.mul_le_mul_left _ (by omega)
          omega
      · rintro H' ⟨Hv', n', acc1, ws1, b1, b2, b3, b4, b5, b6, bl, b7⟩
        rw [List.drop_length] at b7
        have b7 : dc2Go tg dt (dc2In it1 tg1 dt1 dk dv' vs1) (wipeD δ vs) (xs.drop (i + 1)) acc1 n' P := b7
        exact ⟨Hv', n', acc1, ws1, b3, b1.pen, b4, b5, b6, by omega, b7⟩
  · rintro H' ⟨Hv', n', acc, ws, a1, a2, a3, a4, a5, _, a6⟩
    rw [List.drop_length] at a6
    have a6 : P acc n' := a6
    exact q acc Dd ws H' Hv' n' a6 (e1.trans (fun _ => p1.pd) a1) a2 nD a3 a4 a5
section
variable {kx vx tge iter tge1 iter1 : Expr} {ifs ifs1 : List Expr} {scope : Scope} {own : List (Str × Nat)} {vs1 : List Nat} {pos : Pos} {it it1 : DA} {tg tg1 : Tg} {gg gg1 : TG} {dt dt1 dk dv' : DE} {tt tt1 : TT}
theorem d_dc2 (hc : X.calm = true) (hN : X.N.Nodup) (hi : PI X tge iter (liftI Z it)) (ok : BlkOk X.N X.env.scope scope own) (hsub : ∀ i ∈ vs1, i ∈ own.map (·.2))
    (hg : InBlk X scope fun Y => PG Y tge gg) (ho : TgOk Z.calm tg gg) (ht : InBlk X scope fun Y => PTs Y ifs tt) (htt : ∀ σ H R, liftT Z.calm dt σ H R → tt σ H R)
    (hi1 : InBlk X scope fun Y => PI Y tge1 iter1 (liftI Z.calm it1))
    (hg1 : InBlk X scope fun Y => PG Y tge1 gg1) (ho1 : TgOk Z.calm tg1 gg1) (ht1 : InBlk X scope fun Y => PTs Y ifs1 tt1) (htt1 : ∀ σ H R, liftT Z.calm dt1 σ H R → tt1 σ H R)
    (hk : InBlk X scope fun Y => PE Y kx (lift Z.calm dk)) (he : InBlk X scope fun Y => PE Y vx (lift Z.calm dv')) (hv : ∀ i ∈ tg.is, i ∈ own.map (·.2)) (hv1 : ∀ i ∈ tg1.is, i ∈ vs1)
    (hs : ∀ x, foldedSetIterable iter X.env x = pure x := by intro _; rfl) (hs1 : ∀ env x, foldedSetIterable iter1 env x = pure x := by intro _ _; rfl) :
    PE X (.DictComp kx vx [⟨tge, iter, ifs, 0⟩, ⟨tge1, iter1, ifs1, 0⟩] scope pos) (lift Z (dDc2 it tg dt it1 tg1 dt1 dk dv' (own.map (·.2)) vs1)) :=
  up (pe_frz (pe_dcx hc hN hi ok hsub hg ht hi1 hg1 ht1 hk he hs hs1)) fun σ H Q ⟨δ, Hv, n, P, E, r, h1, q, x⟩ => dc2_lift hv hv1 ho ho1 htt htt1 r h1 (fun ys p ws H' Hv' n' h2 e pn hp hp' hv' k => ⟨p, ws, rfl, hp', fun oo => by
    have np : p ≠ Z.g.pd := fun z => r.pen.pd (by rw [← z]; exact hp)
    have nc : p ≠ Z.g.pc := fun z => r.pen.pc (by rw [← z]; exact hp)
    refine q (.dct ys) (.ref p) _ (upd Hv' p (.frz oo (.dK ws))) n' h2 ⟨fun b o hb z => ?_, e.see.trans (same_new hv'), fun b o hb => ?_, fun a h3 h4 => ?_, fun z => (e.nt z).upd (fun _ w => by cases w)⟩ (pn.upd np nc (Nat.le_refl _) hp') (.dct upd_same (k.mono (same_new hv')))
    · have hb2 : b ≠ p := fun w => by rw [w, hp] at z; cases z
      obtain ⟨o', w1, w2⟩ := e.but b o hb z
      exact ⟨o', (by rw [upd_ne hb2]; exact w1), w2⟩
    · by_cases eb : b = p
      · subst eb; rw [upd_same] at hb ⊢; exact hb
      · rw [upd_ne eb] at hb ⊢; exact e.sub _ _ hb
    · have : a ≠ p := fun z => h4 (by rw [z]; exact hp)
      rw [upd_ne this]; exact e.hid a h3 h4⟩) x
end
section
variable {P : Program} {w : World} {K : PySem.W.Frag} {mg : Str → Option Value} {base : Heap} {kn : Kn} {x qual : Str} {st : Stmt} {f cm : Addr} {fd : FuncData} {N ps : List Str} {k m : Nat} {sp : Sp} {t : DT}
end
end Dn
namespace Dn
open PySem PySem.Spec PyProof.Rows L2 Br
section
variable {X : Cx} {g : G}
end
end Dn
namespace L2
open PySem PySem.Spec PyProof.Rows PpSet LamX
end L2
namespace Dn
open PySem PySem.Spec PyProof.Rows L2 Br LamX
section
variable {X : Cx} {g : G}
def kD : Key → D
  | .inl i => .int i
  | .inr x => .str x
def gListK : List D → Option D
  | [.dct ks] => some (.lst (ks.map fun q => kD q.1))
  | _ => none
end
def dJn : List DE → Str → DE
  | [], acc => fun _ n P _ => P (.str acc) n
  | e :: es, acc => fun δ n P E => e δ n (fun x n1 => ∃ y, x = .str y ∧ (acc ++ y).length ≤ sizeLine ∧ dJn es (acc ++ y) δ n1 P E) E
section
variable {X : Cx} {Z : Zx} {e e2 : Expr} {es : List Expr} {de : DE} {des : List DE} {pos : Pos}
end
section
variable {X : Cx} {Z : Zx} {o e : Expr} {cpos apos : Pos} {da de : DE}
def dLIdx (a b : DE) : DE := fun δ n P E => a δ n (fun x n1 => ∃ ns : List Int, x = .lst (ns.map .int) ∧ b δ n1 (fun y n2 => ∃ k, y = .int k ∧ k ∈ ns ∧ P (.int (ns.idxOf k : Nat)) n2) E) E
end
end Dn
namespace L2
open PySem PySem.Spec PyProof.Rows
end L2
namespace Dn
open PySem PySem.Spec PyProof.Rows L2 Br LamX
section
variable {X : Cx} {Z : Zx} {tge iter kx vx : Expr} {ifs : List Expr} {scope : Scope} {own : List (Str × Nat)} {pos : Pos} {it : DA} {dt dk dv' : DE} {tg : Tg} {gg : TG} {tt : TT}
end
section
variable {X : Cx} {g : G}
def gLtR3 : List D → Option D
  | [.int i, .int j] => some (.bl (decide (i < j)))
  | [.tup [.int i, .str x], .tup [.int j, .str y]] => some (.bl (pairLt i x j y))
  | [.str x, .str y] => some (.bl (decide (x.cps.toList < y.cps.toList)))
  | _ => none
theorem x_ltR31 (i j : Int) : gLtR3 [.int i, .int j] = some (.bl (decide (i < j))) := rfl
theorem x_ltR32 (i j : Int) (x y : Str) : gLtR3 [.tup [.int i, .str x], .tup [.int j, .str y]] = some (.bl (pairLt i x j y)) := rfl
theorem x_ltR33 (x y : Str) : gLtR3 [.str x, .str y] = some (.bl (decide (x.cps.toList < y.cps.toList))) := rfl
end
section
variable {X : Cx} {Z : Zx} {a : Expr} {pos p : Pos} {da : DE}
def dSortT (a : DE) : DE := fun δ n P E => a δ n (fun x n' => ∃ ks : List Str, x = .lst (ks.map .str) ∧ ks.length < 64 ∧ ∀ ys : List Str, ys.Perm ks → sortedS ys = true → P (.lst (ys.map .str)) n') E
end
theorem putKD_new {acc : List (Key × D)} {k : Key} {v : D} (h : k ∉ acc.map (·.1)) : putKD acc k v = acc ++ [(k, v)] := by
  unfold putKD
  rw [if_neg]
  intro z
  obtain ⟨kv, h1, h2⟩ := List.any_eq_true.mp z
  exact h (List.mem_map.mpr ⟨kv, h1, by simpa using h2⟩)
variable {α : Type}
theorem dc2_map {tg : Tg} {t : DE} {inn : DS → List (Key × D) → Nat → (List (Key × D) → Nat → Prop) → Prop} {δ : DS} (g : α → D) (f : List (Key × D) → α → List (Key × D)) : ∀ {rs : List α} {acc : List (Key × D)} {n : Nat} {P : List (Key × D) → Nat → Prop},
    (∀ r ∈ rs, ∃ δ', dTg tg (g r) δ = some δ' ∧ ∀ (acc : List (Key × D)) (n : Nat) (Q : List (Key × D) → Nat → Prop), Q (f acc r) n → t δ' n (fun b n1 => ∃ c, b = .bl c ∧ if c = true then inn δ' acc n1 Q else Q acc n1) (fun _ _ _ => False)) →
    P (rs.foldl f acc) n → dc2Go tg t inn δ (rs.map g) acc n P
  | [], _, _, _, _, h => h
  | r :: rs, acc, n, P, hs, h => by
    obtain ⟨δ', h1, h2⟩ := hs r (by simp)
    exact ⟨δ', h1, h2 acc n (fun acc2 n2 => dc2Go tg t inn δ (rs.map g) acc2 n2 P) (dc2_map g f (fun y hy => hs y (by simp [hy])) h)⟩
theorem dc_map {tg : Tg} {k v : DE} {δ : DS} (g : α → D) (fk : α → Key) (fv : α → D) : ∀ {rs : List α} {acc : List (Key × D)} {n : Nat} {P : List (Key × D) → Nat → Prop},
    (∀ r ∈ rs, ∃ δ', dTg tg (g r) δ = some δ' ∧ (∀ (n : Nat) (Q : D → Nat → Prop), (∀ d, dKey d = some (fk r) → Q d n) → k δ' n Q (fun _ _ _ => False)) ∧ ∀ (n : Nat) (Q : D → Nat → Prop), Q (fv r) n → v δ' n Q (fun _ _ _ => False)) →
    P (rs.foldl (fun acc r => putKD acc (fk r) (fv r)) acc) n → dcGo tg (dC (.bl true)) k v δ (rs.map g) acc n P
  | [], _, _, _, _, h => h
  | r :: rs, acc, n, P, hs, h => by
    obtain ⟨δ', h1, h2, h3⟩ := hs r (by simp)
    refine ⟨δ', h1, true, rfl, ?_⟩
    rw [if_pos rfl]
    refine h2 _ _ fun d hd => ?_
    exact h3 _ _ ⟨fk r, hd, dc_map g fk fv (fun y hy => hs y (by simp [hy])) h⟩
theorem lc_map {tg : Tg} {t e : DE} {δ : DS} (g : α → D) (c : α → Bool) (f : α → D) : ∀ {rs : List α} {n : Nat} {P : List D → Nat → Prop},
    (∀ r ∈ rs, ∃ δ', dTg tg (g r) δ = some δ' ∧ (∀ (n : Nat) (Q : D → Nat → Prop), Q (.bl (c r)) n → t δ' n Q (fun _ _ _ => False)) ∧ (c r = true → ∀ (n : Nat) (Q : D → Nat → Prop), Q (f r) n → e δ' n Q (fun _ _ _ => False))) →
    P ((rs.filter c).map f) n → lcGo tg t e δ (rs.map g) n P
  | [], _, _, _, h => h
  | r :: rs, n, P, hs, h => by
    obtain ⟨δ', h1, h2, h3⟩ := hs r (by simp)
    refine ⟨δ', h1, h2 n _ ⟨c r, rfl, ?_⟩⟩
    by_cases hc : c r = true
    · rw [if_pos hc]
      rw [List.filter_cons, if_pos hc] at h
      exact h3 hc n _ (lc_map g c f (fun y hy => hs y (by simp [hy])) h)
    · rw [if_neg hc]
      rw [List.filter_cons, if_neg hc] at h
      exact lc_map g c f (fun y hy => hs y (by simp [hy])) h
theorem lc_mapT {tg : Tg} {e : DE} {δ : DS} (g : α → D) (f : α → D) {rs : List α} {n : Nat} {P : List D → Nat → Prop}
    (hs : ∀ r ∈ rs, ∃ δ', dTg tg (g r) δ = some δ' ∧ ∀ (n : Nat) (Q : D → Nat → Prop), Q (f r) n → e δ' n Q (fun _ _ _ => False)) (h : P (rs.map f) n) : lcGo tg (dC (.bl true)) e δ (rs.map g) n P :=
  lc_map g (fun _ => true) f (fun r hr => by
    obtain ⟨δ', h1, h2⟩ := hs r hr
    exact ⟨δ', h1, fun n Q q => q, fun _ => h2⟩) (by rw [List.filter_eq_self.mpr (fun _ _ => rfl)]; exact h)
section
variable {X : Cx} {g : G}
def minL : List Int → Option Int
  | [] => none
  | x :: r => some (r.foldl min x)
theorem foldl_min : ∀ (r : List Int) (x : Int), r.foldl min x ∈ x :: r ∧ ∀ y ∈ x :: r, r.foldl min x ≤ y
  | [], x => ⟨by simp, fun y hy => by rw [List.mem_singleton.mp hy]; exact Int.le_refl _⟩
  | z :: r, x => by
    obtain ⟨h1, h2⟩ := foldl_min r (min x z)
    have hm : r.foldl min (min x z) ≤ min x z := h2 _ (by simp)
    refine ⟨?_, fun y hy => ?_⟩
    · show r.foldl min (min x z) ∈ _
      rcases List.mem_cons.mp h1 with h | h
      · rw [h]
        by_cases hq : x ≤ z
        · rw [show min x z = x by omega]; simp
        · rw [show min x z = z by omega]; simp
      · exact List.mem_cons_of_mem _ (List.mem_cons_of_mem _ h)
    · show r.foldl min (min x z) ≤ y
      rcases List.mem_cons.mp hy with rfl | hy
      · omega
      · rcases List.mem_cons.mp hy with rfl | hy
        · omega
        · exact h2 y (List.mem_cons_of_mem _ hy)
theorem minL_mem {xs : List Int} {m : Int} (h : minL xs = some m) : m ∈ xs ∧ ∀ y ∈ xs, m ≤ y := by
  cases xs with
  | nil => cases h
  | cons x r => cases h; exact foldl_min r x
def gMinL : List D → Option D
  | [.lst xs] => ((intsOf xs).bind minL).map .int
  | _ => none
theorem c_minL (hc : X.calm = true) (zk : g.K = X.K) : DCl X g (.builtin "min") gMinL := by
  refine ⟨_, cr_min hc, ?_⟩
  intro H Hv xs ds d Q s k hf q
  unfold gMinL at hf
  split at hf
  · rename_i ys
    cases e : intsOf ys with
    | none => rw [e] at hf; cases hf
    | some bs =>
      rw [e] at hf
      cases e2 : minL bs with
      | none => rw [show (some bs).bind minL = minL bs from rfl, e2] at hf; cases hf
      | some m =>
        rw [show (some bs).bind minL = minL bs from rfl, e2] at hf
        cases hf
        obtain ⟨m1, m2⟩ := minL_mem e2
        cases k with
        | cons k1 k2 =>
          cases k2
          cases k1 with
          | lst ha ks =>
            refine ⟨_, bs, rfl, by rw [← intsOf_dv ks e]; exact sqL (s _ _ ha), ?_, fun m' h1 h2 => ?_⟩
            · cases bs with
              | nil => cases m1
              | cons _ _ => simp
            · rw [Int.le_antisymm (h2 m m1) (m2 m' h1)]
              exact q.here s (.int _)
  · cases hf
end
section
variable {X : Cx} {Z : Zx}
end
section
variable {X : Cx} {g : G}
end
end Dn
namespace GQ
open PySem PySem.SeqAt
open AutoSeq1 (wpAny_loadPart')
open MeetsSeq MeetsSeq2 MeetsSeq3 SeqRoads2
section
variable {prog : Program} {w : World} {A : Around} {R : Result → Shared → Prop}
end
section
variable {prog : Program} {w : World} {A : Around} {E : Value → Shared → Prop} {s : Shared}
end
end GQ
namespace Dn
open PySem PySem.Spec PyProof.Rows L2 Br LamX
structure OneV (K : PySem.W.Frag) (H : Hp) : Prop where
  tf : TupFun K H
  nl : ∀ p xs ys, H p = some (.lst xs) → SqT K H p ys → False
structure EqCl where
  c : Str
  U : List D → M D
def EqTs (R : D → D → Bool → Prop) : List D → List D → Bool → Prop
  | [], [], k => k = true
  | [], _ :: _, k => k = false
  | _ :: _, [], k => k = false
  | x :: xs, y :: ys, k => (R x y false ∧ k = false) ∨ (R x y true ∧ EqTs R xs ys k)
def EqOb (tb : List EqCl) : Nat → D → D → Bool → Prop
  | 0, x, y, k => eqD x y = some k
  | m + 1, x, y, k => eqD x y = some k
    ∨ (∃ xs ys, x = .tup xs ∧ y = .tup ys ∧ EqTs (EqOb tb m) xs ys k)
    ∨ (∃ xs ys, x = .lst xs ∧ y = .lst ys ∧ xs.length = ys.length ∧ EqTs (EqOb tb m) xs ys k)
    ∨ ∃ e ∈ tb, ∃ fs gs, x = .obj e.c fs ∧ y = .obj e.c gs ∧ (∀ (g : G) (H : Hp) vs, OneV g.K H → DvF g H vs fs → DvF g H vs gs → k = true) ∧ ∀ n (P : D → Nat → Prop) (E : XD), P (.bl k) n → e.U [.obj e.c fs, .obj e.c gs] n P E
theorem EqOb.mono {tb : List EqCl} : ∀ {m x y k}, EqOb tb m x y k → EqOb tb (m + 1) x y k := by
  have ts : ∀ {R S : D → D → Bool → Prop}, (∀ x y k, R x y k → S x y k) → ∀ xs ys k, EqTs R xs ys k → EqTs S xs ys k := by
    intro R S h xs
    induction xs with
    | nil => intro ys k q; cases ys <;> exact q
    | cons x xs ih =>
      intro ys k q
      cases ys with
      | nil => exact q
      | cons y ys => exact q.imp (fun q => ⟨h _ _ _ q.1, q.2⟩) fun q => ⟨h _ _ _ q.1, ih _ _ q.2⟩
  intro m
  induction m with
  | zero => intro x y k h; exact .inl h
  | succ m ih =>
    intro x y k h
    rcases h with h | ⟨xs, ys, h1, h2, h3⟩ | ⟨xs, ys, h1, h2, h3, h4⟩ | h
    · exact .inl h
    · exact .inr (.inl ⟨xs, ys, h1, h2, ts (fun _ _ _ => ih) _ _ _ h3⟩)
    · exact .inr (.inr (.inl ⟨xs, ys, h1, h2, h3, ts (fun _ _ _ => ih) _ _ _ h4⟩))
    · exact .inr (.inr (.inr h))
section
variable {g : G} {H : Hp}
mutual
theorem py_inj (tf : OneV g.K H) : ∀ {d d' : D} {v : V} {p q : PyData}, Dv g H v d → Dv g H v d' → d.py = some p → d'.py = some q → p = q
  | .non, _, _, _, _, .non, k, h, h' => by cases k with | non => rw [h] at h'; exact Option.some.inj h'
  | .bl b, _, _, _, _, .bl _, k, h, h' => by cases k with | bl => rw [h] at h'; exact Option.some.inj h'
  | .int b, _, _, _, _, .int _, k, h, h' => by cases k with | int => rw [h] at h'; exact Option.some.inj h'
  | .str b, _, _, _, _, .str _, k, h, h' => by cases k with | str => rw [h] at h'; exact Option.some.inj h'
  | .tup xs, _, _, p, q, .tup ha a, k, h, h' => by
    cases k with
    | @tup _ _ ys hb b =>
      have e := tf.tf.fn _ _ _ ha hb
      subst e
      unfold D.py at h h'
      cases e1 : D.pyAll xs with
      | none => rw [e1] at h; cases h
      | some ps =>
        cases e2 : D.pyAll ys with
        | none => rw [e2] at h'; cases h'
        | some qs =>
          rw [e1] at h; rw [e2] at h'
          cases h; cases h'
          rw [pyAll_inj tf a b e1 e2]
    | lst hb _ => exact (tf.nl _ _ _ hb ha).elim
    | obj hb _ _ => cases h'
    | exc _ _ _ _ => cases h'
    | dct _ _ => cases h'
    | pen => cases h'
    | scr _ => cases h'
    | fn _ _ _ => cases h'
  | .lst xs, _, _, p, q, .lst ha a, k, h, h' => by
    cases k with
    | @lst _ _ ys hb b =>
      rw [ha] at hb
      cases hb
      unfold D.py at h h'
      cases e1 : D.pyAll xs with
      | none => rw [e1] at h; cases h
      | some ps =>
        cases e2 : D.pyAll ys with
        | none => rw [e2] at h'; cases h'
        | some qs =>
          rw [e1] at h; rw [e2] at h'
          cases h; cases h'
          rw [pyAll_inj tf a b e1 e2]
    | tup hb _ => exact (tf.nl _ _ _ ha hb).elim
    | obj hb _ _ => cases h'
    | exc _ _ _ _ => cases h'
    | dct _ _ => cases h'
    | pen => cases h'
    | scr _ => cases h'
    | fn _ _ _ => cases h'
  | .obj _ _, _, _, _, _, _, _, h, _ => by cases h
  | .exc _ _, _, _, _, _, _, _, h, _ => by cases h
  | .dct _, _, _, _, _, _, _, h, _ => by cases h
  | .pen, _, _, _, _, _, _, h, _ => by cases h
  | .scr _, _, _, _, _, _, _, h, _ => by cases h
  | .fn _ _ _, _, _, _, _, _, _, h, _ => by cases h
theorem pyAll_inj (tf : OneV g.K H) : ∀ {ds ds' : List D} {vs : List V} {ps qs : List PyData}, DvAll g H vs ds → DvAll g H vs ds' → D.pyAll ds = some ps → D.pyAll ds' = some qs → ps = qs
  | [], _, _, _, _, .nil, k, h, h' => by cases k; rw [h] at h'; exact Option.some.inj h'
  | d :: ds, _, _, ps, qs, .cons a b, k, h, h' => by
    cases k with
    | @cons _ _ d' ds' a' b' =>
      unfold D.pyAll at h h'
      cases e1 : d.py with
      | none => rw [e1] at h; cases h
      | some p =>
        cases e2 : D.pyAll ds with
        | none => rw [e1, e2] at h; cases h
        | some ps =>
          cases e3 : d'.py with
          | none => rw [e3] at h'; cases h'
          | some p' =>
            cases e4 : D.pyAll ds' with
            | none => rw [e3, e4] at h'; cases h'
            | some ps' =>
              rw [e1, e2] at h
              rw [e3, e4] at h'
              cases h; cases h'
              rw [py_inj tf a a' e1 e3, pyAll_inj tf b b' e2 e4]
end
end
section
variable {X : Cx} {g : G}
def Aft (X : Cx) (g : G) (pins : List (Addr × Obj)) (σ : L2.St) (H Hv : Hp) (n : Nat) (s' : Shared) : Prop := ∃ H' Hv', Inv X pins σ H' s' ∧ Ext g H Hv H' Hv' ∧ Pn g H' n ∧ Hd g.pd Hv'
structure ClOk (X : Cx) (kn : Kn) (L : Nat) (e : EqCl) : Prop where
  ok : ∃ C k, X.mg e.c = some (.ref C) ∧ k ≤ L ∧ OkE X.prog X.w X.K X.mg X.base k C (spU X.K X.mg kn e.U)
def EqBW (X : Cx) (g : G) (L : Nat) (R : D → D → Bool → Prop) : Prop := ∀ (A : Around) (pins : List (Addr × Obj)) (σ : L2.St) (s : Shared) (H Hv : Hp) (n : Nat) (u v : Value) (vx vy : V) (x y : D) (k : Bool), Sub X L A → Inv X pins σ H s → RelV vx u → RelV vy v → Same Hv H → Pn g H n → Hd g.pd Hv → Dv g Hv vx x → Dv g Hv vy y → R x y k →
  wpAny (model X.prog X.w) A (eqBool u v) (fun r s' => r = k ∧ Aft X g pins σ H Hv n s') X.xe s
theorem Aft.step {pins : List (Addr × Obj)} {σ : L2.St} {H Hv H1 Hv1 : Hp} {n : Nat} {s' : Shared} (e : Ext g H Hv H1 Hv1) (p : Pn g H1 n) (h : Aft X g pins σ H1 Hv1 n s') : Aft X g pins σ H Hv n s' := by
  obtain ⟨H2, Hv2, I, e2, p2, d2⟩ := h
  exact ⟨H2, Hv2, I, e.trans (fun _ => p.pd) e2, p2, d2⟩
theorem EqBW.up {L M : Nat} {R : D → D → Bool → Prop} (h : EqBW X g L R) (hl : L ≤ M) : EqBW X g M R := fun A pins σ s H Hv n u v vx vy x y k sb => h A pins σ s H Hv n u v vx vy x y k (sb.mono hl)
end
section
variable {X : Cx} {Z : Zx} {a b : Expr} {da db : DE} {pos : Pos} {tb : List EqCl} {L m : Nat}
variable (T : ∀ e ∈ tb, ClOk X Z.g.kn L e) (hr : Room (L + m) X.A) (zk : Z.g.K = X.K) (zm : Z.g.mg = X.mg) (ha : PE X a (lift Z da)) (hb : PE X b (lift Z db))
include T hr zk zm ha hb
end
end Dn
namespace L2
open PySem PySem.Spec PyProof.Rows PpSet LamX
def kyOf (e : Int × Value) : Key := match e.2 with | .int k _ => .inl k | .str x _ => .inr x | _ => .inl 0
def GoodK (P : Program) (w : World) (e : Int × Value) : Prop := ∃ k : Key, RelV (kV k) e.2 ∧ e.1 = (mixKind P w).hash k
def SetKR (P : Program) (w : World) (h : Heap) (a : Addr) (S : Key → Bool) (n : Nat) : Prop :=
  ∃ o es ep t, h.get? a = some o ∧ o.ExactSet ∧ o.data = .set es ep t ∧ (∀ e ∈ es.toList, GoodK P w e) ∧ (es.toList.map kyOf).Nodup ∧ (∀ k, S k = true ↔ k ∈ es.toList.map kyOf) ∧
    es.size < scanBound ∧ t.fits es.size = true ∧ es.size = n ∧ Ris t.place.toList ∧ (w.params.followText "set-order" = true ∨ t.led = true)
section
variable {P : Program} {w : World} {h h' : Heap} {a : Addr} {S : Key → Bool} {n : Nat}
theorem SetKR.at (R : SetKR P w h a S n) (k : ∀ o, h.get? a = some o → h'.get? a = some o) : SetKR P w h' a S n := by
  obtain ⟨o, es, ep, t, ho, r⟩ := R
  exact ⟨o, es, ep, t, k o ho, r⟩
end
section
variable {P : Program} {w : World} {A : Around} {E : Value → Shared → Prop} {s : Shared} {a : Addr} {S : Key → Bool} {n : Nat}
end
section
variable {P : Program} {w : World} {A : Around} {E : Value → Shared → Prop} {s : Shared} {a : Addr}
end
section
variable {X : Cx}
end
end L2
namespace Dn
open PySem PySem.Spec PyProof.Rows L2 Br LamX
section
variable {X : Cx} {Z : Zx} {a : Expr} {pos p pos2 p2 : Pos} {da : DE}
def dSortSetT (a : DE) : DE := fun δ n P E => a δ n (fun x n' => ∃ ks : List Str, (x = .lst (ks.map .str) ∨ x = .tup (ks.map .str)) ∧ ks.length < 4000 ∧ ∀ ys : List Str, sortedS ys = true → ys.Nodup → (∀ k, k ∈ ys ↔ k ∈ ks) → P (.lst (ys.map .str)) n') E
end
end Dn
namespace Dn
open PySem PySem.Spec PyProof.Rows L2 Br PySem.BrX
def isOO (cs : List Str) (f : D → Option Bool) : D → Option Bool
  | .obj c _ => if c ∈ cs then some false else none
  | d => f d
theorem x_isOO1 (cs : List Str) (f : D → Option Bool) : isOO cs f .non = f .non := rfl
theorem x_isOO2 (cs : List Str) (f : D → Option Bool) (b : Bool) : isOO cs f (.bl b) = f (.bl b) := rfl
theorem x_isOO3 (cs : List Str) (f : D → Option Bool) (i : Int) : isOO cs f (.int i) = f (.int i) := rfl
theorem x_isOO4 (cs : List Str) (f : D → Option Bool) (x : Str) : isOO cs f (.str x) = f (.str x) := rfl
theorem x_isOO5 (cs : List Str) (f : D → Option Bool) (xs : List D) : isOO cs f (.lst xs) = f (.lst xs) := rfl
theorem x_isOO6 (cs : List Str) (f : D → Option Bool) (xs : List D) : isOO cs f (.tup xs) = f (.tup xs) := rfl
theorem x_isOO7 (cs : List Str) (f : D → Option Bool) (ks : List (Key × D)) : isOO cs f (.dct ks) = f (.dct ks) := rfl
theorem x_isOO8 (c : Str) (f : D → Option Bool) (fs : List (Str × D)) : isOO [c] f (.obj c fs) = some false := by
  show (if c ∈ [c] then some false else none) = _
  rw [if_pos (List.mem_singleton.mpr rfl)]
mutual
def D.pe : D → Option PyData
  | .non => some .none
  | .bl b => some (.bool b)
  | .int i => some (.int i)
  | .str x => some (.str x)
  | .lst xs => (D.peAll xs).map .list
  | .tup xs => (D.peAll xs).map .tuple
  | .dct kvs => (D.peKv kvs).map .dict
  | _ => none
def D.peAll : List D → Option (List PyData)
  | [] => some []
  | x :: xs => match D.pe x, D.peAll xs with
    | some a, some b => some (a :: b)
    | _, _ => none
def D.peKv : List (Key × D) → Option (List (PyData × PyData))
  | [] => some []
  | (k, x) :: xs => match kOk k, D.pe x, D.peKv xs with
    | true, some a, some b => some ((kP k, a) :: b)
    | _, _, _ => none
end
theorem peKv_ok : ∀ {ks : List (Key × D)} {ps : List (PyData × PyData)}, D.peKv ks = some ps → (ks.all fun q => kOk q.1) = true ∧ ps.map (·.1) = ks.map (fun q => kP q.1) ∧ PyData.shownKv ps = List.zipWith (fun k v : Str => k ++ ": " ++ v) (ks.map fun q => kT q.1) (PyData.shownAll (ps.map (·.2)))
  | [], _, h => by cases h; exact ⟨rfl, rfl, rfl⟩
  | (k, x) :: ks, ps, h => by
    unfold D.peKv at h
    cases e1 : kOk k with
    | false => rw [e1] at h; cases h
    | true =>
      cases e2 : D.pe x with
      | none => rw [e1, e2] at h; cases h
      | some a =>
        cases e3 : D.peKv ks with
        | none => rw [e1, e2, e3] at h; cases h
        | some b =>
          rw [e1, e2, e3] at h
          cases h
          obtain ⟨i1, i2, i3⟩ := peKv_ok e3
          refine ⟨by rw [List.all_cons, e1, i1]; rfl, by rw [List.map_cons, List.map_cons, i2], ?_⟩
          cases k with
          | inl i => cases e1
          | inr t =>
            simp only [PyData.shownKv, List.map_cons, PyData.shownAll, List.zipWith_cons_cons, i3]
            rfl
theorem mem_zip_le : ∀ {as bs : List Str} {n : Nat}, as.length = bs.length → (∀ t ∈ List.zipWith (fun k v : Str => k ++ ": " ++ v) as bs, t.length ≤ n) → ∀ t ∈ bs, t.length ≤ n
  | [], [], _, _, _, _, h => nomatch h
  | a :: as, b :: bs, n, hl, h, t, ht => by
    rw [List.zipWith_cons_cons] at h
    rcases List.mem_cons.mp ht with rfl | ht
    · have := h _ (List.mem_cons_self ..)
      simp only [Str.length_append] at this
      omega
    · exact mem_zip_le (by simpa using hl) (fun u hu => h u (List.mem_cons_of_mem _ hu)) t ht
  | [], _ :: _, _, hl, _, _, _ => by cases hl
  | _ :: _, [], _, hl, _, _, _ => by cases hl
theorem peKv_len {ks : List (Key × D)} {ps : List (PyData × PyData)} (h : D.peKv ks = some ps) : ps.length = ks.length := by
  have := congrArg List.length (peKv_ok h).2.1
  simpa using this
section
variable {X : Cx} {pins : List (Addr × Obj)} {σ : L2.St} {H Hv : Hp} {s : Shared} {g : G}
mutual
theorem re_of (I : Inv X pins σ H s) (zk : g.K = X.K) (sm : Same Hv H) : ∀ {d : D} {v : V} {u : Value} {p : PyData}, Dv g Hv v d → d.pe = some p → RelV v u → p.showable = true → p.shown.length ≤ sizeLine →
    (∃ as, Reads s.heap u p as) ∧ ∃ bs, ReadAtMost s.heap p.depth bs ∧ ReprK X.prog X.w bs s.heap p.depth u p.shown
  | _, _, _, _, .non, h, r, _, _ => by
    cases h; cases r
    exact ⟨⟨_, .none⟩, [], (fun _ h => nomatch h), .of_is ReprIs.none _ _ _⟩
  | _, _, _, _, .bl b, h, r, _, _ => by
    cases h; cases r
    exact ⟨⟨_, .bool b⟩, [], (fun _ h => nomatch h), .of_is (ReprIs.bool b) _ _ _⟩
  | _, _, _, _, .int i, h, r, hs, _ => by
    cases h; obtain ⟨t, rfl⟩ := r
    exact ⟨⟨_, .int i t⟩, [], (fun _ h => nomatch h), .of_is (ReprIs.int t (by simpa [PyData.showable] using hs)) _ _ _⟩
  | _, _, _, _, .str x, h, r, _, hz => by
    cases h; obtain ⟨t, rfl⟩ := r
    exact ⟨⟨_, .str x t⟩, [], (fun _ h => nomatch h), .of_is (ReprIs.str x t hz) _ _ _⟩
  | .lst ds, _, _, p, .lst ha ks, h, r, hs, hz => by
    unfold D.pe at h
    cases e : D.peAll ds with
    | none => rw [e] at h; cases h
    | some q =>
      rw [e] at h
      cases h
      cases r
      obtain ⟨its, rv, ⟨o, n, ho, hc, _, hd⟩, _⟩ := I.list (sqL (sm _ _ ha))
      have hz' : (listText (PyData.shownAll q)).length ≤ sizeLine := hz
      obtain ⟨⟨as, hr⟩, bs, hb, hk⟩ := reAll_of I zk sm ks e rv (by simpa [PyData.showable] using hs) (fun t ht => Nat.le_trans (listText_mem_le ht) hz')
      have r1 : Reads s.heap (.ref _) (.list q) _ := .list ho hc hd hr
      have hna := not_mem_of_deeper r1 (by show PyData.depthAll q < PyData.depthAll q + 1; omega) hb
      refine ⟨⟨_, r1⟩, _ :: bs, ReadAtMost.cons r1 (by show PyData.depthAll q ≤ PyData.depthAll q + 1; omega) hb, ?_⟩
      cases its with
      | nil =>
        cases hr
        have e1 : PyData.shown (.list []) = "[]" := by simp only [PyData.shown, PyData.shownAll, listText_nil]
        rw [e1]
        exact ReprK.listEmpty ho hc hd
      | cons x l =>
        simp only [PyData.depth, PyData.shown]
        exact ReprK.list ho hc hd hna (by simpa using hk.length_eq) (fun i y e => hk.item i y (by simpa using e))
  | .tup ds, _, _, p, .tup ha ks, h, r, hs, hz => by
    unfold D.pe at h
    cases e : D.peAll ds with
    | none => rw [e] at h; cases h
    | some q =>
      rw [e] at h
      cases h
      cases r
      obtain ⟨its, rv, ⟨o, ho, hc, n, hd⟩, _⟩ := I.tuple (zk ▸ same_seqT sm ha)
      have hz' : (tupleText (PyData.shownAll q)).length ≤ sizeLine := hz
      obtain ⟨⟨as, hr⟩, bs, hb, hk⟩ := reAll_of I zk sm ks e rv (by simpa [PyData.showable] using hs) (fun t ht => Nat.le_trans (tupleText_mem_le ht) hz')
      have r1 : Reads s.heap (.ref _) (.tuple q) _ := .tuple ho hc hd hr
      have hna := not_mem_of_deeper r1 (by show PyData.depthAll q < PyData.depthAll q + 1; omega) hb
      refine ⟨⟨_, r1⟩, _ :: bs, ReadAtMost.cons r1 (by show PyData.depthAll q ≤ PyData.depthAll q + 1; omega) hb, ?_⟩
      simp only [PyData.depth, PyData.shown]
      exact ReprK.tuple ho hc hd hna hk
  | .dct ds, _, _, p, .dct ha kk, h, r, hs, hz => by
    unfold D.pe at h
    cases e : D.peKv ds with
    | none => rw [e] at h; cases h
    | some q =>
      rw [e] at h
      cases h
      cases r
      obtain ⟨_, hsys, vs, rk, o, es, ep, ho, hc, hd, _, hpp, _⟩ := dk_rd I.hok (.inr ⟨_, sm _ _ ha⟩)
      obtain ⟨o1, o2, o3⟩ := peKv_ok e
      have hz0 : (dictText (PyData.shownKv q)).length ≤ sizeLine := hz
      have hsk : PyData.showableKv q = true := by simpa [PyData.showable] using hs
      have hl1 : (ds.map fun z => kT z.1).length = (PyData.shownAll (q.map (·.2))).length := by
        have : (PyData.shownAll (q.map (·.2))).length = q.length := by
          have := congrArg List.length o3
          rw [PyData.shownKv_length, List.length_zipWith, List.length_map] at this
          have h2 := peKv_len e
          have h3 : ∀ l : List PyData, (PyData.shownAll l).length = l.length := fun l => by
            induction l with
            | nil => rfl
            | cons a l ih => simp [PyData.shownAll, ih]
          rw [h3, List.length_map]
        rw [this, List.length_map, peKv_len e]
      have hz' : ∀ t ∈ PyData.shownAll (q.map (·.2)), t.length ≤ sizeLine := mem_zip_le hl1 fun t ht => Nat.le_trans (dictText_mem_le (by rw [o3]; exact ht)) hz0
      obtain ⟨i1, i2, i3, i4⟩ := ents_of (h := s.heap) kk rk hpp o1
      obtain ⟨⟨as, hr'⟩, bs, hb, hk'⟩ := reKv_of I zk sm kk e i2 (PyData.showableKv_split q hsk).2 hz'
      have r1 : Reads s.heap (.ref _) (.dict q) _ := .dict ho hc.1 hd (by rw [o2]; exact i4) hr'
      have hdv := PyData.depthAll_vals_le q
      have hna := not_mem_of_deeper r1 (by show PyData.depthAll (q.map (·.2)) < PyData.depthKv q + 1; omega) hb
      refine ⟨⟨_, r1⟩, _ :: bs, ReadAtMost.cons r1 (by show PyData.depthKv q ≤ PyData.depthKv q + 1; omega) (hb.mono hdv), ?_⟩
      have rk2 := ReprK.dict (prog := X.prog) (w := X.w) (as := bs) (d := PyData.depthKv q) (ps := PyData.shownKv q) ho hc.1 hd hsys hna (by rw [o3]; exact ReprEntriesK.of_two _ _ _ (i3 bs _) (hk'.more_le (fun _ z => z) hdv))
      exact rk2
  | _, _, _, _, .obj _ _ _, h, _, _, _ => by cases h
  | _, _, _, _, .exc _ _ _ _, h, _, _, _ => by cases h
  | _, _, _, _, .pen, h, _, _, _ => by cases h
  | _, _, _, _, .scr _, h, _, _, _ => by cases h
  | _, _, _, _, .fn _ _ _, h, _, _, _ => by cases h
theorem reAll_of (I : Inv X pins σ H s) (zk : g.K = X.K) (sm : Same Hv H) : ∀ {ds : List D} {vs : List V} {us : List Value} {ps : List PyData}, DvAll g Hv vs ds → D.peAll ds = some ps → Vals vs us → PyData.showableAll ps = true → (∀ t ∈ PyData.shownAll ps, t.length ≤ sizeLine) →
    (∃ as, ReadsAll s.heap us ps as) ∧ ∃ bs, ReadAtMost s.heap (PyData.depthAll ps) bs ∧ ReprAllK X.prog X.w bs s.heap (PyData.depthAll ps) us (PyData.shownAll ps)
  | [], _, _, _, .nil, h, r, _, _ => by
    cases h; cases r
    exact ⟨⟨_, .nil⟩, [], (fun _ h => nomatch h), .nil⟩
  | d :: ds, _, _, ps, .cons k ks, h, r, hs, hz => by
    unfold D.peAll at h
    cases e : d.pe with
    | none => rw [e] at h; cases h
    | some a =>
      cases e2 : D.peAll ds with
      | none => rw [e, e2] at h; cases h
      | some b =>
        rw [e, e2] at h
        cases h
        cases r with
        | cons r1 r2 =>
          have hs' : a.showable = true ∧ PyData.showableAll b = true := by simpa [PyData.showableAll] using hs
          obtain ⟨⟨as, q1⟩, b1, hb1, k1⟩ := re_of I zk sm k e r1 hs'.1 (hz _ (by simp [PyData.shownAll]))
          obtain ⟨⟨bs, q2⟩, b2, hb2, k2⟩ := reAll_of I zk sm ks e2 r2 hs'.2 (fun t ht => hz t (by simp [PyData.shownAll, ht]))
          refine ⟨⟨_, .cons q1 q2⟩, b1 ++ b2, (hb1.mono (Nat.le_max_left _ _)).append (hb2.mono (Nat.le_max_right _ _)), ?_⟩
          exact .cons ((k1.more fun b hb => List.mem_append_left _ hb).level_le (Nat.le_max_left _ _)) (k2.more_le (fun b hb => List.mem_append_right _ hb) (Nat.le_max_right _ _))
theorem reKv_of (I : Inv X pins σ H s) (zk : g.K = X.K) (sm : Same Hv H) : ∀ {ks : List (Key × D)} {kvs : List (Key × V)} {us : List Value} {ps : List (PyData × PyData)}, DvK g Hv kvs ks → D.peKv ks = some ps → Vals (kvs.map (·.2)) us → PyData.showableAll (ps.map (·.2)) = true → (∀ t ∈ PyData.shownAll (ps.map (·.2)), t.length ≤ sizeLine) →
    (∃ as, ReadsAll s.heap us (ps.map (·.2)) as) ∧ ∃ bs, ReadAtMost s.heap (PyData.depthAll (ps.map (·.2))) bs ∧ ReprAllK X.prog X.w bs s.heap (PyData.depthAll (ps.map (·.2))) us (PyData.shownAll (ps.map (·.2)))
  | [], _, _, _, .nil, h, r, _, _ => by
    cases h; cases r
    exact ⟨⟨_, .nil⟩, [], (fun _ h => nomatch h), .nil⟩
  | (k, d) :: ds, _, _, ps, .cons kd ks, h, r, hs, hz => by
    unfold D.peKv at h
    cases e0 : kOk k with
    | false => rw [e0] at h; cases h
    | true =>
      cases e : d.pe with
      | none => rw [e0, e] at h; cases h
      | some a =>
        cases e2 : D.peKv ds with
        | none => rw [e0, e, e2] at h; cases h
        | some b =>
          rw [e0, e, e2] at h
          cases h
          cases r with
          | cons r1 r2 =>
            have hs' : a.showable = true ∧ PyData.showableAll (b.map (·.2)) = true := by simpa [PyData.showableAll] using hs
            obtain ⟨⟨as, q1⟩, b1, hb1, k1⟩ := re_of I zk sm kd e r1 hs'.1 (hz _ (by simp [PyData.shownAll]))
            obtain ⟨⟨bs, q2⟩, b2, hb2, k2⟩ := reKv_of I zk sm ks e2 r2 hs'.2 (fun t ht => hz t (by simp only [List.map_cons, PyData.shownAll]; exact List.mem_cons_of_mem _ ht))
            refine ⟨⟨_, .cons q1 q2⟩, b1 ++ b2, (hb1.mono (Nat.le_max_left _ _)).append (hb2.mono (Nat.le_max_right _ _)), ?_⟩
            exact .cons ((k1.more fun b hb => List.mem_append_left _ hb).level_le (Nat.le_max_left _ _)) (k2.more_le (fun b hb => List.mem_append_right _ hb) (Nat.le_max_right _ _))
end
end
end Dn
namespace Dn
open PySem PySem.Spec PyProof.Rows L2 Br
section
variable {X : Cx} {Z : Zx} {e : Expr} {d1 d2 : DE}
end
inductive Cell where
  | ls (xs : List D) | dc (ks : List (Key × D)) | ob (c : Str) (fs : List (Str × D))
abbrev Om := List (Addr × Cell)
def CellOk (g : G) (Hv : Hp) (o : HO) : Cell → Prop
  | .ls ds => ∃ vs, o = .lst vs ∧ DvAll g Hv vs ds
  | .dc ks => ∃ kvs, o = .dK kvs ∧ DvK g Hv kvs ks
  | .ob c fs => ∃ C dx vs, o = .ins C dx vs ∧ g.mg c = some (.ref C) ∧ DvF g Hv vs fs
theorem CellOk.mono {g : G} {Hv Hv' : Hp} {o : HO} {c : Cell} (h : CellOk g Hv o c) (s : Same Hv Hv') : CellOk g Hv' o c := by
  cases c with
  | ls ds => obtain ⟨vs, e, k⟩ := h; exact ⟨vs, e, k.mono s⟩
  | dc ks => obtain ⟨vs, e, k⟩ := h; exact ⟨vs, e, k.mono s⟩
  | ob c fs => obtain ⟨C, dx, vs, e, m, k⟩ := h; exact ⟨C, dx, vs, e, m, k.mono s⟩
theorem CellOk.noTbl {g : G} {Hv : Hp} {o : HO} {c : Cell} (h : CellOk g Hv o c) : ∀ ps, o ≠ .tbl ps := by
  cases c with
  | ls ds => obtain ⟨vs, rfl, _⟩ := h; exact fun _ z => by cases z
  | dc ks => obtain ⟨vs, rfl, _⟩ := h; exact fun _ z => by cases z
  | ob c fs => obtain ⟨C, dx, vs, rfl, _⟩ := h; exact fun _ z => by cases z
theorem CellOk.noTab {g : G} {Hv : Hp} {o : HO} {c : Cell} (h : CellOk g Hv o c) : NoTab o := by
  cases c with
  | ls ds => obtain ⟨vs, rfl, _⟩ := h; exact ⟨(fun _ z => by cases z), (fun _ z => by cases z)⟩
  | dc ks => obtain ⟨vs, rfl, _⟩ := h; exact ⟨(fun _ z => by cases z), (fun _ z => by cases z)⟩
  | ob c fs => obtain ⟨C, dx, vs, rfl, _⟩ := h; exact ⟨(fun _ z => by cases z), (fun _ z => by cases z)⟩
def addH (H0 H : Hp) (ω : Om) : Hp := fun a => if a ∈ ω.map (·.1) then H a else H0 a
theorem addH_in {H0 H : Hp} {ω : Om} {a : Addr} (h : a ∈ ω.map (·.1)) : addH H0 H ω a = H a := if_pos h
theorem addH_out {H0 H : Hp} {ω : Om} {a : Addr} (h : a ∉ ω.map (·.1)) : addH H0 H ω a = H0 a := if_neg h
structure RelS (g : G) (H0 Hv0 : Hp) (σ : L2.St) (H Hv : Hp) (δ : DS) (ω : Om) (n : Nat) : Prop where
  rel : Rel g (addH H0 H ω) Hv0 σ H Hv δ n
  nd : (ω.map (·.1)).Nodup
  cells : ∀ a c, (a, c) ∈ ω → (a ≠ g.pd ∧ a ≠ g.pc) ∧ (∃ o, H a = some o ∧ CellOk g Hv o c) ∧ Hv a = none ∧ H0 a = none
theorem RelS.step {g : G} {H0 Hv0 : Hp} {σ : L2.St} {H Hv H' Hv' : Hp} {δ : DS} {ω : Om} {n n' : Nat} (r : RelS g H0 Hv0 σ H Hv δ ω n) (e : Ext g H Hv H' Hv') (p : Pn g H' n') : RelS g H0 Hv0 σ H' Hv' δ ω n' := by
  have same : ∀ a c, (a, c) ∈ ω → H' a = H a := fun a c h => by
    obtain ⟨np, ⟨o, h1, h2⟩, _, _⟩ := r.cells a c h
    rw [h1, e.at np.1 h1 h2.noTbl]
  have eq : addH H0 H' ω = addH H0 H ω := by
    funext a
    by_cases h : a ∈ ω.map (·.1)
    · obtain ⟨q, hq, rfl⟩ := List.mem_map.mp h
      rw [addH_in h, addH_in h, same q.1 q.2 hq]
    · rw [addH_out h, addH_out h]
  refine ⟨by rw [eq]; exact r.rel.step e p, r.nd, fun a c h => ?_⟩
  obtain ⟨np, ⟨o, h1, h2⟩, h3, h4⟩ := r.cells a c h
  exact ⟨np, ⟨o, by rw [same a c h]; exact h1, h2.mono e.see⟩, e.hid _ h3 (by rw [h1]; simp), h4⟩
theorem RelS.after {g : G} {H0 Hv0 : Hp} {σ σ' : L2.St} {H Hv H' Hv' : Hp} {δ δ' : DS} {ω : Om} {n n' : Nat} (r : RelS g H0 Hv0 σ H Hv δ ω n) (s : Same Hv Hv') (r' : Rel g (addH H0 H ω) Hv0 σ' H' Hv' δ' n') : RelS g H0 Hv0 σ' H' Hv' δ' ω n' := by
  have same : ∀ a c, (a, c) ∈ ω → H' a = H a := fun a c h => by
    obtain ⟨np, ⟨o, h1, h2⟩, _, _⟩ := r.cells a c h
    have hm : a ∈ ω.map (·.1) := List.mem_map.mpr ⟨(a, c), h, rfl⟩
    rw [h1, r'.ext.at np.1 (by rw [addH_in hm]; exact h1) h2.noTbl]
  have eq : addH H0 H' ω = addH H0 H ω := by
    funext a
    by_cases h : a ∈ ω.map (·.1)
    · obtain ⟨q, hq, rfl⟩ := List.mem_map.mp h
      rw [addH_in h, addH_in h, same q.1 q.2 hq]
    · rw [addH_out h, addH_out h]
  refine ⟨by rw [eq]; exact r', r.nd, fun a c h => ?_⟩
  obtain ⟨np, ⟨o, h1, h2⟩, h3, h4⟩ := r.cells a c h
  have hm : a ∈ ω.map (·.1) := List.mem_map.mpr ⟨(a, c), h, rfl⟩
  have hv0 : Hv0 a = none := by
    cases q : Hv0 a with
    | none => rfl
    | some u => rw [r.rel.ext.see _ _ q] at h3; cases h3
  exact ⟨np, ⟨o, by rw [same a c h]; exact h1, h2.mono s⟩, r'.ext.hid a hv0 (by rw [addH_in hm, h1]; simp), h4⟩
abbrev XDs := Str → List (Str × D) → Om → Nat → Prop
abbrev DEs := DS → Om → Nat → (D → Om → Nat → Prop) → XDs → Prop
def EOkN (Z : Zx) (σ : L2.St) (δ : DS) (Hv : Hp) (E : XDs) : Prop := ∀ c fs ω' n' cls dd H' Hv', E c fs ω' n' → RelS Z.g Z.H0 Z.Hv0 σ H' Hv' δ ω' n' → Same Hv Hv' → ExcOk Z.g Hv' c fs cls dd → Z.W cls dd σ H'
structure NEnds where
  nx : DS → Om → Nat → Prop
  rt : D → Om → Nat → Prop
  bk : DS → Om → Nat → Prop
  ct : DS → Om → Nat → Prop
  xe : DS → XDs
abbrev DTs := NEnds → DS → Om → Nat → Prop
def NOkN (Z : Zx) (Hv : Hp) (N : DS → Om → Nat → Prop) (nx : L2.St → Hp → Prop) : Prop := ∀ δ' ω' n' σ' H' Hv', N δ' ω' n' → Same Hv Hv' → RelS Z.g Z.H0 Z.Hv0 σ' H' Hv' δ' ω' n' → nx σ' H'
structure StS (g : G) (H0 Hv0 H Hv : Hp) (ω : Om) (n : Nat) : Prop where
  ext : Ext g (addH H0 H ω) Hv0 H Hv
  pen : Pn g H n
  nd : (ω.map (·.1)).Nodup
  cells : ∀ a c, (a, c) ∈ ω → (a ≠ g.pd ∧ a ≠ g.pc) ∧ (∃ o, H a = some o ∧ CellOk g Hv o c) ∧ Hv a = none ∧ H0 a = none
theorem RelS.st {g : G} {H0 Hv0 : Hp} {σ : L2.St} {H Hv : Hp} {δ : DS} {ω : Om} {n : Nat} (r : RelS g H0 Hv0 σ H Hv δ ω n) : StS g H0 Hv0 H Hv ω n := ⟨r.rel.ext, r.rel.pen, r.nd, r.cells⟩
def XOkN (Z : Zx) (Hv : Hp) (xe : DS → XDs) : Prop := ∀ δ' σ' H' Hv' ω' n' c fs cls dd, xe δ' c fs ω' n' → Same Hv Hv' → RelS Z.g Z.H0 Z.Hv0 σ' H' Hv' δ' ω' n' → ExcOk Z.g Hv' c fs cls dd → Z.W cls dd σ' H'
theorem NOkN.see {Z : Zx} {Hv Hv' : Hp} {N : DS → Om → Nat → Prop} {nx : L2.St → Hp → Prop} (h : NOkN Z Hv N nx) (s : Same Hv Hv') : NOkN Z Hv' N nx := fun δ' ω' n' σ' H' Hv2 a b c => h δ' ω' n' σ' H' Hv2 a (s.trans b) c
theorem XOkN.see {Z : Zx} {Hv Hv' : Hp} {xe : DS → XDs} (h : XOkN Z Hv xe) (s : Same Hv Hv') : XOkN Z Hv' xe := fun δ' σ' H' Hv2 ω' n' c fs cls dd a b r x => h δ' σ' H' Hv2 ω' n' c fs cls dd a (s.trans b) r x
theorem XOkN.e {Z : Zx} {Hv : Hp} {xe : DS → XDs} {σ : L2.St} {δ : DS} (h : XOkN Z Hv xe) : EOkN Z σ δ Hv (xe δ) := fun c fs ω' n' cls dd H' Hv' a r s x => h δ σ H' Hv' ω' n' c fs cls dd a s r x
section
variable {X : Cx} {Z : Zx} {e c : Expr} {st : Stmt} {sts x y : List Stmt} {pos : Pos} {de dc : DEs} {t u : DTs}
end
def setC (ω : Om) (a : Addr) (c : Cell) : Om := ω.map fun q => if q.1 = a then (a, c) else q
theorem setC_fst (ω : Om) (a : Addr) (c : Cell) : (setC ω a c).map (·.1) = ω.map (·.1) := by
  unfold setC
  rw [List.map_map]
  refine List.map_congr_left fun q _ => ?_
  show (if q.1 = a then (a, c) else q).1 = q.1
  split
  · rename_i h; exact h.symm
  · rfl
theorem setC_mem {ω : Om} {a b : Addr} {c d : Cell} (h : (b, d) ∈ setC ω a c) : (b = a ∧ d = c ∧ a ∈ ω.map (·.1)) ∨ (b ≠ a ∧ (b, d) ∈ ω) := by
  obtain ⟨q, hq, e⟩ := List.mem_map.mp h
  by_cases hb : q.1 = a
  · rw [if_pos hb] at e
    cases e
    exact .inl ⟨rfl, rfl, List.mem_map.mpr ⟨q, hq, hb⟩⟩
  · rw [if_neg hb] at e
    subst e
    exact .inr ⟨hb, hq⟩
theorem RelS.put {g : G} {H0 Hv0 : Hp} {σ : L2.St} {H Hv : Hp} {δ : DS} {ω : Om} {n : Nat} (r : RelS g H0 Hv0 σ H Hv δ ω n) {a : Addr} {c c' : Cell} {o' : HO} (hm : (a, c) ∈ ω) (hk : CellOk g Hv o' c') :
    RelS g H0 Hv0 σ (upd H a o') Hv δ (setC ω a c') n := by
  obtain ⟨np, ⟨o, h1, h2⟩, h3, h4⟩ := r.cells a c hm
  have am : a ∈ ω.map (·.1) := List.mem_map.mpr ⟨(a, c), hm, rfl⟩
  have eq : ∀ b, b ≠ a → addH H0 (upd H a o') (setC ω a c') b = addH H0 H ω b := fun b hb => by
    unfold addH
    rw [setC_fst, upd_ne hb]
  have eqa : addH H0 (upd H a o') (setC ω a c') a = some o' := by
    rw [addH_in (by rw [setC_fst]; exact am), upd_same]
  have R := r.rel
  have npc : ∀ p, addH H0 H ω p = none → p ≠ a := fun p hp z => by
    rw [z, addH_in am, h1] at hp
    cases hp
  have ext : Ext g (addH H0 (upd H a o') (setC ω a c')) Hv0 (upd H a o') Hv := by
    refine ⟨fun b u hb e => ?_, R.ext.see, fun b u e => ?_, fun b hb hn => ?_, R.ext.nt⟩
    · by_cases hba : b = a
      · subst hba
        rw [eqa] at e
        cases e
        exact ⟨o', upd_same, fun _ => rfl⟩
      · rw [eq b hba] at e
        obtain ⟨u', w1, w2⟩ := R.ext.but b u hb e
        exact ⟨u', by rw [upd_ne hba]; exact w1, w2⟩
    · have hba : b ≠ a := fun z => by rw [z, h3] at e; cases e
      rw [upd_ne hba]
      exact R.ext.sub b u e
    · by_cases hba : b = a
      · rw [hba]; exact h3
      · rw [eq b hba] at hn
        exact R.ext.hid b hb hn
  have pd0 : addH H0 (upd H a o') (setC ω a c') g.pd ≠ none := by rw [eq _ (Ne.symm np.1)]; exact R.pd0
  have pc0 : addH H0 (upd H a o') (setC ω a c') g.pc ≠ none := by rw [eq _ (Ne.symm np.2)]; exact R.pc0
  refine ⟨⟨ext, R.pen.upd np.1 np.2 (Nat.le_refl _) h1 h2.noTab, pd0, pc0, R.npd, R.len, fun i s hs => ?_, R.dist⟩, by rw [setC_fst]; exact r.nd, fun b d hb => ?_⟩
  · have := R.sl i s hs
    cases s with
    | sh d => exact this
    | ow ds =>
      obtain ⟨p, vs, e1, e2, e3, e4, e5⟩ := this
      have hp := npc p e4
      exact ⟨p, vs, e1, by rw [upd_ne hp]; exact e2, e3, by rw [eq p hp]; exact e4, e5⟩
    | sf p c fs =>
      obtain ⟨C, dx, vs, e1, e2, e3, e4, e6, e5⟩ := this
      have hp := npc p e4
      exact ⟨C, dx, vs, e1, by rw [upd_ne hp]; exact e2, e3, by rw [eq p hp]; exact e4, e6, e5⟩
    | od ks =>
      obtain ⟨p, vs, e1, e2, e3, e4, e5⟩ := this
      have hp := npc p e4
      exact ⟨p, vs, e1, by rw [upd_ne hp]; exact e2, e3, by rw [eq p hp]; exact e4, e5⟩
  · rcases setC_mem hb with ⟨rfl, rfl, _⟩ | ⟨hba, hb⟩
    · exact ⟨np, ⟨o', upd_same, hk⟩, h3, h4⟩
    · obtain ⟨q1, ⟨u, q2, q3⟩, q4, q5⟩ := r.cells b d hb
      exact ⟨q1, ⟨u, by rw [upd_ne hba]; exact q2, q3⟩, q4, q5⟩
section
variable {X : Cx} {Z : Zx} {o e : Expr} {dO de : DEs} {pos apos cpos epos : Pos}
end
def cutH (H : Hp) (ω : Om) : Hp := fun a => if a ∈ ω.map (·.1) then none else H a
theorem cutH_out {H : Hp} {ω : Om} {a : Addr} (h : a ∉ ω.map (·.1)) : cutH H ω a = H a := if_neg h
theorem RelS.call {g : G} {H0 Hv0 : Hp} {σ : L2.St} {H Hv H' Hv' : Hp} {δ : DS} {ω ω' : Om} {n n' : Nat} (r : RelS g H0 Hv0 σ H Hv δ ω n) (s : StS g (cutH H ω) Hv H' Hv' ω' n') : RelS g H0 Hv0 σ H' Hv' δ ω' n' := by
  have R := r.rel
  have hin : ∀ b, b ∈ ω.map (·.1) → H b ≠ none ∧ H0 b = none := fun b hb => by
    obtain ⟨q, hq, rfl⟩ := List.mem_map.mp hb
    obtain ⟨_, ⟨o, h1, _⟩, _, h4⟩ := r.cells q.1 q.2 hq
    exact ⟨by rw [h1]; simp, h4⟩
  have hin' : ∀ b, b ∈ ω'.map (·.1) → b ≠ g.pd ∧ b ≠ g.pc ∧ H' b ≠ none ∧ Hv' b = none ∧ cutH H ω b = none := fun b hb => by
    obtain ⟨q, hq, rfl⟩ := List.mem_map.mp hb
    obtain ⟨⟨a1, a2⟩, ⟨o, h1, _⟩, h3, h4⟩ := s.cells q.1 q.2 hq
    exact ⟨a1, a2, by rw [h1]; simp, h3, h4⟩
  have keep : ∀ b o, b ≠ g.pd → b ∉ ω.map (·.1) → H b = some o → b ∉ ω'.map (·.1) ∧ ∃ o', H' b = some o' ∧ ((∀ ps, o ≠ .tbl ps) → o' = o) := fun b o hb hn h => by
    have hb' : b ∉ ω'.map (·.1) := fun z => by
      have := (hin' b z).2.2.2.2
      rw [cutH_out hn, h] at this
      cases this
    exact ⟨hb', s.ext.but b o hb (by rw [addH_out hb', cutH_out hn]; exact h)⟩
  have h0in : ∀ b, b ∈ ω'.map (·.1) → H0 b = none := fun b hb => by
    obtain ⟨p1, p2, p3, p4, p5⟩ := hin' b hb
    by_cases hw : b ∈ ω.map (·.1)
    · exact (hin b hw).2
    · rw [cutH_out hw] at p5
      cases q : H0 b with
      | none => rfl
      | some u =>
        obtain ⟨u', w, _⟩ := R.ext.but b u p1 (by rw [addH_out hw]; exact q)
        rw [p5] at w; cases w
  have ext : Ext g (addH H0 H' ω') Hv0 H' Hv' := by
    refine ⟨fun b u hb q => ?_, R.ext.see.trans s.ext.see, s.ext.sub, fun b hb hn => ?_, fun z => s.ext.nt (R.ext.nt z)⟩
    · by_cases hw' : b ∈ ω'.map (·.1)
      · rw [addH_in hw'] at q
        exact ⟨u, q, fun _ => rfl⟩
      · rw [addH_out hw'] at q
        have hw : b ∉ ω.map (·.1) := fun z => by rw [(hin b z).2] at q; cases q
        obtain ⟨u1, w1, w2⟩ := R.ext.but b u hb (by rw [addH_out hw]; exact q)
        obtain ⟨_, u2, w3, w4⟩ := keep b u1 hb hw w1
        refine ⟨u2, w3, fun no => ?_⟩
        have e1 := w2 no
        subst e1
        exact w4 no
    · by_cases hw' : b ∈ ω'.map (·.1)
      · exact (hin' b hw').2.2.2.1
      · rw [addH_out hw'] at hn
        have hw : b ∉ ω.map (·.1) := fun z => hn (hin b z).2
        have hvb : Hv b = none := R.ext.hid b hb (by rw [addH_out hw]; exact hn)
        refine s.ext.hid b hvb ?_
        rw [addH_out hw', cutH_out hw]
        by_cases hbp : b = g.pd
        · rw [hbp]; exact R.pen.pd
        · cases q : H0 b with
          | none => exact absurd q hn
          | some u =>
            obtain ⟨u', w, _⟩ := R.ext.but b u hbp (by rw [addH_out hw]; exact q)
            rw [w]; simp
  have npd : g.pd ∉ ω'.map (·.1) := fun z => (hin' _ z).1 rfl
  have npc : g.pc ∉ ω'.map (·.1) := fun z => (hin' _ z).2.1 rfl
  have npd0 : g.pd ∉ ω.map (·.1) := fun z => by
    obtain ⟨q, hq, e⟩ := List.mem_map.mp z
    exact (r.cells q.1 q.2 hq).1.1 e
  have npc0 : g.pc ∉ ω.map (·.1) := fun z => by
    obtain ⟨q, hq, e⟩ := List.mem_map.mp z
    exact (r.cells q.1 q.2 hq).1.2 e
  have pd0 : addH H0 H' ω' g.pd ≠ none := by rw [addH_out npd]; have := R.pd0; rwa [addH_out npd0] at this
  have pc0 : addH H0 H' ω' g.pc ≠ none := by rw [addH_out npc]; have := R.pc0; rwa [addH_out npc0] at this
  have own : ∀ p o, H p = some o → (∀ ps, o ≠ .tbl ps) → Hv p = none → addH H0 H ω p = none → H' p = some o ∧ Hv' p = none ∧ addH H0 H' ω' p = none := fun p o h1 h2 h3 h4 => by
    have hw : p ∉ ω.map (·.1) := fun z => by rw [addH_in z, h1] at h4; cases h4
    rw [addH_out hw] at h4
    have hpd : p ≠ g.pd := fun z => by have := R.pd0; rw [addH_out npd0, ← z, h4] at this; exact this rfl
    obtain ⟨hw', o', w1, w2⟩ := keep p o hpd hw h1
    have := w2 h2
    subst this
    exact ⟨w1, s.ext.hid p h3 (by rw [addH_out hw', cutH_out hw, h1]; simp), by rw [addH_out hw']; exact h4⟩
  refine ⟨⟨ext, s.pen, pd0, pc0, ⟨s.ext.hid _ R.npd.1 (by rw [addH_out npd, cutH_out npd0]; exact R.pen.pd), s.ext.nt R.npd.2⟩, R.len, fun i sl hs => ?_, R.dist⟩, s.nd, fun a c hc => ?_⟩
  · have := R.sl i sl hs
    cases sl with
    | sh d => obtain ⟨u, e1, e2⟩ := this; exact ⟨u, e1, e2.mono s.ext.see⟩
    | ow ds =>
      obtain ⟨p, vs, e1, e2, e3, e4, e5⟩ := this
      obtain ⟨w1, w2, w3⟩ := own p _ e2 (fun _ z => by cases z) e3 e4
      exact ⟨p, vs, e1, w1, w2, w3, e5.mono s.ext.see⟩
    | sf p c fs =>
      obtain ⟨C, dx, vs, e1, e2, e3, e4, e6, e5⟩ := this
      obtain ⟨w1, w2, w3⟩ := own p _ e2 (fun _ z => by cases z) e3 e4
      exact ⟨C, dx, vs, e1, w1, w2, w3, e6, e5.mono s.ext.see⟩
    | od ks =>
      obtain ⟨p, vs, e1, e2, e3, e4, e5⟩ := this
      obtain ⟨w1, w2, w3⟩ := own p _ e2 (fun _ z => by cases z) e3 e4
      exact ⟨p, vs, e1, w1, w2, w3, e5.mono s.ext.see⟩
  · obtain ⟨q1, q2, q3, _⟩ := s.cells a c hc
    exact ⟨q1, q2, q3, h0in a (List.mem_map.mpr ⟨(a, c), hc, rfl⟩)⟩
def StOk (g : G) (H Hv : Hp) (ω : Om) : Prop := (ω.map (·.1)).Nodup ∧ ∀ a c, (a, c) ∈ ω → (a ≠ g.pd ∧ a ≠ g.pc) ∧ (∃ o, H a = some o ∧ CellOk g Hv o c) ∧ Hv a = none
theorem RelS.ok {g : G} {H0 Hv0 : Hp} {σ : L2.St} {H Hv : Hp} {δ : DS} {ω : Om} {n : Nat} (r : RelS g H0 Hv0 σ H Hv δ ω n) : StOk g H Hv ω := ⟨r.nd, fun a c h => ⟨(r.cells a c h).1, (r.cells a c h).2.1, (r.cells a c h).2.2.1⟩⟩
abbrev MN := List D → Om → Nat → (D → Om → Nat → Prop) → XDs → Prop
section
variable {P : Program} {w : World} {K : PySem.W.Frag} {mg : Str → Option Value} {base : Heap} {kn : Kn} {x qual : Str} {st : Stmt} {f : Addr} {fd : FuncData} {N ps : List Str} {k m nn : Nat} {t : DTs} {U : MN}
end
abbrev DAs := DS → Om → Nat → (List D → Om → Nat → Prop) → XDs → Prop
theorem EOkN.see {Z : Zx} {σ : L2.St} {δ : DS} {Hv Hv' : Hp} {E : XDs} (h : EOkN Z σ δ Hv E) (s : Same Hv Hv') : EOkN Z σ δ Hv' E := fun c fs ω' n' cls dd H' Hv2 a r s2 x => h c fs ω' n' cls dd H' Hv2 a r (s.trans s2) x
section
variable {X : Cx} {Z : Zx} {e : Expr} {es : List Expr} {de : DEs} {ra : DAs} {x : Str} {ps : List Str} {kn : Kn} {U : MN} {k : Nat} {p pos : Pos}
end
section
variable {X : Cx} {Z : Zx} {o e : Expr} {es : List Expr} {pos apos cpos epos : Pos} {dO de : DEs} {ra : DAs} {C : Addr} {kn : Kn} {U : MN}
end
theorem cutH_nil (H : Hp) : cutH H [] = H := by
  funext a
  exact cutH_out (by simp)
theorem StS.old {g : G} {H Hv H' Hv' : Hp} {ω : Om} {n : Nat} (s : StS g (cutH H []) Hv H' Hv' ω n) : Ext g H Hv H' Hv' := by
  have hin : ∀ b, b ∈ ω.map (·.1) → Hv' b = none ∧ H b = none := fun b hb => by
    obtain ⟨q, hq, rfl⟩ := List.mem_map.mp hb
    obtain ⟨_, _, h3, h4⟩ := s.cells q.1 q.2 hq
    rw [cutH_nil] at h4
    exact ⟨h3, h4⟩
  have e := s.ext
  rw [cutH_nil] at e
  refine ⟨fun b o hb h => ?_, e.see, e.sub, fun b hb hn => ?_, e.nt⟩
  · have hw : b ∉ ω.map (·.1) := fun z => by rw [(hin b z).2] at h; cases h
    exact e.but b o hb (by rw [addH_out hw]; exact h)
  · by_cases hw : b ∈ ω.map (·.1)
    · exact (hin b hw).1
    · exact e.hid b hb (by rw [addH_out hw]; exact hn)
section
variable {P : Program} {w : World} {K : PySem.W.Frag} {mg : Str → Option Value} {base : Heap} {kn : Kn} {x qual : Str} {st : Stmt} {f : Addr} {fd : FuncData} {N ps : List Str} {k m nn : Nat} {t : DTs}
end
section
variable {X : Cx} {Z : Zx} {o i value : Expr} {pos pos' : Pos} {dO di dv : DEs}
end
def dropC (ω : Om) (a : Addr) : Om := ω.filter fun q => decide (q.1 ≠ a)
theorem dropC_mem {ω : Om} {a b : Addr} : b ∈ (dropC ω a).map (·.1) ↔ b ∈ ω.map (·.1) ∧ b ≠ a := by
  unfold dropC
  simp only [List.mem_map, List.mem_filter, decide_eq_true_eq]
  constructor
  · rintro ⟨q, ⟨h1, h2⟩, rfl⟩; exact ⟨⟨q, h1, rfl⟩, h2⟩
  · rintro ⟨⟨q, h1, rfl⟩, h2⟩; exact ⟨q, ⟨h1, h2⟩, rfl⟩
theorem RelS.take {g : G} {H0 Hv0 : Hp} {σ : L2.St} {H Hv : Hp} {δ : DS} {ω : Om} {n i : Nat} {a b : Addr} {q : Str} {ds : List D} (r : RelS g H0 Hv0 σ H Hv δ ω n) (hm : (a, Cell.ls ds) ∈ ω) (hi : δ[i]? = some (some (.sh (.fn a b q)))) :
    RelS g H0 Hv0 σ H Hv (δ.set i (some (.ow ds))) (dropC ω a) n := by
  obtain ⟨np, ⟨o, h1, h2⟩, h3, h4⟩ := r.cells a _ hm
  obtain ⟨vs, rfl, h5⟩ := h2
  have R := r.rel
  have am : a ∈ ω.map (·.1) := List.mem_map.mpr ⟨(a, _), hm, rfl⟩
  have na : a ∉ (dropC ω a).map (·.1) := fun z => (dropC_mem.mp z).2 rfl
  have eq : ∀ c, c ≠ a → addH H0 H (dropC ω a) c = addH H0 H ω c := fun c hc => by
    by_cases h : c ∈ ω.map (·.1)
    · rw [addH_in h, addH_in (dropC_mem.mpr ⟨h, hc⟩)]
    · rw [addH_out h, addH_out fun z => h (dropC_mem.mp z).1]
  have eqa : addH H0 H (dropC ω a) a = none := by rw [addH_out na]; exact h4
  have own : ∀ p, addH H0 H ω p = none → addH H0 H (dropC ω a) p = none := fun p hp => by
    by_cases h : p = a
    · rw [h]; exact eqa
    · rw [eq p h]; exact hp
  have ext : Ext g (addH H0 H (dropC ω a)) Hv0 H Hv := by
    refine ⟨fun c u hc e => ?_, R.ext.see, R.ext.sub, fun c hc hn => ?_, R.ext.nt⟩
    · have : c ≠ a := fun z => by rw [z, eqa] at e; cases e
      rw [eq c this] at e
      exact R.ext.but c u hc e
    · have : c ≠ a := fun z => by rw [z, eqa] at hn; exact hn rfl
      rw [eq c this] at hn
      exact R.ext.hid c hc hn
  have r0 : Rel g (addH H0 H (dropC ω a)) Hv0 σ H Hv δ n := by
    refine ⟨ext, R.pen, by rw [eq _ (Ne.symm np.1)]; exact R.pd0, by rw [eq _ (Ne.symm np.2)]; exact R.pc0, R.npd, R.len, fun j s hs => ?_, R.dist⟩
    have := R.sl j s hs
    cases s with
    | sh d => exact this
    | ow ds => obtain ⟨p, vs, e1, e2, e3, e4, e5⟩ := this; exact ⟨p, vs, e1, e2, e3, own p e4, e5⟩
    | sf p c fs => obtain ⟨C, dx, vs, e1, e2, e3, e4, e6, e5⟩ := this; exact ⟨C, dx, vs, e1, e2, e3, own p e4, e6, e5⟩
    | od ks => obtain ⟨p, vs, e1, e2, e3, e4, e5⟩ := this; exact ⟨p, vs, e1, e2, e3, own p e4, e5⟩
  have hσ : σ[i]? = some (some (.ref a)) := by
    obtain ⟨u, e1, e2⟩ := R.sl i _ hi
    cases e2
    cases z : σ[i]? with
    | none => rw [z] at e1; cases e1
    | some o => rw [z] at e1; exact congrArg some e1
  have fr : ∀ (j : Nat) (s : Sl), δ[j]? = some (some s) → s.own = true → σ[j]? ≠ some (some (.ref a)) := fun j s hs os z => by
    have := R.sl j s hs
    have hz : (σ[j]?).join = some (.ref a) := by rw [z]; rfl
    have bad : addH H0 H ω a ≠ none := by rw [addH_in am, h1]; simp
    cases s with
    | sh d => cases os
    | ow ds => obtain ⟨p, vs, e1, _, _, e4, _⟩ := this; rw [hz] at e1; cases e1; exact bad e4
    | sf p c fs => obtain ⟨C, dx, vs, e1, _, _, e4, _⟩ := this; rw [hz] at e1; cases e1; exact bad e4
    | od ks => obtain ⟨p, vs, e1, _, _, e4, _⟩ := this; rw [hz] at e1; cases e1; exact bad e4
  have es : σ.set i (some (.ref a)) = σ := by
    obtain ⟨hl, e⟩ := List.getElem?_eq_some_iff.mp hσ
    rw [← e]
    exact List.set_getElem_self hl
  have r1 := r0.setOw (i := i) h1 h3 eqa h5 fr
  rw [es] at r1
  refine ⟨r1, ?_, fun c d hc => ?_⟩
  · exact List.Nodup.sublist ((List.filter_sublist).map _) r.nd
  · exact r.cells c d (List.mem_filter.mp hc).1
theorem StS.drop {g : G} {H0 Hv0 H' Hv' : Hp} {ω : Om} {n : Nat} (s : StS g H0 Hv0 H' Hv' ω n) : Ext g H0 Hv0 H' Hv' := by
  have hin : ∀ b, b ∈ ω.map (·.1) → Hv' b = none ∧ H0 b = none := fun b hb => by
    obtain ⟨q, hq, rfl⟩ := List.mem_map.mp hb
    obtain ⟨_, _, h3, h4⟩ := s.cells q.1 q.2 hq
    exact ⟨h3, h4⟩
  have e := s.ext
  refine ⟨fun b o hb h => ?_, e.see, e.sub, fun b hb hn => ?_, e.nt⟩
  · have hw : b ∉ ω.map (·.1) := fun z => by rw [(hin b z).2] at h; cases h
    exact e.but b o hb (by rw [addH_out hw]; exact h)
  · by_cases hw : b ∈ ω.map (·.1)
    · exact (hin b hw).1
    · exact e.hid b hb (by rw [addH_out hw]; exact hn)
theorem RelS.drop {g : G} {H0 Hv0 : Hp} {σ : L2.St} {H Hv : Hp} {δ : DS} {ω : Om} {n : Nat} (r : RelS g H0 Hv0 σ H Hv δ ω n) : Rel g H0 Hv0 σ H Hv δ n := by
  have R := r.rel
  have npd : g.pd ∉ ω.map (·.1) := fun z => by
    obtain ⟨q, hq, e⟩ := List.mem_map.mp z
    exact (r.cells q.1 q.2 hq).1.1 e
  have npc : g.pc ∉ ω.map (·.1) := fun z => by
    obtain ⟨q, hq, e⟩ := List.mem_map.mp z
    exact (r.cells q.1 q.2 hq).1.2 e
  have own : ∀ p, addH H0 H ω p = none → H0 p = none := fun p h => by
    by_cases hw : p ∈ ω.map (·.1)
    · obtain ⟨q, hq, rfl⟩ := List.mem_map.mp hw
      exact (r.cells q.1 q.2 hq).2.2.2
    · rwa [addH_out hw] at h
  have pd0 := R.pd0
  have pc0 := R.pc0
  rw [addH_out npd] at pd0
  rw [addH_out npc] at pc0
  refine ⟨r.st.drop, R.pen, pd0, pc0, R.npd, R.len, fun j s hs => ?_, R.dist⟩
  have := R.sl j s hs
  cases s with
  | sh d => exact this
  | ow ds => obtain ⟨p, vs, e1, e2, e3, e4, e5⟩ := this; exact ⟨p, vs, e1, e2, e3, own p e4, e5⟩
  | sf p c fs => obtain ⟨C, dx, vs, e1, e2, e3, e4, e6, e5⟩ := this; exact ⟨C, dx, vs, e1, e2, e3, own p e4, e6, e5⟩
  | od ks => obtain ⟨p, vs, e1, e2, e3, e4, e5⟩ := this; exact ⟨p, vs, e1, e2, e3, own p e4, e5⟩
theorem addH_nil (H0 H : Hp) : addH H0 H [] = H0 := by
  funext a
  exact addH_out (by simp)
theorem Rel.empty {g : G} {H0 Hv0 : Hp} {σ : L2.St} {H Hv : Hp} {δ : DS} {n : Nat} (r : Rel g H0 Hv0 σ H Hv δ n) : RelS g H0 Hv0 σ H Hv δ [] n :=
  ⟨by rw [addH_nil]; exact r, List.nodup_nil, fun _ _ h => by cases h⟩
section
variable {X : Cx} {Z : Zx} {st : Stmt} {t : DTs}
end
def itemD (kv : Key × D) : D := .tup [keyD kv.1, kv.2]
def gItems : List D → Option (List D)
  | [.dct ks] => some (ks.map itemD)
  | _ => none
theorem DvK.getV {g : G} {H : Hp} : ∀ {ks : List (Key × D)} {kvs : List (Key × V)}, DvK g H kvs ks → ∀ {i : Nat} {q : Key} {u : V}, kvs[i]? = some (q, u) → ∃ d, ks[i]? = some (q, d) ∧ Dv g H u d
  | _, _, .nil, i, q, u, e => by simp at e
  | _, _, .cons a b, i, q, u, e => by
    cases i with
    | zero => rw [List.getElem?_cons_zero] at e; cases e; exact ⟨_, by rw [List.getElem?_cons_zero], a⟩
    | succ i =>
      rw [List.getElem?_cons_succ] at e
      obtain ⟨d, h1, h2⟩ := DvK.getV b e
      exact ⟨d, by rw [List.getElem?_cons_succ]; exact h1, h2⟩
section
variable {X : Cx} {Z : Zx} {e tge : Expr} {de : DE}
end
def dLR2 (a b : DE) : DE := fun δ n P E => a δ n (fun x n1 => b δ n1 (fun y n2 => ∃ i j, x = .int i ∧ y = .int j ∧ RgOk i j ∧ P (.lst (intsD i (j - i).toNat)) n2) E) E
def dLR1 (a : DE) : DE := fun δ n P E => a δ n (fun x n1 => ∃ j, x = .int j ∧ RgOk 0 j ∧ P (.lst (intsD 0 j.toNat)) n1) E
section
variable {X : Cx} {Z : Zx} {a b : Expr} {da db : DE} {p p2 pos pos2 : Pos}
def truD : D → Option Bool
  | .non => some false
  | .bl b => some b
  | .int i => some (i != 0)
  | .lst xs => some (!xs.isEmpty)
  | .tup xs => some (!xs.isEmpty)
  | _ => none
def dOrV (a b : DE) : DE := fun δ n P E => a δ n (fun x n1 => ∃ k, truD x = some k ∧ if k = true then P x n1 else b δ n1 P E) E
def maxDef (k : Int) : List Int → Int
  | [] => k
  | y :: ys => ys.foldl max y
def dMaxDef (a b : DE) : DE := fun δ n P E => a δ n (fun x n1 => b δ n1 (fun y n2 => ∃ bs k, x = .lst (bs.map D.int) ∧ y = .int k ∧ P (.int (maxDef k bs)) n2) E) E
end
end Dn
namespace SrtQ
open PySem PySem.Spec PyProof.Rows L2
open SrtO hiding Str
variable {prog : Program} {w : World} {A : Around} {s : Shared} {E : Value → Shared → Prop}
def IsO : Option Int → Value → Prop
  | none, v => v = .none
  | some j, v => ∃ t, v = .int j t
def IsPairQ (h : Heap) (v : Value) (x : Int) (y : Option Int) : Prop := ∃ a o t u n, v = .ref a ∧ h.get? a = some o ∧ o.cls = .type "tuple" ∧ o.data = .seq #[.int x t, u] n ∧ IsO y u
theorem IsPairQ.keeps {h h' : Heap} {v : Value} {x : Int} {y : Option Int} (p : IsPairQ h v x y) (k : ∀ b o, h.get? b = some o → o.cls = .type "tuple" → h'.get? b = some o) : IsPairQ h' v x y := by
  obtain ⟨a, o, t, u, n, e, ho, hc, hd, hu⟩ := p
  exact ⟨a, o, t, u, n, e, k _ _ ho hc, hc, hd, hu⟩
def ltO : Option Int → Option Int → Bool
  | none, some _ => true
  | some a, some b => decide (a < b)
  | _, _ => false
def lexQ (p q : Int × Option Int) : Bool := if p.1 = q.1 then ltO p.2 q.2 else decide (p.1 < q.1)
def CmpQ (p q : Int × Option Int) : Prop := p.1 = q.1 → p.2 = q.2 ∨ (p.2.isSome = true ∧ q.2.isSome = true)
theorem swo_lexQ {α : Type} (k : α → Int × Option Int) : Swo fun v u => lexQ (k v) (k u) := by
  refine ⟨fun x y h => ?_, fun x y z h1 h2 => ?_⟩
  · show lexQ (k y) (k x) = false
    have h : lexQ (k x) (k y) = true := h
    unfold lexQ at h ⊢
    generalize k x = p at h ⊢
    generalize k y = q at h ⊢
    obtain ⟨p1, p2⟩ := p
    obtain ⟨q1, q2⟩ := q
    simp only at h ⊢
    by_cases e : p1 = q1
    · rw [if_pos e] at h
      rw [if_pos e.symm]
      cases p2 <;> cases q2 <;> simp [ltO] at h ⊢
      omega
    · rw [if_neg e, decide_eq_true_eq] at h
      rw [if_neg (Ne.symm e), decide_eq_false_iff_not]
      omega
  · show lexQ (k z) (k x) = false
    have h1 : lexQ (k y) (k x) = false := h1
    have h2 : lexQ (k z) (k y) = false := h2
    unfold lexQ at h1 h2 ⊢
    generalize k x = p at h1 h2 ⊢
    generalize k y = q at h1 h2 ⊢
    generalize k z = r at h1 h2 ⊢
    obtain ⟨p1, p2⟩ := p
    obtain ⟨q1, q2⟩ := q
    obtain ⟨r1, r2⟩ := r
    simp only at h1 h2 ⊢
    by_cases e1 : q1 = p1
    · subst e1
      rw [if_pos rfl] at h1
      by_cases e2 : r1 = q1
      · subst e2
        rw [if_pos rfl] at h2 ⊢
        cases p2 <;> cases q2 <;> cases r2 <;> simp [ltO] at h1 h2 ⊢
        omega
      · rw [if_neg e2] at h2 ⊢
        exact h2
    · rw [if_neg e1, decide_eq_false_iff_not] at h1
      by_cases e2 : r1 = q1
      · subst e2
        rw [if_neg e1, decide_eq_false_iff_not]
        omega
      · rw [if_neg e2, decide_eq_false_iff_not] at h2
        have : ¬ r1 = p1 := by omega
        rw [if_neg this, decide_eq_false_iff_not]
        omega
theorem pairQ_cmp {vs : List Value} {k : Value → Int × Option Int} (hp : ∀ v ∈ vs, IsPairQ s.heap v (k v).1 (k v).2) (hc : ∀ v ∈ vs, ∀ u ∈ vs, CmpQ (k v) (k u)) : SrtO.Cmp prog w A s (tuples' true) (fun p => p.1 ∈ vs) (lt2 fun v u => lexQ (k v) (k u)) := by
  intro p q hm hm'
  have h1 := hp _ hm
  have h2 := hp _ hm'
  have h3 := hc _ hm _ hm'
  show wpAny (model prog w) A (keyLt' (tuples' true) p.1 q.1) (fun r s' => s' = s ∧ r = lexQ (k p.1) (k q.1)) (fun _ _ => False) s
  unfold lexQ
  unfold CmpQ at h3
  generalize (k p.1).1 = x at h1 h3 ⊢
  generalize (k p.1).2 = y at h1 h3 ⊢
  generalize (k q.1).1 = x' at h2 h3 ⊢
  generalize (k q.1).2 = y' at h2 h3 ⊢
  obtain ⟨a, o, t, u, n, e, ho, hc, hd, hu⟩ := h1
  obtain ⟨a', o', t', u', n', e', ho', hc', hd', hu'⟩ := h2
  rw [e, e']
  refine PySem.W.kat_lt ho hd ho' hd' ?_
  show PySem.W.KatLex prog w A true (decide (2 < 2)) _ [(.int x t, .int x' t'), (u, u')] 0 s
  refine PySem.W.kat_cons (SeqAt.EqAt.int_int x t x' t' prog w _ _ ?_)
  refine PySem.W.kat_go (fun e1 => ?_) (fun e1 => ?_)
  · have ex : x = x' := by simpa using e1
    have ite : (if x = x' then ltO y y' else decide (x < x')) = ltO y y' := if_pos ex
    rw [ite]
    cases y with
    | none =>
      have hu : u = .none := hu
      subst hu
      cases y' with
      | none =>
        have hu' : u' = .none := hu'
        subst hu'
        refine PySem.W.kat_yes (PySem.W.kat_cons (SeqAt.EqAt.same .none prog w _ _ ?_))
        exact PySem.W.kat_yes (PySem.W.kat_nil ⟨rfl, rfl⟩)
      | some j =>
        rcases h3 ex with z | ⟨z, _⟩ <;> cases z
    | some i =>
      obtain ⟨tu, rfl⟩ := hu
      cases y' with
      | none => rcases h3 ex with z | ⟨_, z⟩ <;> cases z
      | some j =>
        obtain ⟨tu', rfl⟩ := hu'
        refine PySem.W.kat_yes (PySem.W.kat_cons (SeqAt.EqAt.int_int i tu j tu' prog w _ _ ?_))
        refine PySem.W.kat_go (fun e2 => ?_) (fun e2 => ?_)
        · have ey : i = j := by simpa using e2
          have e3 : ltO (some i) (some j) = false := by rw [ey]; exact decide_eq_false (Int.lt_irrefl _)
          exact PySem.W.kat_yes (PySem.W.kat_nil ⟨rfl, e3.symm⟩)
        · refine PySem.W.kat_no (PySem.W.kat_one _ _ (PyProof.Rows.lt_int ?_))
          exact ⟨rfl, rfl⟩
  · have ex : ¬ x = x' := by simpa using e1
    have e3 : (if x = x' then ltO y y' else decide (x < x')) = decide (x < x') := if_neg ex
    exact PySem.W.kat_no (oneLt_int ⟨rfl, e3.symm⟩)
theorem firstsQ_of {h : Heap} : ∀ {vs : List Value}, (∀ v ∈ vs, ∃ x y, IsPairQ h v x y) → ∃ fs : List Value, PySem.W.KatTups h vs fs ∧ fs.length = vs.length ∧ ∀ f ∈ fs, ∃ x t, f = Value.int x t
  | [], _ => ⟨[], PySem.W.KatTups.nil, rfl, fun _ hm => by simp at hm⟩
  | v :: vs, hp => by
    obtain ⟨fs, h1, h2, h3⟩ := firstsQ_of (vs := vs) fun v' hm => hp v' (List.mem_cons_of_mem _ hm)
    obtain ⟨x, y, a, o, t, u, n, e, ho, hc, hd, hu⟩ := hp v (List.mem_cons_self ..)
    subst e
    refine ⟨.int x t :: fs, PySem.W.KatTups.cons ho hc hd rfl h1, by rw [List.length_cons, List.length_cons, h2], fun f hm => ?_⟩
    rcases List.mem_cons.mp hm with rfl | hm
    · exact ⟨x, t, rfl⟩
    · exact h3 f hm
theorem pairsQ_sortableO {a : Addr} {vs : List Value} {k : Value → Int × Option Int} (h0 : 0 < vs.length) (hp : ∀ v ∈ vs, IsPairQ s.heap v (k v).1 (k v).2) (hc : ∀ v ∈ vs, ∀ u ∈ vs, CmpQ (k v) (k u)) (ha : ∀ o, s.heap.get? a = some o → o.cls ≠ .type "tuple") : SortableO prog w A s a vs fun v u => lexQ (k v) (k u) := by
  intro h' keep
  have hp' : ∀ v ∈ vs, IsPairQ h' v (k v).1 (k v).2 := fun v hm => (hp v hm).keeps fun b o e c => keep b o (fun z => by subst z; exact ha o e c) e
  obtain ⟨fs, h1, h2, h3⟩ := firstsQ_of fun v hm => ⟨_, _, hp' v hm⟩
  refine ⟨tuples' true, fun Q E hq => ?_, pairQ_cmp hp' hc⟩
  refine PySem.W.kat_kind (T := .type "int") h1 (by omega) (fun f hm => ?_) (by rfl) ?_
  · obtain ⟨x, t, rfl⟩ := h3 f hm
    exact PySem.W.Looks.now
  · have e : (Value.type "int" != Value.type "tuple") = true := by first | decide +kernel | rfl | decide
    rw [e]
    exact hq
theorem sorted_pairsQ {l : Addr} {vs : List Value} {k : Value → Int × Option Int} {Q : Value → Shared → Prop} (hl : s.heap.IsList l vs.toArray) (hz : vs.length ≤ sizeLine) (hp : ∀ v ∈ vs, IsPairQ s.heap v (k v).1 (k v).2) (hc : ∀ v ∈ vs, ∀ u ∈ vs, CmpQ (k v) (k u))
    (h : ∀ (h' : Heap) (d : Addr) (out : List Value), Srtd (fun v u => lexQ (k v) (k u)) out → Stb (fun v u => lexQ (k v) (k u)) out vs → (∀ b o, s.heap.get? b = some o → h'.get? b = some o) → s.heap.objs.size ≤ d → (∃ n, h'.get? d = some (seqObj "list" out.toArray n)) → Q (.ref d) { s with heap := h' }) :
    wpAny (model prog w) A (call (.builtin "sorted") [.ref l]) Q E s := by
  refine sorted_ord (swo_lexQ k) hl hz (fun h2 h₁ a ha kk => ?_) fun out hs hb => ?_
  · refine pairsQ_sortableO (s := { s with heap := h₁ }) (by omega) (fun v hm => (hp v hm).keeps fun b o e _ => (kk b o e).2) hc fun o e => ?_
    have e' : some o = some (seqObj "list" vs.toArray 0) := e.symm.trans ha
    cases e'
    intro c
    exact absurd (Value.type.inj c) (by decide)
  · exact h _ _ out hs hb (fun b o e => sortedAll_old e) (Nat.le_succ _) (sortedAll_at s.heap vs out.toArray)
end SrtQ
namespace L2
open PySem PySem.Spec PyProof.Rows SrtQ
def pairQAt (h : Heap) : Value → Int × Option Int
  | .ref a => match h.get? a with
    | some o => match o.data with
      | .seq its _ => match its.toList with
        | [.int x _, .int y _] => (x, some y)
        | [.int x _, _] => (x, none)
        | _ => (0, none)
      | _ => (0, none)
    | none => (0, none)
  | _ => (0, none)
def oV : Option Int → V
  | none => .non
  | some j => .int j
inductive PrsQAt (K : PySem.W.Frag) (H : Hp) : List V → List (Int × Option Int) → Prop
  | nil : PrsQAt K H [] []
  | cons {t : Addr} {x : Int} {y : Option Int} {vs : List V} {ps : List (Int × Option Int)} : SqT K H t [.int x, oV y] → PrsQAt K H vs ps → PrsQAt K H (.ref t :: vs) ((x, y) :: ps)
theorem PrsQAt.refs {K : PySem.W.Frag} {H : Hp} : ∀ {vs : List V} {ps : List (Int × Option Int)}, PrsQAt K H vs ps → ∀ x ∈ vs, ∃ a, x = V.ref a
  | _, _, .nil, _, hm => by simp at hm
  | _, _, .cons h r, x, hm => by
    rcases List.mem_cons.mp hm with rfl | hm
    · exact ⟨_, rfl⟩
    · exact r.refs x hm
def rSortedQ (K : PySem.W.Frag) : List V → Hp → VK → Prop := fun vs H Q => ∃ (a : Addr) (xs : List V) (ps : List (Int × Option Int)), vs = [V.ref a] ∧ SqL K H a xs ∧ PrsQAt K H xs ps ∧ (∀ p ∈ ps, ∀ q ∈ ps, CmpQ p q) ∧
  ∀ (zs : List (V × (Int × Option Int))) p, zs.Perm (xs.zip ps) → SrtO.Srtd (fun x y : V × (Int × Option Int) => lexQ x.2 y.2) zs → H p = none → Q (.ref p) (upd H p (.lst (zs.map (·.1))))
theorem pairQAt_of {X : Cx} {pins : List (Addr × Obj)} {σ : L2.St} {H : Hp} {s : Shared} {t : Addr} {x : Int} {y : Option Int} (I : Inv X pins σ H s) (ht : SqT X.K H t [.int x, oV y]) : IsPairQ s.heap (.ref t) x y ∧ pairQAt s.heap (.ref t) = (x, y) := by
  obtain ⟨its2, r2, ⟨o, ho, hc, n, hd⟩, _⟩ := I.tuple ht
  obtain ⟨u1, u2, rfl, ri, rj⟩ := vals2 r2
  obtain ⟨t1, rfl⟩ := ri
  cases y with
  | none =>
    obtain rfl : u2 = Value.none := rj
    refine ⟨⟨t, o, t1, .none, n, rfl, ho, hc, hd, rfl⟩, ?_⟩
    unfold pairQAt
    simp only [ho, hd]
  | some j =>
    obtain ⟨t2, rfl⟩ := rj
    refine ⟨⟨t, o, t1, _, n, rfl, ho, hc, hd, ⟨t2, rfl⟩⟩, ?_⟩
    unfold pairQAt
    simp only [ho, hd]
theorem pairsQAt_of {X : Cx} {pins : List (Addr × Obj)} {σ : L2.St} {H : Hp} {s : Shared} (I : Inv X pins σ H s) : ∀ {xs : List V} {ps : List (Int × Option Int)} {us : List Value}, PrsQAt X.K H xs ps → Vals xs us →
    (∀ v ∈ us, IsPairQ s.heap v (pairQAt s.heap v).1 (pairQAt s.heap v).2) ∧ us.map (fun u => (backV u, pairQAt s.heap u)) = xs.zip ps
  | _, _, _, .nil, .nil => ⟨fun v hv => by simp at hv, rfl⟩
  | _, _, _, .cons (t := t) (x := x) (y := y) ht r, .cons (b := u) ru rr => by
    obtain rfl : u = Value.ref t := ru
    obtain ⟨h1, h2⟩ := pairQAt_of I ht
    obtain ⟨h3, h4⟩ := pairsQAt_of I r rr
    refine ⟨fun v hv => ?_, ?_⟩
    · rcases List.mem_cons.mp hv with rfl | hv
      · rw [h2]; exact h1
      · exact h3 v hv
    · rw [List.map_cons, List.zip_cons_cons, h4, h2]
      rfl
theorem cr_sortedQ {X : Cx} : CallR X (.builtin "sorted") (rSortedQ X.K) := by
  intro pins s σ H vs us Q I r h
  obtain ⟨a, xs, ps, rfl, hs, hx, hcm, q⟩ := h
  obtain ⟨its, rv, hl, hz⟩ := I.list hs
  obtain ⟨u, rfl, ru⟩ := vals1 r
  obtain rfl : u = Value.ref a := ru
  obtain ⟨e1, e2⟩ := refs_back rv hx.refs
  obtain ⟨w1, w2⟩ := pairsQAt_of I hx rv
  have lx : xs.length = ps.length := by
    have gen : ∀ {vs : List V} {ps : List (Int × Option Int)}, PrsQAt X.K H vs ps → vs.length = ps.length := fun {vs ps} z => by
      induction z with
      | nil => rfl
      | cons _ _ ih => rw [List.length_cons, List.length_cons, ih]
    exact gen hx
  have mem : ∀ v ∈ its, pairQAt s.heap v ∈ ps := fun v hv => by
    have : (backV v, pairQAt s.heap v) ∈ xs.zip ps := by rw [← w2]; exact List.mem_map.mpr ⟨v, hv, rfl⟩
    exact (List.of_mem_zip this).2
  refine sorted_pairsQ (k := pairQAt s.heap) hl.isList (by rw [← rv.length]; exact hz) w1 (fun v hv u hu => hcm _ (mem v hv) _ (mem u hu)) fun h' d out h1 h2 kp hd hn => ?_
  have h3 : ∀ u ∈ out, ∃ a, u = Value.ref a := fun u hu => e2 u (h2.perm.mem_iff.mp hu)
  obtain ⟨n, hn⟩ := hn
  have hq := q (out.map fun u => (backV u, pairQAt s.heap u)) d (by rw [← w2]; exact h2.perm.map _) (List.pairwise_map.mpr h1) (I.hok.fresh hd)
  rw [List.map_map] at hq
  refine ⟨.ref d, upd H d (.lst (out.map backV)), I.laid (t' := s.toks) kp hd ⟨?_, out, n, vals_back h3, hn⟩, rfl, hq⟩
  rw [List.length_map, h2.len, ← rv.length]
  exact hz
end L2
namespace Dn
open PySem PySem.Spec PyProof.Rows L2 Br LamX SrtQ
def optD : Option Int → D
  | none => .non
  | some j => .int j
def pairO (p : Int × Option Int) : D := .tup [.int p.1, optD p.2]
theorem optD_dv {g : G} {H : Hp} {v : V} {y : Option Int} (h : Dv g H v (optD y)) : v = oV y := by
  cases y <;> cases h <;> rfl
def dSortQ (a : DE) : DE := fun δ n P E => a δ n (fun x n' => ∃ ps : List (Int × Option Int), x = .lst (ps.map pairO) ∧ (∀ p ∈ ps, ∀ q ∈ ps, CmpQ p q) ∧ ∀ qs : List (Int × Option Int), qs.Perm ps → qs.Pairwise (fun x y => lexQ y x = false) → P (.lst (qs.map pairO)) n') E
theorem prsQAt_dv {g : G} {H : Hp} {K : PySem.W.Frag} (zk : g.K = K) : ∀ {ps : List (Int × Option Int)} {vs : List V}, DvAll g H vs (ps.map pairO) → PrsQAt K H vs ps ∧ ∀ z ∈ vs.zip ps, Dv g H z.1 (pairO z.2)
  | [], _, .nil => ⟨.nil, fun z hz => by simp at hz⟩
  | (x, y) :: ps, _, .cons c d => by
    obtain ⟨h1, h2⟩ := prsQAt_dv zk d
    have c' := c
    unfold pairO at c
    cases c with
    | @tup a vs _ hh k =>
      cases k with
      | cons k1 k2 =>
        cases k2 with
        | cons k3 k4 =>
          cases k4
          cases k1
          have k3 := optD_dv k3
          subst k3
          refine ⟨.cons (zk ▸ hh) h1, fun z hz => ?_⟩
          rw [List.zip_cons_cons] at hz
          rcases List.mem_cons.mp hz with rfl | hz
          · exact c'
          · exact h2 z hz
theorem dvAll_zipQ {g : G} {H : Hp} : ∀ {zs : List (V × (Int × Option Int))}, (∀ z ∈ zs, Dv g H z.1 (pairO z.2)) → DvAll g H (zs.map (·.1)) ((zs.map (·.2)).map pairO)
  | [], _ => .nil
  | z :: zs, h => .cons (h z (by simp)) (dvAll_zipQ fun y hy => h y (by simp [hy]))
section
variable {X : Cx} {Z : Zx} {e a b : Expr} {pos p : Pos} {de da db : DE}
theorem d_sortQ (zk : Z.g.K = X.K) (hg : Gl X "sorted") (hm : X.mg "sorted" = none) (ha : PE X a (lift Z da)) (h1 : starEach [a] X.env = (false, eval a X.env) :: starEach [] X.env := by rfl) (hpl : (backTo pos (starEach [] X.env)).any (·.1) = false := by rfl) :
    PE X (.Call (.Name "sorted" p) [a] [] pos) (lift Z (dSortQ da)) :=
  up (pe_callB cr_sortedQ hg hm (by decide +kernel) (pa_cons ha pa_nil h1) (by decide) (by decide) h1 hpl) fun σ H Q ⟨δ, Hv, n, P, E, rr, h1, q, x⟩ => ⟨δ, Hv, n, _, E, rr, h1, (fun d v H' Hv' n' h2 e p k => by
    obtain ⟨ps, rfl, hcm, h3⟩ := h2
    cases k with
    | @lst a vs _ ha kk =>
      obtain ⟨w1, w2⟩ := prsQAt_dv zk kk
      have lz : (vs.zip ps).map (·.2) = ps := by
        rw [List.map_snd_zip]
        rw [kk.len, List.length_map]
        exact Nat.le_refl _
      have w1' : PrsQAt X.K H' vs ps := by
        have mono : ∀ {vs : List V} {ps : List (Int × Option Int)}, PrsQAt X.K Hv' vs ps → PrsQAt X.K H' vs ps := fun {vs ps} z => by
          induction z with
          | nil => exact .nil
          | cons h _ ih => exact .cons (same_seqT e.sub h) ih
        exact mono w1
      refine ⟨a, vs, ps, rfl, .inl (.inl (e.sub _ _ ha)), w1', hcm, fun zs p0 hp hs hn => ?_⟩
      have := gives_of (q.step e p) p (h3 (zs.map (·.2)) (by rw [← lz]; exact hp.map _) (List.pairwise_map.mpr hs))
      exact this.lst e.sub hn (dvAll_zipQ fun z hz => w2 z (hp.mem_iff.mp hz))), x⟩
end
end Dn
namespace L2
open PySem PySem.Spec PyProof.Rows
def leB (a b : Bool) : Bool := !a || b
end L2
namespace Dn
open PySem PySem.Spec PyProof.Rows L2 Br
def dSortB (a : DE) : DE := fun δ n P E => a δ n (fun x n' => ∃ bs : List Bool, x = .lst (bs.map .bl) ∧ ∀ ys : List Bool, ys.Perm bs → ys.Pairwise (fun x y => leB x y = true) → P (.lst (ys.map .bl)) n') E
end Dn
namespace Dn
open PySem PySem.Spec PyProof.Rows L2 Br LamX
section
variable {X : Cx} {Z : Zx}
def dPar5O (i1 i2 i3 i4 i5 : Nat) (o1 o2 o3 o4 o5 : DO) : DT := fun F δ n => o1 δ n (fun x1 n1 => o2 δ n1 (fun x2 n2 => o3 δ n2 (fun x3 n3 => o4 δ n3 (fun x4 n4 => o5 δ n4 (fun x5 n5 => F.nx (((((δ.set i1 (some x1)).set i2 (some x2)).set i3 (some x3)).set i4 (some x4)).set i5 (some x5)) n5) (F.xe δ)) (F.xe δ)) (F.xe δ)) (F.xe δ)) (F.xe δ)
def dPar6O (i1 i2 i3 i4 i5 i6 : Nat) (o1 o2 o3 o4 o5 o6 : DO) : DT := fun F δ n => o1 δ n (fun x1 n1 => o2 δ n1 (fun x2 n2 => o3 δ n2 (fun x3 n3 => o4 δ n3 (fun x4 n4 => o5 δ n4 (fun x5 n5 => o6 δ n5 (fun x6 n6 => F.nx ((((((δ.set i1 (some x1)).set i2 (some x2)).set i3 (some x3)).set i4 (some x4)).set i5 (some x5)).set i6 (some x6)) n6) (F.xe δ)) (F.xe δ)) (F.xe δ)) (F.xe δ)) (F.xe δ)) (F.xe δ)
end
end Dn
namespace PySem
namespace BrX
open PySem.W PySem.Calls PyProof.Rows PySem.HandSPX PySem.OEX
end BrX
end PySem
namespace Dn
open PySem PySem.Spec PyProof.Rows L2 Br LamX
def gCDGet1 (ks : List (Key × D)) : List D → Option D
  | [d] => (dKey d).map fun q => (valD ks q).getD .non
  | _ => none
section
variable {X : Cx} {Z : Zx} {i : Expr} {pos p : Pos} {dk : DE} {x : Str} {ks : List (Key × D)}
end
theorem x_items {ks : List (Key × D)} : gItems [.dct ks] = some (ks.map itemD) := rfl
theorem x_truN : truD .non = some false := rfl
theorem x_truT {xs : List D} : truD (.tup xs) = some (!xs.isEmpty) := rfl
theorem x_truL {xs : List D} : truD (.lst xs) = some (!xs.isEmpty) := rfl
theorem x_cdget1 {ks : List (Key × D)} {x : Str} : gCDGet1 ks [.str x] = some ((valD ks (.inr x)).getD .non) := rfl
def dLput2 (i : Nat) (k1 k2 v : DE) : DT := fun F δ n => ∃ ds, δ[i]? = some (some (.ow ds)) ∧ v δ n (fun y n1 => ∃ y1 y2, y = .tup [y1, y2] ∧ k1 δ n1 (fun q n2 => ∃ z j, q = .int z ∧ ixN ds.length z = some j ∧
  k2 (δ.set i (some (.ow (ds.set j y1)))) n2 (fun q' n3 => ∃ z' j', q' = .int z' ∧ ixN ds.length z' = some j' ∧ F.nx (δ.set i (some (.ow ((ds.set j y1).set j' y2)))) n3) (F.xe (δ.set i (some (.ow (ds.set j y1)))))) (F.xe δ)) (F.xe δ)
section
variable {X : Cx} {Z : Zx} {i1 i2 value : Expr} {pos p p2 pos' pos2 pt : Pos} {dk dk2 dv : DE} {x : Str} {j kt : Nat}
end
end Dn
namespace Dn
open PySem PySem.Spec PyProof.Rows L2 Br
section
variable {X : Cx} {Z : Zx} {a : Expr} {pos p0 : Pos} {da : DE} {g : G}
def pairsK : List D → Option (List (Key × D))
  | [] => some []
  | .tup [k, v] :: r => match dKey k, pairsK r with
    | some q, some ks => some ((q, v) :: ks)
    | _, _ => none
  | _ => none
def dDictP (a : DE) : DO := fun δ n P E => a δ n (fun x n' => ∃ xs ks, x = .lst xs ∧ pairsK xs = some ks ∧ P (.od (mergeD [] ks)) n') E
end
end Dn
namespace L2
open PySem PySem.Spec PyProof.Rows
end L2
namespace Dn
open PySem PySem.Spec PyProof.Rows L2 Br
section
variable {X : Cx} {Z : Zx} {a b c : Expr} {pos p0 p1 : Pos} {da db dc : DE}
def dNiR (a : DE) (r : DA) : DE := fun δ n P E => a δ n (fun x n1 => r δ n1 (fun ds n3 => ∃ k i j : Int, x = .int k ∧ ds = [.int i, .int j] ∧ P (.bl (!(decide (i ≤ k) && decide (k < j)))) n3) E) E
end
end Dn
namespace SrtR
open PySem PySem.Spec PyProof.Rows L2
open SrtO hiding Str
variable {prog : Program} {w : World} {A : Around} {s : Shared} {E : Value → Shared → Prop}
def IsPairR (h : Heap) (v : Value) (x : Int) (y : Int × Int) : Prop := ∃ a o t u r n, v = .ref a ∧ h.get? a = some o ∧ o.cls = .type "tuple" ∧ o.data = .seq #[.int x t, .int y.1 u, .int y.2 r] n
theorem IsPairR.keeps {h h' : Heap} {v : Value} {x : Int} {y : Int × Int} (p : IsPairR h v x y) (k : ∀ b o, h.get? b = some o → o.cls = .type "tuple" → h'.get? b = some o) : IsPairR h' v x y := by
  obtain ⟨a, o, t, u, r, n, e, ho, hc, hd⟩ := p
  exact ⟨a, o, t, u, r, n, e, k _ _ ho hc, hc, hd⟩
def lexR (p q : Int × (Int × Int)) : Bool := if p.1 = q.1 then (if p.2.1 = q.2.1 then decide (p.2.2 < q.2.2) else decide (p.2.1 < q.2.1)) else decide (p.1 < q.1)
end SrtR
namespace L2
open PySem PySem.Spec PyProof.Rows SrtR
inductive PrsRAt (K : PySem.W.Frag) (H : Hp) : List V → List (Int × (Int × Int)) → Prop
  | nil : PrsRAt K H [] []
  | cons {t : Addr} {x : Int} {y : Int × Int} {vs : List V} {ps : List (Int × (Int × Int))} : SqT K H t [.int x, .int y.1, .int y.2] → PrsRAt K H vs ps → PrsRAt K H (.ref t :: vs) ((x, y) :: ps)
theorem PrsRAt.refs {K : PySem.W.Frag} {H : Hp} : ∀ {vs : List V} {ps : List (Int × (Int × Int))}, PrsRAt K H vs ps → ∀ x ∈ vs, ∃ a, x = V.ref a
  | _, _, .nil, _, hm => by simp at hm
  | _, _, .cons h r, x, hm => by
    rcases List.mem_cons.mp hm with rfl | hm
    · exact ⟨_, rfl⟩
    · exact r.refs x hm
end L2
namespace Dn
open PySem PySem.Spec PyProof.Rows L2 Br LamX SrtR
def triD (p : Int × (Int × Int)) : D := .tup [.int p.1, .int p.2.1, .int p.2.2]
def dSortR (a : DE) : DE := fun δ n P E => a δ n (fun x n' => ∃ ps : List (Int × (Int × Int)), x = .lst (ps.map triD) ∧ ∀ qs : List (Int × (Int × Int)), qs.Perm ps → qs.Pairwise (fun x y => lexR y x = false) → P (.lst (qs.map triD)) n') E
section
variable {X : Cx} {Z : Zx} {e a b : Expr} {pos p : Pos} {de da db : DE}
end
end Dn
namespace GQ
open PySem PySem.SeqAt
open AutoSeq1 (wpAny_loadPart')
open MeetsSeq MeetsSeq2 MeetsSeq3 SeqRoads2
section
variable {prog : Program} {w : World} {A : Around} {R : Result → Shared → Prop}
end
section
variable {prog : Program} {w : World} {A : Around} {E : Value → Shared → Prop} {s : Shared}
end
end GQ
namespace Dn
open PySem PySem.Spec PyProof.Rows L2 Br LamX
section
variable {X : Cx} {g : G}
def dNeK (tb : List EqCl) (m : Nat) (a b : DE) : DE := fun δ n P E => a δ n (fun x n1 => b δ n1 (fun y n2 => ∃ k, (∃ xs ys, x = .tup xs ∧ y = .tup ys ∧ EqTs (EqOb tb m) xs ys k) ∧ P (.bl (!k)) n2) E) E
end
section
variable {X : Cx} {Z : Zx} {a b : Expr} {da db : DE} {pos : Pos} {tb : List EqCl} {L m : Nat}
variable (T : ∀ e ∈ tb, ClOk X Z.g.kn L e) (hr : Room (L + m + 1) X.A) (zk : Z.g.K = X.K) (zm : Z.g.mg = X.mg) (ha : PE X a (lift Z da)) (hb : PE X b (lift Z db))
include T hr zk zm ha hb
end
end Dn
namespace Dn
open PySem PySem.Spec PyProof.Rows L2 Br
def oneA {α : Type} : List α → List α → List α
  | [], [a] => [a]
  | _, _ => []
theorem kb_one {K : PySem.W.Frag} {fd : FuncData} {p1 : Str} (h : ∀ a : Value, bindArgs fd ⟨[], [(p1, a)]⟩ = pure [(p1, a)]) : KBinds K fd [p1] [p1] oneA oneA := by
  refine ⟨fun s us ws _ hl => ?_, fun r rz => ?_⟩
  · match us, ws, hl with
    | [], [a], _ => exact .of_eq (h a)
  · cases r with
    | nil =>
      cases rz with
      | nil => exact .nil
      | cons r1 rz =>
        cases rz with
        | nil => exact .cons r1 .nil
        | cons _ _ => exact .nil
    | cons _ _ => exact .nil
theorem one_dv {g : G} {Hv : Hp} {vs : List V} {ds : List D} (k : DvAll g Hv vs ds) : DvAll g Hv (oneA [] vs) (oneA [] ds) := by
  cases k with
  | nil => exact .nil
  | cons a b =>
    cases b with
    | nil => exact .cons a .nil
    | cons _ _ => exact .nil
theorem DefT.okK1 {P : Program} {w : World} {K : PySem.W.Frag} {mg : Str → Option Value} {base : Heap} {x : Str} {st : Stmt} {f : Addr} {fd : FuncData} {k : Nat} {p1 : Str} {sp : Sp} (T : DefT K mg x st f fd) (hb : ∀ (kV doc pm : Value) (an : Option Addr) (cdv ct : Value) (a : Value), bindArgs (PySem.W.fnOf x x (defArgs st) (defBody st) (defScope st) .none kV doc pm an cdv ct) ⟨[], [(p1, a)]⟩ = pure [(p1, a)]) (F : FnOk P w K mg base CX0 k f fd [p1] sp) : OkK P w K mg base k x [p1] oneA sp := by
  refine ⟨f, fd, [p1], oneA, T.g, T.F.kp, kb_one fun a => ?_, F⟩
  obtain ⟨oc, od, kV, doc, pm, an, cdv, ct, osl, rfl, lk, hcd⟩ := T.F.ex
  exact hb kV doc pm an cdv ct a
end Dn
namespace C75
open PySem PyProof.Rows L2 Br Dn
local macro_rules | `(tactic| walk_at "side") => `(tactic| first | omega | (show (0 : Int) < _; omega) | exact ⟨by omega, by omega⟩ | exact Or.inl ⟨by omega, by omega⟩ | exact Or.inr ⟨by omega, by omega⟩ | exact ⟨by decide, by decide, by decide⟩ | assumption)
local macro_rules | `(tactic| walk_at "s1") => `(tactic| first
  | ((with_reducible apply s_var); exact rfl)
  | with_reducible refine s_c ?_ | with_reducible refine s_op ?_ | with_reducible refine s_un ?_ | with_reducible refine s_I0 ?_
  | ((with_reducible refine s_I ?_ ?_); walk_at "side")
  | with_reducible refine s_U ?_ | ((with_reducible refine s_eq ?_ ?_); exact rfl) | ((with_reducible refine s_ne ?_ ?_); exact rfl)
  | with_reducible refine s_test ?_ | with_reducible refine s_tB ?_ | with_reducible refine s_bl ?_ | with_reducible refine s_and ?_ | with_reducible refine s_or ?_ | with_reducible refine s_not ?_
  | with_reducible refine s_andV ?_ | with_reducible refine s_orV ?_ | with_reducible refine s_notV ?_ | with_reducible refine s_if ?_ | with_reducible refine s_ifS ?_
  | with_reducible refine s_seq ?_ | with_reducible refine s_next ?_ | with_reducible refine s_asg ?_ | with_reducible refine s_par ?_ | with_reducible refine s_two ?_ | with_reducible refine s_ret ?_ | with_reducible refine s_retN ?_ | with_reducible refine s_drop ?_
  | with_reducible refine s_nil ?_ | with_reducible refine s_cons ?_ | with_reducible refine s_cl ?_ | with_reducible refine s_clS ?_ | with_reducible refine s_cb ?_ | with_reducible refine s_sl ?_ | with_reducible refine s_part ?_ | with_reducible refine s_nopart ?_ | with_reducible refine s_int ?_
  | with_reducible refine s_dget ?_ | with_reducible refine s_dput ?_ | with_reducible refine s_bm ?_ | with_reducible refine s_bm0 ?_ | with_reducible refine s_m1 ?_ | with_reducible refine s_isstr ?_ | with_reducible refine s_kf ?_ | with_reducible refine s_lst ?_ | with_reducible refine s_tup ?_
  | with_reducible refine s_pairs ?_ | with_reducible refine s_pairs0 ?_ | with_reducible refine s_disp ?_ | with_reducible refine s_dnew ?_ | with_reducible refine s_for ?_ | with_reducible refine s_lc ?_ | with_reducible refine s_iList ?_ | with_reducible refine s_iTup ?_ | with_reducible refine s_iRng1 ?_ | with_reducible refine s_iRng2 ?_ | with_reducible refine s_iRng3 ?_ | with_reducible refine s_vei ?_ | with_reducible refine s_ost ?_ | with_reducible refine s_mkx ?_ | with_reducible refine s_rz ?_ | with_reducible refine s_iEnumT ?_ | with_reducible refine s_iEnumS ?_ | with_reducible refine s_revS ?_ | with_reducible refine s_yes ?_
  | ((with_reducible apply s_aug); exact rfl) | with_reducible refine s_ipI ?_ | with_reducible refine s_chain ?_ | with_reducible refine s_fld ?_ | with_reducible refine s_sfld ?_ | with_reducible refine s_mk ?_ | with_reducible refine s_clK ?_ | with_reducible refine s_iEnumTk ?_ | with_reducible refine s_revT ?_
  | with_reducible refine s_gName ?_ | with_reducible refine s_gCons ?_ | with_reducible refine s_gNil ?_)
local macro_rules | `(tactic| walk_at "s") => `(tactic| repeat walk_at "s1")
def top (i : Nat) : Stmt := PySem.Challenge.pw_byteround_k75_whole_patches_as_deeds.main.body.getD i (.Pass ⟨0, 0, 0, 0⟩)
abbrev penStr : Str := "at"
theorem key_pen : PenKey penStr := key_at
abbrev penKey : Kn := ⟨penStr, []⟩
structure Txt (mg : Str → Option Value) : Prop where
  n_len : mg "len" = none
  n_abs : mg "abs" = none
  n_range : mg "range" = none
  n_isinstance : mg "isinstance" = none
  n_int : mg "int" = none
  n_bool : mg "bool" = none
  n_min : mg "min" = none
  n_max : mg "max" = none
  n_all : mg "all" = none
  n_any : mg "any" = none
  n_tuple : mg "tuple" = none
  n_list : mg "list" = none
  n_enumerate : mg "enumerate" = none
  n_sorted : mg "sorted" = none
  n_sum : mg "sum" = none
  n_RuntimeError : mg "RuntimeError" = none
  n_ValueError : mg "ValueError" = none
  g_BYTE : ∃ t, mg "BYTE" = some (.int 256 t)
section
variable {P : Program} {w : World} {K : PySem.W.Frag} {mg : Str → Option Value} {base : Heap}
abbrev s__law_draw : Stmt := top 27
theorem sc__law_draw : FnScope ["_law_feed_here", "_law_many", "_law_digit", "_law_at", "_law_cell", "_law_number", "_law_turn"] ["_law_feed_here", "_law_many"] (defScope s__law_draw) := ⟨rfl, rfl, rfl, by decide +kernel, rfl, by decide +kernel, by decide +kernel⟩
theorem ok__law_draw {f : Addr} {fd : FuncData} (F : Fun K "_law_draw" "_law_draw" s__law_draw f fd) (T : Txt mg) : FnOk P w K mg base CX0 1 f fd ["_law_feed_here", "_law_many"] (spDraw penStr) := by
  refine F.ok sc__law_draw (fun vs H Q E h => ?_) (fun cdv A outer s H vs Q E hr h => ?_)
  · obtain ⟨d, c, n, m, rfl, _⟩ := h
    rfl
  · obtain ⟨d, c, n, m, rfl, ⟨ns, a, l, hd, hc, hlen, a0, an, l0⟩, hn, m0, m1, k⟩ := h
    have hu := hu_of hr
    refine ⟨_, (pss_cons (ps_if (pt_cmpR op_gt (pe_dget hu (pv 0) pe_str (fun _ _ => rfl)) pe_int (nomark _))
        (pss_cons (ps_set (i := 2) sc__law_draw.nd rfl (Or.inl rfl) (pe_op op_mod (pe_dget hu (pv 0) pe_str (fun _ _ => rfl)) (pv 1)))
      (pss_cons (ps_dput hu (pv 0) pe_str (pe_op op_fdiv (pe_dget hu (pv 0) pe_str (fun _ _ => rfl)) (pv 1)) rfl)
      (pss_one (ps_ret (pv 2)))))
        pss_nil)
      (pss_cons (ps_set (i := 3) sc__law_draw.nd rfl (Or.inl rfl) (pe_dget hu (pv 0) pe_str (fun _ _ => rfl)))
      (pss_cons (ps_dput hu (pv 0) pe_str (pe_op op_add (pv 3) pe_int) rfl)
      (pss_cons (ps_set (i := 4) sc__law_draw.nd rfl (Or.inl rfl) (pe_op op_add (pe_op op_mul (pv 3) (pv 3)) pe_int))
      (pss_cons (ps_if (pt_cmpR (op_neD hr.units) (pe_dget hu (pv 0) pe_str (fun _ _ => rfl)) (pe_lst pa_nil) (nomark _))
        (pss_one (ps_set (i := 4) sc__law_draw.nd rfl (Or.inl rfl) (pe_ix ix_list (pe_dget hu (pv 0) pe_str (fun _ _ => rfl)) (pe_op op_mod (pv 3) (pe_callB call_len (by rfl) T.n_len (by decide +kernel) (pa_cons (pe_dget hu (pv 0) pe_str (fun _ _ => rfl)) pa_nil))) (fun _ _ => rfl))))
        pss_nil)
      (pss_cons (ps_if (PW.pt (pw_and (pt_cmpR op_lt (pv 3) (pe_callB call_len (by rfl) T.n_len (by decide +kernel) (pa_cons (pe_dget hu (pv 0) pe_str (fun _ _ => rfl)) pa_nil)) (nomark _)) (pw_and1 (pt_cmpR op_ge (pe_callB call_abs (by rfl) T.n_abs (by decide +kernel) (pa_cons (pv 4) pa_nil)) (pe_op op_pow pe_int pe_int) (nomark _)))))
        (pss_cons (ps_dput hu (pv 0) pe_str (pe_op op_fdiv (pe_callB call_abs (by rfl) T.n_abs (by decide +kernel) (pa_cons (pv 4) pa_nil)) (pv 1)) rfl)
      (pss_one (ps_ret (pe_op op_mod (pe_callB call_abs (by rfl) T.n_abs (by decide +kernel) (pa_cons (pv 4) pa_nil)) (pv 1)))))
        pss_nil)
      (pss_cons (ps_set (i := 5) sc__law_draw.nd rfl (Or.inl rfl) (pe_op op_mod (pe_op op_mul (pe_op op_add (pe_op op_add (pe_op op_mod (pv 4) pe_int) (pe_op op_mul pe_int (pv 3))) pe_int) pe_int) pe_int))
      (pss_cons (ps_for PassesOwn.never rfl (pi_range1 (by rfl) T.n_range (pa_cons pe_int pa_nil)) (pg_name (i := 6) sc__law_draw.nd rfl (Or.inl rfl))
        (pss_cons (ps_set (i := 5) sc__law_draw.nd rfl (Or.inl rfl) (pe_op op_add (pe_op op_add (pe_op op_add (pe_op op_mul (pv 5) (pv 5)) (pe_op op_mul pe_int (pv 5))) (pv 3)) (pv 6)))
      (pss_one (ps_set (i := 5) sc__law_draw.nd rfl (Or.inl rfl) (pe_op op_mod (pv 5) pe_int)))))
      (pss_one (ps_ret (pe_op op_mod (pe_op op_fdiv (pv 5) pe_int) (pv 1)))))))))))), ?_⟩
    refine go_at (σ' := [some (.ref d), some (.int m), none, none, none, none, none]) rfl ?_
    have PK := key_pen
    walk_at "s"
    refine ⟨d, _, rfl, dget_k (k := .inr "left") hd (pen_left PK), ?_⟩
    walk_at "s"
    refine ifd (fun hl => ?_) (fun hl => ?_)
    · -- a digit of what is left
      walk_at "s"
      refine ⟨d, _, rfl, dget_k (k := .inr "left") hd (pen_left PK), ?_⟩
      walk_at "s"
      refine ⟨d, _, rfl, dget_k (k := .inr "left") hd (pen_left PK), ?_⟩
      walk_at "s"
      refine ⟨d, _, rfl, dput_k (k := .inr "left") hd (three_lt _ _ _) (pen_put_left PK), ?_⟩
      walk_at "s"
      have ncd : c ≠ d := ne_of hc hd (by intro z; cases z)
      refine k _ _ (Int.emod_nonneg _ (by omega)) (Int.emod_lt_of_pos _ m0) ⟨ns, a, _, upd_same, by rw [upd_ne ncd]; exact hc, hlen, a0, by omega, Int.ediv_nonneg l0 (by omega)⟩ fun b o hb e => ?_
      rw [upd_ne hb]
      exact e
    · walk_at "s"
      refine ⟨d, _, rfl, dget_k (k := .inr penStr) hd (pen_nth PK), ?_⟩
      walk_at "s"
      refine ⟨d, _, rfl, dput_k (k := .inr penStr) hd (three_lt _ _ _) (pen_put_nth PK), ?_⟩
      have ncd : c ≠ d := ne_of hc hd (by intro z; cases z)
      generalize hH1 : upd H d (.dK (penL penStr c (a + 1) l)) = H1
      have hd1 : H1 d = some (.dK (penL penStr c (a + 1) l)) := by rw [← hH1]; exact upd_same
      have hc1 : H1 c = some (.lst (ns.map V.int)) := by rw [← hH1, upd_ne ncd]; exact hc
      have sb1 : SBut d H H1 := fun b o hb e => by rw [← hH1, upd_ne hb]; exact e
      clear hH1
      walk_at "s"
      refine ⟨d, _, rfl, dget_k (k := .inr "cells") hd1 pen_cells, ?_⟩
      walk_at "s"
      refine ⟨Nat.zero_le _, s_new fun p H2 hp s2 h2 => ?_⟩
      have hd2 := s2 _ _ hd1
      have hc2 := s2 _ _ hc1
      have sb2 := sb1.then s2
      refine ⟨_, _, .lst (sqL hc2) (dpAll_ints ns), .lst (sqL h2) .nil, shaped_listInts ns, rfl, ?_⟩
      walk_at "s"
      refine s_cut (fun σ' H' => ∃ x : Int, σ' = [some (.ref d), some (.int m), none, some (.int a), some (.int x), none, none] ∧ H2 = H') ?_ ?_ ?_
      · rintro _ _ ⟨x, rfl, rfl⟩
        walk_at "s"
        refine ⟨d, _, rfl, dget_k (k := .inr "cells") hd2 pen_cells, ?_⟩
        walk_at "s"
        refine ⟨_, _, rfl, .inl ⟨_, sqL hc2, rfl⟩, ?_⟩
        walk_at "s"
        refine s_cutA (fun σ' H' => σ' = [some (.ref d), some (.int m), none, some (.int a), some (.int x), none, none] ∧ H2 = H') ?_ ?_ ?_
        · rintro _ _ ⟨rfl, rfl⟩
          walk_at "s"
          refine ⟨3, rfl, by decide, by decide, f_range (lo := 0) (n := 3) (fun i σ H' => ∃ (v : Int) (t : Option V), σ = [some (.ref d), some (.int m), none, some (.int a), some (.int x), some (.int v), t] ∧ 0 ≤ v ∧ v < 4294967311 ∧ H2 = H') ?_ ?_ ?_⟩
          · obtain ⟨e1, e2⟩ := emod_bd (a := (x % 4294967311 + 65539 * a + 17) * 48271) (m := 4294967311) (by decide)
            exact ⟨_, none, rfl, e1, e2, rfl⟩
          · rintro i _ _ hi ⟨v, t, rfl, v0, v1, rfl⟩
            walk_at "s"
            obtain ⟨e1, e2⟩ := emod_bd (a := v * v + 69621 * v + a + (0 + (i : Nat))) (m := 4294967311) (by decide)
            exact ⟨_, _, rfl, e1, e2, rfl⟩
          · rintro _ _ ⟨v, t, rfl, v0, v1, rfl⟩
            walk_at "s"
            obtain ⟨e1, e2⟩ := emod_bd (a := v / 32) m0
            exact k _ _ e1 e2 ⟨ns, a + 1, l, hd2, hc2, hlen, by omega, by omega, l0⟩ sb2
        · intro _ nx' hR
          walk_at "s"
          refine ⟨_, rfl, ?_⟩
          walk_at "s"
          refine ifb (fun _ => ?_) (fun _ => ?_)
          · walk_at "s"
            refine ⟨_, rfl, ?_⟩
            walk_at "s"
            refine ⟨d, _, rfl, dput_k (k := .inr "left") hd2 (three_lt _ _ _) (pen_put_left PK), ?_⟩
            walk_at "s"
            refine ⟨_, rfl, ?_⟩
            walk_at "s"
            obtain ⟨e1, e2⟩ := emod_bd (a := if x < 0 then -x else x) m0
            refine k _ _ e1 e2 ⟨ns, a + 1, _, upd_same, by rw [upd_ne ncd]; exact hc2, hlen, by omega, by omega, Int.ediv_nonneg (by split <;> omega) (by omega)⟩ fun b o hb e => ?_
            rw [upd_ne hb]
            exact sb2 b o hb e
          · walk_at "s"
            exact hR _ _ ⟨rfl, rfl⟩
        · intro _ nx' hR
          walk_at "s"
          exact hR _ _ ⟨rfl, rfl⟩
      · intro hne nx' hR
        walk_at "s"
        refine ⟨d, _, rfl, dget_k (k := .inr "cells") hd2 pen_cells, ?_⟩
        walk_at "s"
        refine ⟨d, _, rfl, dget_k (k := .inr "cells") hd2 pen_cells, ?_⟩
        walk_at "s"
        refine ⟨_, _, rfl, .inl ⟨_, sqL hc2, rfl⟩, ?_⟩
        have hpos : 0 < ns.length := by
          rw [eqv_nil_ints] at hne
          cases ns with
          | nil => simp at hne
          | cons n r => simp
        have hlm : (ns.map V.int).length = ns.length := List.length_map ..
        refine s_I (by show (0 : Int) < _; omega) ?_
        obtain ⟨e1, e2⟩ := emod_bd (a := a) (m := ((ns.map V.int).length : Nat)) (by omega)
        obtain ⟨x, hx, hx2⟩ := atI_lt (xs := ns.map V.int) e1 e2
        obtain ⟨z, _, rfl⟩ : ∃ z, ns[(a % ((ns.map V.int).length : Nat)).toNat]? = some z ∧ V.int z = x := by
          rw [List.getElem?_map] at hx2
          cases e : ns[(a % ((ns.map V.int).length : Nat)).toNat]? with
          | none => rw [e] at hx2; cases hx2
          | some z => rw [e] at hx2; exact ⟨z, rfl, Option.some.inj hx2⟩
        refine r_ixL (sqL hc2) hx ?_
        exact hR _ _ ⟨z, rfl, rfl⟩
      · intro _ nx' hR
        walk_at "s"
        exact hR _ _ ⟨_, rfl, rfl⟩
abbrev s__law_feed : Stmt := top 26
theorem sc__law_feed : FnScope ["_law_script", "_law_cell"] ["_law_script"] (defScope s__law_feed) := ⟨rfl, rfl, rfl, by decide +kernel, rfl, by decide +kernel, by decide +kernel⟩
theorem ok__law_feed {f : Addr} {fd : FuncData} (F : Fun K "_law_feed" "_law_feed" s__law_feed f fd) : FnOk P w K mg base CX0 1 f fd ["_law_script"] (spFeed penStr K) := by
  refine F.ok sc__law_feed (fun vs H Q E h => ?_) (fun cdv A outer s H vs Q E hr h => ?_)
  · obtain ⟨a, ns, rfl, _⟩ := h
    rfl
  · obtain ⟨a, ns, rfl, hS, hlen, k⟩ := h
    refine ⟨_, (pss_one (ps_ret (pe_disp (pps_cons pe_str (pe_lc (own := [("_law_cell", 1)]) (g := gName 1) (tt := tYes) rfl sc__law_feed.nd (pi_list (pe_slice sl_list (pv 0) po_none (po_some pe_int))) (blkOk_by (own := [("_law_cell", 1)]) (N := ["_law_script", "_law_cell"]) (sc := defScope s__law_feed) (by decide +kernel)) (fun _ _ _ _ _ => pg_name (i := 1) sc__law_feed.nd rfl (Or.inl rfl)) (fun _ _ _ _ _ => pts_nil) (fun _ _ _ _ _ => (pv 1))) (pps_cons pe_str pe_int (pps_cons pe_str pe_int pps_nil))) (by rfl) (by rfl) (fun z => by cases z) (by decide)))), ?_⟩
    refine go_at (σ' := [some (.ref a), none]) rfl ?_
    have PK := key_pen
    walk_at "s"
    intro p hp
    walk_at "s"
    have s1 : Same H (upd H p (.dK [])) := same_new hp
    refine r_slL (s1.seq hS) (s_new fun q H2 hq s2 h2 => ?_)
    have e63 : cutV (ns.map V.int) none (some 63) = (ns.take 63).map V.int := by
      show ((ns.map V.int).drop 0).take (min 63 (ns.map V.int).length - 0) = _
      rw [List.drop_zero, Nat.sub_zero, List.map_take, List.take_eq_take_iff]
      simp
    rw [e63] at h2
    refine ⟨q, rfl, ⟨_, sqL h2⟩, fun D hD => lc_list (K := K) (a := q) (xs := (ns.take 63).map V.int) (fun i H' => Same H2 H' ∧ H' D = some (.lst (((ns.take 63).map V.int).take i))) ⟨same_new hD, upd_same⟩ (fun i H' _ ⟨z, _⟩ => sqL (z _ _ h2)) ?_ ?_⟩
    · rintro i x H' hi ⟨z, hz⟩
      refine ⟨rfl, ?_⟩
      walk_at "s"
      refine ifT rfl ?_
      walk_at "s"
      refine ⟨_, hz, ?_, same_mut z hD, ?_⟩
      · refine small1000 ?_
        rw [List.length_take, List.length_map, List.length_take]
        omega
      · rw [upd_same, take_more hi]
    · rintro H' ⟨z, hz⟩
      walk_at "s"
      have hp2 : H' p = some (.dK []) := z _ _ (s2 _ _ upd_same)
      have nD : D ≠ p := fun e => by rw [e, s2 _ _ upd_same] at hD; cases hD
      rw [List.take_length] at hz
      refine ⟨hp2, [(Sum.inr "cells", .ref D), (Sum.inr penStr, .int 0), (Sum.inr "left", .int 0)], rfl, by show 3 ≤ 15; decide, ?_⟩
      refine k p D _ hp (fun b o e => ?_) ⟨ns.take 63, 0, 0, ?_, ?_, ?_, by omega, by omega, by omega⟩
      · rw [upd_ne (ne_of_none e hp)]
        exact z _ _ (s2 _ _ (s1 _ _ e))
      · rw [upd_same, pen_new PK]
      · rw [upd_ne nD]
        exact hz
      · rw [List.length_take]
        omega
end
end C75
namespace C75
open PySem L2 Br Dn LamX
open PySem.BrX
section
variable {P : Program} {w : World} {K : PySem.W.Frag} {mg : Str → Option Value} {base : Heap}
abbrev s_Misfit___init__ : Stmt := inClass (top 2) 0
theorem sc_Misfit___init__ : FnScope ["self", "at"] ["self", "at"] (defScope s_Misfit___init__) := ⟨rfl, rfl, rfl, by decide +kernel, rfl, by decide +kernel, by decide +kernel⟩
theorem ok_Misfit_init {C fI : Addr} {fd : FuncData} (X_c : XcB K mg "Misfit" "Misfit.__init__" s_Misfit___init__ "RuntimeError.__new__" [.type "RuntimeError", .type "Exception", .type "BaseException", .type "object"] C fI fd) (T : Txt mg) (vB : PySem.W.findCls K (.type "RuntimeError") (.type "type") "__init__" = some (.val (.builtin "RuntimeError.__init__"))) (nx_at : PySem.W.findIn K (.ref C) "at" = some none) : FnOk P w K mg base CX0 1 fI fd ["self", "at"] (spXs C (mkF ["at"])) := by
  refine X_c.F.ok sc_Misfit___init__ (fun vs H Q E h => ?_) (fun cdv A outer s H vs Q E hr h => ?_)
  · obtain ⟨a, ws, fs, rfl, hm, _⟩ := h
    obtain ⟨v0, rfl, rfl⟩ := mkF1 hm
    rfl
  · obtain ⟨a, ws, fs, rfl, hm, ha, k⟩ := h
    obtain ⟨v0, rfl, rfl⟩ := mkF1 hm
    refine ⟨_, pss_cons (ps_expr (pe_binit xb_RuntimeError rfl T.n_RuntimeError (by decide +kernel) (by kernel_rfl) (by decide +kernel) (by decide +kernel) vB (pa_cons (pv 0) (pa_cons pe_str pa_nil)))) (pss_one (ps_bst xb_RuntimeError (pv 0) (pv 1))), ?_⟩
    exact ⟨.ref a, rfl, a, C, _, rfl, (by show 1 ≤ 1000; decide), X_c.O, ha, v0, rfl, .ref a, rfl, a, C, rfl, X_c.O, nx_at, .inl ⟨ha, fun d hd hda => k d hd hda⟩⟩
abbrev s_NoPatch___init__ : Stmt := inClass (top 1) 0
theorem sc_NoPatch___init__ : FnScope ["self", "spot"] ["self", "spot"] (defScope s_NoPatch___init__) := ⟨rfl, rfl, rfl, by decide +kernel, rfl, by decide +kernel, by decide +kernel⟩
theorem ok_NoPatch_init {C fI : Addr} {fd : FuncData} (X_c : XcB K mg "NoPatch" "NoPatch.__init__" s_NoPatch___init__ "ValueError.__new__" [.type "ValueError", .type "Exception", .type "BaseException", .type "object"] C fI fd) (T : Txt mg) (vB : PySem.W.findCls K (.type "ValueError") (.type "type") "__init__" = some (.val (.builtin "ValueError.__init__"))) (nx_spot : PySem.W.findIn K (.ref C) "spot" = some none) : FnOk P w K mg base CX0 1 fI fd ["self", "spot"] (spXs C (mkF ["spot"])) := by
  refine X_c.F.ok sc_NoPatch___init__ (fun vs H Q E h => ?_) (fun cdv A outer s H vs Q E hr h => ?_)
  · obtain ⟨a, ws, fs, rfl, hm, _⟩ := h
    obtain ⟨v0, rfl, rfl⟩ := mkF1 hm
    rfl
  · obtain ⟨a, ws, fs, rfl, hm, ha, k⟩ := h
    obtain ⟨v0, rfl, rfl⟩ := mkF1 hm
    refine ⟨_, pss_cons (ps_expr (pe_binit xb_ValueError rfl T.n_ValueError (by decide +kernel) (by kernel_rfl) (by decide +kernel) (by decide +kernel) vB (pa_cons (pv 0) (pa_cons pe_str pa_nil)))) (pss_one (ps_bst xb_ValueError (pv 0) (pv 1))), ?_⟩
    exact ⟨.ref a, rfl, a, C, _, rfl, (by show 1 ≤ 1000; decide), X_c.O, ha, v0, rfl, .ref a, rfl, a, C, rfl, X_c.O, nx_spot, .inl ⟨ha, fun d hd hda => k d hd hda⟩⟩
abbrev s_is_whole : Stmt := top 4
theorem sc_is_whole : FnScope ["thing"] ["thing"] (defScope s_is_whole) := ⟨rfl, rfl, rfl, by decide +kernel, rfl, by decide +kernel, by decide +kernel⟩
def B_is_whole : DT := (dRet (dAnd (dApp (gIsi isInt) (dCons (dVar 0) dNil)) (dApp gNot (dCons (dApp (gIsi isBool) (dCons (dVar 0) dNil)) dNil))))
def U_is_whole : List D → M D := dDef 1 1 B_is_whole
theorem ok_is_whole {f : Addr} {fd : FuncData} (F : Fun K "is_whole" "is_whole" s_is_whole f fd) (T : Txt mg) : FnOk P w K mg base CX0 1 f fd ["thing"] (spU K mg penKey U_is_whole) :=
  fn_D (N := ["thing"]) (k := 0) (m := 1) (t := B_is_whole) F sc_is_whole rfl fun cdv A outer s H E Z hr zk zm zn => (ds_one (ds_ret (d_and (d_isi (f_int zk) (.ty _) (by rfl) T.n_isinstance (dv 0) (pe_bltn (v := .ty "int") (by rfl) T.n_int (by decide +kernel) rfl)) (d_one (d_not (d_isi (f_bool zk) (.ty _) (by rfl) T.n_isinstance (dv 0) (pe_bltn (v := .ty "bool") (by rfl) T.n_bool (by decide +kernel) rfl)))))))
abbrev s_is_from : Stmt := top 5
theorem sc_is_from : FnScope ["thing", "least", "most"] ["thing", "least", "most"] (defScope s_is_from) := ⟨rfl, rfl, rfl, by decide +kernel, rfl, by decide +kernel, by decide +kernel⟩
def B_is_from : DT := (dRet (dAnd (dCall0 U_is_whole (dCons (dVar 0) dNil)) (dChain gLe gLe (dVar 1) (dVar 0) (dVar 2))))
def U_is_from : List D → M D := dDef 3 3 B_is_from
theorem ok_is_from {f : Addr} {fd : FuncData} (F : Fun K "is_from" "is_from" s_is_from f fd) (T : Txt mg) (D_is_whole : OkD P w K mg base CX0 1 "is_whole" ["thing"] (spU K mg penKey U_is_whole)) : FnOk P w K mg base CX0 2 f fd ["thing", "least", "most"] (spU K mg penKey U_is_from) :=
  fn_D (N := ["thing", "least", "most"]) (k := 1) (m := 3) (t := B_is_from) F sc_is_from rfl fun cdv A outer s H E Z hr zk zm zn => (ds_one (ds_ret (d_and (d_call0 D_is_whole (hr.mono (by decide)) zk zm zn (da_cons (dv 0) da_nil)) (d_one (d_chain o_le o_le (dv 1) (dv 0) (dv 2))))))
abbrev s_is_row : Stmt := top 8
theorem sc_is_row : FnScope ["thing", "one"] ["thing"] (defScope s_is_row) := ⟨rfl, rfl, rfl, by decide +kernel, rfl, by decide +kernel, by decide +kernel⟩
def B_is_row : DT := (dRet (dAnd (dApp (gIsi isTuple) (dCons (dVar 0) dNil)) (dApp gAll (dCons (dNew (dLc (dIt gIter (dCons (dVar 0) dNil)) (.nm 1) (dC (.bl true)) (dCall0 U_is_from (dCons (dVar 1) (dCons (dC (.int 0)) (dCons (dApp gSub (dCons (dC (.int 256)) (dCons (dC (.int 1)) dNil))) dNil)))) [1])) dNil))))
def U_is_row : List D → M D := dDef 1 2 B_is_row
theorem ok_is_row {f : Addr} {fd : FuncData} (F : Fun K "is_row" "is_row" s_is_row f fd) (T : Txt mg) (D_is_from : OkD P w K mg base CX0 2 "is_from" ["thing", "least", "most"] (spU K mg penKey U_is_from)) : FnOk P w K mg base CX0 3 f fd ["thing"] (spU K mg penKey U_is_row) :=
  fn_D (N := ["thing", "one"]) (k := 2) (m := 1) (t := B_is_row) F sc_is_row rfl fun cdv A outer s H E Z hr zk zm zn => (ds_one (ds_ret (d_and (d_isi (f_tuple zk) (.ty _) (by rfl) T.n_isinstance (dv 0) (pe_bltn (v := .ty "tuple") (by rfl) T.n_tuple (by decide +kernel) rfl)) (d_one (d_callB (c_all rfl zk) (by rfl) T.n_all (by decide +kernel) (da_cons (d_lc (own := [("one", 1)]) (gg := gName 1) (tg := (.nm 1)) rfl sc_is_row.nd (di_seq zk (dv 0)) (blkOk_by (own := [("one", 1)]) (N := ["thing", "one"]) (sc := defScope s_is_row) (by decide +kernel)) (fun _ _ _ _ _ => pg_name (i := 1) sc_is_row.nd rfl (Or.inl rfl)) tg_nm (fun _ _ _ _ _ => pts_nil) yes_lift (fun _ _ _ _ _ => (d_call0 D_is_from (hr.mono (by decide)) zk zm zn (da_cons (dv 1) (da_cons d_int (da_cons (d_bin o_sub (d_c (pe_glob (v := .int 256) rfl (T.g_BYTE).choose_spec ⟨_, rfl⟩) (fun _ => .int _)) d_int) da_nil))))) (by decide)) da_nil))))))
abbrev s_is_spot : Stmt := top 10
theorem sc_is_spot : FnScope ["thing"] ["thing"] (defScope s_is_spot) := ⟨rfl, rfl, rfl, by decide +kernel, rfl, by decide +kernel, by decide +kernel⟩
def R_is_spot_1 : DT := (dRet (dAnd (dCall0 U_is_row (dCons (dApp gIx (dCons (dVar 0) (dCons (dC (.int 1)) dNil))) dNil)) (dAnd (dCall0 U_is_row (dCons (dApp gIx (dCons (dVar 0) (dCons (dC (.int 2)) dNil))) dNil)) (dOr (dApp gNe0 (dCons (dApp gIx (dCons (dVar 0) (dCons (dC (.int 1)) dNil))) (dCons (dApp gTupl dNil) dNil))) (dApp gNe0 (dCons (dApp gIx (dCons (dVar 0) (dCons (dC (.int 2)) dNil))) (dCons (dApp gTupl dNil) dNil)))))))
def B_is_spot : DT := (dSeq (dIfS (dOr (dApp gNot (dCons (dApp (gIsi isTuple) (dCons (dVar 0) dNil)) dNil)) (dOr (dApp gNe (dCons (dApp gLen (dCons (dVar 0) dNil)) (dCons (dC (.int 3)) dNil))) (dOr (dApp gNot (dCons (dCall0 U_is_whole (dCons (dApp gIx (dCons (dVar 0) (dCons (dC (.int 0)) dNil))) dNil)) dNil)) (dApp gLt (dCons (dApp gIx (dCons (dVar 0) (dCons (dC (.int 0)) dNil))) (dCons (dC (.int 0)) dNil))))))
    (dRet (dC (.bl false)))
    dNext)
  R_is_spot_1)
def U_is_spot : List D → M D := dDef 1 1 B_is_spot
theorem ok_is_spot {f : Addr} {fd : FuncData} (F : Fun K "is_spot" "is_spot" s_is_spot f fd) (T : Txt mg) (D_is_whole : OkD P w K mg base CX0 1 "is_whole" ["thing"] (spU K mg penKey U_is_whole)) (D_is_row : OkD P w K mg base CX0 3 "is_row" ["thing"] (spU K mg penKey U_is_row)) : FnOk P w K mg base CX0 4 f fd ["thing"] (spU K mg penKey U_is_spot) :=
  fn_D (N := ["thing"]) (k := 3) (m := 1) (t := B_is_spot) F sc_is_spot rfl fun cdv A outer s H E Z hr zk zm zn => (ds_cons (ds_if (PW.pt (dw_or (dt_not (dt_val (d_isi (f_tuple zk) (.ty _) (by rfl) T.n_isinstance (dv 0) (pe_bltn (v := .ty "tuple") (by rfl) T.n_tuple (by decide +kernel) rfl)))) (dw_or (dt_cmp (o_ne zk hr.units) (d_callB (c_len zk) (by rfl) T.n_len (by decide +kernel) (da_cons (dv 0) da_nil)) d_int (nomark _)) (dw_or (dt_not (dt_val (d_call0 D_is_whole (hr.mono (by decide)) zk zm zn (da_cons (d_ix (o_ix zk) (dv 0) d_int (fun _ _ => rfl)) da_nil)))) (dw_or1 (dt_cmp o_lt (d_ix (o_ix zk) (dv 0) d_int (fun _ _ => rfl)) d_int (nomark _)))))))
      (ds_one (ds_ret d_bl))
      ds_nil)
    (ds_one (ds_ret (d_and (d_call0 D_is_row (hr.mono (by decide)) zk zm zn (da_cons (d_ix (o_ix zk) (dv 0) d_int (fun _ _ => rfl)) da_nil)) (d_and (d_call0 D_is_row (hr.mono (by decide)) zk zm zn (da_cons (d_ix (o_ix zk) (dv 0) d_int (fun _ _ => rfl)) da_nil)) (d_one (d_or (d_cmp (o_ne0 zk hr.units) (d_ix (o_ix zk) (dv 0) d_int (fun _ _ => rfl)) (d_tup da_nil) (nomark _)) (d_one (d_cmp (o_ne0 zk hr.units) (d_ix (o_ix zk) (dv 0) d_int (fun _ _ => rfl)) (d_tup da_nil) (nomark _))))))))))
abbrev s_spot_end : Stmt := top 11
theorem sc_spot_end : FnScope ["spot"] ["spot"] (defScope s_spot_end) := ⟨rfl, rfl, rfl, by decide +kernel, rfl, by decide +kernel, by decide +kernel⟩
def B_spot_end : DT := (dRet (dApp gAdd (dCons (dApp gIx (dCons (dVar 0) (dCons (dC (.int 0)) dNil))) (dCons (dApp gLen (dCons (dApp gIx (dCons (dVar 0) (dCons (dC (.int 1)) dNil))) dNil)) dNil))))
def U_spot_end : List D → M D := dDef 1 1 B_spot_end
theorem ok_spot_end {f : Addr} {fd : FuncData} (F : Fun K "spot_end" "spot_end" s_spot_end f fd) (T : Txt mg) : FnOk P w K mg base CX0 1 f fd ["spot"] (spU K mg penKey U_spot_end) :=
  fn_D (N := ["spot"]) (k := 0) (m := 1) (t := B_spot_end) F sc_spot_end rfl fun cdv A outer s H E Z hr zk zm zn => (ds_one (ds_ret (d_bin (o_add zk) (d_ix (o_ix zk) (dv 0) d_int (fun _ _ => rfl)) (d_callB (c_len zk) (by rfl) T.n_len (by decide +kernel) (da_cons (d_ix (o_ix zk) (dv 0) d_int (fun _ _ => rfl)) da_nil)))))
abbrev s_first_bad : Stmt := top 12
theorem sc_first_bad : FnScope ["length", "spots", "free", "number", "spot"] ["length", "spots"] (defScope s_first_bad) := ⟨rfl, rfl, rfl, by decide +kernel, rfl, by decide +kernel, by decide +kernel⟩
def R_first_bad_1 : DT := (dSet 2 (dApp gAdd (dCons (dCall0 U_spot_end (dCons (dVar 4) dNil)) (dCons (dC (.int 1)) dNil))))
def L_first_bad_1 : DT := (dSeq (dIfS (dOr (dApp gNot (dCons (dCall0 U_is_spot (dCons (dVar 4) dNil)) dNil)) (dOr (dApp gLt (dCons (dApp gIx (dCons (dVar 4) (dCons (dC (.int 0)) dNil))) (dCons (dVar 2) dNil))) (dApp gGt (dCons (dCall0 U_spot_end (dCons (dVar 4) dNil)) (dCons (dVar 0) dNil)))))
    (dRet (dVar 3))
    dNext)
  R_first_bad_1)
def R_first_bad_2 : DT := (dRet (dC .non))
def B_first_bad : DT := (dSeq (dSet 2 (dC (.int 0)))
  (dSeq (dFor (dIt gEnum (dCons (dVar 1) dNil)) (.tp [3, 4])
    L_first_bad_1)
  R_first_bad_2))
def U_first_bad : List D → M D := dDef 2 5 B_first_bad
theorem ok_first_bad {f : Addr} {fd : FuncData} (F : Fun K "first_bad" "first_bad" s_first_bad f fd) (T : Txt mg) (D_spot_end : OkD P w K mg base CX0 1 "spot_end" ["spot"] (spU K mg penKey U_spot_end)) (D_is_spot : OkD P w K mg base CX0 4 "is_spot" ["thing"] (spU K mg penKey U_is_spot)) : FnOk P w K mg base CX0 5 f fd ["length", "spots"] (spU K mg penKey U_first_bad) :=
  fn_D (N := ["length", "spots", "free", "number", "spot"]) (k := 4) (m := 2) (t := B_first_bad) F sc_first_bad rfl fun cdv A outer s H E Z hr zk zm zn => (ds_cons (ds_set (i := 2) sc_first_bad.nd rfl (Or.inl rfl) d_int)
    (ds_cons (ds_for (tg := (.tp [3, 4])) (gg := gSq K 2 (gNames [3, 4])) PassesOwn.never rfl (di_enum zk (by rfl) T.n_enumerate (da_cons (dv 1) da_nil)) (pg_sq rfl (pgs_cons (pg_name (i := 3) sc_first_bad.nd rfl (Or.inl rfl)) (pgs_cons (pg_name (i := 4) sc_first_bad.nd rfl (Or.inl rfl)) pgs_nil))) (tg_tp zk.symm rfl)
      (ds_cons (ds_if (PW.pt (dw_or (dt_not (dt_val (d_call0 D_is_spot (hr.mono (by decide)) zk zm zn (da_cons (dv 4) da_nil)))) (dw_or (dt_cmp o_lt (d_ix (o_ix zk) (dv 4) d_int (fun _ _ => rfl)) (dv 2) (nomark _)) (dw_or1 (dt_cmp o_gt (d_call0 D_spot_end (hr.mono (by decide)) zk zm zn (da_cons (dv 4) da_nil)) (dv 0) (nomark _))))))
      (ds_one (ds_ret (dv 3)))
      ds_nil)
    (ds_one (ds_set (i := 2) sc_first_bad.nd rfl (Or.inl rfl) (d_bin (o_add zk) (d_call0 D_spot_end (hr.mono (by decide)) zk zm zn (da_cons (dv 4) da_nil)) d_int)))))
    (ds_one (ds_ret d_non))))
abbrev s_Patch___init__ : Stmt := inClass (top 13) 0
theorem sc_Patch___init__ : FnScope ["self", "length", "spots", "bad"] ["self", "length", "spots"] (defScope s_Patch___init__) := ⟨rfl, rfl, rfl, by decide +kernel, rfl, by decide +kernel, by decide +kernel⟩
def R_Patch___init___1 : DT := (dSeq (dFst 0 "Patch" "length" (dVar 1))
  (dFst 0 "Patch" "spots" (dApp gTuple (dCons (dVar 2) dNil))))
def R_Patch___init___2 : DT := (dSeq (dSet 3 (dCall0 U_first_bad (dCons (dVar 1) (dCons (dVar 2) dNil))))
  (dSeq (dIfS (dApp gIsNot (dCons (dVar 3) (dCons (dC .non) dNil)))
    (dRaise "NoPatch" ["spot"] (dCons (dVar 3) dNil))
    dNext)
  R_Patch___init___1))
def B_Patch___init__ : DT := (dSeq (dIfS (dOr (dApp gNot (dCons (dCall0 U_is_whole (dCons (dVar 1) dNil)) dNil)) (dOr (dApp gLt (dCons (dVar 1) (dCons (dC (.int 0)) dNil))) (dApp gNot (dCons (dApp (gIsi isSeq) (dCons (dVar 2) dNil)) dNil))))
    (dRaise "NoPatch" ["spot"] (dCons (dC .non) dNil))
    dNext)
  R_Patch___init___2)
def U_Patch : MI := dInit 2 4 "Patch" B_Patch___init__
theorem ok_Patch___init__ {f : Addr} {fd : FuncData} (F : FunB K "__init__" "Patch.__init__" s_Patch___init__ f fd) (T : Txt mg) (D_is_whole : OkD P w K mg base CX0 1 "is_whole" ["thing"] (spU K mg penKey U_is_whole)) (D_first_bad : OkD P w K mg base CX0 5 "first_bad" ["length", "spots"] (spU K mg penKey U_first_bad)) {CX_a_NoPatch fI_NoPatch : Addr} {fdI_NoPatch : FuncData} (X_NoPatch : XcB K mg "NoPatch" "NoPatch.__init__" s_NoPatch___init__ "ValueError.__new__" [.type "ValueError", .type "Exception", .type "BaseException", .type "object"] CX_a_NoPatch fI_NoPatch fdI_NoPatch) (F_NoPatch : FnOk P w K mg base CX0 1 fI_NoPatch fdI_NoPatch ["self", "spot"] (spXs CX_a_NoPatch (mkF ["spot"]))) (B_NoPatch : Binds K fdI_NoPatch ["self", "spot"] []) {C_a_Patch : Addr} (CT_Patch : ClT K mg "Patch" C_a_Patch) (NA_Patch_length : NoAttr K C_a_Patch "length") (NA_Patch_spots : NoAttr K C_a_Patch "spots") : FnOk P w K mg base (L2.CX P w) 6 f fd ["self", "length", "spots"] (spI K mg penKey "Patch" U_Patch) := by
  refine init_DX (k := 5) (m := 2) (t := B_Patch___init__) F sc_Patch___init__ rfl (by decide) fun cdv A outer s H E Z hr zk zm zn zw => ?_
  have tk : Takes (cxOf (L2.CX P w) P w K mg base ["self", "length", "spots", "bad"] "Patch.__init__" (defScope s_Patch___init__) f cdv A outer s H E) Z.W := by rw [zw]; exact takes_of rfl rfl rfl rfl
  exact (ds_cons (ds_if (PW.pt (dw_or (dt_not (dt_val (d_call0 D_is_whole (hr.mono (by decide)) zk zm zn (da_cons (dv 1) da_nil)))) (dw_or (dt_cmp o_lt (dv 1) d_int (nomark _)) (dw_or1 (dt_not (dt_val (d_isi2 (f_seq zk) (.ty _) (.ty _) (by rfl) T.n_isinstance (dv 2) (pe_bltn (v := .ty "tuple") (by rfl) T.n_tuple (by decide +kernel) rfl) (pe_bltn (v := .ty "list") (by rfl) T.n_list (by decide +kernel) rfl))))))))
      (ds_one (ds_raise (names := ["spot"]) xb_ValueError rfl tk X_NoPatch F_NoPatch B_NoPatch (hr.mono (by decide)) zm (da_cons d_non da_nil) (by decide)))
      ds_nil)
    (ds_cons (ds_set (i := 3) sc_Patch___init__.nd rfl (Or.inl rfl) (d_call0 D_first_bad (hr.mono (by decide)) zk zm zn (da_cons (dv 1) (da_cons (dv 2) da_nil))))
    (ds_cons (ds_if (dt_cmp o_isNot (dv 3) d_non (nomark _))
      (ds_one (ds_raise (names := ["spot"]) xb_ValueError rfl tk X_NoPatch F_NoPatch B_NoPatch (hr.mono (by decide)) zm (da_cons (dv 3) da_nil) (by decide)))
      ds_nil)
    (ds_cons (ds_fst (cn := "Patch") (fun C h => fld1 CT_Patch NA_Patch_length zm "Patch" (by simp) C h) (pv 0) (dv 1))
    (ds_one (ds_fst (cn := "Patch") (fun C h => fld1 CT_Patch NA_Patch_spots zm "Patch" (by simp) C h) (pv 0) (d_callTy (c_tuple zk) (by rfl) T.n_tuple (by decide +kernel) (da_cons (dv 2) da_nil))))))))
abbrev s_Patch___eq__ : Stmt := inClass (top 13) 1
theorem sc_Patch___eq__ : FnScope ["self", "other"] ["self", "other"] (defScope s_Patch___eq__) := ⟨rfl, rfl, rfl, by decide +kernel, rfl, by decide +kernel, by decide +kernel⟩
def B_Patch___eq__ : DT := (dRet (dAnd (dApp (gIsi (isOwn "Patch")) (dCons (dVar 1) dNil)) (dAnd (dApp gEq (dCons (dApp (gFld ["Patch"] "length") (dCons (dVar 0) dNil)) (dCons (dApp (gFld ["Patch"] "length") (dCons (dVar 1) dNil)) dNil))) (dApp gEq (dCons (dApp (gFld ["Patch"] "spots") (dCons (dVar 0) dNil)) (dCons (dApp (gFld ["Patch"] "spots") (dCons (dVar 1) dNil)) dNil))))))
def U_Patch___eq__ : List D → M D := dDef 2 2 B_Patch___eq__
theorem ok_Patch___eq__ {f : Addr} {fd : FuncData} (F : Fun K "__eq__" "Patch.__eq__" s_Patch___eq__ f fd) (T : Txt mg) {C_a_Patch : Addr} (CT_Patch : ClT K mg "Patch" C_a_Patch) (NA_Patch_spots : NoAttr K C_a_Patch "spots") (NA_Patch_length : NoAttr K C_a_Patch "length") : FnOk P w K mg base CX0 1 f fd ["self", "other"] (spU K mg penKey U_Patch___eq__) :=
  fn_D (N := ["self", "other"]) (k := 0) (m := 2) (t := B_Patch___eq__) F sc_Patch___eq__ rfl fun cdv A outer s H E Z hr zk zm zn => (ds_one (ds_ret (d_and (d_isi (f_own CT_Patch zm) (.own _) (by rfl) T.n_isinstance (dv 1) (pe_glob (v := .ref _) rfl CT_Patch.g rfl)) (d_and (d_cmp (o_eq zk hr.units) (d_fld (cs := ["Patch"]) zk (fld1 CT_Patch NA_Patch_length zm) (dv 0)) (d_fld (cs := ["Patch"]) zk (fld1 CT_Patch NA_Patch_length zm) (dv 1)) (nomark _)) (d_one (d_cmp (o_eq zk hr.units) (d_fld (cs := ["Patch"]) zk (fld1 CT_Patch NA_Patch_spots zm) (dv 0)) (d_fld (cs := ["Patch"]) zk (fld1 CT_Patch NA_Patch_spots zm) (dv 1)) (nomark _)))))))
abbrev s_Patch___len__ : Stmt := inClass (top 13) 2
theorem sc_Patch___len__ : FnScope ["self"] ["self"] (defScope s_Patch___len__) := ⟨rfl, rfl, rfl, by decide +kernel, rfl, by decide +kernel, by decide +kernel⟩
def B_Patch___len__ : DT := (dRet (dApp gLen (dCons (dApp (gFld ["Patch"] "spots") (dCons (dVar 0) dNil)) dNil)))
def U_Patch___len__ : List D → M D := dDef 1 1 B_Patch___len__
theorem ok_Patch___len__ {f : Addr} {fd : FuncData} (F : Fun K "__len__" "Patch.__len__" s_Patch___len__ f fd) (T : Txt mg) {C_a_Patch : Addr} (CT_Patch : ClT K mg "Patch" C_a_Patch) (NA_Patch_spots : NoAttr K C_a_Patch "spots") : FnOk P w K mg base CX0 1 f fd ["self"] (spU K mg penKey U_Patch___len__) :=
  fn_D (N := ["self"]) (k := 0) (m := 1) (t := B_Patch___len__) F sc_Patch___len__ rfl fun cdv A outer s H E Z hr zk zm zn => (ds_one (ds_ret (d_callB (c_len zk) (by rfl) T.n_len (by decide +kernel) (da_cons (d_fld (cs := ["Patch"]) zk (fld1 CT_Patch NA_Patch_spots zm) (dv 0)) da_nil))))
abbrev s_growth : Stmt := top 14
theorem sc_growth : FnScope ["spot"] ["spot"] (defScope s_growth) := ⟨rfl, rfl, rfl, by decide +kernel, rfl, by decide +kernel, by decide +kernel⟩
def B_growth : DT := (dRet (dApp gSub (dCons (dApp gLen (dCons (dApp gIx (dCons (dVar 0) (dCons (dC (.int 2)) dNil))) dNil)) (dCons (dApp gLen (dCons (dApp gIx (dCons (dVar 0) (dCons (dC (.int 1)) dNil))) dNil)) dNil))))
def U_growth : List D → M D := dDef 1 1 B_growth
theorem ok_growth {f : Addr} {fd : FuncData} (F : Fun K "growth" "growth" s_growth f fd) (T : Txt mg) : FnOk P w K mg base CX0 1 f fd ["spot"] (spU K mg penKey U_growth) :=
  fn_D (N := ["spot"]) (k := 0) (m := 1) (t := B_growth) F sc_growth rfl fun cdv A outer s H E Z hr zk zm zn => (ds_one (ds_ret (d_bin o_sub (d_callB (c_len zk) (by rfl) T.n_len (by decide +kernel) (da_cons (d_ix (o_ix zk) (dv 0) d_int (fun _ _ => rfl)) da_nil)) (d_callB (c_len zk) (by rfl) T.n_len (by decide +kernel) (da_cons (d_ix (o_ix zk) (dv 0) d_int (fun _ _ => rfl)) da_nil)))))
abbrev s_other_length : Stmt := top 15
theorem sc_other_length : FnScope ["patch", "spot"] ["patch"] (defScope s_other_length) := ⟨rfl, rfl, rfl, by decide +kernel, rfl, by decide +kernel, by decide +kernel⟩
def B_other_length : DT := (dRet (dApp gAdd (dCons (dApp (gFld ["Patch"] "length") (dCons (dVar 0) dNil)) (dCons (dApp gSum (dCons (dNew (dLc (dIt gIter (dCons (dApp (gFld ["Patch"] "spots") (dCons (dVar 0) dNil)) dNil)) (.nm 1) (dC (.bl true)) (dCall0 U_growth (dCons (dVar 1) dNil)) [1])) dNil)) dNil))))
def U_other_length : List D → M D := dDef 1 2 B_other_length
theorem ok_other_length {f : Addr} {fd : FuncData} (F : Fun K "other_length" "other_length" s_other_length f fd) (T : Txt mg) (D_growth : OkD P w K mg base CX0 1 "growth" ["spot"] (spU K mg penKey U_growth)) {C_a_Patch : Addr} (CT_Patch : ClT K mg "Patch" C_a_Patch) (NA_Patch_length : NoAttr K C_a_Patch "length") (NA_Patch_spots : NoAttr K C_a_Patch "spots") : FnOk P w K mg base CX0 2 f fd ["patch"] (spU K mg penKey U_other_length) :=
  fn_D (N := ["patch", "spot"]) (k := 1) (m := 1) (t := B_other_length) F sc_other_length rfl fun cdv A outer s H E Z hr zk zm zn => (ds_one (ds_ret (d_bin (o_add zk) (d_fld (cs := ["Patch"]) zk (fld1 CT_Patch NA_Patch_length zm) (dv 0)) (d_callB (c_sum rfl zk) (by rfl) T.n_sum (by decide +kernel) (da_cons (d_lc (own := [("spot", 1)]) (gg := gName 1) (tg := (.nm 1)) rfl sc_other_length.nd (di_seq zk (d_fld (cs := ["Patch"]) zk (fld1 CT_Patch NA_Patch_spots zm) (dv 0))) (blkOk_by (own := [("spot", 1)]) (N := ["patch", "spot"]) (sc := defScope s_other_length) (by decide +kernel)) (fun _ _ _ _ _ => pg_name (i := 1) sc_other_length.nd rfl (Or.inl rfl)) tg_nm (fun _ _ _ _ _ => pts_nil) yes_lift (fun _ _ _ _ _ => (d_call0 D_growth (hr.mono (by decide)) zk zm zn (da_cons (dv 1) da_nil))) (by decide)) da_nil)))))
abbrev s_need_fit : Stmt := top 16
theorem sc_need_fit : FnScope ["patch", "row", "least", "at", "old", "new", "place", "byte"] ["patch", "row"] (defScope s_need_fit) := ⟨rfl, rfl, rfl, by decide +kernel, rfl, by decide +kernel, by decide +kernel⟩
def L_need_fit_1 : DT := (dIfS (dAnd (dApp gLt (dCons (dVar 6) (dCons (dVar 2) dNil))) (dApp gNe (dCons (dApp gIx (dCons (dVar 1) (dCons (dVar 6) dNil))) (dCons (dVar 7) dNil))))
    dNever
    dNext)
def L_need_fit_2 : DT := (dFor (dIt gEnumK (dCons (dVar 4) (dCons (dVar 3) dNil))) (.tp [6, 7])
    L_need_fit_1)
def R_need_fit_1 : DT := (dIfS (dApp gNe (dCons (dApp gLen (dCons (dVar 1) dNil)) (dCons (dApp (gFld ["Patch"] "length") (dCons (dVar 0) dNil)) dNil)))
    dNever
    dNext)
def B_need_fit : DT := (dSeq (dSet 2 (dApp gMin (dCons (dApp gLen (dCons (dVar 1) dNil)) (dCons (dApp (gFld ["Patch"] "length") (dCons (dVar 0) dNil)) dNil))))
  (dSeq (dFor (dIt gIter (dCons (dApp (gFld ["Patch"] "spots") (dCons (dVar 0) dNil)) dNil)) (.tp [3, 4, 5])
    L_need_fit_2)
  R_need_fit_1))
def U_need_fit : List D → M D := dDef 2 8 B_need_fit
theorem ok_need_fit {f : Addr} {fd : FuncData} (F : Fun K "need_fit" "need_fit" s_need_fit f fd) (T : Txt mg) {C_a_Patch : Addr} (CT_Patch : ClT K mg "Patch" C_a_Patch) (NA_Patch_length : NoAttr K C_a_Patch "length") (NA_Patch_spots : NoAttr K C_a_Patch "spots") : FnOk P w K mg base CX0 1 f fd ["patch", "row"] (spU K mg penKey U_need_fit) :=
  fn_D (N := ["patch", "row", "least", "at", "old", "new", "place", "byte"]) (k := 0) (m := 2) (t := B_need_fit) F sc_need_fit rfl fun cdv A outer s H E Z hr zk zm zn => (ds_cons (ds_set (i := 2) sc_need_fit.nd rfl (Or.inl rfl) (d_callB (c_min rfl) (by rfl) T.n_min (by decide +kernel) (da_cons (d_callB (c_len zk) (by rfl) T.n_len (by decide +kernel) (da_cons (dv 1) da_nil)) (da_cons (d_fld (cs := ["Patch"]) zk (fld1 CT_Patch NA_Patch_length zm) (dv 0)) da_nil))))
    (ds_cons (ds_for (tg := (.tp [3, 4, 5])) (gg := gSq K 3 (gNames [3, 4, 5])) PassesOwn.never rfl (di_seq zk (d_fld (cs := ["Patch"]) zk (fld1 CT_Patch NA_Patch_spots zm) (dv 0))) (pg_sq rfl (pgs_cons (pg_name (i := 3) sc_need_fit.nd rfl (Or.inl rfl)) (pgs_cons (pg_name (i := 4) sc_need_fit.nd rfl (Or.inl rfl)) (pgs_cons (pg_name (i := 5) sc_need_fit.nd rfl (Or.inl rfl)) pgs_nil)))) (tg_tp zk.symm rfl)
      (ds_one (ds_for (tg := (.tp [6, 7])) (gg := gSq K 2 (gNames [6, 7])) PassesOwn.never rfl (di_enumK (ra := dNil) zk (by rfl) T.n_enumerate (dv 4) (dv 3)) (pg_sq rfl (pgs_cons (pg_name (i := 6) sc_need_fit.nd rfl (Or.inl rfl)) (pgs_cons (pg_name (i := 7) sc_need_fit.nd rfl (Or.inl rfl)) pgs_nil))) (tg_tp zk.symm rfl)
      (ds_one (ds_if (PW.pt (dw_and (dt_cmp o_lt (dv 6) (dv 2) (nomark _)) (dw_and1 (dt_cmp (o_ne zk hr.units) (d_ix (o_ix zk) (dv 1) (dv 6) (fun _ _ => rfl)) (dv 7) (nomark _)))))
      (ds_one ds_never)
      ds_nil)))))
    (ds_one (ds_if (dt_cmp (o_ne zk hr.units) (d_callB (c_len zk) (by rfl) T.n_len (by decide +kernel) (da_cons (dv 1) da_nil)) (d_fld (cs := ["Patch"]) zk (fld1 CT_Patch NA_Patch_length zm) (dv 0)) (nomark _))
      (ds_one ds_never)
      ds_nil))))
abbrev s_fitted : Stmt := top 17
theorem sc_fitted : FnScope ["patch", "row", "parts", "done", "at", "old", "new"] ["patch", "row"] (defScope s_fitted) := ⟨rfl, rfl, rfl, by decide +kernel, rfl, by decide +kernel, by decide +kernel⟩
def L_fitted_1 : DT := (dSeq (dMut 2 mExtend (dCons (dApp gAdd (dCons (dSl (dVar 1) (dB (dVar 3)) (dB (dVar 4))) (dCons (dVar 6) dNil))) dNil))
  (dSet 3 (dApp gAdd (dCons (dVar 4) (dCons (dApp gLen (dCons (dVar 5) dNil)) dNil)))))
def R_fitted_1 : DT := (dUn 2 (dRet (dApp gAdd (dCons (dApp gTuple (dCons (dVar 2) dNil)) (dCons (dApp gTuple (dCons (dSl (dVar 1) (dB (dVar 3)) dNoB) dNil)) dNil)))))
def B_fitted : DT := (dSeq (dExpr (dCall0 U_need_fit (dCons (dVar 0) (dCons (dVar 1) dNil))))
  (dSeq (dPar 2 3 (dOwnL dNil) (dSh (dC (.int 0))))
  (dSeq (dFor (dIt gIter (dCons (dApp (gFld ["Patch"] "spots") (dCons (dVar 0) dNil)) dNil)) (.tp [4, 5, 6])
    L_fitted_1)
  R_fitted_1)))
def U_fitted : List D → M D := dDef 2 7 B_fitted
theorem ok_fitted {f : Addr} {fd : FuncData} (F : Fun K "fitted" "fitted" s_fitted f fd) (T : Txt mg) (D_need_fit : OkD P w K mg base CX0 1 "need_fit" ["patch", "row"] (spU K mg penKey U_need_fit)) {C_a_Patch : Addr} (CT_Patch : ClT K mg "Patch" C_a_Patch) (NA_Patch_spots : NoAttr K C_a_Patch "spots") : FnOk P w K mg base CX0 2 f fd ["patch", "row"] (spU K mg penKey U_fitted) :=
  fn_D (N := ["patch", "row", "parts", "done", "at", "old", "new"]) (k := 1) (m := 2) (t := B_fitted) F sc_fitted rfl fun cdv A outer s H E Z hr zk zm zn => (ds_cons (ds_expr (d_call0 D_need_fit (hr.mono (by decide)) zk zm zn (da_cons (dv 0) (da_cons (dv 1) da_nil))))
    (ds_cons (ds_par (i := 2) (j := 3) rfl sc_fitted.nd rfl rfl (by decide) rfl rfl (o_lst da_nil) (o_sh d_int) (by rfl))
    (ds_cons (ds_for (tg := (.tp [4, 5, 6])) (gg := gSq K 3 (gNames [4, 5, 6])) PassesOwn.never rfl (di_seq zk (d_fld (cs := ["Patch"]) zk (fld1 CT_Patch NA_Patch_spots zm) (dv 0))) (pg_sq rfl (pgs_cons (pg_name (i := 4) sc_fitted.nd rfl (Or.inl rfl)) (pgs_cons (pg_name (i := 5) sc_fitted.nd rfl (Or.inl rfl)) (pgs_cons (pg_name (i := 6) sc_fitted.nd rfl (Or.inl rfl)) pgs_nil)))) (tg_tp zk.symm rfl)
      (ds_cons (ds_mut PySem.F.slot_list_extend PySem.F.type_list_extend mt_extA (m_extend zk) (pv 2) (da_cons (d_bin (o_add zk) (d_sl zk (dv 1) (db_some (dv 3)) (db_some (dv 4))) (dv 6)) da_nil))
    (ds_one (ds_set (i := 3) sc_fitted.nd rfl (Or.inl rfl) (d_bin (o_add zk) (dv 4) (d_callB (c_len zk) (by rfl) T.n_len (by decide +kernel) (da_cons (dv 5) da_nil)))))))
    (ds_one (ds_un 2 (ds_ret (d_bin (o_add zk) (d_callTy (c_tuple zk) (by rfl) T.n_tuple (by decide +kernel) (da_cons (dv 2) da_nil)) (d_callTy (c_tuple zk) (by rfl) T.n_tuple (by decide +kernel) (da_cons (d_sl zk (dv 1) (db_some (dv 3)) db_none) da_nil)))))))))
abbrev s_placed_behind : Stmt := top 18
theorem sc_placed_behind : FnScope ["patch", "found", "more", "spot"] ["patch"] (defScope s_placed_behind) := ⟨rfl, rfl, rfl, by decide +kernel, rfl, by decide +kernel, by decide +kernel⟩
def L_placed_behind_1 : DT := (dSeq (dMut 1 mAppend (dCons (dApp gTupl (dCons (dApp gAdd (dCons (dApp gIx (dCons (dVar 3) (dCons (dC (.int 0)) dNil))) (dCons (dVar 2) dNil))) (dCons (dVar 3) dNil))) dNil))
  (dAug 2 (gI2 fun i j => .int (i + j)) (dCall0 U_growth (dCons (dVar 3) dNil))))
def R_placed_behind_1 : DT := (dUn 1 (dRet (dVar 1)))
def B_placed_behind : DT := (dSeq (dPar 1 2 (dOwnL dNil) (dSh (dC (.int 0))))
  (dSeq (dFor (dIt gIter (dCons (dApp (gFld ["Patch"] "spots") (dCons (dVar 0) dNil)) dNil)) (.nm 3)
    L_placed_behind_1)
  R_placed_behind_1))
def U_placed_behind : List D → M D := dDef 1 4 B_placed_behind
theorem ok_placed_behind {f : Addr} {fd : FuncData} (F : Fun K "placed_behind" "placed_behind" s_placed_behind f fd) (T : Txt mg) (D_growth : OkD P w K mg base CX0 1 "growth" ["spot"] (spU K mg penKey U_growth)) {C_a_Patch : Addr} (CT_Patch : ClT K mg "Patch" C_a_Patch) (NA_Patch_spots : NoAttr K C_a_Patch "spots") : FnOk P w K mg base CX0 2 f fd ["patch"] (spU K mg penKey U_placed_behind) :=
  fn_D (N := ["patch", "found", "more", "spot"]) (k := 1) (m := 1) (t := B_placed_behind) F sc_placed_behind rfl fun cdv A outer s H E Z hr zk zm zn => (ds_cons (ds_par (i := 1) (j := 2) rfl sc_placed_behind.nd rfl rfl (by decide) rfl rfl (o_lst da_nil) (o_sh d_int) (by rfl))
    (ds_cons (ds_for (tg := (.nm 3)) (gg := gName 3) PassesOwn.never rfl (di_seq zk (d_fld (cs := ["Patch"]) zk (fld1 CT_Patch NA_Patch_spots zm) (dv 0))) (pg_name (i := 3) sc_placed_behind.nd rfl (Or.inl rfl)) tg_nm
      (ds_cons (ds_mut PySem.F.slot_list_append PySem.F.type_list_append mt_append m_append (pv 1) (da_cons (d_tup (da_cons (d_bin (o_add zk) (d_ix (o_ix zk) (dv 3) d_int (fun _ _ => rfl)) (dv 2)) (da_cons (dv 3) da_nil))) da_nil))
    (ds_one (ds_aug (i := 2) oi_add sc_placed_behind.nd rfl (Or.inl rfl) (d_call0 D_growth (hr.mono (by decide)) zk zm zn (da_cons (dv 3) da_nil)) ip_add))))
    (ds_one (ds_un 1 (ds_ret (dv 1))))))
abbrev s_turned_back : Stmt := top 19
theorem sc_turned_back : FnScope ["patch", "place", "spot"] ["patch"] (defScope s_turned_back) := ⟨rfl, rfl, rfl, by decide +kernel, rfl, by decide +kernel, by decide +kernel⟩
def B_turned_back : DT := (dRet (dMakeX0 "Patch" U_Patch [] (dCons (dCall0 U_other_length (dCons (dVar 0) dNil)) (dCons (dApp gTuple (dCons (dNew (dLc (dIt gIter (dCons (dCall0 U_placed_behind (dCons (dVar 0) dNil)) dNil)) (.tp [1, 2]) (dC (.bl true)) (dApp gTupl (dCons (dVar 1) (dCons (dApp gIx (dCons (dVar 2) (dCons (dC (.int 2)) dNil))) (dCons (dApp gIx (dCons (dVar 2) (dCons (dC (.int 1)) dNil))) dNil)))) [1, 2])) dNil)) dNil))))
def U_turned_back : List D → M D := dDef 1 3 B_turned_back
theorem ok_turned_back {f : Addr} {fd : FuncData} (F : Fun K "turned_back" "turned_back" s_turned_back f fd) (T : Txt mg) (D_placed_behind : OkD P w K mg base CX0 2 "placed_behind" ["patch"] (spU K mg penKey U_placed_behind)) (D_other_length : OkD P w K mg base CX0 2 "other_length" ["patch"] (spU K mg penKey U_other_length)) {C_a_Patch : Addr} (CT_Patch : ClT K mg "Patch" C_a_Patch) (C_Patch : OkCx P w K mg base 6 "Patch" C_a_Patch ["self", "length", "spots"] [] (spI K mg penKey "Patch" U_Patch)) : FnOk P w K mg base CX0 8 f fd ["patch"] (spU K mg penKey U_turned_back) :=
  fn_D (N := ["patch", "place", "spot"]) (k := 7) (m := 1) (t := B_turned_back) F sc_turned_back rfl fun cdv A outer s H E Z hr zk zm zn => (ds_one (ds_ret (d_makeX0 C_Patch (fun _ => .nil) (hr.mono (by decide)) zk zm zn (da_cons (d_call0 D_other_length (hr.mono (by decide)) zk zm zn (da_cons (dv 0) da_nil)) (da_cons (d_callTy (c_tuple zk) (by rfl) T.n_tuple (by decide +kernel) (da_cons (d_lc (own := [("place", 1), ("spot", 2)]) (gg := gSq K 2 (gNames [1, 2])) (tg := (.tp [1, 2])) rfl sc_turned_back.nd (di_seq zk (d_call0 D_placed_behind (hr.mono (by decide)) zk zm zn (da_cons (dv 0) da_nil))) (blkOk_by (own := [("place", 1), ("spot", 2)]) (N := ["patch", "place", "spot"]) (sc := defScope s_turned_back) (by decide +kernel)) (fun _ _ _ _ _ => pg_sq rfl (pgs_cons (pg_name (i := 1) sc_turned_back.nd rfl (Or.inl rfl)) (pgs_cons (pg_name (i := 2) sc_turned_back.nd rfl (Or.inl rfl)) pgs_nil))) (tg_tp zk.symm rfl) (fun _ _ _ _ _ => pts_nil) yes_lift (fun _ _ _ _ _ => (d_tup (da_cons (dv 1) (da_cons (d_ix (o_ix zk) (dv 2) d_int (fun _ _ => rfl)) (da_cons (d_ix (o_ix zk) (dv 2) d_int (fun _ _ => rfl)) da_nil))))) (by decide)) da_nil)) da_nil)))))
abbrev s_bytes_by_place : Stmt := top 20
theorem sc_bytes_by_place : FnScope ["spots", "at", "some", "place", "byte"] ["spots"] (defScope s_bytes_by_place) := ⟨rfl, rfl, rfl, by decide +kernel, rfl, by decide +kernel, by decide +kernel⟩
def B_bytes_by_place : DT := (dRet (dDc2 (dIt gIter (dCons (dVar 0) dNil)) (.tp [1, 2]) (dC (.bl true)) (dIt gEnumK (dCons (dVar 2) (dCons (dVar 1) dNil))) (.tp [3, 4]) (dC (.bl true)) (dVar 3) (dVar 4) [1, 2, 3, 4] [3, 4]))
def U_bytes_by_place : List D → M D := dDef 1 5 B_bytes_by_place
theorem ok_bytes_by_place {f : Addr} {fd : FuncData} (F : Fun K "bytes_by_place" "bytes_by_place" s_bytes_by_place f fd) (T : Txt mg) : FnOk P w K mg base CX0 1 f fd ["spots"] (spU K mg penKey U_bytes_by_place) :=
  fn_D (N := ["spots", "at", "some", "place", "byte"]) (k := 0) (m := 1) (t := B_bytes_by_place) F sc_bytes_by_place rfl fun cdv A outer s H E Z hr zk zm zn => (ds_one (ds_ret (d_dc2 (own := [("at", 1), ("some", 2), ("place", 3), ("byte", 4)]) (vs1 := [3, 4]) (gg := gSq K 2 (gNames [1, 2])) (tg := (.tp [1, 2])) (gg1 := gSq K 2 (gNames [3, 4])) (tg1 := (.tp [3, 4])) rfl sc_bytes_by_place.nd (di_seq zk (dv 0)) (blkOk_by (own := [("at", 1), ("some", 2), ("place", 3), ("byte", 4)]) (N := ["spots", "at", "some", "place", "byte"]) (sc := defScope s_bytes_by_place) (by decide +kernel)) (by decide) (fun _ _ _ _ _ => pg_sq rfl (pgs_cons (pg_name (i := 1) sc_bytes_by_place.nd rfl (Or.inl rfl)) (pgs_cons (pg_name (i := 2) sc_bytes_by_place.nd rfl (Or.inl rfl)) pgs_nil))) (tg_tp zk.symm rfl) (fun _ _ _ _ _ => pts_nil) yes_lift (fun _ _ _ _ _ => (di_enumK (ra := dNil) zk (by rfl) T.n_enumerate (dv 2) (dv 1))) (fun _ _ _ _ _ => pg_sq rfl (pgs_cons (pg_name (i := 3) sc_bytes_by_place.nd rfl (Or.inl rfl)) (pgs_cons (pg_name (i := 4) sc_bytes_by_place.nd rfl (Or.inl rfl)) pgs_nil))) (tg_tp zk.symm rfl) (fun _ _ _ _ _ => pts_nil) yes_lift (fun _ _ _ _ _ => (dv 3)) (fun _ _ _ _ _ => (dv 4)) (by decide) (by decide))))
abbrev s_need_chain : Stmt := top 21
theorem sc_need_chain : FnScope ["one", "other", "length", "least", "has", "wants", "bad", "place", "spot", "at", "old", "new"] ["one", "other"] (defScope s_need_chain) := ⟨rfl, rfl, rfl, by decide +kernel, rfl, by decide +kernel, by decide +kernel⟩
def R_need_chain_1 : DT := (dIfS (dApp gNe (dCons (dVar 2) (dCons (dApp (gFld ["Patch"] "length") (dCons (dVar 1) dNil)) dNil)))
    (dRaise "Misfit" ["at"] (dCons (dVar 3) dNil))
    dNext)
def B_need_chain : DT := (dSeq (dSet 2 (dCall0 U_other_length (dCons (dVar 0) dNil)))
  (dSeq (dSet 3 (dApp gMin (dCons (dVar 2) (dCons (dApp (gFld ["Patch"] "length") (dCons (dVar 1) dNil)) dNil))))
  (dSeq (dSet 4 (dCall0 U_bytes_by_place (dCons (dNew (dLc (dIt gIter (dCons (dCall0 U_placed_behind (dCons (dVar 0) dNil)) dNil)) (.tp [7, 8]) (dC (.bl true)) (dApp gTupl (dCons (dVar 7) (dCons (dApp gIx (dCons (dVar 8) (dCons (dC (.int 2)) dNil))) dNil))) [7, 8])) dNil)))
  (dSeq (dSet 5 (dCall0 U_bytes_by_place (dCons (dNew (dLc (dIt gIter (dCons (dApp (gFld ["Patch"] "spots") (dCons (dVar 1) dNil)) dNil)) (.tp [9, 10, 11]) (dC (.bl true)) (dApp gTupl (dCons (dVar 9) (dCons (dVar 10) dNil))) [9, 10, 11])) dNil)))
  (dSeq (dSet 6 (dNew (dLc (dIt gKeys (dCons (dVar 4) dNil)) (.nm 7) (dAnd (dApp gLt (dCons (dVar 7) (dCons (dVar 3) dNil))) (dApp gNe (dCons (dGet2 (dVar 5) (dVar 7) (dApp gDGet (dCons (dVar 4) (dCons (dVar 7) dNil)))) (dCons (dApp gDGet (dCons (dVar 4) (dCons (dVar 7) dNil))) dNil)))) (dVar 7) [7])))
  (dSeq (dIfS (dApp gNe0L (dCons (dVar 6) (dCons (dApp gList dNil) dNil)))
    (dRaise "Misfit" ["at"] (dCons (dApp gMinL (dCons (dVar 6) dNil)) dNil))
    dNext)
  R_need_chain_1))))))
def U_need_chain : List D → M D := dDef 2 12 B_need_chain
theorem ok_need_chain {f : Addr} {fd : FuncData} (F : Fun K "need_chain" "need_chain" s_need_chain f fd) (T : Txt mg) (D_other_length : OkD P w K mg base CX0 2 "other_length" ["patch"] (spU K mg penKey U_other_length)) (D_bytes_by_place : OkD P w K mg base CX0 1 "bytes_by_place" ["spots"] (spU K mg penKey U_bytes_by_place)) (D_placed_behind : OkD P w K mg base CX0 2 "placed_behind" ["patch"] (spU K mg penKey U_placed_behind)) {CX_a_Misfit fI_Misfit : Addr} {fdI_Misfit : FuncData} (X_Misfit : XcB K mg "Misfit" "Misfit.__init__" s_Misfit___init__ "RuntimeError.__new__" [.type "RuntimeError", .type "Exception", .type "BaseException", .type "object"] CX_a_Misfit fI_Misfit fdI_Misfit) (F_Misfit : FnOk P w K mg base CX0 1 fI_Misfit fdI_Misfit ["self", "at"] (spXs CX_a_Misfit (mkF ["at"]))) (B_Misfit : Binds K fdI_Misfit ["self", "at"] []) {C_a_Patch : Addr} (CT_Patch : ClT K mg "Patch" C_a_Patch) (NA_Patch_length : NoAttr K C_a_Patch "length") (NA_Patch_spots : NoAttr K C_a_Patch "spots") : FnOk P w K mg base (L2.CX P w) 3 f fd ["one", "other"] (spU K mg penKey U_need_chain) := by
  refine fn_DX (N := ["one", "other", "length", "least", "has", "wants", "bad", "place", "spot", "at", "old", "new"]) (k := 2) (m := 2) (t := B_need_chain) F sc_need_chain rfl fun cdv A outer s H E Z hr zk zm zn zw => ?_
  have tk : Takes (cxOf (L2.CX P w) P w K mg base ["one", "other", "length", "least", "has", "wants", "bad", "place", "spot", "at", "old", "new"] "need_chain" (defScope s_need_chain) f cdv A outer s H E) Z.W := by rw [zw]; exact takes_of rfl rfl rfl rfl
  exact (ds_cons (ds_set (i := 2) sc_need_chain.nd rfl (Or.inl rfl) (d_call0 D_other_length (hr.mono (by decide)) zk zm zn (da_cons (dv 0) da_nil)))
    (ds_cons (ds_set (i := 3) sc_need_chain.nd rfl (Or.inr rfl) (d_callB (c_min rfl) (by rfl) T.n_min (by decide +kernel) (da_cons (dv 2) (da_cons (d_fld (cs := ["Patch"]) zk (fld1 CT_Patch NA_Patch_length zm) (dv 1)) da_nil))))
    (ds_cons (ds_set (i := 4) sc_need_chain.nd rfl (Or.inr rfl) (d_call0 D_bytes_by_place (hr.mono (by decide)) zk zm zn (da_cons (d_lc (own := [("place", 7), ("spot", 8)]) (gg := gSq K 2 (gNames [7, 8])) (tg := (.tp [7, 8])) rfl sc_need_chain.nd (di_seq zk (d_call0 D_placed_behind (hr.mono (by decide)) zk zm zn (da_cons (dv 0) da_nil))) (blkOk_by (own := [("place", 7), ("spot", 8)]) (N := ["one", "other", "length", "least", "has", "wants", "bad", "place", "spot", "at", "old", "new"]) (sc := defScope s_need_chain) (by decide +kernel)) (fun _ _ _ _ _ => pg_sq rfl (pgs_cons (pg_name (i := 7) sc_need_chain.nd rfl (Or.inl rfl)) (pgs_cons (pg_name (i := 8) sc_need_chain.nd rfl (Or.inl rfl)) pgs_nil))) (tg_tp zk.symm rfl) (fun _ _ _ _ _ => pts_nil) yes_lift (fun _ _ _ _ _ => (d_tup (da_cons (dv 7) (da_cons (d_ix (o_ix zk) (dv 8) d_int (fun _ _ => rfl)) da_nil)))) (by decide)) da_nil)))
    (ds_cons (ds_set (i := 5) sc_need_chain.nd rfl (Or.inr rfl) (d_call0 D_bytes_by_place (hr.mono (by decide)) zk zm zn (da_cons (d_lc (own := [("at", 9), ("old", 10), ("new", 11)]) (gg := gSq K 3 (gNames [9, 10, 11])) (tg := (.tp [9, 10, 11])) rfl sc_need_chain.nd (di_seq zk (d_fld (cs := ["Patch"]) zk (fld1 CT_Patch NA_Patch_spots zm) (dv 1))) (blkOk_by (own := [("at", 9), ("old", 10), ("new", 11)]) (N := ["one", "other", "length", "least", "has", "wants", "bad", "place", "spot", "at", "old", "new"]) (sc := defScope s_need_chain) (by decide +kernel)) (fun _ _ _ _ _ => pg_sq rfl (pgs_cons (pg_name (i := 9) sc_need_chain.nd rfl (Or.inl rfl)) (pgs_cons (pg_name (i := 10) sc_need_chain.nd rfl (Or.inl rfl)) (pgs_cons (pg_name (i := 11) sc_need_chain.nd rfl (Or.inl rfl)) pgs_nil)))) (tg_tp zk.symm rfl) (fun _ _ _ _ _ => pts_nil) yes_lift (fun _ _ _ _ _ => (d_tup (da_cons (dv 9) (da_cons (dv 10) da_nil)))) (by decide)) da_nil)))
    (ds_cons (ds_setLc (i := 6) (tt := liftT Z.calm (dAnd (dApp gLt (dCons (dVar 7) (dCons (dVar 3) dNil))) (dApp gNe (dCons (dGet2 (dVar 5) (dVar 7) (dApp gDGet (dCons (dVar 4) (dCons (dVar 7) dNil)))) (dCons (dApp gDGet (dCons (dVar 4) (dCons (dVar 7) dNil))) dNil))))) (own := [("place", 7)]) (gg := gName 7) (tg := (.nm 7)) rfl sc_need_chain.nd rfl rfl (sw_true rfl rfl rfl (by decide +kernel)) (di_keys (dv 4)) (blkOk_by (own := [("place", 7)]) (N := ["one", "other", "length", "least", "has", "wants", "bad", "place", "spot", "at", "old", "new"]) (sc := defScope s_need_chain) (by decide +kernel)) (fun _ _ _ _ _ => pg_name (i := 7) sc_need_chain.nd rfl (Or.inl rfl)) tg_nm (fun _ _ _ _ _ => (pts_one (PW.pt (dw_and (dt_cmp o_lt (dv 7) (dv 3) (nomark _)) (dw_and1 (dt_cmp (o_ne zk hr.units) (d_dget2 hr.units (dv 5) (dv 7) (d_dget hr.units (dv 4) (dv 7))) (d_dget hr.units (dv 4) (dv 7)) (nomark _))))))) id_lift (fun _ _ _ _ _ => (dv 7)) (by decide))
    (ds_cons (ds_if (dt_cmp (o_ne0L zk hr.units) (dv 6) (d_lst da_nil) (nomark _))
      (ds_one (ds_raise (names := ["at"]) xb_RuntimeError rfl tk X_Misfit F_Misfit B_Misfit (hr.mono (by decide)) zm (da_cons (d_callB (c_minL rfl zk) (by rfl) T.n_min (by decide +kernel) (da_cons (dv 6) da_nil)) da_nil) (by decide)))
      ds_nil)
    (ds_one (ds_if (dt_cmp (o_ne zk hr.units) (dv 2) (d_fld (cs := ["Patch"]) zk (fld1 CT_Patch NA_Patch_length zm) (dv 1)) (nomark _))
      (ds_one (ds_raise (names := ["at"]) xb_RuntimeError rfl tk X_Misfit F_Misfit B_Misfit (hr.mono (by decide)) zm (da_cons (dv 3) da_nil) (by decide)))
      ds_nil))))))))
abbrev s_clustered : Stmt := top 22
theorem sc_clustered : FnScope ["spans", "found", "begin", "end"] ["spans"] (defScope s_clustered) := ⟨rfl, rfl, rfl, by decide +kernel, rfl, by decide +kernel, by decide +kernel⟩
def L_clustered_1 : DT := (dIfS (dAnd (dBor 1 (dApp gNe0L (dCons (dVar 1) (dCons (dApp gList dNil) dNil)))) (dApp gLe (dCons (dVar 2) (dCons (dApp gIx (dCons (dIxO 1 (dApp gNeg (dCons (dC (.int 1)) dNil))) (dCons (dC (.int 1)) dNil))) dNil))))
    (dLput 1 (dApp gNeg (dCons (dC (.int 1)) dNil)) (dApp gTupl (dCons (dApp gIx (dCons (dIxO 1 (dApp gNeg (dCons (dC (.int 1)) dNil))) (dCons (dC (.int 0)) dNil))) (dCons (dApp gMax (dCons (dApp gIx (dCons (dIxO 1 (dApp gNeg (dCons (dC (.int 1)) dNil))) (dCons (dC (.int 1)) dNil))) (dCons (dVar 3) dNil))) dNil))))
    (dMut 1 mAppend (dCons (dApp gTupl (dCons (dVar 2) (dCons (dVar 3) dNil))) dNil)))
def R_clustered_1 : DT := (dUn 1 (dRet (dVar 1)))
def B_clustered : DT := (dSeq (dSetO 1 (dOwnL dNil))
  (dSeq (dFor (dIt gIter (dCons (dSortQ (dVar 0)) dNil)) (.tp [2, 3])
    L_clustered_1)
  R_clustered_1))
def U_clustered : List D → M D := dDef 1 4 B_clustered
theorem ok_clustered {f : Addr} {fd : FuncData} (F : Fun K "clustered" "clustered" s_clustered f fd) (T : Txt mg) : FnOk P w K mg base CX0 1 f fd ["spans"] (spU K mg penKey U_clustered) :=
  fn_D (N := ["spans", "found", "begin", "end"]) (k := 0) (m := 1) (t := B_clustered) F sc_clustered rfl fun cdv A outer s H E Z hr zk zm zn => (ds_cons (ds_setO (i := 1) sc_clustered.nd rfl (Or.inl rfl) (o_lst da_nil))
    (ds_cons (ds_for (tg := (.tp [2, 3])) (gg := gSq K 2 (gNames [2, 3])) PassesOwn.never rfl (di_seq zk (d_sortQ zk (by rfl) T.n_sorted (dv 0))) (pg_sq rfl (pgs_cons (pg_name (i := 2) sc_clustered.nd rfl (Or.inl rfl)) (pgs_cons (pg_name (i := 3) sc_clustered.nd rfl (Or.inl rfl)) pgs_nil))) (tg_tp zk.symm rfl)
      (ds_one (ds_if (PW.pt (dw_and (dt_bor 1 (dt_cmp (o_ne0L zk hr.units) (dv 1) (d_lst da_nil) (nomark _))) (dw_and1 (dt_cmp o_le (dv 2) (d_ix (o_ix zk) (d_ixO zk (pv 1) (d_un o_neg d_int) (fun _ _ => rfl)) d_int (fun _ _ => rfl)) (nomark _)))))
      (ds_one (ds_lput (pv 1) (d_un o_neg d_int) (d_tup (da_cons (d_ix (o_ix zk) (d_ixO zk (pv 1) (d_un o_neg d_int) (fun _ _ => rfl)) d_int (fun _ _ => rfl)) (da_cons (d_callB (c_max rfl) (by rfl) T.n_max (by decide +kernel) (da_cons (d_ix (o_ix zk) (d_ixO zk (pv 1) (d_un o_neg d_int) (fun _ _ => rfl)) d_int (fun _ _ => rfl)) (da_cons (dv 3) da_nil))) da_nil)))))
      (ds_one (ds_mut PySem.F.slot_list_append PySem.F.type_list_append mt_append m_append (pv 1) (da_cons (d_tup (da_cons (dv 2) (da_cons (dv 3) da_nil))) da_nil))))))
    (ds_one (ds_un 1 (ds_ret (dv 1))))))
abbrev s_filled_in : Stmt := top 23
theorem sc_filled_in : FnScope ["span", "known", "changes", "parts", "at", "begin", "end", "some", "place"] ["span", "known", "changes"] (defScope s_filled_in) := ⟨rfl, rfl, rfl, by decide +kernel, rfl, by decide +kernel, by decide +kernel⟩
def L_filled_in_1 : DT := (dIfS (dAnd (dApp gLe (dCons (dApp gIx (dCons (dVar 0) (dCons (dC (.int 0)) dNil))) (dCons (dVar 5) dNil))) (dApp gLe (dCons (dVar 6) (dCons (dApp gIx (dCons (dVar 0) (dCons (dC (.int 1)) dNil))) dNil))))
    (dSeq (dMut 3 mExtend (dCons (dNew (dLc (dIt gRange2 (dCons (dVar 4) (dCons (dVar 5) dNil))) (.nm 8) (dC (.bl true)) (dApp gDGet (dCons (dVar 1) (dCons (dVar 8) dNil))) [8])) dNil))
  (dSeq (dMut 3 mExtend (dCons (dVar 7) dNil))
  (dSet 4 (dVar 6))))
    dNext)
def R_filled_in_1 : DT := (dUn 3 (dRet (dApp gTuple (dCons (dApp gAdd (dCons (dVar 3) (dCons (dNew (dLc (dIt gRange2 (dCons (dVar 4) (dCons (dApp gIx (dCons (dVar 0) (dCons (dC (.int 1)) dNil))) dNil))) (.nm 8) (dC (.bl true)) (dApp gDGet (dCons (dVar 1) (dCons (dVar 8) dNil))) [8])) dNil))) dNil))))
def B_filled_in : DT := (dSeq (dPar 3 4 (dOwnL dNil) (dSh (dApp gIx (dCons (dVar 0) (dCons (dC (.int 0)) dNil)))))
  (dSeq (dFor (dIt gIter (dCons (dVar 2) dNil)) (.tp [5, 6, 7])
    L_filled_in_1)
  R_filled_in_1))
def U_filled_in : List D → M D := dDef 3 9 B_filled_in
theorem ok_filled_in {f : Addr} {fd : FuncData} (F : Fun K "filled_in" "filled_in" s_filled_in f fd) (T : Txt mg) : FnOk P w K mg base CX0 1 f fd ["span", "known", "changes"] (spU K mg penKey U_filled_in) :=
  fn_D (N := ["span", "known", "changes", "parts", "at", "begin", "end", "some", "place"]) (k := 0) (m := 3) (t := B_filled_in) F sc_filled_in rfl fun cdv A outer s H E Z hr zk zm zn => (ds_cons (ds_par (i := 3) (j := 4) rfl sc_filled_in.nd rfl rfl (by decide) rfl rfl (o_lst da_nil) (o_sh (d_ix (o_ix zk) (dv 0) d_int (fun _ _ => rfl))) (by rfl))
    (ds_cons (ds_for (tg := (.tp [5, 6, 7])) (gg := gSq K 3 (gNames [5, 6, 7])) PassesOwn.never rfl (di_seq zk (dv 2)) (pg_sq rfl (pgs_cons (pg_name (i := 5) sc_filled_in.nd rfl (Or.inl rfl)) (pgs_cons (pg_name (i := 6) sc_filled_in.nd rfl (Or.inl rfl)) (pgs_cons (pg_name (i := 7) sc_filled_in.nd rfl (Or.inl rfl)) pgs_nil)))) (tg_tp zk.symm rfl)
      (ds_one (ds_if (PW.pt (dw_and (dt_cmp o_le (d_ix (o_ix zk) (dv 0) d_int (fun _ _ => rfl)) (dv 5) (nomark _)) (dw_and1 (dt_cmp o_le (dv 6) (d_ix (o_ix zk) (dv 0) d_int (fun _ _ => rfl)) (nomark _)))))
      (ds_cons (ds_mut PySem.F.slot_list_extend PySem.F.type_list_extend mt_extA (m_extend zk) (pv 3) (da_cons (d_lc (own := [("place", 8)]) (gg := gName 8) (tg := (.nm 8)) rfl sc_filled_in.nd (di_range2 (by rfl) T.n_range (da_cons (dv 4) (da_cons (dv 5) da_nil))) (blkOk_by (own := [("place", 8)]) (N := ["span", "known", "changes", "parts", "at", "begin", "end", "some", "place"]) (sc := defScope s_filled_in) (by decide +kernel)) (fun _ _ _ _ _ => pg_name (i := 8) sc_filled_in.nd rfl (Or.inl rfl)) tg_nm (fun _ _ _ _ _ => pts_nil) yes_lift (fun _ _ _ _ _ => (d_dget hr.units (dv 1) (dv 8))) (by decide)) da_nil))
    (ds_cons (ds_mut PySem.F.slot_list_extend PySem.F.type_list_extend mt_extA (m_extend zk) (pv 3) (da_cons (dv 7) da_nil))
    (ds_one (ds_set (i := 4) sc_filled_in.nd rfl (Or.inl rfl) (dv 6)))))
      ds_nil)))
    (ds_one (ds_un 3 (ds_ret (d_callTy (c_tuple zk) (by rfl) T.n_tuple (by decide +kernel) (da_cons (d_bin (o_add zk) (dv 3) (d_lc (own := [("place", 8)]) (gg := gName 8) (tg := (.nm 8)) rfl sc_filled_in.nd (di_range2 (by rfl) T.n_range (da_cons (dv 4) (da_cons (d_ix (o_ix zk) (dv 0) d_int (fun _ _ => rfl)) da_nil))) (blkOk_by (own := [("place", 8)]) (N := ["span", "known", "changes", "parts", "at", "begin", "end", "some", "place"]) (sc := defScope s_filled_in) (by decide +kernel)) (fun _ _ _ _ _ => pg_name (i := 8) sc_filled_in.nd rfl (Or.inl rfl)) tg_nm (fun _ _ _ _ _ => pts_nil) yes_lift (fun _ _ _ _ _ => (d_dget hr.units (dv 1) (dv 8))) (by decide))) da_nil)))))))
abbrev s_chained : Stmt := top 24
theorem sc_chained : FnScope ["one", "other", "firsts", "seconds", "has", "wants", "spots", "span", "old", "new", "less", "place", "spot", "at", "begin", "end", "some"] ["one", "other"] (defScope s_chained) := ⟨rfl, rfl, rfl, by decide +kernel, rfl, by decide +kernel, by decide +kernel⟩
def L_chained_1 : DT := (dSeq (dSet 8 (dCall0 U_filled_in (dCons (dVar 7) (dCons (dVar 5) (dCons (dVar 2) dNil)))))
  (dSeq (dSet 9 (dCall0 U_filled_in (dCons (dVar 7) (dCons (dVar 4) (dCons (dVar 3) dNil)))))
  (dSeq (dSet 10 (dApp gSum (dCons (dNew (dLc (dIt gIter (dCons (dCall0 U_placed_behind (dCons (dVar 0) dNil)) dNil)) (.tp [11, 12]) (dApp gLt (dCons (dApp gAdd (dCons (dVar 11) (dCons (dApp gLen (dCons (dApp gIx (dCons (dVar 12) (dCons (dC (.int 2)) dNil))) dNil)) dNil))) (dCons (dApp gIx (dCons (dVar 7) (dCons (dC (.int 0)) dNil))) dNil))) (dCall0 U_growth (dCons (dVar 12) dNil)) [11, 12])) dNil)))
  (dIfS (dOr (dApp gNe0 (dCons (dVar 8) (dCons (dApp gTupl dNil) dNil))) (dApp gNe0 (dCons (dVar 9) (dCons (dApp gTupl dNil) dNil))))
    (dMut 6 mAppend (dCons (dApp gTupl (dCons (dApp gSub (dCons (dApp gIx (dCons (dVar 7) (dCons (dC (.int 0)) dNil))) (dCons (dVar 10) dNil))) (dCons (dVar 8) (dCons (dVar 9) dNil)))) dNil))
    dNext))))
def R_chained_1 : DT := (dUn 6 (dRet (dMakeX "Patch" U_Patch [] (dCons (dApp (gFld ["Patch"] "length") (dCons (dVar 0) dNil)) (dCons (dApp gTuple (dCons (dVar 6) dNil)) dNil)))))
def B_chained : DT := (dSeq (dExpr (dCall U_need_chain (dCons (dVar 0) (dCons (dVar 1) dNil))))
  (dSeq (dSet 2 (dNew (dLc (dIt gIter (dCons (dCall0 U_placed_behind (dCons (dVar 0) dNil)) dNil)) (.tp [11, 12]) (dC (.bl true)) (dApp gTupl (dCons (dVar 11) (dCons (dApp gAdd (dCons (dVar 11) (dCons (dApp gLen (dCons (dApp gIx (dCons (dVar 12) (dCons (dC (.int 2)) dNil))) dNil)) dNil))) (dCons (dApp gIx (dCons (dVar 12) (dCons (dC (.int 1)) dNil))) dNil)))) [11, 12])))
  (dSeq (dSet 3 (dNew (dLc (dIt gIter (dCons (dApp (gFld ["Patch"] "spots") (dCons (dVar 1) dNil)) dNil)) (.tp [13, 8, 9]) (dC (.bl true)) (dApp gTupl (dCons (dVar 13) (dCons (dApp gAdd (dCons (dVar 13) (dCons (dApp gLen (dCons (dVar 8) dNil)) dNil))) (dCons (dVar 9) dNil)))) [13, 8, 9])))
  (dSeq (dSet 4 (dCall0 U_bytes_by_place (dCons (dNew (dLc (dIt gIter (dCons (dCall0 U_placed_behind (dCons (dVar 0) dNil)) dNil)) (.tp [11, 12]) (dC (.bl true)) (dApp gTupl (dCons (dVar 11) (dCons (dApp gIx (dCons (dVar 12) (dCons (dC (.int 2)) dNil))) dNil))) [11, 12])) dNil)))
  (dSeq (dSet 5 (dCall0 U_bytes_by_place (dCons (dNew (dLc (dIt gIter (dCons (dApp (gFld ["Patch"] "spots") (dCons (dVar 1) dNil)) dNil)) (.tp [13, 8, 9]) (dC (.bl true)) (dApp gTupl (dCons (dVar 13) (dCons (dVar 8) dNil))) [13, 8, 9])) dNil)))
  (dSeq (dSetO 6 (dOwnL dNil))
  (dSeq (dFor (dIt gIter (dCons (dCall0 U_clustered (dCons (dNew (dLc (dIt gIter (dCons (dApp gAdd (dCons (dVar 2) (dCons (dVar 3) dNil))) dNil)) (.tp [14, 15, 16]) (dC (.bl true)) (dApp gTupl (dCons (dVar 14) (dCons (dVar 15) dNil))) [14, 15, 16])) dNil)) dNil)) (.nm 7)
    L_chained_1)
  R_chained_1)))))))
def U_chained : List D → M D := dDef 2 17 B_chained
theorem ok_chained {f : Addr} {fd : FuncData} (F : Fun K "chained" "chained" s_chained f fd) (T : Txt mg) (D_need_chain : OkD P w K mg base (L2.CX P w) 3 "need_chain" ["one", "other"] (spU K mg penKey U_need_chain)) (D_placed_behind : OkD P w K mg base CX0 2 "placed_behind" ["patch"] (spU K mg penKey U_placed_behind)) (D_bytes_by_place : OkD P w K mg base CX0 1 "bytes_by_place" ["spots"] (spU K mg penKey U_bytes_by_place)) (D_clustered : OkD P w K mg base CX0 1 "clustered" ["spans"] (spU K mg penKey U_clustered)) (D_filled_in : OkD P w K mg base CX0 1 "filled_in" ["span", "known", "changes"] (spU K mg penKey U_filled_in)) (D_growth : OkD P w K mg base CX0 1 "growth" ["spot"] (spU K mg penKey U_growth)) {C_a_Patch : Addr} (CT_Patch : ClT K mg "Patch" C_a_Patch) (NA_Patch_spots : NoAttr K C_a_Patch "spots") (NA_Patch_length : NoAttr K C_a_Patch "length") (C_Patch : OkCx P w K mg base 6 "Patch" C_a_Patch ["self", "length", "spots"] [] (spI K mg penKey "Patch" U_Patch)) : FnOk P w K mg base (L2.CX P w) 8 f fd ["one", "other"] (spU K mg penKey U_chained) := by
  refine fn_DX (N := ["one", "other", "firsts", "seconds", "has", "wants", "spots", "span", "old", "new", "less", "place", "spot", "at", "begin", "end", "some"]) (k := 7) (m := 2) (t := B_chained) F sc_chained rfl fun cdv A outer s H E Z hr zk zm zn zw => ?_
  have tk : Takes (cxOf (L2.CX P w) P w K mg base ["one", "other", "firsts", "seconds", "has", "wants", "spots", "span", "old", "new", "less", "place", "spot", "at", "begin", "end", "some"] "chained" (defScope s_chained) f cdv A outer s H E) Z.W := by rw [zw]; exact takes_of rfl rfl rfl rfl
  exact (ds_cons (ds_expr (d_callX D_need_chain (hr.mono (by decide)) zk zm zn tk (da_cons (dv 0) (da_cons (dv 1) da_nil))))
    (ds_cons (ds_setLc (i := 2) (own := [("place", 11), ("spot", 12)]) (gg := gSq K 2 (gNames [11, 12])) (tg := (.tp [11, 12])) rfl sc_chained.nd rfl rfl (sw_true rfl rfl rfl (by decide +kernel)) (di_seq zk (d_call0 D_placed_behind (hr.mono (by decide)) zk zm zn (da_cons (dv 0) da_nil))) (blkOk_by (own := [("place", 11), ("spot", 12)]) (N := ["one", "other", "firsts", "seconds", "has", "wants", "spots", "span", "old", "new", "less", "place", "spot", "at", "begin", "end", "some"]) (sc := defScope s_chained) (by decide +kernel)) (fun _ _ _ _ _ => pg_sq rfl (pgs_cons (pg_name (i := 11) sc_chained.nd rfl (Or.inl rfl)) (pgs_cons (pg_name (i := 12) sc_chained.nd rfl (Or.inl rfl)) pgs_nil))) (tg_tp zk.symm rfl) (fun _ _ _ _ _ => pts_nil) yes_lift (fun _ _ _ _ _ => (d_tup (da_cons (dv 11) (da_cons (d_bin (o_add zk) (dv 11) (d_callB (c_len zk) (by rfl) T.n_len (by decide +kernel) (da_cons (d_ix (o_ix zk) (dv 12) d_int (fun _ _ => rfl)) da_nil))) (da_cons (d_ix (o_ix zk) (dv 12) d_int (fun _ _ => rfl)) da_nil))))) (by decide))
    (ds_cons (ds_setLc (i := 3) (own := [("at", 13), ("old", 8), ("new", 9)]) (gg := gSq K 3 (gNames [13, 8, 9])) (tg := (.tp [13, 8, 9])) rfl sc_chained.nd rfl rfl (sw_true rfl rfl rfl (by decide +kernel)) (di_seq zk (d_fld (cs := ["Patch"]) zk (fld1 CT_Patch NA_Patch_spots zm) (dv 1))) (blkOk_by (own := [("at", 13), ("old", 8), ("new", 9)]) (N := ["one", "other", "firsts", "seconds", "has", "wants", "spots", "span", "old", "new", "less", "place", "spot", "at", "begin", "end", "some"]) (sc := defScope s_chained) (by decide +kernel)) (fun _ _ _ _ _ => pg_sq rfl (pgs_cons (pg_name (i := 13) sc_chained.nd rfl (Or.inl rfl)) (pgs_cons (pg_name (i := 8) sc_chained.nd rfl (Or.inl rfl)) (pgs_cons (pg_name (i := 9) sc_chained.nd rfl (Or.inl rfl)) pgs_nil)))) (tg_tp zk.symm rfl) (fun _ _ _ _ _ => pts_nil) yes_lift (fun _ _ _ _ _ => (d_tup (da_cons (dv 13) (da_cons (d_bin (o_add zk) (dv 13) (d_callB (c_len zk) (by rfl) T.n_len (by decide +kernel) (da_cons (dv 8) da_nil))) (da_cons (dv 9) da_nil))))) (by decide))
    (ds_cons (ds_set (i := 4) sc_chained.nd rfl (Or.inl rfl) (d_call0 D_bytes_by_place (hr.mono (by decide)) zk zm zn (da_cons (d_lc (own := [("place", 11), ("spot", 12)]) (gg := gSq K 2 (gNames [11, 12])) (tg := (.tp [11, 12])) rfl sc_chained.nd (di_seq zk (d_call0 D_placed_behind (hr.mono (by decide)) zk zm zn (da_cons (dv 0) da_nil))) (blkOk_by (own := [("place", 11), ("spot", 12)]) (N := ["one", "other", "firsts", "seconds", "has", "wants", "spots", "span", "old", "new", "less", "place", "spot", "at", "begin", "end", "some"]) (sc := defScope s_chained) (by decide +kernel)) (fun _ _ _ _ _ => pg_sq rfl (pgs_cons (pg_name (i := 11) sc_chained.nd rfl (Or.inl rfl)) (pgs_cons (pg_name (i := 12) sc_chained.nd rfl (Or.inl rfl)) pgs_nil))) (tg_tp zk.symm rfl) (fun _ _ _ _ _ => pts_nil) yes_lift (fun _ _ _ _ _ => (d_tup (da_cons (dv 11) (da_cons (d_ix (o_ix zk) (dv 12) d_int (fun _ _ => rfl)) da_nil)))) (by decide)) da_nil)))
    (ds_cons (ds_set (i := 5) sc_chained.nd rfl (Or.inl rfl) (d_call0 D_bytes_by_place (hr.mono (by decide)) zk zm zn (da_cons (d_lc (own := [("at", 13), ("old", 8), ("new", 9)]) (gg := gSq K 3 (gNames [13, 8, 9])) (tg := (.tp [13, 8, 9])) rfl sc_chained.nd (di_seq zk (d_fld (cs := ["Patch"]) zk (fld1 CT_Patch NA_Patch_spots zm) (dv 1))) (blkOk_by (own := [("at", 13), ("old", 8), ("new", 9)]) (N := ["one", "other", "firsts", "seconds", "has", "wants", "spots", "span", "old", "new", "less", "place", "spot", "at", "begin", "end", "some"]) (sc := defScope s_chained) (by decide +kernel)) (fun _ _ _ _ _ => pg_sq rfl (pgs_cons (pg_name (i := 13) sc_chained.nd rfl (Or.inl rfl)) (pgs_cons (pg_name (i := 8) sc_chained.nd rfl (Or.inl rfl)) (pgs_cons (pg_name (i := 9) sc_chained.nd rfl (Or.inl rfl)) pgs_nil)))) (tg_tp zk.symm rfl) (fun _ _ _ _ _ => pts_nil) yes_lift (fun _ _ _ _ _ => (d_tup (da_cons (dv 13) (da_cons (dv 8) da_nil)))) (by decide)) da_nil)))
    (ds_cons (ds_setO (i := 6) sc_chained.nd rfl (Or.inl rfl) (o_lst da_nil))
    (ds_cons (ds_for (tg := (.nm 7)) (gg := gName 7) (passes_of rfl) rfl (di_seq zk (d_call0 D_clustered (hr.mono (by decide)) zk zm zn (da_cons (d_lc (own := [("begin", 14), ("end", 15), ("some", 16)]) (gg := gSq K 3 (gNames [14, 15, 16])) (tg := (.tp [14, 15, 16])) rfl sc_chained.nd (di_seq zk (d_bin (o_add zk) (dv 2) (dv 3))) (blkOk_by (own := [("begin", 14), ("end", 15), ("some", 16)]) (N := ["one", "other", "firsts", "seconds", "has", "wants", "spots", "span", "old", "new", "less", "place", "spot", "at", "begin", "end", "some"]) (sc := defScope s_chained) (by decide +kernel)) (fun _ _ _ _ _ => pg_sq rfl (pgs_cons (pg_name (i := 14) sc_chained.nd rfl (Or.inl rfl)) (pgs_cons (pg_name (i := 15) sc_chained.nd rfl (Or.inl rfl)) (pgs_cons (pg_name (i := 16) sc_chained.nd rfl (Or.inl rfl)) pgs_nil)))) (tg_tp zk.symm rfl) (fun _ _ _ _ _ => pts_nil) yes_lift (fun _ _ _ _ _ => (d_tup (da_cons (dv 14) (da_cons (dv 15) da_nil)))) (by decide)) da_nil))) (pg_name (i := 7) sc_chained.nd rfl (Or.inr rfl)) tg_nm
      (ds_cons (ds_set (i := 8) sc_chained.nd rfl (Or.inl rfl) (d_call0 D_filled_in (hr.mono (by decide)) zk zm zn (da_cons (dv 7) (da_cons (dv 5) (da_cons (dv 2) da_nil)))))
    (ds_cons (ds_set (i := 9) sc_chained.nd rfl (Or.inl rfl) (d_call0 D_filled_in (hr.mono (by decide)) zk zm zn (da_cons (dv 7) (da_cons (dv 4) (da_cons (dv 3) da_nil)))))
    (ds_cons (ds_set (i := 10) sc_chained.nd rfl (Or.inl rfl) (d_callB (c_sum rfl zk) (by rfl) T.n_sum (by decide +kernel) (da_cons (d_lc (tt := liftT Z.calm (dApp gLt (dCons (dApp gAdd (dCons (dVar 11) (dCons (dApp gLen (dCons (dApp gIx (dCons (dVar 12) (dCons (dC (.int 2)) dNil))) dNil)) dNil))) (dCons (dApp gIx (dCons (dVar 7) (dCons (dC (.int 0)) dNil))) dNil)))) (own := [("place", 11), ("spot", 12)]) (gg := gSq K 2 (gNames [11, 12])) (tg := (.tp [11, 12])) rfl sc_chained.nd (di_seq zk (d_call0 D_placed_behind (hr.mono (by decide)) zk zm zn (da_cons (dv 0) da_nil))) (blkOk_by (own := [("place", 11), ("spot", 12)]) (N := ["one", "other", "firsts", "seconds", "has", "wants", "spots", "span", "old", "new", "less", "place", "spot", "at", "begin", "end", "some"]) (sc := defScope s_chained) (by decide +kernel)) (fun _ _ _ _ _ => pg_sq rfl (pgs_cons (pg_name (i := 11) sc_chained.nd rfl (Or.inl rfl)) (pgs_cons (pg_name (i := 12) sc_chained.nd rfl (Or.inl rfl)) pgs_nil))) (tg_tp zk.symm rfl) (fun _ _ _ _ _ => (pts_one (dt_cmp o_lt (d_bin (o_add zk) (dv 11) (d_callB (c_len zk) (by rfl) T.n_len (by decide +kernel) (da_cons (d_ix (o_ix zk) (dv 12) d_int (fun _ _ => rfl)) da_nil))) (d_ix (o_ix zk) (dv 7) d_int (fun _ _ => rfl)) (nomark _)))) id_lift (fun _ _ _ _ _ => (d_call0 D_growth (hr.mono (by decide)) zk zm zn (da_cons (dv 12) da_nil))) (by decide)) da_nil)))
    (ds_one (ds_if (PW.pt (dw_or (dt_cmp (o_ne0 zk hr.units) (dv 8) (d_tup da_nil) (nomark _)) (dw_or1 (dt_cmp (o_ne0 zk hr.units) (dv 9) (d_tup da_nil) (nomark _)))))
      (ds_one (ds_mut PySem.F.slot_list_append PySem.F.type_list_append mt_append m_append (pv 6) (da_cons (d_tup (da_cons (d_bin o_sub (d_ix (o_ix zk) (dv 7) d_int (fun _ _ => rfl)) (dv 10)) (da_cons (dv 8) (da_cons (dv 9) da_nil)))) da_nil)))
      ds_nil))))))
    (ds_one (ds_un 6 (ds_ret (d_makeX C_Patch (fun _ => .nil) (hr.mono (by decide)) zk zm zn tk (da_cons (d_fld (cs := ["Patch"]) zk (fld1 CT_Patch NA_Patch_length zm) (dv 0)) (da_cons (d_callTy (c_tuple zk) (by rfl) T.n_tuple (by decide +kernel) (da_cons (dv 6) da_nil)) da_nil)))))))))))))
abbrev s__law_pick : Stmt := top 28
theorem sc__law_pick : FnScope ["_law_feed_here", "_law_some"] ["_law_feed_here", "_law_some"] (defScope s__law_pick) := ⟨rfl, rfl, rfl, by decide +kernel, rfl, by decide +kernel, by decide +kernel⟩
def B__law_pick : DT := (dRet (dApp gIx (dCons (dVar 1) (dCons (dCall0 U_draw (dCons (dVar 0) (dCons (dApp gLen (dCons (dVar 1) dNil)) dNil))) dNil))))
def U__law_pick : List D → M D := dDef 2 2 B__law_pick
theorem ok__law_pick {f : Addr} {fd : FuncData} (F : Fun K "_law_pick" "_law_pick" s__law_pick f fd) (T : Txt mg) (D__law_draw : OkD P w K mg base CX0 1 "_law_draw" ["_law_feed_here", "_law_many"] (spU K mg penKey U_draw)) : FnOk P w K mg base CX0 2 f fd ["_law_feed_here", "_law_some"] (spU K mg penKey U__law_pick) :=
  fn_D (N := ["_law_feed_here", "_law_some"]) (k := 1) (m := 2) (t := B__law_pick) F sc__law_pick rfl fun cdv A outer s H E Z hr zk zm zn => (ds_one (ds_ret (d_ix (o_ix zk) (dv 1) (d_call0 D__law_draw (hr.mono (by decide)) zk zm zn (da_cons (dv 0) (da_cons (d_callB (c_len zk) (by rfl) T.n_len (by decide +kernel) (da_cons (dv 1) da_nil)) da_nil))) (fun _ _ => rfl))))
abbrev s__law_bytes : Stmt := top 29
theorem sc__law_bytes : FnScope ["_law_feed_here", "_law_most", "_law_k"] ["_law_feed_here", "_law_most"] (defScope s__law_bytes) := ⟨rfl, rfl, rfl, by decide +kernel, rfl, by decide +kernel, by decide +kernel⟩
def B__law_bytes : DT := (dRet (dApp gTuple (dCons (dNew (dLc (dIt gRange (dCons (dCall0 U_draw (dCons (dVar 0) (dCons (dApp gAdd (dCons (dVar 1) (dCons (dC (.int 1)) dNil))) dNil))) dNil)) (.nm 2) (dC (.bl true)) (dCall0 U__law_pick (dCons (dVar 0) (dCons (dApp gList (dCons (dC (.int 0)) (dCons (dC (.int 1)) (dCons (dC (.int 1)) (dCons (dC (.int 255)) (dCons (dCall0 U_draw (dCons (dVar 0) (dCons (dC (.int 256)) dNil))) dNil)))))) dNil))) [2])) dNil)))
def U__law_bytes : List D → M D := dDef 2 3 B__law_bytes
theorem ok__law_bytes {f : Addr} {fd : FuncData} (F : Fun K "_law_bytes" "_law_bytes" s__law_bytes f fd) (T : Txt mg) (D__law_draw : OkD P w K mg base CX0 1 "_law_draw" ["_law_feed_here", "_law_many"] (spU K mg penKey U_draw)) (D__law_pick : OkD P w K mg base CX0 2 "_law_pick" ["_law_feed_here", "_law_some"] (spU K mg penKey U__law_pick)) : FnOk P w K mg base CX0 3 f fd ["_law_feed_here", "_law_most"] (spU K mg penKey U__law_bytes) :=
  fn_D (N := ["_law_feed_here", "_law_most", "_law_k"]) (k := 2) (m := 2) (t := B__law_bytes) F sc__law_bytes rfl fun cdv A outer s H E Z hr zk zm zn => (ds_one (ds_ret (d_callTy (c_tuple zk) (by rfl) T.n_tuple (by decide +kernel) (da_cons (d_lc (own := [("_law_k", 2)]) (gg := gName 2) (tg := (.nm 2)) rfl sc__law_bytes.nd (di_range1 (by rfl) T.n_range (d_call0 D__law_draw (hr.mono (by decide)) zk zm zn (da_cons (dv 0) (da_cons (d_bin (o_add zk) (dv 1) d_int) da_nil)))) (blkOk_by (own := [("_law_k", 2)]) (N := ["_law_feed_here", "_law_most", "_law_k"]) (sc := defScope s__law_bytes) (by decide +kernel)) (fun _ _ _ _ _ => pg_name (i := 2) sc__law_bytes.nd rfl (Or.inl rfl)) tg_nm (fun _ _ _ _ _ => pts_nil) yes_lift (fun _ _ _ _ _ => (d_call0 D__law_pick (hr.mono (by decide)) zk zm zn (da_cons (dv 0) (da_cons (d_lst (da_cons d_int (da_cons d_int (da_cons d_int (da_cons d_int (da_cons (d_call0 D__law_draw (hr.mono (by decide)) zk zm zn (da_cons (dv 0) (da_cons d_int da_nil))) da_nil)))))) da_nil)))) (by decide)) da_nil))))
abbrev s__law_spots : Stmt := top 30
theorem sc__law_spots : FnScope ["_law_feed_here", "_law_line", "_law_some", "_law_at", "_law_old", "_law_new"] ["_law_feed_here", "_law_line"] (defScope s__law_spots) := ⟨rfl, rfl, rfl, by decide +kernel, rfl, by decide +kernel, by decide +kernel⟩
def R__law_spots_1 : DT := (dSet 3 (dApp gAdd (dCons (dApp gAdd (dCons (dApp gAdd (dCons (dVar 3) (dCons (dApp gLen (dCons (dVar 4) dNil)) dNil))) (dCons (dC (.int 1)) dNil))) (dCons (dCall0 U_draw (dCons (dVar 0) (dCons (dC (.int 6)) dNil))) dNil))))
def L__law_spots_1 : DT := (dSeq (dSet 4 (dSl (dVar 1) (dB (dVar 3)) (dB (dApp gAdd (dCons (dVar 3) (dCons (dCall0 U_draw (dCons (dVar 0) (dCons (dC (.int 4)) dNil))) dNil))))))
  (dSeq (dSet 5 (dApp gIx (dCons (dApp gList (dCons (dVar 4) (dCons (dApp gTupl dNil) (dCons (dCall0 U__law_bytes (dCons (dVar 0) (dCons (dC (.int 3)) dNil))) (dCons (dCall0 U__law_bytes (dCons (dVar 0) (dCons (dC (.int 3)) dNil))) dNil))))) (dCons (dCall0 U_draw (dCons (dVar 0) (dCons (dC (.int 4)) dNil))) dNil))))
  (dSeq (dIfS (dOr (dApp gNe0 (dCons (dVar 4) (dCons (dApp gTupl dNil) dNil))) (dApp gNe0 (dCons (dVar 5) (dCons (dApp gTupl dNil) dNil))))
    (dMut 2 mAppend (dCons (dApp gTupl (dCons (dVar 3) (dCons (dVar 4) (dCons (dVar 5) dNil)))) dNil))
    dNext)
  R__law_spots_1)))
def R__law_spots_2 : DT := (dUn 2 (dRet (dApp gTuple (dCons (dVar 2) dNil))))
def B__law_spots : DT := (dSeq (dPar 2 3 (dOwnL dNil) (dSh (dCall0 U_draw (dCons (dVar 0) (dCons (dC (.int 4)) dNil)))))
  (dSeq (dWhile (dAnd (dApp gLe (dCons (dVar 3) (dCons (dApp gLen (dCons (dVar 1) dNil)) dNil))) (dApp gLt (dCons (dBor 2 (dApp gLen (dCons (dVar 2) dNil))) (dCons (dC (.int 12)) dNil))))
    L__law_spots_1)
  R__law_spots_2))
def U__law_spots : List D → M D := dDef 2 6 B__law_spots
theorem ok__law_spots {f : Addr} {fd : FuncData} (F : Fun K "_law_spots" "_law_spots" s__law_spots f fd) (T : Txt mg) (D__law_draw : OkD P w K mg base CX0 1 "_law_draw" ["_law_feed_here", "_law_many"] (spU K mg penKey U_draw)) (D__law_bytes : OkD P w K mg base CX0 3 "_law_bytes" ["_law_feed_here", "_law_most"] (spU K mg penKey U__law_bytes)) : FnOk P w K mg base CX0 4 f fd ["_law_feed_here", "_law_line"] (spU K mg penKey U__law_spots) :=
  fn_D (N := ["_law_feed_here", "_law_line", "_law_some", "_law_at", "_law_old", "_law_new"]) (k := 3) (m := 2) (t := B__law_spots) F sc__law_spots rfl fun cdv A outer s H E Z hr zk zm zn => (ds_cons (ds_par (i := 2) (j := 3) rfl sc__law_spots.nd rfl rfl (by decide) rfl rfl (o_lst da_nil) (o_sh (d_call0 D__law_draw (hr.mono (by decide)) zk zm zn (da_cons (dv 0) (da_cons d_int da_nil)))) (by rfl))
    (ds_cons (ds_while PassesOwn.never (PW.pt (dw_and (dt_cmp o_le (dv 3) (d_callB (c_len zk) (by rfl) T.n_len (by decide +kernel) (da_cons (dv 1) da_nil)) (nomark _)) (dw_and1 (dt_cmp o_lt (d_bor 2 (d_callB (c_len zk) (by rfl) T.n_len (by decide +kernel) (da_cons (dv 2) da_nil))) d_int (nomark _)))))
      (ds_cons (ds_set (i := 4) sc__law_spots.nd rfl (Or.inl rfl) (d_sl zk (dv 1) (db_some (dv 3)) (db_some (d_bin (o_add zk) (dv 3) (d_call0 D__law_draw (hr.mono (by decide)) zk zm zn (da_cons (dv 0) (da_cons d_int da_nil)))))))
    (ds_cons (ds_set (i := 5) sc__law_spots.nd rfl (Or.inl rfl) (d_ix (o_ix zk) (d_lst (da_cons (dv 4) (da_cons (d_tup da_nil) (da_cons (d_call0 D__law_bytes (hr.mono (by decide)) zk zm zn (da_cons (dv 0) (da_cons d_int da_nil))) (da_cons (d_call0 D__law_bytes (hr.mono (by decide)) zk zm zn (da_cons (dv 0) (da_cons d_int da_nil))) da_nil))))) (d_call0 D__law_draw (hr.mono (by decide)) zk zm zn (da_cons (dv 0) (da_cons d_int da_nil))) (fun _ _ => rfl)))
    (ds_cons (ds_if (PW.pt (dw_or (dt_cmp (o_ne0 zk hr.units) (dv 4) (d_tup da_nil) (nomark _)) (dw_or1 (dt_cmp (o_ne0 zk hr.units) (dv 5) (d_tup da_nil) (nomark _)))))
      (ds_one (ds_mut PySem.F.slot_list_append PySem.F.type_list_append mt_append m_append (pv 2) (da_cons (d_tup (da_cons (dv 3) (da_cons (dv 4) (da_cons (dv 5) da_nil)))) da_nil)))
      ds_nil)
    (ds_one (ds_set (i := 3) sc__law_spots.nd rfl (Or.inl rfl) (d_bin (o_add zk) (d_bin (o_add zk) (d_bin (o_add zk) (dv 3) (d_callB (c_len zk) (by rfl) T.n_len (by decide +kernel) (da_cons (dv 4) da_nil))) d_int) (d_call0 D__law_draw (hr.mono (by decide)) zk zm zn (da_cons (dv 0) (da_cons d_int da_nil))))))))))
    (ds_one (ds_un 2 (ds_ret (d_callTy (c_tuple zk) (by rfl) T.n_tuple (by decide +kernel) (da_cons (dv 2) da_nil)))))))
abbrev s__law_fit : Stmt := top 31
theorem sc__law_fit : FnScope ["_law_line", "_law_some", "_law_at", "_law_old", "_law_new"] ["_law_line", "_law_some"] (defScope s__law_fit) := ⟨rfl, rfl, rfl, by decide +kernel, rfl, by decide +kernel, by decide +kernel⟩
def L__law_fit_1 : DT := (dSet 0 (dApp gAdd (dCons (dApp gAdd (dCons (dSl (dVar 0) dNoB (dB (dVar 2))) (dCons (dVar 4) dNil))) (dCons (dSl (dVar 0) (dB (dApp gAdd (dCons (dVar 2) (dCons (dApp gLen (dCons (dVar 3) dNil)) dNil)))) dNoB) dNil))))
def R__law_fit_1 : DT := (dRet (dVar 0))
def B__law_fit : DT := (dSeq (dFor (dIt gIter (dCons (dApp gRevT (dCons (dVar 1) dNil)) dNil)) (.tp [2, 3, 4])
    L__law_fit_1)
  R__law_fit_1)
def U__law_fit : List D → M D := dDef 2 5 B__law_fit
theorem ok__law_fit {f : Addr} {fd : FuncData} (F : Fun K "_law_fit" "_law_fit" s__law_fit f fd) (T : Txt mg) : FnOk P w K mg base CX0 1 f fd ["_law_line", "_law_some"] (spU K mg penKey U__law_fit) :=
  fn_D (N := ["_law_line", "_law_some", "_law_at", "_law_old", "_law_new"]) (k := 0) (m := 2) (t := B__law_fit) F sc__law_fit rfl fun cdv A outer s H E Z hr zk zm zn => (ds_cons (ds_for (tg := (.tp [2, 3, 4])) (gg := gSq K 3 (gNames [2, 3, 4])) PassesOwn.never rfl (di_seq zk (d_revT zk (dv 1))) (pg_sq rfl (pgs_cons (pg_name (i := 2) sc__law_fit.nd rfl (Or.inl rfl)) (pgs_cons (pg_name (i := 3) sc__law_fit.nd rfl (Or.inl rfl)) (pgs_cons (pg_name (i := 4) sc__law_fit.nd rfl (Or.inl rfl)) pgs_nil)))) (tg_tp zk.symm rfl)
      (ds_one (ds_set (i := 0) sc__law_fit.nd rfl (Or.inl rfl) (d_bin (o_add zk) (d_bin (o_add zk) (d_sl zk (dv 0) db_none (db_some (dv 2))) (dv 4)) (d_sl zk (dv 0) (db_some (d_bin (o_add zk) (dv 2) (d_callB (c_len zk) (by rfl) T.n_len (by decide +kernel) (da_cons (dv 3) da_nil)))) db_none)))))
    (ds_one (ds_ret (dv 0))))
abbrev s__law_in_groups : Stmt := top 32
theorem sc__law_in_groups : FnScope ["_law_feed_here", "_law_some", "_law_left", "_law_at"] ["_law_feed_here", "_law_some"] (defScope s__law_in_groups) := ⟨rfl, rfl, rfl, by decide +kernel, rfl, by decide +kernel, by decide +kernel⟩
def L__law_in_groups_1 : DT := (dSeq (dSet 3 (dCall0 U_draw (dCons (dVar 0) (dCons (dApp gSub (dCons (dApp gLen (dCons (dVar 2) dNil)) (dCons (dC (.int 1)) dNil))) dNil))))
  (dSet 2 (dApp gAdd (dCons (dApp gAdd (dCons (dSl (dVar 2) dNoB (dB (dVar 3))) (dCons (dApp gList (dCons (dCall0 U_chained (dCons (dApp gIx (dCons (dVar 2) (dCons (dVar 3) dNil))) (dCons (dApp gIx (dCons (dVar 2) (dCons (dApp gAdd (dCons (dVar 3) (dCons (dC (.int 1)) dNil))) dNil))) dNil))) dNil)) dNil))) (dCons (dSl (dVar 2) (dB (dApp gAdd (dCons (dVar 3) (dCons (dC (.int 2)) dNil)))) dNoB) dNil)))))
def R__law_in_groups_1 : DT := (dRet (dApp gIx (dCons (dVar 2) (dCons (dC (.int 0)) dNil))))
def B__law_in_groups : DT := (dSeq (dSet 2 (dApp gListS (dCons (dVar 1) dNil)))
  (dSeq (dWhile (dApp gGt (dCons (dApp gLen (dCons (dVar 2) dNil)) (dCons (dC (.int 1)) dNil)))
    L__law_in_groups_1)
  R__law_in_groups_1))
def U__law_in_groups : List D → M D := dDef 2 4 B__law_in_groups
theorem ok__law_in_groups {f : Addr} {fd : FuncData} (F : Fun K "_law_in_groups" "_law_in_groups" s__law_in_groups f fd) (T : Txt mg) (D__law_draw : OkD P w K mg base CX0 1 "_law_draw" ["_law_feed_here", "_law_many"] (spU K mg penKey U_draw)) (D_chained : OkD P w K mg base (L2.CX P w) 8 "chained" ["one", "other"] (spU K mg penKey U_chained)) : FnOk P w K mg base CX0 9 f fd ["_law_feed_here", "_law_some"] (spU K mg penKey U__law_in_groups) :=
  fn_D (N := ["_law_feed_here", "_law_some", "_law_left", "_law_at"]) (k := 8) (m := 2) (t := B__law_in_groups) F sc__law_in_groups rfl fun cdv A outer s H E Z hr zk zm zn => (ds_cons (ds_set (i := 2) sc__law_in_groups.nd rfl (Or.inl rfl) (d_callTy (c_listS rfl zk) (by rfl) T.n_list (by decide +kernel) (da_cons (dv 1) da_nil)))
    (ds_cons (ds_while PassesOwn.never (dt_cmp o_gt (d_callB (c_len zk) (by rfl) T.n_len (by decide +kernel) (da_cons (dv 2) da_nil)) d_int (nomark _))
      (ds_cons (ds_set (i := 3) sc__law_in_groups.nd rfl (Or.inl rfl) (d_call0 D__law_draw (hr.mono (by decide)) zk zm zn (da_cons (dv 0) (da_cons (d_bin o_sub (d_callB (c_len zk) (by rfl) T.n_len (by decide +kernel) (da_cons (dv 2) da_nil)) d_int) da_nil))))
    (ds_one (ds_set (i := 2) sc__law_in_groups.nd rfl (Or.inl rfl) (d_bin (o_add zk) (d_bin (o_add zk) (d_sl zk (dv 2) db_none (db_some (dv 3))) (d_lst (da_cons (d_callX0 D_chained (hr.mono (by decide)) zk zm zn (da_cons (d_ix (o_ix zk) (dv 2) (dv 3) (fun _ _ => rfl)) (da_cons (d_ix (o_ix zk) (dv 2) (d_bin (o_add zk) (dv 3) d_int) (fun _ _ => rfl)) da_nil))) da_nil))) (d_sl zk (dv 2) (db_some (d_bin (o_add zk) (dv 3) d_int)) db_none))))))
    (ds_one (ds_ret (d_ix (o_ix zk) (dv 2) d_int (fun _ _ => rfl))))))
abbrev s__law_joined_up : Stmt := top 33
theorem sc__law_joined_up : FnScope ["_law_some", "_law_found", "_law_made"] ["_law_some"] (defScope s__law_joined_up) := ⟨rfl, rfl, rfl, by decide +kernel, rfl, by decide +kernel, by decide +kernel⟩
def L__law_joined_up_1 : DT := (dSet 1 (dCall0 U_chained (dCons (dVar 1) (dCons (dVar 2) dNil))))
def R__law_joined_up_1 : DT := (dRet (dVar 1))
def B__law_joined_up : DT := (dSeq (dSet 1 (dApp gIx (dCons (dVar 0) (dCons (dC (.int 0)) dNil))))
  (dSeq (dFor (dIt gIter (dCons (dSl (dVar 0) (dB (dC (.int 1))) dNoB) dNil)) (.nm 2)
    L__law_joined_up_1)
  R__law_joined_up_1))
def U__law_joined_up : List D → M D := dDef 1 3 B__law_joined_up
theorem ok__law_joined_up {f : Addr} {fd : FuncData} (F : Fun K "_law_joined_up" "_law_joined_up" s__law_joined_up f fd) (T : Txt mg) (D_chained : OkD P w K mg base (L2.CX P w) 8 "chained" ["one", "other"] (spU K mg penKey U_chained)) : FnOk P w K mg base CX0 9 f fd ["_law_some"] (spU K mg penKey U__law_joined_up) :=
  fn_D (N := ["_law_some", "_law_found", "_law_made"]) (k := 8) (m := 1) (t := B__law_joined_up) F sc__law_joined_up rfl fun cdv A outer s H E Z hr zk zm zn => (ds_cons (ds_set (i := 1) sc__law_joined_up.nd rfl (Or.inl rfl) (d_ix (o_ix zk) (dv 0) d_int (fun _ _ => rfl)))
    (ds_cons (ds_for (tg := (.nm 2)) (gg := gName 2) PassesOwn.never rfl (di_seq zk (d_sl zk (dv 0) (db_some d_int) db_none)) (pg_name (i := 2) sc__law_joined_up.nd rfl (Or.inl rfl)) tg_nm
      (ds_one (ds_set (i := 1) sc__law_joined_up.nd rfl (Or.inl rfl) (d_callX0 D_chained (hr.mono (by decide)) zk zm zn (da_cons (dv 1) (da_cons (dv 2) da_nil))))))
    (ds_one (ds_ret (dv 1)))))
abbrev s__law_are_seen : Stmt := top 34
theorem sc__law_are_seen : FnScope ["_law_some", "_law_lines", "_law_k", "_law_made", "_law_seen", "_law_back", "_law_at", "_law_old", "_law_new"] ["_law_some", "_law_lines"] (defScope s__law_are_seen) := ⟨rfl, rfl, rfl, by decide +kernel, rfl, by decide +kernel, by decide +kernel⟩
def L__law_are_seen_1 : DT := (dSeq (dSet 3 (dApp gIx (dCons (dVar 0) (dCons (dVar 2) dNil))))
  (dSeq (dSet 4 (dApp gTuple (dCons (dNew (dLc (dIt gIter (dCons (dApp (gFld ["Patch"] "spots") (dCons (dVar 3) dNil)) dNil)) (.tp [6, 7, 8]) (dApp gNe0 (dCons (dVar 7) (dCons (dApp gTupl dNil) dNil))) (dApp gTupl (dCons (dVar 6) (dCons (dVar 7) (dCons (dVar 7) dNil)))) [6, 7, 8])) dNil)))
  (dSeq (dSet 5 (dCall0 (fun ds => U_turned_back (oneA [] ds)) (dCons (dVar 3) dNil)))
  (dIfS (dOr (dCmpO true "Patch" U_Patch___eq__ (dCall0 U_chained (dCons (dVar 3) (dCons (dVar 5) dNil))) (dMakeX0 "Patch" U_Patch [] (dCons (dApp (gFld ["Patch"] "length") (dCons (dVar 3) dNil)) (dCons (dVar 4) dNil)))) (dApp gNe (dCons (dApp (gFld ["Patch"] "length") (dCons (dVar 5) dNil)) (dCons (dApp gLen (dCons (dApp gIx (dCons (dVar 1) (dCons (dApp gAdd (dCons (dVar 2) (dCons (dC (.int 1)) dNil))) dNil))) dNil)) dNil))))
    (dRet (dC (.bl false)))
    dNext))))
def R__law_are_seen_1 : DT := (dRet (dC (.bl true)))
def B__law_are_seen : DT := (dSeq (dFor (dIt gRange (dCons (dApp gLen (dCons (dVar 0) dNil)) dNil)) (.nm 2)
    L__law_are_seen_1)
  R__law_are_seen_1)
def U__law_are_seen : List D → M D := dDef 2 9 B__law_are_seen
theorem ok__law_are_seen {f : Addr} {fd : FuncData} (F : Fun K "_law_are_seen" "_law_are_seen" s__law_are_seen f fd) (T : Txt mg) (K_turned_back : OkK P w K mg base 8 "turned_back" ["patch"] oneA (spU K mg penKey U_turned_back)) (D_chained : OkD P w K mg base (L2.CX P w) 8 "chained" ["one", "other"] (spU K mg penKey U_chained)) {C_a_Patch : Addr} (CT_Patch : ClT K mg "Patch" C_a_Patch) (NA_Patch_spots : NoAttr K C_a_Patch "spots") (NA_Patch_length : NoAttr K C_a_Patch "length") (C_Patch : OkCx P w K mg base 6 "Patch" C_a_Patch ["self", "length", "spots"] [] (spI K mg penKey "Patch" U_Patch)) (E_Patch : OkE P w K mg base 1 C_a_Patch (spU K mg penKey U_Patch___eq__)) : FnOk P w K mg base CX0 9 f fd ["_law_some", "_law_lines"] (spU K mg penKey U__law_are_seen) :=
  fn_D (N := ["_law_some", "_law_lines", "_law_k", "_law_made", "_law_seen", "_law_back", "_law_at", "_law_old", "_law_new"]) (k := 8) (m := 2) (t := B__law_are_seen) F sc__law_are_seen rfl fun cdv A outer s H E Z hr zk zm zn => (ds_cons (ds_for (tg := (.nm 2)) (gg := gName 2) PassesOwn.never rfl (di_range1 (by rfl) T.n_range (d_callB (c_len zk) (by rfl) T.n_len (by decide +kernel) (da_cons (dv 0) da_nil))) (pg_name (i := 2) sc__law_are_seen.nd rfl (Or.inl rfl)) tg_nm
      (ds_cons (ds_set (i := 3) sc__law_are_seen.nd rfl (Or.inl rfl) (d_ix (o_ix zk) (dv 0) (dv 2) (fun _ _ => rfl)))
    (ds_cons (ds_set (i := 4) sc__law_are_seen.nd rfl (Or.inl rfl) (d_callTy (c_tuple zk) (by rfl) T.n_tuple (by decide +kernel) (da_cons (d_lc (tt := liftT Z.calm (dApp gNe0 (dCons (dVar 7) (dCons (dApp gTupl dNil) dNil)))) (own := [("_law_at", 6), ("_law_old", 7), ("_law_new", 8)]) (gg := gSq K 3 (gNames [6, 7, 8])) (tg := (.tp [6, 7, 8])) rfl sc__law_are_seen.nd (di_seq zk (d_fld (cs := ["Patch"]) zk (fld1 CT_Patch NA_Patch_spots zm) (dv 3))) (blkOk_by (own := [("_law_at", 6), ("_law_old", 7), ("_law_new", 8)]) (N := ["_law_some", "_law_lines", "_law_k", "_law_made", "_law_seen", "_law_back", "_law_at", "_law_old", "_law_new"]) (sc := defScope s__law_are_seen) (by decide +kernel)) (fun _ _ _ _ _ => pg_sq rfl (pgs_cons (pg_name (i := 6) sc__law_are_seen.nd rfl (Or.inl rfl)) (pgs_cons (pg_name (i := 7) sc__law_are_seen.nd rfl (Or.inl rfl)) (pgs_cons (pg_name (i := 8) sc__law_are_seen.nd rfl (Or.inl rfl)) pgs_nil)))) (tg_tp zk.symm rfl) (fun _ _ _ _ _ => (pts_one (dt_cmp (o_ne0 zk hr.units) (dv 7) (d_tup da_nil) (nomark _)))) id_lift (fun _ _ _ _ _ => (d_tup (da_cons (dv 6) (da_cons (dv 7) (da_cons (dv 7) da_nil))))) (by decide)) da_nil)))
    (ds_cons (ds_set (i := 5) sc__law_are_seen.nd rfl (Or.inl rfl) (d_callK (gD := oneA []) K_turned_back (hr.mono (by decide)) zk zm zn (dk_cons (dv 3) dk_nil) one_dv))
    (ds_one (ds_if (PW.pt (dw_or (dt_neO E_Patch CT_Patch.g (hr.mono (by decide)) zk zm zn (d_callX0 D_chained (hr.mono (by decide)) zk zm zn (da_cons (dv 3) (da_cons (dv 5) da_nil))) (d_makeX0 C_Patch (fun _ => .nil) (hr.mono (by decide)) zk zm zn (da_cons (d_fld (cs := ["Patch"]) zk (fld1 CT_Patch NA_Patch_length zm) (dv 3)) (da_cons (dv 4) da_nil))) (nomark _)) (dw_or1 (dt_cmp (o_ne zk hr.units) (d_fld (cs := ["Patch"]) zk (fld1 CT_Patch NA_Patch_length zm) (dv 5)) (d_callB (c_len zk) (by rfl) T.n_len (by decide +kernel) (da_cons (d_ix (o_ix zk) (dv 1) (d_bin (o_add zk) (dv 2) d_int) (fun _ _ => rfl)) da_nil)) (nomark _)))))
      (ds_one (ds_ret d_bl))
      ds_nil))))))
    (ds_one (ds_ret d_bl)))
abbrev s_law : Stmt := top 35
theorem sc_law : FnScope ["_law_script", "_law_feed_here", "_law_turn", "_law_line", "_law_lines", "_law_some", "_law_k", "_law_more", "_law_whole", "_law_again", "_law_back", "_law_made"] ["_law_script"] (defScope s_law) := ⟨rfl, rfl, rfl, by decide +kernel, rfl, by decide +kernel, by decide +kernel⟩
def L_law_1 : DT := (dSeq (dSet 7 (dCall0 U__law_spots (dCons (dVar 1) (dCons (dIxO 4 (dApp gNeg (dCons (dC (.int 1)) dNil))) dNil))))
  (dSeq (dMut 5 mAppend (dCons (dMakeX0 "Patch" U_Patch [] (dCons (dApp gLen (dCons (dIxO 4 (dApp gNeg (dCons (dC (.int 1)) dNil))) dNil)) (dCons (dVar 7) dNil))) dNil))
  (dMut 4 mAppend (dCons (dCall0 U__law_fit (dCons (dIxO 4 (dApp gNeg (dCons (dC (.int 1)) dNil))) (dCons (dVar 7) dNil))) dNil))))
def L_law_2 : DT := (dIfS (dBor 5 (dCmpO true "Patch" U_Patch___eq__ (dCall0 U__law_in_groups (dCons (dVar 1) (dCons (dVar 5) dNil))) (dVar 8)))
    (dRet (dC (.bl false)))
    dNext)
def R_law_1 : DT := (dIfS (dBor 5 (dBor 4 (dApp gNot (dCons (dCall0 U__law_are_seen (dCons (dVar 5) (dCons (dVar 4) dNil))) dNil))))
    (dRet (dC (.bl false)))
    dNext)
def R_law_2 : DT := (dSeq (dIfS (dOr (dCmpO true "Patch" U_Patch___eq__ (dCall0 U_chained (dCons (dMakeX0 "Patch" U_Patch [.tup []] (dCons (dApp gLen (dCons (dVar 3) dNil)) dNil)) (dCons (dVar 8) dNil))) (dVar 8)) (dCmpO true "Patch" U_Patch___eq__ (dCall0 U_chained (dCons (dVar 8) (dCons (dMakeX0 "Patch" U_Patch [.tup []] (dCons (dApp gLen (dCons (dIxO 4 (dApp gNeg (dCons (dC (.int 1)) dNil))) dNil)) dNil)) dNil))) (dVar 8)))
    (dRet (dC (.bl false)))
    dNext)
  R_law_1)
def R_law_3 : DT := (dSeq (dIfS (dBor 5 (dCmpO true "Patch" U_Patch___eq__ (dCall0 U__law_in_groups (dCons (dVar 1) (dCons (dNew (dLc (dIt gIter (dCons (dApp gRevL (dCons (dVar 5) dNil)) dNil)) (.nm 11) (dC (.bl true)) (dCall0 U_turned_back (dCons (dVar 11) dNil)) [11])) dNil))) (dVar 10)))
    (dRet (dC (.bl false)))
    dNext)
  R_law_2)
def R_law_4 : DT := (dSeq (dSet 10 (dCall0 U_turned_back (dCons (dVar 8) dNil)))
  (dSeq (dIfS (dOr (dApp gNe (dCons (dCall0 U_fitted (dCons (dVar 8) (dCons (dVar 3) dNil))) (dCons (dIxO 4 (dApp gNeg (dCons (dC (.int 1)) dNil))) dNil))) (dOr (dApp gNe (dCons (dCall0 U_fitted (dCons (dVar 10) (dCons (dIxO 4 (dApp gNeg (dCons (dC (.int 1)) dNil))) dNil))) (dCons (dVar 3) dNil))) (dCmpO true "Patch" U_Patch___eq__ (dCall0 U_turned_back (dCons (dVar 10) dNil)) (dVar 8))))
    (dRet (dC (.bl false)))
    dNext)
  R_law_3))
def R_law_5 : DT := (dSeq (dUn 5 (dSet 8 (dCall0 U__law_joined_up (dCons (dVar 5) dNil))))
  (dSeq (dFor (dIt gRange (dCons (dC (.int 3)) dNil)) (.nm 9)
    L_law_2)
  R_law_4))
def L_law_3 : DT := (dSeq (dSet 3 (dCall0 U__law_bytes (dCons (dVar 1) (dCons (dC (.int 30)) dNil))))
  (dSeq (dPar 4 5 (dOwnL (dCons (dVar 3) dNil)) (dOwnL dNil))
  (dSeq (dFor (dIt gRange (dCons (dApp gAdd (dCons (dC (.int 1)) (dCons (dCall0 U_draw (dCons (dVar 1) (dCons (dC (.int 7)) dNil))) dNil))) dNil)) (.nm 6)
    L_law_1)
  R_law_5)))
def R_law_6 : DT := (dRet (dC (.bl true)))
def B_law : DT := (dSeq (dFor (dIt gRange (dCons (dC (.int 4)) dNil)) (.nm 2)
    L_law_3)
  R_law_6)
theorem ok_law {f : Addr} {fd : FuncData} (F : Fun K "law" "law" s_law f fd) (T : Txt mg) (D__law_bytes : OkD P w K mg base CX0 3 "_law_bytes" ["_law_feed_here", "_law_most"] (spU K mg penKey U__law_bytes)) (D__law_draw : OkD P w K mg base CX0 1 "_law_draw" ["_law_feed_here", "_law_many"] (spU K mg penKey U_draw)) (D__law_spots : OkD P w K mg base CX0 4 "_law_spots" ["_law_feed_here", "_law_line"] (spU K mg penKey U__law_spots)) (D__law_fit : OkD P w K mg base CX0 1 "_law_fit" ["_law_line", "_law_some"] (spU K mg penKey U__law_fit)) (D__law_joined_up : OkD P w K mg base CX0 9 "_law_joined_up" ["_law_some"] (spU K mg penKey U__law_joined_up)) (D__law_in_groups : OkD P w K mg base CX0 9 "_law_in_groups" ["_law_feed_here", "_law_some"] (spU K mg penKey U__law_in_groups)) (D_turned_back : OkD P w K mg base CX0 8 "turned_back" ["patch"] (spU K mg penKey U_turned_back)) (D_fitted : OkD P w K mg base CX0 2 "fitted" ["patch", "row"] (spU K mg penKey U_fitted)) (D_chained : OkD P w K mg base (L2.CX P w) 8 "chained" ["one", "other"] (spU K mg penKey U_chained)) (D__law_are_seen : OkD P w K mg base CX0 9 "_law_are_seen" ["_law_some", "_law_lines"] (spU K mg penKey U__law_are_seen)) {C_a_Patch : Addr} (CT_Patch : ClT K mg "Patch" C_a_Patch) (C_Patch : OkCx P w K mg base 6 "Patch" C_a_Patch ["self", "length", "spots"] [] (spI K mg penKey "Patch" U_Patch)) (E_Patch : OkE P w K mg base 1 C_a_Patch (spU K mg penKey U_Patch___eq__)) {TD_Patch : Addr} (ZD_Patch : SqT K (fun _ => none) TD_Patch []) (CD_Patch : OkCx P w K mg base 6 "Patch" C_a_Patch ["self", "length", "spots"] [.ref TD_Patch] (spI K mg penKey "Patch" U_Patch)) (D__law_feed : OkD P w K mg base CX0 1 "_law_feed" ["_law_script"] (spFeed penStr K)) (hU : dLawS 12 1 B_law) : FnG P w K mg base CX0 10 f fd ["_law_script"] (spLaw K) :=
  law_DGS (k := 9) (i := 1) (kn := penKey) (t := B_law) F sc_law rfl (by decide) rfl (fun cdv A outer s H E hr => ps_set (i := 1) sc_law.nd rfl (Or.inl rfl) (pe_callD D__law_feed (hr.mono (by decide)) (pa_cons (pv 0) pa_nil))) (fun cdv A outer s H E Z gd hr zk zm zn => (ds_cons (ds_for (tg := (.nm 2)) (gg := gName 2) PassesOwn.never rfl (di_range1 (by rfl) T.n_range d_int) (pg_name (i := 2) sc_law.nd rfl (Or.inl rfl)) tg_nm
      (ds_cons (ds_set (i := 3) sc_law.nd rfl (Or.inl rfl) (d_call0 D__law_bytes (hr.mono (by decide)) zk zm zn (da_cons (dv 1) (da_cons d_int da_nil))))
    (ds_cons (ds_par (i := 4) (j := 5) rfl sc_law.nd rfl rfl (by decide) rfl rfl (o_lst (da_cons (dv 3) da_nil)) (o_lst da_nil) (by rfl))
    (ds_cons (ds_for (tg := (.nm 6)) (gg := gName 6) PassesOwn.never rfl (di_range1 (by rfl) T.n_range (d_bin (o_add zk) d_int (d_call0 D__law_draw (hr.mono (by decide)) zk zm zn (da_cons (dv 1) (da_cons d_int da_nil))))) (pg_name (i := 6) sc_law.nd rfl (Or.inl rfl)) tg_nm
      (ds_cons (ds_set (i := 7) sc_law.nd rfl (Or.inl rfl) (d_call0 D__law_spots (hr.mono (by decide)) zk zm zn (da_cons (dv 1) (da_cons (d_ixO zk (pv 4) (d_un o_neg d_int) (fun _ _ => rfl)) da_nil))))
    (ds_cons (ds_mut PySem.F.slot_list_append PySem.F.type_list_append mt_append m_append (pv 5) (da_cons (d_makeX0 C_Patch (fun _ => .nil) (hr.mono (by decide)) zk zm zn (da_cons (d_callB (c_len zk) (by rfl) T.n_len (by decide +kernel) (da_cons (d_ixO zk (pv 4) (d_un o_neg d_int) (fun _ _ => rfl)) da_nil)) (da_cons (dv 7) da_nil))) da_nil))
    (ds_one (ds_mut PySem.F.slot_list_append PySem.F.type_list_append mt_append m_append (pv 4) (da_cons (d_call0 D__law_fit (hr.mono (by decide)) zk zm zn (da_cons (d_ixO zk (pv 4) (d_un o_neg d_int) (fun _ _ => rfl)) (da_cons (dv 7) da_nil))) da_nil))))))
    (ds_cons (ds_un 5 (ds_set (i := 8) sc_law.nd rfl (Or.inl rfl) (d_call0 D__law_joined_up (hr.mono (by decide)) zk zm zn (da_cons (dv 5) da_nil))))
    (ds_cons (ds_for (tg := (.nm 9)) (gg := gName 9) PassesOwn.never rfl (di_range1 (by rfl) T.n_range d_int) (pg_name (i := 9) sc_law.nd rfl (Or.inl rfl)) tg_nm
      (ds_one (ds_if (dt_bor 5 (dt_neO E_Patch CT_Patch.g (hr.mono (by decide)) zk zm zn (d_call0 D__law_in_groups (hr.mono (by decide)) zk zm zn (da_cons (dv 1) (da_cons (dv 5) da_nil))) (dv 8) (nomark _)))
      (ds_one (ds_ret d_bl))
      ds_nil)))
    (ds_cons (ds_set (i := 10) sc_law.nd rfl (Or.inl rfl) (d_call0 D_turned_back (hr.mono (by decide)) zk zm zn (da_cons (dv 8) da_nil)))
    (ds_cons (ds_if (PW.pt (dw_or (dt_cmp (o_ne zk hr.units) (d_call0 D_fitted (hr.mono (by decide)) zk zm zn (da_cons (dv 8) (da_cons (dv 3) da_nil))) (d_ixO zk (pv 4) (d_un o_neg d_int) (fun _ _ => rfl)) (nomark _)) (dw_or (dt_cmp (o_ne zk hr.units) (d_call0 D_fitted (hr.mono (by decide)) zk zm zn (da_cons (dv 10) (da_cons (d_ixO zk (pv 4) (d_un o_neg d_int) (fun _ _ => rfl)) da_nil))) (dv 3) (nomark _)) (dw_or1 (dt_neO E_Patch CT_Patch.g (hr.mono (by decide)) zk zm zn (d_call0 D_turned_back (hr.mono (by decide)) zk zm zn (da_cons (dv 10) da_nil)) (dv 8) (nomark _))))))
      (ds_one (ds_ret d_bl))
      ds_nil)
    (ds_cons (ds_if (dt_bor 5 (dt_neO E_Patch CT_Patch.g (hr.mono (by decide)) zk zm zn (d_call0 D__law_in_groups (hr.mono (by decide)) zk zm zn (da_cons (dv 1) (da_cons (d_lc (own := [("_law_made", 11)]) (gg := gName 11) (tg := (.nm 11)) rfl sc_law.nd (di_seq zk (d_revL zk (dv 5))) (blkOk_by (own := [("_law_made", 11)]) (N := ["_law_script", "_law_feed_here", "_law_turn", "_law_line", "_law_lines", "_law_some", "_law_k", "_law_more", "_law_whole", "_law_again", "_law_back", "_law_made"]) (sc := defScope s_law) (by decide +kernel)) (fun _ _ _ _ _ => pg_name (i := 11) sc_law.nd rfl (Or.inl rfl)) tg_nm (fun _ _ _ _ _ => pts_nil) yes_lift (fun _ _ _ _ _ => (d_call0 D_turned_back (hr.mono (by decide)) zk zm zn (da_cons (dv 11) da_nil))) (by decide)) da_nil))) (dv 10) (nomark _)))
      (ds_one (ds_ret d_bl))
      ds_nil)
    (ds_cons (ds_if (PW.pt (dw_or (dt_neO E_Patch CT_Patch.g (hr.mono (by decide)) zk zm zn (d_callX0 D_chained (hr.mono (by decide)) zk zm zn (da_cons (d_makeX0 CD_Patch (fun _ => dfl_dv zk ZD_Patch) (hr.mono (by decide)) zk zm zn (da_cons (d_callB (c_len zk) (by rfl) T.n_len (by decide +kernel) (da_cons (dv 3) da_nil)) da_nil)) (da_cons (dv 8) da_nil))) (dv 8) (nomark _)) (dw_or1 (dt_neO E_Patch CT_Patch.g (hr.mono (by decide)) zk zm zn (d_callX0 D_chained (hr.mono (by decide)) zk zm zn (da_cons (dv 8) (da_cons (d_makeX0 CD_Patch (fun _ => dfl_dv zk ZD_Patch) (hr.mono (by decide)) zk zm zn (da_cons (d_callB (c_len zk) (by rfl) T.n_len (by decide +kernel) (da_cons (d_ixO zk (pv 4) (d_un o_neg d_int) (fun _ _ => rfl)) da_nil)) da_nil)) da_nil))) (dv 8) (nomark _)))))
      (ds_one (ds_ret d_bl))
      ds_nil)
    (ds_one (ds_if (dt_bor 5 (dt_bor 4 (dt_not (dt_val (d_call0 D__law_are_seen (hr.mono (by decide)) zk zm zn (da_cons (dv 5) (da_cons (dv 4) da_nil)))))))
      (ds_one (ds_ret d_bl))
      ds_nil))))))))))))
    (ds_one (ds_ret d_bl)))) hU
end
end C75
namespace M73
abbrev Spt := Int × List Int × List Int
def Bts (xs : List Int) : Prop := ∀ b ∈ xs, 0 ≤ b ∧ b < 256
def al : List Int → List Int → Nat
  | x :: l, y :: r => if x = y then al l r + 1 else 0
  | _, _ => 0
def dl : List Int → List Int → Nat
  | x :: l, y :: r => if x = y then 0 else dl l r + 1
  | _, _ => 0
def mid (l : List Int) (i j : Nat) : List Int := (l.drop i).take (j - i)
def U (l r : List Int) (b : Int) : Nat → Nat → List Spt
  | 0, _ => []
  | f + 1, i => if i < l.length then (if 0 < dl (l.drop i) (r.drop i) then [(b + i, mid l i (i + dl (l.drop i) (r.drop i)), mid r i (i + dl (l.drop i) (r.drop i)))] else []) ++ U l r b f (i + dl (l.drop i) (r.drop i) + 1) else []
def hd (f s : List Int) : Nat := al f s
def tl (f s : List Int) : Nat := al (f.drop (hd f s)).reverse (s.drop (hd f s)).reverse
def app (row : List Int) : Nat → List Spt → List Int
  | done, [] => row.drop done
  | done, s :: r => mid row done s.1.toNat ++ s.2.2 ++ app row (s.1.toNat + s.2.1.length) r
def Good (L : Int) : Int → List Spt → Prop
  | _, [] => True
  | free, s :: r => free ≤ s.1 ∧ 0 ≤ s.1 ∧ s.1 + s.2.1.length ≤ L ∧ Bts s.2.1 ∧ Bts s.2.2 ∧ (s.2.1 ≠ [] ∨ s.2.2 ≠ []) ∧ Good L (s.1 + s.2.1.length + 1) r
def Fits (row : List Int) (ss : List Spt) : Prop := ∀ s ∈ ss, (row.drop s.1.toNat).take s.2.1.length = s.2.1
theorem drop_split (l : List Int) {d m : Nat} (h : d ≤ m) : l.drop d = mid l d m ++ l.drop m := by
  unfold mid
  have := (List.take_append_drop (m - d) (l.drop d)).symm
  rw [List.drop_drop] at this
  rw [show d + (m - d) = m by omega] at this
  exact this
theorem mid_get (l : List Int) (d m k : Nat) : (mid l d m)[k]? = if k < m - d then l[d + k]? else none := by
  unfold mid
  rw [List.getElem?_take]
  split
  · rw [List.getElem?_drop]
  · rfl
theorem mid_len (l : List Int) {d m : Nat} (h : m ≤ l.length) : (mid l d m).length = m - d := by
  unfold mid
  rw [List.length_take, List.length_drop]
  omega
theorem mid_join (l : List Int) {a b c : Nat} (h1 : a ≤ b) (h2 : b ≤ c) : mid l a c = mid l a b ++ mid l b c := by
  apply List.ext_getElem?
  intro k
  rw [mid_get, List.getElem?_append, mid_get, mid_get]
  unfold mid
  rw [List.length_take, List.length_drop]
  by_cases hk : k < min (b - a) (l.length - a)
  · rw [if_pos hk, if_pos (by omega), if_pos (by omega)]
  · rw [if_neg hk]
    by_cases hl : l.length ≤ a + k
    · have e : l[a + k]? = none := List.getElem?_eq_none hl
      rw [e]
      have e2 : l[b + (k - min (b - a) (l.length - a))]? = none := List.getElem?_eq_none (by omega)
      rw [e2]
      simp
    · have e : min (b - a) (l.length - a) = b - a := by omega
      rw [e]
      rw [show b + (k - (b - a)) = a + k by omega]
      by_cases hc : k < c - a
      · rw [if_pos hc, if_pos (by omega)]
      · rw [if_neg hc, if_neg (by omega)]
section
variable {p l r z : List Int}
theorem at_mid {k : Nat} (h : k < l.length) : (p ++ l ++ z)[p.length + k]? = l[k]? := by
  rw [List.append_assoc, List.getElem?_append_right (by omega), Nat.add_sub_cancel_left, List.getElem?_append_left h]
theorem mid_in {i e : Nat} (h : e ≤ l.length) : mid (p ++ l ++ z) (p.length + i) (p.length + e) = mid l i e := by
  apply List.ext_getElem?
  intro k
  rw [mid_get, mid_get]
  by_cases hk : k < e - i
  · rw [if_pos hk, if_pos (by omega), show p.length + i + k = p.length + (i + k) by omega, at_mid (by omega)]
  · rw [if_neg hk, if_neg (by omega)]
theorem bts_mid {l : List Int} (h : Bts l) (i j : Nat) : Bts (mid l i j) := fun b hb => h b (List.mem_of_mem_drop (List.mem_of_mem_take hb))
end
theorem mid_le (l : List Int) (i j : Nat) : (mid l i j).length ≤ l.length := by
  unfold mid
  rw [List.length_take, List.length_drop]
  omega
theorem drop_at' {α : Type} {l : List α} {i : Nat} {x : α} (h : l[i]? = some x) : l.drop i = x :: l.drop (i + 1) := by
  obtain ⟨hl, e⟩ := List.getElem?_eq_some_iff.mp h
  rw [List.drop_eq_getElem_cons hl, e]
theorem drop_at {l : List Int} {i : Nat} {x : Int} (h : l[i]? = some x) : l.drop i = x :: l.drop (i + 1) := by
  obtain ⟨h1, h2⟩ := List.getElem?_eq_some_iff.mp h
  rw [← h2]
  exact List.drop_eq_getElem_cons h1
theorem Good.mem {L : Int} : ∀ {ss : List Spt} {fr : Int}, Good L fr ss → ∀ s ∈ ss, 0 ≤ s.1 ∧ s.1 + s.2.1.length ≤ L
  | [], _, _ => fun s h => by simp at h
  | x :: r, fr, g => fun s h => by
    obtain ⟨g1, g2, g3, g4, g5, g6, g7⟩ := g
    rcases List.mem_cons.mp h with e | e
    · rw [e]; exact ⟨g2, g3⟩
    · exact Good.mem g7 s e
end M73
namespace Dn
open PySem PySem.Spec PyProof.Rows L2 Br
theorem y_isDict0 : isDict .non = some false := rfl
theorem y_isDict1 (b : Bool) : isDict (.bl b) = some false := rfl
theorem y_isDict2 (i : Int) : isDict (.int i) = some false := rfl
theorem y_isDict3 (x : Str) : isDict (.str x) = some false := rfl
theorem y_isDict4 (xs : List D) : isDict (.lst xs) = some false := rfl
theorem y_isDict5 (xs : List D) : isDict (.tup xs) = some false := rfl
theorem y_isDict6 (ks : List (Key × D)) : isDict (.dct ks) = some true := rfl
theorem y_keys (ks : List (Key × D)) : gKeys [.dct ks] = some (ks.map fun kv => keyD kv.1) := rfl
theorem y_revL (xs : List D) : gRevL [.lst xs] = some (.lst xs.reverse) := rfl
theorem y_sum1 (xs : List D) : gSumA [.lst xs] = (intsOf xs).map fun bs => .int bs.sum := rfl
theorem y_sum2 (xs : List D) : gSumA [.tup xs] = (intsOf xs).map fun bs => .int bs.sum := rfl
theorem y_xf (cs : List Str) (f c : Str) (fs : List (Str × D)) : gXf cs f [.exc c fs] = if c ∈ cs then fs.lookup f else none := rfl
theorem y_isX (x : Str) (b : Bool) (fs : List (Str × D)) : gIsX (only x b) [.exc x fs] = some (.bl b) := by simp [gIsX, only]
theorem log2_lt {i : Int} {k : Nat} (h : i.natAbs < 2 ^ k) : i.natAbs.log2 < k + 1 := by
  by_cases h0 : i.natAbs = 0
  · rw [h0]
    show 0 < k + 1
    omega
  · have := (Nat.log2_lt h0).mpr h
    omega
end Dn
namespace C75
open PySem L2 Br Dn Tr TL
local macro_rules | `(tactic| walk_at "d") => `(tactic| try simp only [dNeK, x_items, dLR1, dLR2, dMaxDef, dOrV, x_truN, x_truT, x_truL, dSortQ, dSortB, dPar5O, dPar6O, x_cdget1, dDc2, dc2In, x_isOO1, x_isOO2, x_isOO3, x_isOO4, x_isOO5, x_isOO6, x_isOO7, x_isOO8, dSortSetT, dSortT, dDc2, dc2In, dJn, gListK, dLIdx, x_ltR31, x_ltR32, x_ltR33, dPar4O, dSortSet, dDictC, dInR, dLenSet, dMakeK00, ixL, List.getD_cons_zero, List.getD_cons_succ, dMeth, dPar3O, dSortS, x_strT1, x_strT2, dIxD, dPart, dStripC, dEnds, x_ltT1, x_ltT2, x_gtT1, x_gtT2, x_enumL1, x_enumL2, dGet2, dLput, dLput2, dDictP, dNiR, dSortR, dStop, dLcX, lcGoX, dFldS, x_zip1, x_zip2, x_zip3, x_zip4, dScLen, dSortP, dMakeKX, dMakeKX0, insL, insAt, List.take_succ_cons, List.take_zero, List.drop_succ_cons, List.drop_zero, dDef, shP, x_ltR1, x_ltR2, dPar3, dTryN, dLc2, lc2In, gCDIn, gCDNotIn, gCDGet, gMulT, setQ, dTp, gIntS, gListS, gMulS, dSplit, dStarts, gCD, dSIdx, dPutO, dOwnD0, dSee, dIfO, dCallO0, dCallO, dActS, dRetS, dRetO, dDefS, dLamS, Sl.out, startD, dSeq, dNext, dSet, dSetO, dPar, dRet, dRetN, dIfS, dExpr, dAug, dVar, dC, dNil, dCons, dApp, dCall0, dCall, dAnd, dOr, dIf, dChain, dNew, dOwn, dSh, dOwnL, dOwnF, dUn, dBor, frz, frzB, dMut, dRaise, dTry, dIxO, dCat, dLam, dLamDef, dAct, y_isDict0, y_isDict1, y_isDict2, y_isDict3, y_isDict4, y_isDict5, y_isDict6, y_keys, y_revL, y_sum1, y_sum2, y_xf, y_isX, dMakeX, dMakeX0, dMakeK, dEqT, dLenO, dBorL, frzL, dDct0, y_isInt6, y_isBool6, y_isStr6, y_isTuple6, y_isList6, y_isSeq6, y_len4, y_inS, y_notInS, y_in1, y_in2, y_ne0, y_ne0L, y_eq0, y_isB, y_isNotB, y_revS, y_addN1, y_addN2, y_subN1, y_subN2, y_subN3, y_strN1, y_strN2, y_zipS, y_dget, y_dnotin, y_din, y_key1, y_key2, eqD_bl', dUnp, dGet1, dSortD, dJoin, dUpper, dDisp, dDispO, dUpd, dDc, x_tg3, x_setall1, dFst, dMake, dInit, dCmpO, dFor, dIt, dLc, wipeD, dSl, dNoB, dB, D.isN, D.flat, putD,
  x_add1, x_add2, x_add3, x_add4, x_i2, x_sub, x_lt, x_le, x_gt, x_ge, x_mod, x_div, x_pow, x_mul1, x_mul2, x_mul3, x_neg, x_not, x_tupl, x_list, x_len1, x_len2, x_len3, x_abs, x_min, x_max, x_int1, x_int2, x_tuple1, x_tuple2, x_listof1, x_listof2, x_iter1, x_iter2, x_iter3, x_range, x_range2, x_enum1, x_enum2, x_enum3, x_enumK, x_isi, x_isown, x_is, x_isnot, x_revT, x_sl1, x_sl2, x_sl3, x_ix1, x_ix2, x_ix3, x_fld, x_catL, x_append, x_extend1, x_extend2, x_insert, x_tg1, x_tg2, x_tg3, x_setall1, x_eq, x_ne, x_isInt0, x_isInt1, x_isInt2, x_isInt3, x_isInt4, x_isInt5, x_isBool0, x_isBool1, x_isBool2, x_isBool3, x_isBool4, x_isBool5, x_isStr0, x_isStr1, x_isStr2, x_isStr3, x_isStr4, x_isStr5, x_isTuple0, x_isTuple1, x_isTuple2, x_isTuple3, x_isTuple4, x_isTuple5, x_isList0, x_isList1, x_isList2, x_isList3, x_isList4, x_isList5, x_isSeq0, x_isSeq1, x_isSeq2, x_isSeq3, x_isSeq4, x_isSeq5, x_setall0,
  List.map_cons, List.map_nil, List.length_cons, List.length_nil, List.replicate_succ, List.replicate_zero, List.cons_append, List.nil_append, List.append_nil, Nat.reduceSub, Nat.reduceAdd, Nat.sub_self, Nat.zero_add, List.getElem?_cons_zero, List.getElem?_cons_succ, List.set_cons_zero, List.set_cons_succ, Option.some.injEq, Sl.sh.injEq, Sl.ow.injEq, D.bl.injEq, D.int.injEq, D.tup.injEq, D.lst.injEq, D.obj.injEq, exists_eq_left', exists_eq_left, true_and, and_true, Option.map_some, reduceCtorEq, if_true, if_false, ite_true, ite_false, Bool.not_true, Bool.not_false, decide_eq_true_eq, Bool.false_eq_true, eq_self_iff_true, List.mem_singleton, List.lookup, beq_self_eq_true, Bool.true_eq_false, atI0, atI1, atI2, atI3, atI4, eqD_int, eqD_str, eqD_row, eqD_row0, ex_if, sizeLine_eq, Nat.reduceLeDiff, row_len, row_app, row_cut, row_rev, Bool.not_eq_true', decide_eq_false_iff_not, List.length_map, List.length_append, Nat.reduceLT])
local macro_rules | `(tactic| walk_at "c") => `(tactic| repeat (first | assumption | rw [if_neg (by decide +kernel)] | rw [if_pos (by decide +kernel)] | refine ⟨by decide +kernel, ?_⟩ | refine ⟨⟨by decide, by decide⟩, ?_⟩ | refine ⟨_, rfl, ?_⟩))
abbrev Bts := M73.Bts
abbrev Spt := M73.Spt
theorem u_is_whole {i : Int} {n : Nat} {P : D → Nat → Prop} {E : XD} (h : P (.bl true) n) : U_is_whole [.int i] n P E := by
  unfold U_is_whole B_is_whole
  walk_at "d"
  exact h
theorem u_is_from {i lo hi : Int} {n : Nat} {P : D → Nat → Prop} {E : XD} (h : P (.bl (decide (lo ≤ i ∧ i ≤ hi))) n) : U_is_from [.int i, .int lo, .int hi] n P E := by
  unfold U_is_from B_is_from
  walk_at "d"
  refine u_is_whole ?_
  walk_at "d"
  refine iteI (fun h1 => ?_) (fun h1 => ?_)
  · simpa [h1] using h
  · simpa [h1] using h
def isB (i : Int) : Bool := decide (0 ≤ i ∧ i ≤ 255)
def allB (xs : List Int) : Bool := xs.all isB
theorem allB_iff (xs : List Int) : allB xs = true ↔ Bts xs := by
  unfold allB isB
  rw [List.all_eq_true]
  constructor
  · intro h b hb
    have := of_decide_eq_true (h b hb)
    omega
  · intro h b hb
    have := h b hb
    exact decide_eq_true (by omega)
theorem u_is_row {xs : List Int} {n : Nat} {P : D → Nat → Prop} {E : XD} (hl : xs.length ≤ 1000000) (h : P (.bl (allB xs)) n) : U_is_row [.tup (row xs)] n P E := by
  unfold U_is_row B_is_row
  walk_at "d"
  refine ⟨by omega, lc_pure (fun d => match d with | .int i => .bl (isB i) | _ => .non) (fun x hx => ?_) ?_⟩
  · obtain ⟨i, _, rfl⟩ := List.mem_map.mp hx
    refine ⟨_, rfl, fun n Q q => ?_⟩
    walk_at "d"
    refine u_is_from ?_
    exact q
  · refine ⟨_, ?_, h⟩
    have e : (row xs).map (fun d => match d with | .int i => D.bl (isB i) | _ => .non) = xs.map fun i => D.bl (isB i) := by
      unfold row
      rw [List.map_map]
      rfl
    rw [e]
    exact gAll_map isB xs
theorem u_is_rowT {xs : List Int} {n : Nat} {P : D → Nat → Prop} {E : XD} (hl : xs.length ≤ 1000000) (hb : Bts xs) (h : P (.bl true) n) : U_is_row [.tup (row xs)] n P E := by
  refine u_is_row hl ?_
  rw [(allB_iff xs).mpr hb]
  exact h
def spotD (s : Spt) : D := .tup [.int s.1, .tup (row s.2.1), .tup (row s.2.2)]
def spotsD (ss : List Spt) : List D := ss.map spotD
theorem u_is_spot {s : Spt} {n : Nat} {P : D → Nat → Prop} {E : XD} (h0 : 0 ≤ s.1) (h1 : Bts s.2.1) (h2 : Bts s.2.2) (hne : s.2.1 ≠ [] ∨ s.2.2 ≠ []) (l1 : s.2.1.length ≤ 1000000) (l2 : s.2.2.length ≤ 1000000) (h : P (.bl true) n) : U_is_spot [spotD s] n P E := by
  unfold U_is_spot B_is_spot R_is_spot_1 spotD
  walk_at "d"
  refine u_is_whole ?_
  walk_at "d"
  rw [if_neg (by omega)]
  refine u_is_rowT l1 h1 ?_
  walk_at "d"
  refine u_is_rowT l2 h2 ?_
  walk_at "d"
  refine iteI (fun e => h) (fun e => ?_)
  have e2 : s.2.2 ≠ [] := by
    rcases hne with z | z
    · exact absurd (List.map_eq_nil_iff.mp (show List.map D.int s.2.1 = [] from (by simpa using e : row s.2.1 = []))) z
    · exact z
  have e3 : (row s.2.2).isEmpty = false := by
    cases hx : s.2.2 with
    | nil => exact absurd hx e2
    | cons a b => rfl
  rw [e3]
  exact h
theorem u_spot_end {s : Spt} {n : Nat} {P : D → Nat → Prop} {E : XD} (h : P (.int (s.1 + s.2.1.length)) n) : U_spot_end [spotD s] n P E := by
  unfold U_spot_end B_spot_end spotD
  walk_at "d"
  exact h
open M73 in
theorem u_first_bad {sq : D} {L : Int} {ss : List Spt} {n : Nat} {P : D → Nat → Prop} {E : XD} (hs : sq = .lst (spotsD ss) ∨ sq = .tup (spotsD ss)) (hg : M73.Good L 0 ss) (hz : ∀ s ∈ ss, s.2.1.length ≤ 1000000 ∧ s.2.2.length ≤ 1000000) (h : P .non n) : U_first_bad [.int L, sq] n P E := by
  unfold U_first_bad B_first_bad
  have e : gEnum [sq] = some (numd 0 (spotsD ss)) := by rcases hs with rfl | rfl <;> rfl
  walk_at "d"
  rw [e]
  walk_at "d"
  refine for_inv (fun i δ n' => ∃ (fr : Int) (a b : Option Sl), δ = [some (.sh (.int L)), some (.sh sq), some (.sh (.int fr)), a, b] ∧ Good L fr (ss.drop i) ∧ n = n') ⟨0, none, none, rfl, hg, rfl⟩ ?_ ?_
  · rintro i x _ _ N hx ⟨fr, a, b, rfl, hgi, rfl⟩ hN
    obtain ⟨y, hy, rfl⟩ := numd_get hx
    obtain ⟨s, hs, rfl⟩ := map_get hy
    rw [M73.drop_at' hs] at hgi
    obtain ⟨g1, g2, g3, g4, g5, g6, g7⟩ := hgi
    obtain ⟨z1, z2⟩ := hz s (List.mem_of_getElem? hs)
    refine ⟨_, rfl, ?_⟩
    unfold L_first_bad_1
    walk_at "d"
    refine u_is_spot g2 g4 g5 g6 z1 z2 ?_
    have e : spotD s = .tup [.int s.1, .tup (row s.2.1), .tup (row s.2.2)] := rfl
    walk_at "d"
    rw [e]
    walk_at "d"
    rw [if_neg (by omega), ← e]
    refine u_spot_end ?_
    walk_at "d"
    rw [if_neg (by omega)]
    unfold R_first_bad_1
    walk_at "d"
    refine u_spot_end ?_
    walk_at "d"
    exact hN _ _ ⟨_, _, _, rfl, g7, rfl⟩
  · rintro _ _ ⟨_, _, _, _, _, rfl⟩
    unfold R_first_bad_2
    exact h
theorem u_Patch {sq : D} {L : Int} {ss : List Spt} {n : Nat} {P : List (Str × D) → Nat → Prop} {E : XD} (hL : 0 ≤ L) (hs : sq = .lst (spotsD ss) ∨ sq = .tup (spotsD ss)) (hg : M73.Good L 0 ss) (hz : ∀ s ∈ ss, s.2.1.length ≤ 1000000 ∧ s.2.2.length ≤ 1000000)
    (h : P [("length", .int L), ("spots", .tup (spotsD ss))] n) : U_Patch [.int L, sq] n P E := by
  unfold U_Patch B_Patch___init__ R_Patch___init___2 R_Patch___init___1
  refine ⟨rfl, fun a => ?_⟩
  walk_at "d"
  refine u_is_whole ?_
  walk_at "d"
  rw [if_neg (by omega)]
  have e : isSeq sq = some true := by rcases hs with rfl | rfl <;> rfl
  rw [e]
  walk_at "d"
  refine u_first_bad hs hg hz ?_
  walk_at "d"
  refine ⟨a, [], rfl, by decide, ?_⟩
  have e2 : gTuple [sq] = some (.tup (spotsD ss)) := by rcases hs with rfl | rfl <;> rfl
  rw [e2]
  walk_at "d"
  exact ⟨a, _, rfl, by show 1 < 1000; decide, _, rfl, h⟩
def patchD (L : Int) (ss : List Spt) : D := .obj "Patch" [("length", .int L), ("spots", .tup (spotsD ss))]
def spotPy (s : Spt) : PyData := .tuple [.int s.1, .tuple (s.2.1.map .int), .tuple (s.2.2.map .int)]
theorem py_spot (s : Spt) : (spotD s).py = some (spotPy s) := by
  show (D.pyAll [.int s.1, .tup (row s.2.1), .tup (row s.2.2)]).map PyData.tuple = _
  have e : ∀ zs : List Int, (D.tup (row zs)).py = some (.tuple (zs.map PyData.int)) := fun zs => by
    show (D.pyAll (row zs)).map PyData.tuple = _
    rw [pyAll_row]
    rfl
  have e3 : D.pyAll [D.tup (row s.2.2)] = some [.tuple (s.2.2.map PyData.int)] := by
    show (match D.py (.tup (row s.2.2)), D.pyAll [] with | some a, some b => some (a :: b) | _, _ => none) = _
    rw [e]
    rfl
  have e2 : D.pyAll [D.tup (row s.2.1), D.tup (row s.2.2)] = some [.tuple (s.2.1.map PyData.int), .tuple (s.2.2.map PyData.int)] := by
    show (match D.py (.tup (row s.2.1)), D.pyAll [D.tup (row s.2.2)] with | some a, some b => some (a :: b) | _, _ => none) = _
    rw [e, e3]
  show (match D.py (.int s.1), D.pyAll [D.tup (row s.2.1), D.tup (row s.2.2)] with | some a, some b => some (a :: b) | _, _ => none).map PyData.tuple = _
  rw [e2]
  rfl
theorem py_spots : ∀ ss : List Spt, D.pyAll (spotsD ss) = some (ss.map spotPy)
  | [] => rfl
  | s :: r => by
    show (match D.py (spotD s), D.pyAll (spotsD r) with | some a, some b => some (a :: b) | _, _ => none) = _
    rw [py_spots r, py_spot]
    rfl
theorem eqv_spot (s t : Spt) : PyData.eqv (spotPy s) (spotPy t) = decide (s = t) := by
  obtain ⟨a, o, w⟩ := s
  obtain ⟨b, p, v⟩ := t
  show (a == b && (PyData.eqvAll (o.map .int) (p.map .int) && (PyData.eqvAll (w.map .int) (v.map .int) && true))) = _
  rw [eqv_row, eqv_row]
  by_cases h1 : a = b <;> by_cases h2 : o = p <;> by_cases h3 : w = v <;> simp [h1, h2, h3]
theorem eqv_spots : ∀ ss tt : List Spt, PyData.eqvAll (ss.map spotPy) (tt.map spotPy) = decide (ss = tt)
  | [], [] => rfl
  | [], _ :: _ => rfl
  | _ :: _, [] => rfl
  | s :: ss, t :: tt => by
    show (PyData.eqv (spotPy s) (spotPy t) && PyData.eqvAll (ss.map spotPy) (tt.map spotPy)) = _
    rw [eqv_spot, eqv_spots ss tt]
    by_cases h : s = t <;> by_cases h2 : ss = tt <;> simp [h, h2]
theorem lay_spots : ∀ ss : List Spt, PyData.canLayAll0 (ss.map spotPy) = true ∧ PyData.depthAll (ss.map spotPy) ≤ 2
  | [] => ⟨rfl, by decide⟩
  | s :: r => by
    obtain ⟨h1, h2⟩ := lay_spots r
    obtain ⟨a1, b1⟩ := Br.lay_ints s.2.1
    obtain ⟨a2, b2⟩ := Br.lay_ints s.2.2
    refine ⟨?_, ?_⟩
    · show ((true && (PyData.canLayAll0 (s.2.1.map .int) && (PyData.canLayAll0 (s.2.2.map .int) && true))) && PyData.canLayAll0 (r.map spotPy)) = true
      rw [a1, a2, h1]; rfl
    · show max (max 0 (max (PyData.depthAll (s.2.1.map .int) + 1) (max (PyData.depthAll (s.2.2.map .int) + 1) 0)) + 1) (PyData.depthAll (r.map spotPy)) ≤ 2
      rw [b1, b2]
      omega
theorem shaped_spots (ss : List Spt) : SeqAt.shaped (.tuple (ss.map spotPy)) = true := by
  obtain ⟨h1, h2⟩ := lay_spots ss
  show (PyData.canLayAll0 (ss.map spotPy) && decide (PyData.depthAll (ss.map spotPy) + 1 ≤ 64)) = true
  rw [h1, decide_eq_true (by omega)]
  rfl
theorem eqD_spots (ss tt : List Spt) : eqD (.tup (spotsD ss)) (.tup (spotsD tt)) = some (decide (ss = tt)) := by
  show (match (D.tup (spotsD ss)).py, (D.tup (spotsD tt)).py with | some p, some q => if SeqAt.shaped p = true ∧ SeqAt.shaped q = true then some (PyData.eqv p q) else none | _, _ => none) = _
  have e : ∀ zs : List Spt, (D.tup (spotsD zs)).py = some (.tuple (zs.map spotPy)) := fun zs => by
    show (D.pyAll (spotsD zs)).map PyData.tuple = _
    rw [py_spots]
    rfl
  rw [e, e]
  simp only
  rw [if_pos ⟨shaped_spots ss, shaped_spots tt⟩]
  show some (PyData.eqvAll _ _) = _
  rw [eqv_spots]
theorem str_ls : ((Str.ofString "spots") == (Str.ofString "length")) = false := by decide +kernel
theorem u_eq {L L' : Int} {ss tt : List Spt} {n : Nat} {P : D → Nat → Prop} {E : XD} (h : P (.bl (decide (L = L' ∧ ss = tt))) n) : U_Patch___eq__ [patchD L ss, patchD L' tt] n P E := by
  unfold U_Patch___eq__ B_Patch___eq__ patchD
  walk_at "d"
  rw [str_ls]
  walk_at "d"
  refine iteI (fun h1 => ?_) (fun h1 => ?_)
  · rw [eqD_spots]
    walk_at "d"
    simpa [h1] using h
  · simpa [h1] using h
theorem fits_at {xs : List Int} {s : Spt} (hf : (xs.drop s.1.toNat).take s.2.1.length = s.2.1) {j : Nat} {b : Int} (h : s.2.1[j]? = some b) : xs[s.1.toNat + j]? = some b := by
  rw [← hf, List.getElem?_take] at h
  split at h
  · rw [List.getElem?_drop] at h
    exact h
  · cases h
theorem u_pick {xs : List D} {n : Nat} {P : D → Nat → Prop} {E : XD} (hn : n < 1000000000) (h0 : 0 < xs.length) (h1 : xs.length < 1000000) (h : ∀ x ∈ xs, P x (n + 1)) : U__law_pick [.pen, .lst xs] n P E := by
  unfold U__law_pick B__law_pick
  walk_at "d"
  refine draw (δ := []) hn (by omega) (by omega) fun r r0 r1 => ?_
  walk_at "d"
  obtain ⟨x, hx, h2⟩ := Br.atI_lt (xs := xs) r0 r1
  exact ⟨x, hx, h x (List.mem_of_getElem? h2)⟩
theorem mem_intsD {lo : Int} {k : Nat} {x : D} {i : Nat} (h : (intsD lo k)[i]? = some x) : i < k ∧ x = .int (lo + i) := by
  have hl : i < k := by
    have := (List.getElem?_eq_some_iff.mp h).1
    rwa [intsD_len] at this
  rw [intsD_at hl] at h
  exact ⟨hl, (Option.some.inj h).symm⟩
theorem u_bytes {m : Int} {n : Nat} {P : D → Nat → Prop} {E : XD} (hn : n < 100000000) (h0 : 0 ≤ m) (h1 : m ≤ 100) (h : ∀ bs n', Bts bs → (bs.length : Int) ≤ m → n' ≤ n + 201 → P (.tup (row bs)) n') : U__law_bytes [.pen, .int m] n P E := by
  unfold U__law_bytes B__law_bytes
  walk_at "d"
  refine draw (δ := []) (by omega) (by omega) (by omega) fun r r0 r1 => ?_
  walk_at "d"
  refine ⟨by omega, by rw [intsD_len]; omega, ?_⟩
  refine lc_inv (fun i acc n' => ∃ bs : List Int, acc = row bs ∧ bs.length = i ∧ Bts bs ∧ n' = n + 1 + 2 * i) ⟨[], rfl, rfl, (fun _ h => by cases h), rfl⟩ ?_ ?_
  · rintro i x _ _ N hx ⟨bs, rfl, hl, hb, rfl⟩ hN
    obtain ⟨hi, rfl⟩ := mem_intsD hx
    refine ⟨_, rfl, ?_⟩
    walk_at "d"
    refine draw (δ := []) (by omega) (by omega) (by omega) fun r2 r20 r21 => ?_
    walk_at "d"
    refine u_pick (by omega) (by simp) (by simp) fun y hy => ?_
    have fin : ∀ z : Int, 0 ≤ z → z < 256 → N [.int z] (n + 1 + 2 * i + 1 + 1) := fun z z0 z1 => by
      refine hN _ _ ⟨bs ++ [z], row_app bs [z], by rw [List.length_append, hl]; rfl, fun b hb' => ?_, by omega⟩
      rcases List.mem_append.mp hb' with h | h
      · exact hb b h
      · have e : b = z := by simpa using h
        rw [e]; exact ⟨z0, z1⟩
    have hy' : y = .int 0 ∨ y = .int 1 ∨ y = .int 1 ∨ y = .int 255 ∨ y = .int r2 := by simpa using hy
    rcases hy' with e | e | e | e | e <;> subst e
    · exact fin _ (by omega) (by omega)
    · exact fin _ (by omega) (by omega)
    · exact fin _ (by omega) (by omega)
    · exact fin _ (by omega) (by omega)
    · exact fin _ r20 r21
  · rintro _ _ ⟨bs, rfl, hl, hb, rfl⟩
    have el := intsD_len 0 r.toNat
    walk_at "d"
    exact h bs _ hb (by omega) (by omega)
theorem bts_take {xs : List Int} (h : Bts xs) (i : Nat) : Bts (xs.take i) := fun b hb => h b (List.mem_of_mem_take hb)
theorem bts_drop {xs : List Int} (h : Bts xs) (i : Nat) : Bts (xs.drop i) := fun b hb => h b (List.mem_of_mem_drop hb)
theorem u_need_fit {xs : List Int} {ss : List Spt} {n : Nat} {P : D → Nat → Prop} {E : XD} (hl : xs.length ≤ 1000000) (hg : M73.Good xs.length 0 ss) (hf : M73.Fits xs ss) (h : P .non n) : U_need_fit [patchD xs.length ss, .tup (row xs)] n P E := by
  unfold U_need_fit B_need_fit patchD L_need_fit_2
  walk_at "d"
  rw [str_ls]
  walk_at "d"
  have hm := hg.mem
  refine for_inv (fun i δ n' => ∃ a b c d e : Option Sl, δ = [some (.sh (patchD xs.length ss)), some (.sh (.tup (row xs))), some (.sh (.int xs.length)), a, b, c, d, e] ∧ n = n') ⟨none, none, none, none, none, ?_, rfl⟩ ?_ ?_
  · rw [if_neg (by omega)]
    rfl
  · rintro i x _ _ N hx ⟨a, b, c, d, e, rfl, rfl⟩ hN
    obtain ⟨s, hs, rfl⟩ := map_get hx
    have hmem := List.mem_of_getElem? hs
    obtain ⟨m1, m2⟩ := hm s hmem
    have hfs := hf s hmem
    refine ⟨_, rfl, ?_⟩
    walk_at "d"
    refine ⟨by omega, ?_⟩
    refine for_inv (fun j δ n' => ∃ d e : Option Sl, δ = [some (.sh (patchD xs.length ss)), some (.sh (.tup (row xs))), some (.sh (.int xs.length)), some (.sh (.int s.1)), some (.sh (.tup (row s.2.1))), some (.sh (.tup (row s.2.2))), d, e] ∧ n = n') ⟨_, _, rfl, rfl⟩ ?_ ?_
    · rintro j y _ _ N' hy ⟨d', e', rfl, rfl⟩ hN'
      obtain ⟨z, hz, rfl⟩ := numd_get hy
      obtain ⟨v, hv, rfl⟩ := at_row hz
      have hat := fits_at hfs hv
      refine ⟨_, rfl, ?_⟩
      unfold L_need_fit_1
      walk_at "d"
      have hlt : s.1 + (j : Nat) < xs.length := by
        have := (List.getElem?_eq_some_iff.mp hat).1
        omega
      rw [if_pos hlt]
      refine ⟨.int v, ?_, ?_⟩
      · refine Br.atI_get (by omega) ?_
        rw [show (s.1 + (j : Int)).toNat = s.1.toNat + j by omega]
        exact row_at hat
      · walk_at "d"
        exact hN' _ _ ⟨_, _, rfl, rfl⟩
    · rintro _ _ ⟨d', e', rfl, rfl⟩
      exact hN _ _ ⟨_, _, _, _, _, rfl, rfl⟩
  · rintro _ _ ⟨a, b, c, d, e, rfl, rfl⟩
    unfold R_need_fit_1 patchD
    walk_at "d"
    exact h
theorem u_fitted {xs : List Int} {ss : List Spt} {n : Nat} {P : D → Nat → Prop} {E : XD} (hl : xs.length ≤ 1000) (hs : ss.length ≤ 1000) (hz : ∀ s ∈ ss, s.2.2.length ≤ 1000) (hg : M73.Good xs.length 0 ss) (hf : M73.Fits xs ss)
    (h : P (.tup (row (M73.app xs 0 ss))) n) : U_fitted [patchD xs.length ss, .tup (row xs)] n P E := by
  unfold U_fitted B_fitted
  walk_at "d"
  refine u_need_fit (by omega) hg hf ?_
  unfold patchD
  walk_at "d"
  rw [str_ls]
  walk_at "d"
  have hm := hg.mem
  refine for_inv (fun i δ n' => ∃ (acc : List Int) (dn : Nat) (a b c : Option Sl), δ = [some (.sh (patchD xs.length ss)), some (.sh (.tup (row xs))), some (.ow (row acc)), some (.sh (.int (dn : Nat))), a, b, c] ∧ acc ++ M73.app xs dn (ss.drop i) = M73.app xs 0 ss ∧ acc.length ≤ i * 3000 ∧ n = n') ⟨[], 0, none, none, none, rfl, rfl, by simp, rfl⟩ ?_ ?_
  · rintro i x _ _ N hx ⟨acc, dn, a, b, c, rfl, ha, hal, rfl⟩ hN
    obtain ⟨s, hs', rfl⟩ := map_get hx
    have hmem := List.mem_of_getElem? hs'
    obtain ⟨m1, m2⟩ := hm s hmem
    have hz' := hz s hmem
    have hi : i < ss.length := (List.getElem?_eq_some_iff.mp hs').1
    have hc := cut_len xs (some ((dn : Nat) : Int)) (some s.1)
    refine ⟨_, rfl, ?_⟩
    unfold L_fitted_1
    walk_at "d"
    refine ⟨by omega, by omega, ?_⟩
    rw [cut_mid (by omega) m1, show s.1 + (s.2.1.length : Int) = ((s.1.toNat + s.2.1.length : Nat) : Int) by omega]
    refine hN _ _ ⟨acc ++ (M73.mid xs dn s.1.toNat ++ s.2.2), s.1.toNat + s.2.1.length, _, _, _, rfl, ?_, ?_, rfl⟩
    · rw [← ha, M73.drop_at' hs']
      show _ = acc ++ (M73.mid xs dn s.1.toNat ++ s.2.2 ++ M73.app xs (s.1.toNat + s.2.1.length) (ss.drop (i + 1)))
      rw [List.append_assoc acc]
    · have := M73.mid_le xs dn s.1.toNat
      rw [List.length_append, List.length_append]
      omega
  · rintro _ _ ⟨acc, dn, a, b, c, rfl, ha, hal, rfl⟩
    have hsl : (spotsD ss).length = ss.length := List.length_map ..
    have hc := cut_len xs (some ((dn : Nat) : Int)) none
    unfold R_fitted_1
    walk_at "d"
    refine ⟨by omega, ?_⟩
    rw [hsl, List.drop_length] at ha
    rw [cut_from (by omega)]
    have e : acc ++ List.drop ((dn : Nat) : Int).toNat xs = M73.app xs 0 ss := ha
    rw [e]
    exact h
def fitS (line : List Int) (s : Spt) : List Int := line.take s.1.toNat ++ s.2.2 ++ line.drop (s.1.toNat + s.2.1.length)
def fitR (ys : List Int) (ss : List Spt) : List Int := ss.reverse.foldl fitS ys
theorem u_fit {ys : List Int} {ss : List Spt} {n : Nat} {P : D → Nat → Prop} {E : XD} (hl : ys.length ≤ 1000) (hs : ss.length ≤ 1000) (hp : ∀ s ∈ ss, 0 ≤ s.1) (hz : ∀ s ∈ ss, s.2.2.length ≤ 1000) (h : P (.tup (row (fitR ys ss))) n) : U__law_fit [.tup (row ys), .tup (spotsD ss)] n P E := by
  unfold U__law_fit B__law_fit
  walk_at "d"
  have er : (spotsD ss).reverse = spotsD ss.reverse := by unfold spotsD; rw [List.map_reverse]
  rw [er]
  refine for_inv (fun i δ n' => ∃ (line : List Int) (a b c : Option Sl), δ = [some (.sh (.tup (row line))), some (.sh (.tup (spotsD ss))), a, b, c] ∧ line = (ss.reverse.take i).foldl fitS ys ∧ line.length ≤ ys.length + i * 1000 ∧ n = n') ⟨_, none, none, none, rfl, rfl, by simp, rfl⟩ ?_ ?_
  · rintro i x _ _ N hx ⟨line, a, b, c, rfl, hline, hal, rfl⟩ hN
    obtain ⟨s, hs', rfl⟩ := map_get hx
    have hmem := List.mem_reverse.mp (List.mem_of_getElem? hs')
    have m1 := hp s hmem
    have hz' := hz s hmem
    have hi : i < ss.length := by
      have := (List.getElem?_eq_some_iff.mp hs').1
      rwa [List.length_reverse] at this
    have c1 : (cut line none (some s.1)).length ≤ s.1.toNat := by rw [cut_to m1, List.length_take]; omega
    have c1' := cut_len line none (some s.1)
    have c2 : (cut line (some (s.1 + (s.2.1.length : Int))) none).length = line.length - (s.1 + (s.2.1.length : Int)).toNat := by rw [cut_from (by omega), List.length_drop]
    have key : ((cut line none (some s.1)).length + s.2.2.length) + (cut line (some (s.1 + (s.2.1.length : Int))) none).length ≤ ys.length + (i + 1) * 1000 := by omega
    refine ⟨_, rfl, ?_⟩
    unfold L__law_fit_1
    walk_at "d"
    refine ⟨by omega, by omega, ?_⟩
    refine hN _ _ ⟨_, _, _, _, rfl, ?_, ?_, rfl⟩
    · rw [List.take_add_one, hs', List.foldl_append, ← hline, cut_to m1, cut_from (by omega)]
      show _ = fitS line s
      unfold fitS
      rw [show (s.1 + (s.2.1.length : Int)).toNat = s.1.toNat + s.2.1.length by omega]
    · rw [List.length_append, List.length_append]
      exact key
  · rintro _ _ ⟨line, a, b, c, rfl, hline, hal, rfl⟩
    have hsl : (spotsD ss.reverse).length = ss.reverse.length := List.length_map ..
    rw [hsl, List.take_length] at hline
    unfold R__law_fit_1
    walk_at "d"
    rw [hline]
    exact h
theorem fit_go {ys : List Int} : ∀ (ss : List Spt) (fr : Int) (d : Nat), M73.Good ys.length fr ss → (d : Int) ≤ fr → d ≤ ys.length → (fitR ys ss).take d = ys.take d ∧ (fitR ys ss).drop d = M73.app ys d ss
  | [], _, _, _, _, _ => ⟨rfl, rfl⟩
  | s :: r, fr, d, g, hd, hdl => by
    obtain ⟨g1, g2, g3, g4, g5, g6, g7⟩ := g
    obtain ⟨i1, i2⟩ := fit_go r _ (s.1.toNat + s.2.1.length) g7 (by omega) (by omega)
    have e : fitR ys (s :: r) = fitS (fitR ys r) s := by
      unfold fitR
      rw [List.reverse_cons, List.foldl_append]
      rfl
    have et : (fitR ys r).take s.1.toNat = ys.take s.1.toNat := by
      have := congrArg (List.take s.1.toNat) i1
      rwa [List.take_take, List.take_take, Nat.min_eq_left (by omega)] at this
    rw [e]
    unfold fitS
    rw [et, i2]
    have hl : (ys.take s.1.toNat).length = s.1.toNat := by rw [List.length_take]; omega
    refine ⟨?_, ?_⟩
    · rw [List.append_assoc, List.take_append_of_le_length (by rw [hl]; omega), List.take_take, Nat.min_eq_left (by omega)]
    · rw [List.append_assoc, List.drop_append_of_le_length (by rw [hl]; omega)]
      show _ = M73.mid ys d s.1.toNat ++ s.2.2 ++ M73.app ys (s.1.toNat + s.2.1.length) r
      rw [List.append_assoc]
      unfold M73.mid
      rw [List.drop_take]
theorem fit_app {ys : List Int} {ss : List Spt} (g : M73.Good ys.length 0 ss) : fitR ys ss = M73.app ys 0 ss := (fit_go ss 0 0 g (by omega) (by omega)).2
theorem good_mono {L : Int} {ss : List Spt} {a b : Int} (h : M73.Good L a ss) (k : b ≤ a) : M73.Good L b ss := by
  cases ss with
  | nil => trivial
  | cons s r =>
    obtain ⟨g1, g⟩ := h
    exact ⟨by omega, g⟩
theorem spots_snoc (acc : List Spt) (s : Spt) : spotsD acc ++ [spotD s] = spotsD (acc ++ [s]) := by
  unfold spotsD
  rw [List.map_append]
  rfl
theorem bts_nil : Bts [] := fun _ h => by cases h
theorem row_ne {xs : List Int} (h : (row xs).isEmpty = false) : xs ≠ [] := fun e => by rw [e] at h; cases h
theorem u_spots {xs : List Int} {n : Nat} {P : D → Nat → Prop} {E : XD} (hx : xs.length ≤ 400) (bx : Bts xs) (hn : n ≤ 50000000)
    (h : ∀ ss n', M73.Good xs.length 0 ss → M73.Fits xs ss → ss.length ≤ 12 → (∀ s ∈ ss, s.2.2.length ≤ 3 ∧ s.2.1.length ≤ 3) → n' ≤ n + 250000 → P (.tup (spotsD ss)) n') : U__law_spots [.pen, .tup (row xs)] n P E := by
  unfold U__law_spots B__law_spots
  walk_at "d"
  refine draw (δ := []) (by omega) (by omega) (by omega) fun r r0 r1 => ?_
  walk_at "d"
  refine while_inv (fun m δ n' => ∃ (at_ : Int) (acc : List Spt) (a b : Option Sl), m = (500 - at_).toNat ∧ 0 ≤ at_ ∧ at_ ≤ xs.length + 9 ∧ δ = [some (.sh .pen), some (.sh (.tup (row xs))), some (.ow (spotsD acc)), some (.sh (.int at_)), a, b] ∧ (∀ tl, M73.Good xs.length at_ tl → M73.Good xs.length 0 (acc ++ tl)) ∧ M73.Fits xs acc ∧ (∀ s ∈ acc, s.2.2.length ≤ 3 ∧ s.2.1.length ≤ 3) ∧ acc.length ≤ 12 ∧ (n' : Int) ≤ n + 1 + 500 * at_) (500 - r).toNat ⟨r, [], none, none, rfl, r0, by omega, rfl, (fun tl g => good_mono g r0), (fun s hs => by cases hs), (fun s hs => by cases hs), Nat.zero_le _, by omega⟩ ?_
  rintro m _ n2 ⟨at_, acc, a, b, rfl, h0, h9, rfl, hg, hf, hz, hl, hn2⟩
  walk_at "d"
  have last : R__law_spots_2 ⟨fun _ n' => P .non n', shP P, fun _ _ => False, fun _ _ => False, fun _ => E⟩ [some (.sh .pen), some (.sh (.tup (row xs))), some (.ow (spotsD acc)), some (.sh (.int at_)), a, b] n2 := by
    unfold R__law_spots_2
    walk_at "d"
    have := hg [] trivial
    rw [List.append_nil] at this
    exact h acc n2 this hf (by omega) hz (by omega)
  refine iteI (fun hi => iteI (fun h12 => ?_) (fun _ => last)) (fun _ => last)
  · rw [show (spotsD acc).length = acc.length from List.length_map ..] at h12
    refine ⟨_, fun _ _ z => z, ?_⟩
    unfold L__law_spots_1
    walk_at "d"
    refine draw (δ := []) (by omega) (by omega) (by omega) fun q q0 q1 => ?_
    walk_at "d"
    have eo : cut xs (some at_) (some (at_ + q)) = (xs.drop at_.toNat).take q.toNat := by
      rw [cut_mid h0 (by omega)]
      congr 1
      omega
    rw [eo]
    have lo : ((xs.drop at_.toNat).take q.toNat).length = min q.toNat (xs.length - at_.toNat) := by rw [List.length_take, List.length_drop]
    have bo : Bts ((xs.drop at_.toNat).take q.toNat) := bts_take (bts_drop bx _) _
    have fo : (xs.drop at_.toNat).take ((xs.drop at_.toNat).take q.toNat).length = (xs.drop at_.toNat).take q.toNat := by
      rw [lo, List.take_eq_take_iff, List.length_drop]
      omega
    generalize ho : (xs.drop at_.toNat).take q.toNat = old at *
    refine u_bytes (by omega) (by omega) (by omega) fun b1 n3 bb1 bl1 hn3 => ?_
    walk_at "d"
    refine u_bytes (by omega) (by omega) (by omega) fun b2 n4 bb2 bl2 hn4 => ?_
    walk_at "d"
    refine draw (δ := []) (by omega) (by omega) (by omega) fun r3 r30 r31 => ?_
    obtain ⟨new, hnew, bn, ln⟩ : ∃ new : List Int, gIx [.lst [.tup (row old), .tup [], .tup (row b1), .tup (row b2)], .int r3] = some (.tup (row new)) ∧ Bts new ∧ new.length ≤ 3 := by
      have hr : r3 = 0 ∨ r3 = 1 ∨ r3 = 2 ∨ r3 = 3 := by omega
      rcases hr with rfl | rfl | rfl | rfl
      · exact ⟨old, by walk_at "d", bo, by omega⟩
      · exact ⟨[], by walk_at "d"; rfl, bts_nil, by simp⟩
      · exact ⟨b1, by walk_at "d", bb1, by omega⟩
      · exact ⟨b2, by walk_at "d", bb2, by omega⟩
    rw [hnew]
    walk_at "d"
    have more : ∀ (acc' : List Spt), (acc' = acc ∨ (acc' = acc ++ [(at_, old, new)] ∧ (old ≠ [] ∨ new ≠ []))) → R__law_spots_1 ⟨fun δ' n' => ∃ m', m' < (500 - at_).toNat ∧ ∃ (at_ : Int) (acc : List Spt) (a b : Option Sl), m' = (500 - at_).toNat ∧ 0 ≤ at_ ∧ at_ ≤ xs.length + 9 ∧ δ' = [some (.sh .pen), some (.sh (.tup (row xs))), some (.ow (spotsD acc)), some (.sh (.int at_)), a, b] ∧ (∀ tl, M73.Good xs.length at_ tl → M73.Good xs.length 0 (acc ++ tl)) ∧ M73.Fits xs acc ∧ (∀ s ∈ acc, s.2.2.length ≤ 3 ∧ s.2.1.length ≤ 3) ∧ acc.length ≤ 12 ∧ (n' : Int) ≤ n + 1 + 500 * at_, shP P, fun δ' n' => R__law_spots_2 ⟨fun _ n' => P .non n', shP P, fun _ _ => False, fun _ _ => False, fun _ => E⟩ δ' n', fun δ' n' => ∃ m', m' < (500 - at_).toNat ∧ ∃ (at_ : Int) (acc : List Spt) (a b : Option Sl), m' = (500 - at_).toNat ∧ 0 ≤ at_ ∧ at_ ≤ xs.length + 9 ∧ δ' = [some (.sh .pen), some (.sh (.tup (row xs))), some (.ow (spotsD acc)), some (.sh (.int at_)), a, b] ∧ (∀ tl, M73.Good xs.length at_ tl → M73.Good xs.length 0 (acc ++ tl)) ∧ M73.Fits xs acc ∧ (∀ s ∈ acc, s.2.2.length ≤ 3 ∧ s.2.1.length ≤ 3) ∧ acc.length ≤ 12 ∧ (n' : Int) ≤ n + 1 + 500 * at_, fun _ => E⟩ [some (.sh .pen), some (.sh (.tup (row xs))), some (.ow (spotsD acc')), some (.sh (.int at_)), some (.sh (.tup (row old))), some (.sh (.tup (row new)))] (n4 + 1) := by
      intro acc' hacc
      unfold R__law_spots_1
      walk_at "d"
      refine draw (δ := []) (by omega) (by omega) (by omega) fun r4 r40 r41 => ?_
      walk_at "d"
      refine ⟨_, ?_, at_ + (old.length : Int) + 1 + r4, acc', _, _, rfl, by omega, by omega, rfl, ?_, ?_, ?_, ?_, by omega⟩
      · omega
      · intro tl g
        rcases hacc with rfl | ⟨rfl, hne⟩
        · exact hg tl (good_mono g (by omega))
        · rw [List.append_assoc]
          exact hg _ ⟨Int.le_refl _, h0, by show at_ + (old.length : Int) ≤ _; omega, bo, bn, hne, good_mono g (by show at_ + (old.length : Int) + 1 ≤ _; omega)⟩
      · intro s hs
        rcases hacc with rfl | ⟨rfl, hne⟩
        · exact hf s hs
        · rcases List.mem_append.mp hs with z | z
          · exact hf s z
          · have e : s = (at_, old, new) := by simpa using z
            rw [e]
            exact fo
      · intro s hs
        rcases hacc with rfl | ⟨rfl, hne⟩
        · exact hz s hs
        · rcases List.mem_append.mp hs with z | z
          · exact hz s z
          · have e : s = (at_, old, new) := by simpa using z
            rw [e]
            exact ⟨ln, by show old.length ≤ 3; omega⟩
      · rcases hacc with rfl | ⟨rfl, hne⟩
        · omega
        · rw [List.length_append]
          show acc.length + 1 ≤ 12
          omega
    have hsl : (spotsD acc).length = acc.length := List.length_map ..
    refine iteI (fun z => ⟨by omega, ?_⟩) (fun z => iteI (fun z2 => ⟨by omega, ?_⟩) (fun z2 => ?_))
    · have := more (acc ++ [(at_, old, new)]) (.inr ⟨rfl, .inl (row_ne z)⟩)
      rw [← spots_snoc] at this
      exact this
    · have := more (acc ++ [(at_, old, new)]) (.inr ⟨rfl, .inr (row_ne z2)⟩)
      rw [← spots_snoc] at this
      exact this
    · exact more acc (.inl rfl)
end C75
namespace M74
open M73
def home : Int → List Spt → Int → Int → Int
  | sh, [], x, _ => x - sh
  | sh, s :: r, x, w => if x < s.1 + sh then x - sh else if x ≤ s.1 + sh + s.2.2.length then s.1 + s.2.1.length * w else home (sh + s.2.2.length - s.2.1.length) r x w
theorem home_low {L : Int} : ∀ {ss : List Spt} {fr sh x w : Int}, Good L fr ss → 0 ≤ w → w ≤ 1 → fr + sh ≤ x → fr ≤ home sh ss x w
  | [], fr, sh, x, w, _, _, _, h => by
    show fr ≤ x - sh
    omega
  | s :: r, fr, sh, x, w, g, h0, h1, h => by
    obtain ⟨g1, g2, g3, g4, g5, g6, g7⟩ := g
    have hw : (0 : Int) ≤ s.2.1.length * w := Int.mul_nonneg (by omega) h0
    show fr ≤ if x < s.1 + sh then x - sh else if x ≤ s.1 + sh + s.2.2.length then s.1 + s.2.1.length * w else home (sh + s.2.2.length - s.2.1.length) r x w
    split
    · omega
    · split
      · omega
      · have := home_low (x := x) (sh := sh + s.2.2.length - s.2.1.length) (w := w) g7 h0 h1 (by omega)
        omega
theorem home_mono {L : Int} : ∀ {ss : List Spt} {fr sh x y v w : Int}, Good L fr ss → (v = 0 ∨ v = 1) → (w = 0 ∨ w = 1) → v ≤ w → x ≤ y → home sh ss x v ≤ home sh ss y w
  | [], fr, sh, x, y, v, w, _, _, _, _, h => by
    show x - sh ≤ y - sh
    omega
  | s :: r, fr, sh, x, y, v, w, g, hv, hw, hvw, h => by
    obtain ⟨g1, g2, g3, g4, g5, g6, g7⟩ := g
    have ih := home_mono (sh := sh + s.2.2.length - s.2.1.length) g7 hv hw hvw h
    have lo := home_low (x := y) (sh := sh + s.2.2.length - s.2.1.length) (w := w) g7 (by omega) (by omega)
    have e1 : (s.2.1.length : Int) * v ≤ s.2.1.length := by rcases hv with rfl | rfl <;> omega
    have e2 : (s.2.1.length : Int) * v ≤ s.2.1.length * w := by rcases hv with rfl | rfl <;> rcases hw with rfl | rfl <;> omega
    have e3 : (0 : Int) ≤ s.2.1.length * w := by rcases hw with rfl | rfl <;> omega
    show (if x < s.1 + sh then x - sh else if x ≤ s.1 + sh + s.2.2.length then s.1 + s.2.1.length * v else home (sh + s.2.2.length - s.2.1.length) r x v) ≤ if y < s.1 + sh then y - sh else if y ≤ s.1 + sh + s.2.2.length then s.1 + s.2.1.length * w else home (sh + s.2.2.length - s.2.1.length) r y w
    split
    · split
      · omega
      · split
        · omega
        · have := lo (by omega)
          omega
    · split
      · split
        · omega
        · split
          · omega
          · have := lo (by omega)
            omega
      · split
        · omega
        · split
          · omega
          · exact ih
def plc : Int → List Spt → List (Int × Int)
  | _, [] => []
  | sh, s :: r => (s.1 + sh, s.1 + sh + s.2.2.length) :: plc (sh + s.2.2.length - s.2.1.length) r
theorem plc_low {L : Int} : ∀ {ss : List Spt} {fr sh : Int}, Good L fr ss → ∀ p ∈ plc sh ss, fr + sh ≤ p.1 ∧ p.1 ≤ p.2
  | s :: r, fr, sh, g, p, hp => by
    obtain ⟨g1, g2, g3, g4, g5, g6, g7⟩ := g
    rcases List.mem_cons.mp hp with rfl | hp
    · show fr + sh ≤ s.1 + sh ∧ s.1 + sh ≤ s.1 + sh + s.2.2.length
      omega
    · have := plc_low g7 p hp
      omega
theorem home_gap {L : Int} : ∀ {ss : List Spt} {fr sh x y : Int}, Good L fr ss → x < y → (∀ p ∈ plc sh ss, p.2 ≤ x ∨ x < p.1) → home sh ss x 1 < home sh ss y 0
  | [], fr, sh, x, y, _, h, _ => by
    show x - sh < y - sh
    omega
  | s :: r, fr, sh, x, y, g, h, hc => by
    obtain ⟨g1, g2, g3, g4, g5, g6, g7⟩ := g
    have h1 : s.1 + sh + s.2.2.length ≤ x ∨ x < s.1 + sh := hc _ (.head _)
    have ih := home_gap (sh := sh + s.2.2.length - s.2.1.length) g7 h fun p hp => hc p (.tail _ hp)
    have lo := home_low (x := y) (sh := sh + s.2.2.length - s.2.1.length) (w := 0) g7 (by omega) (by omega)
    show (if x < s.1 + sh then x - sh else if x ≤ s.1 + sh + s.2.2.length then s.1 + s.2.1.length * 1 else home (sh + s.2.2.length - s.2.1.length) r x 1) < if y < s.1 + sh then y - sh else if y ≤ s.1 + sh + s.2.2.length then s.1 + s.2.1.length * 0 else home (sh + s.2.2.length - s.2.1.length) r y 0
    split
    · split
      · omega
      · split
        · omega
        · omega
    · split
      · split
        · omega
        · split
          · omega
          · have := lo (by omega)
            omega
      · split
        · omega
        · split
          · omega
          · exact ih
theorem home_before {L : Int} {ss : List Spt} {fr sh x w : Int} (g : Good L fr ss) (h : x < fr + sh) : home sh ss x w = x - sh := by
  cases ss with
  | nil => rfl
  | cons s r =>
    have := g.1
    show (if x < s.1 + sh then x - sh else _) = _
    rw [if_pos (by omega)]
theorem home_back {L : Int} : ∀ {ss : List Spt} {fr sh : Int}, Good L fr ss → ∀ t : Int, (∃ s ∈ ss, s.1 ≤ t ∧ t < s.1 + s.2.1.length) ∨ ∃ u, (∀ x, x ≤ u → home sh ss x 1 ≤ t) ∧ ∀ y, u < y → t < home sh ss y 0
  | [], fr, sh, _, t => .inr ⟨t + sh, fun x h => by show x - sh ≤ t; omega, fun y h => by show t < y - sh; omega⟩
  | s :: r, fr, sh, g, t => by
    have g0 := g
    obtain ⟨g1, g2, g3, g4, g5, g6, g7⟩ := g
    by_cases h1 : t < s.1
    · refine .inr ⟨t + sh, fun x h => ?_, fun y h => ?_⟩
      · show (if x < s.1 + sh then x - sh else _) ≤ t
        rw [if_pos (by omega)]
        omega
      · have lo := home_low (x := y) (sh := sh + s.2.2.length - s.2.1.length) (w := 0) g7 (by omega) (by omega)
        show t < if y < s.1 + sh then y - sh else if y ≤ s.1 + sh + s.2.2.length then s.1 + s.2.1.length * 0 else home (sh + s.2.2.length - s.2.1.length) r y 0
        split
        · omega
        · split
          · omega
          · have := lo (by omega)
            omega
    · by_cases h2 : t < s.1 + s.2.1.length
      · exact .inl ⟨s, .head _, by omega, h2⟩
      · rcases home_back (sh := sh + s.2.2.length - s.2.1.length) g7 t with ⟨x, hx, q⟩ | ⟨u, hu1, hu2⟩
        · exact .inl ⟨x, .tail _ hx, q⟩
        · have hq : s.1 + sh + s.2.2.length ≤ u := by
            refine Classical.byContradiction fun z => ?_
            have := hu2 (s.1 + sh + s.2.2.length) (by omega)
            rw [home_before g7 (by omega)] at this
            omega
          refine .inr ⟨u, fun x h => ?_, fun y h => ?_⟩
          · show (if x < s.1 + sh then x - sh else if x ≤ s.1 + sh + s.2.2.length then s.1 + s.2.1.length * 1 else home (sh + s.2.2.length - s.2.1.length) r x 1) ≤ t
            split
            · omega
            · split
              · omega
              · exact hu1 x h
          · show t < if y < s.1 + sh then y - sh else if y ≤ s.1 + sh + s.2.2.length then s.1 + s.2.1.length * 0 else home (sh + s.2.2.length - s.2.1.length) r y 0
            split
            · omega
            · split
              · omega
              · exact hu2 y h
theorem home_plc {L : Int} : ∀ {ss : List Spt} {fr sh : Int}, Good L fr ss → (plc sh ss).map (fun p => (home sh ss p.1 0, home sh ss p.2 1)) = ss.map fun s => (s.1, s.1 + (s.2.1.length : Int))
  | [], _, _, _ => rfl
  | s :: r, fr, sh, g => by
    have g0 := g
    obtain ⟨g1, g2, g3, g4, g5, g6, g7⟩ := g
    have ih := home_plc (sh := sh + s.2.2.length - s.2.1.length) g7
    have hl := plc_low (sh := sh + s.2.2.length - s.2.1.length) g7
    show _ :: _ = _ :: _
    refine congr (congrArg List.cons ?_) ?_
    · have e1 : home sh (s :: r) (s.1 + sh) 0 = s.1 := by
        show (if s.1 + sh < s.1 + sh then _ else if s.1 + sh ≤ s.1 + sh + s.2.2.length then s.1 + s.2.1.length * 0 else _) = _
        rw [if_neg (by omega), if_pos (by omega)]
        omega
      have e2 : home sh (s :: r) (s.1 + sh + s.2.2.length) 1 = s.1 + s.2.1.length := by
        show (if s.1 + sh + s.2.2.length < s.1 + sh then _ else if s.1 + sh + s.2.2.length ≤ s.1 + sh + s.2.2.length then s.1 + s.2.1.length * 1 else _) = _
        rw [if_neg (by omega), if_pos (by omega)]
        omega
      show (home sh (s :: r) (s.1 + sh) 0, home sh (s :: r) (s.1 + sh + s.2.2.length) 1) = _
      rw [e1, e2]
    · rw [← ih]
      refine List.map_congr_left fun p hp => ?_
      obtain ⟨q1, q2⟩ := hl p hp
      have e1 : ∀ (x w : Int), s.1 + sh + s.2.2.length < x → home sh (s :: r) x w = home (sh + s.2.2.length - s.2.1.length) r x w := fun x w hx => by
        show (if x < s.1 + sh then _ else if x ≤ s.1 + sh + s.2.2.length then _ else home (sh + s.2.2.length - s.2.1.length) r x w) = _
        rw [if_neg (by omega), if_neg (by omega)]
      rw [e1 _ _ (by omega), e1 _ _ (by omega)]
theorem sepI {α : Type} {R : α → α → Prop} : ∀ {l : List α}, l.Pairwise R → ∀ {a b : α}, a ∈ l → b ∈ l → a = b ∨ R a b ∨ R b a
  | x :: l, h, a, b, ha, hb => by
    obtain ⟨h1, h2⟩ := List.pairwise_cons.mp h
    rcases List.mem_cons.mp ha with ea | ha
    · rcases List.mem_cons.mp hb with eb | hb
      · exact .inl (by rw [ea, eb])
      · exact .inr (.inl (by rw [ea]; exact h1 b hb))
    · rcases List.mem_cons.mp hb with eb | hb
      · exact .inr (.inr (by rw [eb]; exact h1 a ha))
      · exact sepI h2 ha hb
abbrev Iv := Int × Int
structure Cl (I : List Iv) (out : List Iv) : Prop where
  ok : ∀ c ∈ out, c.1 ≤ c.2
  up : out.Pairwise fun a b => a.2 < b.1
  cov : ∀ x ∈ I, ∃ c ∈ out, c.1 ≤ x.1 ∧ x.2 ≤ c.2
  lo : ∀ c ∈ out, ∃ x ∈ I, x.1 = c.1
  hi : ∀ c ∈ out, ∃ x ∈ I, x.2 = c.2
  no : ∀ c ∈ out, ∀ t, c.1 ≤ t → t < c.2 → ∃ x ∈ I, x.1 ≤ t ∧ t < x.2
theorem Cl.one : ∀ {I out out' : List Iv}, (∀ x ∈ I, x.1 ≤ x.2) → Cl I out → Cl I out' → out = out'
  | I, [], out', hI, h, h' => by
    cases out' with
    | nil => rfl
    | cons c r =>
      obtain ⟨x, hx, _⟩ := h'.lo c (.head _)
      obtain ⟨d, hd, _⟩ := h.cov x hx
      cases hd
  | I, c :: r, [], hI, h, h' => by
    obtain ⟨x, hx, _⟩ := h.lo c (.head _)
    obtain ⟨d, hd, _⟩ := h'.cov x hx
    cases hd
  | I, c :: r, c' :: r', hI, h, h' => by
    have h1 := List.pairwise_cons.mp h.up
    have h1' := List.pairwise_cons.mp h'.up
    have low : ∀ x ∈ I, c.1 ≤ x.1 := fun x hx => by
      obtain ⟨d, hd, q, _⟩ := h.cov x hx
      rcases List.mem_cons.mp hd with rfl | hd
      · exact q
      · have := h1.1 d hd
        have := h.ok c (.head _)
        omega
    have low' : ∀ x ∈ I, c'.1 ≤ x.1 := fun x hx => by
      obtain ⟨d, hd, q, _⟩ := h'.cov x hx
      rcases List.mem_cons.mp hd with rfl | hd
      · exact q
      · have := h1'.1 d hd
        have := h'.ok c' (.head _)
        omega
    have e1 : c.1 = c'.1 := by
      obtain ⟨x, hx, q⟩ := h.lo c (.head _)
      obtain ⟨y, hy, p⟩ := h'.lo c' (.head _)
      have := low y hy
      have := low' x hx
      omega
    have far : ∀ (a b : Iv) (s s' : List Iv), Cl I (a :: s) → Cl I (b :: s') → a.1 = b.1 → ¬ a.2 < b.2 := fun a b s s' ha hb e z => by
      have ua := List.pairwise_cons.mp ha.up
      obtain ⟨x, hx, p1, p2⟩ := hb.no b (.head _) a.2 (by have := ha.ok a (.head _); omega) z
      obtain ⟨d, hd, q1, q2⟩ := ha.cov x hx
      rcases List.mem_cons.mp hd with rfl | hd
      · omega
      · have := ua.1 d hd
        omega
    have e2 : c.2 = c'.2 := by
      have := far c c' r r' h h' e1
      have := far c' c r' r h' h e1.symm
      omega
    have ec : c = c' := Prod.ext e1 e2
    subst ec
    have sub : ∀ (s : List Iv), Cl I (c :: s) → Cl (I.filter fun x => decide (c.2 < x.1)) s := fun s hs => by
      have us := List.pairwise_cons.mp hs.up
      have inn : ∀ x ∈ I, (∃ d ∈ s, d.1 ≤ x.1) → c.2 < x.1 := fun x hx ⟨d, hd, q⟩ => by
        have := us.1 d hd
        omega
      refine ⟨fun d hd => hs.ok d (.tail _ hd), us.2, fun x hx => ?_, fun d hd => ?_, fun d hd => ?_, fun d hd t h1 h2 => ?_⟩
      · obtain ⟨hx1, hx2⟩ := List.mem_filter.mp hx
        have hx2 := of_decide_eq_true hx2
        obtain ⟨d, hd, q1, q2⟩ := hs.cov x hx1
        rcases List.mem_cons.mp hd with rfl | hd
        · have := hI x hx1
          omega
        · exact ⟨d, hd, q1, q2⟩
      · obtain ⟨x, hx, q⟩ := hs.lo d (.tail _ hd)
        exact ⟨x, List.mem_filter.mpr ⟨hx, decide_eq_true (inn x hx ⟨d, hd, by omega⟩)⟩, q⟩
      · obtain ⟨x, hx, q⟩ := hs.hi d (.tail _ hd)
        refine ⟨x, List.mem_filter.mpr ⟨hx, decide_eq_true ?_⟩, q⟩
        obtain ⟨e, he, q1, q2⟩ := hs.cov x hx
        rcases List.mem_cons.mp he with rfl | he
        · have := us.1 d hd
          have := hs.ok d (.tail _ hd)
          omega
        · exact inn x hx ⟨e, he, q1⟩
      · obtain ⟨x, hx, q1, q2⟩ := hs.no d (.tail _ hd) t h1 h2
        refine ⟨x, List.mem_filter.mpr ⟨hx, decide_eq_true ?_⟩, q1, q2⟩
        obtain ⟨e, he, p1, p2⟩ := hs.cov x hx
        rcases List.mem_cons.mp he with rfl | he
        · have := us.1 d hd
          omega
        · exact inn x hx ⟨e, he, p1⟩
    rw [Cl.one (I := I.filter fun x => decide (c.2 < x.1)) (fun x hx => hI x (List.mem_filter.mp hx).1) (sub r h) (sub r' h')]
def mrgGo : Int × Int × Int → List (Int × Int × Int) → List (Int × Int × Int)
  | c, [] => [c]
  | c, x :: t => if x.1 ≤ c.2.1 then mrgGo (c.1, max c.2.1 x.2.1, c.2.2 + x.2.2) t else c :: mrgGo x t
def mrg : List (Int × Int × Int) → List (Int × Int × Int)
  | [] => []
  | x :: t => mrgGo x t
def iv (x : Int × Int × Int) : Iv := (x.1, x.2.1)
def sm (l : List (Int × Int × Int)) (p : Int × Int × Int → Bool) : Int := ((l.filter p).map fun x => x.2.2).sum
structure Mg (I out : List (Int × Int × Int)) : Prop where
  cl : Cl (I.map iv) (out.map iv)
  sum : ∀ (k : Nat) (c : Int × Int × Int), out[k]? = some c → ((out.take k).map fun x => x.2.2).sum = sm I (fun x => decide (x.1 < c.1)) ∧ c.2.2 = sm I (fun x => decide (c.1 ≤ x.1) && decide (x.1 ≤ c.2.1))
theorem sm_cons (x : Int × Int × Int) (l : List (Int × Int × Int)) (p : Int × Int × Int → Bool) : sm (x :: l) p = (if p x = true then x.2.2 else 0) + sm l p := by
  unfold sm
  cases h : p x with
  | true => rw [List.filter_cons_of_pos h, if_pos rfl, List.map_cons, List.sum_cons]
  | false => rw [List.filter_cons_of_neg (by rw [h]; exact Bool.false_ne_true), if_neg Bool.false_ne_true, Int.zero_add]
theorem sm_none {l : List (Int × Int × Int)} {p : Int × Int × Int → Bool} (h : ∀ x ∈ l, p x = false) : sm l p = 0 := by
  unfold sm
  rw [List.filter_eq_nil_iff.mpr fun x hx => by rw [h x hx]; exact Bool.false_ne_true]
  rfl
theorem sm_congr {l : List (Int × Int × Int)} {p q : Int × Int × Int → Bool} (h : ∀ x ∈ l, p x = q x) : sm l p = sm l q := by
  unfold sm
  rw [List.filter_congr h]
theorem mrgGo_ok : ∀ (t : List (Int × Int × Int)) (c : Int × Int × Int), c.1 ≤ c.2.1 → (∀ x ∈ t, c.1 ≤ x.1 ∧ x.1 ≤ x.2.1) → t.Pairwise (fun a b => a.1 ≤ b.1) → Mg (c :: t) (mrgGo c t)
  | [], c, hc, _, _ => by
    refine ⟨⟨fun d hd => ?_, by simp [mrgGo], fun x hx => ⟨x, by simpa [mrgGo] using hx, ?_⟩, fun d hd => ⟨d, by simpa [mrgGo] using hd, rfl⟩, fun d hd => ⟨d, by simpa [mrgGo] using hd, rfl⟩, fun d hd t h1 h2 => ⟨d, by simpa [mrgGo] using hd, h1, h2⟩⟩, fun k d hk => ?_⟩
    · have : d = iv c := by simpa [mrgGo] using hd
      subst this
      exact hc
    · exact ⟨Int.le_refl _, Int.le_refl _⟩
    · show _ ∧ _
      have hk : [c][k]? = some d := hk
      cases k with
      | zero =>
        cases hk
        refine ⟨?_, ?_⟩
        · rw [sm_none fun x hx => ?_]
          · rfl
          · rw [List.mem_singleton] at hx
            rw [hx]
            exact decide_eq_false (by omega)
        · rw [sm_cons, if_pos (by rw [decide_eq_true (Int.le_refl _), decide_eq_true hc]; rfl), sm_none (fun x hx => by cases hx)]
          omega
      | succ k => cases hk
  | x :: t, c, hc, hx, hs => by
    have hxx := hx x (.head _)
    have hs' := List.pairwise_cons.mp hs
    by_cases h : x.1 ≤ c.2.1
    · have e : mrgGo c (x :: t) = mrgGo (c.1, max c.2.1 x.2.1, c.2.2 + x.2.2) t := if_pos h
      rw [e]
      have m := mrgGo_ok t (c.1, max c.2.1 x.2.1, c.2.2 + x.2.2) (by show c.1 ≤ max c.2.1 x.2.1; omega) (fun y hy => hx y (.tail _ hy)) hs'.2
      refine ⟨⟨m.cl.ok, m.cl.up, fun y hy => ?_, fun d hd => ?_, fun d hd => ?_, fun d hd u h1 h2 => ?_⟩, fun k d hk => ?_⟩
      · have hcov := m.cl.cov (c.1, max c.2.1 x.2.1) (.head _)
        rcases List.mem_cons.mp hy with rfl | hy
        · obtain ⟨d, hd, q1, q2⟩ := hcov
          exact ⟨d, hd, q1, by have : max c.2.1 x.2.1 ≤ d.2 := q2; show c.2.1 ≤ d.2; omega⟩
        · rcases List.mem_cons.mp hy with rfl | hy
          · obtain ⟨d, hd, q1, q2⟩ := hcov
            have q1 : d.1 ≤ c.1 := q1
            have q2 : max c.2.1 x.2.1 ≤ d.2 := q2
            exact ⟨d, hd, by show d.1 ≤ x.1; omega, by show x.2.1 ≤ d.2; omega⟩
          · exact m.cl.cov y (.tail _ hy)
      · obtain ⟨y, hy, q⟩ := m.cl.lo d hd
        rcases List.mem_cons.mp hy with rfl | hy
        · exact ⟨iv c, .head _, q⟩
        · exact ⟨y, .tail _ (.tail _ hy), q⟩
      · obtain ⟨y, hy, q⟩ := m.cl.hi d hd
        rcases List.mem_cons.mp hy with rfl | hy
        · have q : max c.2.1 x.2.1 = d.2 := q
          by_cases z : c.2.1 ≤ x.2.1
          · exact ⟨iv x, .tail _ (.head _), by show x.2.1 = d.2; omega⟩
          · exact ⟨iv c, .head _, by show c.2.1 = d.2; omega⟩
        · exact ⟨y, .tail _ (.tail _ hy), q⟩
      · obtain ⟨y, hy, q1, q2⟩ := m.cl.no d hd u h1 h2
        rcases List.mem_cons.mp hy with rfl | hy
        · have q1 : c.1 ≤ u := q1
          have q2 : u < max c.2.1 x.2.1 := q2
          by_cases z : u < c.2.1
          · exact ⟨iv c, .head _, q1, z⟩
          · exact ⟨iv x, .tail _ (.head _), by show x.1 ≤ u; omega, by show u < x.2.1; omega⟩
        · exact ⟨y, .tail _ (.tail _ hy), q1, q2⟩
      · obtain ⟨s1, s2⟩ := m.sum k d hk
        have hdm : iv d ∈ (mrgGo (c.1, max c.2.1 x.2.1, c.2.2 + x.2.2) t).map iv := List.mem_map.mpr ⟨d, List.mem_of_getElem? hk, rfl⟩
        have same : (c.1 < d.1 ↔ x.1 < d.1) ∧ ((d.1 ≤ c.1 ∧ c.1 ≤ d.2.1) ↔ (d.1 ≤ x.1 ∧ x.1 ≤ d.2.1)) := by
          obtain ⟨f, hf, q1, q2⟩ := m.cl.cov (c.1, max c.2.1 x.2.1) (.head _)
          have q1 : f.1 ≤ c.1 := q1
          have q2 : max c.2.1 x.2.1 ≤ f.2 := q2
          have hok := m.cl.ok _ hdm
          have hok : d.1 ≤ d.2.1 := hok
          by_cases ef : f = iv d
          · have f1 : f.1 = d.1 := by rw [ef]; rfl
            have f2 : f.2 = d.2.1 := by rw [ef]; rfl
            omega
          · rcases M74.sepI m.cl.up hf hdm with z | z | z
            · exact absurd z ef
            · have z : f.2 < d.1 := z
              omega
            · have z : d.2.1 < f.1 := z
              omega
        refine ⟨?_, ?_⟩
        · rw [s1, sm_cons, sm_cons, sm_cons]
          show (if decide (c.1 < d.1) = true then c.2.2 + x.2.2 else 0) + sm t _ = _
          by_cases z : c.1 < d.1
          · rw [decide_eq_true z, decide_eq_true (same.1.mp z), if_pos rfl, if_pos rfl, if_pos rfl]
            omega
          · rw [decide_eq_false z, decide_eq_false fun y => z (same.1.mpr y), if_neg Bool.false_ne_true, if_neg Bool.false_ne_true, if_neg Bool.false_ne_true]
            omega
        · rw [s2, sm_cons, sm_cons, sm_cons]
          by_cases z : d.1 ≤ c.1 ∧ c.1 ≤ d.2.1
          · have y := same.2.mp z
            rw [decide_eq_true z.1, decide_eq_true z.2, decide_eq_true y.1, decide_eq_true y.2]
            show (if true = true then c.2.2 + x.2.2 else 0) + _ = (if true = true then c.2.2 else 0) + ((if true = true then x.2.2 else 0) + _)
            rw [if_pos rfl, if_pos rfl, if_pos rfl]
            omega
          · have y : ¬ (d.1 ≤ x.1 ∧ x.1 ≤ d.2.1) := fun q => z (same.2.mpr q)
            have z' : (decide (d.1 ≤ c.1) && decide (c.1 ≤ d.2.1)) = false := by
              rw [Bool.and_eq_false_iff, decide_eq_false_iff_not, decide_eq_false_iff_not]
              omega
            have y' : (decide (d.1 ≤ x.1) && decide (x.1 ≤ d.2.1)) = false := by
              rw [Bool.and_eq_false_iff, decide_eq_false_iff_not, decide_eq_false_iff_not]
              omega
            show (if (decide (d.1 ≤ c.1) && decide (c.1 ≤ d.2.1)) = true then c.2.2 + x.2.2 else 0) + _ = _
            rw [z', y', if_neg Bool.false_ne_true, if_neg Bool.false_ne_true, if_neg Bool.false_ne_true]
            omega
    · have e : mrgGo c (x :: t) = c :: mrgGo x t := if_neg h
      rw [e]
      have m := mrgGo_ok t x hxx.2 (fun y hy => ⟨hs'.1 y hy, (hx y (.tail _ hy)).2⟩) hs'.2
      have far : ∀ d ∈ (mrgGo x t).map iv, c.2.1 < d.1 := fun d hd => by
        obtain ⟨y, hy, q⟩ := m.cl.lo d hd
        obtain ⟨w, hw, rfl⟩ := List.mem_map.mp hy
        have q : w.1 = d.1 := q
        rcases List.mem_cons.mp hw with rfl | hw
        · omega
        · have := hs'.1 w hw
          omega
      refine ⟨⟨fun d hd => ?_, List.pairwise_cons.mpr ⟨far, m.cl.up⟩, fun y hy => ?_, fun d hd => ?_, fun d hd => ?_, fun d hd u h1 h2 => ?_⟩, fun k d hk => ?_⟩
      · rcases List.mem_cons.mp hd with rfl | hd
        · exact hc
        · exact m.cl.ok d hd
      · rcases List.mem_cons.mp hy with rfl | hy
        · exact ⟨iv c, .head _, Int.le_refl _, Int.le_refl _⟩
        · obtain ⟨d, hd, q⟩ := m.cl.cov y hy
          exact ⟨d, .tail _ hd, q⟩
      · rcases List.mem_cons.mp hd with rfl | hd
        · exact ⟨iv c, .head _, rfl⟩
        · obtain ⟨y, hy, q⟩ := m.cl.lo d hd
          exact ⟨y, .tail _ hy, q⟩
      · rcases List.mem_cons.mp hd with rfl | hd
        · exact ⟨iv c, .head _, rfl⟩
        · obtain ⟨y, hy, q⟩ := m.cl.hi d hd
          exact ⟨y, .tail _ hy, q⟩
      · rcases List.mem_cons.mp hd with rfl | hd
        · exact ⟨iv c, .head _, h1, h2⟩
        · obtain ⟨y, hy, q⟩ := m.cl.no d hd u h1 h2
          exact ⟨y, .tail _ hy, q⟩
      · have big : ∀ y ∈ x :: t, c.2.1 < y.1 := fun y hy => by
          rcases List.mem_cons.mp hy with rfl | hy
          · omega
          · have := hs'.1 y hy
            omega
        cases k with
        | zero =>
          cases hk
          refine ⟨?_, ?_⟩
          · rw [sm_none fun y hy => ?_]
            · rfl
            · rcases List.mem_cons.mp hy with rfl | hy
              · exact decide_eq_false (by omega)
              · have := big y hy
                exact decide_eq_false (by omega)
          · rw [sm_cons, if_pos (by rw [decide_eq_true (Int.le_refl _), decide_eq_true hc]; rfl), sm_none fun y hy => by
              have := big y hy
              rw [Bool.and_eq_false_iff, decide_eq_false_iff_not, decide_eq_false_iff_not]
              omega]
            omega
        | succ k =>
          have hk : (mrgGo x t)[k]? = some d := hk
          obtain ⟨s1, s2⟩ := m.sum k d hk
          have hd := far (iv d) (List.mem_map.mpr ⟨d, List.mem_of_getElem? hk, rfl⟩)
          have hd : c.2.1 < d.1 := hd
          refine ⟨?_, ?_⟩
          · show (c.2.2 :: ((mrgGo x t).take k).map fun x => x.2.2).sum = _
            rw [List.sum_cons, s1, sm_cons c, if_pos (decide_eq_true (by omega))]
          · rw [s2, sm_cons c, if_neg (by rw [decide_eq_false (by omega)]; exact Bool.false_ne_true)]
            omega
theorem mrg_ok {I : List (Int × Int × Int)} (h : ∀ x ∈ I, x.1 ≤ x.2.1) (hs : I.Pairwise fun a b => a.1 ≤ b.1) : Mg I (mrg I) := by
  cases I with
  | nil => exact ⟨⟨(fun _ h => by cases h), List.Pairwise.nil, (fun _ h => by cases h), (fun _ h => by cases h), (fun _ h => by cases h), (fun _ h => by cases h)⟩, fun k c hk => by cases hk⟩
  | cons x t =>
    have h1 := List.pairwise_cons.mp hs
    exact mrgGo_ok t x (h x (.head _)) (fun y hy => ⟨h1.1 y hy, h y (.tail _ hy)⟩) h1.2
def phi (ss : List Spt) (p : Iv) : Iv := (home 0 ss p.1 0, home 0 ss p.2 1)
theorem Cl.img {L : Int} {ss : List Spt} (g : Good L 0 ss) {I out : List Iv} (hI : ∀ x ∈ I, x.1 ≤ x.2) (hp : ∀ p ∈ plc 0 ss, p ∈ I) (h : Cl I out) : Cl (I.map (phi ss)) (out.map (phi ss)) := by
  have mono : ∀ x y v w : Int, (v = 0 ∨ v = 1) → (w = 0 ∨ w = 1) → v ≤ w → x ≤ y → home 0 ss x v ≤ home 0 ss y w := fun x y v w a b c d => home_mono g a b c d
  refine ⟨fun c hc => ?_, ?_, fun x hx => ?_, fun c hc => ?_, fun c hc => ?_, fun c hc t h1 h2 => ?_⟩
  · obtain ⟨c, hc', rfl⟩ := List.mem_map.mp hc
    exact mono _ _ _ _ (.inl rfl) (.inr rfl) (by decide) (h.ok c hc')
  · rw [List.pairwise_map]
    have : out.Pairwise fun a b => a ∈ out ∧ a.2 < b.1 := by
      refine (List.pairwise_iff_forall_sublist).mpr fun {a b} hs => ?_
      exact ⟨hs.subset (.head _), List.pairwise_iff_forall_sublist.mp h.up hs⟩
    refine this.imp fun {a b} q => home_gap g q.2 fun p hp1 => ?_
    obtain ⟨c, hc, q1, q2⟩ := h.cov p (hp p hp1)
    rcases sepI h.up hc q.1 with z | z | z
    · rw [z] at q2
      exact .inl q2
    · have := h.ok a q.1
      exact .inl (by omega)
    · exact .inr (by omega)
  · obtain ⟨x, hx', rfl⟩ := List.mem_map.mp hx
    obtain ⟨c, hc, q1, q2⟩ := h.cov x hx'
    exact ⟨phi ss c, List.mem_map.mpr ⟨c, hc, rfl⟩, mono _ _ _ _ (.inl rfl) (.inl rfl) (by decide) q1, mono _ _ _ _ (.inr rfl) (.inr rfl) (by decide) q2⟩
  · obtain ⟨c, hc', rfl⟩ := List.mem_map.mp hc
    obtain ⟨x, hx, q⟩ := h.lo c hc'
    exact ⟨phi ss x, List.mem_map.mpr ⟨x, hx, rfl⟩, by show home 0 ss x.1 0 = home 0 ss c.1 0; rw [q]⟩
  · obtain ⟨c, hc', rfl⟩ := List.mem_map.mp hc
    obtain ⟨x, hx, q⟩ := h.hi c hc'
    exact ⟨phi ss x, List.mem_map.mpr ⟨x, hx, rfl⟩, by show home 0 ss x.2 1 = home 0 ss c.2 1; rw [q]⟩
  · obtain ⟨c, hc', rfl⟩ := List.mem_map.mp hc
    have h1 : home 0 ss c.1 0 ≤ t := h1
    have h2 : t < home 0 ss c.2 1 := h2
    rcases home_back (sh := 0) g t with ⟨s, hs, q⟩ | ⟨u, u1, u2⟩
    · have : (s.1, s.1 + (s.2.1.length : Int)) ∈ (plc 0 ss).map (fun p => (home 0 ss p.1 0, home 0 ss p.2 1)) := by
        rw [home_plc g]
        exact List.mem_map.mpr ⟨s, hs, rfl⟩
      obtain ⟨p, hp1, e⟩ := List.mem_map.mp this
      exact ⟨phi ss p, List.mem_map.mpr ⟨p, hp p hp1, rfl⟩, by rw [show phi ss p = _ from e]; exact q.1, by rw [show phi ss p = _ from e]; exact q.2⟩
    · have a1 : c.1 ≤ u := Classical.byContradiction fun z => by
        have := u2 c.1 (by omega)
        omega
      have a2 : u < c.2 := Classical.byContradiction fun z => by
        have := u1 c.2 (by omega)
        omega
      obtain ⟨x, hx, q1, q2⟩ := h.no c hc' u a1 a2
      refine ⟨phi ss x, List.mem_map.mpr ⟨x, hx, rfl⟩, ?_, ?_⟩
      · have := mono x.1 x.1 0 1 (.inl rfl) (.inr rfl) (by decide) (Int.le_refl _)
        have := u1 x.1 q1
        show home 0 ss x.1 0 ≤ t
        omega
      · have := mono x.2 x.2 0 1 (.inl rfl) (.inr rfl) (by decide) (Int.le_refl _)
        have := u2 x.2 q2
        show t < home 0 ss x.2 1
        omega
def gr (s : Spt) : Int := (s.2.2.length : Int) - s.2.1.length
def sg (ss : List Spt) : Int := (ss.map gr).sum
theorem sg_cons (s : Spt) (r : List Spt) : sg (s :: r) = gr s + sg r := by
  unfold sg
  rw [List.map_cons, List.sum_cons]
def fil (m : List Int) : Nat → Nat → List Spt → List Int
  | d, b, [] => mid m d b
  | d, b, s :: r => mid m d s.1.toNat ++ s.2.2 ++ fil m (s.1.toNat + s.2.1.length) b r
def en (s : Spt) : Int := s.1 + s.2.1.length
theorem app_split {m : List Int} : ∀ {l r : List Spt} {d b : Nat}, (∀ s ∈ l, 0 ≤ s.1 ∧ en s ≤ b) → (∀ s ∈ r, (b : Int) ≤ s.1) → d ≤ b → app m d (l ++ r) = fil m d b l ++ app m b r
  | [], [], d, b, _, _, h => by
    show m.drop d = mid m d b ++ m.drop b
    exact drop_split m h
  | [], s :: r, d, b, _, hr, h => by
    have := hr s (.head _)
    show mid m d s.1.toNat ++ s.2.2 ++ app m _ r = mid m d b ++ (mid m b s.1.toNat ++ s.2.2 ++ app m _ r)
    rw [mid_join m h (show b ≤ s.1.toNat by omega)]
    simp only [List.append_assoc]
  | s :: l, r, d, b, hl, hr, h => by
    have := hl s (.head _)
    unfold en at this
    have ih := app_split (m := m) (l := l) (r := r) (d := s.1.toNat + s.2.1.length) (b := b) (fun x hx => hl x (.tail _ hx)) hr (by omega)
    show mid m d s.1.toNat ++ s.2.2 ++ app m _ (l ++ r) = mid m d s.1.toNat ++ s.2.2 ++ fil m _ b l ++ app m b r
    rw [ih]
    simp only [List.append_assoc]
theorem fil_len {m : List Int} {L : Int} : ∀ {l : List Spt} {fr : Int} {d b : Nat}, Good L fr l → (d : Int) ≤ fr → (∀ s ∈ l, en s ≤ b) → d ≤ b → b ≤ m.length → ((fil m d b l).length : Int) = (b : Int) - d + sg l
  | [], fr, d, b, _, _, _, h, hb => by
    show ((mid m d b).length : Int) = _
    rw [mid_len m hb]
    show _ = (b : Int) - d + 0
    omega
  | s :: r, fr, d, b, g, hd, hl, h, hb => by
    obtain ⟨g1, g2, g3, g4, g5, g6, g7⟩ := g
    have h1 := hl s (.head _)
    unfold en at h1
    have ih := fil_len (m := m) (d := s.1.toNat + s.2.1.length) (b := b) g7 (by omega) (fun x hx => hl x (.tail _ hx)) (by omega) hb
    have hm : (mid m d s.1.toNat).length = s.1.toNat - d := mid_len m (by omega)
    show ((mid m d s.1.toNat ++ s.2.2 ++ fil m (s.1.toNat + s.2.1.length) b r).length : Int) = _
    rw [List.length_append, List.length_append, sg_cons, hm]
    unfold gr
    omega
theorem good_drop {L : Int} : ∀ {a b : List Spt} {fr : Int}, Good L fr (a ++ b) → ∃ fr', fr ≤ fr' ∧ Good L fr' b ∧ ∀ s ∈ a, en s < fr'
  | [], b, fr, g => ⟨fr, Int.le_refl _, g, fun _ h => by cases h⟩
  | s :: a, b, fr, g => by
    obtain ⟨g1, g2, g3, g4, g5, g6, g7⟩ := g
    obtain ⟨fr', h1, h2, h3⟩ := good_drop (a := a) g7
    refine ⟨fr', by omega, h2, fun x hx => ?_⟩
    rcases List.mem_cons.mp hx with rfl | hx
    · unfold en
      omega
    · exact h3 x hx
theorem good_take {L : Int} : ∀ {a b : List Spt} {fr : Int}, Good L fr (a ++ b) → Good L fr a
  | [], b, fr, g => trivial
  | s :: a, b, fr, g => by
    obtain ⟨g1, g2, g3, g4, g5, g6, g7⟩ := g
    exact ⟨g1, g2, g3, g4, g5, g6, good_take g7⟩
theorem app_piece {m : List Int} {l1 l2 l3 : List Spt} {b e : Nat} (g : Good m.length 0 (l1 ++ (l2 ++ l3))) (h1 : ∀ s ∈ l1, en s ≤ b) (h2 : ∀ s ∈ l2, (b : Int) ≤ s.1 ∧ en s ≤ e) (h3 : ∀ s ∈ l3, (e : Int) ≤ s.1) (hbe : b ≤ e) (he : e ≤ m.length) :
    ∃ p z, app m 0 (l1 ++ (l2 ++ l3)) = p ++ fil m b e l2 ++ z ∧ (p.length : Int) = b + sg l1 ∧ ((fil m b e l2).length : Int) = (e : Int) - b + sg l2 := by
  have hm := g.mem
  have s1 := app_split (m := m) (l := l1) (r := l2 ++ l3) (d := 0) (b := b) (fun s hs => ⟨(hm s (List.mem_append_left _ hs)).1, h1 s hs⟩) (fun s hs => by
    rcases List.mem_append.mp hs with q | q
    · exact (h2 s q).1
    · have := h3 s q
      omega) (Nat.zero_le _)
  have s2 := app_split (m := m) (l := l2) (r := l3) (d := b) (b := e) (fun s hs => ⟨by have := (h2 s hs).1; omega, (h2 s hs).2⟩) h3 hbe
  obtain ⟨fr, f1, f2, f3⟩ := good_drop g
  refine ⟨fil m 0 b l1, app m e l3, by rw [s1, s2, List.append_assoc], ?_, ?_⟩
  · have := fil_len (m := m) (d := 0) (b := b) (good_take g) (Int.le_refl _) h1 (Nat.zero_le _) (by omega)
    omega
  · have g2 := good_take f2
    cases l2 with
    | nil =>
      show ((mid m b e).length : Int) = (e : Int) - b + 0
      rw [mid_len m he]
      omega
    | cons s r =>
      have hb := (h2 s (.head _)).1
      obtain ⟨q1, q2, q3, q4, q5, q6, q7⟩ := g2
      exact fil_len (m := m) (fr := s.1) ⟨Int.le_refl _, q2, q3, q4, q5, q6, q7⟩ hb (fun x hx => (h2 x hx).2) hbe he
theorem piece_mid {p f z : List Int} {lo hi : Int} (h1 : (p.length : Int) = lo) (h2 : (f.length : Int) = hi - lo) : mid (p ++ f ++ z) lo.toNat hi.toNat = f := by
  unfold mid
  rw [show lo.toNat = p.length by omega, show hi.toNat - p.length = f.length by omega, List.append_assoc, List.drop_left, List.take_left]
def bk : Int → List Spt → List Spt
  | _, [] => []
  | sh, s :: r => (s.1 + sh, s.2.2, s.2.1) :: bk (sh + s.2.2.length - s.2.1.length) r
theorem mid_all (l : List Int) : mid l 0 l.length = l := by
  unfold mid
  rw [List.drop_zero, Nat.sub_zero, List.take_length]
theorem bk_app {row : List Int} : ∀ {ss : List Spt} {fr sh : Int} {d : Nat} {pre : List Int}, Good row.length fr ss → Fits row ss → (d : Int) ≤ fr → d ≤ row.length → (pre.length : Int) = d + sh → app (pre ++ app row d ss) pre.length (bk sh ss) = row.drop d
  | [], fr, sh, d, pre, _, _, _, _, h => by
    show (pre ++ row.drop d).drop pre.length = _
    rw [List.drop_left]
  | s :: r, fr, sh, d, pre, g, hf, hd, hdl, h => by
    obtain ⟨g1, g2, g3, g4, g5, g6, g7⟩ := g
    have hfs := hf s (.head _)
    have hlen : (mid row d s.1.toNat).length = s.1.toNat - d := mid_len row (by omega)
    have ih := bk_app (row := row) (ss := r) (sh := sh + s.2.2.length - s.2.1.length) (d := s.1.toNat + s.2.1.length) (pre := pre ++ (mid row d s.1.toNat ++ s.2.2)) g7 (fun x hx => hf x (.tail _ hx)) (by omega) (by omega) (by rw [List.length_append, List.length_append, hlen]; omega)
    have e1 : (s.1 + sh).toNat = pre.length + (mid row d s.1.toNat).length := by rw [hlen]; omega
    have e2 : pre ++ app row d (s :: r) = pre ++ mid row d s.1.toNat ++ (s.2.2 ++ app row (s.1.toNat + s.2.1.length) r) := by
      show pre ++ (mid row d s.1.toNat ++ s.2.2 ++ app row _ r) = _
      simp only [List.append_assoc]
    have e3 : pre ++ app row d (s :: r) = pre ++ (mid row d s.1.toNat ++ s.2.2) ++ app row (s.1.toNat + s.2.1.length) r := by
      rw [e2]
      simp only [List.append_assoc]
    show mid (pre ++ app row d (s :: r)) pre.length (s.1 + sh).toNat ++ s.2.1 ++ app (pre ++ app row d (s :: r)) ((s.1 + sh).toNat + s.2.2.length) (bk _ r) = _
    have e4 : mid (pre ++ app row d (s :: r)) pre.length (s.1 + sh).toNat = mid row d s.1.toNat := by
      rw [e1, e2]
      have := mid_in (p := pre) (l := mid row d s.1.toNat) (z := s.2.2 ++ app row (s.1.toNat + s.2.1.length) r) (i := 0) (e := (mid row d s.1.toNat).length) (Nat.le_refl _)
      rw [Nat.add_zero, mid_all] at this
      exact this
    rw [e4, e3, show (s.1 + sh).toNat + s.2.2.length = (pre ++ (mid row d s.1.toNat ++ s.2.2)).length by rw [List.length_append, List.length_append, e1]; omega, ih]
    have e5 : row.drop s.1.toNat = s.2.1 ++ row.drop (s.1.toNat + s.2.1.length) := by
      have := List.take_append_drop s.2.1.length (row.drop s.1.toNat)
      rw [hfs, List.drop_drop] at this
      exact this.symm
    rw [drop_split row (show d ≤ s.1.toNat by omega), e5, List.append_assoc]
theorem back_app {row : List Int} {ss : List Spt} (g : Good row.length 0 ss) (h : Fits row ss) : app (app row 0 ss) 0 (bk 0 ss) = row := by
  have := bk_app (pre := []) (sh := 0) (d := 0) g h (Int.le_refl _) (Nat.zero_le _) rfl
  simpa using this
theorem sum_ge {L : Int} : ∀ {ss : List Spt} {fr x : Int}, Good L fr ss → x ≤ fr → x ≤ L → x ≤ L + sg ss
  | [], _, x, _, _, h => by
    show x ≤ L + 0
    omega
  | s :: r, fr, x, g, hx, h => by
    obtain ⟨g1, g2, g3, g4, g5, g6, g7⟩ := g
    have := sum_ge (x := s.1 + s.2.1.length) g7 (by omega) g3
    rw [sg_cons]
    unfold gr
    omega
theorem bk_good {L : Int} : ∀ {ss : List Spt} {fr sh : Int}, Good L fr ss → 0 ≤ fr + sh → Good (L + sh + sg ss) (fr + sh) (bk sh ss)
  | [], _, _, _, _ => trivial
  | s :: r, fr, sh, g, h => by
    obtain ⟨g1, g2, g3, g4, g5, g6, g7⟩ := g
    have ih := bk_good (sh := sh + s.2.2.length - s.2.1.length) g7 (by omega)
    have hs := sum_ge (x := s.1 + s.2.1.length) g7 (by omega) g3
    rw [sg_cons]
    have e : L + sh + (gr s + sg r) = L + (sh + s.2.2.length - s.2.1.length) + sg r := by unfold gr; omega
    refine ⟨by show fr + sh ≤ s.1 + sh; omega, by show 0 ≤ s.1 + sh; omega, by show s.1 + sh + (s.2.2.length : Int) ≤ _; unfold gr; omega, g5, g4, g6.symm, ?_⟩
    rw [e]
    have e2 : s.1 + sh + (s.2.2.length : Int) + 1 = s.1 + s.2.1.length + 1 + (sh + s.2.2.length - s.2.1.length) := by omega
    show Good _ (s.1 + sh + (s.2.2.length : Int) + 1) _
    rw [e2]
    exact ih
theorem bk_plc : ∀ (ss : List Spt) (sh : Int), plc sh ss = (bk sh ss).map fun s => (s.1, en s)
  | [], _ => rfl
  | s :: r, sh => by
    show _ :: plc _ r = _ :: (bk _ r).map _
    rw [bk_plc r]
    rfl
theorem app_len {row : List Int} {ss : List Spt} (g : Good row.length 0 ss) : ((app row 0 ss).length : Int) = row.length + sg ss := by
  have hm := g.mem
  have h := app_split (m := row) (l := ss) (r := []) (d := 0) (b := row.length) (fun s hs => hm s hs) (fun s hs => by cases hs) (Nat.zero_le _)
  have h2 := fil_len (m := row) (d := 0) (b := row.length) g (Int.le_refl _) (fun s hs => (hm s hs).2) (Nat.zero_le _) (Nat.le_refl _)
  rw [List.append_nil] at h
  rw [h, List.length_append]
  have : (app row row.length []).length = 0 := by
    show (row.drop row.length).length = 0
    rw [List.drop_length]
    rfl
  omega
theorem good_up {L : Int} : ∀ {ss : List Spt} {fr : Int}, Good L fr ss → (ss.Pairwise fun a b => en a < b.1) ∧ ∀ s ∈ ss, fr ≤ s.1
  | [], _, _ => ⟨.nil, fun _ h => by cases h⟩
  | s :: r, fr, g => by
    obtain ⟨g1, g2, g3, g4, g5, g6, g7⟩ := g
    obtain ⟨h1, h2⟩ := good_up g7
    refine ⟨List.pairwise_cons.mpr ⟨fun x hx => ?_, h1⟩, fun x hx => ?_⟩
    · have := h2 x hx
      unfold en
      omega
    · rcases List.mem_cons.mp hx with rfl | hx
      · exact g1
      · have := h2 x hx
        omega
theorem en_ge (s : Spt) : s.1 ≤ en s := by
  unfold en
  omega
theorem fil_none {α : Type} {l : List α} {p : α → Bool} (h : ∀ x ∈ l, p x = false) : l.filter p = [] := List.filter_eq_nil_iff.mpr fun x hx => by rw [h x hx]; exact Bool.false_ne_true
theorem home_sum0 {L : Int} : ∀ {ss : List Spt} {fr sh b : Int}, Good L fr ss → (∀ s ∈ bk sh ss, en s < b ∨ b ≤ s.1) → home sh ss b 0 = b - sh + sg ((bk sh ss).filter fun s => decide (s.1 < b))
  | [], fr, sh, b, _, _ => by
    show b - sh = b - sh + 0
    omega
  | s :: r, fr, sh, b, g, h => by
    obtain ⟨g1, g2, g3, g4, g5, g6, g7⟩ := g
    have low : ∀ x ∈ bk (sh + s.2.2.length - s.2.1.length) r, s.1 + sh + s.2.2.length < x.1 := fun x hx => by
      have hp := plc_low (sh := sh + s.2.2.length - s.2.1.length) g7 (x.1, en x) (by rw [bk_plc]; exact List.mem_map.mpr ⟨x, hx, rfl⟩)
      have hp : s.1 + s.2.1.length + 1 + (sh + s.2.2.length - s.2.1.length) ≤ x.1 := hp.1
      omega
    have h0 : s.1 + sh + (s.2.2.length : Int) < b ∨ b ≤ s.1 + sh := h _ (.head _)
    show (if b < s.1 + sh then b - sh else if b ≤ s.1 + sh + s.2.2.length then s.1 + s.2.1.length * 0 else home (sh + s.2.2.length - s.2.1.length) r b 0) = b - sh + sg (((s.1 + sh, s.2.2, s.2.1) :: bk _ r).filter fun s => decide (s.1 < b))
    rcases h0 with h0 | h0
    · rw [if_neg (by omega), if_neg (by omega), home_sum0 g7 fun x hx => h x (.tail _ hx), List.filter_cons_of_pos (by exact decide_eq_true (show s.1 + sh < b by omega)), sg_cons]
      show _ = b - sh + (((s.2.1.length : Int) - s.2.2.length) + _)
      omega
    · rw [fil_none fun x hx => ?_]
      · show _ = b - sh + 0
        split
        · omega
        · rw [if_pos (by omega)]
          omega
      · refine decide_eq_false ?_
        rcases List.mem_cons.mp hx with rfl | hx
        · show ¬ s.1 + sh < b
          omega
        · have := low x hx
          omega
theorem home_sum1 {L : Int} : ∀ {ss : List Spt} {fr sh e : Int}, Good L fr ss → (∀ s ∈ bk sh ss, en s ≤ e ∨ e < s.1) → home sh ss e 1 = e - sh + sg ((bk sh ss).filter fun s => decide (s.1 ≤ e))
  | [], fr, sh, e, _, _ => by
    show e - sh = e - sh + 0
    omega
  | s :: r, fr, sh, e, g, h => by
    obtain ⟨g1, g2, g3, g4, g5, g6, g7⟩ := g
    have low : ∀ x ∈ bk (sh + s.2.2.length - s.2.1.length) r, s.1 + sh + s.2.2.length < x.1 := fun x hx => by
      have hp := plc_low (sh := sh + s.2.2.length - s.2.1.length) g7 (x.1, en x) (by rw [bk_plc]; exact List.mem_map.mpr ⟨x, hx, rfl⟩)
      have hp : s.1 + s.2.1.length + 1 + (sh + s.2.2.length - s.2.1.length) ≤ x.1 := hp.1
      omega
    have h0 : s.1 + sh + (s.2.2.length : Int) ≤ e ∨ e < s.1 + sh := h _ (.head _)
    show (if e < s.1 + sh then e - sh else if e ≤ s.1 + sh + s.2.2.length then s.1 + s.2.1.length * 1 else home (sh + s.2.2.length - s.2.1.length) r e 1) = e - sh + sg (((s.1 + sh, s.2.2, s.2.1) :: bk _ r).filter fun s => decide (s.1 ≤ e))
    rcases h0 with h0 | h0
    · rw [if_neg (by omega), List.filter_cons_of_pos (by exact decide_eq_true (show s.1 + sh ≤ e by omega)), sg_cons]
      by_cases z : e ≤ s.1 + sh + s.2.2.length
      · rw [if_pos z, fil_none fun x hx => ?_]
        · show _ = e - sh + (((s.2.1.length : Int) - s.2.2.length) + 0)
          omega
        · have := low x hx
          exact decide_eq_false (by omega)
      · rw [if_neg z, home_sum1 g7 fun x hx => h x (.tail _ hx)]
        show _ = e - sh + (((s.2.1.length : Int) - s.2.2.length) + _)
        omega
    · rw [if_pos h0, fil_none fun x hx => ?_]
      · show _ = e - sh + 0
        omega
      · refine decide_eq_false ?_
        rcases List.mem_cons.mp hx with rfl | hx
        · show ¬ s.1 + sh ≤ e
          omega
        · have := low x hx
          omega
theorem parts : ∀ {l : List Spt}, (l.Pairwise fun a b => en a < b.1) → ∀ {b e : Int}, b ≤ e → l = l.filter (fun s => decide (s.1 < b)) ++ (l.filter (fun s => decide (b ≤ s.1) && decide (s.1 ≤ e)) ++ l.filter (fun s => decide (e < s.1)))
  | [], _, b, e, _ => rfl
  | s :: r, h, b, e, hbe => by
    obtain ⟨h1, h2⟩ := List.pairwise_cons.mp h
    have ih := parts h2 hbe
    have low : ∀ x ∈ r, s.1 < x.1 := fun x hx => by
      have := h1 x hx
      have := en_ge s
      omega
    by_cases z : s.1 < b
    · rw [List.filter_cons_of_pos (by exact decide_eq_true z), List.filter_cons_of_neg (by rw [decide_eq_false (show ¬ b ≤ s.1 by omega)]; exact Bool.false_ne_true), List.filter_cons_of_neg (by rw [decide_eq_false (show ¬ e < s.1 by omega)]; exact Bool.false_ne_true), List.cons_append, ← ih]
    · have n1 : r.filter (fun s => decide (s.1 < b)) = [] := fil_none fun x hx => decide_eq_false (by have := low x hx; omega)
      rw [n1, List.nil_append] at ih
      rw [List.filter_cons_of_neg (by rw [decide_eq_false z]; exact Bool.false_ne_true), n1, List.nil_append]
      by_cases y : s.1 ≤ e
      · rw [List.filter_cons_of_pos (by rw [decide_eq_true y, decide_eq_true (show b ≤ s.1 by omega)]; rfl), List.filter_cons_of_neg (by rw [decide_eq_false (show ¬ e < s.1 by omega)]; exact Bool.false_ne_true), List.cons_append, ← ih]
      · have n2 : r.filter (fun s => decide (b ≤ s.1) && decide (s.1 ≤ e)) = [] := fil_none fun x hx => by
          have := low x hx
          rw [decide_eq_false (show ¬ x.1 ≤ e by omega), Bool.and_false]
        rw [n2, List.nil_append] at ih
        rw [List.filter_cons_of_neg (by rw [decide_eq_false y, Bool.and_false]; exact Bool.false_ne_true), n2, List.nil_append, List.filter_cons_of_pos (by exact decide_eq_true (show e < s.1 by omega)), ← ih]
theorem sg_le (l : List Spt) {b e : Int} (h : b ≤ e) : sg (l.filter fun s => decide (s.1 ≤ e)) = sg (l.filter fun s => decide (s.1 < b)) + sg (l.filter fun s => decide (b ≤ s.1) && decide (s.1 ≤ e)) := by
  induction l with
  | nil => rfl
  | cons s r ih =>
    by_cases z : s.1 < b
    · rw [List.filter_cons_of_pos (by exact decide_eq_true (show s.1 ≤ e by omega)), List.filter_cons_of_pos (by exact decide_eq_true z), List.filter_cons_of_neg (by rw [decide_eq_false (show ¬ b ≤ s.1 by omega)]; exact Bool.false_ne_true), sg_cons, sg_cons, ih]
      omega
    · by_cases y : s.1 ≤ e
      · rw [List.filter_cons_of_pos (by exact decide_eq_true y), List.filter_cons_of_neg (by rw [decide_eq_false z]; exact Bool.false_ne_true), List.filter_cons_of_pos (by rw [decide_eq_true y, decide_eq_true (show b ≤ s.1 by omega)]; rfl), sg_cons, sg_cons, ih]
        omega
      · rw [List.filter_cons_of_neg (by rw [decide_eq_false y]; exact Bool.false_ne_true), List.filter_cons_of_neg (by rw [decide_eq_false z]; exact Bool.false_ne_true), List.filter_cons_of_neg (by rw [decide_eq_false y, Bool.and_false]; exact Bool.false_ne_true), ih]
def I3 (ss tt : List Spt) : List (Int × Int × Int) := (bk 0 ss).map (fun s => (s.1, en s, -gr s)) ++ tt.map (fun s => (s.1, en s, gr s))
def ph3 (ss : List Spt) (x : Int × Int × Int) : Int × Int × Int := (home 0 ss x.1 0, home 0 ss x.2.1 1, x.2.2)
def J3 (ss tt : List Spt) : List (Int × Int × Int) := (I3 ss tt).map (ph3 ss)
structure Two (w ss tt) where
  g1 : Good (List.length w) 0 ss
  f1 : Fits w ss
  g2 : Good (app w 0 ss).length 0 tt
  f2 : Fits (app w 0 ss) tt
theorem Two.bg {w : List Int} {ss tt : List Spt} (h : Two w ss tt) : Good (app w 0 ss).length 0 (bk 0 ss) := by
  have := bk_good (sh := 0) h.g1 (by omega)
  rw [app_len h.g1]
  rw [show (w.length : Int) + 0 + sg ss = w.length + sg ss by omega] at this
  exact this
theorem mem_I3 {ss tt : List Spt} {x : Int × Int × Int} : x ∈ I3 ss tt ↔ (∃ s ∈ bk 0 ss, x = (s.1, en s, -gr s)) ∨ ∃ s ∈ tt, x = (s.1, en s, gr s) := by
  unfold I3
  rw [List.mem_append, List.mem_map, List.mem_map]
  constructor
  · rintro (⟨s, h, rfl⟩ | ⟨s, h, rfl⟩)
    · exact .inl ⟨s, h, rfl⟩
    · exact .inr ⟨s, h, rfl⟩
  · rintro (⟨s, h, rfl⟩ | ⟨s, h, rfl⟩)
    · exact .inl ⟨s, h, rfl⟩
    · exact .inr ⟨s, h, rfl⟩
theorem I3_le {ss tt : List Spt} : ∀ x ∈ I3 ss tt, x.1 ≤ x.2.1 := fun x hx => by
  rcases mem_I3.mp hx with ⟨s, _, rfl⟩ | ⟨s, _, rfl⟩ <;> exact en_ge s
section
variable {w : List Int} {ss tt : List Spt} {out : List Iv}
theorem Two.tri (hc : Cl ((I3 ss tt).map iv) out) {c : Iv} (hcm : c ∈ out) {x : Int × Int × Int} (hx : x ∈ I3 ss tt) : x.2.1 < c.1 ∨ (c.1 ≤ x.1 ∧ x.2.1 ≤ c.2) ∨ c.2 < x.1 := by
  obtain ⟨d, hd, q1, q2⟩ := hc.cov (iv x) (List.mem_map.mpr ⟨x, hx, rfl⟩)
  have q1 : d.1 ≤ x.1 := q1
  have q2 : x.2.1 ≤ d.2 := q2
  rcases sepI hc.up hd hcm with z | z | z
  · rw [z] at q1 q2
    exact .inr (.inl ⟨q1, q2⟩)
  · exact .inl (by omega)
  · exact .inr (.inr (by omega))
theorem Two.triB (hc : Cl ((I3 ss tt).map iv) out) {c : Iv} (hcm : c ∈ out) {s : Spt} (hs : s ∈ bk 0 ss) : en s < c.1 ∨ (c.1 ≤ s.1 ∧ en s ≤ c.2) ∨ c.2 < s.1 := Two.tri hc hcm (x := (s.1, en s, -gr s)) (mem_I3.mpr (.inl ⟨s, hs, rfl⟩))
theorem Two.triT (hc : Cl ((I3 ss tt).map iv) out) {c : Iv} (hcm : c ∈ out) {s : Spt} (hs : s ∈ tt) : en s < c.1 ∨ (c.1 ≤ s.1 ∧ en s ≤ c.2) ∨ c.2 < s.1 := Two.tri hc hcm (x := (s.1, en s, gr s)) (mem_I3.mpr (.inr ⟨s, hs, rfl⟩))
theorem Two.bnd (h : Two w ss tt) (hc : Cl ((I3 ss tt).map iv) out) {c : Iv} (hcm : c ∈ out) : 0 ≤ c.1 ∧ c.1 ≤ c.2 ∧ c.2 ≤ (app w 0 ss).length := by
  have low : ∀ x ∈ I3 ss tt, 0 ≤ x.1 ∧ x.2.1 ≤ (app w 0 ss).length := fun x hx => by
    rcases mem_I3.mp hx with ⟨s, hs, rfl⟩ | ⟨s, hs, rfl⟩
    · exact h.bg.mem s hs
    · exact h.g2.mem s hs
  obtain ⟨x, hx, q⟩ := hc.lo c hcm
  obtain ⟨y, hy, p⟩ := hc.hi c hcm
  obtain ⟨x, hx', rfl⟩ := List.mem_map.mp hx
  obtain ⟨y, hy', rfl⟩ := List.mem_map.mp hy
  have q : x.1 = c.1 := q
  have p : y.2.1 = c.2 := p
  have := low x hx'
  have := low y hy'
  have := hc.ok c hcm
  omega
def K1 (l : List Spt) (c : Iv) : List Spt := l.filter fun s => decide (s.1 < c.1)
def K2 (l : List Spt) (c : Iv) : List Spt := l.filter fun s => decide (c.1 ≤ s.1) && decide (s.1 ≤ c.2)
theorem Two.homes (h : Two w ss tt) (hc : Cl ((I3 ss tt).map iv) out) {c : Iv} (hcm : c ∈ out) : home 0 ss c.1 0 = c.1 + sg (K1 (bk 0 ss) c) ∧ home 0 ss c.2 1 = c.2 + sg (K1 (bk 0 ss) c) + sg (K2 (bk 0 ss) c) := by
  have hb := h.bnd hc hcm
  constructor
  · rw [home_sum0 h.g1 fun s hs => by
      rcases Two.triB hc hcm hs with z | z | z
      · exact .inl z
      · exact .inr z.1
      · exact .inr (by omega)]
    show c.1 - 0 + sg (K1 _ c) = _
    omega
  · rw [home_sum1 h.g1 fun s hs => by
      rcases Two.triB hc hcm hs with z | z | z
      · exact .inl (by omega)
      · exact .inl z.2
      · exact .inr z, sg_le _ hb.2.1]
    show c.2 - 0 + (sg (K1 _ c) + sg (K2 _ c)) = _
    omega
theorem piece {m : List Int} {l : List Spt} (g : Good m.length 0 l) {c : Iv} (hb : 0 ≤ c.1 ∧ c.1 ≤ c.2 ∧ c.2 ≤ m.length) (tri : ∀ s ∈ l, en s < c.1 ∨ (c.1 ≤ s.1 ∧ en s ≤ c.2) ∨ c.2 < s.1) :
    mid (app m 0 l) (c.1 + sg (K1 l c)).toNat (c.2 + sg (K1 l c) + sg (K2 l c)).toNat = fil m c.1.toNat c.2.toNat (K2 l c) ∧ ((fil m c.1.toNat c.2.toNat (K2 l c)).length : Int) = c.2 - c.1 + sg (K2 l c) := by
  have e := parts (good_up g).1 hb.2.1 (l := l)
  have mem1 : ∀ s ∈ K1 l c, s ∈ l ∧ s.1 < c.1 := fun s hs => by
    obtain ⟨a, b⟩ := List.mem_filter.mp hs
    exact ⟨a, of_decide_eq_true b⟩
  have mem2 : ∀ s ∈ K2 l c, s ∈ l ∧ c.1 ≤ s.1 ∧ s.1 ≤ c.2 := fun s hs => by
    obtain ⟨a, b⟩ := List.mem_filter.mp hs
    rw [Bool.and_eq_true, decide_eq_true_eq, decide_eq_true_eq] at b
    exact ⟨a, b⟩
  have mem3 : ∀ s ∈ l.filter (fun s => decide (c.2 < s.1)), c.2 < s.1 := fun s hs => of_decide_eq_true (List.mem_filter.mp hs).2
  have g' : Good m.length 0 (K1 l c ++ (K2 l c ++ l.filter fun s => decide (c.2 < s.1))) := by
    unfold K1 K2
    rw [← e]
    exact g
  obtain ⟨p, z, q1, q2, q3⟩ := app_piece (b := c.1.toNat) (e := c.2.toNat) g' (fun s hs => by
    obtain ⟨a, b⟩ := mem1 s hs
    have := en_ge s
    rcases tri s a with q | q | q <;> omega) (fun s hs => by
    obtain ⟨a, b⟩ := mem2 s hs
    have := en_ge s
    rcases tri s a with q | q | q <;> omega) (fun s hs => by
    have := mem3 s hs
    omega) (by omega) (by omega)
  have e2 : app m 0 l = p ++ fil m c.1.toNat c.2.toNat (K2 l c) ++ z := by
    rw [← q1]
    unfold K1 K2
    rw [← e]
  rw [e2]
  exact ⟨piece_mid (by omega) (by omega), by omega⟩
theorem Two.old (h : Two w ss tt) (hc : Cl ((I3 ss tt).map iv) out) {c : Iv} (hcm : c ∈ out) : mid w (home 0 ss c.1 0).toNat (home 0 ss c.2 1).toNat = fil (app w 0 ss) c.1.toNat c.2.toNat (K2 (bk 0 ss) c) := by
  obtain ⟨e1, e2⟩ := h.homes hc hcm
  have := (piece h.bg (h.bnd hc hcm) (fun s hs => Two.triB hc hcm hs)).1
  rw [back_app h.g1 h.f1] at this
  rw [e1, e2]
  exact this
theorem Two.new (h : Two w ss tt) (hc : Cl ((I3 ss tt).map iv) out) {c : Iv} (hcm : c ∈ out) : mid (app (app w 0 ss) 0 tt) (c.1 + sg (K1 tt c)).toNat (c.2 + sg (K1 tt c) + sg (K2 tt c)).toNat = fil (app w 0 ss) c.1.toNat c.2.toNat (K2 tt c) :=
  (piece h.g2 (h.bnd hc hcm) (fun s hs => Two.triT hc hcm hs)).1
theorem Two.apart (h : Two w ss tt) (hc : Cl ((I3 ss tt).map iv) out) {c : Iv} (hcm : c ∈ out) {y : Int} (hy : c.2 < y) : home 0 ss c.2 1 < home 0 ss y 0 := by
  refine home_gap h.g1 hy fun p hp => ?_
  rw [bk_plc] at hp
  obtain ⟨s, hs, rfl⟩ := List.mem_map.mp hp
  show en s ≤ c.2 ∨ c.2 < s.1
  have := h.bnd hc hcm
  rcases Two.triB hc hcm hs with q | q | q
  · exact .inl (by omega)
  · exact .inl q.2
  · exact .inr q
theorem Two.less (h : Two w ss tt) (hc : Cl ((I3 ss tt).map iv) out) {c : Iv} (hcm : c ∈ out) {x : Int × Int × Int} (hx : x ∈ I3 ss tt) : (home 0 ss x.1 0 < home 0 ss c.1 0 ↔ x.1 < c.1) ∧ ((home 0 ss c.1 0 ≤ home 0 ss x.1 0 ∧ home 0 ss x.1 0 ≤ home 0 ss c.2 1) ↔ (c.1 ≤ x.1 ∧ x.1 ≤ c.2)) := by
  have mono : ∀ x y v w : Int, (v = 0 ∨ v = 1) → (w = 0 ∨ w = 1) → v ≤ w → x ≤ y → home 0 ss x v ≤ home 0 ss y w := fun x y v w a b c d => home_mono h.g1 a b c d
  have low : x.1 < c.1 → home 0 ss x.1 0 < home 0 ss c.1 0 := fun z => by
    obtain ⟨d, hd, q1, q2⟩ := hc.cov (iv x) (List.mem_map.mpr ⟨x, hx, rfl⟩)
    have q1 : d.1 ≤ x.1 := q1
    have q2 : x.2.1 ≤ d.2 := q2
    have hx1 := I3_le x hx
    have hlt : d.2 < c.1 := by
      have := hc.ok c hcm
      rcases sepI hc.up hd hcm with y | y | y
      · rw [y] at q1
        omega
      · exact y
      · omega
    have := h.apart hc hd hlt
    have := mono x.1 d.2 0 1 (.inl rfl) (.inr rfl) (by decide) (by omega)
    omega
  have up : c.1 ≤ x.1 → home 0 ss c.1 0 ≤ home 0 ss x.1 0 := fun z => mono _ _ _ _ (.inl rfl) (.inl rfl) (by decide) z
  refine ⟨⟨fun z => Classical.byContradiction fun y => ?_, low⟩, fun z => ⟨Classical.byContradiction fun y => ?_, Classical.byContradiction fun y => ?_⟩, fun z => ⟨up z.1, mono _ _ _ _ (.inl rfl) (.inr rfl) (by decide) z.2⟩⟩
  · have := up (by omega)
    omega
  · have := low (by omega)
    omega
  · have := h.apart hc hcm (show c.2 < x.1 by omega)
    omega
theorem sm_app (a b : List (Int × Int × Int)) (p : Int × Int × Int → Bool) : sm (a ++ b) p = sm a p + sm b p := by
  unfold sm
  rw [List.filter_append, List.map_append, List.sum_append]
theorem sm_map {α : Type} (f : α → Int × Int × Int) (p : Int × Int × Int → Bool) : ∀ l : List α, sm (l.map f) p = ((l.filter fun a => p (f a)).map fun a => (f a).2.2).sum
  | [] => rfl
  | a :: l => by
    rw [List.map_cons, sm_cons, sm_map f p l]
    cases h : p (f a) with
    | true => rw [List.filter_cons_of_pos (p := fun a => p (f a)) h, List.map_cons, List.sum_cons, if_pos rfl]
    | false => rw [List.filter_cons_of_neg (p := fun a => p (f a)) (by rw [h]; exact Bool.false_ne_true), if_neg Bool.false_ne_true, Int.zero_add]
theorem sm_perm {a b : List (Int × Int × Int)} (h : a.Perm b) (p : Int × Int × Int → Bool) : sm a p = sm b p := by
  induction h with
  | nil => rfl
  | cons x _ ih => rw [sm_cons, sm_cons, ih]
  | swap x y l => rw [sm_cons, sm_cons, sm_cons, sm_cons]; omega
  | trans _ _ i1 i2 => rw [i1, i2]
theorem neg_sum (l : List Spt) : (l.map fun s => -gr s).sum = -sg l := by
  induction l with
  | nil => rfl
  | cons s r ih =>
    rw [List.map_cons, List.sum_cons, ih, sg_cons]
    omega
theorem sm_I3 (p : Int → Bool) : sm (I3 ss tt) (fun x => p x.1) = -sg ((bk 0 ss).filter fun s => p s.1) + sg (tt.filter fun s => p s.1) := by
  unfold I3
  rw [sm_app, sm_map, sm_map]
  show ((List.filter (fun a : Spt => p a.1) (bk 0 ss)).map fun s => -gr s).sum + ((List.filter (fun a : Spt => p a.1) tt).map gr).sum = _
  rw [neg_sum]
  rfl
theorem sm_J3 (p : Int → Bool) : sm (J3 ss tt) (fun x => p x.1) = sm (I3 ss tt) (fun x => p (home 0 ss x.1 0)) := by
  unfold J3
  rw [sm_map]
  rfl
theorem Cl.of_mem {I I' out : List Iv} (h : Cl I out) (e : ∀ x, x ∈ I ↔ x ∈ I') : Cl I' out :=
  ⟨h.ok, h.up, fun x hx => h.cov x ((e x).mpr hx), fun c hc => by obtain ⟨x, hx, q⟩ := h.lo c hc; exact ⟨x, (e x).mp hx, q⟩, fun c hc => by obtain ⟨x, hx, q⟩ := h.hi c hc; exact ⟨x, (e x).mp hx, q⟩, fun c hc t a b => by obtain ⟨x, hx, q⟩ := h.no c hc t a b; exact ⟨x, (e x).mp hx, q⟩⟩
theorem Two.chain (h : Two w ss tt) (hc : Cl ((I3 ss tt).map iv) out) {J out3 : List (Int × Int × Int)} (hJ : J.Perm (J3 ss tt)) (hm : Mg J out3) :
    out3.map iv = out.map (phi ss) ∧ ∀ (k : Nat) (c : Iv) (c3 : Int × Int × Int), out[k]? = some c → out3[k]? = some c3 →
      c3.1 = home 0 ss c.1 0 ∧ c3.2.1 = home 0 ss c.2 1 ∧ ((out3.take k).map fun x => x.2.2).sum = -sg (K1 (bk 0 ss) c) + sg (K1 tt c) ∧ c3.2.2 = -sg (K2 (bk 0 ss) c) + sg (K2 tt c) := by
  have hp : ∀ p ∈ plc 0 ss, p ∈ (I3 ss tt).map iv := fun p hp => by
    rw [bk_plc] at hp
    obtain ⟨s, hs, rfl⟩ := List.mem_map.mp hp
    exact List.mem_map.mpr ⟨_, mem_I3.mpr (.inl ⟨s, hs, rfl⟩), rfl⟩
  have hI : ∀ x ∈ (I3 ss tt).map iv, x.1 ≤ x.2 := fun x hx => by
    obtain ⟨y, hy, rfl⟩ := List.mem_map.mp hx
    exact I3_le y hy
  have c1 := hc.img h.g1 hI hp
  have c2 : Cl (J.map iv) (out.map (phi ss)) := c1.of_mem fun x => by
    have e : ((I3 ss tt).map iv).map (phi ss) = (J3 ss tt).map iv := by
      unfold J3
      rw [List.map_map, List.map_map]
      rfl
    rw [e]
    exact ((hJ.map iv).mem_iff).symm
  have hJ' : ∀ x ∈ J.map iv, x.1 ≤ x.2 := fun x hx => by
    obtain ⟨y, hy, rfl⟩ := List.mem_map.mp hx
    obtain ⟨z, hz, rfl⟩ := List.mem_map.mp (hJ.mem_iff.mp hy)
    exact home_mono h.g1 (.inl rfl) (.inr rfl) (by decide) (I3_le z hz)
  have e := Cl.one hJ' hm.cl c2
  refine ⟨e, fun k c c3 hk hk3 => ?_⟩
  have ek : some (iv c3) = some (phi ss c) := by
    have a : (out3.map iv)[k]? = some (iv c3) := by rw [List.getElem?_map, hk3]; rfl
    have b : (out.map (phi ss))[k]? = some (phi ss c) := by rw [List.getElem?_map, hk]; rfl
    rw [← a, ← b, e]
  have ek := Option.some.inj ek
  have e1 : c3.1 = home 0 ss c.1 0 := congrArg Prod.fst ek
  have e2 : c3.2.1 = home 0 ss c.2 1 := congrArg Prod.snd ek
  have hcm := List.mem_of_getElem? hk
  obtain ⟨s1, s2⟩ := hm.sum k c3 hk3
  refine ⟨e1, e2, ?_, ?_⟩
  · rw [s1, sm_perm hJ, sm_J3 (fun v => decide (v < c3.1)), sm_congr (q := fun x => decide (x.1 < c.1)) fun x hx => by
      rw [e1, decide_eq_decide]
      exact (h.less hc hcm hx).1]
    exact sm_I3 fun v => decide (v < c.1)
  · rw [s2, sm_perm hJ, sm_J3 (fun v => decide (c3.1 ≤ v) && decide (v ≤ c3.2.1)), sm_congr (q := fun x => decide (c.1 ≤ x.1) && decide (x.1 ≤ c.2)) fun x hx => by
      have := (h.less hc hcm hx).2
      rw [e1, e2, Bool.eq_iff_iff, Bool.and_eq_true, Bool.and_eq_true, decide_eq_true_eq, decide_eq_true_eq, decide_eq_true_eq, decide_eq_true_eq]
      exact this]
    exact sm_I3 fun v => decide (c.1 ≤ v) && decide (v ≤ c.2)
def spP (w : List Int) (ss tt : List Spt) (c : Iv) : Spt := (c.1 + sg (K1 (bk 0 ss) c), fil (app w 0 ss) c.1.toNat c.2.toNat (K2 (bk 0 ss) c), fil (app w 0 ss) c.1.toNat c.2.toNat (K2 tt c))
def spL (w last : List Int) (out3 : List (Int × Int × Int)) (k : Nat) : Spt := match out3[k]? with
  | some c => (c.1, mid w c.1.toNat c.2.1.toNat, mid last (c.1 + ((out3.take k).map fun x => x.2.2).sum).toNat (c.2.1 + ((out3.take k).map fun x => x.2.2).sum + c.2.2).toNat)
  | none => (0, [], [])
theorem Two.same (h : Two w ss tt) (hc : Cl ((I3 ss tt).map iv) out) {J out3 : List (Int × Int × Int)} (hJ : J.Perm (J3 ss tt)) (hm : Mg J out3) :
    (List.range out3.length).map (spL w (app (app w 0 ss) 0 tt) out3) = out.map (spP w ss tt) := by
  obtain ⟨e, hk⟩ := h.chain hc hJ hm
  have hl : out3.length = out.length := by
    have := congrArg List.length e
    rwa [List.length_map, List.length_map] at this
  apply List.ext_getElem?
  intro k
  rw [List.getElem?_map, List.getElem?_map]
  by_cases hlt : k < out.length
  · obtain ⟨c, h1⟩ : ∃ c, out[k]? = some c := ⟨_, List.getElem?_eq_getElem hlt⟩
    obtain ⟨c3, h3⟩ : ∃ c, out3[k]? = some c := ⟨_, List.getElem?_eq_getElem (by omega)⟩
    obtain ⟨e1, e2, e3, e4⟩ := hk k c c3 h1 h3
    have hcm := List.mem_of_getElem? h1
    obtain ⟨m1, m2⟩ := h.homes hc hcm
    rw [h1, List.getElem?_range (by omega)]
    show some (spL w _ out3 k) = some (spP w ss tt c)
    congr 1
    unfold spL spP
    rw [h3]
    show (c3.1, mid w c3.1.toNat c3.2.1.toNat, mid _ (c3.1 + _).toNat (c3.2.1 + _ + c3.2.2).toNat) = _
    rw [e3, e4, e1, e2, h.old hc hcm, ← h.new hc hcm, m1, m2]
    rw [show c.1 + sg (K1 (bk 0 ss) c) + (-sg (K1 (bk 0 ss) c) + sg (K1 tt c)) = c.1 + sg (K1 tt c) by omega, show c.2 + sg (K1 (bk 0 ss) c) + sg (K2 (bk 0 ss) c) + (-sg (K1 (bk 0 ss) c) + sg (K1 tt c)) + (-sg (K2 (bk 0 ss) c) + sg (K2 tt c)) = c.2 + sg (K1 tt c) + sg (K2 tt c) by omega]
  · rw [List.getElem?_eq_none (by rw [List.length_range]; omega), List.getElem?_eq_none (by omega)]
    rfl
def ne (s : Spt) : Bool := !(s.2.1.isEmpty && s.2.2.isEmpty)
theorem app_ne {m : List Int} : ∀ {l : List Spt} {d : Nat}, (l.Pairwise fun a b => en a ≤ b.1) → (∀ s ∈ l, (d : Int) ≤ s.1) → app m d (l.filter ne) = app m d l
  | [], _, _, _ => rfl
  | s :: r, d, h, hd => by
    obtain ⟨h1, h2⟩ := List.pairwise_cons.mp h
    have hs := hd s (.head _)
    have he : en s = s.1 + s.2.1.length := rfl
    cases hn : ne s with
    | true =>
      rw [List.filter_cons_of_pos hn]
      show mid m d s.1.toNat ++ s.2.2 ++ app m (s.1.toNat + s.2.1.length) (r.filter ne) = mid m d s.1.toNat ++ s.2.2 ++ app m (s.1.toNat + s.2.1.length) r
      rw [app_ne h2 fun x hx => by have := h1 x hx; omega]
    | false =>
      rw [List.filter_cons_of_neg (by rw [hn]; exact Bool.false_ne_true), app_ne h2 fun x hx => by have := h1 x hx; omega]
      have hn : (s.2.1.isEmpty && s.2.2.isEmpty) = true := by
        unfold ne at hn
        simpa using hn
      rw [Bool.and_eq_true, List.isEmpty_iff, List.isEmpty_iff] at hn
      have e1 : s.2.1.length = 0 := by rw [hn.1]; rfl
      have := app_split (m := m) (l := []) (r := r) (d := d) (b := s.1.toNat) (fun x hx => by cases hx) (fun x hx => by have := h1 x hx; omega) (by omega)
      show app m d r = mid m d s.1.toNat ++ s.2.2 ++ app m (s.1.toNat + s.2.1.length) r
      rw [hn.2, e1, Nat.add_zero, List.append_nil]
      exact this
theorem fil_lead {m : List Int} {l : List Spt} {x b e : Nat} (h : x ≤ b) (hbe : b ≤ e) (hl : ∀ s ∈ l, (b : Int) ≤ s.1) : fil m x e l = mid m x b ++ fil m b e l := by
  cases l with
  | nil =>
    show mid m x e = mid m x b ++ mid m b e
    exact mid_join m h hbe
  | cons s r =>
    have := hl s (.head _)
    show mid m x s.1.toNat ++ s.2.2 ++ fil m _ e r = mid m x b ++ (mid m b s.1.toNat ++ s.2.2 ++ fil m _ e r)
    rw [mid_join m h (show b ≤ s.1.toNat by omega)]
    simp only [List.append_assoc]
theorem Two.pos (h : Two w ss tt) (hc : Cl ((I3 ss tt).map iv) out) {c : Iv} (hcm : c ∈ out) : (spP w ss tt c).1 = home 0 ss c.1 0 ∧ en (spP w ss tt c) = home 0 ss c.2 1 := by
  obtain ⟨e1, e2⟩ := h.homes hc hcm
  have hl := (piece h.bg (h.bnd hc hcm) (fun s hs => Two.triB hc hcm hs)).2
  refine ⟨e1.symm, ?_⟩
  show c.1 + sg (K1 (bk 0 ss) c) + ((fil (app w 0 ss) c.1.toNat c.2.toNat (K2 (bk 0 ss) c)).length : Int) = _
  rw [hl, e2]
  omega
theorem step_filter {l : List Spt} (up : l.Pairwise fun a b => en a < b.1) {c : Iv} (hcc : c.1 ≤ c.2) {y : Int} (hy : y ≤ c.1) (hin : ∀ s ∈ l, y ≤ s.1 → c.1 ≤ s.1) :
    l.filter (fun s => decide (y ≤ s.1)) = K2 l c ++ l.filter (fun s => decide (c.2 + 1 ≤ s.1)) ∧ l.filter (fun s => decide (s.1 < y)) = K1 l c := by
  have e3 : l.filter (fun s => decide (c.2 + 1 ≤ s.1)) = l.filter (fun s => decide (c.2 < s.1)) := List.filter_congr fun s _ => by rw [decide_eq_decide]; omega
  constructor
  · have e := parts up hcc
    rw [e3]
    conv => lhs; rw [e]
    rw [List.filter_append, List.filter_append]
    have n1 : (l.filter fun s => decide (s.1 < c.1)).filter (fun s => decide (y ≤ s.1)) = [] := fil_none fun s hs => by
      obtain ⟨a, b⟩ := List.mem_filter.mp hs
      have b := of_decide_eq_true b
      refine decide_eq_false fun z => ?_
      have := hin s a z
      omega
    have n2 : (l.filter fun s => decide (c.1 ≤ s.1) && decide (s.1 ≤ c.2)).filter (fun s => decide (y ≤ s.1)) = K2 l c := List.filter_eq_self.mpr fun s hs => by
      obtain ⟨a, b⟩ := List.mem_filter.mp hs
      rw [Bool.and_eq_true, decide_eq_true_eq, decide_eq_true_eq] at b
      exact decide_eq_true (by omega)
    have n3 : (l.filter fun s => decide (c.2 < s.1)).filter (fun s => decide (y ≤ s.1)) = l.filter fun s => decide (c.2 < s.1) := List.filter_eq_self.mpr fun s hs => by
      have b := of_decide_eq_true (List.mem_filter.mp hs).2
      exact decide_eq_true (by omega)
    rw [n1, n2, n3, List.nil_append]
  · unfold K1
    refine List.filter_congr fun s hs => ?_
    rw [decide_eq_decide]
    constructor
    · intro z
      omega
    · intro z
      refine Classical.byContradiction fun q => ?_
      have := hin s hs (by omega)
      omega
theorem Two.go (h : Two w ss tt) (hc : Cl ((I3 ss tt).map iv) out) : ∀ (rest : List Iv) (y : Int) (x d : Nat), (rest.Pairwise fun a b => a.2 < b.1) → (∀ c ∈ rest, c ∈ out ∧ y ≤ c.1) → (∀ s, (s ∈ bk 0 ss ∨ s ∈ tt) → y ≤ s.1 → ∃ c ∈ rest, c.1 ≤ s.1 ∧ en s ≤ c.2) → (x : Int) ≤ y → (d : Int) = x + sg ((bk 0 ss).filter fun s => decide (s.1 < y)) → w.drop d = app (app w 0 ss) x ((bk 0 ss).filter fun s => decide (y ≤ s.1)) →
    app w d (rest.map (spP w ss tt)) = app (app w 0 ss) x (tt.filter fun s => decide (y ≤ s.1))
  | [], y, x, d, _, _, hin, _, _, hw => by
    have no : ∀ s, (s ∈ bk 0 ss ∨ s ∈ tt) → ¬ y ≤ s.1 := fun s hs z => by
      obtain ⟨c, hc, _⟩ := hin s hs z
      cases hc
    rw [fil_none fun s hs => decide_eq_false (no s (.inl hs))] at hw
    rw [fil_none fun s hs => decide_eq_false (no s (.inr hs))]
    exact hw
  | c :: r, y, x, d, up, hr, hin, hx, hd, hw => by
    obtain ⟨up1, up2⟩ := List.pairwise_cons.mp up
    obtain ⟨hcm, hyc⟩ := hr c (.head _)
    have hb := h.bnd hc hcm
    have low : ∀ s, (s ∈ bk 0 ss ∨ s ∈ tt) → y ≤ s.1 → c.1 ≤ s.1 := fun s hs z => by
      obtain ⟨e, he, q1, q2⟩ := hin s hs z
      rcases List.mem_cons.mp he with rfl | he
      · exact q1
      · have := up1 e he
        omega
    have upB := (good_up h.bg).1
    have upT := (good_up h.g2).1
    obtain ⟨b1, b2⟩ := step_filter upB hb.2.1 hyc (fun s hs z => low s (.inl hs) z)
    obtain ⟨t1, _⟩ := step_filter upT hb.2.1 hyc (fun s hs z => low s (.inr hs) z)
    have memK : ∀ (l : List Spt), (∀ s ∈ l, s ∈ bk 0 ss ∨ s ∈ tt) → ∀ s ∈ K2 l c, (c.1.toNat : Int) ≤ s.1 ∧ 0 ≤ s.1 ∧ en s ≤ (c.2.toNat : Nat) := fun l hl s hs => by
      obtain ⟨a, b⟩ := List.mem_filter.mp hs
      rw [Bool.and_eq_true, decide_eq_true_eq, decide_eq_true_eq] at b
      have tri : en s < c.1 ∨ (c.1 ≤ s.1 ∧ en s ≤ c.2) ∨ c.2 < s.1 := by
        rcases hl s a with q | q
        · exact Two.triB hc hcm q
        · exact Two.triT hc hcm q
      have := en_ge s
      omega
    have cutL : ∀ (l : List Spt), (∀ s ∈ l, s ∈ bk 0 ss ∨ s ∈ tt) → app (app w 0 ss) x (K2 l c ++ l.filter (fun s => decide (c.2 + 1 ≤ s.1))) = mid (app w 0 ss) x c.1.toNat ++ fil (app w 0 ss) c.1.toNat c.2.toNat (K2 l c) ++ app (app w 0 ss) c.2.toNat (l.filter (fun s => decide (c.2 + 1 ≤ s.1))) := fun l hl => by
      rw [app_split (b := c.2.toNat) (fun s hs => by have := memK l hl s hs; exact ⟨this.2.1, this.2.2⟩) (fun s hs => by
        have := of_decide_eq_true (List.mem_filter.mp hs).2
        omega) (by omega), fil_lead (b := c.1.toNat) (by omega) (by omega) fun s hs => (memK l hl s hs).1]
    have hlen := (piece h.bg hb (fun s hs => Two.triB hc hcm hs)).2
    have hmid : (mid (app w 0 ss) x c.1.toNat).length = c.1.toNat - x := mid_len _ (by omega)
    rw [b1, cutL _ fun s hs => .inl hs] at hw
    rw [t1, cutL _ fun s hs => .inr hs]
    have hp : (spP w ss tt c).1 = c.1 + ((d : Int) - x) := by
      show c.1 + sg (K1 (bk 0 ss) c) = _
      rw [hd, b2]
      omega
    have hp1 : (spP w ss tt c).1.toNat = d + (c.1.toNat - x) := by rw [hp]; omega
    have e1 : mid w d (spP w ss tt c).1.toNat = mid (app w 0 ss) x c.1.toNat := by
      unfold mid at hmid ⊢
      rw [hp1, show d + (c.1.toNat - x) - d = c.1.toNat - x by omega, hw, List.append_assoc]
      refine List.take_left' ?_
      exact hmid
    have e2 : w.drop ((spP w ss tt c).1.toNat + (spP w ss tt c).2.1.length) = app (app w 0 ss) c.2.toNat ((bk 0 ss).filter fun s => decide (c.2 + 1 ≤ s.1)) := by
      rw [hp1, Nat.add_assoc, ← List.drop_drop, hw]
      refine List.drop_left' ?_
      rw [List.length_append, hmid]
      rfl
    have ih := Two.go h hc r (c.2 + 1) c.2.toNat ((spP w ss tt c).1.toNat + (spP w ss tt c).2.1.length) up2 (fun e he => ⟨(hr e (.tail _ he)).1, by have := up1 e he; omega⟩) (fun s hs z => by
      obtain ⟨e, he, q1, q2⟩ := hin s hs (by omega)
      rcases List.mem_cons.mp he with rfl | he
      · have := en_ge s
        omega
      · exact ⟨e, he, q1, q2⟩) (by omega) (by
      have hsp : ((spP w ss tt c).2.1.length : Int) = c.2 - c.1 + sg (K2 (bk 0 ss) c) := hlen
      have hle : sg ((bk 0 ss).filter fun s => decide (s.1 < c.2 + 1)) = sg (K1 (bk 0 ss) c) + sg (K2 (bk 0 ss) c) := by
        rw [show (bk 0 ss).filter (fun s => decide (s.1 < c.2 + 1)) = (bk 0 ss).filter (fun s => decide (s.1 ≤ c.2)) from List.filter_congr fun s _ => by rw [decide_eq_decide]; omega]
        exact sg_le _ hb.2.1
      rw [hle]
      rw [b2] at hd
      omega) e2
    show mid w d (spP w ss tt c).1.toNat ++ (spP w ss tt c).2.2 ++ app w ((spP w ss tt c).1.toNat + (spP w ss tt c).2.1.length) (r.map (spP w ss tt)) = _
    rw [ih, e1]
    rfl
theorem Two.makes (h : Two w ss tt) (hc : Cl ((I3 ss tt).map iv) out) : app w 0 (out.map (spP w ss tt)) = app (app w 0 ss) 0 tt := by
  have nn : ∀ s, (s ∈ bk 0 ss ∨ s ∈ tt) → 0 ≤ s.1 := fun s hs => by
    rcases hs with q | q
    · exact (h.bg.mem s q).1
    · exact (h.g2.mem s q).1
  have e1 : (bk 0 ss).filter (fun s => decide (s.1 < 0)) = [] := fil_none fun s hs => decide_eq_false (by have := nn s (.inl hs); omega)
  have e2 : (bk 0 ss).filter (fun s => decide ((0 : Int) ≤ s.1)) = bk 0 ss := List.filter_eq_self.mpr fun s hs => decide_eq_true (nn s (.inl hs))
  have e3 : tt.filter (fun s => decide ((0 : Int) ≤ s.1)) = tt := List.filter_eq_self.mpr fun s hs => decide_eq_true (nn s (.inr hs))
  have := Two.go h hc out 0 0 0 hc.up (fun c hcm => ⟨hcm, (h.bnd hc hcm).1⟩) (fun s hs _ => by
    rcases hs with q | q
    · exact hc.cov (s.1, en s) (List.mem_map.mpr ⟨_, mem_I3.mpr (.inl ⟨s, q, rfl⟩), rfl⟩)
    · exact hc.cov (s.1, en s) (List.mem_map.mpr ⟨_, mem_I3.mpr (.inr ⟨s, q, rfl⟩), rfl⟩)) (Int.le_refl _) (by rw [e1]; rfl) (by rw [e2, back_app h.g1 h.f1]; rfl)
  rw [e3] at this
  exact this
def res (w : List Int) (ss tt : List Spt) (out : List Iv) : List Spt := (out.map (spP w ss tt)).filter ne
theorem home_end (h : Two w ss tt) : home 0 ss (app w 0 ss).length 1 = w.length := by
  have hm := h.bg.mem
  rw [home_sum1 h.g1 fun s hs => .inl (hm s hs).2]
  have e : (bk 0 ss).filter (fun s => decide (s.1 ≤ ((app w 0 ss).length : Int))) = bk 0 ss := List.filter_eq_self.mpr fun s hs => decide_eq_true (by have := hm s hs; omega)
  have hl := app_len h.bg
  rw [back_app h.g1 h.f1] at hl
  rw [e]
  omega
theorem Two.ups (h : Two w ss tt) (hc : Cl ((I3 ss tt).map iv) out) : (out.map (spP w ss tt)).Pairwise fun a b => en a < b.1 := by
  rw [List.pairwise_map]
  have : out.Pairwise fun a b => a ∈ out ∧ b ∈ out ∧ a.2 < b.1 := List.pairwise_iff_forall_sublist.mpr fun {a b} hs => ⟨hs.subset (.head _), hs.subset (.tail _ (.head _)), List.pairwise_iff_forall_sublist.mp hc.up hs⟩
  refine this.imp fun {a b} q => ?_
  rw [(h.pos hc q.1).2, (h.pos hc q.2.1).1]
  exact h.apart hc q.1 q.2.2
theorem Two.low (h : Two w ss tt) (hc : Cl ((I3 ss tt).map iv) out) {s : Spt} (hs : s ∈ out.map (spP w ss tt)) : 0 ≤ s.1 ∧ en s ≤ w.length := by
  obtain ⟨c, hcm, rfl⟩ := List.mem_map.mp hs
  obtain ⟨e1, e2⟩ := h.pos hc hcm
  have hb := h.bnd hc hcm
  constructor
  · rw [e1]
    exact home_low (fr := 0) (sh := 0) h.g1 (by decide) (by decide) (by omega)
  · rw [e2, ← home_end h]
    exact home_mono h.g1 (.inr rfl) (.inr rfl) (by decide) hb.2.2
theorem Two.res_app (h : Two w ss tt) (hc : Cl ((I3 ss tt).map iv) out) : app w 0 (res w ss tt out) = app (app w 0 ss) 0 tt := by
  unfold res
  rw [app_ne ((h.ups hc).imp fun q => by omega) fun s hs => by have := (h.low hc hs).1; omega]
  exact h.makes hc
theorem Two.res_fits (h : Two w ss tt) (hc : Cl ((I3 ss tt).map iv) out) : Fits w (res w ss tt out) := fun s hs => by
  have hs1 := (List.mem_filter.mp hs).1
  have hl := h.low hc hs1
  obtain ⟨c, hcm, rfl⟩ := List.mem_map.mp hs1
  obtain ⟨e1, e2⟩ := h.pos hc hcm
  have ho := h.old hc hcm
  have e3 : (spP w ss tt c).2.1 = mid w (home 0 ss c.1 0).toNat (home 0 ss c.2 1).toNat := ho.symm
  have hen : en (spP w ss tt c) = (spP w ss tt c).1 + (spP w ss tt c).2.1.length := rfl
  rw [e1, e2] at hen
  rw [e1, e3]
  unfold mid
  rw [List.length_take, List.take_eq_take_iff, List.length_drop]
  omega
theorem bts_app2 {l : List Int} (h : Bts l) : ∀ (xs : List Spt) (d : Nat), (∀ s ∈ xs, Bts s.2.2) → Bts (app l d xs)
  | [], d, _ => fun b hb => h b (List.mem_of_mem_drop hb)
  | s :: r, d, hx => fun b hb => by
    rcases List.mem_append.mp hb with q | q
    · rcases List.mem_append.mp q with q | q
      · exact bts_mid h _ _ b q
      · exact hx s (.head _) b q
    · exact bts_app2 h r _ (fun y hy => hx y (.tail _ hy)) b q
theorem Good.bts {L : Int} : ∀ {xs : List Spt} {fr : Int}, Good L fr xs → ∀ s ∈ xs, Bts s.2.1 ∧ Bts s.2.2
  | s :: r, fr, g, x, hx => by
    obtain ⟨g1, g2, g3, g4, g5, g6, g7⟩ := g
    rcases List.mem_cons.mp hx with rfl | hx
    · exact ⟨g4, g5⟩
    · exact Good.bts g7 x hx
theorem good_of {L : Int} : ∀ {l : List Spt} {fr : Int}, (l.Pairwise fun a b => en a < b.1) → (∀ s ∈ l, fr ≤ s.1 ∧ 0 ≤ s.1 ∧ en s ≤ L ∧ Bts s.2.1 ∧ Bts s.2.2 ∧ ne s = true) → Good L fr l
  | [], _, _, _ => trivial
  | s :: r, fr, h, hs => by
    obtain ⟨h1, h2⟩ := List.pairwise_cons.mp h
    obtain ⟨a, b, c, d, e, f⟩ := hs s (.head _)
    refine ⟨a, b, c, d, e, ?_, good_of h2 fun x hx => ?_⟩
    · unfold ne at f
      by_cases z : s.2.1 = []
      · refine .inr fun y => ?_
        rw [z, y] at f
        cases f
      · exact .inl z
    · obtain ⟨_, b', c', d', e', f'⟩ := hs x (.tail _ hx)
      have := h1 x hx
      unfold en at this
      exact ⟨by omega, b', c', d', e', f'⟩
theorem Two.res_good (h : Two w ss tt) (bw : Bts w) (hc : Cl ((I3 ss tt).map iv) out) : Good w.length 0 (res w ss tt out) := by
  have bm : Bts (app w 0 ss) := bts_app2 bw ss 0 fun s hs => (Good.bts h.g1 s hs).2
  have bl : Bts (app (app w 0 ss) 0 tt) := bts_app2 bm tt 0 fun s hs => (Good.bts h.g2 s hs).2
  refine good_of ((h.ups hc).sublist (List.filter_sublist)) fun s hs => ?_
  obtain ⟨hs1, hn⟩ := List.mem_filter.mp hs
  have hl := h.low hc hs1
  obtain ⟨c, hcm, rfl⟩ := List.mem_map.mp hs1
  refine ⟨hl.1, hl.1, hl.2, ?_, ?_, hn⟩
  · show Bts (fil _ _ _ (K2 (bk 0 ss) c))
    rw [← h.old hc hcm]
    exact bts_mid bw _ _
  · show Bts (fil _ _ _ (K2 tt c))
    rw [← h.new hc hcm]
    exact bts_mid bl _ _
end
def en1 : Int → List Int → List (Int × Int)
  | _, [] => []
  | a, x :: xs => (a, x) :: en1 (a + 1) xs
def op (l : List Spt) : List (Int × Int) := l.flatMap fun s => en1 s.1 s.2.1
def look (l : List (Int × Int)) (x : Int) : Option Int := (l.find? fun p => decide (p.1 = x)).map (·.2)
def Asc (l : List (Int × Int)) : Prop := l.Pairwise fun p q => p.1 < q.1
theorem mem_en1 : ∀ {xs : List Int} {a x b : Int}, (x, b) ∈ en1 a xs ↔ ∃ k : Nat, x = a + k ∧ xs[k]? = some b
  | [], a, x, b => by
    constructor
    · intro h; cases h
    · rintro ⟨k, _, h⟩; simp at h
  | y :: ys, a, x, b => by
    show (x, b) ∈ (a, y) :: en1 (a + 1) ys ↔ _
    rw [List.mem_cons, mem_en1]
    constructor
    · rintro (h | ⟨k, h1, h2⟩)
      · obtain ⟨rfl, rfl⟩ := Prod.mk.inj h
        exact ⟨0, by omega, rfl⟩
      · exact ⟨k + 1, by omega, h2⟩
    · rintro ⟨k, h1, h2⟩
      cases k with
      | zero =>
        have e : y = b := Option.some.inj h2
        exact .inl (by rw [e, h1]; congr 1; omega)
      | succ k => exact .inr ⟨k, by omega, h2⟩
theorem asc_en1 : ∀ {xs : List Int} {a : Int}, Asc (en1 a xs)
  | [], _ => .nil
  | y :: ys, a => List.pairwise_cons.mpr ⟨fun p hp => by
    obtain ⟨k, h1, _⟩ := mem_en1.mp (show (p.1, p.2) ∈ _ from hp)
    show a < p.1
    omega, asc_en1⟩
theorem mem_op {l : List Spt} {x b : Int} : (x, b) ∈ op l ↔ ∃ s ∈ l, ∃ k : Nat, x = s.1 + k ∧ s.2.1[k]? = some b := by
  unfold op
  rw [List.mem_flatMap]
  constructor
  · rintro ⟨s, hs, h⟩
    exact ⟨s, hs, mem_en1.mp h⟩
  · rintro ⟨s, hs, h⟩
    exact ⟨s, hs, mem_en1.mpr h⟩
theorem op_cons (s : Spt) (r : List Spt) : op (s :: r) = en1 s.1 s.2.1 ++ op r := rfl
theorem asc_op : ∀ {l : List Spt}, (l.Pairwise fun a b => en a < b.1) → Asc (op l)
  | [], _ => .nil
  | s :: r, h => by
    obtain ⟨h1, h2⟩ := List.pairwise_cons.mp h
    rw [op_cons]
    refine List.pairwise_append.mpr ⟨asc_en1, asc_op h2, fun p hp q hq => ?_⟩
    obtain ⟨k, e1, e2⟩ := mem_en1.mp (show (p.1, p.2) ∈ _ from hp)
    obtain ⟨t, ht, j, e3, e4⟩ := mem_op.mp (show (q.1, q.2) ∈ _ from hq)
    have := h1 t ht
    have hk := (List.getElem?_eq_some_iff.mp e2).1
    unfold en at this
    omega
theorem look_some : ∀ {l : List (Int × Int)}, Asc l → ∀ {x b : Int}, look l x = some b ↔ (x, b) ∈ l
  | [], _, x, b => by
    constructor
    · intro h; cases h
    · intro h; cases h
  | p :: r, h, x, b => by
    obtain ⟨h1, h2⟩ := List.pairwise_cons.mp h
    have ih := look_some h2 (x := x) (b := b)
    unfold look at ih ⊢
    rw [List.find?_cons]
    by_cases z : p.1 = x
    · rw [decide_eq_true z]
      constructor
      · intro e
        have e : p.2 = b := Option.some.inj e
        exact List.mem_cons.mpr (.inl (by rw [← z, ← e]))
      · intro e
        rcases List.mem_cons.mp e with e | e
        · show some p.2 = some b
          rw [← e]
        · have := h1 _ e
          have : p.1 < x := this
          omega
    · rw [decide_eq_false z]
      rw [List.mem_cons]
      constructor
      · intro e
        exact .inr (ih.mp e)
      · rintro (e | e)
        · exact absurd (by rw [← e]) z
        · exact ih.mpr e
def wt (l : List Spt) (x b : Int) : Int := (look (op l) x).getD b
theorem fits_op {row : List Int} {l : List Spt} (h : Fits row l) (h0 : ∀ s ∈ l, 0 ≤ s.1) {x b : Int} (hm : (x, b) ∈ op l) : 0 ≤ x ∧ row[x.toNat]? = some b := by
  obtain ⟨s, hs, k, rfl, hk⟩ := mem_op.mp hm
  have := h0 s hs
  refine ⟨by omega, ?_⟩
  have hf := h s hs
  rw [← hf, List.getElem?_take] at hk
  split at hk
  · rw [List.getElem?_drop] at hk
    rw [show (s.1 + (k : Int)).toNat = s.1.toNat + k by omega]
    exact hk
  · cases hk
theorem bk_fitsP {row : List Int} : ∀ {ss : List Spt} {fr sh : Int} {d : Nat} {pre : List Int}, Good row.length fr ss → (d : Int) ≤ fr → (pre.length : Int) = d + sh → ∀ s ∈ bk sh ss, ((pre ++ app row d ss).drop s.1.toNat).take s.2.1.length = s.2.1
  | s :: r, fr, sh, d, pre, g, hd, h, x, hx => by
    obtain ⟨g1, g2, g3, g4, g5, g6, g7⟩ := g
    have hlen : (mid row d s.1.toNat).length = s.1.toNat - d := mid_len row (by omega)
    rcases List.mem_cons.mp hx with rfl | hx
    · show ((pre ++ (mid row d s.1.toNat ++ s.2.2 ++ app row (s.1.toNat + s.2.1.length) r)).drop (s.1 + sh).toNat).take s.2.2.length = s.2.2
      rw [show pre ++ (mid row d s.1.toNat ++ s.2.2 ++ app row (s.1.toNat + s.2.1.length) r) = (pre ++ mid row d s.1.toNat) ++ (s.2.2 ++ app row (s.1.toNat + s.2.1.length) r) by simp only [List.append_assoc], List.drop_left' (by rw [List.length_append, hlen]; omega), List.take_left]
    · have ih := bk_fitsP (row := row) (ss := r) (sh := sh + s.2.2.length - s.2.1.length) (d := s.1.toNat + s.2.1.length) (pre := pre ++ (mid row d s.1.toNat ++ s.2.2)) g7 (by omega) (by rw [List.length_append, List.length_append, hlen]; omega) x hx
      rw [List.append_assoc] at ih
      exact ih
theorem bk_fits {row : List Int} {ss : List Spt} (g : Good row.length 0 ss) : Fits (app row 0 ss) (bk 0 ss) := by
  have := bk_fitsP (pre := []) (sh := 0) (d := 0) g (Int.le_refl _) rfl
  exact this
def cov (ss : List Spt) (y : Int) : Bool := ss.any fun s => decide (s.1 ≤ y) && decide (y < en s)
theorem cov_no {ss : List Spt} {y : Int} : cov ss y = false ↔ ∀ s ∈ ss, ¬ (s.1 ≤ y ∧ y < en s) := by
  unfold cov
  rw [← Bool.not_eq_true, List.any_eq_true]
  constructor
  · intro h s hs q
    exact h ⟨s, hs, by rw [decide_eq_true q.1, decide_eq_true q.2]; rfl⟩
  · rintro h ⟨s, hs, q⟩
    rw [Bool.and_eq_true, decide_eq_true_eq, decide_eq_true_eq] at q
    exact h s hs q
def bef (ss : List Spt) (y : Int) : List Spt := ss.filter fun s => decide (en s ≤ y)
section
variable {w : List Int} {ss tt : List Spt} {out : List Iv}
theorem cov_at {l : List Spt} {m : List Int} (f : Fits m l) (h0 : ∀ s ∈ l, 0 ≤ s.1) (up : l.Pairwise fun a b => en a < b.1) {s : Spt} (hs : s ∈ l) {x : Int} (h1 : s.1 ≤ x) (h2 : x < en s) : ∃ b, look (op l) x = some b ∧ m[x.toNat]? = some b := by
  unfold en at h2
  obtain ⟨b, hb⟩ : ∃ b, s.2.1[(x - s.1).toNat]? = some b := ⟨_, List.getElem?_eq_getElem (by omega)⟩
  have hm : (x, b) ∈ op l := mem_op.mpr ⟨s, hs, (x - s.1).toNat, by omega, hb⟩
  exact ⟨b, (look_some (asc_op up)).mpr hm, (fits_op f h0 hm).2⟩
theorem Two.known (h : Two w ss tt) (hc : Cl ((I3 ss tt).map iv) out) {c : Iv} (hcm : c ∈ out) {x : Int} (h1 : c.1 ≤ x) (h2 : x < c.2) :
    (cov (bk 0 ss) x = false → ∃ b, look (op tt) x = some b ∧ (app w 0 ss)[x.toNat]? = some b) ∧ (cov tt x = false → ∃ b, look (op (bk 0 ss)) x = some b ∧ (app w 0 ss)[x.toNat]? = some b) := by
  obtain ⟨y, hy, q1, q2⟩ := hc.no c hcm x h1 h2
  obtain ⟨z, hz, rfl⟩ := List.mem_map.mp hy
  have q1 : z.1 ≤ x := q1
  have q2 : x < z.2.1 := q2
  have b0 : ∀ s ∈ bk 0 ss, 0 ≤ s.1 := fun s hs => (h.bg.mem s hs).1
  have t0 : ∀ s ∈ tt, 0 ≤ s.1 := fun s hs => (h.g2.mem s hs).1
  rcases mem_I3.mp hz with ⟨s, hs, rfl⟩ | ⟨s, hs, rfl⟩
  · refine ⟨fun n => absurd ⟨q1, q2⟩ (cov_no.mp n s hs), fun _ => cov_at (bk_fits h.g1) b0 (good_up h.bg).1 hs q1 q2⟩
  · refine ⟨fun _ => cov_at h.f2 t0 (good_up h.g2).1 hs q1 q2, fun n => absurd ⟨q1, q2⟩ (cov_no.mp n s hs)⟩
def badL (least : Int) (ss tt : List Spt) : List Int := ((op (bk 0 ss)).filter fun p => decide (p.1 < least) && decide (wt tt p.1 p.2 ≠ p.2)).map (·.1)
theorem badL_lt {least : Int} : ∀ x ∈ badL least ss tt, x < least := fun x hx => by
  obtain ⟨p, hp, rfl⟩ := List.mem_map.mp hx
  have := (List.mem_filter.mp hp).2
  rw [Bool.and_eq_true, decide_eq_true_eq] at this
  exact this.1
theorem Good.some {L : Int} : ∀ {xs : List Spt} {fr : Int}, Good L fr xs → ∀ s ∈ xs, s.2.1 ≠ [] ∨ s.2.2 ≠ []
  | s :: r, fr, g, x, hx => by
    obtain ⟨g1, g2, g3, g4, g5, g6, g7⟩ := g
    rcases List.mem_cons.mp hx with rfl | hx
    · exact g6
    · exact Good.some g7 x hx
theorem good_cnt {L : Int} : ∀ {xs : List Spt} {fr : Int}, Good L fr xs → 0 ≤ L → (xs.length : Int) ≤ max 0 (L - fr + 1)
  | [], fr, _, _ => by
    show (0 : Int) ≤ _
    omega
  | s :: r, fr, g, hL => by
    obtain ⟨g1, g2, g3, g4, g5, g6, g7⟩ := g
    have := good_cnt g7 hL
    rw [List.length_cons]
    omega
end
end M74
namespace C75
open PySem L2 Br Dn Tr TL
local macro_rules | `(tactic| walk_at "d") => `(tactic| try simp only [dNeK, x_items, dLR1, dLR2, dMaxDef, dOrV, x_truN, x_truT, x_truL, dSortQ, dSortB, dPar5O, dPar6O, x_cdget1, dDc2, dc2In, x_isOO1, x_isOO2, x_isOO3, x_isOO4, x_isOO5, x_isOO6, x_isOO7, x_isOO8, dSortSetT, dSortT, dDc2, dc2In, dJn, gListK, dLIdx, x_ltR31, x_ltR32, x_ltR33, dPar4O, dSortSet, dDictC, dInR, dLenSet, dMakeK00, ixL, List.getD_cons_zero, List.getD_cons_succ, dMeth, dPar3O, dSortS, x_strT1, x_strT2, dIxD, dPart, dStripC, dEnds, x_ltT1, x_ltT2, x_gtT1, x_gtT2, x_enumL1, x_enumL2, dGet2, dLput, dLput2, dDictP, dNiR, dSortR, dStop, dLcX, lcGoX, dFldS, x_zip1, x_zip2, x_zip3, x_zip4, dScLen, dSortP, dMakeKX, dMakeKX0, insL, insAt, List.take_succ_cons, List.take_zero, List.drop_succ_cons, List.drop_zero, dDef, shP, x_ltR1, x_ltR2, dPar3, dTryN, dLc2, lc2In, gCDIn, gCDNotIn, gCDGet, gMulT, setQ, dTp, gIntS, gListS, gMulS, dSplit, dStarts, gCD, dSIdx, dPutO, dOwnD0, dSee, dIfO, dCallO0, dCallO, dActS, dRetS, dRetO, dDefS, dLamS, Sl.out, startD, dSeq, dNext, dSet, dSetO, dPar, dRet, dRetN, dIfS, dExpr, dAug, dVar, dC, dNil, dCons, dApp, dCall0, dCall, dAnd, dOr, dIf, dChain, dNew, dOwn, dSh, dOwnL, dOwnF, dUn, dBor, frz, frzB, dMut, dRaise, dTry, dIxO, dCat, dLam, dLamDef, dAct, y_isDict0, y_isDict1, y_isDict2, y_isDict3, y_isDict4, y_isDict5, y_isDict6, y_keys, y_revL, y_sum1, y_sum2, y_xf, y_isX, dMakeX, dMakeX0, dMakeK, dEqT, dLenO, dBorL, frzL, dDct0, y_isInt6, y_isBool6, y_isStr6, y_isTuple6, y_isList6, y_isSeq6, y_len4, y_inS, y_notInS, y_in1, y_in2, y_ne0, y_ne0L, y_eq0, y_isB, y_isNotB, y_revS, y_addN1, y_addN2, y_subN1, y_subN2, y_subN3, y_strN1, y_strN2, y_zipS, y_dget, y_dnotin, y_din, y_key1, y_key2, eqD_bl', dUnp, dGet1, dSortD, dJoin, dUpper, dDisp, dDispO, dUpd, dDc, x_tg3, x_setall1, dFst, dMake, dInit, dCmpO, dFor, dIt, dLc, wipeD, dSl, dNoB, dB, D.isN, D.flat, putD,
  x_add1, x_add2, x_add3, x_add4, x_i2, x_sub, x_lt, x_le, x_gt, x_ge, x_mod, x_div, x_pow, x_mul1, x_mul2, x_mul3, x_neg, x_not, x_tupl, x_list, x_len1, x_len2, x_len3, x_abs, x_min, x_max, x_int1, x_int2, x_tuple1, x_tuple2, x_listof1, x_listof2, x_iter1, x_iter2, x_iter3, x_range, x_range2, x_enum1, x_enum2, x_enum3, x_enumK, x_isi, x_isown, x_is, x_isnot, x_revT, x_sl1, x_sl2, x_sl3, x_ix1, x_ix2, x_ix3, x_fld, x_catL, x_append, x_extend1, x_extend2, x_insert, x_tg1, x_tg2, x_tg3, x_setall1, x_eq, x_ne, x_isInt0, x_isInt1, x_isInt2, x_isInt3, x_isInt4, x_isInt5, x_isBool0, x_isBool1, x_isBool2, x_isBool3, x_isBool4, x_isBool5, x_isStr0, x_isStr1, x_isStr2, x_isStr3, x_isStr4, x_isStr5, x_isTuple0, x_isTuple1, x_isTuple2, x_isTuple3, x_isTuple4, x_isTuple5, x_isList0, x_isList1, x_isList2, x_isList3, x_isList4, x_isList5, x_isSeq0, x_isSeq1, x_isSeq2, x_isSeq3, x_isSeq4, x_isSeq5, x_setall0,
  List.map_cons, List.map_nil, List.length_cons, List.length_nil, List.replicate_succ, List.replicate_zero, List.cons_append, List.nil_append, List.append_nil, Nat.reduceSub, Nat.reduceAdd, Nat.sub_self, Nat.zero_add, List.getElem?_cons_zero, List.getElem?_cons_succ, List.set_cons_zero, List.set_cons_succ, Option.some.injEq, Sl.sh.injEq, Sl.ow.injEq, D.bl.injEq, D.int.injEq, D.tup.injEq, D.lst.injEq, D.obj.injEq, exists_eq_left', exists_eq_left, true_and, and_true, Option.map_some, reduceCtorEq, if_true, if_false, ite_true, ite_false, Bool.not_true, Bool.not_false, decide_eq_true_eq, Bool.false_eq_true, eq_self_iff_true, List.mem_singleton, List.lookup, beq_self_eq_true, Bool.true_eq_false, atI0, atI1, atI2, atI3, atI4, eqD_int, eqD_str, eqD_row, eqD_row0, ex_if, sizeLine_eq, Nat.reduceLeDiff, row_len, row_app, row_cut, row_rev, Bool.not_eq_true', decide_eq_false_iff_not, List.length_map, List.length_append, Nat.reduceLT])
local macro_rules | `(tactic| walk_at "c") => `(tactic| repeat (first | assumption | rw [if_neg (by decide +kernel)] | rw [if_pos (by decide +kernel)] | refine ⟨by decide +kernel, ?_⟩ | refine ⟨⟨by decide, by decide⟩, ?_⟩ | refine ⟨_, rfl, ?_⟩))
open M74 in
theorem u_growth {s : Spt} {n : Nat} {P : D → Nat → Prop} {E : XD} (h : P (.int (M74.gr s)) n) : U_growth [spotD s] n P E := by
  unfold U_growth B_growth spotD
  walk_at "d"
  exact h
theorem ints_map {α : Type} (f : α → Int) : ∀ xs : List α, intsOf (xs.map fun a => D.int (f a)) = some (xs.map f)
  | [] => rfl
  | a :: r => by
    show (intsOf (r.map fun a => D.int (f a))).map (f a :: ·) = _
    rw [ints_map f r]
    rfl
theorem u_other_length {L : Int} {ss : List Spt} {n : Nat} {P : D → Nat → Prop} {E : XD} (hs : ss.length ≤ 1000) (h : P (.int (L + M74.sg ss)) n) : U_other_length [patchD L ss] n P E := by
  unfold U_other_length B_other_length patchD
  walk_at "d"
  rw [str_ls]
  walk_at "d"
  refine ⟨by rw [show (spotsD ss).length = ss.length from List.length_map ..]; omega, lc_mapT spotD (fun s => .int (M74.gr s)) (fun s _ => ⟨_, rfl, fun n Q q => ?_⟩) ?_⟩
  · walk_at "d"
    exact u_growth q
  · refine ⟨.int (M74.sg ss), ?_, ?_⟩
    · show (intsOf _).map _ = _
      rw [ints_map]
      rfl
    · walk_at "d"
      exact h
def pb : Int → List Spt → List (Int × Spt)
  | _, [] => []
  | sh, s :: r => (s.1 + sh, s) :: pb (sh + M74.gr s) r
def pbD (p : Int × Spt) : D := .tup [.int p.1, spotD p.2]
theorem u_placed_behind {L : Int} {ss : List Spt} {n : Nat} {P : D → Nat → Prop} {E : XD} (hs : ss.length ≤ 1000) (h : P (.lst ((pb 0 ss).map pbD)) n) : U_placed_behind [patchD L ss] n P E := by
  unfold U_placed_behind B_placed_behind patchD
  walk_at "d"
  rw [str_ls]
  walk_at "d"
  refine for_inv (fun i δ n' => ∃ (acc : List D) (m : Int) (a : Option Sl), δ = [some (.sh (patchD L ss)), some (.ow acc), some (.sh (.int m)), a] ∧ acc ++ (pb m (ss.drop i)).map pbD = (pb 0 ss).map pbD ∧ acc.length = i ∧ n = n') ⟨[], 0, none, rfl, rfl, rfl, rfl⟩ ?_ ?_
  · rintro i x _ _ N hx ⟨acc, m, a, rfl, ha, hl, rfl⟩ hN
    obtain ⟨s, hs', rfl⟩ := map_get hx
    have hi := (List.getElem?_eq_some_iff.mp hs').1
    refine ⟨_, rfl, ?_⟩
    unfold L_placed_behind_1
    have e : spotD s = .tup [.int s.1, .tup (row s.2.1), .tup (row s.2.2)] := rfl
    walk_at "d"
    rw [e]
    walk_at "d"
    rw [← e]
    refine ⟨by omega, u_growth ?_⟩
    refine ⟨.int (m + M74.gr s), rfl, hN _ _ ⟨acc ++ [pbD (s.1 + m, s)], m + M74.gr s, _, rfl, ?_, by rw [List.length_append, hl]; rfl, rfl⟩⟩
    rw [M73.drop_at' hs'] at ha
    rw [← ha, List.append_assoc]
    rfl
  · rintro _ _ ⟨acc, m, a, rfl, ha, hl, rfl⟩
    have hsl : (spotsD ss).length = ss.length := List.length_map ..
    unfold R_placed_behind_1
    walk_at "d"
    rw [hsl, List.drop_length] at ha
    have e : acc = (pb 0 ss).map pbD := by
      rw [← ha]
      exact (List.append_nil _).symm
    rw [e]
    exact h
def bp (s : Spt) : D := .tup [.int s.1, .tup (row s.2.1)]
theorem bk_pb : ∀ (ss : List Spt) (sh : Int), M74.bk sh ss = (pb sh ss).map fun p => (p.1, p.2.2.2, p.2.2.1)
  | [], _ => rfl
  | s :: r, sh => by
    show (s.1 + sh, s.2.2, s.2.1) :: M74.bk (sh + s.2.2.length - s.2.1.length) r = (s.1 + sh, s.2.2, s.2.1) :: (pb (sh + M74.gr s) r).map _
    rw [show sh + (s.2.2.length : Int) - s.2.1.length = sh + M74.gr s by unfold M74.gr; omega, bk_pb r]
def kvI (p : Int × Int) : Key × D := (.inl p.1, .int p.2)
def dctI (l : List (Int × Int)) : D := .dct (l.map kvI)
theorem valD_I : ∀ (l : List (Int × Int)) (x : Int), valD (l.map kvI) (.inl x) = (M74.look l x).map .int
  | [], _ => rfl
  | p :: r, x => by
    have ih := valD_I r x
    unfold valD M74.look at ih ⊢
    rw [List.map_cons, List.find?_cons, List.find?_cons]
    have e : decide ((kvI p).1 = Sum.inl x) = decide (p.1 = x) := by
      rw [decide_eq_decide]
      constructor
      · intro h
        exact Sum.inl.inj h
      · intro h
        show (Sum.inl p.1 : Key) = _
        rw [h]
    rw [e]
    cases decide (p.1 = x) with
    | true => rfl
    | false => exact ih
theorem putKD_new {l : List (Int × Int)} {p : Int × Int} (h : ∀ q ∈ l, q.1 < p.1) : putKD (l.map kvI) (.inl p.1) (.int p.2) = (l ++ [p]).map kvI := by
  have hn : ((l.map kvI).any fun kv => decide (kv.1 = (Sum.inl p.1 : Key))) = false := by
    cases e : (l.map kvI).any fun kv => decide (kv.1 = (Sum.inl p.1 : Key)) with
    | false => rfl
    | true =>
      obtain ⟨x, hx, e2⟩ := List.any_eq_true.mp e
      obtain ⟨q, hq, rfl⟩ := List.mem_map.mp hx
      have e2 : q.1 = p.1 := Sum.inl.inj (of_decide_eq_true e2)
      have := h q hq
      omega
  rw [List.map_append]
  unfold putKD
  rw [hn]
  rfl
theorem fold_put : ∀ (rs acc : List (Int × Int)), M74.Asc (acc ++ rs) → rs.foldl (fun a p => putKD a (.inl p.1) (.int p.2)) (acc.map kvI) = (acc ++ rs).map kvI
  | [], acc, _ => by rw [List.append_nil]; rfl
  | p :: r, acc, h => by
    rw [List.foldl_cons, putKD_new fun q hq => (List.pairwise_append.mp h).2.2 q hq p (.head _)]
    have e : acc ++ p :: r = (acc ++ [p]) ++ r := by rw [List.append_assoc]; rfl
    rw [e] at h ⊢
    exact fold_put r _ h
theorem numd_en1 : ∀ (xs : List Int) (a : Int), numd a (row xs) = (M74.en1 a xs).map fun p => .tup [.int p.1, .int p.2]
  | [], _ => rfl
  | x :: r, a => by
    show _ :: numd (a + 1) (row r) = _ :: _
    rw [numd_en1 r]
theorem en1_len : ∀ (xs : List Int) (a : Int), (M74.en1 a xs).length = xs.length
  | [], _ => rfl
  | x :: r, a => congrArg (· + 1) (en1_len r (a + 1))
theorem u_bytes_by_place {l : List Spt} {n : Nat} {P : D → Nat → Prop} {E : XD} (hs : l.length ≤ 1000) (hz : ∀ s ∈ l, s.2.1.length ≤ 1000 ∧ 0 ≤ s.1 ∧ s.1 ≤ 1000000) (up : l.Pairwise fun a b => M74.en a < b.1) (h : P (dctI (M74.op l)) n) : U_bytes_by_place [.lst (l.map bp)] n P E := by
  unfold U_bytes_by_place B_bytes_by_place
  walk_at "d"
  refine ⟨by omega, dc2_map bp (fun acc s => (M74.en1 s.1 s.2.1).foldl (fun a p => putKD a (.inl p.1) (.int p.2)) acc) (fun s hs' => ⟨_, rfl, fun acc n Q q => ?_⟩) ?_⟩
  · obtain ⟨z1, z2, z3⟩ := hz s hs'
    have hrl : (row s.2.1).length = s.2.1.length := List.length_map ..
    walk_at "d"
    refine ⟨rfl, by omega, ?_, ?_⟩
    · rw [numd_en1, List.length_map, en1_len]
      omega
    · rw [numd_en1]
      refine dc_map (fun p : Int × Int => D.tup [.int p.1, .int p.2]) (fun p => .inl p.1) (fun p => .int p.2) (fun p hp => ⟨_, rfl, fun n Q q => ?_, fun n Q q => ?_⟩) q
      · walk_at "d"
        exact q _ rfl
      · walk_at "d"
        exact q
  · have e : ∀ (l : List Spt) (acc : List (Key × D)), l.foldl (fun acc s => (M74.en1 s.1 s.2.1).foldl (fun a p => putKD a (.inl p.1) (.int p.2)) acc) acc = (M74.op l).foldl (fun a p => putKD a (.inl p.1) (.int p.2)) acc := fun l => by
      induction l with
      | nil => intro acc; rfl
      | cons s r ih =>
        intro acc
        rw [List.foldl_cons, ih, M74.op_cons, List.foldl_append]
    rw [e]
    have := fold_put (M74.op l) [] (M74.asc_op up)
    rw [show (List.map kvI [] : List (Key × D)) = [] from rfl] at this
    rw [this]
    exact h
theorem gKeys_I (l : List (Int × Int)) : gKeys [dctI l] = some (l.map fun p => .int p.1) := by
  show some ((l.map kvI).map _) = _
  rw [List.map_map]
  rfl
theorem min_snoc {l : List Int} {m x : Int} (h : ∀ y ∈ l, y < m) (e : minL l = some x) : minL (l ++ [m]) = some x := by
  cases l with
  | nil => cases e
  | cons a r =>
    have e : r.foldl min a = x := Option.some.inj e
    have hm := h x (by rw [← e]; exact (foldl_min r a).1)
    show some ((r ++ [m]).foldl min a) = _
    rw [List.foldl_append, e]
    show some (min x m) = _
    congr 1
    omega
theorem bp_bk (ss : List Spt) : (M74.bk 0 ss).map bp = (pb 0 ss).map fun p => .tup [.int p.1, .tup (row p.2.2.2)] := by
  rw [bk_pb, List.map_map]
  rfl
theorem pb_len : ∀ (ss : List Spt) (sh : Int), (pb sh ss).length = ss.length
  | [], _ => rfl
  | s :: r, sh => congrArg (· + 1) (pb_len r _)
theorem op_len {c : Nat} : ∀ {l : List Spt}, (∀ s ∈ l, s.2.1.length ≤ c) → (M74.op l).length ≤ l.length * c
  | [], _ => Nat.zero_le _
  | s :: r, h => by
    have ih := op_len (l := r) fun x hx => h x (.tail _ hx)
    have h1 := h s (.head _)
    rw [M74.op_cons, List.length_append, en1_len, List.length_cons, Nat.add_mul]
    omega
theorem wt_getD (tt : List Spt) (x b : Int) : (valD ((M74.op tt).map kvI) (.inl x)).getD (.int b) = .int (M74.wt tt x b) := by
  rw [valD_I]
  unfold M74.wt
  cases M74.look (M74.op tt) x <;> rfl
theorem pb_mem : ∀ (ss : List Spt) (sh : Int) (p : Int × Spt), p ∈ pb sh ss → p.2 ∈ ss
  | s :: r, sh, p, h => by
    rcases List.mem_cons.mp h with rfl | h
    · exact .head _
    · exact .tail _ (pb_mem r _ p h)
theorem u_need_chain {L F : Int} {ss tt : List Spt} {n : Nat} {P : D → Nat → Prop} {E : XD} (hs : ss.length ≤ 1000) (ht : tt.length ≤ 1000) (hL : 0 ≤ L ∧ L ≤ 1000) (hF : F ≤ 100000) (hz : ∀ s ∈ ss, s.2.2.length ≤ 1000) (hzt : ∀ s ∈ tt, s.2.1.length ≤ 1000)
    (g : M73.Good L 0 ss) (g2 : M73.Good F 0 tt) (hm : M74.sg ss ≤ 100000)
    (h1 : M74.badL (min (L + M74.sg ss) F) ss tt = [] → L + M74.sg ss = F → P .non n)
    (h2 : ∀ x, minL (M74.badL (min (L + M74.sg ss) F) ss tt ++ [min (L + M74.sg ss) F]) = some x → ¬ (M74.badL (min (L + M74.sg ss) F) ss tt = [] ∧ L + M74.sg ss = F) → E "Misfit" [("at", .int x)] n) : U_need_chain [patchD L ss, patchD F tt] n P E := by
  have hbg := M74.bk_good (sh := 0) g (by omega)
  have hbm := hbg.mem
  have htm := g2.mem
  have up1 := (M74.good_up hbg).1
  have up2 := (M74.good_up g2).1
  have hbl : (M74.bk 0 ss).length = ss.length := by rw [bk_pb, List.length_map, pb_len]
  have hbz : ∀ s ∈ M74.bk 0 ss, s.2.1.length ≤ 1000 ∧ 0 ≤ s.1 ∧ s.1 ≤ 1000000 := fun s hs' => by
    have h := hbm s hs'
    rw [bk_pb] at hs'
    obtain ⟨p, hp, rfl⟩ := List.mem_map.mp hs'
    have : p.2 ∈ ss := pb_mem _ _ _ hp
    refine ⟨hz _ this, h.1, ?_⟩
    have h : p.1 + (p.2.2.2.length : Int) ≤ L + 0 + M74.sg ss := h.2
    show p.1 ≤ 1000000
    omega
  have el : (if F < L + M74.sg ss then F else L + M74.sg ss) = min (L + M74.sg ss) F := by
    split <;> omega
  unfold U_need_chain B_need_chain
  walk_at "d"
  refine u_other_length hs ?_
  unfold patchD
  walk_at "d"
  refine u_placed_behind hs ?_
  walk_at "d"
  refine ⟨by first | (rw [List.length_map, pb_len]; omega) | (rw [pb_len]; omega), lc_mapT pbD (fun p => .tup [.int p.1, .tup (row p.2.2.2)]) (fun p _ => ⟨_, rfl, fun n Q q => ?_⟩) ?_⟩
  · unfold spotD
    walk_at "d"
    exact q
  rw [← bp_bk]
  refine u_bytes_by_place (by omega) hbz up1 ?_
  rw [str_ls]
  walk_at "d"
  refine ⟨by rw [show (spotsD tt).length = tt.length from List.length_map ..]; omega, lc_mapT spotD bp (fun s _ => ⟨_, rfl, fun n Q q => ?_⟩) ?_⟩
  · walk_at "d"
    exact q
  refine u_bytes_by_place ht (fun s hs' => ⟨hzt s hs', (htm s hs').1, by have := (htm s hs').2; omega⟩) up2 ?_
  refine ⟨_, gKeys_I _, ?_, lc_map (fun p : Int × Int => .int p.1) (fun p => decide (p.1 < min (L + M74.sg ss) F) && decide (M74.wt tt p.1 p.2 ≠ p.2)) (fun p => .int p.1) (fun p hp => ⟨_, rfl, fun n Q q => ?_, fun _ n Q q => ?_⟩) ?_⟩
  · rw [List.length_map]
    have := op_len (c := 1000) fun s hs' => (hbz s hs').1
    omega
  · have hv : valD ((M74.op (M74.bk 0 ss)).map kvI) (.inl p.1) = some (.int p.2) := by
      rw [valD_I, (M74.look_some (M74.asc_op up1)).mpr (show (p.1, p.2) ∈ _ from hp)]
      rfl
    have hw := wt_getD tt p.1 p.2
    unfold dctI
    walk_at "d"
    rw [el]
    by_cases c1 : p.1 < min (L + M74.sg ss) F
    · rw [if_pos c1]
      rw [decide_eq_true c1, Bool.true_and] at q
      refine ⟨_, rfl, .int p.2, hv, .int p.2, hv, .bl (decide (M74.wt tt p.1 p.2 ≠ p.2)), ?_, q⟩
      rw [hw]
      show Option.map _ (some (decide (M74.wt tt p.1 p.2 = p.2))) = _
      show some (D.bl (!decide (M74.wt tt p.1 p.2 = p.2))) = _
      rw [decide_not]
    · rw [if_neg c1]
      rw [decide_eq_false c1, Bool.false_and] at q
      exact q
  · walk_at "d"
    exact q
  · have eb : List.map (fun p => D.int p.1) ((M74.op (M74.bk 0 ss)).filter fun p => decide (p.1 < min (L + M74.sg ss) F) && decide (M74.wt tt p.1 p.2 ≠ p.2)) = row (M74.badL (min (L + M74.sg ss) F) ss tt) := by
      unfold M74.badL row
      rw [List.map_map]
      rfl
    rw [eb, el]
    refine iteI (fun hne => ?_) (fun hne => ?_)
    · have hn := row_ne hne
      obtain ⟨x, hx⟩ : ∃ x, minL (M74.badL (min (L + M74.sg ss) F) ss tt) = some x := by
        cases hq : M74.badL (min (L + M74.sg ss) F) ss tt with
        | nil => exact absurd hq hn
        | cons a r => exact ⟨_, rfl⟩
      refine ⟨.int x, ?_, _, rfl, h2 x (min_snoc M74.badL_lt hx) fun z => hn z.1⟩
      show ((intsOf _).bind minL).map D.int = _
      have e := ints_map (fun x => x) (M74.badL (min (L + M74.sg ss) F) ss tt)
      rw [List.map_id'] at e
      rw [show row (M74.badL (min (L + M74.sg ss) F) ss tt) = (M74.badL (min (L + M74.sg ss) F) ss tt).map (fun x => D.int x) from rfl, e]
      show (minL _).map D.int = _
      rw [hx]
      rfl
    · have hn : M74.badL (min (L + M74.sg ss) F) ss tt = [] := by
        cases hq : M74.badL (min (L + M74.sg ss) F) ss tt with
        | nil => rfl
        | cons a r =>
          rw [hq] at hne
          exact absurd rfl hne
      unfold R_need_chain_1
      walk_at "d"
      refine iteI (fun z => ?_) (fun z => ?_)
      · refine ⟨_, rfl, h2 _ (by rw [hn]; rfl) fun y => z y.2⟩
      · exact h1 hn (by omega)
def ivD (c : Int × Int × Int) : D := .tup [.int c.1, .int c.2.1]
theorem ixN_last (n : Nat) : ixN (n + 1) (-1) = some n := by
  unfold ixN
  rw [if_neg (by omega), if_pos (by omega)]
  congr 1
  omega
theorem atI_last {α : Type} (xs : List α) (x : α) : atI (xs ++ [x]) (-1) = some x := by
  unfold atI
  rw [List.length_append, List.length_singleton, ixN_last]
  show (xs ++ [x])[xs.length]? = some x
  rw [List.getElem?_append_right (Nat.le_refl _), Nat.sub_self]
  rfl
theorem set_last {α : Type} {f : α → D} (ini : List α) (c d : α) (v : D) (h : v = f d) : (List.map f (ini ++ [c])).set ini.length v = List.map f (ini ++ [d]) := by
  have e := List.length_map (as := ini) f
  rw [List.map_append, List.map_append, ← e, List.set_append_right _ _ (Nat.le_refl _), Nat.sub_self, h]
  rfl
theorem cl_perm {I I' out : List (Int × Int)} (h : M74.Cl I out) (p : I.Perm I') : M74.Cl I' out := h.of_mem fun _ => p.mem_iff
theorem u_clustered {I : List (Int × Int × Int)} {n : Nat} {P : D → Nat → Prop} {E : XD} (hI : I.length ≤ 10000) (hle : ∀ x ∈ I, x.1 ≤ x.2.1)
    (h : ∀ out : List (Int × Int × Int), M74.Cl (I.map M74.iv) (out.map M74.iv) → P (.lst (out.map ivD)) n) : U_clustered [.lst (I.map ivD)] n P E := by
  unfold U_clustered B_clustered
  walk_at "d"
  refine ⟨I.map fun x => (x.1, some x.2.1), by rw [List.map_map]; rfl, fun p hp q hq _ => ?_, fun qs hq hs => ?_⟩
  · obtain ⟨x, _, rfl⟩ := List.mem_map.mp hp
    obtain ⟨y, _, rfl⟩ := List.mem_map.mp hq
    exact .inr ⟨rfl, rfl⟩
  have e1 : qs = (qs.map fun q => ((q.1, q.2.getD 0, 0) : Int × Int × Int)).map fun x => (x.1, some x.2.1) := by
    rw [List.map_map]
    conv => lhs; rw [← List.map_id qs]
    refine List.map_congr_left fun q hq2 => ?_
    obtain ⟨x, _, rfl⟩ := List.mem_map.mp (hq.mem_iff.mp hq2)
    rfl
  generalize hJ : (qs.map fun q => ((q.1, q.2.getD 0, 0) : Int × Int × Int)) = J at e1
  subst e1
  have hp : (J.map M74.iv).Perm (I.map M74.iv) := by
    have := hq.map fun q : Int × Option Int => ((q.1, q.2.getD 0) : Int × Int)
    rw [List.map_map, List.map_map] at this
    exact this
  have hl : J.length = I.length := by
    have := hp.length_eq
    rwa [List.length_map, List.length_map] at this
  have hJle : ∀ x ∈ J, x.1 ≤ x.2.1 := fun x hx => by
    have := hp.mem_iff.mp (List.mem_map.mpr ⟨x, hx, rfl⟩)
    obtain ⟨y, hy, e⟩ := List.mem_map.mp this
    have := hle y hy
    have e1 : y.1 = x.1 := congrArg (fun z : Int × Int => z.1) e
    have e2 : y.2.1 = x.2.1 := congrArg (fun z : Int × Int => z.2) e
    omega
  have hJs : J.Pairwise fun a b => a.1 ≤ b.1 := by
    rw [List.pairwise_map] at hs
    refine hs.imp fun {a b} z => ?_
    unfold SrtQ.lexQ at z
    split at z
    · rename_i y
      have y : b.1 = a.1 := y
      omega
    · have z : ¬ b.1 < a.1 := of_decide_eq_false z
      omega
  have mg := M74.mrg_ok hJle hJs
  rw [List.map_map]
  refine for_inv (fun i δ n' => ∃ (F : List (Int × Int × Int)) (a b : Option Sl), δ = [some (.sh (.lst (I.map ivD))), some (.ow (F.map ivD)), a, b] ∧ ((i = 0 ∧ F = []) ∨ ∃ (ini : List (Int × Int × Int)) (c : Int × Int × Int), F = ini ++ [c] ∧ ini ++ M74.mrgGo c (J.drop i) = M74.mrg J) ∧ F.length ≤ i ∧ n = n') ⟨[], none, none, rfl, .inl ⟨rfl, rfl⟩, Nat.zero_le _, rfl⟩ ?_ ?_
  · rintro i x _ _ N hx ⟨F, a, b, rfl, hF, hFl, rfl⟩ hN
    obtain ⟨y, hy, rfl⟩ := map_get hx
    have hi := (List.getElem?_eq_some_iff.mp hy).1
    refine ⟨_, rfl, ?_⟩
    have ey : ((pairO ∘ fun x : Int × Int × Int => (x.1, some x.2.1)) y) = .tup [.int y.1, .int y.2.1] := rfl
    unfold L_clustered_1
    have hdr := M73.drop_at' hy
    rcases hF with ⟨rfl, rfl⟩ | ⟨ini, c, rfl, hF⟩
    · walk_at "d"
      rw [if_neg (by decide)]
      refine hN _ _ ⟨[y], _, _, rfl, .inr ⟨[], y, rfl, ?_⟩, Nat.le_refl _, rfl⟩
      rw [List.drop_zero] at hdr
      show M74.mrgGo y (List.drop 1 J) = M74.mrg J
      conv => rhs; rw [hdr]
      rfl
    · have hat : atI (List.map ivD (ini ++ [c])) (-1) = some (ivD c) := by
        rw [List.map_append]
        exact atI_last _ _
      have hfl : ini.length + 1 ≤ i := by
        rw [List.length_append] at hFl
        exact hFl
      have hix := ixN_last ini.length
      rw [hdr] at hF
      walk_at "d"
      rw [if_pos (by cases ini <;> rfl)]
      refine ⟨-1, ivD c, rfl, hat, .int c.2.1, rfl, .bl (decide (y.1 ≤ c.2.1)), rfl, _, rfl, ?_⟩
      refine iteI (fun hy2 => ?_) (fun hy2 => ⟨by omega, ?_⟩)
      · have hy2 := of_decide_eq_true hy2
        refine ⟨-1, ivD c, rfl, hat, .int c.1, rfl, -1, ivD c, rfl, hat, .int c.2.1, rfl, .int (max c.2.1 y.2.1), ?_, -1, _, rfl, hix, ?_⟩
        · rw [show optD (some y.2.1) = .int y.2.1 from rfl]
          have em : max c.2.1 y.2.1 = if y.2.1 > c.2.1 then y.2.1 else c.2.1 := by split <;> omega
          rw [em]
          walk_at "d"
        · have eset : (List.map ivD (ini ++ [c])).set ini.length (D.tup [.int c.1, .int (max c.2.1 y.2.1)]) = List.map ivD (ini ++ [(c.1, max c.2.1 y.2.1, c.2.2 + y.2.2)]) := set_last ini c _ _ rfl
          rw [eset]
          refine hN _ _ ⟨ini ++ [(c.1, max c.2.1 y.2.1, c.2.2 + y.2.2)], _, _, rfl, .inr ⟨ini, _, rfl, ?_⟩, by rw [List.length_append]; show ini.length + 1 ≤ i + 1; omega, rfl⟩
          · rw [← hF]
            show _ = ini ++ (if y.1 ≤ c.2.1 then M74.mrgGo (c.1, max c.2.1 y.2.1, c.2.2 + y.2.2) (List.drop (i + 1) J) else c :: M74.mrgGo y (List.drop (i + 1) J))
            rw [if_pos hy2]
      · have hy2 : ¬ y.1 ≤ c.2.1 := fun z => hy2 (decide_eq_true z)
        have eapp : List.map ivD (ini ++ [c]) ++ [D.tup [.int y.1, optD (some y.2.1)]] = List.map ivD (ini ++ [c] ++ [y]) := by
          rw [List.map_append (l₁ := ini ++ [c])]
          rfl
        rw [eapp]
        refine hN _ _ ⟨ini ++ [c] ++ [y], _, _, rfl, .inr ⟨ini ++ [c], y, rfl, ?_⟩, by rw [List.length_append, List.length_append]; show ini.length + 1 + 1 ≤ i + 1; omega, rfl⟩
        · rw [← hF]
          show _ = ini ++ (if y.1 ≤ c.2.1 then M74.mrgGo (c.1, max c.2.1 y.2.1, c.2.2 + y.2.2) (List.drop (i + 1) J) else c :: M74.mrgGo y (List.drop (i + 1) J))
          rw [if_neg hy2, List.append_assoc]
          rfl
  · rintro _ _ ⟨F, a, b, rfl, hF, hFl, rfl⟩
    unfold R_clustered_1
    walk_at "d"
    have e : F = M74.mrg J := by
      rw [List.length_map] at hF
      rcases hF with ⟨hz, rfl⟩ | ⟨ini, c, rfl, hF⟩
      · rw [List.length_eq_zero_iff.mp hz]
        rfl
      · rw [List.drop_length] at hF
        exact hF
    rw [e]
    exact h _ (cl_perm mg.cl hp)
def chD (s : Spt) : D := .tup [.int s.1, .int (M74.en s), .tup (row s.2.2)]
def spanD (c : Int × Int) : D := .tup [.int c.1, .int c.2]
theorem ints_mid {M : List Int} {lo hi : Int} (h0 : 0 ≤ lo) (hl : lo ≤ hi) (hh : hi ≤ M.length) : (intsD lo (hi - lo).toNat).map (fun d => match d with | .int x => D.int ((M[x.toNat]?).getD 0) | _ => .non) = row (M73.mid M lo.toNat hi.toNat) := by
  have hm := M73.mid_len M (d := lo.toNat) (m := hi.toNat) (by omega)
  apply List.ext_getElem?
  intro k
  unfold row
  rw [List.getElem?_map, List.getElem?_map, M73.mid_get]
  by_cases hk : k < (hi - lo).toNat
  · rw [intsD_at hk, if_pos (by omega)]
    show some (D.int ((M[(lo + (k : Int)).toNat]?).getD 0)) = _
    rw [show (lo + (k : Int)).toNat = lo.toNat + k by omega]
    obtain ⟨b, hb⟩ : ∃ b, M[lo.toNat + k]? = some b := ⟨_, List.getElem?_eq_getElem (by omega)⟩
    rw [hb]
    rfl
  · rw [List.getElem?_eq_none (by rw [intsD_len]; omega), if_neg (by omega)]
    rfl
theorem known_lc {l : List Spt} {M : List Int} {lo hi : Int} {s0 s2 s3 s4 s5 s6 s7 s8 : Option Sl} {n : Nat} {P : List D → Nat → Prop} (h0 : 0 ≤ lo) (hl : lo ≤ hi) (hh : hi ≤ M.length)
    (hk : ∀ x, lo ≤ x → x < hi → ∃ b, M74.look (M74.op l) x = some b ∧ M[x.toNat]? = some b) (h : P (row (M73.mid M lo.toNat hi.toNat)) n) :
    lcGo (.nm 8) (dC (.bl true)) (dApp gDGet (dCons (dVar 1) (dCons (dVar 8) dNil))) [s0, some (.sh (dctI (M74.op l))), s2, s3, s4, s5, s6, s7, s8] (intsD lo (hi - lo).toNat) n P := by
  refine lc_pure (fun d => match d with | .int x => .int ((M[x.toNat]?).getD 0) | _ => .non) (fun x hx => ?_) (by rw [ints_mid h0 hl hh]; exact h)
  obtain ⟨i, hi2⟩ := List.mem_iff_getElem?.mp hx
  obtain ⟨hi3, rfl⟩ := mem_intsD hi2
  obtain ⟨b, b1, b2⟩ := hk (lo + i) (by omega) (by omega)
  refine ⟨_, rfl, fun n Q q => ?_⟩
  have hv : valD ((M74.op l).map kvI) (.inl (lo + i)) = some (.int b) := by
    rw [valD_I, b1]
    rfl
  have q : Q (.int ((M[(lo + (i : Int)).toNat]?).getD 0)) n := q
  rw [b2] at q
  unfold dctI
  walk_at "d"
  exact ⟨_, hv, q⟩
theorem u_filled_in {l l' : List Spt} {M : List Int} {c : Int × Int} {n : Nat} {P : D → Nat → Prop} {E : XD} (hM : M.length ≤ 10000) (hl' : l'.length ≤ 1000) (hz : ∀ s ∈ l', s.2.2.length ≤ 1000) (h0 : 0 ≤ c.1) (hc : c.1 ≤ c.2) (hh : c.2 ≤ M.length)
    (hk : ∀ x, c.1 ≤ x → x < c.2 → M74.cov l' x = false → ∃ b, M74.look (M74.op l) x = some b ∧ M[x.toNat]? = some b)
    (up : l'.Pairwise fun a b => M74.en a < b.1) (tri : ∀ s ∈ l', M74.en s < c.1 ∨ (c.1 ≤ s.1 ∧ M74.en s ≤ c.2) ∨ c.2 < s.1)
    (h : P (.tup (row (M74.fil M c.1.toNat c.2.toNat (M74.K2 l' c)))) n) : U_filled_in [spanD c, dctI (M74.op l), .lst (l'.map chD)] n P E := by
  unfold U_filled_in B_filled_in spanD
  walk_at "d"
  refine for_inv (fun i δ n' => ∃ (acc : List Int) (dn : Int) (s5 s6 s7 s8 : Option Sl), δ = [some (.sh (spanD c)), some (.sh (dctI (M74.op l))), some (.sh (.lst (l'.map chD))), some (.ow (row acc)), some (.sh (.int dn)), s5, s6, s7, s8] ∧
    acc ++ M74.fil M dn.toNat c.2.toNat (M74.K2 (l'.drop i) c) = M74.fil M c.1.toNat c.2.toNat (M74.K2 l' c) ∧ c.1 ≤ dn ∧ dn ≤ c.2 ∧ (∀ s ∈ l'.take i, M74.en s ≤ dn ∨ c.2 < s.1) ∧ (∀ s ∈ l'.drop i, c.1 ≤ s.1 → dn ≤ s.1) ∧ acc.length ≤ i * 12000 ∧ n = n')
    ⟨[], c.1, none, none, none, none, rfl, rfl, Int.le_refl _, hc, (fun s hs => by cases hs), (fun s _ z => z), Nat.zero_le _, rfl⟩ ?_ ?_
  · rintro i x _ _ N hx ⟨acc, dn, s5, s6, s7, s8, rfl, ha, d1, d2, d3, d4, hal, rfl⟩ hN
    obtain ⟨s, hs', rfl⟩ := map_get hx
    have hmem := List.mem_of_getElem? hs'
    have hi := (List.getElem?_eq_some_iff.mp hs').1
    have hzs := hz s hmem
    have hge := M74.en_ge s
    have hes : M74.en s = s.1 + s.2.1.length := rfl
    have hdr := M73.drop_at' hs'
    rw [hdr] at ha d4
    have htk : l'.take (i + 1) = l'.take i ++ [s] := by rw [List.take_succ, hs']; rfl
    have hup := List.pairwise_cons.mp (hdr ▸ up.sublist (List.drop_sublist i l'))
    refine ⟨_, rfl, ?_⟩
    unfold L_filled_in_1 spanD
    walk_at "d"
    have take' : ∀ dn' : Int, dn ≤ dn' → (M74.en s ≤ dn' ∨ c.2 < s.1) → ∀ x ∈ l'.take (i + 1), M74.en x ≤ dn' ∨ c.2 < x.1 := fun dn' q1 q2 x hx => by
      rw [htk] at hx
      rcases List.mem_append.mp hx with hx | hx
      · have := d3 x hx
        omega
      · rw [List.mem_singleton.mp hx]
        exact q2
    rcases tri s hmem with z | ⟨z1, z2⟩ | z
    · have ek : M74.K2 (s :: l'.drop (i + 1)) c = M74.K2 (l'.drop (i + 1)) c := List.filter_cons_of_neg (by rw [decide_eq_false (show ¬ c.1 ≤ s.1 by omega)]; exact Bool.false_ne_true)
      rw [ek] at ha
      rw [if_neg (by omega)]
      exact hN _ _ ⟨acc, dn, _, _, _, _, rfl, ha, d1, d2, take' dn (Int.le_refl _) (.inl (by omega)), fun x hx => d4 x (.tail _ hx), by omega, rfl⟩
    · have ek : M74.K2 (s :: l'.drop (i + 1)) c = s :: M74.K2 (l'.drop (i + 1)) c := List.filter_cons_of_pos (by rw [decide_eq_true z1, decide_eq_true (show s.1 ≤ c.2 by omega)]; rfl)
      rw [ek] at ha
      have hd := d4 s (.head _) z1
      have hmid := M73.mid_len M (d := dn.toNat) (m := s.1.toNat) (by omega)
      rw [if_pos z1, if_pos z2]
      refine ⟨by omega, by rw [intsD_len]; omega, known_lc (by omega) hd (by omega) (fun x x1 x2 => hk x (by omega) (by omega) (M74.cov_no.mpr fun y hy q => ?_)) ?_⟩
      · rw [← List.take_append_drop i l'] at hy
        rcases List.mem_append.mp hy with hy | hy
        · have := d3 y hy
          omega
        · rw [hdr] at hy
          rcases List.mem_cons.mp hy with rfl | hy
          · omega
          · have := hup.1 y hy
            omega
      · have hrl : (row (M73.mid M dn.toNat s.1.toNat)).length = (M73.mid M dn.toNat s.1.toNat).length := List.length_map ..
        refine ⟨by omega, by omega, ?_⟩
        rw [row_app, row_app]
        refine hN _ _ ⟨acc ++ M73.mid M dn.toNat s.1.toNat ++ s.2.2, M74.en s, _, _, _, _, rfl, ?_, by omega, z2, take' (M74.en s) (by omega) (.inl (Int.le_refl _)), fun x hx _ => by have := hup.1 x hx; omega, ?_, rfl⟩
        · rw [← ha]
          show _ = acc ++ (M73.mid M dn.toNat s.1.toNat ++ s.2.2 ++ M74.fil M (s.1.toNat + s.2.1.length) c.2.toNat _)
          rw [show (M74.en s).toNat = s.1.toNat + s.2.1.length by omega]
          simp only [List.append_assoc]
        · rw [List.length_append, List.length_append]
          omega
    · have ek : M74.K2 (s :: l'.drop (i + 1)) c = M74.K2 (l'.drop (i + 1)) c := List.filter_cons_of_neg (by rw [decide_eq_false (show ¬ s.1 ≤ c.2 by omega), Bool.and_false]; exact Bool.false_ne_true)
      rw [ek] at ha
      rw [if_pos (by omega), if_neg (by omega)]
      exact hN _ _ ⟨acc, dn, _, _, _, _, rfl, ha, d1, d2, take' dn (Int.le_refl _) (.inr z), fun x hx => d4 x (.tail _ hx), by omega, rfl⟩
  · rintro _ _ ⟨acc, dn, s5, s6, s7, s8, rfl, ha, d1, d2, d3, d4, hal, rfl⟩
    rw [List.length_map, List.take_length] at d3
    rw [List.length_map] at hal
    rw [List.length_map, List.drop_length] at ha
    have hmid := M73.mid_len M (d := dn.toNat) (m := c.2.toNat) (by omega)
    have hrl : (row (M73.mid M dn.toNat c.2.toNat)).length = (M73.mid M dn.toNat c.2.toNat).length := List.length_map ..
    unfold R_filled_in_1 spanD
    walk_at "d"
    refine ⟨by omega, by rw [intsD_len]; omega, known_lc (by omega) d2 (by omega) (fun x x1 x2 => hk x (by omega) x2 (M74.cov_no.mpr fun y hy q => ?_)) ⟨by omega, ?_⟩⟩
    · have := d3 y hy
      omega
    · rw [row_app]
      have e : acc ++ M73.mid M dn.toNat c.2.toNat = M74.fil M c.1.toNat c.2.toNat (M74.K2 l' c) := ha
      rw [e]
      exact h
theorem fld_spots {L : Int} {ss : List Spt} : gFld ["Patch"] "spots" [patchD L ss] = some (.tup (spotsD ss)) := by
  unfold patchD
  walk_at "d"
  rw [str_ls]
theorem fld_length {L : Int} {ss : List Spt} : gFld ["Patch"] "length" [patchD L ss] = some (.int L) := by
  unfold patchD
  walk_at "d"
theorem ch_bk (ss : List Spt) : (M74.bk 0 ss).map chD = (pb 0 ss).map fun p => .tup [.int p.1, .int (p.1 + p.2.2.2.length), .tup (row p.2.2.1)] := by
  rw [bk_pb, List.map_map]
  rfl
theorem sum_neg {α : Type} (f g : α → Int) (h : ∀ a, f a = - g a) : ∀ l : List α, (l.map f).sum = -(l.map g).sum
  | [] => rfl
  | a :: r => by
    rw [List.map_cons, List.map_cons, List.sum_cons, List.sum_cons, sum_neg f g h r, h a]
    omega
theorem less_eq {ss : List Spt} {c : Int × Int} (tri : ∀ s ∈ M74.bk 0 ss, M74.en s < c.1 ∨ (c.1 ≤ s.1 ∧ M74.en s ≤ c.2) ∨ c.2 < s.1) (hc : c.1 ≤ c.2) :
    (((pb 0 ss).filter fun p => decide (p.1 + (p.2.2.2.length : Int) < c.1)).map fun p => M74.gr p.2).sum = -M74.sg (M74.K1 (M74.bk 0 ss) c) := by
  have e1 : (pb 0 ss).filter (fun p => decide (p.1 + (p.2.2.2.length : Int) < c.1)) = (pb 0 ss).filter (fun p => decide (p.1 < c.1)) := List.filter_congr fun p hp => by
    have := tri (p.1, p.2.2.2, p.2.2.1) (by rw [bk_pb]; exact List.mem_map.mpr ⟨p, hp, rfl⟩)
    have this : p.1 + (p.2.2.2.length : Int) < c.1 ∨ (c.1 ≤ p.1 ∧ p.1 + (p.2.2.2.length : Int) ≤ c.2) ∨ c.2 < p.1 := this
    rw [decide_eq_decide]
    omega
  have e2 : M74.K1 (M74.bk 0 ss) c = ((pb 0 ss).filter fun p => decide (p.1 < c.1)).map fun p => (p.1, p.2.2.2, p.2.2.1) := by
    unfold M74.K1
    rw [bk_pb, List.filter_map]
    rfl
  rw [e1, e2]
  unfold M74.sg
  rw [List.map_map]
  exact sum_neg _ _ (fun p => by
    show M74.gr p.2 = -(((p.2.2.1.length : Nat) : Int) - (p.2.2.2.length : Nat))
    unfold M74.gr
    omega) _
theorem cnt_up {L : Int} : ∀ {l : List Spt} {fr : Int}, (l.Pairwise fun a b => M74.en a < b.1) → (∀ s ∈ l, fr ≤ s.1 ∧ M74.en s ≤ L) → 0 ≤ L → (l.length : Int) ≤ max 0 (L - fr + 1)
  | [], fr, _, _, _ => by
    show (0 : Int) ≤ _
    omega
  | s :: r, fr, h, hs, hL => by
    obtain ⟨h1, h2⟩ := List.pairwise_cons.mp h
    have h3 := hs s (.head _)
    have hge := M74.en_ge s
    have := cnt_up (fr := M74.en s + 1) h2 (fun x hx => ⟨by have := h1 x hx; omega, (hs x (.tail _ hx)).2⟩) hL
    rw [List.length_cons]
    omega
theorem out_cnt {w : List Int} {ss tt : List Spt} {out : List (Int × Int)} (two : M74.Two w ss tt) (hc : M74.Cl ((M74.I3 ss tt).map M74.iv) out) : out.length ≤ w.length + 1 := by
  have := cnt_up (L := w.length) (fr := 0) (two.ups hc) (fun s hs => two.low hc hs) (by omega)
  rw [List.length_map] at this
  omega
theorem res_sizes {w : List Int} {ss tt : List Spt} {out : List (Int × Int)} (two : M74.Two w ss tt) (hc : M74.Cl ((M74.I3 ss tt).map M74.iv) out) : ∀ s ∈ M74.res w ss tt out, s.2.1.length ≤ w.length ∧ s.2.2.length ≤ (M73.app (M73.app w 0 ss) 0 tt).length := fun s hs => by
  obtain ⟨c, hcm, rfl⟩ := List.mem_map.mp (List.mem_filter.mp hs).1
  constructor
  · show (M74.fil _ _ _ (M74.K2 (M74.bk 0 ss) c)).length ≤ _
    rw [← two.old hc hcm]
    exact M73.mid_le _ _ _
  · show (M74.fil _ _ _ (M74.K2 tt c)).length ≤ _
    rw [← two.new hc hcm]
    exact M73.mid_le _ _ _
theorem row_emp (xs : List Int) : (row xs).isEmpty = xs.isEmpty := by cases xs <;> rfl
theorem u_chained {w : List Int} {ss tt : List Spt} {F : Int} {out : List (Int × Int)} {n : Nat} {P : D → Nat → Prop} {E : XD} (two : M74.Two w ss tt) (hF : (w.length : Int) + M74.sg ss = F) (bw : Bts w) (hw : w.length ≤ 500) (hs : ss.length ≤ 500) (ht : tt.length ≤ 500) (hF2 : F ≤ 500)
    (hz : ∀ s ∈ ss, s.2.2.length ≤ 500) (hzt : ∀ s ∈ tt, s.2.1.length ≤ 500 ∧ s.2.2.length ≤ 500) (hz1 : ∀ s ∈ ss, s.2.1.length ≤ 500) (hlast : (M73.app (M73.app w 0 ss) 0 tt).length ≤ 100000)
    (hm : M74.badL (min (w.length + M74.sg ss) F) ss tt = []) (hc : M74.Cl ((M74.I3 ss tt).map M74.iv) out)
    (h : P (patchD w.length (M74.res w ss tt out)) n) : U_chained [patchD w.length ss, patchD F tt] n P E := by
  have hML := M74.app_len two.g1
  have g2 : M73.Good F 0 tt := by
    have := two.g2
    rwa [hML, hF] at this
  have hbg := two.bg
  have hbm := hbg.mem
  have htm := two.g2.mem
  have up1 := (M74.good_up hbg).1
  have up2 := (M74.good_up g2).1
  have hbl : (M74.bk 0 ss).length = ss.length := by rw [bk_pb, List.length_map, pb_len]
  have hbz : ∀ s ∈ M74.bk 0 ss, s.2.1.length ≤ 1000 ∧ 0 ≤ s.1 ∧ s.1 ≤ 1000000 := fun s hs' => by
    have h := hbm s hs'
    rw [bk_pb] at hs'
    obtain ⟨p, hp, rfl⟩ := List.mem_map.mp hs'
    have := hz p.2 (pb_mem _ _ _ hp)
    refine ⟨by show p.2.2.2.length ≤ 1000; omega, h.1, ?_⟩
    have h : p.1 + (p.2.2.2.length : Int) ≤ (M73.app w 0 ss).length := h.2
    show p.1 ≤ 1000000
    omega
  have hbz2 : ∀ s ∈ M74.bk 0 ss, s.2.2.length ≤ 1000 := fun s hs' => by
    rw [bk_pb] at hs'
    obtain ⟨p, hp, rfl⟩ := List.mem_map.mp hs'
    have := hz1 p.2 (pb_mem _ _ _ hp)
    show p.2.2.1.length ≤ 1000
    omega
  unfold U_chained B_chained
  walk_at "d"
  refine u_need_chain (by omega) (by omega) (by omega) (by omega) (fun s hs' => by have := hz s hs'; omega) (fun s hs' => by have := (hzt s hs').1; omega) two.g1 g2 (by omega) (fun _ _ => ?_) (fun _ _ z => absurd ⟨hm, hF⟩ z)
  walk_at "d"
  have hsl : (spotsD tt).length = tt.length := List.length_map ..
  have hpl := pb_len ss 0
  refine u_placed_behind (by omega) ?_
  walk_at "d"
  refine ⟨by first | omega | (rw [List.length_map, pb_len]; omega), lc_mapT pbD (fun p => .tup [.int p.1, .int (p.1 + p.2.2.2.length), .tup (row p.2.2.1)]) (fun p _ => ⟨_, rfl, fun n Q q => ?_⟩) ?_⟩
  · unfold spotD
    walk_at "d"
    exact q
  rw [← ch_bk, fld_spots]
  walk_at "d"
  refine ⟨by omega, lc_mapT spotD chD (fun s _ => ⟨_, rfl, fun n Q q => ?_⟩) ?_⟩
  · walk_at "d"
    exact q
  refine u_placed_behind (by omega) ?_
  walk_at "d"
  refine ⟨by first | omega | (rw [List.length_map, pb_len]; omega), lc_mapT pbD (fun p => .tup [.int p.1, .tup (row p.2.2.2)]) (fun p _ => ⟨_, rfl, fun n Q q => ?_⟩) ?_⟩
  · unfold spotD
    walk_at "d"
    exact q
  rw [← bp_bk]
  refine u_bytes_by_place (by omega) hbz up1 ?_
  refine ⟨by omega, lc_mapT spotD bp (fun s _ => ⟨_, rfl, fun n Q q => ?_⟩) ?_⟩
  · walk_at "d"
    exact q
  refine u_bytes_by_place (by omega) (fun s hs' => ⟨by have := (hzt s hs').1; omega, (htm s hs').1, by have := (htm s hs').2; omega⟩) up2 ?_
  have hI : (M74.I3 ss tt).map ivD = (M74.bk 0 ss ++ tt).map fun s => .tup [.int s.1, .int (M74.en s)] := by
    unfold M74.I3
    rw [List.map_append, List.map_append, List.map_map, List.map_map]
    rfl
  have hIl : (M74.I3 ss tt).length = ss.length + tt.length := by
    unfold M74.I3
    rw [List.length_append, List.length_map, List.length_map, hbl]
  rw [← List.map_append]
  refine ⟨by omega, by omega, lc_mapT chD (fun s => .tup [.int s.1, .int (M74.en s)]) (fun s _ => ⟨_, rfl, fun n Q q => ?_⟩) ?_⟩
  · walk_at "d"
    exact q
  rw [← hI]
  refine u_clustered (by omega) M74.I3_le fun out' hc' => ?_
  have hIle : ∀ x ∈ (M74.I3 ss tt).map M74.iv, x.1 ≤ x.2 := fun x hx => by
    obtain ⟨y, hy, rfl⟩ := List.mem_map.mp hx
    exact M74.I3_le y hy
  have eo : out'.map ivD = out.map spanD := by
    rw [M74.Cl.one hIle hc hc', List.map_map]
    rfl
  rw [eo]
  walk_at "d"
  refine for_inv (fun i δ n' => ∃ (s7 s8 s9 s10 s11 s12 s13 s14 s15 s16 : Option Sl), δ = [some (.sh (patchD w.length ss)), some (.sh (patchD F tt)), some (.sh (.lst ((M74.bk 0 ss).map chD))), some (.sh (.lst (tt.map chD))), some (.sh (dctI (M74.op (M74.bk 0 ss)))), some (.sh (dctI (M74.op tt))), some (.ow (spotsD (((out.take i).map (M74.spP w ss tt)).filter M74.ne))), s7, s8, s9, s10, s11, s12, s13, s14, s15, s16] ∧ n = n')
    ⟨_, _, _, _, _, _, _, _, _, _, rfl, rfl⟩ ?_ ?_
  · rintro i x _ _ N hx ⟨s7, s8, s9, s10, s11, s12, s13, s14, s15, s16, rfl, rfl⟩ hN
    obtain ⟨c, hc1, rfl⟩ := map_get hx
    have hcm := List.mem_of_getElem? hc1
    have hi := (List.getElem?_eq_some_iff.mp hc1).1
    have hb := two.bnd hc hcm
    have triB : ∀ s ∈ M74.bk 0 ss, M74.en s < c.1 ∨ (c.1 ≤ s.1 ∧ M74.en s ≤ c.2) ∨ c.2 < s.1 := fun s hs' => M74.Two.triB hc hcm hs'
    have triT : ∀ s ∈ tt, M74.en s < c.1 ∨ (c.1 ≤ s.1 ∧ M74.en s ≤ c.2) ∨ c.2 < s.1 := fun s hs' => M74.Two.triT hc hcm hs'
    refine ⟨_, rfl, ?_⟩
    unfold L_chained_1
    walk_at "d"
    refine u_filled_in (M := M73.app w 0 ss) (by omega) (by omega) hbz2 hb.1 hb.2.1 hb.2.2 (fun x x1 x2 x3 => (two.known hc hcm x1 x2).1 x3) up1 triB ?_
    refine u_filled_in (M := M73.app w 0 ss) (by omega) (by omega) (fun s hs' => by have := (hzt s hs').2; omega) hb.1 hb.2.1 hb.2.2 (fun x x1 x2 x3 => (two.known hc hcm x1 x2).2 x3) up2 triT ?_
    refine u_placed_behind (by omega) ?_
    walk_at "d"
    refine ⟨by omega, lc_map pbD (fun p => decide (p.1 + (p.2.2.2.length : Int) < c.1)) (fun p => .int (M74.gr p.2)) (fun p _ => ⟨_, rfl, fun n Q q => ?_, fun _ n Q q => ?_⟩) ?_⟩
    · unfold spotD spanD
      walk_at "d"
      exact q
    · walk_at "d"
      exact u_growth q
    have hsum := less_eq triB hb.2.1
    refine ⟨.int (-M74.sg (M74.K1 (M74.bk 0 ss) c)), ?_, ?_⟩
    · show (intsOf _).map _ = _
      rw [ints_map (fun p : Int × Spt => M74.gr p.2)]
      show some (D.int _) = _
      rw [hsum]
    have htk : out.take (i + 1) = out.take i ++ [c] := by rw [List.take_succ, hc1]; rfl
    have hcnt := out_cnt two hc
    have hln : (spotsD (((out.take i).map (M74.spP w ss tt)).filter M74.ne)).length < 16777216 := by
      have h1 := List.length_filter_le M74.ne ((out.take i).map (M74.spP w ss tt))
      rw [List.length_map, List.length_take] at h1
      rw [show (spotsD (((out.take i).map (M74.spP w ss tt)).filter M74.ne)).length = (((out.take i).map (M74.spP w ss tt)).filter M74.ne).length from List.length_map ..]
      omega
    have yes : M74.ne (M74.spP w ss tt c) = true → spotsD (((out.take i).map (M74.spP w ss tt)).filter M74.ne) ++ [spotD (M74.spP w ss tt c)] = spotsD (((out.take (i + 1)).map (M74.spP w ss tt)).filter M74.ne) := fun z => by
      rw [spots_snoc, htk, List.map_append, List.filter_append]
      congr 2
      show [M74.spP w ss tt c] = List.filter M74.ne [M74.spP w ss tt c]
      rw [List.filter_cons_of_pos z]
      rfl
    have esub : Dn.gSub [.int c.1, .int (-M74.sg (M74.K1 (M74.bk 0 ss) c))] = some (.int (c.1 + M74.sg (M74.K1 (M74.bk 0 ss) c))) := by
      show some (D.int (c.1 - -M74.sg (M74.K1 (M74.bk 0 ss) c))) = _
      congr 2
      omega
    rw [row_emp, row_emp]
    refine iteI (fun z => ?_) (fun z => iteI (fun z2 => ?_) (fun z2 => ?_))
    · refine ⟨.int c.1, rfl, _, esub, hln, ?_⟩
      have := yes (by show (!(_ && _)) = true; rw [show (M74.spP w ss tt c).2.1.isEmpty = false from z]; rfl)
      have e : spotD (M74.spP w ss tt c) = D.tup [.int (c.1 + M74.sg (M74.K1 (M74.bk 0 ss) c)), .tup (row (M74.fil (M73.app w 0 ss) c.1.toNat c.2.toNat (M74.K2 (M74.bk 0 ss) c))), .tup (row (M74.fil (M73.app w 0 ss) c.1.toNat c.2.toNat (M74.K2 tt c)))] := rfl
      rw [e] at this
      rw [this]
      exact hN _ _ ⟨_, _, _, _, _, _, _, _, _, _, rfl, rfl⟩
    · refine ⟨.int c.1, rfl, _, esub, hln, ?_⟩
      have := yes (by show (!(_ && _)) = true; rw [show (M74.spP w ss tt c).2.2.isEmpty = false from z2, Bool.and_false]; rfl)
      have e : spotD (M74.spP w ss tt c) = D.tup [.int (c.1 + M74.sg (M74.K1 (M74.bk 0 ss) c)), .tup (row (M74.fil (M73.app w 0 ss) c.1.toNat c.2.toNat (M74.K2 (M74.bk 0 ss) c))), .tup (row (M74.fil (M73.app w 0 ss) c.1.toNat c.2.toNat (M74.K2 tt c)))] := rfl
      rw [e] at this
      rw [this]
      exact hN _ _ ⟨_, _, _, _, _, _, _, _, _, _, rfl, rfl⟩
    · have : M74.ne (M74.spP w ss tt c) = false := by
        show (!((M74.fil (M73.app w 0 ss) c.1.toNat c.2.toNat (M74.K2 (M74.bk 0 ss) c)).isEmpty && (M74.fil (M73.app w 0 ss) c.1.toNat c.2.toNat (M74.K2 tt c)).isEmpty)) = false
        rw [Bool.not_eq_false] at z z2
        rw [z, z2]
        rfl
      have e : ((out.take (i + 1)).map (M74.spP w ss tt)).filter M74.ne = ((out.take i).map (M74.spP w ss tt)).filter M74.ne := by
        rw [htk, List.map_append, List.filter_append]
        show _ ++ List.filter M74.ne [M74.spP w ss tt c] = _
        rw [List.filter_cons_of_neg (by rw [this]; exact Bool.false_ne_true)]
        exact List.append_nil _
      rw [← e]
      exact hN _ _ ⟨_, _, _, _, _, _, _, _, _, _, rfl, rfl⟩
  · rintro _ _ ⟨s7, s8, s9, s10, s11, s12, s13, s14, s15, s16, rfl, rfl⟩
    rw [List.length_map, List.take_length]
    have hgd := two.res_good bw hc
    have hsz := res_sizes two hc
    unfold R_chained_1
    walk_at "d"
    exact ⟨_, fld_length, u_Patch (by omega) (.inr rfl) hgd (fun s hs' => by have := hsz s hs'; omega) h⟩
end C75
namespace M75
open M73 M74
theorem up_sum {L : Int} : ∀ {l : List Spt} {fr : Int}, (l.Pairwise fun a b => en a < b.1) → (∀ s ∈ l, fr ≤ s.1 ∧ en s ≤ L) → fr ≤ L → fr ≤ L + sg l
  | [], fr, _, _, h => by
    show fr ≤ L + 0
    omega
  | s :: r, fr, h, hs, hf => by
    obtain ⟨h1, h2⟩ := List.pairwise_cons.mp h
    have h3 := hs s (.head _)
    have := up_sum (fr := en s) h2 (fun x hx => ⟨by have := h1 x hx; omega, (hs x (.tail _ hx)).2⟩) h3.2
    rw [sg_cons]
    unfold gr
    unfold en at this
    omega
def kf (ss : List Spt) (x : Int) : Option Int := if cov ss x = true then none else some (x + sg (bef ss x))
theorem kf_no {ss : List Spt} {x : Int} (h : cov ss x = true) : kf ss x = none := if_pos h
theorem kf_yes {ss : List Spt} {x : Int} (h : cov ss x = false) : kf ss x = some (x + sg (bef ss x)) := if_neg (by rw [h]; exact Bool.false_ne_true)
theorem cov_cons (s : Spt) (r : List Spt) (x : Int) : cov (s :: r) x = ((decide (s.1 ≤ x) && decide (x < en s)) || cov r x) := rfl
theorem bef_low {l : List Spt} {x : Int} (h : ∀ s ∈ l, x < en s) : bef l x = [] := fil_none fun s hs => decide_eq_false (by have := h s hs; omega)
theorem cov_low {l : List Spt} {x : Int} (h : ∀ s ∈ l, x < s.1) : cov l x = false := cov_no.mpr fun s hs q => by have := h s hs; omega
theorem kf_tail {s : Spt} {r : List Spt} {x : Int} (h : en s ≤ x) : kf (s :: r) x = (kf r x).map (· + gr s) := by
  have hc : cov (s :: r) x = cov r x := by
    rw [cov_cons, decide_eq_false (show ¬ x < en s by omega), Bool.and_false, Bool.false_or]
  have hb : bef (s :: r) x = s :: bef r x := List.filter_cons_of_pos (by exact decide_eq_true h)
  cases hq : cov r x with
  | true => rw [kf_no (hc.trans hq), kf_no hq]; rfl
  | false =>
    rw [kf_yes (hc.trans hq), kf_yes hq, hb, sg_cons]
    show some (x + (gr s + sg (bef r x))) = some (x + sg (bef r x) + gr s)
    congr 1
    omega
theorem kf_head {L fr : Int} {ss : List Spt} {x : Int} (g : Good L fr ss) (h : x < fr) : kf ss x = some x := by
  have hm := (good_up g).2
  rw [kf_yes (cov_low fun s hs => by have := hm s hs; omega), bef_low fun s hs => by have := hm s hs; have := en_ge s; omega]
  show some (x + 0) = _
  rw [Int.add_zero]
theorem ext_nil {w : List Int} {s : Spt} {r : List Spt} {fr : Int} {d : Nat} (g : Good w.length fr (s :: r)) (hd : (d : Int) ≤ fr) (ha : app w d (s :: r) = w.drop d) (hk : ∀ x : Int, (d : Int) ≤ x → x < w.length → kf (s :: r) x = some x) : False := by
  obtain ⟨g1, g2, g3, g4, g5, g6, g7⟩ := g
  have hes : en s = s.1 + s.2.1.length := rfl
  have h1 : s.2.1.length = 0 := Classical.byContradiction fun z => by
    have := hk s.1 (by omega) (by omega)
    rw [kf_no (by rw [cov_cons, decide_eq_true (Int.le_refl _), decide_eq_true (show s.1 < en s by omega)]; rfl)] at this
    cases this
  have h2 : s.2.2.length ≠ 0 := fun z => by
    rcases g6 with q | q
    · exact q (List.length_eq_zero_iff.mp h1)
    · exact q (List.length_eq_zero_iff.mp z)
  by_cases he : s.1 < w.length
  · have := hk s.1 (by omega) he
    rw [kf_tail (by omega), kf_head g7 (by omega)] at this
    have this : s.1 + gr s = s.1 := Option.some.inj this
    unfold gr at this
    omega
  · have hr : r = [] := by
      cases r with
      | nil => rfl
      | cons t r =>
        obtain ⟨q1, q2, q3, _⟩ := g7
        omega
    subst hr
    have := congrArg List.length ha
    rw [show app w d [s] = mid w d s.1.toNat ++ s.2.2 ++ w.drop (s.1.toNat + s.2.1.length) from rfl, List.length_append, List.length_append, mid_len w (by omega), List.length_drop, List.length_drop] at this
    omega
theorem ext_go {w : List Int} : ∀ {P P' : List Spt} {fr fr' : Int} {d : Nat}, Good w.length fr P → Good w.length fr' P' → (d : Int) ≤ fr → (d : Int) ≤ fr' → d ≤ w.length → Fits w P → Fits w P' → app w d P = app w d P' → (∀ x : Int, (d : Int) ≤ x → x < w.length → kf P x = kf P' x) → P = P'
  | [], [], _, _, _, _, _, _, _, _, _, _, _, _ => rfl
  | [], s :: r, fr, fr', d, g, g', hd, hd', hdl, f, f', ha, hk => (ext_nil g' hd' ha.symm fun x h1 h2 => by
    rw [← hk x h1 h2]
    show some (x + 0) = _
    rw [Int.add_zero]).elim
  | s :: r, [], fr, fr', d, g, g', hd, hd', hdl, f, f', ha, hk => (ext_nil g hd ha fun x h1 h2 => by
    rw [hk x h1 h2]
    show some (x + 0) = _
    rw [Int.add_zero]).elim
  | s :: r, s' :: r', fr, fr', d, g, g', hd, hd', hdl, f, f', ha, hk => by
    have g0 := g
    have g0' := g'
    obtain ⟨g1, g2, g3, g4, g5, g6, g7⟩ := g
    obtain ⟨q1, q2, q3, q4, q5, q6, q7⟩ := g'
    have hes : en s = s.1 + s.2.1.length := rfl
    have hes' : en s' = s'.1 + s'.2.1.length := rfl
    have one : ∀ (a b : Spt) (l m : List Spt), (∀ x : Int, (d : Int) ≤ x → x < w.length → kf (a :: l) x = kf (b :: m) x) → Good w.length (a.1 + a.2.1.length + 1) l → (a.2.1 ≠ [] ∨ a.2.2 ≠ []) → Good w.length b.1 (b :: m) → (d : Int) ≤ a.1 → b.1 ≤ w.length → ¬ a.1 < b.1 := fun a b l m hk ga ha gb hda hb z => by
      have hea : en a = a.1 + a.2.1.length := rfl
      have h1 := hk a.1 hda (by omega)
      rw [kf_head gb z] at h1
      by_cases y : a.2.1.length = 0
      · rw [kf_tail (by omega), kf_head ga (by omega)] at h1
        have h1 : a.1 + gr a = a.1 := Option.some.inj h1
        unfold gr at h1
        rcases ha with q | q
        · exact q (List.length_eq_zero_iff.mp y)
        · exact q (List.length_eq_zero_iff.mp (by omega))
      · rw [kf_no (by rw [cov_cons, decide_eq_true (Int.le_refl _), decide_eq_true (show a.1 < en a by omega)]; rfl)] at h1
        cases h1
    have gs : Good w.length s.1 (s :: r) := ⟨Int.le_refl _, g2, g3, g4, g5, g6, g7⟩
    have gs' : Good w.length s'.1 (s' :: r') := ⟨Int.le_refl _, q2, q3, q4, q5, q6, q7⟩
    have e1 : s.1 = s'.1 := by
      have a := one s s' r r' hk g7 g6 gs' (by omega) (by omega)
      have b := one s' s r' r (fun x h1 h2 => (hk x h1 h2).symm) q7 q6 gs (by omega) (by omega)
      omega
    have two : ∀ (a b : Spt) (l m : List Spt), (∀ x : Int, (d : Int) ≤ x → x < w.length → kf (a :: l) x = kf (b :: m) x) → Good w.length (a.1 + a.2.1.length + 1) l → (d : Int) ≤ a.1 → a.1 = b.1 → b.1 + b.2.1.length ≤ w.length → ¬ a.2.1.length < b.2.1.length := fun a b l m hk ga hda hab hb z => by
      have hea : en a = a.1 + a.2.1.length := rfl
      have heb : en b = b.1 + b.2.1.length := rfl
      have h1 := hk (en a) (by omega) (by omega)
      rw [kf_tail (Int.le_refl _), kf_head ga (by omega), kf_no (by rw [cov_cons, decide_eq_true (show b.1 ≤ en a by omega), decide_eq_true (show en a < en b by omega)]; rfl)] at h1
      cases h1
    have e2 : s.2.1.length = s'.2.1.length := by
      have a := two s s' r r' hk g7 (by omega) e1 q3
      have b := two s' s r' r (fun x h1 h2 => (hk x h1 h2).symm) q7 (by omega) e1.symm g3
      omega
    have e3 : s.2.1 = s'.2.1 := by
      rw [← f s (.head _), ← f' s' (.head _), e1, e2]
    have ha : mid w d s.1.toNat ++ s.2.2 ++ app w (s.1.toNat + s.2.1.length) r = mid w d s'.1.toNat ++ s'.2.2 ++ app w (s'.1.toNat + s'.2.1.length) r' := ha
    rw [← e1, ← e2, List.append_assoc, List.append_assoc] at ha
    have ha := List.append_cancel_left ha
    have e4 : s.2.2.length = s'.2.2.length := by
      by_cases he : en s < w.length
      · have h1 := hk (en s) (by omega) he
        rw [kf_tail (Int.le_refl _), kf_head g7 (by omega), kf_tail (by omega), kf_head q7 (by omega)] at h1
        have h1 : en s + gr s = en s + gr s' := Option.some.inj h1
        unfold gr at h1
        omega
      · have nil : ∀ (l : List Spt), Good w.length (s.1 + s.2.1.length + 1) l → l = [] := fun l gl => by
          cases l with
          | nil => rfl
          | cons t l =>
            obtain ⟨z1, z2, z3, _⟩ := gl
            omega
        rw [nil r g7, nil r' (by rw [e1, e2]; exact q7)] at ha
        have := congrArg List.length ha
        rw [List.length_append, List.length_append] at this
        omega
    obtain ⟨e5, e6⟩ := List.append_inj ha e4
    have ih := ext_go (d := s.1.toNat + s.2.1.length) g7 (by rw [← e1, ← e2] at q7; exact q7) (by omega) (by omega) (by omega) (fun x hx => f x (.tail _ hx)) (fun x hx => f' x (.tail _ hx)) e6 (fun x h1 h2 => by
      have h := hk x (by omega) h2
      rw [kf_tail (by omega), kf_tail (by omega)] at h
      have eg : gr s' = gr s := by unfold gr; omega
      rw [eg] at h
      cases a : kf r x with
      | none =>
        rw [a] at h
        cases b : kf r' x with
        | none => rfl
        | some v => rw [b] at h; cases h
      | some u =>
        rw [a] at h
        cases b : kf r' x with
        | none => rw [b] at h; cases h
        | some v =>
          rw [b] at h
          have h : u + gr s = v + gr s := Option.some.inj h
          congr 1
          omega)
    have es : s = s' := by
      obtain ⟨a, b, c⟩ := s
      obtain ⟨a', b', c'⟩ := s'
      have e1 : a = a' := e1
      have e3 : b = b' := e3
      have e5 : c = c' := e5
      rw [e1, e3, e5]
    rw [es, ih]
theorem ext {w : List Int} {P P' : List Spt} (g : Good w.length 0 P) (g' : Good w.length 0 P') (f : Fits w P) (f' : Fits w P') (ha : app w 0 P = app w 0 P') (hk : ∀ x : Int, 0 ≤ x → x < w.length → kf P x = kf P' x) : P = P' :=
  ext_go g g' (Int.le_refl _) (Int.le_refl _) (Nat.zero_le _) f f' ha hk
theorem pos_low {L : Int} {r : List Spt} {fr x : Int} (g : Good L fr r) (h : fr ≤ x) (hx : cov r x = false) : fr ≤ x + sg (bef r x) := by
  have hm := (good_up g).2
  exact up_sum ((good_up g).1.sublist List.filter_sublist) (fun s hs => by
    obtain ⟨a, b⟩ := List.mem_filter.mp hs
    have b := of_decide_eq_true b
    exact ⟨hm s a, b⟩) h
theorem bk_low {L : Int} {ss : List Spt} {fr sh : Int} (g : Good L fr ss) : ∀ b ∈ bk sh ss, fr + sh ≤ b.1 := fun b hb => (plc_low (sh := sh) g (b.1, en b) (by rw [bk_plc]; exact List.mem_map.mpr ⟨b, hb, rfl⟩)).1
theorem conv {L : Int} : ∀ {ss : List Spt} {fr sh x : Int}, Good L fr ss → cov ss x = false → cov (bk sh ss) (x + sh + sg (bef ss x)) = false ∧ sg (bef (bk sh ss) (x + sh + sg (bef ss x))) = -sg (bef ss x)
  | [], _, _, _, _, _ => ⟨rfl, rfl⟩
  | s :: r, fr, sh, x, g, hc => by
    have g0 := g
    obtain ⟨g1, g2, g3, g4, g5, g6, g7⟩ := g
    have hes : en s = s.1 + s.2.1.length := rfl
    have hm := (good_up g7).2
    have hn := cov_no.mp hc
    by_cases h : x < s.1
    · have hb : bef (s :: r) x = [] := bef_low fun t ht => by
        have := en_ge t
        rcases List.mem_cons.mp ht with rfl | ht
        · omega
        · have := hm t ht
          omega
      have low := bk_low (sh := sh) (L := L) (fr := s.1) (ss := s :: r) ⟨Int.le_refl _, g2, g3, g4, g5, g6, g7⟩
      rw [hb]
      have e : x + sh + sg [] = x + sh := Int.add_zero _
      rw [e]
      refine ⟨cov_low fun b hb => by have := low b hb; omega, ?_⟩
      rw [bef_low fun b hb => by have := low b hb; have := en_ge b; omega]
      rfl
    · have hx : en s ≤ x := by
        have := hn s (.head _)
        omega
      have hcr : cov r x = false := cov_no.mpr fun t ht => hn t (.tail _ ht)
      have hb : bef (s :: r) x = s :: bef r x := List.filter_cons_of_pos (by exact decide_eq_true hx)
      obtain ⟨i1, i2⟩ := conv (sh := sh + s.2.2.length - s.2.1.length) g7 hcr
      have hp : en s ≤ x + sg (bef r x) := by
        have gr' : Good L (en s) r := by
          cases r with
          | nil => trivial
          | cons t r =>
            obtain ⟨z1, z⟩ := g7
            exact ⟨by omega, z⟩
        exact pos_low gr' hx hcr
      have e : x + sh + sg (s :: bef r x) = x + (sh + s.2.2.length - s.2.1.length) + sg (bef r x) := by
        rw [sg_cons]
        unfold gr
        omega
      rw [hb, e]
      have hd : en (s.1 + sh, s.2.2, s.2.1) ≤ x + (sh + s.2.2.length - s.2.1.length) + sg (bef r x) := by
        show s.1 + sh + (s.2.2.length : Int) ≤ _
        omega
      constructor
      · show cov ((s.1 + sh, s.2.2, s.2.1) :: bk _ r) _ = false
        rw [cov_cons, i1, decide_eq_false (Int.not_lt.mpr hd), Bool.and_false, Bool.false_or]
      · have e2 : bef (bk sh (s :: r)) (x + (sh + s.2.2.length - s.2.1.length) + sg (bef r x)) = (s.1 + sh, s.2.2, s.2.1) :: bef (bk (sh + s.2.2.length - s.2.1.length) r) (x + (sh + s.2.2.length - s.2.1.length) + sg (bef r x)) := List.filter_cons_of_pos (by exact decide_eq_true hd)
        rw [e2, sg_cons, sg_cons, i2]
        unfold gr
        show (s.2.1.length : Int) - s.2.2.length + _ = _
        omega
theorem kf_back {L : Int} {ss : List Spt} {x y : Int} (g : Good L 0 ss) (h : kf ss x = some y) : kf (bk 0 ss) y = some x := by
  cases hc : cov ss x with
  | true => rw [kf_no hc] at h; cases h
  | false =>
    rw [kf_yes hc] at h
    have h := Option.some.inj h
    obtain ⟨a, b⟩ := conv (sh := 0) g hc
    rw [show x + 0 + sg (bef ss x) = y by omega] at a b
    rw [kf_yes a, b]
    congr 1
    omega
theorem bk_bk : ∀ (ss : List Spt) (sh : Int), bk (-sh) (bk sh ss) = ss
  | [], _ => rfl
  | s :: r, sh => by
    show (s.1 + sh + -sh, s.2.1, s.2.2) :: bk (-sh + s.2.1.length - s.2.2.length) (bk (sh + s.2.2.length - s.2.1.length) r) = s :: r
    rw [show -sh + (s.2.1.length : Int) - s.2.2.length = -(sh + s.2.2.length - s.2.1.length) by omega, bk_bk r, show s.1 + sh + -sh = s.1 by omega]
theorem bk_bk0 (ss : List Spt) : bk 0 (bk 0 ss) = ss := bk_bk ss 0
theorem home_pos {L : Int} : ∀ {ss : List Spt} {fr sh t : Int}, Good L fr ss → cov ss t = false → (∀ x, x ≤ t + sh + sg (bef ss t) → home sh ss x 1 ≤ t) ∧ ∀ y, t + sh + sg (bef ss t) < y → t < home sh ss y 0
  | [], _, sh, t, _, _ => by
    constructor
    · intro x h
      have h : x ≤ t + sh + 0 := h
      show x - sh ≤ t
      omega
    · intro y h
      have h : t + sh + 0 < y := h
      show t < y - sh
      omega
  | s :: r, fr, sh, t, g, hc => by
    have g0 := g
    obtain ⟨g1, g2, g3, g4, g5, g6, g7⟩ := g
    have hes : en s = s.1 + s.2.1.length := rfl
    have hm := (good_up g7).2
    have hn := cov_no.mp hc
    by_cases h1 : t < s.1
    · have hb : bef (s :: r) t = [] := bef_low fun u hu => by
        have := en_ge u
        rcases List.mem_cons.mp hu with rfl | hu
        · omega
        · have := hm u hu
          omega
      rw [hb]
      refine ⟨fun x h => ?_, fun y h => ?_⟩
      · have h : x ≤ t + sh + 0 := h
        show (if x < s.1 + sh then x - sh else _) ≤ t
        rw [if_pos (by omega)]
        omega
      · have h : t + sh + 0 < y := h
        have lo := home_low (x := y) (sh := sh + s.2.2.length - s.2.1.length) (w := 0) g7 (by omega) (by omega)
        show t < if y < s.1 + sh then y - sh else if y ≤ s.1 + sh + s.2.2.length then s.1 + s.2.1.length * 0 else home (sh + s.2.2.length - s.2.1.length) r y 0
        split
        · omega
        · split
          · omega
          · have := lo (by omega)
            omega
    · have hx : en s ≤ t := by
        have := hn s (.head _)
        omega
      have hcr : cov r t = false := cov_no.mpr fun u hu => hn u (.tail _ hu)
      have hb : bef (s :: r) t = s :: bef r t := List.filter_cons_of_pos (by exact decide_eq_true hx)
      obtain ⟨hu1, hu2⟩ := home_pos (sh := sh + s.2.2.length - s.2.1.length) g7 hcr
      have e : t + sh + sg (s :: bef r t) = t + (sh + s.2.2.length - s.2.1.length) + sg (bef r t) := by
        rw [sg_cons]
        unfold gr
        omega
      rw [hb, e]
      generalize t + (sh + s.2.2.length - s.2.1.length) + sg (bef r t) = u at hu1 hu2 ⊢
      have hq : s.1 + sh + s.2.2.length ≤ u := by
        refine Classical.byContradiction fun z => ?_
        have := hu2 (s.1 + sh + s.2.2.length) (by omega)
        rw [home_before g7 (by omega)] at this
        omega
      refine ⟨fun x h => ?_, fun y h => ?_⟩
      · show (if x < s.1 + sh then x - sh else if x ≤ s.1 + sh + s.2.2.length then s.1 + s.2.1.length * 1 else home (sh + s.2.2.length - s.2.1.length) r x 1) ≤ t
        split
        · omega
        · split
          · omega
          · exact hu1 x h
      · show t < if y < s.1 + sh then y - sh else if y ≤ s.1 + sh + s.2.2.length then s.1 + s.2.1.length * 0 else home (sh + s.2.2.length - s.2.1.length) r y 0
        split
        · omega
        · split
          · omega
          · exact hu2 y h
theorem cov_ne (l : List Spt) (x : Int) : cov (l.filter ne) x = cov l x := by
  induction l with
  | nil => rfl
  | cons s r ih =>
    cases h : ne s with
    | true => rw [List.filter_cons_of_pos h, cov_cons, cov_cons, ih]
    | false =>
      rw [List.filter_cons_of_neg (by rw [h]; exact Bool.false_ne_true), cov_cons, ih]
      have h : (s.2.1.isEmpty && s.2.2.isEmpty) = true := by
        unfold ne at h
        simpa using h
      rw [Bool.and_eq_true, List.isEmpty_iff, List.isEmpty_iff] at h
      have e : en s = s.1 := by
        unfold en
        rw [h.1]
        exact Int.add_zero _
      rw [e]
      by_cases z : s.1 ≤ x
      · rw [decide_eq_false (show ¬ x < s.1 by omega), Bool.and_false, Bool.false_or]
      · rw [decide_eq_false z, Bool.false_and, Bool.false_or]
theorem bef_ne (l : List Spt) (x : Int) : sg (bef (l.filter ne) x) = sg (bef l x) := by
  induction l with
  | nil => rfl
  | cons s r ih =>
    unfold bef at ih ⊢
    cases h : ne s with
    | true =>
      rw [List.filter_cons_of_pos h]
      by_cases z : en s ≤ x
      · rw [List.filter_cons_of_pos (by exact decide_eq_true z), List.filter_cons_of_pos (by exact decide_eq_true z), sg_cons, sg_cons, ih]
      · rw [List.filter_cons_of_neg (by rw [decide_eq_false z]; exact Bool.false_ne_true), List.filter_cons_of_neg (by rw [decide_eq_false z]; exact Bool.false_ne_true), ih]
    | false =>
      rw [List.filter_cons_of_neg (by rw [h]; exact Bool.false_ne_true), ih]
      have h : (s.2.1.isEmpty && s.2.2.isEmpty) = true := by
        unfold ne at h
        simpa using h
      rw [Bool.and_eq_true, List.isEmpty_iff, List.isEmpty_iff] at h
      by_cases z : en s ≤ x
      · rw [List.filter_cons_of_pos (by exact decide_eq_true z), sg_cons]
        unfold gr
        rw [h.1, h.2]
        show _ = (0 : Int) - 0 + _
        omega
      · rw [List.filter_cons_of_neg (by rw [decide_eq_false z]; exact Bool.false_ne_true)]
theorem sum_add {α : Type} (f g : α → Int) : ∀ l : List α, (l.map fun a => f a + g a).sum = (l.map f).sum + (l.map g).sum
  | [] => rfl
  | a :: l => by
    rw [List.map_cons, List.map_cons, List.map_cons, List.sum_cons, List.sum_cons, List.sum_cons, sum_add f g l]
    omega
theorem sum_zero {α : Type} (f : α → Int) : ∀ l : List α, (∀ a ∈ l, f a = 0) → (l.map f).sum = 0
  | [], _ => rfl
  | a :: l, h => by
    rw [List.map_cons, List.sum_cons, sum_zero f l fun b hb => h b (.tail _ hb), h a (.head _)]
    rfl
theorem sum_one {α : Type} {R : α → α → Prop} (f : α → Int) {c0 : α} (irr : ¬ R c0 c0) : ∀ l : List α, l.Pairwise R → c0 ∈ l → (∀ a ∈ l, a ≠ c0 → f a = 0) → (l.map f).sum = f c0
  | a :: l, hp, hm, h => by
    obtain ⟨h1, h2⟩ := List.pairwise_cons.mp hp
    rw [List.map_cons, List.sum_cons]
    rcases List.mem_cons.mp hm with rfl | hm
    · rw [sum_zero f l fun b hb => h b (.tail _ hb) fun e => irr (by have := h1 b hb; rwa [e] at this)]
      omega
    · rw [sum_one f irr l h2 hm fun b hb => h b (.tail _ hb), h a (.head _) fun e => irr (by have := h1 c0 hm; rwa [e] at this)]
      omega
def inn (c : Iv) (s : Spt) : Bool := decide (c.1 ≤ s.1) && decide (s.1 ≤ c.2)
theorem K2_cons (s : Spt) (r : List Spt) (c : Iv) : sg (K2 (s :: r) c) = (if inn c s = true then gr s else 0) + sg (K2 r c) := by
  unfold K2
  cases h : inn c s with
  | true =>
    rw [List.filter_cons_of_pos (by exact h), sg_cons, if_pos rfl]
  | false =>
    rw [List.filter_cons_of_neg (by show ¬ inn c s = true; rw [h]; exact Bool.false_ne_true), if_neg Bool.false_ne_true, Int.zero_add]
theorem part_sum {out : List Iv} (ok : ∀ c ∈ out, c.1 ≤ c.2) (up : out.Pairwise fun a b => a.2 < b.1) {u : Int} (hu : ∀ c ∈ out, ¬ (c.1 ≤ u ∧ u < c.2)) : ∀ l : List Spt, (∀ s ∈ l, ∃ c ∈ out, c.1 ≤ s.1 ∧ en s ≤ c.2) → ((out.filter fun c => decide (c.2 ≤ u)).map fun c => sg (K2 l c)).sum = sg (bef l u)
  | [], _ => sum_zero _ _ fun _ _ => rfl
  | s :: r, h => by
    have ih := part_sum ok up hu r fun x hx => h x (.tail _ hx)
    have hge := en_ge s
    obtain ⟨c0, hc0, q1, q2⟩ := h s (.head _)
    have uniq : ∀ c ∈ out, inn c s = true → c = c0 := fun c hc z => by
      unfold inn at z
      rw [Bool.and_eq_true, decide_eq_true_eq, decide_eq_true_eq] at z
      rcases sepI up hc hc0 with y | y | y
      · exact y
      · omega
      · omega
    have yes : inn c0 s = true := by
      unfold inn
      rw [decide_eq_true q1, decide_eq_true (show s.1 ≤ c0.2 by omega)]
      rfl
    have e1 : (fun c => sg (K2 (s :: r) c)) = fun c => (if inn c s = true then gr s else 0) + sg (K2 r c) := funext fun c => K2_cons s r c
    rw [e1, sum_add, ih]
    by_cases z : c0.2 ≤ u
    · rw [sum_one (R := fun a b => a.2 < b.1) (c0 := c0) _ (by have := ok c0 hc0; omega) _ (up.sublist List.filter_sublist) (List.mem_filter.mpr ⟨hc0, decide_eq_true z⟩) fun c hc ne => by
        rw [if_neg fun y => ne (uniq c (List.mem_filter.mp hc).1 y)], if_pos yes]
      have : bef (s :: r) u = s :: bef r u := List.filter_cons_of_pos (by exact decide_eq_true (show en s ≤ u by omega))
      rw [this, sg_cons]
    · rw [sum_zero _ _ fun c hc => by
        obtain ⟨a, b⟩ := List.mem_filter.mp hc
        have b := of_decide_eq_true b
        rw [if_neg fun y => z (by rw [← uniq c a y]; exact b)]]
      have hlt : ¬ en s ≤ u := fun y => hu c0 hc0 ⟨by omega, by omega⟩
      have : bef (s :: r) u = bef r u := List.filter_cons_of_neg (by rw [decide_eq_false hlt]; exact Bool.false_ne_true)
      rw [this, Int.zero_add]
section
variable {w : List Int} {ss tt : List Spt} {out : List Iv}
theorem bk_at (g : Good w.length 0 ss) {s : Spt} (hs : s ∈ ss) : ∃ b ∈ bk 0 ss, home 0 ss b.1 0 = s.1 ∧ home 0 ss (en b) 1 = en s := by
  have hp := home_plc (sh := 0) g
  have : (s.1, s.1 + (s.2.1.length : Int)) ∈ (plc 0 ss).map (fun p => (home 0 ss p.1 0, home 0 ss p.2 1)) := by
    rw [hp]
    exact List.mem_map.mpr ⟨s, hs, rfl⟩
  obtain ⟨p, hp1, e⟩ := List.mem_map.mp this
  rw [bk_plc] at hp1
  obtain ⟨b, hb, rfl⟩ := List.mem_map.mp hp1
  exact ⟨b, hb, congrArg Prod.fst e, congrArg Prod.snd e⟩
theorem gr_sp (h : Two w ss tt) (hc : Cl ((I3 ss tt).map iv) out) {c : Iv} (hcm : c ∈ out) : gr (spP w ss tt c) = sg (K2 tt c) + -sg (K2 (bk 0 ss) c) := by
  have l1 := (piece h.bg (h.bnd hc hcm) (fun s hs => Two.triB hc hcm hs)).2
  have l2 := (piece h.g2 (h.bnd hc hcm) (fun s hs => Two.triT hc hcm hs)).2
  show ((fil (app w 0 ss) c.1.toNat c.2.toNat (K2 tt c)).length : Int) - (fil (app w 0 ss) c.1.toNat c.2.toNat (K2 (bk 0 ss) c)).length = _
  omega
theorem comp (h : Two w ss tt) (hc : Cl ((I3 ss tt).map iv) out) (x : Int) : kf (res w ss tt out) x = (kf ss x).bind (kf tt) := by
  have mono : ∀ x y v w : Int, (v = 0 ∨ v = 1) → (w = 0 ∨ w = 1) → v ≤ w → x ≤ y → home 0 ss x v ≤ home 0 ss y w := fun x y v w a b c d => home_mono h.g1 a b c d
  have cin : ∀ b, (b ∈ bk 0 ss ∨ b ∈ tt) → ∃ c ∈ out, c.1 ≤ b.1 ∧ en b ≤ c.2 := fun b hb => by
    rcases hb with q | q
    · exact hc.cov (b.1, en b) (List.mem_map.mpr ⟨_, mem_I3.mpr (.inl ⟨b, q, rfl⟩), rfl⟩)
    · exact hc.cov (b.1, en b) (List.mem_map.mpr ⟨_, mem_I3.mpr (.inr ⟨b, q, rfl⟩), rfl⟩)
  have ecov : cov (res w ss tt out) x = cov (out.map (spP w ss tt)) x := cov_ne _ x
  have ebef : sg (bef (res w ss tt out) x) = sg (bef (out.map (spP w ss tt)) x) := bef_ne _ x
  cases hs : cov ss x with
  | true =>
    rw [kf_no hs]
    show _ = none
    refine kf_no ?_
    rw [ecov]
    unfold cov at hs
    obtain ⟨s, hs1, hs2⟩ := List.any_eq_true.mp hs
    rw [Bool.and_eq_true, decide_eq_true_eq, decide_eq_true_eq] at hs2
    obtain ⟨b, hb, b1, b2⟩ := bk_at h.g1 hs1
    obtain ⟨c, hcm, q1, q2⟩ := cin b (.inl hb)
    obtain ⟨p1, p2⟩ := h.pos hc hcm
    have m1 := mono c.1 b.1 0 0 (.inl rfl) (.inl rfl) (by decide) q1
    have m2 := mono (en b) c.2 1 1 (.inr rfl) (.inr rfl) (by decide) q2
    cases hq : cov (out.map (spP w ss tt)) x with
    | true => rfl
    | false =>
      have := cov_no.mp hq _ (List.mem_map.mpr ⟨c, hcm, rfl⟩)
      omega
  | false =>
    obtain ⟨u1, u2⟩ := home_pos (sh := 0) h.g1 hs
    obtain ⟨v1, v2⟩ := conv (sh := 0) h.g1 hs
    rw [kf_yes hs]
    show _ = kf tt (x + sg (bef ss x))
    have eu : x + 0 + sg (bef ss x) = x + sg (bef ss x) := by omega
    rw [eu] at u1 u2 v1 v2
    generalize hu : x + sg (bef ss x) = u at u1 u2 v1 v2 ⊢
    have side : ∀ c ∈ out, (home 0 ss c.1 0 ≤ x ↔ c.1 ≤ u) ∧ (x < home 0 ss c.2 1 ↔ u < c.2) := fun c hcm => by
      refine ⟨⟨fun z => Classical.byContradiction fun y => ?_, fun z => ?_⟩, ⟨fun z => Classical.byContradiction fun y => ?_, fun z => ?_⟩⟩
      · have := u2 c.1 (by omega)
        omega
      · have := u1 c.1 z
        have := mono c.1 c.1 0 1 (.inl rfl) (.inr rfl) (by decide) (Int.le_refl _)
        omega
      · have := u1 c.2 (by omega)
        omega
      · have := u2 c.2 z
        have := mono c.2 c.2 0 1 (.inl rfl) (.inr rfl) (by decide) (Int.le_refl _)
        omega
    have inside : (∃ c ∈ out, c.1 ≤ u ∧ u < c.2) ↔ cov tt u = true := by
      constructor
      · rintro ⟨c, hcm, a, b⟩
        obtain ⟨y, hy, q1, q2⟩ := hc.no c hcm u a b
        obtain ⟨z, hz, rfl⟩ := List.mem_map.mp hy
        have q1 : z.1 ≤ u := q1
        have q2 : u < z.2.1 := q2
        rcases mem_I3.mp hz with ⟨s, hs', rfl⟩ | ⟨s, hs', rfl⟩
        · exact absurd ⟨q1, q2⟩ (cov_no.mp v1 s hs')
        · cases hq : cov tt u with
          | true => rfl
          | false => exact absurd ⟨q1, q2⟩ (cov_no.mp hq s hs')
      · intro z
        unfold cov at z
        obtain ⟨s, hs1, hs2⟩ := List.any_eq_true.mp z
        rw [Bool.and_eq_true, decide_eq_true_eq, decide_eq_true_eq] at hs2
        obtain ⟨c, hcm, q1, q2⟩ := cin s (.inr hs1)
        exact ⟨c, hcm, by omega, by omega⟩
    have ecv : cov (out.map (spP w ss tt)) x = cov tt u := by
      cases hq : cov tt u with
      | true =>
        obtain ⟨c, hcm, a, b⟩ := inside.mpr hq
        obtain ⟨p1, p2⟩ := h.pos hc hcm
        obtain ⟨s1, s2⟩ := side c hcm
        cases hr : cov (out.map (spP w ss tt)) x with
        | true => rfl
        | false =>
          have := cov_no.mp hr _ (List.mem_map.mpr ⟨c, hcm, rfl⟩)
          rw [p1, p2] at this
          exact absurd ⟨s1.mpr a, s2.mpr b⟩ this
      | false =>
        refine cov_no.mpr fun s hs' q => ?_
        obtain ⟨c, hcm, rfl⟩ := List.mem_map.mp hs'
        obtain ⟨p1, p2⟩ := h.pos hc hcm
        obtain ⟨s1, s2⟩ := side c hcm
        rw [p1, p2] at q
        rw [inside.mp ⟨c, hcm, s1.mp q.1, s2.mp q.2⟩] at hq
        cases hq
    cases hq : cov tt u with
    | true => rw [kf_no hq, kf_no (ecov.trans (ecv.trans hq))]
    | false =>
      rw [kf_yes hq, kf_yes (ecov.trans (ecv.trans hq)), ebef]
      congr 1
      have out_u : ∀ c ∈ out, ¬ (c.1 ≤ u ∧ u < c.2) := fun c hcm z => by
        rw [inside.mp ⟨c, hcm, z⟩] at hq
        cases hq
      have e1 : bef (out.map (spP w ss tt)) x = (out.filter fun c => decide (c.2 ≤ u)).map (spP w ss tt) := by
        unfold bef
        rw [List.filter_map]
        congr 1
        refine List.filter_congr fun c hcm => ?_
        obtain ⟨p1, p2⟩ := h.pos hc hcm
        obtain ⟨s1, s2⟩ := side c hcm
        show decide (en (spP w ss tt c) ≤ x) = decide (c.2 ≤ u)
        rw [decide_eq_decide, p2]
        omega
      have e2 : sg ((out.filter fun c => decide (c.2 ≤ u)).map (spP w ss tt)) = ((out.filter fun c => decide (c.2 ≤ u)).map fun c => sg (K2 tt c)).sum + ((out.filter fun c => decide (c.2 ≤ u)).map fun c => -sg (K2 (bk 0 ss) c)).sum := by
        unfold sg
        rw [List.map_map, ← sum_add]
        congr 1
        refine List.map_congr_left fun c hcm => ?_
        exact gr_sp h hc (List.mem_filter.mp hcm).1
      have neg : ∀ l : List Iv, (l.map fun c => -sg (K2 (bk 0 ss) c)).sum = -(l.map fun c => sg (K2 (bk 0 ss) c)).sum := fun l => by
        induction l with
        | nil => rfl
        | cons a l ih =>
          rw [List.map_cons, List.map_cons, List.sum_cons, List.sum_cons, ih]
          omega
      rw [e1, e2, neg, part_sum hc.ok hc.up out_u tt fun s hs' => cin s (.inr hs'), part_sum hc.ok hc.up out_u (bk 0 ss) fun s hs' => cin s (.inl hs'), v2]
      omega
end
theorem cl_perm {I I' out : List Iv} (h : Cl I out) (p : I.Perm I') : Cl I' out := h.of_mem fun _ => p.mem_iff
theorem cl_ex (ss tt : List Spt) : ∃ out, Cl ((I3 ss tt).map iv) out := by
  have hp := List.mergeSort_perm (I3 ss tt) fun a b => decide (a.1 ≤ b.1)
  have hs := List.pairwise_mergeSort (le := fun a b : Int × Int × Int => decide (a.1 ≤ b.1)) (fun a b c h1 h2 => by
    rw [decide_eq_true_eq] at *
    omega) (fun a b => by
    rw [Bool.or_eq_true, decide_eq_true_eq, decide_eq_true_eq]
    omega) (I3 ss tt)
  have := mrg_ok (fun x hx => I3_le x (hp.mem_iff.mp hx)) (hs.imp fun {a b} z => of_decide_eq_true z)
  exact ⟨_, cl_perm this.cl (hp.map _)⟩
noncomputable def clu (ss tt : List Spt) : List Iv := Classical.choose (cl_ex ss tt)
theorem clu_ok (ss tt : List Spt) : Cl ((I3 ss tt).map iv) (clu ss tt) := Classical.choose_spec (cl_ex ss tt)
noncomputable def jn (w : List Int) (P Q : List Spt) : List Spt := res w P Q (clu P Q)
structure Pt (w w' : List Int) (P : List Spt) : Prop where
  b : Bts w
  g : Good w.length 0 P
  f : Fits w P
  a : app w 0 P = w'
section
variable {w w' w'' : List Int} {P Q R : List Spt}
theorem Pt.b' (h : Pt w w' P) : Bts w' := by
  rw [← h.a]
  exact bts_app2 h.b P 0 fun s hs => (Good.bts h.g s hs).2
theorem Pt.len (h : Pt w w' P) : (w'.length : Int) = w.length + sg P := by
  rw [← h.a]
  exact app_len h.g
theorem Pt.two (h : Pt w w' P) (k : Pt w' w'' Q) : Two w P Q := ⟨h.g, h.f, by rw [h.a]; exact k.g, by rw [h.a]; exact k.f⟩
theorem Pt.one (h : Pt w w' P) (k : Pt w w' Q) (e : ∀ x : Int, 0 ≤ x → x < w.length → kf P x = kf Q x) : P = Q := ext h.g k.g h.f k.f (by rw [h.a, k.a]) e
theorem Pt.jn (h : Pt w w' P) (k : Pt w' w'' Q) : Pt w w'' (jn w P Q) := by
  have two := h.two k
  have hc := clu_ok P Q
  refine ⟨h.b, two.res_good h.b hc, two.res_fits hc, ?_⟩
  show app w 0 (res w P Q (clu P Q)) = w''
  rw [two.res_app hc, h.a, k.a]
theorem Pt.kf_jn (h : Pt w w' P) (k : Pt w' w'' Q) (x : Int) : kf (M75.jn w P Q) x = (kf P x).bind (kf Q) := comp (h.two k) (clu_ok P Q) x
theorem Pt.bk (h : Pt w w' P) : Pt w' w (M74.bk 0 P) := by
  have e := h.a
  subst e
  refine ⟨h.b', ?_, bk_fits h.g, back_app h.g h.f⟩
  have := bk_good (sh := 0) h.g (by omega)
  rw [app_len h.g]
  rw [show (w.length : Int) + 0 + sg P = w.length + sg P by omega] at this
  exact this
theorem kf_bk {L L' : Int} (g : Good L 0 P) (g' : Good L' 0 (M74.bk 0 P)) (x y : Int) : kf (M74.bk 0 P) y = some x ↔ kf P x = some y := by
  constructor
  · intro h
    have := kf_back g' h
    rwa [bk_bk0] at this
  · exact kf_back g
theorem opt_eq {a b : Option Int} (h : ∀ x, a = some x ↔ b = some x) : a = b := by
  cases a with
  | none =>
    cases b with
    | none => rfl
    | some v => exact ((h v).mpr rfl)
  | some u => exact ((h u).mp rfl).symm
theorem pt_nil (b : Bts w) : Pt w w [] := ⟨b, trivial, (fun _ h => by cases h), rfl⟩
theorem kf_nil (x : Int) : kf [] x = some x := by
  show some (x + 0) = _
  rw [Int.add_zero]
theorem Pt.nil_jn (h : Pt w w' P) : M75.jn w [] P = P := ((pt_nil h.b).jn h).one h fun x _ _ => by
  rw [(pt_nil h.b).kf_jn h, kf_nil]
  rfl
theorem Pt.jn_nil (h : Pt w w' P) : M75.jn w P [] = P := (h.jn (pt_nil h.b')).one h fun x _ _ => by
  rw [h.kf_jn (pt_nil h.b')]
  cases kf P x with
  | none => rfl
  | some u => exact kf_nil u
def seen (P : List Spt) : List Spt := (P.filter fun s => !s.2.1.isEmpty).map fun s => (s.1, s.2.1, s.2.1)
theorem seen_app : ∀ {P : List Spt} {fr : Int} {d : Nat}, Good w.length fr P → Fits w P → (d : Int) ≤ fr → d ≤ w.length → app w d (seen P) = w.drop d
  | [], _, _, _, _, _, _ => rfl
  | s :: r, fr, d, g, f, hd, hdl => by
    obtain ⟨g1, g2, g3, g4, g5, g6, g7⟩ := g
    have fr' : Fits w r := fun x hx => f x (.tail _ hx)
    cases hq : (!s.2.1.isEmpty) with
    | true =>
      have e : seen (s :: r) = (s.1, s.2.1, s.2.1) :: seen r := by
        unfold seen
        rw [List.filter_cons_of_pos (by exact hq)]
        rfl
      rw [e]
      have ih := seen_app (d := s.1.toNat + s.2.1.length) g7 fr' (by omega) (by omega)
      show mid w d s.1.toNat ++ s.2.1 ++ app w (s.1.toNat + s.2.1.length) (seen r) = w.drop d
      have hf := f s (.head _)
      have e5 : w.drop s.1.toNat = s.2.1 ++ w.drop (s.1.toNat + s.2.1.length) := by
        have := List.take_append_drop s.2.1.length (w.drop s.1.toNat)
        rw [hf, List.drop_drop] at this
        exact this.symm
      rw [ih, drop_split w (show d ≤ s.1.toNat by omega), e5, List.append_assoc]
    | false =>
      have e : seen (s :: r) = seen r := by
        unfold seen
        rw [List.filter_cons_of_neg (by rw [hq]; exact Bool.false_ne_true)]
      rw [e]
      exact seen_app g7 fr' (by omega) hdl
theorem seen_good {L : Int} : ∀ {P : List Spt} {fr : Int}, Good L fr P → Good L fr (seen P)
  | [], _, _ => trivial
  | s :: r, fr, g => by
    obtain ⟨g1, g2, g3, g4, g5, g6, g7⟩ := g
    have ih := seen_good g7
    cases hq : (!s.2.1.isEmpty) with
    | true =>
      have e : seen (s :: r) = (s.1, s.2.1, s.2.1) :: seen r := by
        unfold seen
        rw [List.filter_cons_of_pos (by exact hq)]
        rfl
      rw [e]
      refine ⟨g1, g2, g3, g4, g4, ?_, ih⟩
      have : s.2.1 ≠ [] := fun z => by rw [z] at hq; cases hq
      exact .inl this
    | false =>
      have e : seen (s :: r) = seen r := by
        unfold seen
        rw [List.filter_cons_of_neg (by rw [hq]; exact Bool.false_ne_true)]
      rw [e]
      generalize seen r = l at ih
      cases l with
      | nil => trivial
      | cons t l =>
        obtain ⟨z1, z⟩ := ih
        exact ⟨by omega, z⟩
theorem seen_fits (f : Fits w P) : Fits w (seen P) := fun s hs => by
  obtain ⟨t, ht, rfl⟩ := List.mem_map.mp hs
  exact f t (List.mem_filter.mp ht).1
theorem seen_cov (P : List Spt) (x : Int) : cov (seen P) x = cov P x := by
  cases hq : cov P x with
  | false =>
    refine cov_no.mpr fun s hs => ?_
    obtain ⟨t, ht, rfl⟩ := List.mem_map.mp hs
    exact cov_no.mp hq t (List.mem_filter.mp ht).1
  | true =>
    unfold cov at hq
    obtain ⟨t, ht, h⟩ := List.any_eq_true.mp hq
    rw [Bool.and_eq_true, decide_eq_true_eq, decide_eq_true_eq] at h
    cases hr : cov (seen P) x with
    | true => rfl
    | false =>
      have hne : (!t.2.1.isEmpty) = true := by
        cases hh : t.2.1 with
        | nil =>
          have : en t = t.1 := by
            unfold en
            rw [hh]
            exact Int.add_zero _
          omega
        | cons a b => rfl
      exact absurd h (cov_no.mp hr (t.1, t.2.1, t.2.1) (List.mem_map.mpr ⟨t, List.mem_filter.mpr ⟨ht, hne⟩, rfl⟩))
theorem seen_sg (P : List Spt) (x : Int) : sg (bef (seen P) x) = 0 := by
  unfold sg
  refine sum_zero _ _ fun s hs => ?_
  obtain ⟨t, _, rfl⟩ := List.mem_map.mp (List.mem_filter.mp hs).1
  show ((t.2.1.length : Nat) : Int) - t.2.1.length = 0
  omega
theorem Pt.seen (h : Pt w w' P) : Pt w w (M75.seen P) := ⟨h.b, seen_good h.g, seen_fits h.f, by
  have := seen_app (d := 0) h.g h.f (Int.le_refl _) (Nat.zero_le _)
  rw [this, List.drop_zero]⟩
theorem Pt.jn_bk (h : Pt w w' P) : M75.jn w P (M74.bk 0 P) = M75.seen P := (h.jn h.bk).one h.seen fun x _ _ => by
  rw [h.kf_jn h.bk]
  cases hq : cov P x with
  | true =>
    rw [kf_no hq, kf_no ((seen_cov P x).trans hq)]
    rfl
  | false =>
    have e := kf_yes hq
    rw [kf_yes ((seen_cov P x).trans hq), seen_sg, Int.add_zero]
    have := kf_back h.g e
    rw [e]
    exact this
theorem Pt.meet (h : Pt w w' P) (k : Pt w' w'' Q) (least : Int) : badL least P Q = [] := by
  unfold badL
  rw [fil_none fun p hp => ?_]
  · rfl
  have h1 := fits_op h.bk.f (fun s hs => (h.bk.g.mem s hs).1) (show (p.1, p.2) ∈ _ from hp)
  have e : wt Q p.1 p.2 = p.2 := by
    unfold wt
    cases hl : look (op Q) p.1 with
    | none => rfl
    | some c =>
      have h2 := fits_op k.f (fun s hs => (k.g.mem s hs).1) ((look_some (asc_op (good_up k.g).1)).mp hl)
      have := h1.2.symm.trans h2.2
      exact (Option.some.inj this).symm
  rw [decide_eq_false (show ¬ wt Q p.1 p.2 ≠ p.2 from fun z => z e), Bool.and_false]
theorem Pt.news (h : Pt w w' P) : ∀ s ∈ P, s.2.1.length ≤ w.length ∧ s.2.2.length ≤ w'.length := fun s hs => by
  refine ⟨by have := h.g.mem s hs; omega, ?_⟩
  have hb := bk_bk0 P
  have : ∀ (l : List Spt) (sh : Int), ∀ s ∈ M74.bk sh l, ∃ t ∈ l, t.2.1 = s.2.2 := fun l => by
    induction l with
    | nil => intro sh s hs; cases hs
    | cons a r ih =>
      intro sh s hs
      rcases List.mem_cons.mp hs with rfl | hs
      · exact ⟨a, .head _, rfl⟩
      · obtain ⟨t, ht, e⟩ := ih _ s hs
        exact ⟨t, .tail _ ht, e⟩
  rw [← hb] at hs
  obtain ⟨t, ht, e⟩ := this _ _ s hs
  have := h.bk.g.mem t ht
  rw [← e]
  omega
end
def Chn : List Int → List Int → List (List Int × List Spt) → Prop
  | w, z, [] => w = z
  | w, z, p :: t => p.1 = w ∧ ∃ w', Pt w w' p.2 ∧ w'.length ≤ 400 ∧ Chn w' z t
def kfl : List (List Int × List Spt) → Int → Option Int
  | [], x => some x
  | p :: t, x => (kf p.2 x).bind (kfl t)
theorem kfl_app : ∀ (a b : List (List Int × List Spt)) (x : Int), kfl (a ++ b) x = (kfl a x).bind (kfl b)
  | [], b, x => rfl
  | p :: a, b, x => by
    show (kf p.2 x).bind (kfl (a ++ b)) = ((kf p.2 x).bind (kfl a)).bind (kfl b)
    cases kf p.2 x with
    | none => rfl
    | some u => exact kfl_app a b u
theorem chn_app : ∀ {a b : List (List Int × List Spt)} {w z : List Int}, Chn w z (a ++ b) ↔ ∃ m, Chn w m a ∧ Chn m z b
  | [], b, w, z => ⟨fun h => ⟨w, rfl, h⟩, fun ⟨m, h1, h2⟩ => by
    have h1 : w = m := h1
    rw [h1]
    exact h2⟩
  | p :: a, b, w, z => by
    constructor
    · rintro ⟨h1, w', h2, h3, h4⟩
      obtain ⟨m, h5, h6⟩ := chn_app.mp h4
      exact ⟨m, ⟨h1, w', h2, h3, h5⟩, h6⟩
    · rintro ⟨m, ⟨h1, w', h2, h3, h5⟩, h6⟩
      exact ⟨h1, w', h2, h3, chn_app.mpr ⟨m, h5, h6⟩⟩
theorem chn_len : ∀ {l : List (List Int × List Spt)} {w z : List Int}, Chn w z l → w.length ≤ 400 → ∀ {p}, p ∈ l → p.1.length ≤ 400
  | p :: t, w, z, ⟨h1, w', h2, h3, h4⟩, hw, q, hq => by
    rcases List.mem_cons.mp hq with rfl | hq
    · rw [h1]
      exact hw
    · exact chn_len h4 h3 hq
theorem chn_step {a b : List (List Int × List Spt)} {p q : List Int × List Spt} {w z : List Int} (h : Chn w z (a ++ p :: q :: b)) : Chn w z (a ++ (p.1, jn p.1 p.2 q.2) :: b) ∧ (∀ x, kfl (a ++ (p.1, jn p.1 p.2 q.2) :: b) x = kfl (a ++ p :: q :: b) x) ∧ ∃ w' w'', Pt p.1 w' p.2 ∧ q.1 = w' ∧ Pt w' w'' q.2 ∧ w'.length ≤ 400 ∧ w''.length ≤ 400 := by
  obtain ⟨m, h1, h2, w', h3, h4, h5, w'', h6, h7, h8⟩ := chn_app.mp h
  rw [← h2] at h3 h1
  refine ⟨chn_app.mpr ⟨p.1, h1, rfl, w'', ?_, h7, h8⟩, fun x => ?_, w', w'', h3, h5, ?_, h4, h7⟩
  · exact h3.jn h6
  · rw [kfl_app, kfl_app]
    cases kfl a x with
    | none => rfl
    | some u =>
      show (kf (jn p.1 p.2 q.2) u).bind (kfl b) = (kf p.2 u).bind fun v => (kf q.2 v).bind (kfl b)
      rw [h3.kf_jn h6]
      cases kf p.2 u with
      | none => rfl
      | some v => rfl
  · exact h6
def rvp (p : List Int × List Spt) : List Int × List Spt := (app p.1 0 p.2, bk 0 p.2)
def rvl (l : List (List Int × List Spt)) : List (List Int × List Spt) := l.reverse.map rvp
theorem rvl_cons (p : List Int × List Spt) (t : List (List Int × List Spt)) : rvl (p :: t) = rvl t ++ [rvp p] := by
  unfold rvl
  rw [List.reverse_cons, List.map_append]
  rfl
theorem rvl_ok : ∀ {l : List (List Int × List Spt)} {w z : List Int}, Chn w z l → w.length ≤ 400 → Chn z w (rvl l) ∧ ∀ x y, kfl (rvl l) y = some x ↔ kfl l x = some y
  | [], w, z, h, _ => ⟨(show w = z from h).symm, fun x y => by
    constructor
    · intro e
      have e : some y = some x := e
      exact e.symm
    · intro e
      have e : some x = some y := e
      exact e.symm⟩
  | p :: t, w, z, ⟨h1, w', h2, h3, h4⟩, hw => by
    obtain ⟨i1, i2⟩ := rvl_ok h4 h3
    have ep : rvp p = (w', bk 0 p.2) := by
      unfold rvp
      rw [h1, h2.a]
    rw [rvl_cons, ep]
    refine ⟨chn_app.mpr ⟨w', i1, rfl, w, h2.bk, hw, rfl⟩, fun x y => ?_⟩
    rw [kfl_app]
    constructor
    · intro e
      cases hu : kfl (rvl t) y with
      | none => rw [hu] at e; cases e
      | some u =>
        rw [hu] at e
        have e : (kf (bk 0 p.2) u).bind (kfl []) = some x := e
        have e2 : kf (bk 0 p.2) u = some x := by
          cases hv : kf (bk 0 p.2) u with
          | none => rw [hv] at e; cases e
          | some v => rw [hv] at e; exact e
        show (kf p.2 x).bind (kfl t) = some y
        rw [(kf_bk h2.g h2.bk.g x u).mp e2]
        exact (i2 u y).mp hu
    · intro e
      have e : (kf p.2 x).bind (kfl t) = some y := e
      cases hu : kf p.2 x with
      | none => rw [hu] at e; cases e
      | some u =>
        rw [hu] at e
        rw [(i2 u y).mpr e]
        show (kf (bk 0 p.2) u).bind (kfl []) = some x
        rw [(kf_bk h2.g h2.bk.g x u).mpr hu]
        rfl
def Lk (lines : List (List Int)) (l : List (List Int × List Spt)) : Prop := lines.length = l.length + 1 ∧ ∀ (k : Nat) p, l[k]? = some p → ∃ r, lines[k + 1]? = some r ∧ Pt p.1 r p.2 ∧ p.1.length ≤ 400 ∧ r.length ≤ 400
theorem lk_snoc {lines : List (List Int)} {l : List (List Int × List Spt)} {p : List Int × List Spt} {r : List Int} (h : Lk lines l) (hp : Pt p.1 r p.2) (h1 : p.1.length ≤ 400) (h2 : r.length ≤ 400) : Lk (lines ++ [r]) (l ++ [p]) := by
  obtain ⟨a, b⟩ := h
  refine ⟨by rw [List.length_append, List.length_append, a]; rfl, fun k q hq => ?_⟩
  by_cases hk : k < l.length
  · rw [List.getElem?_append_left hk] at hq
    obtain ⟨r', e, c⟩ := b k q hq
    exact ⟨r', by rw [List.getElem?_append_left (by omega)]; exact e, c⟩
  · rw [List.getElem?_append_right (by omega)] at hq
    have hk0 : k - l.length = 0 := by
      have := (List.getElem?_eq_some_iff.mp hq).1
      have : k - l.length < 1 := this
      omega
    rw [hk0] at hq
    have hq : p = q := Option.some.inj hq
    subst hq
    exact ⟨r, by rw [List.getElem?_append_right (by omega), show k + 1 - lines.length = 0 by omega]; rfl, hp, h1, h2⟩
end M75
namespace C75
open PySem L2 Br Dn Tr TL
local macro_rules | `(tactic| walk_at "d") => `(tactic| try simp only [dNeK, x_items, dLR1, dLR2, dMaxDef, dOrV, x_truN, x_truT, x_truL, dSortQ, dSortB, dPar5O, dPar6O, x_cdget1, dDc2, dc2In, x_isOO1, x_isOO2, x_isOO3, x_isOO4, x_isOO5, x_isOO6, x_isOO7, x_isOO8, dSortSetT, dSortT, dDc2, dc2In, dJn, gListK, dLIdx, x_ltR31, x_ltR32, x_ltR33, dPar4O, dSortSet, dDictC, dInR, dLenSet, dMakeK00, ixL, List.getD_cons_zero, List.getD_cons_succ, dMeth, dPar3O, dSortS, x_strT1, x_strT2, dIxD, dPart, dStripC, dEnds, x_ltT1, x_ltT2, x_gtT1, x_gtT2, x_enumL1, x_enumL2, dGet2, dLput, dLput2, dDictP, dNiR, dSortR, dStop, dLcX, lcGoX, dFldS, x_zip1, x_zip2, x_zip3, x_zip4, dScLen, dSortP, dMakeKX, dMakeKX0, insL, insAt, List.take_succ_cons, List.take_zero, List.drop_succ_cons, List.drop_zero, dDef, shP, x_ltR1, x_ltR2, dPar3, dTryN, dLc2, lc2In, gCDIn, gCDNotIn, gCDGet, gMulT, setQ, dTp, gIntS, gListS, gMulS, dSplit, dStarts, gCD, dSIdx, dPutO, dOwnD0, dSee, dIfO, dCallO0, dCallO, dActS, dRetS, dRetO, dDefS, dLamS, Sl.out, startD, dSeq, dNext, dSet, dSetO, dPar, dRet, dRetN, dIfS, dExpr, dAug, dVar, dC, dNil, dCons, dApp, dCall0, dCall, dAnd, dOr, dIf, dChain, dNew, dOwn, dSh, dOwnL, dOwnF, dUn, dBor, frz, frzB, dMut, dRaise, dTry, dIxO, dCat, dLam, dLamDef, dAct, y_isDict0, y_isDict1, y_isDict2, y_isDict3, y_isDict4, y_isDict5, y_isDict6, y_keys, y_revL, y_sum1, y_sum2, y_xf, y_isX, dMakeX, dMakeX0, dMakeK, dEqT, dLenO, dBorL, frzL, dDct0, y_isInt6, y_isBool6, y_isStr6, y_isTuple6, y_isList6, y_isSeq6, y_len4, y_inS, y_notInS, y_in1, y_in2, y_ne0, y_ne0L, y_eq0, y_isB, y_isNotB, y_revS, y_addN1, y_addN2, y_subN1, y_subN2, y_subN3, y_strN1, y_strN2, y_zipS, y_dget, y_dnotin, y_din, y_key1, y_key2, eqD_bl', dUnp, dGet1, dSortD, dJoin, dUpper, dDisp, dDispO, dUpd, dDc, x_tg3, x_setall1, dFst, dMake, dInit, dCmpO, dFor, dIt, dLc, wipeD, dSl, dNoB, dB, D.isN, D.flat, putD,
  x_add1, x_add2, x_add3, x_add4, x_i2, x_sub, x_lt, x_le, x_gt, x_ge, x_mod, x_div, x_pow, x_mul1, x_mul2, x_mul3, x_neg, x_not, x_tupl, x_list, x_len1, x_len2, x_len3, x_abs, x_min, x_max, x_int1, x_int2, x_tuple1, x_tuple2, x_listof1, x_listof2, x_iter1, x_iter2, x_iter3, x_range, x_range2, x_enum1, x_enum2, x_enum3, x_enumK, x_isi, x_isown, x_is, x_isnot, x_revT, x_sl1, x_sl2, x_sl3, x_ix1, x_ix2, x_ix3, x_fld, x_catL, x_append, x_extend1, x_extend2, x_insert, x_tg1, x_tg2, x_tg3, x_setall1, x_eq, x_ne, x_isInt0, x_isInt1, x_isInt2, x_isInt3, x_isInt4, x_isInt5, x_isBool0, x_isBool1, x_isBool2, x_isBool3, x_isBool4, x_isBool5, x_isStr0, x_isStr1, x_isStr2, x_isStr3, x_isStr4, x_isStr5, x_isTuple0, x_isTuple1, x_isTuple2, x_isTuple3, x_isTuple4, x_isTuple5, x_isList0, x_isList1, x_isList2, x_isList3, x_isList4, x_isList5, x_isSeq0, x_isSeq1, x_isSeq2, x_isSeq3, x_isSeq4, x_isSeq5, x_setall0,
  List.map_cons, List.map_nil, List.length_cons, List.length_nil, List.replicate_succ, List.replicate_zero, List.cons_append, List.nil_append, List.append_nil, Nat.reduceSub, Nat.reduceAdd, Nat.sub_self, Nat.zero_add, List.getElem?_cons_zero, List.getElem?_cons_succ, List.set_cons_zero, List.set_cons_succ, Option.some.injEq, Sl.sh.injEq, Sl.ow.injEq, D.bl.injEq, D.int.injEq, D.tup.injEq, D.lst.injEq, D.obj.injEq, exists_eq_left', exists_eq_left, true_and, and_true, Option.map_some, reduceCtorEq, if_true, if_false, ite_true, ite_false, Bool.not_true, Bool.not_false, decide_eq_true_eq, Bool.false_eq_true, eq_self_iff_true, List.mem_singleton, List.lookup, beq_self_eq_true, Bool.true_eq_false, atI0, atI1, atI2, atI3, atI4, eqD_int, eqD_str, eqD_row, eqD_row0, ex_if, sizeLine_eq, Nat.reduceLeDiff, row_len, row_app, row_cut, row_rev, Bool.not_eq_true', decide_eq_false_iff_not, List.length_map, List.length_append, Nat.reduceLT])
local macro_rules | `(tactic| walk_at "c") => `(tactic| repeat (first | assumption | rw [if_neg (by decide +kernel)] | rw [if_pos (by decide +kernel)] | refine ⟨by decide +kernel, ?_⟩ | refine ⟨⟨by decide, by decide⟩, ?_⟩ | refine ⟨_, rfl, ?_⟩))
section
variable {w w' w'' : List Int} {p q : List Spt}
theorem pt_cnt (h : M75.Pt w w' p) (hw : w.length ≤ 400) : p.length ≤ 401 := by
  have := M74.good_cnt h.g (by omega)
  omega
theorem u_chainedP {n : Nat} {P : D → Nat → Prop} {E : XD} (h : M75.Pt w w' p) (k : M75.Pt w' w'' q) (h1 : w.length ≤ 400) (h2 : w'.length ≤ 400) (h3 : w''.length ≤ 400) (hP : P (patchD w.length (M75.jn w p q)) n) : U_chained [patchD w.length p, patchD w'.length q] n P E := by
  have c1 := pt_cnt h h1
  have c2 := pt_cnt k h2
  have n1 := h.news
  have n2 := k.news
  exact u_chained (F := w'.length) (h.two k) h.len.symm h.b (by omega) (by omega) (by omega) (by omega) (fun s hs => by have := n1 s hs; omega) (fun s hs => by have := n2 s hs; omega) (fun s hs => by have := n1 s hs; omega) (by rw [h.a, k.a]; omega) (h.meet k _) (M75.clu_ok p q) hP
theorem u_fittedP {n : Nat} {P : D → Nat → Prop} {E : XD} (h : M75.Pt w w' p) (h1 : w.length ≤ 400) (h2 : w'.length ≤ 400) (hP : P (.tup (row w')) n) : U_fitted [patchD w.length p, .tup (row w)] n P E := by
  have c1 := pt_cnt h h1
  have n1 := h.news
  exact u_fitted (by omega) (by omega) (fun s hs => by have := n1 s hs; omega) h.g h.f (by rw [h.a]; exact hP)
theorem u_turned {n : Nat} {P : D → Nat → Prop} {E : XD} (h : M75.Pt w w' p) (h1 : w.length ≤ 400) (h2 : w'.length ≤ 400) (hP : P (patchD w'.length (M74.bk 0 p)) n) : U_turned_back [patchD w.length p] n P E := by
  have c1 := pt_cnt h h1
  have hpl := pb_len p 0
  have n1 := h.bk.news
  unfold U_turned_back B_turned_back
  walk_at "d"
  refine u_other_length (by omega) ?_
  walk_at "d"
  refine u_placed_behind (by omega) ?_
  walk_at "d"
  refine ⟨by first | omega | (rw [List.length_map, pb_len]; omega), lc_mapT pbD (fun x => .tup [.int x.1, .tup (row x.2.2.2), .tup (row x.2.2.1)]) (fun x _ => ⟨_, rfl, fun n Q q => ?_⟩) ?_⟩
  · unfold spotD
    walk_at "d"
    exact q
  have e : (pb 0 p).map (fun x => D.tup [.int x.1, .tup (row x.2.2.2), .tup (row x.2.2.1)]) = spotsD (M74.bk 0 p) := by
    unfold spotsD
    rw [bk_pb, List.map_map]
    rfl
  rw [e]
  walk_at "d"
  have hl := h.len
  rw [show (w.length : Int) + M74.sg p = w'.length by omega]
  exact u_Patch (by omega) (.inr rfl) h.bk.g (fun s hs => by have := n1 s hs; omega) hP
end
def patD (p : List Int × List Spt) : D := patchD p.1.length p.2
theorem u_in_groups {w z : List Int} {l : List (List Int × List Spt)} {n : Nat} {P : D → Nat → Prop} {E : XD} (h : M75.Chn w z l) (hw : w.length ≤ 400) (hl : l ≠ []) (hl8 : l.length ≤ 8) (hn : n ≤ 90000000)
    (hP : ∀ R n', M75.Pt w z R → (∀ x, M75.kf R x = M75.kfl l x) → n' ≤ n + 10 → P (patchD w.length R) n') : U__law_in_groups [.pen, .lst (l.map patD)] n P E := by
  have hll : (l.map patD).length = l.length := List.length_map ..
  unfold U__law_in_groups B__law_in_groups
  walk_at "d"
  refine while_inv (fun m δ n' => ∃ (l' : List (List Int × List Spt)) (s3 : Option Sl), m = l'.length ∧ δ = [some (.sh .pen), some (.sh (.lst (l.map patD))), some (.sh (.lst (l'.map patD))), s3] ∧ M75.Chn w z l' ∧ (∀ x, M75.kfl l' x = M75.kfl l x) ∧ l' ≠ [] ∧ l'.length ≤ 8 ∧ n' + l'.length ≤ n + 8) l.length ⟨l, none, rfl, rfl, h, fun _ => rfl, hl, hl8, by omega⟩ ?_
  rintro m _ n2 ⟨l', s3, rfl, rfl, hc, hk, hne, h8, hn2⟩
  have hll' : (l'.map patD).length = l'.length := List.length_map ..
  walk_at "d"
  refine iteI (fun h1 => ?_) (fun h1 => ?_)
  · have h1 : 1 < l'.length := by
      omega
    refine ⟨_, fun _ _ z => z, ?_⟩
    unfold L__law_in_groups_1
    walk_at "d"
    refine draw (δ := []) (by omega) (by omega) (by omega) fun r r0 r1 => ?_
    obtain ⟨p, hp⟩ : ∃ p, l'[r.toNat]? = some p := ⟨_, List.getElem?_eq_getElem (by omega)⟩
    obtain ⟨q, hq⟩ : ∃ p, l'[r.toNat + 1]? = some p := ⟨_, List.getElem?_eq_getElem (by omega)⟩
    have e : l' = l'.take r.toNat ++ p :: q :: l'.drop (r.toNat + 2) := by
      conv => lhs; rw [← List.take_append_drop r.toNat l', M73.drop_at' hp, M73.drop_at' hq]
    have hc0 := hc
    rw [e] at hc0
    obtain ⟨c1, c2, w', w'', c3, c4, c5, c6, c7⟩ := M75.chn_step hc0
    have hpl : p.1.length ≤ 400 := M75.chn_len hc hw (List.mem_of_getElem? hp)
    walk_at "d"
    have hat : ∀ (k : Nat) (v : List Int × List Spt), l'[k]? = some v → atI (l'.map patD) ((k : Nat) : Int) = some (patD v) := fun k v hv => by
      refine atI_get (by omega) ?_
      rw [show ((k : Nat) : Int).toNat = k by omega, List.getElem?_map, hv]
      rfl
    have er : r = ((r.toNat : Nat) : Int) := by omega
    have er1 : r + 1 = ((r.toNat + 1 : Nat) : Int) := by omega
    refine ⟨patD p, by rw [er]; exact hat _ _ hp, patD q, by rw [er1]; exact hat _ _ hq, ?_⟩
    have eq : patD q = patchD w'.length q.2 := by
      unfold patD
      rw [c4]
    rw [eq]
    refine u_chainedP c3 c5 hpl c6 c7 ?_
    have ea : cut (l'.map patD) none (some r) = (l'.take r.toNat).map patD := by rw [cut_to r0, List.map_take]
    have eb : cut (l'.map patD) (some (r + 2)) none = (l'.drop (r.toNat + 2)).map patD := by
      rw [cut_from (by omega), List.map_drop]
      congr 1
      omega
    rw [ea, eb]
    have en : (l'.take r.toNat).map patD ++ [patchD p.1.length (M75.jn p.1 p.2 q.2)] ++ (l'.drop (r.toNat + 2)).map patD = (l'.take r.toNat ++ (p.1, M75.jn p.1 p.2 q.2) :: l'.drop (r.toNat + 2)).map patD := by
      rw [List.map_append, List.append_assoc]
      rfl
    have hlen : (l'.take r.toNat ++ (p.1, M75.jn p.1 p.2 q.2) :: l'.drop (r.toNat + 2)).length + 1 = l'.length := by
      rw [List.length_append, List.length_cons, List.length_take, List.length_drop]
      omega
    rw [en]
    refine ⟨by rw [List.length_map, List.length_take]; omega, by rw [List.length_map, List.length_map, List.length_take, List.length_drop]; omega, _, ?_, l'.take r.toNat ++ (p.1, M75.jn p.1 p.2 q.2) :: l'.drop (r.toNat + 2), _, rfl, rfl, c1, fun x => (c2 x).trans (by rw [← e]; exact hk x), by simp, by omega, by omega⟩
    omega
  · have h1 : l'.length = 1 := by
      have : l'.length ≠ 0 := fun z => hne (List.length_eq_zero_iff.mp z)
      omega
    obtain ⟨p, rfl⟩ := List.length_eq_one_iff.mp h1
    obtain ⟨c1, w', c2, c3, c4⟩ := hc
    have c4 : w' = z := c4
    subst c4
    unfold R__law_in_groups_1
    walk_at "d"
    subst c1
    exact hP p.2 n2 c2 (fun x => by
      rw [← hk x]
      show M75.kf p.2 x = (M75.kf p.2 x).bind (M75.kfl [])
      cases M75.kf p.2 x <;> rfl) (by omega)
theorem u_joined_up {w z : List Int} {l : List (List Int × List Spt)} {n : Nat} {P : D → Nat → Prop} {E : XD} (h : M75.Chn w z l) (hw : w.length ≤ 400) (hl : l ≠ []) (hl8 : l.length ≤ 8)
    (hP : ∀ R, M75.Pt w z R → (∀ x, M75.kf R x = M75.kfl l x) → P (patchD w.length R) n) : U__law_joined_up [.lst (l.map patD)] n P E := by
  have hll : (l.map patD).length = l.length := List.length_map ..
  unfold U__law_joined_up B__law_joined_up
  walk_at "d"
  cases l with
  | nil => exact absurd rfl hl
  | cons p t =>
    have hpw : p.1 = w := h.1
    have ec : cut ((p :: t).map patD) (some 1) none = t.map patD := by
      rw [cut_from (by decide)]
      rfl
    refine ⟨patD p, atI_get (by decide) rfl, ?_⟩
    rw [ec]
    refine for_inv (fun i δ n' => ∃ (R : List Spt) (s2 : Option Sl), δ = [some (.sh (.lst ((p :: t).map patD))), some (.sh (patchD w.length R)), s2] ∧ M75.Chn w z ((w, R) :: t.drop i) ∧ (∀ x, M75.kfl ((w, R) :: t.drop i) x = M75.kfl (p :: t) x) ∧ n = n') ⟨p.2, none, by rw [← hpw]; rfl, by rw [List.drop_zero, ← hpw]; rw [← hpw] at h; exact h, fun x => rfl, rfl⟩ ?_ ?_
    · rintro i x _ _ N hx ⟨R, s2, rfl, hc, hk, rfl⟩ hN
      obtain ⟨q, hq, rfl⟩ := map_get hx
      rw [M73.drop_at' hq] at hc hk
      obtain ⟨c1, c2, w', w'', c3, c4, c5, c6, c7⟩ := M75.chn_step (a := []) hc
      refine ⟨_, rfl, ?_⟩
      unfold L__law_joined_up_1
      walk_at "d"
      have eq : patD q = patchD w'.length q.2 := by
        unfold patD
        rw [c4]
      rw [eq]
      refine u_chainedP c3 c5 hw c6 c7 ?_
      exact hN _ _ ⟨M75.jn w R q.2, _, rfl, c1, fun x => (c2 x).trans (hk x), rfl⟩
    · rintro _ _ ⟨R, s2, rfl, hc, hk, rfl⟩
      rw [List.length_map, List.drop_length] at hc hk
      obtain ⟨c1, w', c2, c3, c4⟩ := hc
      have c4 : w' = z := c4
      subst c4
      unfold R__law_joined_up_1
      walk_at "d"
      refine hP R c2 fun x => ?_
      rw [← hk x]
      show M75.kf R x = (M75.kf R x).bind (M75.kfl [])
      cases M75.kf R x <;> rfl
theorem u_are_seen {lines : List (List Int)} {l : List (List Int × List Spt)} {n : Nat} {P : D → Nat → Prop} {E : XD} (h : M75.Lk lines l) (hl : l.length ≤ 8) (hP : P (.bl true) n) : U__law_are_seen [.lst (l.map patD), .lst (lines.map fun r => .tup (row r))] n P E := by
  have hll : (l.map patD).length = l.length := List.length_map ..
  unfold U__law_are_seen B__law_are_seen
  walk_at "d"
  refine ⟨by omega, ?_⟩
  refine for_inv (fun i δ n' => ∃ (s2 s3 s4 s5 s6 s7 s8 : Option Sl), δ = [some (.sh (.lst (l.map patD))), some (.sh (.lst (lines.map fun r => .tup (row r)))), s2, s3, s4, s5, s6, s7, s8] ∧ n = n') ⟨_, _, _, _, _, _, _, rfl, rfl⟩ ?_ ?_
  · rintro i x _ _ N hx ⟨s2, s3, s4, s5, s6, s7, s8, rfl, rfl⟩ hN
    obtain ⟨hi, rfl⟩ := mem_intsD hx
    obtain ⟨p, hp⟩ : ∃ p, l[i]? = some p := ⟨_, List.getElem?_eq_getElem (by omega)⟩
    obtain ⟨r, hr, pt, l1, l2⟩ := h.2 i p hp
    have hcn := pt_cnt pt l1
    have hsl : (spotsD p.2).length = p.2.length := List.length_map ..
    refine ⟨_, rfl, ?_⟩
    unfold L__law_are_seen_1
    walk_at "d"
    rw [Int.zero_add]
    refine ⟨patD p, ?_, ?_⟩
    · refine atI_get (by omega) ?_
      rw [show ((i : Nat) : Int).toNat = i by omega, List.getElem?_map, hp]
      rfl
    unfold patD
    rw [fld_spots]
    walk_at "d"
    refine ⟨by omega, lc_map spotD (fun s => !s.2.1.isEmpty) (fun s => spotD (s.1, s.2.1, s.2.1)) (fun s _ => ⟨_, rfl, fun n Q q => ?_, fun _ n Q q => ?_⟩) ?_⟩
    · walk_at "d"
      rw [row_emp]
      exact q
    · walk_at "d"
      exact q
    have e : (p.2.filter fun s => !s.2.1.isEmpty).map (fun s => spotD (s.1, s.2.1, s.2.1)) = spotsD (M75.seen p.2) := by
      unfold M75.seen spotsD
      rw [List.map_map]
      rfl
    rw [e]
    walk_at "d"
    show U_turned_back [patchD p.1.length p.2] n _ _
    refine u_turned pt l1 l2 ?_
    refine u_chainedP pt pt.bk l1 l2 l1 ?_
    have hsd := pt.seen
    have hsn := hsd.news
    rw [pt.jn_bk, fld_length]
    refine ⟨_, rfl, u_Patch (by omega) (.inr rfl) hsd.g (fun s hs => by have := hsn s hs; omega) ?_⟩
    refine ⟨_, _, rfl, rfl, u_eq (L := p.1.length) (L' := p.1.length) (ss := M75.seen p.2) (tt := M75.seen p.2) ?_⟩
    refine ⟨true, by simp, ?_⟩
    rw [if_neg (by decide), fld_length]
    have hrl : (row r).length = r.length := List.length_map ..
    refine ⟨_, rfl, .tup (row r), ?_, .int r.length, ?_, .bl false, ?_, false, rfl, ?_⟩
    · refine atI_get (by omega) ?_
      rw [show ((i : Int) + 1).toNat = i + 1 by omega, List.getElem?_map, hr]
      rfl
    · show some (D.int ((row r).length : Nat)) = _
      rw [hrl]
    · rw [eqD_int, decide_eq_true rfl]
      rfl
    · rw [if_neg (by decide)]
      exact hN _ _ ⟨_, _, _, _, _, _, _, rfl, rfl⟩
  · rintro _ _ ⟨s2, s3, s4, s5, s6, s7, s8, rfl, rfl⟩
    unfold R__law_are_seen_1
    walk_at "d"
    exact hP
theorem sg_le3 : ∀ (ss : List Spt), (∀ s ∈ ss, s.2.2.length ≤ 3) → M74.sg ss ≤ 3 * ss.length
  | [], _ => by decide
  | s :: r, h => by
    have := sg_le3 r fun x hx => h x (.tail _ hx)
    have := h s (.head _)
    rw [M74.sg_cons, List.length_cons]
    unfold M74.gr
    omega
theorem u_fitA {ys : List Int} {ss : List Spt} {n : Nat} {P : D → Nat → Prop} {E : XD} (hl : ys.length ≤ 1000) (hs : ss.length ≤ 1000) (hz : ∀ s ∈ ss, s.2.2.length ≤ 1000) (g : M73.Good ys.length 0 ss) (h : P (.tup (row (M73.app ys 0 ss))) n) : U__law_fit [.tup (row ys), .tup (spotsD ss)] n P E :=
  u_fit hl hs (fun s hs' => (g.mem s hs').1) hz (by rw [fit_app g]; exact h)
theorem cmp_same {R R' : List Spt} {L : Int} (e : R = R') {n : Nat} {Q : D → Nat → Prop} (h : Q (.bl true) n) : ∃ fs gs, patchD L R = .obj "Patch" fs ∧ patchD L R' = .obj "Patch" gs ∧ U_Patch___eq__ [patchD L R, patchD L R'] n Q (fun _ _ _ => False) := by
  subst e
  exact ⟨_, _, rfl, rfl, u_eq (by simpa using h)⟩
theorem u_law : dLawS 12 1 B_law := by
  intro m hm
  unfold B_law
  walk_at "d"
  refine ⟨by decide, ?_⟩
  refine for_inv (fun i δ n' => n' ≤ 3000000 * i ∧ ∃ s2 s3 s4 s5 s6 s7 s8 s9 s10 s11 : Option Sl, δ = [some (.sh (.scr m)), some (.sh .pen), s2, s3, s4, s5, s6, s7, s8, s9, s10, s11]) ⟨Nat.zero_le _, _, _, _, _, _, _, _, _, _, _, rfl⟩ ?_ ?_
  · rintro i x _ n N hx ⟨hn, s2, s3, s4, s5, s6, s7, s8, s9, s10, s11, rfl⟩ hN
    obtain ⟨hi, rfl⟩ := mem_intsD hx
    have hi : i < 4 := by
      have : i < (4 : Int).toNat := hi
      omega
    refine ⟨_, rfl, ?_⟩
    unfold L_law_3
    walk_at "d"
    refine u_bytes (by omega) (by omega) (by omega) fun xs n1 bx lx hn1 => ?_
    walk_at "d"
    refine draw (δ := []) (by omega) (by omega) (by omega) fun q q0 q1 => ?_
    walk_at "d"
    refine ⟨by omega, ?_⟩
    refine for_inv (fun j δ n' => ∃ (ini : List (List Int)) (z : List Int) (l : List (List Int × List Spt)) (s6 s7 : Option Sl), δ = [some (.sh (.scr m)), some (.sh .pen), some (.sh (.int (0 + (i : Int)))), some (.sh (.tup (row xs))), some (.ow ((ini ++ [z]).map fun r => .tup (row r))), some (.ow (l.map patD)), s6, s7, s8, s9, s10, s11] ∧ M75.Chn xs z l ∧ M75.Lk (ini ++ [z]) l ∧ Bts z ∧ z.length ≤ 30 + 36 * j ∧ l.length = j ∧ n' ≤ n1 + 1 + 260000 * j)
      ⟨[], xs, [], s6, s7, rfl, rfl, ⟨rfl, fun k p hp => by simp at hp⟩, bx, by omega, rfl, by omega⟩ ?_ ?_
    · rintro j x _ n2 N' hx' ⟨ini, z, l, s6', s7', rfl, hc, hlk, bz, hz, hlj, hn2⟩ hN'
      obtain ⟨hj, rfl⟩ := mem_intsD hx'
      have hj : j < 7 := by omega
      have hat : atI ((ini ++ [z]).map fun r => D.tup (row r)) (-1) = some (.tup (row z)) := by
        rw [List.map_append]
        exact atI_last _ _
      have hll : (l.map patD).length = l.length := List.length_map ..
      refine ⟨_, rfl, ?_⟩
      unfold L_law_1
      walk_at "d"
      have hil : ini.length = j := by
        have := hlk.1
        rw [List.length_append] at this
        have this : ini.length + 1 = l.length + 1 := this
        omega
      refine ⟨-1, _, rfl, hat, ?_⟩
      refine u_spots (by omega) bz (by omega) fun ss n3 g f hsl hzz hn3 => ?_
      have h3 : ∀ s ∈ ss, s.2.2.length ≤ 3 := fun s hs => (hzz s hs).1
      have hsg := sg_le3 ss h3
      have hML := M74.app_len g
      have hrl : (row z).length = z.length := List.length_map ..
      have hpt : M75.Pt z (M73.app z 0 ss) ss := ⟨bz, g, f, rfl⟩
      refine ⟨-1, _, rfl, hat, .int z.length, by show some (D.int ((row z).length : Nat)) = _; rw [hrl], ?_⟩
      refine u_Patch (by omega) (.inr rfl) g (fun s hs => by have := hzz s hs; omega) ⟨by omega, -1, _, rfl, hat, ?_⟩
      refine u_fitA (by omega) (by omega) (fun s hs => by have := h3 s hs; omega) g ⟨by omega, ?_⟩
      have e1 : (ini ++ [z]).map (fun r => D.tup (row r)) ++ [.tup (row (M73.app z 0 ss))] = (ini ++ [z] ++ [M73.app z 0 ss]).map fun r => D.tup (row r) := by
        rw [List.map_append (l₁ := ini ++ [z])]
        rfl
      have e2 : l.map patD ++ [D.obj "Patch" [("length", .int z.length), ("spots", .tup (spotsD ss))]] = (l ++ [(z, ss)]).map patD := by
        rw [List.map_append]
        rfl
      rw [e1, e2]
      exact hN' _ _ ⟨ini ++ [z], M73.app z 0 ss, l ++ [(z, ss)], _, _, rfl, M75.chn_app.mpr ⟨z, hc, rfl, _, hpt, by omega, rfl⟩, M75.lk_snoc hlk hpt (show z.length ≤ 400 by omega) (by omega), hpt.b', by omega, by rw [List.length_append, hlj]; rfl, by rw [Nat.mul_succ, ← Nat.add_assoc]; exact Nat.le_trans (show n3 ≤ n2 + 260000 by omega) (Nat.add_le_add_right hn2 260000)⟩
    · rintro _ n2 ⟨ini, z, l, s6', s7', rfl, hc, hlk, bz, hz, hlj, hn2⟩
      rw [intsD_len] at hz hlj hn2
      unfold R_law_5
      walk_at "d"
      have hj8 : l.length ≤ 7 := by omega
      have hln : l ≠ [] := fun e => by
        rw [e] at hlj
        have : (0 : Nat) = (1 + q).toNat := hlj
        omega
      have hzl : z.length ≤ 282 := by omega
      have hn2' : n2 ≤ n1 + 1820001 := by omega
      refine u_joined_up hc (by omega) hln (by omega) fun W hW kW => ⟨by decide, ?_⟩
      have hwl : (row xs).length = xs.length := List.length_map ..
      refine for_inv (fun j δ n' => ∃ s9 : Option Sl, δ = [some (.sh (.scr m)), some (.sh .pen), some (.sh (.int (0 + (i : Int)))), some (.sh (.tup (row xs))), some (.ow ((ini ++ [z]).map fun r => .tup (row r))), some (.sh (.lst (l.map patD))), s6', s7', some (.sh (patchD xs.length W)), s9, s10, s11] ∧ n' ≤ n2 + 10 * j) ⟨_, rfl, by omega⟩ ?_ ?_
      · rintro j x _ n3 N' hx' ⟨s9', rfl, hn3⟩ hN'
        obtain ⟨hj, rfl⟩ := mem_intsD hx'
        have hj : j < 3 := by
          have : j < (3 : Int).toNat := hj
          omega
        refine ⟨_, rfl, ?_⟩
        unfold L_law_2
        walk_at "d"
        refine u_in_groups hc (by omega) hln (by omega) (by omega) fun R n4 hR kR hn4 => ?_
        have e : R = W := hR.one hW fun x _ _ => (kR x).trans (kW x).symm
        refine cmp_same e ⟨true, rfl, ?_⟩
        rw [if_neg (by decide)]
        exact hN' _ _ ⟨_, rfl, by omega⟩
      · rintro _ n3 ⟨s9', rfl, hn3⟩
        have hn3 : n3 ≤ n2 + 30 := by
          rw [intsD_len] at hn3
          exact hn3
        unfold R_law_4
        walk_at "d"
        refine u_turned hW (by omega) (by omega) ?_
        have hat : atI ((ini ++ [z]).map fun r => D.tup (row r)) (-1) = some (.tup (row z)) := by
          rw [List.map_append]
          exact atI_last _ _
        have hWb := hW.bk
        refine u_fittedP hW (by omega) (by omega) ?_
        refine ⟨-1, _, rfl, hat, .bl false, by rw [eqD_row, decide_eq_true rfl]; rfl, false, rfl, ?_⟩
        rw [if_neg (by decide)]
        refine ⟨-1, _, rfl, hat, ?_⟩
        refine u_fittedP hWb (by omega) (by omega) ?_
        refine ⟨.bl false, by rw [eqD_row, decide_eq_true rfl]; rfl, false, rfl, ?_⟩
        rw [if_neg (by decide)]
        refine u_turned hWb (by omega) (by omega) ?_
        refine cmp_same (M75.bk_bk0 W) ⟨true, rfl, ?_⟩
        rw [if_neg (by decide)]
        unfold R_law_3
        walk_at "d"
        have hrl : (l.map patD).reverse = l.reverse.map patD := (List.map_reverse ..).symm
        rw [hrl]
        refine ⟨by rw [List.length_map, List.length_reverse]; omega, lc_mapT patD (fun p => patD (M75.rvp p)) (fun p hp => ⟨_, rfl, fun n Q qq => ?_⟩) ?_⟩
        · obtain ⟨k, hk⟩ := List.mem_iff_getElem?.mp (List.mem_reverse.mp hp)
          obtain ⟨r, _, pt, l1, l2⟩ := hlk.2 k p hk
          have ea := pt.a
          subst ea
          walk_at "d"
          exact u_turned pt l1 l2 qq
        have er : l.reverse.map (fun p => patD (M75.rvp p)) = (M75.rvl l).map patD := by
          unfold M75.rvl
          rw [List.map_map]
          rfl
        rw [er]
        obtain ⟨rc, rk⟩ := M75.rvl_ok hc (by omega)
        have hrn : M75.rvl l ≠ [] := fun e => by
          have := congrArg List.length e
          unfold M75.rvl at this
          rw [List.length_map, List.length_reverse] at this
          exact hln (List.length_eq_zero_iff.mp this)
        refine u_in_groups rc (by omega) hrn (by unfold M75.rvl; rw [List.length_map, List.length_reverse]; omega) (by omega) fun R n4 hR kR hn4 => ?_
        have eR : R = M74.bk 0 W := hR.one hWb fun y _ _ => by
          rw [kR y]
          refine M75.opt_eq fun x => ?_
          rw [rk x y, M75.kf_bk hW.g hWb.g x y, kW x]
        refine cmp_same eR ⟨true, rfl, ?_⟩
        rw [if_neg (by decide)]
        unfold R_law_2
        walk_at "d"
        have hn4' : n4 ≤ n3 + 10 := hn4
        have hzr : (row z).length = z.length := List.length_map ..
        refine u_Patch (ss := []) (by omega) (.inr rfl) trivial (fun s hs => by cases hs) ?_
        show U_chained [patchD xs.length [], patchD xs.length W] n4 _ _
        refine u_chainedP (M75.pt_nil bx) hW (by omega) (by omega) (by omega) ?_
        refine cmp_same hW.nil_jn ⟨true, rfl, ?_⟩
        rw [if_neg (by decide)]
        refine ⟨-1, _, rfl, hat, .int z.length, by show some (D.int ((row z).length : Nat)) = _; rw [hzr], ?_⟩
        refine u_Patch (ss := []) (by omega) (.inr rfl) trivial (fun s hs => by cases hs) ?_
        show U_chained [patchD xs.length W, patchD z.length []] n4 _ _
        refine u_chainedP hW (M75.pt_nil bz) (by omega) (by omega) (by omega) ?_
        refine cmp_same hW.jn_nil ⟨true, rfl, ?_⟩
        rw [if_neg (by decide)]
        unfold R_law_1
        walk_at "d"
        refine u_are_seen hlk (by omega) ⟨.bl false, rfl, rfl, rfl, false, rfl, ?_⟩
        rw [if_neg (by decide)]
        refine hN _ _ ⟨?_, _, _, _, _, _, _, _, _, _, _, rfl⟩
        rw [Nat.mul_succ]
        exact Nat.le_trans (show n4 ≤ n + 3000000 by omega) (Nat.add_le_add_right hn 3000000)
  · rintro _ _ ⟨_, s2, s3, s4, s5, s6, s7, s8, s9, s10, s11, rfl⟩
    unfold R_law_6
    walk_at "d"
end C75
namespace C75
open PySem PyProof.Rows L2 Br Dn LamX
theorem all_mk {l : PySem.W.OpenLaw} {w : World} {K : PySem.W.Frag} {mg : Str → Option Value} {fa : Addr} (hfa : mg "law" = some (.ref fa)) (T : Txt mg)
    (d_is_whole : ∃ f fd, DefT K mg "is_whole" s_is_whole f fd) (d_is_from : ∃ f fd, DefT K mg "is_from" s_is_from f fd) (d_is_row : ∃ f fd, DefT K mg "is_row" s_is_row f fd) (d_is_spot : ∃ f fd, DefT K mg "is_spot" s_is_spot f fd) (d_spot_end : ∃ f fd, DefT K mg "spot_end" s_spot_end f fd) (d_first_bad : ∃ f fd, DefT K mg "first_bad" s_first_bad f fd) (d_growth : ∃ f fd, DefT K mg "growth" s_growth f fd) (d_other_length : ∃ f fd, DefT K mg "other_length" s_other_length f fd) (d_need_fit : ∃ f fd, DefT K mg "need_fit" s_need_fit f fd) (d_fitted : ∃ f fd, DefT K mg "fitted" s_fitted f fd) (d_placed_behind : ∃ f fd, DefT K mg "placed_behind" s_placed_behind f fd) (d_turned_back : ∃ f fd, DefT K mg "turned_back" s_turned_back f fd) (d_bytes_by_place : ∃ f fd, DefT K mg "bytes_by_place" s_bytes_by_place f fd) (d_need_chain : ∃ f fd, DefT K mg "need_chain" s_need_chain f fd) (d_clustered : ∃ f fd, DefT K mg "clustered" s_clustered f fd) (d_filled_in : ∃ f fd, DefT K mg "filled_in" s_filled_in f fd) (d_chained : ∃ f fd, DefT K mg "chained" s_chained f fd) (d__law_feed : ∃ f fd, DefT K mg "_law_feed" s__law_feed f fd) (d__law_draw : ∃ f fd, DefT K mg "_law_draw" s__law_draw f fd) (d__law_pick : ∃ f fd, DefT K mg "_law_pick" s__law_pick f fd) (d__law_bytes : ∃ f fd, DefT K mg "_law_bytes" s__law_bytes f fd) (d__law_spots : ∃ f fd, DefT K mg "_law_spots" s__law_spots f fd) (d__law_fit : ∃ f fd, DefT K mg "_law_fit" s__law_fit f fd) (d__law_in_groups : ∃ f fd, DefT K mg "_law_in_groups" s__law_in_groups f fd) (d__law_joined_up : ∃ f fd, DefT K mg "_law_joined_up" s__law_joined_up f fd) (d__law_are_seen : ∃ f fd, DefT K mg "_law_are_seen" s__law_are_seen f fd) (d_law : ∃ f fd, DefT K mg "law" s_law f fd) (c_Patch : ∃ (C fI fE fL T0 : Addr) (fd fdE fdL : FuncData), CsT K mg "Patch" "Patch.__init__" s_Patch___init__ 1 C fI fd ∧ NoAttr K C "length" ∧ NoAttr K C "spots" ∧ EqT K C fE ∧ Fun K "__eq__" "Patch.__eq__" s_Patch___eq__ fE fdE ∧ PySem.W.findIn K (.ref C) "__len__" = some (some (.ref fL)) ∧ PySem.W.isFn K (.ref fL) = true ∧ Fun K "__len__" "Patch.__len__" s_Patch___len__ fL fdL ∧ PySem.W.notFirst K C (.type "tuple") = true ∧ DflIs K "__init__" "Patch.__init__" s_Patch___init__ fd (.ref T0) ∧ SqT K (fun _ => none) T0 []) (v_RuntimeError : PySem.W.findCls K (.type "RuntimeError") (.type "type") "__init__" = some (.val (.builtin "RuntimeError.__init__"))) (v_ValueError : PySem.W.findCls K (.type "ValueError") (.type "type") "__init__" = some (.val (.builtin "ValueError.__init__"))) (x_Misfit : ∃ (C fI : Addr) (fd : FuncData), XcB K mg "Misfit" "Misfit.__init__" s_Misfit___init__ "RuntimeError.__new__" [.type "RuntimeError", .type "Exception", .type "BaseException", .type "object"] C fI fd ∧ PySem.W.findIn K (.ref C) "at" = some none) (x_NoPatch : ∃ (C fI : Addr) (fd : FuncData), XcB K mg "NoPatch" "NoPatch.__init__" s_NoPatch___init__ "ValueError.__new__" [.type "ValueError", .type "Exception", .type "BaseException", .type "object"] C fI fd ∧ PySem.W.findIn K (.ref C) "spot" = some none)
    (hU : dLawS 12 1 B_law) : ∃ fd : FuncData, (∀ (s : Shared) (u : Value), BindsTo s fd ⟨[u], []⟩ [("_law_script", u)]) ∧ ∀ base : Heap, K.In base → base.Ns mainGlobals mg → FnG l.prog w K mg base CX0 10 fa fd ["_law_script"] (spLaw K) := by
  obtain ⟨_, _, d_is_whole⟩ := d_is_whole
  obtain ⟨_, _, d_is_from⟩ := d_is_from
  obtain ⟨_, _, d_is_row⟩ := d_is_row
  obtain ⟨_, _, d_is_spot⟩ := d_is_spot
  obtain ⟨_, _, d_spot_end⟩ := d_spot_end
  obtain ⟨_, _, d_first_bad⟩ := d_first_bad
  obtain ⟨_, _, d_growth⟩ := d_growth
  obtain ⟨_, _, d_other_length⟩ := d_other_length
  obtain ⟨_, _, d_need_fit⟩ := d_need_fit
  obtain ⟨_, _, d_fitted⟩ := d_fitted
  obtain ⟨_, _, d_placed_behind⟩ := d_placed_behind
  obtain ⟨_, _, d_turned_back⟩ := d_turned_back
  obtain ⟨_, _, d_bytes_by_place⟩ := d_bytes_by_place
  obtain ⟨_, _, d_need_chain⟩ := d_need_chain
  obtain ⟨_, _, d_clustered⟩ := d_clustered
  obtain ⟨_, _, d_filled_in⟩ := d_filled_in
  obtain ⟨_, _, d_chained⟩ := d_chained
  obtain ⟨_, _, d__law_feed⟩ := d__law_feed
  obtain ⟨_, _, d__law_draw⟩ := d__law_draw
  obtain ⟨_, _, d__law_pick⟩ := d__law_pick
  obtain ⟨_, _, d__law_bytes⟩ := d__law_bytes
  obtain ⟨_, _, d__law_spots⟩ := d__law_spots
  obtain ⟨_, _, d__law_fit⟩ := d__law_fit
  obtain ⟨_, _, d__law_in_groups⟩ := d__law_in_groups
  obtain ⟨_, _, d__law_joined_up⟩ := d__law_joined_up
  obtain ⟨_, _, d__law_are_seen⟩ := d__law_are_seen
  obtain ⟨f_law, fd_law, d_law⟩ := d_law
  obtain ⟨C_Patch, _, fE_Patch, fL_Patch, T0_Patch, _, _, _, CS_Patch, NA_Patch_length, NA_Patch_spots, EQ_Patch, FE_Patch, fl_Patch, il_Patch, FL_Patch, NF_Patch, DF_Patch, ZD_Patch⟩ := c_Patch
  obtain ⟨CX_Misfit, fI_Misfit, fdI_Misfit, X_Misfit, NX_Misfit_at⟩ := x_Misfit
  obtain ⟨CX_NoPatch, fI_NoPatch, fdI_NoPatch, X_NoPatch, NX_NoPatch_spot⟩ := x_NoPatch
  obtain rfl : f_law = fa := Value.ref.inj (Option.some.inj (d_law.g.symm.trans hfa))
  refine ⟨fd_law, fun s u => ?_, fun base _ _ => ?_⟩
  · obtain ⟨oc, od, kV, doc, pm, an, cdv, ct, osl, rfl, lk, hcd⟩ := d_law.F.ex
    exact .of_eq rfl
  have CT_Patch := CS_Patch.ct
  have B_Misfit : Binds K fdI_Misfit ["self", "at"] [] := X_Misfit.F.binds (ps := ["self", "at"]) fun _ _ _ _ _ _ us hl => match us, hl with | [_, _], _ => rfl
  have F_Misfit := ok_Misfit_init (P := l.prog) (w := w) (base := base) X_Misfit T v_RuntimeError NX_Misfit_at
  have B_NoPatch : Binds K fdI_NoPatch ["self", "spot"] [] := X_NoPatch.F.binds (ps := ["self", "spot"]) fun _ _ _ _ _ _ us hl => match us, hl with | [_, _], _ => rfl
  have F_NoPatch := ok_NoPatch_init (P := l.prog) (w := w) (base := base) X_NoPatch T v_ValueError NX_NoPatch_spot
  have F_is_whole := ok_is_whole (P := l.prog) (w := w) (base := base) d_is_whole.F T
  have D_is_whole : OkD l.prog w K mg base CX0 1 "is_whole" ["thing"] (spU K mg penKey U_is_whole) := DefT.okD d_is_whole (d_is_whole.F.binds (ps := ["thing"]) (fun _ _ _ _ _ _ us hl => match us, hl with | [_], _ => rfl)) F_is_whole
  have F_is_from := ok_is_from (P := l.prog) (w := w) (base := base) d_is_from.F T D_is_whole
  have D_is_from : OkD l.prog w K mg base CX0 2 "is_from" ["thing", "least", "most"] (spU K mg penKey U_is_from) := DefT.okD d_is_from (d_is_from.F.binds (ps := ["thing", "least", "most"]) (fun _ _ _ _ _ _ us hl => match us, hl with | [_, _, _], _ => rfl)) F_is_from
  have F_is_row := ok_is_row (P := l.prog) (w := w) (base := base) d_is_row.F T D_is_from
  have D_is_row : OkD l.prog w K mg base CX0 3 "is_row" ["thing"] (spU K mg penKey U_is_row) := DefT.okD d_is_row (d_is_row.F.binds (ps := ["thing"]) (fun _ _ _ _ _ _ us hl => match us, hl with | [_], _ => rfl)) F_is_row
  have F_is_spot := ok_is_spot (P := l.prog) (w := w) (base := base) d_is_spot.F T D_is_whole D_is_row
  have D_is_spot : OkD l.prog w K mg base CX0 4 "is_spot" ["thing"] (spU K mg penKey U_is_spot) := DefT.okD d_is_spot (d_is_spot.F.binds (ps := ["thing"]) (fun _ _ _ _ _ _ us hl => match us, hl with | [_], _ => rfl)) F_is_spot
  have F_spot_end := ok_spot_end (P := l.prog) (w := w) (base := base) d_spot_end.F T
  have D_spot_end : OkD l.prog w K mg base CX0 1 "spot_end" ["spot"] (spU K mg penKey U_spot_end) := DefT.okD d_spot_end (d_spot_end.F.binds (ps := ["spot"]) (fun _ _ _ _ _ _ us hl => match us, hl with | [_], _ => rfl)) F_spot_end
  have F_first_bad := ok_first_bad (P := l.prog) (w := w) (base := base) d_first_bad.F T D_spot_end D_is_spot
  have D_first_bad : OkD l.prog w K mg base CX0 5 "first_bad" ["length", "spots"] (spU K mg penKey U_first_bad) := DefT.okD d_first_bad (d_first_bad.F.binds (ps := ["length", "spots"]) (fun _ _ _ _ _ _ us hl => match us, hl with | [_, _], _ => rfl)) F_first_bad
  have F_Patch___init__ := ok_Patch___init__ (P := l.prog) (w := w) (base := base) CS_Patch.F.b T D_is_whole D_first_bad X_NoPatch F_NoPatch B_NoPatch CT_Patch NA_Patch_length NA_Patch_spots
  have C_Patchm : OkCx l.prog w K mg base 6 "Patch" C_Patch ["self", "length", "spots"] [] (spI K mg penKey "Patch" U_Patch) := ⟨_, _, [], CT_Patch.g, CS_Patch.mkC, CS_Patch.F.binds (ps := ["self", "length", "spots"]) (fun z => nomatch z) (fun _ _ _ _ _ _ _ us its hl hd => match us, its, hl, hd with | [_, _, _], [_], _, _ => ⟨_, rfl, rfl⟩), .nil, F_Patch___init__⟩
  have CK_Patch : OkCk l.prog w K mg base 6 "Patch" C_Patch ["spots", "length"] swp1 (spI K mg penKey "Patch" U_Patch) := ⟨_, _, ["self", "length", "spots"], swp1v, CT_Patch.g, CS_Patch.mkC, CS_Patch.F.kbn (by decide) (fun _ _ _ _ _ _ _ y a b its hl => match its, hl with | [_], _ => ⟨_, rfl, rfl⟩), F_Patch___init__⟩
  have CD_Patch : OkCx l.prog w K mg base 6 "Patch" C_Patch ["self", "length", "spots"] [.ref T0_Patch] (spI K mg penKey "Patch" U_Patch) := ⟨_, _, [.ref T0_Patch], CT_Patch.g, CS_Patch.mkC, DF_Patch.binds (ps := ["self", "length", "spots"]) (fun _ _ _ _ _ _ _ us hl => match us, hl with | [_, _], _ => ⟨_, rfl, rfl⟩), .cons rfl .nil, F_Patch___init__⟩
  have E_Patch : OkE l.prog w K mg base 1 C_Patch (spU K mg penKey U_Patch___eq__) := ⟨_, _, _, EQ_Patch, FE_Patch.binds (ps := ["self", "other"]) (fun _ _ _ _ _ _ us hl => match us, hl with | [_, _], _ => rfl), ok_Patch___eq__ FE_Patch T CT_Patch NA_Patch_spots NA_Patch_length⟩
  have LN_Patch : OkL l.prog w K mg base 1 C_Patch (spU K mg penKey U_Patch___len__) := ⟨_, _, _, fl_Patch, il_Patch, FL_Patch.binds (ps := ["self"]) (fun _ _ _ _ _ _ us hl => match us, hl with | [_], _ => rfl), ok_Patch___len__ FL_Patch T CT_Patch NA_Patch_spots⟩
  have F_growth := ok_growth (P := l.prog) (w := w) (base := base) d_growth.F T
  have D_growth : OkD l.prog w K mg base CX0 1 "growth" ["spot"] (spU K mg penKey U_growth) := DefT.okD d_growth (d_growth.F.binds (ps := ["spot"]) (fun _ _ _ _ _ _ us hl => match us, hl with | [_], _ => rfl)) F_growth
  have F_other_length := ok_other_length (P := l.prog) (w := w) (base := base) d_other_length.F T D_growth CT_Patch NA_Patch_length NA_Patch_spots
  have D_other_length : OkD l.prog w K mg base CX0 2 "other_length" ["patch"] (spU K mg penKey U_other_length) := DefT.okD d_other_length (d_other_length.F.binds (ps := ["patch"]) (fun _ _ _ _ _ _ us hl => match us, hl with | [_], _ => rfl)) F_other_length
  have F_need_fit := ok_need_fit (P := l.prog) (w := w) (base := base) d_need_fit.F T CT_Patch NA_Patch_length NA_Patch_spots
  have D_need_fit : OkD l.prog w K mg base CX0 1 "need_fit" ["patch", "row"] (spU K mg penKey U_need_fit) := DefT.okD d_need_fit (d_need_fit.F.binds (ps := ["patch", "row"]) (fun _ _ _ _ _ _ us hl => match us, hl with | [_, _], _ => rfl)) F_need_fit
  have F_fitted := ok_fitted (P := l.prog) (w := w) (base := base) d_fitted.F T D_need_fit CT_Patch NA_Patch_spots
  have D_fitted : OkD l.prog w K mg base CX0 2 "fitted" ["patch", "row"] (spU K mg penKey U_fitted) := DefT.okD d_fitted (d_fitted.F.binds (ps := ["patch", "row"]) (fun _ _ _ _ _ _ us hl => match us, hl with | [_, _], _ => rfl)) F_fitted
  have F_placed_behind := ok_placed_behind (P := l.prog) (w := w) (base := base) d_placed_behind.F T D_growth CT_Patch NA_Patch_spots
  have D_placed_behind : OkD l.prog w K mg base CX0 2 "placed_behind" ["patch"] (spU K mg penKey U_placed_behind) := DefT.okD d_placed_behind (d_placed_behind.F.binds (ps := ["patch"]) (fun _ _ _ _ _ _ us hl => match us, hl with | [_], _ => rfl)) F_placed_behind
  have F_turned_back := ok_turned_back (P := l.prog) (w := w) (base := base) d_turned_back.F T D_placed_behind D_other_length CT_Patch C_Patchm
  have D_turned_back : OkD l.prog w K mg base CX0 8 "turned_back" ["patch"] (spU K mg penKey U_turned_back) := DefT.okD d_turned_back (d_turned_back.F.binds (ps := ["patch"]) (fun _ _ _ _ _ _ us hl => match us, hl with | [_], _ => rfl)) F_turned_back
  have K_turned_back : OkK l.prog w K mg base 8 "turned_back" ["patch"] oneA (spU K mg penKey U_turned_back) := DefT.okK1 d_turned_back (fun _ _ _ _ _ _ _ => rfl) F_turned_back
  have F_bytes_by_place := ok_bytes_by_place (P := l.prog) (w := w) (base := base) d_bytes_by_place.F T
  have D_bytes_by_place : OkD l.prog w K mg base CX0 1 "bytes_by_place" ["spots"] (spU K mg penKey U_bytes_by_place) := DefT.okD d_bytes_by_place (d_bytes_by_place.F.binds (ps := ["spots"]) (fun _ _ _ _ _ _ us hl => match us, hl with | [_], _ => rfl)) F_bytes_by_place
  have F_need_chain := ok_need_chain (P := l.prog) (w := w) (base := base) d_need_chain.F T D_other_length D_bytes_by_place D_placed_behind X_Misfit F_Misfit B_Misfit CT_Patch NA_Patch_length NA_Patch_spots
  have D_need_chain : OkD l.prog w K mg base (L2.CX l.prog w) 3 "need_chain" ["one", "other"] (spU K mg penKey U_need_chain) := DefT.okD d_need_chain (d_need_chain.F.binds (ps := ["one", "other"]) (fun _ _ _ _ _ _ us hl => match us, hl with | [_, _], _ => rfl)) F_need_chain
  have F_clustered := ok_clustered (P := l.prog) (w := w) (base := base) d_clustered.F T
  have D_clustered : OkD l.prog w K mg base CX0 1 "clustered" ["spans"] (spU K mg penKey U_clustered) := DefT.okD d_clustered (d_clustered.F.binds (ps := ["spans"]) (fun _ _ _ _ _ _ us hl => match us, hl with | [_], _ => rfl)) F_clustered
  have F_filled_in := ok_filled_in (P := l.prog) (w := w) (base := base) d_filled_in.F T
  have D_filled_in : OkD l.prog w K mg base CX0 1 "filled_in" ["span", "known", "changes"] (spU K mg penKey U_filled_in) := DefT.okD d_filled_in (d_filled_in.F.binds (ps := ["span", "known", "changes"]) (fun _ _ _ _ _ _ us hl => match us, hl with | [_, _, _], _ => rfl)) F_filled_in
  have F_chained := ok_chained (P := l.prog) (w := w) (base := base) d_chained.F T D_need_chain D_placed_behind D_bytes_by_place D_clustered D_filled_in D_growth CT_Patch NA_Patch_spots NA_Patch_length C_Patchm
  have D_chained : OkD l.prog w K mg base (L2.CX l.prog w) 8 "chained" ["one", "other"] (spU K mg penKey U_chained) := DefT.okD d_chained (d_chained.F.binds (ps := ["one", "other"]) (fun _ _ _ _ _ _ us hl => match us, hl with | [_, _], _ => rfl)) F_chained
  have D__law_feed : OkD l.prog w K mg base CX0 1 "_law_feed" ["_law_script"] (spFeed penStr K) := DefT.okD d__law_feed (d__law_feed.F.binds (ps := ["_law_script"]) fun _ _ _ _ _ _ us hl => match us, hl with | [_], _ => rfl) (ok__law_feed d__law_feed.F)
  have D__law_draw : OkD l.prog w K mg base CX0 1 "_law_draw" ["_law_feed_here", "_law_many"] (spU K mg penKey U_draw) := DefT.okD d__law_draw (d__law_draw.F.binds (ps := ["_law_feed_here", "_law_many"]) fun _ _ _ _ _ _ us hl => match us, hl with | [_, _], _ => rfl) (draw_U (ok__law_draw d__law_draw.F T))
  have F__law_pick := ok__law_pick (P := l.prog) (w := w) (base := base) d__law_pick.F T D__law_draw
  have D__law_pick : OkD l.prog w K mg base CX0 2 "_law_pick" ["_law_feed_here", "_law_some"] (spU K mg penKey U__law_pick) := DefT.okD d__law_pick (d__law_pick.F.binds (ps := ["_law_feed_here", "_law_some"]) (fun _ _ _ _ _ _ us hl => match us, hl with | [_, _], _ => rfl)) F__law_pick
  have F__law_bytes := ok__law_bytes (P := l.prog) (w := w) (base := base) d__law_bytes.F T D__law_draw D__law_pick
  have D__law_bytes : OkD l.prog w K mg base CX0 3 "_law_bytes" ["_law_feed_here", "_law_most"] (spU K mg penKey U__law_bytes) := DefT.okD d__law_bytes (d__law_bytes.F.binds (ps := ["_law_feed_here", "_law_most"]) (fun _ _ _ _ _ _ us hl => match us, hl with | [_, _], _ => rfl)) F__law_bytes
  have F__law_spots := ok__law_spots (P := l.prog) (w := w) (base := base) d__law_spots.F T D__law_draw D__law_bytes
  have D__law_spots : OkD l.prog w K mg base CX0 4 "_law_spots" ["_law_feed_here", "_law_line"] (spU K mg penKey U__law_spots) := DefT.okD d__law_spots (d__law_spots.F.binds (ps := ["_law_feed_here", "_law_line"]) (fun _ _ _ _ _ _ us hl => match us, hl with | [_, _], _ => rfl)) F__law_spots
  have F__law_fit := ok__law_fit (P := l.prog) (w := w) (base := base) d__law_fit.F T
  have D__law_fit : OkD l.prog w K mg base CX0 1 "_law_fit" ["_law_line", "_law_some"] (spU K mg penKey U__law_fit) := DefT.okD d__law_fit (d__law_fit.F.binds (ps := ["_law_line", "_law_some"]) (fun _ _ _ _ _ _ us hl => match us, hl with | [_, _], _ => rfl)) F__law_fit
  have F__law_in_groups := ok__law_in_groups (P := l.prog) (w := w) (base := base) d__law_in_groups.F T D__law_draw D_chained
  have D__law_in_groups : OkD l.prog w K mg base CX0 9 "_law_in_groups" ["_law_feed_here", "_law_some"] (spU K mg penKey U__law_in_groups) := DefT.okD d__law_in_groups (d__law_in_groups.F.binds (ps := ["_law_feed_here", "_law_some"]) (fun _ _ _ _ _ _ us hl => match us, hl with | [_, _], _ => rfl)) F__law_in_groups
  have F__law_joined_up := ok__law_joined_up (P := l.prog) (w := w) (base := base) d__law_joined_up.F T D_chained
  have D__law_joined_up : OkD l.prog w K mg base CX0 9 "_law_joined_up" ["_law_some"] (spU K mg penKey U__law_joined_up) := DefT.okD d__law_joined_up (d__law_joined_up.F.binds (ps := ["_law_some"]) (fun _ _ _ _ _ _ us hl => match us, hl with | [_], _ => rfl)) F__law_joined_up
  have F__law_are_seen := ok__law_are_seen (P := l.prog) (w := w) (base := base) d__law_are_seen.F T K_turned_back D_chained CT_Patch NA_Patch_spots NA_Patch_length C_Patchm E_Patch
  have D__law_are_seen : OkD l.prog w K mg base CX0 9 "_law_are_seen" ["_law_some", "_law_lines"] (spU K mg penKey U__law_are_seen) := DefT.okD d__law_are_seen (d__law_are_seen.F.binds (ps := ["_law_some", "_law_lines"]) (fun _ _ _ _ _ _ us hl => match us, hl with | [_, _], _ => rfl)) F__law_are_seen
  exact ok_law d_law.F T D__law_bytes D__law_draw D__law_spots D__law_fit D__law_joined_up D__law_in_groups D_turned_back D_fitted D_chained D__law_are_seen CT_Patch C_Patchm E_Patch ZD_Patch CD_Patch D__law_feed hU
end C75
open PySem PySem.W PyProof.Rows
set_option maxRecDepth 100000 in
set_option maxHeartbeats 0 in
theorem PySem.Challenge.cw_byteround_k75_whole_patches_as_deeds_holds : PySem.Challenge.rw_byteround_k75_whole_patches_as_deeds.Holds := by
  w_on; o_law
  refine Dn.head_two (r := C75_row) (d := HeadRun.topDef C75_row.prog 35) (kwd := []) (fun _ => by kernel_rfl) C75_run_false C75_run_true
    (by kernel_rfl) (fun s => by kernel_rfl) (by kernel_rfl) (by kernel_rfl) (by kernel_rfl) (by rfl) (by first | assumption | decide +kernel) (by decide +kernel) ⟨rfl, rfl, rfl, rfl, rfl, by decide +kernel⟩ ?hw ?hc
  case hw => w_witness2
  k_fill
  refine Br.walk_ofG (l := PySem.Challenge.rw_byteround_k75_whole_patches_as_deeds) (n := 63) (k := 10) (x := "_law_script") (sp := Dn.spLaw) rfl (by decide) (by kernel_rfl) ⟨rfl, by decide, by decide⟩ (fun w h Y => PySem.W.km_in_of Y) ?F (fun K H a ns hl _ hS => ⟨a, ns, rfl, hS, hl, fun _ => rfl⟩)
  case F =>
    intro w mg fa h KX G hmg
    have n_len : mg "len" = none := PySem.W.mg_none_of KX G (by k_is)
    have n_abs : mg "abs" = none := PySem.W.mg_none_of KX G (by k_is)
    have n_range : mg "range" = none := PySem.W.mg_none_of KX G (by k_is)
    have n_isinstance : mg "isinstance" = none := PySem.W.mg_none_of KX G (by k_is)
    have n_int : mg "int" = none := PySem.W.mg_none_of KX G (by k_is)
    have n_bool : mg "bool" = none := PySem.W.mg_none_of KX G (by k_is)
    have n_min : mg "min" = none := PySem.W.mg_none_of KX G (by k_is)
    have n_max : mg "max" = none := PySem.W.mg_none_of KX G (by k_is)
    have n_all : mg "all" = none := PySem.W.mg_none_of KX G (by k_is)
    have n_any : mg "any" = none := PySem.W.mg_none_of KX G (by k_is)
    have n_tuple : mg "tuple" = none := PySem.W.mg_none_of KX G (by k_is)
    have n_list : mg "list" = none := PySem.W.mg_none_of KX G (by k_is)
    have n_enumerate : mg "enumerate" = none := PySem.W.mg_none_of KX G (by k_is)
    have n_sorted : mg "sorted" = none := PySem.W.mg_none_of KX G (by k_is)
    have n_sum : mg "sum" = none := PySem.W.mg_none_of KX G (by k_is)
    have n_RuntimeError : mg "RuntimeError" = none := PySem.W.mg_none_of KX G (by k_is)
    have n_ValueError : mg "ValueError" = none := PySem.W.mg_none_of KX G (by k_is)
    have g_BYTE : ∃ t, mg "BYTE" = some (.int 256 t) := ⟨_, PySem.W.mg_of KX G (by k_is)⟩
    have T : C75.Txt mg := ⟨n_len, n_abs, n_range, n_isinstance, n_int, n_bool, n_min, n_max, n_all, n_any, n_tuple, n_list, n_enumerate, n_sorted, n_sum, n_RuntimeError, n_ValueError, g_BYTE⟩
    refine C75.all_mk hmg T ?d_is_whole ?d_is_from ?d_is_row ?d_is_spot ?d_spot_end ?d_first_bad ?d_growth ?d_other_length ?d_need_fit ?d_fitted ?d_placed_behind ?d_turned_back ?d_bytes_by_place ?d_need_chain ?d_clustered ?d_filled_in ?d_chained ?d__law_feed ?d__law_draw ?d__law_pick ?d__law_bytes ?d__law_spots ?d__law_fit ?d__law_in_groups ?d__law_joined_up ?d__law_are_seen ?d_law ?c_Patch ?v_RuntimeError ?v_ValueError ?x_Misfit ?x_NoPatch C75.u_law
    case d_is_whole =>
      refine' Br.defT KX G ?a ?l ?c ?k
      (case a => k_is); (case l => k_is); (case c => k_is); (case k => k_is)
    case d_is_from =>
      refine' Br.defT KX G ?a ?l ?c ?k
      (case a => k_is); (case l => k_is); (case c => k_is); (case k => k_is)
    case d_is_row =>
      refine' Br.defT KX G ?a ?l ?c ?k
      (case a => k_is); (case l => k_is); (case c => k_is); (case k => k_is)
    case d_is_spot =>
      refine' Br.defT KX G ?a ?l ?c ?k
      (case a => k_is); (case l => k_is); (case c => k_is); (case k => k_is)
    case d_spot_end =>
      refine' Br.defT KX G ?a ?l ?c ?k
      (case a => k_is); (case l => k_is); (case c => k_is); (case k => k_is)
    case d_first_bad =>
      refine' Br.defT KX G ?a ?l ?c ?k
      (case a => k_is); (case l => k_is); (case c => k_is); (case k => k_is)
    case d_growth =>
      refine' Br.defT KX G ?a ?l ?c ?k
      (case a => k_is); (case l => k_is); (case c => k_is); (case k => k_is)
    case d_other_length =>
      refine' Br.defT KX G ?a ?l ?c ?k
      (case a => k_is); (case l => k_is); (case c => k_is); (case k => k_is)
    case d_need_fit =>
      refine' Br.defT KX G ?a ?l ?c ?k
      (case a => k_is); (case l => k_is); (case c => k_is); (case k => k_is)
    case d_fitted =>
      refine' Br.defT KX G ?a ?l ?c ?k
      (case a => k_is); (case l => k_is); (case c => k_is); (case k => k_is)
    case d_placed_behind =>
      refine' Br.defT KX G ?a ?l ?c ?k
      (case a => k_is); (case l => k_is); (case c => k_is); (case k => k_is)
    case d_turned_back =>
      refine' Br.defT KX G ?a ?l ?c ?k
      (case a => k_is); (case l => k_is); (case c => k_is); (case k => k_is)
    case d_bytes_by_place =>
      refine' Br.defT KX G ?a ?l ?c ?k
      (case a => k_is); (case l => k_is); (case c => k_is); (case k => k_is)
    case d_need_chain =>
      refine' Br.defT KX G ?a ?l ?c ?k
      (case a => k_is); (case l => k_is); (case c => k_is); (case k => k_is)
    case d_clustered =>
      refine' Br.defT KX G ?a ?l ?c ?k
      (case a => k_is); (case l => k_is); (case c => k_is); (case k => k_is)
    case d_filled_in =>
      refine' Br.defT KX G ?a ?l ?c ?k
      (case a => k_is); (case l => k_is); (case c => k_is); (case k => k_is)
    case d_chained =>
      refine' Br.defT KX G ?a ?l ?c ?k
      (case a => k_is); (case l => k_is); (case c => k_is); (case k => k_is)
    case d__law_feed =>
      refine' Br.defT KX G ?a ?l ?c ?k
      (case a => k_is); (case l => k_is); (case c => k_is); (case k => k_is)
    case d__law_draw =>
      refine' Br.defT KX G ?a ?l ?c ?k
      (case a => k_is); (case l => k_is); (case c => k_is); (case k => k_is)
    case d__law_pick =>
      refine' Br.defT KX G ?a ?l ?c ?k
      (case a => k_is); (case l => k_is); (case c => k_is); (case k => k_is)
    case d__law_bytes =>
      refine' Br.defT KX G ?a ?l ?c ?k
      (case a => k_is); (case l => k_is); (case c => k_is); (case k => k_is)
    case d__law_spots =>
      refine' Br.defT KX G ?a ?l ?c ?k
      (case a => k_is); (case l => k_is); (case c => k_is); (case k => k_is)
    case d__law_fit =>
      refine' Br.defT KX G ?a ?l ?c ?k
      (case a => k_is); (case l => k_is); (case c => k_is); (case k => k_is)
    case d__law_in_groups =>
      refine' Br.defT KX G ?a ?l ?c ?k
      (case a => k_is); (case l => k_is); (case c => k_is); (case k => k_is)
    case d__law_joined_up =>
      refine' Br.defT KX G ?a ?l ?c ?k
      (case a => k_is); (case l => k_is); (case c => k_is); (case k => k_is)
    case d__law_are_seen =>
      refine' Br.defT KX G ?a ?l ?c ?k
      (case a => k_is); (case l => k_is); (case c => k_is); (case k => k_is)
    case d_law =>
      refine' Br.defT KX G ?a ?l ?c ?k
      (case a => k_is); (case l => k_is); (case c => k_is); (case k => k_is)
    case c_Patch =>
      refine' ⟨_, _, _, _, _, _, _, _, Dn.csTd KX G ?aC ?pg ?hd ?po ?sa ?ha ?hn ?ht ?hm ?self ?mk ?ini ?fn ?kp ?l ?c ?lT ?dT ?nT, ?na_length, ?na_spots, Dn.eqT ?xL ?ok ?e1 ?e2 ?lE ?ocE ?find ?isf, Dn.methT ?lm ?cm ?km, ?fl, ?il, Dn.methT ?lL ?cL ?kL, ?nf, ⟨_, _, _, _, _, _, _, _, _, rfl, ?lT2, ?dT2⟩, Dn.sqT0 ?l0 ?c0 ?d0⟩
      (case aC => first | k_is | rfl | kernel_rfl)
      (case pg => first | k_is | rfl | kernel_rfl)
      (case hd => first | k_is | rfl | kernel_rfl)
      (case po => first | k_is | rfl | kernel_rfl)
      (case sa => first | k_is | rfl | kernel_rfl)
      (case ha => first | k_is | rfl | kernel_rfl)
      (case hn => first | k_is | rfl | kernel_rfl)
      (case ht => first | k_is | rfl | kernel_rfl)
      (case hm => first | k_is | rfl | kernel_rfl)
      (case self => first | k_is | rfl | kernel_rfl)
      (case mk => first | k_is | rfl | kernel_rfl)
      (case ini => first | k_is | rfl | kernel_rfl)
      (case fn => first | k_is | rfl | kernel_rfl)
      (case kp => first | k_is | rfl | kernel_rfl)
      (case l => first | k_is | rfl | kernel_rfl)
      (case c => first | k_is | rfl | kernel_rfl)
      (case lT => first | k_is | rfl | kernel_rfl)
      (case dT => first | k_is | rfl | kernel_rfl)
      (case nT => first | k_is | rfl | kernel_rfl)
      (case na_length => first | k_is | rfl | kernel_rfl)
      (case na_spots => first | k_is | rfl | kernel_rfl)
      (case xL => first | k_is | rfl | kernel_rfl)
      (case ok => first | k_is | rfl | kernel_rfl)
      (case e1 => first | k_is | rfl | kernel_rfl)
      (case e2 => first | k_is | rfl | kernel_rfl)
      (case lE => first | k_is | rfl | kernel_rfl)
      (case ocE => first | k_is | rfl | kernel_rfl)
      (case find => first | k_is | rfl | kernel_rfl)
      (case isf => first | k_is | rfl | kernel_rfl)
      (case lm => first | k_is | rfl | kernel_rfl)
      (case cm => first | k_is | rfl | kernel_rfl)
      (case km => first | k_is | rfl | kernel_rfl)
      (case fl => first | k_is | rfl | kernel_rfl)
      (case il => first | k_is | rfl | kernel_rfl)
      (case lL => first | k_is | rfl | kernel_rfl)
      (case cL => first | k_is | rfl | kernel_rfl)
      (case kL => first | k_is | rfl | kernel_rfl)
      (case nf => first | k_is | rfl | kernel_rfl)
      (case lT2 => first | k_is | rfl | kernel_rfl)
      (case dT2 => first | k_is | rfl | kernel_rfl)
      (case l0 => first | k_is | rfl | kernel_rfl)
      (case c0 => first | k_is | rfl | kernel_rfl)
      (case d0 => first | k_is | rfl | kernel_rfl)
    (case v_RuntimeError => first | k_is | rfl | kernel_rfl)
    (case v_ValueError => first | k_is | rfl | kernel_rfl)
    case x_Misfit =>
      refine' ⟨_, _, _, Br.xcB KX G ?aC ?xL ?sa ?eC ?tC ?kC ?a1 ?t1 ?l1 ?c1 ?k1 ?ga ?gg ?hC ?ha ?hn ?ht ?hm ?sC, ?nx_at⟩
      (case aC => first | k_is | rfl | kernel_rfl)
      (case xL => first | k_is | rfl | kernel_rfl)
      (case sa => first | k_is | rfl | kernel_rfl)
      (case eC => first | k_is | rfl | kernel_rfl)
      (case tC => first | k_is | rfl | kernel_rfl)
      (case kC => first | k_is | rfl | kernel_rfl)
      (case a1 => first | k_is | rfl | kernel_rfl)
      (case t1 => first | k_is | rfl | kernel_rfl)
      (case l1 => first | k_is | rfl | kernel_rfl)
      (case c1 => first | k_is | rfl | kernel_rfl)
      (case k1 => first | k_is | rfl | kernel_rfl)
      (case ga => first | k_is | rfl | kernel_rfl)
      (case gg => first | k_is | rfl | kernel_rfl)
      (case hC => first | k_is | rfl | kernel_rfl)
      (case ha => first | k_is | rfl | kernel_rfl)
      (case hn => first | k_is | rfl | kernel_rfl)
      (case ht => first | k_is | rfl | kernel_rfl)
      (case hm => first | k_is | rfl | kernel_rfl)
      (case sC => first | k_is | rfl | kernel_rfl)
      (case nx_at => first | k_is | rfl | kernel_rfl)
    case x_NoPatch =>
      refine' ⟨_, _, _, Br.xcB KX G ?aC ?xL ?sa ?eC ?tC ?kC ?a1 ?t1 ?l1 ?c1 ?k1 ?ga ?gg ?hC ?ha ?hn ?ht ?hm ?sC, ?nx_spot⟩
      (case aC => first | k_is | rfl | kernel_rfl)
      (case xL => first | k_is | rfl | kernel_rfl)
      (case sa => first | k_is | rfl | kernel_rfl)
      (case eC => first | k_is | rfl | kernel_rfl)
      (case tC => first | k_is | rfl | kernel_rfl)
      (case kC => first | k_is | rfl | kernel_rfl)
      (case a1 => first | k_is | rfl | kernel_rfl)
      (case t1 => first | k_is | rfl | kernel_rfl)
      (case l1 => first | k_is | rfl | kernel_rfl)
      (case c1 => first | k_is | rfl | kernel_rfl)
      (case k1 => first | k_is | rfl | kernel_rfl)
      (case ga => first | k_is | rfl | kernel_rfl)
      (case gg => first | k_is | rfl | kernel_rfl)
      (case hC => first | k_is | rfl | kernel_rfl)
      (case ha => first | k_is | rfl | kernel_rfl)
      (case hn => first | k_is | rfl | kernel_rfl)
      (case ht => first | k_is | rfl | kernel_rfl)
      (case hm => first | k_is | rfl | kernel_rfl)
      (case sC => first | k_is | rfl | kernel_rfl)
      (case nx_spot => first | k_is | rfl | kernel_rfl)
#print axioms PySem.Challenge.cw_byteround_k75_whole_patches_as_deeds_holds
