import PyProof.Rows.All
import Wide.All
import OpenK.AllK
import Wide.FinOn
import HandS.ForMost
import HandS.Exc
import HandS.ExcOwn
import HandS.WordsExc
import HandS.Wide
import HandS.TupAny
import HandS.IsInst
import HandS.Zip
import HandS.Deep
import HandS.EndBits
import HandS.ClsMeth
import HandS.Text
import HandS.WideBits
import HandS.More
import HandS.Rev
import HandS.Conv
import HandS.WordsDict
import HandS.ExcInit
import HandS.RaiseMore
import KE.KExcIs
import HandS.ExcIs
import HandS.NoneIn
import HandS.TryOnly
import KE.KDictZip
import HandS.ExcValue
import HandS.FStr
import KE.GoesEnum
import KE.KIndexOf
import HandS.SuiteRaise
import HandS.ExcInitHot
import HandS.CallSlots
import HandS.Defaults
import KE.KIntText
import PySem.Challenge.RW_sieve_k52_changes_as_rows
set_option Elab.async false
set_option linter.all false
set_option maxRecDepth 100000
set_option maxHeartbeats 8000000
/-! Mini: exceptions that are caught, noted, and looked at behind the clause -/
namespace Mn
open PySem PySem.Spec PyProof.Rows L2

/-- an exception that was caught and is kept: its class, its dict -/
noncomputable def exH (a : Addr) (cls : Value) (d : Option Addr) : HO := .ext fun h => ∃ (oe : Obj) (vs : Array Value), h.get? a = some oe ∧ Zc cls d oe ∧ oe.data = .fields vs
theorem exH_ok {P : Program} {w : World} {H : Hp} {h : Heap} {a : Addr} {cls : Value} {d : Option Addr} {oe : Obj} {vs : Array Value} (e : h.get? a = some oe) (z : Zc cls d oe) (k : oe.data = .fields vs) : ObjOk P w H h a (exH a cls d) :=
  ⟨⟨oe, vs, e, z, k⟩, ⟨oe, e⟩, fun _ _ ⟨o, v, e, z, k⟩ hk => ⟨o, v, hk _ e, z, k⟩⟩
theorem exH_at {P : Program} {w : World} {H : Hp} {h : Heap} {a : Addr} {cls : Value} {d : Option Addr} (hok : HOk P w H h) (he : H a = some (exH a cls d)) : ∃ (oe : Obj) (vs : Array Value), h.get? a = some oe ∧ Zc cls d oe ∧ oe.data = .fields vs := by
  have x : ObjOk P w H h a (.ext fun h => ∃ (oe : Obj) (vs : Array Value), h.get? a = some oe ∧ Zc cls d oe ∧ oe.data = .fields vs) := hok a _ he
  exact x.1
theorem hok_more {P : Program} {w : World} {H : Hp} {h : Heap} {a : Addr} {o : HO} (I : HOk P w H h) (free : H a = none) (is : ObjOk P w (upd H a o) h a o) : HOk P w (upd H a o) h := by
  intro b u hb
  have off : ∀ {c : Addr} {v : HO}, H c = some v → upd H a o c = some v := fun {c v} q => (upd_ne (ne_of_none q free)).trans q
  rcases Classical.em (b = a) with e | e
  · subst e
    have z := upd_same.symm.trans hb
    cases z
    exact is
  · refine ObjOk.stay (I b u ((upd_ne e).symm.trans hb)) ?_ ?_ ?_
    · exact fun _ _ _ q => q
    · exact fun _ q => off q
    · exact fun _ _ q => off q
section
variable {X : Cx} {pins : List (Addr × Obj)} {σ : L2.St} {H : Hp} {s : Shared} {a : Addr} {o : HO}
/-- a state of ours, and an object a in it that nobody tracks and that the def has not met before -/
structure Stray (X : Cx) (pins : List (Addr × Obj)) (σ : L2.St) (H : Hp) (a : Addr) (s : Shared) : Prop where
  inv : Inv X pins σ H s
  non : H a = none
  loc : a ≠ X.env.locals
  frm : a ∉ X.fs
  old : X.s_0.heap.get? a = none
  cel : ∀ x c, X.env.cells.lookup x = some c → c ≠ a
  pin : ∀ p ∈ X.pn ++ pins, p.1 ≠ a
/-- it is tracked from now on -/
theorem Stray.adopt (S : Stray X pins σ H a s) (is : ObjOk X.prog X.w (upd H a o) s.heap a o) : Inv X pins σ (upd H a o) s := by
  have off : ∀ {c : Addr} {v : HO}, H c = some v → upd H a o c = some v := fun {c v} q => (upd_ne (ne_of_none q S.non)).trans q
  have U := S.inv.base
  have base : Un X.fs X.ex X.H_0 (upd H a o) X.s_0.heap s.heap := by
    refine ⟨U.keep, U.slot, ?_, U.there, ?_, ?_, ?_⟩
    · intro b u q n hx
      have ne : b ≠ a := fun z => by rw [z, S.old] at q; cases q
      exact (upd_ne ne).trans (U.free b u q n hx)
    · exact fun b xs q => off (U.tups b xs q)
    · exact fun b u v q => off (U.frzs b u v q)
    · exact fun b ps q => (U.tbls b ps q).imp fun _ e => off e
  refine ⟨S.inv.ok, S.inv.os, S.inv.bare, base, S.inv.loc, S.inv.cell, (upd_ne (Ne.symm S.loc)).trans S.inv.free, ?_, ?_, hok_more S.inv.hok S.non is, S.inv.len⟩
  · exact fun x c e => (upd_ne (S.cel x c e)).trans (S.inv.freeC x c e)
  · intro p hp
    have z := S.inv.pin p hp
    exact ⟨z.1, (upd_ne (S.pin p hp)).trans z.2.1, z.2.2⟩
end
/-- what a clause 'except c as i: j = i' wishes of an exception of the body -/
noncomputable def wTold (K : PySem.W.Frag) (c : Value) (i j : Nat) (D : Ends) : WX := fun cls d σ H =>
  PySem.W.exmOne K cls c = some true ∧ i < σ.length ∧ ∀ a, H a = none → D.nx (((σ.set i (some (.ref a))).set j (some (.ref a))).set i none) (upd H a (exH a cls d))
section
variable {X : Cx} {pins : List (Addr × Obj)} {σ : L2.St} {H : Hp} {a : Addr} {cls : Value} {d : Option Addr} {B : Heap} {sI s : Shared}
/-- an exception that landed in the def X, out of the state sI -/
theorem stray_of (hs : X.stack = X.env :: X.outer) (hf : X.env.frame = some X.env.locals) (hex : X.ex = []) (G : Inv X pins σ H sI) (ground : ∀ b o, sI.heap.get? b = some o → b ∉ frs X.stack → B.get? b = some o) (non : H a = none)
    (fl : HandSPX.FlyingZ B (X.env :: X.outer) a (Zc cls d) s.heap) (slots : sI.heap.UpToSlots s.heap) (eo : s.os = sI.os) (eg : AllBare s.gens) : Stray X pins σ H a s := by
  obtain ⟨oe, vs, e, z, dt⟩ := fl.there
  have out : a ∉ frs (X.env :: X.outer) := by
    intro m
    obtain ⟨_, u, e2, nf⟩ := fl.2.2.1.mem m
    have q := e.symm.trans e2
    cases q
    exact nf _ dt
  have new : ∀ u, sI.heap.get? a ≠ some u := by
    intro u q
    have y := ground a u q (hs ▸ out)
    rw [fl.2.1] at y
    cases y
  refine ⟨G.landed ground fl.1 slots eo eg, non, ?_, ?_, ?_, ?_, ?_⟩
  · intro z
    refine out (List.mem_filterMap.mpr ⟨X.env, List.mem_cons_self, ?_⟩)
    rw [hf, z]
  · intro m
    obtain ⟨v, hv, q⟩ := List.mem_filterMap.mp m
    exact out (List.mem_filterMap.mpr ⟨v, List.mem_cons_of_mem _ hv, q⟩)
  · cases q : X.s_0.heap.get? a with
    | none => rfl
    | some u =>
      obtain ⟨u', q'⟩ := G.base.there a u q (by rw [hex]; exact List.not_mem_nil)
      exact absurd q' (new u')
  · intro x c hx z
    obtain ⟨v, u, q, _⟩ := G.cell x c hx
    rw [z] at q
    exact new _ q
  · intro p hp z
    have q := (G.pin p hp).1
    rw [z] at q
    exact new _ q
variable {x n t : Str} {c : Value} {i j : Nat} {body : List Stmt} {p1 p2 p3 p4 p5 pos : Pos} {tb : WX → TS}
/-- try: body / except c as n: t = n; the exception is kept -/
theorem ps_told (hs : X.stack = X.env :: X.outer) (hf : X.env.frame = some X.env.locals) (hex : X.ex = []) (nd : X.N.Nodup) (hi : X.N[i]? = some n) (hj : X.N[j]? = some t) (ln : X.env.scope.names.lookup n = some .local) (lt : X.env.scope.names.lookup t = some .local)
    (n1 : (n == ("__debug__" : Str)) = false) (n2 : (n == ("__classdict__" : Str)) = false) (gx : Gl X x) (dx : (x == ("__debug__" : Str)) = false) (mx : X.mg x = some c)
    (hb : ∀ (W : WX) (pn : List (Addr × Obj)) (xe : Value → Shared → Prop), Takes (X.tr pn xe) W → PassesOwn (model X.prog X.w) X.A X.env xe → PSs (X.tr pn xe) body (tb W)) :
    PS X (.Try body [.ExceptHandler (some (.Name x p1)) (some n) [.Assign [.Name t p2] (.Name n p3) p4] p5] [] [] pos) (fun D σ H => tb (wTold X.K c i j D) D σ H) := by
  refine ⟨fun pins s σ H D I h => ?_⟩
  have kn : X.env.kindOf n = some .local := ln
  have frames : X.A.frames = some (X.env :: X.outer) := I.ok.frames.trans (congrArg some hs)
  -- the clause, the exception being down
  have clause : ∀ (pins' : List (Addr × Obj)) (B : Heap) (sI : Shared) (σ' : L2.St) (H' : Hp) (a : Addr) (cls : Value) (d : Option Addr) (u : Shared), Inv X pins σ' H' sI → (∀ b o, sI.heap.get? b = some o → b ∉ frs X.stack → B.get? b = some o) → H' a = none →
      HandSPX.FlyingZ B (X.env :: X.outer) a (Zc cls d) u.heap → sI.heap.UpToSlots u.heap → u.os = sI.os → AllBare u.gens → wTold X.K c i j D cls d σ' H' →
      wpAny (model X.prog X.w) X.A (handleBy (.ref a) X.env [.ExceptHandler (some (.Name x p1)) (some n) [.Assign [.Name t p2] (.Name n p3) p4] p5]) (SP X pins D) X.xe u := by
    intro _ B sI σ' H' a cls d u G ground non fl slots eo eg wish
    have A1 := stray_of hs hf hex G ground non fl slots eo eg
    obtain ⟨o1, v1, g1, z1, d1⟩ := fl.there
    have I1 := A1.inv.suite g1 d1 non A1.loc A1.frm
    have ask := PySem.W.exm_one (M := model X.prog X.w) A1.inv.kIn (fun _ _ _ _ keeps q => wpAny_typeOf_ref (keeps _ _ g1) (by rw [z1.1]; exact q)) wish.1
    refine wpAny_handleBy_cons (codeAny_handlers_test (ld_glob (X := X.suite a ((a, o1) :: (X.pn ++ pins))) I1 gx mx (ask.here ?_) dx)) (by intro q; cases q)
    refine codeAny_handlers_suite_as (HandSPX.lands_againZ fl fun h2 fl2 slots2 => ?_)
    have A2 := stray_of (s := { u with heap := h2 }) hs hf hex G ground non fl2 (slots.trans slots2) eo eg
    obtain ⟨o2, v2, g2, z2, d2⟩ := fl2.there
    have I2 := A2.inv.suite g2 d2 non A2.loc A2.frm
    have asg : PS (X.suite a ((a, o2) :: (X.pn ++ pins))) (.Assign [.Name t p2] (.Name n p3) p4) (tAsg (tVar i) (gName j)) := ps_asg (pe_var hi (.inl ln) n1 n2) (pg_name nd hj (.inl lt) (.inr lt))
    refine store_ok (X := X.suite a ((a, o2) :: (X.pn ++ pins))) (v := .ref a) I2 nd hi (.inl ln) rfl (fun s3 I3 => ?_) (.inr ln)
    have rd : tSeq (tAsg (tVar i) (gName j)) tNext { nx := fun σ5 H5 => σ5 = (σ'.set i (some (.ref a))).set j (some (.ref a)) ∧ H5 = H', rt := fun _ _ => False, bk := fun _ _ => False, ct := fun _ _ => False } (σ'.set i (some (.ref a))) H' :=
      ⟨.ref a, List.getElem?_set_self wish.2.1, rfl, rfl⟩
    refine wpAny_mono ((pss_cons asg pss_nil).run [] s3 _ H' _ I3 rd) (fun f s4 e4 => ?_) fun _ _ z => z.elim
    cases f with
    | brk => obtain ⟨_, _, _, z⟩ := e4; exact z.elim
    | cont => obtain ⟨_, _, _, z⟩ := e4; exact z.elim
    | ret v => obtain ⟨_, _, _, _, _, z⟩ := e4; exact z.elim
    | next =>
      obtain ⟨σ5, H5, I4, e5, e6⟩ := e4
      subst e5 e6
      refine gone_ok (X := X.suite a ((a, o2) :: (X.pn ++ pins))) I4 nd hi kn fun s5 I5 => ?_
      have g5 : s5.heap.get? a = some o2 := (I5.pin (a, o2) (List.mem_append_left _ List.mem_cons_self)).1
      have A5 : Stray X pins _ _ a s5 := { A2 with inv := I5.unsuite I.ok }
      exact ⟨_, _, A5.adopt (exH_ok g5 z2 d2), wish.2.2 a non⟩
  refine wpAny_Try_except (wpAny_mono ((hb (wTold X.K c i j D) (X.pn ++ pins) _ (fun v s1 air => ?_) PassesOwn.looking).run [] s σ H D (I.toTry _) h) (fun f s1 e1 => ?_) fun _ _ z => z)
  · obtain ⟨a, B, sI, pins', σ', H', cls, d, rfl, G, ground, slots, sky, non, eo, eg, wish⟩ := air
    refine Sky.land Zc.steady frames hf (hs ▸ sky) fun h2 fl slots2 => ?_
    exact clause pins' B sI σ' H' a cls d { s1 with heap := h2 } (G.ofTry I.ok) ground non fl (slots.trans slots2) eo eg wish
  · cases f with
    | next => exact e1.elim fun σ' q => q.elim fun H' q => wpAny_execs_nil ⟨σ', H', q.1.ofTry I.ok, q.2⟩
    | brk => exact e1.elim fun σ' q => q.elim fun H' q => ⟨σ', H', q.1.ofTry I.ok, q.2⟩
    | cont => exact e1.elim fun σ' q => q.elim fun H' q => ⟨σ', H', q.1.ofTry I.ok, q.2⟩
    | ret u => exact e1.elim fun v q => q.elim fun σ' q => q.elim fun H' q => ⟨v, σ', H', q.1.ofTry I.ok, q.2⟩
end
/-- a clause's suite knows that an exception is handled -/
theorem hot_of {X : Cx} {pins : List (Addr × Obj)} {σ : L2.St} {H : Hp} {s : Shared} (a : Addr) (I : Inv X pins σ H s) : Inv (X.suite a X.pn) pins σ H s :=
  ⟨I.ok.suite a X.pn, I.os, I.bare, I.base, I.loc, I.cell, I.free, I.freeC, I.pin, I.hok, I.len⟩
theorem of_hot {X : Cx} {pins : List (Addr × Obj)} {σ : L2.St} {H : Hp} {s : Shared} {a : Addr} (ok : X.Ok) (I : Inv (X.suite a X.pn) pins σ H s) : Inv X pins σ H s :=
  ⟨ok, I.os, I.bare, I.base, I.loc, I.cell, I.free, I.freeC, I.pin, I.hok, I.len⟩
/-- what clauses 'except c as i: suite' wish of an exception of the body; a suite may look at it -/
noncomputable def wHold (K : PySem.W.Frag) (D : Ends) : List (Value × Nat × TS) → WX
  | [] => fun _ _ _ _ => False
  | (c, i, ts) :: r => fun cls d σ H => ∃ b, PySem.W.exmOne K cls c = some b ∧
      (b = true → ∀ a, H a = none → ts { nx := fun σ' H' => D.nx (σ'.set i none) H', rt := D.rt, bk := fun σ' H' => D.bk (σ'.set i none) H', ct := fun σ' H' => D.ct (σ'.set i none) H' } (σ.set i (some (.ref a))) (upd H a (exH a cls d))) ∧
      (b = false → wHold K D r cls d σ H)
inductive HdA (X : Cx) : List ExceptHandler → List (Value × Nat × TS) → Prop
  | nil {hds : List ExceptHandler} : HdA X hds []
  | cons {x n : Str} {c : Value} {i : Nat} {b0 : Stmt} {suite : List Stmt} {ts : TS} {p1 p5 : Pos} {hds : List ExceptHandler} {l : List (Value × Nat × TS)} (hi : X.N[i]? = some n) (ln : X.env.scope.names.lookup n = some .local)
      (gx : Gl X x) (dx : (x == ("__debug__" : Str)) = false) (mx : X.mg x = some c) (hsu : ∀ a : Addr, PSs (X.suite a X.pn) (b0 :: suite) ts) (r : HdA X hds l) :
      HdA X (.ExceptHandler (some (.Name x p1)) (some n) (b0 :: suite) p5 :: hds) ((c, i, ts) :: l)
section
variable {X : Cx} {body : List Stmt} {h0 : ExceptHandler} {hds : List ExceptHandler} {l : List (Value × Nat × TS)} {pos : Pos} {tb : WX → TS}
theorem ps_hold (hs : X.stack = X.env :: X.outer) (hf : X.env.frame = some X.env.locals) (hex : X.ex = []) (nd : X.N.Nodup)
    (hb : ∀ (W : WX) (pn : List (Addr × Obj)) (xe : Value → Shared → Prop), Takes (X.tr pn xe) W → PassesOwn (model X.prog X.w) X.A X.env xe → PSs (X.tr pn xe) body (tb W))
    (hh : HdA X (h0 :: hds) l) :
    PS X (.Try body (h0 :: hds) [] [] pos) (fun D σ H => tb (wHold X.K D l) D σ H) := by
  refine ⟨fun pins s σ H D I h => ?_⟩
  have frames : X.A.frames = some (X.env :: X.outer) := I.ok.frames.trans (congrArg some hs)
  have clause : ∀ (B : Heap) (sI : Shared) (σ' : L2.St) (H' : Hp) (a : Addr) (cls : Value) (d : Option Addr) (u : Shared), Inv X pins σ' H' sI → (∀ b o, sI.heap.get? b = some o → b ∉ frs X.stack → B.get? b = some o) → H' a = none →
      HandSPX.FlyingZ B (X.env :: X.outer) a (Zc cls d) u.heap → sI.heap.UpToSlots u.heap → u.os = sI.os → AllBare u.gens → ∀ {hds' : List ExceptHandler} {l' : List (Value × Nat × TS)}, HdA X hds' l' → wHold X.K D l' cls d σ' H' →
      wpAny (model X.prog X.w) X.A (handleBy (.ref a) X.env hds') (SP X pins D) X.xe u := by
    intro B sI σ' H' a cls d u G ground non fl slots eo eg hds' l' hk
    have A1 := stray_of hs hf hex G ground non fl slots eo eg
    obtain ⟨o1, v1, g1, z1, d1⟩ := fl.there
    have I1 := A1.inv.suite g1 d1 non A1.loc A1.frm
    induction hk with
    | nil => intro w; exact w.elim
    | @cons x n c i b0 suite ts p1 p5 hds2 l2 hi ln gx dx mx hsu r ih =>
      intro wish
      obtain ⟨b, hb1, hyes, hno⟩ := wish
      have kn : X.env.kindOf n = some .local := ln
      have ask := PySem.W.exm_one (M := model X.prog X.w) A1.inv.kIn (fun _ _ _ _ keeps q => wpAny_typeOf_ref (keeps _ _ g1) (by rw [z1.1]; exact q)) hb1
      refine wpAny_handleBy_cons (codeAny_handlers_test (ld_glob (X := X.suite a ((a, o1) :: (X.pn ++ pins))) I1 gx mx (ask.here ?_) dx)) (by intro q; cases q)
      cases b with
      | false =>
        show wpAny _ X.A (handleBy (.ref a) X.env hds2) _ _ _
        exact ih (hno rfl)
      | true =>
        refine codeAny_handlers_suite_as (HandSPX.lands_againZ fl fun h2 fl2 slots2 => ?_)
        have A2 := stray_of (s := { u with heap := h2 }) hs hf hex G ground non fl2 (slots.trans slots2) eo eg
        obtain ⟨o2, v2, g2, z2, d2⟩ := fl2.there
        have I2 := A2.inv.suite g2 d2 non A2.loc A2.frm
        refine store_ok (X := X.suite a ((a, o2) :: (X.pn ++ pins))) (v := .ref a) I2 nd hi (.inl ln) rfl (fun s3 I3 => ?_) (.inr ln)
        have g3 : s3.heap.get? a = some o2 := (I3.pin (a, o2) (List.mem_append_left _ List.mem_cons_self)).1
        have A3 : Stray X pins _ _ a s3 := { A2 with inv := I3.unsuite I.ok }
        have J3 := A3.adopt (exH_ok g3 z2 d2)
        have over : ∀ {σ6 : L2.St} {H6 : Hp} {s6 : Shared} {Q : Shared → Prop}, Inv (X.suite a X.pn) pins σ6 H6 s6 → (∀ s7, Inv X pins (σ6.set i none) H6 s7 → Q s7) → wpAny (model X.prog X.w) X.A (do bindName X.env n .none; unbindBehindTheSuite X.env n p5) (fun _ s7 => Q s7) X.xe s6 := fun {σ6 H6 s6 Q} I6 q => gone_ok (of_hot I.ok I6) nd hi kn q
        refine wpAny_mono ((hsu a).run pins s3 _ _ _ (hot_of a J3) (hyes rfl a non)) (fun f s4 e4 => ?_) fun _ _ z => z.elim
        cases f with
        | next =>
          obtain ⟨σ5, H5, I4, q⟩ := e4
          exact over I4 fun s5 I5 => ⟨_, _, I5, q⟩
        | brk =>
          obtain ⟨σ5, H5, I4, q⟩ := e4
          exact over I4 fun s5 I5 => ⟨_, _, I5, q⟩
        | cont =>
          obtain ⟨σ5, H5, I4, q⟩ := e4
          exact over I4 fun s5 I5 => ⟨_, _, I5, q⟩
        | ret v =>
          obtain ⟨v5, σ5, H5, I4, r5, q⟩ := e4
          exact over I4 fun s5 I5 => ⟨_, _, _, I5, r5, q⟩
  refine wpAny_Try_except (wpAny_mono ((hb (wHold X.K D l) (X.pn ++ pins) _ (fun v s1 air => ?_) PassesOwn.looking).run [] s σ H D (I.toTry _) h) (fun f s1 e1 => ?_) fun _ _ z => z)
  · obtain ⟨a, B, sI, pins', σ', H', cls, d, rfl, G, ground, slots, sky, non, eo, eg, wish⟩ := air
    refine Sky.land Zc.steady frames hf (hs ▸ sky) fun h2 fl slots2 => ?_
    exact clause B sI σ' H' a cls d { s1 with heap := h2 } (G.ofTry I.ok) ground non fl (slots.trans slots2) eo eg hh wish
  · cases f with
    | next => exact e1.elim fun σ' q => q.elim fun H' q => wpAny_execs_nil ⟨σ', H', q.1.ofTry I.ok, q.2⟩
    | brk => exact e1.elim fun σ' q => q.elim fun H' q => ⟨σ', H', q.1.ofTry I.ok, q.2⟩
    | cont => exact e1.elim fun σ' q => q.elim fun H' q => ⟨σ', H', q.1.ofTry I.ok, q.2⟩
    | ret u => exact e1.elim fun v q => q.elim fun σ' q => q.elim fun H' q => ⟨v, σ', H', q.1.ofTry I.ok, q.2⟩
end
/-- what an own exception class must say for isinstance and for reading fields -/
structure ExK (K : PySem.W.Frag) (C : Addr) : Prop where
  ga : PySem.W.findIn K (.ref C) "__getattribute__" = some (some (.builtin "BaseException.__getattribute__"))
  gg : PySem.W.findIn K (.ref C) "__getattr__" = some none
  ex : PySem.W.subIn K (.ref C) (.type "BaseException") = some true
  hd : PySem.W.hasDictIn K C = true
  ha : PySem.W.findIn K (.ref C) "__class__" = some (some (.builtin "object.__class__"))
  hn : PySem.W.specialIn K (.builtin "object.__class__") "__get__" = some (some (.builtin "getset_descriptor.__get__"))
  ht : PySem.W.takesIn K (.builtin "object.__class__") = some true
  hm : PySem.W.mroIn K C (.type "object") = some true
theorem inst_of {P : Program} {w : World} {H : Hp} {h : Heap} {a C : Addr} {d : Option Addr} (hok : HOk P w H h) (he : H a = some (exH a (.ref C) d)) (hd : ∀ dd, d = some dd → ∃ fs, H dd = some (.xd fs)) : ∃ oe od, PySem.W.InstAt h a oe C od := by
  obtain ⟨oe, vs, e, z, k⟩ := exH_at hok he
  cases d with
  | none => exact ⟨oe, none, e, z.1, by unfold PySem.W.notCls; rw [k] <;> rfl, by rw [z.2]; exact trivial⟩
  | some dd =>
    obtain ⟨fs, hf⟩ := hd dd rfl
    have hx : ObjOk P w H h dd (.xd fs) := hok dd _ hf
    obtain ⟨mA, hns, hr⟩ := hx
    obtain ⟨od, ho, hl⟩ := lookIn_ns hns
    exact ⟨oe, some od, e, z.1, by unfold PySem.W.notCls; rw [k] <;> rfl, by rw [z.2]; exact ho⟩
/-- isinstance(e, c), e a kept exception -/
noncomputable def rIsX (K : PySem.W.Frag) : List V → Hp → VK → Prop := fun xs H Q => ∃ (a C : Addr) (d : Option Addr) (c : V) (u : Value) (b : Bool), xs = [.ref a, c] ∧ ClsV c u ∧ H a = some (exH a (.ref C) d) ∧ (∀ dd, d = some dd → ∃ fs, H dd = some (.xd fs)) ∧ ExK K C ∧ PySem.W.kitOne K (.ref C) u = some b ∧ Q (.bl b) H
theorem call_isX {X : Cx} : CallR X (.builtin "isinstance") (rIsX X.K) := by
  intro pins s σ H xs us Q I r h
  obtain ⟨a, C, d, c, u, b, rfl, k, ea, hd, T, e, q⟩ := h
  obtain ⟨u1, u2, rfl, r1, r2⟩ := vals2 r
  have e2 := k.eq r2
  subst e2
  cases (show u1 = Value.ref a from r1)
  obtain ⟨oe, od, J⟩ := inst_of I.hok ea hd
  obtain ⟨cd, hcd, _⟩ := PySem.W.any_some T.hd
  exact PySem.W.kia_one (PySem.W.kitx_exc (by rw [hcd]; rfl) T.ga T.gg T.ex T.ha T.hn T.ht T.hm) I.kIn J e (fun z => nomatch z) fun tk => ⟨.bl b, H, I.tok tk, rfl, q⟩
end Mn
/-! Mini: values, heaps, how they lie in HandS's heap -/
namespace Mn
open PySem PySem.Spec PyProof.Rows L2

inductive Val where
  | non | bl (b : Bool) | int (i : Int) | str (s : Str) | tup (vs : List Val) | ref (a : Nat) | exc (c : String) (fs : List (String × Val))

inductive Ob where
  | lst (w : Bool) (vs : List Val)
  | dct (w : Bool) (kvs : List (Key × Val))
  | dtt (kvs : List (List Key × Val))
  | ins (c : String) (fs : List (String × Val))

noncomputable abbrev MH := List Ob
noncomputable abbrev Env' := List (Option Val)

inductive Res (α : Type) where
  | ok (a : α) (h : MH)
  | err (c : String) (fs : List (String × Val)) (h : MH)
  | bad

noncomputable def RoL (K : PySem.W.Frag) (H : Hp) (a : Addr) (xs : List V) : Prop :=
  (∃ o, H a = some (.frz o (.lst xs))) ∨
    ∃ (o : Obj) (its : Array Value) (n : Nat), K.lookup a = some o ∧ o.cls = .type "list" ∧ o.dict = none ∧ o.data = .seq its n ∧ its.size ≤ sizeLine ∧ Vals xs its.toList
/-- the tuple at a: ours, or the program's -/
noncomputable def TuA (K : PySem.W.Frag) (H : Hp) (a : Addr) (xs : List V) : Prop :=
  H a = some (.tup xs) ∨ (∀ s i, xs ≠ [.str s, .int i]) ∧
    ∃ (o : Obj) (its : Array Value) (n : Nat), K.lookup a = some o ∧ o.cls = .type "tuple" ∧ o.data = .seq its n ∧ its.size ≤ sizeLine ∧ Vals xs its.toList
theorem TuA.sq {K : PySem.W.Frag} {H : Hp} {a : Addr} {xs : List V} (h : TuA K H a xs) : SqT K H a xs := by
  rcases h with h | h
  · exact .inl (.inl h)
  · exact .inr h.2
theorem RoL.sq {K : PySem.W.Frag} {H : Hp} {a : Addr} {xs : List V} (h : RoL K H a xs) : SqL K H a xs := by
  rcases h with ⟨o, h⟩ | h
  · exact .inl (.inr ⟨o, h⟩)
  · exact .inr h

/-- where Mini's objects stand; true: the place is Mini's to write -/
noncomputable abbrev Ph := List (Bool × Addr)
noncomputable def At (φ : Ph) (i : Nat) (a : Addr) : Prop := ∃ w, φ[i]? = some (w, a)
/-- what differs from a program to a program: where its classes stand -/
structure Lk where
  K : PySem.W.Frag
  cls : String → Option Addr
  exc : String → Option Addr

mutual
inductive VR (L : Lk) (φ : Ph) (H : Hp) : Val → V → Prop
  | non : VR L φ H .non .non
  | bl (b : Bool) : VR L φ H (.bl b) (.bl b)
  | int (i : Int) : VR L φ H (.int i) (.int i)
  | str (x : Str) : VR L φ H (.str x) (.str x)
  | tup {a : Addr} {xs : List V} {vs : List Val} : TuA L.K H a xs → VRs L φ H vs xs → VR L φ H (.tup vs) (.ref a)
  | ref {i : Nat} {a : Addr} : At φ i a → VR L φ H (.ref i) (.ref a)
  | exc0 {c : String} {a C : Addr} : L.exc c = some C → H a = some (exH a (.ref C) none) → (true, a) ∉ φ → VR L φ H (.exc c []) (.ref a)
  | excF {c : String} {a C dd : Addr} {fs : List (String × Val)} {xs : List (Str × V)} : L.exc c = some C → H a = some (exH a (.ref C) (some dd)) → (true, a) ∉ φ → H dd = some (.xd xs) → (true, dd) ∉ φ → (fs.map fun p => Str.ofString p.1) = xs.map (·.1) → VRs L φ H (fs.map (·.2)) (xs.map (·.2)) → VR L φ H (.exc c fs) (.ref a)
inductive VRs (L : Lk) (φ : Ph) (H : Hp) : List Val → List V → Prop
  | nil : VRs L φ H [] []
  | cons {v : Val} {vs : List Val} {x : V} {xs : List V} : VR L φ H v x → VRs L φ H vs xs → VRs L φ H (v :: vs) (x :: xs)
end

/-- φ' goes on from φ -/
noncomputable def Pre (φ φ' : Ph) : Prop := ∀ (i : Nat) (p : Bool × Addr), φ[i]? = some p → φ'[i]? = some p
/-- what was tracked beside φ is kept; what is new was free -/
structure Ext (L : Lk) (φ : Ph) (H : Hp) (φ' : Ph) (H' : Hp) : Prop where
  pre : Pre φ φ'
  keep : ∀ b o, H b = some o → (true, b) ∉ φ → H' b = some o
  new : ∀ b, (true, b) ∈ φ' → (true, b) ∉ φ → H b = none
  tups : ∀ a xs, TuA L.K H a xs → TuA L.K H' a xs
  frz : ∀ a ob u, H a = some (.frz ob u) → H' a = some (.frz ob u)
theorem Ext.refl {L : Lk} {φ : Ph} {H : Hp} : Ext L φ H φ H := ⟨fun _ _ h => h, fun _ _ h _ => h, fun _ h n => absurd h n, fun _ _ h => h, fun _ _ _ h => h⟩
theorem Ext.trans {L : Lk} {φ φ1 φ2 : Ph} {H H1 H2 : Hp} (a : Ext L φ H φ1 H1) (b : Ext L φ1 H1 φ2 H2) : Ext L φ H φ2 H2 := by
  refine ⟨fun i x h => b.pre i x (a.pre i x h), fun c o h n => b.keep c o (a.keep c o h n) fun m => ?_, fun c h n => ?_, fun c xs h => b.tups c xs (a.tups c xs h), fun c ob u h => b.frz c ob u (a.frz c ob u h)⟩
  · have z := a.new c m n
    rw [h] at z; cases z
  · by_cases m : (true, c) ∈ φ1
    · exact a.new c m n
    · have z := b.new c h m
      cases e : H c with
      | none => rfl
      | some o => rw [a.keep c o e n] at z; cases z

theorem Ext.out {L : Lk} {φ φ' : Ph} {H H' : Hp} (e : Ext L φ H φ' H') {b : Addr} {o : HO} (h : H b = some o) (n : (true, b) ∉ φ) : (true, b) ∉ φ' := fun m => by
  have z := e.new b m n
  rw [h] at z; cases z
mutual
theorem VR.mono {L : Lk} {φ φ' : Ph} {H H' : Hp} (e : Ext L φ H φ' H') : ∀ {v : Val} {x : V}, VR L φ H v x → VR L φ' H' v x
  | _, _, .non => .non
  | _, _, .bl b => .bl b
  | _, _, .int i => .int i
  | _, _, .str x => .str x
  | _, _, .tup h t => .tup (e.tups _ _ h) (VRs.mono e t)
  | _, _, .ref ⟨w, h⟩ => .ref ⟨w, e.pre _ _ h⟩
  | _, _, .exc0 hc ha na => .exc0 hc (e.keep _ _ ha na) (e.out ha na)
  | _, _, .excF hc ha na hd nd k r => .excF hc (e.keep _ _ ha na) (e.out ha na) (e.keep _ _ hd nd) (e.out hd nd) k (VRs.mono e r)
theorem VRs.mono {L : Lk} {φ φ' : Ph} {H H' : Hp} (e : Ext L φ H φ' H') : ∀ {vs : List Val} {xs : List V}, VRs L φ H vs xs → VRs L φ' H' vs xs
  | _, _, .nil => .nil
  | _, _, .cons h t => .cons (VR.mono e h) (VRs.mono e t)
end

/-- a dict's entries: keys ints and texts, or tuples of these -/
noncomputable def keyV : Val → Option Key
  | .int i => some (.inl i)
  | .str x => some (.inr x)
  | _ => none
noncomputable def keyT : Val → Option (List Key)
  | .tup [.str x, .int i] => some [.inr x, .inl i]
  | _ => none
inductive KRs {κ : Type} (L : Lk) (φ : Ph) (H : Hp) : List (κ × Val) → List (κ × V) → Prop
  | nil : KRs L φ H [] []
  | cons {c : κ} {v : Val} {kvs : List (κ × Val)} {x : V} {xs : List (κ × V)} : VR L φ H v x → KRs L φ H kvs xs → KRs L φ H ((c, v) :: kvs) ((c, x) :: xs)
inductive FRs (L : Lk) (φ : Ph) (H : Hp) : List (String × Val) → List (Str × V) → Prop
  | nil : FRs L φ H [] []
  | cons {k : String} {v : Val} {kvs : List (String × Val)} {x : V} {xs : List (Str × V)} : VR L φ H v x → FRs L φ H kvs xs → FRs L φ H ((k, v) :: kvs) ((Str.ofString k, x) :: xs)
theorem KRs.mono {κ : Type} {L : Lk} {φ φ' : Ph} {H H' : Hp} (e : Ext L φ H φ' H') : ∀ {vs : List (κ × Val)} {xs : List (κ × V)}, KRs L φ H vs xs → KRs L φ' H' vs xs
  | _, _, .nil => .nil
  | _, _, .cons h t => .cons (h.mono e) (t.mono e)
theorem FRs.mono {L : Lk} {φ φ' : Ph} {H H' : Hp} (e : Ext L φ H φ' H') : ∀ {vs : List (String × Val)} {xs : List (Str × V)}, FRs L φ H vs xs → FRs L φ' H' vs xs
  | _, _, .nil => .nil
  | _, _, .cons h t => .cons (h.mono e) (t.mono e)

/-- the object at a -/
inductive OR (L : Lk) (φ : Ph) (H : Hp) (a : Addr) : Ob → Prop
  | lst {xs : List V} {vs : List Val} : H a = some (.lst xs) → VRs L φ H vs xs → OR L φ H a (.lst true vs)
  | ro {xs : List V} {vs : List Val} : RoL L.K H a xs → VRs L φ H vs xs → OR L φ H a (.lst false vs)
  | dK {xs : List (Key × V)} {kvs : List (Key × Val)} : H a = some (.dK xs) → KRs L φ H kvs xs → OR L φ H a (.dct true kvs)
  | dF {ob : Obj} {xs : List (Key × V)} {kvs : List (Key × Val)} : H a = some (.frz ob (.dK xs)) → KRs L φ H kvs xs → OR L φ H a (.dct false kvs)
  | dT {xs : List (List Key × V)} {kvs : List (List Key × Val)} : H a = some (.dT xs) → KRs L φ H kvs xs → OR L φ H a (.dtt kvs)
  | ins {c : String} {C dx : Addr} {fs : List (String × Val)} {xs : List (Str × V)} : L.cls c = some C → H a = some (.ins C dx xs) → FRs L φ H fs xs → OR L φ H a (.ins c fs)

noncomputable def wr : Ob → Bool
  | .lst false _ => false
  | .dct false _ => false
  | _ => true
structure Rel (L : Lk) (φ : Ph) (h : MH) (H : Hp) : Prop where
  len : φ.length = h.length
  obj : ∀ (i : Nat) (o : Ob), h[i]? = some o → ∃ w a, φ[i]? = some (w, a) ∧ (wr o = true → w = true) ∧ OR L φ H a o
  inj : ∀ (i j : Nat) (a : Addr), φ[i]? = some (true, a) → φ[j]? = some (true, a) → i = j
  live : ∀ (a : Addr), (true, a) ∈ φ → ∃ u, H a = some u ∧ (∀ ys, u ≠ .tup ys)

theorem RoL.upd {K : PySem.W.Frag} {H : Hp} {a p : Addr} {xs : List V} {o : HO} (h : RoL K H a xs) (hp : ∀ ob u, H p ≠ some (.frz ob u)) : RoL K (upd H p o) a xs := by
  rcases h with ⟨ob, h⟩ | h
  · refine .inl ⟨ob, ?_⟩
    rw [upd_ne (fun z => hp _ _ (z ▸ h))]; exact h
  · exact .inr h
theorem sqT_upd {K : PySem.W.Frag} {H : Hp} {a p : Addr} {xs : List V} {o : HO} (h : TuA K H a xs) (hp : ∀ ob u, H p ≠ some (.frz ob u)) (ht : ∀ ys, H p ≠ some (.tup ys)) : TuA K (upd H p o) a xs := by
  rcases h with h | h
  · exact .inl (by rw [upd_ne (fun z => ht _ (z ▸ h))]; exact h)
  · exact .inr h

theorem OR.mono {L : Lk} {φ φ' : Ph} {H H' : Hp} {a : Addr} {o : Ob} (e : Ext L φ H φ' H') (k : ∀ u, H a = some u → H' a = some u) : OR L φ H a o → OR L φ' H' a o
  | .lst h r => .lst (k _ h) (r.mono e)
  | .ro h r => .ro (h.elim (fun ⟨ob, q⟩ => .inl ⟨ob, k _ q⟩) .inr) (r.mono e)
  | .dK h r => .dK (k _ h) (r.mono e)
  | .dF h r => .dF (k _ h) (r.mono e)
  | .dT h r => .dT (k _ h) (r.mono e)
  | .ins c h r => .ins c (k _ h) (r.mono e)
theorem OR.at {L : Lk} {φ : Ph} {H : Hp} {a : Addr} {o : Ob} (x : OR L φ H a o) (w : wr o = true) : ∃ u, H a = some u ∧ (∀ ob v, u ≠ .frz ob v) ∧ ∀ ys, u ≠ .tup ys := by
  cases x with
  | lst h _ => exact ⟨_, h, (fun _ _ z => by cases z), (fun _ z => by cases z)⟩
  | ro _ _ => cases w
  | dK h _ => exact ⟨_, h, (fun _ _ z => by cases z), (fun _ z => by cases z)⟩
  | dF _ _ => cases w
  | dT h _ => exact ⟨_, h, (fun _ _ z => by cases z), (fun _ z => by cases z)⟩
  | ins _ h _ => exact ⟨_, h, (fun _ _ z => by cases z), (fun _ z => by cases z)⟩

/-- a new address beside all that is tracked -/
theorem Ext.alloc {L : Lk} {φ : Ph} {H : Hp} {p : Addr} {o : HO} (hp : H p = none) : Ext L φ H (φ ++ [(true, p)]) (upd H p o) := by
  refine ⟨fun i a h => ?_, fun b u h _ => ?_, fun b h n => ?_, fun a xs h => ?_, fun a ob u h => by rw [upd_ne (ne_of_none h hp)]; exact h⟩
  · rw [List.getElem?_append_left (List.getElem?_eq_some_iff.mp h).1]; exact h
  · rw [upd_ne (ne_of_none h hp)]; exact h
  · rcases List.mem_append.mp h with z | z
    · exact absurd z n
    · have := List.mem_singleton.mp z
      cases this
      exact hp
  · exact sqT_upd h (fun _ _ z => by rw [hp] at z; cases z) (fun _ z => by rw [hp] at z; cases z)
/-- something laid that Mini does not see -/
theorem Ext.side {L : Lk} {φ : Ph} {H : Hp} {p : Addr} {o : HO} (hp : H p = none) : Ext L φ H φ (upd H p o) := by
  refine ⟨fun i a h => h, fun b u h _ => ?_, fun b h n => absurd h n, fun a xs h => ?_, fun a ob u h => by rw [upd_ne (ne_of_none h hp)]; exact h⟩
  · rw [upd_ne (ne_of_none h hp)]; exact h
  · exact sqT_upd h (fun _ _ z => by rw [hp] at z; cases z) (fun _ z => by rw [hp] at z; cases z)
theorem Rel.side {L : Lk} {φ : Ph} {h : MH} {H : Hp} {p : Addr} {o : HO} (r : Rel L φ h H) (hp : H p = none) : Rel L φ h (upd H p o) := by
  refine ⟨r.len, fun i ob hi => ?_, r.inj, fun a ha => ?_⟩
  · obtain ⟨w, a, ha, hw, x⟩ := r.obj i ob hi
    refine ⟨w, a, ha, hw, x.mono (Ext.side hp) fun u q => ?_⟩
    rw [upd_ne (ne_of_none q hp)]; exact q
  · obtain ⟨u, hu, nt⟩ := r.live a ha
    exact ⟨u, by rw [upd_ne (ne_of_none hu hp)]; exact hu, nt⟩
/-- a new object -/
theorem Rel.alloc {L : Lk} {φ : Ph} {h : MH} {H : Hp} {p : Addr} {o : HO} {ob : Ob} (r : Rel L φ h H) (hp : H p = none) (nt : ∀ ys, o ≠ .tup ys) (new : OR L (φ ++ [(true, p)]) (upd H p o) p ob) : Rel L (φ ++ [(true, p)]) (h ++ [ob]) (upd H p o) := by
  have E : Ext L φ H (φ ++ [(true, p)]) (upd H p o) := Ext.alloc hp
  have hl := r.len
  refine ⟨by simp [r.len], fun i u hi => ?_, fun i j a ai aj => ?_, fun a ha => ?_⟩
  · by_cases c : i < h.length
    · rw [List.getElem?_append_left c] at hi
      obtain ⟨w, a, ha, hw, x⟩ := r.obj i u hi
      refine ⟨w, a, E.pre _ _ ha, hw, x.mono E fun w q => ?_⟩
      rw [upd_ne (ne_of_none q hp)]; exact q
    · have e : i = h.length := by
        have := (List.getElem?_eq_some_iff.mp hi).1
        simp at this; omega
      subst e
      simp at hi
      subst hi
      refine ⟨true, p, ?_, fun _ => rfl, new⟩
      rw [← hl]; simp
  · have old : ∀ {i : Nat} {a : Addr}, i < φ.length → (φ ++ [(true, p)])[i]? = some (true, a) → φ[i]? = some (true, a) ∧ a ≠ p := by
      intro i a c ai
      rw [List.getElem?_append_left c] at ai
      obtain ⟨u, hu, _⟩ := r.live a (List.mem_of_getElem? ai)
      exact ⟨ai, ne_of_none hu hp⟩
    have last : ∀ {i : Nat} {a : Addr}, ¬ i < φ.length → (φ ++ [(true, p)])[i]? = some (true, a) → i = φ.length ∧ a = p := by
      intro i a c ai
      have := (List.getElem?_eq_some_iff.mp ai).1
      simp at this
      have e : i = φ.length := by omega
      subst e
      simp at ai
      exact ⟨rfl, ai.symm⟩
    by_cases c : i < φ.length <;> by_cases d : j < φ.length
    · exact r.inj i j a (old c ai).1 (old d aj).1
    · exact absurd (last d aj).2 (old c ai).2
    · exact absurd (last c ai).2 (old d aj).2
    · rw [(last c ai).1, (last d aj).1]
  · rcases List.mem_append.mp ha with z | z
    · obtain ⟨u, hu, n⟩ := r.live a z
      exact ⟨u, by rw [upd_ne (ne_of_none hu hp)]; exact hu, n⟩
    · have := List.mem_singleton.mp z
      cases this
      exact ⟨o, upd_same, nt⟩
/-- an object written -/
theorem Ext.write {L : Lk} {φ : Ph} {H : Hp} {a : Addr} {o u : HO} {i : Nat} (hi : φ[i]? = some (true, a)) (hu : H a = some u) (nf : ∀ ob v, u ≠ .frz ob v) (nt : ∀ ys, u ≠ .tup ys) : Ext L φ H φ (upd H a o) := by
  refine ⟨fun _ _ h => h, fun b w h n => ?_, fun b h n => absurd h n, fun b xs h => ?_, fun b ob v h => by rw [upd_ne (fun z => by rw [z, hu] at h; exact nf ob v (Option.some.inj h))]; exact h⟩
  · rw [upd_ne (fun z => n (by rw [z]; exact List.mem_of_getElem? hi))]; exact h
  · exact sqT_upd h (fun ob v z => by rw [hu] at z; exact nf ob v (Option.some.inj z)) (fun ys z => by rw [hu] at z; exact nt ys (Option.some.inj z))
theorem Rel.write {L : Lk} {φ : Ph} {h : MH} {H : Hp} {a : Addr} {o : HO} {i : Nat} {ob ob' : Ob} (r : Rel L φ h H) (hi : h[i]? = some ob) (hw : wr ob = true) (nt' : ∀ ys, o ≠ .tup ys) (ai : φ[i]? = some (true, a)) (new : OR L φ (upd H a o) a ob') :
    Rel L φ (h.set i ob') (upd H a o) := by
  obtain ⟨w, a', ha', _, x⟩ := r.obj i ob hi
  rw [ai] at ha'; cases ha'
  obtain ⟨u, hu, nf, nt⟩ := x.at hw
  have E : Ext L φ H φ (upd H a o) := Ext.write ai hu nf nt
  have hil := (List.getElem?_eq_some_iff.mp hi).1
  have at' : ∀ {j : Nat} {v : Ob}, (h.set i ob')[j]? = some v → (j = i ∧ v = ob') ∨ (j ≠ i ∧ h[j]? = some v) := by
    intro j v hj
    by_cases e : j = i
    · subst e
      rw [List.getElem?_set_self hil] at hj
      exact .inl ⟨rfl, (Option.some.inj hj).symm⟩
    · rw [List.getElem?_set_ne (Ne.symm e)] at hj
      exact .inr ⟨e, hj⟩
  refine ⟨by simp [r.len], fun j v hj => ?_, r.inj, fun b hb => ?_⟩
  · rcases at' hj with ⟨rfl, rfl⟩ | ⟨ne, q⟩
    · exact ⟨true, a, ai, fun _ => rfl, new⟩
    · obtain ⟨w, b, hb, hw2, y⟩ := r.obj j v q
      refine ⟨w, b, hb, hw2, ?_⟩
      have nw : wr v = true → b ≠ a := fun z e => by
        subst e
        rw [hw2 z] at hb
        exact ne (r.inj j i b hb ai)
      by_cases e : b = a
      · subst e
        cases y with
        | ro hr hv => exact .ro (hr.upd fun ob2 z e2 => nf ob2 z (Option.some.inj (hu.symm.trans e2))) (hv.mono E)
        | lst hr hv => exact absurd rfl (nw rfl)
        | dK hr hv => exact absurd rfl (nw rfl)
        | dF hr hv => exact absurd (Option.some.inj (hu.symm.trans hr)) (nf _ _)
        | dT hr hv => exact absurd rfl (nw rfl)
        | ins hc hr hv => exact absurd rfl (nw rfl)
      · exact y.mono E fun w z => by rw [upd_ne e]; exact z
  · obtain ⟨v, hv, n⟩ := r.live b hb
    by_cases e : b = a
    · subst e; exact ⟨o, upd_same, nt'⟩
    · exact ⟨v, by rw [upd_ne e]; exact hv, n⟩
end Mn
/-! Mini: syntax, interpreter -/
namespace Mn
open PySem

inductive ItK where
  | val | rng | enm | zip | rev | itm | zpx
  deriving DecidableEq
inductive Tg where
  | nm (i : Nat) | tp (js : List Nat)
  deriving DecidableEq
/-- built-in functions and types, called -/
inductive Bi where
  | len | max | min | int | str | tuple | list | sum | all | sorted | dict
  deriving DecidableEq
/-- methods of built-in types -/
inductive Mt where
  | append | extend | pop | popAt | insert | index | count | get | get2 | items | join | split | partition | find | replace | upper | bitlen | clear
  deriving DecidableEq

inductive E where
  | var (i : Nat) | con (v : Val) | glb (x : String)
  | bin (op : Operator) (a b : E) | neg (a : E) | not (a : E)
  | and (a b : E) | or (a b : E)
  | cmp (op : CmpOp) (a b : E) | chn (o1 o2 : CmpOp) (a b c : E)
  | isN (a : E) | notN (a : E) | isB (a : E) (b : Bool)
  | lst (es : List E) | tup (es : List E) | dct (ks vs : List E)
  | idx (a i : E) | slc (a : E) (lo hi : Option E)
  | call (f : String) (es : List E)
  | bi (f : Bi) (es : List E)
  | isi (a : E) (t : String)
  | mth (m : Mt) (o : E) (es : List E)
  | own (m : String) (o : E) (es : List E)
  | new (c : String) (es : List E)
  | fld (o : E) (f : String)
  | cmp1 (own : List Nat) (elt : E) (tg : Tg) (k : ItK) (es : List E) (cond : Option E)
  | lof (k : ItK) (es : List E)
  | fst (es : List E)
  | gix (s : String) (e : E)

inductive S where
  | asg (t : Tg) (e : E)
  | exp (e : E) | ret (e : E) | retN
  | ite (c : E) (a b : List S)
  | forS (t : Tg) (k : ItK) (es : List E) (b : List S)
  | whl (c : E) (b : List S)
  | brk | cnt | pas
  | sub (o i e : E)
  | fld (o : E) (f : String) (e : E)
  | rai (c : String) (es : List E)
  | tryS (b : List S) (hs : List (String × Option Nat × List S))
  | thru (b : List S)
  /-- try: return f(x) except s: raise c(m) -/
  | tryR (f : String) (i : Nat) (s c : String) (m : Val)

inductive SR where
  | nx (ρ : Env') (h : MH) | rt (v : Val) (h : MH) | bk (ρ : Env') (h : MH) | ct (ρ : Env') (h : MH)
  | err (c : String) (fs : List (String × Val)) (ρ : Env') (h : MH) | bad

end Mn

namespace Mn
open PySem PySem.Spec PyProof.Rows L2
open Classical

noncomputable def Res.bind {α β : Type} (r : Res α) (f : α → MH → Res β) : Res β :=
  match r with
  | .ok a h => f a h
  | .err c fs h => .err c fs h
  | .bad => .bad
@[simp] theorem bind_ok {α β : Type} {a : α} {h : MH} {f : α → MH → Res β} : (Res.ok a h).bind f = f a h := rfl
@[simp] theorem bind_err {α β : Type} {c : String} {fs : List (String × Val)} {h : MH} {f : α → MH → Res β} : (Res.err c fs h).bind f = .err c fs h := rfl
@[simp] theorem bind_bad {α β : Type} {f : α → MH → Res β} : (Res.bad : Res α).bind f = .bad := rfl

noncomputable def mapO {α β : Type} (f : α → Option β) : List α → Option (List β)
  | [] => some []
  | x :: r => match f x, mapO f r with
    | some y, some ys => some (y :: ys)
    | _, _ => none

/-- what differs from a program to a program -/
structure Pg where
  glb : String → Option Val
  sub : String → String → Option Bool
  mro : String → String → Option String
  flds : String → List String
  /-- except t takes one of class c -/
  exm : String → String → Option Bool
  /-- classes of exceptions that are made here: without an own __init__, or with one that stores its argument -/
  exi : String → Option (Option String)
  cf : String → List Val → MH → Res Val
  /-- defs that are called where what they raise has no context -/
  bare : String → List Val → MH → Res Val := fun _ _ _ => .bad

/-! ### data -/
noncomputable def snap (h : MH) : Nat → Val → Option PyData
  | 0, _ => none
  | _ + 1, .non => some .none
  | _ + 1, .bl b => some (.bool b)
  | _ + 1, .int i => some (.int i)
  | _ + 1, .str s => if (PyData.str s).canLay0 = true then some (.str s) else none
  | n + 1, .tup vs => (mapO (snap h n) vs).map .tuple
  | n + 1, .ref a => match h[a]? with
    | some (.lst _ vs) => (mapO (snap h n) vs).map .list
    | _ => none
  | _ + 1, .exc _ _ => none
/-- v == w -/
noncomputable def veq (h : MH) (v w : Val) : Option Bool :=
  match v, w with
  | .int i, .int j => some (decide (i = j))
  | .str a, .str b => some (decide (a = b))
  | .bl a, .bl b => some (decide (a = b))
  | _, _ => match snap h 64 v, snap h 64 w with
    | some d, some e => some (PyData.eqv d e)
    | _, _ => none

noncomputable def retO {α : Type} (o : Option α) (h : MH) : Res α := match o with
  | some v => .ok v h
  | none => .bad
/-- a new object -/
noncomputable def alloc (o : Ob) (h : MH) : Res Val := .ok (.ref h.length) (h ++ [o])
noncomputable def mulOk (i j : Int) : Prop := (-(2 ^ 64) < i ∧ i < 2 ^ 64) ∨ (-(2 ^ 64) < j ∧ j < 2 ^ 64) ∨ i.natAbs.log2 + j.natAbs.log2 < 1000000
noncomputable def powOk (i j : Int) : Prop := 0 ≤ j ∧ j ≤ 1000000 ∧ i.natAbs < 2 ^ 64

noncomputable def repS (z : Str) (n : Nat) : Str := ⟨(List.replicate n z.cps).foldl (· ++ ·) #[]⟩
noncomputable def binop (op : Operator) (x y : Val) (h : MH) : Res Val :=
  match op, x, y with
  | .Add, .int i, .int j => .ok (.int (i + j)) h
  | .Add, .str a, .str b => if a.length + b.length ≤ sizeLine then .ok (.str (a ++ b)) h else .bad
  | .Add, .tup a, .tup b => if a.length + b.length ≤ sizeLine then .ok (.tup (a ++ b)) h else .bad
  | .Add, .ref a, .ref b => match h[a]?, h[b]? with
    | some (.lst _ xs), some (.lst _ ys) => if xs.length + ys.length ≤ sizeLine then alloc (.lst true (xs ++ ys)) h else .bad
    | _, _ => .bad
  | .Sub, .int i, .int j => .ok (.int (i - j)) h
  | .Mult, .int i, .int j => if mulOk i j then .ok (.int (i * j)) h else .bad
  | .Mult, .str z, .int k => if 1 ≤ z.length ∧ 0 ≤ k ∧ z.length * k.toNat ≤ 4096 then .ok (.str (repS z k.toNat)) h else .bad
  | .Mult, .ref a, .int k => match h[a]? with
    | some (.lst true xs) => if 0 ≤ k ∧ k ≤ 4096 ∧ xs.length * k.toNat ≤ 4096 then alloc (.lst true (List.replicate k.toNat xs).flatten) h else .bad
    | _ => .bad
  | .FloorDiv, .int i, .int j => if 0 < j ∧ j.natAbs.log2 < 9000 then .ok (.int (i / j)) h else .bad
  | .Mod, .int i, .int j => if 0 < j then .ok (.int (i % j)) h else .bad
  | .Pow, .int i, .int j => if powOk i j then .ok (.int (i ^ j.toNat)) h else .bad
  | .LShift, .int i, .int j => if powOk i j then .ok (.int (i * 2 ^ j.toNat)) h else .bad
  | .RShift, .int i, .int j => if 0 ≤ j then .ok (.int (i / 2 ^ j.toNat)) h else .bad
  | .BitAnd, .int i, .int j => .ok (.int (Builtin.bitAnd i j)) h
  | .BitOr, .int i, .int j => .ok (.int (Builtin.bitOr i j)) h
  | .BitXor, .int i, .int j => .ok (.int (Builtin.bitXor i j)) h
  | _, _, _ => .bad

noncomputable def flat : Val → Bool
  | .non => true
  | .bl _ => true
  | .int _ => true
  | .str _ => true
  | _ => false
/-- == of flat values -/
noncomputable def eqF : Val → Val → Bool
  | .non, .non => true
  | .bl a, .bl b => a == b
  | .bl a, .int b => (if a then 1 else 0) == b
  | .int a, .bl b => a == (if b then 1 else 0)
  | .int a, .int b => a == b
  | .str a, .str b => a == b
  | _, _ => false
/-- what a dict holds at a key -/
noncomputable def getC {κ : Type} [DecidableEq κ] (c : κ) (kvs : List (κ × Val)) : Option Val := (kvs.find? fun p => decide (p.1 = c)).map (·.2)
noncomputable def getK (k : Val) (kvs : List (Key × Val)) : Option Val := (keyV k).bind fun c => getC c kvs
noncomputable def getT (k : Val) (kvs : List (List Key × Val)) : Option Val := (keyT k).bind fun c => getC c kvs
/-- a key stored: in its place, or at the end -/
noncomputable def putC {κ : Type} [DecidableEq κ] (c : κ) (v : Val) (kvs : List (κ × Val)) : List (κ × Val) :=
  if (kvs.any fun p => decide (p.1 = c)) = true then kvs.map (fun p => if p.1 = c then (p.1, v) else p) else kvs ++ [(c, v)]
/-- a key, as a value -/
noncomputable def kVal : Key → Val
  | .inl i => .int i
  | .inr x => .str x
/-- a dict without keys is asked for a tuple -/
noncomputable def emT (w : Bool) (kvs : List (Key × Val)) (x : Val) : Bool := w && kvs.isEmpty && (keyT x).isSome
noncomputable def vin? (h : MH) (x y : Val) : Option Bool :=
  match y with
  | .tup ys => if (flat x && ys.all flat) = true then some (ys.any fun z => eqF z x) else none
  | .ref a => match h[a]? with
    | some (.lst _ ys) => if (flat x && ys.all flat) = true then some (ys.any fun z => eqF z x) else match snap h 64 x, snap h 64 y with
      | some d, some (.list ds) => some (ds.any fun z => PyData.eqv z d)
      | _, _ => none
    | some (.dct w kvs) => if emT w kvs x = true then some false else (keyV x).map fun c => (getC c kvs).isSome
    | some (.dtt kvs) => (keyT x).map fun c => (getC c kvs).isSome
    | _ => none
  | .str z => match x with
    | .str c => match c.cps.toList with
      | [k] => some (decide (k ∈ z.cps.toList))
      | _ => some (!(Builtin.Str.occurrences z c 0 z.length 1).isEmpty)
    | _ => none
  | _ => none
noncomputable def cmpop (op : CmpOp) (x y : Val) (h : MH) : Res Val :=
  match op, x, y with
  | .Eq, _, _ => retO ((veq h x y).map .bl) h
  | .NotEq, _, _ => retO ((veq h x y).map fun b => .bl (!b)) h
  | .Lt, .int i, .int j => .ok (.bl (decide (i < j))) h
  | .LtE, .int i, .int j => .ok (.bl (decide (i ≤ j))) h
  | .Gt, .int i, .int j => .ok (.bl (decide (j < i))) h
  | .GtE, .int i, .int j => .ok (.bl (decide (j ≤ i))) h
  | .LtE, .str a, .str b => .ok (.bl (!decide (b.cps.toList < a.cps.toList))) h
  | .In, _, _ => retO ((vin? h x y).map .bl) h
  | .NotIn, _, _ => retO ((vin? h x y).map fun b => .bl (!b)) h
  | _, _, _ => .bad

/-! ### parts -/
noncomputable def cutL {α : Type} (xs : List α) (lo hi : Option Int) : List α := (xs.drop (HT.sIx xs.length 0 lo)).take (HT.sIx xs.length xs.length hi - HT.sIx xs.length 0 lo)
noncomputable def index (x i : Val) (h : MH) : Res Val :=
  match x, i with
  | .tup xs, .int k => retO (atI xs k) h
  | .str z, .int k => if z.length ≤ sizeLine then retO ((atI z.cps.toList k).map fun c => .str ⟨#[c]⟩) h else .bad
  | .ref a, _ => match h[a]?, i with
    | some (.lst _ xs), .int k => retO (atI xs k) h
    | some (.dct _ kvs), _ => retO (getK i kvs) h
    | some (.dtt kvs), _ => retO (getT i kvs) h
    | _, _ => .bad
  | _, _ => .bad
noncomputable def slice (x : Val) (lo hi : Option Int) (h : MH) : Res Val :=
  match x with
  | .tup xs => .ok (.tup (cutL xs lo hi)) h
  | .str z => if z.length ≤ sizeLine then .ok (.str ⟨(cutL z.cps.toList lo hi).toArray⟩) h else .bad
  | .ref a => match h[a]? with
    | some (.lst _ xs) => alloc (.lst true (cutL xs lo hi)) h
    | _ => .bad
  | _ => .bad
noncomputable def tyOf (h : MH) : Val → Option String
  | .non => some "NoneType"
  | .bl _ => some "bool"
  | .int _ => some "int"
  | .str _ => some "str"
  | .tup _ => some "tuple"
  | .ref a => match h[a]? with
    | some (.lst _ _) => some "list"
    | some (.dct _ _) => some "dict"
    | some (.dtt _) => some "dict"
    | some (.ins c _) => some c
    | none => none
  | .exc c _ => some c
/-- isinstance -/
noncomputable def isInst (P : Pg) (v : Val) (t : String) (h : MH) : Res Val := retO ((tyOf h v).bind fun c => (P.sub c t).map .bl) h

noncomputable def intsO : List Val → Option (List Int) := mapO fun v => match v with
  | .int i => some i
  | _ => none
noncomputable def boolsO : List Val → Option (List Bool) := mapO fun v => match v with
  | .bl b => some b
  | _ => none
/-- a list of pairs, its keys told -/
noncomputable def pairO : Val → Option (Key × Val)
  | .tup [k, x] => (keyV k).map fun c => (c, x)
  | _ => none
noncomputable def pairsO (xs : List Val) : Option (List (Key × Val)) := mapO pairO xs
noncomputable def dictL (kvs : List (Key × Val)) : List (Key × Val) := kvs.foldl (fun d p => putC p.1 p.2 d) []
noncomputable def bisem (f : Bi) (vs : List Val) (h : MH) : Res Val :=
  match f, vs with
  | .len, [.tup xs] => .ok (.int xs.length) h
  | .len, [.str z] => if z.length ≤ sizeLine then .ok (.int z.length) h else .bad
  | .len, [.ref a] => match h[a]? with
    | some (.lst _ xs) => .ok (.int xs.length) h
    | some (.dct _ kvs) => .ok (.int kvs.length) h
    | _ => .bad
  | .dict, [.ref a] => match h[a]? with
    | some (.lst _ xs) => match pairsO xs with
      | some kvs => alloc (.dct true (dictL kvs)) h
      | none => .bad
    | _ => .bad
  | .max, [.int i, .int j] => .ok (.int (if j > i then j else i)) h
  | .min, [.int i, .int j] => .ok (.int (if j < i then j else i)) h
  | .int, [.int i] => .ok (.int i) h
  | .int, [.bl b] => .ok (.int (if b then 1 else 0)) h
  | .int, [.str z] => if z.length ≤ 640 then retO ((PySem.intText? z).map .int) h else .bad
  | .str, [.int i] => if i.natAbs.log2 < 1920 then .ok (.str (toString i)) h else .bad
  | .tuple, [.tup xs] => .ok (.tup xs) h
  | .tuple, [.ref a] => match h[a]? with
    | some (.lst _ xs) => .ok (.tup xs) h
    | _ => .bad
  | .list, [.tup xs] => alloc (.lst true xs) h
  | .list, [.ref a] => match h[a]? with
    | some (.lst _ xs) => alloc (.lst true xs) h
    | some (.dct _ kvs) => alloc (.lst true (kvs.map fun p => kVal p.1)) h
    | _ => .bad
  | .sum, [.ref a] => match h[a]? with
    | some (.lst _ xs) => retO ((intsO xs).map fun ns => .int ns.sum) h
    | _ => .bad
  | .all, [.ref a] => match h[a]? with
    | some (.lst _ xs) => retO ((boolsO xs).map fun bs => .bl (bs.all id)) h
    | _ => .bad
  | _, _ => .bad
noncomputable def strsO : List Val → Option (List Str) := mapO fun v => match v with
  | .str s => some s
  | _ => none
noncomputable def mtsem (m : Mt) (o : Val) (vs : List Val) (h : MH) : Res Val :=
  match m, o, vs with
  | .append, .ref a, [v] => match h[a]? with
    | some (.lst true xs) => if xs.length < sizeLine then .ok .non (h.set a (.lst true (xs ++ [v]))) else .bad
    | _ => .bad
  | .extend, .ref a, [.ref b] => match h[a]?, h[b]? with
    | some (.lst true xs), some (.lst true ys) => if xs.length + ys.length ≤ sizeLine then .ok .non (h.set a (.lst true (xs ++ ys))) else .bad
    | _, _ => .bad
  | .pop, .ref a, [] => match h[a]? with
    | some (.lst true xs) => match xs[xs.length - 1]? with
      | some v => .ok v (h.set a (.lst true xs.dropLast))
      | none => .bad
    | _ => .bad
  | .popAt, .ref a, [.int k] => match h[a]? with
    | some (.lst true xs) => match ixN xs.length k with
      | some j => match xs[j]? with
        | some v => if -(2 ^ 63) ≤ k ∧ k < 2 ^ 63 then .ok v (h.set a (.lst true (xs.eraseIdx j))) else .bad
        | none => .bad
      | none => .bad
    | _ => .bad
  | .clear, .ref a, [] => match h[a]? with
    | some (.lst true _) => .ok .non (h.set a (.lst true []))
    | _ => .bad
  | .join, .str z, [.ref a] => match h[a]? with
    | some (.lst _ xs) => match strsO xs with
      | some ys => if (ys.map (·.length)).sum + ys.length * z.length ≤ 16777216 then .ok (.str (Txt.join z ys)) h else .bad
      | none => .bad
    | _ => .bad
  | .split, .str z, [.str y] => if (y.length == 0) = false ∧ z.length + 2 ≤ sizeLine then alloc (.lst true ((Txt.split z y).map .str)) h else .bad
  | .partition, .str z, [.str y] => if (y.length == 0) = false ∧ z.length ≤ sizeLine then .ok (.tup [.str (Txt.partition z y).1, .str (Txt.partition z y).2.1, .str (Txt.partition z y).2.2]) h else .bad
  | .find, .str z, [.str y] => .ok (.int (Txt.find z y)) h
  | .upper, .str z, [] => if z.length ≤ 5592405 then .ok (.str (Txt.upper z)) h else .bad
  | .bitlen, .int i, [] => .ok (.int (Builtin.Int.intBits i)) h
  | .get, .ref a, [v] => match h[a]? with
    | some (.dct w kvs) => if emT w kvs v = true then .ok .non h else match keyV v with
      | some c => .ok ((getC c kvs).getD .non) h
      | none => .bad
    | some (.dtt kvs) => match keyT v with
      | some c => .ok ((getC c kvs).getD .non) h
      | none => .bad
    | _ => .bad
  | .get2, .ref a, [v, w] => match h[a]? with
    | some (.dct z kvs) => if emT z kvs v = true then .ok w h else match keyV v with
      | some c => .ok ((getC c kvs).getD w) h
      | none => .bad
    | some (.dtt kvs) => match keyT v with
      | some c => .ok ((getC c kvs).getD w) h
      | none => .bad
    | _ => .bad
  | .insert, .ref a, [.int i, v] => match h[a]? with
    | some (.lst true xs) => if xs.length < sizeLine ∧ 0 ≤ i ∧ i < 2 ^ 63 then .ok .non (h.set a (.lst true (xs.take i.toNat ++ [v] ++ xs.drop i.toNat))) else .bad
    | _ => .bad
  | .index, .ref a, [v] => match h[a]? with
    | some (.lst _ xs) => if (flat v && xs.all flat) = true then retO ((xs.findIdx? fun z => eqF z v).map fun j => .int (j : Nat)) h else match snap h 64 v, snap h 64 (.ref a) with
      | some d, some (.list ds) => retO ((ds.findIdx? fun z => PyData.eqv z d).map fun j => .int (j : Nat)) h
      | _, _ => .bad
    | _ => .bad
  | _, _, _ => .bad

/-! ### names -/
noncomputable def wipe' (ρ : Env') : List Nat → Env'
  | [] => ρ
  | v :: vs => (wipe' ρ vs).set v none
noncomputable def binds (ρ : Env') : List Nat → List Val → Option Env'
  | [], [] => some ρ
  | j :: js, v :: vs => binds (ρ.set j (some v)) js vs
  | _, _ => none
noncomputable def bindT (t : Tg) (v : Val) (ρ : Env') : Option Env' :=
  match t, v with
  | .nm i, _ => some (ρ.set i (some v))
  | .tp js, .tup vs => binds ρ js vs
  | .tp _, _ => none

/-- what an assignment to names takes apart: a tuple, or a list's items -/
noncomputable def tuL (o : Option Ob) (v : Val) : Val := match o with
  | some (.lst _ vs) => .tup vs
  | _ => v
noncomputable def unT (t : Tg) (h : MH) (v : Val) : Val := match t, v with
  | .tp _, .ref a => tuL h[a]? v
  | _, _ => v
/-! ### what a for walks: the items, and what must stand meanwhile -/
noncomputable abbrev Src := List (Nat × Ob)
noncomputable def Src.stands (c : Src) (h : MH) : Prop := ∀ p ∈ c, h[p.1]? = some p.2
noncomputable def rangeL (lo hi c : Int) : List Val := (List.range ((hi - lo + c - 1) / c).toNat).map fun (k : Nat) => Val.int (lo + (k : Int) * c)
noncomputable def rangeD (lo hi : Int) : List Val := (List.range (lo - hi).toNat).map fun (k : Nat) => Val.int (lo - (k : Int))
noncomputable def enumL (xs : List Val) : List Val := xs.mapIdx fun i v => .tup [.int i, v]
noncomputable def itemsOf (k : ItK) (vs : List Val) (h : MH) : Option (List Val × Src) :=
  match k, vs with
  | .val, [.tup xs] => some (xs, [])
  | .val, [.ref a] => match h[a]? with
    | some (.lst w xs) => some (xs, [(a, .lst w xs)])
    | _ => none
  | .val, [.str z] => some (z.cps.toList.map fun c => .str ⟨#[c]⟩, [])
  | .rng, [.int n] => if n < 2 ^ 62 ∧ -(2 ^ 62) ≤ n then some (rangeL 0 n 1, []) else none
  | .rng, [.int a, .int n] => if (n < 2 ^ 62 ∧ -(2 ^ 62) ≤ n) ∧ (a < 2 ^ 62 ∧ -(2 ^ 62) ≤ a) then some (rangeL a n 1, []) else none
  | .rng, [.int a, .int n, .int c] => if (n < 2 ^ 61 ∧ -(2 ^ 61) ≤ n) ∧ (a < 2 ^ 61 ∧ -(2 ^ 61) ≤ a) ∧ (0 < c ∧ c < 2 ^ 29) then some (rangeL a n c, [])
    else if (n < 2 ^ 61 ∧ -(2 ^ 61) ≤ n) ∧ (a < 2 ^ 61 ∧ -(2 ^ 61) ≤ a) ∧ c = -1 then some (rangeD a n, []) else none
  | .enm, [.ref a] => match h[a]? with
    | some (.lst w xs) => some (enumL xs, [(a, .lst w xs)])
    | _ => none
  | .enm, [.tup xs] => some (enumL xs, [])
  | .zip, [.tup xs, .tup ys] => some ((xs.zip ys).map fun p => .tup [p.1, p.2], [])
  | .zip, [.ref a, .ref b] => match h[a]?, h[b]? with
    | some (.lst w xs), some (.lst z ys) => some ((xs.zip ys).map fun p => .tup [p.1, p.2], [(a, .lst w xs), (b, .lst z ys)])
    | _, _ => none
  | .rev, [.ref a] => match h[a]? with
    | some (.lst w xs) => some (xs.reverse, [(a, .lst w xs)])
    | _ => none
  | .zpx, [.tup xs, .ref b] => match h[b]? with
    | some (.lst z ys) => some ((xs.zip ys).map fun p => .tup [p.1, p.2], [(b, .lst z ys)])
    | _ => none
  | _, _ => none

/-- d.items() is walked: the dict is not written any more -/
noncomputable def itemsD (kvs : List (Key × Val)) : List Val := kvs.map fun p => .tup [kVal p.1, p.2]
noncomputable def resI (k : ItK) (vs : List Val) (h : MH) : Res (List Val × Src) := match k, vs with
  | .itm, [.ref a] => match h[a]? with
    | some (.dct _ kvs) => .ok (itemsD kvs, [(a, .dct false kvs)]) (h.set a (.dct false kvs))
    | _ => .bad
  | _, _ => match itemsOf k vs h with
    | some p => .ok p h
    | none => .bad
noncomputable def forL (t : Tg) (c : Src) (b : Env' → MH → SR) : List Val → Env' → MH → SR
  | [], ρ, h => if c.stands h then .nx ρ h else .bad
  | v :: r, ρ, h => if c.stands h then
      match bindT t v ρ with
      | none => .bad
      | some ρ1 => match b ρ1 h with
        | .nx ρ2 h2 => forL t c b r ρ2 h2
        | .ct ρ2 h2 => forL t c b r ρ2 h2
        | .bk ρ2 h2 => .nx ρ2 h2
        | .rt v h2 => .rt v h2
        | .err x fs ρ2 h2 => .err x fs ρ2 h2
        | .bad => .bad
    else .bad
/-- a comprehension's turns; what an element brings may not raise -/
noncomputable def compL (t : Tg) (c : Src) (ρ : Env') (cond elt : Env' → MH → Res Val) : List Val → List Val → MH → Res (List Val)
  | [], acc, h => if c.stands h then .ok acc h else .bad
  | v :: r, acc, h => if c.stands h then
      match bindT t v ρ with
      | none => .bad
      | some ρ1 => match cond ρ1 h with
        | .ok (.bl true) h1 => match elt ρ1 h1 with
          | .ok w h2 => if acc.length < sizeLine then compL t c ρ cond elt r (acc ++ [w]) h2 else .bad
          | _ => .bad
        | .ok (.bl false) h1 => compL t c ρ cond elt r acc h1
        | _ => .bad
    else .bad

noncomputable def whN (t : Env' → MH → Res Val) (b : Env' → MH → SR) : Nat → Env' → MH → SR
  | 0, _, _ => .bad
  | n + 1, ρ, h => match t ρ h with
    | .ok (.bl true) h1 => match b ρ h1 with
      | .nx ρ2 h2 => whN t b n ρ2 h2
      | .ct ρ2 h2 => whN t b n ρ2 h2
      | .bk ρ2 h2 => .nx ρ2 h2
      | .rt v h2 => .rt v h2
      | .err x fs ρ2 h2 => .err x fs ρ2 h2
      | .bad => .bad
    | .ok (.bl false) h1 => .nx ρ h1
    | .err x fs h1 => .err x fs ρ h1
    | _ => .bad
noncomputable def whC (t : Env' → MH → Res Val) (b : Env' → MH → SR) (ρ : Env') (h : MH) : SR :=
  if e : ∃ n, whN t b n ρ h ≠ .bad then whN t b (Classical.choose e) ρ h else .bad

/-! ### expressions -/
noncomputable def getV (ρ : Env') (i : Nat) (h : MH) : Res Val := match ρ[i]? with
  | some (some v) => .ok v h
  | _ => .bad
noncomputable def isNon : Val → Bool
  | .non => true
  | _ => false
noncomputable def isBl (b : Bool) : Val → Bool
  | .bl c => c == b
  | _ => false
/-- the def that o.m is -/
noncomputable def ownFn (P : Pg) (m : String) (o : Val) (h : MH) : Option String :=
  match o with
  | .ref a => match h[a]? with
    | some (.ins c fs) => if (fs.lookup m).isNone = true then P.mro c m else none
    | _ => none
  | _ => none
/-- what type's method it is -/
noncomputable def mtOk (m : Mt) (o : Val) (h : MH) : Bool :=
  match o with
  | .ref a => match h[a]? with
    | some (.lst _ _) => match m with
      | .append | .extend | .pop | .popAt | .insert | .index | .count | .clear => true
      | _ => false
    | some (.dct _ _) => match m with
      | .get | .get2 | .items => true
      | _ => false
    | some (.dtt _) => match m with
      | .get | .get2 => true
      | _ => false
    | _ => false
  | .str _ => match m with
    | .join | .split | .partition | .find | .replace | .upper => true
    | _ => false
  | .int _ => match m with
    | .bitlen => true
    | _ => false
  | _ => false
noncomputable def getF (P : Pg) (o : Val) (f : String) (h : MH) : Res Val :=
  match o with
  | .ref a => match h[a]? with
    | some (.ins c fs) => if (P.flds c).contains f = true then retO (fs.lookup f) h else .bad
    | _ => .bad
  | .exc c fs => if P.exi c = some (some f) then retO (fs.lookup f) h else .bad
  | _ => .bad
noncomputable def putFl (f : String) (v : Val) : List (String × Val) → List (String × Val)
  | [] => [(f, v)]
  | (g, w) :: r => if g = f then (g, v) :: r else (g, w) :: putFl f v r
noncomputable def newObj (P : Pg) (c : String) (vs : List Val) (h : MH) : Res Val :=
  match P.mro c "__init__" with
  | some f => (P.cf f (.ref h.length :: vs) (h ++ [.ins c []])).bind fun v h2 => match v with
    | .non => .ok (.ref h.length) h2
    | _ => .bad
  | none => .bad

/-- a part of an f-string -/
noncomputable def fmtV : Val → Option Str
  | .str z => if z.length ≤ sizeLine then some z else none
  | .int i => if i.natAbs.log2 < 1920 then some (toString i) else none
  | _ => none
noncomputable def fstrO : List Val → Str → Option Str
  | [], acc => some acc
  | v :: r, acc => match fmtV v with
    | some y => if (acc ++ y).length ≤ sizeLine then fstrO r (acc ++ y) else none
    | none => none
/-- the place of a text in a constant -/
noncomputable def gixO (xs : List Val) : Val → Option Val
  | .str z => match strsO xs with
    | some ys => if z ∈ ys then some (.int (ys.idxOf z : Nat)) else none
    | none => none
  | _ => none
mutual
noncomputable def evE (P : Pg) : E → Env' → MH → Res Val
  | .var i, ρ, h => getV ρ i h
  | .con v, _, h => .ok v h
  | .glb x, _, h => retO (P.glb x) h
  | .bin op a b, ρ, h => (evE P a ρ h).bind fun x h1 => (evE P b ρ h1).bind fun y h2 => binop op x y h2
  | .neg a, ρ, h => (evE P a ρ h).bind fun x h1 => match x with
    | .int i => .ok (.int (-i)) h1
    | _ => .bad
  | .not a, ρ, h => (evE P a ρ h).bind fun x h1 => match x with
    | .bl b => .ok (.bl (!b)) h1
    | _ => .bad
  | .and a b, ρ, h => (evE P a ρ h).bind fun x h1 => match x with
    | .bl true => evE P b ρ h1
    | .bl false => .ok (.bl false) h1
    | _ => .bad
  | .or a b, ρ, h => (evE P a ρ h).bind fun x h1 => match x with
    | .bl true => .ok (.bl true) h1
    | .bl false => evE P b ρ h1
    | _ => .bad
  | .cmp op a b, ρ, h => (evE P a ρ h).bind fun x h1 => (evE P b ρ h1).bind fun y h2 => cmpop op x y h2
  | .chn o1 o2 a b c, ρ, h => (evE P a ρ h).bind fun x h1 => (evE P b ρ h1).bind fun y h2 => (cmpop o1 x y h2).bind fun z h3 => match z with
    | .bl true => (evE P c ρ h3).bind fun w h4 => cmpop o2 y w h4
    | .bl false => .ok (.bl false) h3
    | _ => .bad
  | .isN a, ρ, h => (evE P a ρ h).bind fun x h1 => .ok (.bl (isNon x)) h1
  | .notN a, ρ, h => (evE P a ρ h).bind fun x h1 => .ok (.bl (!isNon x)) h1
  | .isB a b, ρ, h => (evE P a ρ h).bind fun x h1 => .ok (.bl (isBl b x)) h1
  | .lst es, ρ, h => (evEs P es ρ h).bind fun vs h1 => if vs.length ≤ sizeLine then alloc (.lst true vs) h1 else .bad
  | .tup es, ρ, h => (evEs P es ρ h).bind fun vs h1 => if vs.length ≤ sizeLine then .ok (.tup vs) h1 else .bad
  | .dct ks vs, _, h => match ks, vs with
    | [], [] => alloc (.dct true []) h
    | _, _ => .bad
  | .idx a i, ρ, h => (evE P a ρ h).bind fun x h1 => (evE P i ρ h1).bind fun y h2 => index x y h2
  | .slc a lo hi, ρ, h => (evE P a ρ h).bind fun x h1 => (evO P lo ρ h1).bind fun l h2 => (evO P hi ρ h2).bind fun u h3 => slice x l u h3
  | .call f es, ρ, h => (evEs P es ρ h).bind fun vs h1 => P.cf f vs h1
  | .bi f es, ρ, h => (evEs P es ρ h).bind fun vs h1 => bisem f vs h1
  | .isi a t, ρ, h => (evE P a ρ h).bind fun x h1 => isInst P x t h1
  | .mth m o es, ρ, h => (evE P o ρ h).bind fun x h1 => if mtOk m x h1 = true then (evEs P es ρ h1).bind fun vs h2 => mtsem m x vs h2 else .bad
  | .own m o es, ρ, h => (evE P o ρ h).bind fun x h1 => match ownFn P m x h1 with
    | some f => (evEs P es ρ h1).bind fun vs h2 => P.cf f (x :: vs) h2
    | none => .bad
  | .new c es, ρ, h => (evEs P es ρ h).bind fun vs h1 => newObj P c vs h1
  | .fld o f, ρ, h => (evE P o ρ h).bind fun x h1 => getF P x f h1
  | .cmp1 own elt t k es cond, ρ, h => ((evEs P es ρ h).bind (resI k)).bind fun p h1 =>
      (compL t p.2 (wipe' ρ own) (evC P cond) (evE P elt) p.1 [] h1).bind fun ws h2 => alloc (.lst true ws) h2
  | .lof k es, ρ, h => ((evEs P es ρ h).bind (resI k)).bind fun p h1 => match k with
    | .rev => alloc (.lst true p.1) h1
    | .rng => if p.1.length ≤ 4096 then alloc (.lst true p.1) h1 else .bad
    | .zip => if p.2.isEmpty = true then .bad else alloc (.lst true p.1) h1
    | _ => .bad
  | .fst es, ρ, h => (evEs P es ρ h).bind fun vs h1 => retO ((fstrO vs Str.empty).map .str) h1
  | .gix s e, ρ, h => match P.glb s with
    | some (.tup xs) => (evE P e ρ h).bind fun v h1 => retO (gixO xs v) h1
    | _ => .bad
noncomputable def evEs (P : Pg) : List E → Env' → MH → Res (List Val)
  | [], _, h => .ok [] h
  | e :: es, ρ, h => (evE P e ρ h).bind fun v h1 => (evEs P es ρ h1).bind fun vs h2 => .ok (v :: vs) h2
noncomputable def evO (P : Pg) : Option E → Env' → MH → Res (Option Int)
  | none, _, h => .ok none h
  | some e, ρ, h => (evE P e ρ h).bind fun v h1 => match v with
    | .int i => .ok (some i) h1
    | _ => .bad
noncomputable def evC (P : Pg) : Option E → Env' → MH → Res Val
  | none, _, h => .ok (.bl true) h
  | some e, ρ, h => evE P e ρ h
end

/-! ### statements -/
noncomputable def SR.ofRes {α : Type} (ρ : Env') (r : Res α) (k : α → MH → SR) : SR := match r with
  | .ok v h => k v h
  | .err c fs h => .err c fs ρ h
  | .bad => .bad
noncomputable def SR.seq (r : SR) (k : Env' → MH → SR) : SR := match r with
  | .nx ρ h => k ρ h
  | o => o
noncomputable def setSub (o i v : Val) (h : MH) : Res Unit :=
  match o with
  | .ref a => match h[a]?, i with
    | some (.lst true xs), .int k => match ixN xs.length k with
      | some j => .ok () (h.set a (.lst true (xs.set j v)))
      | none => .bad
    | some (.dct true kvs), _ => match keyV i with
      | some c => if kvs.length < sizeLine then .ok () (h.set a (.dct true (putC c v kvs))) else .bad
      | none => match keyT i with
        | some c => if kvs.isEmpty = true then .ok () (h.set a (.dtt [(c, v)])) else .bad
        | none => .bad
    | some (.dtt kvs), _ => match keyT i with
      | some c => if kvs.length < sizeLine then .ok () (h.set a (.dtt (putC c v kvs))) else .bad
      | none => .bad
    | _, _ => .bad
  | _ => .bad
noncomputable def setF (P : Pg) (o : Val) (f : String) (v : Val) (h : MH) : Res Unit :=
  match o with
  | .ref a => match h[a]? with
    | some (.ins c fs) => if fs.length < 1000 ∧ (P.flds c).contains f = true then .ok () (h.set a (.ins c (putFl f v fs))) else .bad
    | _ => .bad
  | _ => .bad
/-- the fields of c(v) -/
noncomputable def raised (o : Option String) (v : Val) : List (String × Val) := match o with
  | none => []
  | some f => [(f, v)]
/-- try: .. except ..: nothing is raised -/
noncomputable def thruR : SR → SR
  | .err _ _ _ _ => .bad
  | r => r
/-- try: .. except t: a suite that does not look at the exception -/
noncomputable def onlyR (P : Pg) (t : String) (k : Env' → MH → SR) (r : SR) : SR := match r with
  | .err c fs ρ h => match P.exm c t with
    | some true => k ρ h
    | _ => .bad
  | r => r
/-- try: .. except t as i: j = i -/
noncomputable def tryR (P : Pg) (t : String) (i j : Nat) (r : SR) : SR := match r with
  | .err c fs ρ h => match P.exm c t with
    | some true => if i < ρ.length then .nx ((ρ.set j (some (.exc c fs))).set i none) h else .bad
    | _ => .bad
  | r => r
/-- a suite that may look at the exception that it handles: names, a return -/
noncomputable def hotA (P : Pg) : List S → Env' → MH → SR
  | [], ρ, h => .nx ρ h
  | .asg (.nm j) e :: r, ρ, h => .ofRes ρ (evE P e ρ h) fun v h1 => hotA P r (ρ.set j (some v)) h1
  | .ret e :: _, ρ, h => .ofRes ρ (evE P e ρ h) fun v h1 => .rt v h1
  | _, _, _ => .bad
/-- the name of the exception is gone behind the suite; a suite does not raise -/
noncomputable def goneR (i : Nat) (r : SR) : SR := match r with
  | .nx ρ h => .nx (ρ.set i none) h
  | .rt v h => .rt v h
  | _ => .bad
/-- clauses 'except t as i: suite' -/
noncomputable def hotR (P : Pg) (c : String) (fs : List (String × Val)) (ρ : Env') (h : MH) : List (String × Option Nat × List S) → SR
  | (t, some i, b) :: r => match P.exm c t with
    | some true => if i < ρ.length then goneR i (hotA P b (ρ.set i (some (.exc c fs))) h) else .bad
    | some false => hotR P c fs ρ h r
    | none => .bad
  | _ => .bad
noncomputable def holdR (P : Pg) (hs : List (String × Option Nat × List S)) (r : SR) : SR := match r with
  | .err c fs ρ h => hotR P c fs ρ h hs
  | r => r
/-- try: return f(x) except s: raise c(m) -/
noncomputable def bareR (P : Pg) (f : String) (i : Nat) (s c : String) (m : Val) (ρ : Env') (h : MH) : SR := .ofRes ρ (getV ρ i h) fun v h1 => match P.bare f [v] h1 with
  | .ok r h' => .rt r h'
  | .err c2 _ h' => match P.exm c2 s, P.exi c with
    | some true, some (some fl) => .err c [(fl, m)] ρ h'
    | _, _ => .bad
  | .bad => .bad
mutual
noncomputable def evS (P : Pg) : S → Env' → MH → SR
  | .asg t e, ρ, h => .ofRes ρ (evE P e ρ h) fun v h1 => match bindT t (unT t h1 v) ρ with
    | some ρ1 => .nx ρ1 h1
    | none => .bad
  | .exp e, ρ, h => .ofRes ρ (evE P e ρ h) fun _ h1 => .nx ρ h1
  | .ret e, ρ, h => .ofRes ρ (evE P e ρ h) fun v h1 => .rt v h1
  | .retN, _, h => .rt .non h
  | .ite c a b, ρ, h => .ofRes ρ (evE P c ρ h) fun v h1 => match v with
    | .bl true => evB P a ρ h1
    | .bl false => evB P b ρ h1
    | _ => .bad
  | .forS t k es b, ρ, h => .ofRes ρ ((evEs P es ρ h).bind (resI k)) fun p h1 => forL t p.2 (evB P b) p.1 ρ h1
  | .whl c b, ρ, h => whC (evE P c) (evB P b) ρ h
  | .brk, ρ, h => .bk ρ h
  | .cnt, ρ, h => .ct ρ h
  | .pas, ρ, h => .nx ρ h
  | .sub o i e, ρ, h => .ofRes ρ (evE P e ρ h) fun v h1 => .ofRes ρ (evE P o ρ h1) fun x h2 => .ofRes ρ (evE P i ρ h2) fun y h3 => .ofRes ρ (setSub x y v h3) fun _ h4 => .nx ρ h4
  | .fld o f e, ρ, h => .ofRes ρ (evE P e ρ h) fun v h1 => .ofRes ρ (evE P o ρ h1) fun x h2 => .ofRes ρ (setF P x f v h2) fun _ h3 => .nx ρ h3
  | .rai c es, ρ, h => match es with
    | [e] => match P.exi c with
      | some o => .ofRes ρ (evE P e ρ h) fun v h1 => .err c (raised o v) ρ h1
      | none => .bad
    | _ => .bad
  | .thru b, ρ, h => thruR (evB P b ρ h)
  | .tryR f i s c m, ρ, h => bareR P f i s c m ρ h
  | .tryS b hs, ρ, h => match hs with
    | [(t, none, [.asg (.nm j) e])] => onlyR P t (fun ρ2 h2 => .ofRes ρ2 (evE P e ρ2 h2) fun v h3 => .nx (ρ2.set j (some v)) h3) (evB P b ρ h)
    | [(t, none, [.ret e])] => onlyR P t (fun ρ2 h2 => .ofRes ρ2 (evE P e ρ2 h2) fun v h3 => .rt v h3) (evB P b ρ h)
    | [(t, some i, [.asg (.nm j) (.var k)])] => if i = k ∧ i ≠ j then tryR P t i j (evB P b ρ h) else .bad
    | (_, none, []) :: hs => holdR P hs (evB P b ρ h)
    | _ => .bad
noncomputable def evB (P : Pg) : List S → Env' → MH → SR
  | [], ρ, h => .nx ρ h
  | s :: r, ρ, h => (evS P s ρ h).seq (evB P r)
end
end Mn
/-! Mini: what a run of Mini says of HandS's readings -/
namespace Mn
open PySem PySem.Spec PyProof.Rows L2

/-- an exception of class c with the fields fs -/
noncomputable def ExR (L : Lk) (φ : Ph) (H : Hp) (c : String) (fs : List (String × Val)) (cls : Value) (d : Option Addr) : Prop :=
  ∃ C, L.exc c = some C ∧ cls = .ref C ∧ ((fs = [] ∧ d = none) ∨ ∃ dd xs, d = some dd ∧ H dd = some (.xd xs) ∧ (true, dd) ∉ φ ∧ FRs L φ H fs xs)
noncomputable def Post {α β : Type} (L : Lk) (φ : Ph) (H : Hp) (rel : Ph → Hp → α → β → Prop) (r : Res α) (Q : β → Hp → Prop) (E : XK) : Prop :=
  match r with
  | .ok m h' => ∀ (v : β) (H' : Hp) (φ' : Ph), Ext L φ H φ' H' → Rel L φ' h' H' → rel φ' H' m v → Q v H'
  | .err c fs h' => ∀ (cls : Value) (d : Option Addr) (H' : Hp) (φ' : Ph), Ext L φ H φ' H' → Rel L φ' h' H' → ExR L φ' H' c fs cls d → E cls d H'
  | .bad => False
section
variable {α β γ δ : Type} {L : Lk} {φ φ1 : Ph} {H H1 : Hp} {rel : Ph → Hp → α → β → Prop} {rel0 : Ph → Hp → γ → δ → Prop} {r : Res α} {Q Q' : β → Hp → Prop} {E : XK}
theorem Post.step (e : Ext L φ H φ1 H1) (h : Post L φ H rel r Q E) : Post L φ1 H1 rel r Q E := by
  cases r with
  | ok m h' => exact fun v H' φ' x R q => h v H' φ' (e.trans x) R q
  | err c fs h' => exact fun cls d H' φ' x R q => h cls d H' φ' (e.trans x) R q
  | bad => exact h
theorem Post.imp (h : Post L φ H rel r Q E) (k : ∀ v H', Q v H' → Q' v H') : Post L φ H rel r Q' E := by
  cases r with
  | ok m h' => exact fun v H' φ' x R q => k _ _ (h v H' φ' x R q)
  | err c fs h' => exact h
  | bad => exact h
theorem Post.bind {g : Res γ} {f : γ → MH → Res α} (h : Post L φ H rel (g.bind f) Q E) :
    Post L φ H rel0 g (fun v H' => ∃ φ' h' a, Ext L φ H φ' H' ∧ Rel L φ' h' H' ∧ rel0 φ' H' a v ∧ Post L φ' H' rel (f a h') Q E) E := by
  cases g with
  | ok m h' => exact fun v H' φ' x R q => ⟨φ', h', m, x, R, q, Post.step x h⟩
  | err c fs h' => exact h
  | bad => exact h
end

theorem Post.bindE {α β γ δ : Type} {L : Lk} {φ : Ph} {H : Hp} {rel : Ph → Hp → α → β → Prop} {rel0 : Ph → Hp → γ → δ → Prop} {Q : β → Hp → Prop} {E : XK} {g : Res γ} {f : γ → MH → Res α} (h : Post L φ H rel (g.bind f) Q E) :
    Post L φ H rel0 g (fun v H' => ∃ φ' h' a, g = .ok a h' ∧ Ext L φ H φ' H' ∧ Rel L φ' h' H' ∧ rel0 φ' H' a v ∧ Post L φ' H' rel (f a h') Q E) E := by
  cases g with
  | ok m h' => exact fun v H' φ' x R q => ⟨φ', h', m, rfl, x, R, q, Post.step x h⟩
  | err c fs h' => exact h
  | bad => exact h
/-- the names -/
structure EnvR (L : Lk) (φ : Ph) (H : Hp) (ρ : Env') (σ : L2.St) : Prop where
  len : ρ.length = σ.length
  get : ∀ (i : Nat) (v : Val), ρ[i]? = some (some v) → ∃ x, σ[i]? = some (some x) ∧ VR L φ H v x
theorem EnvR.mono {L : Lk} {φ φ' : Ph} {H H' : Hp} {ρ : Env'} {σ : L2.St} (r : EnvR L φ H ρ σ) (e : Ext L φ H φ' H') : EnvR L φ' H' ρ σ :=
  ⟨r.len, fun i v h => let ⟨x, a, b⟩ := r.get i v h; ⟨x, a, b.mono e⟩⟩
theorem EnvR.set {L : Lk} {φ : Ph} {H : Hp} {ρ : Env'} {σ : L2.St} (r : EnvR L φ H ρ σ) {v : Val} {x : V} (h : VR L φ H v x) (j : Nat) : EnvR L φ H (ρ.set j (some v)) (σ.set j (some x)) := by
  refine ⟨by simp [r.len], fun i w hi => ?_⟩
  by_cases e : j = i
  · subst e
    by_cases c : j < ρ.length
    · rw [List.getElem?_set_self c] at hi
      cases hi
      exact ⟨x, List.getElem?_set_self (by rw [← r.len]; exact c), h⟩
    · rw [List.getElem?_eq_none (by simpa using c)] at hi; cases hi
  · rw [List.getElem?_set_ne e] at hi
    obtain ⟨y, a, b⟩ := r.get i w hi
    exact ⟨y, by rw [List.getElem?_set_ne e]; exact a, b⟩
theorem EnvR.wipe {L : Lk} {φ : Ph} {H : Hp} {ρ : Env'} {σ : L2.St} (r : EnvR L φ H ρ σ) : ∀ vs : List Nat, EnvR L φ H (wipe' ρ vs) (L2.wipe σ vs)
  | [] => r
  | v :: vs => by
    have ih := r.wipe vs
    refine ⟨by simp [wipe', L2.wipe, ih.len], fun i w hi => ?_⟩
    unfold wipe' at hi
    unfold L2.wipe
    by_cases e : v = i
    · subst e
      by_cases c : v < (wipe' ρ vs).length
      · rw [List.getElem?_set_self c] at hi; cases hi
      · rw [List.getElem?_eq_none (by simpa using c)] at hi; cases hi
    · rw [List.getElem?_set_ne e] at hi ⊢
      exact ih.get i w hi

noncomputable abbrev vR (L : Lk) : Ph → Hp → Val → V → Prop := VR L
noncomputable abbrev vRs (L : Lk) : Ph → Hp → List Val → List V → Prop := VRs L
/-- the reading that Mini's run gives -/
noncomputable def tM (L : Lk) (P : Pg) (W : WX) (e : E) : TE := fun σ H Q => ∃ φ h ρ, Rel L φ h H ∧ EnvR L φ H ρ σ ∧ Post L φ H (vR L) (evE P e ρ h) Q (fun c d H' => W c d σ H')
noncomputable def tMs (L : Lk) (P : Pg) (W : WX) (es : List E) : TA := fun σ H Q => ∃ φ h ρ, Rel L φ h H ∧ EnvR L φ H ρ σ ∧ Post L φ H (vRs L) (evEs P es ρ h) Q (fun c d H' => W c d σ H')
noncomputable def tMT (L : Lk) (P : Pg) (W : WX) (e : E) : TT := fun σ H Q => tM L P W e σ H fun v H' => ∃ b, v = .bl b ∧ Q b H'
noncomputable def rOp (L : Lk) (f : Val → Val → MH → Res Val) : R2 := fun x y H Q => ∃ φ h v w, Rel L φ h H ∧ VR L φ H v x ∧ VR L φ H w y ∧ Post L φ H (vR L) (f v w h) Q (fun _ _ _ => False)
noncomputable def rUn (L : Lk) (f : Val → MH → Res Val) : V → Hp → VK → Prop := fun x H Q => ∃ φ h v, Rel L φ h H ∧ VR L φ H v x ∧ Post L φ H (vR L) (f v h) Q (fun _ _ _ => False)
noncomputable def rCl (L : Lk) (f : List Val → MH → Res Val) : List V → Hp → VK → Prop := fun xs H Q => ∃ φ h vs, Rel L φ h H ∧ VRs L φ H vs xs ∧ Post L φ H (vR L) (f vs h) Q (fun _ _ _ => False)
noncomputable def rMt (L : Lk) (f : Val → List Val → MH → Res Val) : V → List V → Hp → VK → Prop := fun x xs H Q => ∃ φ h v vs, Rel L φ h H ∧ VR L φ H v x ∧ VRs L φ H vs xs ∧ Post L φ H (vR L) (f v vs h) Q (fun _ _ _ => False)

section
variable {X : Cx}
theorem PE.weak {e : Expr} {t t' : TE} (h : PE X e t) (k : ∀ σ H Q, t' σ H Q → t σ H Q) : PE X e t' := ⟨fun pins s σ H Q I q => h.run pins s σ H Q I (k σ H Q q)⟩
theorem PT.weak {e : Expr} {t t' : TT} (h : PT X e t) (k : ∀ σ H Q, t' σ H Q → t σ H Q) : PT X e t' := ⟨fun pins s σ H Q I q => h.run pins s σ H Q I (k σ H Q q)⟩
theorem PW.weak {e : Expr} {t t' : TT} (h : PW X e t) (k : ∀ σ H Q, t' σ H Q → t σ H Q) : PW X e t' := ⟨fun wh pins s σ H Q I q => h.run wh pins s σ H Q I (k σ H Q q)⟩
theorem PA.weak {e : List Expr} {t t' : TA} (h : PA X e t) (k : ∀ σ H Q, t' σ H Q → t σ H Q) : PA X e t' := ⟨fun pos pins s σ H Q I q => h.run pos pins s σ H Q I (k σ H Q q)⟩
theorem PS.weak {e : Stmt} {t t' : TS} (h : PS X e t) (k : ∀ D σ H, t' D σ H → t D σ H) : PS X e t' := ⟨fun pins s σ H D I q => h.run pins s σ H D I (k D σ H q)⟩
theorem PSs.weak {e : List Stmt} {t t' : TS} (h : PSs X e t) (k : ∀ D σ H, t' D σ H → t D σ H) : PSs X e t' := ⟨fun pins s σ H D I q => h.run pins s σ H D I (k D σ H q)⟩
theorem PI.weak {tg e : Expr} {t t' : TI} (h : PI X tg e t) (k : ∀ σ H Q, t' σ H Q → t σ H Q) : PI X tg e t' := ⟨fun pins s σ H Q I q => h.run pins s σ H Q I (k σ H Q q)⟩
theorem PI.or {tg e : Expr} {t t' : TI} (h : PI X tg e t) (h' : PI X tg e t') : PI X tg e (fun σ H R => t σ H R ∨ t' σ H R) := ⟨fun pins s σ H Q I q => q.elim (h.run pins s σ H Q I) (h'.run pins s σ H Q I)⟩
theorem OpR.weak {f : Value → Value → Sem Value} {r r' : R2} (h : OpR X f r) (k : ∀ x y H Q, r' x y H Q → r x y H Q) : OpR X f r' := fun pins s σ H x y v u Q I rx ry q => h pins s σ H x y v u Q I rx ry (k _ _ _ _ q)
end

/-! ### binary operators -/
section
variable {X : Cx} {L : Lk}
theorem VR.intI {φ : Ph} {H : Hp} {i : Int} {x : V} (h : VR L φ H (.int i) x) : x = .int i := by cases h; rfl
theorem VR.strI {φ : Ph} {H : Hp} {i : Str} {x : V} (h : VR L φ H (.str i) x) : x = .str i := by cases h; rfl
theorem VR.blI {φ : Ph} {H : Hp} {i : Bool} {x : V} (h : VR L φ H (.bl i) x) : x = .bl i := by cases h; rfl
theorem VR.nonI {φ : Ph} {H : Hp} {x : V} (h : VR L φ H .non x) : x = .non := by cases h; rfl
theorem VR.tupI {φ : Ph} {H : Hp} {vs : List Val} {x : V} (h : VR L φ H (.tup vs) x) : ∃ a xs, x = .ref a ∧ SqT L.K H a xs ∧ VRs L φ H vs xs := by
  cases h with
  | tup a b => exact ⟨_, _, rfl, a.sq, b⟩
theorem VR.tupU {φ : Ph} {H : Hp} {vs : List Val} {x : V} (h : VR L φ H (.tup vs) x) : ∃ a xs, x = .ref a ∧ TuA L.K H a xs ∧ VRs L φ H vs xs := by
  cases h with
  | tup a b => exact ⟨_, _, rfl, a, b⟩
theorem VR.keyT {φ : Ph} {H : Hp} {v : Val} {x : V} {c : List Key} (h : VR L φ H v x) (e : keyT v = some c) : ∃ b, x = .ref b ∧ H b = some (.tup (c.map kV)) := by
  unfold Mn.keyT at e
  split at e
  · rename_i s i
    cases e
    obtain ⟨a, xs, rfl, t, r⟩ := h.tupU
    cases r with
    | cons r1 r =>
      cases r with
      | cons r2 r =>
        cases r
        rw [VR.strI r1, VR.intI r2] at t
        rcases t with t | t
        · exact ⟨a, rfl, t⟩
        · exact absurd rfl (t.1 s i)
  · cases e
theorem VR.refI {φ : Ph} {H : Hp} {i : Nat} {x : V} (h : VR L φ H (.ref i) x) : ∃ a, x = .ref a ∧ At φ i a := by
  cases h with
  | ref a => exact ⟨_, rfl, a⟩
theorem VRs.length {φ : Ph} {H : Hp} : ∀ {vs : List Val} {xs : List V}, VRs L φ H vs xs → vs.length = xs.length
  | _, _, .nil => rfl
  | _, _, .cons _ t => by simp [t.length]
theorem VRs.append {φ : Ph} {H : Hp} : ∀ {vs ws : List Val} {xs ys : List V}, VRs L φ H vs xs → VRs L φ H ws ys → VRs L φ H (vs ++ ws) (xs ++ ys)
  | _, _, _, _, .nil, q => q
  | _, _, _, _, .cons h t, q => .cons h (t.append q)
theorem VRs.drop {φ : Ph} {H : Hp} : ∀ (n : Nat) {vs : List Val} {xs : List V}, VRs L φ H vs xs → VRs L φ H (vs.drop n) (xs.drop n)
  | 0, _, _, q => q
  | _ + 1, _, _, .nil => .nil
  | n + 1, _, _, .cons _ t => t.drop n
theorem VRs.take {φ : Ph} {H : Hp} : ∀ (n : Nat) {vs : List Val} {xs : List V}, VRs L φ H vs xs → VRs L φ H (vs.take n) (xs.take n)
  | 0, _, _, _ => .nil
  | _ + 1, _, _, .nil => .nil
  | n + 1, _, _, .cons h t => .cons h (t.take n)
theorem VRs.get {φ : Ph} {H : Hp} : ∀ {vs : List Val} {xs : List V} {i : Nat} {v : Val}, VRs L φ H vs xs → vs[i]? = some v → ∃ x, xs[i]? = some x ∧ VR L φ H v x
  | _, _, _, _, .nil, e => by simp at e
  | _, _, 0, _, .cons r _, e => by simp at e; subst e; exact ⟨_, rfl, r⟩
  | _, _, i + 1, v, .cons _ t, e => by
    obtain ⟨u, h1, h2⟩ := t.get (i := i) (v := v) (by simpa using e)
    exact ⟨u, by simpa using h1, h2⟩
theorem VRs.set {φ : Ph} {H : Hp} {v : Val} {x : V} (h : VR L φ H v x) : ∀ {vs : List Val} {xs : List V} (i : Nat), VRs L φ H vs xs → VRs L φ H (vs.set i v) (xs.set i x)
  | _, _, _, .nil => .nil
  | _, _, 0, .cons _ t => .cons h t
  | _, _, i + 1, .cons q t => .cons q (t.set h i)
theorem VRs.nil_iff {φ : Ph} {H : Hp} {vs : List Val} {xs : List V} (h : VRs L φ H vs xs) : xs = [] ↔ vs = [] := by
  cases h <;> simp
theorem OR.lstI {φ : Ph} {H : Hp} {a : Addr} {w : Bool} {vs : List Val} (h : OR L φ H a (.lst w vs)) : ∃ xs, SqL L.K H a xs ∧ VRs L φ H vs xs ∧ (w = true → H a = some (.lst xs)) := by
  cases h with
  | lst h r => exact ⟨_, .of h, r, fun _ => h⟩
  | ro h r => exact ⟨_, h.sq, r, fun z => by cases z⟩
theorem Rel.at {φ : Ph} {h : MH} {H : Hp} (R : Rel L φ h H) {i : Nat} {o : Ob} {x : V} (hi : h[i]? = some o) (v : VR L φ H (.ref i) x) : ∃ a, x = .ref a ∧ (At φ i a ∧ (wr o = true → φ[i]? = some (true, a))) ∧ OR L φ H a o := by
  obtain ⟨a, rfl, w, e⟩ := v.refI
  obtain ⟨w', b, e', hw, q⟩ := R.obj i o hi
  rw [e] at e'; cases e'
  exact ⟨a, rfl, ⟨⟨w, e⟩, fun z => by rw [e, hw z]⟩, q⟩
theorem VRs.reverse {φ : Ph} {H : Hp} : ∀ {vs : List Val} {xs : List V}, VRs L φ H vs xs → VRs L φ H vs.reverse xs.reverse
  | _, _, .nil => .nil
  | _, _, .cons h t => by rw [List.reverse_cons, List.reverse_cons]; exact t.reverse.append (.cons h .nil)
theorem OR.dctI {φ : Ph} {H : Hp} {a : Addr} {w : Bool} {kvs : List (Key × Val)} (h : OR L φ H a (.dct w kvs)) : ∃ xs, Rd H a (.dK xs) ∧ KRs L φ H kvs xs ∧ (w = true → H a = some (.dK xs)) ∧ (w = false → ∃ ob, H a = some (.frz ob (.dK xs))) := by
  cases h with
  | dK h r => exact ⟨_, .inl h, r, (fun _ => h), fun z => Bool.noConfusion z⟩
  | dF h r => exact ⟨_, .inr ⟨_, h⟩, r, (fun z => Bool.noConfusion z), fun _ => ⟨_, h⟩⟩
theorem KRs.length {κ : Type} {φ : Ph} {H : Hp} : ∀ {kvs : List (κ × Val)} {xs : List (κ × V)}, KRs L φ H kvs xs → kvs.length = xs.length
  | _, _, .nil => rfl
  | _, _, .cons _ t => by simp [t.length]
theorem KRs.hit {κ : Type} [DecidableEq κ] {φ : Ph} {H : Hp} {c : κ} {v : Val} : ∀ {kvs : List (κ × Val)} {xs : List (κ × V)}, KRs L φ H kvs xs → getC c kvs = some v → ∃ x, valV xs c = some x ∧ VR L φ H v x
  | _, _, .nil, e => by cases e
  | _, _, .cons (c := d) (x := x) (v := w) (kvs := ks) h t, e => by
    by_cases q : d = c
    · have e' : some w = some v := by simpa [getC, List.find?_cons, q] using e
      cases e'
      exact ⟨x, valV_pos (p := (d, x)) q, h⟩
    · have e' : getC c ks = Option.some v := by simpa [getC, List.find?_cons, q] using e
      obtain ⟨y, e1, e2⟩ := t.hit e'
      exact ⟨y, by rw [valV_neg (p := (d, x)) q]; exact e1, e2⟩
theorem KRs.miss {κ : Type} [DecidableEq κ] {φ : Ph} {H : Hp} {c : κ} : ∀ {kvs : List (κ × Val)} {xs : List (κ × V)}, KRs L φ H kvs xs → getC c kvs = none → valV xs c = none
  | _, _, .nil, _ => rfl
  | _, _, .cons (c := d) (x := x) (v := w) (kvs := ks) h t, e => by
    by_cases q : d = c
    · have e' : Option.some w = Option.none := by simpa [getC, List.find?_cons, q] using e
      cases e'
    · have e' : getC c ks = Option.none := by simpa [getC, List.find?_cons, q] using e
      rw [valV_neg (p := (d, x)) q]
      exact t.miss e'
theorem KRs.isSome {κ : Type} [DecidableEq κ] {φ : Ph} {H : Hp} {c : κ} {kvs : List (κ × Val)} {xs : List (κ × V)} (r : KRs L φ H kvs xs) : (valV xs c).isSome = (getC c kvs).isSome := by
  cases e : getC c kvs with
  | none => rw [r.miss e]; rfl
  | some v =>
    obtain ⟨x, e1, _⟩ := r.hit e
    rw [e1]; rfl
theorem KRs.repl {κ : Type} [DecidableEq κ] {φ : Ph} {H : Hp} {c : κ} {v : Val} {x : V} (rv : VR L φ H v x) : ∀ {kvs : List (κ × Val)} {xs : List (κ × V)}, KRs L φ H kvs xs → KRs L φ H (kvs.map fun p => if p.1 = c then (p.1, v) else p) (xs.map fun p => if p.1 = c then (p.1, x) else p)
  | _, _, .nil => .nil
  | _, _, .cons (c := d) h t => by
    rw [List.map_cons, List.map_cons]
    by_cases q : d = c
    · rw [if_pos q, if_pos q]; exact .cons rv (t.repl rv)
    · rw [if_neg q, if_neg q]; exact .cons h (t.repl rv)
theorem KRs.snoc {κ : Type} {φ : Ph} {H : Hp} {c : κ} {v : Val} {x : V} (rv : VR L φ H v x) : ∀ {kvs : List (κ × Val)} {xs : List (κ × V)}, KRs L φ H kvs xs → KRs L φ H (kvs ++ [(c, v)]) (xs ++ [(c, x)])
  | _, _, .nil => .cons rv .nil
  | _, _, .cons h t => .cons h (t.snoc rv)
theorem KRs.put {κ : Type} [DecidableEq κ] {φ : Ph} {H : Hp} {c : κ} {v : Val} {x : V} (rv : VR L φ H v x) {kvs : List (κ × Val)} {xs : List (κ × V)} (r : KRs L φ H kvs xs) : KRs L φ H (putC c v kvs) (putK xs c x) := by
  have any : ∀ {kvs : List (κ × Val)} {xs : List (κ × V)}, KRs L φ H kvs xs → (kvs.any fun p => decide (p.1 = c)) = xs.any fun p => decide (p.1 = c) := by
    intro kvs xs r
    induction r with
    | nil => rfl
    | cons h t ih => rw [List.any_cons, List.any_cons, ih]
  unfold putC putK
  rw [any r]
  by_cases e : (xs.any fun p => decide (p.1 = c)) = true
  · rw [if_pos e, if_pos e]; exact r.repl rv
  · rw [if_neg e, if_neg e]; exact r.snoc rv
theorem kVal_ok {φ : Ph} {H : Hp} : ∀ c : Key, VR L φ H (kVal c) (kV c)
  | .inl i => .int i
  | .inr x => .str x
theorem KRs.keys {φ : Ph} {H : Hp} : ∀ {kvs : List (Key × Val)} {xs : List (Key × V)}, KRs L φ H kvs xs → VRs L φ H (kvs.map fun p => kVal p.1) (xs.map fun p => kV p.1)
  | _, _, .nil => .nil
  | _, _, .cons h t => .cons (kVal_ok _) t.keys
theorem KRs.get {φ : Ph} {H : Hp} : ∀ {kvs : List (Key × Val)} {xs : List (Key × V)} {i : Nat} {p : Key × V}, KRs L φ H kvs xs → xs[i]? = Option.some p → ∃ v, kvs[i]? = Option.some (p.1, v) ∧ VR L φ H v p.2
  | _, _, _, _, .nil, e => by simp at e
  | _, _, 0, _, .cons h _, e => by simp at e; subst e; exact ⟨_, rfl, h⟩
  | _, _, i + 1, p, .cons _ t, e => by
    obtain ⟨v, h1, h2⟩ := t.get (i := i) (p := p) (by simpa using e)
    exact ⟨v, by simpa using h1, h2⟩
theorem VR.key {φ : Ph} {H : Hp} {v : Val} {x : V} {c : Key} (r : VR L φ H v x) (e : keyV v = Option.some c) : x = kV c := by
  cases r <;> cases e <;> rfl
/-- no dict -/
noncomputable def noD (h : MH) (v : Val) : Prop := ∀ a, v = .ref a → (∀ w kvs, h[a]? ≠ Option.some (.dct w kvs)) ∧ ∀ kvs, h[a]? ≠ Option.some (.dtt kvs)
/-- what a dict tells of a key -/
noncomputable def askO (o : Ob) (k : Val) : Option (Option Val) := match o with
  | .dct w kvs => if emT w kvs k = true then Option.some Option.none else (keyV k).map fun c => getC c kvs
  | .dtt kvs => (Mn.keyT k).map fun c => getC c kvs
  | _ => Option.none
/-- an empty dict is one of either kind -/
theorem inv_KT {pins : List (Addr × Obj)} {σ : L2.St} {H : Hp} {s : Shared} {a : Addr} (I : Inv X pins σ H s) (e : H a = Option.some (.dK [])) : Inv X pins σ (upd H a (.dT [])) s := by
  obtain ⟨z, hd, vs, rel, dd⟩ := dk_of I.hok e
  cases rel
  obtain ⟨q, es, ep, hq, h2, h3, h4, h5, h6⟩ := dd
  have e0 : es.toList = [] := List.length_eq_zero_iff.mp h5.length
  exact d_write (h' := s.heap) (t' := s.toks) I (by rw [e]; exact True.intro) (Heap.SameBut.refl a s.heap) ⟨q, hq⟩ ⟨Nat.zero_le _, hd, [], .nil, q, es, ep, hq, h2, h3, e0, List.nodup_nil⟩
theorem inv_TK {pins : List (Addr × Obj)} {σ : L2.St} {H : Hp} {s : Shared} {a : Addr} (I : Inv X pins σ H s) (e : H a = Option.some (.dT [])) : Inv X pins σ (upd H a (.dK [])) s := by
  obtain ⟨z, hd, vs, rel, dd⟩ := dt_of I.hok e
  cases rel
  obtain ⟨q, es, ep, hq, h2, h3, h4, h5, h6⟩ := dd
  have h4' : es.toList = [] := h4
  exact d_write (h' := s.heap) (t' := s.toks) I (by rw [e]; exact True.intro) (Heap.SameBut.refl a s.heap) ⟨q, hq⟩ ⟨Nat.zero_le _, hd, [], .nil, q, es, ep, hq, h2, h3, (fun e he => by rw [← Array.mem_toList_iff, h4'] at he; cases he), (by rw [h4']; exact Pairs.nil), List.nodup_nil⟩
theorem ask_run {pins : List (Addr × Obj)} {σ : L2.St} {H : Hp} {s : Shared} {φ : Ph} {h : MH} {i : Nat} {k : Val} {x y : V} {ob : Ob} {o : Option Val} {C : Prop} (I : Inv X pins σ H s) (R : Rel L φ h H) (vd : VR L φ H (.ref i) x) (vk : VR L φ H k y) (hi : h[i]? = Option.some ob) (e : askO ob k = Option.some o)
    (go : ∀ (p : Addr) (H' : Hp) (o' : Option V), x = .ref p → Inv X pins σ H' s → DGet H' p y o' → (∀ s', Inv X pins σ H' s' → Inv X pins σ H s') → (o'.isSome = o.isSome) → (VR L φ H (o.getD .non) (o'.getD .non)) → (∀ w z, VR L φ H w z → VR L φ H (o.getD w) (o'.getD z)) → C) : C := by
  obtain ⟨p, rfl, _, q⟩ := R.at hi vd
  have vals : ∀ {κ : Type} [DecidableEq κ] {c : κ} {kvs : List (κ × Val)} {ys : List (κ × V)} {w : Val} {z : V}, KRs L φ H kvs ys → VR L φ H w z → VR L φ H ((getC c kvs).getD w) ((valV ys c).getD z) := by
    intro κ _ c kvs ys w z kr rw
    cases e : getC c kvs with
    | none => rw [kr.miss e]; exact rw
    | some v =>
      obtain ⟨x, e1, r⟩ := kr.hit e
      rw [e1]; exact r
  cases ob with
  | dct w kvs =>
    obtain ⟨ys, q1, kr, kk, _⟩ := q.dctI
    simp only [askO] at e
    by_cases c : emT w kvs k = true
    · rw [if_pos c] at e
      cases e
      unfold emT at c
      simp only [Bool.and_eq_true] at c
      obtain ⟨⟨c1, c2⟩, c3⟩ := c
      obtain ⟨ks, ek⟩ := Option.isSome_iff_exists.mp c3
      obtain rfl := List.isEmpty_iff.mp c2
      cases kr
      have hp := kk c1
      obtain ⟨b, rfl, hb⟩ := vk.keyT ek
      have ne : b ≠ p := fun z => by rw [z, hp] at hb; cases hb
      have I' := inv_KT I hp
      refine go p (upd H p (.dT [])) none rfl I' (.inr ⟨[], ks, b, .inl upd_same, rfl, (upd_ne ne).trans hb, rfl⟩) (fun s' I2 => ?_) rfl .non (fun _ _ r => r)
      have I3 := inv_TK I2 upd_same
      have eh : upd (upd H p (.dT [])) p (.dK []) = H := by
        funext a
        by_cases z : a = p
        · subst z; rw [upd_same, hp]
        · rw [upd_ne z, upd_ne z]
      rw [eh] at I3
      exact I3
    · rw [if_neg c] at e
      obtain ⟨c, ek, rfl⟩ := Option.map_eq_some_iff.mp e
      exact go p H _ rfl I (.inl ⟨ys, c, q1, vk.key ek, rfl⟩) (fun _ z => z) kr.isSome (vals kr .non) (fun _ _ r => vals kr r)
  | dtt kvs =>
    simp only [askO] at e
    obtain ⟨c, ek, rfl⟩ := Option.map_eq_some_iff.mp e
    cases q with
    | dT hq kr =>
      obtain ⟨b, rfl, hb⟩ := vk.keyT ek
      exact go p H _ rfl I (.inr ⟨_, c, b, .inl hq, rfl, hb, rfl⟩) (fun _ z => z) kr.isSome (vals kr .non) (fun _ _ r => vals kr r)
  | lst _ _ => cases e
  | ins _ _ => cases e
/-- nothing changes -/
theorem Post.here {φ : Ph} {h : MH} {H : Hp} {v : Val} {x : V} {Q : VK} {E : XK} (R : Rel L φ h H) (r : VR L φ H v x) (p : Post L φ H (vR L) (.ok v h) Q E) : Q x H := p x H φ Ext.refl R r
/-- a new tuple -/
theorem Post.tup {φ : Ph} {h : MH} {H : Hp} {vs : List Val} {xs : List V} {Q : VK} {E : XK} (R : Rel L φ h H) (r : VRs L φ H vs xs) (p : Post L φ H (vR L) (.ok (.tup vs) h) Q E) {a : Addr} (ha : H a = none) : Q (.ref a) (upd H a (.tup xs)) :=
  p (.ref a) _ φ (Ext.side ha) (R.side ha) (.tup (.inl upd_same) (r.mono (Ext.side ha)))
/-- a new list -/
theorem Post.lst {φ : Ph} {h : MH} {H : Hp} {vs : List Val} {xs : List V} {Q : VK} {E : XK} (R : Rel L φ h H) (r : VRs L φ H vs xs) (p : Post L φ H (vR L) (alloc (.lst true vs) h) Q E) {a : Addr} (ha : H a = none) : Q (.ref a) (upd H a (.lst xs)) :=
  p (.ref a) _ (φ ++ [(true, a)]) (Ext.alloc ha) (R.alloc ha (fun _ z => by cases z) (.lst upd_same (r.mono (Ext.alloc ha)))) (.ref ⟨true, by rw [← R.len]; simp⟩)
theorem Post.dct {φ : Ph} {h : MH} {H : Hp} {vs : List (Key × Val)} {xs : List (Key × V)} {Q : VK} {E : XK} (R : Rel L φ h H) (r : KRs L φ H vs xs) (p : Post L φ H (vR L) (alloc (.dct true vs) h) Q E) {a : Addr} (ha : H a = none) : Q (.ref a) (upd H a (.dK xs)) :=
  p (.ref a) _ (φ ++ [(true, a)]) (Ext.alloc ha) (R.alloc ha (fun _ z => by cases z) (.dK upd_same (r.mono (Ext.alloc ha)))) (.ref ⟨true, by rw [← R.len]; simp⟩)
end
end Mn
namespace Mn
open PySem PySem.Spec PyProof.Rows L2
theorem list_addW (l : Addr) (items : Array Value) (n : Nat) (b : Addr) (items2 : Array Value) (n2 : Nat) (sl sl2 : Array (Option Value)) (hc0 : items.size + items2.size ≤ sizeLine) :
    Meets (Builtin.«list.__add__» ⟨[.ref l, .ref b], []⟩) (fun _ R s => s.heap.get? l = some { cls := .type "list", dict := none, data := .seq items n, slots := sl } ∧ s.heap.get? b = some { cls := .type "list", dict := none, data := .seq items2 n2, slots := sl2 } ∧ R (.ok (.ret (Value.ref s.heap.objs.size))) { s with heap := s.heap.push { cls := Value.type "list", data := Data.seq (items ++ items2) }, toks := s.toks }) :=
  .of_wp fun prog w A R s h => by obtain ⟨hp, g, d, tk, os⟩ := s; obtain ⟨hl, hb, h⟩ := h; have f1 := AutoSeq1.idx_int; have f2 := AutoSeq1.sub_tuple_tuple; have f3 := AutoSeq1.sub_list_list; have f4 := AutoSeq1.sub_tuple_list; have f5 := AutoSeq1.sub_list_tuple; wp_walk using wpAny_loadPart' hl, wpAny_loadPart' hb; exact ⟨_, rfl, h⟩
section
variable {X : Cx} {L : Lk}
theorem CMulX {i j : Int} (h : mulOk i j) : IntMulOk i j := by
  rcases h with h | h | h
  · exact CMul.ok (.inl h)
  · exact CMul.ok (.inr h)
  · exact CMulW.ok h
theorem op_mulX : OpR X (binaryOp .Mult) (rI mulOk fun i j => .int (i * j)) := opI fun _ _ _ _ _ _ _ hc q => mul_int q (CMulX hc)
/-- two lists put together, the script too -/
theorem op_catR : OpR X (binaryOp .Add) (fun x y H Q => ∃ l b xs zs, x = .ref l ∧ y = .ref b ∧ SqL X.K H l xs ∧ SqL X.K H b zs ∧ xs.length + zs.length ≤ sizeLine ∧ ∀ p, H p = none → Q (.ref p) (upd H p (.lst (xs ++ zs)))) := by
  intro pins s σ H x y v u Q I rx ry h
  obtain ⟨l, b, xs, zs, rfl, rfl, hH, hB, hz, q⟩ := h
  cases rx
  cases ry
  obtain ⟨its, r, ⟨⟨oc, od, odt, osl⟩, n, e, ec, ed, ee⟩, z⟩ := I.list hH
  obtain ⟨its2, r2, ⟨⟨oc2, od2, odt2, osl2⟩, n2, e2, ec2, ed2, ee2⟩, z2⟩ := I.list hB
  simp only at ec ed ee ec2 ed2 ee2
  subst ec ed ee ec2 ed2 ee2
  have l1 := r.length
  have l2 := r2.length
  refine concat_meets ⟨_, e, rfl⟩ ⟨_, e2, rfl⟩ noFill_list_add seq_list_add PySem.F.slot_list_add PySem.F.entry_list_add (PySem.F.args_list_add_2 _ _)
    (list_addW l its.toArray n b its2.toArray n2 osl osl2 (by rw [List.size_toArray, List.size_toArray]; omega)) ⟨e, e2, ?_⟩
  have ea : its.toArray ++ its2.toArray = (its ++ its2).toArray := by simp
  rw [ea]
  exact ⟨.ref _, _, I.lnew (t' := s.toks) (r.append r2) (by rw [List.length_append]; omega), rfl, q _ I.fresh⟩

/-- a text, so many times -/
theorem op_mulS : OpR X (binaryOp .Mult) (fun x y H Q => ∃ z k, x = .str z ∧ y = .int k ∧ (1 ≤ z.length ∧ 0 ≤ k ∧ z.length * k.toNat ≤ 4096) ∧ Q (.str (repS z k.toNat)) H) := by
  intro pins s σ H x y v u Q I rx ry h
  obtain ⟨z, k, rfl, rfl, ⟨h1, h2, h3⟩, q⟩ := h
  obtain ⟨t, rfl⟩ := rx
  obtain ⟨t', rfl⟩ := ry
  have hk : k.toNat ≤ 4096 := Nat.le_trans (Nat.le_mul_of_pos_left _ h1) h3
  have hz : 1 ≤ k → z.length ≤ 4096 := fun c => Nat.le_trans (Nat.le_mul_of_pos_right _ (by omega)) h3
  have big : (4096 : Nat) ≤ sizeLine := by decide
  refine P.mul_str (by simp; omega) (fun c _ => ?_) (fun _ _ => ?_) ?_
  · have e : (z.length : Int) ≤ (2 ^ 63 - 1) / k := (Int.le_ediv_iff_mul_le (by omega)).mpr (by
      have := hz (by omega)
      have a : (z.length : Int) * k = ((z.length * k.toNat : Nat) : Int) := by rw [Int.natCast_mul]; congr 1; omega
      rw [a]; omega)
    omega
  · unfold Builtin.Str.tooLong
    simp; omega
  · by_cases c : k < 1
    · rw [if_pos c]
      have e : k.toNat = 0 := by omega
      rw [e] at q
      exact ⟨by show (0 : Nat) ≤ _; omega, .str (repS z 0), H, I.tok _, ⟨_, rfl⟩, q⟩
    · rw [if_neg c]
      by_cases d : (k == 1 || z.length == 0) = true
      · rw [if_pos d]
        have e : k.toNat = 1 := by simp at d; omega
        have e2 : repS z 1 = z := by unfold repS; simp
        rw [e, e2] at q
        exact ⟨.str z, H, I.tok _, ⟨_, rfl⟩, q⟩
      · rw [if_neg d]
        have sz : (repS z k.toNat).cps.size = z.length * k.toNat := by
          have f : ∀ (n : Nat) (a : Array Nat), ((List.replicate n z.cps).foldl (· ++ ·) a).size = a.size + z.cps.size * n := by
            intro n
            induction n with
            | zero => intro a; simp
            | succ n ih => intro a; rw [List.replicate_succ, List.foldl_cons, ih, Array.size_append, Nat.mul_succ]; omega
          unfold repS
          rw [f]
          simp [Str.length]
        exact ⟨by show (repS z k.toNat).cps.size ≤ _; omega, .str (repS z k.toNat), H, I.tok _, ⟨_, rfl⟩, q⟩

/-! ### Mini's operators by values -/
theorem VRs.rep {φ : Ph} {H : Hp} {vs : List Val} {xs : List V} (h : VRs L φ H vs xs) : ∀ n : Nat, VRs L φ H (List.replicate n vs).flatten (List.replicate n xs).flatten
  | 0 => .nil
  | n + 1 => VRs.append h (VRs.rep h n)
theorem bin_add (hK : X.K = L.K) : OpR X (binaryOp .Add) (rOp L (binop .Add)) := by
  intro pins s σ H x y v u Q I rx ry hq
  obtain ⟨φ, h, v', w', R, vv, vw, p⟩ := hq
  cases v' <;> cases w' <;> first | exact False.elim p | skip
  · exact op_add pins s σ H x y v u Q I rx ry ⟨_, _, vv.intI, vw.intI, Post.here R (.int _) p⟩
  · rename_i a b
    by_cases c : a.length + b.length ≤ sizeLine
    · replace p : Post L φ H (vR L) (if a.length + b.length ≤ sizeLine then .ok (.str (a ++ b)) h else .bad) Q _ := p
      rw [if_pos c] at p
      exact op_add_str pins s σ H x y v u Q I rx ry ⟨_, _, vv.strI, vw.strI, c, Post.here R (.str _) p⟩
    · replace p : Post L φ H (vR L) (if a.length + b.length ≤ sizeLine then .ok (.str (a ++ b)) h else .bad) Q _ := p
      rw [if_neg c] at p
      exact False.elim p
  · rename_i a b
    replace p : Post L φ H (vR L) (if a.length + b.length ≤ sizeLine then .ok (.tup (a ++ b)) h else .bad) Q _ := p
    by_cases c : a.length + b.length ≤ sizeLine
    · rw [if_pos c] at p
      obtain ⟨a1, xs, rfl, q1, r1⟩ := vv.tupI
      obtain ⟨a2, ys, rfl, q2, r2⟩ := vw.tupI
      refine op_catA pins s σ H _ _ v u Q I rx ry ⟨a1, a2, xs, ys, rfl, rfl, hK ▸ q1, hK ▸ q2, by rw [← r1.length, ← r2.length]; exact c, fun e => ?_, fun _ e => ?_, fun _ _ d hd => ?_⟩
      · rw [r1.nil_iff] at e
        subst e
        exact Post.here R vw p
      · rw [r2.nil_iff] at e
        subst e
        rw [List.append_nil] at p
        exact Post.here R vv p
      · exact Post.tup R (r1.append r2) p hd
    · rw [if_neg c] at p
      exact False.elim p
  · rename_i a b
    replace p : Post L φ H (vR L) (match h[a]?, h[b]? with
      | some (.lst _ xs), some (.lst _ ys) => if xs.length + ys.length ≤ sizeLine then alloc (.lst true (xs ++ ys)) h else .bad
      | _, _ => .bad) Q _ := p
    split at p
    · rename_i w1 xs w2 ys e1 e2
      by_cases c : xs.length + ys.length ≤ sizeLine
      · rw [if_pos c] at p
        obtain ⟨a1, rfl, i1, o1⟩ := R.at e1 vv
        obtain ⟨a2, rfl, i2, o2⟩ := R.at e2 vw
        obtain ⟨zs, q1, r1, _⟩ := o1.lstI
        obtain ⟨zs2, q2, r2, _⟩ := o2.lstI
        exact op_catR pins s σ H _ _ v u Q I rx ry ⟨a1, a2, _, _, rfl, rfl, hK ▸ q1, hK ▸ q2, by rw [← r1.length, ← r2.length]; exact c, fun d hd => Post.lst R (r1.append r2) p hd⟩
      · rw [if_neg c] at p
        exact False.elim p
    · exact False.elim p
theorem bin_int {op : Operator} {C : Int → Int → Prop} {g : Int → Int → Int} (ho : OpR X (binaryOp op) (rI C fun i j => .int (g i j)))
    (hb : ∀ (v w : Val) (h : MH), (∃ i j, v = .int i ∧ w = .int j ∧ C i j ∧ binop op v w h = .ok (.int (g i j)) h) ∨ binop op v w h = .bad) : OpR X (binaryOp op) (rOp L (binop op)) := by
  intro pins s σ H x y v u Q I rx ry hq
  obtain ⟨φ, h, v', w', R, vv, vw, p⟩ := hq
  rcases hb v' w' h with ⟨i, j, rfl, rfl, c, e⟩ | e
  · rw [e] at p
    exact ho pins s σ H x y v u Q I rx ry ⟨i, j, vv.intI, vw.intI, c, Post.here R (.int _) p⟩
  · rw [e] at p
    exact False.elim p
theorem int_cases {op : Operator} {C : Int → Int → Prop} {g : Int → Int → Int} [∀ i j, Decidable (C i j)] (h1 : ∀ i j h, binop op (.int i) (.int j) h = if C i j then .ok (.int (g i j)) h else .bad)
    (h2 : ∀ v w h, (∀ i j, ¬ (v = .int i ∧ w = .int j)) → binop op v w h = .bad) (v w : Val) (h : MH) : (∃ i j, v = .int i ∧ w = .int j ∧ C i j ∧ binop op v w h = .ok (.int (g i j)) h) ∨ binop op v w h = .bad := by
  by_cases e : ∃ i j, v = .int i ∧ w = .int j
  · obtain ⟨i, j, rfl, rfl⟩ := e
    rw [h1]
    by_cases c : C i j
    · rw [if_pos c]; exact .inl ⟨i, j, rfl, rfl, c, rfl⟩
    · rw [if_neg c]; exact .inr rfl
  · exact .inr (h2 v w h fun i j z => e ⟨i, j, z⟩)
theorem rI_true {g : Int → Int → V} {f : Value → Value → Sem Value} (h : OpR X f (rI0 g)) : OpR X f (rI (fun _ _ => True) g) := OpR.weak h fun x y H Q ⟨i, j, a, b, _, q⟩ => ⟨i, j, a, b, q⟩
open Classical in
theorem bin_mul (hK : X.K = L.K) : OpR X (binaryOp .Mult) (rOp L (binop .Mult)) := by
  intro pins s σ H x y v u Q I rx ry hq
  obtain ⟨φ, h, v', w', R, vv, vw, p⟩ := hq
  cases v' <;> cases w' <;> first | exact False.elim p | skip
  · rename_i a b
    replace p : Post L φ H (vR L) (if mulOk a b then .ok (.int (a * b)) h else .bad) Q _ := p
    by_cases c : mulOk a b
    · rw [if_pos c] at p
      exact op_mulX pins s σ H x y v u Q I rx ry ⟨_, _, vv.intI, vw.intI, c, Post.here R (.int _) p⟩
    · rw [if_neg c] at p
      exact False.elim p
  · rename_i a b
    replace p : Post L φ H (vR L) (if 1 ≤ a.length ∧ 0 ≤ b ∧ a.length * b.toNat ≤ 4096 then .ok (.str (repS a b.toNat)) h else .bad) Q _ := p
    by_cases c : 1 ≤ a.length ∧ 0 ≤ b ∧ a.length * b.toNat ≤ 4096
    · rw [if_pos c] at p
      exact op_mulS pins s σ H x y v u Q I rx ry ⟨_, _, vv.strI, vw.intI, c, Post.here R (.str _) p⟩
    · rw [if_neg c] at p
      exact False.elim p
  · rename_i a b
    have hb : binop .Mult (.ref a) (.int b) h = match h[a]? with
      | some (.lst true xs) => if 0 ≤ b ∧ b ≤ 4096 ∧ xs.length * b.toNat ≤ 4096 then alloc (.lst true (List.replicate b.toNat xs).flatten) h else .bad
      | _ => .bad := rfl
    rw [hb] at p
    cases e : h[a]? with
    | none => rw [e] at p; exact False.elim p
    | some o =>
      rw [e] at p
      cases o <;> first | exact False.elim p | skip
      rename_i w xs
      cases w
      · exact False.elim p
      replace p : Post L φ H (vR L) (if 0 ≤ b ∧ b ≤ 4096 ∧ xs.length * b.toNat ≤ 4096 then alloc (.lst true (List.replicate b.toNat xs).flatten) h else .bad) Q _ := p
      by_cases c : 0 ≤ b ∧ b ≤ 4096 ∧ xs.length * b.toNat ≤ 4096
      · rw [if_pos c] at p
        obtain ⟨a1, rfl, i1, o1⟩ := R.at e vv
        obtain ⟨zs, q1, r1, hw⟩ := o1.lstI
        have l1 := r1.length
        exact op_rep pins s σ H _ _ v u Q I rx ry ⟨a1, b, zs, rfl, vw.intI, hw rfl, by omega, by omega, by rw [← l1]; exact Nat.le_trans c.2.2 (by decide), fun d hd => Post.lst R (r1.rep _) p hd⟩
      · rw [if_neg c] at p
        exact False.elim p
open Classical in
theorem bin_all (hK : X.K = L.K) (op : Operator) : OpR X (binaryOp op) (rOp L (binop op)) := by
  have bad : ∀ {op}, (∀ v w h, binop op v w h = .bad) → OpR X (binaryOp op) (rOp L (binop op)) := fun hb pins s σ H x y v u Q I rx ry ⟨φ, h, v', w', R, vv, vw, p⟩ => by
    rw [hb] at p; exact False.elim p
  cases op
  case Add => exact bin_add hK
  case Sub => exact bin_int (rI_true op_sub) (int_cases (C := fun _ _ => True) (fun i j h => by rw [if_pos trivial]; rfl) (fun v w h n => by cases v <;> first | rfl | (cases w <;> first | rfl | exact absurd ⟨rfl, rfl⟩ (n _ _))))
  case Mult => exact bin_mul hK
  case FloorDiv => exact bin_int op_fdivW (int_cases (C := CDivW) (fun i j h => by show (if _ then _ else _) = _; congr) (fun v w h n => by cases v <;> first | rfl | (cases w <;> first | rfl | exact absurd ⟨rfl, rfl⟩ (n _ _))))
  case Mod => exact bin_int op_mod (int_cases (C := fun _ j => 0 < j) (fun i j h => by show (if _ then _ else _) = _; congr) (fun v w h n => by cases v <;> first | rfl | (cases w <;> first | rfl | exact absurd ⟨rfl, rfl⟩ (n _ _))))
  case Pow => exact bin_int op_pow (int_cases (C := CPow) (fun i j h => by show (if _ then _ else _) = _; congr) (fun v w h n => by cases v <;> first | rfl | (cases w <;> first | rfl | exact absurd ⟨rfl, rfl⟩ (n _ _))))
  case LShift => exact bin_int op_shl (int_cases (C := CPow) (fun i j h => by show (if _ then _ else _) = _; congr) (fun v w h n => by cases v <;> first | rfl | (cases w <;> first | rfl | exact absurd ⟨rfl, rfl⟩ (n _ _))))
  case RShift => exact bin_int op_shr (int_cases (C := fun _ j => 0 ≤ j) (fun i j h => by show (if _ then _ else _) = _; congr) (fun v w h n => by cases v <;> first | rfl | (cases w <;> first | rfl | exact absurd ⟨rfl, rfl⟩ (n _ _))))
  case BitAnd => exact bin_int (rI_true op_and) (int_cases (C := fun _ _ => True) (fun i j h => by rw [if_pos trivial]; rfl) (fun v w h n => by cases v <;> first | rfl | (cases w <;> first | rfl | exact absurd ⟨rfl, rfl⟩ (n _ _))))
  case BitOr => exact bin_int (rI_true op_or) (int_cases (C := fun _ _ => True) (fun i j h => by rw [if_pos trivial]; rfl) (fun v w h n => by cases v <;> first | rfl | (cases w <;> first | rfl | exact absurd ⟨rfl, rfl⟩ (n _ _))))
  case BitXor => exact bin_int (rI_true op_xor) (int_cases (C := fun _ _ => True) (fun i j h => by rw [if_pos trivial]; rfl) (fun v w h n => by cases v <;> first | rfl | (cases w <;> first | rfl | exact absurd ⟨rfl, rfl⟩ (n _ _))))
  all_goals exact bad fun v w h => by cases v <;> first | rfl | (cases w <;> rfl)
end
end Mn
namespace Mn
open PySem PySem.Spec PyProof.Rows L2
section
variable {X : Cx} {L : Lk}
theorem mapO_cons {α β : Type} {f : α → Option β} {x : α} {r : List α} {d : List β} (h : mapO f (x :: r) = some d) : ∃ y ys, f x = some y ∧ mapO f r = some ys ∧ d = y :: ys := by
  unfold mapO at h
  cases e : f x with
  | none => rw [e] at h; cases h
  | some y =>
    cases e2 : mapO f r with
    | none => rw [e, e2] at h; cases h
    | some ys => rw [e, e2] at h; exact ⟨y, ys, rfl, rfl, (Option.some.inj h).symm⟩
theorem snap_ok {h : MH} {φ : Ph} {H : Hp} (R : Rel L φ h H) : ∀ (n : Nat) (v : Val) (x : V) (d : PyData), VR L φ H v x → snap h n v = some d → Dp L.K H x d ∧ d.canLay0 = true ∧ d.depth ≤ n
  | 0, v, x, d, _, e => by simp [snap] at e
  | n + 1, .non, x, d, r, e => by
    simp only [snap, Option.some.injEq] at e; subst e; rw [r.nonI]; exact ⟨.non, by simp [PyData.canLay0], by simp [PyData.depth]⟩
  | n + 1, .bl b, x, d, r, e => by
    simp only [snap, Option.some.injEq] at e; subst e; rw [r.blI]; exact ⟨.bl b, by simp [PyData.canLay0], by simp [PyData.depth]⟩
  | n + 1, .int b, x, d, r, e => by
    simp only [snap, Option.some.injEq] at e; subst e; rw [r.intI]; exact ⟨.int b, by simp [PyData.canLay0], by simp [PyData.depth]⟩
  | n + 1, .str b, x, d, r, e => by
    simp only [snap] at e
    by_cases c : (PyData.str b).canLay0 = true
    · rw [if_pos c] at e
      simp only [Option.some.injEq] at e; subst e; rw [r.strI]; exact ⟨.str b, c, by simp [PyData.depth]⟩
    · rw [if_neg c] at e; cases e
  | n + 1, .tup vs, x, d, r, e => by
    simp only [snap] at e
    obtain ⟨ds, e1, rfl⟩ := Option.map_eq_some_iff.mp e
    obtain ⟨a, xs, rfl, q, rs⟩ := r.tupI
    obtain ⟨h1, h2, h3⟩ := all n vs xs ds rs e1
    exact ⟨.tup q h1, by simpa [PyData.canLay0] using h2, by simpa [PyData.depth] using h3⟩
  | n + 1, .ref i, x, d, r, e => by
    simp only [snap] at e
    split at e
    · rename_i w vs hi
      obtain ⟨ds, e1, rfl⟩ := Option.map_eq_some_iff.mp e
      obtain ⟨a, rfl, _, o⟩ := R.at hi r
      obtain ⟨xs, q, rs, _⟩ := o.lstI
      obtain ⟨h1, h2, h3⟩ := all n vs xs ds rs e1
      exact ⟨.lst q h1, by simpa [PyData.canLay0] using h2, by simpa [PyData.depth] using h3⟩
    · cases e
  | n + 1, .exc c fs, x, d, r, e => by simp [snap] at e
where all : ∀ (n : Nat) (vs : List Val) (xs : List V) (ds : List PyData), VRs L φ H vs xs → mapO (snap h n) vs = some ds → DpAll L.K H xs ds ∧ PyData.canLayAll0 ds = true ∧ PyData.depthAll ds ≤ n
  | n, [], xs, ds, r, e => by
    cases r
    simp only [mapO, Option.some.injEq] at e; subst e
    exact ⟨.nil, by simp [PyData.canLayAll0], by simp [PyData.depthAll]⟩
  | n, v :: vs, xs, ds, r, e => by
    obtain ⟨y, ys, e1, e2, rfl⟩ := mapO_cons e
    cases r with
    | cons r1 r2 =>
      obtain ⟨a1, a2, a3⟩ := snap_ok R n v _ y r1 e1
      obtain ⟨b1, b2, b3⟩ := all n vs _ ys r2 e2
      exact ⟨.cons a1 b1, by simp [PyData.canLayAll0, a2, b2], by simp [PyData.depthAll]; omega⟩
theorem snap_shaped {h : MH} {φ : Ph} {H : Hp} {v : Val} {x : V} {d : PyData} (R : Rel L φ h H) (r : VR L φ H v x) (e : snap h 64 v = some d) : Dp L.K H x d ∧ SeqAt.shaped d = true := by
  obtain ⟨a, b, c⟩ := snap_ok R 64 v x d r e
  exact ⟨a, by simp [SeqAt.shaped, b, c]⟩
theorem veq_ok (hK : X.K = L.K) (hu : X.A.units + 64 < cLine) {pins : List (Addr × Obj)} {s : Shared} {σ : L2.St} {H : Hp} {x y : V} {v u : Value} {Q : VK} {φ : Ph} {h : MH} {v' w' : Val} {b : Bool} (I : Inv X pins σ H s) (rx : RelV x v) (ry : RelV y u)
    (R : Rel L φ h H) (vv : VR L φ H v' x) (vw : VR L φ H w' y) (e : veq h v' w' = some b) (q : Q (.bl b) H) : wpAny (model X.prog X.w) X.A (compareOp .Eq v u) (EP X pins σ Q) X.xe s := by
  have gen : ∀ {b}, (match snap h 64 v', snap h 64 w' with
    | some d, some e => some (PyData.eqv d e)
    | _, _ => none) = some b → Q (.bl b) H → wpAny (model X.prog X.w) X.A (compareOp .Eq v u) (EP X pins σ Q) X.xe s := fun {b} e q => by
    split at e
    · rename_i d d2 e1 e2
      cases e
      obtain ⟨a1, a2⟩ := snap_shaped R vv e1
      obtain ⟨b1, b2⟩ := snap_shaped R vw e2
      exact op_eqD hu pins s σ H x y v u Q I rx ry ⟨d, d2, hK ▸ a1, hK ▸ b1, a2, b2, q⟩
    · cases e
  cases v' <;> cases w' <;> first | exact gen e q | skip
  · cases vv; cases vw; cases e
    refine op_eq pins s σ H _ _ v u Q I rx ry ⟨rfl, ?_⟩
    rename_i a b
    have : decide (V.str a = V.str b) = decide (a = b) := by simp
    rw [this]; exact q
theorem vne_ok (hK : X.K = L.K) (hu : X.A.units + 64 < cLine) {pins : List (Addr × Obj)} {s : Shared} {σ : L2.St} {H : Hp} {x y : V} {v u : Value} {Q : VK} {φ : Ph} {h : MH} {v' w' : Val} {b : Bool} (I : Inv X pins σ H s) (rx : RelV x v) (ry : RelV y u)
    (R : Rel L φ h H) (vv : VR L φ H v' x) (vw : VR L φ H w' y) (e : veq h v' w' = some b) (q : Q (.bl (!b)) H) : wpAny (model X.prog X.w) X.A (compareOp .NotEq v u) (EP X pins σ Q) X.xe s := by
  have gen : ∀ {b}, (match snap h 64 v', snap h 64 w' with
    | some d, some e => some (PyData.eqv d e)
    | _, _ => none) = some b → Q (.bl (!b)) H → wpAny (model X.prog X.w) X.A (compareOp .NotEq v u) (EP X pins σ Q) X.xe s := fun {b} e q => by
    split at e
    · rename_i d d2 e1 e2
      cases e
      obtain ⟨a1, a2⟩ := snap_shaped R vv e1
      obtain ⟨b1, b2⟩ := snap_shaped R vw e2
      exact op_neD hu pins s σ H x y v u Q I rx ry ⟨d, d2, hK ▸ a1, hK ▸ b1, a2, b2, q⟩
    · cases e
  cases v' <;> cases w' <;> first | exact gen e q | skip
  · cases vv; cases vw; cases e
    refine op_ne pins s σ H _ _ v u Q I rx ry ⟨rfl, ?_⟩
    rename_i a b
    have : decide (V.str a = V.str b) = decide (a = b) := by simp
    rw [this]; exact q

theorem VRs.flat : ∀ {φ : Ph} {H : Hp} {vs : List Val} {xs : List V}, VRs L φ H vs xs → vs.all flat = true → xs.all flatV = true
  | _, _, _, _, .nil, _ => rfl
  | _, _, _, _, .cons h t, e => by
    simp only [List.all_cons, Bool.and_eq_true] at e ⊢
    refine ⟨?_, t.flat e.2⟩
    have e1 := e.1
    cases h <;> first | rfl | exact absurd e1 (by simp [Mn.flat])
theorem VR.flat {φ : Ph} {H : Hp} {v : Val} {x : V} (r : VR L φ H v x) (e : flat v = true) : flatV x = true := by
  cases r <;> first | rfl | exact absurd e (by simp [Mn.flat])
theorem eqF_ok {φ : Ph} {H : Hp} {v w : Val} {x y : V} (r : VR L φ H v x) (r2 : VR L φ H w y) (f : flat v = true) (f2 : flat w = true) : eqV x y = eqF v w := by
  cases r <;> cases r2 <;> first | rfl | exact absurd f (by simp [Mn.flat]) | exact absurd f2 (by simp [Mn.flat])
theorem inF_ok {φ : Ph} {H : Hp} {v : Val} {x : V} (r : VR L φ H v x) (f : flat v = true) : ∀ {vs : List Val} {xs : List V}, VRs L φ H vs xs → vs.all flat = true → inV x xs = vs.any fun z => eqF z v
  | _, _, .nil, _ => rfl
  | _, _, .cons h t, e => by
    simp only [List.all_cons, Bool.and_eq_true] at e
    have ih := inF_ok r f t e.2
    unfold inV at ih ⊢
    simp only [List.any_cons]
    rw [ih, eqF_ok h r e.1 f]
theorem vin_ok (hK : X.K = L.K) (hu : X.A.units + 65 < cLine) (neg : Bool) {pins : List (Addr × Obj)} {s : Shared} {σ : L2.St} {H : Hp} {x y : V} {v u : Value} {Q : VK} {φ : Ph} {h : MH} {v' w' : Val} {b : Bool} (I : Inv X pins σ H s) (rx : RelV x v) (ry : RelV y u)
    (R : Rel L φ h H) (vv : VR L φ H v' x) (vw : VR L φ H w' y) (e : vin? h v' w' = some b) (nd : noD h w') (q : Q (.bl (if neg then !b else b)) H) :
    wpAny (model X.prog X.w) X.A (compareOp (if neg then .NotIn else .In) v u) (EP X pins σ Q) X.xe s := by
  have seq : ∀ {p : Addr} {xs : List V} {vs : List Val}, y = .ref p → (SqL X.K H p xs ∨ SqT X.K H p xs) → VRs L φ H vs xs → (flat v' && vs.all flat) = true → b = (vs.any fun z => eqF z v') →
      wpAny (model X.prog X.w) X.A (compareOp (if neg then .NotIn else .In) v u) (EP X pins σ Q) X.xe s := fun {p xs vs} ey hs rs c eb => by
    simp only [Bool.and_eq_true] at c
    cases neg with
    | false => exact op_in_seq pins s σ H x y v u Q I rx ry ⟨p, xs, ey, hs, vv.flat c.1, rs.flat c.2, by rw [inF_ok vv c.1 rs c.2, ← eb]; exact q⟩
    | true => exact op_notIn_seq pins s σ H x y v u Q I rx ry ⟨p, xs, ey, hs, vv.flat c.1, rs.flat c.2, by rw [inF_ok vv c.1 rs c.2, ← eb]; exact q⟩
  cases w' with
  | non => cases e
  | bl _ => cases e
  | int _ => cases e
  | exc _ _ => cases e
  | tup ys =>
    simp only [vin?] at e
    obtain ⟨a, xs, rfl, q1, r1⟩ := vw.tupI
    by_cases c : (flat v' && ys.all flat) = true
    · rw [if_pos c] at e
      exact seq rfl (.inr (hK ▸ q1)) r1 c (Option.some.inj e).symm
    · rw [if_neg c] at e; cases e
  | str z =>
    have ew := vw.strI
    cases v' with
    | str c =>
      have ev := vv.strI
      simp only [vin?] at e
      split at e
      · rename_i k ek
        have hc : c = ⟨#[k]⟩ := by
          obtain ⟨⟨l⟩⟩ := c
          simp only at ek
          rw [ek]
        subst hc
        cases e
        cases neg with
        | false => exact op_in_sign pins s σ H x y v u Q I rx ry ⟨k, z, ev, ew, q⟩
        | true => exact op_notIn_sign pins s σ H x y v u Q I rx ry ⟨k, z, ev, ew, q⟩
      · cases e
        cases neg with
        | false => exact op_in_str pins s σ H x y v u Q I rx ry ⟨c, z, ev, ew, q⟩
        | true => exact op_notin_str pins s σ H x y v u Q I rx ry ⟨c, z, ev, ew, q⟩
    | non => cases e
    | bl _ => cases e
    | int _ => cases e
    | exc _ _ => cases e
    | tup _ => cases e
    | ref _ => cases e
  | ref a =>
    simp only [vin?] at e
    split at e
    · rename_i w ys hi
      obtain ⟨p, rfl, _, o⟩ := R.at hi vw
      obtain ⟨xs, q1, r1, _⟩ := o.lstI
      by_cases c : (flat v' && ys.all flat) = true
      · rw [if_pos c] at e
        exact seq rfl (.inl (hK ▸ q1)) r1 c (Option.some.inj e).symm
      · rw [if_neg c] at e
        split at e
        · rename_i d ds e1 e2
          cases e
          obtain ⟨a1, a2⟩ := snap_shaped R vv e1
          obtain ⟨b1, b2⟩ := snap_shaped R vw e2
          cases neg with
          | false => exact op_inD hu pins s σ H x _ v u Q I rx ry ⟨d, ds, hK ▸ a1, hK ▸ b1, a2, b2, q⟩
          | true => exact op_notInD hu pins s σ H x _ v u Q I rx ry ⟨d, ds, hK ▸ a1, hK ▸ b1, a2, b2, q⟩
        · cases e
    · rename_i w kvs hi
      exact absurd hi ((nd a rfl).1 w kvs)
    · rename_i kvs hi
      exact absurd hi ((nd a rfl).2 kvs)
    · cases e
theorem cmp_bl {op : CmpOp} {f : Value → Value → Sem Value} {g : Int → Int → Bool} (ho : OpR X f (rI0 fun i j => .bl (g i j)))
    (hb : ∀ (v w : Val) (h : MH), (∃ i j, v = .int i ∧ w = .int j ∧ cmpop op v w h = .ok (.bl (g i j)) h) ∨ cmpop op v w h = .bad) : OpR X f (rOp L (cmpop op)) := by
  intro pins s σ H x y v u Q I rx ry hq
  obtain ⟨φ, h, v', w', R, vv, vw, p⟩ := hq
  rcases hb v' w' h with ⟨i, j, rfl, rfl, e⟩ | e
  · rw [e] at p
    exact ho pins s σ H x y v u Q I rx ry ⟨i, j, vv.intI, vw.intI, Post.here R (.bl _) p⟩
  · rw [e] at p
    exact False.elim p
/-- comparisons but in -/
theorem cmp_all (hK : X.K = L.K) (hu : X.A.units + 64 < cLine) (op : CmpOp) (n1 : op ≠ .In) (n2 : op ≠ .NotIn) : OpR X (compareOp op) (rOp L (cmpop op)) := by
  have bad : ∀ {op}, (∀ v w h, cmpop op v w h = .bad) → OpR X (compareOp op) (rOp L (cmpop op)) := fun hb pins s σ H x y v u Q I rx ry ⟨φ, h, v', w', R, vv, vw, p⟩ => by
    rw [hb] at p; exact False.elim p
  cases op
  case In => exact absurd rfl n1
  case NotIn => exact absurd rfl n2
  case Eq =>
    intro pins s σ H x y v u Q I rx ry ⟨φ, h, v', w', R, vv, vw, p⟩
    simp only [cmpop] at p
    cases e : veq h v' w' with
    | none => rw [e] at p; exact False.elim p
    | some b =>
      rw [e] at p
      exact veq_ok hK hu I rx ry R vv vw e (Post.here R (.bl b) p)
  case NotEq =>
    intro pins s σ H x y v u Q I rx ry ⟨φ, h, v', w', R, vv, vw, p⟩
    simp only [cmpop] at p
    cases e : veq h v' w' with
    | none => rw [e] at p; exact False.elim p
    | some b =>
      rw [e] at p
      exact vne_ok hK hu I rx ry R vv vw e (Post.here R (.bl (!b)) p)
  case Lt => exact cmp_bl op_lt fun v w h => by cases v <;> first | exact .inr rfl | (cases w <;> first | exact .inr rfl | exact .inl ⟨_, _, rfl, rfl, rfl⟩)
  case Gt => exact cmp_bl op_gt fun v w h => by cases v <;> first | exact .inr rfl | (cases w <;> first | exact .inr rfl | exact .inl ⟨_, _, rfl, rfl, rfl⟩)
  case GtE => exact cmp_bl op_ge fun v w h => by cases v <;> first | exact .inr rfl | (cases w <;> first | exact .inr rfl | exact .inl ⟨_, _, rfl, rfl, rfl⟩)
  case LtE =>
    intro pins s σ H x y v u Q I rx ry ⟨φ, h, v', w', R, vv, vw, p⟩
    cases v' <;> cases w' <;> first | exact False.elim p | skip
    · exact op_le pins s σ H x y v u Q I rx ry ⟨_, _, vv.intI, vw.intI, Post.here R (.bl _) p⟩
    · exact op_le_str pins s σ H x y v u Q I rx ry ⟨_, _, vv.strI, vw.strI, Post.here R (.bl _) p⟩
  all_goals exact bad fun v w h => by cases v <;> first | rfl | (cases w <;> rfl)
end
end Mn
namespace Mn
open PySem PySem.Spec PyProof.Rows L2
section
variable {X : Cx} {L : Lk}
theorem atI_ok {φ : Ph} {H : Hp} {vs : List Val} {xs : List V} {i : Int} {v : Val} (r : VRs L φ H vs xs) (e : atI vs i = some v) : ∃ x, atI xs i = some x ∧ VR L φ H v x := by
  unfold atI at e ⊢
  rw [← r.length]
  cases q : ixN vs.length i with
  | none => rw [q] at e; cases e
  | some j =>
    rw [q] at e
    exact r.get e
theorem index_ok (hK : X.K = L.K) : IxR X (fun x y H Q => ∃ φ h v w, Rel L φ h H ∧ VR L φ H v x ∧ VR L φ H w y ∧ noD h v ∧ Post L φ H (vR L) (index v w h) Q (fun _ _ _ => False)) := by
  intro value sl pins s σ H x y v u Q I rx ry hq hs
  obtain ⟨φ, h, v', w', R, vv, vw, nd, p⟩ := hq
  cases v' with
  | non => exact False.elim p
  | bl _ => exact False.elim p
  | int _ => exact False.elim p
  | exc _ _ => exact False.elim p
  | str z =>
    cases w' <;> first | exact False.elim p | skip
    rename_i k
    simp only [index] at p
    by_cases c : z.length ≤ sizeLine
    · rw [if_pos c] at p
      cases e : atI z.cps.toList k with
      | none => rw [e] at p; exact False.elim p
      | some d =>
        rw [e] at p
        exact ix_str value sl pins s σ H x y v u Q I rx ry ⟨z, k, d, vv.strI, vw.intI, c, e, Post.here R (.str _) p⟩ hs
    · rw [if_neg c] at p; exact False.elim p
  | tup vs =>
    cases w' <;> first | exact False.elim p | skip
    rename_i k
    simp only [index] at p
    obtain ⟨a, xs, rfl, q1, r1⟩ := vv.tupI
    cases e : atI vs k with
    | none => rw [e] at p; exact False.elim p
    | some d =>
      rw [e] at p
      obtain ⟨z, e2, r2⟩ := atI_ok r1 e
      exact ix_tup value sl pins s σ H _ y v u Q I rx ry ⟨a, xs, k, z, rfl, vw.intI, hK ▸ q1, e2, Post.here R r2 p⟩ hs
  | ref i =>
    simp only [index] at p
    split at p
    · rename_i w vs k hi
      obtain ⟨a, rfl, _, o⟩ := R.at hi vv
      obtain ⟨xs, q1, r1, _⟩ := o.lstI
      cases e : atI vs k with
      | none => rw [e] at p; exact False.elim p
      | some d =>
        rw [e] at p
        obtain ⟨z, e2, r2⟩ := atI_ok r1 e
        exact ix_list value sl pins s σ H _ y v u Q I rx ry ⟨a, xs, k, z, rfl, vw.intI, hK ▸ q1, e2, Post.here R r2 p⟩ hs
    · rename_i w kvs hi
      exact absurd hi ((nd i rfl).1 w kvs)
    · rename_i kvs hi
      exact absurd hi ((nd i rfl).2 kvs)
    · exact False.elim p
theorem VRs.cut {φ : Ph} {H : Hp} {vs : List Val} {xs : List V} (r : VRs L φ H vs xs) (lo hi : Option Int) : VRs L φ H (cutL vs lo hi) (cutV xs lo hi) := by
  unfold cutL cutV
  rw [← r.length]
  exact (r.drop _).take _
theorem cut_whole {α : Type} {vs : List α} {lo hi : Option Int} (h : HT.sIx vs.length 0 lo = 0 ∧ HT.sIx vs.length vs.length hi = vs.length) : cutL vs lo hi = vs := by
  unfold cutL
  rw [h.1, h.2]
  simp
theorem slice_ok (hK : X.K = L.K) : SlR X (fun x lo hi H Q => ∃ φ h v, Rel L φ h H ∧ VR L φ H v x ∧ Post L φ H (vR L) (slice v lo hi h) Q (fun _ _ _ => False)) := by
  intro pins s σ H x v vl vu lo hi sl Q I rx hs pl pu hq
  obtain ⟨φ, h, v', R, vv, p⟩ := hq
  cases v' <;> first | exact False.elim p | skip
  · rename_i z
    simp only [slice] at p
    by_cases c : z.length ≤ sizeLine
    · rw [if_pos c] at p
      exact sl_str pins s σ H x v vl vu lo hi sl Q I rx hs pl pu ⟨z, vv.strI, c, Post.here R (.str _) p⟩
    · rw [if_neg c] at p; exact False.elim p
  · rename_i vs
    simp only [slice] at p
    obtain ⟨a, xs, rfl, q1, r1⟩ := vv.tupI
    refine sl_tupA pins s σ H _ v vl vu lo hi sl Q I rx hs pl pu ⟨a, xs, rfl, hK ▸ q1, fun w => ?_, fun _ d hd => Post.tup R (r1.cut lo hi) p hd⟩
    rw [← r1.length] at w
    rw [cut_whole w] at p
    exact Post.here R vv p
  · rename_i i
    simp only [slice] at p
    split at p
    · rename_i w vs hi'
      obtain ⟨a, rfl, _, o⟩ := R.at hi' vv
      obtain ⟨xs, q1, r1, _⟩ := o.lstI
      exact sl_list pins s σ H _ v vl vu lo hi sl Q I rx hs pl pu ⟨a, xs, rfl, hK ▸ q1, fun d hd => Post.lst R (r1.cut lo hi) p hd⟩
    · exact False.elim p

/-! ### built-ins -/
theorem intsO_ok {φ : Ph} {H : Hp} : ∀ {vs : List Val} {xs : List V} {ns : List Int}, VRs L φ H vs xs → intsO vs = some ns → xs = ns.map V.int
  | _, _, _, .nil, e => by simp [intsO, mapO] at e; subst e; rfl
  | _, _, _, .cons (v := v) h t, e => by
    obtain ⟨y, ys, e1, e2, rfl⟩ := mapO_cons e
    cases v <;> first | (cases e1; done) | skip
    cases e1
    rw [intsO_ok t e2, h.intI]; rfl
theorem boolsO_ok {φ : Ph} {H : Hp} : ∀ {vs : List Val} {xs : List V} {ns : List Bool}, VRs L φ H vs xs → boolsO vs = some ns → xs = ns.map V.bl
  | _, _, _, .nil, e => by simp [boolsO, mapO] at e; subst e; rfl
  | _, _, _, .cons (v := v) h t, e => by
    obtain ⟨y, ys, e1, e2, rfl⟩ := mapO_cons e
    cases v <;> first | (cases e1; done) | skip
    cases e1
    rw [boolsO_ok t e2, h.blI]; rfl
theorem VRs.one {φ : Ph} {H : Hp} {v : Val} {xs : List V} (r : VRs L φ H [v] xs) : ∃ x, xs = [x] ∧ VR L φ H v x := by
  cases r with
  | cons h t => cases t; exact ⟨_, rfl, h⟩
theorem VRs.two {φ : Ph} {H : Hp} {v w : Val} {xs : List V} (r : VRs L φ H [v, w] xs) : ∃ x y, xs = [x, y] ∧ VR L φ H v x ∧ VR L φ H w y := by
  cases r with
  | cons h t =>
    obtain ⟨y, rfl, r2⟩ := t.one
    exact ⟨_, _, rfl, h, r2⟩
/-- the reading of a built-in's call -/
noncomputable abbrev rB (L : Lk) (f : Bi) : List V → Hp → VK → Prop := rCl L (bisem f)
theorem bi_len (hK : X.K = L.K) : CallR X (.builtin "len") (rB L .len) := by
  intro pins s σ H xs us Q I rx hq
  obtain ⟨φ, h, vs, R, rs, p⟩ := hq
  match vs, rs, p with
  | [.tup ws], rs, p =>
    obtain ⟨x, rfl, r⟩ := rs.one
    obtain ⟨a, ys, rfl, q1, r1⟩ := r.tupI
    refine call_len pins s σ H _ us Q I rx ⟨_, ys.length, rfl, .inr ⟨ys, hK ▸ q1, rfl⟩, ?_⟩
    have p : Post L φ H (vR L) (.ok (.int ws.length) h) Q _ := p
    rw [r1.length] at p
    exact Post.here R (.int _) p
  | [.str z], rs, p =>
    obtain ⟨x, rfl, r⟩ := rs.one
    have p : Post L φ H (vR L) (if z.length ≤ sizeLine then .ok (.int z.length) h else .bad) Q _ := p
    by_cases c : z.length ≤ sizeLine
    · rw [if_pos c] at p
      rw [r.strI] at rx
      exact call_len pins s σ H _ us Q I rx ⟨_, z.length, rfl, ⟨c, rfl⟩, Post.here R (.int _) p⟩
    · rw [if_neg c] at p; exact False.elim p
  | [.ref a], rs, p =>
    obtain ⟨x, rfl, r⟩ := rs.one
    have p : Post L φ H (vR L) (match h[a]? with
      | some (.lst _ xs) => .ok (.int xs.length) h
      | some (.dct _ kvs) => .ok (.int kvs.length) h
      | _ => .bad) Q _ := p
    split at p
    · rename_i w ws hi
      obtain ⟨b, rfl, _, o⟩ := R.at hi r
      obtain ⟨ys, q1, r1, _⟩ := o.lstI
      rw [r1.length] at p
      exact call_len pins s σ H _ us Q I rx ⟨_, ys.length, rfl, .inl ⟨ys, hK ▸ q1, rfl⟩, Post.here R (.int _) p⟩
    · rename_i w kvs hi
      obtain ⟨b, rfl, _, o⟩ := R.at hi r
      obtain ⟨ys, q1, r1, _⟩ := o.dctI
      obtain ⟨u, rfl, ru⟩ := vals1 rx
      cases ru
      rw [r1.length] at p
      exact d_len I q1 fun t s' I' => ⟨.int ys.length, H, I', ⟨t, rfl⟩, Post.here R (.int _) p⟩
    · exact False.elim p
  | [], rs, p => exact False.elim p
  | [.non], rs, p => exact False.elim p
  | [.bl _], rs, p => exact False.elim p
  | [.int _], rs, p => exact False.elim p
  | [.exc _ _], rs, p => exact False.elim p
  | x :: y :: r, rs, p => cases x <;> exact False.elim p
theorem bi_two {n : String} {f : Bi} {g : Int → Int → Int} (ho : CallR X (.builtin n) (fun xs H Q => ∃ i j, xs = [.int i, .int j] ∧ Q (.int (g i j)) H))
    (hb : ∀ (vs : List Val) (h : MH), (∃ i j, vs = [.int i, .int j] ∧ bisem f vs h = .ok (.int (g i j)) h) ∨ bisem f vs h = .bad) : CallR X (.builtin n) (rB L f) := by
  intro pins s σ H xs us Q I rx hq
  obtain ⟨φ, h, vs, R, rs, p⟩ := hq
  rcases hb vs h with ⟨i, j, rfl, e⟩ | e
  · rw [e] at p
    obtain ⟨x, y, rfl, r1, r2⟩ := rs.two
    rw [r1.intI, r2.intI] at rx
    exact ho pins s σ H _ us Q I rx ⟨i, j, rfl, Post.here R (.int _) p⟩
  · rw [e] at p; exact False.elim p
theorem two_cases {f : Bi} {g : Int → Int → Int} (h1 : ∀ i j h, bisem f [.int i, .int j] h = .ok (.int (g i j)) h) (h2 : ∀ vs h, (∀ i j, vs ≠ [.int i, .int j]) → bisem f vs h = .bad) (vs : List Val) (h : MH) :
    (∃ i j, vs = [.int i, .int j] ∧ bisem f vs h = .ok (.int (g i j)) h) ∨ bisem f vs h = .bad := by
  by_cases e : ∃ i j, vs = [.int i, .int j]
  · obtain ⟨i, j, rfl⟩ := e
    exact .inl ⟨i, j, rfl, h1 i j h⟩
  · exact .inr (h2 vs h fun i j z => e ⟨i, j, z⟩)
theorem bi_max (hc : X.calm = true) : CallR X (.builtin "max") (rB L .max) := bi_two (call_max2 hc) (two_cases (fun _ _ _ => rfl) fun vs h n => by
  match vs, n with
  | [], n => rfl
  | [x], n => cases x <;> rfl
  | [x, y], n => cases x <;> first | rfl | (cases y <;> first | rfl | exact absurd rfl (n _ _))
  | x :: y :: z :: r, n => cases x <;> first | rfl | (cases y <;> rfl))
theorem bi_min (hc : X.calm = true) : CallR X (.builtin "min") (rB L .min) := bi_two (call_min2 hc) (two_cases (fun _ _ _ => rfl) fun vs h n => by
  match vs, n with
  | [], n => rfl
  | [x], n => cases x <;> rfl
  | [x, y], n => cases x <;> first | rfl | (cases y <;> first | rfl | exact absurd rfl (n _ _))
  | x :: y :: z :: r, n => cases x <;> first | rfl | (cases y <;> rfl))
theorem bi_int : CallR X (.type "int") (rB L .int) := by
  intro pins s σ H xs us Q I rx hq
  obtain ⟨φ, h, vs, R, rs, p⟩ := hq
  match vs, rs, p with
  | [.int i], rs, p =>
    obtain ⟨x, rfl, r⟩ := rs.one
    rw [r.intI] at rx
    exact call_int1 pins s σ H _ us Q I rx (.inl ⟨i, rfl, Post.here R (.int _) p⟩)
  | [.bl b], rs, p =>
    obtain ⟨x, rfl, r⟩ := rs.one
    rw [r.blI] at rx
    exact call_int1 pins s σ H _ us Q I rx (.inr ⟨b, rfl, Post.here R (.int _) p⟩)
  | [.str z], rs, p =>
    obtain ⟨x, rfl, r⟩ := rs.one
    rw [r.strI] at rx
    have p : Post L φ H (vR L) (if z.length ≤ 640 then retO ((PySem.intText? z).map .int) h else .bad) Q _ := p
    by_cases c : z.length ≤ 640
    · rw [if_pos c] at p
      cases e : PySem.intText? z with
      | none => rw [e] at p; exact False.elim p
      | some n =>
        rw [e] at p
        exact call_int_str pins s σ H _ us Q I rx ⟨z, n, rfl, e, c, Post.here R (.int _) p⟩
    · rw [if_neg c] at p; exact False.elim p
  | [], rs, p => exact False.elim p
  | [.non], rs, p => exact False.elim p
  | [.ref _], rs, p => exact False.elim p
  | [.tup _], rs, p => exact False.elim p
  | [.exc _ _], rs, p => exact False.elim p
  | x :: y :: r, rs, p => cases x <;> exact False.elim p
theorem bi_str : CallR X (.type "str") (rB L .str) := by
  intro pins s σ H xs us Q I rx hq
  obtain ⟨φ, h, vs, R, rs, p⟩ := hq
  match vs, rs, p with
  | [.int i], rs, p =>
    obtain ⟨x, rfl, r⟩ := rs.one
    rw [r.intI] at rx
    have p : Post L φ H (vR L) (if i.natAbs.log2 < 1920 then .ok (.str (toString i)) h else .bad) Q _ := p
    by_cases c : i.natAbs.log2 < 1920
    · rw [if_pos c] at p
      exact call_str_int pins s σ H _ us Q I rx ⟨i, rfl, c, Post.here R (.str _) p⟩
    · rw [if_neg c] at p; exact False.elim p
  | [], rs, p => exact False.elim p
  | [.non], rs, p => exact False.elim p
  | [.bl _], rs, p => exact False.elim p
  | [.str _], rs, p => exact False.elim p
  | [.ref _], rs, p => exact False.elim p
  | [.tup _], rs, p => exact False.elim p
  | [.exc _ _], rs, p => exact False.elim p
  | x :: y :: r, rs, p => cases x <;> exact False.elim p
theorem bi_tuple (hK : X.K = L.K) : CallR X (.type "tuple") (rB L .tuple) := by
  intro pins s σ H xs us Q I rx hq
  obtain ⟨φ, h, vs, R, rs, p⟩ := hq
  match vs, rs, p with
  | [.tup ws], rs, p =>
    obtain ⟨x, rfl, r⟩ := rs.one
    obtain ⟨a, ys, rfl, q1, r1⟩ := r.tupI
    exact call_tuple_of pins s σ H _ us Q I rx ⟨a, ys, rfl, .inr ⟨hK ▸ q1, Post.here R r p⟩⟩
  | [.ref a], rs, p =>
    obtain ⟨x, rfl, r⟩ := rs.one
    have p : Post L φ H (vR L) (match h[a]? with
      | some (.lst _ xs) => .ok (.tup xs) h
      | _ => .bad) Q _ := p
    split at p
    · rename_i w ws hi
      obtain ⟨b, rfl, _, o⟩ := R.at hi r
      obtain ⟨ys, q1, r1, _⟩ := o.lstI
      exact call_tuple_of pins s σ H _ us Q I rx ⟨b, ys, rfl, .inl ⟨hK ▸ q1, fun d hd => Post.tup R r1 p hd⟩⟩
    · exact False.elim p
  | [], rs, p => exact False.elim p
  | [.non], rs, p => exact False.elim p
  | [.bl _], rs, p => exact False.elim p
  | [.int _], rs, p => exact False.elim p
  | [.str _], rs, p => exact False.elim p
  | [.exc _ _], rs, p => exact False.elim p
  | x :: y :: r, rs, p => cases x <;> exact False.elim p
theorem bi_list (hK : X.K = L.K) (hc : X.calm = true) : CallR X (.type "list") (rB L .list) := by
  intro pins s σ H xs us Q I rx hq
  obtain ⟨φ, h, vs, R, rs, p⟩ := hq
  match vs, rs, p with
  | [.tup ws], rs, p =>
    obtain ⟨x, rfl, r⟩ := rs.one
    obtain ⟨a, ys, rfl, q1, r1⟩ := r.tupI
    exact call_list_of pins s σ H _ us Q I rx ⟨a, ys, rfl, .inr (hK ▸ q1), fun d hd => Post.lst R r1 p hd⟩
  | [.ref a], rs, p =>
    obtain ⟨x, rfl, r⟩ := rs.one
    have p : Post L φ H (vR L) (match h[a]? with
      | some (.lst _ xs) => alloc (.lst true xs) h
      | some (.dct _ kvs) => alloc (.lst true (kvs.map fun p => kVal p.1)) h
      | _ => .bad) Q _ := p
    split at p
    · rename_i w ws hi
      obtain ⟨b, rfl, _, o⟩ := R.at hi r
      obtain ⟨ys, q1, r1, _⟩ := o.lstI
      exact call_list_of pins s σ H _ us Q I rx ⟨b, ys, rfl, .inl (hK ▸ q1), fun d hd => Post.lst R r1 p hd⟩
    · rename_i w kvs hi
      obtain ⟨b, rfl, _, o⟩ := R.at hi r
      obtain ⟨ys, q1, r1, _⟩ := o.dctI
      exact call_listD hc pins s σ H _ us Q I rx ⟨b, ys, rfl, q1, fun d hd => Post.lst R r1.keys p hd⟩
    · exact False.elim p
  | [], rs, p => exact False.elim p
  | [.non], rs, p => exact False.elim p
  | [.bl _], rs, p => exact False.elim p
  | [.int _], rs, p => exact False.elim p
  | [.str _], rs, p => exact False.elim p
  | [.exc _ _], rs, p => exact False.elim p
  | x :: y :: r, rs, p => cases x <;> exact False.elim p
theorem pairs_ok {φ : Ph} {H : Hp} : ∀ {ws : List Val} {ys : List V} {kvs : List (Key × Val)}, VRs L φ H ws ys → pairsO ws = some kvs → ∃ (ps : List Addr) (xs : List (Key × V)), ys = ps.map V.ref ∧ Paired (fun p kv => SqT L.K H p [kV kv.1, kv.2]) ps xs ∧ KRs L φ H kvs xs := by
  intro ws
  induction ws with
  | nil =>
    intro ys kvs r e
    cases r
    cases (show some [] = some kvs from e)
    exact ⟨[], [], rfl, .nil, .nil⟩
  | cons w ws ih =>
    intro ys kvs r e
    cases r with
    | cons rw r =>
      simp only [pairsO, mapO] at e
      split at e
      · rename_i kv kvs' e1 e2
        cases e
        obtain ⟨ps, xs, rfl, p, k⟩ := ih r e2
        unfold pairO at e1
        split at e1
        · rename_i k0 x0
          obtain ⟨c, hc, rfl⟩ := Option.map_eq_some_iff.mp e1
          obtain ⟨a, zs, rfl, q, rz⟩ := rw.tupI
          cases rz with
          | cons r1 rz =>
            cases rz with
            | cons r2 rz =>
              cases rz
              have e3 := r1.key hc
              subst e3
              exact ⟨a :: ps, (c, _) :: xs, rfl, .cons q p, .cons r2 k⟩
        · cases e1
      · cases e
theorem KRs.fold {φ : Ph} {H : Hp} : ∀ {kvs : List (Key × Val)} {xs : List (Key × V)} {d : List (Key × Val)} {e : List (Key × V)}, KRs L φ H kvs xs → KRs L φ H d e → KRs L φ H (kvs.foldl (fun d p => putC p.1 p.2 d) d) (xs.foldl (fun acc kv => putK acc kv.1 kv.2) e) := by
  intro kvs xs d e r
  induction r generalizing d e with
  | nil => exact fun q => q
  | cons rv r ih => exact fun q => ih (q.put rv)
theorem bi_dict (hK : X.K = L.K) (hc : X.calm = true) : CallR X (.type "dict") (rB L .dict) := by
  intro pins s σ H xs us Q I rx hq
  obtain ⟨φ, h, vs, R, rs, p⟩ := hq
  match vs, rs, p with
  | [.ref a], rs, p =>
    obtain ⟨x, rfl, r⟩ := rs.one
    have p : Post L φ H (vR L) (match h[a]? with
      | some (.lst _ xs) => (match pairsO xs with
        | some kvs => alloc (.dct true (dictL kvs)) h
        | none => .bad)
      | _ => .bad) Q _ := p
    split at p
    · rename_i w ws hi
      obtain ⟨b, rfl, _, o⟩ := R.at hi r
      obtain ⟨ys, q1, r1, _⟩ := o.lstI
      cases e : pairsO ws with
      | none => rw [e] at p; exact False.elim p
      | some kvs =>
        rw [e] at p
        obtain ⟨ps, xs, rfl, pp, kk⟩ := pairs_ok r1 e
        refine call_dictP hc pins s σ H _ us Q I rx ⟨b, ps, xs, rfl, hK ▸ q1, hK ▸ pp, fun d hd => ?_⟩
        exact Post.dct R (KRs.fold kk .nil) p hd
    · exact False.elim p
  | [], rs, p => exact False.elim p
  | [.non], rs, p => exact False.elim p
  | [.bl _], rs, p => exact False.elim p
  | [.int _], rs, p => exact False.elim p
  | [.str _], rs, p => exact False.elim p
  | [.tup _], rs, p => exact False.elim p
  | [.exc _ _], rs, p => exact False.elim p
  | x :: y :: r, rs, p => cases x <;> exact False.elim p
theorem bi_sum (hK : X.K = L.K) (hc : X.calm = true) : CallR X (.builtin "sum") (rB L .sum) := by
  intro pins s σ H xs us Q I rx hq
  obtain ⟨φ, h, vs, R, rs, p⟩ := hq
  match vs, rs, p with
  | [.ref a], rs, p =>
    obtain ⟨x, rfl, r⟩ := rs.one
    have p : Post L φ H (vR L) (match h[a]? with
      | some (.lst _ xs) => retO ((intsO xs).map fun ns => .int ns.sum) h
      | _ => .bad) Q _ := p
    split at p
    · rename_i w ws hi
      obtain ⟨b, rfl, _, o⟩ := R.at hi r
      obtain ⟨ys, q1, r1, _⟩ := o.lstI
      cases e : intsO ws with
      | none => rw [e] at p; exact False.elim p
      | some ns =>
        rw [e] at p
        exact cr_sum hc pins s σ H _ us Q I rx ⟨b, ns, rfl, by rw [← intsO_ok r1 e]; exact hK ▸ q1, Post.here R (.int _) p⟩
    · exact False.elim p
  | [], rs, p => exact False.elim p
  | [.non], rs, p => exact False.elim p
  | [.bl _], rs, p => exact False.elim p
  | [.int _], rs, p => exact False.elim p
  | [.str _], rs, p => exact False.elim p
  | [.tup _], rs, p => exact False.elim p
  | [.exc _ _], rs, p => exact False.elim p
  | x :: y :: r, rs, p => cases x <;> exact False.elim p
theorem bi_all (hK : X.K = L.K) (hc : X.calm = true) : CallR X (.builtin "all") (rB L .all) := by
  intro pins s σ H xs us Q I rx hq
  obtain ⟨φ, h, vs, R, rs, p⟩ := hq
  match vs, rs, p with
  | [.ref a], rs, p =>
    obtain ⟨x, rfl, r⟩ := rs.one
    have p : Post L φ H (vR L) (match h[a]? with
      | some (.lst _ xs) => retO ((boolsO xs).map fun bs => .bl (bs.all id)) h
      | _ => .bad) Q _ := p
    split at p
    · rename_i w ws hi
      obtain ⟨b, rfl, _, o⟩ := R.at hi r
      obtain ⟨ys, q1, r1, _⟩ := o.lstI
      cases e : boolsO ws with
      | none => rw [e] at p; exact False.elim p
      | some ns =>
        rw [e] at p
        exact cr_all hc pins s σ H _ us Q I rx ⟨b, ns, rfl, by rw [← boolsO_ok r1 e]; exact hK ▸ q1, Post.here R (.bl _) p⟩
    · exact False.elim p
  | [], rs, p => exact False.elim p
  | [.non], rs, p => exact False.elim p
  | [.bl _], rs, p => exact False.elim p
  | [.int _], rs, p => exact False.elim p
  | [.str _], rs, p => exact False.elim p
  | [.tup _], rs, p => exact False.elim p
  | [.exc _ _], rs, p => exact False.elim p
  | x :: y :: r, rs, p => cases x <;> exact False.elim p
end
end Mn
namespace Mn
open PySem PySem.Spec PyProof.Rows L2
section
variable {X : Cx} {L : Lk}
theorem Post.lset {φ : Ph} {h : MH} {H : Hp} {i : Nat} {a : Addr} {us vs : List Val} {zs xs : List V} {v : Val} {y : V} {Q : VK} {E : XK} (R : Rel L φ h H) (hi : h[i]? = some (.lst true us)) (ai : φ[i]? = some (true, a)) (hz : H a = some (.lst zs)) (r : VRs L φ H vs xs) (rv : VR L φ H v y)
    (p : Post L φ H (vR L) (.ok v (h.set i (.lst true vs))) Q E) : Q y (upd H a (.lst xs)) := by
  have X1 : Ext L φ H φ (upd H a (.lst xs)) := Ext.write ai hz (fun _ _ z => by cases z) (fun _ z => by cases z)
  exact p y _ φ X1 (R.write hi rfl (fun _ z => by cases z) ai (.lst upd_same (r.mono X1))) (rv.mono X1)
theorem eraseIdx_ok {φ : Ph} {H : Hp} : ∀ {vs : List Val} {xs : List V} (j : Nat), VRs L φ H vs xs → VRs L φ H (vs.eraseIdx j) (xs.eraseIdx j)
  | _, _, _, .nil => .nil
  | _, _, 0, .cons _ t => t
  | _, _, j + 1, .cons h t => .cons h (eraseIdx_ok j t)
theorem dropLast_ok {φ : Ph} {H : Hp} {vs : List Val} {xs : List V} (r : VRs L φ H vs xs) : VRs L φ H vs.dropLast xs.dropLast := by
  rw [List.dropLast_eq_take, List.dropLast_eq_take, ← r.length]
  exact r.take _
noncomputable abbrev rM (L : Lk) (m : Mt) : V → List V → Hp → VK → Prop := rMt L (mtsem m)
theorem mt_appendX : MtM X "list.append" (rM L .append) := by
  intro pins s σ H x xs v us Q I rx rxs hq
  obtain ⟨φ, h, v', vs, R, vv, rs, p⟩ := hq
  match v', vs, vv, rs, p with
  | .ref i, [w], vv, rs, p =>
    simp only [mtsem] at p
    split at p
    · rename_i ws hi
      by_cases c : ws.length < sizeLine
      · rw [if_pos c] at p
        obtain ⟨a, rfl, ai, o⟩ := R.at hi vv
        obtain ⟨zs, _, r1, k⟩ := o.lstI
        obtain ⟨y, rfl, r2⟩ := rs.one
        exact mt_append pins s σ H _ _ v us Q I rx rxs ⟨a, zs, y, rfl, rfl, k rfl, by rw [← r1.length]; exact c, Post.lset R hi (ai.2 rfl) (k rfl) (r1.append (.cons r2 .nil)) .non p⟩
      · rw [if_neg c] at p; exact False.elim p
    · exact False.elim p
  | .ref i, [], vv, rs, p => exact False.elim p
  | .ref i, _ :: _ :: _, vv, rs, p => exact False.elim p
  | .non, _, vv, rs, p => exact False.elim p
  | .bl _, _, vv, rs, p => exact False.elim p
  | .int _, _, vv, rs, p => exact False.elim p
  | .str _, _, vv, rs, p => exact False.elim p
  | .tup _, _, vv, rs, p => exact False.elim p
  | .exc _ _, _, vv, rs, p => exact False.elim p
theorem mt_extendX : MtM X "list.extend" (rM L .extend) := by
  intro pins s σ H x xs v us Q I rx rxs hq
  obtain ⟨φ, h, v', vs, R, vv, rs, p⟩ := hq
  match v', vs, vv, rs, p with
  | .ref i, [.ref j], vv, rs, p =>
    simp only [mtsem] at p
    split at p
    · rename_i ws zs hi hj
      by_cases c : ws.length + zs.length ≤ sizeLine
      · rw [if_pos c] at p
        obtain ⟨a, rfl, ai, o⟩ := R.at hi vv
        obtain ⟨xs1, _, r1, k⟩ := o.lstI
        obtain ⟨y, rfl, r2⟩ := rs.one
        obtain ⟨b, rfl, bi, o2⟩ := R.at hj r2
        obtain ⟨xs2, _, r3, k2⟩ := o2.lstI
        exact mt_extend pins s σ H _ _ v us Q I rx rxs ⟨a, b, xs1, xs2, rfl, rfl, k rfl, k2 rfl, by rw [← r1.length, ← r3.length]; exact c, Post.lset R hi (ai.2 rfl) (k rfl) (r1.append r3) .non p⟩
      · rw [if_neg c] at p; exact False.elim p
    · exact False.elim p
  | .ref i, [], vv, rs, p => exact False.elim p
  | .ref i, [.non], vv, rs, p => exact False.elim p
  | .ref i, [.bl _], vv, rs, p => exact False.elim p
  | .ref i, [.int _], vv, rs, p => exact False.elim p
  | .ref i, [.str _], vv, rs, p => exact False.elim p
  | .ref i, [.tup _], vv, rs, p => exact False.elim p
  | .ref i, [.exc _ _], vv, rs, p => exact False.elim p
  | .ref i, w :: _ :: _, vv, rs, p => cases w <;> exact False.elim p
  | .non, _, vv, rs, p => exact False.elim p
  | .bl _, _, vv, rs, p => exact False.elim p
  | .int _, _, vv, rs, p => exact False.elim p
  | .str _, _, vv, rs, p => exact False.elim p
  | .tup _, _, vv, rs, p => exact False.elim p
  | .exc _ _, _, vv, rs, p => exact False.elim p
theorem mt_popX : MtM X "list.pop" (rM L .pop) := by
  intro pins s σ H x xs v us Q I rx rxs hq
  obtain ⟨φ, h, v', vs, R, vv, rs, p⟩ := hq
  match v', vs, vv, rs, p with
  | .ref i, [], vv, rs, p =>
    simp only [mtsem] at p
    split at p
    · rename_i ws hi
      split at p
      · rename_i w hw
        obtain ⟨a, rfl, ai, o⟩ := R.at hi vv
        obtain ⟨zs, _, r1, k⟩ := o.lstI
        cases rs
        obtain ⟨y, hy, r2⟩ := r1.get hw
        rw [r1.length] at hy
        exact mt_pop pins s σ H _ _ v us Q I rx rxs ⟨a, zs, y, rfl, rfl, k rfl, hy, Post.lset R hi (ai.2 rfl) (k rfl) (dropLast_ok r1) r2 p⟩
      · exact False.elim p
    · exact False.elim p
  | .ref i, _ :: _, vv, rs, p => exact False.elim p
  | .non, _, vv, rs, p => exact False.elim p
  | .bl _, _, vv, rs, p => exact False.elim p
  | .int _, _, vv, rs, p => exact False.elim p
  | .str _, _, vv, rs, p => exact False.elim p
  | .tup _, _, vv, rs, p => exact False.elim p
  | .exc _ _, _, vv, rs, p => exact False.elim p
theorem mt_clearX : MtM X "list.clear" (rM L .clear) := by
  intro pins s σ H x xs v us Q I rx rxs hq
  obtain ⟨φ, h, v', vs, R, vv, rs, p⟩ := hq
  match v', vs, vv, rs, p with
  | .ref i, [], vv, rs, p =>
    simp only [mtsem] at p
    split at p
    · rename_i ws hi
      obtain ⟨a, rfl, ai, o⟩ := R.at hi vv
      obtain ⟨zs, _, r1, k⟩ := o.lstI
      cases rs
      exact mt_clear pins s σ H _ _ v us Q I rx rxs ⟨a, zs, rfl, rfl, k rfl, Post.lset R hi (ai.2 rfl) (k rfl) .nil .non p⟩
    · exact False.elim p
  | .ref i, _ :: _, vv, rs, p => exact False.elim p
  | .non, _, vv, rs, p => exact False.elim p
  | .bl _, _, vv, rs, p => exact False.elim p
  | .int _, _, vv, rs, p => exact False.elim p
  | .str _, _, vv, rs, p => exact False.elim p
  | .tup _, _, vv, rs, p => exact False.elim p
  | .exc _ _, _, vv, rs, p => exact False.elim p
theorem mt_popAtX : MtM X "list.pop" (rM L .popAt) := by
  intro pins s σ H x xs v us Q I rx rxs hq
  obtain ⟨φ, h, v', vs, R, vv, rs, p⟩ := hq
  match v', vs, vv, rs, p with
  | .ref i, [.int n], vv, rs, p =>
    simp only [mtsem] at p
    split at p
    · rename_i ws hi
      split at p
      · rename_i j hj
        split at p
        · rename_i w hw
          by_cases c : -(2 ^ 63) ≤ n ∧ n < 2 ^ 63
          · rw [if_pos c] at p
            obtain ⟨a, rfl, ai, o⟩ := R.at hi vv
            obtain ⟨zs, _, r1, k⟩ := o.lstI
            obtain ⟨y0, rfl, r0⟩ := rs.one
            obtain ⟨y, hy, r2⟩ := r1.get hw
            have e0 := r0.intI
            subst e0
            rw [r1.length] at hj
            exact mt_popAt pins s σ H _ _ v us Q I rx rxs ⟨a, zs, n, j, y, rfl, rfl, k rfl, c.1, c.2, (ixN_seq hj).1, hy, Post.lset R hi (ai.2 rfl) (k rfl) (eraseIdx_ok j r1) r2 p⟩
          · rw [if_neg c] at p; exact False.elim p
        · exact False.elim p
      · exact False.elim p
    · exact False.elim p
  | .ref i, [], vv, rs, p => exact False.elim p
  | .ref i, [.non], vv, rs, p => exact False.elim p
  | .ref i, [.bl _], vv, rs, p => exact False.elim p
  | .ref i, [.ref _], vv, rs, p => exact False.elim p
  | .ref i, [.str _], vv, rs, p => exact False.elim p
  | .ref i, [.tup _], vv, rs, p => exact False.elim p
  | .ref i, [.exc _ _], vv, rs, p => exact False.elim p
  | .ref i, w :: _ :: _, vv, rs, p => cases w <;> exact False.elim p
  | .non, _, vv, rs, p => exact False.elim p
  | .bl _, _, vv, rs, p => exact False.elim p
  | .int _, _, vv, rs, p => exact False.elim p
  | .str _, _, vv, rs, p => exact False.elim p
  | .tup _, _, vv, rs, p => exact False.elim p
  | .exc _ _, _, vv, rs, p => exact False.elim p
theorem VRs.getI {φ : Ph} {H : Hp} : ∀ {vs : List Val} {xs : List V} {i : Nat} {x : V}, VRs L φ H vs xs → xs[i]? = some x → ∃ v, vs[i]? = some v ∧ VR L φ H v x
  | _, _, _, _, .nil, e => by simp at e
  | _, _, 0, _, .cons r _, e => by simp at e; subst e; exact ⟨_, rfl, r⟩
  | _, _, i + 1, v, .cons _ t, e => by
    obtain ⟨u, h1, h2⟩ := t.getI (i := i) (x := v) (by simpa using e)
    exact ⟨u, by simpa using h1, h2⟩
theorem mt_indexX (hK : X.K = L.K) (hu : X.A.units + 65 < cLine) : MtM X "list.index" (rM L .index) := by
  intro pins s σ H x xs v us Q I rx rxs hq
  obtain ⟨φ, h, v', vs, R, vv, rs, p⟩ := hq
  match v', vs, vv, rs, p with
  | .ref i, [w], vv, rs, p =>
    simp only [mtsem] at p
    split at p
    · rename_i ww ws hi
      by_cases c : (flat w && ws.all flat) = true
      · rw [if_pos c] at p
        simp only [Bool.and_eq_true] at c
        obtain ⟨a, rfl, ai, o⟩ := R.at hi vv
        obtain ⟨zs, q1, r1, k⟩ := o.lstI
        obtain ⟨y, rfl, r2⟩ := rs.one
        cases e : ws.findIdx? (fun z => eqF z w) with
        | none => rw [e] at p; exact False.elim p
        | some j =>
          rw [e] at p
          obtain ⟨j1, j2, j3⟩ := List.findIdx?_eq_some_iff_getElem.mp e
          obtain ⟨z, hz, rz⟩ := r1.get (List.getElem?_eq_getElem j1)
          have fz : flat ws[j] = true := List.all_eq_true.mp c.2 _ (List.getElem_mem j1)
          refine mt_index pins s σ H _ _ v us Q I rx rxs ⟨a, zs, y, j, z, rfl, rfl, hK ▸ q1, r2.flat c.1, r1.flat c.2, hz, by rw [eqF_ok rz r2 fz c.1]; exact j2, fun m z' hm hz' => ?_, Post.here R (.int _) p⟩
          obtain ⟨u, hu, ru⟩ := r1.getI hz'
          have hml := (List.getElem?_eq_some_iff.mp hu).1
          have fu : flat u = true := List.all_eq_true.mp c.2 _ (List.mem_of_getElem? hu)
          rw [eqF_ok ru r2 fu c.1]
          have := j3 m hm
          rw [List.getElem?_eq_getElem hml] at hu
          cases hu
          simpa using this
      · rw [if_neg c] at p
        split at p
        · rename_i d ds e1 e2
          obtain ⟨y, rfl, r2⟩ := rs.one
          obtain ⟨a, rfl, _, _⟩ := R.at hi vv
          obtain ⟨d1, s1⟩ := snap_shaped R r2 e1
          obtain ⟨d2, s2⟩ := snap_shaped R vv e2
          cases e : ds.findIdx? (fun z => PyData.eqv z d) with
          | none => rw [e] at p; exact False.elim p
          | some j =>
            rw [e] at p
            obtain ⟨j1, j2, j3⟩ := List.findIdx?_eq_some_iff_getElem.mp e
            refine mt_indexD hu pins s σ H _ _ v us Q I rx rxs ⟨a, y, d, ds, j, _, rfl, rfl, hK ▸ d2, hK ▸ d1, s2, s1, List.getElem?_eq_getElem j1, j2, fun m z' hm hz' => ?_, Post.here R (.int _) p⟩
            obtain ⟨hml, rfl⟩ := List.getElem?_eq_some_iff.mp hz'
            simpa using j3 m hm
        · exact False.elim p
    · exact False.elim p
  | .ref i, [], vv, rs, p => exact False.elim p
  | .ref i, _ :: _ :: _, vv, rs, p => exact False.elim p
  | .non, _, vv, rs, p => exact False.elim p
  | .bl _, _, vv, rs, p => exact False.elim p
  | .int _, _, vv, rs, p => exact False.elim p
  | .str _, _, vv, rs, p => exact False.elim p
  | .tup _, _, vv, rs, p => exact False.elim p
  | .exc _ _, _, vv, rs, p => exact False.elim p
theorem mt_insertX : MtM X "list.insert" (rM L .insert) := by
  intro pins s σ H x xs v us Q I rx rxs hq
  obtain ⟨φ, h, v', vs, R, vv, rs, p⟩ := hq
  match v', vs, vv, rs, p with
  | .ref i, [.int n, w], vv, rs, p =>
    simp only [mtsem] at p
    split at p
    · rename_i ws hi
      by_cases c : ws.length < sizeLine ∧ 0 ≤ n ∧ n < 2 ^ 63
      · rw [if_pos c] at p
        obtain ⟨a, rfl, ai, o⟩ := R.at hi vv
        obtain ⟨zs, _, r1, k⟩ := o.lstI
        obtain ⟨y0, y, rfl, r0, r2⟩ := rs.two
        have e0 := r0.intI
        subst e0
        exact mt_insert pins s σ H _ _ v us Q I rx rxs ⟨a, zs, n, y, rfl, rfl, k rfl, by rw [← r1.length]; exact c.1, c.2.1, c.2.2, Post.lset R hi (ai.2 rfl) (k rfl) (((r1.take _).append (.cons r2 .nil)).append (r1.drop _)) .non p⟩
      · rw [if_neg c] at p; exact False.elim p
    · exact False.elim p
/-! texts -/
theorem VRs.strs {φ : Ph} {H : Hp} : ∀ {ys : List Str} {xs : List V}, VRs L φ H (ys.map Val.str) xs → xs = ys.map V.str
  | [], _, .nil => rfl
  | y :: ys, _, .cons r t => by rw [r.strI, VRs.strs t]; rfl
theorem VRs.ofStrs {φ : Ph} {H : Hp} : ∀ ys : List Str, VRs L φ H (ys.map Val.str) (ys.map V.str)
  | [] => .nil
  | y :: ys => .cons (.str y) (VRs.ofStrs ys)
theorem strsO_ok : ∀ {vs : List Val} {ys : List Str}, strsO vs = some ys → vs = ys.map Val.str
  | [], ys, e => by cases e; rfl
  | v :: vs, ys, e => by
    simp only [strsO, mapO] at e
    split at e
    · rename_i y zs e1 e2
      cases e
      cases v <;> first | (cases e1; done) | skip
      cases e1
      rw [strsO_ok (vs := vs) (ys := zs) e2]; rfl
    · cases e
theorem mt_joinX (hK : X.K = L.K) : MtR X "str.join" (rM L .join) := by
  intro pins s σ H x xs v us Q I rx rxs hq
  obtain ⟨φ, h, v', vs, R, vv, rs, p⟩ := hq
  match v', vs, vv, rs, p with
  | .str z, [.ref i], vv, rs, p =>
    simp only [mtsem] at p
    split at p
    · rename_i w ws hi
      split at p
      · rename_i ys hy
        by_cases c : (ys.map (·.length)).sum + ys.length * z.length ≤ 16777216
        · rw [if_pos c] at p
          obtain ⟨y, rfl, r2⟩ := rs.one
          obtain ⟨a, rfl, ai, o⟩ := R.at hi r2
          obtain ⟨zs, q, r1, k⟩ := o.lstI
          have e := strsO_ok hy
          subst e
          have ez := r1.strs
          subst ez
          exact mt_join pins s σ H _ _ v us Q I rx rxs ⟨z, a, ys, vv.strI, rfl, .inl (hK ▸ q), c, Post.here R (.str _) p⟩
        · rw [if_neg c] at p; exact False.elim p
      · exact False.elim p
    · exact False.elim p
theorem mt_splitX : MtR X "str.split" (rM L .split) := by
  intro pins s σ H x xs v us Q I rx rxs hq
  obtain ⟨φ, h, v', vs, R, vv, rs, p⟩ := hq
  match v', vs, vv, rs, p with
  | .str z, [.str y], vv, rs, p =>
    simp only [mtsem] at p
    by_cases c : (y.length == 0) = false ∧ z.length + 2 ≤ sizeLine
    · rw [if_pos c] at p
      obtain ⟨u, rfl, r2⟩ := rs.one
      exact mt_split pins s σ H _ _ v us Q I rx rxs ⟨z, y, vv.strI, by rw [r2.strI], c.1, c.2, fun q hq => Post.lst R (VRs.ofStrs _) p hq⟩
    · rw [if_neg c] at p; exact False.elim p
theorem mt_partitionX : MtR X "str.partition" (rM L .partition) := by
  intro pins s σ H x xs v us Q I rx rxs hq
  obtain ⟨φ, h, v', vs, R, vv, rs, p⟩ := hq
  match v', vs, vv, rs, p with
  | .str z, [.str y], vv, rs, p =>
    simp only [mtsem] at p
    by_cases c : (y.length == 0) = false ∧ z.length ≤ sizeLine
    · rw [if_pos c] at p
      obtain ⟨u, rfl, r2⟩ := rs.one
      exact mt_partition pins s σ H _ _ v us Q I rx rxs ⟨z, y, vv.strI, by rw [r2.strI], c.1, c.2, fun q hq => Post.tup R (.cons (.str _) (.cons (.str _) (.cons (.str _) .nil))) p hq⟩
    · rw [if_neg c] at p; exact False.elim p
theorem mt_findX : MtR X "str.find" (rM L .find) := by
  intro pins s σ H x xs v us Q I rx rxs hq
  obtain ⟨φ, h, v', vs, R, vv, rs, p⟩ := hq
  match v', vs, vv, rs, p with
  | .str z, [.str y], vv, rs, p =>
    simp only [mtsem] at p
    obtain ⟨u, rfl, r2⟩ := rs.one
    exact mt_find pins s σ H _ _ v us Q I rx rxs ⟨z, y, vv.strI, by rw [r2.strI], Post.here R (.int _) p⟩
theorem mt_upperX : MtR X "str.upper" (rM L .upper) := by
  intro pins s σ H x xs v us Q I rx rxs hq
  obtain ⟨φ, h, v', vs, R, vv, rs, p⟩ := hq
  match v', vs, vv, rs, p with
  | .str z, [], vv, rs, p =>
    simp only [mtsem] at p
    by_cases c : z.length ≤ 5592405
    · rw [if_pos c] at p
      exact mt_upper pins s σ H _ _ v us Q I rx rxs ⟨z, vv.strI, by cases rs; rfl, c, Post.here R (.str _) p⟩
    · rw [if_neg c] at p; exact False.elim p
end
end Mn
/-! Mini: the translator from PySem's syntax -/
namespace Mn
open PySem PySem.Spec PyProof.Rows L2

noncomputable def toS (x : Str) : String := String.ofList (x.cps.toList.map Char.ofNat)
/-- a name, as a String that is it -/
noncomputable def nmS (x : Str) : Option String := if Str.ofString (toS x) = x then some (toS x) else none
theorem nmS_ok {x : Str} {n : String} (h : nmS x = some n) : Str.ofString n = x := by
  unfold nmS at h
  by_cases c : Str.ofString (toS x) = x
  · rw [if_pos c] at h; cases h; exact c
  · rw [if_neg c] at h; cases h
/-- the names that a program has, and what they are -/
structure Tb where
  fns : List String
  cls : List String
  glb : List String
  isi : List String
  own : List String
  mks : List String
  cm : List ((String × String) × String)
  dfl : List ((String × Nat) × List Val) := []
  /-- defs that are called where what they raise has no context -/
  nfn : List String := []
  /-- the mode: what is raised has no context -/
  nc : Bool := false
/-- what a method's defaults fill up: by its name and how many arguments are written -/
noncomputable def dflE (tb : Tb) (s : String) (n : Nat) : List E := ((tb.dfl.lookup (s, n)).getD []).map E.con
noncomputable def idxN (N : List Str) (x : Str) : Option Nat := N.findIdx? (· == x)
theorem idxN_ok {N : List Str} {x : Str} {i : Nat} (h : idxN N x = some i) : N[i]? = some x := by
  unfold idxN at h
  obtain ⟨h1, h2, _⟩ := List.findIdx?_eq_some_iff_getElem.mp h
  rw [List.getElem?_eq_getElem h1]
  simpa using h2
/-- the forms that are taken -/
noncomputable def okE : Expr → Bool
  | .Name _ _ => true
  | .Constant _ _ _ => true
  | .BinOp _ _ _ _ => true
  | .UnaryOp _ _ _ => true
  | .BoolOp _ _ _ => true
  | .Compare _ _ _ _ => true
  | .List _ _ => true
  | .Tuple _ _ _ => true
  | .Dict _ _ _ => true
  | .Subscript _ _ _ => true
  | .Call _ _ _ _ => true
  | .Attribute _ _ _ => true
  | .ListComp _ _ _ _ => true
  | .JoinedStr _ _ => true
  | _ => false
/-- a base of an attribute -/
noncomputable def okB : Expr → Bool
  | .Name _ _ => true
  | .Constant _ _ _ => true
  | .Subscript _ _ _ => true
  | .Attribute _ _ _ => true
  | .BinOp _ _ _ _ => true
  | .Call (.Attribute _ _ _) _ _ _ => true
  | .Call (.Name _ _) (_ :: _) _ _ => true
  | .ListComp _ _ _ _ => true
  | .List _ _ => true
  | _ => false
noncomputable def spC (x : Str) : Bool := !(x == "__debug__") && !(x == "__classdict__") && !(x == "__name__")
noncomputable def biOf : String → Option Bi
  | "len" => some .len
  | "max" => some .max
  | "min" => some .min
  | "int" => some .int
  | "str" => some .str
  | "tuple" => some .tuple
  | "list" => some .list
  | "sum" => some .sum
  | "all" => some .all
  | "dict" => some .dict
  | _ => none
noncomputable def mtOf : String → Nat → Option Mt
  | "append", 1 => some .append
  | "extend", 1 => some .extend
  | "pop", 0 => some .pop
  | "pop", 1 => some .popAt
  | "clear", 0 => some .clear
  | "bit_length", 0 => some .bitlen
  | "index", 1 => some .index
  | "insert", 2 => some .insert
  | "join", 1 => some .join
  | "split", 1 => some .split
  | "partition", 1 => some .partition
  | "find", 1 => some .find
  | "upper", 0 => some .upper
  | "get", 1 => some .get
  | "get", 2 => some .get2
  | _, _ => none
noncomputable def trK (c : Const) : Option Val := match c with
  | .int i => some (.int i)
  | .bool b => some (.bl b)
  | .none => some .non
  | .str s => some (.str s)
  | _ => none
noncomputable def gl (sc : Scope) (x : Str) : Bool := decide (sc.names.lookup x = some .globalImplicit)
/-- C.m, a def of the class C, called by the class -/
noncomputable def cmOf (tb : Tb) (sc : Scope) (o : Expr) (m : Str) : Option String := match o with
  | .Name x _ => if (gl sc x && spC x) = true then match nmS x, nmS m with
    | some c, some s => tb.cm.lookup (c, s)
    | _, _ => none
    else none
  | _ => none
noncomputable def trTg (blk : Bool) (N : List Str) (sc : Scope) : Expr → Option Nat
  | .Name x _ => match sc.names.lookup x with
    | some .local => idxN N x
    | some .cell => if blk then none else idxN N x
    | _ => none
  | _ => none
noncomputable def trT (blk : Bool) (N : List Str) (sc : Scope) : Expr → Option Tg
  | .Name x p => (trTg blk N sc (.Name x p)).map .nm
  | .Tuple es _ _ => (mapO (trTg blk N sc) es).map .tp
  | _ => none
noncomputable def tgIn (own : List Nat) : Tg → Bool
  | .nm i => own.contains i
  | .tp js => js.all own.contains
noncomputable def isTup : Expr → Bool
  | .Tuple _ _ _ => true
  | _ => false
/-- the own names of a comprehension's block, with their slots -/
noncomputable def ownOf (N : List Str) (scope : Scope) : List (Str × Nat) := scope.names.filterMap fun (n, k) => match k with
  | .local | .cell => (idxN N n).map fun i => (n, i)
  | _ => none
noncomputable def relS' (scope sc : Scope) : Scope := relS scope sc

noncomputable def isDsp : Expr → Bool
  | .List _ _ => true
  | _ => false
noncomputable def itName (x : Str) (args : List Expr) (tg : Expr) : Option ItK :=
  match toS x, args with
  | "range", _ => if args.length = 1 ∨ args.length = 2 ∨ args.length = 3 then some .rng else none
  | "enumerate", [_] => if isTup tg = true then some .enm else none
  | "zip", [_, b] => if isTup tg = true then (if isDsp b = true then some .zpx else some .zip) else none
  | "reversed", [_] => some .rev
  | _, _ => none

/-- list(reversed(x)), list(range(..)) -/
noncomputable def lofOf (sc : Scope) : List Expr → Option (ItK × List Expr)
  | [.Call (.Name g _) args [] _] => if gl sc g = true then match args with
      | [_] => if g = Str.ofString "reversed" then some (.rev, args) else if g = Str.ofString "range" then some (.rng, args) else none
      | [_, _] => if g = Str.ofString "range" then some (.rng, args) else if g = Str.ofString "zip" then some (.zip, args) else none
      | _ => none
    else none
  | _ => none
/-- the parts of an f-string: texts and names -/
noncomputable def trJ (N : List Str) (sc : Scope) : List Expr → Option (List E)
  | [] => some []
  | .Constant (.str s) _ _ :: r => (trJ N sc r).map fun es => .con (.str s) :: es
  | .FormattedValue (.Name x _) (-1) none _ :: r => if (spC x && decide (sc.names.lookup x = some .local)) = true then match idxN N x, trJ N sc r with
      | some i, some es => some (.var i :: es)
      | _, _ => none
    else none
  | _ => none
/-- c.index(..), c a constant -/
noncomputable def gixOf (tb : Tb) (sc : Scope) (o : Expr) (m : Str) : Option String := match o with
  | .Name x _ => if (decide (m = Str.ofString "index") && gl sc x && spC x) = true then match nmS x with
      | some s => if tb.glb.contains s = true then some s else none
      | none => none
    else none
  | _ => none
mutual
noncomputable def trE (tb : Tb) : Nat → Bool → List Str → Scope → Expr → Option E
  | 0, _, _, _, _ => none
  | n + 1, blk, N, sc, e => match e with
    | .Name x _ => if spC x = true then match sc.names.lookup x with
        | some .local => (idxN N x).map .var
        | some .cell => (idxN N x).map .var
        | some .free => (idxN N x).map .var
        | some .globalImplicit => match nmS x with
          | some s => if tb.glb.contains s = true then some (.glb s) else none
          | none => none
        | _ => none
      else none
    | .Constant c _ _ => (trK c).map .con
    | .BinOp a op b _ => match trE tb n blk N sc a, trE tb n blk N sc b with
      | some x, some y => some (.bin op x y)
      | _, _ => none
    | .UnaryOp .Not a _ => (trE tb n blk N sc a).map .not
    | .UnaryOp .USub a _ => (trE tb n blk N sc a).map .neg
    | .BoolOp op (a :: r) _ => trBool tb n blk N sc op a r
    | .Compare a [op] [b] _ => match trE tb n blk N sc a, trE tb n blk N sc b with
      | some x, some y => match op, b with
        | .Is, .Constant .none _ _ => some (.isN x)
        | .IsNot, .Constant .none _ _ => some (.notN x)
        | .Is, .Constant (.bool c) _ _ => some (.isB x c)
        | .IsNot, .Constant (.bool c) _ _ => some (.not (.isB x c))
        | .Is, _ => none
        | .IsNot, _ => none
        | _, _ => some (.cmp op x y)
      | _, _ => none
    | .Compare a [o1, o2] [b, c] _ => match trE tb n blk N sc a, trE tb n blk N sc b, trE tb n blk N sc c with
      | some x, some y, some z => match o1, o2 with
        | .LtE, .LtE => some (.chn .LtE .LtE x y z)
        | _, _ => none
      | _, _, _ => none
    | .List es _ => (trEs tb n blk N sc es).map .lst
    | .Tuple es _ _ => (trEs tb n blk N sc es).map .tup
    | .Subscript a (.Slice lo hi none _) _ => match trE tb n blk N sc a, trO tb n blk N sc lo, trO tb n blk N sc hi with
      | some x, some l, some u => some (.slc x l u)
      | _, _, _ => none
    | .Subscript a i _ => match trE tb n blk N sc a, trE tb n blk N sc i with
      | some x, some y => some (.idx x y)
      | _, _ => none
    | .Call (.Name f _) args [] _ => if (gl sc f && spC f) = true then match nmS f with
        | none => none
        | some s => if tb.fns.contains s = true then (trEs tb n blk N sc args).map (.call s)
          else if tb.mks.contains s = true then (trEs tb n blk N sc args).map (.new s)
          else if tb.cls.contains s = true then none
          else if s = "isinstance" then match args with
            | [a, .Name t _] => match trE tb n blk N sc a, nmS t with
              | some x, some ts => if (gl sc t && spC t && tb.isi.contains ts) = true then some (.isi x ts) else none
              | _, _ => none
            | _ => none
          else match (if s = "list" then lofOf sc args else none) with
            | some (k, as) => match as with
              | [a] => (trE tb n blk N sc a).map fun x => .lof k [x]
              | [a, b] => match trE tb n blk N sc a, trE tb n blk N sc b with
                | some x, some y => if okE b = true then some (.lof k [x, y]) else none
                | _, _ => none
              | _ => none
            | none => match biOf s, args, trEs tb n blk N sc args with
              | some b, _ :: _, some es => some (.bi b es)
              | _, _, _ => none
      else none
    | .Call (.Attribute o m ap) args [] cp => if (okB o && (ap.endLine == cp.line) && decide (args.length < 20)) = true then match cmOf tb sc o m with
      | some f => (trEs tb n blk N sc args).map (.call f)
      | none => match gixOf tb sc o m with
       | some g => match args with
        | [a] => (trE tb n blk N sc a).map (.gix g)
        | _ => none
       | none => match nmS m, trE tb n blk N sc o, trEs tb n blk N sc args with
        | some s, some x, some es => if tb.own.contains s = true then some (.own s x (es ++ dflE tb s es.length)) else match mtOf s args.length with
          | some mt => some (.mth mt x es)
          | none => none
        | _, _, _ => none
      else none
    | .Attribute o f _ => if okB o = true then match nmS f, trE tb n blk N sc o with
        | some s, some x => some (.fld x s)
        | _, _ => none
      else none
    | .ListComp elt [⟨tg, iter, ifs, 0⟩] scope _ =>
      if (blkC N sc scope (ownOf N scope)) = true then
        match trI tb n blk N sc tg iter, trT true N (relS scope sc) tg, trE tb n true N (relS scope sc) elt with
        | some (k, es), some t, some x => if tgIn ((ownOf N scope).map (·.2)) t = true then match ifs with
          | [] => some (.cmp1 ((ownOf N scope).map (·.2)) x t k es none)
          | [c] => match trE tb n true N (relS scope sc) c with
            | some y => some (.cmp1 ((ownOf N scope).map (·.2)) x t k es (some y))
            | none => none
          | _ => none
          else none
        | _, _, _ => none
      else none
    | .Dict [] [] _ => some (.dct [] [])
    | .JoinedStr (a :: b :: r) _ => (trJ N sc (a :: b :: r)).map .fst
    | _ => none
noncomputable def trEs (tb : Tb) : Nat → Bool → List Str → Scope → List Expr → Option (List E)
  | 0, _, _, _, _ => none
  | n + 1, blk, N, sc, es => match es with
    | [] => some []
    | e :: r => match trE tb n blk N sc e, trEs tb n blk N sc r with
      | some x, some xs => some (x :: xs)
      | _, _ => none
noncomputable def trO (tb : Tb) : Nat → Bool → List Str → Scope → Option Expr → Option (Option E)
  | 0, _, _, _, _ => none
  | n + 1, blk, N, sc, o => match o with
    | none => some none
    | some e => (trE tb n blk N sc e).map some
noncomputable def trBool (tb : Tb) : Nat → Bool → List Str → Scope → BoolOp → Expr → List Expr → Option E
  | 0, _, _, _, _, _, _ => none
  | n + 1, blk, N, sc, op, a, r => match r with
    | [] => trE tb n blk N sc a
    | b :: r' => match trE tb n blk N sc a, trBool tb n blk N sc op b r' with
      | some x, some y => match op with
        | .And => some (.and x y)
        | .Or => some (.or x y)
      | _, _ => none
noncomputable def trI (tb : Tb) : Nat → Bool → List Str → Scope → Expr → Expr → Option (ItK × List E)
  | 0, _, _, _, _, _ => none
  | n + 1, blk, N, sc, tg, e => match e with
    | .Call (.Name f p) args [] cp => if gl sc f = true then match itName f args tg with
        | some k => match nmS f with
          | none => none
          | some _ => (trEs tb n blk N sc args).map fun es => (k, es)
        | none => (trE tb n blk N sc (.Call (.Name f p) args [] cp)).map fun x => (.val, [x])
      else none
    | .Call (.Attribute o m ap) [] [] cp => if (okB o && (ap.endLine == cp.line) && isTup tg && decide (m = Str.ofString "items")) = true then (trE tb n blk N sc o).map fun x => (.itm, [x])
      else (trE tb n blk N sc (.Call (.Attribute o m ap) [] [] cp)).map fun x => (.val, [x])
    | e => (trE tb n blk N sc e).map fun x => (.val, [x])
end
end Mn
/-! Mini: side conditions of the rules, calls -/
namespace Mn
open PySem PySem.Spec PyProof.Rows L2

theorem okE_star {e : Expr} (h : okE e = true) (es : List Expr) (env : Env) : starEach (e :: es) env = (false, eval e env) :: starEach es env := by
  cases e <;> first | rfl | exact absurd h (by simp [okE])
theorem okEs_any : ∀ {es : List Expr} (h : es.all okE = true) (env : Env) (pos : Pos), (backTo pos (starEach es env)).any (·.1) = false
  | [], _, _, _ => rfl
  | e :: es, h, env, pos => by
    simp only [List.all_cons, Bool.and_eq_true] at h
    rw [okE_star h.1]
    have ih := okEs_any h.2 env pos
    unfold backTo at ih ⊢
    simp only [List.map_cons, List.any_cons]
    rw [ih]; rfl
theorem okEs_all : ∀ {es : List Expr} (h : es.all okE = true) (env : Env) (pos : Pos), (backTo pos (starEach es env)).all (fun x => !x.1) = true
  | [], _, _, _ => rfl
  | e :: es, h, env, pos => by
    simp only [List.all_cons, Bool.and_eq_true] at h
    rw [okE_star h.1]
    have ih := okEs_all h.2 env pos
    unfold backTo at ih ⊢
    simp only [List.map_cons, List.all_cons]
    rw [ih]; rfl
theorem okB_base {o : Expr} (h : okB o = true) (name : Str) (env : Env) : attributeBase o name env (eval o env) = eval o env := by
  cases o with
  | Call f as ks p =>
    cases f with
    | Attribute _ _ _ => rfl
    | Name _ _ =>
      cases as with
      | nil => cases h
      | cons _ _ => rfl
    | _ => cases h
  | _ => first | rfl | cases h
theorem okE_plainIx {e : Expr} (h : okE e = true) : PlainIx e := fun _ _ => by
  cases e <;> first | rfl | exact absurd h (by simp [okE])
theorem okE_notSwap {e : Expr} (h : okE e = true) (hl : ∀ a b c d, e ≠ .ListComp a b c d) (t : Option Expr) (l : Nat) (env : Env) : swapsWith e t l env = pure false := by
  cases e <;> first | rfl | (exact absurd rfl (hl _ _ _ _)) | exact absurd h (by simp [okE])
theorem okE_folded {e : Expr} (h : okE e = true) (env : Env) (x : Value) : foldedSetIterable e env x = pure x := by
  cases e <;> first | rfl | exact absurd h (by simp [okE])
theorem okE_nomark {e : Expr} (h : okE e = true) (op : CmpOp) : behindInMarks op e = false := by
  cases e <;> first | rfl | exact absurd h (by simp [okE])

section
variable {X : Cx} {CX : CXT} {k : Nat} {f C : Addr} {fd : FuncData} {ps : List Str} {sp : Sp} {E : L2.St → XK} {x m : Str} {p pos apos : Pos} {o : Expr} {es : List Expr} {ta : TE} {t : TA}
/-- f(..), any number of arguments; what is raised is wished for at the caller's slots -/
theorem pe_callU0 (F : FnOk X.prog X.w X.K X.mg X.base CX k f fd ps sp) (hr : Room k X.A) (hg : Gl X x) (hm : X.mg x = some (.ref f)) (hk : PySem.W.keepIn X.K (.ref f) = true) (hb : Binds X.K fd ps []) (hx : ∀ σ, PassesAt CX X σ (E σ))
    (hdb : (x == ("__debug__" : Str)) = false) : PE X (.Call (.Name x p) [] [] pos) (tCallS sp E tNil) := by
  refine ⟨fun pins s σ H Q I h => ?_⟩
  refine wpAny_Call_Name_kw (ld_glob I hg hm ?_ hdb)
  exact PySem.W.callWith_K0 I.kIn hk (run_fnS (us := []) F hr hb (hx σ) I .nil h)
end
end Mn
/-! Mini: expressions, construct by construct -/
namespace Mn
open PySem PySem.Spec PyProof.Rows L2

/-- the promise of a def whose run Mini is g -/
noncomputable def spOf (L : Lk) (g : List Val → MH → Res Val) (np : Nat) : Sp := fun vs H Q E => vs.length = np ∧ ∃ φ h ms, Rel L φ h H ∧ VRs L φ H ms vs ∧ Post L φ H (vR L) (g ms h) Q E
/-- the type of a value, as isinstance asks for it -/
noncomputable def tyV' (L : Lk) (c : String) : Value := match L.exc c with
  | some C => .ref C
  | none => match L.cls c with
    | some C => .ref C
    | none => .type c
/-- __init__ of an exception's class, which stores its argument at f -/
noncomputable def spEx (C : Addr) (f : Str) : Sp := fun vs H Q _ => ∃ a v, vs = [.ref a, v] ∧ H a = some (exo a C none) ∧ ∀ dx, H dx = none → dx ≠ a → Q .non (upd (upd H dx (exd dx [(f, v)])) a (exo a C (some dx)))
def veTl : List Value := [.type "ValueError", .type "Exception", .type "BaseException", .type "object"]
/-- what a call may let out, by the mode -/
noncomputable def CXb (b : Bool) (P : Program) (w : World) : CXT := match b with
  | false => L2.CX P w
  | true => L2N.CX P w
noncomputable def Takb (b : Bool) (X : Cx) (W : WX) : Prop := match b with
  | false => L2.Takes X W
  | true => L2N.Takes X W
theorem passB {b : Bool} {X : Cx} {W : WX} (tk : Takb b X W) (σ : L2.St) : PassesAt (CXb b X.prog X.w) X σ (WE W σ) := match b, tk with
  | false, tk => L2.passAt tk σ
  | true, tk => L2N.passAt tk σ
theorem Takb.off {b : Bool} {X : Cx} {W : WX} (tk : Takb b X W) (h : b = false) : L2.Takes X W := by
  subst h; exact tk
theorem Takb.on {b : Bool} {X : Cx} {W : WX} (tk : Takb b X W) (h : b = true) : L2N.Takes X W := by
  subst h; exact tk
/-- around a body nothing is let out -/
theorem takb0 {b : Bool} {X : Cx} : Takb b X (fun _ _ _ _ => False) := match b with
  | false => L2.takes0
  | true => fun _ _ x => by
    obtain ⟨_, _, _, _, _, _, _, _, _, _, _, _, _, _, _, _, z⟩ := x
    exact z.elim
theorem takb_of {b : Bool} {X : Cx} {W : WX} (h : b = false) (tk : L2.Takes X W) : Takb b X W := by
  subst h; exact tk
/-- how an exception's class is called -/
noncomputable def ExMk (prog : Program) (w : World) (K : PySem.W.Frag) (mg : Str → Option Value) (base : Heap) (k : Nat) (C : Addr) : Option String → Prop
  | none => PySem.W.excIn K C veTl "ValueError.__new__" = true
  | some f => OexC K C ∧ PySem.W.findIn K (.ref C) (Str.ofString f) = some none ∧ ∃ fI fd ps, PySem.W.findIn K (.ref C) "__init__" = some (some (.ref fI)) ∧ PySem.W.typeIn K (.ref fI) = some (.type "function") ∧ Binds K fd ps [] ∧ (∀ CX, FnOk prog w K mg base CX k fI fd ps (spEx C (Str.ofString f))) ∧ ∀ CX, L2H.FnH prog w K mg base CX k fI fd ps (spEx C (Str.ofString f))
noncomputable def isTy (c : String) : Bool := ["NoneType", "bool", "int", "str", "tuple", "list", "dict"].contains c
noncomputable def bltNames : List String := ["range", "enumerate", "zip", "reversed", "len", "max", "min", "int", "str", "tuple", "list", "sum", "all", "isinstance", "dict"]
structure PrOk (tb : Tb) (L : Lk) (P : Pg) (k : Nat) (prog : Program) (w : World) (mg : Str → Option Value) (base : Heap) : Prop where
  glb : ∀ x, tb.glb.contains x = true → ∃ v u y, P.glb x = some v ∧ mg (Str.ofString x) = some u ∧ RelV y u ∧ (∀ φ H, VR L φ H v y) ∧ ∀ a, u = .ref a → ∃ o, L.K.lookup a = some o ∧ o.cls = .type "tuple" ∧ o.dict = none
  fns : ∀ f, tb.fns.contains f = true → ∃ a fd ps, mg (Str.ofString f) = some (.ref a) ∧ PySem.W.keepIn L.K (.ref a) = true ∧ Binds L.K fd ps [] ∧ FnOk prog w L.K mg base (CXb tb.nc prog w) k a fd ps (spOf L (P.cf f) ps.length) ∧
    ∀ ms h, P.cf f ms h ≠ .bad → ms.length = ps.length
  nfn : tb.nc = false → ∀ f, tb.nfn.contains f = true → ∃ a fd ps, mg (Str.ofString f) = some (.ref a) ∧ PySem.W.keepIn L.K (.ref a) = true ∧ Binds L.K fd ps [] ∧ FnOk prog w L.K mg base (L2N.CX prog w) k a fd ps (spOf L (P.bare f) ps.length) ∧
    ∀ ms h, P.bare f ms h ≠ .bad → ms.length = ps.length
  isi : ∀ t, tb.isi.contains t = true → ∃ (c : V) (u : Value), ((∃ T, c = .ty T ∧ u = .type T ∧ mg (Str.ofString t) = none ∧ bootBuiltins (Str.ofString t) = some (.type T)) ∨ ∃ C, c = .ref C ∧ u = .ref C ∧ mg (Str.ofString t) = some (.ref C)) ∧
    ∀ cl b, P.sub cl t = some b → PySem.W.kitOne L.K (tyV' L cl) u = some b
  noTy : ∀ c, isTy c = true → L.cls c = none ∧ L.exc c = none
  sep : ∀ c C, L.cls c = some C → L.exc c = none
  exk : ∀ c C, L.exc c = some C → ExK L.K C
  exm : ∀ c t b, P.exm c t = some b → ∃ C, mg (Str.ofString t) = some (.ref C) ∧ ∀ D, L.exc c = some D → PySem.W.exmOne L.K (.ref D) (.ref C) = some b
  exn : tb.nc = true → ∀ c o, P.exi c = some o → o = none
  exi : ∀ c o, P.exi c = some o → ∃ C, L.exc c = some C ∧ mg (Str.ofString c) = some (.ref C) ∧ PySem.W.keepIn L.K (.ref C) = true ∧ PySem.W.subIn L.K (.ref C) (.type "BaseException") = some true ∧ PySem.W.typeIn L.K (.ref C) = some (.type "type") ∧ ExMk prog w L.K mg base k C o
  insTy : ∀ c C, L.cls c = some C → ∀ (H : Hp) (a dx : Addr) (fs : List (Str × V)), H a = some (.ins C dx fs) → TyX L.K H (.ref a) (.ref C)
  blt : ∀ b, bltNames.contains b = true → mg (Str.ofString b) = none
  mro : ∀ c m f, P.mro c m = some f → ∃ C a fd ps, L.cls c = some C ∧ Cls L.K C ∧ Meth L.K C (Str.ofString m) a ∧ Binds L.K fd ps [] ∧ FnOk prog w L.K mg base (CXb tb.nc prog w) k a fd ps (spOf L (P.cf f) ps.length) ∧
    ∀ ms h, P.cf f ms h ≠ .bad → ms.length = ps.length
  own : ∀ m, tb.own.contains m = true → ∃ c f, P.mro c m = some f
  dfl : ∀ m n cs, tb.dfl.lookup (m, n) = some cs → ∀ c f, P.mro c m = some f → ∃ C a fd ps ds dvs, L.cls c = some C ∧ Cls L.K C ∧ Meth L.K C (Str.ofString m) a ∧ Vals dvs ds ∧ (∀ φ H, VRs L φ H cs dvs) ∧ Binds L.K fd ps ds ∧ FnOk prog w L.K mg base (CXb tb.nc prog w) k a fd ps (spOf L (P.cf f) ps.length) ∧
    ∀ ms h, P.cf f ms h ≠ .bad → ms.length = ps.length
  mks : ∀ c, tb.mks.contains c = true → ∃ C a f, L.cls c = some C ∧ mg (Str.ofString c) = some (.ref C) ∧ Mk L.K C a ∧ P.mro c "__init__" = some f
  flds : ∀ c f, (P.flds c).contains f = true → ∃ C, L.cls c = some C ∧ Cls L.K C ∧ NoAttr L.K C (Str.ofString f)
  cm : ∀ c m f, tb.cm.lookup (c, m) = some f → ∃ C mc a fd ps, mg (Str.ofString c) = some (.ref C) ∧ ClX.CRead L.K C mc ∧ PySem.W.findCls L.K (.ref C) mc (Str.ofString m) = some (.val (.ref a)) ∧ PySem.W.keepIn L.K (.ref a) = true ∧ Binds L.K fd ps [] ∧ FnOk prog w L.K mg base (CXb tb.nc prog w) k a fd ps (spOf L (P.cf f) ps.length) ∧
    ∀ ms h, P.cf f ms h ≠ .bad → ms.length = ps.length
/-- within a try: none of its kind stands there -/
noncomputable def deepT (tb : Tb) : Tb := { tb with nfn := [] }
theorem deep_ok {tb : Tb} {L : Lk} {P : Pg} {k : Nat} {prog : Program} {w : World} {mg : Str → Option Value} {base : Heap} (O : PrOk tb L P k prog w mg base) : PrOk (deepT tb) L P k prog w mg base :=
  ⟨O.glb, O.fns, (fun _ f h => by cases h), O.isi, O.noTy, O.sep, O.exk, O.exm, O.exn, O.exi, O.insTy, O.blt, O.mro, O.own, O.dfl, O.mks, O.flds, O.cm⟩
/-- the mode in which what is raised has no context -/
noncomputable def bareT (tb : Tb) : Tb := { tb with nc := true, fns := tb.nfn, nfn := [], own := [], mks := [], cm := [], dfl := [] }
noncomputable def bareP (P : Pg) : Pg := { P with cf := P.bare, mro := fun _ _ => none, exi := fun c => if P.exi c = some none then some none else none, bare := fun _ _ _ => .bad }
theorem bare_ok {tb : Tb} {L : Lk} {P : Pg} {k : Nat} {prog : Program} {w : World} {mg : Str → Option Value} {base : Heap} (nc : tb.nc = false) (O : PrOk tb L P k prog w mg base) : PrOk (bareT tb) L (bareP P) k prog w mg base := by
  have ex : ∀ c o, (bareP P).exi c = some o → o = none ∧ P.exi c = some none := fun c o h => by
    have h' : (if P.exi c = some none then some none else none) = some o := h
    by_cases z : P.exi c = some none
    · rw [if_pos z] at h'; cases h'; exact ⟨rfl, z⟩
    · rw [if_neg z] at h'; cases h'
  refine ⟨O.glb, O.nfn nc, (fun h => by cases h), O.isi, O.noTy, O.sep, O.exk, O.exm, (fun _ c o h => (ex c o h).1), (fun c o h => ?_), O.insTy, O.blt, (fun _ _ _ h => by cases h), (fun _ h => by cases h), (fun _ _ _ h => by cases h), (fun _ h => by cases h), O.flds, (fun _ _ _ h => by cases h)⟩
  obtain ⟨rfl, z⟩ := ex c o h
  exact O.exi c none z
structure Sy (tb : Tb) (L : Lk) (P : Pg) (k : Nat) (X : Cx) (blk : Bool) (N : List Str) (sc : Scope) (W : WX) : Prop where
  hK : X.K = L.K
  hN : X.N = N
  nd : N.Nodup
  hsc : X.env.scope = sc
  tk : Takb tb.nc X W
  fnc : blk = false → ∀ x, X.fn x = true
  pr : PrOk tb L P k X.prog X.w X.mg X.base

structure Sx (tb : Tb) (L : Lk) (P : Pg) (k : Nat) (X : Cx) (blk : Bool) (N : List Str) (sc : Scope) (W : WX) : Prop extends Sy tb L P k X blk N sc W where
  room : Room (k + 1) X.A
  calm : X.calm = true

section
variable {tb : Tb} {L : Lk} {P : Pg} {k : Nat} {X : Cx} {blk : Bool} {N : List Str} {sc : Scope} {W : WX}
theorem Sx.rm (S : Sx tb L P k X blk N sc W) : Room k X.A := S.room.mono (Nat.le_succ k)
theorem Sx.units (S : Sx tb L P k X blk N sc W) : X.A.units + 64 < cLine := S.room.units
theorem Sx.units65 (S : Sx tb L P k X blk N sc W) : X.A.units + 65 < cLine := by have := S.room.un; omega
theorem Sy.gl (S : Sy tb L P k X blk N sc W) {x : Str} (h : gl sc x = true) : Gl X x := by
  unfold Gl
  show X.env.scope.names.lookup x = _
  rw [S.hsc]
  exact of_decide_eq_true h

theorem pe_con {v : Val} {c : Const} {j : Nat} {pos : Pos} (e : trK c = some v) : PE X (.Constant c j pos) (tM L P W (.con v)) := by
  cases c <;> first | (cases e; done) | skip
  all_goals cases e
  · exact PE.weak pe_non fun σ H Q ⟨φ, h, ρ, R, En, p⟩ => by simp only [evE] at p; exact Post.here R .non p
  · exact PE.weak pe_bl fun σ H Q ⟨φ, h, ρ, R, En, p⟩ => by simp only [evE] at p; exact Post.here R (.bl _) p
  · exact PE.weak pe_int fun σ H Q ⟨φ, h, ρ, R, En, p⟩ => by simp only [evE] at p; exact Post.here R (.int _) p
  · exact PE.weak pe_str fun σ H Q ⟨φ, h, ρ, R, En, p⟩ => by simp only [evE] at p; exact Post.here R (.str _) p
theorem pe_varM (S : Sy tb L P k X blk N sc W) {x : Str} {i : Nat} {pos : Pos} (hi : idxN N x = some i) (hv : Vis sc x) (hc : spC x = true) : PE X (.Name x pos) (tM L P W (.var i)) := by
  have hc' := hc
  unfold spC at hc'
  simp only [Bool.and_eq_true, Bool.not_eq_true'] at hc'
  refine PE.weak (pe_var (i := i) (by rw [S.hN]; exact idxN_ok hi) (by rw [S.hsc]; exact hv) hc'.1.1 hc'.1.2) fun σ H Q ⟨φ, h, ρ, R, En, p⟩ => ?_
  simp only [evE, getV] at p
  cases e : ρ[i]? with
  | none => rw [e] at p; exact False.elim p
  | some o =>
    cases o with
    | none => rw [e] at p; exact False.elim p
    | some v =>
      rw [e] at p
      obtain ⟨y, h1, h2⟩ := En.get i v e
      exact ⟨y, h1, Post.here R h2 p⟩
theorem pe_glbM (S : Sx tb L P k X blk N sc W) {s : String} {pos : Pos} (hg : Mn.gl sc (Str.ofString s) = true) (hb : tb.glb.contains s = true) (hc : spC (Str.ofString s) = true) : PE X (.Name (Str.ofString s) pos) (tM L P W (.glb s)) := by
  obtain ⟨v, u, y, e1, e2, e3, e4, _⟩ := S.pr.glb s hb
  unfold spC at hc
  simp only [Bool.and_eq_true, Bool.not_eq_true'] at hc
  refine PE.weak (pe_glob (S.gl hg) e2 e3 hc.1.1) fun σ H Q ⟨φ, h, ρ, R, En, p⟩ => ?_
  simp only [evE, e1, retO] at p
  exact Post.here R (e4 φ H) p
/-- two operands, then something by values -/
theorem two_of {a b : E} {f : Val → Val → MH → Res Val} {r : R2} {σ : L2.St} {H : Hp} {Q : VK} (ho : ∀ x y H Q, rOp L f x y H Q → r x y H Q) (hf : ∀ v w h c fs h', f v w h ≠ .err c fs h') {e : E} (he : ∀ ρ h, evE P e ρ h = (evE P a ρ h).bind fun x h1 => (evE P b ρ h1).bind fun y h2 => f x y h2)
    (q : tM L P W e σ H Q) : tOp r (tM L P W a) (tM L P W b) σ H Q := by
  obtain ⟨φ, h, ρ, R, En, p⟩ := q
  rw [he] at p
  refine ⟨φ, h, ρ, R, En, (Post.bind (rel0 := vR L) p).imp fun x H1 ⟨φ1, h1, v, E1, R1, r1, p1⟩ => ?_⟩
  refine ⟨φ1, h1, ρ, R1, En.mono E1, (Post.bind (rel0 := vR L) p1).imp fun y H2 ⟨φ2, h2, w, E2, R2, r2, p2⟩ => ho _ _ _ _ ?_⟩
  refine ⟨φ2, h2, v, w, R2, r1.mono E2, r2, ?_⟩
  cases e : f v w h2 with
  | ok m h3 => rw [e] at p2; exact p2
  | err c fs h3 => exact absurd e (hf _ _ _ _ _ _)
  | bad => rw [e] at p2; exact p2
theorem binop_noerr (op : Operator) (v w : Val) (h : MH) (c : String) (fs : List (String × Val)) (h' : MH) : binop op v w h ≠ .err c fs h' := by
  intro z
  unfold binop at z
  repeat' split at z
  all_goals cases z
theorem retO_noerr {α : Type} {o : Option α} {h : MH} {c : String} {fs : List (String × Val)} {h' : MH} : retO o h ≠ .err c fs h' := by
  intro z
  cases o <;> cases z
theorem cmpop_noerr (op : CmpOp) (v w : Val) (h : MH) (c : String) (fs : List (String × Val)) (h' : MH) : cmpop op v w h ≠ .err c fs h' := by
  intro z
  unfold cmpop at z
  repeat' split at z
  all_goals first | (cases z; done) | exact retO_noerr z
theorem index_noerr (v w : Val) (h : MH) (c : String) (fs : List (String × Val)) (h' : MH) : index v w h ≠ .err c fs h' := by
  intro z
  unfold index at z
  repeat' split at z
  all_goals first | (cases z; done) | exact retO_noerr z
theorem pe_binM (S : Sx tb L P k X blk N sc W) {op : Operator} {a b : Expr} {x y : E} {pos : Pos} (ha : PE X a (tM L P W x)) (hb : PE X b (tM L P W y)) : PE X (.BinOp a op b pos) (tM L P W (.bin op x y)) :=
  PE.weak (pe_op (bin_all S.hK op) ha hb) fun _ _ _ q => two_of (fun _ _ _ _ z => z) (binop_noerr op) (fun ρ h => by simp only [evE]) q
theorem pe_cmpM (S : Sx tb L P k X blk N sc W) {op : CmpOp} {a b : Expr} {x y : E} {pos : Pos} (n1 : op ≠ .In) (n2 : op ≠ .NotIn) (ok : okE b = true) (ha : PE X a (tM L P W x)) (hb : PE X b (tM L P W y)) : PE X (.Compare a [op] [b] pos) (tM L P W (.cmp op x y)) :=
  PE.weak (pe_cmpR (cmp_all S.hK S.units op n1 n2) ha hb (okE_nomark ok op)) fun _ _ _ q => two_of (fun _ _ _ _ z => z) (cmpop_noerr op) (fun ρ h => by simp only [evE]) q
/-- a test of a value -/
theorem tMT_of {e : E} {t : TE} (k : ∀ σ H Q, tM L P W e σ H Q → t σ H Q) : ∀ σ H Q, tMT L P W e σ H Q → tTest t σ H Q := fun σ H Q q => k _ _ _ q
theorem pt_cmpM (S : Sx tb L P k X blk N sc W) {op : CmpOp} {a b : Expr} {x y : E} {pos : Pos} (n1 : op ≠ .In) (n2 : op ≠ .NotIn) (ok : okE b = true) (ha : PE X a (tM L P W x)) (hb : PE X b (tM L P W y)) : PT X (.Compare a [op] [b] pos) (tMT L P W (.cmp op x y)) :=
  PT.weak (pt_cmpR (cmp_all S.hK S.units op n1 n2) ha hb (okE_nomark ok op)) (tMT_of fun _ _ _ q => two_of (fun _ _ _ _ z => z) (cmpop_noerr op) (fun ρ h => by simp only [evE]) q)

/-! in -/
noncomputable def rInV (L : Lk) (neg : Bool) : R2 := fun x y H Q => ∃ φ h v w, Rel L φ h H ∧ VR L φ H v x ∧ VR L φ H w y ∧ Post L φ H (vR L) (cmpop (if neg then .NotIn else .In) v w h) Q (fun _ _ _ => False)
theorem in_all (S : Sx tb L P k X blk N sc W) (neg : Bool) : OpR X (compareOp (if neg then .NotIn else .In)) (rOp L (cmpop (if neg then .NotIn else .In))) := by
  intro pins s σ H x y v u Q I rx ry ⟨φ, h, v', w', R, vv, vw, p⟩
  have p2 : Post L φ H (vR L) (retO ((vin? h v' w').map fun b => .bl (if neg then !b else b)) h) Q (fun _ _ _ => False) := by
    cases neg with
    | false => exact p
    | true => exact p
  cases e : vin? h v' w' with
  | none => rw [e] at p2; exact False.elim p2
  | some b =>
    rw [e] at p2
    have q := Post.here R (.bl _) p2
    by_cases nd : noD h w'
    · exact vin_ok S.hK S.units65 neg I rx ry R vv vw e nd q
    · have nd2 : ∃ a ob o, w' = .ref a ∧ h[a]? = some ob ∧ askO ob v' = some o ∧ o.isSome = b := by
        refine Classical.byContradiction fun z => nd fun a e1 => ⟨fun w kvs e2 => z ?_, fun kvs e2 => z ?_⟩
        · subst e1
          simp only [vin?, e2] at e
          by_cases c : emT w kvs v' = true
          · rw [if_pos c] at e; cases e
            exact ⟨a, _, none, rfl, e2, by simp only [askO]; rw [if_pos c], rfl⟩
          · rw [if_neg c] at e
            obtain ⟨k, ek, rfl⟩ := Option.map_eq_some_iff.mp e
            exact ⟨a, _, _, rfl, e2, by simp only [askO]; rw [if_neg c, ek]; rfl, rfl⟩
        · subst e1
          simp only [vin?, e2] at e
          obtain ⟨k, ek, rfl⟩ := Option.map_eq_some_iff.mp e
          exact ⟨a, _, _, rfl, e2, by simp only [askO]; rw [ek]; rfl, rfl⟩
      obtain ⟨a, ob, o, rfl, hi, ea, rfl⟩ := nd2
      have hu : X.A.units + 1 < cLine := by have := S.units; omega
      refine ask_run I R vw vv hi ea fun p H' o' ex I' g back es _ _ => ?_
      subst ex
      cases (show u = Value.ref p from ry)
      rw [← es] at q
      cases neg with
      | false => exact d_in hu I' g rx fun s' I2 => ⟨.bl _, H, back s' I2, rfl, q⟩
      | true => exact d_notIn hu I' g rx fun s' I2 => ⟨.bl _, H, back s' I2, rfl, q⟩
theorem pe_inM (S : Sx tb L P k X blk N sc W) {neg : Bool} {a b : Expr} {x y : E} {pos : Pos} (ok : okE b = true) (ha : PE X a (tM L P W x)) (hb : PE X b (tM L P W y)) : PE X (.Compare a [if neg then .NotIn else .In] [b] pos) (tM L P W (.cmp (if neg then .NotIn else .In) x y)) :=
  PE.weak (pe_cmpR (in_all S neg) ha hb (okE_nomark ok _)) fun _ _ _ q => two_of (fun _ _ _ _ z => z) (cmpop_noerr _) (fun ρ h => by simp only [evE]) q
theorem pt_inM (S : Sx tb L P k X blk N sc W) {neg : Bool} {a b : Expr} {x y : E} {pos : Pos} (ok : okE b = true) (ha : PE X a (tM L P W x)) (hb : PE X b (tM L P W y)) : PT X (.Compare a [if neg then .NotIn else .In] [b] pos) (tMT L P W (.cmp (if neg then .NotIn else .In) x y)) :=
  PT.weak (pt_cmpR (in_all S neg) ha hb (okE_nomark ok _)) (tMT_of fun _ _ _ q => two_of (fun _ _ _ _ z => z) (cmpop_noerr _) (fun ρ h => by simp only [evE]) q)
theorem pe_cmpAll (S : Sx tb L P k X blk N sc W) {op : CmpOp} {a b : Expr} {x y : E} {pos : Pos} (ok : okE b = true) (ha : PE X a (tM L P W x)) (hb : PE X b (tM L P W y)) : PE X (.Compare a [op] [b] pos) (tM L P W (.cmp op x y)) ∧ PT X (.Compare a [op] [b] pos) (tMT L P W (.cmp op x y)) := by
  cases op
  case In => exact ⟨pe_inM (neg := false) S ok ha hb, pt_inM (neg := false) S ok ha hb⟩
  case NotIn => exact ⟨pe_inM (neg := true) S ok ha hb, pt_inM (neg := true) S ok ha hb⟩
  all_goals exact ⟨pe_cmpM S (by decide) (by decide) ok ha hb, pt_cmpM S (by decide) (by decide) ok ha hb⟩

/-! None -/
theorem isNon_ok {φ : Ph} {H : Hp} {v : Val} {x : V} (r : VR L φ H v x) : decide (x = V.non) = isNon v := by
  cases r <;> simp [isNon]
theorem isBl_ok {φ : Ph} {H : Hp} {v : Val} {x : V} {c : Bool} (r : VR L φ H v x) : decide (x = V.bl c) = isBl c v := by
  cases r <;> simp [isBl]
  rename_i b
  cases b <;> cases c <;> rfl
noncomputable def tIsB (c : Bool) (ta : TE) : TE := fun σ H Q => ta σ H fun x H1 => Q (.bl (decide (x = .bl c))) H1
theorem relv_b {x : V} {v : Value} {c : Bool} (r : RelV x v) : (v == Value.bool c) = decide (x = .bl c) := by
  cases x with
  | non => cases r; rfl
  | bl b => cases r; cases b <;> cases c <;> rfl
  | int _ => obtain ⟨t, rfl⟩ := r; rfl
  | str _ => obtain ⟨t, rfl⟩ := r; rfl
  | byt _ => obtain ⟨t, rfl⟩ := r; rfl
  | flt _ => obtain ⟨t, rfl⟩ := r; rfl
  | ref _ => cases r; rfl
  | ty _ => cases r; rfl
theorem is_boolR {M : Model} {A : Around} {E : Value → Shared → Prop} {s : Shared} {Q : Value → Shared → Prop} {x : V} {v : Value} {c : Bool} (r : RelV x v) (h : Q (.bool (v == .bool c)) s) : wpAny M A (compareOp .Is v (.bool c)) Q E s := by
  cases x with
  | non => cases r; exact wpAny_pure h
  | bl b => cases r; exact wpAny_pure h
  | int _ => obtain ⟨t, rfl⟩ := r; exact wpAny_pure h
  | str _ => obtain ⟨t, rfl⟩ := r; exact wpAny_pure h
  | byt _ => obtain ⟨t, rfl⟩ := r; exact wpAny_pure h
  | flt _ => obtain ⟨t, rfl⟩ := r; exact wpAny_pure h
  | ref _ => cases r; exact wpAny_pure h
  | ty _ => cases r; exact wpAny_pure h
theorem pc_isB {a : Expr} {ta : TE} {c : Bool} {j pos'} (ha : PE X a ta) : PC X .Is a (.Constant (.bool c) j pos') (tIsB c ta) := by
  refine ⟨fun pins s σ H Q I h => ?_⟩
  refine thn (ha.run pins s σ H _ I h) fun v s1 ⟨x, H1, I1, r1, q1⟩ => ?_
  exact Constant_bool (is_boolR r1 ⟨.bl _, H1, I1, by rw [relv_b r1]; rfl, q1⟩)
theorem isB_w {x : E} {c : Bool} {σ : L2.St} {H : Hp} {Q : VK} (q : tM L P W (.isB x c) σ H Q) : tM L P W x σ H fun y H1 => Q (.bl (decide (y = .bl c))) H1 := by
  obtain ⟨φ, h, ρ, R, En, p⟩ := q
  simp only [evE] at p
  refine ⟨φ, h, ρ, R, En, (Post.bind (rel0 := vR L) p).imp fun y H1 ⟨φ1, h1, v, E1, R1, r1, p1⟩ => ?_⟩
  rw [isBl_ok r1]
  exact Post.here R1 (.bl _) p1
theorem isnot_boolR {M : Model} {A : Around} {E : Value → Shared → Prop} {s : Shared} {Q : Value → Shared → Prop} {x : V} {v : Value} {c : Bool} (r : RelV x v) (h : Q (.bool (!(v == .bool c))) s) : wpAny M A (compareOp .IsNot v (.bool c)) Q E s := by
  cases x with
  | non => cases r; exact wpAny_pure h
  | bl b => cases r; exact wpAny_pure h
  | int _ => obtain ⟨t, rfl⟩ := r; exact wpAny_pure h
  | str _ => obtain ⟨t, rfl⟩ := r; exact wpAny_pure h
  | byt _ => obtain ⟨t, rfl⟩ := r; exact wpAny_pure h
  | flt _ => obtain ⟨t, rfl⟩ := r; exact wpAny_pure h
  | ref _ => cases r; exact wpAny_pure h
  | ty _ => cases r; exact wpAny_pure h
noncomputable def tNotB (c : Bool) (ta : TE) : TE := fun σ H Q => ta σ H fun x H1 => Q (.bl (!decide (x = .bl c))) H1
theorem pc_notB {a : Expr} {ta : TE} {c : Bool} {j pos'} (ha : PE X a ta) : PC X .IsNot a (.Constant (.bool c) j pos') (tNotB c ta) := by
  refine ⟨fun pins s σ H Q I h => ?_⟩
  refine thn (ha.run pins s σ H _ I h) fun v s1 ⟨x, H1, I1, r1, q1⟩ => ?_
  exact Constant_bool (isnot_boolR r1 ⟨.bl _, H1, I1, by rw [relv_b r1]; rfl, q1⟩)
theorem notB_w {x : E} {c : Bool} {σ : L2.St} {H : Hp} {Q : VK} (q : tM L P W (.not (.isB x c)) σ H Q) : tM L P W x σ H fun y H1 => Q (.bl (!decide (y = .bl c))) H1 := by
  obtain ⟨φ, h, ρ, R, En, p⟩ := q
  have e : evE P (.not (.isB x c)) ρ h = (evE P x ρ h).bind fun y h1 => .ok (.bl (!isBl c y)) h1 := by
    simp only [evE]
    cases evE P x ρ h <;> rfl
  rw [e] at p
  refine ⟨φ, h, ρ, R, En, (Post.bind (rel0 := vR L) p).imp fun y H1 ⟨φ1, h1, v, E1, R1, r1, p1⟩ => ?_⟩
  rw [isBl_ok r1]
  exact Post.here R1 (.bl _) p1
theorem pe_notBM {a : Expr} {x : E} {c : Bool} {j : Nat} {pos pos' : Pos} (ha : PE X a (tM L P W x)) : PE X (.Compare a [.IsNot] [.Constant (.bool c) j pos'] pos) (tM L P W (.not (.isB x c))) :=
  PE.weak (pe_cmp (pc_notB ha) rfl) fun _ _ _ q => notB_w q
theorem pt_notBM {a : Expr} {x : E} {c : Bool} {j : Nat} {pos pos' : Pos} (ha : PE X a (tM L P W x)) : PT X (.Compare a [.IsNot] [.Constant (.bool c) j pos'] pos) (tMT L P W (.not (.isB x c))) :=
  PT.weak (pt_cmp (pc_notB ha) rfl) fun _ _ _ q => notB_w q
theorem pe_isBM {a : Expr} {x : E} {c : Bool} {j : Nat} {pos pos' : Pos} (ha : PE X a (tM L P W x)) : PE X (.Compare a [.Is] [.Constant (.bool c) j pos'] pos) (tM L P W (.isB x c)) :=
  PE.weak (pe_cmp (pc_isB ha) rfl) fun _ _ _ q => isB_w q
theorem pt_isBM {a : Expr} {x : E} {c : Bool} {j : Nat} {pos pos' : Pos} (ha : PE X a (tM L P W x)) : PT X (.Compare a [.Is] [.Constant (.bool c) j pos'] pos) (tMT L P W (.isB x c)) :=
  PT.weak (pt_cmp (pc_isB ha) rfl) fun _ _ _ q => isB_w q
theorem isN_w {x : E} {σ : L2.St} {H : Hp} {Q : VK} (q : tM L P W (.isN x) σ H Q) : tM L P W x σ H fun y H1 => Q (.bl (decide (y = .non))) H1 := by
  obtain ⟨φ, h, ρ, R, En, p⟩ := q
  simp only [evE] at p
  refine ⟨φ, h, ρ, R, En, (Post.bind (rel0 := vR L) p).imp fun y H1 ⟨φ1, h1, v, E1, R1, r1, p1⟩ => ?_⟩
  rw [isNon_ok r1]
  exact Post.here R1 (.bl _) p1
theorem notN_w {x : E} {σ : L2.St} {H : Hp} {Q : VK} (q : tM L P W (.notN x) σ H Q) : tM L P W x σ H fun y H1 => Q (.bl (!decide (y = .non))) H1 := by
  obtain ⟨φ, h, ρ, R, En, p⟩ := q
  simp only [evE] at p
  refine ⟨φ, h, ρ, R, En, (Post.bind (rel0 := vR L) p).imp fun y H1 ⟨φ1, h1, v, E1, R1, r1, p1⟩ => ?_⟩
  rw [isNon_ok r1]
  exact Post.here R1 (.bl _) p1
theorem pe_isNM {a : Expr} {x : E} {j : Nat} {pos pos' : Pos} (ha : PE X a (tM L P W x)) : PE X (.Compare a [.Is] [.Constant .none j pos'] pos) (tM L P W (.isN x)) :=
  PE.weak (pe_cmp (pc_isN ha) rfl) fun _ _ _ q => isN_w q
theorem pe_notNM {a : Expr} {x : E} {j : Nat} {pos pos' : Pos} (ha : PE X a (tM L P W x)) : PE X (.Compare a [.IsNot] [.Constant .none j pos'] pos) (tM L P W (.notN x)) :=
  PE.weak (pe_cmp (pc_notN ha) rfl) fun _ _ _ q => notN_w q
theorem pt_isNM {a : Expr} {x : E} {j : Nat} {pos pos' : Pos} (ha : PE X a (tM L P W x)) : PT X (.Compare a [.Is] [.Constant .none j pos'] pos) (tMT L P W (.isN x)) :=
  PT.weak (pt_cmp (pc_isN ha) rfl) fun _ _ _ q => isN_w q
theorem pt_notNM {a : Expr} {x : E} {j : Nat} {pos pos' : Pos} (ha : PE X a (tM L P W x)) : PT X (.Compare a [.IsNot] [.Constant .none j pos'] pos) (tMT L P W (.notN x)) :=
  PT.weak (pt_cmp (pc_notN ha) rfl) fun _ _ _ q => notN_w q

/-! chains -/
theorem chn_w {a b c : E} {σ : L2.St} {H : Hp} {Q : VK} {o1 o2 : CmpOp} (q : tM L P W (.chn o1 o2 a b c) σ H Q) : tChain (rOp L (cmpop o1)) (rOp L (cmpop o2)) (tM L P W a) (tM L P W b) (tM L P W c) σ H Q := by
  obtain ⟨φ, h, ρ, R, En, p⟩ := q
  simp only [evE] at p
  refine ⟨φ, h, ρ, R, En, (Post.bind (rel0 := vR L) p).imp fun x H1 ⟨φ1, h1, v, E1, R1, r1, p1⟩ => ?_⟩
  refine ⟨φ1, h1, ρ, R1, En.mono E1, (Post.bind (rel0 := vR L) p1).imp fun y H2 ⟨φ2, h2, w, E2, R2, r2, p2⟩ => ?_⟩
  refine ⟨φ2, h2, v, w, R2, r1.mono E2, r2, ?_⟩
  cases e : cmpop o1 v w h2 with
  | err c fs h3 => exact absurd e (cmpop_noerr _ _ _ _ _ _ _)
  | bad => rw [e] at p2; exact p2
  | ok z h3 =>
    rw [e] at p2
    intro V H3 φ3 E3 R3 r3
    have p3 := Post.step E3 p2
    cases z with
    | bl bb =>
      cases bb with
      | true =>
        refine ⟨true, r3.blI, iteT ?_⟩
        change Post L φ3 H3 (vR L) ((evE P c ρ h3).bind fun u h4 => cmpop o2 w u h4) Q _ at p3
        refine ⟨φ3, h3, ρ, R3, ((En.mono E1).mono E2).mono E3, (Post.bind (rel0 := vR L) p3).imp fun u H4 ⟨φ4, h4, v4, E4, R4, r4, p4⟩ => ?_⟩
        refine ⟨φ4, h4, w, v4, R4, (r2.mono E3).mono E4, r4, ?_⟩
        cases e : cmpop o2 w v4 h4 with
        | ok m h5 => rw [e] at p4; exact p4
        | err c fs h5 => exact absurd e (cmpop_noerr _ _ _ _ _ _ _)
        | bad => rw [e] at p4; exact p4
      | false =>
        refine ⟨false, r3.blI, iteF ?_⟩
        exact Post.here R3 (.bl false) p3
    | non => exact False.elim p3
    | int _ => exact False.elim p3
    | str _ => exact False.elim p3
    | tup _ => exact False.elim p3
    | ref _ => exact False.elim p3
    | exc _ _ => exact False.elim p3
theorem pe_chnM (S : Sx tb L P k X blk N sc W) {o1 o2 : CmpOp} {a b c : Expr} {x y z : E} {pos : Pos} (n1 : o1 ≠ .In ∧ o1 ≠ .NotIn) (n2 : o2 ≠ .In ∧ o2 ≠ .NotIn) (ok : okE b = true) (ok2 : okE c = true) (ha : PE X a (tM L P W x)) (hb : PE X b (tM L P W y)) (hc : PE X c (tM L P W z)) :
    PE X (.Compare a [o1, o2] [b, c] pos) (tM L P W (.chn o1 o2 x y z)) ∧ PT X (.Compare a [o1, o2] [b, c] pos) (tMT L P W (.chn o1 o2 x y z)) :=
  ⟨PE.weak (pe_chain (cmp_all S.hK S.units o1 n1.1 n1.2) (cmp_all S.hK S.units o2 n2.1 n2.2) ha hb hc (show lastMarks [o1, o2] [b, c] = false from okE_nomark ok2 o2)) fun _ _ _ q => chn_w q,
   PT.weak (pt_chain (cmp_all S.hK S.units o1 n1.1 n1.2) (cmp_all S.hK S.units o2 n2.1 n2.2) ha hb hc (show lastMarks [o1, o2] [b, c] = false from okE_nomark ok2 o2)) fun _ _ _ q => chn_w q⟩
end
end Mn
namespace Mn
open PySem PySem.Spec PyProof.Rows L2
section
variable {tb : Tb} {L : Lk} {P : Pg} {k : Nat} {X : Cx} {blk : Bool} {N : List Str} {sc : Scope} {W : WX}
/-! arguments, displays -/
theorem pa_nilM : PA X [] (tMs L P W []) := PA.weak pa_nil fun σ H Q ⟨φ, h, ρ, R, En, p⟩ => by
  simp only [evEs] at p
  exact p [] H φ Ext.refl R .nil
theorem pa_consM {e : Expr} {es : List Expr} {x : E} {xs : List E} (ok : okE e = true) (ha : PE X e (tM L P W x)) (hb : PA X es (tMs L P W xs)) : PA X (e :: es) (tMs L P W (x :: xs)) :=
  PA.weak (pa_cons ha hb (okE_star ok _ _)) fun σ H Q ⟨φ, h, ρ, R, En, p⟩ => by
    simp only [evEs] at p
    refine ⟨φ, h, ρ, R, En, (Post.bind (rel0 := vR L) p).imp fun y H1 ⟨φ1, h1, v, E1, R1, r1, p1⟩ => ?_⟩
    refine ⟨φ1, h1, ρ, R1, En.mono E1, (Post.bind (rel0 := vRs L) p1).imp fun ys H2 ⟨φ2, h2, vs, E2, R2, r2, p2⟩ => ?_⟩
    exact p2 (y :: ys) H2 φ2 Ext.refl R2 (.cons (r1.mono E2) r2)
theorem pe_lstM {es : List Expr} {xs : List E} {pos : Pos} (ha : PA X es (tMs L P W xs)) : PE X (.List es pos) (tM L P W (.lst xs)) :=
  PE.weak (pe_lst ha) fun σ H Q ⟨φ, h, ρ, R, En, p⟩ => by
    simp only [evE] at p
    refine ⟨φ, h, ρ, R, En, (Post.bind (rel0 := vRs L) p).imp fun ys H1 ⟨φ1, h1, vs, E1, R1, r1, p1⟩ => ?_⟩
    by_cases c : vs.length ≤ sizeLine
    · rw [if_pos c] at p1
      exact ⟨by rw [← r1.length]; exact c, fun a ha => Post.lst R1 r1 p1 ha⟩
    · rw [if_neg c] at p1; exact False.elim p1
theorem pe_tupM {es : List Expr} {xs : List E} {j : Nat} {pos : Pos} (ha : PA X es (tMs L P W xs)) : PE X (.Tuple es j pos) (tM L P W (.tup xs)) :=
  PE.weak (pe_tup ha) fun σ H Q ⟨φ, h, ρ, R, En, p⟩ => by
    simp only [evE] at p
    refine ⟨φ, h, ρ, R, En, (Post.bind (rel0 := vRs L) p).imp fun ys H1 ⟨φ1, h1, vs, E1, R1, r1, p1⟩ => ?_⟩
    by_cases c : vs.length ≤ sizeLine
    · rw [if_pos c] at p1
      exact ⟨by rw [← r1.length]; exact c, fun a ha => Post.tup R1 r1 p1 ha⟩
    · rw [if_neg c] at p1; exact False.elim p1
/-! not, neg, and, or -/
theorem not_w {x : E} {σ : L2.St} {H : Hp} {Q : VK} (q : tM L P W (.not x) σ H Q) : tNotV (tM L P W x) σ H Q := by
  obtain ⟨φ, h, ρ, R, En, p⟩ := q
  simp only [evE] at p
  refine ⟨φ, h, ρ, R, En, (Post.bind (rel0 := vR L) p).imp fun y H1 ⟨φ1, h1, v, E1, R1, r1, p1⟩ => ?_⟩
  cases v <;> first | exact False.elim p1 | skip
  exact ⟨_, r1.blI, Post.here R1 (.bl _) p1⟩
theorem pe_notM {a : Expr} {x : E} {pos : Pos} (ha : PE X a (tM L P W x)) : PE X (.UnaryOp .Not a pos) (tM L P W (.not x)) := PE.weak (pe_not ha) fun _ _ _ q => not_w q
theorem pt_notM {a : Expr} {x : E} {pos : Pos} (ha : PT X a (tMT L P W x)) : PT X (.UnaryOp .Not a pos) (tMT L P W (.not x)) :=
  PT.weak (pt_not ha) fun σ H Q q => by
    obtain ⟨φ, h, ρ, R, En, p⟩ := not_w q
    exact ⟨φ, h, ρ, R, En, p.imp fun y H1 ⟨c, e, c', e', q'⟩ => ⟨c, e, by cases e'; exact q'⟩⟩
theorem pe_negM {a : Expr} {x : E} {pos : Pos} (ha : PE X a (tM L P W x)) : PE X (.UnaryOp .USub a pos) (tM L P W (.neg x)) :=
  PE.weak (pe_un un_neg ha) fun σ H Q ⟨φ, h, ρ, R, En, p⟩ => by
    simp only [evE] at p
    refine ⟨φ, h, ρ, R, En, (Post.bind (rel0 := vR L) p).imp fun y H1 ⟨φ1, h1, v, E1, R1, r1, p1⟩ => ?_⟩
    cases v <;> first | exact False.elim p1 | skip
    exact ⟨_, r1.intI, Post.here R1 (.int _) p1⟩
theorem and_w {x y : E} {σ : L2.St} {H : Hp} {Q : VK} (q : tM L P W (.and x y) σ H Q) : tAndV (tM L P W x) (tM L P W y) σ H Q := by
  obtain ⟨φ, h, ρ, R, En, p⟩ := q
  simp only [evE] at p
  refine ⟨φ, h, ρ, R, En, (Post.bind (rel0 := vR L) p).imp fun z H1 ⟨φ1, h1, v, E1, R1, r1, p1⟩ => ?_⟩
  cases v <;> first | exact False.elim p1 | skip
  rename_i b
  cases b with
  | true => exact ⟨true, r1.blI, iteT ⟨φ1, h1, ρ, R1, En.mono E1, p1⟩⟩
  | false => exact ⟨false, r1.blI, iteF (Post.here R1 (.bl _) p1)⟩
theorem or_w {x y : E} {σ : L2.St} {H : Hp} {Q : VK} (q : tM L P W (.or x y) σ H Q) : tOrV (tM L P W x) (tM L P W y) σ H Q := by
  obtain ⟨φ, h, ρ, R, En, p⟩ := q
  simp only [evE] at p
  refine ⟨φ, h, ρ, R, En, (Post.bind (rel0 := vR L) p).imp fun z H1 ⟨φ1, h1, v, E1, R1, r1, p1⟩ => ?_⟩
  cases v <;> first | exact False.elim p1 | skip
  rename_i b
  cases b with
  | true => exact ⟨true, r1.blI, iteT (Post.here R1 (.bl _) p1)⟩
  | false => exact ⟨false, r1.blI, iteF ⟨φ1, h1, ρ, R1, En.mono E1, p1⟩⟩
theorem pe_andM {a b : Expr} {r : List Expr} {x y : E} {pos : Pos} (ha : PE X a (tM L P W x)) (hb : PE X (.BoolOp .And (b :: r) pos) (tM L P W y)) : PE X (.BoolOp .And (a :: b :: r) pos) (tM L P W (.and x y)) :=
  PE.weak (pe_and ha hb) fun _ _ _ q => and_w q
theorem pe_orM {a b : Expr} {r : List Expr} {x y : E} {pos : Pos} (ha : PE X a (tM L P W x)) (hb : PE X (.BoolOp .Or (b :: r) pos) (tM L P W y)) : PE X (.BoolOp .Or (a :: b :: r) pos) (tM L P W (.or x y)) :=
  PE.weak (pe_or ha hb) fun _ _ _ q => or_w q
theorem pw_andM {a b : Expr} {r : List Expr} {x y : E} {pos : Pos} (ha : PT X a (tMT L P W x)) (hb : PW X (.BoolOp .And (b :: r) pos) (tMT L P W y)) : PW X (.BoolOp .And (a :: b :: r) pos) (tMT L P W (.and x y)) :=
  PW.weak (pw_and ha hb) fun σ H Q q => by
    obtain ⟨φ, h, ρ, R, En, p⟩ := and_w q
    refine ⟨φ, h, ρ, R, En, p.imp fun z H1 ⟨c, e, q'⟩ => ⟨c, e, ?_⟩⟩
    cases c with
    | true => exact iteT (by rw [if_pos rfl] at q'; exact q')
    | false =>
      rw [if_neg Bool.false_ne_true] at q'
      obtain ⟨c2, e2, q2⟩ := q'
      cases e2
      exact iteF q2
theorem pw_orM {a b : Expr} {r : List Expr} {x y : E} {pos : Pos} (ha : PT X a (tMT L P W x)) (hb : PW X (.BoolOp .Or (b :: r) pos) (tMT L P W y)) : PW X (.BoolOp .Or (a :: b :: r) pos) (tMT L P W (.or x y)) :=
  PW.weak (pw_or ha hb) fun σ H Q q => by
    obtain ⟨φ, h, ρ, R, En, p⟩ := or_w q
    refine ⟨φ, h, ρ, R, En, p.imp fun z H1 ⟨c, e, q'⟩ => ⟨c, e, ?_⟩⟩
    cases c with
    | false => exact iteF (by rw [if_neg Bool.false_ne_true] at q'; exact q')
    | true =>
      rw [if_pos rfl] at q'
      obtain ⟨c2, e2, q2⟩ := q'
      cases e2
      exact iteT q2
/-! parts -/
theorem okE_noSl {e : Expr} (h : okE e = true) : NoSl e := fun _ _ => by
  cases e <;> first | rfl | exact absurd h (by simp [okE])
theorem pe_idxM (S : Sx tb L P k X blk N sc W) {a b : Expr} {x y : E} {pos : Pos} (ok : okE b = true) (ha : PE X a (tM L P W x)) (hb : PE X b (tM L P W y)) : PE X (.Subscript a b pos) (tM L P W (.idx x y)) := by
  have h1 := pe_ix (pos := pos) (index_ok (L := L) S.hK) ha hb (okE_plainIx ok)
  have h2 := pe_dget (pos := pos) (by have := S.units; omega) ha hb (okE_noSl ok)
  refine ⟨fun pins s σ H Q I ⟨φ, h, ρ, R, En, p⟩ => ?_⟩
  simp only [evE] at p
  by_cases nd : ∃ v g1 w g2 i, evE P x ρ h = .ok v g1 ∧ evE P y ρ g1 = .ok w g2 ∧ v = .ref i ∧ ((∃ z kvs, g2[i]? = some (.dct z kvs)) ∨ ∃ kvs, g2[i]? = some (.dtt kvs))
  · -- a dict is asked
    obtain ⟨v, g1, w, g2, i, e1, e2, rfl, hi⟩ := nd
    rw [e1, bind_ok, e2, bind_ok] at p
    refine h2.run pins s σ H Q I ⟨φ, h, ρ, R, En, ?_⟩
    rw [e1]
    intro Xv H1 φ1 E1 R1 r1
    refine ⟨φ1, g1, ρ, R1, En.mono E1, ?_⟩
    rw [e2]
    intro Y H2 φ2 E2 R2 r2
    have p2 := Post.step (E1.trans E2) p
    rcases hi with ⟨z, kvs, hi⟩ | ⟨kvs, hi⟩
    · simp only [index, hi, getK] at p2
      obtain ⟨b', rfl, _, o⟩ := R2.at hi (r1.mono E2)
      obtain ⟨ys, q1, kr, _⟩ := o.dctI
      cases ek : keyV w with
      | none => rw [ek] at p2; exact False.elim p2
      | some c =>
        rw [ek] at p2
        cases eg : getC c kvs with
        | none => simp only [Option.bind_some, eg] at p2; exact False.elim p2
        | some u =>
          simp only [Option.bind_some, eg] at p2
          obtain ⟨x', l, rx⟩ := kr.hit eg
          exact ⟨b', x', rfl, .inl ⟨ys, c, q1, r2.key ek, l.symm⟩, Post.here R2 rx p2⟩
    · simp only [index, hi, getT] at p2
      obtain ⟨b', rfl, _, o⟩ := R2.at hi (r1.mono E2)
      cases o with
      | dT hq kr =>
        cases ek : Mn.keyT w with
        | none => rw [ek] at p2; exact False.elim p2
        | some c =>
          rw [ek] at p2
          cases eg : getC c kvs with
          | none => simp only [Option.bind_some, eg] at p2; exact False.elim p2
          | some u =>
            simp only [Option.bind_some, eg] at p2
            obtain ⟨x', l, rx⟩ := kr.hit eg
            obtain ⟨b, rfl, hb⟩ := r2.keyT ek
            exact ⟨b', x', rfl, .inr ⟨_, c, b, .inl hq, rfl, hb, l.symm⟩, Post.here R2 rx p2⟩
  refine h1.run pins s σ H Q I ⟨φ, h, ρ, R, En, (Post.bindE (rel0 := vR L) p).imp fun z H1 ⟨φ1, h1, v, q1, E1, R1, r1, p1⟩ => ?_⟩
  refine ⟨φ1, h1, ρ, R1, En.mono E1, (Post.bindE (rel0 := vR L) p1).imp fun u H2 ⟨φ2, h2, w, q2, E2, R2, r2, p2⟩ => ?_⟩
  refine ⟨φ2, h2, v, w, R2, r1.mono E2, r2, fun a e1 => ⟨fun w' kvs e2 => nd ⟨v, h1, w, h2, a, q1, q2, e1, .inl ⟨w', kvs, e2⟩⟩, fun kvs e2 => nd ⟨v, h1, w, h2, a, q1, q2, e1, .inr ⟨kvs, e2⟩⟩⟩, ?_⟩
  cases e : index v w h2 with
  | ok m h3 => rw [e] at p2; exact p2
  | err c fs h3 => exact absurd e (index_noerr _ _ _ _ _ _)
  | bad => rw [e] at p2; exact p2
theorem pe_dctM {pos : Pos} : PE X (.Dict [] [] pos) (tM L P W (.dct [] [])) := PE.weak pe_dnewK fun σ H Q ⟨φ, h, ρ, R, En, p⟩ => by
  simp only [evE] at p
  exact fun a ha => p (.ref a) _ (φ ++ [(true, a)]) (Ext.alloc ha) (R.alloc ha (fun _ z => by cases z) (.dK upd_same .nil)) (.ref ⟨true, by rw [← R.len]; simp⟩)
theorem slice_noerr (v : Val) (l u : Option Int) (h : MH) (c : String) (fs : List (String × Val)) (h' : MH) : slice v l u h ≠ .err c fs h' := by
  intro z
  unfold slice at z
  repeat' split at z
  all_goals cases z
noncomputable def tMO (L : Lk) (P : Pg) (W : WX) (o : Option E) : TO := fun σ H Q => ∃ φ h ρ, Rel L φ h H ∧ EnvR L φ H ρ σ ∧ Post L φ H (fun _ _ a b => a = b) (evO P o ρ h) Q (fun c d H' => W c d σ H')
theorem po_noneM : PO X none (tMO L P W none) := ⟨fun pins s σ H Q I ⟨φ, h, ρ, R, En, p⟩ => po_none.run pins s σ H Q I (by
  simp only [evO] at p
  exact p none H φ Ext.refl R rfl)⟩
theorem po_someM {a : Expr} {x : E} (ha : PE X a (tM L P W x)) : PO X (some a) (tMO L P W (some x)) := ⟨fun pins s σ H Q I ⟨φ, h, ρ, R, En, p⟩ => (po_some ha).run pins s σ H Q I (by
  simp only [evO] at p
  refine ⟨φ, h, ρ, R, En, (Post.bind (rel0 := vR L) p).imp fun z H1 ⟨φ1, h1, v, E1, R1, r1, p1⟩ => ?_⟩
  cases v <;> first | exact False.elim p1 | skip
  exact ⟨_, r1.intI, p1 _ H1 φ1 Ext.refl R1 rfl⟩)⟩
theorem pe_slcM (S : Sx tb L P k X blk N sc W) {a : Expr} {lo hi : Option Expr} {x : E} {l u : Option E} {pos p2 : Pos} (ha : PE X a (tM L P W x)) (hl : PO X lo (tMO L P W l)) (hu : PO X hi (tMO L P W u)) : PE X (.Subscript a (.Slice lo hi none p2) pos) (tM L P W (.slc x l u)) :=
  PE.weak (pe_slice (slice_ok (L := L) S.hK) ha hl hu) fun σ H Q ⟨φ, h, ρ, R, En, p⟩ => by
    simp only [evE] at p
    refine ⟨φ, h, ρ, R, En, (Post.bind (rel0 := vR L) p).imp fun z H1 ⟨φ1, h1, v, E1, R1, r1, p1⟩ => ?_⟩
    refine ⟨φ1, h1, ρ, R1, En.mono E1, (Post.bind (rel0 := fun _ _ a b => a = b) p1).imp fun l' H2 ⟨φ2, h2, lv, E2, R2, r2, p2⟩ => ?_⟩
    refine ⟨φ2, h2, ρ, R2, (En.mono E1).mono E2, (Post.bind (rel0 := fun _ _ a b => a = b) p2).imp fun u' H3 ⟨φ3, h3, uv, E3, R3, r3, p3⟩ => ?_⟩
    subst r2 r3
    refine ⟨φ3, h3, v, R3, (r1.mono E2).mono E3, ?_⟩
    cases e : slice v lv uv h3 with
    | ok m h4 => rw [e] at p3; exact p3
    | err c fs h4 => exact absurd e (slice_noerr _ _ _ _ _ _ _)
    | bad => rw [e] at p3; exact p3
/-! calls -/
theorem sp_of {f : String} {np : Nat} {xs : List E} {σ : L2.St} {H : Hp} {Q : VK} (hn : ∀ ms h, P.cf f ms h ≠ .bad → ms.length = np) (q : tM L P W (.call f xs) σ H Q) : tMs L P W xs σ H fun vs H1 => spOf L (P.cf f) np vs H1 Q (WE W σ) := by
  obtain ⟨φ, h, ρ, R, En, p⟩ := q
  simp only [evE] at p
  refine ⟨φ, h, ρ, R, En, (Post.bind (rel0 := vRs L) p).imp fun ys H1 ⟨φ1, h1, vs, E1, R1, r1, p1⟩ => ?_⟩
  refine ⟨?_, φ1, h1, vs, R1, r1, p1⟩
  rw [← r1.length]
  exact hn vs h1 fun e => by rw [e] at p1; exact p1
theorem pe_callM (S : Sx tb L P k X blk N sc W) {f : String} {es : List Expr} {xs : List E} {p pos : Pos} (hg : Mn.gl sc (Str.ofString f) = true) (hf : tb.fns.contains f = true) (hc : spC (Str.ofString f) = true) (ok : es.all okE = true) (el : es = [] → xs = [])
    (ha : PA X es (tMs L P W xs)) : PE X (.Call (.Name (Str.ofString f) p) es [] pos) (tM L P W (.call f xs)) := by
  obtain ⟨a, fd, ps, e1, e2, e3, e4, e5⟩ := S.pr.fns f hf
  unfold spC at hc
  simp only [Bool.and_eq_true, Bool.not_eq_true'] at hc
  rw [← S.hK] at e2 e3 e4
  cases es with
  | nil =>
    have := el rfl
    subst this
    refine PE.weak (pe_callU0 (E := WE W) e4 S.rm (S.gl hg) e1 e2 e3 (fun σ => passB S.tk σ) hc.1.1) fun σ H Q q => ?_
    obtain ⟨φ, h, ρ, R, En, q⟩ := sp_of e5 q
    simp only [evEs] at q
    exact q [] H φ Ext.refl R .nil
  | cons e es =>
    simp only [List.all_cons, Bool.and_eq_true] at ok
    exact PE.weak (pe_callS (E := WE W) e4 S.rm (S.gl hg) e1 e2 e3 (fun σ => passB S.tk σ) ha hc.1.1 (okE_star ok.1 _ _) (okEs_any ok.2 _ _)) fun σ H Q q => sp_of e5 q
theorem bi_w {b : Bi} {xs : List E} {σ : L2.St} {H : Hp} {Q : VK} (q : tM L P W (.bi b xs) σ H Q) : tCB (rB L b) (tMs L P W xs) σ H Q := by
  obtain ⟨φ, h, ρ, R, En, p⟩ := q
  simp only [evE] at p
  refine ⟨φ, h, ρ, R, En, (Post.bind (rel0 := vRs L) p).imp fun ys H1 ⟨φ1, h1, vs, E1, R1, r1, p1⟩ => ?_⟩
  refine ⟨φ1, h1, vs, R1, r1, ?_⟩
  cases e : bisem b vs h1 with
  | ok m h4 => rw [e] at p1; exact p1
  | err c fs h4 =>
    exfalso
    unfold bisem at e
    repeat' split at e
    all_goals first | (cases e; done) | exact retO_noerr e
  | bad => rw [e] at p1; exact p1
theorem pe_biM (S : Sx tb L P k X blk N sc W) {f : String} {b : Bi} {e : Expr} {es : List Expr} {xs : List E} {p pos : Pos} (hg : Mn.gl sc (Str.ofString f) = true) (hb : biOf f = some b) (ok : (e :: es).all okE = true)
    (ha : PA X (e :: es) (tMs L P W xs)) : PE X (.Call (.Name (Str.ofString f) p) (e :: es) [] pos) (tM L P W (.bi b xs)) := by
  simp only [List.all_cons, Bool.and_eq_true] at ok
  have h1 := okE_star ok.1 es X.env
  have h2 := okEs_any ok.2 X.env pos
  have G := S.gl hg
  unfold biOf at hb
  split at hb <;> cases hb
  · exact PE.weak (pe_callB (bi_len S.hK) G (S.pr.blt "len" (by decide)) (by decide +kernel) ha (by decide +kernel) (by decide +kernel) h1 h2) fun _ _ _ q => bi_w q
  · exact PE.weak (pe_callB (bi_max S.calm) G (S.pr.blt "max" (by decide)) (by decide +kernel) ha (by decide +kernel) (by decide +kernel) h1 h2) fun _ _ _ q => bi_w q
  · exact PE.weak (pe_callB (bi_min S.calm) G (S.pr.blt "min" (by decide)) (by decide +kernel) ha (by decide +kernel) (by decide +kernel) h1 h2) fun _ _ _ q => bi_w q
  · exact PE.weak (pe_callTy bi_int G (S.pr.blt "int" (by decide)) (by decide +kernel) ha (by decide +kernel) (by decide +kernel) h1 h2) fun _ _ _ q => bi_w q
  · exact PE.weak (pe_callTy bi_str G (S.pr.blt "str" (by decide)) (by decide +kernel) ha (by decide +kernel) (by decide +kernel) h1 h2) fun _ _ _ q => bi_w q
  · exact PE.weak (pe_callTy (bi_tuple S.hK) G (S.pr.blt "tuple" (by decide)) (by decide +kernel) ha (by decide +kernel) (by decide +kernel) h1 h2) fun _ _ _ q => bi_w q
  · exact PE.weak (pe_callTy (bi_list S.hK S.calm) G (S.pr.blt "list" (by decide)) (by decide +kernel) ha (by decide +kernel) (by decide +kernel) h1 h2) fun _ _ _ q => bi_w q
  · exact PE.weak (pe_callB (bi_sum S.hK S.calm) G (S.pr.blt "sum" (by decide)) (by decide +kernel) ha (by decide +kernel) (by decide +kernel) h1 h2) fun _ _ _ q => bi_w q
  · exact PE.weak (pe_callB (bi_all S.hK S.calm) G (S.pr.blt "all" (by decide)) (by decide +kernel) ha (by decide +kernel) (by decide +kernel) h1 h2) fun _ _ _ q => bi_w q
  · exact PE.weak (pe_callTy (bi_dict S.hK S.calm) G (S.pr.blt "dict" (by decide)) (by decide +kernel) ha (by decide +kernel) (by decide +kernel) h1 h2) fun _ _ _ q => bi_w q
end
end Mn
namespace Mn
open PySem PySem.Spec PyProof.Rows L2
section
variable {tb : Tb} {L : Lk} {P : Pg} {k : Nat} {X : Cx} {blk : Bool} {N : List Str} {sc : Scope} {W : WX}
/-! isinstance -/
theorem ty_ok (S : Sy tb L P k X blk N sc W) {φ : Ph} {h : MH} {H : Hp} {v : Val} {x : V} {c : String} (R : Rel L φ h H) (r : VR L φ H v x) (e : tyOf h v = some c) (nx : ∀ c fs, v ≠ .exc c fs) : TyX X.K H x (tyV' L c) := by
  have ty : ∀ {c}, isTy c = true → tyV' L c = .type c := fun {c} hc => by unfold tyV'; rw [(S.pr.noTy c hc).1, (S.pr.noTy c hc).2]
  cases v with
  | non => cases e; rw [r.nonI, ty (by decide)]; exact .base .non
  | bl b => cases e; rw [r.blI, ty (by decide)]; exact .base (.bl b)
  | int i => cases e; rw [r.intI, ty (by decide)]; exact .base (.int i)
  | str z => cases e; rw [r.strI, ty (by decide)]; exact .base (.str z)
  | exc a b => exact absurd rfl (nx a b)
  | tup vs =>
    cases e; rw [ty (by decide)]
    obtain ⟨a, xs, rfl, q, _⟩ := r.tupI
    rcases q with (q | ⟨o, q⟩) | ⟨o, its, n, q, c, _⟩
    · exact .base (.tup q)
    · exact .fTuple q
    · rw [S.hK]; exact .kTuple q c
  | ref i =>
    simp only [tyOf] at e
    split at e
    · rename_i w vs hi
      cases e
      obtain ⟨a, rfl, _, o⟩ := R.at hi r
      rw [ty (by decide)]
      cases o with
      | lst q _ => exact .base (.lst q)
      | ro q _ =>
        rcases q with ⟨ob, q⟩ | ⟨ob, its, n, q, c, _⟩
        · exact .base (.frz q)
        · rw [S.hK]; exact .kList q c
    · rename_i w kvs hi
      cases e
      obtain ⟨a, rfl, _, o⟩ := R.at hi r
      rw [ty (by decide)]
      cases o with
      | dK q _ => exact .base (.dK q)
      | dF q _ => exact .fDict q
    · rename_i kvs hi
      cases e
      obtain ⟨a, rfl, _, o⟩ := R.at hi r
      rw [ty (by decide)]
      cases o with
      | dT q _ => exact .base (.dT q)
    · rename_i cl fs hi
      cases e
      obtain ⟨a, rfl, _, o⟩ := R.at hi r
      cases o with
      | ins hc q _ =>
        unfold tyV'
        rw [S.pr.sep _ _ hc, hc, S.hK]
        exact S.pr.insTy _ _ hc H a _ _ q
    · cases e
theorem CallR.or {f : Value} {r r' : List V → Hp → VK → Prop} (h : CallR X f r) (h' : CallR X f r') : CallR X f (fun xs H Q => r xs H Q ∨ r' xs H Q) := fun pins s σ H xs us Q I rv q => q.elim (h pins s σ H xs us Q I rv) (h' pins s σ H xs us Q I rv)
/-- a kept exception -/
theorem exc_at {φ : Ph} {H : Hp} {c : String} {fs : List (String × Val)} {x : V} (r : VR L φ H (.exc c fs) x) : ∃ a C d, x = .ref a ∧ L.exc c = some C ∧ H a = some (exH a (.ref C) d) ∧ ∀ dd, d = some dd → ∃ fs, H dd = some (.xd fs) := by
  cases r with
  | exc0 hc ha na => exact ⟨_, _, _, rfl, hc, ha, fun _ z => by cases z⟩
  | excF hc ha na hd nd k r => exact ⟨_, _, _, rfl, hc, ha, fun _ z => by cases z; exact ⟨_, hd⟩⟩
theorem pe_isiM (S : Sy tb L P k X blk N sc W) {t : String} {a : Expr} {x : E} {p p2 pos : Pos} (hg : Mn.gl sc (Str.ofString "isinstance") = true) (hg2 : Mn.gl sc (Str.ofString t) = true) (hc : spC (Str.ofString t) = true) (ht : tb.isi.contains t = true) (ok : okE a = true) (ha : PE X a (tM L P W x)) :
    PE X (.Call (.Name (Str.ofString "isinstance") p) [a, .Name (Str.ofString t) p2] [] pos) (tM L P W (.isi x t)) := by
  obtain ⟨c, u, hcu, hk⟩ := S.pr.isi t ht
  unfold spC at hc
  simp only [Bool.and_eq_true, Bool.not_eq_true'] at hc
  have hn : Str.ofString t ≠ "__name__" := fun z => by
    have := hc.2
    rw [z] at this
    simp at this
  have hN : PE X (.Name (Str.ofString t) p2) (tC c) ∧ ClsV c u := by
    rcases hcu with ⟨T, rfl, rfl, e1, e2⟩ | ⟨C, rfl, rfl, e1⟩
    · exact ⟨pe_bltn (S.gl hg2) e1 e2 rfl hn hc.1.1, .ty T⟩
    · exact ⟨pe_glob (S.gl hg2) e1 rfl hc.1.1, .own C⟩
  refine PE.weak (pe_callB (call_isi.or call_isX) (S.gl hg) (S.pr.blt "isinstance" (by decide)) (by decide +kernel) (pa_cons ha (pa_cons hN.1 pa_nil rfl) (okE_star ok _ _)) (by decide +kernel) (by decide +kernel) (okE_star ok _ _) rfl) fun σ H Q ⟨φ, h, ρ, R, En, p⟩ => ?_
  simp only [evE] at p
  refine ⟨φ, h, ρ, R, En, (Post.bind (rel0 := vR L) p).imp fun y H1 ⟨φ1, h1, v, E1, R1, r1, p1⟩ => ?_⟩
  unfold isInst at p1
  cases e1 : tyOf h1 v with
  | none => rw [e1] at p1; exact False.elim p1
  | some cl =>
    cases e2 : P.sub cl t with
    | none => rw [e1, Option.bind_some, e2] at p1; exact False.elim p1
    | some b =>
      rw [e1, Option.bind_some, e2] at p1
      by_cases nx : ∃ c fs, v = .exc c fs
      · obtain ⟨c', fs, rfl⟩ := nx
        obtain ⟨a, C, d, rfl, hC, ha, hd⟩ := exc_at r1
        cases e1
        have kk := hk cl b e2
        unfold tyV' at kk
        rw [hC] at kk
        exact .inr ⟨a, C, d, c, u, b, rfl, hN.2, ha, hd, by rw [S.hK]; exact S.pr.exk _ _ hC, by rw [S.hK]; exact kk, Post.here R1 (.bl b) p1⟩
      · exact .inl ⟨y, c, tyV' L cl, u, b, rfl, hN.2, ty_ok S R1 r1 e1 (fun c fs z => nx ⟨c, fs, z⟩), by rw [S.hK]; exact hk cl b e2, Post.here R1 (.bl b) p1⟩

/-! methods of lists -/
theorem PE.or {e : Expr} {t t' : TE} (h : PE X e t) (h' : PE X e t') : PE X e (fun σ H Q => t σ H Q ∨ t' σ H Q) := ⟨fun pins s σ H Q I q => q.elim (h.run pins s σ H Q I) (h'.run pins s σ H Q I)⟩
theorem mt_w {m : Mt} {x : E} {xs : List E} {T : String} {σ : L2.St} {H : Hp} {Q : VK} (hK : X.K = L.K) (hT : ∀ v h, mtOk m v h = true → ∀ φ H y, Rel L φ h H → VR L φ H v y → tyV L.K T y H) (hn : ∀ v vs h c fs h', mtsem m v vs h ≠ .err c fs h') (q : tM L P W (.mth m x xs) σ H Q) :
    tBM X.K T (rM L m) (tM L P W x) (tMs L P W xs) σ H Q := by
  obtain ⟨φ, h, ρ, R, En, p⟩ := q
  simp only [evE] at p
  refine ⟨φ, h, ρ, R, En, (Post.bind (rel0 := vR L) p).imp fun y H1 ⟨φ1, h1, v, E1, R1, r1, p1⟩ => ?_⟩
  by_cases c : mtOk m v h1 = true
  · rw [if_pos c] at p1
    refine ⟨by rw [hK]; exact hT v h1 c φ1 H1 y R1 r1, φ1, h1, ρ, R1, En.mono E1, (Post.bind (rel0 := vRs L) p1).imp fun ys H2 ⟨φ2, h2, vs, E2, R2, r2, p2⟩ => ?_⟩
    refine ⟨φ2, h2, v, vs, R2, r1.mono E2, r2, ?_⟩
    cases e : mtsem m v vs h2 with
    | ok m h3 => rw [e] at p2; exact p2
    | err c fs h3 => exact absurd e (hn _ _ _ _ _ _)
    | bad => rw [e] at p2; exact p2
  · rw [if_neg c] at p1; exact False.elim p1
theorem mtsem_noerr (m : Mt) (v : Val) (vs : List Val) (h : MH) (c : String) (fs : List (String × Val)) (h' : MH) : mtsem m v vs h ≠ .err c fs h' := by
  intro z
  unfold mtsem at z
  repeat' split at z
  all_goals first | (cases z; done) | exact retO_noerr z
theorem lst_ty {m : Mt} (hm : ∀ v h, mtOk m v h = true → ∃ i w vs, v = .ref i ∧ h[i]? = some (.lst w vs)) (v : Val) (h : MH) (c : mtOk m v h = true) (φ : Ph) (H : Hp) (y : V) (R : Rel L φ h H) (r : VR L φ H v y) : tyV L.K "list" y H := by
  obtain ⟨i, w, vs, rfl, hi⟩ := hm v h c
  obtain ⟨a, rfl, _, o⟩ := R.at hi r
  obtain ⟨xs, q, _⟩ := o.lstI
  exact .inl ⟨rfl, xs, q⟩
theorem lst_mt {m : Mt} (hm : m = .append ∨ m = .extend ∨ m = .pop ∨ m = .popAt ∨ m = .clear ∨ m = .index ∨ m = .insert) (v : Val) (h : MH) (c : mtOk m v h = true) : ∃ i w vs, v = .ref i ∧ h[i]? = some (.lst w vs) := by
  unfold mtOk at c
  split at c
  · split at c
    · exact ⟨_, _, _, rfl, by assumption⟩
    · rcases hm with rfl | rfl | rfl | rfl | rfl | rfl | rfl <;> cases c
    · rcases hm with rfl | rfl | rfl | rfl | rfl | rfl | rfl <;> cases c
    · cases c
  all_goals (rcases hm with rfl | rfl | rfl | rfl | rfl | rfl | rfl <;> cases c)
/-- o.m(..), m a list's method -/
theorem pe_lmM (S : Sx tb L P k X blk N sc W) {m : Mt} {name : String} {id : String} (hm : m = .append ∨ m = .extend ∨ m = .pop ∨ m = .popAt ∨ m = .clear ∨ m = .index ∨ m = .insert) (slot : Slot "list" (Str.ofString name) id) (hty : typeOf (.builtin id) = pure (.type "method_descriptor")) (hr : MtR X id (rM L m))
    {o : Expr} {es : List Expr} {x : E} {xs : List E} {ap cp : Pos} (ok : okB o = true) (hline : (ap.endLine == cp.line) = true) (hl : es.length < 20) (oks : es.all okE = true) (el : es = [] → xs = []) (ho : PE X o (tM L P W x)) (ha : PA X es (tMs L P W xs)) :
    PE X (.Call (.Attribute o (Str.ofString name) ap) es [] cp) (tM L P W (.mth m x xs)) := by
  have w := fun σ H Q => mt_w (P := P) (W := W) (m := m) (x := x) (xs := xs) (T := "list") (σ := σ) (H := H) (Q := Q) S.hK (lst_ty (lst_mt hm)) (mtsem_noerr m)
  cases es with
  | nil =>
    have := el rfl
    subst this
    refine PE.weak (pe_bm0 PySem.F.plainAttrs_list slot hty hr ho (okB_base ok _ _) hline) fun σ H Q q => ?_
    obtain ⟨φ, h, ρ, R, En, p⟩ := w σ H Q q
    refine ⟨φ, h, ρ, R, En, p.imp fun y H1 ⟨ty, φ1, h1, ρ1, R1, En1, p1⟩ => ⟨ty, ?_⟩⟩
    simp only [evEs] at p1
    exact p1 [] H1 φ1 Ext.refl R1 .nil
  | cons e es =>
    have oks' := oks
    simp only [List.all_cons, Bool.and_eq_true] at oks'
    refine PE.weak (pe_bm PySem.F.plainAttrs_list slot hty hr ho ha (okB_base ok _ _) ?_ hline (okE_star oks'.1 _ _) (okEs_any oks'.2 _ _)) fun σ H Q q => w σ H Q q
    rw [okEs_all oks]
    simp only [keywordEach, backToKw, List.map_nil, List.all_nil, List.length_nil, List.isEmpty_nil, if_true, Bool.true_and, decide_eq_true_eq]
    omega
theorem str_ty {m : Mt} (hm : m = .join ∨ m = .split ∨ m = .partition ∨ m = .find ∨ m = .upper) (v : Val) (h : MH) (c : mtOk m v h = true) (φ : Ph) (H : Hp) (y : V) (R : Rel L φ h H) (r : VR L φ H v y) : tyV L.K "str" y H := by
  unfold mtOk at c
  split at c
  · split at c
    · rcases hm with rfl | rfl | rfl | rfl | rfl <;> cases c
    · rcases hm with rfl | rfl | rfl | rfl | rfl <;> cases c
    · rcases hm with rfl | rfl | rfl | rfl | rfl <;> cases c
    · cases c
  · rw [r.strI]; exact (rfl : ("str" : String) = "str")
  · rcases hm with rfl | rfl | rfl | rfl | rfl <;> cases c
  · cases c
/-- o.m(..), m a text's method -/
theorem pe_smM (S : Sx tb L P k X blk N sc W) {m : Mt} {name : String} {id : String} (hm : m = .join ∨ m = .split ∨ m = .partition ∨ m = .find ∨ m = .upper) (slot : Slot "str" (Str.ofString name) id) (hty : typeOf (.builtin id) = pure (.type "method_descriptor")) (hr : MtR X id (rM L m))
    {o : Expr} {es : List Expr} {x : E} {xs : List E} {ap cp : Pos} (ok : okB o = true) (hline : (ap.endLine == cp.line) = true) (hl : es.length < 20) (oks : es.all okE = true) (el : es = [] → xs = []) (ho : PE X o (tM L P W x)) (ha : PA X es (tMs L P W xs)) :
    PE X (.Call (.Attribute o (Str.ofString name) ap) es [] cp) (tM L P W (.mth m x xs)) := by
  have w := fun σ H Q => mt_w (P := P) (W := W) (m := m) (x := x) (xs := xs) (T := "str") (σ := σ) (H := H) (Q := Q) S.hK (str_ty hm) (mtsem_noerr m)
  cases es with
  | nil =>
    have := el rfl
    subst this
    refine PE.weak (pe_bm0 PySem.F.plainAttrs_str slot hty hr ho (okB_base ok _ _) hline) fun σ H Q q => ?_
    obtain ⟨φ, h, ρ, R, En, p⟩ := w σ H Q q
    refine ⟨φ, h, ρ, R, En, p.imp fun y H1 ⟨ty, φ1, h1, ρ1, R1, En1, p1⟩ => ⟨ty, ?_⟩⟩
    simp only [evEs] at p1
    exact p1 [] H1 φ1 Ext.refl R1 .nil
  | cons e es =>
    have oks' := oks
    simp only [List.all_cons, Bool.and_eq_true] at oks'
    refine PE.weak (pe_bm PySem.F.plainAttrs_str slot hty hr ho ha (okB_base ok _ _) ?_ hline (okE_star oks'.1 _ _) (okEs_any oks'.2 _ _)) fun σ H Q q => w σ H Q q
    rw [okEs_all oks]
    simp only [keywordEach, backToKw, List.map_nil, List.all_nil, List.length_nil, List.isEmpty_nil, if_true, Bool.true_and, decide_eq_true_eq]
    omega
theorem get_ask {v k : Val} {h : MH} {u : Val} {h' : MH} (e : mtsem .get v [k] h = .ok u h') : ∃ i ob o, v = .ref i ∧ h[i]? = some ob ∧ askO ob k = some o ∧ u = o.getD .non ∧ h' = h := by
  cases v with
  | ref i =>
    simp only [mtsem] at e
    split at e
    · rename_i w kvs hi
      by_cases c : emT w kvs k = true
      · rw [if_pos c] at e
        cases e
        exact ⟨i, _, none, rfl, hi, by simp only [askO]; rw [if_pos c], rfl, rfl⟩
      · rw [if_neg c] at e
        split at e
        · rename_i c' ek
          cases e
          exact ⟨i, _, _, rfl, hi, by simp only [askO]; rw [if_neg c, ek]; rfl, rfl, rfl⟩
        · cases e
    · rename_i kvs hi
      split at e
      · rename_i c' ek
        cases e
        exact ⟨i, _, _, rfl, hi, by simp only [askO]; rw [ek]; rfl, rfl, rfl⟩
      · cases e
    · cases e
  | _ => simp only [mtsem] at e; cases e
theorem get_d {v : Val} {h : MH} (c : mtOk .get v h = true) : ∃ i, v = .ref i ∧ ((∃ w kvs, h[i]? = some (.dct w kvs)) ∨ ∃ kvs, h[i]? = some (.dtt kvs)) := by
  unfold mtOk at c
  split at c
  · split at c
    · cases c
    · exact ⟨_, rfl, .inl ⟨_, _, by assumption⟩⟩
    · exact ⟨_, rfl, .inr ⟨_, by assumption⟩⟩
    · cases c
  · cases c
  · cases c
  · cases c
/-- d.get(k) -/
theorem pe_dgX (S : Sx tb L P k X blk N sc W) {o e : Expr} {x : E} {xs : List E} {ap cp : Pos} (ok : okB o = true) (hline : (ap.endLine == cp.line) = true) (oke : okE e = true) (ho : PE X o (tM L P W x)) (ha : PA X [e] (tMs L P W xs)) :
    PE X (.Call (.Attribute o (Str.ofString "get") ap) [e] [] cp) (tM L P W (.mth .get x xs)) := by
  have hu : X.A.units + 1 < cLine := by have := S.units; omega
  have tr : backTo cp (starEach [e] X.env) = [(false, eval e X.env)] := by rw [okE_star oke]; rfl
  refine ⟨fun pins s σ H Q I ⟨φ, h, ρ, R, En, p⟩ => ?_⟩
  simp only [evE] at p
  refine wpAny_Call_method (okB_base ok _ _) (by rw [tr]; rfl) hline PySem.F.plainAttrs_dict PySem.F.slot_dict_get PySem.F.type_dict_get (thn (ho.run pins s σ H _ I ⟨φ, h, ρ, R, En, Post.bind (rel0 := vR L) p⟩) fun u s1 ⟨xv, H1, I1, rx, φ1, h1, v, E1, R1, r1, p1⟩ => ?_)
  by_cases c : mtOk .get v h1 = true
  · rw [if_pos c] at p1
    obtain ⟨i, rfl, hi⟩ := get_d c
    obtain ⟨a, ha', _⟩ := r1.refI
    subst ha'
    cases (show u = Value.ref a from rx)
    have d : IsD H1 a := by
      rcases hi with ⟨w, kvs, hi⟩ | ⟨kvs, hi⟩
      · obtain ⟨a', ea, _, q⟩ := R1.at hi r1
        cases ea
        obtain ⟨ys, q1, _⟩ := q.dctI
        exact .inl ⟨ys, q1⟩
      · obtain ⟨a', ea, _, q⟩ := R1.at hi r1
        cases ea
        cases q with
        | dT hq kr => exact .inr ⟨_, .inl hq⟩
    obtain ⟨t1, t2, _⟩ := isD_at I1 d
    refine ⟨t1, t2, ?_⟩
    have hA := ha.run cp pins s1 σ H1 (fun ys H2 => ∃ φ2 h2 w y ob o, ys = [y] ∧ Rel L φ2 h2 H2 ∧ VR L φ2 H2 (.ref i) (.ref a) ∧ VR L φ2 H2 w y ∧ h2[i]? = some ob ∧ askO ob w = some o ∧ ∀ z, VR L φ2 H2 (o.getD .non) z → Q z H2) I1 ⟨φ1, h1, ρ, R1, En.mono E1, by
      cases e2 : evEs P xs ρ h1 with
      | bad => rw [e2] at p1; exact False.elim p1
      | err c fs h2 => rw [e2] at p1; exact p1
      | ok ws h2 =>
        rw [e2] at p1
        intro ys H2 φ2 E2 R2 r2
        have p2 := Post.step E2 p1
        simp only [bind_ok] at p2
        have e4 : ∀ {z h3}, mtsem .get (.ref i) ws h2 = .ok z h3 → ∃ w, ws = [w] := by
          intro z h3 q
          simp only [mtsem] at q
          match ws, q with
          | [], q => cases q
          | [w], q => exact ⟨w, rfl⟩
          | _ :: _ :: _, q => cases q
        cases e3 : mtsem .get (.ref i) ws h2 with
        | bad => rw [e3] at p2; exact False.elim p2
        | err c fs h3 => exact absurd e3 (mtsem_noerr _ _ _ _ _ _ _)
        | ok z h3 =>
          obtain ⟨w, rfl⟩ := e4 e3
          rw [e3] at p2
          obtain ⟨i', ob, o', ei, hi', ea, rfl, rfl⟩ := get_ask e3
          cases ei
          obtain ⟨y, rfl, ry⟩ := VRs.one r2
          exact ⟨φ2, _, w, y, ob, o', rfl, R2, r1.mono E2, ry, hi', ea, fun z rz => Post.here R2 rz p2⟩⟩
    rw [tr] at hA ⊢
    refine Calls.callWith_builtin rfl (Calls.evalArgs_plain ?_)
    refine thn hA fun us s2 ⟨ys, H2, I2, rv, φ2, h2, w, y, ob, oo, ey, R2, rd, rk, hi2, ea, q⟩ => ?_
    subst ey
    cases rv with
    | cons ry rn =>
      cases rn
      refine ask_run I2 R2 rd rk hi2 ea fun p H' o' ex I' g back es rn _ => ?_
      cases ex
      exact d_get1 hu I' g ry fun w' s3 I3 rw' => ⟨_, H2, back s3 I3, rw', q _ rn⟩
  · rw [if_neg c] at p1; exact False.elim p1
theorem get_ask2 {v k d : Val} {h : MH} {u : Val} {h' : MH} (e : mtsem .get2 v [k, d] h = .ok u h') : ∃ i ob o, v = .ref i ∧ h[i]? = some ob ∧ askO ob k = some o ∧ u = o.getD d ∧ h' = h := by
  cases v with
  | ref i =>
    simp only [mtsem] at e
    split at e
    · rename_i w kvs hi
      by_cases c : emT w kvs k = true
      · rw [if_pos c] at e
        cases e
        exact ⟨i, _, none, rfl, hi, by simp only [askO]; rw [if_pos c], rfl, rfl⟩
      · rw [if_neg c] at e
        split at e
        · rename_i c' ek
          cases e
          exact ⟨i, _, _, rfl, hi, by simp only [askO]; rw [if_neg c, ek]; rfl, rfl, rfl⟩
        · cases e
    · rename_i kvs hi
      split at e
      · rename_i c' ek
        cases e
        exact ⟨i, _, _, rfl, hi, by simp only [askO]; rw [ek]; rfl, rfl, rfl⟩
      · cases e
    · cases e
  | _ => simp only [mtsem] at e; cases e
theorem get_d2 {v : Val} {h : MH} (c : mtOk .get2 v h = true) : ∃ i, v = .ref i ∧ ((∃ w kvs, h[i]? = some (.dct w kvs)) ∨ ∃ kvs, h[i]? = some (.dtt kvs)) := by
  unfold mtOk at c
  split at c
  · split at c
    · cases c
    · exact ⟨_, rfl, .inl ⟨_, _, by assumption⟩⟩
    · exact ⟨_, rfl, .inr ⟨_, by assumption⟩⟩
    · cases c
  · cases c
  · cases c
  · cases c
/-- d.get(k, x) -/
theorem pe_dg2X (S : Sx tb L P k X blk N sc W) {o e f : Expr} {x : E} {xs : List E} {ap cp : Pos} (ok : okB o = true) (hline : (ap.endLine == cp.line) = true) (oke : okE e = true) (okf : okE f = true) (ho : PE X o (tM L P W x)) (ha : PA X [e, f] (tMs L P W xs)) :
    PE X (.Call (.Attribute o (Str.ofString "get") ap) [e, f] [] cp) (tM L P W (.mth .get2 x xs)) := by
  have hu : X.A.units + 1 < cLine := by have := S.units; omega
  have tr : backTo cp (starEach [e, f] X.env) = [(false, eval e X.env), (false, eval f X.env)] := by rw [okE_star oke, okE_star okf]; rfl
  refine ⟨fun pins s σ H Q I ⟨φ, h, ρ, R, En, p⟩ => ?_⟩
  simp only [evE] at p
  refine wpAny_Call_method (okB_base ok _ _) (by rw [tr]; rfl) hline PySem.F.plainAttrs_dict PySem.F.slot_dict_get PySem.F.type_dict_get (thn (ho.run pins s σ H _ I ⟨φ, h, ρ, R, En, Post.bind (rel0 := vR L) p⟩) fun u s1 ⟨xv, H1, I1, rx, φ1, h1, v, E1, R1, r1, p1⟩ => ?_)
  by_cases c : mtOk .get2 v h1 = true
  · rw [if_pos c] at p1
    obtain ⟨i, rfl, hi⟩ := get_d2 c
    obtain ⟨a, ha', _⟩ := r1.refI
    subst ha'
    cases (show u = Value.ref a from rx)
    have d : IsD H1 a := by
      rcases hi with ⟨w, kvs, hi⟩ | ⟨kvs, hi⟩
      · obtain ⟨a', ea, _, q⟩ := R1.at hi r1
        cases ea
        obtain ⟨ys, q1, _⟩ := q.dctI
        exact .inl ⟨ys, q1⟩
      · obtain ⟨a', ea, _, q⟩ := R1.at hi r1
        cases ea
        cases q with
        | dT hq kr => exact .inr ⟨_, .inl hq⟩
    obtain ⟨t1, t2, _⟩ := isD_at I1 d
    refine ⟨t1, t2, ?_⟩
    have hA := ha.run cp pins s1 σ H1 (fun ys H2 => ∃ φ2 h2 w d y yd ob o, ys = [y, yd] ∧ Rel L φ2 h2 H2 ∧ VR L φ2 H2 (.ref i) (.ref a) ∧ VR L φ2 H2 w y ∧ VR L φ2 H2 d yd ∧ h2[i]? = some ob ∧ askO ob w = some o ∧ ∀ z, VR L φ2 H2 (o.getD d) z → Q z H2) I1 ⟨φ1, h1, ρ, R1, En.mono E1, by
      cases e2 : evEs P xs ρ h1 with
      | bad => rw [e2] at p1; exact False.elim p1
      | err c fs h2 => rw [e2] at p1; exact p1
      | ok ws h2 =>
        rw [e2] at p1
        intro ys H2 φ2 E2 R2 r2
        have p2 := Post.step E2 p1
        simp only [bind_ok] at p2
        have e4 : ∀ {z h3}, mtsem .get2 (.ref i) ws h2 = .ok z h3 → ∃ w d, ws = [w, d] := by
          intro z h3 q
          simp only [mtsem] at q
          match ws, q with
          | [], q => cases q
          | [_], q => cases q
          | [w, d], q => exact ⟨w, d, rfl⟩
          | _ :: _ :: _ :: _, q => cases q
        cases e3 : mtsem .get2 (.ref i) ws h2 with
        | bad => rw [e3] at p2; exact False.elim p2
        | err c fs h3 => exact absurd e3 (mtsem_noerr _ _ _ _ _ _ _)
        | ok z h3 =>
          obtain ⟨w, d, rfl⟩ := e4 e3
          rw [e3] at p2
          obtain ⟨i', ob, o', ei, hi', ea, rfl, rfl⟩ := get_ask2 e3
          cases ei
          obtain ⟨y, yd, rfl, ry, ryd⟩ := r2.two
          exact ⟨φ2, _, w, d, y, yd, ob, o', rfl, R2, r1.mono E2, ry, ryd, hi', ea, fun z rz => Post.here R2 rz p2⟩⟩
    rw [tr] at hA ⊢
    refine Calls.callWith_builtin rfl (Calls.evalArgs_plain ?_)
    refine thn hA fun us s2 ⟨ys, H2, I2, rv, φ2, h2, w, d0, y, yd, ob, oo, ey, R2, rd, rk, rkd, hi2, ea, q⟩ => ?_
    subst ey
    cases rv with
    | cons ry rn =>
      cases rn with
      | cons ryd rn =>
        cases rn
        refine ask_run I2 R2 rd rk hi2 ea fun p H' o' ex I' g back es rn rnd => ?_
        cases ex
        exact d_get2 hu I' g ry ryd fun w' s3 I3 rw' => ⟨_, H2, back s3 I3, rw', q _ (rnd _ _ rkd)⟩
  · rw [if_neg c] at p1; exact False.elim p1
/-- x.bit_length() -/
theorem pe_bitM (S : Sx tb L P k X blk N sc W) {o : Expr} {x : E} {ap cp : Pos} (ok : okB o = true) (hline : (ap.endLine == cp.line) = true) (ho : PE X o (tM L P W x)) :
    PE X (.Call (.Attribute o (Str.ofString "bit_length") ap) [] [] cp) (tM L P W (.mth .bitlen x [])) := by
  refine PE.weak (pe_bits ho (okB_base ok _ _) hline) fun σ H Q ⟨φ, h, ρ, R, En, p⟩ => ?_
  simp only [evE] at p
  refine ⟨φ, h, ρ, R, En, (Post.bind (rel0 := vR L) p).imp fun y H1 ⟨φ1, h1, v, E1, R1, r1, p1⟩ => ?_⟩
  by_cases c : mtOk .bitlen v h1 = true
  · rw [if_pos c] at p1
    cases v with
    | int i =>
      simp only [evEs, bind_ok] at p1
      exact ⟨i, r1.intI, Post.here R1 (.int _) p1⟩
    | ref a =>
      exfalso
      unfold mtOk at c
      dsimp only at c
      split at c <;> cases c
    | _ => cases c
  · rw [if_neg c] at p1; exact False.elim p1
/-- c.index(x), c a constant tuple of texts -/
noncomputable def rGix (K : PySem.W.Frag) : V → List V → Hp → VK → Prop := fun x xs H Q => ∃ (a : Addr) (ys : List Str) (z : Str), x = .ref a ∧ xs = [.str z] ∧ SqT K H a (ys.map V.str) ∧ z ∈ ys ∧ Q (.int (ys.idxOf z : Nat)) H
theorem strs_are : ∀ {ys : List Str} {vs : List Value}, Vals (ys.map V.str) vs → StrsAre vs ys
  | [], _, .nil => .nil
  | y :: ys, _, .cons r t => by
    obtain ⟨tk, rfl⟩ := r
    exact .cons y tk (strs_are t)
theorem mt_gix : MtR X "tuple.index" (rGix X.K) := by
  intro pins s σ H x xs v us Q I rx rxs ⟨a, ys, z, e1, e2, hq, hz, q⟩
  subst e1 e2
  cases (show v = Value.ref a from rx)
  obtain ⟨u, rfl, ru⟩ : ∃ u, us = [u] ∧ RelV (.str z) u := by
    cases rxs with
    | cons r t => cases t; exact ⟨_, rfl, r⟩
  obtain ⟨tk, rfl⟩ := ru
  obtain ⟨its, rv, p, _⟩ := I.tuple hq
  exact PySem.SeqAt.tuple_index_strs p (strs_are rv) hz ⟨.int (ys.idxOf z : Nat), H, I.tok _, ⟨_, rfl⟩, q⟩
theorem strsO_map : ∀ {xs : List Val} {ys : List Str}, strsO xs = some ys → xs = ys.map .str
  | [], ys, h => by cases h; rfl
  | x :: xs, ys, h => by
    simp only [strsO, mapO] at h
    split at h
    · rename_i y zs e1 e2
      cases h
      cases x <;> simp at e1
      subst e1
      rw [strsO_map (xs := xs) (ys := zs) e2]
      rfl
    · cases h
theorem vrs_strs {φ : Ph} {H : Hp} : ∀ {ys : List Str} {xs : List V}, VRs L φ H (ys.map .str) xs → xs = ys.map V.str
  | [], _, .nil => rfl
  | y :: ys, _, .cons r t => by
    rw [r.strI, vrs_strs t]; rfl
theorem pe_gix (S : Sx tb L P k X blk N sc W) {g : String} {e : Expr} {x : E} {p ap cp : Pos} (hg : Mn.gl sc (Str.ofString g) = true) (hc : spC (Str.ofString g) = true) (hb : tb.glb.contains g = true) (hline : (ap.endLine == cp.line) = true) (oke : okE e = true) (he : PE X e (tM L P W x)) :
    PE X (.Call (.Attribute (.Name (Str.ofString g) p) (Str.ofString "index") ap) [e] [] cp) (tM L P W (.gix g x)) := by
  obtain ⟨v, u, y, e1, e2, e3, e4, e5⟩ := S.pr.glb g hb
  unfold spC at hc
  simp only [Bool.and_eq_true, Bool.not_eq_true'] at hc
  have ho : PE X (.Name (Str.ofString g) p) (tC y) := pe_glob (S.gl hg) e2 e3 hc.1.1
  refine PE.weak (pe_bm PySem.F.plainAttrs_tuple PySem.F.slot_tuple_index PySem.F.type_tuple_index mt_gix ho (pa_cons he pa_nil (okE_star oke _ _)) (okB_base (o := .Name (Str.ofString g) p) rfl _ _) (by rw [okE_star oke]; rfl) hline (okE_star oke _ _) rfl) fun σ H Q ⟨φ, h, ρ, R, En, q⟩ => ?_
  simp only [evE] at q
  rw [e1] at q
  cases v with
  | tup xs =>
    simp only at q
    have tI : ∀ φ H, ∃ a, y = .ref a ∧ u = .ref a ∧ ∃ zs, SqT L.K H a zs ∧ VRs L φ H xs zs := fun φ H => by
      obtain ⟨a, zs, r1, r2, r3⟩ := (e4 φ H).tupI
      subst r1
      exact ⟨a, rfl, e3, zs, r2, r3⟩
    obtain ⟨a, ya, ua, _⟩ := tI φ H
    subst ya
    obtain ⟨o, o1, o2, o3⟩ := e5 a ua
    refine ⟨.inr (.inl ⟨rfl, o, by rw [S.hK]; exact o1, o2, o3⟩), φ, h, ρ, R, En, (Post.bind (rel0 := vR L) q).imp fun z H1 ⟨φ1, h1, w, E1, R1, r1, p1⟩ => ?_⟩
    obtain ⟨a', ya', _, zs, s1, s2⟩ := tI φ1 H1
    cases ya'
    cases w with
    | str zz =>
      unfold gixO at p1
      cases es : strsO xs with
      | none => simp only [es] at p1; exact False.elim p1
      | some ys =>
        simp only [es] at p1
        by_cases c : zz ∈ ys
        · rw [if_pos c] at p1
          have ex := strsO_map es
          subst ex
          have ez := vrs_strs s2
          subst ez
          exact ⟨a, ys, zz, rfl, by rw [r1.strI], by rw [S.hK]; exact s1, c, Post.here R1 (.int _) p1⟩
        · rw [if_neg c] at p1; exact False.elim p1
    | _ => exact False.elim p1
  | _ => exact False.elim q
end
end Mn
/-! Mini: zip of a tuple and a list -/
namespace Mn
open PySem PySem.Spec PyProof.Rows L2
open PySem.Sem (wp)
/-- one way to be walked: where the walker stands, what is walked, what the next step gives -/
structure Wkr (P : Program) (w : World) where
  on : Heap → Addr → Addr → Nat → Prop
  has : Heap → Addr → Array Value → Prop
  one : ∀ {A : Around} {E : Value → Shared → Prop} {s : Shared} {j l : Addr} {i : Nat} {xs : Array Value} {x : Value} {Q : Value → Shared → Prop}, on s.heap j l i → has s.heap l xs → xs[i]? = some x →
    (∀ g, on g j l (i + 1) → Heap.SameBut j s.heap g → Q x { s with heap := g }) → wpAny (model P w) A (Builtin.SmallTypes.nextOf (.ref j)) Q E s
  out : ∀ {A : Around} {E : Value → Shared → Prop} {s : Shared} {j l : Addr} {i : Nat} {xs : Array Value} {Q : Value → Shared → Prop}, A.handled = none → on s.heap j l i → has s.heap l xs → xs[i]? = none →
    (∀ g e, Heap.ExtBut j s.heap g → (∃ o, g.get? e = some o ∧ o.cls = .type "StopIteration") → E (.ref e) { s with heap := g }) → wpAny (model P w) A (Builtin.SmallTypes.nextOf (.ref j)) Q E s
  onX : ∀ {h g : Heap} {b j l : Addr} {i : Nat}, on h j l i → Heap.ExtBut b h g → j ≠ b → on g j l i
  hasX : ∀ {h g : Heap} {b l : Addr} {xs : Array Value}, has h l xs → Heap.ExtBut b h g → l ≠ b → has g l xs
  onA : ∀ {h g : Heap} {j l : Addr} {i : Nat}, on h j l i → (∀ o, h.get? j = some o → g.get? j = some o) → on g j l i
  lt : ∀ {h : Heap} {j l : Addr} {i : Nat}, on h j l i → j < h.objs.size
noncomputable def wlkT (P : Program) (w : World) : Wkr P w where
  on := fun h j l i => h.IsTupleIter j l i
  has := fun h l xs => h.IsTuple l xs
  one := fun a b c d => RZ.nextOf_tuple_item a b c d
  out := fun n a b c d => RZ.nextOf_tuple_end n a b c d
  onX := fun a b c => a.extBut b c
  hasX := fun a b c => a.extBut b c
  onA := fun a b => a.at b
  lt := fun ⟨_, e, _⟩ => Heap.lt_size e
noncomputable def wlkL (P : Program) (w : World) : Wkr P w where
  on := fun h j l i => h.IsListIter j l i
  has := fun h l xs => h.IsList l xs
  one := fun a b c d => wpAny_nextOf_list_item a b c d
  out := fun n a b c d => wpAny_nextOf_list_end n a b c d
  onX := fun a b c => a.extBut b c
  hasX := fun a b c => a.extBut b c
  onA := fun a b => a.at b
  lt := fun ⟨_, e, _⟩ => Heap.lt_size e
section
variable {P : Program} {w : World} {A : Around} {E : Value → Shared → Prop} {s : Shared} (U V : Wkr P w) {z p o i j a b : Addr} {m n : Nat} {xs ys : Array Value} {x y c d : Value}
/-- what stands beside the five of a zip -/
noncomputable abbrev Apart4 (z o i j : Addr) (h g : Heap) : Prop := ∀ k u, k ≠ z → k ≠ o → k ≠ i → k ≠ j → h.get? k = some u → g.get? k = some u
theorem zipW_one {Q : Value → Shared → Prop} (D : ZipApart z p o i j a b) (hz : IsZip s.heap z p o .none) (hp : IsPair s.heap p (.ref i) (.ref j)) (ho : IsPair s.heap o c d)
    (hi : U.on s.heap i a m) (hj : V.on s.heap j b n) (ha : U.has s.heap a xs) (hb : V.has s.heap b ys) (ex : xs[m]? = some x) (ey : ys[n]? = some y)
    (fin : ∀ g, IsZip g z p o (rawInt s.heap.objs.size) → IsPair g o x y → U.on g i a (m + 1) → V.on g j b (n + 1) → IsPair g s.heap.objs.size x y → g.objs.size = s.heap.objs.size + 1 → Apart4 z o i j s.heap g → Q (.ref s.heap.objs.size) { s with heap := g }) :
    wpAny (model P w) A (Builtin.«zip.__next__» ⟨[.ref z], []⟩) (fun f s' => ∃ v, f = .done (.ret v) ∧ Q v s') E s := by
  -- strict, the walkers, whether the pair is free
  show wpAny _ _ (field (.ref z) 2 >>= _) _ _ _
  refine wpAny_bind (wpAny_field hz rfl (x := .bool false) rfl (?_ : wpAny _ _ (field (.ref z) 3 >>= _) _ _ _))
  refine wpAny_bind (wpAny_field hz rfl (x := .ref p) rfl (wpAny_bind (wpAny_seqItems hp rfl (?_ : wpAny _ _ (Builtin.SmallTypes.ownedTupleIsFree (.ref z) >>= _) _ _ _))))
  refine wpAny_bind (?_ : wpAny _ _ (Builtin.SmallTypes.ownedTupleIsFree (.ref z)) _ _ _)
  simp only [Builtin.SmallTypes.ownedTupleIsFree]
  refine wpAny_bind (wpAny_field hz rfl (x := .none) rfl (wpAny_pure (?_ : wpAny _ _ (if true = true then _ else _) _ _ _)))
  rw [if_pos rfl]
  refine wpAny_bind (wpAny_rule (wpAny_bind (wpAny_field hz rfl (x := .ref o) rfl (wpAny_bind (wpAny_setField_rec hz (by simp) fun g1 z1 b1 => ?_)))))
  have z1 : IsZip g1 z p o .ellipsis := z1
  refine wpAny_bind ?_
  simp only [List.zipIdx_cons, List.forIn_cons, List.zipIdx_nil, List.forIn_nil]
  -- the first walker
  refine wpAny_bind (wpAny_bind (wpAny_onRaise (?_ : wpAny _ _ (Builtin.SmallTypes.nextOf (.ref i) >>= _) _ _ _)))
  refine wpAny_bind (U.one (U.onX hi b1.extBut D.i1z) (U.hasX ha b1.extBut D.l1z) ex fun g2 i2 b2 => wpAny_pure ?_)
  have o2 : IsPair g2 o c d := b2.extBut _ _ D.TOi1 (b1.extBut _ _ D.TOz ho)
  refine wpAny_bind (wpAny_seqItems o2 rfl (wpAny_bind (wpAny_updateSeq_pair o2 fun g3 o3 b3 => wpAny_bind (wpAny_letGo (wpAny_pure ?_)))))
  have o3 : IsPair g3 o x d := o3
  -- the second
  refine wpAny_bind (wpAny_bind (wpAny_onRaise (?_ : wpAny _ _ (Builtin.SmallTypes.nextOf (.ref j) >>= _) _ _ _)))
  have j3 : V.on g3 j b n := V.onX (V.onX (V.onX hj b1.extBut D.i2z) b2.extBut D.i12.symm) b3.extBut D.TOi2.symm
  have b3' : V.has g3 b ys := V.hasX (V.hasX (V.hasX hb b1.extBut D.l2z) b2.extBut D.l2i1) b3.extBut D.l2TO
  refine wpAny_bind (V.one j3 b3' ey fun g4 j4 b4 => wpAny_pure ?_)
  have o4 : IsPair g4 o x d := b4.extBut _ _ D.TOi2 o3
  refine wpAny_bind (wpAny_seqItems o4 rfl (wpAny_bind (wpAny_updateSeq_pair o4 fun g5 o5 b5 => wpAny_bind (wpAny_letGo (wpAny_pure (wpAny_pure ?_))))))
  have o5 : IsPair g5 o x y := o5
  -- handed out
  refine wpAny_bind (wpAny_seqItems o5 rfl (wpAny_bind (wpAny_newTuple ?_)))
  have sz : g5.objs.size = s.heap.objs.size := by rw [b5.1, b4.1, b3.1, b2.1, b1.1]
  have z5 : IsZip g5 z p o .ellipsis := by
    refine b5.extBut _ _ D.TOz.symm (b4.extBut _ _ D.i2z.symm (b3.extBut _ _ D.TOz.symm ?_))
    exact b2.extBut _ _ D.i1z.symm z1
  have k5 : Apart4 z o i j s.heap g5 := fun k u n1 n2 n3 n4 e => by
    have e1 := b1.extBut _ _ n1 e
    have e3 := b3.extBut _ _ n2 (b2.extBut _ _ n3 e1)
    exact b5.extBut _ _ n2 (b4.extBut _ _ n4 e3)
  have i5 : U.on g5 i a (m + 1) := U.onX (U.onX (U.onX i2 b3.extBut D.TOi1.symm) b4.extBut D.i12) b5.extBut D.TOi1.symm
  have j5 : V.on g5 j b (n + 1) := V.onX j4 b5.extBut D.TOi2.symm
  have ltz : z < g5.objs.size := Heap.lt_size z5
  refine wpAny_bind (?_ : wpAny _ _ (Builtin.SmallTypes.ownedTupleHandOut (.ref z) (.ref g5.objs.size)) _ _ _)
  simp only [Builtin.SmallTypes.ownedTupleHandOut]
  have z6 : IsZip (g5.push { cls := .type "tuple", data := .seq #[x, y] }) z p o .ellipsis := Heap.get?_push_of_some _ z5
  refine wpAny_bind (wpAny_setField_rec z6 (by simp) fun g7 z7 b7 => wpAny_setField_rec (z7 : IsZip g7 z p o (rawInt g5.objs.size)) (by simp) fun g8 z8 b8 => ?_)
  have z8 : IsZip g8 z p o (rawInt g5.objs.size) := z8
  have up : ∀ k u, k ≠ z → g5.get? k = some u → g8.get? k = some u := fun k u nk e => b8.extBut _ _ nk (b7.extBut _ _ nk (Heap.get?_push_of_some _ e))
  have t8 : IsPair g8 g5.objs.size x y := b8.extBut _ _ (Nat.ne_of_gt ltz) (b7.extBut _ _ (Nat.ne_of_gt ltz) (Heap.get?_push_size _ rfl))
  have s8 : g8.objs.size = g5.objs.size + 1 := by rw [b8.1, b7.1, Heap.size_push]
  rw [sz] at z8 t8 s8
  refine wpAny_pure ⟨_, rfl, ?_⟩
  show Q (.ref g5.objs.size) _
  rw [sz]
  exact fin g8 z8 (up _ _ D.TOz o5) (U.onA i5 fun u e => up _ u D.i1z e) (V.onA j5 fun u e => up _ u D.i2z e) t8 s8 fun k u n1 n2 n3 n4 e => up k u n1 (k5 k u n1 n2 n3 n4 e)
theorem zipW_out {Q : Fin → Shared → Prop} (hh : A.handled = none) (D : ZipApart z p o i j a b) (hz : IsZip s.heap z p o .none) (hp : IsPair s.heap p (.ref i) (.ref j)) (ho : IsPair s.heap o c d)
    (hi : U.on s.heap i a m) (hj : V.on s.heap j b n) (ha : U.has s.heap a xs) (hb : V.has s.heap b ys) (ends : xs[m]? = none ∨ ys[n]? = none)
    (fin : ∀ g e, Apart4 z o i j s.heap g → (∃ u, g.get? e = some u ∧ u.cls = .type "StopIteration") → E (.ref e) { s with heap := g }) :
    wpAny (model P w) A (Builtin.«zip.__next__» ⟨[.ref z], []⟩) Q E s := by
  show wpAny _ _ (field (.ref z) 2 >>= _) _ _ _
  refine wpAny_bind (wpAny_field hz rfl (x := .bool false) rfl (?_ : wpAny _ _ (field (.ref z) 3 >>= _) _ _ _))
  refine wpAny_bind (wpAny_field hz rfl (x := .ref p) rfl (wpAny_bind (wpAny_seqItems hp rfl (?_ : wpAny _ _ (Builtin.SmallTypes.ownedTupleIsFree (.ref z) >>= _) _ _ _))))
  refine wpAny_bind (?_ : wpAny _ _ (Builtin.SmallTypes.ownedTupleIsFree (.ref z)) _ _ _)
  simp only [Builtin.SmallTypes.ownedTupleIsFree]
  refine wpAny_bind (wpAny_field hz rfl (x := .none) rfl (wpAny_pure (?_ : wpAny _ _ (if true = true then _ else _) _ _ _)))
  rw [if_pos rfl]
  refine wpAny_bind (wpAny_rule (wpAny_bind (wpAny_field hz rfl (x := .ref o) rfl (wpAny_bind (wpAny_setField_rec hz (by simp) fun g1 z1 b1 => ?_)))))
  have z1 : IsZip g1 z p o .ellipsis := z1
  refine wpAny_bind ?_
  simp only [List.zipIdx_cons, List.forIn_cons, List.zipIdx_nil, List.forIn_nil]
  refine wpAny_bind (wpAny_bind (wpAny_onRaise (?_ : wpAny _ _ (Builtin.SmallTypes.nextOf (.ref i) >>= _) _ _ _)))
  have i1 := U.onX hi b1.extBut D.i1z
  have a1 := U.hasX ha b1.extBut D.l1z
  rcases Option.eq_none_or_eq_some xs[m]? with ex | ⟨x, ex⟩
  · refine wpAny_bind (U.out hh i1 a1 ex fun g2 e b2 ⟨u, hu, cu⟩ => ?_)
    have z2 : IsZip g2 z p o .ellipsis := b2 _ _ D.i1z.symm z1
    have ne : e ≠ z := fun q => by rw [q, z2] at hu; cases hu; simp at cu
    refine wpAny_setField_rec z2 (by simp) fun g3 _ b3 => fin g3 e (fun k v n1 _ n3 _ q => ?_) ⟨u, b3.extBut _ _ ne hu, cu⟩
    exact b3.extBut _ _ n1 (b2 _ _ n3 (b1.extBut _ _ n1 q))
  · have ey : ys[n]? = none := ends.resolve_left fun q => by rw [ex] at q; cases q
    refine wpAny_bind (U.one i1 a1 ex fun g2 i2 b2 => wpAny_pure ?_)
    have o2 : IsPair g2 o c d := b2.extBut _ _ D.TOi1 (b1.extBut _ _ D.TOz ho)
    refine wpAny_bind (wpAny_seqItems o2 rfl (wpAny_bind (wpAny_updateSeq_pair o2 fun g3 o3 b3 => wpAny_bind (wpAny_letGo (wpAny_pure ?_)))))
    refine wpAny_bind (wpAny_bind (wpAny_onRaise (?_ : wpAny _ _ (Builtin.SmallTypes.nextOf (.ref j) >>= _) _ _ _)))
    have j3 : V.on g3 j b n := V.onX (V.onX (V.onX hj b1.extBut D.i2z) b2.extBut D.i12.symm) b3.extBut D.TOi2.symm
    have b3' : V.has g3 b ys := V.hasX (V.hasX (V.hasX hb b1.extBut D.l2z) b2.extBut D.l2i1) b3.extBut D.l2TO
    refine wpAny_bind (V.out hh j3 b3' ey fun g4 e b4 ⟨u, hu, cu⟩ => ?_)
    have z4 : IsZip g4 z p o .ellipsis := b4 _ _ D.i2z.symm (b3.extBut _ _ D.TOz.symm (b2.extBut _ _ D.i1z.symm z1))
    have ne : e ≠ z := fun q => by rw [q, z4] at hu; cases hu; simp at cu
    refine wpAny_setField_rec z4 (by simp) fun g5 _ b5 => fin g5 e (fun k v n1 n2 n3 n4 q => ?_) ⟨u, b5.extBut _ _ ne hu, cu⟩
    exact b5.extBut _ _ n1 (b4 _ _ n4 (b3.extBut _ _ n2 (b2.extBut _ _ n3 (b1.extBut _ _ n1 q))))
theorem nextW_one {Q : Option Value → Shared → Prop} (D : ZipApart z p o i j a b) (hz : IsZip s.heap z p o .none) (hp : IsPair s.heap p (.ref i) (.ref j)) (ho : IsPair s.heap o c d)
    (hi : U.on s.heap i a m) (hj : V.on s.heap j b n) (ha : U.has s.heap a xs) (hb : V.has s.heap b ys) (ex : xs[m]? = some x) (ey : ys[n]? = some y)
    (fin : ∀ g, IsZip g z p o (rawInt s.heap.objs.size) → IsPair g o x y → U.on g i a (m + 1) → V.on g j b (n + 1) → IsPair g s.heap.objs.size x y → g.objs.size = s.heap.objs.size + 1 → Apart4 z o i j s.heap g → Q (some (.ref s.heap.objs.size)) { s with heap := g }) :
    wpAny (model P w) A (pyNext (.ref z)) Q E s := by
  have ty : s.TypeIs (.ref z) "zip" := ⟨_, hz, rfl⟩
  unfold pyNext
  refine wpAny_bind (wpAny_attempt (wpAny_callSpecial?_slot (name := Str.ofString "__next__") ty F.slot_zip_next (wpAny_call_entry F.slot_zip_next ty F.entry_zip_next ?_ (F.args_zip_next_1 _))))
  exact zipW_one U V D hz hp ho hi hj ha hb ex ey fun g q1 q2 q3 q4 q5 q6 q7 => wpAny_pure (fin g q1 q2 q3 q4 q5 q6 q7)
theorem nextW_out {Q : Option Value → Shared → Prop} (hh : A.handled = none) (D : ZipApart z p o i j a b) (hz : IsZip s.heap z p o .none) (hp : IsPair s.heap p (.ref i) (.ref j)) (ho : IsPair s.heap o c d)
    (hi : U.on s.heap i a m) (hj : V.on s.heap j b n) (ha : U.has s.heap a xs) (hb : V.has s.heap b ys) (ends : xs[m]? = none ∨ ys[n]? = none)
    (fin : ∀ g, Apart4 z o i j s.heap g → Q none { s with heap := g }) : wpAny (model P w) A (pyNext (.ref z)) Q E s := by
  have ty : s.TypeIs (.ref z) "zip" := ⟨_, hz, rfl⟩
  unfold pyNext
  refine wpAny_bind (wpAny_attempt (wpAny_callSpecial?_slot (name := Str.ofString "__next__") ty F.slot_zip_next (wpAny_call_entry F.slot_zip_next ty F.entry_zip_next ?_ (F.args_zip_next_1 _))))
  refine zipW_out U V hh D hz hp ho hi hj ha hb ends fun g e k ⟨u, hu, cu⟩ => ?_
  exact wpAny_bind (wpAny_isInstance (T := "StopIteration") (b := true) ⟨u, hu, cu⟩ isSubtype_stop (wpAny_pure (fin g k)))
end
/-! ### zip(tuple, list) is made -/
noncomputable abbrev zx1 (h : Heap) (a : Addr) : Heap := h.push { cls := .type "tuple_iterator", data := .fields #[.ref a, .int 0 0] }
noncomputable abbrev zx2 (h : Heap) (a b : Addr) : Heap := (zx1 h a).push { cls := .type "list_iterator", data := .fields #[.ref b, .int 0 0] }
noncomputable abbrev zx3 (h : Heap) (a b : Addr) : Heap := (zx2 h a b).push { cls := .type "tuple", data := .seq #[.ref h.objs.size, .ref (zx1 h a).objs.size] }
noncomputable abbrev zx4 (h : Heap) (a b : Addr) : Heap := (zx3 h a b).push { cls := .type "tuple", data := .seq #[.none, .none] }
noncomputable abbrev zx5 (h : Heap) (a b : Addr) : Heap := (zx4 h a b).push { cls := .type "zip", data := .fields #[.none, .bool false, .bool false, .ref (zx2 h a b).objs.size, .ref (zx3 h a b).objs.size] }
theorem zx_new (a b : Addr) (xs ys : Array Value) : Meets (Builtin.«zip.__new__» ⟨[.type "zip", .ref a, .ref b], []⟩) (fun _ R s => s.heap.IsTuple a xs ∧ s.heap.IsList b ys ∧ R (.ok (.ret (.ref (zx4 s.heap a b).objs.size))) { s with heap := zx5 s.heap a b }) := by
  refine .of_wp fun P w A R s q => ?_
  obtain ⟨hp, g, d, tk, os⟩ := s
  obtain ⟨qa, qb, r⟩ := q
  have hsub := sub_zip
  have ta : Heap.IsTuple (Shared.heap ⟨hp, g, d, tk, os⟩) a xs := qa
  have tb : Heap.IsList (Shared.heap ⟨hp.push { cls := .type "tuple_iterator", data := .fields #[.ref a, .int 0 0] }, g, d, tk, os⟩) b ys := Heap.IsList.push qb _
  wp_walk using wpAny_pyIter_tuple ta, wpAny_pyIter_list tb
  exact ⟨_, rfl, r⟩
theorem zx_call {P : Program} {w : World} {A : Around} {E : Value → Shared → Prop} {s : Shared} {a b : Addr} {xs ys : Array Value} {Q : Value → Shared → Prop} (ha : s.heap.IsTuple a xs) (hb : s.heap.IsList b ys)
    (fin : ∀ g, IsZip g (s.heap.objs.size + 4) (s.heap.objs.size + 2) (s.heap.objs.size + 3) .none → IsPair g (s.heap.objs.size + 2) (.ref s.heap.objs.size) (.ref (s.heap.objs.size + 1)) → IsPair g (s.heap.objs.size + 3) .none .none →
      g.IsTupleIter s.heap.objs.size a 0 → g.IsListIter (s.heap.objs.size + 1) b 0 → g.objs.size = s.heap.objs.size + 5 → (∀ c u, s.heap.get? c = some u → g.get? c = some u) → Q (.ref (s.heap.objs.size + 4)) { s with heap := g }) :
    wpAny (model P w) A (call (.type "zip") [.ref a, .ref b]) Q E s := by
  refine callType_new F.called_zip (by decide) (F.typeCall_zip_2 _ _) (F.newCall_zip_2 _ _) (fun obj => F.args_object_init_3 obj _ _) F.entry_zip_new (zx_new a b xs ys) ⟨ha, hb, ?_⟩
  have n1 : (zx1 s.heap a).objs.size = s.heap.objs.size + 1 := Heap.size_push ..
  have n2 : (zx2 s.heap a b).objs.size = s.heap.objs.size + 2 := by rw [Heap.size_push, n1]
  have n3 : (zx3 s.heap a b).objs.size = s.heap.objs.size + 3 := by rw [Heap.size_push, n2]
  have n4 : (zx4 s.heap a b).objs.size = s.heap.objs.size + 4 := by rw [Heap.size_push, n3]
  have n5 : (zx5 s.heap a b).objs.size = s.heap.objs.size + 5 := by rw [Heap.size_push, n4]
  have up : ∀ {h : Heap} {k : Addr} {u v : Obj}, h.get? k = some u → (h.push v).get? k = some u := fun e => Heap.get?_push_of_some _ e
  have g5 : (zx5 s.heap a b).get? (zx4 s.heap a b).objs.size = some _ := Heap.get?_push_size _ rfl
  have g4 : (zx5 s.heap a b).get? (zx3 s.heap a b).objs.size = some _ := up (Heap.get?_push_size _ rfl)
  have g3 : (zx5 s.heap a b).get? (zx2 s.heap a b).objs.size = some _ := up (up (Heap.get?_push_size _ rfl))
  have g2 : (zx5 s.heap a b).get? (zx1 s.heap a).objs.size = some _ := up (up (up (Heap.get?_push_size _ rfl)))
  have g1 : (zx5 s.heap a b).get? s.heap.objs.size = some _ := up (up (up (up (Heap.get?_push_size _ rfl))))
  show _ ∧ _
  rw [n2, n3, n4] at g5
  rw [n3] at g4
  rw [n1, n2] at g3
  rw [n1] at g2
  rw [n4]
  exact ⟨⟨_, g5, rfl⟩, fin _ g5 g3 g4 ⟨_, g1, rfl, rfl⟩ ⟨_, g2, rfl, rfl⟩ n5 fun c u e => up (up (up (up (up e))))⟩
/-! ### walked -/
noncomputable def ItzX (K : PySem.W.Frag) (a b : Addr) : It :=
  ⟨fun i H => ∃ (xs ys : List V) (x y : V), SqT K H a xs ∧ SqL K H b ys ∧ xs[i]? = some x ∧ ys[i]? = some y,
    fun i H v H' => ∃ T x y, v = .ref T ∧ H T = none ∧ H' = upd H T (.tup [x, y]) ∧ (∀ xs, SqT K H a xs → xs[i]? = some x) ∧ ∀ ys, SqL K H b ys → ys[i]? = some y,
    fun i H => ∃ xs ys : List V, SqT K H a xs ∧ SqL K H b ys ∧ (xs.length ≤ i ∨ ys.length ≤ i)⟩
theorem turn_zx {P : Program} {w : World} {K : PySem.W.Frag} {elts : List Expr} {kk : Nat} {tp : Pos} {a b z p o i j : Addr} (D : ZipApart z p o i j a b) :
    Turn P w K (.Tuple elts kk tp) (ItzX K a b) [z, p, o, i, j] z (fun n h => IsZip h z p o .none ∧ IsPair h p (.ref i) (.ref j) ∧ (∃ x y, IsPair h o x y) ∧ h.IsTupleIter i a n ∧ h.IsListIter j b n) := by
  have five : ∀ {c : Addr}, c ∈ [z, p, o, i, j] → c = z ∨ c = p ∨ c = o ∨ c = i ∨ c = j := fun hc => by simpa using hc
  refine ⟨by simp, ?_, ?_, ?_, ?_, fun A n s Q E st h => wpAny_pyIter_zip st.1 h⟩
  · rintro n h ⟨hz, hp, ⟨x, y, ho⟩, ⟨u1, e1, _, d1⟩, ⟨u2, e2, _, d2⟩⟩ c hc
    rcases five hc with rfl | rfl | rfl | rfl | rfl
    · exact ⟨_, hz, fun v q => nomatch q⟩
    · exact ⟨_, hp, fun v q => nomatch q⟩
    · exact ⟨_, ho, fun v q => nomatch q⟩
    · exact ⟨u1, e1, fun v q => by rw [d1] at q; cases q⟩
    · exact ⟨u2, e2, fun v q => by rw [d2] at q; cases q⟩
  · rintro n h g ⟨hz, hp, ⟨x, y, ho⟩, h1, h2⟩ k
    exact ⟨k z (by simp) _ hz, k p (by simp) _ hp, ⟨x, y, k o (by simp) _ ho⟩, h1.at (k i (by simp)), h2.at (k j (by simp))⟩
  · intro X hP hw hK hc n pins s σ H E I hf st hg
    subst hP hw hK
    obtain ⟨hz, hp, ⟨x0, y0, ho⟩, h1, h2⟩ := st
    obtain ⟨xs, ys, x, y, qa, qb, hx, hy⟩ := hg
    obtain ⟨us, ra, pa, _⟩ := I.tuple qa
    obtain ⟨vs, rb, pb, _⟩ := I.list qb
    obtain ⟨u, hu, ru⟩ := ra.get hx
    obtain ⟨v, hv, rv⟩ := rb.get hy
    have lz : z < s.heap.objs.size := Heap.lt_size hz
    refine nextW_one (wlkT X.prog X.w) (wlkL X.prog X.w) D hz hp ho h1 h2 pa pb.isList (x := u) (y := v) (by simpa using hu) (by simpa using hv) fun g z' o' i' j' t' hsz k => ?_
    refine ⟨_, rfl, wpAny_letOwnedTupleGo_zip (s := { s with heap := g }) z' fun g2 z2 sb => ?_⟩
    have t2 : g2.get? s.heap.objs.size = some { cls := .type "tuple", data := .seq #[u, v] } := (sb.2 _ (Nat.ne_of_gt lz)).trans t'
    have obj : ObjOk X.prog X.w (upd H s.heap.objs.size (.tup [x, y])) g2 s.heap.objs.size (.tup [x, y]) := by
      refine ⟨?_, [u, v], .cons ru (.cons rv .nil), ⟨_, t2, rfl, _, rfl⟩⟩
      show 2 ≤ sizeLine
      decide
    have off : ∀ c, c ∉ [z, p, o, i, j] → c ≠ z ∧ c ≠ o ∧ c ≠ i ∧ c ≠ j := fun c n => ⟨fun q => n (by simp [q]), fun q => n (by simp [q]), fun q => n (by simp [q]), fun q => n (by simp [q])⟩
    have I1 : Inv X pins σ (upd H s.heap.objs.size (.tup [x, y])) { s with heap := g2 } := by
      refine I.turnedNew (t' := s.toks) (ch := [z, p, o, i, j]) (fun c u hb q => ?_) hf (Nat.le_refl _) obj
      obtain ⟨n1, n2, n3, n4⟩ := off c hb
      exact (sb.2 c n1).trans (k c u n1 n2 n3 n4 q)
    refine ⟨.ref s.heap.objs.size, _, I1, rfl, ⟨_, x, y, rfl, I.hok.fresh (Nat.le_refl _), rfl, fun l hl => ?_, fun l hl => ?_⟩, ⟨z2, ?_, ⟨u, v, ?_⟩, ?_, ?_⟩, fun c hcm => ?_⟩
    · rw [I.tuple_inj hl qa]; exact hx
    · rw [I.list_inj hl qb]; exact hy
    · exact (sb.2 _ D.TIz).trans (k _ _ D.TIz D.TITO D.TIi1 D.TIi2 hp)
    · exact (sb.2 _ D.TOz).trans o'
    · exact Heap.IsTupleIter.at i' fun u q => (sb.2 _ D.i1z).trans q
    · exact Heap.IsListIter.at j' fun u q => (sb.2 _ D.i2z).trans q
    · have lt : c < s.heap.objs.size := by
        rcases five hcm with rfl | rfl | rfl | rfl | rfl
        · exact lz
        · exact Heap.lt_size hp
        · exact Heap.lt_size ho
        · exact (wlkT X.prog X.w).lt h1
        · exact (wlkL X.prog X.w).lt h2
      rw [upd_ne (Nat.ne_of_lt lt)]
      exact (hf c hcm).1
  · intro X hP hw hK hc n pins s σ H E I hf st hg
    subst hP hw hK
    obtain ⟨hz, hp, ⟨x0, y0, ho⟩, h1, h2⟩ := st
    obtain ⟨xs, ys, qa, qb, hend⟩ := hg
    obtain ⟨us, ra, pa, _⟩ := I.tuple qa
    obtain ⟨vs, rb, pb, _⟩ := I.list qb
    have l1 := ra.length
    have l2 := rb.length
    have he : us.toArray[n]? = none ∨ vs.toArray[n]? = none := hend.imp (fun q => by simp; omega) (fun q => by simp; omega)
    refine nextW_out (wlkT X.prog X.w) (wlkL X.prog X.w) (I.ok.hd hc) D hz hp ho h1 h2 pa pb.isList he fun g k => ⟨rfl, I.turnedL (t' := s.toks) (ch := [z, p, o, i, j]) (fun c u hb q => ?_) hf⟩
    exact k c u (fun q' => hb (by simp [q'])) (fun q' => hb (by simp [q'])) (fun q' => hb (by simp [q'])) (fun q' => hb (by simp [q'])) q
noncomputable def iZipX (K : PySem.W.Frag) (ta : TA) : TI := fun σ H R => ta σ H fun vs H1 => ∃ a b xs ys, vs = [.ref a, .ref b] ∧ SqT K H1 a xs ∧ SqL K H1 b ys ∧ R (ItzX K a b) H1
theorem pi_zipX {X : Cx} {e e2 : Expr} {ta : TA} {p pos tpos : Pos} {elts : List Expr} {kk : Nat} (hg : Gl X "zip") (hm : X.mg "zip" = none) (ha : PA X [e, e2] ta)
    (hs : starEach [e, e2] X.env = (false, eval e X.env) :: starEach [e2] X.env) (hpl : (backTo pos (starEach [e2] X.env)).any (·.1) = false) :
    PI X (.Tuple elts kk tpos) (.Call (.Name "zip" p) [e, e2] [] pos) (iZipX X.K ta) := by
  refine ⟨fun pins s σ H R I h => ?_⟩
  refine Call_ (ld_blt I hg hm PyProof.Rows.boot_zip (PyProof.Rows.callWith_type1 (thn (ha.run pos pins s σ H _ I h) fun us s1 q => ?_) hs hpl))
  obtain ⟨vs, H1, I1, r1, a, b, xs, ys, rfl, qa, qb, q⟩ := q
  match us, r1 with
  | [_, _], .cons r (.cons r' .nil) =>
    cases r
    cases r'
    obtain ⟨us, ra, pa, _⟩ := I1.tuple qa
    obtain ⟨vs, rb, pb, _⟩ := I1.list qb
    obtain ⟨oa, ea, _⟩ := id pa
    have la : a < s1.heap.objs.size := Heap.lt_size ea
    have five : ∀ c, c ∈ [s1.heap.objs.size + 4, s1.heap.objs.size + 2, s1.heap.objs.size + 3, s1.heap.objs.size, s1.heap.objs.size + 1] → s1.heap.objs.size ≤ c := fun c hc => by
      have hc : c = s1.heap.objs.size + 4 ∨ c = s1.heap.objs.size + 2 ∨ c = s1.heap.objs.size + 3 ∨ c = s1.heap.objs.size ∨ c = s1.heap.objs.size + 1 := by simpa using hc
      rcases hc with q | q | q | q | q <;> rw [q] <;> first | exact Nat.le_add_right _ _ | exact Nat.le_refl _
    refine zx_call (xs := us.toArray) (ys := vs.toArray) pa pb.isList fun g z' p' o' i' j' hsz k => wpAny_pyIter_zip z' ?_
    have I2 : Inv X pins σ H1 { s1 with heap := g } := I1.kept (t' := s1.toks) k
    exact ⟨s1.heap.objs.size + 4, _, _, _, H1, rfl, I2, turn_zx (PySem.W.ktu_apart s1.heap.objs.size a b la pb.lt), ⟨z', p', ⟨_, _, o'⟩, i', j'⟩, fun c hc => I1.fpOk (five c hc) (I1.hok.fresh (five c hc)), q⟩
end Mn
/-! Mini: what a for walks -/
namespace Mn
open PySem PySem.Spec PyProof.Rows L2
noncomputable def ItOk (L : Lk) (φ0 : Ph) (H0 : Hp) (p : List Val × Src) (J : It) : Prop :=
  ∀ (φ : Ph) (h : MH) (H : Hp), Ext L φ0 H0 φ H → Rel L φ h H → p.2.stands h → ∀ i : Nat, (p.1.length ≤ i → J.stop i H) ∧ ∀ v, p.1[i]? = some v → J.go i H ∧ ∀ x H2, J.yld i H x H2 → VR L φ H2 v x ∧ Ext L φ H φ H2 ∧ Rel L φ h H2
noncomputable def wI (L : Lk) (P : Pg) (W : WX) (k : ItK) (es : List E) : TI := fun σ H R => ∃ φ h ρ, Rel L φ h H ∧ EnvR L φ H ρ σ ∧ Post L φ H (ItOk L) ((evEs P es ρ h).bind (resI k)) R (fun c d H' => W c d σ H')
section
variable {tb : Tb} {L : Lk} {P : Pg} {k : Nat} {X : Cx} {blk : Bool} {N : List Str} {sc : Scope} {W : WX}
theorem At.mono {φ φ' : Ph} {i : Nat} {a : Addr} (h : Pre φ φ') (x : At φ i a) : At φ' i a := let ⟨w, e⟩ := x; ⟨w, h _ _ e⟩
theorem VRs.at2 {φ : Ph} {H : Hp} {vs : List Val} {xs : List V} {i : Nat} {v : Val} {x : V} (r : VRs L φ H vs xs) (hv : vs[i]? = some v) (hx : xs[i]? = some x) : VR L φ H v x := by
  obtain ⟨y, e, q⟩ := r.get hv
  rw [hx] at e; cases e
  exact q
theorem it_tup {φ : Ph} {H : Hp} {a : Addr} {xs : List V} {vs : List Val} (q : TuA L.K H a xs) (r : VRs L φ H vs xs) : ItOk L φ H (vs, []) (Itt L.K a) := by
  intro φ' h' H' E R _ i
  have q' := (E.tups _ _ q).sq
  have r' := r.mono E
  refine ⟨fun hl => ⟨xs, q', by rw [← r.length]; exact hl⟩, fun v hv => ?_⟩
  obtain ⟨x, hx, rx⟩ := r'.get hv
  refine ⟨⟨xs, x, q', hx⟩, fun y H2 ⟨e, hy⟩ => ?_⟩
  subst e
  exact ⟨r'.at2 hv (hy xs q'), Ext.refl, R⟩
theorem Rel.lstAt {φ : Ph} {h : MH} {H : Hp} (R : Rel L φ h H) {i : Nat} {a : Addr} {w : Bool} {vs : List Val} (hi : h[i]? = some (.lst w vs)) (ai : At φ i a) : ∃ xs, SqL L.K H a xs ∧ VRs L φ H vs xs := by
  obtain ⟨w', b, e, _, o⟩ := R.obj i _ hi
  obtain ⟨w2, ai⟩ := ai
  rw [ai] at e; cases e
  obtain ⟨xs, q, r, _⟩ := o.lstI
  exact ⟨xs, q, r⟩
theorem stands1 {i : Nat} {o : Ob} {h : MH} (s : Src.stands [(i, o)] h) : h[i]? = some o := s (i, o) (by simp)
theorem it_lst {φ : Ph} {H : Hp} {j : Nat} {a : Addr} {w : Bool} {vs : List Val} (aj : At φ j a) : ItOk L φ H (vs, [(j, .lst w vs)]) (Itl L.K a) := by
  intro φ' h' H' E R st i
  obtain ⟨xs, q, r⟩ := R.lstAt (stands1 st) (At.mono E.pre aj)
  refine ⟨fun hl => ⟨xs, q, by rw [← r.length]; exact hl⟩, fun v hv => ?_⟩
  obtain ⟨x, hx, rx⟩ := r.get hv
  refine ⟨⟨xs, x, q, hx⟩, fun y H2 ⟨e, hy⟩ => ?_⟩
  subst e
  exact ⟨r.at2 hv (hy xs q), Ext.refl, R⟩
theorem it_rev {φ : Ph} {H : Hp} {j : Nat} {a : Addr} {w : Bool} {vs : List Val} {n : Nat} (aj : At φ j a) (hn : n = vs.length) : ItOk L φ H (vs.reverse, [(j, .lst w vs)]) (Itv L.K a n) := by
  intro φ' h' H' E R st i
  subst hn
  obtain ⟨xs, q, r⟩ := R.lstAt (stands1 st) (At.mono E.pre aj)
  refine ⟨fun hl => (by simpa using hl : vs.length ≤ i), fun v hv => ?_⟩
  have hi : i < vs.length := by
    have := (List.getElem?_eq_some_iff.mp hv).1
    simpa using this
  rw [List.getElem?_reverse hi] at hv
  obtain ⟨x, hx, rx⟩ := r.get hv
  refine ⟨⟨hi, xs, x, q, hx⟩, fun y H2 ⟨e, hy⟩ => ?_⟩
  subst e
  exact ⟨r.at2 hv (hy xs q), Ext.refl, R⟩
theorem it_enum {φ : Ph} {H : Hp} {j : Nat} {a : Addr} {w : Bool} {vs : List Val} (aj : At φ j a) : ItOk L φ H (enumL vs, [(j, .lst w vs)]) (Ite L.K a) := by
  intro φ' h' H' E R st i
  obtain ⟨xs, q, r⟩ := R.lstAt (stands1 st) (At.mono E.pre aj)
  refine ⟨fun hl => ⟨xs, q, by rw [← r.length]; simpa [enumL] using hl⟩, fun v hv => ?_⟩
  unfold enumL at hv
  rw [List.getElem?_mapIdx] at hv
  obtain ⟨u, hu, rfl⟩ := Option.map_eq_some_iff.mp hv
  obtain ⟨x, hx, rx⟩ := r.get hu
  refine ⟨⟨xs, x, q, hx⟩, fun y H2 ⟨T, z, e1, e2, e3, e4⟩ => ?_⟩
  subst e1 e3
  have E2 : Ext L φ' H' φ' (upd H' T (.tup [.int (i : Nat), z])) := Ext.side e2
  exact ⟨.tup (.inl upd_same) (.cons (.int _) (.cons ((r.at2 hu (e4 xs q)).mono E2) .nil)), E2, R.side e2⟩
theorem zip_get {α β : Type} {xs : List α} {ys : List β} {f : α × β → Val} {i : Nat} {v : Val} (h : ((xs.zip ys).map f)[i]? = some v) : ∃ x y, xs[i]? = some x ∧ ys[i]? = some y ∧ v = f (x, y) := by
  rw [List.getElem?_map] at h
  obtain ⟨⟨x, y⟩, h1, rfl⟩ := Option.map_eq_some_iff.mp h
  rw [List.getElem?_zip_eq_some] at h1
  exact ⟨x, y, h1.1, h1.2, rfl⟩
theorem it_zipT {φ : Ph} {H : Hp} {a b : Addr} {xs ys : List V} {vs ws : List Val} (q : TuA L.K H a xs) (r : VRs L φ H vs xs) (q2 : TuA L.K H b ys) (r2 : VRs L φ H ws ys) : ItOk L φ H ((vs.zip ws).map fun p => .tup [p.1, p.2], []) (RZ.ItzT L.K a b) := by
  intro φ' h' H' E R _ i
  have q' := (E.tups _ _ q).sq
  have r' := r.mono E
  have q2' := (E.tups _ _ q2).sq
  have r2' := r2.mono E
  refine ⟨fun hl => ⟨xs, ys, q', q2', by
    have : ((vs.zip ws).map fun p => Val.tup [p.1, p.2]).length ≤ i := hl
    rw [List.length_map, List.length_zip, r.length, r2.length] at this
    omega⟩, fun v hv => ?_⟩
  obtain ⟨u, w, hu, hw, rfl⟩ := zip_get hv
  obtain ⟨x, hx, rx⟩ := r'.get hu
  obtain ⟨y, hy, ry⟩ := r2'.get hw
  refine ⟨⟨xs, ys, x, y, q', q2', hx, hy⟩, fun z H2 ⟨T, c, d, e1, e2, e3, e4, e5⟩ => ?_⟩
  subst e1 e3
  have E2 : Ext L φ' H' φ' (upd H' T (.tup [c, d])) := Ext.side e2
  exact ⟨.tup (.inl upd_same) (.cons ((r'.at2 hu (e4 xs q')).mono E2) (.cons ((r2'.at2 hw (e5 ys q2')).mono E2) .nil)), E2, R.side e2⟩
theorem it_zipL {φ : Ph} {H : Hp} {j l : Nat} {a b : Addr} {w1 w2 : Bool} {vs ws : List Val} (aj : At φ j a) (bl : At φ l b) : ItOk L φ H ((vs.zip ws).map fun p => .tup [p.1, p.2], [(j, .lst w1 vs), (l, .lst w2 ws)]) (Itz L.K a b) := by
  intro φ' h' H' E R st i
  obtain ⟨xs, q', r'⟩ := R.lstAt (st (j, .lst w1 vs) (by simp)) (At.mono E.pre aj)
  obtain ⟨ys, q2', r2'⟩ := R.lstAt (st (l, .lst w2 ws) (by simp)) (At.mono E.pre bl)
  refine ⟨fun hl => ⟨xs, ys, q', q2', by
    have : ((vs.zip ws).map fun p => Val.tup [p.1, p.2]).length ≤ i := hl
    rw [List.length_map, List.length_zip, r'.length, r2'.length] at this
    omega⟩, fun v hv => ?_⟩
  obtain ⟨u, w, hu, hw, rfl⟩ := zip_get hv
  obtain ⟨x, hx, rx⟩ := r'.get hu
  obtain ⟨y, hy, ry⟩ := r2'.get hw
  refine ⟨⟨xs, ys, x, y, q', q2', hx, hy⟩, fun z H2 ⟨T, c, d, e1, e2, e3, e4, e5⟩ => ?_⟩
  subst e1 e3
  have E2 : Ext L φ' H' φ' (upd H' T (.tup [c, d])) := Ext.side e2
  exact ⟨.tup (.inl upd_same) (.cons ((r'.at2 hu (e4 xs q')).mono E2) (.cons ((r2'.at2 hw (e5 ys q2')).mono E2) .nil)), E2, R.side e2⟩
theorem it_zipX {φ : Ph} {H : Hp} {l : Nat} {a b : Addr} {xs : List V} {w2 : Bool} {vs ws : List Val} (q : TuA L.K H a xs) (r : VRs L φ H vs xs) (bl : At φ l b) : ItOk L φ H ((vs.zip ws).map fun p => .tup [p.1, p.2], [(l, .lst w2 ws)]) (ItzX L.K a b) := by
  intro φ' h' H' E R st i
  have q' := (E.tups _ _ q).sq
  have r' := r.mono E
  obtain ⟨ys, q2', r2'⟩ := R.lstAt (st (l, .lst w2 ws) (by simp)) (At.mono E.pre bl)
  refine ⟨fun hl => ⟨xs, ys, q', q2', by
    have : ((vs.zip ws).map fun p => Val.tup [p.1, p.2]).length ≤ i := hl
    rw [List.length_map, List.length_zip, r'.length, r2'.length] at this
    omega⟩, fun v hv => ?_⟩
  obtain ⟨u, w, hu, hw, rfl⟩ := zip_get hv
  obtain ⟨x, hx, rx⟩ := r'.get hu
  obtain ⟨y, hy, ry⟩ := r2'.get hw
  refine ⟨⟨xs, ys, x, y, q', q2', hx, hy⟩, fun z H2 ⟨T, c, d, e1, e2, e3, e4, e5⟩ => ?_⟩
  subst e1 e3
  have E2 : Ext L φ' H' φ' (upd H' T (.tup [c, d])) := Ext.side e2
  exact ⟨.tup (.inl upd_same) (.cons ((r'.at2 hu (e4 xs q')).mono E2) (.cons ((r2'.at2 hw (e5 ys q2')).mono E2) .nil)), E2, R.side e2⟩
theorem it_itm {φ : Ph} {H : Hp} {j : Nat} {a : Addr} {od : Obj} {ys : List (Key × V)} {kvs : List (Key × Val)} (q : H a = some (.frz od (.dK ys))) (kr : KRs L φ H kvs ys) : ItOk L φ H (itemsD kvs, [(j, .dct false kvs)]) (Iti a od ys) := by
  intro φ' h' H' E R st i
  have q' := E.frz _ _ _ q
  have kr' := kr.mono E
  refine ⟨fun hl => ⟨q', by rw [← kr'.length]; simpa [itemsD] using hl⟩, fun v hv => ?_⟩
  unfold itemsD at hv
  rw [List.getElem?_map] at hv
  obtain ⟨⟨c, w⟩, hu, rfl⟩ := Option.map_eq_some_iff.mp hv
  have hi := (List.getElem?_eq_some_iff.mp hu).1
  refine ⟨⟨q', by rw [← kr'.length]; exact hi⟩, fun x H2 ⟨T, k, z, e0, e1, e2, e3⟩ => ?_⟩
  obtain ⟨w', hw, rw'⟩ := kr'.get e0
  rw [hu] at hw
  cases hw
  subst e1 e3
  have E2 : Ext L φ' H' φ' (upd H' T (.tup [kV k, z])) := Ext.side e2
  exact ⟨.tup (.inl upd_same) (.cons (kVal_ok k) (.cons (rw'.mono E2) .nil)), E2, R.side e2⟩
theorem it_str {φ : Ph} {H : Hp} {z : Str} : ItOk L φ H (z.cps.toList.map fun c => .str ⟨#[c]⟩, []) (Its z) := by
  intro φ' h' H' E R _ i
  refine ⟨fun hl => by simpa [Its] using hl, fun v hv => ?_⟩
  rw [List.getElem?_map] at hv
  obtain ⟨c, h1, rfl⟩ := Option.map_eq_some_iff.mp hv
  have hi := (List.getElem?_eq_some_iff.mp h1).1
  refine ⟨by simpa [Its] using hi, fun y H2 ⟨e, d, hd, e2⟩ => ?_⟩
  subst e e2
  have : z.cps[i]? = some c := by rw [← Array.getElem?_toList]; exact h1
  rw [this] at hd; cases hd
  exact ⟨.str _, Ext.refl, R⟩
theorem rangeL_get {a b c : Int} {i : Nat} {v : Val} (h : (rangeL a b c)[i]? = some v) : i < ((b - a + c - 1) / c).toNat ∧ v = .int (a + (i : Int) * c) := by
  unfold rangeL at h
  rw [List.getElem?_map] at h
  obtain ⟨n, h1, rfl⟩ := Option.map_eq_some_iff.mp h
  have hi := (List.getElem?_eq_some_iff.mp h1).1
  rw [List.length_range] at hi
  rw [List.getElem?_range hi] at h1
  cases h1
  exact ⟨hi, rfl⟩
theorem rangeL_len (a b c : Int) : (rangeL a b c).length = ((b - a + c - 1) / c).toNat := by simp [rangeL]
theorem it_rng {φ : Ph} {H : Hp} {a b c : Int} {n : Nat} {J : It} (hn : n = ((b - a + c - 1) / c).toNat) (h1 : ∀ i H, n ≤ i → J.stop i H) (h2 : ∀ i H, i < n → J.go i H) (h3 : ∀ i H x H2, J.yld i H x H2 → H2 = H ∧ x = .int (a + (i : Nat) * c)) : ItOk L φ H (rangeL a b c, []) J := by
  intro φ' h' H' E R _ i
  refine ⟨fun hl => h1 i _ (by rw [hn, ← rangeL_len]; exact hl), fun v hv => ?_⟩
  obtain ⟨h4, rfl⟩ := rangeL_get hv
  refine ⟨h2 i _ (by rw [hn]; exact h4), fun y H2 q => ?_⟩
  obtain ⟨e, e2⟩ := h3 _ _ _ _ q
  subst e e2
  exact ⟨.int _, Ext.refl, R⟩
theorem it_rngD {φ : Ph} {H : Hp} {a b : Int} {n : Nat} {J : It} (hn : n = (a - b).toNat) (h1 : ∀ i H, n ≤ i → J.stop i H) (h2 : ∀ i H, i < n → J.go i H) (h3 : ∀ i H x H2, J.yld i H x H2 → H2 = H ∧ x = .int (a + (i : Nat) * (-1))) : ItOk L φ H (rangeD a b, []) J := by
  intro φ' h' H' E R _ i
  have len : (rangeD a b).length = (a - b).toNat := by simp [rangeD]
  refine ⟨fun hl => h1 i _ (by rw [hn, ← len]; exact hl), fun v hv => ?_⟩
  have hi := (List.getElem?_eq_some_iff.mp hv).1
  rw [len] at hi
  unfold rangeD at hv
  rw [List.getElem?_map, List.getElem?_range hi] at hv
  cases hv
  refine ⟨h2 i _ (by rw [hn]; exact hi), fun y H2 q => ?_⟩
  obtain ⟨e, e2⟩ := h3 _ _ _ _ q
  subst e e2
  have : a + (i : Int) * (-1) = a - (i : Int) := by omega
  rw [this]
  exact ⟨.int _, Ext.refl, R⟩
theorem rangeSize_up (a b c : Int) (hc : 0 < c) : Builtin.Range.rangeSize a b c = (((b - a + c - 1) / c).toNat : Int) := by
  unfold Builtin.Range.rangeSize
  rw [if_pos hc]
  by_cases h : a < b
  · rw [if_pos h]
    have e : b - a + c - 1 = (b - a - 1) + c := by omega
    rw [e, Int.add_ediv_of_dvd_right (Int.dvd_refl c), Int.ediv_self (by omega)]
    have : 0 ≤ (b - a - 1) / c := Int.ediv_nonneg (by omega) (by omega)
    omega
  · rw [if_neg h]
    have : (b - a + c - 1) / c ≤ 0 := by
      have : (b - a + c - 1) / c < 1 := Int.ediv_lt_of_lt_mul hc (by omega)
      omega
    omega
theorem fits_of {x : Int} (h1 : -(2 ^ 63) ≤ x) (h2 : x < 2 ^ 63) : Builtin.Range.rangeFitsLong x = true := by
  unfold Builtin.Range.rangeFitsLong
  simp
  omega
theorem small_of {a b c : Int} (ha : a < 2 ^ 61 ∧ -(2 ^ 61) ≤ a) (hb : b < 2 ^ 61 ∧ -(2 ^ 61) ≤ b) (hc : 0 < c ∧ c < 2 ^ 29) : Builtin.Range.small a b c = true := by
  have e := rangeSize_up a b c hc.1
  have h1 : (b - a + c - 1) / c ≤ b - a + c - 1 ∨ b - a + c - 1 < 0 := by
    by_cases z : 0 ≤ b - a + c - 1
    · exact .inl (Int.ediv_le_self _ z)
    · exact .inr (by omega)
  have h2 : Builtin.Range.rangeFitsLong (Builtin.Range.rangeSize a b c) = true := by
    rw [e]
    apply fits_of
    · omega
    · rcases h1 with h1 | h1
      · omega
      · have : (b - a + c - 1) / c < 0 := Int.ediv_neg_of_neg_of_pos h1 hc.1
        omega
  unfold Builtin.Range.small
  rw [fits_of (x := a) (by omega) (by omega), fits_of (x := b) (by omega) (by omega), fits_of (x := c) (by omega) (by omega), h2, if_pos hc.1, fits_of (x := b + (c - 1)) (by omega) (by omega)]
  simp
end
end Mn
/-! Mini: iterables, targets, comprehensions -/
namespace Mn
open PySem PySem.Spec PyProof.Rows L2
/-! enumerate of a tuple, or of a list -/
/-- the fields of a new enumerate over the iterator at j -/
noncomputable abbrev enFs (j : Addr) : Obj := { cls := .type "enumerate", data := .fields #[.none, .bool false, .ref j, rawInt 0, .none, .none] }
theorem en_meets {v : Value} {io : Obj} {St : Heap → Prop} (B : Begins v io St) : Meets (Builtin.«enumerate.__new__» ⟨[.type "enumerate", v], []⟩)
    (fun _ R sh => St sh.heap ∧ R (.ok (.ret (.ref (sh.heap.push io).objs.size))) { sh with heap := (sh.heap.push io).push (enFs sh.heap.objs.size) }) :=
  .of_wp fun pr wo ar R sh hyp => by
    obtain ⟨hs, z⟩ := hyp
    obtain ⟨hp, gl, dd, tt, oo⟩ := sh
    have sb := PySem.sub_enumerate
    have itr : ∀ {ar' : Around} {E' : Value → Shared → Prop} {Q' : Value → Shared → Prop}, Q' (.ref hp.objs.size) ⟨hp.push io, gl, dd, tt, oo⟩ → wpAny (model pr wo) ar' (pyIter v) Q' E' ⟨hp, gl, dd, tt, oo⟩ := fun y => B.iter pr wo _ _ ⟨hp, gl, dd, tt, oo⟩ _ hs y
    wp_walk using itr
    refine wpAny_stack_any fun _ => wpAny_pure ?_
    split
    · rename_i cc _ _ _ _ _
      by_cases hcc : (cc == Value.type "enumerate") = true <;> simp only [hcc] <;> wp_walk using itr <;> exact ⟨_, rfl, z⟩
    · wp_walk using itr
      exact ⟨_, rfl, z⟩
theorem en_call {pr : Program} {wo : World} {ar : Around} {E : Value → Shared → Prop} {sh : Shared} {v : Value} {io : Obj} {St : Heap → Prop} {Q : Value → Shared → Prop} (B : Begins v io St) (hs : St sh.heap)
    (h : ∀ g, IsEnum g (sh.heap.objs.size + 1) sh.heap.objs.size 0 .none → g.get? sh.heap.objs.size = some io → (∀ b o, sh.heap.get? b = some o → g.get? b = some o) → Q (.ref (sh.heap.objs.size + 1)) { sh with heap := g }) :
    wpAny (model pr wo) ar (call (.type "enumerate") [v]) Q E sh := by
  refine callType_new F.called_enumerate (by decide) (F.typeCall_enumerate_1 _) (F.newCall_enumerate_1 _) (fun ob => F.args_object_init_2 ob _) F.entry_enumerate_new (en_meets B) ⟨hs, ?_⟩
  have sz : (sh.heap.push io).objs.size = sh.heap.objs.size + 1 := Heap.size_push ..
  have ie : IsEnum ((sh.heap.push io).push (enFs sh.heap.objs.size)) (sh.heap.objs.size + 1) sh.heap.objs.size 0 .none := by
    have q := Heap.get?_push_size (sh.heap.push io) (o := enFs sh.heap.objs.size) rfl
    rwa [sz] at q
  show _ ∧ _
  rw [sz]
  exact ⟨⟨_, ie, rfl⟩, h _ ie (Heap.get?_push_of_some _ (Heap.get?_push_size _ B.free)) fun b o x => Heap.get?_push_of_some _ (Heap.get?_push_of_some _ x)⟩
/-- the tuple at a, each item in a new pair -/
noncomputable def EnI (K : PySem.W.Frag) (a : Addr) : It where
  go := fun i H => ∃ (xs : List V) (x : V), SqT K H a xs ∧ xs[i]? = some x
  yld := fun i H v G => ∃ T x, v = .ref T ∧ H T = none ∧ G = upd H T (.tup [.int (i : Nat), x]) ∧ ∀ xs, SqT K H a xs → xs[i]? = some x
  stop := fun i H => ∃ xs : List V, SqT K H a xs ∧ xs.length ≤ i
noncomputable def EnS (a e j : Addr) (i : Nat) (g : Heap) : Prop := (∃ old, IsEnum g e j ((i : Nat) : Int) old) ∧ g.IsTupleIter j a i ∧ e ≠ j ∧ a ≠ j ∧ e ≠ a
theorem en_turn {P : Program} {w : World} {K : PySem.W.Frag} {elts : List Expr} {kk : Nat} {tpos : Pos} (a e j : Addr) : Turn P w K (.Tuple elts kk tpos) (EnI K a) [e, j] e (EnS a e j) where
  mem := by simp
  obj := fun i g st b hb => by
    obtain ⟨⟨old, he⟩, ⟨o, ho, hc, hd⟩, _⟩ := st
    rcases (show b = e ∨ b = j by simpa using hb) with rfl | rfl
    · exact ⟨_, he, fun v q => nomatch q⟩
    · exact ⟨o, ho, fun v q => by rw [hd] at q; cases q⟩
  keep := fun i g g' st k => ⟨⟨_, k e (by simp) _ st.1.choose_spec⟩, st.2.1.at fun o q => k j (by simp) o q, st.2.2⟩
  item := by
    intro X hP hw hK hc i pins s σ H E I hf st hg
    subst hP hw hK
    obtain ⟨⟨old, he⟩, hit, n1, n2, n3⟩ := st
    obtain ⟨xs, x, hq, hx⟩ := hg
    obtain ⟨its, rv, p, _⟩ := I.tuple hq
    obtain ⟨u, hu, ru⟩ := rv.get hx
    have hil : i < its.toArray.size := by
      have := (List.getElem?_eq_some_iff.mp hu).1
      simpa using this
    refine wpAny_pyNext_enum_itemC (Draws.tuple (A := X.A.in1) (I.ok.hd hc) j a n2 its.toArray) he ⟨hit, p⟩ hil n1 (by simp [n1, n3]) fun y g tk hy ho st' hT hsz hk => ?_
    have hyu : y = u := by
      have q : its[i]? = some y := by simpa using hy
      rw [hu] at q; exact (Option.some.inj q).symm
    subst hyu
    refine ⟨_, rfl, wpAny_letOwnedTupleGo_enum (s := { s with heap := g, toks := tk + 1 }) ho fun g2 he2 sb => ?_⟩
    have hel := Heap.lt_size he
    have hjl : j < s.heap.objs.size := by obtain ⟨_, q, _⟩ := hit; exact Heap.lt_size q
    have hT2 : g2.get? s.heap.objs.size = some { cls := .type "tuple", data := .seq #[.int ((i : Nat) : Int) tk, y] } := (sb.2 _ (Nat.ne_of_gt hel)).trans hT
    have nw : ObjOk X.prog X.w (upd H s.heap.objs.size (.tup [.int (i : Nat), x])) g2 s.heap.objs.size (.tup [.int (i : Nat), x]) := by
      refine ⟨by show 2 ≤ sizeLine; decide, [.int ((i : Nat) : Int) tk, y], ?_, _, hT2, rfl, _, rfl⟩
      exact .cons ⟨_, rfl⟩ (.cons ru .nil)
    have I1 : Inv X pins σ (upd H s.heap.objs.size (.tup [.int (i : Nat), x])) { s with heap := g2, toks := tk + 1 } := by
      refine I.turnedNew (ch := [e, j]) (fun b o hb q => ?_) hf (Nat.le_refl _) nw
      have b1 : b ≠ e := fun z => hb (by simp [z])
      have b2 : b ≠ j := fun z => hb (by simp [z])
      exact (sb.2 b b1).trans (hk b o b1 b2 q)
    have e1 : ((i + 1 : Nat) : Int) = (i : Int) + 1 := by omega
    refine ⟨.ref s.heap.objs.size, _, I1, rfl, ⟨_, x, rfl, I.hok.fresh (Nat.le_refl _), rfl, fun ys hy => by rw [I.tuple_inj hy hq]; exact hx⟩, ⟨⟨y, by rw [e1]; exact he2⟩, st'.1.at fun o q => (sb.2 j (Ne.symm n1)).trans q, n1, n2, n3⟩, fun b hb => ?_⟩
    have hbl : b < s.heap.objs.size := by
      rcases (show b = e ∨ b = j by simpa using hb) with rfl | rfl <;> assumption
    rw [upd_ne (Nat.ne_of_lt hbl)]
    exact (hf b hb).1
  done := by
    intro X hP hw hK hc i pins s σ H E I hf st hg
    subst hP hw hK
    obtain ⟨⟨old, he⟩, hit, n1, n2, n3⟩ := st
    obtain ⟨xs, hq, hx⟩ := hg
    obtain ⟨its, rv, p, _⟩ := I.tuple hq
    obtain ⟨f0, f1, f2, f3, f4, f5⟩ := hf j (by simp)
    have hl := rv.length
    have hi : its.toArray[i]? = none := by simp; omega
    have D : Draws X.prog X.w X.A.in1 j [j, a] i (fun _ _ => True) (fun k g => k = i ∧ g.IsTupleIter j a i ∧ g.IsTuple a its.toArray) := {
      live := fun _ _ st => let ⟨o, ho, _⟩ := st.2.1; ⟨o, ho⟩
      frame := fun _ _ _ st hk => ⟨st.1, st.2.1.at fun o q => hk j (by simp) o q, st.2.2.at fun o q => hk a (by simp) o q⟩
      item := fun k s Q E hk st _ => absurd st.1 (Nat.ne_of_lt hk)
      done := fun s Q E st hE => wpAny_nextOf_tuple_end (I.ok.hd hc) st.2.1 st.2.2 hi hE }
    exact wpAny_pyNext_enum_endD D he ⟨rfl, hit, p⟩ fun g eb => ⟨rfl, I.turned (t' := s.toks) (fun b o hb q => eb b o hb q) f0 f1 f3 f4 f5⟩
  self := fun A i s Q E st h => wpAny_pyIter_enum st.1.choose_spec h
theorem boot_en : bootBuiltins "enumerate" = some (.type "enumerate") := by decide +kernel
noncomputable def wEn (K : PySem.W.Frag) (ta : TA) : TI := fun σ H R => ta σ H fun vs G => ∃ a xs, vs = [.ref a] ∧ ((SqL K G a xs ∧ R (Ite K a) G) ∨ (SqT K G a xs ∧ R (EnI K a) G))
theorem pi_en {X : Cx} {e : Expr} {ta : TA} {p pos tpos : Pos} {elts : List Expr} {kk : Nat} (hg : Gl X "enumerate") (hm : X.mg "enumerate" = none) (ha : PA X [e] ta) (hs : starEach [e] X.env = [(false, eval e X.env)]) :
    PI X (.Tuple elts kk tpos) (.Call (.Name "enumerate" p) [e] [] pos) (wEn X.K ta) := by
  refine ⟨fun pins s σ H R I h => Call_ (ld_blt I hg hm boot_en (PyProof.Rows.callWith_type1 (thn (ha.run pos pins s σ H _ I h) fun us s1 ⟨vs, H1, I1, r1, q1⟩ => ?_) hs rfl))⟩
  obtain ⟨a, xs, rfl, q⟩ := q1
  cases r1 with
  | cons r rr =>
    cases rr
    cases r
    have fr : ∀ b ∈ [s1.heap.objs.size + 1, s1.heap.objs.size], FpOk X pins H1 b := fun b hb => by
      have le : s1.heap.objs.size ≤ b := by
        rcases (show b = s1.heap.objs.size + 1 ∨ b = s1.heap.objs.size by simpa using hb) with rfl | rfl <;> omega
      exact I1.fpOk le (I1.hok.fresh le)
    rcases q with ⟨hq, q⟩ | ⟨hq, q⟩
    · obtain ⟨its, rv, p', _⟩ := I1.list hq
      refine en_call (begins_list a its.toArray) p'.isList fun g he hio hk => wpAny_pyIter_enum he ?_
      have I2 : Inv X pins σ H1 { s1 with heap := g } := I1.kept (t' := s1.toks) hk
      exact ⟨_, _, _, _, H1, rfl, I2, turn_enum a (s1.heap.objs.size + 1) s1.heap.objs.size, ⟨⟨.none, he⟩, ⟨_, hio, rfl, rfl⟩, Nat.succ_ne_self _⟩, fr, q⟩
    · obtain ⟨its, rv, p', _⟩ := I1.tuple hq
      obtain ⟨o1, ho1, _⟩ := id p'
      have al := Heap.lt_size ho1
      refine en_call (begins_tuple a its.toArray) p' fun g he hio hk => wpAny_pyIter_enum he ?_
      have I2 : Inv X pins σ H1 { s1 with heap := g } := I1.kept (t' := s1.toks) hk
      exact ⟨_, _, _, _, H1, rfl, I2, en_turn a (s1.heap.objs.size + 1) s1.heap.objs.size, ⟨⟨.none, he⟩, ⟨_, hio, rfl, rfl⟩, Nat.succ_ne_self _, Nat.ne_of_lt al, Nat.ne_of_gt (Nat.lt_succ_of_lt al)⟩, fr, q⟩
section
variable {tb : Tb} {L : Lk} {P : Pg} {k : Nat} {X : Cx} {blk : Bool} {N : List Str} {sc : Scope} {W : WX}
theorem VRs.three {φ : Ph} {H : Hp} {v w u : Val} {xs : List V} (r : VRs L φ H [v, w, u] xs) : ∃ x y z, xs = [x, y, z] ∧ VR L φ H v x ∧ VR L φ H w y ∧ VR L φ H u z := by
  cases r with
  | cons h t =>
    obtain ⟨y, z, rfl, r2, r3⟩ := t.two
    exact ⟨_, _, _, rfl, h, r2, r3⟩
theorem evEs_len {P : Pg} : ∀ {es : List E} {ρ : Env'} {h h1 : MH} {vs : List Val}, evEs P es ρ h = .ok vs h1 → vs.length = es.length
  | [], _, _, _, _, e => by simp only [evEs] at e; cases e; rfl
  | x :: es, ρ, h, h1, vs, e => by
    simp only [evEs] at e
    cases e1 : evE P x ρ h with
    | bad => rw [e1] at e; cases e
    | err c fs h2 => rw [e1] at e; cases e
    | ok v h2 =>
      rw [e1, bind_ok] at e
      cases e2 : evEs P es ρ h2 with
      | bad => rw [e2] at e; cases e
      | err c fs h2 => rw [e2] at e; cases e
      | ok ws h3 =>
        rw [e2, bind_ok] at e
        cases e
        simp [evEs_len e2]
/-- an iterable by its arguments: what its rule asks of these -/
theorem wI_args {kk : ItK} (nk : kk ≠ .itm) {es : List E} {σ : L2.St} {H : Hp} {R : It → Hp → Prop} {r : List V → Hp → Prop}
    (ho : ∀ (vs : List Val) (xs : List V) (φ : Ph) (h : MH) (H1 : Hp), Rel L φ h H1 → VRs L φ H1 vs xs → vs.length = es.length → ∀ p, itemsOf kk vs h = some p → (∀ J, ItOk L φ H1 p J → R J H1) → r xs H1) (q : wI L P W kk es σ H R) : tMs L P W es σ H r := by
  obtain ⟨φ, h, ρ, Rr, En, p⟩ := q
  refine ⟨φ, h, ρ, Rr, En, ?_⟩
  cases e : evEs P es ρ h with
  | bad => rw [e] at p; exact p
  | err c fs h1 => rw [e] at p; exact p
  | ok vs h1 =>
    rw [e] at p
    intro xs H1 φ1 E1 R1 r1
    have p1 : Post L φ1 H1 (ItOk L) (resI kk vs h1) R _ := Post.step E1 p
    have er : resI kk vs h1 = match itemsOf kk vs h1 with
      | some p => .ok p h1
      | none => .bad := by
      cases kk <;> first | rfl | exact absurd rfl nk
    rw [er] at p1
    cases e2 : itemsOf kk vs h1 with
    | none => rw [e2] at p1; exact False.elim p1
    | some pr =>
      rw [e2] at p1
      exact ho vs xs φ1 h1 H1 R1 r1 (evEs_len e) pr e2 fun J hJ => p1 J H1 φ1 Ext.refl R1 hJ
theorem pi_valM (S : Sx tb L P k X blk N sc W) {tg e : Expr} {x : E} (ha : PE X e (tM L P W x)) : PI X tg e (wI L P W .val [x]) := by
  refine PI.weak (PI.or (pi_list ha) (PI.or (pi_tup ha) (pi_str ha))) fun σ H R ⟨φ, h, ρ, Rr, En, p⟩ => ?_
  have ee : (evEs P [x] ρ h) = (evE P x ρ h).bind fun v h1 => .ok [v] h1 := by
    simp only [evEs]
    cases evE P x ρ h <;> rfl
  rw [ee] at p
  cases e : evE P x ρ h with
  | bad => rw [e] at p; exact False.elim p
  | err c fs h1 =>
    rw [e] at p
    exact .inl ⟨φ, h, ρ, Rr, En, by rw [e]; exact p⟩
  | ok v h1 =>
    rw [e] at p
    have p : Post L φ H (ItOk L) (resI .val [v] h1) R _ := p
    cases v with
    | tup vs =>
      refine .inr (.inl ⟨φ, h, ρ, Rr, En, by
        rw [e]
        intro y H1 φ1 E1 R1 r1
        obtain ⟨a, xs, rfl, q, r⟩ := r1.tupU
        exact ⟨a, rfl, ⟨xs, S.hK ▸ q.sq⟩, p _ H1 φ1 E1 R1 (by rw [S.hK]; exact it_tup q r)⟩⟩)
    | str z =>
      refine .inr (.inr ⟨φ, h, ρ, Rr, En, by
        rw [e]
        intro y H1 φ1 E1 R1 r1
        exact ⟨z, r1.strI, p _ H1 φ1 E1 R1 it_str⟩⟩)
    | ref i =>
      refine .inl ⟨φ, h, ρ, Rr, En, by
        rw [e]
        intro y H1 φ1 E1 R1 r1
        have p1 : Post L φ1 H1 (ItOk L) (match (match h1[i]? with
          | some (.lst w xs) => some (xs, [(i, Ob.lst w xs)])
          | _ => none : Option (List Val × Src)) with
          | some p => .ok p h1
          | none => .bad) R _ := Post.step E1 p
        split at p1
        · rename_i pr e2
          split at e2
          · rename_i w xs hi
            cases e2
            obtain ⟨a, rfl, ai, o⟩ := R1.at hi r1
            obtain ⟨zs, q, _⟩ := o.lstI
            exact ⟨a, rfl, ⟨zs, S.hK ▸ q⟩, p1 _ H1 φ1 Ext.refl R1 (by rw [S.hK]; exact it_lst ai.1)⟩
          · cases e2
        · exact False.elim p1⟩
    | non => exact False.elim p
    | bl _ => exact False.elim p
    | int _ => exact False.elim p
    | exc _ _ => exact False.elim p
theorem len1 {vs : List Val} (h : vs.length = 1) : ∃ a, vs = [a] := by
  match vs, h with
  | [a], _ => exact ⟨a, rfl⟩
theorem len2 {vs : List Val} (h : vs.length = 2) : ∃ a b, vs = [a, b] := by
  match vs, h with
  | [a, b], _ => exact ⟨a, b, rfl⟩
theorem len3 {vs : List Val} (h : vs.length = 3) : ∃ a b c, vs = [a, b, c] := by
  match vs, h with
  | [a, b, c], _ => exact ⟨a, b, c, rfl⟩
theorem pi_rngM (S : Sx tb L P k X blk N sc W) {tg : Expr} {es : List Expr} {xs : List E} {p pos : Pos} (hg : Mn.gl sc (Str.ofString "range") = true) (hl : es.length = 1 ∨ es.length = 2 ∨ es.length = 3) (hx : xs.length = es.length) (ok : es.all okE = true) (ha : PA X es (tMs L P W xs)) :
    PI X tg (.Call (.Name (Str.ofString "range") p) es [] pos) (wI L P W .rng xs) := by
  have G := S.gl hg
  have B := S.pr.blt "range" (by decide)
  match es, hl, hx, ok, ha with
  | [a], _, hx, ok, ha =>
    simp only [List.all_cons, List.all_nil, Bool.and_true] at ok
    refine PI.weak (pi_range1 G B ha (okE_star ok _ _)) fun σ H R q => wI_args (by decide) (fun vs ys φ h H1 R1 r1 hv pr e k => ?_) q
    rw [hx] at hv
    obtain ⟨v, rfl⟩ := len1 hv
    cases v <;> first | (cases e; done) | skip
    rename_i n
    obtain ⟨y, rfl, r⟩ := r1.one
    rw [r.intI]
    have e : (if n < 2 ^ 62 ∧ -(2 ^ 62) ≤ n then some (rangeL 0 n 1, []) else none) = some pr := e
    by_cases c : n < 2 ^ 62 ∧ -(2 ^ 62) ≤ n
    · rw [if_pos c] at e; cases e
      refine ⟨n, rfl, c.2, c.1, k _ (it_rng (n := n.toNat) (by simp) (fun i H h => h) (fun i H h => h) fun i H x H2 ⟨a, b⟩ => ⟨a, by rw [b]; simp⟩)⟩
    · rw [if_neg c] at e; cases e
  | [a, b], _, hx, ok, ha =>
    simp only [List.all_cons, List.all_nil, Bool.and_true, Bool.and_eq_true] at ok
    refine PI.weak (pi_range2 G B ha (by rw [okE_star ok.1, okE_star ok.2]; rfl) (okE_star ok.2 _ _)) fun σ H R q => wI_args (by decide) (fun vs ys φ h H1 R1 r1 hv pr e k => ?_) q
    rw [hx] at hv
    obtain ⟨v, w, rfl⟩ := len2 hv
    cases v <;> cases w <;> first | (cases e; done) | skip
    rename_i m n
    obtain ⟨y, z, rfl, r, r2⟩ := r1.two
    rw [r.intI, r2.intI]
    have e : (if (n < 2 ^ 62 ∧ -(2 ^ 62) ≤ n) ∧ (m < 2 ^ 62 ∧ -(2 ^ 62) ≤ m) then some (rangeL m n 1, []) else none) = some pr := e
    by_cases c : (n < 2 ^ 62 ∧ -(2 ^ 62) ≤ n) ∧ (m < 2 ^ 62 ∧ -(2 ^ 62) ≤ m)
    · rw [if_pos c] at e; cases e
      refine ⟨m, n, rfl, ⟨c.2.2, c.2.1, c.1.2, c.1.1⟩, k _ (it_rng (n := (n - m).toNat) (by simp) (fun i H h => h) (fun i H h => h) fun i H x H2 ⟨a, b⟩ => ⟨a, by rw [b]; simp⟩)⟩
    · rw [if_neg c] at e; cases e
  | [a, b, c], _, hx, ok, ha =>
    simp only [List.all_cons, List.all_nil, Bool.and_true, Bool.and_eq_true] at ok
    refine PI.weak (pi_range3 G B ha (okE_star ok.1 _ _) (okEs_any (es := [b, c]) (by simp [ok.2]) _ _)) fun σ H R q => wI_args (by decide) (fun vs ys φ h H1 R1 r1 hv pr e k => ?_) q
    rw [hx] at hv
    obtain ⟨v, w, u, rfl⟩ := len3 hv
    cases v <;> cases w <;> first | (cases e; done) | skip
    cases u <;> first | (cases e; done) | skip
    rename_i m n d
    obtain ⟨y, z, t, rfl, r, r2, r3⟩ := r1.three
    rw [r.intI, r2.intI, r3.intI]
    have e : (if (n < 2 ^ 61 ∧ -(2 ^ 61) ≤ n) ∧ (m < 2 ^ 61 ∧ -(2 ^ 61) ≤ m) ∧ (0 < d ∧ d < 2 ^ 29) then some (rangeL m n d, []) else if (n < 2 ^ 61 ∧ -(2 ^ 61) ≤ n) ∧ (m < 2 ^ 61 ∧ -(2 ^ 61) ≤ m) ∧ d = -1 then some (rangeD m n, []) else none) = some pr := e
    by_cases c : (n < 2 ^ 61 ∧ -(2 ^ 61) ≤ n) ∧ (m < 2 ^ 61 ∧ -(2 ^ 61) ≤ m) ∧ (0 < d ∧ d < 2 ^ 29)
    · rw [if_pos c] at e; cases e
      refine ⟨m, n, d, ((n - m + d - 1) / d).toNat, rfl, ⟨by omega, by omega, small_of c.2.1 c.1 c.2.2, rangeSize_up m n d c.2.2.1⟩, k _ (it_rng rfl (fun i H h => h) (fun i H h => h) fun i H x H2 ⟨a, b⟩ => ⟨a, b⟩)⟩
    · rw [if_neg c] at e
      by_cases c2 : (n < 2 ^ 61 ∧ -(2 ^ 61) ≤ n) ∧ (m < 2 ^ 61 ∧ -(2 ^ 61) ≤ m) ∧ d = -1
      · rw [if_pos c2] at e; cases e
        obtain ⟨c3, c4, rfl⟩ := c2
        refine ⟨m, n, -1, (m - n).toNat, rfl, .neg (by omega) (by omega) (by omega) (by omega), k _ (it_rngD rfl (fun i H h => h) (fun i H h => h) fun i H x H2 ⟨a, b⟩ => ⟨a, b⟩)⟩
      · rw [if_neg c2] at e; cases e
/-- what stands at d is locked behind e, where that is wished for -/
theorem pe_shift {e : Expr} {td : TE} (he : PE X e td) : PE X e (fun σ H Q => td σ H fun x H1 => Q x H1 ∨ ∃ d u, H1 d = some u ∧ Mut (some u) ∧ ∀ od, Q x (upd H1 d (.frz od u))) := by
  refine ⟨fun pins s σ H Q I h => ?_⟩
  refine thn (he.run pins s σ H _ I h) fun u s1 ⟨x, H1, I1, rx, q⟩ => ?_
  rcases q with q | ⟨d, v, hd, mu, q⟩
  · exact ⟨x, H1, I1, rx, q⟩
  · obtain ⟨od, I2⟩ := I1.lock hd mu
    exact ⟨x, _, I2, rx, q od⟩
theorem pi_itemsM {ts : List Expr} {tk : Nat} {tp : Pos} {a : Expr} {x : E} {ap cp : Pos} (ok : okB a = true) (hline : (ap.endLine == cp.line) = true) (ha : PE X a (tM L P W x)) : PI X (.Tuple ts tk tp) (.Call (.Attribute a (Str.ofString "items") ap) [] [] cp) (wI L P W .itm [x]) := by
  refine PI.weak (pi_items (pe_shift ha) (okB_base ok _ _) hline) fun σ H R ⟨φ, h, ρ, Rr, En, p⟩ => ?_
  have ee : (evEs P [x] ρ h) = (evE P x ρ h).bind fun v h1 => .ok [v] h1 := by
    simp only [evEs]
    cases evE P x ρ h <;> rfl
  rw [ee] at p
  refine ⟨φ, h, ρ, Rr, En, ?_⟩
  cases e : evE P x ρ h with
  | bad => rw [e] at p; exact False.elim p
  | err c fs h1 => rw [e] at p; exact p
  | ok v h1 =>
    rw [e] at p
    intro y H1 φ1 E1 R1 r1
    have p : Post L φ1 H1 (ItOk L) (resI .itm [v] h1) R _ := Post.step E1 p
    obtain ⟨i, rfl⟩ : ∃ i, v = Val.ref i := by cases v <;> first | exact ⟨_, rfl⟩ | exact False.elim p
    have p : Post L φ1 H1 (ItOk L) (match h1[i]? with
      | some (.dct _ kvs) => .ok (itemsD kvs, [(i, .dct false kvs)]) (h1.set i (.dct false kvs))
      | _ => .bad) R _ := p
    split at p
    · rename_i w kvs hi
      obtain ⟨d, rfl, di, o⟩ := R1.at hi r1
      obtain ⟨ys, q1, kr, k1, k2⟩ := o.dctI
      cases w with
      | true =>
        have q := k1 rfl
        refine .inr ⟨d, .dK ys, q, True.intro, fun od => ⟨d, od, ys, rfl, upd_same, ?_⟩⟩
        have X1 : Ext L φ1 H1 φ1 (upd H1 d (.frz od (.dK ys))) := Ext.write (di.2 rfl) q (fun _ _ z => by cases z) (fun _ z => by cases z)
        exact p _ _ φ1 X1 (R1.write hi rfl (fun _ z => by cases z) (di.2 rfl) (.dF upd_same (kr.mono X1))) (it_itm upd_same (kr.mono X1))
      | false =>
        obtain ⟨ob, q⟩ := k2 rfl
        have es : h1.set i (.dct false kvs) = h1 := by
          have hl := (List.getElem?_eq_some_iff.mp hi).1
          refine List.ext_getElem? fun j => ?_
          by_cases ej : i = j
          · subst ej
            rw [List.getElem?_set_self hl, hi]
          · rw [List.getElem?_set_ne ej]
        rw [es] at p
        exact .inl ⟨d, ob, ys, rfl, q, p _ _ φ1 Ext.refl R1 (it_itm q kr)⟩
    · exact False.elim p
noncomputable def lstSrc (g : List Val → List Val) (v : Val) (h : MH) : Option (List Val × Src) := match v with
  | .ref a => match h[a]? with
    | some (.lst w xs) => some (g xs, [(a, Ob.lst w xs)])
    | _ => none
  | _ => none
theorem lst_of {φ : Ph} {h : MH} {H : Hp} {v : Val} {x : V} {pr : List Val × Src} {g : List Val → List Val} (R : Rel L φ h H) (r : VR L φ H v x) (e : lstSrc g v h = some pr) :
    ∃ i a w vs xs, v = .ref i ∧ x = .ref a ∧ At φ i a ∧ SqL L.K H a xs ∧ VRs L φ H vs xs ∧ pr = (g vs, [(i, .lst w vs)]) := by
  cases v <;> first | (cases e; done) | skip
  rename_i i
  simp only [lstSrc] at e
  split at e
  · rename_i w vs hi
    cases e
    obtain ⟨a, rfl, ai, o⟩ := R.at hi r
    obtain ⟨xs, q, r1, _⟩ := o.lstI
    exact ⟨_, a, w, vs, xs, rfl, rfl, ai.1, q, r1, rfl⟩
  · cases e
theorem it_enT {φ : Ph} {H : Hp} {a : Addr} {xs : List V} {vs : List Val} (q : TuA L.K H a xs) (r : VRs L φ H vs xs) : ItOk L φ H (enumL vs, []) (EnI L.K a) := by
  intro φ' h' H' E R _ i
  have q' := (E.tups _ _ q).sq
  have r' := r.mono E
  refine ⟨fun hl => ⟨xs, q', by rw [← r'.length]; simpa [enumL] using hl⟩, fun v hv => ?_⟩
  unfold enumL at hv
  rw [List.getElem?_mapIdx] at hv
  obtain ⟨u, hu, rfl⟩ := Option.map_eq_some_iff.mp hv
  obtain ⟨x, hx, rx⟩ := r'.get hu
  refine ⟨⟨xs, x, q', hx⟩, fun y H2 ⟨T, z, e1, e2, e3, e4⟩ => ?_⟩
  subst e1 e3
  have E2 : Ext L φ' H' φ' (upd H' T (.tup [.int (i : Nat), z])) := Ext.side e2
  exact ⟨.tup (.inl upd_same) (.cons (.int _) (.cons ((r'.at2 hu (e4 xs q')).mono E2) .nil)), E2, R.side e2⟩
theorem pi_enumM (S : Sx tb L P k X blk N sc W) {ts : List Expr} {tk : Nat} {tp : Pos} {a : Expr} {xs : List E} {p pos : Pos} (hg : Mn.gl sc (Str.ofString "enumerate") = true) (hx : xs.length = 1) (ok : okE a = true) (ha : PA X [a] (tMs L P W xs)) :
    PI X (.Tuple ts tk tp) (.Call (.Name (Str.ofString "enumerate") p) [a] [] pos) (wI L P W .enm xs) := by
  refine PI.weak (pi_en (S.gl hg) (S.pr.blt "enumerate" (by decide)) ha (okE_star ok _ _)) fun σ H R q => wI_args (by decide) (fun vs ys φ h H1 R1 r1 hv pr e k => ?_) q
  rw [hx] at hv
  obtain ⟨v, rfl⟩ := len1 hv
  obtain ⟨y, rfl, r⟩ := r1.one
  by_cases tv : ∃ us, v = .tup us
  · obtain ⟨us, rfl⟩ := tv
    cases e
    obtain ⟨c, cs, rfl, q1, s1⟩ := r.tupU
    exact ⟨c, cs, rfl, .inr ⟨S.hK ▸ q1.sq, k _ (by rw [S.hK]; exact it_enT q1 s1)⟩⟩
  · have e' : lstSrc (enumL) v h = some pr := by
      cases v <;> first | exact e | exact absurd ⟨_, rfl⟩ tv | (cases e; done)
    obtain ⟨i, b, w, ws, zs, rfl, rfl, bi, q1, r2, rfl⟩ := lst_of R1 r e'
    exact ⟨b, zs, rfl, .inl ⟨S.hK ▸ q1, k _ (by rw [S.hK]; exact it_enum bi)⟩⟩
theorem pi_revM (S : Sx tb L P k X blk N sc W) {tg : Expr} {a : Expr} {xs : List E} {p pos : Pos} (hg : Mn.gl sc (Str.ofString "reversed") = true) (hx : xs.length = 1) (ok : okE a = true) (ha : PA X [a] (tMs L P W xs)) :
    PI X tg (.Call (.Name (Str.ofString "reversed") p) [a] [] pos) (wI L P W .rev xs) := by
  refine PI.weak (pi_reversed (S.gl hg) (S.pr.blt "reversed" (by decide)) ha (okE_star ok _ _)) fun σ H R q => wI_args (by decide) (fun vs ys φ h H1 R1 r1 hv pr e k => ?_) q
  rw [hx] at hv
  obtain ⟨v, rfl⟩ := len1 hv
  obtain ⟨y, rfl, r⟩ := r1.one
  have e' : lstSrc (fun xs => xs.reverse) v h = some pr := by
    cases v <;> first | exact e | (cases e; done)
  obtain ⟨i, b, w, ws, zs, rfl, rfl, bi, q1, r2, rfl⟩ := lst_of R1 r e'
  exact ⟨b, zs, rfl, S.hK ▸ q1, k _ (by rw [S.hK]; exact it_rev bi r2.length.symm)⟩
theorem pi_zipM (S : Sx tb L P k X blk N sc W) {ts : List Expr} {tk : Nat} {tp : Pos} {a b : Expr} {xs : List E} {p pos : Pos} (hg : Mn.gl sc (Str.ofString "zip") = true) (hx : xs.length = 2) (ok : okE a = true) (ok2 : okE b = true) (ha : PA X [a, b] (tMs L P W xs)) :
    PI X (.Tuple ts tk tp) (.Call (.Name (Str.ofString "zip") p) [a, b] [] pos) (wI L P W .zip xs) := by
  refine PI.weak (RZ.pi_zipA (S.gl hg) (S.pr.blt "zip" (by decide)) ha (okE_star ok _ _) (okEs_any (es := [b]) (by simp [ok2]) _ _)) fun σ H R q => wI_args (by decide) (fun vs ys φ h H1 R1 r1 hv pr e k => ?_) q
  rw [hx] at hv
  obtain ⟨v, u, rfl⟩ := len2 hv
  obtain ⟨y, z, rfl, r, r2⟩ := r1.two
  cases v <;> cases u <;> first | (cases e; done) | skip
  · cases e
    obtain ⟨c, cs, rfl, q1, s1⟩ := r.tupU
    obtain ⟨d, ds, rfl, q2, s2⟩ := r2.tupU
    exact ⟨c, d, cs, ds, rfl, .inr ⟨S.hK ▸ q1.sq, S.hK ▸ q2.sq, k _ (by rw [S.hK]; exact it_zipT q1 s1 q2 s2)⟩⟩
  · rename_i i j
    have e : (match h[i]?, h[j]? with
      | some (.lst w xs), some (.lst z ys) => some ((xs.zip ys).map fun p => Val.tup [p.1, p.2], [(i, Ob.lst w xs), (j, Ob.lst z ys)])
      | _, _ => none) = some pr := e
    split at e
    · rename_i w ws z zs hi hj
      cases e
      obtain ⟨c, rfl, ci, o⟩ := R1.at hi r
      obtain ⟨cs, q1, s1, _⟩ := o.lstI
      obtain ⟨d, rfl, di, o2⟩ := R1.at hj r2
      obtain ⟨ds, q2, s2, _⟩ := o2.lstI
      exact ⟨c, d, cs, ds, rfl, .inl ⟨S.hK ▸ q1, S.hK ▸ q2, k _ (by rw [S.hK]; exact it_zipL ci.1 di.1)⟩⟩
    · cases e
theorem pi_zpxM (S : Sx tb L P k X blk N sc W) {ts : List Expr} {tk : Nat} {tp : Pos} {a b : Expr} {xs : List E} {p pos : Pos} (hg : Mn.gl sc (Str.ofString "zip") = true) (hx : xs.length = 2) (ok : okE a = true) (ok2 : okE b = true) (ha : PA X [a, b] (tMs L P W xs)) :
    PI X (.Tuple ts tk tp) (.Call (.Name (Str.ofString "zip") p) [a, b] [] pos) (wI L P W .zpx xs) := by
  refine PI.weak (pi_zipX (S.gl hg) (S.pr.blt "zip" (by decide)) ha (okE_star ok _ _) (okEs_any (es := [b]) (by simp [ok2]) _ _)) fun σ H R q => wI_args (by decide) (fun vs ys φ h H1 R1 r1 hv pr e k => ?_) q
  rw [hx] at hv
  obtain ⟨v, u, rfl⟩ := len2 hv
  obtain ⟨y, z, rfl, r, r2⟩ := r1.two
  cases v <;> cases u <;> first | (cases e; done) | skip
  rename_i j
  obtain ⟨c, cs, rfl, q1, s1⟩ := r.tupU
  simp only [itemsOf] at e
  split at e
  · rename_i z zs hj
    cases e
    obtain ⟨d, rfl, di, o2⟩ := R1.at hj r2
    obtain ⟨ds, q2, s2, _⟩ := o2.lstI
    exact ⟨c, d, cs, ds, rfl, S.hK ▸ q1.sq, S.hK ▸ q2, k _ (by rw [S.hK]; exact it_zipX q1 s1 di.1)⟩
  · cases e
/-! targets -/
noncomputable def gM (L : Lk) (t : Tg) : TG := fun x σ H Q => ∃ φ h ρ ρ' v, Rel L φ h H ∧ VR L φ H v x ∧ EnvR L φ H ρ σ ∧ bindT t v ρ = some ρ' ∧ ∀ σ', EnvR L φ H ρ' σ' → (∀ i, (match t with | .nm j => i ≠ j | .tp js => i ∉ js) → σ'[i]? = σ[i]?) → σ'.length = σ.length → Q σ' H
theorem loc_of {x : Str} {i : Nat} {p : Pos} (S : Sy tb L P k X blk N sc W) (h : trTg blk N sc (.Name x p) = some i) : X.N[i]? = some x ∧ Loc X.env.scope x ∧ (X.fn x = true ∨ X.env.scope.names.lookup x = some .local) := by
  simp only [trTg] at h
  rw [S.hN, S.hsc]
  split at h
  · rename_i e
    exact ⟨idxN_ok h, .inl e, .inr e⟩
  · rename_i e
    by_cases hb : blk = true
    · rw [if_pos hb] at h; cases h
    · rw [if_neg hb] at h
      exact ⟨idxN_ok h, .inr e, .inl (S.fnc (by simpa using hb) x)⟩
  · cases h
theorem pg_nmM (S : Sy tb L P k X blk N sc W) {x : Str} {i : Nat} {p : Pos} (h : trTg blk N sc (.Name x p) = some i) : PG X (.Name x p) (gM L (.nm i)) := by
  obtain ⟨h1, h2, h3⟩ := loc_of S h
  have hp := pg_name (pos := p) (by rw [S.hN]; exact S.nd) h1 h2 h3
  refine ⟨fun pins s σ H v u Q I r ⟨φ, hh, ρ, ρ', w, R, rw_, En, eb, q⟩ => hp.run pins s σ H v u Q I r ?_⟩
  cases eb
  exact q _ (En.set rw_ i) (fun j hj => List.getElem?_set_ne (Ne.symm hj)) (by simp)
noncomputable def gsM (L : Lk) (js : List Nat) : TGs := fun xs σ H Q => ∃ φ h ρ ρ' vs, Rel L φ h H ∧ VRs L φ H vs xs ∧ EnvR L φ H ρ σ ∧ binds ρ js vs = some ρ' ∧ ∀ σ', EnvR L φ H ρ' σ' → (∀ i, i ∉ js → σ'[i]? = σ[i]?) → σ'.length = σ.length → Q σ' H
theorem pgs_M (S : Sx tb L P k X blk N sc W) : ∀ {es : List Expr} {js : List Nat}, mapO (trTg blk N sc) es = some js → PGs X es (gsM L js)
  | [], js, h => by
    cases h
    refine ⟨fun pins s σ H vs us Q I r ⟨φ, hh, ρ, ρ', ws, R, rs, En, eb, q⟩ => pgs_nil.run pins s σ H vs us Q I r ?_⟩
    cases ws with
    | nil => cases rs; cases eb; exact ⟨rfl, q σ En (fun _ _ => rfl) rfl⟩
    | cons _ _ => cases eb
  | e :: es, js, h => by
    obtain ⟨j, js', h1, h2, rfl⟩ := mapO_cons h
    have ih := pgs_M S h2
    have en : ∃ x p, e = .Name x p := by
      cases e <;> first | exact ⟨_, _, rfl⟩ | (cases h1; done)
    obtain ⟨x, p, rfl⟩ := en
    have g := pg_nmM S.toSy h1
    refine ⟨fun pins s σ H vs us Q I r ⟨φ, hh, ρ, ρ', ws, R, rs, En, eb, q⟩ => (pgs_cons g ih rfl).run pins s σ H vs us Q I r ?_⟩
    cases ws with
    | nil => cases eb
    | cons w ws =>
      cases rs with
      | cons r1 r2 =>
        refine ⟨_, _, rfl, φ, hh, ρ, ρ.set j (some w), w, R, r1, En, rfl, fun σ1 En1 k1 l1 => ?_⟩
        refine ⟨φ, hh, ρ.set j (some w), ρ', ws, R, r2, En1, eb, fun σ2 En2 k2 l2 => q σ2 En2 (fun i hi => ?_) (by rw [l2, l1])⟩
        simp only [List.mem_cons, not_or] at hi
        rw [k2 i hi.2]
        exact k1 i hi.1
theorem pg_M (S : Sx tb L P k X blk N sc W) {e : Expr} {t : Tg} (h : trT blk N sc e = some t) : PG X e (gM L t) := by
  cases e <;> first | (cases h; done) | skip
  · rename_i x p
    unfold trT at h
    obtain ⟨i, h1, rfl⟩ := Option.map_eq_some_iff.mp h
    exact pg_nmM S.toSy h1
  · rename_i es kk p
    unfold trT at h
    obtain ⟨js, h1, rfl⟩ := Option.map_eq_some_iff.mp h
    have hq := pgs_M S h1
    have hlen : ∀ (es : List Expr) (js : List Nat), mapO (trTg blk N sc) es = some js → (assignEach es X.env).length = js.length ∧ (assignEach es X.env).findIdx? (·.1) = none := by
      intro es
      induction es with
      | nil => intro js h; cases h; exact ⟨rfl, rfl⟩
      | cons e es ih =>
        intro js h
        obtain ⟨j, js', h1, h2, rfl⟩ := mapO_cons h
        have en : ∃ x p, e = .Name x p := by
          cases e <;> first | exact ⟨_, _, rfl⟩ | (cases h1; done)
        obtain ⟨x, p, rfl⟩ := en
        obtain ⟨a, b⟩ := ih js' h2
        have ee : assignEach (.Name x p :: es) X.env = (false, assign (.Name x p) X.env) :: assignEach es X.env := rfl
        rw [ee]
        refine ⟨by simp [a], ?_⟩
        rw [List.findIdx?_cons]
        simp [b]
    obtain ⟨l1, l2⟩ := hlen es js h1
    refine ⟨fun pins s σ H v u Q I r ⟨φ, hh, ρ, ρ', w, R, rw_, En, eb, q⟩ => (pg_tup (n := js.length) S.calm hq l1 l2).run pins s σ H v u Q I r ?_⟩
    cases w <;> first | (cases eb; done) | skip
    rename_i ws
    obtain ⟨a, xs, rfl, q1, r1⟩ := rw_.tupI
    have eb : binds ρ js ws = some ρ' := eb
    have bl : ∀ (js : List Nat) (ws : List Val) (ρ ρ' : Env'), binds ρ js ws = some ρ' → ws.length = js.length := by
      intro js
      induction js with
      | nil => intro ws ρ ρ' h; cases ws with
        | nil => rfl
        | cons _ _ => cases h
      | cons j js ih => intro ws ρ ρ' h; cases ws with
        | nil => cases h
        | cons w ws => simp [ih ws _ _ h]
    exact ⟨a, xs, rfl, S.hK ▸ q1, by rw [← r1.length, bl _ _ _ _ eb], φ, hh, ρ, ρ', ws, R, r1, En, eb, q⟩
/-- the same for an assignment: a list is taken apart too -/
noncomputable def gA (L : Lk) (t : Tg) : TG := fun x σ H Q => ∃ φ h ρ ρ' v, Rel L φ h H ∧ VR L φ H v x ∧ EnvR L φ H ρ σ ∧ bindT t (unT t h v) ρ = some ρ' ∧ ∀ σ', EnvR L φ H ρ' σ' → (∀ i, (match t with | .nm j => i ≠ j | .tp js => i ∉ js) → σ'[i]? = σ[i]?) → σ'.length = σ.length → Q σ' H
theorem bound_len : ∀ (js : List Nat) (ws : List Val) (ρ ρ' : Env'), binds ρ js ws = some ρ' → ws.length = js.length
  | [], [], _, _, _ => rfl
  | [], _ :: _, _, _, h => nomatch h
  | _ :: _, [], _, _, h => nomatch h
  | j :: js, w :: ws, ρ, ρ', h => by
    have := bound_len js ws _ _ h
    simp [this]
theorem tgt_len (S : Sx tb L P k X blk N sc W) : ∀ (es : List Expr) (js : List Nat), mapO (trTg blk N sc) es = some js → (assignEach es X.env).length = js.length ∧ (assignEach es X.env).findIdx? (·.1) = none
  | [], js, h => by cases h; exact ⟨rfl, rfl⟩
  | e :: es, js, h => by
    obtain ⟨j, js', h1, h2, rfl⟩ := mapO_cons h
    obtain ⟨a, b⟩ := tgt_len S es js' h2
    cases e <;> first | (cases h1; done) | skip
    rename_i x p
    have ee : assignEach (.Name x p :: es) X.env = (false, assign (.Name x p) X.env) :: assignEach es X.env := rfl
    rw [ee, List.findIdx?_cons]
    exact ⟨by simp [a], by simp [b]⟩
theorem pg_A (S : Sx tb L P k X blk N sc W) {e : Expr} {t : Tg} (h : trT blk N sc e = some t) : PG X e (gA L t) := by
  have g := pg_M S h
  cases e <;> first | (cases h; done) | skip
  · rename_i x p
    unfold trT at h
    obtain ⟨i, h1, rfl⟩ := Option.map_eq_some_iff.mp h
    exact g
  · rename_i es kk p
    unfold trT at h
    obtain ⟨js, h1, rfl⟩ := Option.map_eq_some_iff.mp h
    have hq := pgs_M S h1
    obtain ⟨l1, l2⟩ := tgt_len S es js h1
    refine ⟨fun pins s σ H v u Q I r ⟨φ, hh, ρ, ρ', w, R, rw_, En, eb, q⟩ => ?_⟩
    cases w with
    | ref a =>
      cases e2 : hh[a]? with
      | none => simp [unT, tuL, e2, bindT] at eb
      | some o =>
        cases o with
        | lst z ws =>
          have eb : binds ρ js ws = some ρ' := by simpa [unT, tuL, e2, bindT] using eb
          obtain ⟨c, rfl, ci, o⟩ := R.at e2 rw_
          obtain ⟨cs, q1, s1, _⟩ := o.lstI
          exact (pg_unl (n := js.length) S.calm hq l1 l2).run pins s σ H _ u Q I r ⟨c, cs, rfl, S.hK ▸ q1, by rw [← s1.length, bound_len _ _ _ _ eb], φ, hh, ρ, ρ', ws, R, s1, En, eb, q⟩
        | dct _ _ => simp [unT, tuL, e2, bindT] at eb
        | dtt _ => simp [unT, tuL, e2, bindT] at eb
        | ins _ _ => simp [unT, tuL, e2, bindT] at eb
    | non => exact g.run pins s σ H v u Q I r ⟨φ, hh, ρ, ρ', _, R, rw_, En, eb, q⟩
    | bl _ => exact g.run pins s σ H v u Q I r ⟨φ, hh, ρ, ρ', _, R, rw_, En, eb, q⟩
    | int _ => exact g.run pins s σ H v u Q I r ⟨φ, hh, ρ, ρ', _, R, rw_, En, eb, q⟩
    | str _ => exact g.run pins s σ H v u Q I r ⟨φ, hh, ρ, ρ', _, R, rw_, En, eb, q⟩
    | tup _ => exact g.run pins s σ H v u Q I r ⟨φ, hh, ρ, ρ', _, R, rw_, En, eb, q⟩
    | exc _ _ => exact g.run pins s σ H v u Q I r ⟨φ, hh, ρ, ρ', _, R, rw_, En, eb, q⟩
/-! list(range(..)), list(reversed(x)) -/
theorem rng_rel {φ : Ph} {H : Hp} (a b : Int) : VRs L φ H (rangeL a b 1) (rgV a b) := by
  unfold rangeL rgV
  have e : ((b - a + 1 - 1) / 1 : Int).toNat = (b - a).toNat := by simp
  rw [e]
  have key : ∀ l : List Nat, VRs L φ H (l.map fun (k : Nat) => Val.int (a + (k : Int) * 1)) (l.map fun (i : Nat) => V.int (a + (i : Nat))) := by
    intro l
    induction l with
    | nil => exact .nil
    | cons k r ih =>
      rw [List.map_cons, List.map_cons]
      refine .cons ?_ ih
      rw [Int.mul_one]
      exact .int _
  exact key _
theorem rgOk_of {a b : Int} (c1 : b < 2 ^ 62 ∧ -(2 ^ 62) ≤ b) (c2 : a < 2 ^ 62 ∧ -(2 ^ 62) ≤ a) (hl : (rangeL a b 1).length ≤ 4096) : RgOk a b := by
  refine ⟨c2.2, c2.1, c1.2, c1.1, ?_⟩
  have e : (rangeL a b 1).length = (b - a).toNat := by simp [rangeL]
  omega
theorem pe_lofR1 (S : Sx tb L P k X blk N sc W) {a : Expr} {x : E} {p pos p2 pos2 : Pos} (hg : Mn.gl sc (Str.ofString "list") = true) (hg2 : Mn.gl sc (Str.ofString "range") = true) (ok : okE a = true) (ha : PE X a (tM L P W x)) :
    PE X (.Call (.Name (Str.ofString "list") p) [.Call (.Name (Str.ofString "range") p2) [a] [] pos2] [] pos) (tM L P W (.lof .rng [x])) := by
  refine PE.weak (pe_listRg S.calm (S.gl hg) (S.pr.blt "list" (by decide)) (prg_1 (S.gl hg2) (S.pr.blt "range" (by decide)) ha (okE_star ok _ _))) fun σ H Q ⟨φ, h, ρ, R, En, p⟩ => ?_
  simp only [evE, evEs] at p
  refine ⟨φ, h, ρ, R, En, ?_⟩
  cases e : evE P x ρ h with
  | bad => rw [e] at p; exact False.elim p
  | err c fs h1 => rw [e] at p; exact p
  | ok v h1 =>
    rw [e] at p
    intro y H1 φ1 E1 R1 r1
    have p := Post.step E1 p
    obtain ⟨n, rfl⟩ : ∃ i, v = Val.int i := by cases v <;> first | exact ⟨_, rfl⟩ | exact False.elim p
    have p : Post L φ1 H1 (vR L) (Res.bind (match (if n < 2 ^ 62 ∧ -(2 ^ 62) ≤ n then some (rangeL 0 n 1, []) else none : Option (List Val × Src)) with
      | some p => .ok p h1
      | none => .bad) fun p h1 => if p.1.length ≤ 4096 then alloc (.lst true p.1) h1 else .bad) Q _ := p
    by_cases c : n < 2 ^ 62 ∧ -(2 ^ 62) ≤ n
    · rw [if_pos c] at p
      simp only [bind_ok] at p
      by_cases hl : (rangeL 0 n 1).length ≤ 4096
      · rw [if_pos hl] at p
        exact ⟨n, r1.intI, rgOk_of c ⟨by decide, by decide⟩ hl, fun d hd => Post.lst R1 (rng_rel 0 n) p hd⟩
      · rw [if_neg hl] at p; exact False.elim p
    · rw [if_neg c] at p; exact False.elim p
theorem pe_lofR2 (S : Sx tb L P k X blk N sc W) {a b : Expr} {x y : E} {p pos p2 pos2 : Pos} (hg : Mn.gl sc (Str.ofString "list") = true) (hg2 : Mn.gl sc (Str.ofString "range") = true) (ok : okE a = true) (ok2 : okE b = true) (ha : PE X a (tM L P W x)) (hb : PE X b (tM L P W y)) :
    PE X (.Call (.Name (Str.ofString "list") p) [.Call (.Name (Str.ofString "range") p2) [a, b] [] pos2] [] pos) (tM L P W (.lof .rng [x, y])) := by
  refine PE.weak (pe_listRg S.calm (S.gl hg) (S.pr.blt "list" (by decide)) (prg_2 (S.gl hg2) (S.pr.blt "range" (by decide)) ha hb (by rw [okE_star ok]) (okE_star ok2 _ _) (okEs_any (es := [b]) (by simp [ok2]) _ _))) fun σ H Q ⟨φ, h, ρ, R, En, p⟩ => ?_
  simp only [evE, evEs] at p
  refine ⟨φ, h, ρ, R, En, ?_⟩
  cases e : evE P x ρ h with
  | bad => rw [e] at p; exact False.elim p
  | err c fs h1 => rw [e] at p; exact p
  | ok v h1 =>
    rw [e] at p
    intro u H1 φ1 E1 R1 r1
    have p := Post.step E1 p
    refine ⟨φ1, h1, ρ, R1, En.mono E1, ?_⟩
    simp only [bind_ok] at p
    cases e2 : evE P y ρ h1 with
    | bad => rw [e2] at p; exact False.elim p
    | err c fs h2 => rw [e2] at p; exact p
    | ok w h2 =>
      rw [e2] at p
      intro z H2 φ2 E2 R2 r2
      have p := Post.step E2 p
      simp only [bind_ok] at p
      obtain ⟨m, rfl⟩ : ∃ i, v = Val.int i := by cases v <;> first | exact ⟨_, rfl⟩ | exact False.elim p
      obtain ⟨n, rfl⟩ : ∃ i, w = Val.int i := by cases w <;> first | exact ⟨_, rfl⟩ | exact False.elim p
      have p : Post L φ2 H2 (vR L) (Res.bind (match (if (n < 2 ^ 62 ∧ -(2 ^ 62) ≤ n) ∧ (m < 2 ^ 62 ∧ -(2 ^ 62) ≤ m) then some (rangeL m n 1, []) else none : Option (List Val × Src)) with
        | some p => .ok p h2
        | none => .bad) fun p h1 => if p.1.length ≤ 4096 then alloc (.lst true p.1) h1 else .bad) Q _ := p
      by_cases c : (n < 2 ^ 62 ∧ -(2 ^ 62) ≤ n) ∧ (m < 2 ^ 62 ∧ -(2 ^ 62) ≤ m)
      · rw [if_pos c] at p
        simp only [bind_ok] at p
        by_cases hl : (rangeL m n 1).length ≤ 4096
        · rw [if_pos hl] at p
          exact ⟨m, n, r1.intI, r2.intI, rgOk_of c.1 c.2 hl, fun d hd => Post.lst R2 (rng_rel m n) p hd⟩
        · rw [if_neg hl] at p; exact False.elim p
      · rw [if_neg c] at p; exact False.elim p
end
section
variable {prog : Program} {w : World} {A : Around} {E : Value → Shared → Prop} {s : Shared}
/-- a list, filled from the walk of a list from its end -/
theorem extend_rev {it l S : Addr} {items : Array Value} {c₀ : Nat} {res : Value} {R : Result → Shared → Prop} (hh : A.in1.handled = none) (hit : s.heap.IsRevIter it l ((items.size : Int) - 1)) (hl : s.heap.IsList l items) (hne : l ≠ it) (hn : items.size ≤ sizeLine) (hSi : S ≠ it) (hSl : S ≠ l)
    (hS : s.heap.get? S = some { cls := .type "list", data := .seq #[] c₀ })
    (hR : ∀ s' acc' c', (∀ b o, b ≠ it → b ≠ S → s.heap.get? b = some o → s'.heap.get? b = some o) → s' = { s with heap := s'.heap, toks := s'.toks } → s'.heap.get? S = some { cls := .type "list", dict := none, data := .seq acc' c', slots := #[] } →
      ItemsOf (fun i v => items[items.size - 1 - i]? = some v) acc' items.size → R (.ok (.ret res)) s') :
    wpAny (model prog w) A.in1 (Builtin.List.listExtendWith (.ref S) (.ref it) res)
      (fun fin s' => match fin with | .done f => R (.ok f) s' | .again c' => c'.quiet = true ∧ codeAny (model prog w) A c' R s') (fun e s' => R (.error e) s') s := by
  have W := (Walks.listRev (prog := prog) (w := w) (A := A.in1) hh it l hne items).toS
  have hSf : S ∉ [it, l] := by simp only [List.mem_cons, List.not_mem_nil, or_false, not_or]; exact ⟨hSi, hSl⟩
  have hT : s.TypeIs (.ref it) "list_reverseiterator" := hit.typeIs
  have h1 : Builtin.List.listSameRef (.ref S) (.ref it) = false := by simp [Builtin.List.listSameRef, hSi]
  unfold Builtin.List.listExtendWith
  refine wpAny_bind (wpAny_typeOf hT ?_)
  rw [if_neg (by rw [h1]; decide)]
  refine wpAny_bind (wpAny_pyIter_revIter hit ?_)
  refine wpAny_bind (wpAny_holding ?_)
  unfold Builtin.List.listLengthHint
  refine wpAny_bind (wpAny_specialOf hT RT.nolen_lri ?_)
  show wpAny _ A.in1 (specialOf (Value.ref it) (Str.ofString "__length_hint__") >>= _) _ _ _
  refine wpAny_bind (wpAny_specialOf hT RT.hint_lri ?_)
  generalize hid : ("list_reverseiterator.__length_hint__" : String) = id0
  wp_delta
  rw [show splitId id0 = some ("list_reverseiterator", "__length_hint__") from by subst hid; decide +kernel]
  subst hid
  refine wpAny_bind (wpAny_isInstance (b := true) hT (by rw [isSubtype_type]; kernel_rfl) ?_)
  refine wpAny_pure ?_
  rw [if_neg (by decide)]
  have e0 : ((items.size : Nat) : Int) - 1 - ((0 : Nat) : Int) = (items.size : Int) - 1 := by omega
  refine wpAny_pure ⟨plainId_quiet F.plain_extend_loop _, codeAny_extend_loopS W hn _ hSf _ items.size 0 _ _ _ rfl (Nat.zero_le _) ⟨Nat.zero_le _, by rw [e0]; exact hit, hl⟩ hS (ItemsOf.nil _) fun s' acc' c' hm hS' hacc => ?_⟩
  refine hR s' acc' c' (fun b o hb hbS e => hm.heap b o (fun hmem => ?_) e) (Moved.eq_with hm) hS' hacc
  rcases List.mem_cons.mp hmem with e' | hmem
  · exact hbS e'
  · exact hb (List.mem_singleton.mp hmem)
theorem list_init_rev {it l S : Addr} {items : Array Value} {R : Result → Shared → Prop} (hh : A.in1.handled = none) (hit : s.heap.IsRevIter it l ((items.size : Int) - 1)) (hl : s.heap.IsList l items) (hne : l ≠ it) (hn : items.size ≤ sizeLine) (hSi : S ≠ it) (hSl : S ≠ l)
    (hS : s.heap.get? S = some { cls := .type "list", data := .seq #[] })
    (hR : ∀ s' acc' c', (∀ b o, b ≠ it → b ≠ S → s.heap.get? b = some o → s'.heap.get? b = some o) → s' = { s with heap := s'.heap, toks := s'.toks } → s'.heap.get? S = some { cls := .type "list", dict := none, data := .seq acc' c', slots := #[] } →
      ItemsOf (fun i v => items[items.size - 1 - i]? = some v) acc' items.size → R (.ok (.ret .none)) s') :
    wpAny (model prog w) A.in1 (Builtin.«list.__init__» ⟨[.ref S, .ref it], []⟩)
      (fun fin s' => match fin with | .done f => R (.ok f) s' | .again c' => c'.quiet = true ∧ codeAny (model prog w) A c' R s') (fun e s' => R (.error e) s') s := by
  show wpAny _ A.in1 (do let old ← Builtin.List.listItems (.ref S); Builtin.List.listUpdate (.ref S) (fun _ => #[]); letGo old.toList.reverse; Builtin.List.listExtendWith (.ref S) (.ref it) .none) _ _ s
  refine wpAny_bind ?_
  unfold Builtin.List.listItems
  refine wpAny_bind (wpAny_seqItems hS rfl (wpAny_pure ?_))
  show wpAny _ A.in1 (updateSeq S (fun _ => #[]) >>= fun _ => letGo (#[] : Array Value).toList.reverse >>= fun _ => Builtin.List.listExtendWith (.ref S) (.ref it) .none) _ _ s
  refine wpAny_bind (wpAny_updateSeq hS rfl ?_)
  have hS₂ := Heap.get?_update_self (Obj.mapSeq (fun _ => (#[] : Array Value))) hS rfl
  have oth : ∀ b o, b ≠ S → s.heap.get? b = some o → (s.heap.update S (Obj.mapSeq (fun _ => (#[] : Array Value)))).get? b = some o :=
    fun b o hb e => (Heap.get?_update_other _ _ (Ne.symm hb)).trans e
  refine wpAny_bind (wpAny_letGo ?_)
  refine extend_rev (s := { s with heap := s.heap.update S (Obj.mapSeq (fun _ => (#[] : Array Value))) }) hh (hit.at fun o e => oth _ _ (Ne.symm hSi) e) (hl.at fun o e => oth _ _ (Ne.symm hSl) e) hne hn hSi hSl hS₂ fun s' acc' c' hk he hS' hacc => ?_
  exact hR s' acc' c' (fun b o hb hbS e => hk b o hb hbS (oth b o hbS e)) he hS' hacc
theorem call_list_rev {it l : Addr} {items : Array Value} {Q : Value → Shared → Prop} (hh : A.in1.in1.handled = none) (hit : s.heap.IsRevIter it l ((items.size : Int) - 1)) (hl : s.heap.IsList l items) (hne : l ≠ it) (hn : items.size ≤ sizeLine)
    (hQ : ∀ s' acc' c', (∀ b o, b ≠ it → s.heap.get? b = some o → s'.heap.get? b = some o) → s' = { s with heap := s'.heap, toks := s'.toks } → s'.heap.get? s.heap.objs.size = some { cls := .type "list", dict := none, data := .seq acc' c', slots := #[] } →
      ItemsOf (fun i v => items[items.size - 1 - i]? = some v) acc' items.size → Q (.ref s.heap.objs.size) s') :
    wpAny (model prog w) A (call (.type "list") [.ref it]) Q E s := by
  refine callType_codes (Q₁ := fun obj s₁ => obj = .ref s.heap.objs.size ∧ s₁ = { s with heap := s.heap.push { cls := .type "list", data := .seq #[] } }) F.called_list (F.typeCall_list_1 _) F.entry_list_init
    (code_list_new _ ⟨rfl, rfl⟩) fun obj s₁ h₁ => ?_
  obtain ⟨rfl, rfl⟩ := h₁
  have hS : (s.heap.push { cls := .type "list", data := .seq #[] }).get? s.heap.objs.size = some { cls := .type "list", data := .seq #[] } := Heap.get?_push_size _ rfl
  obtain ⟨oi, hoi, _⟩ := id hit
  obtain ⟨ol, hol, _⟩ := id hl
  have hSi : s.heap.objs.size ≠ it := Nat.ne_of_gt (Heap.lt_size hoi)
  have hSl : s.heap.objs.size ≠ l := Nat.ne_of_gt (Heap.lt_size hol)
  refine ⟨⟨_, hS, rfl⟩, F.args_list_init_2 _ _, list_init_rev (s := { s with heap := s.heap.push { cls := .type "list", data := .seq #[] } }) hh (hit.at fun o e => Heap.get?_push_of_some _ e) (hl.push _) hne hn hSi hSl hS fun s' acc' c' hk he hS' hacc => ?_⟩
  exact ⟨rfl, hQ s' acc' c' (fun b o hb e => hk b o hb (Nat.ne_of_lt (Heap.lt_size e)) (Heap.get?_push_of_some _ e)) he hS' hacc⟩
end
/-! list(zip(x, y)) -/
theorem zip_no_len : typeLookup (.type "zip") "__len__" = pure none := am_miss_of_fast (by decide +kernel)
theorem zip_no_hint : typeLookup (.type "zip") "__length_hint__" = pure none := am_miss_of_fast (by decide +kernel)
/-- pairs that were laid, one above the other -/
inductive Pz (h : Heap) : List Value → List Value → Addr → List Addr → Prop
  | nil {xs ys : List Value} {m : Addr} (e : xs = [] ∨ ys = []) : Pz h xs ys m []
  | cons {x y : Value} {xs ys : List Value} {m q : Addr} {qs : List Addr} (le : m ≤ q) (at' : h.get? q = some { cls := .type "tuple", data := .seq #[x, y] }) (r : Pz h xs ys (q + 1) qs) : Pz h (x :: xs) (y :: ys) m (q :: qs)
theorem Pz.mono {h h' : Heap} {xs ys : List Value} {m : Addr} {qs : List Addr} (p : Pz h xs ys m qs) (k : ∀ b o, m ≤ b → h.get? b = some o → h'.get? b = some o) : Pz h' xs ys m qs := by
  induction p with
  | nil e => exact .nil e
  | cons le at' r ih => exact .cons le (k _ _ le at') (ih fun b o hb e => k b o (Nat.le_trans (Nat.le_succ_of_le le) hb) e)
theorem Pz.low {h : Heap} {xs ys : List Value} {m n : Addr} {qs : List Addr} (p : Pz h xs ys m qs) (hn : n ≤ m) : Pz h xs ys n qs := by
  cases p with
  | nil e => exact .nil e
  | cons le at' r => exact .cons (Nat.le_trans hn le) at' r
section
variable {prog : Program} {w : World} {A : Around} {E : Value → Shared → Prop} {z TI TO i1 i2 l1 l2 S : Addr} {xs ys : Array Value}
/-- a zip of two lists that gave i pairs -/
structure Zst (z TI TO i1 i2 l1 l2 S : Addr) (xs ys : Array Value) (i : Nat) (h : Heap) : Prop where
  ti : IsPair h TI (.ref i1) (.ref i2)
  a1 : h.IsListIter i1 l1 i
  a2 : h.IsListIter i2 l2 i
  b1 : h.IsList l1 xs
  b2 : h.IsList l2 ys
  to : ∃ o, h.get? TO = some o
  st : (IsZip h z TI TO .none ∧ ∃ a b, IsPair h TO a b) ∨ ∃ (T : Addr) (f : Bool) (oT : Obj), PySem.IsZipHeld h z TI TO T f ∧ h.get? T = some oT ∧ T ≠ z ∧ T ≠ i1 ∧ T ≠ i2 ∧ T ≠ S
theorem Zst.at {i : Nat} {h h' : Heap} (s : Zst z TI TO i1 i2 l1 l2 S xs ys i h) (n : S ≠ z ∧ S ≠ TI ∧ S ≠ TO ∧ S ≠ i1 ∧ S ≠ i2 ∧ S ≠ l1 ∧ S ≠ l2) (k : ∀ b o, b ≠ S → h.get? b = some o → h'.get? b = some o) : Zst z TI TO i1 i2 l1 l2 S xs ys i h' := by
  obtain ⟨n1, n2, n3, n4, n5, n6, n7⟩ := n
  refine ⟨k _ _ n2.symm s.ti, s.a1.at fun o e => k _ o n4.symm e, s.a2.at fun o e => k _ o n5.symm e, s.b1.at fun o e => k _ o n6.symm e, s.b2.at fun o e => k _ o n7.symm e, s.to.imp fun o e => k _ o n3.symm e, ?_⟩
  rcases s.st with ⟨e1, a, b, e2⟩ | ⟨T, f, oT, e1, e2, t1, t2, t3, t4⟩
  · exact .inl ⟨k _ _ n1.symm e1, a, b, k _ _ n3.symm e2⟩
  · exact .inr ⟨T, f, oT, k _ _ n1.symm e1, k _ _ t4 e2, t1, t2, t3, t4⟩
theorem extend_zip_loop (D : ZipApart z TI TO i1 i2 l1 l2) (n : S ≠ z ∧ S ≠ TI ∧ S ≠ TO ∧ S ≠ i1 ∧ S ≠ i2 ∧ S ≠ l1 ∧ S ≠ l2) (hh : A.in1.handled = none) (hn : xs.size ≤ sizeLine) (res : Value) {R : Result → Shared → Prop} :
    ∀ (k i : Nat) (s : Shared) (acc : Array Value) (c : Nat), min xs.size ys.size - i = k → i ≤ min xs.size ys.size → Zst z TI TO i1 i2 l1 l2 S xs ys i s.heap → s.heap.get? S = some { cls := .type "list", dict := none, data := .seq acc c, slots := #[] } → acc.size = i →
    (∀ h' acc' c' qs, (∀ b o, b ≠ z → b ≠ TO → b ≠ i1 → b ≠ i2 → b ≠ S → s.heap.get? b = some o → h'.get? b = some o) → h'.get? S = some { cls := .type "list", dict := none, data := .seq acc' c', slots := #[] } → acc'.toList = acc.toList ++ qs.map Value.ref →
      Pz h' (xs.toList.drop i) (ys.toList.drop i) s.heap.objs.size qs → R (.ok (.ret res)) { s with heap := h' }) →
    codeAny (model prog w) A (.builtin "list.extend.loop" ⟨[.ref S, .ref z, res], []⟩) R s := by
  intro k
  have lt : ∀ {h : Heap} {c : Addr} {o : Obj}, h.get? c = some o → c < h.objs.size := fun e => Heap.lt_size e
  induction k with
  | zero =>
    intro i s acc c hk hi hst hS hacc hR
    refine codeAny_builtin PySem.F.entry_extend_loop ?_
    rw [Around.under_plainId PySem.F.plain_extend_loop _]
    show wpAny _ A.in1 (pyNext (.ref z) >>= _) _ _ s
    have hend : xs[i]? = none ∨ ys[i]? = none := by
      rcases Nat.le_total xs.size ys.size with h | h
      · exact .inl (Array.getElem?_eq_none (by omega))
      · exact .inr (Array.getElem?_eq_none (by omega))
    have he : xs.toList.drop i = [] ∨ ys.toList.drop i = [] := by
      rcases Nat.le_total xs.size ys.size with h | h
      · exact .inl (List.drop_eq_nil_of_le (by simp; omega))
      · exact .inr (List.drop_eq_nil_of_le (by simp; omega))
    refine wpAny_bind ?_
    rcases hst.st with ⟨e1, a, b, e2⟩ | ⟨T, f, oT, e1, e2, t1, t2, t3, t4⟩
    · refine wpAny_pyNext_zip_end hh D e1 hst.ti e2 hst.a1 hst.a2 hst.b1 hst.b2 hend fun h' hk => ?_
      exact wpAny_pure (hR h' acc c [] (fun b o b1 b2 b3 b4 b5 e => hk b o b1 b2 b3 b4 e) (hk _ _ n.1 n.2.2.1 n.2.2.2.1 n.2.2.2.2.1 hS) (by simp) (.nil he))
    · refine PySem.wpAny_pyNext_zip_end_held hh D e1 e2 hst.ti hst.a1 hst.a2 hst.b1 hst.b2 hend fun h' hk => ?_
      exact wpAny_pure (hR h' acc c [] (fun b o b1 b2 b3 b4 b5 e => hk b o b1 b3 b4 e) (hk _ _ n.1 n.2.2.2.1 n.2.2.2.2.1 hS) (by simp) (.nil he))
  | succ k ih =>
    intro i s acc c hk hi hst hS hacc hR
    have hx : i < xs.size := by omega
    have hy : i < ys.size := by omega
    refine codeAny_builtin PySem.F.entry_extend_loop ?_
    rw [Around.under_plainId PySem.F.plain_extend_loop _]
    show wpAny _ A.in1 (pyNext (.ref z) >>= _) _ _ s
    have dx : xs.toList.drop i = xs[i] :: xs.toList.drop (i + 1) := by rw [List.drop_eq_getElem_cons (by simpa using hx)]; simp
    have dy : ys.toList.drop i = ys[i] :: ys.toList.drop (i + 1) := by rw [List.drop_eq_getElem_cons (by simpa using hy)]; simp
    have tail : ∀ h' : Heap, Zst z TI TO i1 i2 l1 l2 S xs ys (i + 1) h' → IsPair h' s.heap.objs.size xs[i] ys[i] → s.heap.objs.size + 1 = h'.objs.size →
        (∀ b o, b ≠ z → b ≠ TO → b ≠ i1 → b ≠ i2 → s.heap.get? b = some o → h'.get? b = some o) → h'.get? S = some { cls := .type "list", dict := none, data := .seq acc c, slots := #[] } →
        wpAny (model prog w) A.in1 (updateSeq S (·.push (.ref s.heap.objs.size)) >>= fun _ => again (.builtin "list.extend.loop" ⟨[.ref S, .ref z, res], []⟩))
          (fun fin s' => match fin with | .done f => R (.ok f) s' | .again c' => c'.quiet = true ∧ codeAny (model prog w) A c' R s') (fun e s' => R (.error e) s') { s with heap := h' } := by
      intro h' st pr sz kk hS'
      have hSs : S < s.heap.objs.size := lt hS
      refine wpAny_bind (wpAny_updateSeq hS' rfl (wpAny_pure ⟨plainId_quiet PySem.F.plain_extend_loop _, ?_⟩) (by rw [hacc]; omega) (by show (acc.push _).size ≤ sizeLine + 1; rw [Array.size_push, hacc]; omega))
      have S2 := Heap.get?_update_self (Obj.mapSeq (·.push (Value.ref s.heap.objs.size))) hS' rfl
      have oth : ∀ b o, b ≠ S → h'.get? b = some o → (h'.update S (Obj.mapSeq (·.push (Value.ref s.heap.objs.size)))).get? b = some o := fun b o hb e => (Heap.get?_update_other _ _ (Ne.symm hb)).trans e
      have usz : (h'.update S (Obj.mapSeq (·.push (Value.ref s.heap.objs.size)))).objs.size = h'.objs.size := (Heap.SameBut.update ..).1
      refine ih (i + 1) { s with heap := h'.update S (Obj.mapSeq (·.push (Value.ref s.heap.objs.size))) } (acc.push (.ref s.heap.objs.size)) _ (by omega) (by omega) (st.at n fun b o hb e => oth b o hb e) S2 (by rw [Array.size_push, hacc]) fun h2 acc' c' qs kp e1 e2 pz => ?_
      refine hR h2 acc' c' (s.heap.objs.size :: qs) (fun b o b1 b2 b3 b4 b5 e => kp b o b1 b2 b3 b4 b5 (oth b o b5 (kk b o b1 b2 b3 b4 e))) e1 ?_ ?_
      · rw [e2]; simp
      · rw [dx, dy]
        have lz : z < s.heap.objs.size := by
          rcases hst.st with ⟨e, _⟩ | ⟨_, _, _, e, _⟩
          · exact lt e
          · exact lt e
        have lTO : TO < s.heap.objs.size := by obtain ⟨_, e⟩ := hst.to; exact lt e
        have l1' : i1 < s.heap.objs.size := by obtain ⟨_, e, _⟩ := hst.a1; exact lt e
        have l2' : i2 < s.heap.objs.size := by obtain ⟨_, e, _⟩ := hst.a2; exact lt e
        refine .cons (Nat.le_refl _) (kp _ _ (Nat.ne_of_gt lz) (Nat.ne_of_gt lTO) (Nat.ne_of_gt l1') (Nat.ne_of_gt l2') (Nat.ne_of_gt hSs) (oth _ _ (Nat.ne_of_gt hSs) pr)) (pz.low (Nat.le_of_eq (sz.trans usz.symm)))
    refine wpAny_bind ?_
    rcases hst.st with ⟨e1, a, b, e2⟩ | ⟨T, f, oT, e1, e2, t1, t2, t3, t4⟩
    · refine wpAny_pyNext_zip_item D e1 hst.ti e2 hst.a1 hst.a2 hst.b1 hst.b2 (Array.getElem?_eq_getElem hx) (Array.getElem?_eq_getElem hy) fun h' c1 c2 c3 c4 c5 c6 kk => ?_
      refine tail h' ⟨kk _ _ D.TIz D.TITO D.TIi1 D.TIi2 hst.ti, c3, c4, hst.b1.at fun o e => kk _ o D.l1z D.l1TO D.l1i1 D.l1i2 e, hst.b2.at fun o e => kk _ o D.l2z D.l2TO D.l2i1 D.l2i2 e, ⟨_, c2⟩, .inr ⟨s.heap.objs.size, false, _, c1, c5, ?_, ?_, ?_, ?_⟩⟩ c5 c6.symm kk (kk _ _ n.1 n.2.2.1 n.2.2.2.1 n.2.2.2.2.1 hS)
      · exact Nat.ne_of_gt (lt e1)
      · obtain ⟨_, e, _⟩ := hst.a1; exact Nat.ne_of_gt (lt e)
      · obtain ⟨_, e, _⟩ := hst.a2; exact Nat.ne_of_gt (lt e)
      · exact Nat.ne_of_gt (lt hS)
    · refine PySem.wpAny_pyNext_zip_item_held D e1 e2 hst.ti hst.a1 hst.a2 hst.b1 hst.b2 (Array.getElem?_eq_getElem hx) (Array.getElem?_eq_getElem hy) fun h' c1 c3 c4 c5 c6 kk => ?_
      refine tail h' ⟨kk _ _ D.TIz D.TIi1 D.TIi2 hst.ti, c3, c4, hst.b1.at fun o e => kk _ o D.l1z D.l1i1 D.l1i2 e, hst.b2.at fun o e => kk _ o D.l2z D.l2i1 D.l2i2 e, hst.to.imp fun o e => kk _ o D.TOz D.TOi1 D.TOi2 e, .inr ⟨T, true, oT, c1, kk _ _ t1 t2 t3 e2, t1, t2, t3, t4⟩⟩ c5 c6.symm (fun b o b1 b2 b3 b4 e => kk b o b1 b3 b4 e) (kk _ _ n.1 n.2.2.2.1 n.2.2.2.2.1 hS)
theorem extend_zip {s : Shared} {c0 : Nat} {res : Value} {R : Result → Shared → Prop} (D : ZipApart z TI TO i1 i2 l1 l2) (n : S ≠ z ∧ S ≠ TI ∧ S ≠ TO ∧ S ≠ i1 ∧ S ≠ i2 ∧ S ≠ l1 ∧ S ≠ l2) (hh : A.in1.handled = none) (hn : xs.size ≤ sizeLine)
    (hz : IsZip s.heap z TI TO .none) (hst : Zst z TI TO i1 i2 l1 l2 S xs ys 0 s.heap) (hS : s.heap.get? S = some { cls := .type "list", data := .seq #[] c0 })
    (hR : ∀ h' acc' c' qs, (∀ b o, b ≠ z → b ≠ TO → b ≠ i1 → b ≠ i2 → b ≠ S → s.heap.get? b = some o → h'.get? b = some o) → h'.get? S = some { cls := .type "list", dict := none, data := .seq acc' c', slots := #[] } → acc'.toList = qs.map Value.ref →
      Pz h' xs.toList ys.toList s.heap.objs.size qs → R (.ok (.ret res)) { s with heap := h' }) :
    wpAny (model prog w) A.in1 (Builtin.List.listExtendWith (.ref S) (.ref z) res)
      (fun fin s' => match fin with | .done f => R (.ok f) s' | .again c' => c'.quiet = true ∧ codeAny (model prog w) A c' R s') (fun e s' => R (.error e) s') s := by
  have hT : s.TypeIs (.ref z) "zip" := ⟨_, hz, rfl⟩
  have h1 : Builtin.List.listSameRef (.ref S) (.ref z) = false := by simp [Builtin.List.listSameRef, n.1]
  unfold Builtin.List.listExtendWith
  refine wpAny_bind (wpAny_typeOf hT ?_)
  have h2 : (Value.type "zip" == Value.type "list") = false := by decide
  have h3 : (Value.type "zip" == Value.type "tuple") = false := by decide
  simp only [h1, h2, h3, Bool.or_false, Bool.false_eq_true, if_false]
  refine wpAny_bind (wpAny_pyIter_zip hz ?_)
  refine wpAny_bind (wpAny_holding ?_)
  unfold Builtin.List.listLengthHint
  refine wpAny_bind (wpAny_specialOf hT zip_no_len ?_)
  show wpAny _ A.in1 (specialOf (Value.ref z) (Str.ofString "__length_hint__") >>= _) _ _ _
  refine wpAny_bind (wpAny_specialOf hT zip_no_hint ?_)
  refine wpAny_pure ?_
  show wpAny _ A.in1 (rule "list.extend.makes-room" >>= fun _ => Builtin.List.listTouch (.ref S) >>= fun _ =>
    again (.builtin "list.extend.loop" ⟨[.ref S, .ref z, res], []⟩)) _ _ _
  refine wpAny_bind (wpAny_rule ?_)
  refine wpAny_bind ?_
  show wpAny _ A.in1 (updateSeq S (·.push .none) >>= fun _ => updateSeq S (·.pop)) _ _ _
  refine wpAny_bind (wpAny_updateSeq hS rfl ?_)
  have hS2 := Heap.get?_update_self (Obj.mapSeq (·.push Value.none)) hS rfl
  refine wpAny_updateSeq hS2 rfl ?_
  have hS3 := Heap.get?_update_self (Obj.mapSeq (·.pop)) hS2 rfl
  have oth : ∀ b o, b ≠ S → s.heap.get? b = some o → ((s.heap.update S (Obj.mapSeq (·.push Value.none))).update S (Obj.mapSeq (·.pop))).get? b = some o :=
    fun b o hb e => (Heap.get?_update_other _ _ (Ne.symm hb)).trans ((Heap.get?_update_other _ _ (Ne.symm hb)).trans e)
  have usz : ((s.heap.update S (Obj.mapSeq (·.push Value.none))).update S (Obj.mapSeq (·.pop))).objs.size = s.heap.objs.size := ((Heap.SameBut.update ..).1).trans (Heap.SameBut.update ..).1
  refine wpAny_pure ⟨plainId_quiet PySem.F.plain_extend_loop _, extend_zip_loop (xs := xs) (ys := ys) D n hh hn res (min xs.size ys.size) 0 { s with heap := (s.heap.update S (Obj.mapSeq (·.push Value.none))).update S (Obj.mapSeq (·.pop)) } _ _ rfl (Nat.zero_le _) (hst.at n oth) hS3 rfl fun h' acc' c' qs kk e1 e2 pz => ?_⟩
  refine hR h' acc' c' qs (fun b o b1 b2 b3 b4 b5 e => kk b o b1 b2 b3 b4 b5 (oth b o b5 e)) e1 (by rw [e2]; simp [Obj.mapSeq]) ?_
  rw [← usz]
  simpa using pz
theorem list_init_zip {s : Shared} {R : Result → Shared → Prop} (D : ZipApart z TI TO i1 i2 l1 l2) (n : S ≠ z ∧ S ≠ TI ∧ S ≠ TO ∧ S ≠ i1 ∧ S ≠ i2 ∧ S ≠ l1 ∧ S ≠ l2) (hh : A.in1.handled = none) (hn : xs.size ≤ sizeLine)
    (hz : IsZip s.heap z TI TO .none) (hst : Zst z TI TO i1 i2 l1 l2 S xs ys 0 s.heap) (hS : s.heap.get? S = some { cls := .type "list", data := .seq #[] })
    (hR : ∀ h' acc' c' qs, (∀ b o, b ≠ z → b ≠ TO → b ≠ i1 → b ≠ i2 → b ≠ S → s.heap.get? b = some o → h'.get? b = some o) → h'.get? S = some { cls := .type "list", dict := none, data := .seq acc' c', slots := #[] } → acc'.toList = qs.map Value.ref →
      Pz h' xs.toList ys.toList s.heap.objs.size qs → R (.ok (.ret .none)) { s with heap := h' }) :
    wpAny (model prog w) A.in1 (Builtin.«list.__init__» ⟨[.ref S, .ref z], []⟩)
      (fun fin s' => match fin with | .done f => R (.ok f) s' | .again c' => c'.quiet = true ∧ codeAny (model prog w) A c' R s') (fun e s' => R (.error e) s') s := by
  show wpAny _ A.in1 (do let old ← Builtin.List.listItems (.ref S); Builtin.List.listUpdate (.ref S) (fun _ => #[]); letGo old.toList.reverse; Builtin.List.listExtendWith (.ref S) (.ref z) .none) _ _ s
  refine wpAny_bind ?_
  unfold Builtin.List.listItems
  refine wpAny_bind (wpAny_seqItems hS rfl (wpAny_pure ?_))
  show wpAny _ A.in1 (updateSeq S (fun _ => #[]) >>= fun _ => letGo (#[] : Array Value).toList.reverse >>= fun _ => Builtin.List.listExtendWith (.ref S) (.ref z) .none) _ _ s
  refine wpAny_bind (wpAny_updateSeq hS rfl ?_)
  have hS2 := Heap.get?_update_self (Obj.mapSeq (fun _ => (#[] : Array Value))) hS rfl
  have oth : ∀ b o, b ≠ S → s.heap.get? b = some o → (s.heap.update S (Obj.mapSeq (fun _ => (#[] : Array Value)))).get? b = some o :=
    fun b o hb e => (Heap.get?_update_other _ _ (Ne.symm hb)).trans e
  have usz : (s.heap.update S (Obj.mapSeq (fun _ => (#[] : Array Value)))).objs.size = s.heap.objs.size := (Heap.SameBut.update ..).1
  refine wpAny_bind (wpAny_letGo ?_)
  refine extend_zip (xs := xs) (ys := ys) (s := { s with heap := s.heap.update S (Obj.mapSeq (fun _ => (#[] : Array Value))) }) D n hh hn (oth _ _ n.1.symm hz) (hst.at n oth) hS2 fun h' acc' c' qs kk e1 e2 pz => ?_
  exact hR h' acc' c' qs (fun b o b1 b2 b3 b4 b5 e => kk b o b1 b2 b3 b4 b5 (oth b o b5 e)) e1 e2 (by rw [← usz]; exact pz)
theorem call_list_zip {s : Shared} {Q : Value → Shared → Prop} (D : ZipApart z TI TO i1 i2 l1 l2) (hh : A.in1.in1.handled = none) (hn : xs.size ≤ sizeLine)
    (hz : IsZip s.heap z TI TO .none) (hst : Zst z TI TO i1 i2 l1 l2 s.heap.objs.size xs ys 0 s.heap)
    (hQ : ∀ h' acc' c' qs, (∀ b o, b ≠ z → b ≠ TO → b ≠ i1 → b ≠ i2 → s.heap.get? b = some o → h'.get? b = some o) → h'.get? s.heap.objs.size = some { cls := .type "list", dict := none, data := .seq acc' c', slots := #[] } → acc'.toList = qs.map Value.ref →
      Pz h' xs.toList ys.toList (s.heap.objs.size + 1) qs → Q (.ref s.heap.objs.size) { s with heap := h' }) :
    wpAny (model prog w) A (call (.type "list") [.ref z]) Q E s := by
  refine callType_codes (Q₁ := fun obj s₁ => obj = .ref s.heap.objs.size ∧ s₁ = { s with heap := s.heap.push { cls := .type "list", data := .seq #[] } }) PySem.F.called_list (PySem.F.typeCall_list_1 _) PySem.F.entry_list_init
    (code_list_new _ ⟨rfl, rfl⟩) fun obj s₁ h₁ => ?_
  obtain ⟨rfl, rfl⟩ := h₁
  have hS : (s.heap.push { cls := .type "list", data := .seq #[] }).get? s.heap.objs.size = some { cls := .type "list", data := .seq #[] } := Heap.get?_push_size _ rfl
  have lt : ∀ {c : Addr} {o : Obj}, s.heap.get? c = some o → s.heap.objs.size ≠ c := fun e => Nat.ne_of_gt (Heap.lt_size e)
  have n : s.heap.objs.size ≠ z ∧ s.heap.objs.size ≠ TI ∧ s.heap.objs.size ≠ TO ∧ s.heap.objs.size ≠ i1 ∧ s.heap.objs.size ≠ i2 ∧ s.heap.objs.size ≠ l1 ∧ s.heap.objs.size ≠ l2 := by
    refine ⟨lt hz, lt hst.ti, ?_, ?_, ?_, ?_, ?_⟩
    · obtain ⟨_, e⟩ := hst.to; exact lt e
    · obtain ⟨_, e, _⟩ := hst.a1; exact lt e
    · obtain ⟨_, e, _⟩ := hst.a2; exact lt e
    · obtain ⟨_, e, _⟩ := hst.b1; exact lt e
    · obtain ⟨_, e, _⟩ := hst.b2; exact lt e
  refine ⟨⟨_, hS, rfl⟩, PySem.F.args_list_init_2 _ _, list_init_zip (xs := xs) (ys := ys) (s := { s with heap := s.heap.push { cls := .type "list", data := .seq #[] } }) D n hh hn (Heap.get?_push_of_some _ hz) (hst.at n fun b o _ e => Heap.get?_push_of_some _ e) hS fun h' acc' c' qs kk e1 e2 pz => ?_⟩
  refine ⟨rfl, hQ h' acc' c' qs (fun b o b1 b2 b3 b4 e => kk b o b1 b2 b3 b4 (Nat.ne_of_lt (Heap.lt_size e)) (Heap.get?_push_of_some _ e)) e1 e2 ?_⟩
  have : (s.heap.push { cls := .type "list", data := .seq #[] }).objs.size = s.heap.objs.size + 1 := by simp [Heap.push]
  rw [← this]
  exact pz
end
theorem ObjOk.ex {P : Program} {w : World} {H : Hp} {h : Heap} {a : Addr} {o : HO} (x : ObjOk P w H h a o) : ∃ u, h.get? a = some u := by
  cases o with
  | lst xs => obtain ⟨_, _, _, _, e⟩ := x; exact ⟨_, e⟩
  | tup xs => obtain ⟨_, _, _, o, e, _⟩ := x; exact ⟨_, e⟩
  | dK kvs => obtain ⟨_, _, _, _, o, _, _, e, _⟩ := x; exact ⟨_, e⟩
  | dT kvs => obtain ⟨_, _, _, _, o, _, _, e, _⟩ := x; exact ⟨_, e⟩
  | set S n => obtain ⟨o, _, _, _, e, _⟩ := x; exact ⟨_, e⟩
  | ins C dx fs => obtain ⟨_, _, _, e, _⟩ := x; exact ⟨_, e⟩
  | own y => obtain ⟨_, e⟩ := x; exact ⟨_, e⟩
  | xd fs => obtain ⟨_, ⟨_, _, _, e, _⟩, _⟩ := x; exact ⟨_, e⟩
  | rng lo hi => obtain ⟨_, _, _, e⟩ := x; exact ⟨_, e⟩
  | frz ob u => obtain ⟨e, _⟩ := x; exact ⟨_, e⟩
  | tbl ps => exact ⟨_, (show h.get? a = some _ from x)⟩
  | met f y => exact ⟨_, (show h.get? a = some _ from x)⟩
  | ext φ => obtain ⟨_, ⟨_, e⟩, _⟩ := x; exact ⟨_, e⟩
theorem HOk.none_of {P : Program} {w : World} {H : Hp} {h : Heap} {a : Addr} (x : HOk P w H h) (e : h.get? a = none) : H a = none := by
  cases q : H a with
  | none => rfl
  | some u =>
    obtain ⟨o, z⟩ := ObjOk.ex (x a u q)
    rw [e] at z; cases z
/-- pairs laid and tracked -/
inductive Zl : Hp → List V → List V → List Addr → Hp → Prop
  | nil {H : Hp} {xs ys : List V} (e : xs = [] ∨ ys = []) : Zl H xs ys [] H
  | cons {H H2 : Hp} {x y : V} {xs ys : List V} {q : Addr} {qs : List Addr} (n : H q = none) (r : Zl (upd H q (.tup [x, y])) xs ys qs H2) : Zl H (x :: xs) (y :: ys) (q :: qs) H2
theorem Zl.len {H H2 : Hp} {xs ys : List V} {qs : List Addr} (z : Zl H xs ys qs H2) : qs.length ≤ xs.length := by
  induction z with
  | nil e => simp
  | cons n r ih => simp; omega
section
variable {X : Cx} {pins : List (Addr × Obj)} {σ : L2.St}
theorem lay_many {s : Shared} {h' : Heap} {its its2 : List Value} {m : Addr} {qs : List Addr} (p : Pz h' its its2 m qs) : ∀ (xs ys : List V) (H : Hp) (G : Heap), Vals xs its → Vals ys its2 → Inv X pins σ H { s with heap := G } → (∀ b o, G.get? b = some o → h'.get? b = some o) →
    (∀ b, m ≤ b → G.get? b = none) → ∃ H2 G2, Zl H xs ys qs H2 ∧ Inv X pins σ H2 { s with heap := G2 } ∧ (∀ b o, G2.get? b = some o → h'.get? b = some o) ∧ ∀ b, b < m → G2.get? b = G.get? b := by
  induction p with
  | nil e =>
    intro xs ys H G v1 v2 I k f
    refine ⟨H, G, .nil ?_, I, k, fun b _ => rfl⟩
    rcases e with rfl | rfl
    · cases v1; exact .inl rfl
    · cases v2; exact .inr rfl
  | @cons x y ix iy m q qs le at' r ih =>
    intro xs ys H G v1 v2 I k f
    cases v1 with
    | @cons vx _ xs' _ rx v1 =>
      cases v2 with
      | @cons vy _ ys' _ ry v2 =>
        obtain ⟨G1, g1, g2⟩ := restrict h' fun b => decide (b = q) || (G.get? b).isSome
        have k1 : ∀ b o, G.get? b = some o → G1.get? b = some o := fun b o e => by
          rw [g1 b (by rw [e]; simp)]
          exact k b o e
        have kq : G1.get? q = h'.get? q := g1 q (by simp)
        have gq := f q le
        have I1 := I.laidN (t' := s.toks) (h' := G1) (a := q) (o := .tup [vx, vy]) k1 gq (HOk.none_of I.hok gq) ⟨by show 2 ≤ sizeLine; decide, [x, y], .cons rx (.cons ry .nil), _, kq.trans at', rfl, _, rfl⟩
        obtain ⟨H2, G2, z, I2, k2, f2⟩ := ih xs' ys' _ G1 v1 v2 I1 (fun b o e => by
          by_cases c : (decide (b = q) || (G.get? b).isSome) = true
          · rw [g1 b c] at e; exact e
          · rw [g2 b (Bool.not_eq_true _ ▸ c)] at e; cases e) (fun b hb => g2 b (by
            have h1 : b ≠ q := Nat.ne_of_gt hb
            rw [f b (Nat.le_trans le (Nat.le_of_succ_le hb))]
            simp [h1]))
        refine ⟨H2, G2, .cons (HOk.none_of I.hok gq) z, I2, k2, fun b hb => (f2 b (Nat.lt_of_lt_of_le hb (Nat.le_succ_of_le le))).trans ?_⟩
        by_cases c : (G.get? b).isSome = true
        · obtain ⟨o, e⟩ := Option.isSome_iff_exists.mp c
          rw [k1 b o e, e]
        · have e : G.get? b = none := by simpa using c
          have h1 : b ≠ q := Nat.ne_of_lt (Nat.lt_of_lt_of_le hb le)
          rw [g2 b (by rw [e]; simp [h1]), e]
noncomputable def tLstZip (K : PySem.W.Frag) (ta : TA) : TE := fun σ H Q => ta σ H fun vs H1 => ∃ a b xs ys, vs = [.ref a, .ref b] ∧ SqL K H1 a xs ∧ SqL K H1 b ys ∧ ∀ qs H2 q, Zl H1 xs ys qs H2 → H2 q = none → Q (.ref q) (upd H2 q (.lst (qs.map V.ref)))
theorem vals_refs : ∀ qs : List Addr, Vals (qs.map V.ref) (qs.map Value.ref)
  | [] => .nil
  | q :: r => .cons rfl (vals_refs r)
theorem pe_lstZip {e e2 : Expr} {ta : TA} {p p2 pos pos2 : Pos} (hc : X.calm = true) (hg : Gl X "list") (hm : X.mg "list" = none) (hg2 : Gl X "zip") (hm2 : X.mg "zip" = none) (ha : PA X [e, e2] ta)
    (hs : starEach [e, e2] X.env = (false, eval e X.env) :: starEach [e2] X.env := by rfl) (hpl : (backTo pos2 (starEach [e2] X.env)).any (·.1) = false := by rfl)
    (hs2 : starEach [.Call (.Name "zip" p2) [e, e2] [] pos2] X.env = (false, eval (.Call (.Name "zip" p2) [e, e2] [] pos2) X.env) :: starEach [] X.env := by rfl) :
    PE X (.Call (.Name "list" p) [.Call (.Name "zip" p2) [e, e2] [] pos2] [] pos) (tLstZip X.K ta) := by
  refine ⟨fun pins s σ H Q I h => ?_⟩
  refine Call_ (ld_blt I hg hm boot_list (PyProof.Rows.callWith_type1 (args_cons (Call_ (ld_blt I hg2 hm2 PyProof.Rows.boot_zip (PyProof.Rows.callWith_type1 (thn (ha.run pos2 pins s σ H _ I h) fun us s1 ⟨vs, H1, I1, r1, q1⟩ => ?_) hs hpl))) hs2) hs2 rfl))
  obtain ⟨a, b, xs, ys, ex, hqx, hqy, q⟩ := q1
  subst ex
  cases r1 with
  | cons r rr =>
    cases rr with
    | cons r' rr =>
      cases rr
      cases r
      cases r'
      obtain ⟨its, rv, p1, z1⟩ := I1.list hqx
      obtain ⟨its2, rv2, p2, _⟩ := I1.list hqy
      have la : a < s1.heap.objs.size := p1.lt
      have lb : b < s1.heap.objs.size := p2.lt
      refine call_zip_2 p1.isList p2.isList fun h' hz hTI hTO h1 h2 hsz hk => args_nil ?_
      have D := PySem.W.ktu_apart s1.heap.objs.size a b la lb
      refine call_list_zip (s := { s1 with heap := h' }) D (I1.ok.hd hc) (by rw [List.size_toArray, ← rv.length]; exact z1) hz ⟨hTI, h1, h2, p1.isList.at fun o e => hk _ o e, p2.isList.at fun o e => hk _ o e, ⟨_, hTO⟩, .inl ⟨hz, _, _, hTO⟩⟩ fun h'' acc' c' qs kk eS ea pz => ?_
      have far : ∀ (k : Nat) (b : Addr) (o : Obj), s1.heap.get? b = some o → b ≠ s1.heap.objs.size + k := fun k b o e => Nat.ne_of_lt (Nat.lt_of_lt_of_le (Heap.lt_size e) (Nat.le_add_right _ _))
      have k0 : ∀ b o, s1.heap.get? b = some o → h''.get? b = some o := fun b o e => kk b o (far 4 b o e) (far 3 b o e) (far 0 b o e) (far 1 b o e) (hk b o e)
      have non : ∀ b, h'.objs.size ≤ b → s1.heap.get? b = none := fun b hb => by
        cases e : s1.heap.get? b with
        | none => rfl
        | some o =>
          have := Heap.lt_size e
          rw [hsz] at hb
          exact absurd (Nat.lt_of_lt_of_le this (Nat.le_trans (Nat.le_add_right _ 5) hb)) (Nat.lt_irrefl _)
      obtain ⟨H2, G2, zl, I2, k2, f2⟩ := lay_many (s := s1) pz xs ys H1 s1.heap rv rv2 I1 k0 fun b hb => non b (Nat.le_of_succ_le hb)
      have gS : G2.get? h'.objs.size = none := (f2 _ (Nat.lt_succ_self _)).trans (non _ (Nat.le_refl _))
      have nS := HOk.none_of I2.hok gS
      have ea' : acc' = (qs.map Value.ref).toArray := by rw [← ea]
      have len : qs.length ≤ sizeLine := Nat.le_trans zl.len z1
      have I3 := I2.laidN (t' := s1.toks) (h' := h'') (a := h'.objs.size) (o := .lst (qs.map V.ref)) k2 gS nS ⟨by rw [List.length_map]; exact len, qs.map Value.ref, c', vals_refs qs, by rw [eS, ea']⟩
      exact ⟨.ref h'.objs.size, _, I3, rfl, q qs H2 _ zl nS⟩
end
section
variable {tb : Tb} {L : Lk} {P : Pg} {k : Nat} {X : Cx} {blk : Bool} {N : List Str} {sc : Scope} {W : WX}
/-- list(reversed(x)), x a list: a new list -/
noncomputable def tLstRev (K : PySem.W.Frag) (te : TE) : TE := fun σ H Q => te σ H fun v H1 => ∃ (a : Addr) (xs : List V), v = .ref a ∧ SqL K H1 a xs ∧ ∀ q, H1 q = none → Q (.ref q) (upd H1 q (.lst xs.reverse))
theorem pe_lstRev {e : Expr} {te : TE} {p p2 pos pos2 : Pos} (hc : X.calm = true) (hg : Gl X "list") (hm : X.mg "list" = none) (hg2 : Gl X "reversed") (hm2 : X.mg "reversed" = none) (he : PE X e te)
    (hs : starEach [e] X.env = (false, eval e X.env) :: starEach [] X.env := by rfl)
    (hs2 : starEach [.Call (.Name "reversed" p2) [e] [] pos2] X.env = (false, eval (.Call (.Name "reversed" p2) [e] [] pos2) X.env) :: starEach [] X.env := by rfl) :
    PE X (.Call (.Name "list" p) [.Call (.Name "reversed" p2) [e] [] pos2] [] pos) (tLstRev X.K te) := by
  refine ⟨fun pins s σ H Q I h => ?_⟩
  refine Call_ (ld_blt I hg hm boot_list (PyProof.Rows.callWith_type1 (args_cons (Call_ (ld_blt I hg2 hm2 PyProof.Rows.boot_reversed (PyProof.Rows.callWith_type1 (args_cons (thn (he.run pins s σ H _ I h) fun u s1 ⟨v, H1, I1, r1, q1⟩ => args_nil ?_) hs) hs rfl))) hs2) hs2 rfl))
  obtain ⟨a, xs, ev, hq, q⟩ := q1
  subst ev
  obtain rfl : u = Value.ref a := r1
  obtain ⟨its, rv, p', hz⟩ := I1.list hq
  refine call_reversed_list p'.isList (args_nil ?_)
  have k0 : ∀ b o, s1.heap.get? b = some o → (s1.heap.push (revObj a ((its.toArray.size : Int) - 1))).get? b = some o := fun b o e => Heap.get?_push_of_some _ e
  have hl := p'.isList
  obtain ⟨ol, hol, _⟩ := id hl
  have hne : a ≠ s1.heap.objs.size := Nat.ne_of_lt (Heap.lt_size hol)
  have hn : its.toArray.size ≤ sizeLine := by rw [List.size_toArray, ← rv.length]; exact hz
  have sz : (s1.heap.push (revObj a ((its.toArray.size : Int) - 1))).objs.size = s1.heap.objs.size + 1 := by simp [Heap.push]
  refine call_list_rev (s := { s1 with heap := s1.heap.push (revObj a ((its.toArray.size : Int) - 1)) }) (I1.ok.hd hc) ⟨_, Heap.get?_push_size _ rfl, rfl, rfl⟩ (hl.push _) hne hn fun s' acc c' hk es hS hi => ?_
  rw [es]
  have hlen : acc.toList.length = xs.length := by rw [Array.length_toList, hi.1, List.size_toArray, rv.length]
  refine ⟨.ref _, upd H1 _ (.lst xs.reverse), I1.laid (t' := s'.toks) (fun b u e => hk b u (Nat.ne_of_lt (Heap.lt_size e)) (k0 b u e)) (by rw [sz]; omega) (show ObjOk X.prog X.w _ _ _ (.lst xs.reverse) from ⟨by rw [List.length_reverse]; exact hz, acc.toList, c', RT.vals_rev rv hi, by rw [Array.toArray_toList]; exact hS⟩), rfl, q _ (I1.hok.fresh (by rw [sz]; omega))⟩
theorem pe_lofRev (S : Sx tb L P k X blk N sc W) {a : Expr} {x : E} {p pos p2 pos2 : Pos} (hg : Mn.gl sc (Str.ofString "list") = true) (hg2 : Mn.gl sc (Str.ofString "reversed") = true) (ok : okE a = true) (ha : PE X a (tM L P W x)) :
    PE X (.Call (.Name (Str.ofString "list") p) [.Call (.Name (Str.ofString "reversed") p2) [a] [] pos2] [] pos) (tM L P W (.lof .rev [x])) := by
  refine PE.weak (pe_lstRev S.calm (S.gl hg) (S.pr.blt "list" (by decide)) (S.gl hg2) (S.pr.blt "reversed" (by decide)) ha (okE_star ok _ _)) fun σ H Q ⟨φ, h, ρ, R, En, p⟩ => ?_
  simp only [evE, evEs] at p
  refine ⟨φ, h, ρ, R, En, ?_⟩
  cases e : evE P x ρ h with
  | bad => rw [e] at p; exact False.elim p
  | err c fs h1 => rw [e] at p; exact p
  | ok v h1 =>
    rw [e] at p
    intro y H1 φ1 E1 R1 r1
    have p := Post.step E1 p
    obtain ⟨i, rfl⟩ : ∃ i, v = Val.ref i := by cases v <;> first | exact ⟨_, rfl⟩ | exact False.elim p
    have p : Post L φ1 H1 (vR L) (Res.bind (match (match h1[i]? with
      | some (.lst w xs) => some (xs.reverse, [(i, .lst w xs)])
      | _ => none : Option (List Val × Src)) with
      | some p => .ok p h1
      | none => .bad) fun p h1 => alloc (.lst true p.1) h1) Q _ := p
    split at p
    · rename_i pr e2
      split at e2
      · rename_i w xs hi
        cases e2
        obtain ⟨d, rfl, _, o⟩ := R1.at hi r1
        obtain ⟨zs, q, r, _⟩ := o.lstI
        exact ⟨d, zs, rfl, S.hK ▸ q, fun c hc => Post.lst R1 (VRs.reverse r) p hc⟩
      · cases e2
    · exact False.elim p
theorem zl_rel {H H2 : Hp} {xs ys : List V} {qs : List Addr} (z : Zl H xs ys qs H2) : ∀ {φ : Ph} {h : MH} {as bs : List Val}, Rel L φ h H → VRs L φ H as xs → VRs L φ H bs ys → Ext L φ H φ H2 ∧ Rel L φ h H2 ∧ VRs L φ H2 ((as.zip bs).map fun p => .tup [p.1, p.2]) (qs.map V.ref) := by
  induction z with
  | nil e =>
    intro φ h as bs R r1 r2
    rcases e with rfl | rfl
    · cases r1; exact ⟨Ext.refl, R, .nil⟩
    · cases r2; rw [List.zip_nil_right]; exact ⟨Ext.refl, R, .nil⟩
  | @cons H H2 x y xs ys q qs n r ih =>
    intro φ h as bs R r1 r2
    cases r1 with
    | cons ra r1 =>
      cases r2 with
      | cons rb r2 =>
        have E1 : Ext L φ H φ (upd H q (.tup [x, y])) := Ext.side n
        obtain ⟨E2, R2, rr⟩ := ih (R.side n) (r1.mono E1) (r2.mono E1)
        refine ⟨E1.trans E2, R2, ?_⟩
        rw [List.zip_cons_cons, List.map_cons, List.map_cons]
        exact .cons (.tup (E2.tups q _ (.inl upd_same)) (.cons ((ra.mono E1).mono E2) (.cons ((rb.mono E1).mono E2) .nil))) rr
theorem items_zip {vs : List Val} {h : MH} {pr : List Val × Src} (e : itemsOf .zip vs h = some pr) (c : ¬ pr.2.isEmpty = true) : ∃ i j w z as bs, vs = [.ref i, .ref j] ∧ h[i]? = some (.lst w as) ∧ h[j]? = some (.lst z bs) ∧ pr = ((as.zip bs).map (fun p => .tup [p.1, p.2]), [(i, .lst w as), (j, .lst z bs)]) := by
  match vs with
  | [.ref i, .ref j] =>
    simp only [itemsOf] at e
    split at e
    · rename_i w xs z ys h1 h2
      cases e
      exact ⟨i, j, _, _, _, _, rfl, h1, h2, rfl⟩
    · cases e
  | [.tup xs, .tup ys] => simp only [itemsOf] at e; cases e; simp at c
  | [] => cases e
  | [x] => cases x <;> cases e
  | x :: y :: z :: r => cases x <;> cases y <;> cases e
  | [.non, y] => cases y <;> cases e
  | [.bl _, y] => cases y <;> cases e
  | [.int _, y] => cases y <;> cases e
  | [.str _, y] => cases y <;> cases e
  | [.exc _ _, y] => cases y <;> cases e
  | [.ref _, .non] => cases e
  | [.ref _, .bl _] => cases e
  | [.ref _, .int _] => cases e
  | [.ref _, .str _] => cases e
  | [.ref _, .tup _] => cases e
  | [.ref _, .exc _ _] => cases e
  | [.tup _, .non] => cases e
  | [.tup _, .bl _] => cases e
  | [.tup _, .int _] => cases e
  | [.tup _, .str _] => cases e
  | [.tup _, .ref _] => cases e
  | [.tup _, .exc _ _] => cases e
theorem pe_lofZip (S : Sx tb L P k X blk N sc W) {a b : Expr} {x y : E} {p pos p2 pos2 : Pos} (hg : Mn.gl sc (Str.ofString "list") = true) (hg2 : Mn.gl sc (Str.ofString "zip") = true) (ok : okE a = true) (ok2 : okE b = true) (ha : PA X [a, b] (tMs L P W [x, y])) :
    PE X (.Call (.Name (Str.ofString "list") p) [.Call (.Name (Str.ofString "zip") p2) [a, b] [] pos2] [] pos) (tM L P W (.lof .zip [x, y])) := by
  refine PE.weak (pe_lstZip S.calm (S.gl hg) (S.pr.blt "list" (by decide)) (S.gl hg2) (S.pr.blt "zip" (by decide)) ha (by rw [okE_star ok]) (okEs_any (es := [b]) (by simp [ok2]) _ _)) fun σ H Q ⟨φ, h, ρ, R, En, p⟩ => ?_
  rw [show evE P (.lof .zip [x, y]) ρ h = ((evEs P [x, y] ρ h).bind (resI .zip)).bind fun p h1 => if p.2.isEmpty = true then .bad else alloc (.lst true p.1) h1 from by simp only [evE]] at p
  refine ⟨φ, h, ρ, R, En, ?_⟩
  cases e : evEs P [x, y] ρ h with
  | bad => rw [e] at p; exact False.elim p
  | err c fs h1 => rw [e] at p; exact p
  | ok vs h1 =>
    rw [e] at p
    intro us H1 φ1 E1 R1 r1
    have p := Post.step E1 p
    have p : Post L φ1 H1 (vR L) (Res.bind (match itemsOf .zip vs h1 with
      | some p => .ok p h1
      | none => .bad) fun p h1 => if p.2.isEmpty = true then .bad else alloc (.lst true p.1) h1) Q _ := p
    cases ei : itemsOf .zip vs h1 with
    | none => rw [ei] at p; exact False.elim p
    | some pr =>
      rw [ei] at p
      have p : Post L φ1 H1 (vR L) (if pr.2.isEmpty = true then .bad else alloc (.lst true pr.1) h1) Q _ := p
      by_cases c : pr.2.isEmpty = true
      · rw [if_pos c] at p; exact False.elim p
      · rw [if_neg c] at p
        obtain ⟨i, j, w1, w2, as, bs, rfl, h1i, h1j, rfl⟩ := items_zip ei c
        cases r1 with
        | cons ra r1 =>
          cases r1 with
          | cons rb r1 =>
            cases r1
            obtain ⟨d1, rfl, _, o1⟩ := R1.at h1i ra
            obtain ⟨d2, rfl, _, o2⟩ := R1.at h1j rb
            obtain ⟨xs, q1, s1, _⟩ := o1.lstI
            obtain ⟨ys, q2, s2, _⟩ := o2.lstI
            refine ⟨d1, d2, xs, ys, rfl, S.hK ▸ q1, S.hK ▸ q2, fun qs H2 q zl nq => ?_⟩
            obtain ⟨E2, R2, rr⟩ := zl_rel zl R1 s1 s2
            exact Post.lst R2 rr (Post.step E2 p) nq
theorem lofOf_ok {sc : Scope} {args as : List Expr} {kk : ItK} (h : lofOf sc args = some (kk, as)) : (∃ a p pos, as = [a] ∧ args = [.Call (.Name (Str.ofString "reversed") p) [a] [] pos] ∧ Mn.gl sc (Str.ofString "reversed") = true ∧ kk = .rev) ∨
    (∃ a p pos, as = [a] ∧ args = [.Call (.Name (Str.ofString "range") p) [a] [] pos] ∧ Mn.gl sc (Str.ofString "range") = true ∧ kk = .rng) ∨ (∃ a b p pos, as = [a, b] ∧ args = [.Call (.Name (Str.ofString "range") p) [a, b] [] pos] ∧ Mn.gl sc (Str.ofString "range") = true ∧ kk = .rng) ∨ ∃ a b p pos, as = [a, b] ∧ args = [.Call (.Name (Str.ofString "zip") p) [a, b] [] pos] ∧ Mn.gl sc (Str.ofString "zip") = true ∧ kk = .zip := by
  unfold lofOf at h
  split at h
  · rename_i g p args' pos
    by_cases c : gl sc g = true
    · rw [if_pos c] at h
      split at h
      · rename_i a
        by_cases c1 : g = Str.ofString "reversed"
        · rw [if_pos c1] at h; cases h
          subst c1
          exact .inl ⟨a, p, pos, rfl, rfl, c, rfl⟩
        · rw [if_neg c1] at h
          by_cases c2 : g = Str.ofString "range"
          · rw [if_pos c2] at h; cases h
            subst c2
            exact .inr (.inl ⟨a, p, pos, rfl, rfl, c, rfl⟩)
          · rw [if_neg c2] at h; cases h
      · rename_i a b
        by_cases c2 : g = Str.ofString "range"
        · rw [if_pos c2] at h; cases h
          subst c2
          exact .inr (.inr (.inl ⟨a, b, p, pos, rfl, rfl, c, rfl⟩))
        · rw [if_neg c2] at h
          by_cases c3 : g = Str.ofString "zip"
          · rw [if_pos c3] at h; cases h
            subst c3
            exact .inr (.inr (.inr ⟨a, b, p, pos, rfl, rfl, c, rfl⟩))
          · rw [if_neg c3] at h; cases h
      · cases h
    · rw [if_neg c] at h; cases h
  · cases h
/-! f-strings of texts and names -/
theorem js_fmt {L : Lk} {φ : Ph} {h : MH} {H : Hp} {Q : VK} {E : XK} {v : Val} {vs : List Val} {acc : Str} (p : Post L φ H (vR L) (retO ((fstrO (v :: vs) acc).map .str) h) Q E) :
    ∃ y, fmtV v = some y ∧ (acc ++ y).length ≤ sizeLine ∧ Post L φ H (vR L) (retO ((fstrO vs (acc ++ y)).map .str) h) Q E := by
  rw [show fstrO (v :: vs) acc = match fmtV v with
    | some y => if (acc ++ y).length ≤ sizeLine then fstrO vs (acc ++ y) else none
    | none => none from rfl] at p
  cases e : fmtV v with
  | none => rw [e] at p; exact False.elim p
  | some y =>
    rw [e] at p
    have p : Post L φ H (vR L) (retO ((if (acc ++ y).length ≤ sizeLine then fstrO vs (acc ++ y) else none).map .str) h) Q E := p
    by_cases c : (acc ++ y).length ≤ sizeLine
    · rw [if_pos c] at p; exact ⟨y, rfl, c, p⟩
    · rw [if_neg c] at p; exact False.elim p
theorem fmt_str {z y : Str} (h : fmtV (.str z) = some y) : z.length ≤ sizeLine ∧ y = z := by
  rw [show fmtV (.str z) = if z.length ≤ sizeLine then some z else none from rfl] at h
  by_cases c : z.length ≤ sizeLine
  · rw [if_pos c] at h; exact ⟨c, (Option.some.inj h).symm⟩
  · rw [if_neg c] at h; cases h
theorem fmt_int {z : Int} {y : Str} (h : fmtV (.int z) = some y) : z.natAbs.log2 < 1920 ∧ y = toString z := by
  rw [show fmtV (.int z) = if z.natAbs.log2 < 1920 then some (toString z : Str) else none from rfl] at h
  by_cases c : z.natAbs.log2 < 1920
  · rw [if_pos c] at h; exact ⟨c, (Option.some.inj h).symm⟩
  · rw [if_neg c] at h; cases h
theorem js_ev {P : Pg} : ∀ (es : List Expr) (ms : List E), trJ N sc es = some ms → ∀ ρ h vs h1, evEs P ms ρ h = .ok vs h1 → h1 = h := by
  intro es
  induction es with
  | nil => intro ms h; cases h; intro ρ h vs h1 e; simp only [evEs] at e; cases e; rfl
  | cons e r ih =>
    intro ms h
    unfold trJ at h
    split at h
    · rename_i heq; cases heq
    · rename_i heq
      cases heq
      obtain ⟨es', e1, rfl⟩ := Option.map_eq_some_iff.mp h
      intro ρ h vs h1 e
      simp only [evEs, evE, bind_ok] at e
      cases ee : evEs P es' ρ h with
      | bad => rw [ee] at e; cases e
      | err c fs h1 => rw [ee] at e; cases e
      | ok ws h2 => rw [ee] at e; cases e; exact ih es' e1 ρ h _ _ ee
    · rename_i heq
      cases heq
      split at h
      · split at h
        · rename_i i es' e0 e1
          cases h
          intro ρ h vs h1 e
          simp only [evEs, evE, getV] at e
          cases e2 : ρ[i]? with
          | none => rw [e2] at e; cases e
          | some o => cases o with
            | none => rw [e2] at e; cases e
            | some v =>
              rw [e2] at e
              simp only [bind_ok] at e
              cases ee : evEs P es' ρ h with
              | bad => rw [ee] at e; cases e
              | err c fs h1 => rw [ee] at e; cases e
              | ok ws h2 => rw [ee] at e; cases e; exact ih es' e1 ρ h _ _ ee
        · cases h
      · cases h
    · cases h
theorem js_noerr {P : Pg} : ∀ (es : List Expr) (ms : List E), trJ N sc es = some ms → ∀ ρ h c fs h1, evEs P ms ρ h ≠ .err c fs h1 := by
  intro es
  induction es with
  | nil => intro ms h; cases h; intro ρ h c fs h1 e; simp only [evEs] at e; cases e
  | cons e r ih =>
    intro ms h
    unfold trJ at h
    split at h
    · rename_i heq; cases heq
    · rename_i heq
      cases heq
      obtain ⟨es', e1, rfl⟩ := Option.map_eq_some_iff.mp h
      intro ρ h c fs h1 e
      simp only [evEs, evE, bind_ok] at e
      cases ee : evEs P es' ρ h with
      | bad => rw [ee] at e; cases e
      | err c fs h1 => exact ih es' e1 ρ h c fs h1 ee
      | ok ws h2 => rw [ee] at e; cases e
    · rename_i heq
      cases heq
      split at h
      · split at h
        · rename_i i es' e0 e1
          cases h
          intro ρ h c fs h1 e
          simp only [evEs, evE, getV] at e
          cases e2 : ρ[i]? with
          | none => rw [e2] at e; cases e
          | some o => cases o with
            | none => rw [e2] at e; cases e
            | some v =>
              rw [e2] at e
              simp only [bind_ok] at e
              cases ee : evEs P es' ρ h with
              | bad => rw [ee] at e; cases e
              | err c fs h1 => exact ih es' e1 ρ h c fs h1 ee
              | ok ws h2 => rw [ee] at e; cases e
        · cases h
      · cases h
    · cases h
theorem js_run (S : Sy tb L P k X blk N sc W) : ∀ (es : List Expr) (ms : List E), trJ N sc es = some ms → ∃ ts, PJ X es ts ∧ ∀ (acc : Str) (σ : L2.St) (H : Hp) (Q : VK) (E : XK),
    (∃ φ h ρ vs, Rel L φ h H ∧ EnvR L φ H ρ σ ∧ evEs P ms ρ h = .ok vs h ∧ Post L φ H (vR L) (retO ((fstrO vs acc).map .str) h) Q E) → tJs ts acc σ H (fun out H1 => Q (.str out) H1) := by
  intro es
  induction es with
  | nil =>
    intro ms h
    cases h
    refine ⟨[], .nil, fun acc σ H Q E ⟨φ, h, ρ, vs, R, En, e, p⟩ => ?_⟩
    simp only [evEs] at e
    cases e
    exact Post.here R (.str _) p
  | cons e r ih =>
    intro ms h
    unfold trJ at h
    split at h
    · rename_i heq; cases heq
    · rename_i s j pos r' heq
      cases heq
      obtain ⟨es', e1, rfl⟩ := Option.map_eq_some_iff.mp h
      obtain ⟨ts, pj, w⟩ := ih es' e1
      refine ⟨_, .cons (pe_con (L := L) (P := P) (W := W) (v := .str s) rfl) pj, fun acc σ H Q E ⟨φ, h, ρ, vs, R, En, e, p⟩ => ?_⟩
      simp only [evEs, evE, bind_ok] at e
      cases ee : evEs P es' ρ h with
      | bad => rw [ee] at e; cases e
      | err c fs h1 => rw [ee] at e; cases e
      | ok ws h2 =>
        rw [ee] at e
        simp only [bind_ok] at e
        cases e
        obtain ⟨y, f, z, p⟩ := js_fmt p
        refine ⟨φ, h, ρ, R, En, ?_⟩
        simp only [evE]
        intro y' H1 φ1 E1 R1 r1
        cases r1
        have hy : s = y := (fmt_str f).2.symm
        subst hy
        exact ⟨s, rfl, z, w _ _ _ _ E ⟨φ1, h, ρ, ws, R1, En.mono E1, ee, Post.step E1 p⟩⟩
    · rename_i x p1 p2 r' heq
      cases heq
      split at h
      · rename_i hc
        simp only [Bool.and_eq_true, decide_eq_true_eq] at hc
        split at h
        · rename_i i es' e0 e1
          cases h
          obtain ⟨ts, pj, w⟩ := ih es' e1
          refine ⟨_, .cons (pe_fmt (pe_varM (pos := p1) S e0 (.inl hc.2) hc.1)) pj, fun acc σ H Q E ⟨φ, h, ρ, vs, R, En, e, p⟩ => ?_⟩
          simp only [evEs, evE, getV] at e
          cases e2 : ρ[i]? with
          | none => rw [e2] at e; cases e
          | some o => cases o with
            | none => rw [e2] at e; cases e
            | some v =>
              rw [e2] at e
              simp only [bind_ok] at e
              cases ee : evEs P es' ρ h with
              | bad => rw [ee] at e; cases e
              | err c fs h1 => rw [ee] at e; cases e
              | ok ws h2 =>
                rw [ee] at e
                simp only [bind_ok] at e
                cases e
                obtain ⟨y, f, z, p⟩ := js_fmt p
                refine ⟨φ, h, ρ, R, En, ?_⟩
                simp only [evE, getV, e2]
                intro y' H1 φ1 E1 R1 r1
                have fin := w _ _ _ _ E ⟨φ1, h, ρ, ws, R1, En.mono E1, ee, Post.step E1 p⟩
                cases v with
                | str q =>
                  obtain ⟨zl, rfl⟩ := fmt_str f
                  cases r1
                  exact .inl ⟨_, rfl, zl, _, rfl, z, fin⟩
                | int q =>
                  obtain ⟨zl, rfl⟩ := fmt_int f
                  cases r1
                  exact .inr ⟨_, rfl, zl, _, rfl, z, fin⟩
                | _ => cases f
        · cases h
      · cases h
    · cases h
theorem pe_fstM (S : Sy tb L P k X blk N sc W) {v1 v2 : Expr} {r : List Expr} {ms : List E} {pos : Pos} (h : trJ N sc (v1 :: v2 :: r) = some ms) : PE X (.JoinedStr (v1 :: v2 :: r) pos) (tM L P W (.fst ms)) := by
  obtain ⟨ts, pj, w⟩ := js_run S _ _ h
  refine PE.weak (pe_joined pj) fun σ H Q ⟨φ, g, ρ, R, En, p⟩ => ?_
  simp only [evE] at p
  cases e : evEs P ms ρ g with
  | bad => rw [e] at p; exact False.elim p
  | err c fs h1 => exact absurd e (js_noerr _ _ h ρ g c fs h1)
  | ok vs h1 =>
    have hh := js_ev _ _ h ρ g vs h1 e
    subst hh
    rw [e] at p
    exact w _ _ _ _ _ ⟨φ, _, ρ, vs, R, En, e, p⟩
end
end Mn
/-! Mini: comprehensions -/
namespace Mn
open PySem PySem.Spec PyProof.Rows L2
section
variable {tb : Tb} {L : Lk} {P : Pg} {k : Nat} {X : Cx} {blk : Bool} {N : List Str} {sc : Scope} {W : WX}
noncomputable abbrev W0 : WX := fun _ _ _ _ => False
theorem Sx.block (S : Sx tb L P k X blk N sc W) (s : Shared) (H : Hp) (scope : Scope) (C : Addr) (cl : List (Str × Addr)) (fp : List Addr) : Sx tb L P k (X.blk s H scope (compEnvC scope cl C X.env) fp) true N (relS scope sc) W0 :=
  ⟨⟨S.hK, S.hN, S.nd, by rw [← S.hsc]; rfl, takb0, (fun h => by cases h), S.pr⟩, S.room, S.calm⟩
/-! what is beside -/
/-- exceptions that are kept stay -/
noncomputable def Kx (φ : Ph) (H : Hp) (φ' : Ph) (H' : Hp) : Prop := ∀ b o, H b = some o → (∀ zs, o ≠ .lst zs) → (true, b) ∉ φ → H' b = some o ∧ (true, b) ∉ φ'
theorem kx_lst {φ : Ph} {H : Hp} {D : Addr} {zs ys : List V} (hD : H D = some (.lst zs)) : Kx φ H φ (upd H D (.lst ys)) := fun b o h n k => ⟨by rw [upd_ne (fun z => by rw [z, hD] at h; cases h; exact n _ rfl)]; exact h, k⟩
theorem kx_app {φ : Ph} {H : Hp} {D : Addr} {zs : List V} (hD : H D = some (.lst zs)) : Kx φ H (φ ++ [(true, D)]) H := fun b o h n k => ⟨h, fun m => by
  rcases List.mem_append.mp m with z | z
  · exact k z
  · have := List.mem_singleton.mp z
    cases this
    rw [hD] at h; cases h; exact n _ rfl⟩
mutual
theorem VR.tm {φ φ' : Ph} {H H' : Hp} (hp : Pre φ φ') (ht : ∀ a xs, TuA L.K H a xs → TuA L.K H' a xs) (hx : Kx φ H φ' H') : ∀ {v : Val} {x : V}, VR L φ H v x → VR L φ' H' v x
  | _, _, .non => .non
  | _, _, .bl b => .bl b
  | _, _, .int i => .int i
  | _, _, .str x => .str x
  | _, _, .tup h t => .tup (ht _ _ h) (VRs.tm hp ht hx t)
  | _, _, .ref ⟨w, h⟩ => .ref ⟨w, hp _ _ h⟩
  | _, _, .exc0 hc ha na => let e := hx _ _ ha (fun _ z => nomatch (show HO.ext _ = HO.lst _ from z)) na; .exc0 hc e.1 e.2
  | _, _, .excF hc ha na hd nd k r => let e := hx _ _ ha (fun _ z => nomatch (show HO.ext _ = HO.lst _ from z)) na; let u := hx _ _ hd (fun _ z => nomatch z) nd; .excF hc e.1 e.2 u.1 u.2 k (VRs.tm hp ht hx r)
theorem VRs.tm {φ φ' : Ph} {H H' : Hp} (hp : Pre φ φ') (ht : ∀ a xs, TuA L.K H a xs → TuA L.K H' a xs) (hx : Kx φ H φ' H') : ∀ {vs : List Val} {xs : List V}, VRs L φ H vs xs → VRs L φ' H' vs xs
  | _, _, .nil => .nil
  | _, _, .cons h t => .cons (VR.tm hp ht hx h) (VRs.tm hp ht hx t)
end
theorem KRs.tm {κ : Type} {φ φ' : Ph} {H H' : Hp} (hp : Pre φ φ') (ht : ∀ a xs, TuA L.K H a xs → TuA L.K H' a xs) (hx : Kx φ H φ' H') : ∀ {vs : List (κ × Val)} {xs : List (κ × V)}, KRs L φ H vs xs → KRs L φ' H' vs xs
  | _, _, .nil => .nil
  | _, _, .cons h t => .cons (h.tm hp ht hx) (t.tm hp ht hx)
theorem FRs.tm {φ φ' : Ph} {H H' : Hp} (hp : Pre φ φ') (ht : ∀ a xs, TuA L.K H a xs → TuA L.K H' a xs) (hx : Kx φ H φ' H') : ∀ {vs : List (String × Val)} {xs : List (Str × V)}, FRs L φ H vs xs → FRs L φ' H' vs xs
  | _, _, .nil => .nil
  | _, _, .cons h t => .cons (h.tm hp ht hx) (t.tm hp ht hx)
theorem OR.tm {φ φ' : Ph} {H H' : Hp} {a : Addr} {o : Ob} (hp : Pre φ φ') (ht : ∀ a xs, TuA L.K H a xs → TuA L.K H' a xs) (hx : Kx φ H φ' H') (k : ∀ u, H a = some u → H' a = some u) : OR L φ H a o → OR L φ' H' a o
  | .lst h r => .lst (k _ h) (r.tm hp ht hx)
  | .ro h r => .ro (h.elim (fun ⟨ob, q⟩ => .inl ⟨ob, k _ q⟩) .inr) (r.tm hp ht hx)
  | .dK h r => .dK (k _ h) (r.tm hp ht hx)
  | .dF h r => .dF (k _ h) (r.tm hp ht hx)
  | .dT h r => .dT (k _ h) (r.tm hp ht hx)
  | .ins c h r => .ins c (k _ h) (r.tm hp ht hx)
theorem tups_lst {H : Hp} {D : Addr} {zs ys : List V} (hD : H D = some (.lst zs)) : ∀ a xs, TuA L.K H a xs → TuA L.K (upd H D (.lst ys)) a xs := fun a xs h => sqT_upd h (fun _ _ z => by rw [hD] at z; cases z) (fun _ z => by rw [hD] at z; cases z)
theorem Rel.beside {φ : Ph} {h : MH} {H : Hp} {D : Addr} {zs ys : List V} (R : Rel L φ h H) (hD : H D = some (.lst zs)) (n : (true, D) ∉ φ) : Rel L φ h (upd H D (.lst ys)) := by
  refine ⟨R.len, fun i o hi => ?_, R.inj, fun a ha => ?_⟩
  · obtain ⟨w, a, ha, hw, x⟩ := R.obj i o hi
    refine ⟨w, a, ha, hw, ?_⟩
    cases x with
    | ro hr hv => exact .ro (hr.upd fun ob v z => by rw [hD] at z; cases z) (hv.tm (fun _ _ z => z) (tups_lst hD) (kx_lst hD))
    | dF hr hv => exact .dF (by rw [upd_ne (fun z => by rw [z, hD] at hr; cases hr)]; exact hr) (hv.tm (fun _ _ z => z) (tups_lst hD) (kx_lst hD))
    | _ =>
      rename_i hv
      refine OR.tm (fun _ _ z => z) (tups_lst hD) (kx_lst hD) (fun u q => ?_) (by first | exact .lst (by assumption) hv | exact .dK (by assumption) hv | exact .dT (by assumption) hv | exact .ins (by assumption) (by assumption) hv)
      rw [upd_ne (fun z => n (by rw [← z, ← hw rfl]; exact List.mem_of_getElem? ha))]; exact q
  · obtain ⟨u, hu, nt⟩ := R.live a ha
    exact ⟨u, by rw [upd_ne (fun z => n (by rw [← z]; exact ha))]; exact hu, nt⟩
theorem Ext.beside {φ1 φ : Ph} {H1 H : Hp} {D : Addr} {zs ys : List V} (E : Ext L φ1 H1 φ H) (h0 : H1 D = none) (hD : H D = some (.lst zs)) : Ext L φ1 H1 φ (upd H D (.lst ys)) :=
  ⟨E.pre, fun b o h n => by rw [upd_ne (ne_of_none h h0)]; exact E.keep b o h n, E.new, fun a xs h => tups_lst hD a xs (E.tups a xs h), fun a ob u h => by
    have q := E.frz a ob u h
    rw [upd_ne (fun z => by rw [z, hD] at q; cases q)]; exact q⟩
theorem pre_app {φ : Ph} {p : Bool × Addr} : Pre φ (φ ++ [p]) := fun i a h => by rw [List.getElem?_append_left (List.getElem?_eq_some_iff.mp h).1]; exact h
theorem Ext.adopt {φ1 φ : Ph} {H1 H : Hp} {D : Addr} (E : Ext L φ1 H1 φ H) (h0 : H1 D = none) : Ext L φ1 H1 (φ ++ [(true, D)]) H :=
  ⟨fun i a h => pre_app i a (E.pre i a h), E.keep, fun b h n => by
    rcases List.mem_append.mp h with z | z
    · exact E.new b z n
    · have := List.mem_singleton.mp z
      cases this
      exact h0, E.tups, E.frz⟩
theorem Rel.adopt {φ : Ph} {h : MH} {H : Hp} {D : Addr} {vs : List Val} {xs : List V} (R : Rel L φ h H) (hD : H D = some (.lst xs)) (n : (true, D) ∉ φ) (r : VRs L φ H vs xs) : Rel L (φ ++ [(true, D)]) (h ++ [.lst true vs]) H := by
  have hl := R.len
  refine ⟨by simp [R.len], fun i u hi => ?_, fun i j a ai aj => ?_, fun a ha => ?_⟩
  · by_cases c : i < h.length
    · rw [List.getElem?_append_left c] at hi
      obtain ⟨w, a, ha, hw, x⟩ := R.obj i u hi
      exact ⟨w, a, pre_app _ _ ha, hw, x.tm pre_app (fun _ _ z => z) (kx_app hD) fun _ q => q⟩
    · have e : i = h.length := by
        have := (List.getElem?_eq_some_iff.mp hi).1
        simp at this; omega
      subst e
      simp at hi
      subst hi
      exact ⟨true, D, by rw [← hl]; simp, fun _ => rfl, .lst hD (r.tm pre_app (fun _ _ z => z) (kx_app hD))⟩
  · have old : ∀ {i : Nat} {a : Addr}, i < φ.length → (φ ++ [(true, D)])[i]? = some (true, a) → φ[i]? = some (true, a) ∧ a ≠ D := by
      intro i a c ai
      rw [List.getElem?_append_left c] at ai
      exact ⟨ai, fun z => n (by rw [← z]; exact List.mem_of_getElem? ai)⟩
    have last : ∀ {i : Nat} {a : Addr}, ¬ i < φ.length → (φ ++ [(true, D)])[i]? = some (true, a) → i = φ.length ∧ a = D := by
      intro i a c ai
      have := (List.getElem?_eq_some_iff.mp ai).1
      simp at this
      have e : i = φ.length := by omega
      subst e
      simp at ai
      exact ⟨rfl, ai.symm⟩
    by_cases c : i < φ.length <;> by_cases d : j < φ.length
    · exact R.inj i j a (old c ai).1 (old d aj).1
    · exact absurd (last d aj).2 (old c ai).2
    · exact absurd (last c ai).2 (old d aj).2
    · rw [(last c ai).1, (last d aj).1]
  · rcases List.mem_append.mp ha with z | z
    · exact R.live a z
    · have := List.mem_singleton.mp z
      cases this
      exact ⟨_, hD, fun _ z => by cases z⟩

/-! wiping -/
theorem wipe_get (σ : L2.St) : ∀ (vs : List Nat) (i : Nat), (L2.wipe σ vs)[i]? = if i ∈ vs then (if i < σ.length then some none else none) else σ[i]?
  | [], i => by simp [L2.wipe]
  | v :: vs, i => by
    unfold L2.wipe
    by_cases e : v = i
    · subst e
      by_cases c : v < σ.length
      · rw [List.getElem?_set_self (by rw [wipe_length]; exact c)]
        simp [c]
      · rw [List.getElem?_eq_none (by rw [List.length_set, wipe_length]; omega)]
        simp [c]
    · rw [List.getElem?_set_ne e, wipe_get σ vs i]
      have : i ≠ v := fun z => e z.symm
      simp [this]
theorem wipe_same {σ σ' : L2.St} {vs : List Nat} (hl : σ'.length = σ.length) (h : ∀ i, i ∉ vs → σ'[i]? = σ[i]?) : L2.wipe σ' vs = L2.wipe σ vs := by
  apply List.ext_getElem?
  intro i
  rw [wipe_get, wipe_get, hl]
  by_cases c : i ∈ vs
  · rw [if_pos c, if_pos c]
  · rw [if_neg c, if_neg c, h i c]
theorem wipe_wipe (σ : L2.St) (vs : List Nat) : L2.wipe (L2.wipe σ vs) vs = L2.wipe σ vs :=
  wipe_same (wipe_length _ _) fun i hi => by rw [wipe_get, if_neg hi]

/-! the turns -/
noncomputable def tCnd (L : Lk) (P : Pg) : Option E → TT
  | none => tYes
  | some y => tMT L P W0 y
theorem compL_w {own : List Nat} {x : E} {t : Tg} {kk : ItK} {es : List E} {cond : Option E} (hK : X.K = L.K) (ht : tgIn own t = true) {σ : L2.St} {H : Hp} {Q : VK} (q : tM L P W (.cmp1 own x t kk es cond) σ H Q) :
    tLc (wI L P W kk es) (gM L t) (tCnd L P cond) (tM L P W0 x) own σ H Q := by
  obtain ⟨φ, h, ρ, R, En, p⟩ := q
  simp only [evE] at p
  refine ⟨φ, h, ρ, R, En, (Post.bind (rel0 := ItOk L) p).imp fun J H1 ⟨φ1, h1, pr, E1, R1, hJ, p1⟩ => ?_⟩
  intro D hD
  have En1 : EnvR L φ1 H1 (wipe' ρ own) (L2.wipe σ own) := (En.mono E1).wipe own
  let go : List Val → List Val → MH → Res Val := fun r acc h2 => (compL t pr.2 (wipe' ρ own) (evC P cond) (evE P x) r acc h2).bind fun ws h3 => alloc (.lst true ws) h3
  have nD1 : (true, D) ∉ φ1 := fun z => by
    obtain ⟨u, hu, _⟩ := R1.live D z
    rw [hD] at hu; cases hu
  refine ⟨fun i m H' => m = pr.1.length - i ∧ i ≤ pr.1.length ∧ ∃ φ2 h2 acc accV, Ext L φ1 H1 φ2 H' ∧ Rel L φ2 h2 H' ∧ H' D = some (.lst accV) ∧ (true, D) ∉ φ2 ∧ VRs L φ2 H' acc accV ∧
    Post L φ1 H1 (vR L) (go (pr.1.drop i) acc h2) Q (fun c d H' => W c d σ H'), ⟨pr.1.length, by simp, Nat.zero_le _, φ1, h1, [], [], Ext.side hD, R1.side hD, upd_same, nD1, .nil, p1⟩, ?_⟩
  rintro i m H' ⟨rfl, hi, φ2, h2, acc, accV, E2, R2, hD2, nD, rs, p2⟩
  have hst : pr.2.stands h2 := by
    by_cases c : pr.2.stands h2
    · exact c
    · exfalso
      simp only [go] at p2
      cases hd : pr.1.drop i with
      | nil => rw [hd] at p2; simp only [compL] at p2; rw [if_neg c] at p2; exact p2
      | cons v r => rw [hd] at p2; simp only [compL] at p2; rw [if_neg c] at p2; exact p2
  obtain ⟨hs, hg⟩ := hJ φ2 h2 H' E2 R2 hst i
  by_cases hlt : i < pr.1.length
  · obtain ⟨v, hv⟩ : ∃ v, pr.1[i]? = some v := ⟨pr.1[i], List.getElem?_eq_getElem hlt⟩
    obtain ⟨hgo, hy⟩ := hg v hv
    have hd : pr.1.drop i = v :: pr.1.drop (i + 1) := by
      rw [List.drop_eq_getElem_cons hlt]
      rw [List.getElem?_eq_getElem hlt] at hv
      cases hv; rfl
    simp only [go] at p2
    rw [hd] at p2
    simp only [compL] at p2
    rw [if_pos hst] at p2
    refine .inr ⟨hgo, fun H'' => i + 1 ≤ pr.1.length ∧ ∃ φ2 h2 acc accV, Ext L φ1 H1 φ2 H'' ∧ Rel L φ2 h2 H'' ∧ H'' D = some (.lst accV) ∧ (true, D) ∉ φ2 ∧ VRs L φ2 H'' acc accV ∧
      Post L φ1 H1 (vR L) (go (pr.1.drop (i + 1)) acc h2) Q (fun c d H' => W c d σ H'), fun H'' ⟨a, b⟩ => ⟨pr.1.length - (i + 1), by omega, rfl, a, b⟩, fun y H2 hyl => ?_⟩
    obtain ⟨ry, E3, R3⟩ := hy y H2 hyl
    cases eb : bindT t v (wipe' ρ own) with
    | none => rw [eb] at p2; exact False.elim p2
    | some ρ1 =>
      rw [eb] at p2
      simp only at p2
      have E23 := E2.trans E3
      have hD3 : H2 D = some (.lst accV) := E3.keep D _ hD2 nD
      refine ⟨φ2, h2, wipe' ρ own, ρ1, v, R3, ry, En1.mono E23, eb, fun σ2 En2 ks kl => ⟨?_, ?_⟩⟩
      · rw [wipe_same (σ := L2.wipe σ own) kl fun j hj => ks j ?_, wipe_wipe]
        cases t with
        | nm l =>
          simp only [tgIn, List.contains_iff_mem] at ht
          exact fun z => hj (by rw [z]; exact ht)
        | tp js =>
          simp only [tgIn, List.all_eq_true, List.contains_iff_mem] at ht
          exact fun z => hj (ht j z)
      · -- the test, the element
        have fin : ∀ (b : Bool) (h3 : MH), evC P cond ρ1 h2 = .ok (.bl b) h3 → Post L φ1 H1 (vR L) ((if b = true then (match evE P x ρ1 h3 with
            | .ok w h4 => if acc.length < sizeLine then compL t pr.2 (wipe' ρ own) (evC P cond) (evE P x) (pr.1.drop (i + 1)) (acc ++ [w]) h4 else .bad
            | _ => .bad) else compL t pr.2 (wipe' ρ own) (evC P cond) (evE P x) (pr.1.drop (i + 1)) acc h3).bind fun ws h3 => alloc (.lst true ws) h3) Q (fun c d H' => W c d σ H') →
            ∀ (φ3 : Ph) (H3 : Hp), Ext L φ2 H2 φ3 H3 → Rel L φ3 h3 H3 → (if b = true then tM L P W0 x σ2 H3 fun y H4 => ∃ acc, H4 D = some (.lst acc) ∧ acc.length < sizeLine ∧ (i + 1 ≤ pr.1.length ∧ ∃ φ2 h2 acc' accV, Ext L φ1 H1 φ2 (upd H4 D (.lst (acc ++ [y]))) ∧ Rel L φ2 h2 (upd H4 D (.lst (acc ++ [y]))) ∧ (upd H4 D (.lst (acc ++ [y]))) D = some (.lst accV) ∧ (true, D) ∉ φ2 ∧ VRs L φ2 (upd H4 D (.lst (acc ++ [y]))) acc' accV ∧
              Post L φ1 H1 (vR L) (go (pr.1.drop (i + 1)) acc' h2) Q (fun c d H' => W c d σ H')) else (i + 1 ≤ pr.1.length ∧ ∃ φ2 h2 acc accV, Ext L φ1 H1 φ2 H3 ∧ Rel L φ2 h2 H3 ∧ H3 D = some (.lst accV) ∧ (true, D) ∉ φ2 ∧ VRs L φ2 H3 acc accV ∧
              Post L φ1 H1 (vR L) (go (pr.1.drop (i + 1)) acc h2) Q (fun c d H' => W c d σ H'))) := by
          intro b h3 ec p3 φ3 H3 E4 R4
          have E5 := E23.trans E4
          have hD4 : H3 D = some (.lst accV) := E4.keep D _ hD3 nD
          have nD3 : (true, D) ∉ φ3 := fun z => by
            have := E4.new D z nD
            rw [hD3] at this; cases this
          cases b with
          | false =>
            refine iteF ⟨hlt, φ3, h3, acc, accV, E5, R4, hD4, nD3, (rs.mono E3).mono E4, ?_⟩
            rw [if_neg Bool.false_ne_true] at p3
            exact p3
          | true =>
            rw [if_pos rfl] at p3
            refine iteT ⟨φ3, h3, ρ1, R4, En2.mono E4, ?_⟩
            cases ee : evE P x ρ1 h3 with
            | bad => rw [ee] at p3; exact False.elim p3
            | err c fs h4 => rw [ee] at p3; exact False.elim p3
            | ok w h4 =>
              rw [ee] at p3
              simp only at p3
              by_cases cl : acc.length < sizeLine
              · rw [if_pos cl] at p3
                intro y2 H4 φ4 E6 R6 r6
                have hD5 : H4 D = some (.lst accV) := E6.keep D _ hD4 nD3
                have nD4 : (true, D) ∉ φ4 := fun z => by
                  have := E6.new D z nD3
                  rw [hD4] at this; cases this
                have rs2 := (((rs.mono E3).mono E4).mono E6)
                have tl := tups_lst (L := L) (ys := accV ++ [y2]) hD5
                exact ⟨accV, hD5, by rw [← rs.length]; exact cl, hlt, φ4, h4, acc ++ [w], accV ++ [y2], (E5.trans E6).beside hD hD5, R6.beside hD5 nD4, upd_same, nD4, (rs2.append (.cons r6 .nil)).tm (fun _ _ z => z) tl (kx_lst hD5), p3⟩
              · rw [if_neg cl] at p3; exact False.elim p3
        cases cond with
        | none =>
          refine fin true h2 (by simp only [evC]) ?_ φ2 H2 Ext.refl R3
          simp only [evC] at p2
          rw [if_pos rfl]
          exact p2
        | some c =>
          refine ⟨φ2, h2, ρ1, R3, En2, ?_⟩
          simp only [evC] at p2 fin
          cases ec : evE P c ρ1 h2 with
          | bad => rw [ec] at p2; exact False.elim p2
          | err a b d => rw [ec] at p2; exact False.elim p2
          | ok u h3 =>
            rw [ec] at p2
            intro y2 H3 φ3 E4 R4 r4
            cases u <;> first | exact False.elim p2 | skip
            rename_i b
            refine ⟨b, r4.blI, fin b h3 ec ?_ φ3 H3 E4 R4⟩
            cases b with
            | true => rw [if_pos rfl]; exact p2
            | false => rw [if_neg Bool.false_ne_true]; exact p2
  · have e : i = pr.1.length := by omega
    subst e
    refine .inl ⟨hs (Nat.le_refl _), ?_⟩
    simp only [go] at p2
    rw [List.drop_length] at p2
    simp only [compL] at p2
    rw [if_pos hst] at p2
    exact p2 (.ref D) H' (φ2 ++ [(true, D)]) (E2.adopt hD) (R2.adopt hD2 nD rs) (.ref ⟨true, by rw [← R2.len]; simp⟩)
end
end Mn
/-! Mini: classes: attributes, methods, new objects -/
namespace Mn
open PySem PySem.Spec PyProof.Rows L2
theorem ofString_inj {s t : String} (h : Str.ofString s = Str.ofString t) : s = t := by
  rw [Str.ofString_eq_toList, Str.ofString_eq_toList] at h
  have h1 : s.toList.map Char.toNat = t.toList.map Char.toNat := by
    have := congrArg (fun x : Str => x.cps.toList) h
    simpa using this
  have h2 : s.toList = t.toList := by
    refine List.map_inj_right (fun a b e => ?_) |>.mp h1
    exact Char.ext (UInt32.toNat_inj.mp e)
  exact String.ext h2
theorem FRs.get {L : Lk} {φ : Ph} {H : Hp} {f : String} : ∀ {fs : List (String × Val)} {xs : List (Str × V)}, FRs L φ H fs xs → (∀ v, fs.lookup f = some v → ∃ x, xs.lookup (Str.ofString f) = some x ∧ VR L φ H v x) ∧ (fs.lookup f = none → xs.lookup (Str.ofString f) = none)
  | _, _, .nil => ⟨(fun v h => by cases h), fun _ => rfl⟩
  | _, _, .cons (k := k) r t => by
    rw [List.lookup_cons, List.lookup_cons]
    by_cases c : f = k
    · subst c
      rw [beq_self_eq_true, beq_self_eq_true]
      exact ⟨(fun v h => by cases h; exact ⟨_, rfl, r⟩), fun h => by cases h⟩
    · have c1 : (f == k) = false := by simpa using c
      have c2 : (Str.ofString f == Str.ofString k) = false := by
        rw [beq_eq_false_iff_ne]
        exact fun z => c (ofString_inj z)
      rw [c1, c2]
      exact FRs.get t
theorem FRs.split {L : Lk} {φ : Ph} {H : Hp} : ∀ {fs : List (String × Val)} {xs : List (Str × V)}, FRs L φ H fs xs → (fs.map fun p => Str.ofString p.1) = xs.map (·.1) ∧ VRs L φ H (fs.map (·.2)) (xs.map (·.2))
  | _, _, .nil => ⟨rfl, .nil⟩
  | _, _, .cons r t => ⟨by rw [List.map_cons, List.map_cons, t.split.1], .cons r t.split.2⟩
theorem FRs.join {L : Lk} {φ : Ph} {H : Hp} : ∀ {fs : List (String × Val)} {xs : List (Str × V)}, (fs.map fun p => Str.ofString p.1) = xs.map (·.1) → VRs L φ H (fs.map (·.2)) (xs.map (·.2)) → FRs L φ H fs xs
  | [], [], _, _ => .nil
  | [], _ :: _, e, _ => by cases e
  | _ :: _, [], e, _ => by cases e
  | (f, v) :: fs, (g, x) :: xs, e, r => by
    rw [List.map_cons, List.map_cons] at e
    obtain ⟨e1, e2⟩ := List.cons.inj e
    rw [List.map_cons, List.map_cons] at r
    cases r with
    | cons r1 r2 =>
      subst e1
      exact .cons r1 (FRs.join e2 r2)
theorem vrs_lookup {L : Lk} {φ : Ph} {H : Hp} {f : String} {fs : List (String × Val)} {xs : List (Str × V)} (k : (fs.map fun p => Str.ofString p.1) = xs.map (·.1)) (r : VRs L φ H (fs.map (·.2)) (xs.map (·.2))) (w : Val) (e : fs.lookup f = some w) : ∃ z, xs.lookup (Str.ofString f) = some z ∧ VR L φ H w z :=
  (FRs.join k r).get.1 w e
theorem FRs.put {L : Lk} {φ : Ph} {H : Hp} {f : String} {v : Val} {x : V} (r : VR L φ H v x) : ∀ {fs : List (String × Val)} {xs : List (Str × V)}, FRs L φ H fs xs → FRs L φ H (putFl f v fs) (putF (Str.ofString f) x xs)
  | _, _, .nil => .cons r .nil
  | _, _, .cons (k := k) (v := w) (kvs := fs) (x := y) (xs := xs) r2 t => by
    show FRs L φ H (if k = f then (k, v) :: fs else (k, w) :: putFl f v fs) (if Str.ofString k = Str.ofString f then (Str.ofString k, x) :: xs else (Str.ofString k, y) :: putF (Str.ofString f) x xs)
    by_cases c : k = f
    · rw [if_pos c, if_pos (by rw [c])]
      exact .cons r t
    · rw [if_neg c, if_neg (fun z => c (ofString_inj z))]
      exact .cons r2 (FRs.put r t)
theorem FRs.length {L : Lk} {φ : Ph} {H : Hp} : ∀ {fs : List (String × Val)} {xs : List (Str × V)}, FRs L φ H fs xs → fs.length = xs.length
  | _, _, .nil => rfl
  | _, _, .cons _ t => by simp [t.length]
section
variable {X : Cx}
theorem PE.exi {ι : Type} {e : Expr} {t : ι → TE} (h : ∀ i, PE X e (t i)) : PE X e (fun σ H Q => ∃ i, t i σ H Q) := ⟨fun pins s σ H Q I ⟨i, q⟩ => (h i).run pins s σ H Q I q⟩
end
section
variable {X : Cx} {CX : CXT} {k : Nat} {f C : Addr} {fd : FuncData} {ps : List Str} {sp : Sp} {E : L2.St → XK} {x m : Str} {p pos apos : Pos} {o e : Expr} {es : List Expr} {ta : TE} {t : TA}
/-- o.m(..), what is raised is wished for at the caller's slots -/
noncomputable def tMethS (C : Addr) (m : Str) (sp : Sp) (E : L2.St → XK) (ta : TE) (t : TA) : TE := fun σ H Q => ta σ H fun x H1 => ∃ a dx fs, x = .ref a ∧ H1 a = some (.ins C dx fs) ∧ fs.lookup m = none ∧ t σ H1 fun vs H2 => sp (x :: vs) H2 Q (E σ)
theorem pe_methS {pl : Sem Bool} (he : PE X o ta) (c : Cls X.K C) (hm : Meth X.K C m f) (F : FnOk X.prog X.w X.K X.mg X.base CX k f fd ps sp) (hr : Room k X.A) (hb : Binds X.K fd ps []) (hx : ∀ σ, PassesAt CX X σ (E σ)) (ha : PA X (e :: es) t)
    (hst : starEach (e :: es) X.env = (false, eval e X.env) :: starEach es X.env) (hpl : (backTo pos (starEach es X.env)).any (·.1) = false)
    (ht : eval (.Call (.Attribute o m apos) (e :: es) [] pos) X.env = (do
      let ov ← eval o X.env
      standAt apos.atName
      let (f, first) ← holding [ov] (getMethod ov m pl)
      callWith pos f first (backTo pos (starEach (e :: es) X.env)) (backToKw pos (keywordEach [] X.env)))) :
    PE X (.Call (.Attribute o m apos) (e :: es) [] pos) (tMethS C m sp E ta t) := by
  refine ⟨fun pins s σ H Q I h => ?_⟩
  refine PySem.W.methodCall_KW (pl := pl) (thn (he.run pins s σ H _ I h) fun u s1 ⟨x, H1, I1, rx, a, dx, fs, ex, ea, l, q⟩ => ?_) ht
  subst ex
  obtain rfl : u = Value.ref a := rx
  refine getmeth_ok I1 ea c hm l ?_
  refine PySem.W.callWith_K (first := [.ref a]) (h₀ := X.base) I.ok.mod.kin hm.kp (thn (ha.run pos pins s1 σ H1 _ I1 q) fun us s2 ⟨vs, H2, I2, r, q2⟩ => ⟨I2.kIn, ?_⟩) hst hpl
  exact run_fnS (us := .ref a :: us) (vs := .ref a :: vs) F hr hb (hx σ) I2 (.cons rfl r) q2
theorem pe_methS0 {pl : Sem Bool} (he : PE X o ta) (c : Cls X.K C) (hm : Meth X.K C m f) (F : FnOk X.prog X.w X.K X.mg X.base CX k f fd ps sp) (hr : Room k X.A) (hb : Binds X.K fd ps []) (hx : ∀ σ, PassesAt CX X σ (E σ))
    (ht : eval (.Call (.Attribute o m apos) [] [] pos) X.env = (do
      let ov ← eval o X.env
      standAt apos.atName
      let (f, first) ← holding [ov] (getMethod ov m pl)
      callWith pos f first (backTo pos (starEach [] X.env)) (backToKw pos (keywordEach [] X.env)))) :
    PE X (.Call (.Attribute o m apos) [] [] pos) (tMethS C m sp E ta tNil) := by
  refine ⟨fun pins s σ H Q I h => ?_⟩
  refine PySem.W.methodCall_KW (pl := pl) (thn (he.run pins s σ H _ I h) fun u s1 ⟨x, H1, I1, rx, a, dx, fs, ex, ea, l, q⟩ => ?_) ht
  subst ex
  obtain rfl : u = Value.ref a := rx
  refine getmeth_ok I1 ea c hm l ?_
  exact PySem.W.callWith_K0 (first := [.ref a]) I1.kIn hm.kp (run_fnS (us := [.ref a]) (vs := [.ref a]) F hr hb (hx σ) I1 (.cons rfl .nil) q)
theorem pe_methSD {pl : Sem Bool} {dvs : List V} {ds : List Value} (he : PE X o ta) (c : Cls X.K C) (hm : Meth X.K C m f) (F : FnOk X.prog X.w X.K X.mg X.base CX k f fd ps sp) (hr : Room k X.A) (hb : Binds X.K fd ps ds) (hd : Vals dvs ds) (hx : ∀ σ, PassesAt CX X σ (E σ)) (ha : PA X (e :: es) t)
    (hst : starEach (e :: es) X.env = (false, eval e X.env) :: starEach es X.env) (hpl : (backTo pos (starEach es X.env)).any (·.1) = false)
    (ht : eval (.Call (.Attribute o m apos) (e :: es) [] pos) X.env = (do
      let ov ← eval o X.env
      standAt apos.atName
      let (f, first) ← holding [ov] (getMethod ov m pl)
      callWith pos f first (backTo pos (starEach (e :: es) X.env)) (backToKw pos (keywordEach [] X.env)))) :
    PE X (.Call (.Attribute o m apos) (e :: es) [] pos) (tMethS C m (fun vs H Q E => sp (vs ++ dvs) H Q E) E ta t) := by
  refine ⟨fun pins s σ H Q I h => ?_⟩
  refine PySem.W.methodCall_KW (pl := pl) (thn (he.run pins s σ H _ I h) fun u s1 ⟨x, H1, I1, rx, a, dx, fs, ex, ea, l, q⟩ => ?_) ht
  subst ex
  obtain rfl : u = Value.ref a := rx
  refine getmeth_ok I1 ea c hm l ?_
  refine PySem.W.callWith_K (first := [.ref a]) (h₀ := X.base) I.ok.mod.kin hm.kp (thn (ha.run pos pins s1 σ H1 _ I1 q) fun us s2 ⟨vs, H2, I2, r, q2⟩ => ⟨I2.kIn, ?_⟩) hst hpl
  exact run_fnSD (us := .ref a :: us) (vs := .ref a :: vs) F hr hb hd (hx σ) I2 (.cons rfl r) q2
theorem pe_methSD0 {pl : Sem Bool} {dvs : List V} {ds : List Value} (he : PE X o ta) (c : Cls X.K C) (hm : Meth X.K C m f) (F : FnOk X.prog X.w X.K X.mg X.base CX k f fd ps sp) (hr : Room k X.A) (hb : Binds X.K fd ps ds) (hd : Vals dvs ds) (hx : ∀ σ, PassesAt CX X σ (E σ))
    (ht : eval (.Call (.Attribute o m apos) [] [] pos) X.env = (do
      let ov ← eval o X.env
      standAt apos.atName
      let (f, first) ← holding [ov] (getMethod ov m pl)
      callWith pos f first (backTo pos (starEach [] X.env)) (backToKw pos (keywordEach [] X.env)))) :
    PE X (.Call (.Attribute o m apos) [] [] pos) (tMethS C m (fun vs H Q E => sp (vs ++ dvs) H Q E) E ta tNil) := by
  refine ⟨fun pins s σ H Q I h => ?_⟩
  refine PySem.W.methodCall_KW (pl := pl) (thn (he.run pins s σ H _ I h) fun u s1 ⟨x, H1, I1, rx, a, dx, fs, ex, ea, l, q⟩ => ?_) ht
  subst ex
  obtain rfl : u = Value.ref a := rx
  refine getmeth_ok I1 ea c hm l ?_
  exact PySem.W.callWith_K0 (first := [.ref a]) I1.kIn hm.kp (run_fnSD (us := [.ref a]) (vs := [.ref a]) F hr hb hd (hx σ) I1 (.cons rfl .nil) q)
noncomputable def tMakeS (C : Addr) (sp : Sp) (E : L2.St → XK) (t : TA) : TE := fun σ H Q => t σ H fun vs H1 => ∀ x dx, H1 x = none → H1 dx = none → dx ≠ x →
  sp (.ref x :: vs) (upd (upd H1 dx (.own x)) x (.ins C dx [])) (fun v H2 => v = .non ∧ Q (.ref x) H2) (E σ)
theorem run_makeS {pins : List (Addr × Obj)} {σ : L2.St} {H : Hp} {s : Shared} {Q : VK} {us : List Value} {vs : List V} (M : Mk X.K C f) (F : FnOk X.prog X.w X.K X.mg X.base CX k f fd ps sp) (hr : Room (k + 1) X.A) (hb : Binds X.K fd ps [])
    (hx : PassesAt CX X σ (E σ)) (I : Inv X pins σ H s) (r : Vals vs us)
    (h : ∀ x dx, H x = none → H dx = none → dx ≠ x → sp (.ref x :: vs) (upd (upd H dx (.own x)) x (.ins C dx [])) (fun v H2 => v = .non ∧ Q (.ref x) H2) (E σ)) :
    wpAny (model X.prog X.w) X.A (call (.ref C) us) (EP X pins σ Q) X.xe s := by
  have hq := h (s.heap.objs.size + 1) s.heap.objs.size (I.hok.fresh (Nat.le_succ _)) (I.hok.fresh (Nat.le_refl _)) (Nat.ne_of_lt (Nat.lt_succ_self _))
  have I2 := Inv.made (C := C) I
  have r2 : Vals (V.ref (s.heap.objs.size + 1) :: vs) (Value.ref (s.heap.objs.size + 1) :: us) := .cons rfl r
  have hl : (Value.ref (s.heap.objs.size + 1) :: us).length = ps.length := by
    have e := r2.length
    rw [F.len _ _ _ _ hq] at e
    exact e.symm
  have b := hb _ (Value.ref (s.heap.objs.size + 1) :: us) I2.kIn (by rw [List.append_nil]; exact hl)
  rw [List.append_nil] at b
  refine wpAny_call (make_map (f := f) I.kIn M.makes M.init (beq_iff_eq.mp M.fn) (codeAny_mono (F.run _ X.stack _ _ ⟨Value.ref (s.heap.objs.size + 1) :: us, []⟩ (Value.ref (s.heap.objs.size + 1) :: us) _ _ (E σ) (hr.make C us [])
    (I2.env0.make C us []) b r2 hq) fun r s' hq' => ?_))
  cases r with
  | error e => exact hx pins _ _ e s' I2 hq'
  | ok fl =>
    cases fl with
    | ret u =>
      obtain ⟨v, H', I3, rv, ev, q3⟩ := I2.after hq'
      subst ev
      exact ⟨rv, ⟨V.ref (s.heap.objs.size + 1), H', I3, rfl, q3⟩⟩
    | next => exact False.elim hq'
    | brk => exact False.elim hq'
    | cont => exact False.elim hq'
theorem pe_makeS (M : Mk X.K C f) (F : FnOk X.prog X.w X.K X.mg X.base CX k f fd ps sp) (hr : Room (k + 1) X.A) (hg : Gl X x) (hm : X.mg x = some (.ref C)) (hb : Binds X.K fd ps []) (hx : ∀ σ, PassesAt CX X σ (E σ))
    (ha : PA X (e :: es) t) (hdb : (x == ("__debug__" : Str)) = false) (he : starEach (e :: es) X.env = (false, eval e X.env) :: starEach es X.env) (hpl : (backTo pos (starEach es X.env)).any (·.1) = false) :
    PE X (.Call (.Name x p) (e :: es) [] pos) (tMakeS C sp E t) := by
  refine ⟨fun pins s σ H Q I h => ?_⟩
  refine wpAny_Call_Name_kw (ld_glob I hg hm ?_ hdb)
  refine PySem.W.callWith_K (h₀ := X.base) I.ok.mod.kin M.kp (thn (ha.run pos pins s σ H _ I h) fun us s1 ⟨vs, H1, I1, r, q⟩ => ⟨I1.kIn, ?_⟩) he hpl
  exact run_makeS M F hr hb (hx σ) I1 r q
theorem pe_makeS0 (M : Mk X.K C f) (F : FnOk X.prog X.w X.K X.mg X.base CX k f fd ps sp) (hr : Room (k + 1) X.A) (hg : Gl X x) (hm : X.mg x = some (.ref C)) (hb : Binds X.K fd ps []) (hx : ∀ σ, PassesAt CX X σ (E σ))
    (hdb : (x == ("__debug__" : Str)) = false) : PE X (.Call (.Name x p) [] [] pos) (tMakeS C sp E tNil) := by
  refine ⟨fun pins s σ H Q I h => ?_⟩
  refine wpAny_Call_Name_kw (ld_glob I hg hm ?_ hdb)
  exact PySem.W.callWith_K0 I.kIn M.kp (run_makeS (us := []) M F hr hb (hx σ) I .nil h)
end
noncomputable def plainOfM (o : Expr) (env : Env) : Sem Bool := do return (← importBound o env).getD true
theorem mcall_lineM {o : Expr} {m : Str} {apos pos : Pos} {env : Env} {ov : Value} {n : Nat} {args : List (Bool × Sem Value)} {kws : List (Option Str × Sem Value)} (hf : methodCallForm n args kws = true) (hl : (apos.endLine == pos.line) = true) :
    methodCall o m apos pos env ov n args kws = (do
      let (f, first) ← holding [ov] (getMethod ov m (plainOfM o env))
      callWith pos f first args kws) := by
  have e1 : calleeOf (methodCallForm n args kws) o env ov m = getMethod ov m (plainOfM o env) := by
    rw [hf] <;> rfl
  have e2 : methodCallPos (methodCallForm n args kws) o env apos pos = pure pos := by
    unfold methodCallPos
    exact if_pos (by rw [hl, Bool.or_true])
  unfold methodCall
  rw [e1, e2]
  first
    | rfl
    | simp only [pure_bind]
theorem okB_meth {o : Expr} (h : okB o = true) (m : Str) {ap cp : Pos} (hl : (ap.endLine == cp.line) = true) {es : List Expr} (hn : es.length < 20) (oks : es.all okE = true) (env : Env) : eval (.Call (.Attribute o m ap) es [] cp) env = (do
      let ov ← eval o env
      standAt ap.atName
      let (f, first) ← holding [ov] (getMethod ov m (plainOfM o env))
      callWith cp f first (backTo cp (starEach es env)) (backToKw cp (keywordEach [] env))) := by
  have hf : methodCallForm (es.length + ([] : List Keyword).length) (backTo cp (starEach es env)) (backToKw cp (keywordEach [] env)) = true := by
    unfold methodCallForm
    rw [okEs_all oks env cp]
    show (true && true && decide (es.length + 0 + 0 < 30)) = true
    simp; omega
  have e : eval (.Call (.Attribute o m ap) es [] cp) env = (do
      let ov ← attributeBase o m env (eval o env)
      standAt ap.atName
      methodCall o m ap cp env ov (es.length + ([] : List Keyword).length) (backTo cp (starEach es env)) (backToKw cp (keywordEach [] env))) := rfl
  rw [e, okB_base h]
  congr 1
  funext ov
  congr 1
  funext _
  exact mcall_lineM hf hl
section
variable {tb : Tb} {L : Lk} {P : Pg} {k : Nat} {X : Cx} {blk : Bool} {N : List Str} {sc : Scope} {W : WX}
noncomputable def tFldX (K : PySem.W.Frag) (ta : TE) (f : Str) : TE := fun σ H Q => ta σ H fun x H1 => (∃ (a C dx : Addr) (fs : List (Str × V)) (v : V), x = .ref a ∧ H1 a = some (.ins C dx fs) ∧ Cls K C ∧ NoAttr K C f ∧ fs.lookup f = some v ∧ Q v H1) ∨
  ∃ (a C dd : Addr) (fs : List (Str × V)) (v : V), x = .ref a ∧ H1 a = some (exH a (.ref C) (some dd)) ∧ H1 dd = some (.xd fs) ∧ ExK K C ∧ PySem.W.findIn K (.ref C) f = some none ∧ fs.lookup f = some v ∧ Q v H1
theorem pe_fldX {e : Expr} {f : Str} {pos : Pos} {ta : TE} (he : PE X e ta) (hb : attributeBase e f X.env (eval e X.env) = eval e X.env) : PE X (.Attribute e f pos) (tFldX X.K ta f) := by
  refine ⟨fun pins s σ H Q I h => ?_⟩
  refine attr_of hb (thn (he.run pins s σ H _ I h) fun u s1 ⟨x, H1, I1, rx, hh⟩ => ?_)
  rcases hh with ⟨a, C, dx, fs, v, ex, ea, c, n, l, q⟩ | ⟨a, C, dd, fs, v, ex, ea, ed, T, hno, l, q⟩
  · subst ex
    obtain rfl : u = Value.ref a := rx
    exact getattr_ok I1 ea c n l fun u' s2 I2 ru => ⟨v, H1, I2, ru, q⟩
  · subst ex
    obtain rfl : u = Value.ref a := rx
    obtain ⟨oe, vs, e, z, k⟩ := exH_at I1.hok ea
    have hx : ObjOk X.prog X.w H1 s1.heap dd (.xd fs) := I1.hok dd _ ed
    obtain ⟨mA, hns, hr⟩ := hx
    obtain ⟨od, ho, hl⟩ := lookIn_ns hns
    obtain ⟨u, hu, ru⟩ := RelO.some_of (v := v) (o := mA f) (by rw [← l]; exact hr f)
    have J : PySem.W.InstAt s1.heap a oe C (some od) := ⟨e, z.1, by unfold PySem.W.notCls; rw [k] <;> rfl, by rw [z.2]; exact ho⟩
    exact HandSPX.exc_get I1.kIn J T.ga T.gg T.ex (PySem.W.findObj_own T.hd hno rfl (by rw [hl, hu])) (handed_of ru) ⟨v, H1, I1.tok _, ru, q⟩
theorem pe_fldM (S : Sy tb L P k X blk N sc W) {f : String} {o : Expr} {x : E} {pos : Pos} (ok : okB o = true) (ho : PE X o (tM L P W x)) : PE X (.Attribute o (Str.ofString f) pos) (tM L P W (.fld x f)) :=
  PE.weak ((pe_fldX ho (okB_base ok _ _))) fun σ H Q ⟨φ, h, ρ, R, En, p⟩ => by
    simp only [evE] at p
    refine ⟨φ, h, ρ, R, En, (Post.bind (rel0 := vR L) p).imp fun y H1 ⟨φ1, h1, v, E1, R1, r1, p1⟩ => ?_⟩
    cases v <;> first | exact False.elim p1 | skip
    rotate_left
    · rename_i c fs
      simp only [getF] at p1
      by_cases cf : P.exi c = some (some f)
      · rw [if_pos cf] at p1
        obtain ⟨C, hC, _, _, _, _, _, hno, _⟩ := S.pr.exi _ _ cf
        cases r1 with
        | exc0 hc ha na => exact False.elim p1
        | excF hc ha na hd nd k r =>
          rw [hC] at hc; cases hc
          cases e : fs.lookup f with
          | none => rw [e] at p1; exact False.elim p1
          | some w =>
            rw [e] at p1
            obtain ⟨z, e2, r2⟩ := vrs_lookup k r w e
            exact .inr ⟨_, C, _, _, z, rfl, ha, hd, by rw [S.hK]; exact S.pr.exk _ _ hC, by rw [S.hK]; exact hno, e2, Post.here R1 r2 p1⟩
      · rw [if_neg cf] at p1; exact False.elim p1
    rename_i i
    simp only [getF] at p1
    split at p1
    · rename_i c fs hi
      by_cases cf : (P.flds c).contains f = true
      · rw [if_pos cf] at p1
        obtain ⟨a, rfl, _, ob⟩ := R1.at hi r1
        cases ob with
        | ins hc q rf =>
          obtain ⟨C', hC', hcl, hno⟩ := S.pr.flds c f cf
          rw [hc] at hC'; cases hC'
          cases e : fs.lookup f with
          | none => rw [e] at p1; exact False.elim p1
          | some w =>
            rw [e] at p1
            obtain ⟨z, e2, r2⟩ := rf.get.1 w e
            exact .inl ⟨a, _, _, _, z, rfl, q, S.hK ▸ hcl, S.hK ▸ hno, e2, Post.here R1 r2 p1⟩
      · rw [if_neg cf] at p1; exact False.elim p1
    · exact False.elim p1
/-- a method's call, as Mini has it -/
theorem own_w {c m f : String} {C : Addr} {np : Nat} {x : E} {xs : List E} {σ : L2.St} {H : Hp} {Q : VK} {φ : Ph} {h : MH} {ρ : Env'} (hc : L.cls c = some C) (hn : ∀ ms h, P.cf f ms h ≠ .bad → ms.length = np) (R : Rel L φ h H) (En : EnvR L φ H ρ σ)
    (hf : ∀ v h1, evE P x ρ h = .ok v h1 → ∃ i fs, v = .ref i ∧ h1[i]? = some (.ins c fs) ∧ fs.lookup m = none ∧ P.mro c m = some f) (p : Post L φ H (vR L) (evE P (.own m x xs) ρ h) Q (fun c d H' => W c d σ H')) :
    tMethS C (Str.ofString m) (spOf L (P.cf f) np) (WE W) (tM L P W x) (tMs L P W xs) σ H Q := by
  refine ⟨φ, h, ρ, R, En, ?_⟩
  simp only [evE] at p
  cases e : evE P x ρ h with
  | bad => rw [e] at p; exact p
  | err c fs h1 => rw [e] at p; exact p
  | ok v h1 =>
    rw [e] at p
    obtain ⟨i, fs, rfl, hi, hl, hm⟩ := hf v h1 e
    have ho : ownFn P m (.ref i) h1 = some f := by
      simp only [ownFn, hi, hl, Option.isNone_none, if_pos, hm]
    simp only [bind_ok, ho] at p
    intro y H1 φ1 E1 R1 r1
    have p1 := Post.step E1 p
    obtain ⟨a, rfl, _, ob⟩ := R1.at hi r1
    cases ob with
    | ins hc' q rf =>
      rw [hc] at hc'; cases hc'
      refine ⟨a, _, _, rfl, q, rf.get.2 hl, φ1, h1, ρ, R1, En.mono E1, (Post.bind (rel0 := vRs L) p1).imp fun ys H2 ⟨φ2, h2, vs, E2, R2, r2, p2⟩ => ?_⟩
      have hb : P.cf f (.ref i :: vs) h2 ≠ .bad := fun z => by rw [z] at p2; exact p2
      have hl2 := hn _ _ hb
      refine ⟨?_, φ2, h2, .ref i :: vs, R2, .cons (r1.mono E2) r2, p2⟩
      rw [← hl2, List.length_cons, List.length_cons, r2.length]
theorem pe_ownM (S : Sx tb L P k X blk N sc W) {m : String} {o : Expr} {es : List Expr} {x : E} {xs : List E} {ap cp : Pos} (hm : tb.own.contains m = true) (ok : okB o = true) (hline : (ap.endLine == cp.line) = true) (hl : es.length < 20) (oks : es.all okE = true) (el : es = [] → xs = [])
    (ho : PE X o (tM L P W x)) (ha : PA X es (tMs L P W xs)) : PE X (.Call (.Attribute o (Str.ofString m) ap) es [] cp) (tM L P W (.own m x xs)) := by
  obtain ⟨c0, f0, h0⟩ := S.pr.own m hm
  have ht := okB_meth ok (Str.ofString m) hline hl oks X.env
  have rule : ∀ i : { i : String × String // P.mro i.1 m = some i.2 }, PE X (.Call (.Attribute o (Str.ofString m) ap) es [] cp) (fun σ H Q => ∃ (C : Addr) (np : Nat), L.cls i.1.1 = some C ∧ (∀ ms h, P.cf i.1.2 ms h ≠ .bad → ms.length = np) ∧ tMethS C (Str.ofString m) (spOf L (P.cf i.1.2) np) (WE W) (tM L P W x) (tMs L P W xs) σ H Q) := fun ⟨⟨c, f⟩, hi⟩ => by
    obtain ⟨C, a, fd, ps, e1, e2, e3, e4, e5, e6⟩ := S.pr.mro c m f hi
    rw [← S.hK] at e2 e3 e4 e5
    have np_eq : ∀ np, (∀ ms h, P.cf f ms h ≠ .bad → ms.length = np) → ∀ vs H Q E, spOf L (P.cf f) np vs H Q E → spOf L (P.cf f) ps.length vs H Q E := fun np hn vs H Q E ⟨q1, φ, h, ms, q2, q3, q4⟩ => by
      have hb : P.cf f ms h ≠ .bad := fun z => by rw [z] at q4; exact q4
      refine ⟨?_, φ, h, ms, q2, q3, q4⟩
      rw [q1, ← hn _ _ hb, e6 _ _ hb]
    cases es with
    | nil =>
      have := el rfl
      subst this
      refine PE.weak (pe_methS0 (E := WE W) ho e2 e3 e5 S.rm e4 (fun σ => passB S.tk σ) ht) fun σ H Q ⟨C', np, z1, z2, φ, h, ρ, R, En, q⟩ => ?_
      simp only at z1
      rw [e1] at z1; cases z1
      refine ⟨φ, h, ρ, R, En, q.imp fun y H1 ⟨a, dx, fs, w1, w2, w3, w4⟩ => ⟨a, dx, fs, w1, w2, w3, ?_⟩⟩
      obtain ⟨φ1, h1, ρ1, R1, En1, w4⟩ := w4
      simp only [evEs] at w4
      exact np_eq np z2 _ _ _ _ (w4 [] H1 φ1 Ext.refl R1 .nil)
    | cons e es =>
      simp only [List.all_cons, Bool.and_eq_true] at oks
      refine PE.weak (pe_methS (E := WE W) ho e2 e3 e5 S.rm e4 (fun σ => passB S.tk σ) ha (okE_star oks.1 _ _) (okEs_any oks.2 _ _) ht) fun σ H Q ⟨C', np, z1, z2, φ, h, ρ, R, En, q⟩ => ?_
      simp only at z1
      rw [e1] at z1; cases z1
      refine ⟨φ, h, ρ, R, En, q.imp fun y H1 ⟨a, dx, fs, w1, w2, w3, w4⟩ => ⟨a, dx, fs, w1, w2, w3, ?_⟩⟩
      obtain ⟨φ1, h1, ρ1, R1, En1, w4⟩ := w4
      exact ⟨φ1, h1, ρ1, R1, En1, w4.imp fun vs H2 w5 => np_eq np z2 _ _ _ _ w5⟩
  refine PE.weak (PE.exi rule) fun σ H Q ⟨φ, h, ρ, R, En, p⟩ => ?_
  have go : ∀ c f, P.mro c m = some f → (∀ v h1, evE P x ρ h = .ok v h1 → ∃ i fs, v = .ref i ∧ h1[i]? = some (.ins c fs) ∧ fs.lookup m = none ∧ P.mro c m = some f) → ∃ i : { i : String × String // P.mro i.1 m = some i.2 }, ∃ (C : Addr) (np : Nat), L.cls i.1.1 = some C ∧ (∀ ms h, P.cf i.1.2 ms h ≠ .bad → ms.length = np) ∧ tMethS C (Str.ofString m) (spOf L (P.cf i.1.2) np) (WE W) (tM L P W x) (tMs L P W xs) σ H Q := fun c f hi hv => by
    obtain ⟨C, a, fd, ps, e1, e2, e3, e4, e5, e6⟩ := S.pr.mro c m f hi
    exact ⟨⟨(c, f), hi⟩, C, ps.length, e1, e6, own_w e1 e6 R En hv p⟩
  cases e : evE P x ρ h with
  | bad => simp only [evE, e] at p; exact False.elim p
  | err c fs h1 => exact go c0 f0 h0 fun v h1 z => by rw [e] at z; cases z
  | ok v h1 =>
    have p' := p
    simp only [evE, e, bind_ok] at p'
    cases eo : ownFn P m v h1 with
    | none => rw [eo] at p'; exact False.elim p'
    | some f =>
      cases v <;> first | (simp [ownFn] at eo; done) | skip
      rename_i i
      simp only [ownFn] at eo
      split at eo
      · rename_i c fs hi
        by_cases hn : (fs.lookup m).isNone = true
        · rw [if_pos hn] at eo
          exact go c f eo fun v2 h2 z => by
            rw [e] at z; cases z
            exact ⟨i, fs, rfl, hi, by simpa using hn, eo⟩
        · rw [if_neg hn] at eo; cases eo
      · cases eo
theorem evEs_con (cs : List Val) : ∀ (xs : List E) (ρ : Env') (h : MH), evEs P (xs ++ cs.map E.con) ρ h = (evEs P xs ρ h).bind fun vs h' => .ok (vs ++ cs) h'
  | [], ρ, h => by
    have key : ∀ (cs : List Val), evEs P (cs.map E.con) ρ h = .ok cs h := fun cs => by
      induction cs with
      | nil => simp only [List.map_nil, evEs]
      | cons c cs ih =>
        rw [List.map_cons]
        simp only [evEs, evE, bind_ok]
        rw [ih]
        rfl
    rw [List.nil_append, key]
    simp only [evEs, bind_ok, List.nil_append]
  | x :: xs, ρ, h => by
    rw [List.cons_append]
    simp only [evEs]
    cases e : evE P x ρ h with
    | bad => rfl
    | err c fs h1 => rfl
    | ok v h1 =>
      simp only [bind_ok]
      rw [evEs_con cs xs]
      cases e2 : evEs P xs ρ h1 with
      | bad => rfl
      | err c fs h2 => rfl
      | ok vs h2 => rfl
theorem own_wD {c m f : String} {C : Addr} {np : Nat} {x : E} {xs : List E} {cs : List Val} {dvs : List V} {σ : L2.St} {H : Hp} {Q : VK} {φ : Ph} {h : MH} {ρ : Env'} (hc : L.cls c = some C) (hn : ∀ ms h, P.cf f ms h ≠ .bad → ms.length = np) (rd : ∀ φ H, VRs L φ H cs dvs) (R : Rel L φ h H) (En : EnvR L φ H ρ σ)
    (hf : ∀ v h1, evE P x ρ h = .ok v h1 → ∃ i fs, v = .ref i ∧ h1[i]? = some (.ins c fs) ∧ fs.lookup m = none ∧ P.mro c m = some f) (p : Post L φ H (vR L) (evE P (.own m x (xs ++ cs.map E.con)) ρ h) Q (fun c d H' => W c d σ H')) :
    tMethS C (Str.ofString m) (fun vs H Q E => spOf L (P.cf f) np (vs ++ dvs) H Q E) (WE W) (tM L P W x) (tMs L P W xs) σ H Q := by
  refine ⟨φ, h, ρ, R, En, ?_⟩
  simp only [evE] at p
  cases e : evE P x ρ h with
  | bad => rw [e] at p; exact p
  | err c fs h1 => rw [e] at p; exact p
  | ok v h1 =>
    rw [e] at p
    obtain ⟨i, fs, rfl, hi, hl, hm⟩ := hf v h1 e
    have ho : ownFn P m (.ref i) h1 = some f := by
      simp only [ownFn, hi, hl, Option.isNone_none, if_pos, hm]
    simp only [bind_ok, ho] at p
    intro y H1 φ1 E1 R1 r1
    have p1 := Post.step E1 p
    have eb : (evEs P (xs ++ cs.map E.con) ρ h1).bind (fun vs h2 => P.cf f (.ref i :: vs) h2) = (evEs P xs ρ h1).bind fun vs h2 => P.cf f (.ref i :: (vs ++ cs)) h2 := by
      rw [evEs_con]
      cases evEs P xs ρ h1 <;> rfl
    obtain ⟨a, rfl, _, ob⟩ := R1.at hi r1
    cases ob with
    | ins hc' q rf =>
      rw [hc] at hc'; cases hc'
      have p1' : Post L φ1 H1 (vR L) ((evEs P xs ρ h1).bind fun vs h2 => P.cf f (.ref i :: (vs ++ cs)) h2) Q (fun c d H' => W c d σ H') := by
        rw [← eb]; exact p1
      refine ⟨a, _, _, rfl, q, rf.get.2 hl, φ1, h1, ρ, R1, En.mono E1, (Post.bind (rel0 := vRs L) p1').imp fun ys H2 ⟨φ2, h2, vs, E2, R2, r2, p2⟩ => ?_⟩
      have hb : P.cf f (.ref i :: (vs ++ cs)) h2 ≠ .bad := fun z => by rw [z] at p2; exact p2
      have hl2 := hn _ _ hb
      have r3 : VRs L φ2 H2 (vs ++ cs) (ys ++ dvs) := r2.append (rd φ2 H2)
      refine ⟨?_, φ2, h2, .ref i :: (vs ++ cs), R2, .cons (r1.mono E2) r3, p2⟩
      rw [← hl2, List.cons_append, List.length_cons, List.length_cons, r3.length]
theorem pe_ownMD (S : Sx tb L P k X blk N sc W) {m : String} {o : Expr} {es : List Expr} {x : E} {xs : List E} {cs : List Val} {ap cp : Pos} (hm : tb.own.contains m = true) (hcs : tb.dfl.lookup (m, xs.length) = some cs) (ok : okB o = true) (hline : (ap.endLine == cp.line) = true) (hl : es.length < 20) (oks : es.all okE = true) (el : es = [] → xs = [])
    (ho : PE X o (tM L P W x)) (ha : PA X es (tMs L P W xs)) : PE X (.Call (.Attribute o (Str.ofString m) ap) es [] cp) (tM L P W (.own m x (xs ++ cs.map E.con))) := by
  obtain ⟨c0, f0, h0⟩ := S.pr.own m hm
  have ht := okB_meth ok (Str.ofString m) hline hl oks X.env
  have rule : ∀ i : { i : (String × String) × List V // ∃ C a fd ps ds, L.cls i.1.1 = some C ∧ Cls L.K C ∧ Meth L.K C (Str.ofString m) a ∧ Vals i.2 ds ∧ (∀ φ H, VRs L φ H cs i.2) ∧ Binds L.K fd ps ds ∧ FnOk X.prog X.w L.K X.mg X.base (CXb tb.nc X.prog X.w) k a fd ps (spOf L (P.cf i.1.2) ps.length) ∧ ∀ ms h, P.cf i.1.2 ms h ≠ .bad → ms.length = ps.length },
      PE X (.Call (.Attribute o (Str.ofString m) ap) es [] cp) (fun σ H Q => ∃ (C : Addr) (np : Nat), L.cls i.1.1.1 = some C ∧ (∀ ms h, P.cf i.1.1.2 ms h ≠ .bad → ms.length = np) ∧ tMethS C (Str.ofString m) (fun vs H Q E => spOf L (P.cf i.1.1.2) np (vs ++ i.1.2) H Q E) (WE W) (tM L P W x) (tMs L P W xs) σ H Q) := by
    intro i
    obtain ⟨⟨⟨c, f⟩, dvs⟩, hi⟩ := i
    obtain ⟨C, a, fd, ps, ds, e1, e2, e3, ev, _, e4, e5, e6⟩ := hi
    rw [← S.hK] at e2 e3 e4 e5
    have np_eq : ∀ np, (∀ ms h, P.cf f ms h ≠ .bad → ms.length = np) → ∀ vs H Q E, spOf L (P.cf f) np vs H Q E → spOf L (P.cf f) ps.length vs H Q E := fun np hn vs H Q E ⟨q1, φ, h, ms, q2, q3, q4⟩ => by
      have hb : P.cf f ms h ≠ .bad := fun z => by rw [z] at q4; exact q4
      refine ⟨?_, φ, h, ms, q2, q3, q4⟩
      rw [q1, ← hn _ _ hb, e6 _ _ hb]
    cases es with
    | nil =>
      have := el rfl
      subst this
      refine PE.weak (pe_methSD0 (E := WE W) ho e2 e3 e5 S.rm e4 ev (fun σ => passB S.tk σ) ht) ?_
      rintro σ H Q ⟨C', np, z1, z2, φ, h, ρ, R, En, q⟩
      simp only at z1
      rw [e1] at z1; cases z1
      refine ⟨φ, h, ρ, R, En, q.imp ?_⟩
      rintro y H1 ⟨a, dx, fs, w1, w2, w3, w4⟩
      refine ⟨a, dx, fs, w1, w2, w3, ?_⟩
      obtain ⟨φ1, h1, ρ1, R1, En1, w4⟩ := w4
      simp only [evEs] at w4
      exact np_eq np z2 _ _ _ _ (w4 [] H1 φ1 Ext.refl R1 .nil)
    | cons e es =>
      simp only [List.all_cons, Bool.and_eq_true] at oks
      refine PE.weak (pe_methSD (E := WE W) ho e2 e3 e5 S.rm e4 ev (fun σ => passB S.tk σ) ha (okE_star oks.1 _ _) (okEs_any oks.2 _ _) ht) ?_
      rintro σ H Q ⟨C', np, z1, z2, φ, h, ρ, R, En, q⟩
      simp only at z1
      rw [e1] at z1; cases z1
      refine ⟨φ, h, ρ, R, En, q.imp ?_⟩
      rintro y H1 ⟨a, dx, fs, w1, w2, w3, w4⟩
      refine ⟨a, dx, fs, w1, w2, w3, ?_⟩
      obtain ⟨φ1, h1, ρ1, R1, En1, w4⟩ := w4
      exact ⟨φ1, h1, ρ1, R1, En1, w4.imp fun vs H2 w5 => np_eq np z2 _ _ _ _ w5⟩
  refine PE.weak (PE.exi rule) fun σ H Q ⟨φ, h, ρ, R, En, p⟩ => ?_
  have go : ∀ c f, P.mro c m = some f → (∀ v h1, evE P x ρ h = .ok v h1 → ∃ i fs, v = .ref i ∧ h1[i]? = some (.ins c fs) ∧ fs.lookup m = none ∧ P.mro c m = some f) → ∃ i : { i : (String × String) × List V // ∃ C a fd ps ds, L.cls i.1.1 = some C ∧ Cls L.K C ∧ Meth L.K C (Str.ofString m) a ∧ Vals i.2 ds ∧ (∀ φ H, VRs L φ H cs i.2) ∧ Binds L.K fd ps ds ∧ FnOk X.prog X.w L.K X.mg X.base (CXb tb.nc X.prog X.w) k a fd ps (spOf L (P.cf i.1.2) ps.length) ∧ ∀ ms h, P.cf i.1.2 ms h ≠ .bad → ms.length = ps.length },
      ∃ (C : Addr) (np : Nat), L.cls i.1.1.1 = some C ∧ (∀ ms h, P.cf i.1.1.2 ms h ≠ .bad → ms.length = np) ∧ tMethS C (Str.ofString m) (fun vs H Q E => spOf L (P.cf i.1.1.2) np (vs ++ i.1.2) H Q E) (WE W) (tM L P W x) (tMs L P W xs) σ H Q := fun c f hi hv => by
    obtain ⟨C, a, fd, ps, ds, dvs, e1, e2, e3, ev, rd, e4, e5, e6⟩ := S.pr.dfl m xs.length cs hcs c f hi
    exact ⟨⟨((c, f), dvs), C, a, fd, ps, ds, e1, e2, e3, ev, rd, e4, e5, e6⟩, C, ps.length, e1, e6, own_wD e1 e6 rd R En hv p⟩
  cases e : evE P x ρ h with
  | bad => simp only [evE, e] at p; exact False.elim p
  | err c fs h1 => exact go c0 f0 h0 fun v h1 z => by rw [e] at z; cases z
  | ok v h1 =>
    have p' := p
    simp only [evE, e, bind_ok] at p'
    cases eo : ownFn P m v h1 with
    | none => rw [eo] at p'; exact False.elim p'
    | some f =>
      cases v <;> first | (simp [ownFn] at eo; done) | skip
      rename_i i
      simp only [ownFn] at eo
      split at eo
      · rename_i c fs hi
        by_cases hn : (fs.lookup m).isNone = true
        · rw [if_pos hn] at eo
          exact go c f eo fun v2 h2 z => by
            rw [e] at z; cases z
            exact ⟨i, fs, rfl, hi, by simpa using hn, eo⟩
        · rw [if_neg hn] at eo; cases eo
      · cases eo
theorem pe_ownMX (S : Sx tb L P k X blk N sc W) {m : String} {o : Expr} {es : List Expr} {x : E} {xs : List E} {ap cp : Pos} (hm : tb.own.contains m = true) (ok : okB o = true) (hline : (ap.endLine == cp.line) = true) (hl : es.length < 20) (oks : es.all okE = true) (el : es = [] → xs = [])
    (ho : PE X o (tM L P W x)) (ha : PA X es (tMs L P W xs)) : PE X (.Call (.Attribute o (Str.ofString m) ap) es [] cp) (tM L P W (.own m x (xs ++ dflE tb m xs.length))) := by
  unfold dflE
  cases e : tb.dfl.lookup (m, xs.length) with
  | none =>
    rw [Option.getD_none, List.map_nil, List.append_nil]
    exact pe_ownM S hm ok hline hl oks el ho ha
  | some cs => exact pe_ownMD S hm e ok hline hl oks el ho ha
theorem pe_newM (S : Sx tb L P k X blk N sc W) {c : String} {es : List Expr} {xs : List E} {p pos : Pos} (hg : Mn.gl sc (Str.ofString c) = true) (hm : tb.mks.contains c = true) (hc : spC (Str.ofString c) = true) (oks : es.all okE = true) (el : es = [] → xs = [])
    (ha : PA X es (tMs L P W xs)) : PE X (.Call (.Name (Str.ofString c) p) es [] pos) (tM L P W (.new c xs)) := by
  obtain ⟨C, a, f, e1, e2, M, e3⟩ := S.pr.mks c hm
  obtain ⟨C', a', fd, ps, g1, g2, g3, g4, g5, g6⟩ := S.pr.mro c "__init__" f e3
  rw [e1] at g1; cases g1
  have ea : a' = a := by
    have z1 := g3.at_
    have z2 := M.init
    have z1 : PySem.W.findIn L.K (.ref C) (Str.ofString "__init__") = some (some (.ref a')) := z1
    rw [show (Str.ofString "__init__") = ("__init__" : Str) from rfl, z2] at z1
    cases z1; rfl
  subst ea
  unfold spC at hc
  simp only [Bool.and_eq_true, Bool.not_eq_true'] at hc
  rw [← S.hK] at M g4 g5
  have fin : ∀ σ H Q, tM L P W (.new c xs) σ H Q → tMakeS C (spOf L (P.cf f) ps.length) (WE W) (tMs L P W xs) σ H Q := fun σ H Q ⟨φ, h, ρ, R, En, p⟩ => by
    simp only [evE] at p
    refine ⟨φ, h, ρ, R, En, (Post.bind (rel0 := vRs L) p).imp fun ys H1 ⟨φ1, h1, vs, E1, R1, r1, p1⟩ => ?_⟩
    simp only [newObj, e3] at p1
    intro x dx hx hdx ne
    have hb : P.cf f (.ref h1.length :: vs) (h1 ++ [.ins c []]) ≠ .bad := fun z => by rw [z] at p1; exact p1
    have E2 : Ext L φ1 H1 φ1 (upd H1 dx (.own x)) := Ext.side hdx
    have R2 := R1.side (o := .own x) hdx
    have hx2 : (upd H1 dx (.own x)) x = none := by rw [upd_ne (Ne.symm ne)]; exact hx
    have E3 : Ext L φ1 (upd H1 dx (.own x)) (φ1 ++ [(true, x)]) (upd (upd H1 dx (.own x)) x (.ins C dx [])) := Ext.alloc hx2
    have R3 := R2.alloc (o := .ins C dx []) (ob := .ins c []) hx2 (fun _ z => by cases z) (.ins e1 upd_same .nil)
    have hl2 := g6 _ _ hb
    refine ⟨?_, _, _, .ref h1.length :: vs, R3, .cons (.ref ⟨true, by rw [← R1.len]; simp⟩) (r1.mono (E2.trans E3)), ?_⟩
    · rw [← hl2, List.length_cons, List.length_cons, r1.length]
    · have p2 := Post.step (E2.trans E3) p1
      cases e : P.cf f (.ref h1.length :: vs) (h1 ++ [.ins c []]) with
      | bad => exact absurd e hb
      | err cc fs h2 => rw [e] at p2; exact p2
      | ok v h2 =>
        rw [e, bind_ok] at p2
        intro y H2 φ2 E4 R4 r4
        have p3 := Post.step E4 p2
        cases v <;> first | exact False.elim p3 | skip
        refine ⟨r4.nonI, p3 (.ref x) H2 φ2 Ext.refl R4 (.ref ⟨true, ?_⟩)⟩
        exact E4.pre _ _ (by rw [← R1.len]; simp)
  cases es with
  | nil =>
    have := el rfl
    subst this
    refine PE.weak (pe_makeS0 (E := WE W) M g5 S.room (S.gl hg) e2 g4 (fun σ => passB S.tk σ) hc.1.1) fun σ H Q q => ?_
    obtain ⟨φ, h, ρ, R, En, q⟩ := fin σ H Q q
    simp only [evEs] at q
    exact q [] H φ Ext.refl R .nil
  | cons e es =>
    simp only [List.all_cons, Bool.and_eq_true] at oks
    exact PE.weak (pe_makeS (E := WE W) M g5 S.room (S.gl hg) e2 g4 (fun σ => passB S.tk σ) ha hc.1.1 (okE_star oks.1 _ _) (okEs_any oks.2 _ _)) fin
/-- C.m(..), C a class, m a def of it -/
theorem pe_clsM (S : Sx tb L P k X blk N sc W) {c m f : String} {es : List Expr} {xs : List E} {np ap cp : Pos} (hg : Mn.gl sc (Str.ofString c) = true) (hc : spC (Str.ofString c) = true) (hm : tb.cm.lookup (c, m) = some f) (hline : (ap.endLine == cp.line) = true) (hl : es.length < 20) (oks : es.all okE = true) (el : es = [] → xs = [])
    (ha : PA X es (tMs L P W xs)) : PE X (.Call (.Attribute (.Name (Str.ofString c) np) (Str.ofString m) ap) es [] cp) (tM L P W (.call f xs)) := by
  obtain ⟨C, mc, a, fd, ps, e1, e2, e3, e4, e5, e6, e7⟩ := S.pr.cm c m f hm
  have ht := okB_meth (o := .Name (Str.ofString c) np) rfl (Str.ofString m) hline hl oks X.env
  unfold spC at hc
  simp only [Bool.and_eq_true, Bool.not_eq_true'] at hc
  rw [← S.hK] at e2 e3 e4 e5 e6
  have hN : PE X (.Name (Str.ofString c) np) (tC (.ref C)) := pe_glob (S.gl hg) e1 rfl hc.1.1
  have get : ∀ {pins : List (Addr × Obj)} {σ : L2.St} {H : Hp} {s : Shared} {Q : Value × List Value → Shared → Prop}, Inv X pins σ H s → (∀ s', Inv X pins σ H s' → Q (.ref a, []) s') → wpAny (model X.prog X.w) X.A (getMethod (.ref C) (Str.ofString m) (plainOfM (.Name (Str.ofString c) np) X.env)) Q X.xe s := fun I h =>
    PySem.W.method_cls I.kIn e2.ga (ClX.getcval_ok I e2 (v := .ref a) ⟨e3, rfl⟩ h)
  cases es with
  | nil =>
    have := el rfl
    subst this
    refine ⟨fun pins s σ H Q I q => ?_⟩
    obtain ⟨φ, h, ρ, R, En, q⟩ := sp_of e7 q
    simp only [evEs] at q
    have q := q [] H φ Ext.refl R .nil
    refine PySem.W.methodCall_KW (pl := plainOfM (.Name (Str.ofString c) np) X.env) (thn (hN.run pins s σ H (fun v H1 => v = .ref C ∧ H1 = H) I ⟨rfl, rfl⟩) fun u s1 ⟨x, H1, I1, rx, ex, eH⟩ => ?_) ht
    subst ex eH
    obtain rfl : u = Value.ref C := rx
    exact get I1 fun s2 I2 => PySem.W.callWith_K0 (first := []) I2.kIn e4 (run_fnS (E := WE W) (us := []) (vs := []) e6 S.rm e5 (passB S.tk σ) I2 .nil q)
  | cons e es =>
    simp only [List.all_cons, Bool.and_eq_true] at oks
    refine ⟨fun pins s σ H Q I q => ?_⟩
    have q := sp_of e7 q
    refine PySem.W.methodCall_KW (pl := plainOfM (.Name (Str.ofString c) np) X.env) (thn (hN.run pins s σ H (fun v H1 => v = .ref C ∧ H1 = H) I ⟨rfl, rfl⟩) fun u s1 ⟨x, H1, I1, rx, ex, eH⟩ => ?_) ht
    subst ex eH
    obtain rfl : u = Value.ref C := rx
    exact get I1 fun s2 I2 => PySem.W.callWith_K (first := []) (h₀ := X.base) I2.ok.mod.kin e4 (thn (ha.run cp pins s2 σ _ _ I2 q) fun us s3 ⟨vs, H2, I3, r, q2⟩ => ⟨I3.kIn, run_fnS (E := WE W) e6 S.rm e5 (passB S.tk σ) I3 r q2⟩) (okE_star oks.1 _ _) (okEs_any oks.2 _ _)
end
end Mn
/-! Mini: the translator is right: expressions -/
namespace Mn
open PySem PySem.Spec PyProof.Rows L2
section
variable {tb : Tb} {L : Lk} {P : Pg} {k : Nat}
noncomputable def GoodE (tb : Tb) (L : Lk) (P : Pg) (k : Nat) (n : Nat) : Prop := ∀ blk N sc X W e m, Sx tb L P k X blk N sc W → trE tb n blk N sc e = some m → okE e = true ∧ PE X e (tM L P W m) ∧ PT X e (tMT L P W m)
noncomputable def GoodEs (tb : Tb) (L : Lk) (P : Pg) (k : Nat) (n : Nat) : Prop := ∀ blk N sc X W es ms, Sx tb L P k X blk N sc W → trEs tb n blk N sc es = some ms → es.all okE = true ∧ PA X es (tMs L P W ms) ∧ ms.length = es.length
noncomputable def GoodO (tb : Tb) (L : Lk) (P : Pg) (k : Nat) (n : Nat) : Prop := ∀ blk N sc X W e m, Sx tb L P k X blk N sc W → trO tb n blk N sc e = some m → PO X e (tMO L P W m)
noncomputable def GoodB (tb : Tb) (L : Lk) (P : Pg) (k : Nat) (n : Nat) : Prop := ∀ blk N sc X W op a r m pos, Sx tb L P k X blk N sc W → trBool tb n blk N sc op a r = some m → PE X (.BoolOp op (a :: r) pos) (tM L P W m) ∧ PW X (.BoolOp op (a :: r) pos) (tMT L P W m)
noncomputable def GoodI (tb : Tb) (L : Lk) (P : Pg) (k : Nat) (n : Nat) : Prop := ∀ blk N sc X W tg e kk es, Sx tb L P k X blk N sc W → trI tb n blk N sc tg e = some (kk, es) → okE e = true ∧ PI X tg e (wI L P W kk es)
variable {blk : Bool} {N : List Str} {sc : Scope} {X : Cx} {W : WX} {n : Nat}
theorem el_of {es : List Expr} {xs : List E} (h : xs.length = es.length) : es = [] → xs = [] := fun e => by subst e; simpa using h
theorem pt_of {e : Expr} {m : E} (h : PE X e (tM L P W m)) (he : ∀ whole, isTrue e X.env whole = (do let v ← whole; standAt e.pos; holding [v] (truthy v))) : PT X e (tMT L P W m) := PT.weak (pt_val h he) fun _ _ _ q => q
theorem plainE {e : Expr} {m : E} (ok : okE e = true) (q : PE X e (tM L P W m)) (he : ∀ whole, isTrue e X.env whole = (do let v ← whole; standAt e.pos; holding [v] (truthy v))) : okE e = true ∧ PE X e (tM L P W m) ∧ PT X e (tMT L P W m) := ⟨ok, q, pt_of q he⟩
theorem good_es (h1 : GoodE tb L P k n) (h2 : GoodEs tb L P k n) : GoodEs tb L P k (n + 1) := by
  intro blk N sc X W es ms S h
  simp only [trEs] at h
  cases es with
  | nil => cases h; exact ⟨rfl, pa_nilM, rfl⟩
  | cons e r =>
    simp only at h
    split at h
    · rename_i x xs e1 e2
      cases h
      obtain ⟨a1, a2, _⟩ := h1 _ _ _ _ _ _ _ S e1
      obtain ⟨b1, b2, b3⟩ := h2 _ _ _ _ _ _ _ S e2
      exact ⟨by simp [a1, b1], pa_consM a1 a2 b2, by simp [b3]⟩
    · cases h
theorem good_o (h1 : GoodE tb L P k n) : GoodO tb L P k (n + 1) := by
  intro blk N sc X W o m S h
  simp only [trO] at h
  cases o with
  | none => cases h; exact po_noneM
  | some e =>
    simp only at h
    obtain ⟨x, e1, rfl⟩ := Option.map_eq_some_iff.mp h
    exact po_someM (h1 _ _ _ _ _ _ _ S e1).2.1
theorem good_b (h1 : GoodE tb L P k n) (h2 : GoodB tb L P k n) : GoodB tb L P k (n + 1) := by
  intro blk N sc X W op a r m pos S h
  simp only [trBool] at h
  cases r with
  | nil =>
    simp only at h
    obtain ⟨_, b, c⟩ := h1 _ _ _ _ _ _ _ S h
    refine ⟨pe_one b, ?_⟩
    cases op with
    | And => exact pw_and1 c
    | Or => exact pw_or1 c
  | cons b r' =>
    simp only at h
    split at h
    · rename_i x y e1 e2
      obtain ⟨_, a2, a3⟩ := h1 _ _ _ _ _ _ _ S e1
      obtain ⟨b1, b2⟩ := h2 _ _ _ _ _ _ _ _ _ pos S e2
      cases op with
      | And => cases h; exact ⟨pe_andM a2 b1, pw_andM a3 b2⟩
      | Or => cases h; exact ⟨pe_orM a2 b1, pw_orM a3 b2⟩
    · cases h
theorem itName_ok {x : Str} {args : List Expr} {tg : Expr} {kk : ItK} (h : itName x args tg = some kk) :
    (toS x = "range" ∧ kk = .rng ∧ (args.length = 1 ∨ args.length = 2 ∨ args.length = 3)) ∨ (toS x = "enumerate" ∧ kk = .enm ∧ (∃ a, args = [a]) ∧ isTup tg = true) ∨ (toS x = "zip" ∧ (kk = .zip ∨ kk = .zpx) ∧ (∃ a b, args = [a, b]) ∧ isTup tg = true) ∨ (toS x = "reversed" ∧ kk = .rev ∧ ∃ a, args = [a]) := by
  unfold itName at h
  split at h
  · rename_i e
    split at h
    · rename_i c
      cases h; exact .inl ⟨e, rfl, c⟩
    · cases h
  · rename_i a e
    by_cases c : isTup tg = true
    · rw [if_pos c] at h; cases h; exact .inr (.inl ⟨e, rfl, ⟨a, rfl⟩, c⟩)
    · rw [if_neg c] at h; cases h
  · rename_i a b e
    by_cases c : isTup tg = true
    · rw [if_pos c] at h
      refine .inr (.inr (.inl ⟨e, ?_, ⟨a, b, rfl⟩, c⟩))
      split at h <;> cases h
      · exact .inr rfl
      · exact .inl rfl
    · rw [if_neg c] at h; cases h
  · rename_i a e
    cases h; exact .inr (.inr (.inr ⟨e, rfl, a, rfl⟩))
  · cases h
theorem good_i (h1 : GoodE tb L P k n) (h2 : GoodEs tb L P k n) : GoodI tb L P k (n + 1) := by
  intro blk N sc X W tg e kk es S h
  have plain : ∀ {e}, (trE tb n blk N sc e).map (fun x => (ItK.val, [x])) = some (kk, es) → okE e = true ∧ PI X tg e (wI L P W kk es) := fun {e} h => by
    obtain ⟨x, e1, e2⟩ := Option.map_eq_some_iff.mp h
    cases e2
    obtain ⟨a, b, _⟩ := h1 _ _ _ _ _ _ _ S e1
    exact ⟨a, pi_valM S b⟩
  simp only [trI] at h
  split at h
  · rename_i f p args cp
    by_cases g : gl sc f = true
    · rw [if_pos g] at h
      split at h
      · rename_i k2 hk
        split at h
        · cases h
        · rename_i s hs
          obtain ⟨xs, e1, e2⟩ := Option.map_eq_some_iff.mp h
          cases e2
          obtain ⟨a1, a2, a3⟩ := h2 _ _ _ _ _ _ _ S e1
          have hf : f = Str.ofString (toS f) := by
            unfold nmS at hs
            by_cases c : Str.ofString (toS f) = f
            · exact c.symm
            · rw [if_neg c] at hs; cases hs
          refine ⟨rfl, ?_⟩
          rcases itName_ok hk with ⟨e, rfl, c⟩ | ⟨e, rfl, ⟨a, rfl⟩, c⟩ | ⟨e, rfl | rfl, ⟨a, b, rfl⟩, c⟩ | ⟨e, rfl, a, rfl⟩
          · rw [e] at hf; subst hf
            exact pi_rngM S g c a3 a1 a2
          · rw [e] at hf; subst hf
            cases tg <;> first | (cases c; done) | skip
            simp only [List.all_cons, List.all_nil, Bool.and_true] at a1
            exact pi_enumM S g a3 a1 a2
          · rw [e] at hf; subst hf
            cases tg <;> first | (cases c; done) | skip
            simp only [List.all_cons, List.all_nil, Bool.and_true, Bool.and_eq_true] at a1
            exact pi_zipM S g a3 a1.1 a1.2 a2
          · rw [e] at hf; subst hf
            cases tg <;> first | (cases c; done) | skip
            simp only [List.all_cons, List.all_nil, Bool.and_true, Bool.and_eq_true] at a1
            exact pi_zpxM S g a3 a1.1 a1.2 a2
          · rw [e] at hf; subst hf
            simp only [List.all_cons, List.all_nil, Bool.and_true] at a1
            exact pi_revM S g a3 a1 a2
      · exact plain h
    · rw [if_neg g] at h; cases h
  · rename_i o mm ap cp
    by_cases c : (okB o && (ap.endLine == cp.line) && isTup tg && decide (mm = Str.ofString "items")) = true
    · rw [if_pos c] at h
      obtain ⟨x, e1, e2⟩ := Option.map_eq_some_iff.mp h
      cases e2
      simp only [Bool.and_eq_true] at c
      have em := of_decide_eq_true c.2
      subst em
      have ct := c.1.2
      cases tg <;> first | (cases ct; done) | skip
      exact ⟨rfl, pi_itemsM c.1.1.1 c.1.1.2 (h1 _ _ _ _ _ _ _ S e1).2.1⟩
    · rw [if_neg c] at h
      exact plain h
  · exact plain h
/-! the expressions -/
theorem mtOf_ok {s : String} {j : Nat} {m : Mt} (h : mtOf s j = some m) : (s = "append" ∧ m = .append) ∨ (s = "extend" ∧ m = .extend) ∨ (s = "pop" ∧ (m = .pop ∨ m = .popAt)) ∨ (s = "clear" ∧ m = .clear) ∨ (s = "bit_length" ∧ m = .bitlen ∧ j = 0) ∨ (s = "index" ∧ m = .index) ∨ (s = "insert" ∧ m = .insert) ∨ (s = "join" ∧ m = .join) ∨ (s = "split" ∧ m = .split) ∨ (s = "partition" ∧ m = .partition) ∨ (s = "find" ∧ m = .find) ∨ (s = "upper" ∧ m = .upper) ∨ (s = "get" ∧ m = .get ∧ j = 1) ∨ (s = "get" ∧ m = .get2 ∧ j = 2) := by
  unfold mtOf at h
  split at h <;> cases h <;> simp
theorem pe_mthM (S : Sx tb L P k X blk N sc W) {s : String} {m : Mt} {o : Expr} {es : List Expr} {x : E} {xs : List E} {ap cp : Pos} (hm : mtOf s es.length = some m) (ok : okB o = true) (hline : (ap.endLine == cp.line) = true) (hl : es.length < 20) (oks : es.all okE = true) (el : es = [] → xs = [])
    (ho : PE X o (tM L P W x)) (ha : PA X es (tMs L P W xs)) : PE X (.Call (.Attribute o (Str.ofString s) ap) es [] cp) (tM L P W (.mth m x xs)) := by
  rcases mtOf_ok hm with ⟨rfl, rfl⟩ | ⟨rfl, rfl⟩ | ⟨rfl, rfl | rfl⟩ | ⟨rfl, rfl⟩ | ⟨rfl, rfl, hz⟩ | ⟨rfl, rfl⟩ | ⟨rfl, rfl⟩ | ⟨rfl, rfl⟩ | ⟨rfl, rfl⟩ | ⟨rfl, rfl⟩ | ⟨rfl, rfl⟩ | ⟨rfl, rfl⟩ | ⟨rfl, rfl, hz⟩ | ⟨rfl, rfl, hz⟩
  · exact pe_lmM S (.inl rfl) PySem.F.slot_list_append PySem.F.type_list_append mt_appendX ok hline hl oks el ho ha
  · exact pe_lmM S (.inr (.inl rfl)) PySem.F.slot_list_extend PySem.F.type_list_extend mt_extendX ok hline hl oks el ho ha
  · exact pe_lmM S (.inr (.inr (.inl rfl))) PySem.F.slot_list_pop PySem.F.type_list_pop mt_popX ok hline hl oks el ho ha
  · exact pe_lmM S (.inr (.inr (.inr (.inl rfl)))) PySem.F.slot_list_pop PySem.F.type_list_pop mt_popAtX ok hline hl oks el ho ha
  · exact pe_lmM S (.inr (.inr (.inr (.inr (.inl rfl))))) PySem.F.slot_list_clear PySem.F.type_list_clear mt_clearX ok hline hl oks el ho ha
  · obtain rfl : es = [] := List.eq_nil_of_length_eq_zero hz
    obtain rfl := el rfl
    exact pe_bitM S ok hline ho
  · exact pe_lmM S (.inr (.inr (.inr (.inr (.inr (.inl rfl)))))) PySem.F.slot_list_index PySem.F.type_list_index (mt_indexX S.hK S.units65) ok hline hl oks el ho ha
  · exact pe_lmM S (.inr (.inr (.inr (.inr (.inr (.inr rfl)))))) PySem.F.slot_list_insert PySem.F.type_list_insert mt_insertX ok hline hl oks el ho ha
  · exact pe_smM S (.inl rfl) PySem.F.slot_str_join PySem.F.type_str_join (mt_joinX S.hK) ok hline hl oks el ho ha
  · exact pe_smM S (.inr (.inl rfl)) PySem.F.slot_str_split PySem.F.type_str_split mt_splitX ok hline hl oks el ho ha
  · exact pe_smM S (.inr (.inr (.inl rfl))) PySem.F.slot_str_partition PySem.F.type_str_partition mt_partitionX ok hline hl oks el ho ha
  · exact pe_smM S (.inr (.inr (.inr (.inl rfl)))) PySem.F.slot_str_find PySem.F.type_str_find mt_findX ok hline hl oks el ho ha
  · exact pe_smM S (.inr (.inr (.inr (.inr rfl)))) PySem.F.slot_str_upper PySem.F.type_str_upper mt_upperX ok hline hl oks el ho ha
  · match es, hz with
    | [e], _ =>
      have oke : okE e = true := by simpa using oks
      exact pe_dgX S ok hline oke ho ha
  · match es, hz with
    | [e, f], _ =>
      have okk : okE e = true ∧ okE f = true := by simpa using oks
      exact pe_dg2X S ok hline okk.1 okk.2 ho ha
theorem good_e (h1 : GoodE tb L P k n) (h2 : GoodEs tb L P k n) (h3 : GoodO tb L P k n) (h4 : GoodB tb L P k n) (h5 : GoodI tb L P k n) : GoodE tb L P k (n + 1) := by
  intro blk N sc X W e m S h
  simp only [trE] at h
  split at h
  · -- a name
    rename_i x pos
    by_cases c : spC x = true
    · rw [if_pos c] at h
      have nm : ∀ (q : PE X (.Name x pos) (tM L P W m)), okE (.Name x pos) = true ∧ PE X (.Name x pos) (tM L P W m) ∧ PT X (.Name x pos) (tMT L P W m) := fun q => ⟨rfl, q, pt_of q fun _ => rfl⟩
      split at h
      · rename_i hv
        obtain ⟨i, e1, rfl⟩ := Option.map_eq_some_iff.mp h
        exact nm (pe_varM S.toSy e1 (.inl hv) c)
      · rename_i hv
        obtain ⟨i, e1, rfl⟩ := Option.map_eq_some_iff.mp h
        exact nm (pe_varM S.toSy e1 (.inr (.inl hv)) c)
      · rename_i hv
        obtain ⟨i, e1, rfl⟩ := Option.map_eq_some_iff.mp h
        exact nm (pe_varM S.toSy e1 (.inr (.inr hv)) c)
      · rename_i hv
        split at h
        · rename_i s hs
          by_cases c2 : tb.glb.contains s = true
          · rw [if_pos c2] at h; cases h
            have e := nmS_ok hs
            subst e
            exact nm (pe_glbM S (decide_eq_true hv) c2 c)
          · rw [if_neg c2] at h; cases h
        · cases h
      · cases h
    · rw [if_neg c] at h; cases h
  · obtain ⟨v, e1, rfl⟩ := Option.map_eq_some_iff.mp h
    exact ⟨rfl, pe_con e1, pt_of (pe_con e1) fun _ => rfl⟩
  · split at h
    · rename_i x y e1 e2
      cases h
      exact plainE rfl (pe_binM S (h1 _ _ _ _ _ _ _ S e1).2.1 (h1 _ _ _ _ _ _ _ S e2).2.1) fun _ => rfl
    · cases h
  · obtain ⟨x, e1, rfl⟩ := Option.map_eq_some_iff.mp h
    obtain ⟨_, a, b⟩ := h1 _ _ _ _ _ _ _ S e1
    exact ⟨rfl, pe_notM a, pt_notM b⟩
  · obtain ⟨x, e1, rfl⟩ := Option.map_eq_some_iff.mp h
    obtain ⟨_, a, b⟩ := h1 _ _ _ _ _ _ _ S e1
    exact ⟨rfl, pe_negM a, pt_of (pe_negM a) fun _ => rfl⟩
  · obtain ⟨a, b⟩ := h4 _ _ _ _ _ _ _ _ _ _ S h
    exact ⟨rfl, a, b.pt⟩
  · -- a comparison
    split at h
    · rename_i x y e1 e2
      obtain ⟨_, a2, _⟩ := h1 _ _ _ _ _ _ _ S e1
      obtain ⟨b1, b2, _⟩ := h1 _ _ _ _ _ _ _ S e2
      split at h
      · cases h; exact ⟨rfl, pe_isNM a2, pt_isNM a2⟩
      · cases h; exact ⟨rfl, pe_notNM a2, pt_notNM a2⟩
      · cases h; exact ⟨rfl, pe_isBM a2, pt_isBM a2⟩
      · cases h; exact ⟨rfl, pe_notBM a2, pt_notBM a2⟩
      · cases h
      · cases h
      · cases h
        obtain ⟨c1, c2⟩ := pe_cmpAll S b1 a2 b2
        exact ⟨rfl, c1, c2⟩
    · cases h
  · split at h
    · rename_i x y z e1 e2 e3
      obtain ⟨_, a2, _⟩ := h1 _ _ _ _ _ _ _ S e1
      obtain ⟨b1, b2, _⟩ := h1 _ _ _ _ _ _ _ S e2
      obtain ⟨c1, c2, _⟩ := h1 _ _ _ _ _ _ _ S e3
      split at h
      · cases h
        obtain ⟨d1, d2⟩ := pe_chnM (o1 := .LtE) (o2 := .LtE) S ⟨by decide, by decide⟩ ⟨by decide, by decide⟩ b1 c1 a2 b2 c2
        exact ⟨rfl, d1, d2⟩
      · cases h
    · cases h
  · obtain ⟨x, e1, rfl⟩ := Option.map_eq_some_iff.mp h
    exact plainE rfl (pe_lstM (h2 _ _ _ _ _ _ _ S e1).2.1) fun _ => rfl
  · obtain ⟨x, e1, rfl⟩ := Option.map_eq_some_iff.mp h
    exact plainE rfl (pe_tupM (h2 _ _ _ _ _ _ _ S e1).2.1) fun _ => rfl
  · split at h
    · rename_i x l u e1 e2 e3
      cases h
      exact plainE rfl (pe_slcM S (h1 _ _ _ _ _ _ _ S e1).2.1 (h3 _ _ _ _ _ _ _ S e2) (h3 _ _ _ _ _ _ _ S e3)) fun _ => rfl
    · cases h
  · split at h
    · rename_i x y e1 e2
      cases h
      obtain ⟨b1, b2, _⟩ := h1 _ _ _ _ _ _ _ S e2
      exact plainE rfl (pe_idxM S b1 (h1 _ _ _ _ _ _ _ S e1).2.1 b2) fun _ => rfl
    · cases h
  · -- a call of a name
    rename_i f p args cp
    by_cases c : (gl sc f && spC f) = true
    · rw [if_pos c] at h
      simp only [Bool.and_eq_true] at c
      have nm : ∀ (q : PE X (.Call (.Name f p) args [] cp) (tM L P W m)), okE (.Call (.Name f p) args [] cp) = true ∧ PE X (.Call (.Name f p) args [] cp) (tM L P W m) ∧ PT X (.Call (.Name f p) args [] cp) (tMT L P W m) := fun q => ⟨rfl, q, pt_of q fun _ => rfl⟩
      split at h
      · cases h
      · rename_i s hs
        have e := nmS_ok hs
        subst e
        by_cases c1 : tb.fns.contains s = true
        · rw [if_pos c1] at h
          obtain ⟨xs, e1, rfl⟩ := Option.map_eq_some_iff.mp h
          obtain ⟨a1, a2, a3⟩ := h2 _ _ _ _ _ _ _ S e1
          exact nm (pe_callM S c.1 c1 c.2 a1 (el_of a3) a2)
        · rw [if_neg c1] at h
          by_cases c0 : tb.mks.contains s = true
          · rw [if_pos c0] at h
            obtain ⟨xs, e1, rfl⟩ := Option.map_eq_some_iff.mp h
            obtain ⟨a1, a2, a3⟩ := h2 _ _ _ _ _ _ _ S e1
            exact nm (pe_newM S c.1 c0 c.2 a1 (el_of a3) a2)
          rw [if_neg c0] at h
          by_cases c2 : tb.cls.contains s = true
          · rw [if_pos c2] at h; cases h
          · rw [if_neg c2] at h
            by_cases c3 : s = "isinstance"
            · rw [if_pos c3] at h
              subst c3
              split at h
              · rename_i a t p2
                split at h
                · rename_i x ts e1 e2
                  have e := nmS_ok e2
                  subst e
                  by_cases c4 : (gl sc (Str.ofString ts) && spC (Str.ofString ts) && tb.isi.contains ts) = true
                  · rw [if_pos c4] at h; cases h
                    simp only [Bool.and_eq_true] at c4
                    obtain ⟨a1, a2, _⟩ := h1 _ _ _ _ _ _ _ S e1
                    exact nm (pe_isiM S.toSy c.1 c4.1.1 c4.1.2 c4.2 a1 a2)
                  · rw [if_neg c4] at h; cases h
                · cases h
              · cases h
            · rw [if_neg c3] at h
              split at h
              · rename_i kk as hl
                by_cases cs : s = "list"
                · subst cs
                  rw [if_pos rfl] at hl
                  rcases lofOf_ok hl with ⟨a, p, pos, rfl, rfl, g, rfl⟩ | ⟨a, p, pos, rfl, rfl, g, rfl⟩ | ⟨a, b, p, pos, rfl, rfl, g, rfl⟩ | ⟨a, b, p, pos, rfl, rfl, g, rfl⟩
                  · obtain ⟨x, e1, rfl⟩ := Option.map_eq_some_iff.mp h
                    obtain ⟨a1, a2, _⟩ := h1 _ _ _ _ _ _ _ S e1
                    exact nm (pe_lofRev S c.1 g a1 a2)
                  · obtain ⟨x, e1, rfl⟩ := Option.map_eq_some_iff.mp h
                    obtain ⟨a1, a2, _⟩ := h1 _ _ _ _ _ _ _ S e1
                    exact nm (pe_lofR1 S c.1 g a1 a2)
                  · simp only at h
                    split at h
                    · rename_i x y e1 e2
                      by_cases cb : okE b = true
                      · rw [if_pos cb] at h
                        cases h
                        obtain ⟨a1, a2, _⟩ := h1 _ _ _ _ _ _ _ S e1
                        obtain ⟨b1, b2, _⟩ := h1 _ _ _ _ _ _ _ S e2
                        exact nm (pe_lofR2 S c.1 g a1 b1 a2 b2)
                      · rw [if_neg cb] at h; cases h
                    · cases h
                  · simp only at h
                    split at h
                    · rename_i x y e1 e2
                      by_cases cb : okE b = true
                      · rw [if_pos cb] at h
                        cases h
                        obtain ⟨a1, a2, _⟩ := h1 _ _ _ _ _ _ _ S e1
                        obtain ⟨b1, b2, _⟩ := h1 _ _ _ _ _ _ _ S e2
                        exact nm (pe_lofZip S c.1 g a1 b1 (pa_consM a1 a2 (pa_consM b1 b2 pa_nilM)))
                      · rw [if_neg cb] at h; cases h
                    · cases h
                · rw [if_neg cs] at hl; cases hl
              rename_i hno
              split at h
              · rename_i b e r xs hb he hx
                cases h
                obtain ⟨a1, a2, a3⟩ := h2 _ _ _ _ _ _ _ S hx
                exact nm (pe_biM S c.1 he a1 a2)
              · cases h
    · rw [if_neg c] at h; cases h
  · -- a method
    rename_i o mm ap args cp
    by_cases c : (okB o && (ap.endLine == cp.line) && decide (args.length < 20)) = true
    · rw [if_pos c] at h
      simp only [Bool.and_eq_true, decide_eq_true_eq] at c
      split at h
      · -- by the class
        rename_i f hcm
        obtain ⟨xs, e1, rfl⟩ := Option.map_eq_some_iff.mp h
        obtain ⟨a1, a2, a3⟩ := h2 _ _ _ _ _ _ _ S e1
        unfold cmOf at hcm
        split at hcm
        · rename_i x np
          by_cases cg : (gl sc x && spC x) = true
          · rw [if_pos cg] at hcm
            simp only [Bool.and_eq_true] at cg
            split at hcm
            · rename_i cc s q1 q2
              have z1 := nmS_ok q1
              have z2 := nmS_ok q2
              subst z1 z2
              have q := pe_clsM S cg.1 cg.2 hcm c.1.2 c.2 a1 (el_of a3) a2 (np := np)
              exact ⟨rfl, q, pt_of q fun _ => rfl⟩
            · cases hcm
          · rw [if_neg cg] at hcm; cases hcm
        · cases hcm
      split at h
      · -- a place in a constant
        rename_i g hg
        split at h
        · rename_i a
          obtain ⟨x, e1, rfl⟩ := Option.map_eq_some_iff.mp h
          obtain ⟨a1, a2, _⟩ := h1 _ _ _ _ _ _ _ S e1
          unfold gixOf at hg
          split at hg
          · rename_i x0 np _
            by_cases cg : (decide (mm = Str.ofString "index") && gl sc x0 && spC x0) = true
            · rw [if_pos cg] at hg
              split at hg
              · rename_i s q1
                by_cases cb : tb.glb.contains s = true
                · rw [if_pos cb] at hg; cases hg
                  have z1 := nmS_ok q1
                  subst z1
                  simp only [Bool.and_eq_true, decide_eq_true_eq] at cg
                  obtain ⟨⟨z2, z3⟩, z4⟩ := cg
                  subst z2
                  have q := pe_gix S z3 z4 cb c.1.2 a1 a2 (p := np)
                  exact ⟨rfl, q, pt_of q fun _ => rfl⟩
                · rw [if_neg cb] at hg; cases hg
              · cases hg
            · rw [if_neg cg] at hg; cases hg
          · cases hg
        · cases h
      split at h
      · rename_i s x es e1 e2 e3
        have e := nmS_ok e1
        subst e
        obtain ⟨a1, a2, a3⟩ := h2 _ _ _ _ _ _ _ S e3
        by_cases co : tb.own.contains s = true
        · rw [if_pos co] at h; cases h
          have q := pe_ownMX S co c.1.1 c.1.2 c.2 a1 (el_of a3) (h1 _ _ _ _ _ _ _ S e2).2.1 a2
          exact ⟨rfl, q, pt_of q fun _ => rfl⟩
        rw [if_neg co] at h
        split at h
        · rename_i mt hm
          cases h
          have q := pe_mthM S hm c.1.1 c.1.2 c.2 a1 (el_of a3) (h1 _ _ _ _ _ _ _ S e2).2.1 a2
          exact ⟨rfl, q, pt_of q fun _ => rfl⟩
        · cases h
      · cases h
    · rw [if_neg c] at h; cases h
  · -- an attribute
    rename_i o f pos
    split at h
    · rename_i hok
      split at h
      · rename_i s x e1 e2
        cases h
        have e := nmS_ok e1
        subst e
        have q := pe_fldM (f := s) (pos := pos) S.toSy hok (h1 _ _ _ _ _ _ _ S e2).2.1
        exact ⟨rfl, q, pt_of q fun _ => rfl⟩
      · cases h
    · cases h
  · -- a comprehension
    rename_i elt tg iter ifs scope pos
    by_cases c : blkC N sc scope (ownOf N scope) = true
    · rw [if_pos c] at h
      split at h
      · rename_i kk es t x e1 e2 e3
        by_cases c2 : tgIn ((ownOf N scope).map (·.2)) t = true
        · rw [if_pos c2] at h
          obtain ⟨i1, i2⟩ := h5 _ _ _ _ _ _ _ _ _ S e1
          have ok : BlkOk X.N X.env.scope scope (ownOf N scope) := by rw [S.hN, S.hsc]; exact blkOk_by c
          have fin : ∀ (cond : Option E) (hm : m = .cmp1 ((ownOf N scope).map (·.2)) x t kk es cond) (ht : ∀ (s : Shared) (H : Hp) (C : Addr) (cl : List (Str × Addr)) (fp : List Addr), PTs (X.blk s H scope (compEnvC scope cl C X.env) fp) ifs (tCnd L P cond)),
              okE (.ListComp elt [⟨tg, iter, ifs, 0⟩] scope pos) = true ∧ PE X (.ListComp elt [⟨tg, iter, ifs, 0⟩] scope pos) (tM L P W m) ∧ PT X (.ListComp elt [⟨tg, iter, ifs, 0⟩] scope pos) (tMT L P W m) := fun cond hm ht => by
            subst hm
            have q : PE X (.ListComp elt [⟨tg, iter, ifs, 0⟩] scope pos) (tM L P W (.cmp1 ((ownOf N scope).map (·.2)) x t kk es cond)) :=
              PE.weak (pe_lc S.calm (by rw [S.hN]; exact S.nd) i2 ok (fun s H C cl fp => pg_M (S.block s H scope C cl fp) e2) ht (fun s H C cl fp => (h1 _ _ _ _ _ _ _ (S.block s H scope C cl fp) e3).2.1) (okE_folded i1 _)) fun _ _ _ q => compL_w S.hK c2 q
            exact ⟨rfl, q, pt_of q fun _ => rfl⟩
          split at h
          · cases h
            exact fin none rfl fun s H C cl fp => pts_nil
          · split at h
            · rename_i cc y ey
              cases h
              exact fin (some y) rfl fun s H C cl fp => pts_one (h1 _ _ _ _ _ _ _ (S.block s H scope C cl fp) ey).2.2
            · cases h
          · cases h
        · rw [if_neg c2] at h; cases h
      · cases h
    · rw [if_neg c] at h; cases h
  · cases h
    exact plainE rfl pe_dctM fun _ => rfl
  · -- an f-string
    obtain ⟨ms, e1, rfl⟩ := Option.map_eq_some_iff.mp h
    exact plainE rfl (pe_fstM S.toSy e1) fun _ => rfl
  · cases h
theorem good_all : ∀ n, GoodE tb L P k n ∧ GoodEs tb L P k n ∧ GoodO tb L P k n ∧ GoodB tb L P k n ∧ GoodI tb L P k n
  | 0 => ⟨(fun _ _ _ _ _ _ _ _ h => by simp only [trE] at h; cases h), (fun _ _ _ _ _ _ _ _ h => by simp only [trEs] at h; cases h), (fun _ _ _ _ _ _ _ _ h => by simp only [trO] at h; cases h), (fun _ _ _ _ _ _ _ _ _ _ _ h => by simp only [trBool] at h; cases h), (fun _ _ _ _ _ _ _ _ _ _ h => by simp only [trI] at h; cases h)⟩
  | n + 1 => by
    obtain ⟨a, b, c, d, e⟩ := good_all n
    exact ⟨good_e a b c d e, good_es a b, good_o a, good_b a d, good_i a b⟩
end
end Mn
/-! Mini: statements, construct by construct -/
namespace Mn
open PySem PySem.Spec PyProof.Rows L2
noncomputable def PostS (L : Lk) (φ : Ph) (H : Hp) (r : SR) (D : Ends) (W : WX) : Prop := match r with
  | .nx ρ h => ∀ (σ' : L2.St) (H' : Hp) (φ' : Ph), Ext L φ H φ' H' → Rel L φ' h H' → EnvR L φ' H' ρ σ' → D.nx σ' H'
  | .bk ρ h => ∀ (σ' : L2.St) (H' : Hp) (φ' : Ph), Ext L φ H φ' H' → Rel L φ' h H' → EnvR L φ' H' ρ σ' → D.bk σ' H'
  | .ct ρ h => ∀ (σ' : L2.St) (H' : Hp) (φ' : Ph), Ext L φ H φ' H' → Rel L φ' h H' → EnvR L φ' H' ρ σ' → D.ct σ' H'
  | .rt v h => ∀ (x : V) (H' : Hp) (φ' : Ph), Ext L φ H φ' H' → Rel L φ' h H' → VR L φ' H' v x → D.rt x H'
  | .err c fs ρ h => ∀ (cls : Value) (d : Option Addr) (σ' : L2.St) (H' : Hp) (φ' : Ph), Ext L φ H φ' H' → Rel L φ' h H' → EnvR L φ' H' ρ σ' → ExR L φ' H' c fs cls d → W cls d σ' H'
  | .bad => False
noncomputable def tS (L : Lk) (P : Pg) (W : WX) (s : S) : TS := fun D σ H => ∃ φ h ρ, Rel L φ h H ∧ EnvR L φ H ρ σ ∧ PostS L φ H (evS P s ρ h) D W
noncomputable def tSs (L : Lk) (P : Pg) (W : WX) (s : List S) : TS := fun D σ H => ∃ φ h ρ, Rel L φ h H ∧ EnvR L φ H ρ σ ∧ PostS L φ H (evB P s ρ h) D W
section
variable {L : Lk} {φ φ1 : Ph} {H H1 : Hp} {r : SR} {D D' : Ends} {W : WX}
theorem PostS.step (e : Ext L φ H φ1 H1) (h : PostS L φ H r D W) : PostS L φ1 H1 r D W := by
  cases r with
  | nx ρ h' => exact fun σ H' φ' x R q => h σ H' φ' (e.trans x) R q
  | bk ρ h' => exact fun σ H' φ' x R q => h σ H' φ' (e.trans x) R q
  | ct ρ h' => exact fun σ H' φ' x R q => h σ H' φ' (e.trans x) R q
  | rt v h' => exact fun v H' φ' x R q => h v H' φ' (e.trans x) R q
  | err c fs ρ h' => exact fun cls d σ H' φ' x R q1 q => h cls d σ H' φ' (e.trans x) R q1 q
  | bad => exact h
theorem PostS.ofRes {α β : Type} {rel : Ph → Hp → α → β → Prop} {ρ : Env'} {σ : L2.St} {g : Res α} {f : α → MH → SR} (En : EnvR L φ H ρ σ) (h : PostS L φ H (.ofRes ρ g f) D W) :
    Post L φ H rel g (fun v H' => ∃ φ' h' a, Ext L φ H φ' H' ∧ Rel L φ' h' H' ∧ rel φ' H' a v ∧ PostS L φ' H' (f a h') D W) (fun c d H' => W c d σ H') := by
  cases g with
  | ok m h' => exact fun v H' φ' x R q => ⟨φ', h', m, x, R, q, PostS.step x h⟩
  | err c fs h' => exact fun cls d H' φ' x R q => h cls d σ H' φ' x R (En.mono x) q
  | bad => exact h
noncomputable def Nxt (L : Lk) (φ : Ph) (H : Hp) (D : Ends) (W : WX) (f : Env' → MH → SR) : L2.St → Hp → Prop := fun σ' H' => ∃ φ' h' ρ', Ext L φ H φ' H' ∧ Rel L φ' h' H' ∧ EnvR L φ' H' ρ' σ' ∧ PostS L φ' H' (f ρ' h') D W
theorem PostS.seq {f : Env' → MH → SR} (h : PostS L φ H (r.seq f) D W) : PostS L φ H r { D with nx := Nxt L φ H D W f } W := by
  cases r with
  | nx ρ h' => exact fun σ H' φ' x R q => ⟨φ', h', ρ, x, R, q, PostS.step x h⟩
  | bk ρ h' => exact h
  | ct ρ h' => exact h
  | rt v h' => exact h
  | err c fs ρ h' => exact h
  | bad => exact h
noncomputable def loopR (r : SR) (f : Env' → MH → SR) : SR := match r with
  | .nx ρ2 h2 => f ρ2 h2
  | .ct ρ2 h2 => f ρ2 h2
  | .bk ρ2 h2 => .nx ρ2 h2
  | .rt v h2 => .rt v h2
  | .err x fs ρ2 h2 => .err x fs ρ2 h2
  | .bad => .bad
theorem PostS.loop {f : Env' → MH → SR} (h : PostS L φ H (loopR r f) D W) : PostS L φ H r { D with nx := Nxt L φ H D W f, ct := Nxt L φ H D W f, bk := D.nx } W := by
  cases r with
  | nx ρ h' => exact fun σ H' φ' x R q => ⟨φ', h', ρ, x, R, q, PostS.step x h⟩
  | ct ρ h' => exact fun σ H' φ' x R q => ⟨φ', h', ρ, x, R, q, PostS.step x h⟩
  | bk ρ h' => exact h
  | rt v h' => exact h
  | err c fs ρ h' => exact h
  | bad => exact h
theorem PostS.mono {D' : Ends} (h : PostS L φ H r D W) (k1 : ∀ σ H, D.nx σ H → D'.nx σ H) (k2 : ∀ σ H, D.bk σ H → D'.bk σ H) (k3 : ∀ σ H, D.ct σ H → D'.ct σ H) (k4 : ∀ v H, D.rt v H → D'.rt v H) : PostS L φ H r D' W := by
  cases r with
  | nx ρ h' => exact fun σ H' φ' x R q => k1 _ _ (h σ H' φ' x R q)
  | bk ρ h' => exact fun σ H' φ' x R q => k2 _ _ (h σ H' φ' x R q)
  | ct ρ h' => exact fun σ H' φ' x R q => k3 _ _ (h σ H' φ' x R q)
  | rt v h' => exact fun v H' φ' x R q => k4 _ _ (h v H' φ' x R q)
  | err c fs ρ h' => exact h
  | bad => exact h
end
section
variable {tb : Tb} {L : Lk} {P : Pg} {k : Nat} {X : Cx} {blk : Bool} {N : List Str} {sc : Scope} {W : WX}
theorem pss_nilM : PSs X [] (tSs L P W []) := PSs.weak pss_nil fun D σ H ⟨φ, h, ρ, R, En, p⟩ => by
  simp only [evB] at p
  exact p σ H φ Ext.refl R En
theorem pss_consM {s : Stmt} {r : List Stmt} {x : S} {xs : List S} (h1 : PS X s (tS L P W x)) (h2 : PSs X r (tSs L P W xs)) : PSs X (s :: r) (tSs L P W (x :: xs)) := PSs.weak (pss_cons h1 h2) fun D σ H ⟨φ, h, ρ, R, En, p⟩ => by
  simp only [evB] at p
  exact ⟨φ, h, ρ, R, En, (PostS.seq p).mono (fun σ' H' ⟨φ', h', ρ', _, R', En', p'⟩ => ⟨φ', h', ρ', R', En', p'⟩) (fun _ _ z => z) (fun _ _ z => z) (fun _ _ z => z)⟩
theorem ps_expM {e : Expr} {x : E} {pos : Pos} (ok : okE e = true) (hl : ∀ a b c d, e ≠ .ListComp a b c d) (ha : PE X e (tM L P W x)) : PS X (.Expr e pos) (tS L P W (.exp x)) := PS.weak (ps_expr ha (okE_notSwap ok hl _ _ _)) fun D σ H ⟨φ, h, ρ, R, En, p⟩ => by
  simp only [evS] at p
  exact ⟨φ, h, ρ, R, En, (PostS.ofRes (rel := vR L) En p).imp fun v H1 ⟨φ1, h1, a, E1, R1, _, p1⟩ => p1 σ H1 φ1 Ext.refl R1 (En.mono E1)⟩
theorem ps_retM {e : Expr} {x : E} {pos : Pos} (ha : PE X e (tM L P W x)) : PS X (.Return (some e) pos) (tS L P W (.ret x)) := PS.weak (ps_ret ha) fun D σ H ⟨φ, h, ρ, R, En, p⟩ => by
  simp only [evS] at p
  exact ⟨φ, h, ρ, R, En, (PostS.ofRes (rel := vR L) En p).imp fun v H1 ⟨φ1, h1, a, E1, R1, r1, p1⟩ => p1 v H1 φ1 Ext.refl R1 r1⟩
theorem ps_retNM {pos : Pos} : PS X (.Return none pos) (tS L P W .retN) := PS.weak ps_retN fun D σ H ⟨φ, h, ρ, R, En, p⟩ => by
  simp only [evS] at p
  exact p .non H φ Ext.refl R .non
theorem ps_pasM {pos : Pos} : PS X (.Pass pos) (tS L P W .pas) := PS.weak ps_pass fun D σ H ⟨φ, h, ρ, R, En, p⟩ => by
  simp only [evS] at p
  exact p σ H φ Ext.refl R En
theorem ps_docM {x : Str} {j : Nat} {pos pos' : Pos} : PS X (.Expr (.Constant (.str x) j pos) pos') (tS L P W .pas) := PS.weak ps_doc fun D σ H ⟨φ, h, ρ, R, En, p⟩ => by
  simp only [evS] at p
  exact p σ H φ Ext.refl R En
theorem ps_brkM {pos : Pos} : PS X (.Break pos) (tS L P W .brk) := PS.weak ps_break fun D σ H ⟨φ, h, ρ, R, En, p⟩ => by
  simp only [evS] at p
  exact p σ H φ Ext.refl R En
theorem ps_cntM {pos : Pos} : PS X (.Continue pos) (tS L P W .cnt) := PS.weak ps_continue fun D σ H ⟨φ, h, ρ, R, En, p⟩ => by
  simp only [evS] at p
  exact p σ H φ Ext.refl R En
theorem ps_ifM {c : Expr} {x : E} {a b : List Stmt} {xa xb : List S} {pos : Pos} (hc : PT X c (tMT L P W x)) (ha : PSs X a (tSs L P W xa)) (hb : PSs X b (tSs L P W xb)) : PS X (.If c a b pos) (tS L P W (.ite x xa xb)) := PS.weak (ps_if hc ha hb) fun D σ H ⟨φ, h, ρ, R, En, p⟩ => by
  simp only [evS] at p
  refine ⟨φ, h, ρ, R, En, (PostS.ofRes (rel := vR L) En p).imp fun v H1 ⟨φ1, h1, a, E1, R1, r1, p1⟩ => ?_⟩
  cases a <;> first | exact False.elim p1 | skip
  rename_i bb
  refine ⟨bb, r1.blI, ?_⟩
  cases bb with
  | true => exact iteT ⟨φ1, h1, ρ, R1, En.mono E1, p1⟩
  | false => exact iteF ⟨φ1, h1, ρ, R1, En.mono E1, p1⟩
theorem gM_of {D : Ends} {σ : L2.St} {x : V} {t : Tg} {v : Val} {φ : Ph} {h : MH} {H : Hp} {ρ : Env'} (R : Rel L φ h H) (r : VR L φ H v x) (En : EnvR L φ H ρ σ) (p : PostS L φ H (match bindT t (unT t h v) ρ with
    | some ρ1 => .nx ρ1 h
    | none => .bad) D W) : gA L t x σ H D.nx := by
  cases e : bindT t (unT t h v) ρ with
  | none => rw [e] at p; exact False.elim p
  | some ρ1 =>
    rw [e] at p
    exact ⟨φ, h, ρ, ρ1, v, R, r, En, e, fun σ' En' _ _ => p σ' H φ Ext.refl R En'⟩
theorem asg_w {t : Tg} {x : E} {D : Ends} {σ : L2.St} {H : Hp} (q : tS L P W (.asg t x) D σ H) : tAsg (tM L P W x) (gA L t) D σ H := by
  obtain ⟨φ, h, ρ, R, En, p⟩ := q
  simp only [evS] at p
  exact ⟨φ, h, ρ, R, En, (PostS.ofRes (rel := vR L) En p).imp fun v H1 ⟨φ1, h1, a, E1, R1, r1, p1⟩ => gM_of R1 r1 (En.mono E1) p1⟩
theorem ps_asgM {tg e : Expr} {t : Tg} {x : E} {pos : Pos} (ha : PE X e (tM L P W x)) (hg : PG X tg (gA L t)) (hs : swapsWithSole [tg] e pos.line X.env = pure false) (hw : swappedStores [tg] e X.env = pure none) (h1 : (assignEach [tg] X.env).map (·.2) = [assign tg X.env]) :
    PS X (.Assign [tg] e pos) (tS L P W (.asg t x)) := PS.weak (ps_asg ha hg hs hw h1) fun _ _ _ q => asg_w q
theorem whC_is {t : Env' → MH → Res Val} {b : Env' → MH → SR} {ρ : Env'} {h : MH} (hn : whC t b ρ h ≠ .bad) : ∃ n, whC t b ρ h = whN t b n ρ h := by
  unfold whC at hn ⊢
  by_cases e : ∃ n, whN t b n ρ h ≠ .bad
  · rw [dif_pos e]; exact ⟨_, rfl⟩
  · rw [dif_neg e] at hn; exact absurd rfl hn
theorem whN_body (t : Env' → MH → Res Val) (b : Env' → MH → SR) (n : Nat) (ρ : Env') (h : MH) : whN t b (n + 1) ρ h = match t ρ h with
    | .ok (.bl true) h1 => loopR (b ρ h1) (whN t b n)
    | .ok (.bl false) h1 => .nx ρ h1
    | .err x fs h1 => .err x fs ρ h1
    | _ => .bad := by
  simp only [whN]
  cases t ρ h with
  | bad => rfl
  | err c fs h1 => rfl
  | ok v h1 => cases v <;> rfl
theorem ps_whlM {c : Expr} {x : E} {body : List Stmt} {xs : List S} {pos : Pos} (hp : PassesOwn (model X.prog X.w) X.A X.env X.xe) (hc : PT X c (tMT L P W x)) (hb : PSs X body (tSs L P W xs)) : PS X (.While c body [] pos) (tS L P W (.whl x xs)) := PS.weak (ps_while hp hc hb) fun D σ H ⟨φ, h, ρ, R, En, p⟩ => by
  simp only [evS] at p
  have nb : whC (evE P x) (evB P xs) ρ h ≠ .bad := fun z => by rw [z] at p; exact p
  obtain ⟨n, hn⟩ := whC_is nb
  rw [hn] at p
  refine ⟨fun m σ' H' => ∃ φ' h' ρ', Rel L φ' h' H' ∧ EnvR L φ' H' ρ' σ' ∧ PostS L φ' H' (whN (evE P x) (evB P xs) m ρ' h') D W, ⟨n, φ, h, ρ, R, En, p⟩, fun m σ' H' ⟨φ', h', ρ', R', En', p'⟩ => ?_⟩
  cases m with
  | zero => exact False.elim p'
  | succ m =>
    rw [whN_body] at p'
    refine ⟨φ', h', ρ', R', En', ?_⟩
    cases e : evE P x ρ' h' with
    | bad => rw [e] at p'; exact p'
    | err c fs h1 => rw [e] at p'; exact fun cls d H2 φ2 E2 R2 q => p' cls d σ' H2 φ2 E2 R2 (En'.mono E2) q
    | ok v h1 =>
      rw [e] at p'
      intro y H1 φ1 E1 R1 r1
      cases v <;> first | exact False.elim p' | skip
      rename_i bb
      refine ⟨bb, r1.blI, ?_⟩
      cases bb with
      | false => exact iteF (p' σ' H1 φ1 E1 R1 (En'.mono E1))
      | true =>
        refine iteT ⟨Nxt L φ1 H1 D W (whN (evE P x) (evB P xs) m), fun σ2 H2 ⟨φ2, h2, ρ2, _, R2, En2, p2⟩ => ⟨m, Nat.lt_succ_self m, φ2, h2, ρ2, R2, En2, p2⟩, φ1, h1, ρ', R1, En'.mono E1, ?_⟩
        exact PostS.loop (PostS.step E1 p')
theorem forL_cons (t : Tg) (c : Src) (b : Env' → MH → SR) (v : Val) (r : List Val) (ρ : Env') (h : MH) (hc : c.stands h) : forL t c b (v :: r) ρ h = match bindT t v ρ with
    | none => .bad
    | some ρ1 => loopR (b ρ1 h) (forL t c b r) := by
  simp only [forL]
  rw [if_pos hc]
  cases bindT t v ρ with
  | none => rfl
  | some ρ1 => simp only; unfold loopR; cases b ρ1 h <;> rfl
theorem ps_forM {iter tg : Expr} {t : Tg} {kk : ItK} {es : List E} {body : List Stmt} {xs : List S} {pos : Pos} (hp : PassesOwn (model X.prog X.w) X.A X.env X.xe) (hc : X.calm = true) (hi : PI X tg iter (wI L P W kk es)) (hg : PG X tg (gM L t)) (hb : PSs X body (tSs L P W xs))
    (hs : ∀ x, foldedSetIterable iter X.env x = pure x) : PS X (.For tg iter body [] pos) (tS L P W (.forS t kk es xs)) := PS.weak (ps_for hp hc hi hg hb hs) fun D σ H ⟨φ, h, ρ, R, En, p⟩ => by
  simp only [evS] at p
  refine ⟨φ, h, ρ, R, En, (PostS.ofRes (rel := ItOk L) En p).imp fun J H1 ⟨φ1, h1, pr, E1, R1, hJ, p1⟩ => ?_⟩
  refine ⟨fun i m σ' H' => m = pr.1.length - i ∧ i ≤ pr.1.length ∧ ∃ φ' h' ρ', Ext L φ1 H1 φ' H' ∧ Rel L φ' h' H' ∧ EnvR L φ' H' ρ' σ' ∧ PostS L φ' H' (forL t pr.2 (evB P xs) (pr.1.drop i) ρ' h') D W,
    ⟨pr.1.length, by simp, Nat.zero_le _, φ1, h1, ρ, Ext.refl, R1, En.mono E1, p1⟩, ?_⟩
  rintro i m σ' H' ⟨rfl, hi, φ2, h2, ρ2, E2, R2, En2, p2⟩
  have hst : pr.2.stands h2 := by
    by_cases c : pr.2.stands h2
    · exact c
    · exfalso
      cases hd : pr.1.drop i with
      | nil => rw [hd] at p2; simp only [forL] at p2; rw [if_neg c] at p2; exact p2
      | cons v r => rw [hd] at p2; simp only [forL] at p2; rw [if_neg c] at p2; exact p2
  obtain ⟨hs, hgo⟩ := hJ φ2 h2 H' E2 R2 hst i
  by_cases hlt : i < pr.1.length
  · obtain ⟨v, hv⟩ : ∃ v, pr.1[i]? = some v := ⟨pr.1[i], List.getElem?_eq_getElem hlt⟩
    obtain ⟨go, hy⟩ := hgo v hv
    have hd : pr.1.drop i = v :: pr.1.drop (i + 1) := by
      rw [List.drop_eq_getElem_cons hlt]
      rw [List.getElem?_eq_getElem hlt] at hv
      cases hv; rfl
    rw [hd, forL_cons _ _ _ _ _ _ _ hst] at p2
    refine .inr ⟨go, fun σ3 H3 => i + 1 ≤ pr.1.length ∧ ∃ φ' h' ρ', Ext L φ1 H1 φ' H3 ∧ Rel L φ' h' H3 ∧ EnvR L φ' H3 ρ' σ3 ∧ PostS L φ' H3 (forL t pr.2 (evB P xs) (pr.1.drop (i + 1)) ρ' h') D W,
      fun σ3 H3 ⟨a, b⟩ => ⟨pr.1.length - (i + 1), by omega, rfl, a, b⟩, fun y H3 hyl => ?_⟩
    obtain ⟨ry, E3, R3⟩ := hy y H3 hyl
    cases eb : bindT t v ρ2 with
    | none => rw [eb] at p2; exact False.elim p2
    | some ρ3 =>
      rw [eb] at p2
      refine ⟨φ2, h2, ρ2, ρ3, v, R3, ry, En2.mono E3, eb, fun σ3 En3 _ _ => ?_⟩
      refine ⟨φ2, h2, ρ3, R3, En3, (PostS.loop (PostS.step E3 p2)).mono ?_ (fun _ _ z => z) ?_ (fun _ _ z => z)⟩
      · exact fun σ4 H4 ⟨φ4, h4, ρ4, E4, R4, En4, p4⟩ => ⟨hlt, φ4, h4, ρ4, (E2.trans E3).trans E4, R4, En4, p4⟩
      · exact fun σ4 H4 ⟨φ4, h4, ρ4, E4, R4, En4, p4⟩ => ⟨hlt, φ4, h4, ρ4, (E2.trans E3).trans E4, R4, En4, p4⟩
  · have e : i = pr.1.length := by omega
    subst e
    refine .inl ⟨hs (Nat.le_refl _), ?_⟩
    rw [List.drop_length] at p2
    simp only [forL] at p2
    rw [if_pos hst] at p2
    exact p2 σ' H' φ2 Ext.refl R2 En2
end
end Mn
/-! Mini: the translator for statements; stores -/
namespace Mn
open PySem PySem.Spec PyProof.Rows L2
noncomputable def isLC : Expr → Bool
  | .ListComp _ _ _ _ => true
  | _ => false
noncomputable def isSeqD : Expr → Bool
  | .Tuple _ _ _ => true
  | .List _ _ => true
  | _ => false
/-- raise c(a) -/
noncomputable def raOf (sc : Scope) : Option Expr → Option Expr → Option (String × Expr)
  | some (.Call (.Name x _) [a] [] _), none => if (gl sc x && spC x && okE a) = true then (nmS x).map fun s => (s, a) else none
  | _, _ => none
/-- except c as n: t = n -/
noncomputable def toldOf (N : List Str) (sc : Scope) : List ExceptHandler → Option (String × Nat × Nat)
  | [.ExceptHandler (some (.Name x _)) (some n) [.Assign [.Name t _] (.Name m _) _] _] => if (gl sc x && spC x && spC n && (m == n) && decide (sc.names.lookup n = some .local) && decide (sc.names.lookup t = some .local)) = true then
      match nmS x, idxN N n, idxN N t with
      | some s, some i, some j => some (s, i, j)
      | _, _, _ => none
    else none
  | _ => none
/-- what a suite that handles may tell: a constant, a name and a constant -/
noncomputable def hotE (N : List Str) (sc : Scope) : Expr → Option E
  | .Constant c _ _ => (trK c).map .con
  | .BinOp (.Name x _) .Add (.Constant c _ _) _ => if (spC x && decide (sc.names.lookup x = some .local)) = true then match idxN N x, trK c with
      | some i, some v => some (.bin .Add (.var i) (.con v))
      | _, _ => none
    else none
  | _ => none
/-- except c: t = e, except c: return e -/
noncomputable def onlyOf (N : List Str) (sc : Scope) : List ExceptHandler → Option (String × S)
  | [.ExceptHandler (some (.Name x _)) none [.Assign [.Name t _] e _] _] => if (gl sc x && spC x && decide (sc.names.lookup t = some .local)) = true then
      match nmS x, idxN N t, hotE N sc e with
      | some s, some j, some m => some (s, .asg (.nm j) m)
      | _, _, _ => none
    else none
  | [.ExceptHandler (some (.Name x _)) none [.Return (some e) _] _] => if (gl sc x && spC x) = true then
      match nmS x, hotE N sc e with
      | some s, some m => some (s, .ret m)
      | _, _ => none
    else none
  | _ => none
/-- isinstance of a name and a tuple of classes -/
noncomputable def isiE (i : Nat) : List String → E
  | [] => .con (.bl false)
  | t :: r => .or (.isi (.var i) t) (isiE i r)
noncomputable def namesOf (tb : Tb) (sc : Scope) : List Expr → Option (List String)
  | [] => some []
  | .Name t _ :: r => if (gl sc t && spC t) = true then match nmS t, namesOf tb sc r with
      | some s, some l => if tb.isi.contains s = true then some (s :: l) else none
      | _, _ => none
    else none
  | _ => none
/-- try: return f(x) except s: raise c(m), where f's exceptions have no context -/
noncomputable def ranOf (tb : Tb) (N : List Str) (sc : Scope) : List Stmt → List ExceptHandler → Option (String × Nat × String × String × Val)
  | [.Return (some (.Call (.Name f _) [.Name x _] [] _)) _], [.ExceptHandler (some (.Name s _)) none [.Raise (some (.Call (.Name c _) [.Constant k _ _] [] _)) none _] _] =>
    if (gl sc f && spC f && gl sc s && spC s && gl sc c && spC c && spC x && decide (sc.names.lookup x = some .local)) = true then
      match nmS f, idxN N x, nmS s, nmS c, trK k with
      | some f, some i, some s, some c, some m => if tb.nfn.contains f = true then some (f, i, s, c, m) else none
      | _, _, _, _, _ => none
    else none
  | _, _ => none
noncomputable def strC : Expr → Bool
  | .Constant (.str _) _ _ => true
  | _ => false
mutual
/-- what a suite may tell of the exception that it handles -/
noncomputable def hotX (tb : Tb) (N : List Str) (sc : Scope) : Nat → Expr → Option E
  | 0, _ => none
  | n + 1, e => match e with
    | .Name x _ => if (spC x && decide (sc.names.lookup x = some .local)) = true then (idxN N x).map .var else none
    | .Constant c _ _ => (trK c).map .con
    | .UnaryOp .Not a _ => (hotX tb N sc n a).map .not
    | .BoolOp op (a :: r) _ => hotBo tb N sc n op a r
    | .List es _ => (hotXs tb N sc n es).map .lst
    | .Attribute o f _ => if okB o = true then match nmS f, hotX tb N sc n o with
        | some s, some x => some (.fld x s)
        | _, _ => none
      else none
    | .Call (.Name f _) [a, .Name t _] [] _ => if (decide (f = Str.ofString "isinstance") && gl sc f && okE a && gl sc t && spC t) = true then match hotX tb N sc n a, nmS t with
        | some x, some ts => if tb.isi.contains ts = true then some (.isi x ts) else none
        | _, _ => none
      else none
    | .Call (.Name f _) [.Name x _, .Tuple (t0 :: ts) _ _] [] _ => if (decide (f = Str.ofString "isinstance") && gl sc f && spC x && decide (sc.names.lookup x = some .local) && decide (ts.length < 20)) = true then match idxN N x, namesOf tb sc (t0 :: ts) with
        | some i, some l => some (isiE i l)
        | _, _ => none
      else none
    | _ => none
noncomputable def hotXs (tb : Tb) (N : List Str) (sc : Scope) : Nat → List Expr → Option (List E)
  | 0, _ => none
  | n + 1, es => match es with
    | [] => some []
    | e :: r => match hotX tb N sc n e, hotXs tb N sc n r with
      | some x, some xs => some (x :: xs)
      | _, _ => none
noncomputable def hotBo (tb : Tb) (N : List Str) (sc : Scope) : Nat → BoolOp → Expr → List Expr → Option E
  | 0, _, _, _ => none
  | n + 1, op, a, r => match r with
    | [] => hotX tb N sc n a
    | b :: r' => match hotX tb N sc n a, hotBo tb N sc n op b r' with
      | some x, some y => match op with
        | .And => some (.and x y)
        | .Or => some (.or x y)
      | _, _ => none
end
/-- a suite that may look at the exception that it handles -/
noncomputable def hotSs (tb : Tb) (N : List Str) (sc : Scope) (n : Nat) : List Stmt → Option (List S)
  | [] => some []
  | .Assign [.Name t _] e _ :: r => if decide (sc.names.lookup t = some .local) = true then match idxN N t, hotX tb N sc n e, hotSs tb N sc n r with
      | some j, some m, some l => some (.asg (.nm j) m :: l)
      | _, _, _ => none
    else none
  | .Return (some e) _ :: r => match hotX tb N sc n e, hotSs tb N sc n r with
      | some m, some l => some (.ret m :: l)
      | _, _ => none
  | _ => none
/-- except c as i: suite -/
noncomputable def holdsOf (tb : Tb) (N : List Str) (sc : Scope) (n : Nat) : List ExceptHandler → Option (List (String × Option Nat × List S))
  | [] => some []
  | .ExceptHandler (some (.Name x _)) (some t) (b0 :: suite) _ :: r => if (gl sc x && spC x && decide (sc.names.lookup t = some .local)) = true then
      match nmS x, idxN N t, hotSs tb N sc n (b0 :: suite), holdsOf tb N sc n r with
      | some s, some i, some b, some l => some ((s, some i, b) :: l)
      | _, _, _, _ => none
    else none
  | _ => none
/-- x, y = e1, e2 -/
noncomputable def swpOf (N : List Str) (sc : Scope) : List Expr → Expr → Option (Nat × Nat × Expr × Expr)
  | [.Name x px, .Name y py], .Tuple [a, b] _ _ => if (decide (sc.names.lookup x = some .local) && decide (sc.names.lookup y = some .local) && !(x == y) && !(y == x) && (py.line == px.line) && decide (sc.kind = .function) && okE a && okE b && !([a, b].all (foldedForSure 8)) && !([a, b].all (constantsAlone 8))) = true then match idxN N x, idxN N y with
      | some i, some j => some (i, j, a, b)
      | _, _ => none
    else none
  | _, _ => none
mutual
noncomputable def trS (tb : Tb) : Nat → List Str → Scope → Stmt → Option S
  | 0, _, _, _ => none
  | n + 1, N, sc, s => match s with
    | .Assign [.Name x p] (.ListComp elt gs scope pos) spos => match trT false N sc (.Name x p), trE tb n false N sc (.ListComp elt gs scope pos) with
      | some t, some m => if (decide (sc.names.lookup x = some .local) && (p.line == pos.line) && !(scope.names.any fun (n, k) => n == x && (k == .local || k == .cell)) && decide (gs.length = 1)) = true then some (.asg t m)
        else if (decide (sc.names.lookup x = some .local)) = false then some (.asg t m) else none
      | _, _ => none
    | .Assign [tg] v _ => match tg with
      | .Subscript o i _ => match trE tb n false N sc v, trE tb n false N sc o, trE tb n false N sc i with
        | some m, some x, some y => some (.sub x y m)
        | _, _, _ => none
      | .Name x p => if isLC v = true then none else match trT false N sc (.Name x p), trE tb n false N sc v with
        | some t, some m => some (.asg t m)
        | _, _ => none
      | .Tuple es a b => if isSeqD v = true then match swpOf N sc es v with
          | some (i, j, e1, e2) => match trEs tb n false N sc [e1, e2] with
            | some ms => some (.asg (.tp [i, j]) (.tup ms))
            | none => none
          | none => none
        else if isLC v = true then none else match trT false N sc (.Tuple es a b), trE tb n false N sc v with
        | some t, some m => some (.asg t m)
        | _, _ => none
      | .Attribute o f _ => match nmS f, trE tb n false N sc o, trE tb n false N sc v with
        | some s, some x, some m => some (.fld x s m)
        | _, _, _ => none
      | _ => none
    | .Expr (.Constant (.str _) _ _) _ => some .pas
    | .Expr e _ => if isLC e = true then none else (trE tb n false N sc e).map .exp
    | .Return none _ => some .retN
    | .Return (some e) _ => (trE tb n false N sc e).map .ret
    | .If c a b _ => match trE tb n false N sc c, trSs tb n N sc a, trSs tb n N sc b with
      | some x, some y, some z => some (.ite x y z)
      | _, _, _ => none
    | .For tg it b [] _ => match trT false N sc tg, trI tb n false N sc tg it, trSs tb n N sc b with
      | some t, some (k, es), some x => some (.forS t k es x)
      | _, _, _ => none
    | .While c b [] _ => match trE tb n false N sc c, trSs tb n N sc b with
      | some x, some y => some (.whl x y)
      | _, _ => none
    | .Break _ => some .brk
    | .Continue _ => some .cnt
    | .Pass _ => some .pas
    | .Raise e c _ => match raOf sc e c with
      | some (s, a) => if (tb.nc && !strC a) = true then some (.rai "" []) else match trE tb n false N sc a with
        | some x => some (.rai s [x])
        | none => some (.rai "" [])
      | none => some (.rai "" [])
    | .Try b hs [] [] _ => if tb.nc = true then none else match ranOf tb N sc b hs with
     | some (f, i, s, c, m) => some (.tryR f i s c m)
     | none => match toldOf N sc hs with
      | some (s, i, j) => (trSs (deepT tb) n N sc b).map fun x => .tryS x [(s, some i, [.asg (.nm j) (.var i)])]
      | none => match onlyOf N sc hs with
        | some (s, st) => (trSs (deepT tb) n N sc b).map fun x => .tryS x [(s, none, [st])]
        | none => match hs with
          | [] => none
          | h0 :: hr => match holdsOf tb N sc n (h0 :: hr), trSs (deepT tb) n N sc b with
            | some l, some x => some (.tryS x (("", none, []) :: l))
            | none, some x => some (.thru x)
            | _, _ => none
    | _ => none
noncomputable def trSs (tb : Tb) : Nat → List Str → Scope → List Stmt → Option (List S)
  | 0, _, _, _ => none
  | n + 1, N, sc, ss => match ss with
    | [] => some []
    | s :: r => match trS tb n N sc s, trSs tb n N sc r with
      | some x, some xs => some (x :: xs)
      | _, _ => none
end
section
variable {tb : Tb} {L : Lk} {P : Pg} {k : Nat} {X : Cx} {N : List Str} {sc : Scope} {W : WX} {n : Nat}
structure Ss (tb : Tb) (L : Lk) (P : Pg) (k : Nat) (X : Cx) (N : List Str) (sc : Scope) (W : WX) : Prop where
  S : Sx tb L P k X false N sc W
  pow : PassesOwn (model X.prog X.w) X.A X.env X.xe
  st : X.stack = X.env :: X.outer
  fr : X.env.frame = some X.env.locals
  ex : X.ex = []
  pat : tb.nfn ≠ [] → ∀ hd : Option Value, PassesOwnAt (model X.prog X.w) (X.A.mark hd) X.A X.env X.xe
theorem setSub_noerr (o i v : Val) (h : MH) (c : String) (fs : List (String × Val)) (h' : MH) : setSub o i v h ≠ .err c fs h' := by
  intro z
  unfold setSub at z
  repeat' split at z
  all_goals cases z
noncomputable def rSt (L : Lk) (f : Val → Val → Val → MH → Res Unit) : TSet := fun o i v H Q => ∃ φ h o' i' v', Rel L φ h H ∧ VR L φ H o' o ∧ VR L φ H i' i ∧ VR L φ H v' v ∧ Post L φ H (fun _ _ (_ : Unit) (_ : Unit) => True) (f o' i' v' h) (fun _ H' => Q H') (fun _ _ _ => False)
theorem set_all (S : Sx tb L P k X false N sc W) : PSet X (rSt L setSub) := by
  intro pins s σ H o i v ov iv u Q I ro ri rv ⟨φ, h, o', i', v', R, vo, vi, vv, p⟩
  cases o' <;> first | exact False.elim p | skip
  rename_i a
  simp only [setSub] at p
  split at p
  · rename_i xs j hi
    split at p
    · rename_i l hl
      obtain ⟨b, rfl, bi, q⟩ := R.at hi vo
      obtain ⟨zs, _, r1, kk⟩ := q.lstI
      refine set_list pins s σ H _ i v ov iv u Q I ro ri rv ⟨b, zs, j, l, rfl, vi.intI, kk rfl, by rw [← r1.length]; exact hl, ?_⟩
      have X1 : Ext L φ H φ (upd H b (.lst (zs.set l v))) := Ext.write (bi.2 rfl) (kk rfl) (fun _ _ z => by cases z) (fun _ z => by cases z)
      exact p () _ φ X1 (R.write hi rfl (fun _ z => by cases z) (bi.2 rfl) (.lst upd_same ((r1.set vv l).mono X1))) trivial
    · exact False.elim p
  · rename_i kvs hi
    split at p
    · rename_i c ek
      by_cases cl : kvs.length < sizeLine
      · rw [if_pos cl] at p
        obtain ⟨b, rfl, bi, q⟩ := R.at hi vo
        obtain ⟨ys, _, kr, kk, _⟩ := q.dctI
        have ei := vi.key ek
        subst ei
        cases (show ov = Value.ref b from ro)
        have X1 : Ext L φ H φ (upd H b (.dK (putK ys c v))) := Ext.write (bi.2 rfl) (kk rfl) (fun _ _ z => by cases z) (fun _ z => by cases z)
        exact d_setItem (by have := S.units; omega) I (DPut.k (kk rfl) (by rw [← kr.length]; exact cl)) ri rv fun s' I' => ⟨_, I', p () _ φ X1 (R.write hi rfl (fun _ z => by cases z) (bi.2 rfl) (.dK upd_same ((kr.put vv).mono X1))) trivial⟩
      · rw [if_neg cl] at p; exact False.elim p
    · split at p
      · rename_i c ek
        by_cases cl : kvs.isEmpty = true
        · rw [if_pos cl] at p
          obtain rfl := List.isEmpty_iff.mp cl
          obtain ⟨b, rfl, bi, q⟩ := R.at hi vo
          obtain ⟨ys, _, kr, kk, _⟩ := q.dctI
          cases kr
          have hb := kk rfl
          obtain ⟨d, rfl, hd⟩ := vi.keyT ek
          cases (show ov = Value.ref b from ro)
          have ne : d ≠ b := fun z => by rw [z, hb] at hd; cases hd
          have X1 : Ext L φ H φ (upd H b (.dT [(c, v)])) := Ext.write (bi.2 rfl) hb (fun _ _ z => by cases z) (fun _ z => by cases z)
          have g : DPut (upd H b (.dT [])) b (.ref d) v (upd H b (.dT [(c, v)])) := .inr ⟨[], c, d, upd_same, rfl, (upd_ne ne).trans hd, by decide, by funext x; by_cases z : x = b <;> simp [upd, z, putK]⟩
          exact d_setItem (by have := S.units; omega) (inv_KT I hb) g ri rv fun s' I' => ⟨_, I', p () _ φ X1 (R.write hi rfl (fun _ z => by cases z) (bi.2 rfl) (.dT upd_same (.cons (vv.mono X1) .nil))) trivial⟩
        · rw [if_neg cl] at p; exact False.elim p
      · exact False.elim p
  · rename_i kvs hi
    split at p
    · rename_i c ek
      by_cases cl : kvs.length < sizeLine
      · rw [if_pos cl] at p
        obtain ⟨b, rfl, bi, q⟩ := R.at hi vo
        cases q with
        | @dT zs _ hb kr =>
          obtain ⟨d, rfl, hd⟩ := vi.keyT ek
          cases (show ov = Value.ref b from ro)
          have X1 : Ext L φ H φ (upd H b (.dT (putK zs c v))) := Ext.write (bi.2 rfl) hb (fun _ _ z => by cases z) (fun _ z => by cases z)
          exact d_setItem (by have := S.units; omega) I (DPut.t hb hd (by rw [← kr.length]; exact cl)) ri rv fun s' I' => ⟨_, I', p () _ φ X1 (R.write hi rfl (fun _ z => by cases z) (bi.2 rfl) (.dT upd_same ((kr.put vv).mono X1))) trivial⟩
      · rw [if_neg cl] at p; exact False.elim p
    · exact False.elim p
  · exact False.elim p
theorem ps_subM (S : Sx tb L P k X false N sc W) {o i e : Expr} {x y m : E} {p pos : Pos} (oki : okE i = true) (oke : okE e = true) (ho : PE X o (tM L P W x)) (hi : PE X i (tM L P W y)) (he : PE X e (tM L P W m)) : PS X (.Assign [.Subscript o i p] e pos) (tS L P W (.sub x y m)) := by
  have hs : swapsWithSole [.Subscript o i p] e pos.line X.env = pure false := by
    show swapsWith e (some (.Subscript o i p)) pos.line X.env = pure false
    cases e <;> first | rfl | (exact absurd oke (by simp [okE]))
  have hw : swappedStores [.Subscript o i p] e X.env = pure none := by
    cases e <;> rfl
  have hset : ∀ v, assign (.Subscript o i p) X.env v = (do
      let ov ← holding [v] (eval o X.env)
      let iv ← holding [v, ov] (eval i X.env)
      standAt p
      holding [v, ov, iv] (setItem ov iv v)
      release [v, ov, iv] []) := by
    intro v
    cases i <;> first | rfl | (exact absurd oki (by simp [okE]))
  refine PS.weak (ps_asg he (pg_sub ho hi (set_all S) hset) hs hw rfl) fun D σ H ⟨φ, h, ρ, R, En, p⟩ => ?_
  simp only [evS] at p
  refine ⟨φ, h, ρ, R, En, (PostS.ofRes (rel := vR L) En p).imp fun v H1 ⟨φ1, h1, a, E1, R1, r1, p1⟩ => ?_⟩
  refine ⟨φ1, h1, ρ, R1, En.mono E1, (PostS.ofRes (rel := vR L) (En.mono E1) p1).imp fun ov H2 ⟨φ2, h2, b, E2, R2, r2, p2⟩ => ?_⟩
  have En2 := (En.mono E1).mono E2
  refine ⟨φ2, h2, ρ, R2, En2, (PostS.ofRes (rel := vR L) En2 p2).imp fun iv H3 ⟨φ3, h3, c, E3, R3, r3, p3⟩ => ?_⟩
  have En3 := En2.mono E3
  refine ⟨φ3, h3, b, c, a, R3, r2.mono E3, r3, (r1.mono E2).mono E3, ?_⟩
  cases e : setSub b c a h3 with
  | err c fs h' => exact absurd e (setSub_noerr _ _ _ _ _ _ _)
  | bad => rw [e] at p3; exact p3
  | ok _ h4 => rw [e] at p3; exact fun _ H4 φ4 E4 R4 _ => p3 σ H4 φ4 E4 R4 (En3.mono E4)
theorem ps_rai0 {e c : Option Expr} {pos : Pos} {x : String} : PS X (.Raise e c pos) (tS L P W (.rai x [])) := ⟨fun pins s σ H D I ⟨φ, h, ρ, R, En, p⟩ => by
  simp only [evS] at p
  exact False.elim p⟩
/-- raise c(e) -/
theorem ps_raiM (S : Ss tb L P k X N sc W) {a : Expr} {m : E} {s : String} {np cp pos : Pos} (hg : Mn.gl sc (Str.ofString s) = true) (hc : spC (Str.ofString s) = true) (ok : okE a = true) (ha : PE X a (tM L P W m)) (hs : tb.nc = true → ∃ t j p2, a = .Constant (.str t) j p2 ∧ m = .con (.str t)) :
    PS X (.Raise (some (.Call (.Name (Str.ofString s) np) [a] [] cp)) none pos) (tS L P W (.rai s [m])) := by
  unfold spC at hc
  simp only [Bool.and_eq_true, Bool.not_eq_true'] at hc
  cases e : P.exi s with
  | none => exact ⟨fun pins s σ H D I ⟨φ, h, ρ, R, En, p⟩ => by
      simp only [evS, e] at p
      exact False.elim p⟩
  | some o =>
    obtain ⟨C, hC, hm, kC, sC, tC, mk⟩ := S.S.pr.exi s o e
    cases o with
    | none =>
      have q : PySem.W.excIn X.K C veTl "ValueError.__new__" = true := by rw [S.S.hK]; exact mk
      cases nc : tb.nc with
      | true =>
        obtain ⟨t, j, p2, rfl, rfl⟩ := hs nc
        refine PS.weak (L2N.ps_raise S.S.calm (S.S.tk.on nc) (L2N.pmk_own PySem.F.excBase_ValueError q hm (by rw [S.S.hK]; exact kC) (raises_own (by rw [S.S.hK]; exact sC) (by rw [S.S.hK]; exact tC)) (S.S.gl hg) hc.1.1)) fun D σ H ⟨φ, h, ρ, R, En, p⟩ => ?_
        simp only [evS, e, evE] at p
        exact p _ _ σ H φ Ext.refl R En ⟨C, hC, rfl, .inl ⟨rfl, rfl⟩⟩
      | false =>
        refine PS.weak (ps_raise S.S.calm (S.S.tk.off nc) (SkE.pmk_own1 PySem.F.excBase_ValueError q hm (by rw [S.S.hK]; exact kC) (raises_own (by rw [S.S.hK]; exact sC) (by rw [S.S.hK]; exact tC)) (S.S.gl hg) ha (okE_star ok _ _) hc.1.1)) fun D σ H ⟨φ, h, ρ, R, En, p⟩ => ?_
        simp only [evS, e] at p
        refine ⟨φ, h, ρ, R, En, (PostS.ofRes (rel := vR L) En p).imp fun v H1 ⟨φ1, h1, a, E1, R1, r1, p1⟩ => ?_⟩
        exact p1 _ _ σ H1 φ1 Ext.refl R1 (En.mono E1) ⟨C, hC, rfl, .inl ⟨rfl, rfl⟩⟩
    | some f =>
      have nc : tb.nc = false := by
        cases z : tb.nc with
        | false => rfl
        | true => cases S.S.pr.exn z _ _ e
      obtain ⟨T, hno, fI, fd, ps, iC, tI, hb, F, _⟩ := mk
      refine PS.weak (ps_raise S.S.calm (S.S.tk.off nc) (pmk_oex (X := X) (dvs := []) (by rw [S.S.hK]; exact T) (by rw [S.S.hK]; exact iC) (by rw [S.S.hK]; exact tI) (by rw [S.S.hK]; exact F (L2.CX X.prog X.w)) S.S.room (by rw [S.S.hK]; exact hb) .nil passL (S.S.gl hg) hm (pa_cons ha pa_nil (okE_star ok _ _)) hc.1.1 (okE_star ok _ _) (by rfl))) fun D σ H ⟨φ, h, ρ, R, En, p⟩ => ?_
      simp only [evS, e] at p
      refine ⟨φ, h, ρ, R, En, (PostS.ofRes (rel := vR L) En p).imp fun v H1 ⟨φ1, h1, a, E1, R1, r1, p1⟩ => ?_⟩
      refine ⟨by show 1 ≤ 1000; decide, fun ad hn => ⟨ad, v, rfl, upd_same, fun dx hd ne => ⟨rfl, dx, [(Str.ofString f, v)], upd_same, ?_, ?_, ?_⟩⟩⟩
      · rw [upd_ne ne, upd_same]
      · rw [upd_ne ne] at hd; exact hd
      · have hd' : H1 dx = none := by rw [upd_ne ne] at hd; exact hd
        have eq : upd (del (upd (upd (upd H1 ad (exo ad C none)) dx (exd dx [(Str.ofString f, v)])) ad (exo ad C (some dx))) ad) dx (.xd [(Str.ofString f, v)]) = upd H1 dx (.xd [(Str.ofString f, v)]) := by
          funext b
          by_cases hb : b = dx
          · subst hb; rw [upd_same, upd_same]
          · rw [upd_ne hb, upd_ne hb]
            by_cases hc : b = ad
            · subst hc; rw [del_same, hn]
            · rw [del_ne hc, upd_ne hc, upd_ne hb, upd_ne hc]
        rw [eq]
        have nx : (true, dx) ∉ φ1 := fun z => by
          obtain ⟨u, hu, _⟩ := R1.live dx z
          rw [hd'] at hu; cases hu
        exact p1 _ _ σ _ φ1 (Ext.side hd') (R1.side hd') ((En.mono E1).mono (Ext.side hd')) ⟨C, hC, rfl, .inr ⟨dx, _, rfl, upd_same, nx, .cons (r1.mono (Ext.side hd')) .nil⟩⟩
theorem cons_ok {c : String} {fs : List (String × Val)} {φ : Ph} {H : Hp} {cls : Value} {d : Option Addr} {a : Addr} {h : MH} (R : Rel L φ h H) (q : ExR L φ H c fs cls d) (na : H a = none) : VR L φ (upd H a (exH a cls d)) (.exc c fs) (.ref a) := by
  obtain ⟨C, hC, rfl, q⟩ := q
  have n1 : (true, a) ∉ φ := fun z => by
    obtain ⟨u, hu, _⟩ := R.live a z
    rw [na] at hu; cases hu
  rcases q with ⟨rfl, rfl⟩ | ⟨dd, xs, rfl, hd, nd, rf⟩
  · exact .exc0 hC upd_same n1
  · have rf := rf.mono (Ext.side (p := a) (o := exH a (.ref C) (some dd)) na)
    exact .excF hC upd_same n1 (by rw [upd_ne (ne_of_none hd na)]; exact hd) nd rf.split.1 rf.split.2
/-- try: .. except c as n: t = n -/
theorem ps_tryM (S : Ss tb L P k X N sc W) (nc : tb.nc = false) {s : String} {i j : Nat} {xn t : Str} {body : List Stmt} {xs : List Mn.S} {p1 p2 p3 p4 p5 pos : Pos} (hg : Mn.gl sc (Str.ofString s) = true) (hc : spC (Str.ofString s) = true) (hcn : spC xn = true) (hi : idxN N xn = some i) (hj : idxN N t = some j) (hln : sc.names.lookup xn = some .local) (hlt : sc.names.lookup t = some .local)
    (hb : ∀ X' W', Ss (deepT tb) L P k X' N sc W' → PSs X' body (tSs L P W' xs)) :
    PS X (.Try body [.ExceptHandler (some (.Name (Str.ofString s) p1)) (some xn) [.Assign [.Name t p2] (.Name xn p3) p4] p5] [] [] pos) (tS L P W (.tryS xs [(s, some i, [.asg (.nm j) (.var i)])])) := by
  unfold spC at hc hcn
  simp only [Bool.and_eq_true, Bool.not_eq_true'] at hc hcn
  by_cases hP : ∃ c b, P.exm c s = some b
  · obtain ⟨c0, b0, hb0⟩ := hP
    obtain ⟨C, hm, hex⟩ := S.S.pr.exm _ _ _ hb0
    have hNi : X.N[i]? = some xn := by rw [S.S.hN]; exact idxN_ok hi
    have hNj : X.N[j]? = some t := by rw [S.S.hN]; exact idxN_ok hj
    have kn : X.env.kindOf xn = some .local := by unfold Env.kindOf; rw [S.S.hsc]; exact hln
    refine PS.weak (ps_told (c := .ref C) (i := i) (j := j) (tb := fun W' => tSs L P W' xs) S.st S.fr S.ex (by rw [S.S.hN]; exact S.S.nd) hNi hNj (by rw [S.S.hsc]; exact hln) (by rw [S.S.hsc]; exact hlt) hcn.1.1 hcn.1.2 (S.S.gl hg) hc.1.1 hm
      (fun W' pn xe tk pw => hb _ _ ⟨⟨⟨S.S.hK, S.S.hN, S.S.nd, S.S.hsc, takb_of nc tk, S.S.fnc, deep_ok S.S.pr⟩, S.S.room, S.S.calm⟩, pw, S.st, S.fr, S.ex, fun z => absurd rfl z⟩)) fun D σ H ⟨φ, h, ρ, R, En, p⟩ => ?_
    simp only [evS] at p
    by_cases ne : True ∧ i ≠ j
    · rw [if_pos ne] at p
      refine ⟨φ, h, ρ, R, En, ?_⟩
      unfold tryR at p
      cases e : evB P xs ρ h with
      | nx ρ h' => rw [e] at p; exact p
      | bk ρ h' => rw [e] at p; exact p
      | ct ρ h' => rw [e] at p; exact p
      | rt v h' => rw [e] at p; exact p
      | bad => rw [e] at p; exact p
      | err c2 fs ρ2 h2 =>
        rw [e] at p
        simp only at p
        intro cls d σ' H' φ' x R' En' q
        cases em : P.exm c2 s with
        | none => rw [em] at p; exact False.elim p
        | some b =>
          rw [em] at p
          obtain ⟨C', hm', hx'⟩ := S.S.pr.exm _ _ _ em
          rw [hm] at hm'; cases hm'
          obtain ⟨C2, hC2, rfl, _⟩ := id q
          cases b with
          | false => exact False.elim p
          | true =>
            simp only at p
            by_cases hil : i < ρ2.length
            · rw [if_pos hil] at p
              refine ⟨by rw [S.S.hK]; exact hx' _ hC2, by rw [← En'.len]; exact hil, fun a na => ?_⟩
              have E2 : Ext L φ' H' φ' (upd H' a (exH a (.ref C2) d)) := Ext.side na
              refine p _ (upd H' a (exH a (.ref C2) d)) φ' (x.trans E2) (R'.side na) ?_
              have k := ((En'.mono E2).set (cons_ok R' q na) j)
              refine ⟨by simp [En'.len], fun l v hl => ?_⟩
              by_cases li : i = l
              · subst li
                by_cases ll : i < (ρ2.set j (some (Val.exc c2 fs))).length
                · rw [List.getElem?_set_self ll] at hl; cases hl
                · rw [List.getElem?_eq_none (by simpa using ll)] at hl; cases hl
              · rw [List.getElem?_set_ne li] at hl
                obtain ⟨y, h1, h2⟩ := k.get l v hl
                refine ⟨y, ?_, h2⟩
                rw [List.getElem?_set_ne li]
                by_cases lj : j = l
                · subst lj
                  have jl : j < σ'.length := by
                    have := (List.getElem?_eq_some_iff.mp h1).1
                    simpa using this
                  rw [List.getElem?_set_self jl] at h1
                  rw [List.getElem?_set_self (by simpa using jl)]
                  exact h1
                · rw [List.getElem?_set_ne lj] at h1 ⊢
                  rw [List.getElem?_set_ne li]
                  exact h1
            · rw [if_neg hil] at p; exact False.elim p
    · rw [if_neg ne] at p; exact False.elim p
  · have hP' : ∀ c, P.exm c s = none := fun c => by
      cases e : P.exm c s with
      | none => rfl
      | some b => exact absurd ⟨c, b, e⟩ hP
    refine PS.weak (ps_try_thru0 (hb X.nox (fun _ _ _ _ => False) ⟨⟨⟨S.S.hK, S.S.hN, S.S.nd, S.S.hsc, takb0, S.S.fnc, deep_ok S.S.pr⟩, S.S.room, S.S.calm⟩, PassesOwn.never, S.st, S.fr, S.ex, fun z => absurd rfl z⟩)) fun D σ H ⟨φ, h, ρ, R, En, p⟩ => ?_
    simp only [evS] at p
    by_cases ne : True ∧ i ≠ j
    · rw [if_pos ne] at p
      refine ⟨φ, h, ρ, R, En, ?_⟩
      unfold tryR at p
      cases e : evB P xs ρ h with
      | nx ρ h' => rw [e] at p; exact p
      | bk ρ h' => rw [e] at p; exact p
      | ct ρ h' => rw [e] at p; exact p
      | rt v h' => rw [e] at p; exact p
      | bad => rw [e] at p; exact p
      | err c2 fs ρ2 h2 => rw [e] at p; simp only [hP'] at p; exact False.elim p
    · rw [if_neg ne] at p; exact False.elim p
/-- a suite that handles -/
inductive HotS : Mn.S → Prop
  | asg (j : Nat) (m : E) : HotS (.asg (.nm j) m)
  | ret (m : E) : HotS (.ret m)
theorem hotE_noerr {P : Pg} {N : List Str} {sc : Scope} {e : Expr} {m : E} (h : hotE N sc e = some m) (ρ : Env') (hh : MH) (c : String) (fs : List (String × Val)) (h' : MH) : evE P m ρ hh ≠ .err c fs h' := by
  unfold hotE at h
  split at h
  · obtain ⟨v, _, rfl⟩ := Option.map_eq_some_iff.mp h
    intro z; simp only [evE] at z; cases z
  · split at h
    · split at h
      · rename_i i v _ _
        cases h
        intro z
        simp only [evE, getV] at z
        split at z
        · exact binop_noerr _ _ _ _ _ _ _ z
        · cases z
      · cases h
    · cases h
  · cases h
theorem pe_hot {X' : Cx} {W' : WX} {e : Expr} {m : E} (hK : X'.K = L.K) (hN : X'.N = N) (hsc : X'.env.scope = sc) (h : hotE N sc e = some m) : PE X' e (tM L P W' m) := by
  unfold hotE at h
  split at h
  · obtain ⟨v, hv, rfl⟩ := Option.map_eq_some_iff.mp h
    exact pe_con hv
  · rename_i x p c j p2 p3
    by_cases z : (spC x && decide (sc.names.lookup x = some .local)) = true
    · rw [if_pos z] at h
      split at h
      · rename_i i v h1 h2
        cases h
        simp only [Bool.and_eq_true, decide_eq_true_eq] at z
        obtain ⟨z1, z2⟩ := z
        unfold spC at z1
        simp only [Bool.and_eq_true, Bool.not_eq_true'] at z1
        have pv : PE X' (.Name x p) (tM L P W' (.var i)) := by
          refine PE.weak (pe_var (i := i) (by rw [hN]; exact idxN_ok h1) (by rw [hsc]; exact .inl z2) z1.1.1 z1.1.2) fun σ H Q ⟨φ, h, ρ, R, En, p⟩ => ?_
          simp only [evE, getV] at p
          cases e : ρ[i]? with
          | none => rw [e] at p; exact False.elim p
          | some o =>
            cases o with
            | none => rw [e] at p; exact False.elim p
            | some v =>
              rw [e] at p
              obtain ⟨y, h1, h2⟩ := En.get i v e
              exact ⟨y, h1, Post.here R h2 p⟩
        exact PE.weak (pe_op (bin_all hK .Add) pv (pe_con h2)) fun _ _ _ q => two_of (fun _ _ _ _ z => z) (binop_noerr .Add) (fun ρ h => by simp only [evE]) q
      · cases h
    · rw [if_neg z] at h; cases h
  · cases h
/-- try: .. except c: a suite that handles -/
theorem ps_onlyM (S : Ss tb L P k X N sc W) (nc : tb.nc = false) {s : String} {body : List Stmt} {xs : List Mn.S} {st0 : Stmt} {st : Mn.S} {e : Expr} {m : E} {p1 p5 pos : Pos} (hg : Mn.gl sc (Str.ofString s) = true) (hc : spC (Str.ofString s) = true) (he : hotE N sc e = some m)
    (hst : (∃ t p2 p4 j, st0 = .Assign [.Name t p2] e p4 ∧ st = .asg (.nm j) m ∧ idxN N t = some j ∧ sc.names.lookup t = some .local) ∨ ∃ p4, st0 = .Return (some e) p4 ∧ st = .ret m)
    (hb : ∀ X' W', Ss (deepT tb) L P k X' N sc W' → PSs X' body (tSs L P W' xs)) :
    PS X (.Try body [.ExceptHandler (some (.Name (Str.ofString s) p1)) none [st0] p5] [] [] pos) (tS L P W (.tryS xs [(s, none, [st])])) := by
  unfold spC at hc
  simp only [Bool.and_eq_true, Bool.not_eq_true'] at hc
  have ev : ∀ ρ h, evS P (.tryS xs [(s, none, [st])]) ρ h = onlyR P s (fun ρ2 h2 => evS P st ρ2 h2) (evB P xs ρ h) := by
    intro ρ h
    rcases hst with ⟨t, p2, p4, j, rfl, rfl, hj, hl⟩ | ⟨p4, rfl, rfl⟩
    · simp only [evS, bindT]
      all_goals first | rfl | (congr 1; funext ρ2 h2; cases evE P m ρ2 h2 <;> rfl)
    · simp only [evS]
  by_cases hP : ∃ c b, P.exm c s = some b
  · obtain ⟨c0, b0, hb0⟩ := hP
    obtain ⟨C, hm, hex⟩ := S.S.pr.exm _ _ _ hb0
    have hsu : ∀ (a : Addr) (oe : Obj) (cls : Value) (d : Option Addr) (pn : List (Addr × Obj)), PSs (X.suite a ((a, oe) :: pn)) [st0] (tSs L P (fun _ _ _ _ => False) [st]) := by
      intro a oe cls d pn
      refine pss_consM ?_ pss_nilM
      have pe : PE (X.suite a ((a, oe) :: pn)) e (tM L P (fun _ _ _ _ => False) m) := pe_hot S.S.hK S.S.hN S.S.hsc he
      rcases hst with ⟨t, p2, p4, j, rfl, rfl, hj, hl⟩ | ⟨p4, rfl, rfl⟩
      · have hp := pg_name (X := X.suite a ((a, oe) :: pn)) (pos := p2) (i := j) (x := t) (by show X.N.Nodup; rw [S.S.hN]; exact S.S.nd) (by show X.N[j]? = some t; rw [S.S.hN]; exact idxN_ok hj) (.inl (by show X.env.scope.names.lookup t = _; rw [S.S.hsc]; exact hl)) (.inr (by show X.env.scope.names.lookup t = _; rw [S.S.hsc]; exact hl))
        have pg : PG (X.suite a ((a, oe) :: pn)) (.Name t p2) (gA L (.nm j)) := ⟨fun pins s σ H v u Q I r ⟨φ, hh, ρ, ρ', w, R, rw_, En, eb, q⟩ => hp.run pins s σ H v u Q I r (by
          cases eb
          exact q _ (En.set rw_ j) (fun i hi => List.getElem?_set_ne (Ne.symm hi)) (by simp))⟩
        refine ps_asgM pe pg ?_ ?_ rfl
        · unfold hotE at he
          split at he <;> first | rfl | cases he
        · unfold hotE at he
          split at he <;> first | rfl | cases he
      · exact ps_retM pe
    refine PS.weak (ps_try_only (c := .ref C) (tb := fun W' => tSs L P W' xs) (ts := fun _ _ _ => tSs L P (fun _ _ _ _ => False) [st]) S.st S.fr ⟨S.S.gl hg, hc.1.1, .inl hm⟩ (S.S.tk.off nc)
      (fun W' pn xe tk pw => hb _ _ ⟨⟨⟨S.S.hK, S.S.hN, S.S.nd, S.S.hsc, takb_of nc tk, S.S.fnc, deep_ok S.S.pr⟩, S.S.room, S.S.calm⟩, pw, S.st, S.fr, S.ex, fun z => absurd rfl z⟩) (fun a oe cls d pn _ _ => hsu a oe cls d pn)) fun D σ H ⟨φ, h, ρ, R, En, p⟩ => ?_
    rw [ev] at p
    refine ⟨φ, h, ρ, R, En, ?_⟩
    unfold onlyR at p
    cases eb : evB P xs ρ h with
    | nx ρ h' => rw [eb] at p; exact p
    | bk ρ h' => rw [eb] at p; exact p
    | ct ρ h' => rw [eb] at p; exact p
    | rt v h' => rw [eb] at p; exact p
    | bad => rw [eb] at p; exact p
    | err c2 fs ρ2 h2 =>
      rw [eb] at p
      simp only at p
      intro cls d σ' H' φ' x R' En' q
      cases em : P.exm c2 s with
      | none => rw [em] at p; exact False.elim p
      | some b =>
        rw [em] at p
        obtain ⟨C', hm', hx'⟩ := S.S.pr.exm _ _ _ em
        rw [hm] at hm'; cases hm'
        obtain ⟨C2, hC2, rfl, _⟩ := id q
        cases b with
        | false => exact False.elim p
        | true =>
          simp only at p
          refine ⟨true, by rw [S.S.hK]; exact hx' _ hC2, fun _ a na => ?_, fun z => by cases z⟩
          refine ⟨φ', h2, ρ2, R', En', ?_⟩
          have p2 := PostS.step x p
          have ne : ∀ c fs ρ3 h3, evS P st ρ2 h2 ≠ .err c fs ρ3 h3 := by
            intro c fs ρ3 h3 z
            rcases hst with ⟨t, q2, q4, j, rfl, rfl, hj, hl⟩ | ⟨q4, rfl, rfl⟩
            · simp only [evS, bindT] at z
              cases ee : evE P m ρ2 h2 with
              | ok v h => rw [ee] at z; cases z
              | err c fs h => exact hotE_noerr he _ _ _ _ _ ee
              | bad => rw [ee] at z; cases z
            · simp only [evS] at z
              cases ee : evE P m ρ2 h2 with
              | ok v h => rw [ee] at z; cases z
              | err c fs h => exact hotE_noerr he _ _ _ _ _ ee
              | bad => rw [ee] at z; cases z
          have eb2 : evB P [st] ρ2 h2 = evS P st ρ2 h2 := by
            simp only [evB]
            cases evS P st ρ2 h2 <;> rfl
          rw [eb2]
          cases es : evS P st ρ2 h2 with
          | nx ρ h' => rw [es] at p2; exact p2
          | bk ρ h' => rw [es] at p2; exact p2
          | ct ρ h' => rw [es] at p2; exact p2
          | rt v h' => rw [es] at p2; exact p2
          | bad => rw [es] at p2; exact p2
          | err c fs ρ3 h3 => exact absurd es (ne _ _ _ _)
  · have hP' : ∀ c, P.exm c s = none := fun c => by
      cases e : P.exm c s with
      | none => rfl
      | some b => exact absurd ⟨c, b, e⟩ hP
    refine PS.weak (ps_try_thru0 (hb X.nox (fun _ _ _ _ => False) ⟨⟨⟨S.S.hK, S.S.hN, S.S.nd, S.S.hsc, takb0, S.S.fnc, deep_ok S.S.pr⟩, S.S.room, S.S.calm⟩, PassesOwn.never, S.st, S.fr, S.ex, fun z => absurd rfl z⟩)) fun D σ H ⟨φ, h, ρ, R, En, p⟩ => ?_
    rw [ev] at p
    refine ⟨φ, h, ρ, R, En, ?_⟩
    unfold onlyR at p
    cases eb : evB P xs ρ h with
    | nx ρ h' => rw [eb] at p; exact p
    | bk ρ h' => rw [eb] at p; exact p
    | ct ρ h' => rw [eb] at p; exact p
    | rt v h' => rw [eb] at p; exact p
    | bad => rw [eb] at p; exact p
    | err c2 fs ρ2 h2 => rw [eb] at p; simp only [hP'] at p; exact False.elim p
/-! suites that look at the exception they handle -/
theorem EnvR.gone {φ : Ph} {H : Hp} {ρ : Env'} {σ : L2.St} (En : EnvR L φ H ρ σ) (i : Nat) : EnvR L φ H (ρ.set i none) (σ.set i none) := by
  refine ⟨by simp [En.len], fun l v hl => ?_⟩
  by_cases li : i = l
  · subst li
    by_cases ll : i < ρ.length
    · rw [List.getElem?_set_self ll] at hl; cases hl
    · rw [List.getElem?_eq_none (by simpa using ll)] at hl; cases hl
  · rw [List.getElem?_set_ne li] at hl ⊢
    exact En.get l v hl
/-- isinstance(e, (c1, ..)), e a kept exception -/
noncomputable def rIsXT (K : PySem.W.Frag) : List V → Hp → VK → Prop := fun xs H Q => ∃ (a C tp : Addr) (d : Option Addr) (cs : List V) (us : List Value) (b : Bool), xs = [.ref a, .ref tp] ∧ H tp = some (.tup cs) ∧ Paired ClsV cs us ∧ H a = some (exH a (.ref C) d) ∧ (∀ dd, d = some dd → ∃ fs, H dd = some (.xd fs)) ∧ ExK K C ∧ PySem.W.kitAny K (.ref C) us = some b ∧ Q (.bl b) H
theorem call_isXT {X : Cx} : CallR X (.builtin "isinstance") (rIsXT X.K) := by
  intro pins s σ H xs us Q I r h
  obtain ⟨a, C, tp, d, cs, ws, b, rfl, hT, k, ea, hd, T, e, q⟩ := h
  obtain ⟨u1, u2, rfl, r1, r2⟩ := vals2 r
  cases (show u1 = Value.ref a from r1)
  cases (show u2 = Value.ref tp from r2)
  obtain ⟨oe, od, J⟩ := inst_of I.hok ea hd
  obtain ⟨cd, hcd, _⟩ := PySem.W.any_some T.hd
  have hob : ObjOk X.prog X.w H s.heap tp (.tup cs) := I.hok tp _ hT
  obtain ⟨_, its, rv, ob, h1, h2, m, h3⟩ := hob
  have e3 := ClsV.all k rv
  subst e3
  obtain ⟨oc, od', dt, sl⟩ := ob
  simp only at h2 h3
  subst h2 h3
  exact PySem.W.kia_tup (PySem.W.kitx_exc (by rw [hcd]; rfl) T.ga T.gg T.ex T.ha T.hn T.ht T.hm) I.kIn J h1 e (fun z => nomatch z) fun tk => ⟨.bl b, H, I.tok tk, rfl, q⟩
noncomputable def KTy (L : Lk) (P : Pg) (t : String) (u : Value) : Prop := ∀ cl b, P.sub cl t = some b → PySem.W.kitOne L.K (tyV' L cl) u = some b
noncomputable def tCl (cs : List V) : TA := fun _ H Q => Q cs H
theorem names_pa (S : Sy tb L P k X false N sc W) : ∀ (es : List Expr) (l : List String), namesOf tb sc es = some l → ∃ cs us, PA X es (tCl cs) ∧ Paired ClsV cs us ∧ Paired (KTy L P) l us ∧ es.all okE = true ∧ cs.length = es.length
  | [], l, h => by
    cases h
    exact ⟨[], [], PA.weak pa_nil fun _ _ _ q => q, .nil, .nil, rfl, rfl⟩
  | e :: r, l, h => by
    unfold namesOf at h
    split at h
    · rename_i heq; cases heq
    · rename_i t pt r' heq
      cases heq
      split at h
      · rename_i c
        split at h
        · rename_i s l' e1 e2
          split at h
          · rename_i c2
            cases h
            obtain ⟨cs, us, q1, q2, q3, q4, q5⟩ := names_pa S r l' e2
            have e := nmS_ok e1
            subst e
            obtain ⟨c', u, hcu, hk⟩ := S.pr.isi s c2
            simp only [Bool.and_eq_true] at c
            have hc := c.2
            unfold spC at hc
            simp only [Bool.and_eq_true, Bool.not_eq_true'] at hc
            have hn : Str.ofString s ≠ "__name__" := fun z => by
              have := hc.2
              rw [z] at this
              simp at this
            have hN : PE X (.Name (Str.ofString s) pt) (tC c') ∧ ClsV c' u := by
              rcases hcu with ⟨T, rfl, rfl, e1, e2⟩ | ⟨C, rfl, rfl, e1⟩
              · exact ⟨pe_bltn (S.gl c.1) e1 e2 rfl hn hc.1.1, .ty T⟩
              · exact ⟨pe_glob (S.gl c.1) e1 rfl hc.1.1, .own C⟩
            exact ⟨c' :: cs, u :: us, PA.weak (pa_cons hN.1 q1 rfl) fun _ _ _ q => q, .cons hN.2 q2, .cons hk q3, by simp [okE, q4], by simp [q5]⟩
          · cases h
        · cases h
      · cases h
    · cases h
theorem isi_any {i : Nat} {v : Val} {cl : String} {ρ : Env'} {h : MH} (hv : getV ρ i h = .ok v h) (ht : tyOf h v = some cl) : ∀ {l : List String} {us : List Value}, Paired (KTy L P) l us → evE P (isiE i l) ρ h ≠ .bad →
    ∃ b, evE P (isiE i l) ρ h = .ok (.bl b) h ∧ PySem.W.kitAny L.K (tyV' L cl) us = some b
  | _, _, .nil, _ => ⟨false, by simp only [isiE, evE], rfl⟩
  | _, _, .cons (a := t) (l₁ := r) kt ps, hb => by
    have e0 : evE P (isiE i (t :: r)) ρ h = (isInst P v t h).bind fun x h1 => match x with
      | .bl true => .ok (.bl true) h1
      | .bl false => evE P (isiE i r) ρ h1
      | _ => .bad := by
      simp only [isiE, evE, hv, bind_ok]
      all_goals rfl
    have e1 : isInst P v t h = retO ((P.sub cl t).map .bl) h := by
      unfold isInst; rw [ht]; rfl
    rw [e0, e1] at hb ⊢
    cases e2 : P.sub cl t with
    | none => rw [e2] at hb; exact absurd rfl hb
    | some b =>
      rw [e2] at hb
      have kk := kt cl b e2
      cases b with
      | true => exact ⟨true, rfl, kitAny_cons kk (fun z => by cases z) fun _ => rfl⟩
      | false =>
        obtain ⟨b', q1, q2⟩ := isi_any hv ht ps hb
        exact ⟨b', q1, kitAny_cons kk (fun _ => q2) fun z => by cases z⟩
theorem pe_isiT (S : Sy tb L P k X false N sc W) {x : Expr} {i : Nat} {t0 : Expr} {ts : List Expr} {l : List String} {k3 : Nat} {p p2 pos : Pos} (hg : Mn.gl sc (Str.ofString "isinstance") = true) (ha : PE X x (tM L P W (.var i))) (hl : namesOf tb sc (t0 :: ts) = some l) (hz : (t0 :: ts).length ≤ sizeLine) (ok : okE x = true := by rfl) :
    PE X (.Call (.Name (Str.ofString "isinstance") p) [x, .Tuple (t0 :: ts) k3 p2] [] pos) (tM L P W (isiE i l)) := by
  obtain ⟨cs, us, q1, q2, q3, q4, q5⟩ := names_pa S _ _ hl
  refine PE.weak (pe_callB (call_isiT.or call_isXT) (S.gl hg) (S.pr.blt "isinstance" (by decide)) (by decide +kernel) (pa_cons ha (pa_cons (pe_tup q1) pa_nil rfl) (okE_star ok _ _)) (by decide +kernel) (by decide +kernel) (okE_star ok _ _) rfl) fun σ H Q ⟨φ, h, ρ, R, En, pp⟩ => ?_
  have nb : evE P (isiE i l) ρ h ≠ .bad := fun z => by rw [z] at pp; exact pp
  obtain ⟨v, hv⟩ : ∃ v, getV ρ i h = .ok v h := by
    cases q3 with
    | nil => cases q2; cases q5
    | cons kt ps =>
      simp only [isiE, evE] at nb
      unfold getV at nb ⊢
      cases e : ρ[i]? with
      | none => rw [e] at nb; exact absurd rfl nb
      | some o => cases o with
        | none => rw [e] at nb; exact absurd rfl nb
        | some v => exact ⟨v, rfl⟩
  obtain ⟨cl, ht⟩ : ∃ cl, tyOf h v = some cl := by
    cases q3 with
    | nil => cases q2; cases q5
    | cons kt ps =>
      simp only [isiE, evE, hv, bind_ok] at nb
      cases e : tyOf h v with
      | none => unfold isInst at nb; rw [e] at nb; exact absurd rfl nb
      | some c => exact ⟨c, rfl⟩
  obtain ⟨b, e1, e2⟩ := isi_any (L := L) hv ht q3 nb
  rw [e1] at pp
  refine ⟨φ, h, ρ, R, En, ?_⟩
  simp only [evE, hv]
  intro y H1 φ1 E1 R1 r1
  refine ⟨by rw [q5]; exact hz, fun a hN => ?_⟩
  have E2 : Ext L φ1 H1 φ1 (upd H1 a (.tup cs)) := Ext.side hN
  have R2 : Rel L φ1 h (upd H1 a (.tup cs)) := R1.side hN
  have r2 := r1.mono E2
  have fin : Q (.bl b) (upd H1 a (.tup cs)) := pp (.bl b) _ φ1 (E1.trans E2) R2 (.bl b)
  show rIsiT X.K [y, .ref a] (upd H1 a (.tup cs)) Q ∨ rIsXT X.K [y, .ref a] (upd H1 a (.tup cs)) Q
  by_cases nx : ∃ c fs, v = .exc c fs
  · obtain ⟨c', fs, rfl⟩ := nx
    obtain ⟨a', C, d, rfl, hC, ha', hd⟩ := exc_at r2
    cases ht
    unfold tyV' at e2
    rw [hC] at e2
    exact .inr ⟨a', C, a, d, cs, us, b, rfl, upd_same, q2, ha', hd, by rw [S.hK]; exact S.pr.exk _ _ hC, by rw [S.hK]; exact e2, fin⟩
  · exact .inl ⟨y, a, cs, tyV' L cl, us, b, rfl, upd_same, q2, ty_ok S R2 r2 ht (fun c fs z => nx ⟨c, fs, z⟩), by rw [S.hK]; exact e2, fin⟩
noncomputable def HotE (tb : Tb) (L : Lk) (P : Pg) (k : Nat) (n : Nat) : Prop := ∀ N sc X W e m, Sy tb L P k X false N sc W → hotX tb N sc n e = some m → okE e = true ∧ (∀ a b c d, e ≠ .ListComp a b c d) ∧ PE X e (tM L P W m)
noncomputable def HotEs (tb : Tb) (L : Lk) (P : Pg) (k : Nat) (n : Nat) : Prop := ∀ N sc X W es ms, Sy tb L P k X false N sc W → hotXs tb N sc n es = some ms → PA X es (tMs L P W ms)
noncomputable def HotBo (tb : Tb) (L : Lk) (P : Pg) (k : Nat) (n : Nat) : Prop := ∀ N sc X W op a r m pos, Sy tb L P k X false N sc W → hotBo tb N sc n op a r = some m → PE X (.BoolOp op (a :: r) pos) (tM L P W m)
theorem hot_e (h1 : HotE tb L P k n) (h2 : HotEs tb L P k n) (h3 : HotBo tb L P k n) : HotE tb L P k (n + 1) := by
  intro N sc X W e m S h
  simp only [hotX] at h
  split at h
  · rename_i x p
    by_cases z : (spC x && decide (sc.names.lookup x = some .local)) = true
    · rw [if_pos z] at h
      obtain ⟨i, hi, rfl⟩ := Option.map_eq_some_iff.mp h
      simp only [Bool.and_eq_true, decide_eq_true_eq] at z
      exact ⟨rfl, (fun _ _ _ _ z => by cases z), pe_varM S hi (.inl z.2) z.1⟩
    · rw [if_neg z] at h; cases h
  · obtain ⟨v, hv, rfl⟩ := Option.map_eq_some_iff.mp h
    exact ⟨rfl, (fun _ _ _ _ z => by cases z), pe_con hv⟩
  · obtain ⟨x, hx, rfl⟩ := Option.map_eq_some_iff.mp h
    exact ⟨rfl, (fun _ _ _ _ z => by cases z), pe_notM (h1 _ _ _ _ _ _ S hx).2.2⟩
  · exact ⟨rfl, (fun _ _ _ _ z => by cases z), h3 _ _ _ _ _ _ _ _ _ S h⟩
  · obtain ⟨x, hx, rfl⟩ := Option.map_eq_some_iff.mp h
    exact ⟨rfl, (fun _ _ _ _ z => by cases z), pe_lstM (h2 _ _ _ _ _ _ S hx)⟩
  · rename_i o f p
    by_cases z : okB o = true
    · rw [if_pos z] at h
      split at h
      · rename_i s x e0 e1
        cases h
        have e := nmS_ok e0
        subst e
        exact ⟨rfl, (fun _ _ _ _ z => by cases z), pe_fldM S z (h1 _ _ _ _ _ _ S e1).2.2⟩
      · cases h
    · rw [if_neg z] at h; cases h
  · rename_i f p1 a t p2 p3
    by_cases z : (decide (f = Str.ofString "isinstance") && gl sc f && okE a && gl sc t && spC t) = true
    · rw [if_pos z] at h
      split at h
      · rename_i x ts e1 e2
        by_cases y : tb.isi.contains ts = true
        · rw [if_pos y] at h
          cases h
          have e := nmS_ok e2
          subst e
          simp only [Bool.and_eq_true, decide_eq_true_eq] at z
          obtain ⟨⟨⟨⟨z1, z2⟩, z3⟩, z4⟩, z5⟩ := z
          subst z1
          exact ⟨rfl, (fun _ _ _ _ z => by cases z), pe_isiM S z2 z4 z5 y z3 (h1 _ _ _ _ _ _ S e1).2.2⟩
        · rw [if_neg y] at h; cases h
      · cases h
    · rw [if_neg z] at h; cases h
  · rename_i f p1 x p2 t0 ts k3 p3 p4
    by_cases z : (decide (f = Str.ofString "isinstance") && gl sc f && spC x && decide (sc.names.lookup x = some .local) && decide (ts.length < 20)) = true
    · rw [if_pos z] at h
      split at h
      · rename_i i l e1 e2
        cases h
        simp only [Bool.and_eq_true, decide_eq_true_eq] at z
        obtain ⟨⟨⟨⟨z1, z2⟩, z3⟩, z4⟩, z5⟩ := z
        subst z1
        exact ⟨rfl, (fun _ _ _ _ z => by cases z), pe_isiT S z2 (pe_varM S e1 (.inl z4) z3) e2 (by
          have : (4096 : Nat) < sizeLine := by decide
          simp only [List.length_cons]; omega)⟩
      · cases h
    · rw [if_neg z] at h; cases h
  · cases h
theorem hot_es (h1 : HotE tb L P k n) (h2 : HotEs tb L P k n) : HotEs tb L P k (n + 1) := by
  intro N sc X W es ms S h
  simp only [hotXs] at h
  cases es with
  | nil => cases h; exact pa_nilM
  | cons e r =>
    simp only at h
    split at h
    · rename_i x xs e1 e2
      cases h
      obtain ⟨a1, _, a2⟩ := h1 _ _ _ _ _ _ S e1
      exact pa_consM a1 a2 (h2 _ _ _ _ _ _ S e2)
    · cases h
theorem hot_bo (h1 : HotE tb L P k n) (h2 : HotBo tb L P k n) : HotBo tb L P k (n + 1) := by
  intro N sc X W op a r m pos S h
  simp only [hotBo] at h
  cases r with
  | nil => exact pe_one (h1 _ _ _ _ _ _ S h).2.2
  | cons b r' =>
    simp only at h
    split at h
    · rename_i x y e1 e2
      have a2 := (h1 _ _ _ _ _ _ S e1).2.2
      have b1 := h2 _ _ _ _ _ _ _ _ pos S e2
      cases op with
      | And => cases h; exact pe_andM a2 b1
      | Or => cases h; exact pe_orM a2 b1
    · cases h
theorem hot_all : ∀ n, HotE tb L P k n ∧ HotEs tb L P k n ∧ HotBo tb L P k n
  | 0 => ⟨(fun _ _ _ _ _ _ _ h => by simp only [hotX] at h; cases h), (fun _ _ _ _ _ _ _ h => by simp only [hotXs] at h; cases h), (fun _ _ _ _ _ _ _ _ _ _ h => by simp only [hotBo] at h; cases h)⟩
  | n + 1 => ⟨hot_e (hot_all n).1 (hot_all n).2.1 (hot_all n).2.2, hot_es (hot_all n).1 (hot_all n).2.1, hot_bo (hot_all n).1 (hot_all n).2.2⟩
theorem hot_ss (S : Sy tb L P k X false N sc W) : ∀ (ss : List Stmt) (ms : List Mn.S), hotSs tb N sc n ss = some ms → PSs X ss (tSs L P W ms) ∧ ∀ ρ h, evB P ms ρ h = hotA P ms ρ h := by
  intro ss
  induction ss with
  | nil => intro ms h; simp only [hotSs] at h; cases h; exact ⟨pss_nilM, fun _ _ => by simp only [evB, hotA]⟩
  | cons s0 r ih =>
    intro ms h
    unfold hotSs at h
    split at h
    · rename_i z; cases z
    · rename_i t p2 e p4 r' z
      cases z
      split at h
      · rename_i y
        split at h
        · rename_i j m l h1 h2 h3
          cases h
          obtain ⟨a1, a2, a3⟩ := (hot_all n).1 _ _ _ _ _ _ S h2
          obtain ⟨i1, i2⟩ := ih _ h3
          have hl := of_decide_eq_true y
          have hp := pg_name (X := X) (pos := p2) (i := j) (x := t) (by rw [S.hN]; exact S.nd) (by rw [S.hN]; exact idxN_ok h1) (.inl (by rw [S.hsc]; exact hl)) (.inr (by rw [S.hsc]; exact hl))
          have pg : PG X (.Name t p2) (gA L (.nm j)) := ⟨fun pins s σ H v u Q I r ⟨φ, hh, ρ, ρ', w, R, rw_, En, eb, q⟩ => hp.run pins s σ H v u Q I r (by
            cases eb
            exact q _ (En.set rw_ j) (fun i hi => List.getElem?_set_ne (Ne.symm hi)) (by simp))⟩
          refine ⟨pss_consM (ps_asgM a3 pg ?_ ?_ rfl) i1, fun ρ h => ?_⟩
          · exact okE_notSwap a1 a2 (some (.Name t p2)) p4.line X.env
          · cases e <;> first | rfl | exact absurd a1 (by simp [okE])
          · simp only [evB, evS, hotA, bindT]
            cases evE P m ρ h with
            | ok v h1 => exact i2 _ _
            | err c fs h1 => rfl
            | bad => rfl
        · cases h
      · cases h
    · rename_i e p4 r' z
      cases z
      split at h
      · rename_i m l h2 h3
        cases h
        obtain ⟨a1, a2, a3⟩ := (hot_all n).1 _ _ _ _ _ _ S h2
        obtain ⟨i1, i2⟩ := ih _ h3
        refine ⟨pss_consM (ps_retM a3) i1, fun ρ h => ?_⟩
        simp only [evB, evS, hotA]
        cases evE P m ρ h with
        | ok v h1 => rfl
        | err c fs h1 => rfl
        | bad => rfl
      · cases h
    · cases h
theorem hda_of (S : Ss tb L P k X N sc W) : ∀ (hds : List ExceptHandler) (hs : List (String × Option Nat × List Mn.S)), holdsOf tb N sc n hds = some hs → ∃ l, HdA X hds l ∧ ∀ c fs ρ h φ H σ D cls d, Rel L φ h H → EnvR L φ H ρ σ → ExR L φ H c fs cls d → PostS L φ H (hotR P c fs ρ h hs) D W → wHold X.K D l cls d σ H := by
  intro hds
  induction hds with
  | nil => intro hs h; simp only [holdsOf] at h; cases h; exact ⟨[], .nil, fun c fs ρ h φ H σ D cls d R En q p => by simp only [hotR] at p; exact p⟩
  | cons h0 r ih =>
    intro hs h
    unfold holdsOf at h
    split at h
    · rename_i z; cases z
    · rename_i x p1 t b0 suite p5 r' z
      cases z
      split at h
      · rename_i y
        split at h
        · rename_i s i b l h1 h2 h3 h4
          cases h
          obtain ⟨l', k1, k2⟩ := ih _ h4
          have e := nmS_ok h1
          subst e
          simp only [Bool.and_eq_true, decide_eq_true_eq] at y
          obtain ⟨⟨y1, y2⟩, y3⟩ := y
          unfold spC at y2
          simp only [Bool.and_eq_true, Bool.not_eq_true'] at y2
          by_cases hP : ∃ c b, P.exm c s = some b
          · obtain ⟨c0, b1, hb1⟩ := hP
            obtain ⟨C, hm, hex⟩ := S.S.pr.exm _ _ _ hb1
            have Sh : ∀ a, Sy tb L P k (X.suite a X.pn) false N sc (fun _ _ _ _ => False) := fun a => ⟨S.S.hK, S.S.hN, S.S.nd, S.S.hsc, takb0, S.S.fnc, S.S.pr⟩
            refine ⟨(.ref C, i, tSs L P (fun _ _ _ _ => False) b) :: l', .cons (by rw [S.S.hN]; exact idxN_ok h2) (by rw [S.S.hsc]; exact y3) (S.S.gl y1) y2.1.1 hm (fun a => (hot_ss (Sh a) _ _ h3).1) k1, ?_⟩
            intro c fs ρ h φ H σ D cls d R En q p
            simp only [hotR] at p
            cases em : P.exm c s with
            | none => rw [em] at p; exact False.elim p
            | some bb =>
              rw [em] at p
              obtain ⟨C', hm', hx'⟩ := S.S.pr.exm _ _ _ em
              rw [hm] at hm'; cases hm'
              obtain ⟨C2, hC2, rfl, _⟩ := id q
              refine ⟨bb, by rw [S.S.hK]; exact hx' _ hC2, fun z a na => ?_, fun z => ?_⟩
              · subst z
                simp only at p
                by_cases hil : i < ρ.length
                · rw [if_pos hil] at p
                  have E2 : Ext L φ H φ (upd H a (exH a (.ref C2) d)) := Ext.side na
                  refine ⟨φ, h, ρ.set i (some (.exc c fs)), R.side na, (En.mono E2).set (cons_ok R q na) i, ?_⟩
                  have p2 := PostS.step E2 p
                  rw [(hot_ss (Sh a) _ _ h3).2]
                  cases er : hotA P b (ρ.set i (some (.exc c fs))) h with
                  | nx ρ2 h2 => rw [er] at p2; exact fun σ' H' φ' x R' En' => p2 _ H' φ' x R' (En'.gone i)
                  | rt v h2 => rw [er] at p2; exact p2
                  | bk ρ2 h2 => rw [er] at p2; exact False.elim p2
                  | ct ρ2 h2 => rw [er] at p2; exact False.elim p2
                  | err c fs ρ2 h2 => rw [er] at p2; exact False.elim p2
                  | bad => rw [er] at p2; exact False.elim p2
                · rw [if_neg hil] at p; exact False.elim p
              · subst z
                exact k2 c fs ρ h φ H σ D _ d R En q p
          · refine ⟨[], .nil, fun c fs ρ h φ H σ D cls d R En q p => ?_⟩
            have hP' : P.exm c s = none := by
              cases e : P.exm c s with
              | none => rfl
              | some b => exact absurd ⟨c, b, e⟩ hP
            simp only [hotR, hP'] at p
            exact False.elim p
        · cases h
      · cases h
    · cases h
/-- try: .. except c as i: a suite that may look at it -/
theorem ps_thruM (S : Ss tb L P k X N sc W) {body : List Stmt} {xs : List Mn.S} {h0 : ExceptHandler} {hds : List ExceptHandler} {pos : Pos} (hb : ∀ X' W', Ss (deepT tb) L P k X' N sc W' → PSs X' body (tSs L P W' xs)) :
    PS X (.Try body (h0 :: hds) [] [] pos) (tS L P W (.thru xs)) := by
  refine PS.weak (ps_try_thru0 (hb X.nox (fun _ _ _ _ => False) ⟨⟨⟨S.S.hK, S.S.hN, S.S.nd, S.S.hsc, takb0, S.S.fnc, deep_ok S.S.pr⟩, S.S.room, S.S.calm⟩, PassesOwn.never, S.st, S.fr, S.ex, fun z => absurd rfl z⟩)) fun D σ H ⟨φ, h, ρ, R, En, p⟩ => ?_
  simp only [evS] at p
  refine ⟨φ, h, ρ, R, En, ?_⟩
  unfold thruR at p
  cases eb : evB P xs ρ h with
  | nx ρ h' => rw [eb] at p; exact p
  | bk ρ h' => rw [eb] at p; exact p
  | ct ρ h' => rw [eb] at p; exact p
  | rt v h' => rw [eb] at p; exact p
  | bad => rw [eb] at p; exact p
  | err c2 fs ρ2 h2 => rw [eb] at p; exact False.elim p
theorem ps_holdM (S : Ss tb L P k X N sc W) (nc : tb.nc = false) {body : List Stmt} {xs : List Mn.S} {h0 : ExceptHandler} {hds : List ExceptHandler} {hs : List (String × Option Nat × List Mn.S)} {pos : Pos} (hh : holdsOf tb N sc n (h0 :: hds) = some hs)
    (hb : ∀ X' W', Ss (deepT tb) L P k X' N sc W' → PSs X' body (tSs L P W' xs)) :
    PS X (.Try body (h0 :: hds) [] [] pos) (tS L P W (.tryS xs (("", none, []) :: hs))) := by
  obtain ⟨l, k1, k2⟩ := hda_of S _ _ hh
  refine PS.weak (ps_hold (tb := fun W' => tSs L P W' xs) S.st S.fr S.ex (by rw [S.S.hN]; exact S.S.nd)
    (fun W' pn xe tk pw => hb _ _ ⟨⟨⟨S.S.hK, S.S.hN, S.S.nd, S.S.hsc, takb_of nc tk, S.S.fnc, deep_ok S.S.pr⟩, S.S.room, S.S.calm⟩, pw, S.st, S.fr, S.ex, fun z => absurd rfl z⟩) k1) fun D σ H ⟨φ, h, ρ, R, En, p⟩ => ?_
  simp only [evS] at p
  refine ⟨φ, h, ρ, R, En, ?_⟩
  unfold holdR at p
  cases eb : evB P xs ρ h with
  | nx ρ h' => rw [eb] at p; exact p
  | bk ρ h' => rw [eb] at p; exact p
  | ct ρ h' => rw [eb] at p; exact p
  | rt v h' => rw [eb] at p; exact p
  | bad => rw [eb] at p; exact p
  | err c2 fs ρ2 h2 =>
    rw [eb] at p
    simp only at p
    exact fun cls d σ' H' φ' x R' En' q => k2 c2 fs ρ2 h2 φ' H' σ' D cls d R' En' q (PostS.step x p)
theorem ps_fldM (S : Sx tb L P k X false N sc W) {f : String} {o e : Expr} {x m : E} {p pos : Pos} (oke : okE e = true) (ho : PE X o (tM L P W x)) (he : PE X e (tM L P W m)) : PS X (.Assign [.Attribute o (Str.ofString f) p] e pos) (tS L P W (.fld x f m)) := by
  have hs : swapsWith e (some (.Attribute o (Str.ofString f) p)) pos.line X.env = pure false := by
    cases e <;> first | rfl | exact absurd oke (by simp [okE])
  refine PS.weak (ps_fld ho he hs) fun D σ H ⟨φ, h, ρ, R, En, p⟩ => ?_
  simp only [evS] at p
  refine ⟨φ, h, ρ, R, En, (PostS.ofRes (rel := vR L) En p).imp fun v H1 ⟨φ1, h1, a, E1, R1, r1, p1⟩ => ?_⟩
  refine ⟨φ1, h1, ρ, R1, En.mono E1, (PostS.ofRes (rel := vR L) (En.mono E1) p1).imp fun ov H2 ⟨φ2, h2, b, E2, R2, r2, p2⟩ => ?_⟩
  have En2 := (En.mono E1).mono E2
  cases b <;> first | exact False.elim p2 | skip
  rename_i i
  simp only [setF] at p2
  split at p2
  · rename_i c fs hi
    by_cases cf : fs.length < 1000 ∧ (P.flds c).contains f = true
    · rw [if_pos cf] at p2
      obtain ⟨d, rfl, bi, ob⟩ := R2.at hi r2
      cases ob with
      | ins hc q rf =>
        obtain ⟨C', hC', hcl, hno⟩ := S.pr.flds c f cf.2
        rw [hc] at hC'; cases hC'
        rename_i C dx xs
        refine ⟨d, C, dx, xs, rfl, q, S.hK ▸ hcl, S.hK ▸ hno, by rw [← rf.length]; exact cf.1, ?_⟩
        have X1 : Ext L φ2 H2 φ2 (upd H2 d (.ins C dx (putF (Str.ofString f) v xs))) := Ext.write (bi.2 rfl) q (fun _ _ z => by cases z) (fun _ z => by cases z)
        exact p2 σ _ φ2 X1 (R2.write hi rfl (fun _ z => by cases z) (bi.2 rfl) (.ins hc upd_same ((FRs.put (r1.mono E2) rf).mono X1))) (En2.mono X1)
    · rw [if_neg cf] at p2; exact False.elim p2
  · exact False.elim p2
theorem ps_lcM (S : Sx tb L P k X false N sc W) {x : Str} {p : Pos} {elt : Expr} {gs : List Comprehension} {scope : Scope} {pos spos : Pos} {t : Tg} {m : E} (ht : trT false N sc (.Name x p) = some t) (hm : trE tb n false N sc (.ListComp elt gs scope pos) = some m)
    (hx : sc.names.lookup x = some .local) (hl : (p.line == pos.line) = true) (ha : (scope.names.any fun (n, k) => n == x && (k == .local || k == .cell)) = false) : PS X (.Assign [.Name x p] (.ListComp elt gs scope pos) spos) (tS L P W (.asg t m)) := by
  cases n with
  | zero => simp only [trE] at hm; cases hm
  | succ n =>
    obtain ⟨h1, h2, h3, h4, h5⟩ := good_all (tb := tb) (L := L) (P := P) (k := k) n
    obtain ⟨tg, iter, ifs, rfl⟩ : ∃ tg iter ifs, gs = [⟨tg, iter, ifs, 0⟩] := by
      rcases gs with _ | ⟨⟨tg, iter, ifs, a⟩, _ | ⟨g2, r⟩⟩
      · simp only [trE] at hm; cases hm
      · by_cases ha : a = 0
        · subst ha; exact ⟨_, _, _, rfl⟩
        · exfalso
          simp only [trE] at hm
          split at hm
          all_goals simp_all
      · simp only [trE] at hm; cases hm
    simp only [trE] at hm
    obtain ⟨j, hj, rfl⟩ := Option.map_eq_some_iff.mp (show (trTg false N sc (.Name x p)).map Tg.nm = some t from ht)
    obtain ⟨l1, l2, l3⟩ := loc_of S.toSy hj
    by_cases c : blkC N sc scope (ownOf N scope) = true
    · rw [if_pos c] at hm
      split at hm
      · rename_i kk es t x e1 e2 e3
        by_cases c2 : tgIn ((ownOf N scope).map (·.2)) t = true
        · rw [if_pos c2] at hm
          obtain ⟨i1, i2⟩ := h5 _ _ _ _ _ _ _ _ _ S e1
          have ok : BlkOk X.N X.env.scope scope (ownOf N scope) := by rw [S.hN, S.hsc]; exact blkOk_by c
          have fin : ∀ (cond : Option E) (hm : m = .cmp1 ((ownOf N scope).map (·.2)) x t kk es cond) (ht : ∀ (s : Shared) (H : Hp) (C : Addr) (cl : List (Str × Addr)) (fp : List Addr), PTs (X.blk s H scope (compEnvC scope cl C X.env) fp) ifs (tCnd L P cond)),
              PS X (.Assign [.Name _ p] (.ListComp elt [⟨tg, iter, ifs, 0⟩] scope pos) spos) (tS L P W (.asg (.nm j) m)) := fun cond hm ht => by
            subst hm
            refine ⟨fun pins s σ H D I q => ?_⟩
            have sw := sw_true (elt := elt) (gs := [⟨tg, iter, ifs, 0⟩]) (l := spos.line) (env := X.env) I.ok.kind (by rw [S.hsc]; exact hx) hl ha
            refine (ps_setLc (i := j) S.calm (by rw [S.hN]; exact S.nd) l1 (by rw [S.hsc]; exact hx) sw i2 ok (fun s H C cl fp => pg_M (S.block s H scope C cl fp) e2) ht (fun s H C cl fp => (h1 _ _ _ _ _ _ _ (S.block s H scope C cl fp) e3).2.1) (okE_folded i1 _)).run pins s σ H D I ?_
            obtain ⟨φ, h, ρ, R, En, p⟩ := q
            simp only [evS] at p
            refine compL_w (W := W) S.hK c2 (P := P) (cond := cond) ⟨φ, h, ρ, R, En, (PostS.ofRes (rel := vR L) En p).imp fun v H1 ⟨φ1, h1, a, E1, R1, r1, p1⟩ => ?_⟩
            have p1 : PostS L φ1 H1 (.nx (ρ.set j (some a)) h1) D W := p1
            exact p1 _ H1 φ1 Ext.refl R1 ((En.mono E1).set r1 j)
          split at hm
          · cases hm
            exact fin none rfl fun s H C cl fp => pts_nil
          · split at hm
            · rename_i cc y ey
              cases hm
              exact fin (some y) rfl fun s H C cl fp => pts_one (h1 _ _ _ _ _ _ _ (S.block s H scope C cl fp) ey).2.2
            · cases hm
          · cases hm
        · rw [if_neg c2] at hm; cases hm
      · cases hm
    · rw [if_neg c] at hm; cases hm
end
end Mn
/-! Mini: statements are right; defs; a program -/
namespace Mn
open PySem PySem.Spec PyProof.Rows L2
theorem isLC_ne {e : Expr} (h : ¬ isLC e = true) : ∀ a b c d, e ≠ .ListComp a b c d := fun _ _ _ _ z => by subst z; exact h rfl
section
variable {tb : Tb} {L : Lk} {P : Pg} {k : Nat} {X : Cx} {N : List Str} {sc : Scope} {W : WX} {n : Nat}
theorem trE_ok (S : Sx tb L P k X false N sc W) {e : Expr} {m : E} (h : trE tb n false N sc e = some m) : okE e = true ∧ PE X e (tM L P W m) ∧ PT X e (tMT L P W m) := (good_all n).1 _ _ _ _ _ _ _ S h
theorem swp_stores {env : Env} {x y : Str} {px py pt pt2 : Pos} {kt k2 : Nat} {a b : Expr} (hk : env.scope.kind = .function) (hx : env.scope.names.lookup x = some .local) (hy : env.scope.names.lookup y = some .local)
    (hne : (x == y) = false) (hne' : (y == x) = false) (hl : py.line = px.line) (oa : okE a = true) (ob : okE b = true) (f1 : [a, b].all (foldedForSure 8) = false) (f2 : [a, b].all (constantsAlone 8) = false) :
    swappedStores [.Tuple [.Name x px, .Name y py] kt pt] (.Tuple [a, b] k2 pt2) env = pure (some [x, y]) := by
  unfold swappedStores
  have hb : env.blockKind = .function := by unfold Env.blockKind; rw [hk]; rfl
  have kx : env.kindOf x = some .local := by unfold Env.kindOf; exact hx
  have ky : env.kindOf y = some .local := by unfold Env.kindOf; exact hy
  simp only [List.length_cons, List.length_nil, hb, f1, f2]
  have st : ∀ e : Expr, okE e = true → (match e with
      | .Starred .. => true
      | _ => false) = false := fun e he => by
    cases e <;> first | rfl | exact absurd he Bool.false_ne_true
  have sa := st a oa
  have sb := st b ob
  simp [kx, ky, hl, List.eraseDups, List.eraseDupsBy, List.eraseDupsBy.loop, hne, hne', Expr.pos, sa, sb]
  rintro (z | z)
  · exact absurd (sa.symm.trans z) Bool.false_ne_true
  · exact absurd (sb.symm.trans z) Bool.false_ne_true
theorem swp_w {i j : Nat} {ms : List E} {D : Ends} {σ : L2.St} {H : Hp} (q : tS L P W (.asg (.tp [i, j]) (.tup ms)) D σ H) : tPar i j (tMs L P W ms) D σ H := by
  obtain ⟨φ, h, ρ, R, En, p⟩ := q
  simp only [evS, evE] at p
  refine ⟨φ, h, ρ, R, En, ?_⟩
  cases e : evEs P ms ρ h with
  | bad => rw [e] at p; exact False.elim p
  | err c fs h1 => rw [e] at p; exact fun cls d H' φ' x R' q => p cls d σ H' φ' x R' (En.mono x) q
  | ok vs h1 =>
    rw [e] at p
    simp only [bind_ok] at p
    by_cases c : vs.length ≤ sizeLine
    · rw [if_pos c] at p
      intro us H1 φ1 E1 R1 r1
      have p := PostS.step E1 p
      have p : PostS L φ1 H1 (match binds ρ [i, j] vs with
        | some ρ1 => .nx ρ1 h1
        | none => .bad) D W := p
      cases vs with
      | nil => exact False.elim p
      | cons v vs => cases vs with
        | nil => exact False.elim p
        | cons w vs => cases vs with
          | cons z vs => exact False.elim p
          | nil =>
            cases r1 with
            | cons rv r1 => cases r1 with
              | cons rw' r1 =>
                cases r1
                exact ⟨_, _, rfl, p _ H1 φ1 Ext.refl R1 (((En.mono E1).set rv i).set rw' j)⟩
    · rw [if_neg c] at p; exact False.elim p
theorem swp_ok (S : Sx tb L P k X false N sc W) {es : List Expr} {v e1 e2 : Expr} {i j a : Nat} {ms : List E} {p pos : Pos} (hs : swpOf N sc es v = some (i, j, e1, e2)) (ha : PA X [e1, e2] (tMs L P W ms)) :
    PS X (.Assign [.Tuple es a p] v pos) (tS L P W (.asg (.tp [i, j]) (.tup ms))) := by
  unfold swpOf at hs
  split at hs
  · rename_i x px y py b1 b2 k2 pt2
    split at hs
    · rename_i c
      simp only [Bool.and_eq_true, decide_eq_true_eq, Bool.not_eq_true', beq_iff_eq] at c
      obtain ⟨⟨⟨⟨⟨⟨⟨⟨⟨cx, cy⟩, cn⟩, cn'⟩, cl⟩, ck⟩, oa⟩, ob⟩, f1⟩, f2⟩ := c
      split at hs
      · rename_i i' j' ei ej
        cases hs
        have hi := idxN_ok ei
        have hj := idxN_ok ej
        refine PS.weak (ps_par S.calm (by rw [S.hN]; exact S.nd) (by rw [S.hN]; exact hi) (by rw [S.hN]; exact hj) (fun z => ?_) (by rw [S.hsc]; exact cx) (by rw [S.hsc]; exact cy) ha
          (swp_stores (by rw [S.hsc]; exact ck) (by rw [S.hsc]; exact cx) (by rw [S.hsc]; exact cy) cn cn' cl oa ob f1 f2)) fun _ _ _ q => swp_w q
        subst z
        rw [hi] at hj
        cases hj
        simp at cn
      · cases hs
    · cases hs
  · cases hs
theorem raOf_inv {sc : Scope} {e c : Option Expr} {s : String} {a : Expr} (h : raOf sc e c = some (s, a)) : ∃ np cp, e = some (.Call (.Name (Str.ofString s) np) [a] [] cp) ∧ c = none ∧ Mn.gl sc (Str.ofString s) = true ∧ spC (Str.ofString s) = true ∧ okE a = true := by
  unfold raOf at h
  split at h
  · rename_i x np a' cp
    by_cases z : (gl sc x && spC x && okE a') = true
    · rw [if_pos z] at h
      obtain ⟨s', h1, h2⟩ := Option.map_eq_some_iff.mp h
      cases h2
      have e := nmS_ok h1
      subst e
      simp only [Bool.and_eq_true] at z
      exact ⟨_, _, rfl, rfl, z.1.1, z.1.2, z.2⟩
    · rw [if_neg z] at h; cases h
  · cases h
theorem onlyOf_inv {N : List Str} {sc : Scope} {hs : List ExceptHandler} {s : String} {st : Mn.S} (h : onlyOf N sc hs = some (s, st)) : ∃ (e : Expr) (m : E) (st0 : Stmt) (p1 p5 : Pos), hs = [.ExceptHandler (some (.Name (Str.ofString s) p1)) none [st0] p5] ∧ Mn.gl sc (Str.ofString s) = true ∧ spC (Str.ofString s) = true ∧ hotE N sc e = some m ∧
    ((∃ t p2 p4 j, st0 = .Assign [.Name t p2] e p4 ∧ st = .asg (.nm j) m ∧ idxN N t = some j ∧ sc.names.lookup t = some .local) ∨ ∃ p4, st0 = .Return (some e) p4 ∧ st = .ret m) := by
  unfold onlyOf at h
  split at h
  · split at h
    · rename_i z
      split at h
      · rename_i s' j' m' h1 h2 h3
        cases h
        have e := nmS_ok h1
        subst e
        simp only [Bool.and_eq_true, decide_eq_true_eq] at z
        exact ⟨_, _, _, _, _, rfl, z.1.1, z.1.2, h3, .inl ⟨_, _, _, _, rfl, rfl, h2, z.2⟩⟩
      · cases h
    · cases h
  · split at h
    · rename_i z
      split at h
      · rename_i s' m' h1 h3
        cases h
        have e := nmS_ok h1
        subst e
        simp only [Bool.and_eq_true] at z
        exact ⟨_, _, _, _, _, rfl, z.1, z.2, h3, .inr ⟨_, rfl, rfl⟩⟩
      · cases h
    · cases h
  · cases h
theorem toldOf_inv {N : List Str} {sc : Scope} {hs : List ExceptHandler} {s : String} {i j : Nat} (h : toldOf N sc hs = some (s, i, j)) : ∃ xn t p1 p2 p3 p4 p5, hs = [.ExceptHandler (some (.Name (Str.ofString s) p1)) (some xn) [.Assign [.Name t p2] (.Name xn p3) p4] p5] ∧ Mn.gl sc (Str.ofString s) = true ∧ spC (Str.ofString s) = true ∧ spC xn = true ∧
    idxN N xn = some i ∧ idxN N t = some j ∧ sc.names.lookup xn = some .local ∧ sc.names.lookup t = some .local := by
  unfold toldOf at h
  split at h
  · rename_i x p1 n t p2 m p3 p4 p5
    by_cases z : (gl sc x && spC x && spC n && (m == n) && decide (sc.names.lookup n = some .local) && decide (sc.names.lookup t = some .local)) = true
    · rw [if_pos z] at h
      split at h
      · rename_i s' i' j' h1 h2 h3
        cases h
        have e := nmS_ok h1
        subst e
        simp only [Bool.and_eq_true, decide_eq_true_eq, beq_iff_eq] at z
        obtain ⟨⟨⟨⟨⟨z1, z2⟩, z3⟩, z4⟩, z5⟩, z6⟩ := z
        subst z4
        exact ⟨_, _, _, _, _, _, _, rfl, z1, z2, z3, h2, h3, z5, z6⟩
      · cases h
    · rw [if_neg z] at h; cases h
  · cases h
noncomputable def GoodS (tb : Tb) (L : Lk) (P : Pg) (k : Nat) (n : Nat) : Prop := ∀ N sc X W s m, Ss tb L P k X N sc W → trS tb n N sc s = some m → PS X s (tS L P W m)
noncomputable def GoodSs (tb : Tb) (L : Lk) (P : Pg) (k : Nat) (n : Nat) : Prop := ∀ N sc X W s m, Ss tb L P k X N sc W → trSs tb n N sc s = some m → PSs X s (tSs L P W m)
theorem good_ss (h1 : GoodS tb L P k n) (h2 : GoodSs tb L P k n) : GoodSs tb L P k (n + 1) := by
  intro N sc X W ss m S h
  simp only [trSs] at h
  cases ss with
  | nil => cases h; exact pss_nilM
  | cons s r =>
    simp only at h
    split at h
    · rename_i x xs e1 e2
      cases h
      exact pss_consM (h1 _ _ _ _ _ _ S e1) (h2 _ _ _ _ _ _ S e2)
    · cases h
theorem strC_inv {tb : Tb} {n : Nat} {blk : Bool} {N : List Str} {sc : Scope} {a : Expr} {m : E} (h : strC a = true) (e : trE tb n blk N sc a = some m) : ∃ t j p2, a = .Constant (.str t) j p2 ∧ m = .con (.str t) := by
  unfold strC at h
  split at h
  · rename_i t j p
    cases n with
    | zero => simp only [trE] at e; cases e
    | succ n =>
      simp only [trE, trK, Option.map_some, Option.some.injEq] at e
      exact ⟨t, j, p, rfl, e.symm⟩
  · cases h
theorem ranOf_inv {tb : Tb} {N : List Str} {sc : Scope} {b : List Stmt} {hs : List ExceptHandler} {f s c : String} {i : Nat} {m : Val} (h : ranOf tb N sc b hs = some (f, i, s, c, m)) :
    ∃ x k j p1 p2 p3 p4 p5 p6 p7 p8 p9 p10, b = [.Return (some (.Call (.Name (Str.ofString f) p1) [.Name x p2] [] p3)) p4] ∧ hs = [.ExceptHandler (some (.Name (Str.ofString s) p5)) none [.Raise (some (.Call (.Name (Str.ofString c) p6) [.Constant k j p7] [] p8)) none p9] p10] ∧
      gl sc (Str.ofString f) = true ∧ spC (Str.ofString f) = true ∧ gl sc (Str.ofString s) = true ∧ spC (Str.ofString s) = true ∧ gl sc (Str.ofString c) = true ∧ spC (Str.ofString c) = true ∧ spC x = true ∧ sc.names.lookup x = some .local ∧ idxN N x = some i ∧ trK k = some m ∧ tb.nfn.contains f = true := by
  unfold ranOf at h
  split at h
  · rename_i f' p1 x p2 p3 p4 s' p5 c' p6 k j p7 p8 p9 p10
    split at h
    · rename_i g
      simp only [Bool.and_eq_true, decide_eq_true_eq] at g
      split at h
      · rename_i f0 i0 s0 c0 m0 a1 a2 a3 a4 a5
        split at h
        · rename_i hn
          cases h
          have b1 := nmS_ok a1
          have b3 := nmS_ok a3
          have b4 := nmS_ok a4
          subst b1 b3 b4
          obtain ⟨⟨⟨⟨⟨⟨⟨g1, g2⟩, g3⟩, g4⟩, g5⟩, g6⟩, g7⟩, g8⟩ := g
          exact ⟨x, k, j, p1, p2, p3, p4, p5, p6, p7, p8, p9, p10, rfl, rfl, g1, g2, g3, g4, g5, g6, g7, g8, a2, a5, hn⟩
        · cases h
      · cases h
    · cases h
  · cases h
/-- try: return f(x) except s: raise c(m) -/
theorem ps_ranM (S : Ss tb L P k X N sc W) (nc : tb.nc = false) {b : List Stmt} {hs : List ExceptHandler} {f s c : String} {i : Nat} {m : Val} {pos : Pos} (h : ranOf tb N sc b hs = some (f, i, s, c, m)) :
    PS X (.Try b hs [] [] pos) (tS L P W (.tryR f i s c m)) := by
  obtain ⟨x, kc, j, p1, p2, p3, p4, p5, p6, p7, p8, p9, p10, rfl, rfl, g1, g2, g3, g4, g5, g6, g7, g8, hi, hk, hn⟩ := ranOf_inv h
  have nn : tb.nfn ≠ [] := fun z => by rw [z] at hn; cases hn
  have body : ∀ X' W', Sx (bareT tb) L (bareP P) k X' false N sc W' → PSs X' [.Return (some (.Call (.Name (Str.ofString f) p1) [.Name x p2] [] p3)) p4] (tSs L (bareP P) W' [.ret (.call f [.var i])]) := by
    intro X' W' S'
    exact pss_consM (ps_retM (pe_callM S' g1 hn g2 rfl (fun z => by cases z) (pa_consM rfl (pe_varM S'.toSy hi (.inl g8) g7) pa_nilM))) pss_nilM
  have hok : ∀ X' W', X'.K = L.K → X'.N = N → X'.env.scope = sc → PE X' (.Constant kc j p7) (tM L P W' (.con m)) := fun X' W' a1 a2 a3 => pe_hot a1 a2 a3 (by simp only [hotE, hk]; rfl)
  have ev : ∀ ρ h, evB (bareP P) [.ret (.call f [.var i])] ρ h = .ofRes ρ ((getV ρ i h).bind fun v h1 => P.bare f [v] h1) fun v h2 => .rt v h2 := by
    intro ρ h
    simp only [evB, evS, evE, evEs]
    cases getV ρ i h with
    | ok v h1 =>
      simp only [bind_ok]
      show (match SR.ofRes ρ (P.bare f [v] h1) (fun v h1 => .rt v h1) with | .nx ρ h => _ | r => r) = _
      cases P.bare f [v] h1 <;> rfl
    | err c fs h1 => rfl
    | bad => rfl
  have gne : ∀ ρ h c fs h1, getV ρ i h ≠ .err c fs h1 := by
    intro ρ h c fs h1 z
    unfold getV at z
    split at z <;> cases z
  unfold spC at g4 g6
  simp only [Bool.and_eq_true, Bool.not_eq_true'] at g4 g6
  by_cases hQ : (∃ c0 b0, P.exm c0 s = some b0) ∧ ∃ fl, P.exi c = some (some fl)
  · obtain ⟨⟨c0, b0, hb0⟩, fl, hfl⟩ := hQ
    obtain ⟨C, hm, hex⟩ := S.S.pr.exm _ _ _ hb0
    obtain ⟨C2, hC2, hm2, kC, sC, tC, mk⟩ := S.S.pr.exi c _ hfl
    obtain ⟨T, hno, fI, fd, ps, iC, tI, hb, F, FH⟩ := mk
    have hsu : ∀ (a : Addr) (oe : Obj) (cls : Value) (d : Option Addr) (pn : List (Addr × Obj)), L2N.Zn cls d oe → (∃ vs, oe.data = .fields vs) → L2.Takes (L2H.suiteX X a ((a, oe) :: pn)) W → L2H.HotC (L2H.suiteX X a ((a, oe) :: pn)) →
        PSs (L2H.suiteX X a ((a, oe) :: pn)) [.Raise (some (.Call (.Name (Str.ofString c) p6) [.Constant kc j p7] [] p8)) none p9] (fun _ σ H => tMkO C2 (spEx C2 (Str.ofString fl)) [] (tCons (tM L P W (.con m)) tNil) σ H fun cls d H' => W cls d σ H') := by
      intro a oe cls d pn _ _ tkS hot
      refine PSs.weak (pss_cons (L2H.ps_raiseH hot tkS (L2H.PMk5.pmk (L2H.pmk5_oexH (X := L2H.suiteX X a ((a, oe) :: pn)) (by show OexC X.K C2; rw [S.S.hK]; exact T) (by show PySem.W.findIn X.K _ _ = _; rw [S.S.hK]; exact iC) (by show PySem.W.typeIn X.K _ = _; rw [S.S.hK]; exact tI) (by show L2H.FnH X.prog X.w X.K X.mg X.base (L2.CX X.prog X.w) k fI fd ps _; rw [S.S.hK]; exact FH _) (L2H.roomH_mark S.S.room _) hot (by show Binds X.K fd ps []; rw [S.S.hK]; exact hb) passL (S.S.gl g5) hm2 (pa_cons (hok _ _ S.S.hK S.S.hN S.S.hsc) pa_nil rfl) g6.1.1 rfl rfl))) pss_nil) fun D σ H q => q
    refine PS.weak (L2H.ps_try_onlyX (c := .ref C) (tb := fun W' => tSs L (bareP P) W' [.ret (.call f [.var i])]) (ts := fun _ _ _ _ σ H => tMkO C2 (spEx C2 (Str.ofString fl)) [] (tCons (tM L P W (.con m)) tNil) σ H fun cls d H' => W cls d σ H') S.st S.fr ⟨S.S.gl g3, g4.1.1, .inl hm⟩ (S.pat nn) (S.S.tk.off nc)
      (fun W' pn xe tk _ pw => body _ _ ⟨⟨S.S.hK, S.S.hN, S.S.nd, S.S.hsc, tk, S.S.fnc, bare_ok nc S.S.pr⟩, S.S.room, S.S.calm⟩) hsu) fun D σ H ⟨φ, h, ρ, R, En, p⟩ => ?_
    simp only [evS] at p
    unfold bareR at p
    refine ⟨φ, h, ρ, R, En, ?_⟩
    rw [ev]
    cases eg : getV ρ i h with
    | bad => rw [eg] at p; exact p
    | err c fs h1 => exact absurd eg (gne _ _ _ _ _)
    | ok v h1 =>
      rw [eg] at p
      simp only [SR.ofRes, bind_ok] at p ⊢
      cases eb : P.bare f [v] h1 with
      | bad => rw [eb] at p; exact p
      | ok r h2 => rw [eb] at p; exact p
      | err c2 fs h2 =>
        rw [eb] at p
        intro cls d σ' H' φ' x R' En' q
        cases em : P.exm c2 s with
        | none => simp only [em] at p; exact False.elim p
        | some b =>
          cases b with
          | false => simp only [em] at p; exact False.elim p
          | true =>
            simp only [em, hfl] at p
            obtain ⟨C', hm', hx'⟩ := S.S.pr.exm _ _ _ em
            rw [hm] at hm'; cases hm'
            obtain ⟨C3, hC3, rfl, _⟩ := id q
            refine ⟨true, by rw [S.S.hK]; exact hx' _ hC3, fun _ a na => ?_, fun z => by cases z⟩
            have p2 := PostS.step x p
            refine ⟨φ', h2, ρ, R', En', ?_⟩
            simp only [evE]
            intro u H1 φ1 E1 R1 r1
            have p1 := PostS.step E1 p2
            refine ⟨by show 1 ≤ 1000; decide, fun ad hn => ⟨ad, u, rfl, upd_same, fun dx hd ne => ⟨rfl, dx, [(Str.ofString fl, u)], upd_same, ?_, ?_, ?_⟩⟩⟩
            · rw [upd_ne ne, upd_same]
            · rw [upd_ne ne] at hd; exact hd
            · have hd' : H1 dx = none := by rw [upd_ne ne] at hd; exact hd
              have eq : upd (del (upd (upd (upd H1 ad (exo ad C2 none)) dx (exd dx [(Str.ofString fl, u)])) ad (exo ad C2 (some dx))) ad) dx (.xd [(Str.ofString fl, u)]) = upd H1 dx (.xd [(Str.ofString fl, u)]) := by
                funext b
                by_cases hb : b = dx
                · subst hb; rw [upd_same, upd_same]
                · rw [upd_ne hb, upd_ne hb]
                  by_cases hc : b = ad
                  · subst hc; rw [del_same, hn]
                  · rw [del_ne hc, upd_ne hc, upd_ne hb, upd_ne hc]
              rw [eq]
              have nx : (true, dx) ∉ φ1 := fun z => by
                obtain ⟨u, hu, _⟩ := R1.live dx z
                rw [hd'] at hu; cases hu
              exact p1 _ _ σ' _ φ1 (Ext.side hd') (R1.side hd') ((En'.mono E1).mono (Ext.side hd')) ⟨C2, hC2, rfl, .inr ⟨dx, _, rfl, upd_same, nx, .cons (r1.mono (Ext.side hd')) .nil⟩⟩
  · refine PS.weak (ps_try_thru0 (body X.nox (fun _ _ _ _ => False) ⟨⟨S.S.hK, S.S.hN, S.S.nd, S.S.hsc, takb0, S.S.fnc, bare_ok nc S.S.pr⟩, S.S.room, S.S.calm⟩)) fun D σ H ⟨φ, h, ρ, R, En, p⟩ => ?_
    simp only [evS] at p
    unfold bareR at p
    refine ⟨φ, h, ρ, R, En, ?_⟩
    rw [ev]
    cases eg : getV ρ i h with
    | bad => rw [eg] at p; exact p
    | err c fs h1 => exact absurd eg (gne _ _ _ _ _)
    | ok v h1 =>
      rw [eg] at p
      simp only [SR.ofRes, bind_ok] at p ⊢
      cases eb : P.bare f [v] h1 with
      | bad => rw [eb] at p; exact p
      | ok r h2 => rw [eb] at p; exact p
      | err c2 fs h2 =>
        rw [eb] at p
        refine False.elim ?_
        cases em : P.exm c2 s with
        | none => simp only [em] at p; exact p
        | some b =>
          cases b with
          | false => simp only [em] at p; exact p
          | true =>
            cases ei : P.exi c with
            | none => simp only [em, ei] at p; exact p
            | some o =>
              cases o with
              | none => simp only [em, ei] at p; exact p
              | some fl => exact hQ ⟨⟨c2, true, em⟩, fl, ei⟩
theorem good_s (h2 : GoodSs tb L P k n) (h2d : GoodSs (deepT tb) L P k n) : GoodS tb L P k (n + 1) := by
  intro N sc X W s m S h
  simp only [trS] at h
  split at h
  · -- a comprehension's list is named
    rename_i x p elt gs scope pos spos
    split at h
    · rename_i t m' e1 e2
      obtain ⟨a1, a2, a3⟩ := trE_ok S.S e2
      by_cases c : (decide (sc.names.lookup x = some .local) && (p.line == pos.line) && !(scope.names.any fun (n, k) => n == x && (k == .local || k == .cell)) && decide (gs.length = 1)) = true
      · rw [if_pos c] at h; cases h
        simp only [Bool.and_eq_true, decide_eq_true_eq, Bool.not_eq_true'] at c
        exact ps_lcM S.S e1 e2 c.1.1.1 c.1.1.2 c.1.2
      · rw [if_neg c] at h
        by_cases c2 : (decide (sc.names.lookup x = some .local)) = false
        · rw [if_pos c2] at h; cases h
          have k2 : (X.env.kindOf x == some .local) = false := by
            have z : X.env.kindOf x ≠ some .local := by
              unfold Env.kindOf
              rw [S.S.hsc]
              exact of_decide_eq_false c2
            cases e : X.env.kindOf x with
            | none => rfl
            | some kk => cases kk <;> first | rfl | exact absurd e z
          refine ps_asgM a2 (pg_A S.S e1) ?_ rfl rfl
          show swapsWith (.ListComp elt gs scope pos) (some (.Name x p)) spos.line X.env = pure false
          unfold swapsWith
          simp only [k2, Bool.and_false, Bool.false_and]
        · rw [if_neg c2] at h; cases h
    · cases h
  · rename_i s tg v pos hne
    split at h
    · rename_i o i p
      split at h
      · rename_i m' x y e1 e2 e3
        cases h
        obtain ⟨a1, a2, _⟩ := trE_ok S.S e1
        obtain ⟨_, b2, _⟩ := trE_ok S.S e2
        obtain ⟨c1, c2, _⟩ := trE_ok S.S e3
        exact ps_subM S.S c1 a1 b2 c2 a2
      · cases h
    · rename_i x p
      by_cases c : isLC v = true
      · rw [if_pos c] at h; cases h
      · rw [if_neg c] at h
        split at h
        · rename_i t m' e1 e2
          cases h
          obtain ⟨a1, a2, _⟩ := trE_ok S.S e2
          refine ps_asgM a2 (pg_A S.S e1) ?_ ?_ rfl
          · show swapsWith v (some (.Name x p)) pos.line X.env = pure false
            exact okE_notSwap a1 (isLC_ne c) (some (.Name x p)) pos.line X.env
          · cases v <;> rfl
        · cases h
    · rename_i es a b
      by_cases c0 : isSeqD v = true
      · rw [if_pos c0] at h
        split at h
        · rename_i i j e1 e2 hs
          split at h
          · rename_i ms em
            cases h
            exact swp_ok S.S hs ((good_all n).2.1 _ _ _ _ _ _ _ S.S em).2.1
          · cases h
        · cases h
      · rw [if_neg c0] at h
        by_cases c1 : isLC v = true
        · rw [if_pos c1] at h; cases h
        rw [if_neg c1] at h
        have c := And.intro c1 c0
        split at h
        · rename_i t m' e1 e2
          cases h
          obtain ⟨a1, a2, _⟩ := trE_ok S.S e2
          refine ps_asgM a2 (pg_A S.S e1) ?_ ?_ rfl
          · show swapsWith v (some (.Tuple es a b)) pos.line X.env = pure false
            exact okE_notSwap a1 (isLC_ne c.1) (some (.Tuple es a b)) pos.line X.env
          · cases v <;> first | rfl | exact absurd rfl c.2
        · cases h
    · rename_i o f p
      split at h
      · rename_i s x m' e0 e1 e2
        cases h
        have e := nmS_ok e0
        subst e
        obtain ⟨b1, b2, _⟩ := trE_ok S.S e1
        obtain ⟨a1, a2, _⟩ := trE_ok S.S e2
        exact ps_fldM S.S a1 b2 a2
      · cases h
    · cases h
  · cases h; exact ps_docM
  · rename_i e pos hne
    by_cases c : isLC e = true
    · rw [if_pos c] at h; cases h
    · rw [if_neg c] at h
      obtain ⟨x, e1, rfl⟩ := Option.map_eq_some_iff.mp h
      obtain ⟨a1, a2, _⟩ := trE_ok S.S e1
      exact ps_expM a1 (isLC_ne c) a2
  · cases h; exact ps_retNM
  · obtain ⟨x, e1, rfl⟩ := Option.map_eq_some_iff.mp h
    exact ps_retM (trE_ok S.S e1).2.1
  · split at h
    · rename_i x y z e1 e2 e3
      cases h
      exact ps_ifM (trE_ok S.S e1).2.2 (h2 _ _ _ _ _ _ S e2) (h2 _ _ _ _ _ _ S e3)
    · cases h
  · split at h
    · rename_i t kk es x e1 e2 e3
      cases h
      obtain ⟨i1, i2⟩ := (good_all n).2.2.2.2 _ _ _ _ _ _ _ _ _ S.S e2
      exact ps_forM S.pow S.S.calm i2 (pg_M S.S e1) (h2 _ _ _ _ _ _ S e3) (okE_folded i1 _)
    · cases h
  · split at h
    · rename_i x y e1 e2
      cases h
      exact ps_whlM S.pow (trE_ok S.S e1).2.2 (h2 _ _ _ _ _ _ S e2)
    · cases h
  · cases h; exact ps_brkM
  · cases h; exact ps_cntM
  · cases h; exact ps_pasM
  · split at h
    · rename_i s a e1
      split at h
      · cases h; exact ps_rai0
      · rename_i hnc
        split at h
        · rename_i x e2
          cases h
          obtain ⟨np, cp, rfl, rfl, g1, g2, ok⟩ := raOf_inv e1
          refine ps_raiM S g1 g2 ok (trE_ok S.S e2).2.1 fun z => ?_
          rw [z] at hnc
          exact strC_inv (by simpa using hnc) e2
        · cases h; exact ps_rai0
    · cases h; exact ps_rai0
  · split at h
    · cases h
    · rename_i nc0
      have nc : tb.nc = false := by simpa using nc0
      split at h
      · rename_i f i s c m e1
        cases h
        exact ps_ranM S nc e1
      · split at h
        · rename_i s i j e1
          obtain ⟨x, e2, rfl⟩ := Option.map_eq_some_iff.mp h
          obtain ⟨xn, t, p1, p2, p3, p4, p5, rfl, g1, g2, g3, hi, hj, l1, l2⟩ := toldOf_inv e1
          exact ps_tryM S nc g1 g2 g3 hi hj l1 l2 fun X' W' S' => h2d _ _ _ _ _ _ S' e2
        · split at h
          · rename_i s st e1
            obtain ⟨x, e2, rfl⟩ := Option.map_eq_some_iff.mp h
            obtain ⟨e, m, st0, p1, p5, rfl, g1, g2, he, hst⟩ := onlyOf_inv e1
            exact ps_onlyM S nc g1 g2 he hst fun X' W' S' => h2d _ _ _ _ _ _ S' e2
          · split at h
            · cases h
            · split at h
              · rename_i l x e1 e2
                cases h
                exact ps_holdM S nc e1 fun X' W' S' => h2d _ _ _ _ _ _ S' e2
              · rename_i x e1 e2
                cases h
                exact ps_thruM S fun X' W' S' => h2d _ _ _ _ _ _ S' e2
              · cases h
  · cases h
theorem good_st (n : Nat) : ∀ tb : Tb, GoodS tb L P k n ∧ GoodSs tb L P k n := by
  induction n with
  | zero => exact fun tb => ⟨(fun _ _ _ _ _ _ _ h => by simp only [trS] at h; cases h), (fun _ _ _ _ _ _ _ h => by simp only [trSs] at h; cases h)⟩
  | succ n ih => exact fun tb => ⟨good_s (ih tb).2 (ih (deepT tb)).2, good_ss (ih tb).1 (ih tb).2⟩
end
end Mn
/-! Mini: defs; a program -/
namespace Mn
open PySem PySem.Spec PyProof.Rows L2
/-- a def: parameters, names, body -/
structure Df where
  ps : List Str
  np : Nat
  nn : Nat
  body : List S
@[irreducible] noncomputable def callB (P : Pg) (d : Df) (args : List Val) (h : MH) : Res Val :=
  if args.length = d.np then
    match evB P d.body (args.map some ++ List.replicate (d.nn - d.np) none) h with
    | .rt v h' => .ok v h'
    | .nx _ h' => .ok .non h'
    | .err c fs _ h' => .err c fs h'
    | _ => .bad
  else .bad
structure Pr where
  defs : List (String × Df)
  glb : List (String × Val)
  sub : String → String → Option Bool
  mro : String → String → Option String
  flds : String → List String
  exm : String → String → Option Bool
  exi : String → Option (Option String)
noncomputable def Pr.pg (T : Pr) : Nat → Pg
  | 0 => { glb := fun x => T.glb.lookup x, sub := T.sub, mro := T.mro, flds := T.flds, exm := T.exm, exi := fun _ => none, cf := fun _ _ _ => .bad }
  | n + 1 => { glb := fun x => T.glb.lookup x, sub := T.sub, mro := T.mro, flds := T.flds, exm := T.exm, exi := T.exi, cf := fun f args h => match T.defs.lookup f with
      | some d => callB (T.pg n) d args h
      | none => .bad, bare := fun f args h => match T.defs.lookup f with
      | some d => callB (bareP (T.pg n)) d args h
      | none => .bad }
/-- the def f of the program is the Mini def -/
noncomputable def DefOk (tb : Tb) (T : Pr) (K : PySem.W.Frag) (mg : Str → Option Value) (f : String) : Prop :=
  ∃ (a : Addr) (st : Stmt) (qual : Str) (fd : FuncData) (N ps : List Str) (d : Df) (fuel : Nat), mg (Str.ofString f) = some (.ref a) ∧ Fun K (Str.ofString f) qual st a fd ∧ (∀ us : List Value, us.length = ps.length → bindArgs fd ⟨us, []⟩ = pure (ps.zip us)) ∧ FnScope N ps (defScope st) ∧
    T.defs.lookup f = some d ∧ trSs tb fuel N (defScope st) (defBody st) = some d.body ∧ d.np = ps.length ∧ d.nn = N.length ∧ d.ps = ps
/-- an exception's class, as the program has it -/
noncomputable def ExDf (K : PySem.W.Frag) (C : Addr) : Option String → Prop
  | none => PySem.W.excIn K C veTl "ValueError.__new__" = true
  | some f => OexC K C ∧ PySem.W.findIn K (.ref C) (Str.ofString f) = some none ∧ ∃ (fI : Addr) (st : Stmt) (x qual self row : Str) (fd : FuncData) (p1 p2 p3 p4 : Pos), PySem.W.findIn K (.ref C) "__init__" = some (some (.ref fI)) ∧ PySem.W.typeIn K (.ref fI) = some (.type "function") ∧ Fun K x qual st fI fd ∧ (∀ us : List Value, us.length = [self, row].length → bindArgs fd ⟨us, []⟩ = pure ([self, row].zip us)) ∧ FnScope [self, row] [self, row] (defScope st) ∧
    defBody st = [.Assign [.Attribute (.Name self p1) (Str.ofString f) p2] (.Name row p3) p4] ∧ (defScope st).names.lookup self = some .local ∧ (defScope st).names.lookup row = some .local ∧ spC self = true ∧ spC row = true
/-- a method's def, with or without defaults -/
noncomputable def FnB (K : PySem.W.Frag) (x qual : Str) (st : Stmt) (a : Addr) (fd : FuncData) (ps : List Str) : Prop :=
  (Fun K x qual st a fd ∧ ∀ us : List Value, us.length = ps.length → bindArgs fd ⟨us, []⟩ = pure (ps.zip us)) ∨ ∃ (params : Arguments) (dvs : List V), FunD K x qual params (defBody st) (defScope st) dvs [] a fd ∧ Binds K fd ps []
structure TopOk (tb : Tb) (T : Pr) (L : Lk) (mg : Str → Option Value) : Prop where
  glb : ∀ x, tb.glb.contains x = true → ∃ v u y, T.glb.lookup x = some v ∧ mg (Str.ofString x) = some u ∧ RelV y u ∧ (∀ φ H, VR L φ H v y) ∧ ∀ a, u = .ref a → ∃ o, L.K.lookup a = some o ∧ o.cls = .type "tuple" ∧ o.dict = none
  fns : ∀ f, tb.fns.contains f = true → DefOk tb T L.K mg f
  nfn : ∀ f, tb.nfn.contains f = true → DefOk (bareT tb) T L.K mg f
  nc : tb.nc = false
  isi : ∀ t, tb.isi.contains t = true → ∃ (c : V) (u : Value), ((∃ T, c = .ty T ∧ u = .type T ∧ mg (Str.ofString t) = none ∧ bootBuiltins (Str.ofString t) = some (.type T)) ∨ ∃ C, c = .ref C ∧ u = .ref C ∧ mg (Str.ofString t) = some (.ref C)) ∧
    ∀ cl b, T.sub cl t = some b → PySem.W.kitOne L.K (tyV' L cl) u = some b
  noTy : ∀ c, isTy c = true → L.cls c = none ∧ L.exc c = none
  sep : ∀ c C, L.cls c = some C → L.exc c = none
  exk : ∀ c C, L.exc c = some C → ExK L.K C
  exm : ∀ c t b, T.exm c t = some b → ∃ C, mg (Str.ofString t) = some (.ref C) ∧ ∀ D, L.exc c = some D → PySem.W.exmOne L.K (.ref D) (.ref C) = some b
  exi : ∀ c o, T.exi c = some o → ∃ C, L.exc c = some C ∧ mg (Str.ofString c) = some (.ref C) ∧ PySem.W.keepIn L.K (.ref C) = true ∧ PySem.W.subIn L.K (.ref C) (.type "BaseException") = some true ∧ PySem.W.typeIn L.K (.ref C) = some (.type "type") ∧ ExDf L.K C o
  insTy : ∀ c C, L.cls c = some C → ∀ (H : Hp) (a dx : Addr) (fs : List (Str × V)), H a = some (.ins C dx fs) → TyX L.K H (.ref a) (.ref C)
  blt : ∀ b, bltNames.contains b = true → mg (Str.ofString b) = none
  mro : ∀ c m f, T.mro c m = some f → ∃ C a st qual fd N ps d fuel, L.cls c = some C ∧ Cls L.K C ∧ Meth L.K C (Str.ofString m) a ∧ FnB L.K (Str.ofString m) qual st a fd ps ∧ FnScope N ps (defScope st) ∧
    T.defs.lookup f = some d ∧ trSs tb fuel N (defScope st) (defBody st) = some d.body ∧ d.np = ps.length ∧ d.nn = N.length
  own : ∀ m, tb.own.contains m = true → ∃ c f, T.mro c m = some f
  dfl : ∀ m n cs, tb.dfl.lookup (m, n) = some cs → ∀ c f, T.mro c m = some f → ∃ C a st qual fd N ps d fuel params dvs ds ws, L.cls c = some C ∧ Cls L.K C ∧ Meth L.K C (Str.ofString m) a ∧ Vals ws ds ∧ (∀ φ H, VRs L φ H cs ws) ∧ FunD L.K (Str.ofString m) qual params (defBody st) (defScope st) dvs [] a fd ∧ Binds L.K fd ps ds ∧ FnScope N ps (defScope st) ∧
    T.defs.lookup f = some d ∧ trSs tb fuel N (defScope st) (defBody st) = some d.body ∧ d.np = ps.length ∧ d.nn = N.length
  mks : ∀ c, tb.mks.contains c = true → ∃ C a f, L.cls c = some C ∧ mg (Str.ofString c) = some (.ref C) ∧ Mk L.K C a ∧ T.mro c "__init__" = some f
  flds : ∀ c f, (T.flds c).contains f = true → ∃ C, L.cls c = some C ∧ Cls L.K C ∧ NoAttr L.K C (Str.ofString f)
  cm : ∀ c m f, tb.cm.lookup (c, m) = some f → ∃ C mc a st qual fd N ps d fuel, mg (Str.ofString c) = some (.ref C) ∧ ClX.CRead L.K C mc ∧ PySem.W.findCls L.K (.ref C) mc (Str.ofString m) = some (.val (.ref a)) ∧ Fun L.K (Str.ofString m) qual st a fd ∧ (∀ us : List Value, us.length = ps.length → bindArgs fd ⟨us, []⟩ = pure (ps.zip us)) ∧ FnScope N ps (defScope st) ∧
    T.defs.lookup f = some d ∧ trSs tb fuel N (defScope st) (defBody st) = some d.body ∧ d.np = ps.length ∧ d.nn = N.length
section
variable {tb : Tb} {T : Pr} {L : Lk} {prog : Program} {w : World} {mg : Str → Option Value} {base : Heap}
theorem VRs.map_get {φ : Ph} {H : Hp} : ∀ {ms : List Val} {vs : List V}, VRs L φ H ms vs → ∀ (m : Nat) (i : Nat) (v : Val), (ms.map some ++ List.replicate m none)[i]? = some (some v) → ∃ x, (vs.map some ++ List.replicate m none)[i]? = some (some x) ∧ VR L φ H v x
  | _, _, .nil, m, i, v, h => by
    simp only [List.map_nil, List.nil_append] at h
    rw [List.getElem?_replicate] at h
    split at h <;> cases h
  | _, _, .cons r t, m, 0, v, h => by
    simp at h; subst h
    exact ⟨_, by simp, r⟩
  | _, _, .cons r t, m, i + 1, v, h => by
    obtain ⟨x, h1, h2⟩ := t.map_get m i v (by simpa using h)
    exact ⟨x, by simpa using h1, h2⟩
theorem takbOf {b : Bool} {X : Cx} (hs : X.stack = X.env :: X.outer) (hf : X.env.frame = some X.env.locals) (hex : X.ex = []) {E : XK} {E₁ : Value → Shared → Prop}
    (hx : X.xe = fun e s' => wpAny (model X.prog X.w) X.A (leaving X.env e) (fun _ s'' => CXb b X.prog X.w X.outer X.H_0 X.s_0 E e s'') E₁ s') : Takb b X (fun cls d _ H => E cls d H) := by
  cases b with
  | false => exact L2.takes_of hs hf hex hx
  | true => exact L2N.takes_of hs hf hex hx
theorem fun_okX {CX : CXT} {x qual : Str} {st : Stmt} {f : Addr} {fd : FuncData} {N ps : List Str} {k : Nat} {sp : Sp} {K : PySem.W.Frag} (F : Fun K x qual st f fd) (S : FnScope N ps (defScope st)) (len : ∀ vs H Q E, sp vs H Q E → vs.length = ps.length)
    (hbody : ∀ (cdv : Value) (A : Around) (outer : List Env) (s : Shared) (H : Hp) (vs : List V) (Q : VK) (E : XK), Room k (A.deeper (envOfC qual (defScope st) s.heap.objs.size f cdv)) → sp vs H Q E →
      ∃ t, PSs (cxOf CX prog w K mg base N qual (defScope st) f cdv A outer s H E) (defBody st) t ∧ t { nx := fun _ H' => Q .non H', rt := Q } (L2.start N vs) H) : FnOk prog w K mg base CX (k + 1) f fd ps sp := by
  obtain ⟨oc, od, kV, doc, pm, an, cdv, ct, osl, rfl, lk, hcd⟩ := F.ex
  exact fn_of lk hcd S len (hbody cdv)
theorem fun_okH {CX : CXT} {x qual : Str} {st : Stmt} {f : Addr} {fd : FuncData} {N ps : List Str} {k : Nat} {sp : Sp} {K : PySem.W.Frag} (F : Fun K x qual st f fd) (S : FnScope N ps (defScope st)) (len : ∀ vs H Q E, sp vs H Q E → vs.length = ps.length)
    (hbody : ∀ (cdv : Value) (A : Around) (outer : List Env) (s : Shared) (H : Hp) (vs : List V) (Q : VK) (E : XK) (p : Addr × Obj), sp vs H Q E →
      ∃ t, PSs (L2H.cxH CX prog w K mg base N qual (defScope st) f cdv A outer s H E p) (defBody st) t ∧ t { nx := fun _ H' => Q .non H', rt := Q } (L2.start N vs) H) : L2H.FnH prog w K mg base CX (k + 1) f fd ps sp := by
  obtain ⟨oc, od, kV, doc, pm, an, cdv, ct, osl, rfl, lk, hcd⟩ := F.ex
  exact L2H.fn_ofH lk hcd S len fun A outer s H vs Q E p _ _ hsp => hbody cdv A outer s H vs Q E p hsp
theorem def_ok {k : Nat} {P : Pg} (pr : PrOk tb L P k prog w mg base) {f : Str} {qual : Str} {st : Stmt} {a : Addr} {fd : FuncData} {N ps : List Str} {d : Df} {fuel : Nat} (F : Fun L.K f qual st a fd) (S : FnScope N ps (defScope st))
    (ht : trSs tb fuel N (defScope st) (defBody st) = some d.body) (hp : d.np = ps.length) (hn : d.nn = N.length) : FnOk prog w L.K mg base (CXb tb.nc prog w) (k + 2) a fd ps (spOf L (callB P d) ps.length) := by
  refine fun_okX (CX := CXb tb.nc prog w) F S (fun vs H Q E h => h.1) fun cdv A outer s H vs Q E hr ⟨hl, φ, h, ms, R, rv, p⟩ => ?_
  have hms : ms.length = d.np := by rw [rv.length, hl, hp]
  unfold callB at p
  rw [if_pos hms] at p
  have Sx0 : Ss tb L P k (cxOf (CXb tb.nc prog w) prog w L.K mg base N qual (defScope st) a cdv A outer s H E) N (defScope st) (fun cls d _ H => E cls d H) :=
    ⟨⟨⟨rfl, rfl, S.nd, rfl, takbOf rfl rfl rfl rfl, fun _ _ => rfl, pr⟩, hr, rfl⟩, passes_of rfl, rfl, rfl, rfl, fun _ hd => L2H.passesAt_of rfl hd⟩
  refine ⟨_, (good_st fuel tb).2 _ _ _ _ _ _ Sx0 ht, φ, h, ms.map some ++ List.replicate (d.nn - d.np) none, R, ⟨?_, fun i v hi => ?_⟩, ?_⟩
  · unfold L2.start; simp [rv.length, hl, hn, hp]
  · unfold L2.start
    rw [hl, ← hp, ← hn]
    exact rv.map_get _ i v hi
  · cases e : evB P d.body (ms.map some ++ List.replicate (d.nn - d.np) none) h with
    | nx ρ h' => rw [e] at p; exact fun σ' H' φ' x R' _ => p .non H' φ' x R' .non
    | rt v h' => rw [e] at p; exact fun x H' φ' E' R' r => p x H' φ' E' R' r
    | bk ρ h' => rw [e] at p; exact False.elim p
    | ct ρ h' => rw [e] at p; exact False.elim p
    | bad => rw [e] at p; exact False.elim p
    | err c fs ρ h' => rw [e] at p; exact fun cls d σ H' φ' x R' _ q => p cls d H' φ' x R' q
theorem def_okD {k : Nat} {params : Arguments} {dvs : List V} {P : Pg} (pr : PrOk tb L P k prog w mg base) {f : Str} {qual : Str} {st : Stmt} {a : Addr} {fd : FuncData} {N ps : List Str} {d : Df} {fuel : Nat} (F : FunD L.K f qual params (defBody st) (defScope st) dvs [] a fd) (S : FnScope N ps (defScope st))
    (ht : trSs tb fuel N (defScope st) (defBody st) = some d.body) (hp : d.np = ps.length) (hn : d.nn = N.length) : FnOk prog w L.K mg base (CXb tb.nc prog w) (k + 2) a fd ps (spOf L (callB P d) ps.length) := by
  refine F.ok (CX := CXb tb.nc prog w) S (fun vs H Q E h => h.1) fun cdv A outer s H vs Q E hr ⟨hl, φ, h, ms, R, rv, p⟩ => ?_
  have hms : ms.length = d.np := by rw [rv.length, hl, hp]
  unfold callB at p
  rw [if_pos hms] at p
  have Sx0 : Ss tb L P k (cxOf (CXb tb.nc prog w) prog w L.K mg base N qual (defScope st) a cdv A outer s H E) N (defScope st) (fun cls d _ H => E cls d H) :=
    ⟨⟨⟨rfl, rfl, S.nd, rfl, takbOf rfl rfl rfl rfl, fun _ _ => rfl, pr⟩, hr, rfl⟩, passes_of rfl, rfl, rfl, rfl, fun _ hd => L2H.passesAt_of rfl hd⟩
  refine ⟨_, (good_st fuel tb).2 _ _ _ _ _ _ Sx0 ht, φ, h, ms.map some ++ List.replicate (d.nn - d.np) none, R, ⟨?_, fun i v hi => ?_⟩, ?_⟩
  · unfold L2.start; simp [rv.length, hl, hn, hp]
  · unfold L2.start
    rw [hl, ← hp, ← hn]
    exact rv.map_get _ i v hi
  · cases e : evB P d.body (ms.map some ++ List.replicate (d.nn - d.np) none) h with
    | nx ρ h' => rw [e] at p; exact fun σ' H' φ' x R' _ => p .non H' φ' x R' .non
    | rt v h' => rw [e] at p; exact fun x H' φ' E' R' r => p x H' φ' E' R' r
    | bk ρ h' => rw [e] at p; exact False.elim p
    | ct ρ h' => rw [e] at p; exact False.elim p
    | bad => rw [e] at p; exact False.elim p
    | err c fs ρ h' => rw [e] at p; exact fun cls d σ H' φ' x R' _ q => p cls d H' φ' x R' q
theorem FnB.ok {k : Nat} {P : Pg} (pr : PrOk tb L P k prog w mg base) {f : Str} {qual : Str} {st : Stmt} {a : Addr} {fd : FuncData} {N ps : List Str} {d : Df} {fuel : Nat} (F : FnB L.K f qual st a fd ps) (S : FnScope N ps (defScope st))
    (ht : trSs tb fuel N (defScope st) (defBody st) = some d.body) (hp : d.np = ps.length) (hn : d.nn = N.length) : FnOk prog w L.K mg base (CXb tb.nc prog w) (k + 2) a fd ps (spOf L (callB P d) ps.length) := by
  rcases F with ⟨F, _⟩ | ⟨params, dvs, F, _⟩
  · exact def_ok pr F S ht hp hn
  · exact def_okD pr F S ht hp hn
theorem FnB.binds {K : PySem.W.Frag} {f : Str} {qual : Str} {st : Stmt} {a : Addr} {fd : FuncData} {ps : List Str} (F : FnB K f qual st a fd ps) : Binds K fd ps [] := by
  rcases F with ⟨_, h⟩ | ⟨_, _, _, h⟩
  · exact .all h
  · exact h
/-- __init__ of an exception's class -/
theorem exinit_ok {k : Nat} {CX : CXT} {x qual self row f : Str} {st : Stmt} {a C : Addr} {fd : FuncData} {p1 p2 p3 p4 : Pos} (F : Fun L.K x qual st a fd) (S : FnScope [self, row] [self, row] (defScope st)) (hb : defBody st = [.Assign [.Attribute (.Name self p1) f p2] (.Name row p3) p4])
    (l1 : (defScope st).names.lookup self = some .local) (l2 : (defScope st).names.lookup row = some .local) (c1 : spC self = true) (c2 : spC row = true) (T : OexC L.K C) (hno : PySem.W.findIn L.K (.ref C) f = some none) : FnOk prog w L.K mg base CX (k + 1) a fd [self, row] (spEx C f) ∧ L2H.FnH prog w L.K mg base CX (k + 1) a fd [self, row] (spEx C f) := by
    constructor
    · skip
      refine fun_okX F S (fun vs H Q E ⟨a, v, e, _⟩ => by rw [e]; rfl) fun cdv A outer s H vs Q E hr ⟨e, v, ev, he, q⟩ => ?_
      subst ev
      unfold spC at c1 c2
      simp only [Bool.and_eq_true, Bool.not_eq_true'] at c1 c2
      rw [hb]
      refine ⟨_, pss_cons (ps_ost (pe_var (i := 0) rfl (.inl l1) c1.1.1 c1.1.2) (pe_var (i := 1) rfl (.inl l2) c2.1.1 c2.1.2)) pss_nil, ?_⟩
      exact ⟨v, rfl, .ref e, rfl, e, C, rfl, T, hno, .inl ⟨he, fun dx hd ne => q dx hd ne⟩⟩
    · skip
      refine fun_okH F S (fun vs H Q E ⟨a, v, e, _⟩ => by rw [e]; rfl) fun cdv A outer s H vs Q E p ⟨e, v, ev, he, q⟩ => ?_
      subst ev
      unfold spC at c1 c2
      simp only [Bool.and_eq_true, Bool.not_eq_true'] at c1 c2
      rw [hb]
      refine ⟨_, pss_cons (ps_ost (pe_var (i := 0) rfl (.inl l1) c1.1.1 c1.1.2) (pe_var (i := 1) rfl (.inl l2) c2.1.1 c2.1.2)) pss_nil, ?_⟩
      exact ⟨v, rfl, .ref e, rfl, e, C, rfl, T, hno, .inl ⟨he, fun dx hd ne => q dx hd ne⟩⟩
theorem exdf_ok {k : Nat} {C : Addr} {o : Option String} (h : ExDf L.K C o) : ExMk prog w L.K mg base (k + 1) C o := by
  cases o with
  | none => exact h
  | some f =>
    obtain ⟨T, hno, fI, st, x, qual, self, row, fd, p1, p2, p3, p4, iC, tI, F, hb, S, hd, l1, l2, c1, c2⟩ := h
    exact ⟨T, hno, fI, fd, _, iC, tI, .all hb, fun CX => (exinit_ok F S hd l1 l2 c1 c2 T hno).1, fun CX => (exinit_ok F S hd l1 l2 c1 c2 T hno).2⟩
theorem cf_eq {f : String} {d : Df} (hd : T.defs.lookup f = some d) {n : Nat} : (T.pg (n + 1)).cf f = callB (T.pg n) d := by
  funext ms h
  show (match T.defs.lookup f with
    | some d => callB (T.pg n) d ms h
    | none => Res.bad) = _
  rw [hd]
theorem bare_eq {f : String} {d : Df} (hd : T.defs.lookup f = some d) {n : Nat} : (T.pg (n + 1)).bare f = callB (bareP (T.pg n)) d := by
  funext ms h
  show (match T.defs.lookup f with
    | some d => callB (bareP (T.pg n)) d ms h
    | none => Res.bad) = _
  rw [hd]
theorem bad_fn {C : CXT} {k : Nat} {a : Addr} {fd : FuncData} {ps : List Str} {f : String} : FnOk prog w L.K mg base C k a fd ps (spOf L ((T.pg 0).cf f) ps.length) := ⟨fun vs H Q E h => h.1, fun A outer s H args us vs Q E hr _ _ _ h => by
      obtain ⟨_, φ, hh, ms, _, _, p⟩ := h
      exact False.elim p⟩
theorem callB_len {P : Pg} {d : Df} {ms : List Val} {h : MH} (z : callB P d ms h ≠ .bad) : ms.length = d.np := by
  unfold callB at z
  by_cases c : ms.length = d.np
  · exact c
  · rw [if_neg c] at z; exact absurd rfl z
theorem prog_ok (O : TopOk tb T L mg) : ∀ n, PrOk tb L (T.pg n) (2 * n) prog w mg base
  | 0 => by
    refine ⟨O.glb, fun f hf => ?_, (fun _ f hf => ?_), O.isi, O.noTy, O.sep, O.exk, O.exm, (fun z => by rw [O.nc] at z; cases z), (fun _ _ h => nomatch h), O.insTy, O.blt, fun c m f hm => ?_, O.own, fun m n cs hc c f hm => ?_, O.mks, O.flds, fun c m f hm => ?_⟩
    rotate_left 4
    · obtain ⟨C, mc, a, st, qual, fd, N, ps, d, fuel, h1, h2, h3, F, hb, S, hd, ht, hp, hn⟩ := O.cm c m f hm
      exact ⟨C, mc, a, fd, ps, h1, h2, h3, F.kp, .all hb, bad_fn, fun ms h z => absurd rfl z⟩
    · obtain ⟨a, st, qual, fd, N, ps, d, fuel, h1, F, hb, S, hd, ht, hp, hn, _⟩ := O.fns f hf
      exact ⟨a, fd, ps, h1, F.kp, .all hb, bad_fn, fun ms h z => absurd rfl z⟩
    · obtain ⟨a, st, qual, fd, N, ps, d, fuel, h1, F, hb, S, hd, ht, hp, hn, _⟩ := O.nfn f hf
      exact ⟨a, fd, ps, h1, F.kp, .all hb, bad_fn (T := T) (f := f), fun ms h z => absurd rfl z⟩
    · obtain ⟨C, a, st, qual, fd, N, ps, d, fuel, h1, h2, h3, F, S, hd, ht, hp, hn⟩ := O.mro c m f hm
      exact ⟨C, a, fd, ps, h1, h2, h3, F.binds, bad_fn, fun ms h z => absurd rfl z⟩
    · obtain ⟨C, a, st, qual, fd, N, ps, d, fuel, params, dvs, ds, ws, h1, h2, h3, hv, hr, F, hb, S, hd, ht, hp, hn⟩ := O.dfl m n cs hc c f hm
      exact ⟨C, a, fd, ps, ds, ws, h1, h2, h3, hv, hr, hb, bad_fn, fun ms h z => absurd rfl z⟩
  | n + 1 => by
    refine ⟨O.glb, fun f hf => ?_, (fun _ f hf => ?_), O.isi, O.noTy, O.sep, O.exk, O.exm, (fun z => by rw [O.nc] at z; cases z), (fun c o h => by obtain ⟨C, a1, a2, a3, a4, a5, a6⟩ := O.exi c o h; exact ⟨C, a1, a2, a3, a4, a5, exdf_ok a6⟩), O.insTy, O.blt, fun c m f hm => ?_, O.own, fun m n' cs hc c f hm => ?_, O.mks, O.flds, fun c m f hm => ?_⟩
    rotate_left 4
    · obtain ⟨C, mc, a, st, qual, fd, N, ps, d, fuel, h1, h2, h3, F, hb, S, hd, ht, hp, hn⟩ := O.cm c m f hm
      have e := cf_eq hd (n := n)
      refine ⟨C, mc, a, fd, ps, h1, h2, h3, F.kp, .all hb, ?_, fun ms h z => ?_⟩
      · rw [e]
        exact def_ok (prog_ok O n) F S ht hp hn
      · rw [e] at z
        rw [callB_len z, hp]
    · obtain ⟨a, st, qual, fd, N, ps, d, fuel, h1, F, hb, S, hd, ht, hp, hn, _⟩ := O.fns f hf
      have e := cf_eq hd (n := n)
      refine ⟨a, fd, ps, h1, F.kp, .all hb, ?_, fun ms h z => ?_⟩
      · rw [e]
        exact def_ok (prog_ok O n) F S ht hp hn
      · rw [e] at z
        rw [callB_len z, hp]
    · obtain ⟨a, st, qual, fd, N, ps, d, fuel, h1, F, hb, S, hd, ht, hp, hn, _⟩ := O.nfn f hf
      have e := bare_eq hd (n := n)
      refine ⟨a, fd, ps, h1, F.kp, .all hb, ?_, fun ms h z => ?_⟩
      · rw [e]
        exact def_ok (tb := bareT tb) (bare_ok O.nc (prog_ok O n)) F S ht hp hn
      · rw [e] at z
        rw [callB_len z, hp]
    · obtain ⟨C, a, st, qual, fd, N, ps, d, fuel, h1, h2, h3, F, S, hd, ht, hp, hn⟩ := O.mro c m f hm
      have e := cf_eq hd (n := n)
      refine ⟨C, a, fd, ps, h1, h2, h3, F.binds, ?_, fun ms h z => ?_⟩
      · rw [e]
        exact F.ok (prog_ok O n) S ht hp hn
      · rw [e] at z
        rw [callB_len z, hp]
    · obtain ⟨C, a, st, qual, fd, N, ps, d, fuel, params, dvs, ds, ws, h1, h2, h3, hv, hr, F, hb, S, hd, ht, hp, hn⟩ := O.dfl m n' cs hc c f hm
      have e := cf_eq hd (n := n)
      refine ⟨C, a, fd, ps, ds, ws, h1, h2, h3, hv, hr, hb, ?_, fun ms h z => ?_⟩
      · rw [e]
        exact def_okD (prog_ok O n) F S ht hp hn
      · rw [e] at z
        rw [callB_len z, hp]
end
theorem lookup_mem {α β : Type} [BEq α] [LawfulBEq α] {a : α} {b : β} : ∀ {l : List (α × β)}, l.lookup a = some b → (a, b) ∈ l
  | [], h => by cases h
  | (c, d) :: l, h => by
    rw [List.lookup_cons] at h
    by_cases e : (a == c) = true
    · rw [e] at h
      cases h
      rw [beq_iff_eq.mp e]
      exact List.mem_cons_self ..
    · rw [show (a == c) = false by simpa using e] at h
      exact List.mem_cons_of_mem _ (lookup_mem h)
theorem sub_of {L : Lk} {tab : List ((String × String) × Bool)} {t : String} {u : Value} (h : ∀ e ∈ tab, e.1.2 = t → PySem.W.kitOne L.K (tyV' L e.1.1) u = some e.2) : ∀ cl b, tab.lookup (cl, t) = some b → PySem.W.kitOne L.K (tyV' L cl) u = some b := by
  intro cl b hb
  induction tab with
  | nil => cases hb
  | cons e r ih =>
    obtain ⟨⟨c, t'⟩, v⟩ := e
    rw [List.lookup_cons] at hb
    by_cases q : ((cl, t) == (c, t')) = true
    · have z : (cl, t) = (c, t') := by simpa using q
      rw [q] at hb
      cases z; cases hb
      exact h ((cl, t), b) (List.mem_cons_self ..) rfl
    · have q' : ((cl, t) == (c, t')) = false := by simpa using q
      rw [q'] at hb
      exact ih (fun e he => h e (List.mem_cons_of_mem _ he)) hb
theorem VRs.intsOf {L : Lk} {φ : Ph} {H : Hp} : ∀ ns : List Int, VRs L φ H (ns.map Val.int) (ns.map V.int)
  | [] => .nil
  | n :: r => .cons (.int n) (VRs.intsOf r)
/-- the law's end -/
theorem walk {l : PySem.W.OpenLaw} {n : Nat} {q : Program} {loose : List Str} {XP : (Str → Option Value) → Heap → Prop} {YP : World → Heap → Prop} {d : DefRec} {K : Params → PySem.W.Frag} {L : PySem.W.Frag → Lk} {tb : Tb} {T : Pr} {x : Str} {dl : Df}
    (hn : l.most = some 63) (hdf : d.params.defaults = []) (hr : Room (2 * (n + 1)) callerA) (hY : ∀ (w : World) (h : Heap), YP w h → (K w.params).In h)
    (hK : ∀ K, (L K).K = K) (hnm : d.name = Str.ofString "law") (hf : tb.fns.contains "law" = true) (hdl : T.defs.lookup "law" = some dl) (hx : dl.ps = [x])
    (hlaw : ∀ ns : List Int, ns.length ≤ 63 → (∀ z ∈ ns, Builtin.Int.intBits z ≤ 1048576) → ∃ h', (T.pg (n + 1)).cf "law" [.ref 0] [.lst false (ns.map .int)] = .ok (.bl true) h')
    (F : ∀ (w : World) (mg : Str → Option Value) (h : Heap), (K w.params).In h → h.Ns mainGlobals mg → TopOk tb T (L (K w.params)) mg) :
    PySem.W.WalkO q loose XP YP l.row.toRowW d [] (fun f vs => PySem.call f vs) := by
  refine L2.walk_ofB (n := 63) (k := 2 * (n + 1)) (x := x) (K := K) (CX := fun w => L2.CX l.prog w) (sp := fun w => spOf (L (K w.params)) ((T.pg (n + 1)).cf "law") 1) hn (by decide) hdf hr hY ?_ ?_ ?_
  · intro w mg fa h KX G hmg
    have O := F w mg h KX G
    obtain ⟨a, st, qual, fd, N, ps, d2, fuel, h1, F1, hb, S, hd, ht, hp, hn2, hps⟩ := O.fns "law" hf
    rw [hdl] at hd; cases hd
    have e : ps = [x] := by rw [← hps, hx]
    subst e
    rw [hnm, h1] at hmg; cases hmg
    refine ⟨fd, fun s u => ?_, fun base KB GB => ?_⟩
    · exact .of_eq (hb [u] rfl)
    · have z := def_ok (prog_ok (prog := l.prog) (w := w) (base := base) O n) F1 S ht hp hn2
      rw [cf_eq hdl]
      rw [hK, show CXb tb.nc l.prog w = L2.CX l.prog w by rw [O.nc]; rfl] at z
      exact z
  · intro w H a ns hl hbits ho hS
    obtain ⟨h', e⟩ := hlaw ns hl hbits
    refine ⟨rfl, [(false, a)], [.lst false (ns.map .int)], [.ref 0], ?_, .cons (.ref ⟨false, rfl⟩) .nil, ?_⟩
    · refine ⟨rfl, fun i o hi => ?_, fun i j a hi _ => ?_, fun b hb => ?_⟩
      · match i, hi with
        | 0, hi =>
          cases hi
          refine ⟨false, a, rfl, (fun z => by cases z), .ro ?_ (VRs.intsOf ns)⟩
          rw [hK]
          rcases hS with (z | ⟨o, z⟩) | z
          · rcases ho a with y | ⟨o, xs, y⟩
            · rw [y] at z; cases z
            · rw [y] at z; cases z
          · exact .inl ⟨o, z⟩
          · exact .inr z
        | i + 1, hi => simp at hi
      · match i, hi with
        | 0, hi => cases hi
        | i + 1, hi => simp at hi
      · simp at hb
    · rw [e]
      exact fun v H' φ' _ _ r => r.blI
  · rintro w H s e s' ⟨_, _, _, _, _, _, _, _, _, _, _, _, z⟩
    exact z.elim
end Mn
/-! Mini: rules for running a program by hand -/
namespace Mn
open PySem
open Classical
/-- what simp shall not look into -/
structure Fz {α : Sort _} (a : α) : Type where
noncomputable abbrev XP := String → List (String × Val) → MH → Prop
noncomputable def Res.wp {α : Type} (r : Res α) (Q : α → MH → Prop) (E : XP) (_ : Fz Q := ⟨⟩) (_ : Fz E := ⟨⟩) : Prop := match r with
  | .ok a h => Q a h
  | .err c fs h => E c fs h
  | .bad => False
structure Ks where
  nx : Env' → MH → Prop
  bk : Env' → MH → Prop
  ct : Env' → MH → Prop
  rt : Val → MH → Prop
  er : String → List (String × Val) → Env' → MH → Prop
noncomputable def SR.wp (r : SR) (K : Ks) (_ : Fz K := ⟨⟩) : Prop := match r with
  | .nx ρ h => K.nx ρ h
  | .bk ρ h => K.bk ρ h
  | .ct ρ h => K.ct ρ h
  | .rt v h => K.rt v h
  | .err c fs ρ h => K.er c fs ρ h
  | .bad => False
noncomputable def ifK (v : Val) (a b : Prop) (_ : Fz a := ⟨⟩) (_ : Fz b := ⟨⟩) : Prop := match v with
  | .bl true => a
  | .bl false => b
  | _ => False
noncomputable def blK (v : Val) (k : Bool → Prop) (_ : Fz k := ⟨⟩) : Prop := match v with
  | .bl b => k b
  | _ => False
noncomputable def inK (v : Val) (k : Int → Prop) (_ : Fz k := ⟨⟩) : Prop := match v with
  | .int b => k b
  | _ => False
noncomputable def opK {α : Type} (o : Option α) (k : α → Prop) (_ : Fz k := ⟨⟩) : Prop := match o with
  | some b => k b
  | none => False
noncomputable def lsK (o : Option Ob) (k : Bool → List Val → Prop) (_ : Fz k := ⟨⟩) : Prop := match o with
  | some (.lst w xs) => k w xs
  | _ => False
section
variable {α β : Type} {P : Pg} {ρ : Env'} {h : MH} {Q Q' : α → MH → Prop} {E E' : XP} {K K' : Ks} {a b : Prop}
theorem if_t : ifK (.bl true) a b = a := id rfl
theorem if_f : ifK (.bl false) a b = b := id rfl
theorem if_dec {p : Prop} {d : Decidable p} : ifK (.bl (@decide p d)) a b = ((p → a) ∧ (¬ p → b)) := by
  by_cases z : p
  · simp [z, ifK]
  · simp [z, ifK]
theorem if_not {d : Bool} : ifK (.bl (!d)) a b = ifK (.bl d) b a := by cases d <;> rfl
theorem if_and {c d : Bool} : ifK (.bl (c && d)) a b = ifK (.bl c) (ifK (.bl d) a b) b := by cases c <;> cases d <;> rfl
theorem if_or {c d : Bool} : ifK (.bl (c || d)) a b = ifK (.bl c) a (ifK (.bl d) a b) := by cases c <;> cases d <;> rfl
theorem bl_k {d : Bool} {k : Bool → Prop} : blK (.bl d) k = k d := id rfl
theorem in_k {d : Int} {k : Int → Prop} : inK (.int d) k = k d := id rfl
theorem op_k {v : α} {k : α → Prop} : opK (some v) k = k v := id rfl
theorem op_n {k : α → Prop} : opK none k = False := id rfl
theorem op_map {f : β → α} {o : Option β} {k : α → Prop} : opK (o.map f) k = opK o fun x => k (f x) := by cases o <;> rfl
theorem op_if {c : Prop} {d : Decidable c} {x : α} {k : α → Prop} : opK (@ite _ c d (some x) none) k = (c ∧ k x) := by
  by_cases z : c
  · rw [if_pos z]; simp [z, opK]
  · rw [if_neg z]; simp [z, opK]
theorem ls_k {w : Bool} {xs : List Val} {k : Bool → List Val → Prop} : lsK (some (.lst w xs)) k = k w xs := id rfl
theorem wp_ok {a : α} : (Res.ok a h).wp Q E = Q a h := id rfl
theorem wp_err {c : String} {fs : List (String × Val)} : (Res.err c fs h : Res α).wp Q E = E c fs h := id rfl
theorem wp_bad : (Res.bad : Res α).wp Q E = False := id rfl
theorem wp_bind {r : Res β} {f : β → MH → Res α} : (r.bind f).wp Q E = r.wp (fun a h => (f a h).wp Q E) E := by
  cases r <;> rfl
theorem wp_if {c : Prop} {d : Decidable c} {r : Res α} : (@ite _ c d r .bad).wp Q E = (c ∧ r.wp Q E) := by
  by_cases z : c
  · rw [if_pos z]; simp [z]
  · rw [if_neg z]; simp [z, wp_bad]
theorem wp_ret {o : Option α} : (retO o h).wp Q E = opK o fun a => Q a h := by
  cases o <;> rfl
theorem wp_cg {r : Res α} (e : ∀ a h, Q a h = Q' a h) : r.wp Q E = r.wp Q' E := by
  have : Q = Q' := funext fun a => funext fun h => e a h
  subst this; rfl
theorem wp_bg {r : Res β} {f : β → MH → Res α} {G : β → MH → Prop} (e : ∀ a h, (f a h).wp Q E = G a h) : (r.bind f).wp Q E = r.wp G E := by
  rw [wp_bind]; exact wp_cg e
theorem srw_og {r : Res α} {f : α → MH → SR} {G : α → MH → Prop} (e : ∀ a h, (f a h).wp K = G a h) : (SR.ofRes ρ r f).wp K = r.wp G (fun c fs h => K.er c fs ρ h) := by
  have : G = fun a h => (f a h).wp K := funext fun a => funext fun h => (e a h).symm
  subst this
  cases r <;> rfl
theorem wp_imp {r : Res α} (p : r.wp Q E) (k : ∀ a h, Q a h → Q' a h) (e : ∀ c fs h, E c fs h → E' c fs h) : r.wp Q' E' := by
  cases r with
  | ok a h => exact k _ _ p
  | err c fs h => exact e _ _ _ p
  | bad => exact p
noncomputable abbrev NoE : XP := fun _ _ _ => False
theorem wp_to {r : Res α} (p : r.wp Q NoE) (k : ∀ a h, Q a h → Q' a h) : r.wp Q' E' := wp_imp p k fun _ _ _ z => z.elim
theorem wp_eq {r : Res α} {v : α} (p : r.wp (fun v' h' => v' = v ∧ h' = h) NoE) : r = .ok v h := by
  cases r with
  | ok a h => obtain ⟨rfl, rfl⟩ := p; rfl
  | err c fs h => exact p.elim
  | bad => exact p.elim
/-- a run that is known -/
theorem wp_is {r : Res α} {v : α} (e : r = .ok v h) : r.wp Q E = Q v h := by rw [e]; rfl
theorem wp_ex {r : Res α} (p : r.wp Q NoE) : ∃ v h, r = .ok v h ∧ Q v h := by
  cases r with
  | ok a h => exact ⟨_, _, rfl, p⟩
  | err c fs h => exact p.elim
  | bad => exact p.elim
theorem srw_ofRes {r : Res α} {f : α → MH → SR} : (SR.ofRes ρ r f).wp K = r.wp (fun a h => (f a h).wp K) (fun c fs h => K.er c fs ρ h) := by
  cases r <;> rfl
theorem srw_seq {r : SR} {f : Env' → MH → SR} : (r.seq f).wp K = r.wp { K with nx := fun ρ h => (f ρ h).wp K } := by
  cases r <;> rfl
end
section
variable {P : Pg} {ρ : Env'} {h : MH} {Q : Val → MH → Prop} {Z : XP} {K : Ks}
theorem wg_0 {v : Val} {r : Env'} : (getV (some v :: r) 0 h).wp Q Z = Q v h := id rfl
theorem wg_s {x : Option Val} {r : Env'} {i : Nat} : (getV (x :: r) (i + 1) h).wp Q Z = (getV r i h).wp Q Z := by
  unfold getV; rw [List.getElem?_cons_succ]
theorem we_var {i : Nat} : (evE P (.var i) ρ h).wp Q Z = (getV ρ i h).wp Q Z := by simp only [evE]
theorem we_con {v : Val} : (evE P (.con v) ρ h).wp Q Z = Q v h := by simp only [evE, wp_ok]
theorem we_glb {x : String} : (evE P (.glb x) ρ h).wp Q Z = opK (P.glb x) fun v => Q v h := by simp only [evE, wp_ret]
theorem we_bin {op : Operator} {a b : E} : (evE P (.bin op a b) ρ h).wp Q Z = (evE P a ρ h).wp (fun x h1 => (evE P b ρ h1).wp (fun y h2 => (binop op x y h2).wp Q Z) Z) Z := by
  simp only [evE]; exact wp_bg fun x h1 => wp_bind
theorem we_cmp {op : CmpOp} {a b : E} : (evE P (.cmp op a b) ρ h).wp Q Z = (evE P a ρ h).wp (fun x h1 => (evE P b ρ h1).wp (fun y h2 => (cmpop op x y h2).wp Q Z) Z) Z := by
  simp only [evE]; exact wp_bg fun x h1 => wp_bind
theorem we_and {a b : E} : (evE P (.and a b) ρ h).wp Q Z = (evE P a ρ h).wp (fun x h1 => ifK x ((evE P b ρ h1).wp Q Z) (Q (.bl false) h1)) Z := by
  simp only [evE]
  refine wp_bg fun x h1 => ?_
  cases x <;> try rfl
  rename_i c
  cases c <;> rfl
theorem we_or {a b : E} : (evE P (.or a b) ρ h).wp Q Z = (evE P a ρ h).wp (fun x h1 => ifK x (Q (.bl true) h1) ((evE P b ρ h1).wp Q Z)) Z := by
  simp only [evE]
  refine wp_bg fun x h1 => ?_
  cases x <;> try rfl
  rename_i c
  cases c <;> rfl
theorem we_not {a : E} : (evE P (.not a) ρ h).wp Q Z = (evE P a ρ h).wp (fun x h1 => blK x fun c => Q (.bl (!c)) h1) Z := by
  simp only [evE]
  refine wp_bg fun x h1 => ?_
  cases x <;> rfl
theorem we_neg {a : E} : (evE P (.neg a) ρ h).wp Q Z = (evE P a ρ h).wp (fun x h1 => inK x fun c => Q (.int (-c)) h1) Z := by
  simp only [evE]
  refine wp_bg fun x h1 => ?_
  cases x <;> rfl
theorem we_isN {a : E} : (evE P (.isN a) ρ h).wp Q Z = (evE P a ρ h).wp (fun x h1 => Q (.bl (isNon x)) h1) Z := by
  simp only [evE]; exact wp_bg fun x h1 => rfl
theorem we_notN {a : E} : (evE P (.notN a) ρ h).wp Q Z = (evE P a ρ h).wp (fun x h1 => Q (.bl (!isNon x)) h1) Z := by
  simp only [evE]; exact wp_bg fun x h1 => rfl
theorem we_isB {a : E} {b : Bool} : (evE P (.isB a b) ρ h).wp Q Z = (evE P a ρ h).wp (fun x h1 => Q (.bl (isBl b x)) h1) Z := by
  simp only [evE]; exact wp_bg fun x h1 => rfl
theorem we_chn {o1 o2 : CmpOp} {a b c : E} : (evE P (.chn o1 o2 a b c) ρ h).wp Q Z = (evE P a ρ h).wp (fun x h1 => (evE P b ρ h1).wp (fun y h2 => (cmpop o1 x y h2).wp (fun z h3 => ifK z ((evE P c ρ h3).wp (fun w h4 => (cmpop o2 y w h4).wp Q Z) Z) (Q (.bl false) h3)) Z) Z) Z := by
  simp only [evE]
  refine wp_bg fun x h1 => wp_bg fun y h2 => wp_bg fun z h3 => ?_
  cases z <;> try rfl
  rename_i c
  cases c
  · rfl
  · exact wp_bind
theorem we_lst {es : List E} : (evE P (.lst es) ρ h).wp Q Z = (evEs P es ρ h).wp (fun vs h1 => vs.length ≤ sizeLine ∧ Q (.ref h1.length) (h1 ++ [.lst true vs])) Z := by
  simp only [evE]; exact wp_bg fun x h1 => wp_if
theorem we_tup {es : List E} : (evE P (.tup es) ρ h).wp Q Z = (evEs P es ρ h).wp (fun vs h1 => vs.length ≤ sizeLine ∧ Q (.tup vs) h1) Z := by
  simp only [evE]; exact wp_bg fun x h1 => wp_if
theorem we_idx {a b : E} : (evE P (.idx a b) ρ h).wp Q Z = (evE P a ρ h).wp (fun x h1 => (evE P b ρ h1).wp (fun y h2 => (index x y h2).wp Q Z) Z) Z := by
  simp only [evE]; exact wp_bg fun x h1 => wp_bind
theorem wo_none {Q : Option Int → MH → Prop} : (evO P none ρ h).wp Q Z = Q none h := by simp only [evO, wp_ok]
theorem wo_some {e : E} {Q : Option Int → MH → Prop} : (evO P (some e) ρ h).wp Q Z = (evE P e ρ h).wp (fun v h1 => inK v fun i => Q (some i) h1) Z := by
  simp only [evO]
  refine wp_bg fun x h1 => ?_
  cases x <;> rfl
theorem we_slc {a : E} {lo hi : Option E} : (evE P (.slc a lo hi) ρ h).wp Q Z = (evE P a ρ h).wp (fun x h1 => (evO P lo ρ h1).wp (fun l h2 => (evO P hi ρ h2).wp (fun u h3 => (slice x l u h3).wp Q Z) Z) Z) Z := by
  simp only [evE]; exact wp_bg fun x h1 => wp_bg fun y h2 => wp_bind
theorem we_call {f : String} {es : List E} : (evE P (.call f es) ρ h).wp Q Z = (evEs P es ρ h).wp (fun vs h1 => (P.cf f vs h1).wp Q Z) Z := by
  simp only [evE]; exact wp_bind
theorem we_bi {f : Bi} {es : List E} : (evE P (.bi f es) ρ h).wp Q Z = (evEs P es ρ h).wp (fun vs h1 => (bisem f vs h1).wp Q Z) Z := by
  simp only [evE]; exact wp_bind
theorem we_isi {a : E} {t : String} : (evE P (.isi a t) ρ h).wp Q Z = (evE P a ρ h).wp (fun x h1 => opK (tyOf h1 x) fun c => opK (P.sub c t) fun b => Q (.bl b) h1) Z := by
  simp only [evE]
  refine wp_bg fun x h1 => ?_
  unfold isInst
  rw [wp_ret]
  cases tyOf h1 x with
  | none => rfl
  | some c =>
    show opK ((P.sub c t).map Val.bl) _ = opK (P.sub c t) _
    rw [op_map]
theorem we_mth {m : Mt} {o : E} {es : List E} : (evE P (.mth m o es) ρ h).wp Q Z = (evE P o ρ h).wp (fun x h1 => mtOk m x h1 = true ∧ (evEs P es ρ h1).wp (fun vs h2 => (mtsem m x vs h2).wp Q Z) Z) Z := by
  simp only [evE]
  refine wp_bg fun x h1 => ?_
  rw [wp_if, wp_bind]
theorem we_nil {Q : List Val → MH → Prop} : (evEs P [] ρ h).wp Q Z = Q [] h := by simp only [evEs, wp_ok]
theorem we_cons {e : E} {es : List E} {Q : List Val → MH → Prop} : (evEs P (e :: es) ρ h).wp Q Z = (evE P e ρ h).wp (fun v h1 => (evEs P es ρ h1).wp (fun vs h2 => Q (v :: vs) h2) Z) Z := by
  simp only [evEs]; exact wp_bg fun x h1 => wp_bg fun y h2 => rfl
/-- what a for walks, and the heap behind that -/
noncomputable def riK (k : ItK) (vs : List Val) (h : MH) (f : List Val × Src → MH → Prop) (_ : Fz f := ⟨⟩) : Prop := match k, vs with
  | .itm, [.ref a] => match h[a]? with
    | some (.dct _ kvs) => f (itemsD kvs, [(a, .dct false kvs)]) (h.set a (.dct false kvs))
    | _ => False
  | _, _ => opK (itemsOf k vs h) fun p => f p h
theorem wp_resI {k : ItK} {vs : List Val} {Q : List Val × Src → MH → Prop} : (resI k vs h).wp Q Z = riK k vs h Q := by
  have gen : ∀ k, (match itemsOf k vs h with
    | some p => .ok p h
    | none => .bad : Res (List Val × Src)).wp Q Z = opK (itemsOf k vs h) fun p => Q p h := fun k => by
    cases itemsOf k vs h <;> rfl
  cases k <;> first | exact gen _ | skip
  match vs with
  | [] => exact gen .itm
  | [.ref a] =>
    simp only [resI, riK]
    cases h[a]? with
    | none => rfl
    | some o => cases o <;> rfl
  | [.non] => exact gen .itm
  | [.bl _] => exact gen .itm
  | [.int _] => exact gen .itm
  | [.str _] => exact gen .itm
  | [.tup _] => exact gen .itm
  | [.exc _ _] => exact gen .itm
  | x :: y :: r => cases x <;> exact gen .itm
section
variable {vs : List Val} {f : List Val × Src → MH → Prop}
theorem ri_cg {k : ItK} {f' : List Val × Src → MH → Prop} (e : ∀ p h, f p h = f' p h) : riK k vs h f = riK k vs h f' := by
  have : f = f' := funext fun p => funext fun h => e p h
  subst this; rfl
theorem ri_val : riK .val vs h f = opK (itemsOf .val vs h) fun p => f p h := id rfl
theorem ri_rng : riK .rng vs h f = opK (itemsOf .rng vs h) fun p => f p h := id rfl
theorem ri_enm : riK .enm vs h f = opK (itemsOf .enm vs h) fun p => f p h := id rfl
theorem ri_zip : riK .zip vs h f = opK (itemsOf .zip vs h) fun p => f p h := id rfl
theorem ri_zpx : riK .zpx vs h f = opK (itemsOf .zpx vs h) fun p => f p h := id rfl
theorem ri_rev : riK .rev vs h f = opK (itemsOf .rev vs h) fun p => f p h := id rfl
/-- the thing at a is a dict -/
noncomputable def dcK (o : Option Ob) (k : Bool → List (L2.Key × Val) → Prop) (_ : Fz k := ⟨⟩) : Prop := match o with
  | some (.dct w xs) => k w xs
  | _ => False
theorem dc_k {w : Bool} {xs : List (L2.Key × Val)} {k : Bool → List (L2.Key × Val) → Prop} : dcK (some (.dct w xs)) k = k w xs := id rfl
theorem ri_itm {a : Nat} : riK .itm [.ref a] h f = dcK h[a]? fun _ kvs => f (itemsD kvs, [(a, .dct false kvs)]) (h.set a (.dct false kvs)) := by
  simp only [riK]
  cases h[a]? with
  | none => rfl
  | some o => cases o <;> rfl
end
theorem we_cmp1 {own : List Nat} {elt : E} {t : Tg} {k : ItK} {es : List E} {cond : Option E} : (evE P (.cmp1 own elt t k es cond) ρ h).wp Q Z = (evEs P es ρ h).wp (fun vs h1 => riK k vs h1 fun p h2 => (compL t p.2 (wipe' ρ own) (evC P cond) (evE P elt) p.1 [] h2).wp (fun ws h3 => Q (.ref h3.length) (h3 ++ [.lst true ws])) Z) Z := by
  simp only [evE]
  rw [wp_bind, wp_bind]
  refine wp_cg fun vs h1 => ?_
  rw [wp_resI]
  exact ri_cg fun p h2 => wp_bg fun ws h2 => rfl
theorem we_lofv {es : List E} : (evE P (.lof .rev es) ρ h).wp Q Z = (evEs P es ρ h).wp (fun vs h1 => opK (itemsOf .rev vs h1) fun p => Q (.ref h1.length) (h1 ++ [.lst true p.1])) Z := by
  simp only [evE]
  rw [wp_bind, wp_bind]
  refine wp_cg fun vs h1 => ?_
  rw [wp_resI, ri_rev]
  cases itemsOf .rev vs h1 <;> rfl
theorem we_lofr {es : List E} : (evE P (.lof .rng es) ρ h).wp Q Z = (evEs P es ρ h).wp (fun vs h1 => opK (itemsOf .rng vs h1) fun p => p.1.length ≤ 4096 ∧ Q (.ref h1.length) (h1 ++ [.lst true p.1])) Z := by
  simp only [evE]
  rw [wp_bind, wp_bind]
  refine wp_cg fun vs h1 => ?_
  rw [wp_resI, ri_rng]
  cases itemsOf .rng vs h1 with
  | none => rfl
  | some p => exact wp_if
theorem we_lofz {es : List E} : (evE P (.lof .zip es) ρ h).wp Q Z = (evEs P es ρ h).wp (fun vs h1 => opK (itemsOf .zip vs h1) fun p => p.2.isEmpty = false ∧ Q (.ref h1.length) (h1 ++ [.lst true p.1])) Z := by
  simp only [evE]
  rw [wp_bind, wp_bind]
  refine wp_cg fun vs h1 => ?_
  rw [wp_resI, ri_zip]
  cases itemsOf .zip vs h1 with
  | none => rfl
  | some p =>
    rw [op_k]
    show (if p.2.isEmpty = true then Res.bad else alloc (.lst true p.1) h1).wp Q Z = (p.2.isEmpty = false ∧ Q (.ref h1.length) (h1 ++ [.lst true p.1]))
    by_cases c : p.2.isEmpty = true
    · rw [if_pos c, c]; simp [Res.wp]
    · rw [if_neg c]
      have c2 : p.2.isEmpty = false := by simpa using c
      rw [c2]
      simp only [true_and]
      rfl
theorem we_fst {es : List E} : (evE P (.fst es) ρ h).wp Q Z = (evEs P es ρ h).wp (fun vs h1 => opK (fstrO vs Str.empty) fun z => Q (.str z) h1) Z := by
  simp only [evE]
  rw [wp_bind]
  refine wp_cg fun vs h1 => ?_
  cases fstrO vs Str.empty <;> rfl
theorem fs_n {acc : Str} {k : Str → Prop} : opK (fstrO [] acc) k = k acc := id rfl
theorem fs_s {z acc : Str} {r : List Val} {k : Str → Prop} : opK (fstrO (.str z :: r) acc) k = (z.length ≤ sizeLine ∧ (acc ++ z).length ≤ sizeLine ∧ opK (fstrO r (acc ++ z)) k) := by
  rw [show fstrO (.str z :: r) acc = match (if z.length ≤ sizeLine then some z else none) with
    | some y => if (acc ++ y).length ≤ sizeLine then fstrO r (acc ++ y) else none
    | none => none from rfl]
  by_cases c : z.length ≤ sizeLine
  · rw [if_pos c]
    show opK (if (acc ++ z).length ≤ sizeLine then fstrO r (acc ++ z) else none) k = _
    by_cases d : (acc ++ z).length ≤ sizeLine
    · rw [if_pos d]; simp only [c, d, true_and]
    · rw [if_neg d]; simp only [c, d, false_and, and_false]; rfl
  · rw [if_neg c]; simp only [c, false_and]; rfl
theorem fs_i {i : Int} {acc : Str} {r : List Val} {k : Str → Prop} : opK (fstrO (.int i :: r) acc) k = (i.natAbs.log2 < 1920 ∧ (acc ++ toString i).length ≤ sizeLine ∧ opK (fstrO r (acc ++ toString i)) k) := by
  rw [show fstrO (.int i :: r) acc = match (if i.natAbs.log2 < 1920 then some (toString i : Str) else none) with
    | some y => if (acc ++ y).length ≤ sizeLine then fstrO r (acc ++ y) else none
    | none => none from rfl]
  by_cases c : i.natAbs.log2 < 1920
  · rw [if_pos c]
    show opK (if (acc ++ toString i : Str).length ≤ sizeLine then fstrO r (acc ++ toString i) else none) k = _
    by_cases d : (acc ++ toString i : Str).length ≤ sizeLine
    · rw [if_pos d]; simp only [c, d, true_and]
    · rw [if_neg d]; simp only [c, d, false_and, and_false]; rfl
  · rw [if_neg c]; simp only [c, false_and]; rfl
noncomputable def gxK (o : Option Val) (f : List Val → Prop) (_ : Fz f := ⟨⟩) : Prop := match o with
  | some (.tup xs) => f xs
  | _ => False
theorem gx_k {xs : List Val} {f : List Val → Prop} : gxK (some (.tup xs)) f = f xs := id rfl
theorem we_gix {s : String} {e : E} : (evE P (.gix s e) ρ h).wp Q Z = gxK (P.glb s) fun xs => (evE P e ρ h).wp (fun v h1 => opK (gixO xs v) fun u => Q u h1) Z := by
  simp only [evE]
  cases P.glb s with
  | none => rfl
  | some v =>
    cases v with
    | tup xs =>
      rw [gx_k]
      simp only
      rw [wp_bind]
      refine wp_cg fun vs h1 => ?_
      cases gixO xs vs <;> rfl
    | _ => rfl
theorem we_dct : (evE P (.dct [] []) ρ h).wp Q Z = Q (.ref h.length) (h ++ [.dct true []]) := by simp only [evE]; rfl
/-! statements -/
theorem ws_ite {c : E} {a b : List S} : (evS P (.ite c a b) ρ h).wp K = (evE P c ρ h).wp (fun v h1 => ifK v ((evB P a ρ h1).wp K) ((evB P b ρ h1).wp K)) (fun c fs h => K.er c fs ρ h) := by
  simp only [evS]
  refine srw_og fun x h1 => ?_
  cases x <;> try rfl
  rename_i c
  cases c <;> rfl
theorem ws_asg {i : Nat} {e : E} : (evS P (.asg (.nm i) e) ρ h).wp K = (evE P e ρ h).wp (fun v h1 => opK (bindT (.nm i) v ρ) fun ρ1 => K.nx ρ1 h1) (fun c fs h => K.er c fs ρ h) := by
  simp only [evS]
  refine srw_og fun x h1 => ?_
  rfl
theorem ws_asgT {js : List Nat} {e : E} : (evS P (.asg (.tp js) e) ρ h).wp K = (evE P e ρ h).wp (fun v h1 => opK (bindT (.tp js) (unT (.tp js) h1 v) ρ) fun ρ1 => K.nx ρ1 h1) (fun c fs h => K.er c fs ρ h) := by
  simp only [evS]
  refine srw_og fun x h1 => ?_
  cases bindT (.tp js) (unT (.tp js) h1 x) ρ <;> rfl
theorem un_tup {js : List Nat} {vs : List Val} : unT (.tp js) h (.tup vs) = .tup vs := id rfl
theorem un_ref {js : List Nat} {a : Nat} : unT (.tp js) h (.ref a) = tuL h[a]? (.ref a) := id rfl
theorem tu_l {w : Bool} {vs : List Val} {v : Val} : tuL (some (.lst w vs)) v = .tup vs := id rfl
theorem bt_nm {i : Nat} {v : Val} : bindT (.nm i) v ρ = some (ρ.set i (some v)) := id rfl
theorem bt_tp {js : List Nat} {vs : List Val} : bindT (.tp js) (.tup vs) ρ = binds ρ js vs := id rfl
theorem bs_nil : binds ρ [] [] = some ρ := id rfl
theorem bs_cons {j : Nat} {js : List Nat} {v : Val} {vs : List Val} : binds ρ (j :: js) (v :: vs) = binds (ρ.set j (some v)) js vs := id rfl
theorem ws_exp {e : E} : (evS P (.exp e) ρ h).wp K = (evE P e ρ h).wp (fun v h1 => K.nx ρ h1) (fun c fs h => K.er c fs ρ h) := by
  simp only [evS]; exact srw_og fun x h1 => rfl
theorem ws_ret {e : E} : (evS P (.ret e) ρ h).wp K = (evE P e ρ h).wp (fun v h1 => K.rt v h1) (fun c fs h => K.er c fs ρ h) := by
  simp only [evS]; exact srw_og fun x h1 => rfl
theorem ws_retN : (evS P .retN ρ h).wp K = K.rt .non h := by simp only [evS]; rfl
theorem ws_brk : (evS P .brk ρ h).wp K = K.bk ρ h := by simp only [evS]; rfl
theorem ws_cnt : (evS P .cnt ρ h).wp K = K.ct ρ h := by simp only [evS]; rfl
theorem ws_pas : (evS P .pas ρ h).wp K = K.nx ρ h := by simp only [evS]; rfl
theorem wb_nil : (evB P [] ρ h).wp K = K.nx ρ h := by simp only [evB]; rfl
theorem wb_cons {s : S} {r : List S} : (evB P (s :: r) ρ h).wp K = (evS P s ρ h).wp { K with nx := fun ρ h => (evB P r ρ h).wp K } := by simp only [evB, srw_seq]
theorem ws_for {t : Tg} {k : ItK} {es : List E} {b : List S} : (evS P (.forS t k es b) ρ h).wp K = (evEs P es ρ h).wp (fun vs h1 => riK k vs h1 fun p h2 => (forL t p.2 (evB P b) p.1 ρ h2).wp K) (fun c fs h => K.er c fs ρ h) := by
  simp only [evS]
  rw [srw_ofRes, wp_bind]
  exact wp_cg fun vs h1 => wp_resI
theorem ws_whl {c : E} {b : List S} : (evS P (.whl c b) ρ h).wp K = (whC (evE P c) (evB P b) ρ h).wp K := by simp only [evS]
theorem ws_sub {o i e : E} : (evS P (.sub o i e) ρ h).wp K = (evE P e ρ h).wp (fun v h1 => (evE P o ρ h1).wp (fun x h2 => (evE P i ρ h2).wp (fun y h3 => (setSub x y v h3).wp (fun _ h4 => K.nx ρ h4) (fun c fs h => K.er c fs ρ h)) (fun c fs h => K.er c fs ρ h)) (fun c fs h => K.er c fs ρ h)) (fun c fs h => K.er c fs ρ h) := by
  simp only [evS]
  exact srw_og fun x h1 => srw_og fun x h1 => srw_og fun x h1 => srw_og fun x h1 => rfl
/-- a call -/
theorem wp_call {d : Df} {args : List Val} : (callB P d args h).wp Q Z = (args.length = d.np ∧ (evB P d.body (args.map some ++ List.replicate (d.nn - d.np) none) h).wp
    { nx := fun _ h => Q .non h, bk := fun _ _ => False, ct := fun _ _ => False, rt := Q, er := fun c fs _ h => Z c fs h }) := by
  unfold callB
  rw [wp_if]
  congr 1
  cases evB P d.body (args.map some ++ List.replicate (d.nn - d.np) none) h <;> rfl
/-- a for: an invariant -/
theorem wp_for {t : Tg} {c : Src} {b : Env' → MH → SR} {items : List Val} (I : Nat → Env' → MH → Prop) (h0 : I 0 ρ h) (hst : ∀ i ρ h, I i ρ h → i ≤ items.length → c.stands h)
    (step : ∀ i v ρ h, items[i]? = some v → I i ρ h → opK (bindT t v ρ) fun ρ1 => (b ρ1 h).wp { K with nx := I (i + 1), ct := I (i + 1), bk := K.nx })
    (done : ∀ ρ h, I items.length ρ h → K.nx ρ h) : (forL t c b items ρ h).wp K := by
  have key : ∀ (r : List Val) (i : Nat) (ρ : Env') (h : MH), items.drop i = r → i ≤ items.length → I i ρ h → (forL t c b r ρ h).wp K := by
    intro r
    induction r with
    | nil =>
      intro i ρ h hd hi hI
      have e : i = items.length := by
        have := congrArg List.length hd
        simp at this; omega
      subst e
      simp only [forL]
      rw [if_pos (hst _ _ _ hI hi)]
      exact done _ _ hI
    | cons v r ih =>
      intro i ρ h hd hi hI
      have hv : items[i]? = some v := by
        have := congrArg (fun l => l[0]?) hd
        simpa using this
      have hlt : i < items.length := (List.getElem?_eq_some_iff.mp hv).1
      have hr : items.drop (i + 1) = r := by
        rw [← List.drop_drop (i := 1), hd]; rfl
      rw [forL_cons _ _ _ _ _ _ _ (hst _ _ _ hI hi)]
      have p := step i v ρ h hv hI
      cases e1 : bindT t v ρ with
      | none => rw [e1] at p; exact p.elim
      | some ρ1 =>
        rw [e1] at p
        have p : (b ρ1 h).wp { K with nx := I (i + 1), ct := I (i + 1), bk := K.nx } := p
        simp only
        cases e : b ρ1 h with
        | nx ρ2 h2 => rw [e] at p; exact ih (i + 1) _ _ hr hlt p
        | ct ρ2 h2 => rw [e] at p; exact ih (i + 1) _ _ hr hlt p
        | bk ρ2 h2 => rw [e] at p; exact p
        | rt v h2 => rw [e] at p; exact p
        | err c fs ρ2 h2 => rw [e] at p; exact p
        | bad => rw [e] at p; exact p
  exact key items 0 ρ h rfl (Nat.zero_le _) h0
theorem stands_nil {h : MH} : Src.stands [] h = True := by simp [Src.stands]
theorem stands_one {a : Nat} {o : Ob} {h : MH} : Src.stands [(a, o)] h = (h[a]? = some o) := by simp [Src.stands]
theorem stands_two {a b : Nat} {o u : Ob} {h : MH} : Src.stands [(a, o), (b, u)] h = (h[a]? = some o ∧ h[b]? = some u) := by simp [Src.stands]
theorem wf_nil {t : Tg} {c : Src} {b : Env' → MH → SR} : (forL t c b [] ρ h).wp K = (c.stands h ∧ K.nx ρ h) := by
  simp only [forL]
  by_cases z : c.stands h
  · rw [if_pos z]; simp [z, SR.wp]
  · rw [if_neg z]; simp [z, SR.wp]
theorem wf_cons {t : Tg} {c : Src} {b : Env' → MH → SR} {v : Val} {r : List Val} : (forL t c b (v :: r) ρ h).wp K = (c.stands h ∧ opK (bindT t v ρ) fun ρ1 => (b ρ1 h).wp { K with nx := fun ρ h => (forL t c b r ρ h).wp K, ct := fun ρ h => (forL t c b r ρ h).wp K, bk := K.nx }) := by
  by_cases z : c.stands h
  · rw [forL_cons _ _ _ _ _ _ _ z]
    simp only [z, true_and]
    cases bindT t v ρ with
    | none => rfl
    | some ρ1 =>
      show (loopR (b ρ1 h) (forL t c b r)).wp K = (b ρ1 h).wp _
      cases b ρ1 h <;> rfl
  · simp only [forL]
    rw [if_neg z]; simp [z, SR.wp]
/-! ### operators -/
noncomputable def divOk (j : Int) : Prop := 0 < j ∧ j.natAbs.log2 < 9000
section
variable {i j : Int} {s t : Str} {vs ws : List Val}
theorem b_add : (binop .Add (.int i) (.int j) h).wp Q Z = Q (.int (i + j)) h := id rfl
theorem b_sub : (binop .Sub (.int i) (.int j) h).wp Q Z = Q (.int (i - j)) h := id rfl
theorem b_mul : (binop .Mult (.int i) (.int j) h).wp Q Z = (mulOk i j ∧ Q (.int (i * j)) h) := by simp only [binop, wp_if, wp_ok]
theorem b_div : (binop .FloorDiv (.int i) (.int j) h).wp Q Z = (divOk j ∧ Q (.int (i / j)) h) := by simp only [binop, wp_if, wp_ok, divOk]
theorem b_mod : (binop .Mod (.int i) (.int j) h).wp Q Z = (0 < j ∧ Q (.int (i % j)) h) := by simp only [binop, wp_if, wp_ok]
theorem b_pow : (binop .Pow (.int i) (.int j) h).wp Q Z = (powOk i j ∧ Q (.int (i ^ j.toNat)) h) := by simp only [binop, wp_if, wp_ok]
theorem b_shl : (binop .LShift (.int i) (.int j) h).wp Q Z = (powOk i j ∧ Q (.int (i * 2 ^ j.toNat)) h) := by simp only [binop, wp_if, wp_ok]
theorem b_shr : (binop .RShift (.int i) (.int j) h).wp Q Z = (0 ≤ j ∧ Q (.int (i / 2 ^ j.toNat)) h) := by simp only [binop, wp_if, wp_ok]
theorem b_and : (binop .BitAnd (.int i) (.int j) h).wp Q Z = Q (.int (Builtin.bitAnd i j)) h := id rfl
theorem b_or : (binop .BitOr (.int i) (.int j) h).wp Q Z = Q (.int (Builtin.bitOr i j)) h := id rfl
theorem b_xor : (binop .BitXor (.int i) (.int j) h).wp Q Z = Q (.int (Builtin.bitXor i j)) h := id rfl
theorem b_adds : (binop .Add (.str s) (.str t) h).wp Q Z = (s.length + t.length ≤ sizeLine ∧ Q (.str (s ++ t)) h) := by simp only [binop, wp_if, wp_ok]
theorem b_addt : (binop .Add (.tup vs) (.tup ws) h).wp Q Z = (vs.length + ws.length ≤ sizeLine ∧ Q (.tup (vs ++ ws)) h) := by simp only [binop, wp_if, wp_ok]
theorem b_addl {a b : Nat} : (binop .Add (.ref a) (.ref b) h).wp Q Z = lsK h[a]? fun _ xs => lsK h[b]? fun _ ys => xs.length + ys.length ≤ sizeLine ∧ Q (.ref h.length) (h ++ [.lst true (xs ++ ys)]) := by
  simp only [binop]
  cases h[a]? with
  | none => rfl
  | some o =>
    cases o with
    | lst w xs =>
      cases h[b]? with
      | none => rfl
      | some u =>
        cases u with
        | lst w2 ys => simp only [wp_if]; rfl
        | dct _ _ => rfl
        | dtt _ => rfl
        | ins _ _ => rfl
    | dct _ _ => rfl
    | dtt _ => rfl
    | ins _ _ => rfl
theorem c_lt : (cmpop .Lt (.int i) (.int j) h).wp Q Z = Q (.bl (decide (i < j))) h := id rfl
theorem c_le : (cmpop .LtE (.int i) (.int j) h).wp Q Z = Q (.bl (decide (i ≤ j))) h := id rfl
theorem c_gt : (cmpop .Gt (.int i) (.int j) h).wp Q Z = Q (.bl (decide (j < i))) h := id rfl
theorem c_ge : (cmpop .GtE (.int i) (.int j) h).wp Q Z = Q (.bl (decide (j ≤ i))) h := id rfl
theorem c_eq {x y : Val} : (cmpop .Eq x y h).wp Q Z = opK (veq h x y) fun b => Q (.bl b) h := by
  show (retO ((veq h x y).map .bl) h).wp Q Z = _
  simp only [wp_ret, op_map]
theorem c_ne {x y : Val} : (cmpop .NotEq x y h).wp Q Z = opK (veq h x y) fun b => Q (.bl (!b)) h := by
  show (retO ((veq h x y).map fun b => .bl (!b)) h).wp Q Z = _
  simp only [wp_ret, op_map]
theorem c_in {x y : Val} : (cmpop .In x y h).wp Q Z = opK (vin? h x y) fun b => Q (.bl b) h := by
  show (retO ((vin? h x y).map .bl) h).wp Q Z = _
  simp only [wp_ret, op_map]
theorem c_nin {x y : Val} : (cmpop .NotIn x y h).wp Q Z = opK (vin? h x y) fun b => Q (.bl (!b)) h := by
  show (retO ((vin? h x y).map fun b => .bl (!b)) h).wp Q Z = _
  simp only [wp_ret, op_map]
theorem v_ii : veq h (.int i) (.int j) = some (decide (i = j)) := id rfl
theorem v_ss : veq h (.str s) (.str t) = some (decide (s = t)) := id rfl
theorem v_bb {a b : Bool} : veq h (.bl a) (.bl b) = some (decide (a = b)) := id rfl
/-! parts -/
theorem i_tup {k : Int} : (index (.tup vs) (.int k) h).wp Q Z = opK (L2.atI vs k) fun v => Q v h := by
  show (retO (L2.atI vs k) h).wp Q Z = _
  simp only [wp_ret]
noncomputable def ixO (o : Option Ob) (v : Val) : Option Val := match o, v with
  | some (.lst _ xs), .int k => L2.atI xs k
  | some (.dct _ kvs), _ => getK v kvs
  | some (.dtt kvs), _ => getT v kvs
  | _, _ => none
theorem ix_l {w : Bool} {xs : List Val} {k : Int} : ixO (some (.lst w xs)) (.int k) = L2.atI xs k := id rfl
theorem ix_d {w : Bool} {kvs : List (L2.Key × Val)} {v : Val} : ixO (some (.dct w kvs)) v = getK v kvs := by cases v <;> rfl
theorem ix_t {kvs : List (List L2.Key × Val)} {v : Val} : ixO (some (.dtt kvs)) v = getT v kvs := by cases v <;> rfl
theorem i_lst {a : Nat} {v : Val} : (index (.ref a) v h).wp Q Z = opK (ixO h[a]? v) fun v => Q v h := by
  simp only [index]
  cases h[a]? with
  | none => cases v <;> rfl
  | some o => cases o <;> cases v <;> first | rfl | exact wp_ret
theorem l_tup : (bisem .len [.tup vs] h).wp Q Z = Q (.int vs.length) h := id rfl
noncomputable def lenO (o : Option Ob) : Option Nat := match o with
  | some (.lst _ xs) => some xs.length
  | some (.dct _ kvs) => some kvs.length
  | _ => none
theorem ln_l {w : Bool} {xs : List Val} : lenO (some (.lst w xs)) = some xs.length := id rfl
theorem ln_d {w : Bool} {kvs : List (L2.Key × Val)} : lenO (some (.dct w kvs)) = some kvs.length := id rfl
theorem l_lst {a : Nat} : (bisem .len [.ref a] h).wp Q Z = opK (lenO h[a]?) fun n => Q (.int n) h := by
  simp only [bisem]
  cases h[a]? with
  | none => rfl
  | some o => cases o <;> rfl
theorem f_max : (bisem .max [.int i, .int j] h).wp Q Z = Q (.int (max i j)) h := by
  have e : max i j = if j > i then j else i := by split <;> omega
  rw [e]; rfl
theorem f_min : (bisem .min [.int i, .int j] h).wp Q Z = Q (.int (min i j)) h := by
  have e : min i j = if j < i then j else i := by split <;> omega
  rw [e]; rfl
theorem f_int : (bisem .int [.int i] h).wp Q Z = Q (.int i) h := id rfl
theorem f_intb {b : Bool} : (bisem .int [.bl b] h).wp Q Z = Q (.int (if b then 1 else 0)) h := id rfl
theorem ri_str {z : Str} : itemsOf .val [.str z] h = some (z.cps.toList.map fun c => .str ⟨#[c]⟩, []) := id rfl
theorem f_lens {z : Str} : (bisem .len [.str z] h).wp Q Z = (z.length ≤ sizeLine ∧ Q (.int z.length) h) := by simp only [bisem, wp_if, wp_ok]
theorem f_dict {a : Nat} : (bisem .dict [.ref a] h).wp Q Z = lsK h[a]? fun _ xs => opK (pairsO xs) fun kvs => Q (.ref h.length) (h ++ [.dct true (dictL kvs)]) := by
  simp only [bisem]
  cases h[a]? with
  | none => rfl
  | some o =>
    cases o with
    | lst w xs => 
      show (match pairsO xs with
        | some kvs => alloc (.dct true (dictL kvs)) h
        | none => .bad).wp Q Z = opK (pairsO xs) _
      cases pairsO xs <;> rfl
    | _ => rfl
theorem f_str : (bisem .str [.int i] h).wp Q Z = (i.natAbs.log2 < 1920 ∧ Q (.str (toString i)) h) := by simp only [bisem, wp_if, wp_ok]
theorem f_ints {z : Str} : (bisem .int [.str z] h).wp Q Z = (z.length ≤ 640 ∧ opK (PySem.intText? z) fun i => Q (.int i) h) := by simp only [bisem, wp_if, wp_ret, op_map]
theorem f_tupt : (bisem .tuple [.tup vs] h).wp Q Z = Q (.tup vs) h := id rfl
theorem f_tupl {a : Nat} : (bisem .tuple [.ref a] h).wp Q Z = lsK h[a]? fun _ xs => Q (.tup xs) h := by
  simp only [bisem]
  cases h[a]? with
  | none => rfl
  | some o => cases o <;> rfl
theorem f_lstt : (bisem .list [.tup vs] h).wp Q Z = Q (.ref h.length) (h ++ [.lst true vs]) := id rfl
noncomputable def lstO (o : Option Ob) : Option (List Val) := match o with
  | some (.lst _ xs) => some xs
  | some (.dct _ kvs) => some (kvs.map fun p => kVal p.1)
  | _ => none
theorem lo_l {w : Bool} {xs : List Val} : lstO (some (.lst w xs)) = some xs := id rfl
theorem lo_d {w : Bool} {kvs : List (L2.Key × Val)} : lstO (some (.dct w kvs)) = some (kvs.map fun p => kVal p.1) := id rfl
theorem f_lstl {a : Nat} : (bisem .list [.ref a] h).wp Q Z = opK (lstO h[a]?) fun xs => Q (.ref h.length) (h ++ [.lst true xs]) := by
  simp only [bisem]
  cases h[a]? with
  | none => rfl
  | some o => cases o <;> rfl
theorem s_tup {lo hi : Option Int} : (slice (.tup vs) lo hi h).wp Q Z = Q (.tup (cutL vs lo hi)) h := id rfl
theorem s_lst {a : Nat} {lo hi : Option Int} : (slice (.ref a) lo hi h).wp Q Z = lsK h[a]? fun _ xs => Q (.ref h.length) (h ++ [.lst true (cutL xs lo hi)]) := by
  simp only [slice]
  cases h[a]? with
  | none => rfl
  | some o => cases o <;> rfl
theorem m_append {a : Nat} {v : Val} : (mtsem .append (.ref a) [v] h).wp Q Z = lsK h[a]? fun w xs => w = true ∧ xs.length < sizeLine ∧ Q .non (h.set a (.lst true (xs ++ [v]))) := by
  simp only [mtsem]
  cases h[a]? with
  | none => rfl
  | some o =>
    cases o with
    | lst w xs =>
      cases w with
      | true => simp only [wp_if, lsK, true_and]; rfl
      | false => simp [lsK, wp_bad]
    | dct _ _ => rfl
    | dtt _ => rfl
    | ins _ _ => rfl
theorem m_insert {a : Nat} {i : Int} {v : Val} : (mtsem .insert (.ref a) [.int i, v] h).wp Q Z = lsK h[a]? fun w xs => w = true ∧ (xs.length < sizeLine ∧ 0 ≤ i ∧ i < 2 ^ 63) ∧ Q .non (h.set a (.lst true (xs.take i.toNat ++ [v] ++ xs.drop i.toNat))) := by
  simp only [mtsem]
  cases h[a]? with
  | none => rfl
  | some o =>
    cases o with
    | lst w xs =>
      cases w with
      | true => simp only [wp_if, lsK, true_and]; rfl
      | false => simp [lsK, wp_bad]
    | dct _ _ => rfl
    | dtt _ => rfl
    | ins _ _ => rfl
theorem m_extend {a b : Nat} : (mtsem .extend (.ref a) [.ref b] h).wp Q Z = lsK h[a]? fun w xs => lsK h[b]? fun z ys => w = true ∧ z = true ∧ xs.length + ys.length ≤ sizeLine ∧ Q .non (h.set a (.lst true (xs ++ ys))) := by
  simp only [mtsem]
  cases h[a]? with
  | none => rfl
  | some o =>
    cases o with
    | lst w xs =>
      cases h[b]? with
      | none => cases w <;> rfl
      | some u =>
        cases u with
        | lst z ys =>
          cases w <;> cases z <;> first | (simp [lsK, wp_bad]; done) | skip
          simp only [wp_if, lsK, true_and]; rfl
        | dct _ _ => cases w <;> rfl
        | dtt _ => cases w <;> rfl
        | ins _ _ => cases w <;> rfl
    | dct _ _ => rfl
    | dtt _ => rfl
    | ins _ _ => rfl
theorem ib_t {c : Bool} : isBl true (.bl c) = c := by cases c <;> rfl
theorem ib_f {c : Bool} : isBl false (.bl c) = !c := by cases c <;> rfl
theorem ib_non {b : Bool} : isBl b .non = false := id rfl
theorem ib_int {b : Bool} : isBl b (.int i) = false := id rfl
theorem ib_str {b : Bool} : isBl b (.str s) = false := id rfl
theorem ib_tup {b : Bool} : isBl b (.tup vs) = false := id rfl
theorem ib_ref {b : Bool} {a : Nat} : isBl b (.ref a) = false := id rfl
theorem n_non : isNon .non = true := id rfl
theorem n_bl {b : Bool} : isNon (.bl b) = false := id rfl
theorem n_int : isNon (.int i) = false := id rfl
theorem n_str : isNon (.str s) = false := id rfl
theorem n_tup : isNon (.tup vs) = false := id rfl
theorem n_ref {a : Nat} : isNon (.ref a) = false := id rfl
theorem ty_non : tyOf h .non = some "NoneType" := id rfl
theorem ty_bl {b : Bool} : tyOf h (.bl b) = some "bool" := id rfl
theorem ty_int : tyOf h (.int i) = some "int" := id rfl
theorem ty_str : tyOf h (.str s) = some "str" := id rfl
theorem ty_tup : tyOf h (.tup vs) = some "tuple" := id rfl
noncomputable def tyO (o : Option Ob) : Option String := match o with
  | some (.lst _ _) => some "list"
  | some (.dct _ _) => some "dict"
  | some (.dtt _) => some "dict"
  | some (.ins c _) => some c
  | none => none
theorem ty_ref {a : Nat} : tyOf h (.ref a) = tyO h[a]? := by
  cases e : h[a]? with
  | none => simp [tyOf, tyO, e]
  | some o => cases o <;> simp [tyOf, tyO, e]
theorem tyO_l {w : Bool} {xs : List Val} : tyO (some (.lst w xs)) = some "list" := id rfl
theorem tyO_i {c : String} {fs : List (String × Val)} : tyO (some (.ins c fs)) = some c := id rfl
noncomputable def mtO (m : Mt) (o : Option Ob) : Bool := match o with
  | some (.lst _ _) => match m with
    | .append | .extend | .pop | .popAt | .insert | .index | .count | .clear => true
    | _ => false
  | some (.dct _ _) => match m with
    | .get | .get2 | .items => true
    | _ => false
  | some (.dtt _) => match m with
    | .get | .get2 => true
    | _ => false
  | _ => false
theorem m_bit : (mtsem .bitlen (.int i) [] h).wp Q Z = Q (.int (Builtin.Int.intBits i)) h := id rfl
theorem mo_bit : mtOk .bitlen (.int i) h = true := id rfl
noncomputable def ixD (h : MH) (v w : Val) : Option Nat := match snap h 64 v, snap h 64 w with
  | some d, some (.list ds) => ds.findIdx? fun z => PyData.eqv z d
  | _, _ => none
theorem m_index {a : Nat} {v : Val} : (mtsem .index (.ref a) [v] h).wp Q Z = lsK h[a]? fun _ xs => if (flat v && xs.all flat) = true then opK (xs.findIdx? fun z => eqF z v) (fun j => Q (.int (j : Nat)) h) else opK (ixD h v (.ref a)) fun j => Q (.int (j : Nat)) h := by
  simp only [mtsem]
  cases h[a]? with
  | none => rfl
  | some o =>
    cases o with
    | lst w xs =>
      simp only [lsK]
      by_cases c : (flat v && xs.all flat) = true
      · simp only [if_pos c, wp_ret, op_map]
      · simp only [if_neg c]
        unfold ixD
        cases snap h 64 v with
        | none => rfl
        | some d =>
          cases snap h 64 (.ref a) with
          | none => rfl
          | some e =>
            cases e <;> first | rfl | simp only [wp_ret, op_map]
    | dct _ _ => rfl
    | dtt _ => rfl
    | ins _ _ => rfl
theorem mo_index {w : Bool} {xs : List Val} : mtO .index (some (.lst w xs)) = true := id rfl
theorem m_pop {a : Nat} : (mtsem .pop (.ref a) [] h).wp Q Z = lsK h[a]? fun w xs => w = true ∧ opK xs[xs.length - 1]? fun v => Q v (h.set a (.lst true xs.dropLast)) := by
  simp only [mtsem]
  cases h[a]? with
  | none => rfl
  | some o =>
    cases o with
    | lst w xs =>
      cases w with
      | true =>
        simp only [lsK, true_and]
        cases xs[xs.length - 1]? <;> rfl
      | false => simp [lsK, wp_bad]
    | dct _ _ => rfl
    | dtt _ => rfl
    | ins _ _ => rfl
theorem m_okr {m : Mt} {a : Nat} : mtOk m (.ref a) h = mtO m h[a]? := by
  unfold mtOk mtO
  dsimp only
  all_goals (rcases h[a]? with _ | o)
  all_goals first | rfl | (cases o <;> cases m <;> rfl)
theorem mo_append {w : Bool} {xs : List Val} : mtO .append (some (.lst w xs)) = true := id rfl
theorem mo_insert {w : Bool} {xs : List Val} : mtO .insert (some (.lst w xs)) = true := id rfl
theorem mo_extend {w : Bool} {xs : List Val} : mtO .extend (some (.lst w xs)) = true := id rfl
theorem mo_pop {w : Bool} {xs : List Val} : mtO .pop (some (.lst w xs)) = true := id rfl
theorem mo_popAt {w : Bool} {xs : List Val} : mtO .popAt (some (.lst w xs)) = true := id rfl
theorem mo_clear {w : Bool} {xs : List Val} : mtO .clear (some (.lst w xs)) = true := id rfl
theorem set_last {o u : Ob} : (h ++ [o]).set h.length u = h ++ [u] := by simp
noncomputable def dkK {α : Type} (o : Option α) (k : α → Prop) (e : Prop) (_ : Fz k := ⟨⟩) : Prop := match o with
  | some c => k c
  | none => e
theorem dk_s {α : Type} {c : α} {k : α → Prop} {e : Prop} : dkK (some c) k e = k c := id rfl
theorem dk_n {α : Type} {k : α → Prop} {e : Prop} : dkK none k e = e := id rfl
noncomputable def suK (o : Option Ob) (i v : Val) (k : Ob → Prop) (_ : Fz k := ⟨⟩) : Prop := match o, i with
  | some (.lst w xs), .int j => w = true ∧ opK (L2.ixN xs.length j) fun j => k (.lst true (xs.set j v))
  | some (.dct w kvs), _ => w = true ∧ dkK (keyV i) (fun c => kvs.length < sizeLine ∧ k (.dct true (putC c v kvs))) (opK (keyT i) fun c => kvs.isEmpty = true ∧ k (.dtt [(c, v)]))
  | some (.dtt kvs), _ => opK (keyT i) fun c => kvs.length < sizeLine ∧ k (.dtt (putC c v kvs))
  | _, _ => False
theorem su_l {w : Bool} {xs : List Val} {j : Int} {v : Val} {k : Ob → Prop} : suK (some (.lst w xs)) (.int j) v k = (w = true ∧ opK (L2.ixN xs.length j) fun j => k (.lst true (xs.set j v))) := id rfl
theorem su_d {w : Bool} {kvs : List (L2.Key × Val)} {i v : Val} {k : Ob → Prop} : suK (some (.dct w kvs)) i v k = (w = true ∧ dkK (keyV i) (fun c => kvs.length < sizeLine ∧ k (.dct true (putC c v kvs))) (opK (keyT i) fun c => kvs.isEmpty = true ∧ k (.dtt [(c, v)]))) := by cases i <;> rfl
theorem su_t {kvs : List (List L2.Key × Val)} {i v : Val} {k : Ob → Prop} : suK (some (.dtt kvs)) i v k = opK (keyT i) fun c => kvs.length < sizeLine ∧ k (.dtt (putC c v kvs)) := by cases i <;> rfl
theorem u_sub {a : Nat} {i v : Val} {Q : Unit → MH → Prop} : (setSub (.ref a) i v h).wp Q Z = suK h[a]? i v fun o => Q () (h.set a o) := by
  simp only [setSub]
  cases h[a]? with
  | none => cases i <;> rfl
  | some o =>
    cases o with
    | lst w xs =>
      cases w <;> cases i <;> first | rfl | (simp [suK, wp_bad]; done) | skip
      simp only [suK, true_and]
      cases L2.ixN xs.length _ <;> rfl
    | dct w kvs =>
      rw [su_d]
      cases w with
      | true =>
        simp only [true_and]
        cases keyV i with
        | none =>
          cases keyT i with
          | none => rfl
          | some c => exact wp_if
        | some c => exact wp_if
      | false => simp [wp_bad]
    | dtt kvs =>
      rw [su_t]
      simp only
      cases keyT i with
      | none => rfl
      | some c => exact wp_if
    | ins _ _ => cases i <;> rfl
theorem k_tup {vs : List Val} : keyV (.tup vs) = none := id rfl
theorem kt_tup {z : Str} {j : Int} : keyT (.tup [.str z, .int j]) = some [.inr z, .inl j] := id rfl
theorem gt_tup {z : Str} {j : Int} {kvs : List (List L2.Key × Val)} : getT (.tup [.str z, .int j]) kvs = getC [.inr z, .inl j] kvs := id rfl
/-- d.get(k) -/
noncomputable def gtO (o : Option Ob) (k : Val) : Option (Option Val) := match o with
  | some (.dct w kvs) => if emT w kvs k = true then some none else (keyV k).map fun c => getC c kvs
  | some (.dtt kvs) => (keyT k).map fun c => getC c kvs
  | _ => none
theorem m_get {a : Nat} {v : Val} {Q : Val → MH → Prop} {Z : XP} : (mtsem .get (.ref a) [v] h).wp Q Z = opK (gtO h[a]? v) fun o => Q (o.getD .non) h := by
  simp only [mtsem]
  cases h[a]? with
  | none => rfl
  | some o =>
    cases o with
    | lst _ _ => rfl
    | ins _ _ => rfl
    | dct w kvs =>
      simp only [gtO]
      by_cases c : emT w kvs v = true
      · rw [if_pos c, if_pos c]; rfl
      · rw [if_neg c, if_neg c]; cases keyV v <;> rfl
    | dtt kvs =>
      simp only [gtO]
      cases keyT v <;> rfl
theorem m_get2 {a : Nat} {v u : Val} {Q : Val → MH → Prop} {Z : XP} : (mtsem .get2 (.ref a) [v, u] h).wp Q Z = opK (gtO h[a]? v) fun o => Q (o.getD u) h := by
  simp only [mtsem]
  cases h[a]? with
  | none => rfl
  | some o =>
    cases o with
    | lst _ _ => rfl
    | ins _ _ => rfl
    | dct w kvs =>
      simp only [gtO]
      by_cases c : emT w kvs v = true
      · rw [if_pos c, if_pos c]; rfl
      · rw [if_neg c, if_neg c]; cases keyV v <;> rfl
    | dtt kvs =>
      simp only [gtO]
      cases keyT v <;> rfl
theorem mo_get2d {w : Bool} {kvs : List (L2.Key × Val)} : mtO .get2 (some (.dct w kvs)) = true := id rfl
theorem gt_s {w : Bool} {kvs : List (L2.Key × Val)} {z : Str} : gtO (some (.dct w kvs)) (.str z) = some (getC (.inr z) kvs) := by
  show (if emT w kvs (.str z) = true then some none else (keyV (.str z)).map fun c => getC c kvs) = _
  have e : emT w kvs (.str z) = false := by
    unfold emT
    rw [show keyT (.str z) = none from rfl]
    simp
  rw [e]
  rfl
theorem mo_getd {w : Bool} {kvs : List (L2.Key × Val)} : mtO .get (some (.dct w kvs)) = true := id rfl
theorem mo_gett {kvs : List (List L2.Key × Val)} : mtO .get (some (.dtt kvs)) = true := id rfl
theorem gt_t {kvs : List (List L2.Key × Val)} {z : Str} {j : Int} : gtO (some (.dtt kvs)) (.tup [.str z, .int j]) = some (getC [.inr z, .inl j] kvs) := id rfl
theorem gt_e {z : Str} {j : Int} : gtO (some (.dct true [])) (.tup [.str z, .int j]) = some none := id rfl
theorem k_int {j : Int} : keyV (.int j) = some (.inl j) := id rfl
theorem k_str {z : Str} : keyV (.str z) = some (.inr z) := id rfl
theorem gk_int {j : Int} {kvs : List (L2.Key × Val)} : getK (.int j) kvs = getC (.inl j) kvs := id rfl
theorem gk_str {z : Str} {kvs : List (L2.Key × Val)} : getK (.str z) kvs = getC (.inr z) kvs := id rfl
theorem vin_d {a : Nat} {w : Bool} {kvs : List (L2.Key × Val)} {v : Val} {c : L2.Key} (e : h[a]? = some (.dct w kvs)) (ec : keyV v = some c) : vin? h v (.ref a) = some (getC c kvs).isSome := by
  have z : emT w kvs v = false := by
    unfold emT
    cases v <;> first | (cases ec; done) | simp [keyT]
  simp only [vin?, e, ec, Option.map_some, z, Bool.false_eq_true, if_false]
end
theorem divOk_of {j : Int} (h0 : 0 < j) (h1 : j < 2 ^ 1000) : divOk j := by
  refine ⟨h0, ?_⟩
  have h2 : j.natAbs < 2 ^ 1000 := by omega
  have h3 : j.natAbs ≠ 0 := by omega
  exact Nat.lt_of_lt_of_le ((Nat.log2_lt h3).mpr h2) (by decide)
theorem divOk_lit {j : Int} (h0 : 0 < j) (h1 : j < 1606938044258990275541962092341162602522202993782792835301376) : divOk j = True := eq_true (divOk_of h0 (by omega))
theorem mulOk_r {i j : Int} (h0 : -18446744073709551616 < j) (h1 : j < 18446744073709551616) : mulOk i j = True := eq_true (.inr (.inl ⟨h0, h1⟩))
theorem mulOk_l {i j : Int} (h0 : -18446744073709551616 < i) (h1 : i < 18446744073709551616) : mulOk i j = True := eq_true (.inl ⟨h0, h1⟩)
theorem pow_lit {i j : Int} (h0 : 0 ≤ j) (h1 : j ≤ 1000000) (h2 : -1000 < i) (h3 : i < 1000) : powOk i j = True := eq_true ⟨h0, h1, by omega⟩
theorem sz_lt {n : Nat} (h : n ≤ 4096) : (n < sizeLine) = True := by
  have : 4097 ≤ sizeLine := by decide
  simp; omega
theorem sz_ok {n : Nat} (h : n ≤ 4096) : (n ≤ sizeLine) = True := by
  have : 4096 ≤ sizeLine := by decide
  simp; omega
theorem b_muls {z : Str} {k : Int} : (binop .Mult (.str z) (.int k) h).wp Q Z = ((1 ≤ z.length ∧ 0 ≤ k ∧ z.length * k.toNat ≤ 4096) ∧ Q (.str (repS z k.toNat)) h) := by simp only [binop, wp_if, wp_ok]
theorem b_mull {a : Nat} {k : Int} : (binop .Mult (.ref a) (.int k) h).wp Q Z = lsK h[a]? fun w xs => w = true ∧ (0 ≤ k ∧ k ≤ 4096 ∧ xs.length * k.toNat ≤ 4096) ∧ Q (.ref h.length) (h ++ [.lst true (List.replicate k.toNat xs).flatten]) := by
  simp only [binop]
  cases h[a]? with
  | none => rfl
  | some o =>
    cases o with
    | lst w xs =>
      cases w
      · simp [lsK, Res.wp]
      · simp only [wp_if, lsK, true_and]; rfl
    | dct _ _ => rfl
    | dtt _ => rfl
    | ins _ _ => rfl
theorem i_str {z : Str} {k : Int} : (index (.str z) (.int k) h).wp Q Z = (z.length ≤ sizeLine ∧ opK (L2.atI z.cps.toList k) fun c => Q (.str ⟨#[c]⟩) h) := by
  show (if z.length ≤ sizeLine then retO ((L2.atI z.cps.toList k).map fun c => Val.str ⟨#[c]⟩) h else .bad : Res Val).wp Q Z = _
  rw [wp_if, wp_ret]
  cases L2.atI z.cps.toList k <;> rfl
theorem f_sum {a : Nat} : (bisem .sum [.ref a] h).wp Q Z = lsK h[a]? fun _ xs => opK (intsO xs) fun ns => Q (.int ns.sum) h := by
  simp only [bisem]
  cases h[a]? with
  | none => rfl
  | some o =>
    cases o with
    | lst w xs =>
      show (retO ((intsO xs).map fun ns => Val.int ns.sum) h).wp Q Z = opK (intsO xs) _
      rw [wp_ret]
      cases intsO xs <;> rfl
    | dct _ _ => rfl
    | dtt _ => rfl
    | ins _ _ => rfl
theorem io_nil : intsO [] = some [] := id rfl
theorem io_cons {n : Int} {xs : List Val} : intsO (.int n :: xs) = (intsO xs).map fun l => n :: l := by
  simp only [intsO, mapO]
  cases mapO _ xs <;> rfl
/-! objects -/
noncomputable def isK (o : Option Ob) (k : String → List (String × Val) → Prop) (_ : Fz k := ⟨⟩) : Prop := match o with
  | some (.ins c fs) => k c fs
  | _ => False
theorem is_k {c : String} {fs : List (String × Val)} {k : String → List (String × Val) → Prop} : isK (some (.ins c fs)) k = k c fs := id rfl
theorem we_fld {o : E} {f : String} : (evE P (.fld o f) ρ h).wp Q Z = (evE P o ρ h).wp (fun x h1 => (getF P x f h1).wp Q Z) Z := by
  simp only [evE]; exact wp_bind
theorem g_fld {a : Nat} {f : String} : (getF P (.ref a) f h).wp Q Z = isK h[a]? fun c fs => (P.flds c).contains f = true ∧ opK (fs.lookup f) fun v => Q v h := by
  simp only [getF]
  cases h[a]? with
  | none => rfl
  | some o =>
    cases o with
    | lst w xs => rfl
    | dct _ _ => rfl
    | dtt _ => rfl
    | ins c fs =>
      show (if (P.flds c).contains f = true then retO (fs.lookup f) h else .bad : Res Val).wp Q Z = _
      rw [wp_if, wp_ret]
      rfl
/-! exceptions -/
theorem n_exc {c : String} {fs : List (String × Val)} : isNon (.exc c fs) = false := id rfl
theorem ty_exc {c : String} {fs : List (String × Val)} : tyOf h (.exc c fs) = some c := id rfl
theorem g_fldx {c f : String} {fs : List (String × Val)} : (getF P (.exc c fs) f h).wp Q Z = opK (P.exi c) fun o => o = some f ∧ opK (fs.lookup f) fun v => Q v h := by
  simp only [getF]
  cases e : P.exi c with
  | none => rfl
  | some o =>
    show (if some o = some (some f) then retO (fs.lookup f) h else .bad : Res Val).wp Q Z = (o = some f ∧ _)
    rw [wp_if, wp_ret, Option.some.injEq]
theorem ra_n {v : Val} : raised none v = [] := id rfl
theorem ra_f {f : String} {v : Val} : raised (some f) v = [(f, v)] := id rfl
theorem ws_rai {c : String} {e : E} : (evS P (.rai c [e]) ρ h).wp K = opK (P.exi c) fun o => (evE P e ρ h).wp (fun v h1 => K.er c (raised o v) ρ h1) (fun c fs h => K.er c fs ρ h) := by
  simp only [evS]
  cases P.exi c with
  | none => rfl
  | some o => exact srw_og fun x h1 => rfl
theorem ws_try {b : List S} {t : String} {i j : Nat} : (evS P (.tryS b [(t, some i, [.asg (.nm j) (.var i)])]) ρ h).wp K = (i ≠ j ∧ (evB P b ρ h).wp { K with er := fun c fs ρ h => opK (P.exm c t) fun b => b = true ∧ i < ρ.length ∧ K.nx ((ρ.set j (some (.exc c fs))).set i none) h }) := by
  simp only [evS]
  by_cases z : i = j
  · rw [if_neg (by simp [z])]; simp [z, SR.wp]
  · rw [if_pos ⟨trivial, z⟩]
    simp only [ne_eq, z, not_false_eq_true, true_and]
    unfold tryR
    cases evB P b ρ h with
    | err c fs ρ2 h2 =>
      simp only
      show _ = opK (P.exm c t) fun b => b = true ∧ i < ρ2.length ∧ K.nx ((ρ2.set j (some (.exc c fs))).set i none) h2
      cases P.exm c t with
      | none => rfl
      | some b =>
        cases b with
        | false => simp [opK, SR.wp]
        | true =>
          show (if i < ρ2.length then _ else _ : SR).wp K = (true = true ∧ i < ρ2.length ∧ _)
          by_cases y : i < ρ2.length
          · rw [if_pos y]; simp [y, SR.wp]
          · rw [if_neg y]; simp [y, SR.wp]
    | _ => rfl
theorem ws_onlyA {b : List S} {t : String} {j : Nat} {e : E} : (evS P (.tryS b [(t, none, [.asg (.nm j) e])]) ρ h).wp K = (evB P b ρ h).wp { K with er := fun c fs ρ h => opK (P.exm c t) fun b => b = true ∧ (evE P e ρ h).wp (fun v h1 => K.nx (ρ.set j (some v)) h1) (fun c fs h => K.er c fs ρ h) } := by
  simp only [evS]
  unfold onlyR
  cases evB P b ρ h with
  | err c fs ρ2 h2 =>
    simp only
    show _ = opK (P.exm c t) fun b => b = true ∧ (evE P e ρ2 h2).wp (fun v h1 => K.nx (ρ2.set j (some v)) h1) (fun c fs h => K.er c fs ρ2 h)
    cases P.exm c t with
    | none => rfl
    | some b =>
      cases b with
      | false => simp [opK, SR.wp]
      | true =>
        rw [op_k]
        simp only [true_and]
        exact srw_og fun x h1 => rfl
  | _ => rfl
theorem ws_onlyR {b : List S} {t : String} {e : E} : (evS P (.tryS b [(t, none, [.ret e])]) ρ h).wp K = (evB P b ρ h).wp { K with er := fun c fs ρ h => opK (P.exm c t) fun b => b = true ∧ (evE P e ρ h).wp (fun v h1 => K.rt v h1) (fun c fs h => K.er c fs ρ h) } := by
  simp only [evS]
  unfold onlyR
  cases evB P b ρ h with
  | err c fs ρ2 h2 =>
    simp only
    show _ = opK (P.exm c t) fun b => b = true ∧ (evE P e ρ2 h2).wp (fun v h1 => K.rt v h1) (fun c fs h => K.er c fs ρ2 h)
    cases P.exm c t with
    | none => rfl
    | some b =>
      cases b with
      | false => simp [opK, SR.wp]
      | true =>
        rw [op_k]
        simp only [true_and]
        exact srw_og fun x h1 => rfl
  | _ => rfl
theorem ws_hold {b : List S} {hs : List (String × Option Nat × List S)} {t : String} : (evS P (.tryS b ((t, none, []) :: hs)) ρ h).wp K = (evB P b ρ h).wp { K with er := fun c fs ρ h => (hotR P c fs ρ h hs).wp K } := by
  simp only [evS]
  unfold holdR
  cases evB P b ρ h <;> rfl
theorem ws_thru {b : List S} : (evS P (.thru b) ρ h).wp K = (evB P b ρ h).wp { K with er := fun _ _ _ _ => False } := by
  simp only [evS]
  unfold thruR
  cases evB P b ρ h <;> rfl
theorem ws_ran {f s c : String} {i : Nat} {m : Val} : (evS P (.tryR f i s c m) ρ h).wp K = (evE P (.var i) ρ h).wp (fun v h1 => (P.bare f [v] h1).wp (fun r h2 => K.rt r h2) (fun c2 _ h2 => opK (P.exm c2 s) fun b => b = true ∧ opK (P.exi c) fun o => opK o fun fl => K.er c [(fl, m)] ρ h2)) (fun _ _ _ => False) := by
  simp only [evS, evE]
  unfold bareR
  have gne : ∀ c fs h1, getV ρ i h ≠ .err c fs h1 := by
    intro c fs h1 z
    unfold getV at z
    split at z <;> cases z
  cases eg : getV ρ i h with
  | bad => rfl
  | err c fs h1 => exact absurd eg (gne _ _ _)
  | ok v h1 =>
    show (match P.bare f [v] h1 with
      | .ok r h' => SR.rt r h'
      | .err c2 _ h' => match P.exm c2 s, P.exi c with
        | some true, some (some fl) => .err c [(fl, m)] ρ h'
        | _, _ => .bad
      | .bad => .bad).wp K = (P.bare f [v] h1).wp _ _
    cases P.bare f [v] h1 with
    | bad => rfl
    | ok r h2 => rfl
    | err c2 fs h2 =>
      show (match P.exm c2 s, P.exi c with
        | some true, some (some fl) => SR.err c [(fl, m)] ρ h2
        | _, _ => .bad).wp K = opK (P.exm c2 s) fun b => b = true ∧ opK (P.exi c) fun o => opK o fun fl => K.er c [(fl, m)] ρ h2
      cases P.exm c2 s with
      | none => rfl
      | some b =>
        cases b with
        | false => simp [opK, SR.wp]
        | true =>
          cases P.exi c with
          | none => simp [opK, SR.wp]
          | some o => cases o <;> simp [opK, SR.wp]
theorem hot_n {c : String} {fs : List (String × Val)} : (hotR P c fs ρ h []).wp K = False := by simp only [hotR]; rfl
theorem hot_c {c t : String} {fs : List (String × Val)} {i : Nat} {b : List S} {r : List (String × Option Nat × List S)} : (hotR P c fs ρ h ((t, some i, b) :: r)).wp K = opK (P.exm c t) fun bb => ifK (.bl bb) (i < ρ.length ∧ (hotA P b (ρ.set i (some (.exc c fs))) h).wp { nx := fun ρ h => K.nx (ρ.set i none) h, bk := fun _ _ => False, ct := fun _ _ => False, rt := K.rt, er := fun _ _ _ _ => False }) ((hotR P c fs ρ h r).wp K) := by
  simp only [hotR]
  cases P.exm c t with
  | none => rfl
  | some bb =>
    cases bb with
    | false => rfl
    | true =>
      rw [op_k, if_t]
      simp only
      by_cases y : i < ρ.length
      · rw [if_pos y]
        simp only [y, true_and]
        cases hotA P b (ρ.set i (some (.exc c fs))) h <;> rfl
      · rw [if_neg y]; simp [y, SR.wp]
theorem hot_0 : (hotA P [] ρ h).wp K = K.nx ρ h := by simp only [hotA]; rfl
theorem hot_a {j : Nat} {e : E} {r : List S} : (hotA P (.asg (.nm j) e :: r) ρ h).wp K = (evE P e ρ h).wp (fun v h1 => (hotA P r (ρ.set j (some v)) h1).wp K) (fun c fs h => K.er c fs ρ h) := by
  simp only [hotA]
  exact srw_og fun x h1 => rfl
theorem hot_r {e : E} {r : List S} : (hotA P (.ret e :: r) ρ h).wp K = (evE P e ρ h).wp (fun v h1 => K.rt v h1) (fun c fs h => K.er c fs ρ h) := by
  simp only [hotA]
  exact srw_og fun x h1 => rfl
theorem ws_fld {o e : E} {f : String} : (evS P (.fld o f e) ρ h).wp K = (evE P e ρ h).wp (fun v h1 => (evE P o ρ h1).wp (fun x h2 => (setF P x f v h2).wp (fun _ h4 => K.nx ρ h4) (fun c fs h => K.er c fs ρ h)) (fun c fs h => K.er c fs ρ h)) (fun c fs h => K.er c fs ρ h) := by
  simp only [evS]
  exact srw_og fun x h1 => srw_og fun x h1 => srw_og fun x h1 => rfl
theorem g_set {a : Nat} {f : String} {v : Val} {Q : Unit → MH → Prop} : (setF P (.ref a) f v h).wp Q Z = isK h[a]? fun c fs => fs.length < 1000 ∧ (P.flds c).contains f = true ∧ Q () (h.set a (.ins c (putFl f v fs))) := by
  simp only [setF]
  cases h[a]? with
  | none => rfl
  | some o =>
    cases o with
    | lst w xs => rfl
    | dct _ _ => rfl
    | dtt _ => rfl
    | ins c fs =>
      show (if fs.length < 1000 ∧ (P.flds c).contains f = true then Res.ok () (h.set a (.ins c (putFl f v fs))) else .bad).wp Q Z = _
      rw [wp_if, and_assoc]
      rfl
theorem we_own {m : String} {o : E} {es : List E} : (evE P (.own m o es) ρ h).wp Q Z = (evE P o ρ h).wp (fun x h1 => opK (ownFn P m x h1) fun f => (evEs P es ρ h1).wp (fun vs h2 => (P.cf f (x :: vs) h2).wp Q Z) Z) Z := by
  simp only [evE]
  refine wp_bg fun x h1 => ?_
  cases ownFn P m x h1 with
  | none => rfl
  | some f => exact wp_bind
noncomputable def ownO (P : Pg) (m : String) (o : Option Ob) : Option String := match o with
  | some (.ins c fs) => if (fs.lookup m).isNone = true then P.mro c m else none
  | _ => none
theorem ow_ref {m : String} {a : Nat} : ownFn P m (.ref a) h = ownO P m h[a]? := by
  cases e : h[a]? with
  | none => simp [ownFn, ownO, e]
  | some o => cases o <;> simp [ownFn, ownO, e]
noncomputable def ifN (o : Option Val) (s : Option String) : Option String := match o with
  | none => s
  | some _ => none
theorem ow_i {m c : String} {fs : List (String × Val)} : ownO P m (some (.ins c fs)) = ifN (fs.lookup m) (P.mro c m) := by
  simp only [ownO]
  cases fs.lookup m <;> rfl
theorem in_n {s : Option String} : ifN none s = s := id rfl
theorem we_new {c : String} {es : List E} : (evE P (.new c es) ρ h).wp Q Z = (evEs P es ρ h).wp (fun vs h1 => opK (P.mro c "__init__") fun f => (P.cf f (.ref h1.length :: vs) (h1 ++ [.ins c []])).wp (fun v h2 => isNon v = true ∧ Q (.ref h1.length) h2) Z) Z := by
  simp only [evE]
  refine wp_bg fun vs h1 => ?_
  unfold newObj
  cases P.mro c "__init__" with
  | none => rfl
  | some f =>
    show ((P.cf f (.ref h1.length :: vs) (h1 ++ [.ins c []])).bind _).wp Q Z = (P.cf f (.ref h1.length :: vs) (h1 ++ [.ins c []])).wp _ Z
    refine wp_bg fun v h2 => ?_
    cases v <;> first | (simp [isNon, Res.wp]; done) | rfl
theorem pf_nil {f : String} {v : Val} : putFl f v [] = [(f, v)] := id rfl
theorem pf_cons {f g : String} {v w : Val} {r : List (String × Val)} : putFl f v ((g, w) :: r) = if g = f then (g, v) :: r else (g, w) :: putFl f v r := id rfl
theorem lk_nil {f : String} : List.lookup f ([] : List (String × Val)) = none := id rfl
theorem lk_cons {f g : String} {w : Val} {r : List (String × Val)} : List.lookup f ((g, w) :: r) = if f = g then some w else r.lookup f := by
  rw [List.lookup_cons]
  by_cases c : f = g
  · subst c; simp
  · rw [if_neg c, show (f == g) = false by simpa using c]
theorem mo_join {z : Str} : mtOk .join (.str z) h = true := id rfl
theorem mo_split {z : Str} : mtOk .split (.str z) h = true := id rfl
theorem mo_part {z : Str} : mtOk .partition (.str z) h = true := id rfl
theorem mo_find {z : Str} : mtOk .find (.str z) h = true := id rfl
theorem mo_upper {z : Str} : mtOk .upper (.str z) h = true := id rfl
theorem so_nil : strsO [] = some [] := id rfl
theorem so_map : ∀ ys : List Str, strsO (ys.map .str) = some ys
  | [] => rfl
  | y :: ys => by
    have ih := so_map ys
    simp only [strsO, List.map_cons, mapO] at ih ⊢
    rw [ih]
theorem m_join {z : Str} {a : Nat} : (mtsem .join (.str z) [.ref a] h).wp Q Z = lsK h[a]? fun _ xs => opK (strsO xs) fun ys => (ys.map (·.length)).sum + ys.length * z.length ≤ 16777216 ∧ Q (.str (Txt.join z ys)) h := by
  simp only [mtsem]
  cases h[a]? with
  | none => rfl
  | some o =>
    cases o with
    | lst w xs =>
      show (match strsO xs with
      | some ys => if (ys.map (·.length)).sum + ys.length * z.length ≤ 16777216 then Res.ok (.str (Txt.join z ys)) h else .bad
      | none => .bad : Res Val).wp Q Z = opK (strsO xs) _
      cases strsO xs with
      | none => rfl
      | some ys => rw [op_k]; exact wp_if
    | dct _ _ => rfl
    | dtt _ => rfl
    | ins _ _ => rfl
theorem m_split {z y : Str} : (mtsem .split (.str z) [.str y] h).wp Q Z = (((y.length == 0) = false ∧ z.length + 2 ≤ sizeLine) ∧ Q (.ref h.length) (h ++ [.lst true ((Txt.split z y).map .str)])) := by simp only [mtsem, wp_if]; rfl
theorem m_part {z y : Str} : (mtsem .partition (.str z) [.str y] h).wp Q Z = (((y.length == 0) = false ∧ z.length ≤ sizeLine) ∧ Q (.tup [.str (Txt.partition z y).1, .str (Txt.partition z y).2.1, .str (Txt.partition z y).2.2]) h) := by simp only [mtsem, wp_if]; rfl
theorem m_find {z y : Str} : (mtsem .find (.str z) [.str y] h).wp Q Z = Q (.int (Txt.find z y)) h := by simp only [mtsem]; rfl
theorem m_upper {z : Str} : (mtsem .upper (.str z) [] h).wp Q Z = (z.length ≤ 5592405 ∧ Q (.str (Txt.upper z)) h) := by simp only [mtsem, wp_if]; rfl
end
end Mn
/-! Mini: what many laws share -/
namespace Mn
open PySem
open Classical
/-! ### what a for walks -/
section
variable {h : MH} {K : Ks} {t : Tg} {b : Env' → MH → SR} {ρ : Env'} {k : List Val × Src → Prop} {P : Pg}
theorem it_rng1 {n : Int} : itemsOf .rng [.int n] h = if n < 2 ^ 62 ∧ -(2 ^ 62) ≤ n then some (rangeL 0 n 1, []) else none := id rfl
theorem it_rng2 {a n : Int} : itemsOf .rng [.int a, .int n] h = if (n < 2 ^ 62 ∧ -(2 ^ 62) ≤ n) ∧ (a < 2 ^ 62 ∧ -(2 ^ 62) ≤ a) then some (rangeL a n 1, []) else none := id rfl
theorem it_rng3 {a n c : Int} (hc : (c = -1) = False) : itemsOf .rng [.int a, .int n, .int c] h = if (n < 2 ^ 61 ∧ -(2 ^ 61) ≤ n) ∧ (a < 2 ^ 61 ∧ -(2 ^ 61) ≤ a) ∧ (0 < c ∧ c < 2 ^ 29) then some (rangeL a n c, []) else none := by
  have e : itemsOf .rng [.int a, .int n, .int c] h = if (n < 2 ^ 61 ∧ -(2 ^ 61) ≤ n) ∧ (a < 2 ^ 61 ∧ -(2 ^ 61) ≤ a) ∧ (0 < c ∧ c < 2 ^ 29) then some (rangeL a n c, []) else if (n < 2 ^ 61 ∧ -(2 ^ 61) ≤ n) ∧ (a < 2 ^ 61 ∧ -(2 ^ 61) ≤ a) ∧ c = -1 then some (rangeD a n, []) else none := rfl
  rw [e]
  congr 1
  rw [if_neg]
  intro z
  rw [hc] at z
  exact z.2.2
theorem it_rngd {a n : Int} : itemsOf .rng [.int a, .int n, .int (-1)] h = if (n < 2 ^ 61 ∧ -(2 ^ 61) ≤ n) ∧ (a < 2 ^ 61 ∧ -(2 ^ 61) ≤ a) then some (rangeD a n, []) else none := by
  have e : itemsOf .rng [.int a, .int n, .int (-1)] h = if (n < 2 ^ 61 ∧ -(2 ^ 61) ≤ n) ∧ (a < 2 ^ 61 ∧ -(2 ^ 61) ≤ a) ∧ (0 < (-1 : Int) ∧ (-1 : Int) < 2 ^ 29) then some (rangeL a n (-1), []) else if (n < 2 ^ 61 ∧ -(2 ^ 61) ≤ n) ∧ (a < 2 ^ 61 ∧ -(2 ^ 61) ≤ a) ∧ (-1 : Int) = -1 then some (rangeD a n, []) else none := rfl
  rw [e, if_neg (fun z => absurd z.2.2.1 (by decide))]
  simp
theorem it_valt {xs : List Val} : itemsOf .val [.tup xs] h = some (xs, []) := id rfl
theorem it_vall {a : Nat} : opK (itemsOf .val [.ref a] h) k = lsK h[a]? fun w xs => k (xs, [(a, .lst w xs)]) := by
  simp only [itemsOf]
  cases h[a]? with
  | none => rfl
  | some o => cases o <;> rfl
theorem gx_i {ys : List Str} {z : Str} {k : Val → Prop} (hz : z ∈ ys) : opK (gixO (ys.map .str) (.str z)) k = k (.int (ys.idxOf z : Nat)) := by
  unfold gixO
  rw [so_map]
  simp only [if_pos hz]
  rfl
theorem it_enmt {xs : List Val} {h : MH} {k : List Val × Src → Prop} : opK (itemsOf .enm [.tup xs] h) k = k (enumL xs, []) := id rfl
theorem it_enml {a : Nat} : opK (itemsOf .enm [.ref a] h) k = lsK h[a]? fun w xs => k (enumL xs, [(a, .lst w xs)]) := by
  simp only [itemsOf]
  cases h[a]? with
  | none => rfl
  | some o => cases o <;> rfl
theorem it_revl {a : Nat} : opK (itemsOf .rev [.ref a] h) k = lsK h[a]? fun w xs => k (xs.reverse, [(a, .lst w xs)]) := by
  simp only [itemsOf]
  cases h[a]? with
  | none => rfl
  | some o => cases o <;> rfl
theorem it_zipt {xs ys : List Val} : itemsOf .zip [.tup xs, .tup ys] h = some ((xs.zip ys).map fun p => .tup [p.1, p.2], []) := id rfl
theorem it_zipx {xs : List Val} {b : Nat} : opK (itemsOf .zpx [.tup xs, .ref b] h) k = lsK h[b]? fun z ys => k ((xs.zip ys).map (fun p => .tup [p.1, p.2]), [(b, .lst z ys)]) := by
  simp only [itemsOf]
  cases h[b]? with
  | none => rfl
  | some o => cases o <;> rfl
theorem it_zipl {a b : Nat} : opK (itemsOf .zip [.ref a, .ref b] h) k = lsK h[a]? fun w xs => lsK h[b]? fun z ys => k ((xs.zip ys).map (fun p => .tup [p.1, p.2]), [(a, .lst w xs), (b, .lst z ys)]) := by
  simp only [itemsOf]
  cases e1 : h[a]? with
  | none => rfl
  | some o =>
    cases o with
    | lst w xs =>
      rw [ls_k]
      cases e2 : h[b]? with
      | none => rfl
      | some o2 => cases o2 <;> rfl
    | _ => rfl
noncomputable def cnt (lo hi c : Int) : Nat := ((hi - lo + c - 1) / c).toNat
theorem rngL_len {lo hi c : Int} : (rangeL lo hi c).length = cnt lo hi c := by simp [rangeL, cnt]
theorem rngL_get {lo hi c : Int} {i : Nat} {v : Val} (e : (rangeL lo hi c)[i]? = some v) : i < cnt lo hi c ∧ v = .int (lo + (i : Int) * c) := by
  have hl := (List.getElem?_eq_some_iff.mp e).1
  rw [rngL_len] at hl
  refine ⟨hl, ?_⟩
  unfold rangeL at e
  rw [List.getElem?_map, List.getElem?_range (by unfold cnt at hl; exact hl)] at e
  exact (Option.some.inj e).symm
theorem cnt_1 {lo hi : Int} : cnt lo hi 1 = (hi - lo).toNat := by simp [cnt]
theorem wp_rng {lo hi c : Int} (I : Nat → Env' → MH → Prop) (h0 : I 0 ρ h) (step : ∀ (i : Nat) ρ h, i < cnt lo hi c → I i ρ h → opK (bindT t (.int (lo + (i : Int) * c)) ρ) fun ρ1 => (b ρ1 h).wp { K with nx := I (i + 1), ct := I (i + 1), bk := K.nx })
    (done : ∀ ρ h, I (cnt lo hi c) ρ h → K.nx ρ h) : (forL t [] b (rangeL lo hi c) ρ h).wp K := by
  refine wp_for I h0 (fun _ _ _ _ _ => by rw [stands_nil]; trivial) (fun i v ρ h hv hI => ?_) (by rw [rngL_len]; exact done)
  obtain ⟨a, rfl⟩ := rngL_get hv
  exact step i ρ h a hI
end
/-! ### == -/
noncomputable def plainV : Nat → Val → Bool
  | 0, _ => false
  | _ + 1, .non => true
  | _ + 1, .bl _ => false
  | _ + 1, .int _ => true
  | _ + 1, .str s => (PyData.str s).canLay0
  | n + 1, .tup vs => vs.all (plainV n)
  | _ + 1, .ref _ => false
  | _ + 1, .exc _ _ => false
theorem pl_non {n : Nat} : plainV (n + 1) .non = true := id rfl
theorem pl_int {n : Nat} {i : Int} : plainV (n + 1) (.int i) = true := id rfl
theorem pl_str {n : Nat} {s : Str} : plainV (n + 1) (.str s) = (PyData.str s).canLay0 := id rfl
theorem pl_tup {n : Nat} {vs : List Val} : plainV (n + 1) (.tup vs) = vs.all (plainV n) := id rfl
theorem snapL_plain {h : MH} {n : Nat} (ih : ∀ v, plainV n v = true → ∃ d, snap h n v = some d) : ∀ vs : List Val, vs.all (plainV n) = true → ∃ ds, mapO (snap h n) vs = some ds
  | [], _ => ⟨[], rfl⟩
  | v :: vs, p => by
    simp only [List.all_cons, Bool.and_eq_true] at p
    obtain ⟨d, e⟩ := ih v p.1
    obtain ⟨ds, es⟩ := snapL_plain ih vs p.2
    exact ⟨d :: ds, by simp [mapO, e, es]⟩
theorem snap_plain {h : MH} : ∀ (n : Nat) (v : Val), plainV n v = true → ∃ d, snap h n v = some d
  | 0, _, p => by cases p
  | n + 1, v, p => by
    cases v with
    | non => exact ⟨_, rfl⟩
    | bl _ => cases p
    | int i => exact ⟨_, rfl⟩
    | str s =>
      rw [pl_str] at p
      exact ⟨.str s, by simp [snap, p]⟩
    | tup vs =>
      rw [pl_tup] at p
      obtain ⟨ds, e⟩ := snapL_plain (h := h) (snap_plain n) vs p
      exact ⟨.tuple ds, by simp [snap, e]⟩
    | ref _ => cases p
    | exc _ _ => cases p
theorem eqvL_plain {h : MH} {n : Nat} (ih : ∀ v w d e, plainV n v = true → plainV n w = true → snap h n v = some d → snap h n w = some e → PyData.eqv d e = decide (v = w)) : ∀ (vs ws : List Val) (ds es : List PyData), vs.all (plainV n) = true → ws.all (plainV n) = true → mapO (snap h n) vs = some ds → mapO (snap h n) ws = some es → PyData.eqvAll ds es = decide (vs = ws)
  | [], [], ds, es, _, _, e1, e2 => by cases e1; cases e2; simp [PyData.eqvAll]
  | [], w :: ws, ds, es, _, _, e1, e2 => by
    cases e1
    simp only [mapO] at e2
    split at e2
    · cases e2; simp [PyData.eqvAll]
    · cases e2
  | v :: vs, [], ds, es, _, _, e1, e2 => by
    cases e2
    simp only [mapO] at e1
    split at e1
    · cases e1; simp [PyData.eqvAll]
    · cases e1
  | v :: vs, w :: ws, ds, es, p1, p2, e1, e2 => by
    simp only [List.all_cons, Bool.and_eq_true] at p1 p2
    simp only [mapO] at e1 e2
    split at e1
    · rename_i d ds' a1 a2
      cases e1
      split at e2
      · rename_i e es' b1 b2
        cases e2
        have q := eqvL_plain ih vs ws ds' es' p1.2 p2.2 a2 b2
        simp only [PyData.eqvAll]
        rw [ih v w d e p1.1 p2.1 a1 b1, q]
        by_cases c : v = w <;> by_cases c2 : vs = ws <;> simp [c, c2]
      · cases e2
    · cases e1
theorem eqv_plain {h : MH} : ∀ (n : Nat) (v w : Val) (d e : PyData), plainV n v = true → plainV n w = true → snap h n v = some d → snap h n w = some e → PyData.eqv d e = decide (v = w)
  | 0, _, _, _, _, p, _, _, _ => by cases p
  | n + 1, v, w, d, e, p1, p2, e1, e2 => by
    have tupS : ∀ {vs : List Val} {d : PyData}, snap h (n + 1) (.tup vs) = some d → ∃ ds, d = .tuple ds ∧ mapO (snap h n) vs = some ds := by
      intro vs d e
      simp only [snap] at e
      obtain ⟨ds, h1, h2⟩ := Option.map_eq_some_iff.mp e
      exact ⟨ds, h2.symm, h1⟩
    have strS : ∀ {s : Str} {d : PyData}, snap h (n + 1) (.str s) = some d → d = .str s := by
      intro s d e
      simp only [snap] at e
      split at e <;> cases e
      rfl
    cases v with
    | bl _ => cases p1
    | ref _ => cases p1
    | exc _ _ => cases p1
    | non =>
      cases e1
      cases w with
      | bl _ => cases p2
      | ref _ => cases p2
      | exc _ _ => cases p2
      | non => cases e2; simp [PyData.eqv]
      | int _ => cases e2; simp [PyData.eqv]
      | str _ => cases strS e2; simp [PyData.eqv]
      | tup _ => obtain ⟨_, rfl, _⟩ := tupS e2; simp [PyData.eqv]
    | int i =>
      cases e1
      cases w with
      | bl _ => cases p2
      | ref _ => cases p2
      | exc _ _ => cases p2
      | non => cases e2; simp [PyData.eqv]
      | int j => cases e2; by_cases c : i = j <;> simp [PyData.eqv, c]
      | str _ => cases strS e2; simp [PyData.eqv]
      | tup _ => obtain ⟨_, rfl, _⟩ := tupS e2; simp [PyData.eqv]
    | str s =>
      cases strS e1
      cases w with
      | bl _ => cases p2
      | ref _ => cases p2
      | exc _ _ => cases p2
      | non => cases e2; simp [PyData.eqv]
      | int j => cases e2; simp [PyData.eqv]
      | str t => cases strS e2; by_cases c : s = t <;> simp [PyData.eqv, c]
      | tup _ => obtain ⟨_, rfl, _⟩ := tupS e2; simp [PyData.eqv]
    | tup vs =>
      obtain ⟨ds, rfl, a1⟩ := tupS e1
      cases w with
      | bl _ => cases p2
      | ref _ => cases p2
      | exc _ _ => cases p2
      | non => cases e2; simp [PyData.eqv]
      | int j => cases e2; simp [PyData.eqv]
      | str _ => cases strS e2; simp [PyData.eqv]
      | tup ws =>
        obtain ⟨es, rfl, a2⟩ := tupS e2
        rw [pl_tup] at p1 p2
        have q := eqvL_plain (eqv_plain n) vs ws ds es p1 p2 a1 a2
        simp only [PyData.eqv]
        rw [q]
        by_cases c : vs = ws <;> simp [c]
theorem v_tt {h : MH} {vs ws : List Val} (p1 : plainV 64 (.tup vs) = true) (p2 : plainV 64 (.tup ws) = true) : veq h (.tup vs) (.tup ws) = some (decide (vs = ws)) := by
  obtain ⟨d, e1⟩ := snap_plain (h := h) 64 _ p1
  obtain ⟨e, e2⟩ := snap_plain (h := h) 64 _ p2
  show (match snap h 64 (.tup vs), snap h 64 (.tup ws) with
    | some d, some e => some (PyData.eqv d e)
    | _, _ => none) = _
  rw [e1, e2]
  have q := eqv_plain 64 _ _ _ _ p1 p2 e1 e2
  simp only [q]
  congr 1
  by_cases c : vs = ws <;> simp [c]
/-! ### lists -/
theorem atI_nat {α : Type} {xs : List α} {k : Nat} : L2.atI xs (k : Int) = xs[k]? := by
  unfold L2.atI L2.ixN
  by_cases c : k < xs.length
  · rw [if_pos (by omega), if_pos (by omega)]
    simp
  · rw [if_pos (by omega), if_neg (by omega)]
    simp; omega
theorem at_0 {α : Type} {a : α} {xs : List α} : L2.atI (a :: xs) 0 = some a := atI_nat (k := 0)
theorem at_1 {α : Type} {a b : α} {xs : List α} : L2.atI (a :: b :: xs) 1 = some b := atI_nat (k := 1)
theorem at_2 {α : Type} {a b c : α} {xs : List α} : L2.atI (a :: b :: c :: xs) 2 = some c := atI_nat (k := 2)
theorem at_3 {α : Type} {a b c d : α} {xs : List α} : L2.atI (a :: b :: c :: d :: xs) 3 = some d := atI_nat (k := 3)
theorem at_4 {α : Type} {a b c d e : α} {xs : List α} : L2.atI (a :: b :: c :: d :: e :: xs) 4 = some e := atI_nat (k := 4)
theorem at_5 {α : Type} {a b c d e f : α} {xs : List α} : L2.atI (a :: b :: c :: d :: e :: f :: xs) 5 = some f := atI_nat (k := 5)
theorem cut_take {α : Type} {xs : List α} {k : Nat} : cutL xs none (some (k : Int)) = xs.take k := by
  unfold cutL
  rw [HT.sIx_none, HT.sIx_nat]
  simp
theorem cut_drop1 {α : Type} {xs : List α} {k : Nat} : cutL xs (some ((k : Int) + 1)) none = xs.drop (k + 1) := by
  unfold cutL
  have e : ((k : Int) + 1) = ((k + 1 : Nat) : Int) := by omega
  rw [e, HT.sIx_none, HT.sIx_nat]
  by_cases c : k + 1 ≤ xs.length
  · rw [Nat.min_eq_left c, List.take_of_length_le (by simp)]
  · rw [Nat.min_eq_right (by omega), List.drop_length, List.drop_of_length_le (by omega)]
    simp
theorem vlen_app {xs ys : List Val} : (xs ++ ys).length = xs.length + ys.length := List.length_append
/-! ### signs -/
theorem nn_add {a b : Int} (ha : 0 ≤ a) (hb : 0 ≤ b) : (0 ≤ a + b) = True := eq_true (by omega)
theorem nn_mul {a b : Int} (ha : 0 ≤ a) (hb : 0 ≤ b) : (0 ≤ a * b) = True := eq_true (Int.mul_nonneg ha hb)
theorem nn_cast {a : Nat} : (0 ≤ (a : Int)) = True := eq_true (by omega)
theorem nn_mod {a b : Int} (hb : 0 < b) : (0 ≤ a % b) = True := eq_true (Int.emod_nonneg a (by omega))
theorem at_nat {α : Type} {xs : List α} {k : Nat} : L2.atI xs (k : Int) = xs[k]? := atI_nat
/-! ### the script -/
theorem law_of {r : Res Val} (p : r.wp (fun v _ => v = .bl true) NoE) : ∃ h', r = .ok (.bl true) h' := by
  obtain ⟨v, h, e, rfl⟩ := wp_ex p
  exact ⟨h, e⟩
noncomputable def cell (ns : List Int) (k : Nat) : Int := ns.getD k 0
noncomputable def dCell : Df := { ps := [Str.ofString "_law_script", Str.ofString "_law_k"], np := 2, nn := 2, body :=
   [.ite (.cmp .Lt (.var 1) (.bi .len [.var 0]))
      [.ret (.idx (.var 0) (.var 1))]
      [],
    .ret (.con (.int 0))] }
theorem cell_run {P : Pg} {h : MH} {a : Nat} {w : Bool} {ns : List Int} (hs : h[a]? = some (.lst w (ns.map .int))) {i : Int} (k : Nat) (hi : i = k) : callB P dCell [.ref a, .int i] h = .ok (.int (cell ns k)) h := by
  subst hi
  refine wp_eq ?_
  rw [wp_call]
  refine ⟨rfl, ?_⟩
  simp only [dCell, List.map_cons, List.map_nil, List.cons_append, List.nil_append, List.replicate, wb_cons, ws_ite, we_cmp, we_var, wg_0, wg_s, we_bi, we_cons, we_nil, l_lst, ln_l, op_k, hs, ls_k, c_lt, if_dec, ws_ret, we_idx, i_lst, ix_l, wb_nil, we_con, List.length_map]
  refine ⟨fun c => ?_, fun c => ?_⟩
  · have c' : k < ns.length := by omega
    rw [atI_nat, List.getElem?_map, List.getElem?_eq_getElem c']
    simp only [Option.map_some, op_k]
    simp [cell, List.getD_eq_getElem?_getD, c']
  · have c' : ns.length ≤ k := by omega
    simp [cell, List.getD_eq_getElem?_getD, c']
/-! ### heaps that only grow -/
noncomputable def Gr (h h' : MH) : Prop := ∃ g, h' = h ++ g
theorem Gr.refl {h : MH} : Gr h h := ⟨[], by simp⟩
theorem Gr.trans {h h1 h2 : MH} (a : Gr h h1) (b : Gr h1 h2) : Gr h h2 := by
  obtain ⟨g, rfl⟩ := a
  obtain ⟨g2, rfl⟩ := b
  exact ⟨g ++ g2, by simp⟩
theorem Gr.app {h g : MH} : Gr h (h ++ g) := ⟨g, rfl⟩
theorem Gr.get {h h' : MH} (a : Gr h h') {i : Nat} {o : Ob} (e : h[i]? = some o) : h'[i]? = some o := by
  obtain ⟨g, rfl⟩ := a
  rw [List.getElem?_append_left (List.getElem?_eq_some_iff.mp e).1]; exact e
theorem Gr.len {h h' : MH} (a : Gr h h') : h.length ≤ h'.length := by
  obtain ⟨g, rfl⟩ := a
  simp
theorem app_last {h : MH} {o : Ob} : (h ++ [o])[h.length]? = some o := by simp
/-! looking a place up in a heap that grew -/
theorem ap_l {g : MH} {x : Ob} {i : Nat} (hi : i < g.length) : (g ++ [x])[i]? = g[i]? := List.getElem?_append_left hi
theorem lt_last {g : MH} {x : Ob} : (g.length < (g ++ [x]).length) = True := eq_true (by simp)
theorem lt_app {g : MH} {x : Ob} {i : Nat} (hi : i < g.length) : (i < (g ++ [x]).length) = True := eq_true (by simp; omega)
theorem set_app {g : MH} {x y : Ob} {i : Nat} (hi : i < g.length) : (g ++ [x]).set i y = g.set i y ++ [x] := by
  rw [List.set_append_left _ _ hi]
theorem set_ne {h : MH} {i j : Nat} {o : Ob} (e : i ≠ j) : (h.set j o)[i]? = h[i]? := List.getElem?_set_ne (Ne.symm e)
theorem lt_of {h : MH} {i : Nat} {o : Ob} (e : h[i]? = some o) : i < h.length := (List.getElem?_eq_some_iff.mp e).1
/-- what stands ahead of a place stays, whatever is done to the rest -/
noncomputable def Up (n : Nat) (h h' : MH) : Prop := n ≤ h'.length ∧ ∀ i, i < n → h'[i]? = h[i]?
theorem Gr.up {h h' : MH} (a : Gr h h') : Up h.length h h' := by
  refine ⟨a.len, fun i hi => ?_⟩
  obtain ⟨g, rfl⟩ := a
  rw [List.getElem?_append_left hi]
theorem Up.refl {h : MH} : Up h.length h h := ⟨Nat.le_refl _, fun _ _ => rfl⟩
theorem Up.get {n : Nat} {h h' : MH} (a : Up n h h') {i : Nat} {o : Ob} (hi : i < n) (e : h[i]? = some o) : h'[i]? = some o := by rw [a.2 i hi, e]
theorem Up.gr {n : Nat} {h h1 h2 : MH} (a : Up n h h1) (b : Gr h1 h2) : Up n h h2 := by
  refine ⟨Nat.le_trans a.1 b.len, fun i hi => ?_⟩
  obtain ⟨g, rfl⟩ := b
  rw [List.getElem?_append_left (Nat.lt_of_lt_of_le hi a.1), a.2 i hi]
theorem Up.trans {n m : Nat} {h h1 h2 : MH} (a : Up n h h1) (b : Up m h1 h2) (hm : n ≤ m) : Up n h h2 := by
  refine ⟨Nat.le_trans hm b.1, fun i hi => ?_⟩
  rw [b.2 i (by omega), a.2 i hi]
theorem Up.set {n : Nat} {h h1 : MH} (a : Up n h h1) {j : Nat} {o : Ob} (hj : n ≤ j) : Up n h (h1.set j o) := by
  refine ⟨by simpa using a.1, fun i hi => ?_⟩
  rw [List.getElem?_set_ne (by omega), a.2 i hi]
theorem Up.app {n : Nat} {h h1 g : MH} (a : Up n h h1) : Up n h (h1 ++ g) := a.gr Gr.app
theorem set_get {h : MH} {j : Nat} {o u : Ob} (e : h[j]? = some u) : (h.set j o)[j]? = some o := by
  rw [List.getElem?_set_self (List.getElem?_eq_some_iff.mp e).1]
/-! ### bits -/
theorem and_shift (x c : Int) : ∀ s : Nat, Builtin.bitAnd x (2 ^ s * c) = 2 ^ s * Builtin.bitAnd (x / 2 ^ s) c
  | 0 => by simp
  | s + 1 => by
    rw [PySem.W.kbt_halves]
    have e1 : (2 ^ (s + 1) * c : Int) / 2 = 2 ^ s * c := by
      rw [Int.pow_succ, Int.mul_comm (2 ^ s) 2, Int.mul_assoc, Int.mul_ediv_cancel_left _ (by decide)]
    have e2 : (2 ^ (s + 1) * c : Int) % 2 = 0 := by
      rw [Int.pow_succ, Int.mul_comm (2 ^ s) 2, Int.mul_assoc, Int.mul_emod_right]
    rw [e1, e2, and_shift (x / 2) c s]
    have e3 : x / 2 / 2 ^ s = x / 2 ^ (s + 1) := by
      rw [Int.pow_succ, Int.mul_comm, Int.ediv_ediv_of_nonneg (by decide)]
    rw [e3, Int.pow_succ]
    simp
    rw [Int.mul_comm (2 ^ s) 2, Int.mul_assoc]
theorem two_pow_pos (s : Nat) : (0 : Int) < 2 ^ s := Int.pow_pos (by decide)
theorem pow_split {s : Nat} (hs : s ≤ 32) : (4294967296 : Int) = 2 ^ s * 2 ^ (32 - s) := by
  rw [← Int.pow_add, Nat.add_sub_cancel' hs]; rfl
/-- the mask of the first 32 - s bits -/
theorem mask_val {s : Nat} (hs : s ≤ 32) : Builtin.bitAnd (4294967295 * 2 ^ s) 4294967295 = 4294967296 - 2 ^ s := by
  have e := PySem.W.kbt_mask (4294967295 * 2 ^ s) 32
  have e2 : ((2 : Int) ^ 32 - 1) = 4294967295 := id rfl
  rw [e2] at e
  rw [e]
  have h0 := two_pow_pos s
  have h1 : (2 : Int) ^ s ≤ 4294967296 := by
    rw [pow_split hs]
    have := two_pow_pos (32 - s)
    have z := Int.mul_le_mul_of_nonneg_left (show (1 : Int) ≤ 2 ^ (32 - s) by omega) (show (0 : Int) ≤ 2 ^ s by omega)
    rw [Int.mul_one] at z; exact z
  have e3 : (2 : Int) ^ 32 = 4294967296 := id rfl
  rw [e3]
  generalize (2 : Int) ^ s = m at *
  omega
theorem and_mask {s : Nat} (hs : s ≤ 32) {x : Int} (h0 : 0 ≤ x) (h1 : x < 4294967296) : Builtin.bitAnd x (4294967296 - 2 ^ s) = x / 2 ^ s * 2 ^ s := by
  have e : (4294967296 - 2 ^ s : Int) = 2 ^ s * (2 ^ (32 - s) - 1) := by
    rw [Int.mul_sub, ← pow_split hs, Int.mul_one]
  rw [e, and_shift, PySem.W.kbt_mask, Int.mul_comm]
  congr 1
  refine Int.emod_eq_of_lt (Int.ediv_nonneg h0 (by have := two_pow_pos s; omega)) ?_
  refine Int.ediv_lt_of_lt_mul (two_pow_pos s) ?_
  rw [Int.mul_comm, ← pow_split hs]; exact h1
theorem xor_mask {s : Nat} (hs : s ≤ 32) : Builtin.bitXor (4294967296 - 2 ^ s) 4294967295 = 2 ^ s - 1 := by
  have h0 := two_pow_pos s
  have h1 : (2 : Int) ^ s ≤ 4294967296 := by
    rw [pow_split hs]
    have := two_pow_pos (32 - s)
    have z := Int.mul_le_mul_of_nonneg_left (show (1 : Int) ≤ 2 ^ (32 - s) by omega) (show (0 : Int) ≤ 2 ^ s by omega)
    rw [Int.mul_one] at z; exact z
  have e := PySem.W.kbt_mask (4294967296 - 2 ^ s) 32
  have e2 : ((2 : Int) ^ 32 - 1) = 4294967295 := id rfl
  rw [e2] at e
  rw [PyProof.Rows.bitXor_and, e]
  have e3 : (2 : Int) ^ 32 = 4294967296 := id rfl
  rw [e3]
  generalize (2 : Int) ^ s = m at *
  omega
theorem or_lowM {s : Nat} {x : Int} : Builtin.bitOr x (2 ^ s - 1) = x / 2 ^ s * 2 ^ s + 2 ^ s - 1 := by
  rw [PyProof.Rows.bitOr_and, PySem.W.kbt_mask]
  have e := Int.emod_add_mul_ediv x (2 ^ s)
  rw [Int.mul_comm] at e
  omega
end Mn
/-! Mini: numbers and addresses as words -/
namespace Mn
local macro_rules
  | `(tactic| specialize [$ts,*]) => do
    let xs ← ("f_lens f_str f_ints ri_str mo_join mo_split mo_part mo_find mo_upper so_nil m_join m_split m_part m_find m_upper is_k we_fld g_fld ws_rai ws_try ws_onlyA ws_onlyR ws_hold hot_n hot_c hot_0 hot_a hot_r ra_n ra_f n_exc ty_exc g_fldx ws_fld g_set we_own ow_ref ow_i in_n we_new pf_nil pf_cons lk_nil lk_cons String.reduceEq reduceIte b_muls b_mull i_str f_sum io_nil io_cons m_pop m_index mo_index m_bit mo_bit vlen_app ap_l lt_last lt_app set_app cut_take cut_drop1 nn_add nn_mul nn_cast nn_mod at_nat List.getElem?_map Option.map_some Int.zero_add Int.mul_one m_okr mo_append mo_extend mo_pop mo_popAt mo_clear set_last sz_lt mulOk_l pow_lit app_last implies_true Int.reduceToNat stands_one stands_two if_t if_f if_dec if_not if_and if_or bl_k in_k op_k op_n op_map op_if ls_k wp_ok wp_err wp_bad wp_if wp_ret wg_0 wg_s we_var we_con we_glb we_bin we_cmp we_and we_or we_not we_neg we_isN we_notN we_isB we_chn we_lst we_tup we_idx wo_none wo_some we_slc we_call we_bi we_isi we_mth we_nil we_cons we_cmp1 ws_ite ws_asg ws_asgT un_tup un_ref tu_l bt_nm bt_tp bs_nil bs_cons ws_exp ws_ret ws_retN ws_brk ws_cnt ws_pas wb_nil wb_cons ws_for ws_whl ws_sub wp_call stands_nil b_add b_sub b_mul b_div b_mod b_pow b_shl b_shr b_and b_or b_xor b_adds b_addt b_addl c_lt c_le c_gt c_ge c_eq c_ne c_in c_nin v_ii v_ss v_bb i_tup i_lst ix_l ix_d l_tup l_lst ln_l ln_d lo_l lo_d su_l su_d su_t dk_s dk_n k_tup kt_tup gt_tup ix_t m_get mo_getd mo_gett gt_t gt_e k_int k_str gk_int gk_str ri_val ri_rng ri_enm ri_zip ri_zpx ri_rev ri_itm dc_k we_dct we_lofv we_lofr we_lofz we_fst fs_n fs_s fs_i we_gix gx_k gx_i m_get2 mo_get2d gt_s ws_thru ws_ran f_dict it_zipl it_zipx List.isEmpty_cons m_insert mo_insert f_max f_min f_int f_intb f_tupt f_tupl f_lstt f_lstl s_tup s_lst m_append m_extend u_sub ib_t ib_f ib_non ib_int ib_str ib_tup ib_ref n_non n_bl n_int n_str n_tup n_ref ty_non ty_bl ty_int ty_str ty_tup ty_ref tyO_l tyO_i List.set_cons_zero List.set_cons_succ List.map_cons List.map_nil List.length_cons List.length_nil List.length_map List.replicate_zero List.replicate_succ List.nil_append List.cons_append Bool.not_true Bool.not_false and_true true_and true_implies false_implies and_false false_and not_false_eq_true not_true_eq_false Nat.reduceAdd Nat.reduceSub Nat.reduceLeDiff Nat.reduceMul Int.reduceMul Int.reduceAdd Int.reduceSub Int.reduceLT Int.reduceLE Int.reduceNeg Int.reduceEq Int.cast_ofNat_Int Int.reducePow Nat.reducePow divOk_lit mulOk_r eq_self and_self decide_true decide_false it_rng1 it_rng2 it_rng3 it_rngd it_valt it_vall it_enml it_enmt it_revl it_zipt v_tt pl_non pl_int pl_str pl_tup List.all_cons List.all_nil Bool.and_self at_0 at_1 at_2 at_3 at_4 at_5 sz_ok Val.ref.injEq Val.int.injEq Val.bl.injEq Val.str.injEq Val.tup.injEq List.cons.injEq Option.some.injEq exists_eq exists_eq' exists_eq_left exists_eq_left' exists_eq_right exists_eq_right' exists_and_left exists_and_right".splitOn " ").toArray.mapM fun s => `(Lean.Parser.Tactic.simpLemma| $(Lean.mkIdent s.toName):ident)
    let ys ← ts.getElems.mapM fun t => `(Lean.Parser.Tactic.simpLemma| $t:term)
    `(tactic| simp (maxDischargeDepth := 40) only [$(xs ++ ys),*])
section
open PySem
open Classical
local macro_rules
  | `(tactic| subst_eqs) => do
    let xs := ("if_t".splitOn " ").toArray.map fun s => (⟨(Lean.mkIdent s.toName).raw⟩ : Lean.TSyntax `term)
    `(tactic| specialize [$xs,*])
local macro_rules
  | `(tactic| exists $ts,*) => do
    let xs := ("if_t".splitOn " ").toArray.map fun s => (⟨(Lean.mkIdent s.toName).raw⟩ : Lean.TSyntax `term)
    `(tactic| specialize [$(xs ++ ts.getElems),*])
noncomputable def dS_part_of : Df := { ps := [Str.ofString "word"], np := 1, nn := 2, body :=
   [.ite (.or (.cmp .Eq (.var 0) (.con (.str (Str.ofString "")))) (.or (.cmp .Gt (.bi .len [.var 0]) (.con (.int 3))) (.and (.cmp .Eq (.idx (.var 0) (.con (.int 0))) (.con (.str (Str.ofString "0")))) (.cmp .Gt (.bi .len [.var 0]) (.con (.int 1))))))
      [.rai "NoAddress" [.con (.str (Str.ofString "no part"))]]
      [],
    .forS (.nm 1) .val [.var 0]
      [.ite (.cmp .NotIn (.var 1) (.glb "FIGURES"))
         [.rai "NoAddress" [.con (.str (Str.ofString "no part"))]]
         []],
    .ite (.cmp .Gt (.bi .int [.var 0]) (.con (.int 255)))
      [.rai "NoAddress" [.con (.str (Str.ofString "no part"))]]
      [],
    .ret (.bi .int [.var 0])] }
noncomputable def dS_read_address : Df := { ps := [Str.ofString "text"], np := 1, nn := 4, body :=
   [.asg (.nm 1) (.mth .split (.var 0) [.con (.str (Str.ofString "."))]),
    .ite (.cmp .NotEq (.bi .len [.var 1]) (.con (.int 4)))
      [.rai "NoAddress" [.con (.str (Str.ofString "not four parts"))]]
      [],
    .asg (.nm 2) (.con (.int 0)),
    .forS (.nm 3) .val [.var 1]
      [.asg (.nm 2) (.bin .BitOr (.bin .LShift (.var 2) (.con (.int 8))) (.call "part_of" [.var 3]))],
    .ret (.var 2)] }
noncomputable def dS_number_by : Df := { ps := [Str.ofString "word", Str.ofString "most"], np := 2, nn := 4, body :=
   [.ite (.or (.not (.chn .LtE .LtE (.con (.int 1)) (.bi .len [.var 0]) (.con (.int 10)))) (.and (.cmp .Eq (.idx (.var 0) (.con (.int 0))) (.con (.str (Str.ofString "0")))) (.cmp .Gt (.bi .len [.var 0]) (.con (.int 1)))))
      [.rai "NoRow" [.con (.int 1)]]
      [],
    .forS (.nm 2) .val [.var 0]
      [.ite (.not (.chn .LtE .LtE (.con (.str (Str.ofString "0"))) (.var 2) (.con (.str (Str.ofString "9")))))
         [.rai "NoRow" [.con (.int 1)]]
         []],
    .asg (.nm 3) (.bi .int [.var 0]),
    .ite (.cmp .Gt (.var 3) (.var 1))
      [.rai "NoRow" [.con (.int 1)]]
      [],
    .ret (.var 3)] }
noncomputable def dS_address_by : Df := { ps := [Str.ofString "word"], np := 1, nn := 1, body :=
   [.tryR "read_address" 0 "NoAddress" "NoRow" (.int 1)] }
class FigPg (P : Pg) : Prop where
  fig : P.glb "FIGURES" = some (.str (Str.ofString "0123456789"))
  na : P.exi "NoAddress" = some none
class RowPg (P : Pg) : Prop where
  nr : P.exi "NoRow" = some (some "row")
  nn : P.exm "NoAddress" "NoAddress" = some true
/-- a figure -/
noncomputable def isF (c : Nat) : Prop := 48 ≤ c ∧ c ≤ 57
noncomputable def wv (w : Str) : Int := (NumText.digitsVal w.cps.toList : Nat)
theorem figs_mem {c : Nat} : (c ∈ (Str.ofString "0123456789").cps.toList) = isF c := by
  have e : (Str.ofString "0123456789").cps.toList = [48, 49, 50, 51, 52, 53, 54, 55, 56, 57] := by decide +kernel
  rw [e]
  apply propext
  simp only [List.mem_cons, List.not_mem_nil, or_false, isF]
  omega
theorem wv_int {w : Str} (h0 : w.length ≠ 0) (hl : w.length ≤ 640) (hf : ∀ c ∈ w.cps.toList, isF c) : PySem.intText? w = some (wv w) := by
  refine intText_digits (fun c hc => hf c hc) (fun z => h0 ?_) (by omega)
  show w.cps.size = 0
  rw [← Array.length_toList, z]; rfl
theorem at0 {w : Str} : L2.atI w.cps.toList 0 = w.cps.toList[0]? := Mn.atI_nat (xs := w.cps.toList) (k := 0)
theorem one_is {c d : Nat} : ((⟨#[c]⟩ : Str) = ⟨#[d]⟩) = (c = d) := by simp
theorem sz4 {n : Nat} (h : n ≤ 4096) : n ≤ sizeLine := by
  have : (4096 : Nat) < sizeLine := by decide
  omega
/-- a word that may be a part -/
noncomputable def partG (w : Str) : Prop := w.length ≠ 0 ∧ w.length ≤ 3 ∧ ¬ (w.cps.toList[0]? = some 48 ∧ 1 < w.length) ∧ (∀ c ∈ w.cps.toList, isF c) ∧ wv w ≤ 255
theorem len0 {w : Str} : (w = Str.ofString "") = (w.length = 0) := by
  apply propext
  constructor
  · rintro rfl; decide +kernel
  · intro z
    have e : w.cps = #[] := Array.size_eq_zero_iff.mp z
    cases w; simp only at e; subst e; decide +kernel
theorem part_loop {P : Pg} [FigPg P] {w : Str} {h : MH} {K : Ks} : ∀ (cs : List Nat) (x : Option Val), ((∀ c ∈ cs, isF c) → ∀ x, K.nx [some (.str w), x] h) → ((¬ ∀ c ∈ cs, isF c) → ∀ x, K.er "NoAddress" [] [some (.str w), x] h) →
    (forL (.nm 1) [] (evB P [.ite (.cmp .NotIn (.var 1) (.glb "FIGURES")) [.rai "NoAddress" [.con (.str (Str.ofString "no part"))]] []]) (cs.map fun c => Val.str ⟨#[c]⟩) [some (.str w), x] h).wp K := by
  intro cs
  induction cs with
  | nil => intro x h1 _; simp only [List.map_nil, wf_nil, stands_nil, true_and]; exact h1 (by simp) _
  | cons c cs ih =>
    intro x h1 h2
    have g := FigPg.fig (P := P)
    have na := FigPg.na (P := P)
    have vf : ∀ {c : Nat} {z : Str}, vin? h (.str ⟨#[c]⟩) (.str z) = some (decide (c ∈ z.cps.toList)) := rfl
    by_cases z : isF c
    · have z1 := eq_true z
      exists wf_cons, g, vf, figs_mem, z1
      refine ih _ (fun q => h1 ?_) (fun q => h2 fun r => q fun d hd => r d (List.mem_cons_of_mem _ hd))
      intro d hd
      rcases List.mem_cons.mp hd with rfl | hd
      · exact z
      · exact q d hd
    · have z1 := eq_false z
      exists wf_cons, g, na, vf, figs_mem, z1
      exact h2 (fun r => z (r c List.mem_cons_self)) _
theorem part_run {P : Pg} [FigPg P] {w : Str} {h : MH} {Q : Val → MH → Prop} {Z : XP} (sl : w.length ≤ sizeLine) (good : partG w → Q (.int (wv w)) h) (bad : ¬ partG w → Z "NoAddress" [] h) : (callB P dS_part_of [.str w] h).wp Q Z := by
  rw [wp_call]
  unfold dS_part_of
  have na := FigPg.na (P := P)
  by_cases e0 : w.length = 0
  · have z0 := eq_true e0
    exists len0, z0, na
    exact bad fun g => g.1 e0
  have z0 := eq_false e0
  by_cases e3 : 3 < w.length
  · have z3 : ((3 : Int) < (w.length : Int)) = True := eq_true (by omega)
    exists len0, z0, z3, sl, na
    exact bad fun g => by have := g.2.1; omega
  have z3 : ((3 : Int) < (w.length : Int)) = False := eq_false (by omega)
  have l0 : 0 < w.cps.toList.length := by rw [Array.length_toList]; exact Nat.pos_of_ne_zero e0
  obtain ⟨c, hc⟩ : ∃ c, w.cps.toList[0]? = some c := ⟨_, List.getElem?_eq_getElem l0⟩
  have hc0 := at0.trans hc
  have s0 : Str.ofString "0" = ⟨#[48]⟩ := by decide +kernel
  have l640 : w.length ≤ 640 := by omega
  have fin : (¬ (c = 48 ∧ 1 < w.length)) → (forL (.nm 1) [] (evB P [.ite (.cmp .NotIn (.var 1) (.glb "FIGURES")) [.rai "NoAddress" [.con (.str (Str.ofString "no part"))]] []]) (w.cps.toList.map fun c => Val.str ⟨#[c]⟩) [some (.str w), none] h).wp
      { nx := fun ρ h => (evB P [.ite (.cmp .Gt (.bi .int [.var 0]) (.con (.int 255))) [.rai "NoAddress" [.con (.str (Str.ofString "no part"))]] [], .ret (.bi .int [.var 0])] ρ h).wp { nx := fun _ h => Q .non h, bk := fun _ _ => False, ct := fun _ _ => False, rt := Q, er := fun c fs _ h => Z c fs h }, bk := fun _ _ => False, ct := fun _ _ => False, rt := Q, er := fun c fs _ h => Z c fs h } := by
    intro lead
    refine part_loop _ _ (fun f x => ?_) (fun f x => bad fun g => f g.2.2.2.1)
    have iv := wv_int e0 l640 f
    by_cases b : 255 < wv w
    · have zb := eq_true b
      exists iv, l640, zb, na
      exact bad fun g => by have := g.2.2.2.2; omega
    · have zb := eq_false b
      exists iv, l640, zb, na
      refine good ⟨e0, by omega, fun ⟨q1, q2⟩ => lead ⟨?_, q2⟩, f, by omega⟩
      rw [hc] at q1; cases q1; rfl
  by_cases z : c = 48
  · have z1 := eq_true z
    by_cases o : 1 < w.length
    · have zo : ((1 : Int) < (w.length : Int)) = True := eq_true (by omega)
      exists len0, z0, z3, sl, na, hc0, s0, one_is, z1, zo
      exact bad fun g => g.2.2.1 ⟨by rw [hc, z], o⟩
    · have zo : ((1 : Int) < (w.length : Int)) = False := eq_false (by omega)
      exists len0, z0, z3, sl, na, hc0, s0, one_is, z1, zo
      exact fin fun q => o q.2
  · have z1 := eq_false z
    exists len0, z0, z3, sl, na, hc0, s0, one_is, z1
    exact fin fun q => z q.1
/-! addresses -/
noncomputable def addrL : List Str → Int → Option Int
  | [], a => some a
  | w :: r, a => if partG w then addrL r (a * 256 + wv w) else none
/-- the address that a text writes -/
noncomputable def addrW (t : Str) : Option Int := if (Txt.split t (Str.ofString ".")).length = 4 then addrL (Txt.split t (Str.ofString ".")) 0 else none
theorem wv_pos {w : Str} : 0 ≤ wv w := Int.natCast_nonneg _
theorem addr_loop {P : Pg} {t : Str} {N : Nat} {h : MH} {K : Ks} {src : Src} (st : src.stands h) (hp : ∀ (w : Str) (h : MH) (Q : Val → MH → Prop) (Z : XP), w.length ≤ sizeLine → (partG w → Q (.int (wv w)) h) → (¬ partG w → Z "NoAddress" [] h) → (P.cf "part_of" [.str w] h).wp Q Z) :
    ∀ (ws : List Str) (a b : Int) (x : Option Val), 0 ≤ a → a < b → 0 < b → b * 256 ^ ws.length ≤ 256 ^ 4 → (∀ w ∈ ws, w.length ≤ sizeLine) → (∀ v x, addrL ws a = some v → K.nx [some (.str t), some (.ref N), some (.int v), x] h) → (addrL ws a = none → ∀ ρ, K.er "NoAddress" [] ρ h) →
    (forL (.nm 3) src (evB P [.asg (.nm 2) (.bin .BitOr (.bin .LShift (.var 2) (.con (.int 8))) (.call "part_of" [.var 3]))]) (ws.map Val.str) [some (.str t), some (.ref N), some (.int a), x] h).wp K := by
  intro ws
  induction ws with
  | nil => intro a b x _ _ _ _ _ h1 _; simp only [List.map_nil, wf_nil, st, true_and]; exact h1 _ _ rfl
  | cons w ws ih =>
    intro a b x ha hb b0 hB hs h1 h2
    have hw := hs w List.mem_cons_self
    have pos : (1 : Int) ≤ 256 ^ ws.length := Int.le_of_lt_add_one (by have : (0 : Int) < 256 ^ ws.length := Int.pow_pos (by decide); omega)
    have e4 : (256 : Int) ^ 4 = 4294967296 := by decide +kernel
    have bs : b * 256 ≤ 4294967296 := by
      rw [← e4]
      refine Int.le_trans ?_ hB
      rw [List.length_cons, Int.pow_succ, ← Int.mul_assoc, Int.mul_right_comm]
      have : 0 ≤ b * 256 := by omega
      calc b * 256 = b * 256 * 1 := by omega
        _ ≤ b * 256 * 256 ^ ws.length := Int.mul_le_mul_of_nonneg_left pos this
        _ = _ := by rw [Int.mul_right_comm]
    have pw : powOk a 8 := ⟨by decide, by decide, by omega⟩
    have st1 := eq_true st
    exists wf_cons, st1, pw
    refine hp w h _ _ hw (fun g => ?_) fun g => ?_
    · have e : (2 : Int) ^ (8 : Nat) = 256 := by decide +kernel
      have g5 := g.2.2.2.2
      have bo := Bits.bitOr_join' (a := wv w) (b := a) (k := 8) wv_pos (by rw [e]; omega) ha
      rw [e, show wv w + a * 256 = a * 256 + wv w by omega] at bo
      exists bo
      have p0 := wv_pos (w := w)
      refine ih (a * 256 + wv w) (b * 256) _ (by omega) (by omega) (by omega) ?_ (fun v hv => hs v (List.mem_cons_of_mem _ hv)) (fun v x q => h1 v x ?_) (fun q => h2 ?_)
      · rw [List.length_cons, Int.pow_succ] at hB
        rw [Int.mul_assoc, Int.mul_comm 256]
        exact hB
      · rw [addrL, if_pos g]; exact q
      · rw [addrL, if_pos g]; exact q
    · exact h2 (by rw [addrL, if_neg g]) _
theorem addr_run {P : Pg} [FigPg P] (hp : ∀ (w : Str) (h : MH) (Q : Val → MH → Prop) (Z : XP), w.length ≤ sizeLine → (partG w → Q (.int (wv w)) h) → (¬ partG w → Z "NoAddress" [] h) → (P.cf "part_of" [.str w] h).wp Q Z)
    {t : Str} {h : MH} {Q : Val → MH → Prop} {Z : XP} (sl : t.length + 2 ≤ sizeLine) (hn : (Txt.split t (Str.ofString ".")).length ≤ sizeLine) (hs : ∀ w ∈ Txt.split t (Str.ofString "."), w.length ≤ sizeLine)
    (good : ∀ a, addrW t = some a → Q (.int a) (h ++ [.lst true ((Txt.split t (Str.ofString ".")).map .str)])) (bad : addrW t = none → Z "NoAddress" [] (h ++ [.lst true ((Txt.split t (Str.ofString ".")).map .str)])) : (callB P dS_read_address [.str t] h).wp Q Z := by
  rw [wp_call]
  unfold dS_read_address
  have na := FigPg.na (P := P)
  have l0 : ((Str.ofString ".").length == 0) = false := by decide +kernel
  have hL : (h ++ [Ob.lst true ((Txt.split t (Str.ofString ".")).map .str)])[h.length]? = some (Ob.lst true ((Txt.split t (Str.ofString ".")).map .str)) := app_last
  unfold addrW at good bad
  generalize hw : Txt.split t (Str.ofString ".") = ws at *
  by_cases e : ws.length = 4
  · have e1 : ((ws.length : Int) = 4) = True := eq_true (by omega)
    rw [if_pos e] at good bad
    exists hw, sl, l0, hL, List.length_map, hn, e1
    generalize h ++ [Ob.lst true (ws.map .str)] = g at *
    generalize h.length = N at *
    refine addr_loop (by rw [stands_one]; exact hL) hp ws 0 1 _ (by omega) (by omega) (by omega) (by rw [e]; decide +kernel) hs (fun v x q => ?_) (fun q ρ => ?_)
    · subst_eqs
      exact good v q
    · exact bad q
  · have e1 : ((ws.length : Int) = 4) = False := eq_false (by omega)
    rw [if_neg e] at bad
    exists hw, sl, l0, hL, List.length_map, hn, e1, na
    exact bad rfl
theorem addrby_run {P : Pg} [RowPg P] {t : Str} {h g : MH} {Q : Val → MH → Prop} {Z : XP} (hb : ∀ (Q : Val → MH → Prop) (Z : XP), (∀ a, addrW t = some a → Q (.int a) g) → (addrW t = none → Z "NoAddress" [] g) → (P.bare "read_address" [.str t] h).wp Q Z)
    (good : ∀ a, addrW t = some a → Q (.int a) g) (bad : addrW t = none → Z "NoRow" [("row", .int 1)] g) : (callB P dS_address_by [.str t] h).wp Q Z := by
  rw [wp_call]
  unfold dS_address_by
  have nn := RowPg.nn (P := P)
  have nr := RowPg.nr (P := P)
  subst_eqs
  refine hb _ _ (fun a e => good a e) fun e => ?_
  exists nn, nr
  exact bad e
/-! numbers -/
/-- a word that may be a number up to most -/
noncomputable def numG (w : Str) (most : Int) : Prop := 1 ≤ w.length ∧ w.length ≤ 10 ∧ ¬ (w.cps.toList[0]? = some 48 ∧ 1 < w.length) ∧ (∀ c ∈ w.cps.toList, isF c) ∧ wv w ≤ most
theorem le_48 {c : Nat} : ([c] < (Str.ofString "0").cps.toList) = (c < 48) := by
  have : (Str.ofString "0").cps.toList = [48] := by decide +kernel
  rw [this]
  apply propext
  show [c] < [48] ↔ _
  simp [List.cons_lt_cons_iff]
theorem le_57 {c : Nat} : ((Str.ofString "9").cps.toList < [c]) = (57 < c) := by
  have : (Str.ofString "9").cps.toList = [57] := by decide +kernel
  rw [this]
  apply propext
  show [57] < [c] ↔ _
  simp [List.cons_lt_cons_iff]
theorem c_les {a b : Str} {h : MH} {Q : Val → MH → Prop} {Z : XP} : (cmpop .LtE (.str a) (.str b) h).wp Q Z = Q (.bl (!decide (b.cps.toList < a.cps.toList))) h := id rfl
theorem num_loop {P : Pg} [RowPg P] {w : Str} {m : Val} {h : MH} {K : Ks} : ∀ (cs : List Nat) (x : Option Val), ((∀ c ∈ cs, isF c) → ∀ x, K.nx [some (.str w), some m, x, none] h) → ((¬ ∀ c ∈ cs, isF c) → ∀ ρ, K.er "NoRow" [("row", .int 1)] ρ h) →
    (forL (.nm 2) [] (evB P [.ite (.not (.chn .LtE .LtE (.con (.str (Str.ofString "0"))) (.var 2) (.con (.str (Str.ofString "9"))))) [.rai "NoRow" [.con (.int 1)]] []]) (cs.map fun c => Val.str ⟨#[c]⟩) [some (.str w), some m, x, none] h).wp K := by
  intro cs
  induction cs with
  | nil => intro x h1 _; simp only [List.map_nil, wf_nil, stands_nil, true_and]; exact h1 (by simp) _
  | cons c cs ih =>
    intro x h1 h2
    have nr := RowPg.nr (P := P)
    by_cases z : isF c
    · have z1 : (c < 48) = False := eq_false (by unfold isF at z; omega)
      have z2 : (57 < c) = False := eq_false (by unfold isF at z; omega)
      exists wf_cons, c_les, le_48, le_57, z1, z2
      refine ih _ (fun q => h1 ?_) (fun q => h2 fun r => q fun d hd => r d (List.mem_cons_of_mem _ hd))
      intro d hd
      rcases List.mem_cons.mp hd with rfl | hd
      · exact z
      · exact q d hd
    · have no := h2 (fun r => z (r c List.mem_cons_self))
      by_cases y : c < 48
      · have z1 := eq_true y
        exists wf_cons, nr, c_les, le_48, z1
        exact no _
      · have z1 := eq_false y
        have z2 : (57 < c) = True := eq_true (by unfold isF at z; omega)
        exists wf_cons, nr, c_les, le_48, le_57, z1, z2
        exact no _
theorem num_run {P : Pg} [RowPg P] {w : Str} {m : Int} {h : MH} {Q : Val → MH → Prop} {Z : XP} (sl : w.length ≤ sizeLine) (good : numG w m → Q (.int (wv w)) h) (bad : ¬ numG w m → Z "NoRow" [("row", .int 1)] h) : (callB P dS_number_by [.str w, .int m] h).wp Q Z := by
  rw [wp_call]
  unfold dS_number_by
  have nr := RowPg.nr (P := P)
  by_cases e0 : (1 : Int) ≤ (w.length : Int)
  case neg =>
    have z0 := eq_false e0
    exists z0, sl, nr
    exact bad fun g => by have := g.1; omega
  have z0 := eq_true e0
  by_cases e3 : (w.length : Int) ≤ 10
  case neg =>
    have z3 := eq_false e3
    exists z0, z3, sl, nr
    exact bad fun g => by have := g.2.1; omega
  have z3 := eq_true e3
  have l0 : 0 < w.cps.toList.length := by rw [Array.length_toList]; show 0 < w.length; omega
  obtain ⟨c, hc⟩ : ∃ c, w.cps.toList[0]? = some c := ⟨_, List.getElem?_eq_getElem l0⟩
  have hc0 := at0.trans hc
  have s0 : Str.ofString "0" = ⟨#[48]⟩ := by decide +kernel
  have l640 : w.length ≤ 640 := by omega
  have fin : (¬ (c = 48 ∧ 1 < w.length)) → (forL (.nm 2) [] (evB P [.ite (.not (.chn .LtE .LtE (.con (.str (Str.ofString "0"))) (.var 2) (.con (.str (Str.ofString "9"))))) [.rai "NoRow" [.con (.int 1)]] []]) (w.cps.toList.map fun c => Val.str ⟨#[c]⟩) [some (.str w), some (.int m), none, none] h).wp
      { nx := fun ρ h => (evB P [.asg (.nm 3) (.bi .int [.var 0]), .ite (.cmp .Gt (.var 3) (.var 1)) [.rai "NoRow" [.con (.int 1)]] [], .ret (.var 3)] ρ h).wp { nx := fun _ h => Q .non h, bk := fun _ _ => False, ct := fun _ _ => False, rt := Q, er := fun c fs _ h => Z c fs h }, bk := fun _ _ => False, ct := fun _ _ => False, rt := Q, er := fun c fs _ h => Z c fs h } := by
    intro lead
    refine num_loop _ _ (fun f x => ?_) (fun f x => bad fun g => f g.2.2.2.1)
    have iv := wv_int (by omega) l640 f
    by_cases b : m < wv w
    · have zb := eq_true b
      exists iv, l640, zb, nr
      exact bad fun g => by have := g.2.2.2.2; omega
    · have zb := eq_false b
      exists iv, l640, zb, nr
      refine good ⟨by omega, by omega, fun ⟨q1, q2⟩ => lead ⟨?_, q2⟩, f, by omega⟩
      rw [hc] at q1; cases q1; rfl
  by_cases z : c = 48
  · have z1 := eq_true z
    by_cases o : 1 < w.length
    · have zo : ((1 : Int) < (w.length : Int)) = True := eq_true (by omega)
      exists z0, z3, sl, nr, hc0, s0, one_is, z1, zo
      exact bad fun g => g.2.2.1 ⟨by rw [hc, z], o⟩
    · have zo : ((1 : Int) < (w.length : Int)) = False := eq_false (by omega)
      exists z0, z3, sl, nr, hc0, s0, one_is, z1, zo
      exact fin fun q => o q.2
  · have z1 := eq_false z
    exists z0, z3, sl, nr, hc0, s0, one_is, z1
    exact fin fun q => z q.1
/-! numbers, written -/
noncomputable def Dn (n : Nat) : Str := Str.ofString (toString ((n : Nat) : Int))
theorem fold_lt : ∀ (cs : List Nat) (a : Nat), (∀ c ∈ cs, isF c) → cs.foldl (fun acc c => acc * 10 + (c - 48)) a < (a + 1) * 10 ^ cs.length
  | [], a, _ => by simp
  | c :: cs, a, h => by
    have ih := fold_lt cs (a * 10 + (c - 48)) fun d hd => h d (List.mem_cons_of_mem _ hd)
    have hc := h c List.mem_cons_self
    unfold isF at hc
    rw [List.length_cons, Nat.pow_succ]
    refine Nat.lt_of_lt_of_le ih ?_
    have : a * 10 + (c - 48) + 1 ≤ (a + 1) * 10 := by omega
    calc (a * 10 + (c - 48) + 1) * 10 ^ cs.length ≤ ((a + 1) * 10) * 10 ^ cs.length := Nat.mul_le_mul_right _ this
      _ = (a + 1) * (10 ^ cs.length * 10) := by rw [Nat.mul_assoc, Nat.mul_comm 10]
theorem dn_list {n : Nat} : (Dn n).cps.toList = (Nat.toDigits 10 n).map Char.toNat := W.KIN.signs_num n
theorem dn_F {n : Nat} : ∀ c ∈ (Dn n).cps.toList, isF c := by
  intro c hc
  rw [dn_list] at hc
  obtain ⟨ch, hch, e⟩ := List.mem_map.mp hc
  have r := PyProof.Rows.digit_range (Nat.isDigit_of_mem_toDigits (by decide) (by decide) hch)
  rw [← e]
  exact r
theorem dn_v {n : Nat} : wv (Dn n) = n := by
  unfold wv
  rw [dn_list, W.KIN.val_back]
theorem dn_size {n : Nat} : (Dn n).length = (Nat.toDigits 10 n).length := by
  show (Dn n).cps.size = _
  rw [← Array.length_toList, dn_list, List.length_map]
theorem dn_len {n k : Nat} (hk : 1 ≤ k) (hn : n < 10 ^ k) : (Dn n).length ≤ k := by
  rw [dn_size]; exact PyProof.Rows.digits10_le hk hn
theorem dn_pos {n : Nat} : 1 ≤ (Dn n).length := by
  rw [dn_size]; exact toDigits_len_ge 10 n
theorem dn_lead {n : Nat} : ¬ ((Dn n).cps.toList[0]? = some 48 ∧ 1 < (Dn n).length) := by
  rintro ⟨h1, h2⟩
  have f := dn_F (n := n)
  have v : NumText.digitsVal (Dn n).cps.toList = n := by rw [dn_list, W.KIN.val_back]
  have l : (Dn n).length = (Dn n).cps.toList.length := by rw [Array.length_toList]; rfl
  have sz := dn_size (n := n)
  cases e : (Dn n).cps.toList with
  | nil => rw [e] at h1; cases h1
  | cons c cs =>
    rw [e] at h1 v l f
    cases h1
    have v2 : NumText.digitsVal cs = n := v
    have b := fold_lt cs 0 fun d hd => f d (List.mem_cons_of_mem _ hd)
    have b2 : n < 10 ^ cs.length := by
      rw [← v2]
      have : (0 + 1) * 10 ^ cs.length = 10 ^ cs.length := by omega
      rw [← this]; exact b
    have := PyProof.Rows.digits10_le (by simp at l; omega) b2
    simp at l
    omega
theorem num_dn {n : Nat} {m : Int} (hn : n < 10 ^ 10) : numG (Dn n) m ↔ (n : Int) ≤ m := by
  unfold numG
  rw [dn_v]
  exact ⟨fun h => h.2.2.2.2, fun h => ⟨dn_pos, dn_len (by decide) hn, dn_lead, dn_F, h⟩⟩
theorem part_dn {n : Nat} (hn : n < 1000) : partG (Dn n) ↔ n ≤ 255 := by
  unfold partG
  rw [dn_v]
  have := dn_pos (n := n)
  exact ⟨fun h => by have := h.2.2.2.2; omega, fun h => ⟨by omega, dn_len (by decide) hn, dn_lead, dn_F, by omega⟩⟩
/-! addresses, written -/
theorem len_app {x y : Str} : (x ++ y).length = x.length + y.length := by
  rw [TL.len_tl, TL.len_tl, TL.len_tl, TL.tl_append, List.length_append]
theorem str_assoc {x y z : Str} : x ++ y ++ z = x ++ (y ++ z) := TL.ext_tl (by simp only [TL.tl_append, List.append_assoc])
noncomputable def Tx (a b c d : Str) : Str := a ++ Str.ofString "." ++ b ++ Str.ofString "." ++ c ++ Str.ofString "." ++ d
theorem join_tx {a b c d : Str} : Txt.join (Str.ofString ".") [a, b, c, d] = Tx a b c d := by
  rw [TL.join_eq]
  unfold Tx
  simp only [Str.join, str_assoc]
theorem dot_tl : TL.tl (Str.ofString ".") = [46] := by decide +kernel
theorem split_tx {a b c d : Str} (h : ∀ p ∈ [a, b, c, d], 46 ∉ TL.tl p) : Txt.split (Tx a b c d) (Str.ofString ".") = [a, b, c, d] := by
  rw [← join_tx]
  exact TL.split_join dot_tl (by decide +kernel) (by simp) h
end
/-! Mini: stretches and boxes -/
section
open PySem
open Classical
local macro_rules
  | `(tactic| subst_eqs) => do
    let xs := ("if_t".splitOn " ").toArray.map fun s => (⟨(Lean.mkIdent s.toName).raw⟩ : Lean.TSyntax `term)
    `(tactic| specialize [$xs,*])
local macro_rules
  | `(tactic| exists $ts,*) => do
    let xs := ("if_t".splitOn " ").toArray.map fun s => (⟨(Lean.mkIdent s.toName).raw⟩ : Lean.TSyntax `term)
    `(tactic| specialize [$(xs ++ ts.getElems),*])
/-- holds(stretch, number); names 0 stretch, 1 number -/
noncomputable def dS_holds : Df := { ps := [Str.ofString "stretch", Str.ofString "number"], np := 2, nn := 2, body :=
   [.ret (.chn .LtE .LtE (.idx (.var 0) (.con (.int 0))) (.var 1) (.idx (.var 0) (.con (.int 1))))] }
/-- meet(one, other); names 0 one, 1 other, 2 low, 3 high -/
noncomputable def dS_meet : Df := { ps := [Str.ofString "one", Str.ofString "other"], np := 2, nn := 4, body :=
   [.asg (.nm 2) (.bi .max [.idx (.var 0) (.con (.int 0)), .idx (.var 1) (.con (.int 0))]),
    .asg (.nm 3) (.bi .min [.idx (.var 0) (.con (.int 1)), .idx (.var 1) (.con (.int 1))]),
    .ite (.cmp .Gt (.var 2) (.var 3))
      [.ret (.con (.non))]
      [],
    .ret (.tup [.var 2, .var 3])] }
/-- width(stretch); names 0 stretch -/
noncomputable def dS_width : Df := { ps := [Str.ofString "stretch"], np := 1, nn := 1, body :=
   [.ret (.bin .Add (.bin .Sub (.idx (.var 0) (.con (.int 1))) (.idx (.var 0) (.con (.int 0)))) (.con (.int 1)))] }
/-- has(box, point); names 0 box, 1 point, 2 stretch, 3 number -/
noncomputable def dS_has : Df := { ps := [Str.ofString "box", Str.ofString "point"], np := 2, nn := 4, body :=
   [.forS (.tp [2, 3]) .zip [.var 0, .var 1]
      [.ite (.not (.call "holds" [.var 2, .var 3]))
         [.ret (.con (.bl false))]
         []],
    .ret (.con (.bl true))] }
/-- common(box, other); names 0 box, 1 other, 2 both, 3 mine, 4 its, 5 stretch -/
noncomputable def dS_common : Df := { ps := [Str.ofString "box", Str.ofString "other"], np := 2, nn := 6, body :=
   [.asg (.nm 2) (.lst []),
    .forS (.tp [3, 4]) .zip [.var 0, .var 1]
      [.asg (.nm 5) (.call "meet" [.var 3, .var 4]),
       .ite (.isN (.var 5))
         [.ret (.con (.non))]
         [],
       .exp (.mth .append (.var 2) [.var 5])],
    .ret (.bi .tuple [.var 2])] }
/-- within(box, other); names 0 box, 1 other -/
noncomputable def dS_within : Df := { ps := [Str.ofString "box", Str.ofString "other"], np := 2, nn := 2, body :=
   [.ret (.cmp .Eq (.call "common" [.var 0, .var 1]) (.var 0))] }
/-- count_of(box); names 0 box, 1 count, 2 stretch -/
noncomputable def dS_count_of : Df := { ps := [Str.ofString "box"], np := 1, nn := 3, body :=
   [.asg (.nm 1) (.con (.int 1)),
    .forS (.nm 2) .val [.var 0]
      [.asg (.nm 1) (.bin .Mult (.var 1) (.call "width" [.var 2]))],
    .ret (.var 1)] }
/-- corner(box); names 0 box, 1 stretch -/
noncomputable def dS_corner : Df := { ps := [Str.ofString "box"], np := 1, nn := 2, body :=
   [.ret (.bi .tuple [.cmp1 [1] (.idx (.var 1) (.con (.int 0))) (.nm 1) .val [.var 0] none])] }
/-- rests(box, other); names 0 box, 1 other, 2 both, 3 told, 4 k, 5 ahead, 6 behind -/
noncomputable def dS_rests : Df := { ps := [Str.ofString "box", Str.ofString "other"], np := 2, nn := 7, body :=
   [.asg (.nm 2) (.call "common" [.var 0, .var 1]),
    .ite (.isN (.var 2))
      [.ret (.lst [.var 0])]
      [],
    .asg (.nm 3) (.lst []),
    .forS (.nm 4) .rng [.bi .len [.var 0]]
      [.asg (.nm 5) (.slc (.var 2) none (some (.var 4))),
       .asg (.nm 6) (.slc (.var 0) (some (.bin .Add (.var 4) (.con (.int 1)))) none),
       .ite (.cmp .Lt (.idx (.idx (.var 0) (.var 4)) (.con (.int 0))) (.idx (.idx (.var 2) (.var 4)) (.con (.int 0))))
         [.exp (.mth .append (.var 3) [.bin .Add (.bin .Add (.var 5) (.tup [.tup [.idx (.idx (.var 0) (.var 4)) (.con (.int 0)), .bin .Sub (.idx (.idx (.var 2) (.var 4)) (.con (.int 0))) (.con (.int 1))]])) (.var 6)])]
         [],
       .ite (.cmp .Lt (.idx (.idx (.var 2) (.var 4)) (.con (.int 1))) (.idx (.idx (.var 0) (.var 4)) (.con (.int 1))))
         [.exp (.mth .append (.var 3) [.bin .Add (.bin .Add (.var 5) (.tup [.tup [.bin .Add (.idx (.idx (.var 2) (.var 4)) (.con (.int 1))) (.con (.int 1)), .idx (.idx (.var 0) (.var 4)) (.con (.int 1))]])) (.var 6)])]
         []],
    .ret (.var 3)] }
/-- left(box, others); names 0 box, 1 others, 2 told, 3 other, 4 kept, 5 one -/
noncomputable def dS_left : Df := { ps := [Str.ofString "box", Str.ofString "others"], np := 2, nn := 6, body :=
   [.asg (.nm 2) (.lst [.var 0]),
    .forS (.nm 3) .val [.var 1]
      [.asg (.nm 4) (.lst []),
       .forS (.nm 5) .val [.var 2]
         [.exp (.mth .extend (.var 4) [.call "rests" [.var 5, .var 3]])],
       .asg (.nm 2) (.var 4)],
    .ret (.var 2)] }
/-- fills(others, box); names 0 others, 1 box -/
noncomputable def dS_fills : Df := { ps := [Str.ofString "others", Str.ofString "box"], np := 2, nn := 2, body :=
   [.ret (.cmp .Eq (.call "left" [.var 1, .var 0]) (.lst []))] }

noncomputable abbrev Sg := Int × Int
noncomputable def stV (p : Sg) : Val := .tup [.int p.1, .int p.2]
noncomputable def bxV (b : List Sg) : Val := .tup (b.map stV)
noncomputable def pnV (b : List Int) : Val := .tup (b.map .int)
noncomputable def Sz (b : List Sg) : Prop := ∀ p ∈ b, -(2 ^ 1000) < p.2 - p.1 + 1 ∧ p.2 - p.1 + 1 < 2 ^ 1000
theorem stV_def {p : Sg} : stV p = .tup [.int p.1, .int p.2] := id rfl
section
variable {P : Pg} {h : MH} {Q : Val → MH → Prop} {Z : XP}
noncomputable def meetS (p q : Sg) : Option Sg := if min p.2 q.2 < max p.1 q.1 then none else some (max p.1 q.1, min p.2 q.2)
noncomputable def opV : Option Sg → Val
  | none => .non
  | some p => stV p
noncomputable def hasB (b : List Sg) (pt : List Int) : Bool := (b.zip pt).all fun x => decide (x.1.1 ≤ x.2 ∧ x.2 ≤ x.1.2)
noncomputable abbrev HoldsOk (P : Pg) : Prop := ∀ (p : Sg) (x : Int) (h : MH) (Q : Val → MH → Prop) (Z : XP), (P.cf "holds" [stV p, .int x] h).wp Q Z = Q (.bl (decide (p.1 ≤ x ∧ x ≤ p.2))) h
/-! what two boxes have in common -/
noncomputable def commonL : List (Sg × Sg) → Option (List Sg)
  | [] => some []
  | (p, q) :: r => match meetS p q, commonL r with
    | some m, some t => some (m :: t)
    | _, _ => none
noncomputable def commonB (b c : List Sg) : Option (List Sg) := commonL (b.zip c)
noncomputable def opB : Option (List Sg) → Val
  | none => .non
  | some b => bxV b
noncomputable abbrev MeetOk (P : Pg) : Prop := ∀ (p q : Sg) (h : MH) (Q : Val → MH → Prop) (Z : XP), (P.cf "meet" [stV p, stV q] h).wp Q Z = Q (opV (meetS p q)) h
theorem commonL_len : ∀ {l : List (Sg × Sg)} {t : List Sg}, commonL l = some t → t.length = l.length
  | [], _, e => by cases e; rfl
  | (p, q) :: r, t, e => by
    simp only [commonL] at e
    split at e
    · rename_i m t' _ e2
      cases e
      simp [commonL_len e2]
    · cases e
/-! how many points -/
noncomputable def countB (b : List Sg) : Int := b.foldl (fun n p => n * (p.2 - p.1 + 1)) 1
noncomputable abbrev WidthOk (P : Pg) : Prop := ∀ (p : Sg) (h : MH) (Q : Val → MH → Prop) (Z : XP), (P.cf "width" [stV p] h).wp Q Z = Q (.int (p.2 - p.1 + 1)) h
/-! a comprehension of pure parts -/
theorem bx_def {b : List Sg} : bxV b = .tup (b.map stV) := id rfl
noncomputable abbrev WholeOk (P : Pg) : Prop := ∀ (i : Int) (h : MH) (Q : Val → MH → Prop) (Z : XP), (P.cf "_law_whole" [.int i] h).wp Q Z = Q (.bl true) h
theorem commonB_of : ∀ {b c t : List Sg}, b.length = c.length → t.length = b.length → (∀ (j : Nat) p q m, b[j]? = some p → c[j]? = some q → t[j]? = some m → meetS p q = some m) → commonB b c = some t
  | [], [], [], _, _, _ => rfl
  | [], [], _ :: _, _, h, _ => by simp at h
  | [], _ :: _, _, h, _, _ => by simp at h
  | _ :: _, [], _, h, _, _ => by simp at h
  | _ :: _, _ :: _, [], _, h, _ => by simp at h
  | p :: b, q :: c, m :: t, h1, h2, h => by
    have h0 := h 0 p q m rfl rfl rfl
    have ih := commonB_of (b := b) (c := c) (t := t) (by simpa using h1) (by simpa using h2) fun j p q m a b c => h (j + 1) p q m (by simpa using a) (by simpa using b) (by simpa using c)
    unfold commonB at ih ⊢
    simp only [List.zip_cons_cons, commonL, h0, ih]
theorem commonB_none : ∀ {b c : List Sg} {j : Nat} {p q : Sg}, b[j]? = some p → c[j]? = some q → meetS p q = none → commonB b c = none
  | [], _, _, _, _, h, _, _ => by simp at h
  | _ :: _, [], _, _, _, _, h, _ => by simp at h
  | x :: b, y :: c, 0, p, q, h1, h2, h3 => by
    simp at h1 h2
    subst h1; subst h2
    unfold commonB
    simp only [List.zip_cons_cons, commonL, h3]
  | x :: b, y :: c, j + 1, p, q, h1, h2, h3 => by
    have ih := commonB_none (b := b) (c := c) (j := j) (by simpa using h1) (by simpa using h2) h3
    unfold commonB at ih ⊢
    simp only [List.zip_cons_cons, commonL, ih]
    split
    · rename_i e; cases e
    · rfl
theorem commonB_len {b c t : List Sg} (hl : b.length = c.length) (e : commonB b c = some t) : t.length = b.length := by
  rw [commonL_len e, List.length_zip, ← hl, Nat.min_self]
/-- v is a list of its own, with these items, laid behind n others -/
noncomputable def LstAt (h' : MH) (v : Val) (xs : List Val) (n : Nat) : Prop := ∃ a, v = .ref a ∧ h'[a]? = some (.lst true xs) ∧ n ≤ a
theorem LstAt.last {h : MH} {xs : List Val} {n : Nat} (hn : n ≤ h.length) : LstAt (h ++ [.lst true xs]) (.ref h.length) xs n := ⟨_, rfl, app_last, hn⟩
/-! what is left of a box beside another one -/
noncomputable def pcs (b m : List Sg) (k : Nat) : List (List Sg) := match b[k]?, m[k]? with
  | some p, some q => (if p.1 < q.1 then [m.take k ++ (p.1, q.1 - 1) :: b.drop (k + 1)] else []) ++ (if q.2 < p.2 then [m.take k ++ (q.2 + 1, p.2) :: b.drop (k + 1)] else [])
  | _, _ => []
noncomputable def restsM (b m : List Sg) (n : Nat) : List (List Sg) := (List.range n).flatMap (pcs b m)
theorem restsM_s {b m : List Sg} {n : Nat} : restsM b m (n + 1) = restsM b m n ++ pcs b m n := by
  unfold restsM
  rw [List.range_succ, List.flatMap_append]
  simp
noncomputable def restsB (b c : List Sg) : List (List Sg) := match commonB b c with
  | none => [b]
  | some m => restsM b m b.length
noncomputable def IRe (h1 : MH) (b c m : List Sg) (i : Nat) (ρ : Env') (h' : MH) : Prop := ∃ (x1 x2 x3 : Option Val), h' = h1 ++ [.lst true ((restsM b m i).map bxV)] ∧ ρ = [some (.tup (b.map stV)), some (.tup (c.map stV)), some (.tup (m.map stV)), some (.ref h1.length), x1, x2, x3]
theorem IRe.next {h1 : MH} {b c m : List Sg} {i : Nat} {x1 x2 x3 : Option Val} {l : List Val} (e : l = (pcs b m i).map bxV) :
    IRe h1 b c m (i + 1) [some (.tup (b.map stV)), some (.tup (c.map stV)), some (.tup (m.map stV)), some (.ref h1.length), x1, x2, x3] (h1 ++ [.lst true ((restsM b m i).map bxV ++ l)]) :=
  ⟨x1, x2, x3, by rw [restsM_s, List.map_append, e], rfl⟩
/-! what is left of a box beside a list of boxes -/
noncomputable def leftB (b : List Sg) (cs : List (List Sg)) : List (List Sg) := cs.foldl (fun told c => told.flatMap fun x => restsB x c) [b]
noncomputable abbrev RestsOk (P : Pg) : Prop := ∀ (b c : List Sg) (h : MH), c.length = b.length → b.length ≤ 1000 → (P.cf "rests" [bxV b, bxV c] h).wp (fun v h' => LstAt h' v ((restsB b c).map bxV) h.length ∧ Gr h h') NoE
noncomputable def IKp (h : MH) (b c : List Sg) (O tl K : Nat) (w : Bool) (cs cur : List (List Sg)) (j : Nat) (ρ : Env') (h' : MH) : Prop := ∃ (x5 : Option Val), ρ = [some (bxV b), some (.ref O), some (.ref tl), some (bxV c), some (.ref K), x5] ∧
  h'[O]? = some (.lst w (cs.map bxV)) ∧ h'[tl]? = some (.lst true (cur.map bxV)) ∧ h'[K]? = some (.lst true (((cur.take j).flatMap fun x => restsB x c).map bxV)) ∧ Up h.length h h'
noncomputable def ILf (h : MH) (b : List Sg) (O : Nat) (w : Bool) (cs : List (List Sg)) (i : Nat) (ρ : Env') (h' : MH) : Prop := ∃ (tl : Nat) (x3 x4 x5 : Option Val), ρ = [some (bxV b), some (.ref O), some (.ref tl), x3, x4, x5] ∧
  h'[O]? = some (.lst w (cs.map bxV)) ∧ h'[tl]? = some (.lst true ((leftB b (cs.take i)).map bxV)) ∧ Up h.length h h' ∧ h.length ≤ tl
end
end
/-! Mini: boxes followed along rows -/
section
open PySem
open Classical
local macro_rules
  | `(tactic| subst_eqs) => do
    let xs := ("if_t".splitOn " ").toArray.map fun s => (⟨(Lean.mkIdent s.toName).raw⟩ : Lean.TSyntax `term)
    `(tactic| specialize [$xs,*])
local macro_rules
  | `(tactic| exists $ts,*) => do
    let xs := ("if_t".splitOn " ").toArray.map fun s => (⟨(Lean.mkIdent s.toName).raw⟩ : Lean.TSyntax `term)
    `(tactic| specialize [$(xs ++ ts.getElems),*])
/-- looked(rows, default, box); names 0 rows, 1 default, 2 box, 3 told, 4 todo, 5 here, 6 at, 7 way, 8 row, 9 one, 10 both -/
noncomputable def dS_looked : Df := { ps := [Str.ofString "rows", Str.ofString "default", Str.ofString "box"], np := 3, nn := 11, body :=
   [.asg (.nm 3) (.lst []),
    .asg (.nm 4) (.lst [.tup [.var 2, .con (.int 0), .lst []]]),
    .whl (.cmp .Gt (.bi .len [.var 4]) (.con (.int 0)))
      [.asg (.tp [5, 6, 7]) (.mth .pop (.var 4) []),
       .ite (.isi (.var 6) "str")
         [.exp (.mth .append (.var 3) [.tup [.var 5, .var 7, .var 6]]),
          .cnt]
         [],
       .ite (.cmp .Eq (.var 6) (.bi .len [.var 0]))
         [.exp (.mth .append (.var 3) [.tup [.var 5, .var 7, .var 1]]),
          .cnt]
         [],
       .asg (.nm 8) (.idx (.var 0) (.var 6)),
       .forS (.nm 9) .rev [.call "rests" [.var 5, .idx (.var 8) (.con (.int 2))]]
         [.exp (.mth .append (.var 4) [.tup [.var 9, .idx (.var 8) (.con (.int 4)), .bin .Add (.var 7) (.lst [.tup [.var 6, .con (.bl false)]])]])],
       .asg (.nm 10) (.call "common" [.var 5, .idx (.var 8) (.con (.int 2))]),
       .ite (.notN (.var 10))
         [.exp (.mth .append (.var 4) [.tup [.var 10, .idx (.var 8) (.con (.int 3)), .bin .Add (.var 7) (.lst [.tup [.var 6, .con (.bl true)]])]])]
         []],
    .ret (.var 3)] }

inductive F2 {α β : Type} (R : α → β → Prop) : List α → List β → Prop
  | nil : F2 R [] []
  | cons {a : α} {b : β} {l : List α} {r : List β} : R a b → F2 R l r → F2 R (a :: l) (b :: r)
section
variable {α β : Type} {R R' : α → β → Prop}
theorem F2.imp (k : ∀ a b, R a b → R' a b) : ∀ {l : List α} {r : List β}, F2 R l r → F2 R' l r
  | _, _, .nil => .nil
  | _, _, .cons h t => .cons (k _ _ h) (t.imp k)
theorem F2.app : ∀ {l l2 : List α} {r r2 : List β}, F2 R l r → F2 R l2 r2 → F2 R (l ++ l2) (r ++ r2)
  | _, _, _, _, .nil, q => q
  | _, _, _, _, .cons h t, q => .cons h (t.app q)
theorem F2.snoc {l : List α} {r : List β} {a : α} {b : β} (h : F2 R l r) (x : R a b) : F2 R (l ++ [a]) (r ++ [b]) := h.app (.cons x .nil)
theorem F2.len : ∀ {l : List α} {r : List β}, F2 R l r → l.length = r.length
  | _, _, .nil => rfl
  | _, _, .cons _ t => by simp [t.len]
end
noncomputable abbrev Pl := Sum Int Str
noncomputable def atV : Pl → Val
  | .inl n => .int n
  | .inr s => .str s
structure Rw where
  nm : Str
  ix : Int
  bx : List Sg
  yes : Pl
  no : Pl
noncomputable def rwV (r : Rw) : Val := .tup [.str r.nm, .int r.ix, bxV r.bx, atV r.yes, atV r.no]
noncomputable abbrev Wy := List (Int × Bool)
noncomputable def stpV (p : Int × Bool) : Val := .tup [.int p.1, .bl p.2]
structure En where
  f : Nat
  b : List Sg
  p : Pl
  w : Wy
noncomputable abbrev Res3 := List Sg × Wy × Str
noncomputable def look (rows : List Rw) (dflt : Str) : Nat → List Sg → Pl → Wy → List Res3
  | 0, _, _, _ => []
  | _ + 1, b, .inr s, w => [(b, w, s)]
  | f + 1, b, .inl n, w => if n = rows.length then [(b, w, dflt)] else match rows[n.toNat]? with
    | none => []
    | some r => (match commonB b r.bx with
      | none => []
      | some m => look rows dflt f m r.yes (w ++ [(n, true)])) ++ (restsB b r.bx).flatMap fun x => look rows dflt f x r.no (w ++ [(n, false)])
noncomputable def looks (rows : List Rw) : Nat → List Sg → Pl → Nat
  | 0, _, _ => 1
  | _ + 1, _, .inr _ => 1
  | f + 1, b, .inl n => if n = rows.length then 1 else match rows[n.toNat]? with
    | none => 1
    | some r => 1 + (match commonB b r.bx with
      | none => 0
      | some m => looks rows f m r.yes) + ((restsB b r.bx).map fun x => looks rows f x r.no).sum
/-- where it goes on, there are rows -/
noncomputable def lookOk (rows : List Rw) : Nat → List Sg → Pl → Prop
  | 0, _, _ => False
  | _ + 1, _, .inr _ => True
  | f + 1, b, .inl n => n = rows.length ∨ ∃ (k : Nat) (r : Rw), n = k ∧ rows[k]? = some r ∧ r.bx.length = b.length ∧ b.length ≤ 1000 ∧ (∀ m, commonB b r.bx = some m → lookOk rows f m r.yes) ∧ ∀ x ∈ restsB b r.bx, lookOk rows f x r.no
section
variable {n0 A B : Nat}
noncomputable def EnR (n0 A B : Nat) (h : MH) (v : Val) (e : En) : Prop := ∃ W, v = .tup [bxV e.b, atV e.p, .ref W] ∧ h[W]? = some (.lst true (e.w.map stpV)) ∧ W ≠ A ∧ W ≠ B ∧ n0 ≤ W
noncomputable def RsR (n0 A B : Nat) (h : MH) (v : Val) (r : Res3) : Prop := ∃ W, v = .tup [bxV r.1, .ref W, .str r.2.2] ∧ h[W]? = some (.lst true (r.2.1.map stpV)) ∧ W ≠ A ∧ W ≠ B ∧ n0 ≤ W
theorem EnR.gr {h h2 : MH} (g : Gr h h2) {v : Val} {e : En} : EnR n0 A B h v e → EnR n0 A B h2 v e := fun ⟨W, a, b, c⟩ => ⟨W, a, g.get b, c⟩
theorem RsR.gr {h h2 : MH} (g : Gr h h2) {v : Val} {e : Res3} : RsR n0 A B h v e → RsR n0 A B h2 v e := fun ⟨W, a, b, c⟩ => ⟨W, a, g.get b, c⟩
theorem EnR.setA {h : MH} {o : Ob} {v : Val} {e : En} : EnR n0 A B h v e → EnR n0 A B (h.set A o) v e := fun ⟨W, a, b, c, d⟩ => ⟨W, a, (set_ne c).trans b, c, d⟩
theorem RsR.setA {h : MH} {o : Ob} {v : Val} {e : Res3} : RsR n0 A B h v e → RsR n0 A B (h.set A o) v e := fun ⟨W, a, b, c, d⟩ => ⟨W, a, (set_ne c).trans b, c, d⟩
/-- the place of the way in an entry -/
noncomputable def wOf : Val → Nat
  | .tup [_, .ref W, _] => W
  | .tup [_, _, .ref W] => W
  | _ => 0
theorem wOf_en {b : List Sg} {p : Pl} {W : Nat} : wOf (.tup [bxV b, atV p, .ref W]) = W := by cases p <;> rfl
theorem wOf_rs {b : List Sg} {s : Str} {W : Nat} : wOf (.tup [bxV b, .ref W, .str s]) = W := rfl
theorem F2.mem {α β : Type} {R : α → β → Prop} : ∀ {l : List α} {r : List β}, F2 R l r → ∀ a ∈ l, ∃ b, b ∈ r ∧ R a b
  | _, _, .nil, a, h => by cases h
  | _, _, .cons x t, a, h => by
    rcases List.mem_cons.mp h with rfl | z
    · exact ⟨_, List.mem_cons_self .., x⟩
    · obtain ⟨b, m, y⟩ := t.mem a z
      exact ⟨b, List.mem_cons_of_mem _ m, y⟩
structure LkS (h0 : MH) (R A B : Nat) (wr : Bool) (rows : List Rw) (h : MH) (vs ts : List Val) (st : List En) (tl : List Res3) : Prop where
  r : h[R]? = some (.lst wr (rows.map rwV))
  a : h[A]? = some (.lst true vs)
  b : h[B]? = some (.lst true ts)
  e : F2 (EnR h0.length A B h) vs st
  t : F2 (RsR h0.length A B h) ts tl
  up : Up h0.length h0 h
  rn : R < h0.length
  an : h0.length ≤ A
  bn : h0.length ≤ B
  ab : A ≠ B
  nd : ((vs ++ ts).map wOf).Nodup
variable {h0 h h2 : MH} {R : Nat} {wr : Bool} {rows : List Rw} {vs ts : List Val} {st : List En} {tl : List Res3}
theorem LkS.gr (S : LkS h0 R A B wr rows h vs ts st tl) (g : Gr h h2) : LkS h0 R A B wr rows h2 vs ts st tl :=
  ⟨g.get S.r, g.get S.a, g.get S.b, S.e.imp fun _ _ => EnR.gr g, S.t.imp fun _ _ => RsR.gr g, S.up.gr g, S.rn, S.an, S.bn, S.ab, S.nd⟩
theorem LkS.setA (S : LkS h0 R A B wr rows h vs ts st tl) {vs2 : List Val} {st2 : List En} (e : F2 (EnR h0.length A B h) vs2 st2) (nd : ((vs2 ++ ts).map wOf).Nodup) : LkS h0 R A B wr rows (h.set A (.lst true vs2)) vs2 ts st2 tl :=
  ⟨(set_ne (by have := S.rn; have := S.an; omega)).trans S.r, set_get S.a, (set_ne (Ne.symm S.ab)).trans S.b, e.imp fun _ _ => EnR.setA, S.t.imp fun _ _ => RsR.setA, S.up.set S.an, S.rn, S.an, S.bn, S.ab, nd⟩
/-- a way, one step longer, is laid; an entry with it is pushed -/
theorem LkS.push (S : LkS h0 R A B wr rows h vs ts st tl) {w : Wy} {f : Nat} {x : List Sg} {p : Pl} {n : Int} {c : Bool} {o1 : Ob} :
    LkS h0 R A B wr rows (((h.set A (.lst true (vs ++ [.tup [bxV x, atV p, .ref (h ++ [o1]).length]]))) ++ [o1]) ++ [.lst true (w.map stpV ++ [.tup [.int n, .bl c]])]) (vs ++ [.tup [bxV x, atV p, .ref (h ++ [o1]).length]]) ts (st ++ [⟨f, x, p, w ++ [(n, c)]⟩]) tl := by
  have g := (S.gr (Gr.app (g := [o1]))).gr (Gr.app (g := [.lst true (w.map stpV ++ [.tup [.int n, .bl c]])]))
  have a1 := lt_of S.a
  have b1 := lt_of S.b
  have u := S.up.1
  have en : EnR h0.length A B (h ++ [o1] ++ [.lst true (w.map stpV ++ [.tup [.int n, .bl c]])]) (.tup [bxV x, atV p, .ref (h ++ [o1]).length]) ⟨f, x, p, w ++ [(n, c)]⟩ := by
    refine ⟨(h ++ [o1]).length, rfl, ?_, ?_, ?_, ?_⟩
    · rw [app_last]; simp [stpV]
    all_goals (simp; omega)
  have z := g.setA (g.e.snoc en) (by
    have lt : ∀ x ∈ (vs ++ ts).map wOf, x < h.length := fun x hx => by
      obtain ⟨v, hv, rfl⟩ := List.mem_map.mp hx
      rcases List.mem_append.mp hv with q | q
      · obtain ⟨_, _, W, rfl, hW, _⟩ := S.e.mem v q
        rw [wOf_en]; exact lt_of hW
      · obtain ⟨_, _, W, rfl, hW, _⟩ := S.t.mem v q
        rw [wOf_rs]; exact lt_of hW
    have pm : (vs ++ [Val.tup [bxV x, atV p, .ref (h ++ [o1]).length]] ++ ts).map wOf = vs.map wOf ++ [(h ++ [o1]).length] ++ ts.map wOf := by
      rw [List.map_append, List.map_append, List.map_singleton, wOf_en]
    rw [pm]
    have pr : (vs.map wOf ++ [(h ++ [o1]).length] ++ ts.map wOf).Perm ((h ++ [o1]).length :: (vs.map wOf ++ ts.map wOf)) := by
      rw [List.append_assoc]; exact List.perm_middle
    refine pr.nodup_iff.mpr (List.nodup_cons.mpr ⟨fun m => ?_, by rw [← List.map_append]; exact S.nd⟩)
    have := lt _ (by rw [List.map_append]; exact m)
    simp at this; omega)
  rw [set_app (by simp; omega), set_app a1] at z
  exact z
noncomputable abbrev CommonOk (P : Pg) : Prop := ∀ (b c : List Sg) (h : MH), b.length ≤ 2000 → (P.cf "common" [bxV b, bxV c] h).wp (fun v h' => v = opB (commonB b c) ∧ Gr h h') NoE
noncomputable def enS (rows : List Rw) (e : En) : Nat := looks rows e.f e.b e.p
noncomputable def enL (rows : List Rw) (dflt : Str) (e : En) : List Res3 := look rows dflt e.f e.b e.p e.w
noncomputable def ILo (h0 : MH) (R A B : Nat) (wr : Bool) (rows : List Rw) (dflt : Str) (b0 : List Sg) (f0 : Nat) (total : List Res3) (m : Nat) (ρ : Env') (h' : MH) : Prop :=
  ∃ (vs ts : List Val) (st : List En) (tl : List Res3) (x5 x6 x7 x8 x9 x10 : Option Val), ρ = [some (.ref R), some (.str dflt), some (bxV b0), some (.ref B), some (.ref A), x5, x6, x7, x8, x9, x10] ∧
    LkS h0 R A B wr rows h' vs ts st tl ∧ (∀ e ∈ st, lookOk rows e.f e.b e.p ∧ e.w.length + e.f ≤ f0) ∧ m = (st.map (enS rows)).sum ∧ tl.length + m ≤ 1000000 ∧ tl ++ st.reverse.flatMap (enL rows dflt) = total
noncomputable def IPu (h0 : MH) (R A B : Nat) (wr : Bool) (rows : List Rw) (dflt : Str) (b0 b : List Sg) (r : Rw) (n : Int) (w : Wy) (f W a : Nat) (ts : List Val) (st : List En) (tl : List Res3) (i : Nat) (ρ : Env') (h' : MH) : Prop :=
  ∃ (vs : List Val) (x9 x10 : Option Val), ρ = [some (.ref R), some (.str dflt), some (bxV b0), some (.ref B), some (.ref A), some (bxV b), some (.int n), some (.ref W), some (rwV r), x9, x10] ∧
    LkS h0 R A B wr rows h' vs ts (st ++ ((restsB b r.bx).reverse.take i).map fun x => ⟨f, x, r.no, w ++ [(n, false)]⟩) tl ∧ h'[W]? = some (.lst true (w.map stpV)) ∧ h'[a]? = some (.lst true ((restsB b r.bx).map bxV))
theorem look_row {rows : List Rw} {dflt : Str} {f k : Nat} {b : List Sg} {w : Wy} {r : Rw} (en : ¬ (k : Int) = (rows.length : Int)) (hk : rows[k]? = some r) : look rows dflt (f + 1) b (.inl (k : Int)) w = (match commonB b r.bx with
    | none => []
    | some m => look rows dflt f m r.yes (w ++ [((k : Int), true)])) ++ (restsB b r.bx).flatMap fun x => look rows dflt f x r.no (w ++ [((k : Int), false)]) := by
  simp only [look, Int.toNat_natCast, hk]
  rw [if_neg en]
/-- the list that looked tells, and no two of the ways are one list -/
noncomputable def LookedN (h h' : MH) (v : Val) (l : List Res3) : Prop := ∃ (B A : Nat) (ts : List Val), v = .ref B ∧ h'[B]? = some (.lst true ts) ∧ F2 (RsR h.length A B h') ts l ∧ h.length ≤ B ∧ Up h.length h h' ∧ (ts.map wOf).Nodup
/-- the list that looked tells: its entries, each with a way of its own -/
noncomputable def LookedR (h h' : MH) (v : Val) (l : List Res3) : Prop := ∃ (B A : Nat) (ts : List Val), v = .ref B ∧ h'[B]? = some (.lst true ts) ∧ F2 (RsR h.length A B h') ts l ∧ h.length ≤ B ∧ Up h.length h h'
/-! == of such lists -/
noncomputable def sgD (p : Sg) : PyData := .tuple [.int p.1, .int p.2]
noncomputable def bxD (b : List Sg) : PyData := .tuple (b.map sgD)
noncomputable def stD (p : Int × Bool) : PyData := .tuple [.int p.1, .bool p.2]
noncomputable def rsD (r : Res3) : PyData := .tuple [bxD r.1, .list (r.2.1.map stD), .str r.2.2]
theorem RsR.up {h h2 : MH} {n0 A B : Nat} (u : Up h.length h h2) {v : Val} {r : Res3} : RsR n0 A B h v r → RsR n0 A B h2 v r := fun ⟨W, a, b, c⟩ => ⟨W, a, u.get (lt_of b) b, c⟩
end
end
/-! Mini: boxes point by point; how many points -/
section
open PySem
open Classical
noncomputable def restsR : List Sg → List Sg → List (List Sg)
  | p :: b, q :: m => ((if p.1 < q.1 then [(p.1, q.1 - 1) :: b] else []) ++ (if q.2 < p.2 then [(q.2 + 1, p.2) :: b] else [])) ++ (restsR b m).map (q :: ·)
  | _, _ => []
noncomputable def Inn : List Sg → List Sg → Prop
  | p :: b, q :: m => (p.1 ≤ q.1 ∧ q.1 ≤ q.2 ∧ q.2 ≤ p.2) ∧ Inn b m
  | [], [] => True
  | _, _ => False
noncomputable def hits (l : List (List Sg)) (pt : List Int) : Nat := l.countP fun x => hasB x pt
noncomputable def VB (b : List Sg) : Prop := ∀ p ∈ b, p.1 ≤ p.2
/-! how many points -/
noncomputable def volB : List Sg → Int
  | [] => 1
  | p :: b => (p.2 - p.1 + 1) * volB b
noncomputable def sumZ (L : Int) (f : Int → Int) : Nat → Int
  | 0 => 0
  | n + 1 => sumZ L f n + f (L + n)
noncomputable def ind (p : Sg) (t : Int) : Int := if p.1 ≤ t ∧ t ≤ p.2 then 1 else 0
noncomputable def tot (l : List (List Sg)) : Int := (l.map volB).sum
/-- what stands above t -/
noncomputable def slice1 (t : Int) : List (List Sg) → List (List Sg)
  | [] => []
  | [] :: l => slice1 t l
  | (p :: b) :: l => if p.1 ≤ t ∧ t ≤ p.2 then b :: slice1 t l else slice1 t l
end
/-! Mini: books that laws draw -/
section
open PySem
open Classical
local macro_rules
  | `(tactic| subst_eqs) => do
    let xs := ("if_t".splitOn " ").toArray.map fun s => (⟨(Lean.mkIdent s.toName).raw⟩ : Lean.TSyntax `term)
    `(tactic| specialize [$xs,*])
local macro_rules
  | `(tactic| exists $ts,*) => do
    let xs := ("if_t".splitOn " ").toArray.map fun s => (⟨(Lean.mkIdent s.toName).raw⟩ : Lean.TSyntax `term)
    `(tactic| specialize [$(xs ++ ts.getElems),*])
/-- _law_top(_law_d); names 0 _law_d -/
noncomputable def dS_law_top : Df := { ps := [Str.ofString "_law_d"], np := 1, nn := 1, body :=
   [.ret (.idx (.lst [.con (.int 3), .con (.int 255), .con (.int 4294967295), .con (.int 65535), .con (.int 4294967295), .con (.int 65535)]) (.var 0))] }
/-- _law_marks(_law_script); names 0 _law_script, 1 _law_d -/
noncomputable def dS_law_marks : Df := { ps := [Str.ofString "_law_script"], np := 1, nn := 2, body :=
   [.ret (.cmp1 [1] (.bin .Mod (.call "_law_cell_at" [.var 0, .bin .Add (.con (.int 1)) (.var 1)]) (.bin .Add (.call "_law_top" [.var 1]) (.con (.int 1)))) (.nm 1) .rng [.con (.int 6)] none)] }
/-- _law_stretch(_law_mark, _law_top_here, _law_cell); names 0 _law_mark, 1 _law_top_here, 2 _law_cell, 3 _law_way, 4 _law_one, 5 _law_two -/
noncomputable def dS_law_stretch : Df := { ps := [Str.ofString "_law_mark", Str.ofString "_law_top_here", Str.ofString "_law_cell"], np := 3, nn := 6, body :=
   [.asg (.nm 3) (.bin .Mod (.var 2) (.con (.int 7))),
    .ite (.cmp .Eq (.var 3) (.con (.int 0)))
      [.ret (.tup [.con (.int 0), .var 0])]
      [],
    .ite (.cmp .Eq (.var 3) (.con (.int 1)))
      [.ret (.tup [.var 0, .var 1])]
      [],
    .ite (.cmp .Eq (.var 3) (.con (.int 2)))
      [.ret (.tup [.var 0, .var 0])]
      [],
    .ite (.cmp .Eq (.var 3) (.con (.int 3)))
      [.ret (.tup [.bi .min [.bin .Add (.var 0) (.con (.int 1)), .var 1], .var 1])]
      [],
    .ite (.cmp .Eq (.var 3) (.con (.int 4)))
      [.ret (.tup [.con (.int 0), .bi .max [.bin .Sub (.var 0) (.con (.int 1)), .con (.int 0)]])]
      [],
    .asg (.nm 4) (.bin .Mod (.bin .FloorDiv (.var 2) (.con (.int 7))) (.bin .Add (.var 1) (.con (.int 1)))),
    .ite (.cmp .Eq (.var 3) (.con (.int 5)))
      [.ret (.tup [.bi .min [.var 4, .var 0], .bi .max [.var 4, .var 0]])]
      [],
    .asg (.nm 5) (.bin .Mod (.bin .Mod (.bin .Mult (.bin .Mod (.var 2) (.con (.int 2147483647))) (.con (.int 48271))) (.con (.int 2147483647))) (.bin .Add (.var 1) (.con (.int 1)))),
    .ret (.tup [.bi .min [.var 4, .var 5], .bi .max [.var 4, .var 5]])] }
/-- _law_box(_law_marks_here, _law_cell, _law_wish); names 0 _law_marks_here, 1 _law_cell, 2 _law_wish, 3 _law_box_here, 4 _law_at, 5 _law_k, 6 _law_d -/
noncomputable def dS_law_box : Df := { ps := [Str.ofString "_law_marks_here", Str.ofString "_law_cell", Str.ofString "_law_wish"], np := 3, nn := 7, body :=
   [.asg (.nm 3) (.cmp1 [6] (.tup [.con (.int 0), .call "_law_top" [.var 6]]) (.nm 6) .rng [.con (.int 6)] none),
    .asg (.nm 4) (.bin .Mod (.var 1) (.con (.int 6))),
    .forS (.nm 5) .rng [.var 2]
      [.sub (.var 3) (.var 4) (.call "_law_stretch" [.idx (.var 0) (.var 4), .call "_law_top" [.var 4], .bin .FloorDiv (.bin .Mod (.bin .FloorDiv (.var 1) (.con (.int 30))) (.bin .Pow (.con (.int 10)) (.con (.int 30)))) (.bin .Add (.con (.int 1)) (.bin .Mult (.con (.int 13)) (.var 5)))]),
       .asg (.nm 4) (.bin .Mod (.bin .Add (.bin .Add (.var 4) (.con (.int 1))) (.bin .Mod (.bin .FloorDiv (.var 1) (.con (.int 6))) (.con (.int 5)))) (.con (.int 6)))],
    .ret (.bi .tuple [.var 3])] }
/-- _law_boxes(_law_script, _law_marks_here, _law_many); names 0 _law_script, 1 _law_marks_here, 2 _law_many, 3 _law_boxes_here, 4 _law_pieces, 5 _law_k, 6 _law_at, 7 _law_cell, 8 _law_wish -/
noncomputable def dS_law_boxes : Df := { ps := [Str.ofString "_law_script", Str.ofString "_law_marks_here", Str.ofString "_law_many"], np := 3, nn := 9, body :=
   [.asg (.nm 3) (.bin .Mult (.lst [.con (.non)]) (.var 2)),
    .asg (.nm 4) (.con (.int 1)),
    .forS (.nm 5) .rng [.var 2]
      [.asg (.nm 6) (.bin .Mod (.bin .Add (.bin .FloorDiv (.call "_law_cell_at" [.var 0, .con (.int 0)]) (.con (.int 90))) (.var 5)) (.var 2)),
       .asg (.nm 7) (.call "_law_cell_at" [.var 0, .bin .Add (.con (.int 8)) (.bin .Mult (.con (.int 2)) (.var 6))]),
       .asg (.nm 8) (.idx (.lst [.con (.int 0), .con (.int 1), .con (.int 1), .con (.int 2)]) (.bin .Mod (.var 7) (.con (.int 4)))),
       .ite (.cmp .Gt (.bin .Mult (.var 4) (.bin .Add (.con (.int 1)) (.bin .Mult (.con (.int 2)) (.var 8)))) (.con (.int 45)))
         [.asg (.nm 8) (.con (.int 0))]
         [],
       .asg (.nm 4) (.bin .Mult (.var 4) (.bin .Add (.con (.int 1)) (.bin .Mult (.con (.int 2)) (.var 8)))),
       .sub (.var 3) (.var 6) (.call "_law_box" [.var 1, .bin .FloorDiv (.var 7) (.con (.int 4)), .var 8])],
    .ret (.var 3)] }
/-- _law_name(_law_cell, _law_k); names 0 _law_cell, 1 _law_k, 2 _law_many, 3 _law_at -/
noncomputable def dS_law_name : Df := { ps := [Str.ofString "_law_cell", Str.ofString "_law_k"], np := 2, nn := 4, body :=
   [.asg (.nm 2) (.bin .Add (.con (.int 1)) (.bin .Mod (.var 0) (.con (.int 12)))),
    .asg (.nm 3) (.bin .Mod (.bin .FloorDiv (.var 0) (.con (.int 12))) (.var 2)),
    .ret (.bin .Add (.bin .Add (.bin .Mult (.con (.str (Str.ofString "q"))) (.var 3)) (.idx (.con (.str (Str.ofString "abcdefghijklmnop"))) (.bin .Add (.bin .Mod (.bin .FloorDiv (.var 0) (.con (.int 144))) (.con (.int 8))) (.bin .Mult (.con (.int 8)) (.var 1))))) (.bin .Mult (.con (.str (Str.ofString "q"))) (.bin .Sub (.bin .Sub (.var 2) (.con (.int 1))) (.var 3))))] }
/-- _law_rule(_law_cell, _law_level, _law_box_here, _law_names, _law_calls); names 0 _law_cell, 1 _law_level, 2 _law_box_here, 3 _law_names, 4 _law_calls, 5 _law_way -/
noncomputable def dS_law_rule : Df := { ps := [Str.ofString "_law_cell", Str.ofString "_law_level", Str.ofString "_law_box_here", Str.ofString "_law_names", Str.ofString "_law_calls"], np := 5, nn := 6, body :=
   [.asg (.nm 5) (.bin .Mod (.var 0) (.con (.int 8))),
    .ite (.cmp .Eq (.var 5) (.con (.int 4)))
      [.ret (.tup [.con (.str (Str.ofString "back")), .var 2])]
      [],
    .ite (.and (.cmp .Gt (.var 5) (.con (.int 4))) (.and (.cmp .Lt (.var 1) (.con (.int 2))) (.cmp .Lt (.var 4) (.con (.int 2)))))
      [.ret (.tup [.con (.str (Str.ofString "call")), .var 2, .idx (.var 3) (.bi .max [.bin .Add (.var 1) (.con (.int 1)), .bin .Add (.con (.int 1)) (.bin .Mod (.bin .FloorDiv (.var 0) (.con (.int 8))) (.con (.int 2)))])])]
      [],
    .ret (.tup [.idx (.lst [.con (.str (Str.ofString "pass")), .con (.str (Str.ofString "stop"))]) (.bin .Mod (.var 5) (.con (.int 2))), .var 2])] }
/-- _law_chains(_law_script); names 0 _law_script, 1 _law_shape, 2 _law_sizes, 3 _law_boxes_here, 4 _law_names, 5 _law_chains_here, 6 _law_at, 7 _law_level, 8 _law_rules, 9 _law_calls, 10 _law_k -/
noncomputable def dS_law_chains : Df := { ps := [Str.ofString "_law_script"], np := 1, nn := 11, body :=
   [.asg (.nm 1) (.bin .FloorDiv (.call "_law_cell_at" [.var 0, .con (.int 0)]) (.con (.int 2))),
    .asg (.nm 2) (.lst [.bin .Mod (.var 1) (.con (.int 5)), .bin .Mod (.bin .FloorDiv (.var 1) (.con (.int 5))) (.con (.int 3)), .bin .Mod (.bin .FloorDiv (.var 1) (.con (.int 15))) (.con (.int 3))]),
    .asg (.nm 3) (.call "_law_boxes" [.var 0, .call "_law_marks" [.var 0], .bi .sum [.var 2]]),
    .asg (.nm 4) (.lst [.con (.str (Str.ofString "main")), .call "_law_name" [.call "_law_cell_at" [.var 0, .con (.int 7)], .con (.int 0)], .call "_law_name" [.call "_law_cell_at" [.var 0, .con (.int 7)], .con (.int 1)]]),
    .asg (.nm 5) (.lst []),
    .asg (.nm 6) (.con (.int 0)),
    .forS (.nm 7) .rng [.con (.int 3)]
      [.asg (.nm 8) (.lst []),
       .asg (.nm 9) (.con (.int 0)),
       .forS (.nm 10) .rng [.idx (.var 2) (.var 7)]
         [.exp (.mth .append (.var 8) [.call "_law_rule" [.call "_law_cell_at" [.var 0, .bin .Add (.con (.int 9)) (.bin .Mult (.con (.int 2)) (.var 6))], .var 7, .idx (.var 3) (.var 6), .var 4, .var 9]]),
          .asg (.nm 9) (.bin .Add (.var 9) (.bi .int [.cmp .Eq (.idx (.idx (.var 8) (.neg (.con (.int 1)))) (.con (.int 0))) (.con (.str (Str.ofString "call")))])),
          .asg (.nm 6) (.bin .Add (.var 6) (.con (.int 1)))],
       .exp (.mth .append (.var 5) [.tup [.idx (.var 4) (.var 7), .var 8]])],
    .ite (.cmp .Eq (.bin .Mod (.bin .FloorDiv (.call "_law_cell_at" [.var 0, .con (.int 7)]) (.con (.int 1152))) (.con (.int 2))) (.con (.int 1)))
      [.ret (.lst [.idx (.var 5) (.con (.int 0)), .idx (.var 5) (.con (.int 2)), .idx (.var 5) (.con (.int 1))])]
      [],
    .ret (.var 5)] }
/-- _law_length(_law_chains_here, _law_name_here); names 0 _law_chains_here, 1 _law_name_here, 2 _law_count, 3 _law_its_name, 4 _law_rules, 5 _law_rule_here -/
noncomputable def dS_law_length : Df := { ps := [Str.ofString "_law_chains_here", Str.ofString "_law_name_here"], np := 2, nn := 6, body :=
   [.asg (.nm 2) (.con (.int 0)),
    .forS (.tp [3, 4]) .val [.var 0]
      [.ite (.cmp .Eq (.var 3) (.var 1))
         [.forS (.nm 5) .val [.var 4]
            [.asg (.nm 2) (.bin .Add (.var 2) (.con (.int 1))),
             .ite (.cmp .Eq (.idx (.var 5) (.con (.int 0))) (.con (.str (Str.ofString "call"))))
               [.asg (.nm 2) (.bin .Add (.var 2) (.call "_law_length" [.var 0, .idx (.var 5) (.con (.int 2))]))]
               []]]
         []],
    .ret (.var 2)] }
/-- _law_rows(_law_chains_here, _law_level, _law_start); names 0 _law_chains_here, 1 _law_level, 2 _law_start, 3 _law_name_here, 4 _law_end, 5 _law_names, 6 _law_rows_here, 7 _law_index, 8 _law_rule_here, 9 _law_at, 10 _law_more, 11 _law_yes, 12 _law_chain -/
noncomputable def dS_law_rows : Df := { ps := [Str.ofString "_law_chains_here", Str.ofString "_law_level", Str.ofString "_law_start"], np := 3, nn := 13, body :=
   [.asg (.nm 3) (.idx (.idx (.var 0) (.var 1)) (.con (.int 0))),
    .asg (.nm 4) (.bin .Add (.var 2) (.call "_law_length" [.var 0, .var 3])),
    .asg (.nm 5) (.cmp1 [12] (.idx (.var 12) (.con (.int 0))) (.nm 12) .val [.var 0] none),
    .asg (.nm 6) (.lst []),
    .forS (.tp [7, 8]) .enm [.idx (.idx (.var 0) (.var 1)) (.con (.int 1))]
      [.asg (.nm 9) (.bin .Add (.var 2) (.bi .len [.var 6])),
       .asg (.nm 10) (.lst []),
       .asg (.nm 11) (.idx (.var 8) (.con (.int 0))),
       .ite (.cmp .Eq (.var 11) (.con (.str (Str.ofString "back"))))
         [.asg (.nm 11) (.var 4)]
         [],
       .ite (.cmp .Eq (.var 11) (.con (.str (Str.ofString "call"))))
         [.asg (.nm 11) (.bin .Add (.var 9) (.con (.int 1))),
          .asg (.nm 10) (.call "_law_rows" [.var 0, .mth .index (.var 5) [.idx (.var 8) (.con (.int 2))], .bin .Add (.var 9) (.con (.int 1))])]
         [],
       .asg (.nm 6) (.bin .Add (.bin .Add (.var 6) (.lst [.tup [.var 3, .var 7, .idx (.var 8) (.con (.int 1)), .var 11, .bin .Add (.bin .Add (.var 9) (.con (.int 1))) (.bi .len [.var 10])]])) (.var 10))],
    .ret (.var 6)] }
section
variable {P : Pg} {h : MH} {Q : Val → MH → Prop} {Z : XP} {ρ : Env'}
theorem wi_nil : wipe' ρ [] = ρ := id rfl
theorem wi_cons {v : Nat} {vs : List Nat} : wipe' ρ (v :: vs) = (wipe' ρ vs).set v none := id rfl
/-- a comprehension, turn by turn -/
theorem wp_comp {t : Tg} {c : Src} {elt : E} {items : List Val} {Q : List Val → MH → Prop} (I : Nat → List Val → MH → Prop) (h0 : I 0 [] h)
    (step : ∀ i v acc h, items[i]? = some v → I i acc h → c.stands h ∧ acc.length ≤ 4096 ∧ opK (bindT t v ρ) fun ρ1 => (evE P elt ρ1 h).wp (fun w h' => I (i + 1) (acc ++ [w]) h') NoE)
    (done : ∀ acc h, I items.length acc h → c.stands h ∧ Q acc h) : (compL t c ρ (evC P none) (evE P elt) items [] h).wp Q Z := by
  have key : ∀ (r : List Val) (i : Nat) (acc : List Val) (h : MH), items.drop i = r → i ≤ items.length → I i acc h → (compL t c ρ (evC P none) (evE P elt) r acc h).wp Q Z := by
    intro r
    induction r with
    | nil =>
      intro i acc h hd hi hI
      have e : i = items.length := by
        have := congrArg List.length hd
        simp at this; omega
      subst e
      obtain ⟨d1, d2⟩ := done acc h hI
      simp only [compL]
      rw [if_pos d1]
      exact d2
    | cons v r ih =>
      intro i acc h hd hi hI
      have hv : items[i]? = some v := by
        have := congrArg (fun l => l[0]?) hd
        simpa using this
      have il := (List.getElem?_eq_some_iff.mp hv).1
      have hd2 : items.drop (i + 1) = r := by
        have := congrArg (List.drop 1) hd
        simpa [Nat.add_comm] using this
      obtain ⟨s1, s2, s3⟩ := step i v acc h hv hI
      simp only [compL]
      rw [if_pos s1]
      cases eb : bindT t v ρ with
      | none => rw [eb] at s3; exact s3.elim
      | some ρ1 =>
        rw [eb] at s3
        replace s3 : (evE P elt ρ1 h).wp (fun w h' => I (i + 1) (acc ++ [w]) h') NoE := s3
        have e1 : evC P none ρ1 h = .ok (.bl true) h := by simp only [evC]
        simp only [e1]
        cases ee : evE P elt ρ1 h with
        | ok w h2 =>
          rw [ee] at s3
          simp only []
          rw [if_pos (of_eq_true (sz_lt s2))]
          exact ih (i + 1) _ h2 hd2 (by omega) s3
        | err c fs h2 => rw [ee] at s3; exact s3.elim
        | bad => rw [ee] at s3; exact s3.elim
  exact key items 0 [] h (by simp) (Nat.zero_le _) h0
/-- .. over a range -/
theorem wp_compR {t : Tg} {lo hi : Int} {elt : E} {Q : List Val → MH → Prop} (I : Nat → List Val → MH → Prop) (h0 : I 0 [] h)
    (step : ∀ (i : Nat) acc h, i < (hi - lo).toNat → I i acc h → acc.length ≤ 4096 ∧ opK (bindT t (.int (lo + i)) ρ) fun ρ1 => (evE P elt ρ1 h).wp (fun w h' => I (i + 1) (acc ++ [w]) h') NoE)
    (done : ∀ acc h, I (hi - lo).toNat acc h → Q acc h) : (compL t [] ρ (evC P none) (evE P elt) (rangeL lo hi 1) [] h).wp Q Z := by
  refine wp_comp I h0 (fun i v acc h hv hI => ?_) (fun acc h hI => ?_)
  · obtain ⟨hi, rfl⟩ := rngL_get hv
    rw [cnt_1] at hi
    obtain ⟨s1, s2⟩ := step i acc h hi hI
    rw [Int.mul_one]
    exact ⟨by rw [stands_nil]; trivial, s1, s2⟩
  · rw [rngL_len, cnt_1] at hI
    exact ⟨by rw [stands_nil]; trivial, done acc h hI⟩
noncomputable def topN : Nat → Int
  | 0 => 3
  | 1 => 255
  | 2 => 4294967295
  | 3 => 65535
  | 4 => 4294967295
  | _ => 65535
noncomputable abbrev CellOk (P : Pg) : Prop := ∀ {h : MH} {a : Nat} {z : Bool} {ns : List Int}, h[a]? = some (.lst z (ns.map .int)) → ∀ {d : Int} {Q : Val → MH → Prop} {Z : XP}, 0 ≤ d → (P.cf "_law_cell_at" [.ref a, .int d] h).wp Q Z = Q (.int (cell ns d.toNat)) h
noncomputable abbrev TopNOk (P : Pg) : Prop := ∀ {h : MH} {d : Nat}, d < 6 → (P.cf "_law_top" [.int d] h).wp (fun v h' => v = .int (topN d) ∧ Gr h h') NoE
noncomputable def Mks (ms : List Int) : Prop := ms.length = 6 ∧ ∀ d m, ms[d]? = some m → 0 ≤ m ∧ m ≤ topN d
noncomputable def IMk (h0 : MH) (i : Nat) (acc : List Val) (h' : MH) : Prop := ∃ ms : List Int, acc = ms.map .int ∧ ms.length = i ∧ (∀ d m, ms[d]? = some m → 0 ≤ m ∧ m ≤ topN d) ∧ Gr h0 h'
noncomputable def In1 (t : Int) (p : Sg) : Prop := 0 ≤ p.1 ∧ p.1 ≤ p.2 ∧ p.2 ≤ t
noncomputable abbrev StretchOk (P : Pg) : Prop := ∀ {h : MH} {m t c : Int}, 0 ≤ m → m ≤ t → t ≤ 4294967295 → (P.cf "_law_stretch" [.int m, .int t, .int c] h).wp (fun v h' => (∃ p, v = stV p ∧ In1 t p) ∧ h' = h) NoE
noncomputable def wholeB : List Sg := [(0, topN 0), (0, topN 1), (0, topN 2), (0, topN 3), (0, topN 4), (0, topN 5)]
noncomputable def IWh (h0 : MH) (i : Nat) (acc : List Val) (h' : MH) : Prop := acc = (wholeB.take i).map stV ∧ Gr h0 h'
/-- a box of six stretches, each within its whole one -/
noncomputable def InW (b : List Sg) : Prop := b.length = 6 ∧ ∀ d p, b[d]? = some p → In1 (topN d) p
noncomputable def w0 (b : List Sg) (k : Nat) : Nat := if b[k]? = some (0, topN k) then 0 else 1
noncomputable def nar (b : List Sg) : Nat := w0 b 0 + w0 b 1 + w0 b 2 + w0 b 3 + w0 b 4 + w0 b 5
noncomputable abbrev BoxOk (P : Pg) : Prop := ∀ {h : MH} {M : Nat} {w : Bool} {ms : List Int} {c : Int} {wish : Nat}, h[M]? = some (.lst w (ms.map .int)) → Mks ms → wish ≤ 2 → (P.cf "_law_box" [.ref M, .int c, .int wish] h).wp (fun v h' => (∃ b, v = bxV b ∧ InW b ∧ nar b ≤ wish) ∧ Up h.length h h') NoE
noncomputable def IBx (h0 : MH) (M : Nat) (c : Int) (wish : Nat) (i : Nat) (ρ : Env') (h' : MH) : Prop := ∃ (B at_ : Nat) (b : List Sg) (x5 x6 : Option Val), ρ = [some (.ref M), some (.int c), some (.int wish), some (.ref B), some (.int at_), x5, x6] ∧ at_ < 6 ∧ h'[B]? = some (.lst true (b.map stV)) ∧ InW b ∧ nar b ≤ i ∧ Up h0.length h0 h' ∧ h0.length ≤ B
noncomputable def prodO : List (Option (List Sg)) → Nat
  | [] => 1
  | none :: l => prodO l
  | some b :: l => (1 + 2 * nar b) * prodO l
noncomputable def prodB : List (List Sg) → Nat
  | [] => 1
  | b :: l => (1 + 2 * nar b) * prodB l
theorem prodO_set {b : List Sg} : ∀ {l : List (Option (List Sg))} {j : Nat}, l[j]? = some none → prodO (l.set j (some b)) = prodO l * (1 + 2 * nar b)
  | [], _, h => by simp at h
  | o :: l, 0, h => by
    simp at h
    subst h
    simp only [List.set_cons_zero, prodO]
    exact Nat.mul_comm _ _
  | o :: l, j + 1, h => by
    have ih := prodO_set (b := b) (l := l) (j := j) (by simpa using h)
    simp only [List.set_cons_succ]
    cases o with
    | none => exact ih
    | some c => simp only [prodO]; rw [ih, Nat.mul_assoc]
/-- the places filled in k turns, from s0 on, round about -/
noncomputable def off (many s0 j : Nat) : Nat := if s0 ≤ j then j - s0 else j + many - s0
noncomputable def IBs (h0 : MH) (a M many s0 : Nat) (k : Nat) (ρ : Env') (h' : MH) : Prop := ∃ (B pc : Nat) (L : List (Option (List Sg))) (x5 x6 x7 x8 : Option Val), ρ = [some (.ref a), some (.ref M), some (.int many), some (.ref B), some (.int pc), x5, x6, x7, x8] ∧
  h'[B]? = some (.lst true (L.map opB)) ∧ pc ≤ 45 ∧ prodO L ≤ pc ∧ L.length = many ∧ (∀ j, j < many → if off many s0 j < k then ∃ b, L[j]? = some (some b) ∧ InW b else L[j]? = some none) ∧ Up h0.length h0 h' ∧ h0.length ≤ B
theorem IBs.next {h0 h' : MH} {a M many s0 k at_ B pc pc2 : Nat} {L : List (Option (List Sg))} {b : List Sg} {x5 x6 x7 x8 : Option Val} (hat : at_ < many) (ho : ∀ j, j < many → (off many s0 j = k ↔ j = at_)) (hB : h'[B]? = some (.lst true (L.map opB))) (hp : pc2 ≤ 45) (hq : prodO L ≤ pc) (hpc : pc * (1 + 2 * nar b) ≤ pc2) (hl : L.length = many)
    (hL : ∀ j, j < many → if off many s0 j < k then ∃ b, L[j]? = some (some b) ∧ InW b else L[j]? = some none) (hb : InW b) (u : Up h0.length h0 h') (hB0 : h0.length ≤ B) :
    IBs h0 a M many s0 (k + 1) [some (.ref a), some (.ref M), some (.int many), some (.ref B), some (.int pc2), x5, x6, x7, x8] (h'.set B (.lst true ((L.map opB).set at_ (bxV b)))) := by
  have hat' : L[at_]? = some none := by
    have z := hL at_ hat
    rw [if_neg (by have := (ho at_ hat).mpr rfl; omega)] at z
    exact z
  refine ⟨B, pc2, L.set at_ (some b), _, _, _, _, rfl, ?_, hp, ?_, by rw [List.length_set]; exact hl, fun j hj => ?_, u.set hB0, hB0⟩
  · rw [set_get hB, List.map_set]; rfl
  · rw [prodO_set hat']
    exact Nat.le_trans (Nat.mul_le_mul_right _ hq) hpc
  · have z := hL j hj
    have e := ho j hj
    by_cases c : j = at_
    · subst c
      rw [if_pos (by have := e.mpr rfl; omega)]
      exact ⟨b, List.getElem?_set_self (by omega), hb⟩
    · rw [List.getElem?_set_ne (Ne.symm c)]
      have ne : off many s0 j ≠ k := fun q => c (e.mp q)
      by_cases d : off many s0 j < k
      · rw [if_pos d] at z
        rw [if_pos (by omega)]
        exact z
      · rw [if_neg d] at z
        rw [if_neg (by omega)]
        exact z
noncomputable abbrev BoxesOk (P : Pg) : Prop := ∀ {h : MH} {a M : Nat} {z w : Bool} {ns ms : List Int} {many : Nat}, h[a]? = some (.lst z (ns.map .int)) → h[M]? = some (.lst w (ms.map .int)) → Mks ms → many ≤ 8 →
  (P.cf "_law_boxes" [.ref a, .ref M, .int many] h).wp (fun v h' => ∃ bs, LstAt h' v (bs.map bxV) h.length ∧ bs.length = many ∧ (∀ b ∈ bs, InW b) ∧ prodB bs ≤ 45 ∧ Up h.length h h') NoE
/-! ### names, rules -/
/-- a drawn name: one sign of eight, else q -/
noncomputable def Nmk (k : Nat) (s : Str) : Prop := (∀ c ∈ s.cps.toList, c = 113 ∨ (97 + 8 * k ≤ c ∧ c < 105 + 8 * k)) ∧ (∃ c ∈ s.cps.toList, 97 + 8 * k ≤ c ∧ c < 105 + 8 * k) ∧ s.cps.toList.length ≤ 12
inductive Rl where
  | word (s : Bool) (b : List Sg) | back (b : List Sg) | call (b : List Sg) (nm : Str)
noncomputable def sPass : Str := Str.ofString "pass"
noncomputable def sStop : Str := Str.ofString "stop"
noncomputable def sBack : Str := Str.ofString "back"
noncomputable def sCall : Str := Str.ofString "call"
noncomputable def sMain : Str := Str.ofString "main"
noncomputable def wdS (s : Bool) : Str := if s = true then sStop else sPass
noncomputable def Rl.bx : Rl → List Sg
  | .word _ b => b
  | .back b => b
  | .call b _ => b
noncomputable def Rl.wd : Rl → Str
  | .word s _ => wdS s
  | .back _ => sBack
  | .call _ _ => sCall
noncomputable def rlV : Rl → Val
  | .word s b => .tup [.str (wdS s), bxV b]
  | .back b => .tup [.str sBack, bxV b]
  | .call b nm => .tup [.str sCall, bxV b, .str nm]
/-- whom a rule of the rank may call -/
noncomputable def RlOk (names : List Str) (lv : Nat) (r : Rl) : Prop := match r with
  | .call _ nm => ∃ j, lv < j ∧ j ≤ 2 ∧ names[j]? = some nm
  | _ => True
noncomputable abbrev RuleOk (P : Pg) : Prop := ∀ {h : MH} {c cl : Int} {lv N : Nat} {w : Bool} {b : List Sg} {names : List Str}, lv ≤ 2 → h[N]? = some (.lst w (names.map .str)) → names.length = 3 →
  (P.cf "_law_rule" [.int c, .int lv, bxV b, .ref N, .int cl] h).wp (fun v h' => (∃ r, v = rlV r ∧ r.bx = b ∧ RlOk names lv r) ∧ Gr h h') NoE
/-! ### chains -/
noncomputable abbrev Ch := Str × List Rl
noncomputable def ChR (n0 C : Nat) (h : MH) (v : Val) (c : Ch) : Prop := ∃ a, v = .tup [.str c.1, .ref a] ∧ h[a]? = some (.lst true (c.2.map rlV)) ∧ a ≠ C ∧ n0 ≤ a
theorem ChR.up {n0 C : Nat} {h h2 : MH} (u : Up h.length h h2) {v : Val} {c : Ch} : ChR n0 C h v c → ChR n0 C h2 v c := fun ⟨a, x, y, z⟩ => ⟨a, x, u.get (lt_of y) y, z⟩
theorem ChR.set {n0 C : Nat} {h : MH} {o : Ob} {v : Val} {c : Ch} : ChR n0 C h v c → ChR n0 C (h.set C o) v c := fun ⟨a, x, y, z, w⟩ => ⟨a, x, (set_ne z).trans y, z, w⟩
noncomputable def RuP (names : List Str) (bs : List (List Sg)) (i : Nat) (r : Rl) : Prop := r.bx ∈ bs ∧ RlOk names i r
noncomputable def ChP (names : List Str) (sizes : List Nat) (bs : List (List Sg)) (i : Nat) (c : Ch) : Prop := names[i]? = some c.1 ∧ (∃ s, sizes[i]? = some s ∧ c.2.length = s) ∧ ∀ r ∈ c.2, RuP names bs i r
noncomputable def IRu (h1 : MH) (a S B N C : Nat) (sh : Int) (names : List Str) (bs : List (List Sg)) (at0 lv : Nat) (i : Nat) (ρ : Env') (h' : MH) : Prop := ∃ (rs : List Rl) (k : Nat) (cl : Int) (x10 : Option Val),
  ρ = [some (.ref a), some (.int sh), some (.ref S), some (.ref B), some (.ref N), some (.ref C), some (.int k), some (.int lv), some (.ref h1.length), some (.int cl), x10] ∧ k = at0 + i ∧
  h'[h1.length]? = some (.lst true (rs.map rlV)) ∧ rs.length = i ∧ (∀ r ∈ rs, RuP names bs lv r) ∧ Up h1.length h1 h'
noncomputable def ICh (h1 : MH) (a S B N : Nat) (sh : Int) (names : List Str) (sizes : List Nat) (bs : List (List Sg)) (lv : Nat) (ρ : Env') (h' : MH) : Prop := ∃ (cvs : List Val) (chs : List Ch) (k : Nat) (x7 x8 x9 x10 : Option Val),
  ρ = [some (.ref a), some (.int sh), some (.ref S), some (.ref B), some (.ref N), some (.ref h1.length), some (.int k), x7, x8, x9, x10] ∧ k = (sizes.take lv).sum ∧
  h'[h1.length]? = some (.lst true cvs) ∧ F2 (ChR h1.length h1.length h') cvs chs ∧ chs.length = lv ∧ (∀ i c, chs[i]? = some c → ChP names sizes bs i c) ∧ Up h1.length h1 h'
/-- where the chains lie -/
noncomputable def BookAt (n0 : Nat) (h : MH) (C : Nat) (chs : List Ch) : Prop := ∃ cvs, h[C]? = some (.lst true cvs) ∧ F2 (ChR n0 C h) cvs chs ∧ n0 ≤ C
noncomputable def Drawn (names : List Str) (sizes : List Nat) (bs : List (List Sg)) (chs : List Ch) : Prop := ∃ c0 c1 c2 : Ch, ChP names sizes bs 0 c0 ∧ ChP names sizes bs 1 c1 ∧ ChP names sizes bs 2 c2 ∧ (chs = [c0, c1, c2] ∨ chs = [c0, c2, c1])
noncomputable abbrev NameOk (P : Pg) : Prop := ∀ {h : MH} {c : Int} {k : Nat}, k ≤ 1 → (P.cf "_law_name" [.int c, .int k] h).wp (fun v h' => (∃ s, v = .str s ∧ Nmk k s) ∧ h' = h) NoE
noncomputable abbrev MarksOk (P : Pg) : Prop := ∀ {h : MH} {a : Nat} {z : Bool} {ns : List Int}, h[a]? = some (.lst z (ns.map .int)) → (P.cf "_law_marks" [.ref a] h).wp (fun v h' => ∃ ms, LstAt h' v (ms.map .int) h.length ∧ Mks ms ∧ Gr h h') NoE
noncomputable def DrawnBook (h : MH) (v : Val) (h' : MH) : Prop := ∃ n1 n2 sizes bs chs C, v = .ref C ∧ BookAt h.length h' C chs ∧ Drawn [sMain, n1, n2] sizes bs chs ∧ Nmk 0 n1 ∧ Nmk 1 n2 ∧ (∃ s0 s1 s2, sizes = [s0, s1, s2] ∧ s0 ≤ 4 ∧ s1 ≤ 2 ∧ s2 ≤ 2) ∧ (∀ b ∈ bs, InW b) ∧ prodB bs ≤ 45 ∧ Up h.length h h'
/-! ### rows of a book, unfolded -/
theorem F2.get {α β : Type} {R : α → β → Prop} : ∀ {l : List α} {r : List β} {i : Nat} {v : α}, F2 R l r → l[i]? = some v → ∃ c, r[i]? = some c ∧ R v c
  | _, _, _, _, .nil, h => by simp at h
  | _, _, 0, _, .cons x _, h => by simp at h; subst h; exact ⟨_, rfl, x⟩
  | _, _, i + 1, _, .cons _ t, h => by
    obtain ⟨c, h1, h2⟩ := F2.get (i := i) t (by simpa using h)
    exact ⟨c, by simpa using h1, h2⟩
theorem F2.get2 {α β : Type} {R : α → β → Prop} : ∀ {l : List α} {r : List β} {i : Nat} {c : β}, F2 R l r → r[i]? = some c → ∃ v, l[i]? = some v ∧ R v c
  | _, _, _, _, .nil, h => by simp at h
  | _, _, 0, _, .cons x _, h => by simp at h; subst h; exact ⟨_, rfl, x⟩
  | _, _, i + 1, _, .cons _ t, h => by
    obtain ⟨c, h1, h2⟩ := F2.get2 (i := i) t (by simpa using h)
    exact ⟨c, by simpa using h1, h2⟩
noncomputable def ixOf (chs : List Ch) (nm : Str) : Nat := chs.findIdx fun c => decide (c.1 = nm)
noncomputable def lenR (g : Str → Nat) (r : Rl) : Nat := 1 + match r with
  | .call _ nm => g nm
  | _ => 0
noncomputable def lenF (chs : List Ch) : Nat → Nat → Nat
  | 0, _ => 0
  | f + 1, i => match chs[i]? with
    | none => 0
    | some c => (c.2.map (lenR fun nm => lenF chs f (ixOf chs nm))).sum
noncomputable def Uq (chs : List Ch) : Prop := chs.length ≤ 10 ∧ ∀ i c, chs[i]? = some c → ixOf chs c.1 = i
noncomputable def bd (f : Nat) : Nat := if f = 2 then 4 else 2
noncomputable def Dp (chs : List Ch) : Nat → Nat → Prop
  | 0, _ => False
  | f + 1, i => ∃ c, chs[i]? = some c ∧ c.2.length ≤ bd f ∧ ∀ r ∈ c.2, match r with
    | .call _ nm => (∃ c', chs[ixOf chs nm]? = some c' ∧ c'.1 = nm) ∧ Dp chs f (ixOf chs nm)
    | _ => True
noncomputable abbrev LenOk (P : Pg) (f : Nat) : Prop := ∀ {h : MH} {n0 C i : Nat} {chs : List Ch} {c : Ch}, BookAt n0 h C chs → Uq chs → Dp chs f i → chs[i]? = some c → (P.cf "_law_length" [.ref C, .str c.1] h).wp (fun v h' => v = .int (lenF chs f i : Nat) ∧ h' = h) NoE
noncomputable def ILe (h0 : MH) (C : Nat) (nm : Str) (i0 n : Nat) (j : Nat) (ρ : Env') (h' : MH) : Prop := ∃ (k : Nat) (x3 x4 x5 : Option Val), ρ = [some (.ref C), some (.str nm), some (.int k), x3, x4, x5] ∧ k = (if i0 < j then n else 0) ∧ h' = h0
noncomputable def ILi (h0 : MH) (C : Nat) (nm : Str) (g : Str → Nat) (rs : List Rl) (y3 y4 : Option Val) (j : Nat) (ρ : Env') (h' : MH) : Prop := ∃ (k : Nat) (x5 : Option Val), ρ = [some (.ref C), some (.str nm), some (.int k), y3, y4, x5] ∧ k = ((rs.take j).map (lenR g)).sum ∧ h' = h0
noncomputable def plOf (en at_ : Nat) (r : Rl) : Pl := match r with
  | .word s _ => .inr (wdS s)
  | .back _ => .inl (en : Nat)
  | .call _ _ => .inl ((at_ + 1 : Nat) : Int)
noncomputable def rowsG (nm : Str) (en : Nat) (more : Rl → Nat → List Rw) : Nat → Nat → List Rl → List Rw
  | _, _, [] => []
  | i, at_, r :: rs => ⟨nm, (i : Nat), r.bx, plOf en at_ r, .inl ((at_ + 1 + (more r (at_ + 1)).length : Nat) : Int)⟩ :: (more r (at_ + 1) ++ rowsG nm en more (i + 1) (at_ + 1 + (more r (at_ + 1)).length) rs)
noncomputable def rowsF (chs : List Ch) : Nat → Nat → Nat → List Rw
  | 0, _, _ => []
  | f + 1, i, st => match chs[i]? with
    | none => []
    | some c => rowsG c.1 (st + lenF chs (f + 1) i) (fun r a => match r with
      | .call _ nm => rowsF chs f (ixOf chs nm) a
      | _ => []) 0 st c.2
noncomputable def bdL : Nat → Nat
  | 0 => 0
  | f + 1 => bd f * (1 + bdL f)
noncomputable abbrev RowsOk (P : Pg) (f : Nat) : Prop := ∀ {h : MH} {n0 C i st : Nat} {chs : List Ch}, BookAt n0 h C chs → Uq chs → Dp chs f i → (P.cf "_law_rows" [.ref C, .int i, .int st] h).wp (fun v h' => LstAt h' v ((rowsF chs f i st).map rwV) h.length ∧ Gr h h') NoE
noncomputable def INm (h0 : MH) (chs : List Ch) (i : Nat) (acc : List Val) (h' : MH) : Prop := acc = (chs.take i).map (fun c => Val.str c.1) ∧ h' = h0
noncomputable def moreF (chs : List Ch) (f : Nat) (r : Rl) (a : Nat) : List Rw := match r with
  | .call _ nm => rowsF chs f (ixOf chs nm) a
  | _ => []
noncomputable def IRw (h1 : MH) (C i st N : Nat) (nm : Str) (en : Nat) (chs : List Ch) (f : Nat) (rs : List Rl) (a : Nat) (j : Nat) (ρ : Env') (h' : MH) : Prop := ∃ (R : Nat) (x7 x8 x9 x10 x11 : Option Val),
  ρ = [some (.ref C), some (.int i), some (.int st), some (.str nm), some (.int en), some (.ref N), some (.ref R), x7, x8, x9, x10, x11, none] ∧
  h'[R]? = some (.lst true ((rowsG nm en (moreF chs f) 0 st (rs.take j)).map rwV)) ∧ Gr h1 h' ∧ h1.length ≤ R
theorem BookAt.gr {n0 C : Nat} {h h' : MH} {chs : List Ch} (g : Gr h h') (b : BookAt n0 h C chs) : BookAt n0 h' C chs := by
  obtain ⟨cvs, hC, hF, n⟩ := b
  exact ⟨cvs, g.get hC, hF.imp fun _ _ ⟨a, x, y, z⟩ => ⟨a, x, g.get y, z⟩, n⟩
end
end
/-! Mini: what follows of a drawn book: its rows, how many boxes, which ways -/
section
open PySem
open Classical
/-- the one lies in the other -/
noncomputable def Wth (c b : List Sg) : Prop := ∀ (k : Nat) p q, b[k]? = some p → c[k]? = some q → q.1 ≤ p.1 ∧ p.2 ≤ q.2
/-- nothing in common -/
noncomputable def Apt (b c : List Sg) : Prop := ∃ (k : Nat) (p q : Sg), b[k]? = some p ∧ c[k]? = some q ∧ (p.2 < q.1 ∨ q.2 < p.1)
theorem InW.get {b : List Sg} (h : InW b) {k : Nat} (hk : k < 6) : ∃ p, b[k]? = some p ∧ In1 (topN k) p := by
  have hl : k < b.length := by rw [h.1]; exact hk
  have e : b[k]? = some b[k] := List.getElem?_eq_getElem hl
  exact ⟨_, e, h.2 k _ e⟩
theorem InW.lt {b : List Sg} (h : InW b) {k : Nat} {p : Sg} (e : b[k]? = some p) : k < 6 := by
  have := (List.getElem?_eq_some_iff.mp e).1
  rw [h.1] at this; exact this
theorem Wth.refl {b : List Sg} : Wth b b := fun k p q h1 h2 => by
  rw [h1] at h2; cases h2; exact ⟨Int.le_refl _, Int.le_refl _⟩
theorem Wth.trans {a b c : List Sg} (hb : InW b) (hc : InW c) (h1 : Wth a b) (h2 : Wth b c) : Wth a c := fun k p q e1 e2 => by
  obtain ⟨r, e3, _⟩ := hb.get (hc.lt e1)
  have x := h1 k r q e3 e2
  have y := h2 k p r e1 e3
  omega
theorem Apt.sub {b c x : List Sg} (hx : InW x) (hb : InW b) (h : Apt b c) (w : Wth b x) : Apt x c := by
  obtain ⟨k, p, q, e1, e2, d⟩ := h
  obtain ⟨r, e3, i⟩ := hx.get (hb.lt e1)
  have y := w k r p e3 e1
  exact ⟨k, r, q, e3, e2, by omega⟩
theorem commonL_get : ∀ {l : List (Sg × Sg)} {m : List Sg} {k : Nat} {x : Sg × Sg}, commonL l = some m → l[k]? = some x → ∃ r, m[k]? = some r ∧ meetS x.1 x.2 = some r
  | [], _, _, _, _, h => by simp at h
  | y :: l, m, k, x, e, h => by
    simp only [commonL] at e
    split at e
    · rename_i r t e1 e2
      cases e
      cases k with
      | zero => simp at h; subst h; exact ⟨r, rfl, e1⟩
      | succ k =>
        obtain ⟨r2, h1, h2⟩ := commonL_get (k := k) e2 (by simpa using h)
        exact ⟨r2, by simpa using h1, h2⟩
    · cases e
theorem common_get {b c m : List Sg} (hb : InW b) (hc : InW c) (e : commonB b c = some m) {k : Nat} {p q : Sg} (hp : b[k]? = some p) (hq : c[k]? = some q) : m[k]? = some (max p.1 q.1, min p.2 q.2) ∧ max p.1 q.1 ≤ min p.2 q.2 := by
  obtain ⟨r, h1, h2⟩ := commonL_get (k := k) (x := (p, q)) e (by
    rw [List.getElem?_zip_eq_some]; exact ⟨hp, hq⟩)
  unfold meetS at h2
  split at h2
  · cases h2
  · cases h2
    exact ⟨h1, by simp only at *; omega⟩
theorem common_apt {b c : List Sg} (h : Apt b c) : commonB b c = none := by
  obtain ⟨k, p, q, e1, e2, d⟩ := h
  refine commonB_none e1 e2 ?_
  unfold meetS
  rw [if_pos (by omega)]
theorem common_of {b c : List Sg} (hb : InW b) (hc : InW c) (h : ¬ Apt b c) : ∃ m, commonB b c = some m := by
  cases e : commonB b c with
  | some m => exact ⟨m, rfl⟩
  | none =>
    exfalso
    have e2 : commonB b c = some ((b.zip c).map fun x => (max x.1.1 x.2.1, min x.1.2 x.2.2)) := by
      refine commonB_of (by rw [hb.1, hc.1]) (by rw [List.length_map, List.length_zip, hb.1, hc.1]; rfl) fun j p q m hp hq hm => ?_
      have hz : (b.zip c)[j]? = some (p, q) := by rw [List.getElem?_zip_eq_some]; exact ⟨hp, hq⟩
      rw [List.getElem?_map, hz] at hm
      cases hm
      have n : ¬ (p.2 < q.1 ∨ q.2 < p.1) := fun d => h ⟨j, p, q, hp, hq, d⟩
      obtain ⟨_, i1⟩ := hb.get (hb.lt hp)
      have i2 := hb.2 j p hp
      have i3 := hc.2 j q hq
      unfold In1 at i2 i3
      unfold meetS
      rw [if_neg (by omega)]
    rw [e] at e2; cases e2
theorem common_in {b c m : List Sg} (hb : InW b) (hc : InW c) (e : commonB b c = some m) : InW m ∧ Wth b m ∧ Wth c m := by
  have ml : m.length = 6 := by rw [commonB_len (by rw [hb.1, hc.1]) e, hb.1]
  have g : ∀ k r, m[k]? = some r → ∃ p q, b[k]? = some p ∧ c[k]? = some q ∧ In1 (topN k) p ∧ In1 (topN k) q ∧ r = (max p.1 q.1, min p.2 q.2) ∧ max p.1 q.1 ≤ min p.2 q.2 := fun k r hr => by
    have k6 : k < 6 := by have := (List.getElem?_eq_some_iff.mp hr).1; omega
    obtain ⟨p, hp, ip⟩ := hb.get k6
    obtain ⟨q, hq, iq⟩ := hc.get k6
    obtain ⟨z1, z2⟩ := common_get hb hc e hp hq
    rw [hr] at z1
    cases z1
    exact ⟨p, q, hp, hq, ip, iq, rfl, z2⟩
  refine ⟨⟨ml, fun k r hr => ?_⟩, fun k r p hr hp => ?_, fun k r q hr hq => ?_⟩
  · obtain ⟨p, q, _, _, ip, iq, rfl, z⟩ := g k r hr
    unfold In1 at *
    simp only
    omega
  · obtain ⟨p', q, hp', _, _, _, rfl, z⟩ := g k r hr
    rw [hp] at hp'; cases hp'
    simp only; omega
  · obtain ⟨p, q', _, hq', _, _, rfl, z⟩ := g k r hr
    rw [hq] at hq'; cases hq'
    simp only; omega
theorem inW_ext {a b : List Sg} (ha : InW a) (hb : InW b) (h : ∀ (k : Nat) (p q : Sg), a[k]? = some p → b[k]? = some q → p = q) : a = b := by
  apply List.ext_getElem?
  intro k
  by_cases k6 : k < 6
  · obtain ⟨p, hp, _⟩ := ha.get k6
    obtain ⟨q, hq, _⟩ := hb.get k6
    rw [hp, hq, h k p q hp hq]
  · rw [List.getElem?_eq_none (by rw [ha.1]; omega), List.getElem?_eq_none (by rw [hb.1]; omega)]
theorem common_wth {b c : List Sg} (hb : InW b) (hc : InW c) (h : Wth c b) : commonB b c = some b := by
  obtain ⟨m, e⟩ := common_of hb hc (fun ⟨k, p, q, e1, e2, d⟩ => by
    have x := h k p q e1 e2
    have y := hb.2 k p e1
    unfold In1 at y
    omega)
  obtain ⟨i, _, _⟩ := common_in hb hc e
  rw [e]
  congr 1
  refine inW_ext i hb fun k r p hr hp => ?_
  obtain ⟨q, hq, _⟩ := hc.get (hb.lt hp)
  obtain ⟨z, _⟩ := common_get hb hc e hp hq
  rw [hr] at z
  cases z
  have x := h k p q hp hq
  have e1 : max p.1 q.1 = p.1 := by omega
  have e2 : min p.2 q.2 = p.2 := by omega
  rw [e1, e2]
/-- a piece of what is left -/
theorem pcs_in {b c m : List Sg} (hb : InW b) (hc : InW c) (e : commonB b c = some m) {k : Nat} (hk : k < 6) : (pcs b m k).length ≤ 2 * w0 c k ∧ ∀ x ∈ pcs b m k, InW x ∧ Wth b x ∧ Apt x c := by
  obtain ⟨im, wb, wc⟩ := common_in hb hc e
  obtain ⟨p, hp, ip⟩ := hb.get hk
  obtain ⟨q, hq, iq⟩ := hc.get hk
  obtain ⟨hr, le⟩ := common_get hb hc e hp hq
  have part : ∀ t : Sg, p.1 ≤ t.1 → t.1 ≤ t.2 → t.2 ≤ p.2 → (t.2 < q.1 ∨ q.2 < t.1) → InW (m.take k ++ t :: b.drop (k + 1)) ∧ Wth b (m.take k ++ t :: b.drop (k + 1)) ∧ Apt (m.take k ++ t :: b.drop (k + 1)) c := fun t t1 t2 t3 t4 => by
    have tl : (m.take k).length = k := by rw [List.length_take, im.1]; omega
    have g : ∀ j r, (m.take k ++ t :: b.drop (k + 1))[j]? = some r → (j < k ∧ m[j]? = some r) ∨ (j = k ∧ r = t) ∨ (k < j ∧ b[j]? = some r) := fun j r hr => by
      by_cases c1 : j < k
      · rw [List.getElem?_append_left (by omega), List.getElem?_take_of_lt c1] at hr
        exact .inl ⟨c1, hr⟩
      · rw [List.getElem?_append_right (by omega), tl] at hr
        by_cases c2 : j = k
        · subst c2
          rw [Nat.sub_self] at hr
          cases hr
          exact .inr (.inl ⟨rfl, rfl⟩)
        · have e : j - k = (j - k - 1) + 1 := by omega
          rw [e, List.getElem?_cons_succ, List.getElem?_drop] at hr
          have e2 : k + 1 + (j - k - 1) = j := by omega
          rw [e2] at hr
          exact .inr (.inr ⟨by omega, hr⟩)
    refine ⟨⟨by rw [List.length_append, tl, List.length_cons, List.length_drop, hb.1]; omega, fun j r hr => ?_⟩, fun j r p2 hr hp2 => ?_, ⟨k, t, q, ?_, hq, t4⟩⟩
    · rcases g j r hr with ⟨_, h⟩ | ⟨h1, h2⟩ | ⟨_, h⟩
      · exact im.2 j r h
      · subst h1; subst h2
        unfold In1 at *
        omega
      · exact hb.2 j r h
    · rcases g j r hr with ⟨_, h⟩ | ⟨h1, h2⟩ | ⟨_, h⟩
      · exact wb j r p2 h hp2
      · subst h1; subst h2
        rw [hp] at hp2; cases hp2
        exact ⟨t1, t3⟩
      · rw [h] at hp2; cases hp2
        exact ⟨Int.le_refl _, Int.le_refl _⟩
    · rw [List.getElem?_append_right (by omega), tl, Nat.sub_self]; rfl
  have ep : pcs b m k = (if p.1 < max p.1 q.1 then [m.take k ++ (p.1, max p.1 q.1 - 1) :: b.drop (k + 1)] else []) ++ (if min p.2 q.2 < p.2 then [m.take k ++ (min p.2 q.2 + 1, p.2) :: b.drop (k + 1)] else []) := by
    unfold pcs
    rw [hp, hr]
  have wl : (p.1 < max p.1 q.1 ∨ min p.2 q.2 < p.2) → w0 c k = 1 := fun d => by
    unfold w0
    rw [if_neg]
    intro z
    rw [hq] at z
    cases z
    unfold In1 at ip
    simp only at d
    omega
  rw [ep]
  refine ⟨?_, fun x hx => ?_⟩
  · by_cases c1 : p.1 < max p.1 q.1
    · rw [wl (.inl c1)]
      rw [if_pos c1]
      split <;> simp
    · rw [if_neg c1]
      by_cases c2 : min p.2 q.2 < p.2
      · rw [wl (.inr c2), if_pos c2]; simp
      · rw [if_neg c2]; simp
  · rcases List.mem_append.mp hx with z | z
    · by_cases c1 : p.1 < max p.1 q.1
      · rw [if_pos c1] at z
        rw [List.mem_singleton.mp z]
        exact part _ (by simp) (by simp only; omega) (by simp only; unfold In1 at ip iq; omega) (.inl (by simp only; omega))
      · rw [if_neg c1] at z; cases z
    · by_cases c1 : min p.2 q.2 < p.2
      · rw [if_pos c1] at z
        rw [List.mem_singleton.mp z]
        exact part _ (by simp only; unfold In1 at ip iq; omega) (by simp only; omega) (by simp) (.inr (by simp only; omega))
      · rw [if_neg c1] at z; cases z
theorem rests_in {b c m : List Sg} (hb : InW b) (hc : InW c) (e : commonB b c = some m) : (restsB b c).length ≤ 2 * nar c ∧ ∀ x ∈ restsB b c, InW x ∧ Wth b x ∧ Apt x c := by
  have er : restsB b c = restsM b m 6 := by unfold restsB; rw [e]; simp only [hb.1]
  rw [er]
  have p0 := pcs_in hb hc e (k := 0) (by omega)
  have p1 := pcs_in hb hc e (k := 1) (by omega)
  have p2 := pcs_in hb hc e (k := 2) (by omega)
  have p3 := pcs_in hb hc e (k := 3) (by omega)
  have p4 := pcs_in hb hc e (k := 4) (by omega)
  have p5 := pcs_in hb hc e (k := 5) (by omega)
  have e6 : restsM b m 6 = pcs b m 0 ++ pcs b m 1 ++ pcs b m 2 ++ pcs b m 3 ++ pcs b m 4 ++ pcs b m 5 := by
    rw [restsM_s, restsM_s, restsM_s, restsM_s, restsM_s, restsM_s]
    rfl
  rw [e6]
  refine ⟨?_, fun x hx => ?_⟩
  · simp only [List.length_append]
    unfold nar
    omega
  · simp only [List.mem_append] at hx
    rcases hx with ((((h | h) | h) | h) | h) | h
    · exact p0.2 x h
    · exact p1.2 x h
    · exact p2.2 x h
    · exact p3.2 x h
    · exact p4.2 x h
    · exact p5.2 x h
theorem rests_wth {b c : List Sg} (hb : InW b) (hc : InW c) (h : Wth c b) : restsB b c = [] := by
  have e := common_wth hb hc h
  have z := rests_in hb hc e
  cases er : restsB b c with
  | nil => rfl
  | cons x l =>
    exfalso
    rw [er] at z
    obtain ⟨ix, wx, k, p, q, e1, e2, d⟩ := z.2 x (List.mem_cons_self ..)
    obtain ⟨r, e3, ir⟩ := hb.get (ix.lt e1)
    have y := wx k p r e1 e3
    have y2 := h k r q e3 e2
    have y3 := ix.2 k p e1
    unfold In1 at y3
    omega
/-- how many pieces can come -/
noncomputable def cuts (c b : List Sg) : Prop := ¬ Apt b c ∧ ¬ Wth c b
noncomputable def pw : List (List Sg) → List Sg → Nat
  | [], _ => 1
  | c :: bs, b => (if cuts c b then 1 + 2 * nar c else 1) * pw bs b
theorem pw_pos : ∀ bs b, 1 ≤ pw bs b
  | [], _ => Nat.le_refl _
  | c :: bs, b => by
    have := pw_pos bs b
    simp only [pw]
    split
    · exact Nat.le_trans this (Nat.le_mul_of_pos_left _ (by omega))
    · omega
theorem pw_le : ∀ bs b, pw bs b ≤ prodB bs
  | [], _ => Nat.le_refl _
  | c :: bs, b => by
    simp only [pw, prodB]
    refine Nat.mul_le_mul ?_ (pw_le bs b)
    split <;> omega
theorem cuts_sub {b x c : List Sg} (hb : InW b) (hx : InW x) (hc : InW c) (w : Wth b x) (h : cuts c x) : cuts c b :=
  ⟨fun a => h.1 (a.sub hx hb w), fun v => h.2 (v.trans hb hx w)⟩
theorem pw_mono {b x : List Sg} (hb : InW b) (hx : InW x) (w : Wth b x) : ∀ bs, (∀ c ∈ bs, InW c) → pw bs x ≤ pw bs b
  | [], _ => Nat.le_refl _
  | c :: bs, h => by
    have ih := pw_mono hb hx w bs fun d hd => h d (List.mem_cons_of_mem _ hd)
    simp only [pw]
    refine Nat.mul_le_mul ?_ ih
    by_cases k : cuts c x
    · rw [if_pos k, if_pos (cuts_sub hb hx (h c (List.mem_cons_self ..)) w k)]
      exact Nat.le_refl _
    · rw [if_neg k]
      split <;> omega
theorem pw_cut {b x c : List Sg} (hb : InW b) (hx : InW x) (w : Wth b x) (hc : cuts c b) (nc : ¬ cuts c x) : ∀ bs, (∀ c ∈ bs, InW c) → c ∈ bs → (1 + 2 * nar c) * pw bs x ≤ pw bs b
  | [], _, h => by cases h
  | d :: bs, h, hm => by
    have hd := h d (List.mem_cons_self ..)
    have hbs := fun e he => h e (List.mem_cons_of_mem _ he)
    simp only [pw]
    by_cases q : d = c
    · subst q
      rw [if_pos hc, if_neg nc, Nat.one_mul]
      exact Nat.mul_le_mul_left _ (pw_mono hb hx w bs hbs)
    · have hm' : c ∈ bs := by
        rcases List.mem_cons.mp hm with z | z
        · exact absurd z.symm q
        · exact z
      have ih := pw_cut hb hx w hc nc bs hbs hm'
      have m1 : (if cuts d x then 1 + 2 * nar d else 1) ≤ (if cuts d b then 1 + 2 * nar d else 1) := by
        by_cases k : cuts d x
        · rw [if_pos k, if_pos (cuts_sub hb hx hd w k)]
          exact Nat.le_refl _
        · rw [if_neg k]
          split <;> omega
      calc (1 + 2 * nar c) * ((if cuts d x then 1 + 2 * nar d else 1) * pw bs x)
          = (if cuts d x then 1 + 2 * nar d else 1) * ((1 + 2 * nar c) * pw bs x) := Nat.mul_left_comm ..
        _ ≤ (if cuts d b then 1 + 2 * nar d else 1) * pw bs b := Nat.mul_le_mul m1 ih
theorem sum_pw {bs : List (List Sg)} {q M : Nat} : ∀ l : List (List Sg), (∀ x ∈ l, q * pw bs x ≤ M) → q * (l.map (pw bs)).sum ≤ l.length * M
  | [], _ => by simp
  | x :: l, h => by
    have ih := sum_pw l fun y hy => h y (List.mem_cons_of_mem _ hy)
    have z := h x (List.mem_cons_self ..)
    simp only [List.map_cons, List.sum_cons, List.length_cons, Nat.mul_add, Nat.succ_mul]
    omega
/-- all pieces of a box beside a rule's -/
noncomputable def kids (b c : List Sg) : List (List Sg) := (match commonB b c with
  | none => []
  | some m => [m]) ++ restsB b c
theorem kids_in {b c : List Sg} (hb : InW b) (hc : InW c) : ∀ x ∈ kids b c, InW x ∧ Wth b x ∧ ¬ cuts c x := by
  intro x hx
  unfold kids at hx
  cases e : commonB b c with
  | none =>
    rw [e] at hx
    have er : restsB b c = [b] := by unfold restsB; rw [e]
    rw [er] at hx
    have : x = b := by simpa using hx
    subst this
    refine ⟨hb, Wth.refl, fun k => ?_⟩
    obtain ⟨m, e2⟩ := common_of hb hc k.1
    rw [e] at e2; cases e2
  | some m =>
    rw [e] at hx
    rcases List.mem_append.mp hx with z | z
    · rw [List.mem_singleton.mp z]
      obtain ⟨h1, h2, h3⟩ := common_in hb hc e
      exact ⟨h1, h2, fun k => k.2 h3⟩
    · obtain ⟨h1, h2, h3⟩ := (rests_in hb hc e).2 x z
      exact ⟨h1, h2, fun k => k.1 h3⟩
theorem kids_pw {b c : List Sg} {bs : List (List Sg)} (hb : InW b) (hbs : ∀ c ∈ bs, InW c) (hm : c ∈ bs) : ((kids b c).map (pw bs)).sum ≤ pw bs b := by
  have hc := hbs c hm
  by_cases k : cuts c b
  · have z := sum_pw (bs := bs) (q := 1 + 2 * nar c) (M := pw bs b) (kids b c) fun x hx => by
      obtain ⟨h1, h2, h3⟩ := kids_in hb hc x hx
      exact pw_cut hb h1 h2 k h3 bs hbs hm
    have kl : (kids b c).length ≤ 1 + 2 * nar c := by
      obtain ⟨m, e⟩ := common_of hb hc k.1
      have := (rests_in hb hc e).1
      unfold kids
      rw [e]
      simp; omega
    have z2 : (1 + 2 * nar c) * ((kids b c).map (pw bs)).sum ≤ (1 + 2 * nar c) * pw bs b := Nat.le_trans z (Nat.mul_le_mul_right _ kl)
    exact Nat.le_of_mul_le_mul_left z2 (by omega)
  · have e : kids b c = [b] := by
      unfold kids
      by_cases a : Apt b c
      · have e := common_apt a
        unfold restsB
        rw [e]; rfl
      · have w : Wth c b := Classical.byContradiction fun n => k ⟨a, n⟩
        rw [common_wth hb hc w, rests_wth hb hc w]; rfl
    rw [e]; simp
/-! ### rows -/
noncomputable def PlP (a en : Nat) (p : Pl) : Prop := match p with
  | .inr s => s = sPass ∨ s = sStop
  | .inl n => ∃ k : Nat, n = k ∧ a < k ∧ k ≤ en
structure RwP (bs : List (List Sg)) (a en : Nat) (r : Rw) : Prop where
  yes : PlP a en r.yes
  no : ∃ k : Nat, r.no = .inl (k : Int) ∧ a < k ∧ k ≤ en
  bx : r.bx ∈ bs
theorem PlP.up {a en en2 : Nat} {p : Pl} (h : en ≤ en2) (q : PlP a en p) : PlP a en2 p := by
  cases p with
  | inr s => exact q
  | inl n => obtain ⟨k, h1, h2, h3⟩ := q; exact ⟨k, h1, h2, by omega⟩
theorem RwP.up {bs : List (List Sg)} {a en en2 : Nat} {r : Rw} (h : en ≤ en2) (q : RwP bs a en r) : RwP bs a en2 r := by
  obtain ⟨h1, ⟨k, h2, h3, h4⟩, h5⟩ := q
  exact ⟨h1.up h, ⟨k, h2, h3, by omega⟩, h5⟩
/-- rows that go on and on -/
noncomputable def Rws (bs : List (List Sg)) (rows : List Rw) : Prop := (∀ (k : Nat) r, rows[k]? = some r → RwP bs k rows.length r) ∧ ∀ c ∈ bs, InW c
noncomputable def PlA (n f : Nat) (p : Pl) : Prop := match p with
  | .inr s => s = sPass ∨ s = sStop
  | .inl i => ∃ k : Nat, i = k ∧ k ≤ n ∧ n < k + f
theorem PlP.a {a n f : Nat} {p : Pl} (h : PlP a n p) (hf : n < a + 1 + f) : PlA n f p := by
  cases p with
  | inr s => exact h
  | inl i => obtain ⟨k, h1, h2, h3⟩ := h; exact ⟨k, h1, h3, by omega⟩
theorem RwP.noP {bs : List (List Sg)} {a n : Nat} {r : Rw} (h : RwP bs a n r) : PlP a n r.no := by
  obtain ⟨k, h2, h3, h4⟩ := h.no
  rw [h2]; exact ⟨k, rfl, h3, h4⟩
theorem kids_mem {b c x : List Sg} : x ∈ kids b c ↔ commonB b c = some x ∨ x ∈ restsB b c := by
  unfold kids
  cases commonB b c with
  | none => simp
  | some m => simp [eq_comm]
theorem look_ok {bs : List (List Sg)} {rows : List Rw} (hr : Rws bs rows) : ∀ (f : Nat) (b : List Sg) (p : Pl), InW b → PlA rows.length (f + 1) p → lookOk rows (f + 1) b p
  | _, _, .inr _, _, _ => trivial
  | f, b, .inl i, hb, hp => by
    obtain ⟨k, rfl, h1, h2⟩ := hp
    by_cases c : k = rows.length
    · exact .inl (by rw [c])
    · obtain ⟨r, hk⟩ : ∃ r, rows[k]? = some r := ⟨_, List.getElem?_eq_getElem (by omega)⟩
      have w := hr.1 k r hk
      have hc := hr.2 _ w.bx
      refine .inr ⟨k, r, rfl, hk, by rw [hc.1, hb.1], by rw [hb.1]; omega, fun m hm => ?_, fun x hx => ?_⟩
      · have q := (kids_in hb hc m (kids_mem.mpr (.inl hm))).1
        cases f with
        | zero => omega
        | succ f => exact look_ok hr f m r.yes q (w.yes.a (by omega))
      · have q := (kids_in hb hc x (kids_mem.mpr (.inr hx))).1
        cases f with
        | zero => omega
        | succ f => exact look_ok hr f x r.no q (w.noP.a (by omega))
theorem sum_looks {rows : List Rw} {bs : List (List Sg)} {f : Nat} {p : Pl} (n : Nat) : ∀ l : List (List Sg), (∀ x ∈ l, looks rows f x p ≤ n * pw bs x) → (l.map fun x => looks rows f x p).sum ≤ n * (l.map (pw bs)).sum
  | [], _ => by simp
  | x :: l, h => by
    have ih := sum_looks n l fun y hy => h y (List.mem_cons_of_mem _ hy)
    have z := h x (List.mem_cons_self ..)
    simp only [List.map_cons, List.sum_cons, Nat.mul_add]
    omega
theorem looks_le {bs : List (List Sg)} {rows : List Rw} (hr : Rws bs rows) : ∀ (f : Nat) (b : List Sg) (p : Pl), InW b → looks rows f b p ≤ (f + 1) * pw bs b
  | 0, b, p, _ => by have := pw_pos bs b; simp only [looks]; omega
  | f + 1, b, .inr s, _ => by
    have := pw_pos bs b
    simp only [looks]
    exact Nat.le_trans this (Nat.le_mul_of_pos_left _ (by omega))
  | f + 1, b, .inl i, hb => by
    have p1 := pw_pos bs b
    have one : 1 ≤ (f + 1 + 1) * pw bs b := Nat.le_trans p1 (Nat.le_mul_of_pos_left _ (by omega))
    simp only [looks]
    split
    · exact one
    · cases hk : rows[i.toNat]? with
      | none => exact one
      | some r =>
        have w := hr.1 _ r hk
        have hc := hr.2 _ w.bx
        have kp := kids_pw hb hr.2 w.bx
        have ki := kids_in hb hc
        have s2 : ((restsB b r.bx).map fun x => looks rows f x r.no).sum ≤ (f + 1) * ((restsB b r.bx).map (pw bs)).sum := sum_looks (f + 1) _ fun x hx => looks_le hr f x r.no (ki x (kids_mem.mpr (.inr hx))).1
        have e : (f + 1 + 1) * pw bs b = (f + 1) * pw bs b + pw bs b := Nat.succ_mul _ _
        simp only
        rw [e]
        unfold kids at kp
        cases ec : commonB b r.bx with
        | none =>
          rw [ec] at kp
          simp only [List.nil_append] at kp
          have := Nat.mul_le_mul_left (f + 1) kp
          simp only
          omega
        | some m =>
          rw [ec] at kp
          simp only [List.cons_append, List.nil_append, List.map_cons, List.sum_cons] at kp
          have s1 := looks_le hr f m r.yes (ki m (kids_mem.mpr (.inl ec))).1
          have := Nat.mul_le_mul_left (f + 1) kp
          rw [Nat.mul_add] at this
          simp only
          omega
/-! ### ways -/
inductive Wlk (rows : List Rw) (dflt : Str) (x : List Sg) : Pl → Wy → Str → Prop
  | word (s : Str) : Wlk rows dflt x (.inr s) [] s
  | fin : Wlk rows dflt x (.inl ((rows.length : Nat) : Int)) [] dflt
  | yes {k : Nat} {r : Rw} {w : Wy} {s : Str} : rows[k]? = some r → Wth r.bx x → Wlk rows dflt x r.yes w s → Wlk rows dflt x (.inl (k : Int)) (((k : Int), true) :: w) s
  | no {k : Nat} {r : Rw} {w : Wy} {s : Str} : rows[k]? = some r → Apt x r.bx → Wlk rows dflt x r.no w s → Wlk rows dflt x (.inl (k : Int)) (((k : Int), false) :: w) s
structure Told (rows : List Rw) (dflt : Str) (b : List Sg) (p : Pl) (w0 : Wy) (e : Res3) : Prop where
  box : InW e.1
  wth : Wth b e.1
  way : ∃ w, e.2.1 = w0 ++ w ∧ Wlk rows dflt e.1 p w e.2.2 ∧ w.length ≤ 1000
  word : e.2.2 = sPass ∨ e.2.2 = sStop
theorem look_told {bs : List (List Sg)} {rows : List Rw} {dflt : Str} (hd : dflt = sPass ∨ dflt = sStop) (hr : Rws bs rows) : ∀ (f : Nat) (b : List Sg) (p : Pl) (w0 : Wy), f ≤ 900 → InW b → PlA rows.length f p → ∀ e ∈ look rows dflt f b p w0, InW e.1 ∧ Wth b e.1 ∧ (∃ w, e.2.1 = w0 ++ w ∧ Wlk rows dflt e.1 p w e.2.2 ∧ w.length ≤ f) ∧ (e.2.2 = sPass ∨ e.2.2 = sStop)
  | 0, b, p, w0, _, _, _, e, h => by simp [look] at h
  | f + 1, b, .inr s, w0, _, hb, hp, e, h => by
    simp only [look, List.mem_singleton] at h
    subst h
    exact ⟨hb, Wth.refl, ⟨[], by simp, .word s, by simp⟩, hp⟩
  | f + 1, b, .inl i, w0, hf, hb, hp, e, h => by
    obtain ⟨k, rfl, h1, h2⟩ := hp
    by_cases c : k = rows.length
    · subst c
      simp only [look, if_pos, List.mem_singleton] at h
      subst h
      exact ⟨hb, Wth.refl, ⟨[], by simp, .fin, by simp⟩, hd⟩
    · obtain ⟨r, hk⟩ : ∃ r, rows[k]? = some r := ⟨_, List.getElem?_eq_getElem (by omega)⟩
      have w := hr.1 k r hk
      have hc := hr.2 _ w.bx
      rw [look_row (by omega) hk] at h
      have up : ∀ x p2 (t : Bool), InW x → Wth b x → PlA rows.length f p2 → (∀ y, InW y → Wth x y → ∀ v s, Wlk rows dflt y p2 v s → Wlk rows dflt y (.inl (k : Int)) (((k : Int), t) :: v) s) → e ∈ look rows dflt f x p2 (w0 ++ [((k : Int), t)]) → InW e.1 ∧ Wth b e.1 ∧ (∃ w, e.2.1 = w0 ++ w ∧ Wlk rows dflt e.1 (.inl (k : Int)) w e.2.2 ∧ w.length ≤ f + 1) ∧ (e.2.2 = sPass ∨ e.2.2 = sStop) := fun x p2 t hx wx hp2 go he => by
        obtain ⟨g1, g2, ⟨v, g3, g4, g5⟩, g6⟩ := look_told hd hr f x p2 _ (by omega) hx hp2 e he
        exact ⟨g1, wx.trans hx g1 g2 , ⟨((k : Int), t) :: v, by rw [g3]; simp, go _ g1 g2 _ _ g4, by simp; omega⟩, g6⟩
      rcases List.mem_append.mp h with z | z
      · cases ec : commonB b r.bx with
        | none => rw [ec] at z; cases z
        | some m =>
          rw [ec] at z
          obtain ⟨m1, m2, m3⟩ := common_in hb hc ec
          exact up m r.yes true m1 m2 (w.yes.a (by omega)) (fun y hy wy v s q => .yes hk (m3.trans m1 hy wy) q) z
      · obtain ⟨x, hx, he⟩ := List.mem_flatMap.mp z
        have ki := kids_in hb hc x (kids_mem.mpr (.inr hx))
        have ap : Apt x r.bx := by
          cases ec : commonB b r.bx with
          | none =>
            have er : restsB b r.bx = [b] := by unfold restsB; rw [ec]
            rw [er] at hx
            have : x = b := by simpa using hx
            subst this
            exact Classical.byContradiction fun n => by
              obtain ⟨m, e2⟩ := common_of hb hc n
              rw [ec] at e2; cases e2
          | some m => exact ((rests_in hb hc ec).2 x hx).2.2
        exact up x r.no false ki.1 ki.2.1 (w.noP.a (by omega)) (fun y hy wy v s q => .no hk (ap.sub hy ki.1 wy) q) he
/-! ### a drawn book is well built -/
/-- what is to be known of the rows of a drawn book -/
structure DRows (bs : List (List Sg)) (rows : List Rw) : Prop where
  rws : Rws bs rows
  len : rows.length ≤ 28
  few : prodB bs ≤ 45
theorem DRows.ok {bs : List (List Sg)} {rows : List Rw} (h : DRows bs rows) {b : List Sg} (hb : InW b) : lookOk rows 29 b (.inl 0) := look_ok h.rws 28 b (.inl 0) hb ⟨0, rfl, Nat.zero_le _, by have := h.len; omega⟩
theorem DRows.n {bs : List (List Sg)} {rows : List Rw} (h : DRows bs rows) {b : List Sg} (hb : InW b) : looks rows 29 b (.inl 0) ≤ 1350 := by
  refine Nat.le_trans (looks_le h.rws 29 b (.inl 0) hb) ?_
  have := Nat.le_trans (pw_le bs b) h.few
  omega
theorem DRows.told {bs : List (List Sg)} {rows : List Rw} (h : DRows bs rows) {dflt : Str} (hd : dflt = sPass ∨ dflt = sStop) {b : List Sg} (hb : InW b) : ∀ e ∈ look rows dflt 29 b (.inl 0) [], InW e.1 ∧ Wth b e.1 ∧ (∃ w, e.2.1 = w ∧ Wlk rows dflt e.1 (.inl 0) w e.2.2 ∧ w.length ≤ 29) ∧ (e.2.2 = sPass ∨ e.2.2 = sStop) := by
  intro e he
  have z := look_told hd h.rws 29 b (.inl 0) [] (by omega) hb ⟨0, rfl, Nat.zero_le _, by have := h.len; omega⟩ e he
  simp only [List.nil_append] at z
  exact z
end
/-! Mini: talks and tables -/
section
open PySem
open Classical
structure Lb where
  k : Int
  s : Int
  n : Int
  r : Int
  f : Int
  deriving DecidableEq
noncomputable def lbV (l : Lb) : Val := .tup [.int l.k, .int l.s, .int l.n, .int l.r, .int l.f]
noncomputable def Lb.flip (l : Lb) : Lb := ⟨l.k, l.r, l.f, l.s, l.n⟩
noncomputable def lbD (l : Lb) : PyData := .tuple [.int l.k, .int l.s, .int l.n, .int l.r, .int l.f]
structure Tk where
  label : Lb
  sent : Lb
  til : Int
  ans : Bool
  f1 : Bool
  f2 : Bool
noncomputable def tkF (t : Tk) : List (String × Val) := [("label", lbV t.label), ("sent", lbV t.sent), ("until", .int t.til), ("answered", .bl t.ans), ("farewells", .tup [.bl t.f1, .bl t.f2])]
structure Tbl where
  short : Int
  long : Int
  most : Int
  time : Int
  talks : List Tk
noncomputable def tbF (t : Tbl) (L : Nat) : List (String × Val) := [("short", .int t.short), ("long", .int t.long), ("most", .int t.most), ("time", .int t.time), ("talks", .ref L)]
noncomputable def TkAt (h : MH) (i : Nat) (t : Tk) : Prop := h[i]? = some (.ins "Talk" (tkF t))
structure TabAt (h : MH) (A L : Nat) (is : List Nat) (t : Tbl) : Prop where
  a : h[A]? = some (.ins "Table" (tbF t L))
  l : h[L]? = some (.lst true (is.map .ref))
  t : F2 (TkAt h) is t.talks
  nd : is.Nodup
/-- what of the program is asked -/
class TalkPg (P : Pg) : Prop where
  m1 : P.mro "Talk" "key_back" = some "Talk.key_back"
  m2 : P.mro "Table" "talk_by" = some "Table.talk_by"
  m3 : P.mro "Table" "free" = some "Table.free"
  m4 : P.mro "Table" "is_full" = some "Table.is_full"
  m5 : P.mro "Talk" "__init__" = some "Talk.__init__"
  f1 : (P.flds "Talk").contains "label" = true
  f2 : (P.flds "Talk").contains "sent" = true
  f3 : (P.flds "Talk").contains "until" = true
  f4 : (P.flds "Talk").contains "answered" = true
  f5 : (P.flds "Talk").contains "farewells" = true
  f6 : (P.flds "Table").contains "short" = true
  f7 : (P.flds "Table").contains "long" = true
  f8 : (P.flds "Table").contains "most" = true
  f9 : (P.flds "Table").contains "time" = true
  f10 : (P.flds "Table").contains "talks" = true
section
variable {P : Pg} [TalkPg P]
theorem tp_m1 : P.mro "Talk" "key_back" = some "Talk.key_back" := TalkPg.m1
theorem tp_m2 : P.mro "Table" "talk_by" = some "Table.talk_by" := TalkPg.m2
theorem tp_m3 : P.mro "Table" "free" = some "Table.free" := TalkPg.m3
theorem tp_m4 : P.mro "Table" "is_full" = some "Table.is_full" := TalkPg.m4
theorem tp_m5 : P.mro "Talk" "__init__" = some "Talk.__init__" := TalkPg.m5
theorem tp_f1 : (P.flds "Talk").contains "label" = true := TalkPg.f1
theorem tp_f2 : (P.flds "Talk").contains "sent" = true := TalkPg.f2
theorem tp_f3 : (P.flds "Talk").contains "until" = true := TalkPg.f3
theorem tp_f4 : (P.flds "Talk").contains "answered" = true := TalkPg.f4
theorem tp_f5 : (P.flds "Talk").contains "farewells" = true := TalkPg.f5
theorem tp_f6 : (P.flds "Table").contains "short" = true := TalkPg.f6
theorem tp_f7 : (P.flds "Table").contains "long" = true := TalkPg.f7
theorem tp_f8 : (P.flds "Table").contains "most" = true := TalkPg.f8
theorem tp_f9 : (P.flds "Table").contains "time" = true := TalkPg.f9
theorem tp_f10 : (P.flds "Table").contains "talks" = true := TalkPg.f10
end
local macro_rules
  | `(tactic| subst_eqs) => do
    let xs := ("tp_m1 tp_m2 tp_m3 tp_m4 tp_m5 tp_f1 tp_f2 tp_f3 tp_f4 tp_f5 tp_f6 tp_f7 tp_f8 tp_f9 tp_f10".splitOn " ").toArray.map fun s => (⟨(Lean.mkIdent s.toName).raw⟩ : Lean.TSyntax `term)
    `(tactic| specialize [$xs,*])
local macro_rules
  | `(tactic| exists $ts,*) => do
    let xs := ("tp_m1 tp_m2 tp_m3 tp_m4 tp_m5 tp_f1 tp_f2 tp_f3 tp_f4 tp_f5 tp_f6 tp_f7 tp_f8 tp_f9 tp_f10".splitOn " ").toArray.map fun s => (⟨(Lean.mkIdent s.toName).raw⟩ : Lean.TSyntax `term)
    `(tactic| specialize [$(xs ++ ts.getElems),*])
/-- flip(label); names 0 label, 1 kind, 2 sender, 3 near, 4 receiver, 5 far -/
noncomputable def dS_flip : Df := { ps := [Str.ofString "label"], np := 1, nn := 6, body :=
   [.asg (.tp [1, 2, 3, 4, 5]) (.var 0),
    .ret (.tup [.var 1, .var 4, .var 5, .var 2, .var 3])] }
/-- Talk.__init__(self, label, sent, until); names 0 self, 1 label, 2 sent, 3 until -/
noncomputable def dS_Talk___init__ : Df := { ps := [Str.ofString "self", Str.ofString "label", Str.ofString "sent", Str.ofString "until"], np := 4, nn := 4, body :=
   [.fld (.var 0) "label" (.var 1),
    .fld (.var 0) "sent" (.var 2),
    .fld (.var 0) "until" (.var 3),
    .fld (.var 0) "answered" (.con (.bl false)),
    .fld (.var 0) "farewells" (.tup [.con (.bl false), .con (.bl false)])] }
/-- Talk.key_back(self); names 0 self -/
noncomputable def dS_Talk_key_back : Df := { ps := [Str.ofString "self"], np := 1, nn := 1, body :=
   [.ret (.call "flip" [.fld (.var 0) "sent"])] }
/-- Table.__init__(self, short, long, most); names 0 self, 1 short, 2 long, 3 most -/
noncomputable def dS_Table___init__ : Df := { ps := [Str.ofString "self", Str.ofString "short", Str.ofString "long", Str.ofString "most"], np := 4, nn := 4, body :=
   [.fld (.var 0) "short" (.var 1),
    .fld (.var 0) "long" (.var 2),
    .fld (.var 0) "most" (.var 3),
    .fld (.var 0) "time" (.con (.int 0)),
    .fld (.var 0) "talks" (.lst [])] }
/-- Table.talk_by(self, label); names 0 self, 1 label, 2 talk -/
noncomputable def dS_Table_talk_by : Df := { ps := [Str.ofString "self", Str.ofString "label"], np := 2, nn := 3, body :=
   [.forS (.nm 2) .val [.fld (.var 0) "talks"]
      [.ite (.or (.cmp .Eq (.var 1) (.fld (.var 2) "label")) (.cmp .Eq (.var 1) (.own "key_back" (.var 2) [])))
         [.ret (.var 2)]
         []],
    .ret (.con (.non))] }
/-- Table.turn(self, label); names 0 self, 1 label, 2 talk -/
noncomputable def dS_Table_turn : Df := { ps := [Str.ofString "self", Str.ofString "label"], np := 2, nn := 3, body :=
   [.asg (.nm 2) (.own "talk_by" (.var 0) [.var 1]),
    .ite (.isN (.var 2))
      [.ret (.con (.int 0))]
      [],
    .ite (.cmp .NotEq (.var 1) (.fld (.var 2) "label"))
      [.ret (.con (.int 3))]
      [],
    .ite (.fld (.var 2) "answered")
      [.ret (.con (.int 2))]
      [],
    .ret (.con (.int 1))] }
/-- Table.free(self, label, sent); names 0 self, 1 label, 2 sent, 3 key -/
noncomputable def dS_Table_free : Df := { ps := [Str.ofString "self", Str.ofString "label", Str.ofString "sent"], np := 3, nn := 4, body :=
   [.asg (.nm 3) (.call "flip" [.var 2]),
    .ite (.cmp .Eq (.var 1) (.var 3))
      [.ret (.con (.bl false))]
      [],
    .ret (.and (.isN (.own "talk_by" (.var 0) [.var 1])) (.isN (.own "talk_by" (.var 0) [.var 3])))] }
/-- Table.is_full(self); names 0 self -/
noncomputable def dS_Table_is_full : Df := { ps := [Str.ofString "self"], np := 1, nn := 1, body :=
   [.ret (.cmp .GtE (.bi .len [.fld (.var 0) "talks"]) (.fld (.var 0) "most"))] }
/-- Table.begin(self, label, sent); names 0 self, 1 label, 2 sent -/
noncomputable def dS_Table_begin : Df := { ps := [Str.ofString "self", Str.ofString "label", Str.ofString "sent"], np := 3, nn := 3, body :=
   [.ite (.own "is_full" (.var 0) [])
      [.rai "Full" [.con (.str (Str.ofString "as many talks stand as may"))]]
      [],
    .ite (.not (.own "free" (.var 0) [.var 1, .var 2]))
      [.rai "Taken" [.con (.str (Str.ofString "labels that are not free"))]]
      [],
    .exp (.mth .append (.fld (.var 0) "talks") [.new "Talk" [.var 1, .var 2, .bin .Add (.fld (.var 0) "time") (.fld (.var 0) "short")]])] }
/-- Table.standing(self); names 0 self, 1 talk -/
noncomputable def dS_Table_standing : Df := { ps := [Str.ofString "self"], np := 1, nn := 2, body :=
   [.ret (.cmp1 [1] (.tup [.fld (.var 1) "label", .fld (.var 1) "sent", .fld (.var 1) "answered", .fld (.var 1) "until"]) (.nm 1) .val [.fld (.var 0) "talks"] none)] }
section
variable {P : Pg} {h : MH} {Q : Val → MH → Prop} {Z : XP}
noncomputable abbrev FlipOk (P : Pg) : Prop := ∀ {h : MH} {l : Lb} {Q : Val → MH → Prop} {Z : XP}, (P.cf "flip" [lbV l] h).wp Q Z = Q (lbV l.flip) h
noncomputable abbrev KeyOk (P : Pg) : Prop := ∀ {h : MH} {i : Nat} {t : Tk} {Q : Val → MH → Prop} {Z : XP}, TkAt h i t → (P.cf "Talk.key_back" [.ref i] h).wp Q Z = Q (lbV t.sent.flip) h
noncomputable def hit (l : Lb) (t : Tk) : Bool := decide (l = t.label) || decide (l = t.sent.flip)
noncomputable def tby (l : Lb) : List Nat → List Tk → Option (Nat × Tk)
  | i :: is, t :: ts => if hit l t = true then some (i, t) else tby l is ts
  | _, _ => none
noncomputable def opR : Option (Nat × Tk) → Val
  | none => .non
  | some p => .ref p.1
noncomputable def isKey (l : Lb) (ts : List Tk) : Bool := ts.any (hit l)
noncomputable abbrev TalkByOk (P : Pg) : Prop := ∀ {h : MH} {A L : Nat} {is : List Nat} {tb : Tbl} {l : Lb} {Q : Val → MH → Prop} {Z : XP}, TabAt h A L is tb → (P.cf "Table.talk_by" [.ref A, lbV l] h).wp Q Z = Q (opR (tby l is tb.talks)) h
noncomputable def freeT (ts : List Tk) (l s : Lb) : Bool := !decide (l = s.flip) && (!isKey l ts && !isKey s.flip ts)
noncomputable abbrev FreeOk (P : Pg) : Prop := ∀ {h : MH} {A L : Nat} {is : List Nat} {tb : Tbl} {l s : Lb} {Q : Val → MH → Prop} {Z : XP}, TabAt h A L is tb → (P.cf "Table.free" [.ref A, lbV l, lbV s] h).wp Q Z = Q (.bl (freeT tb.talks l s)) h
noncomputable abbrev FullOk (P : Pg) : Prop := ∀ {h : MH} {A L : Nat} {is : List Nat} {tb : Tbl} {Q : Val → MH → Prop} {Z : XP}, TabAt h A L is tb → (P.cf "Table.is_full" [.ref A] h).wp Q Z = Q (.bl (decide (tb.most ≤ tb.talks.length))) h
noncomputable def turnT (o : Option (Nat × Tk)) (l : Lb) : Int := match o with
  | none => 0
  | some p => if l = p.2.label then (if p.2.ans = true then 2 else 1) else 3
/-- what stood stands, but at these places -/
noncomputable def Chg (ps : List Nat) (h h' : MH) : Prop := h.length ≤ h'.length ∧ ∀ j, j < h.length → j ∉ ps → h'[j]? = h[j]?
theorem F2.impm {α β : Type} {R R' : α → β → Prop} : ∀ {l : List α} {r : List β}, F2 R l r → (∀ a b, a ∈ l → R a b → R' a b) → F2 R' l r
  | _, _, .nil, _ => .nil
  | _, _, .cons h t, k => .cons (k _ _ (List.mem_cons_self ..) h) (F2.impm t fun a b m => k a b (List.mem_cons_of_mem _ m))
theorem Chg.get {ps : List Nat} {h h' : MH} (c : Chg ps h h') {j : Nat} {o : Ob} (e : h[j]? = some o) (n : j ∉ ps) : h'[j]? = some o := by rw [c.2 j (lt_of e) n, e]
theorem Chg.refl {ps : List Nat} {h : MH} : Chg ps h h := ⟨Nat.le_refl _, fun _ _ _ => rfl⟩
theorem Chg.trans {ps qs : List Nat} {h h1 h2 : MH} (a : Chg ps h h1) (b : Chg qs h1 h2) (k : ∀ j, j < h.length → j ∉ ps → j ∉ qs) : Chg ps h h2 :=
  ⟨Nat.le_trans a.1 b.1, fun j hj n => by have := a.1; rw [b.2 j (by omega) (k j hj n), a.2 j hj n]⟩
theorem Chg.gr {ps : List Nat} {h h' : MH} (g : Gr h h') : Chg ps h h' := ⟨g.len, fun j hj _ => by
  obtain ⟨r, rfl⟩ := g
  rw [List.getElem?_append_left hj]⟩
theorem Chg.up {ps : List Nat} {h h' : MH} (u : Up h.length h h') : Chg ps h h' := ⟨u.1, fun j hj _ => u.2 j hj⟩
theorem TabAt.chg {h h' : MH} {ps : List Nat} {A L : Nat} {is : List Nat} {t : Tbl} (T : TabAt h A L is t) (c : Chg ps h h') (nA : A ∉ ps) (nL : L ∉ ps) (ni : ∀ i ∈ is, i ∉ ps) : TabAt h' A L is t := by
  refine ⟨c.get T.a nA, c.get T.l nL, ?_, T.nd⟩
  have key : ∀ {is : List Nat} {ts : List Tk}, F2 (TkAt h) is ts → (∀ i ∈ is, i ∉ ps) → F2 (TkAt h') is ts := by
    intro is ts f
    induction f with
    | nil => intro _; exact .nil
    | cons r t ih => intro n; exact .cons (c.get r (n _ (List.mem_cons_self ..))) (ih fun i hi => n i (List.mem_cons_of_mem _ hi))
  exact key T.t ni
theorem TabAt.gr {h h' : MH} {A L : Nat} {is : List Nat} {t : Tbl} (T : TabAt h A L is t) (g : Gr h h') : TabAt h' A L is t := T.chg (ps := []) (.gr g) (by simp) (by simp) (by simp)
theorem TabAt.up {h h' : MH} {A L : Nat} {is : List Nat} {t : Tbl} (T : TabAt h A L is t) (u : Up h.length h h') : TabAt h' A L is t := T.chg (ps := []) (.up u) (by simp) (by simp) (by simp)
theorem TabAt.mem {h : MH} {A L : Nat} {is : List Nat} {t : Tbl} (T : TabAt h A L is t) {i : Nat} (hi : i ∈ is) : ∃ tk, h[i]? = some (.ins "Talk" (tkF tk)) := by
  have key : ∀ {is : List Nat} {ts : List Tk}, F2 (TkAt h) is ts → i ∈ is → ∃ tk, h[i]? = some (.ins "Talk" (tkF tk)) := by
    intro is ts f
    induction f with
    | nil => intro m; cases m
    | cons r t ih =>
      intro m
      rcases List.mem_cons.mp m with z | z
      · subst z; exact ⟨_, r⟩
      · exact ih z
  exact key T.t hi
noncomputable abbrev TalkInitOk (P : Pg) : Prop := ∀ {h : MH} {l s : Lb} {u : Int} {Q : Val → MH → Prop} {Z : XP}, (P.cf "Talk.__init__" [.ref h.length, lbV l, lbV s, .int u] (h ++ [.ins "Talk" []])).wp Q Z = Q .non (h ++ [.ins "Talk" (tkF ⟨l, s, u, false, false, false⟩)])
noncomputable def stdV (t : Tk) : Val := .tup [lbV t.label, lbV t.sent, .bl t.ans, .int t.til]
/-! == of a list with another that holds the same -/
/-- _law_stream(_law_cell, _law_many); names 0 _law_cell, 1 _law_many, 2 _law_found, 3 _law_number, 4 _law_k -/
noncomputable def dS_law_stream : Df := { ps := [Str.ofString "_law_cell", Str.ofString "_law_many"], np := 2, nn := 5, body :=
   [.asg (.nm 2) (.lst []),
    .asg (.nm 3) (.bin .Add (.bin .Mod (.var 0) (.con (.int 4294967311))) (.con (.int 48271))),
    .forS (.nm 4) .rng [.var 1]
      [.asg (.nm 3) (.bin .Mod (.bin .Add (.bin .Add (.bin .Mult (.var 3) (.var 3)) (.bin .Mult (.con (.int 69621)) (.var 3))) (.var 4)) (.con (.int 4294967311))),
       .exp (.mth .append (.var 2) [.var 3])],
    .ret (.var 2)] }
/-- _law_flip(_law_label_here); names 0 _law_label_here -/
noncomputable def dS_law_flip : Df := { ps := [Str.ofString "_law_label_here"], np := 1, nn := 1, body :=
   [.ret (.tup [.idx (.var 0) (.con (.int 0)), .idx (.var 0) (.con (.int 3)), .idx (.var 0) (.con (.int 4)), .idx (.var 0) (.con (.int 1)), .idx (.var 0) (.con (.int 2))])] }
/-- numbers drawn from a number -/
noncomputable abbrev StreamOk (P : Pg) : Prop := ∀ {h : MH} {c : Int} {m : Nat}, m ≤ 100 → (P.cf "_law_stream" [.int c, .int m] h).wp (fun v h' => ∃ ds : List Int, LstAt h' v (ds.map .int) h.length ∧ ds.length = m ∧ (∀ d ∈ ds, 0 ≤ d ∧ d < 4294967311) ∧ Gr h h') NoE
noncomputable def ISt (h : MH) (c : Int) (m : Nat) (i : Nat) (ρ : Env') (h' : MH) : Prop := ∃ (ds : List Int) (n : Int) (x : Option Val), ρ = [some (.int c), some (.int m), some (.ref h.length), some (.int n), x] ∧ h' = h ++ [.lst true (ds.map .int)] ∧ ds.length = i ∧ (0 ≤ n ∧ n < 4295015582) ∧ ∀ d ∈ ds, 0 ≤ d ∧ d < 4294967311
end
end
/-! Mini: rules as objects -/
section
open PySem
open Classical
/-- what of the program is asked -/
class RulePg (P : Pg) : Prop where
  m1 : P.mro "Word" "__init__" = some "Word.__init__"
  m2 : P.mro "Back" "__init__" = some "Rule.__init__"
  m3 : P.mro "Call" "__init__" = some "Call.__init__"
  f1 : (P.flds "Word").contains "box" = true
  f2 : (P.flds "Word").contains "word" = true
  f3 : (P.flds "Back").contains "box" = true
  f4 : (P.flds "Call").contains "box" = true
  f5 : (P.flds "Call").contains "name" = true
section
variable {P : Pg} [RulePg P]
theorem ru_m1 : P.mro "Word" "__init__" = some "Word.__init__" := RulePg.m1
theorem ru_m2 : P.mro "Back" "__init__" = some "Rule.__init__" := RulePg.m2
theorem ru_m3 : P.mro "Call" "__init__" = some "Call.__init__" := RulePg.m3
theorem ru_f1 : (P.flds "Word").contains "box" = true := RulePg.f1
theorem ru_f2 : (P.flds "Word").contains "word" = true := RulePg.f2
theorem ru_f3 : (P.flds "Back").contains "box" = true := RulePg.f3
theorem ru_f4 : (P.flds "Call").contains "box" = true := RulePg.f4
theorem ru_f5 : (P.flds "Call").contains "name" = true := RulePg.f5
end
local macro_rules
  | `(tactic| subst_eqs) => do
    let xs := ("ru_m1 ru_m2 ru_m3 ru_f1 ru_f2 ru_f3 ru_f4 ru_f5".splitOn " ").toArray.map fun s => (⟨(Lean.mkIdent s.toName).raw⟩ : Lean.TSyntax `term)
    `(tactic| specialize [$xs,*])
local macro_rules
  | `(tactic| exists $ts,*) => do
    let xs := ("ru_m1 ru_m2 ru_m3 ru_f1 ru_f2 ru_f3 ru_f4 ru_f5".splitOn " ").toArray.map fun s => (⟨(Lean.mkIdent s.toName).raw⟩ : Lean.TSyntax `term)
    `(tactic| specialize [$(xs ++ ts.getElems),*])
/-- Rule.__init__(self, box); names 0 self, 1 box -/
noncomputable def dS_Rule___init__ : Df := { ps := [Str.ofString "self", Str.ofString "box"], np := 2, nn := 2, body :=
   [.fld (.var 0) "box" (.var 1)] }
/-- Rule.fits(self, parcel); names 0 self, 1 parcel -/
noncomputable def dS_Rule_fits : Df := { ps := [Str.ofString "self", Str.ofString "parcel"], np := 2, nn := 2, body :=
   [.ret (.call "has" [.fld (.var 0) "box", .var 1])] }
/-- Word.__init__(self, box, word); names 0 self, 1 box, 2 word -/
noncomputable def dS_Word___init__ : Df := { ps := [Str.ofString "self", Str.ofString "box", Str.ofString "word"], np := 3, nn := 3, body :=
   [.exp (.call "Rule.__init__" [.var 0, .var 1]),
    .fld (.var 0) "word" (.var 2)] }
/-- Call.__init__(self, box, name); names 0 self, 1 box, 2 name -/
noncomputable def dS_Call___init__ : Df := { ps := [Str.ofString "self", Str.ofString "box", Str.ofString "name"], np := 3, nn := 3, body :=
   [.exp (.call "Rule.__init__" [.var 0, .var 1]),
    .fld (.var 0) "name" (.var 2)] }
/-- rule_of(row); names 0 row -/
noncomputable def dS_rule_of : Df := { ps := [Str.ofString "row"], np := 1, nn := 1, body :=
   [.ite (.cmp .Eq (.idx (.var 0) (.con (.int 0))) (.con (.str (Str.ofString "call"))))
      [.ret (.new "Call" [.idx (.var 0) (.con (.int 1)), .idx (.var 0) (.con (.int 2))])]
      [],
    .ite (.cmp .Eq (.idx (.var 0) (.con (.int 0))) (.con (.str (Str.ofString "back"))))
      [.ret (.new "Back" [.idx (.var 0) (.con (.int 1))])]
      [],
    .ret (.new "Word" [.idx (.var 0) (.con (.int 1)), .idx (.var 0) (.con (.int 0))])] }
/-- the object that a rule is -/
noncomputable def ruC : Rl → String
  | .word _ _ => "Word"
  | .back _ => "Back"
  | .call _ _ => "Call"
noncomputable def ruF : Rl → List (String × Val)
  | .word s b => [("box", bxV b), ("word", .str (wdS s))]
  | .back b => [("box", bxV b)]
  | .call b nm => [("box", bxV b), ("name", .str nm)]
noncomputable def ruO (r : Rl) : Ob := .ins (ruC r) (ruF r)
section
variable {P : Pg} {h : MH} {Q : Val → MH → Prop} {Z : XP}
theorem ruo_w {s : Bool} {b : List Sg} : ruO (.word s b) = .ins "Word" [("box", bxV b), ("word", .str (wdS s))] := id rfl
theorem ruo_b {b : List Sg} : ruO (.back b) = .ins "Back" [("box", bxV b)] := id rfl
theorem ruo_c {b : List Sg} {nm : Str} : ruO (.call b nm) = .ins "Call" [("box", bxV b), ("name", .str nm)] := id rfl
noncomputable abbrev RuleInitOk (P : Pg) : Prop := ∀ {h : MH} {C : String} {b : List Sg} {Q : Val → MH → Prop} {Z : XP}, (P.flds C).contains "box" = true → (P.cf "Rule.__init__" [.ref h.length, bxV b] (h ++ [.ins C []])).wp Q Z = Q .non (h ++ [.ins C [("box", bxV b)]])
noncomputable abbrev WordInitOk (P : Pg) : Prop := ∀ {h : MH} {b : List Sg} {w : Str} {Q : Val → MH → Prop} {Z : XP}, (P.cf "Word.__init__" [.ref h.length, bxV b, .str w] (h ++ [.ins "Word" []])).wp Q Z = Q .non (h ++ [.ins "Word" [("box", bxV b), ("word", .str w)]])
noncomputable abbrev CallInitOk (P : Pg) : Prop := ∀ {h : MH} {b : List Sg} {w : Str} {Q : Val → MH → Prop} {Z : XP}, (P.cf "Call.__init__" [.ref h.length, bxV b, .str w] (h ++ [.ins "Call" []])).wp Q Z = Q .non (h ++ [.ins "Call" [("box", bxV b), ("name", .str w)]])
end
end
/-! Mini: books as objects -/
section
open PySem
open Classical
class BookPg (P : Pg) : Prop where
  m1 : P.mro "Book" "__init__" = some "Book.__init__"
  m2 : P.mro "Book" "chain_names" = some "Book.chain_names"
  m3 : P.mro "Book" "need_calls" = some "Book.need_calls"
  f1 : (P.flds "Book").contains "default" = true
  f2 : (P.flds "Book").contains "chains" = true
  f3 : (P.flds "Book").contains "total" = true
  f4 : (P.flds "Call").contains "name" = true
  s1 : P.sub "Word" "Call" = some false
  s2 : P.sub "Back" "Call" = some false
  s3 : P.sub "Call" "Call" = some true
  g1 : P.glb "LONGEST" = some (.int 120)
section
variable {P : Pg} [BookPg P]
theorem bk_m1 : P.mro "Book" "__init__" = some "Book.__init__" := BookPg.m1
theorem bk_m2 : P.mro "Book" "chain_names" = some "Book.chain_names" := BookPg.m2
theorem bk_m3 : P.mro "Book" "need_calls" = some "Book.need_calls" := BookPg.m3
theorem bk_f1 : (P.flds "Book").contains "default" = true := BookPg.f1
theorem bk_f2 : (P.flds "Book").contains "chains" = true := BookPg.f2
theorem bk_f3 : (P.flds "Book").contains "total" = true := BookPg.f3
theorem bk_f4 : (P.flds "Call").contains "name" = true := BookPg.f4
theorem bk_s1 : P.sub "Word" "Call" = some false := BookPg.s1
theorem bk_s2 : P.sub "Back" "Call" = some false := BookPg.s2
theorem bk_s3 : P.sub "Call" "Call" = some true := BookPg.s3
theorem bk_g1 : P.glb "LONGEST" = some (.int 120) := BookPg.g1
end
local macro_rules
  | `(tactic| subst_eqs) => do
    let xs := ("bk_m1 bk_m2 bk_m3 bk_f1 bk_f2 bk_f3 bk_f4 bk_s1 bk_s2 bk_s3 bk_g1 wi_nil wi_cons".splitOn " ").toArray.map fun s => (⟨(Lean.mkIdent s.toName).raw⟩ : Lean.TSyntax `term)
    `(tactic| specialize [$xs,*])
local macro_rules
  | `(tactic| exists $ts,*) => do
    let xs := ("bk_m1 bk_m2 bk_m3 bk_f1 bk_f2 bk_f3 bk_f4 bk_s1 bk_s2 bk_s3 bk_g1 wi_nil wi_cons".splitOn " ").toArray.map fun s => (⟨(Lean.mkIdent s.toName).raw⟩ : Lean.TSyntax `term)
    `(tactic| specialize [$(xs ++ ts.getElems),*])
/-- calls_of(rules); names 0 rules, 1 rule -/
noncomputable def dS_calls_of : Df := { ps := [Str.ofString "rules"], np := 1, nn := 2, body :=
   [.ret (.cmp1 [1] (.fld (.var 1) "name") (.nm 1) .val [.var 0] (some (.isi (.var 1) "Call")))] }
/-- lengths_of(chains); names 0 chains, 1 known, 2 again, 3 name, 4 rules, 5 calls, 6 one -/
noncomputable def dS_lengths_of : Df := { ps := [Str.ofString "chains"], np := 1, nn := 7, body :=
   [.asg (.nm 1) (.dct [] []),
    .forS (.nm 2) .rng [.bi .len [.var 0]]
      [.forS (.tp [3, 4]) .itm [.var 0]
         [.asg (.nm 5) (.call "calls_of" [.var 4]),
          .ite (.and (.cmp .NotIn (.var 3) (.var 1)) (.bi .all [.cmp1 [6] (.cmp .In (.var 6) (.var 1)) (.nm 6) .val [.var 5] none]))
            [.sub (.var 1) (.var 3) (.bin .Add (.bi .len [.var 4]) (.bi .sum [.cmp1 [6] (.idx (.var 1) (.var 6)) (.nm 6) .val [.var 5] none]))]
            []]],
    .ret (.var 1)] }
/-- Book.__init__(self, default, chains); names 0 self, 1 default, 2 chains, 3 name, 4 rows, 5 known, 6 row -/
noncomputable def dS_Book___init__ : Df := { ps := [Str.ofString "self", Str.ofString "default", Str.ofString "chains"], np := 3, nn := 7, body :=
   [.fld (.var 0) "default" (.var 1),
    .fld (.var 0) "chains" (.dct [] []),
    .forS (.tp [3, 4]) .val [.var 2]
      [.ite (.cmp .In (.var 3) (.fld (.var 0) "chains"))
         [.rai "TwoChains" [.var 3]]
         [],
       .sub (.fld (.var 0) "chains") (.var 3) (.cmp1 [6] (.call "rule_of" [.var 6]) (.nm 6) .val [.var 4] none)],
    .forS (.nm 3) .val [.own "chain_names" (.var 0) []]
      [.exp (.own "need_calls" (.var 0) [.var 3])],
    .asg (.nm 5) (.call "lengths_of" [.fld (.var 0) "chains"]),
    .forS (.nm 3) .val [.own "chain_names" (.var 0) []]
      [.ite (.cmp .NotIn (.var 3) (.var 5))
         [.rai "Ring" [.call "ring_of" [.fld (.var 0) "chains", .var 5, .var 3]]]
         []],
    .ite (.cmp .Gt (.idx (.var 5) (.con (.str (Str.ofString "main")))) (.glb "LONGEST"))
      [.rai "TooLong" [.idx (.var 5) (.con (.str (Str.ofString "main")))]]
      [],
    .fld (.var 0) "total" (.idx (.var 5) (.con (.str (Str.ofString "main"))))] }
/-- Book.need_calls(self, name); names 0 self, 1 name, 2 one -/
noncomputable def dS_Book_need_calls : Df := { ps := [Str.ofString "self", Str.ofString "name"], np := 2, nn := 3, body :=
   [.forS (.nm 2) .val [.call "calls_of" [.idx (.fld (.var 0) "chains") (.var 1)]]
      [.ite (.cmp .NotIn (.var 2) (.fld (.var 0) "chains"))
         [.rai "NoChain" [.var 2]]
         []]] }
/-- Book.chain_names(self); names 0 self -/
noncomputable def dS_Book_chain_names : Df := { ps := [Str.ofString "self"], np := 1, nn := 1, body :=
   [.ret (.bi .list [.fld (.var 0) "chains"])] }
/-- Book.chain(self, name); names 0 self, 1 name -/
noncomputable def dS_Book_chain : Df := { ps := [Str.ofString "self", Str.ofString "name"], np := 2, nn := 2, body :=
   [.ite (.cmp .NotIn (.var 1) (.fld (.var 0) "chains"))
      [.rai "NoChain" [.var 1]]
      [],
    .ret (.bi .list [.idx (.fld (.var 0) "chains") (.var 1)])] }
/-- read_chain(book, name, parcel, steps); names 0 book, 1 name, 2 parcel, 3 steps, 4 index, 5 rule, 6 fits, 7 word -/
noncomputable def dS_read_chain : Df := { ps := [Str.ofString "book", Str.ofString "name", Str.ofString "parcel", Str.ofString "steps"], np := 4, nn := 8, body :=
   [.forS (.tp [4, 5]) .enm [.own "chain" (.var 0) [.var 1]]
      [.asg (.nm 6) (.own "fits" (.var 5) [.var 2]),
       .exp (.mth .append (.var 3) [.tup [.var 1, .var 4, .var 6]]),
       .ite (.not (.var 6))
         [.cnt]
         [],
       .ite (.isi (.var 5) "Word")
         [.ret (.fld (.var 5) "word")]
         [],
       .ite (.not (.isi (.var 5) "Call"))
         [.ret (.con (.non))]
         [],
       .asg (.nm 7) (.call "read_chain" [.var 0, .fld (.var 5) "name", .var 2, .var 3]),
       .ite (.notN (.var 7))
         [.ret (.var 7)]
         []],
    .ret (.con (.non))] }
/-- word_of(book, parcel); names 0 book, 1 parcel, 2 word -/
noncomputable def dS_word_of : Df := { ps := [Str.ofString "book", Str.ofString "parcel"], np := 2, nn := 3, body :=
   [.asg (.nm 2) (.call "read_chain" [.var 0, .con (.str (Str.ofString "main")), .var 1, .lst []]),
    .ite (.isN (.var 2))
      [.ret (.fld (.var 0) "default")]
      [],
    .ret (.var 2)] }
/-! ### what a dict holds -/
section
variable {κ : Type} [DecidableEq κ] {c : κ} {v : Val}
theorem gc_nil : getC c ([] : List (κ × Val)) = none := id rfl
theorem gc_cons {p : κ × Val} {r : List (κ × Val)} : getC c (p :: r) = if p.1 = c then some p.2 else getC c r := by
  unfold getC
  rw [List.find?_cons]
  by_cases e : p.1 = c
  · simp [e]
  · simp [e]
theorem gc_snoc {d : κ} : ∀ {kvs : List (κ × Val)} {v : Val}, getC c kvs = none → getC d (kvs ++ [(c, v)]) = if d = c then some v else getC d kvs
  | [], _, _ => by
    rw [List.nil_append, gc_cons, gc_nil]
    by_cases e : d = c
    · rw [if_pos e, if_pos e.symm]
    · rw [if_neg e, if_neg fun z => e z.symm]
  | p :: r, v, h => by
    rw [gc_cons] at h
    by_cases e : p.1 = c
    · rw [if_pos e] at h; cases h
    · rw [if_neg e] at h
      have ih := gc_snoc (d := d) (v := v) h
      rw [List.cons_append, gc_cons, gc_cons, ih]
      by_cases e2 : p.1 = d
      · rw [if_pos e2, if_pos e2, if_neg fun z => e (e2.trans z)]
      · rw [if_neg e2, if_neg e2]
end
/-! ### rules, chains, books -/
noncomputable def nmR : Rl → Option Str
  | .call _ nm => some nm
  | _ => none
noncomputable def callsR (rs : List Rl) : List Str := rs.filterMap nmR
noncomputable def RulesAt (n : Nat) (h : MH) (L : Nat) (rs : List Rl) : Prop := L < n ∧ ∃ as : List Nat, h[L]? = some (.lst true (as.map .ref)) ∧ F2 (fun a r => a < n ∧ h[a]? = some (ruO r)) as rs
noncomputable def ChnAt (n : Nat) (h : MH) (p : L2.Key × Val) (c : Ch) : Prop := p.1 = .inr c.1 ∧ ∃ L, p.2 = .ref L ∧ RulesAt n h L c.2
noncomputable def ChainsAt (n : Nat) (h : MH) (D : Nat) (w : Bool) (cs : List Ch) : Prop := D < n ∧ ∃ kvs, h[D]? = some (.dct w kvs) ∧ F2 (ChnAt n h) kvs cs
noncomputable def bkF (d : Str) (D : Nat) (t : Int) : List (String × Val) := [("default", .str d), ("chains", .ref D), ("total", .int t)]
noncomputable def BokAt (n : Nat) (h : MH) (A : Nat) (d : Str) (cs : List Ch) (t : Int) : Prop := A < n ∧ ∃ D, h[A]? = some (.ins "Book" (bkF d D t)) ∧ ChainsAt n h D false cs
/-- as it was, but for a dict at D -/
noncomputable def But (n D : Nat) (h h' : MH) : Prop := n ≤ h'.length ∧ ∀ j, j < n → j ≠ D → h'[j]? = h[j]?
theorem But.get {n D : Nat} {h h' : MH} (b : But n D h h') {j : Nat} {o : Ob} (hj : j < n) (e : h[j]? = some o) (nd : j ≠ D) : h'[j]? = some o := by rw [b.2 j hj nd, e]
theorem But.up {n D : Nat} {h h1 h2 : MH} (b : But n D h h1) (u : Up n h1 h2) : But n D h h2 := ⟨u.1, fun j hj nd => by rw [u.2 j hj, b.2 j hj nd]⟩
theorem But.set {n D : Nat} {h h1 : MH} {o : Ob} (b : But n D h h1) : But n D h (h1.set D o) := ⟨by rw [List.length_set]; exact b.1, fun j hj nd => by rw [List.getElem?_set_ne (Ne.symm nd)]; exact b.2 j hj nd⟩
theorem But.refl {n D : Nat} {h : MH} (hn : n ≤ h.length) : But n D h h := ⟨hn, fun _ _ _ => rfl⟩
theorem RulesAt.but {n D : Nat} {h h' : MH} {w : Bool} {kvs : List (L2.Key × Val)} (hD : h[D]? = some (.dct w kvs)) (b : But n D h h') {L : Nat} {rs : List Rl} (R : RulesAt n h L rs) : RulesAt n h' L rs := by
  obtain ⟨l, as, h1, h2⟩ := R
  refine ⟨l, as, b.get l h1 (fun z => ?_), h2.imp fun a r ⟨q1, q2⟩ => ⟨q1, b.get q1 q2 fun z => ?_⟩⟩
  · rw [z, hD] at h1; cases h1
  · rw [z, hD] at q2; cases q2
theorem RulesAt.up {n m : Nat} {h h' : MH} (u : Up m h h') (hm : n ≤ m) {L : Nat} {rs : List Rl} (R : RulesAt n h L rs) : RulesAt n h' L rs := by
  obtain ⟨l, as, h1, h2⟩ := R
  exact ⟨l, as, u.get (by omega) h1, h2.imp fun a r ⟨q1, q2⟩ => ⟨q1, u.get (by omega) q2⟩⟩
theorem RulesAt.mono {n m : Nat} {h : MH} (hm : n ≤ m) {L : Nat} {rs : List Rl} (R : RulesAt n h L rs) : RulesAt m h L rs := by
  obtain ⟨l, as, h1, h2⟩ := R
  exact ⟨by omega, as, h1, h2.imp fun a r ⟨q1, q2⟩ => ⟨by omega, q2⟩⟩
theorem ChnAt.but {n D : Nat} {h h' : MH} {w : Bool} {kvs : List (L2.Key × Val)} (hD : h[D]? = some (.dct w kvs)) (b : But n D h h') {p : L2.Key × Val} {c : Ch} (R : ChnAt n h p c) : ChnAt n h' p c := ⟨R.1, let ⟨L, e, r⟩ := R.2; ⟨L, e, r.but hD b⟩⟩
theorem ChnAt.up {n m : Nat} {h h' : MH} (u : Up m h h') (hm : n ≤ m) {p : L2.Key × Val} {c : Ch} (R : ChnAt n h p c) : ChnAt n h' p c := ⟨R.1, let ⟨L, e, r⟩ := R.2; ⟨L, e, r.up u hm⟩⟩
theorem ChainsAt.up {n m : Nat} {h h' : MH} (u : Up m h h') (hm : n ≤ m) {D : Nat} {w : Bool} {cs : List Ch} (R : ChainsAt n h D w cs) : ChainsAt n h' D w cs :=
  ⟨R.1, let ⟨kvs, e, f⟩ := R.2; ⟨kvs, u.get (Nat.lt_of_lt_of_le R.1 hm) e, f.imp fun _ _ q => q.up u hm⟩⟩
theorem BokAt.up {n m : Nat} {h h' : MH} (u : Up m h h') (hm : n ≤ m) {A : Nat} {d : Str} {cs : List Ch} {t : Int} (R : BokAt n h A d cs t) : BokAt n h' A d cs t :=
  ⟨R.1, let ⟨D, e, f⟩ := R.2; ⟨D, u.get (Nat.lt_of_lt_of_le R.1 hm) e, f.up u hm⟩⟩
/-- a comprehension with a condition, turn by turn -/
theorem wp_compC {P : Pg} {h : MH} {Z : XP} {ρ : Env'} {t : Tg} {c : Src} {elt cd : E} {items : List Val} {Q : List Val → MH → Prop} (I : Nat → List Val → MH → Prop) (h0 : I 0 [] h)
    (step : ∀ i v acc h, items[i]? = some v → I i acc h → c.stands h ∧ acc.length ≤ 4096 ∧ opK (bindT t v ρ) fun ρ1 => (evE P cd ρ1 h).wp (fun b h1 => ifK b ((evE P elt ρ1 h1).wp (fun w h' => I (i + 1) (acc ++ [w]) h') NoE) (I (i + 1) acc h1)) NoE)
    (done : ∀ acc h, I items.length acc h → c.stands h ∧ Q acc h) : (compL t c ρ (evC P (some cd)) (evE P elt) items [] h).wp Q Z := by
  have key : ∀ (r : List Val) (i : Nat) (acc : List Val) (h : MH), items.drop i = r → i ≤ items.length → I i acc h → (compL t c ρ (evC P (some cd)) (evE P elt) r acc h).wp Q Z := by
    intro r
    induction r with
    | nil =>
      intro i acc h hd hi hI
      have e : i = items.length := by
        have := congrArg List.length hd
        simp at this; omega
      subst e
      obtain ⟨d1, d2⟩ := done acc h hI
      simp only [compL]
      rw [if_pos d1]
      exact d2
    | cons v r ih =>
      intro i acc h hd hi hI
      have hv : items[i]? = some v := by
        have := congrArg (fun l => l[0]?) hd
        simpa using this
      have il := (List.getElem?_eq_some_iff.mp hv).1
      have hd2 : items.drop (i + 1) = r := by
        have := congrArg (List.drop 1) hd
        simpa [Nat.add_comm] using this
      obtain ⟨s1, s2, s3⟩ := step i v acc h hv hI
      simp only [compL]
      rw [if_pos s1]
      cases eb : bindT t v ρ with
      | none => rw [eb] at s3; exact s3.elim
      | some ρ1 =>
        rw [eb] at s3
        replace s3 : (evE P cd ρ1 h).wp (fun b h1 => ifK b ((evE P elt ρ1 h1).wp (fun w h' => I (i + 1) (acc ++ [w]) h') NoE) (I (i + 1) acc h1)) NoE := s3
        have e1 : evC P (some cd) ρ1 h = evE P cd ρ1 h := by simp only [evC]
        simp only [e1]
        cases ec : evE P cd ρ1 h with
        | err c fs h2 => rw [ec] at s3; exact s3.elim
        | bad => rw [ec] at s3; exact s3.elim
        | ok b h1 =>
          rw [ec] at s3
          replace s3 : ifK b ((evE P elt ρ1 h1).wp (fun w h' => I (i + 1) (acc ++ [w]) h') NoE) (I (i + 1) acc h1) := s3
          cases b <;> first | exact s3.elim | skip
          rename_i b
          cases b with
          | false => exact ih (i + 1) _ h1 hd2 (by omega) s3
          | true =>
            replace s3 : (evE P elt ρ1 h1).wp (fun w h' => I (i + 1) (acc ++ [w]) h') NoE := s3
            cases ee : evE P elt ρ1 h1 with
            | ok w h2 =>
              rw [ee] at s3
              simp only [ee]
              rw [if_pos (of_eq_true (sz_lt s2))]
              exact ih (i + 1) _ h2 hd2 (by omega) s3
            | err c fs h2 => rw [ee] at s3; exact s3.elim
            | bad => rw [ee] at s3; exact s3.elim
  exact key items 0 [] h (by simp) (Nat.zero_le _) h0
section
variable {P : Pg} {h : MH} {Q : Val → MH → Prop} {Z : XP}
noncomputable abbrev CallsOk (P : Pg) : Prop := ∀ {h : MH} {n L : Nat} {rs : List Rl} {Q : Val → MH → Prop} {Z : XP}, RulesAt n h L rs → rs.length ≤ 4000 → (P.cf "calls_of" [.ref L] h).wp Q Z = Q (.ref h.length) (h ++ [.lst true ((callsR rs).map .str)])
/-- a book that stands: ranks, lengths -/
structure BkOk (chs : List Ch) (rk len : Str → Nat) : Prop where
  nd : ∀ (i j : Nat) (c d : Ch), chs[i]? = some c → chs[j]? = some d → c.1 = d.1 → i = j
  call : ∀ c ∈ chs, ∀ nm ∈ callsR c.2, (∃ d ∈ chs, d.1 = nm) ∧ rk nm < rk c.1
  rkl : ∀ c ∈ chs, rk c.1 < chs.length
  lnl : ∀ c ∈ chs, len c.1 = c.2.length + ((callsR c.2).map len).sum
  main : ∃ c ∈ chs, c.1 = sMain
  top : len sMain ≤ 120
  sz : chs.length ≤ 60
  szr : ∀ c ∈ chs, c.2.length ≤ 4000
/-- what is known behind p passes and i chains -/
structure KnI (chs : List Ch) (rk len : Str → Nat) (p i : Nat) (ks : List (L2.Key × Val)) : Prop where
  sz : ks.length ≤ p * chs.length + i
  ok : ∀ x v, getC (.inr x) ks = some v → (∃ c ∈ chs, c.1 = x) ∧ v = .int (len x)
  old : ∀ c ∈ chs, rk c.1 < p → (getC (.inr c.1) ks).isSome = true
  new : ∀ j c, j < i → chs[j]? = some c → rk c.1 ≤ p → (getC (.inr c.1) ks).isSome = true
section
variable {chs : List Ch} {rk len : Str → Nat} {p i : Nat} {ks : List (L2.Key × Val)}
theorem KnI.start : KnI chs rk len 0 0 [] := ⟨by simp, fun x v e => (by cases e), fun c hc z => by omega, fun j c z => by omega⟩
theorem KnI.put (B : BkOk chs rk len) (k : KnI chs rk len p i ks) {c : Ch} (hc : chs[i]? = some c) (n : getC (.inr c.1) ks = none) : KnI chs rk len p (i + 1) (ks ++ [(.inr c.1, .int (len c.1))]) := by
  have up : ∀ x, (getC (.inr x) ks).isSome = true → (getC (.inr x) (ks ++ [(.inr c.1, .int (len c.1))])).isSome = true := fun x h => by
    rw [gc_snoc n]
    by_cases e : (Sum.inr x : L2.Key) = .inr c.1
    · rw [if_pos e]; rfl
    · rw [if_neg e]; exact h
  refine ⟨by have := k.sz; simp; omega, fun x v e => ?_, fun d hd z => up _ (k.old d hd z), fun j d hj hd z => ?_⟩
  · rw [gc_snoc n] at e
    by_cases q : (Sum.inr x : L2.Key) = .inr c.1
    · rw [if_pos q] at e
      cases e
      cases q
      exact ⟨⟨c, List.mem_of_getElem? hc, rfl⟩, rfl⟩
    · rw [if_neg q] at e
      exact k.ok x v e
  · by_cases q : j < i
    · exact up _ (k.new j d q hd z)
    · have : j = i := by omega
      subst this
      rw [hc] at hd
      cases hd
      rw [gc_snoc n, if_pos rfl]; rfl
theorem KnI.skip (B : BkOk chs rk len) (k : KnI chs rk len p i ks) {c : Ch} (hc : chs[i]? = some c) (n : (getC (.inr c.1) ks).isSome = true ∨ ∃ x ∈ callsR c.2, (getC (.inr x) ks).isSome = false) : KnI chs rk len p (i + 1) ks := by
  refine ⟨by have := k.sz; omega, k.ok, k.old, fun j d hj hd z => ?_⟩
  by_cases q : j < i
  · exact k.new j d q hd z
  · have : j = i := by omega
    subst this
    rw [hc] at hd
    cases hd
    rcases n with n | ⟨x, hx, n⟩
    · exact n
    · obtain ⟨⟨d, hd, rfl⟩, lt⟩ := B.call c (List.mem_of_getElem? hc) x hx
      rw [k.old d hd (by omega)] at n
      cases n
theorem KnI.turn (k : KnI chs rk len p chs.length ks) : KnI chs rk len (p + 1) 0 ks := by
  refine ⟨by have := k.sz; rw [Nat.add_mul, Nat.one_mul]; omega, k.ok, fun c hc z => ?_, fun j c z => by omega⟩
  obtain ⟨j, hj⟩ := List.getElem?_of_mem hc
  exact k.new j c (List.getElem?_eq_some_iff.mp hj).1 hj (by omega)
theorem KnI.all (B : BkOk chs rk len) (k : KnI chs rk len chs.length 0 ks) {c : Ch} (hc : c ∈ chs) : getC (.inr c.1) ks = some (.int (len c.1)) := by
  have h := k.old c hc (B.rkl c hc)
  obtain ⟨v, hv⟩ := Option.isSome_iff_exists.mp h
  rw [hv, (k.ok _ _ hv).2]
end
noncomputable def IBlo (P : Pg) (h : MH) (D : Nat) (kvs : List (L2.Key × Val)) (chs : List Ch) (rk len : Str → Nat) (p : Nat) (ρ : Env') (h' : MH) : Prop :=
  (∃ x2 x3 x4 x5 x6, ρ = [some (.ref D), some (.ref h.length), x2, x3, x4, x5, x6]) ∧ (∃ w, h'[D]? = some (.dct w kvs) ∧ (0 < p → w = false)) ∧ (∃ ks, h'[h.length]? = some (.dct true ks) ∧ KnI chs rk len p 0 ks) ∧ But h.length D h h'
noncomputable def IBli (P : Pg) (h : MH) (D : Nat) (kvs : List (L2.Key × Val)) (chs : List Ch) (rk len : Str → Nat) (p : Nat) (i : Nat) (ρ : Env') (h' : MH) : Prop :=
  (∃ x2 x3 x4 x5 x6, ρ = [some (.ref D), some (.ref h.length), x2, x3, x4, x5, x6]) ∧ h'[D]? = some (.dct false kvs) ∧ (∃ ks, h'[h.length]? = some (.dct true ks) ∧ KnI chs rk len p i ks) ∧ But h.length D h h'
end
/-! ### what a book's dict says -/
theorem ChnAt.mono {n m : Nat} {h : MH} (hm : n ≤ m) {p : L2.Key × Val} {c : Ch} (R : ChnAt n h p c) : ChnAt m h p c := ⟨R.1, let ⟨L, e, r⟩ := R.2; ⟨L, e, r.mono hm⟩⟩
section
variable {P : Pg} {h : MH} {Q : Val → MH → Prop} {Z : XP}
noncomputable abbrev NamesOk (P : Pg) : Prop := ∀ {h : MH} {A D : Nat} {fs : List (String × Val)} {w : Bool} {kvs : List (L2.Key × Val)} {Q : Val → MH → Prop} {Z : XP}, h[A]? = some (.ins "Book" fs) → fs.lookup "chains" = some (.ref D) → h[D]? = some (.dct w kvs) →
  (P.cf "Book.chain_names" [.ref A] h).wp Q Z = Q (.ref h.length) (h ++ [.lst true (kvs.map fun p => kVal p.1)])
noncomputable abbrev NeedOk (P : Pg) : Prop := ∀ {h : MH} {n A D : Nat} {fs : List (String × Val)} {w : Bool} {kvs : List (L2.Key × Val)} {chs : List Ch} {rk len : Str → Nat} {c : Ch} {Q : Val → MH → Prop} {Z : XP}, BkOk chs rk len → h[A]? = some (.ins "Book" fs) → fs.lookup "chains" = some (.ref D) → h[D]? = some (.dct w kvs) →
  F2 (ChnAt n h) kvs chs → c ∈ chs → (P.cf "Book.need_calls" [.ref A, .str c.1] h).wp Q Z = Q .non (h ++ [.lst true ((callsR c.2).map .str)])
noncomputable abbrev LensOk (P : Pg) : Prop := ∀ {h : MH} {n D : Nat} {w : Bool} {kvs : List (L2.Key × Val)} {chs : List Ch} {rk len : Str → Nat}, BkOk chs rk len → n ≤ h.length → D < n → h[D]? = some (.dct w kvs) → F2 (ChnAt n h) kvs chs →
  (P.cf "lengths_of" [.ref D] h).wp (fun v h' => v = .ref h.length ∧ (∃ ks, h'[h.length]? = some (.dct true ks) ∧ KnI chs rk len chs.length 0 ks) ∧ But h.length D h h' ∧ h'[D]? = some (.dct false kvs)) NoE
noncomputable abbrev RuleOfOk (P : Pg) : Prop := ∀ {h : MH} {r : Rl} {Q : Val → MH → Prop} {Z : XP}, (P.cf "rule_of" [rlV r] h).wp Q Z = Q (.ref h.length) (h ++ [ruO r])
/-- the chains handed in -/
noncomputable def ArgR (h : MH) (v : Val) (c : Ch) : Prop := ∃ R w, v = .tup [.str c.1, .ref R] ∧ h[R]? = some (.lst w (c.2.map rlV))
noncomputable def ArgAt (h : MH) (C : Nat) (chs : List Ch) : Prop := ∃ w xs, h[C]? = some (.lst w xs) ∧ F2 (ArgR h) xs chs
noncomputable def IBb (h : MH) (d : Str) (C : Nat) (chs : List Ch) (i : Nat) (ρ : Env') (h' : MH) : Prop :=
  (∃ x3 x4 x5 x6, ρ = [some (.ref h.length), some (.str d), some (.ref C), x3, x4, x5, x6]) ∧ h'[h.length]? = some (.ins "Book" [("default", .str d), ("chains", .ref (h.length + 1))]) ∧
    (∃ kvs, h'[h.length + 1]? = some (.dct true kvs) ∧ F2 (ChnAt h'.length h') kvs (chs.take i)) ∧ Up h.length h h'
end
/-! ### reading -/
class ReadPg (P : Pg) : Prop where
  m1 : P.mro "Book" "chain" = some "Book.chain"
  m2 : P.mro "Word" "fits" = some "Rule.fits"
  m3 : P.mro "Back" "fits" = some "Rule.fits"
  m4 : P.mro "Call" "fits" = some "Rule.fits"
  f1 : (P.flds "Word").contains "box" = true
  f2 : (P.flds "Back").contains "box" = true
  f3 : (P.flds "Call").contains "box" = true
  f4 : (P.flds "Word").contains "word" = true
  s1 : P.sub "Word" "Word" = some true
  s2 : P.sub "Back" "Word" = some false
  s3 : P.sub "Call" "Word" = some false
section
variable {P : Pg} [ReadPg P]
theorem rd_m1 : P.mro "Book" "chain" = some "Book.chain" := ReadPg.m1
theorem rd_m2 : P.mro "Word" "fits" = some "Rule.fits" := ReadPg.m2
theorem rd_m3 : P.mro "Back" "fits" = some "Rule.fits" := ReadPg.m3
theorem rd_m4 : P.mro "Call" "fits" = some "Rule.fits" := ReadPg.m4
theorem rd_f1 : (P.flds "Word").contains "box" = true := ReadPg.f1
theorem rd_f2 : (P.flds "Back").contains "box" = true := ReadPg.f2
theorem rd_f3 : (P.flds "Call").contains "box" = true := ReadPg.f3
theorem rd_f4 : (P.flds "Word").contains "word" = true := ReadPg.f4
theorem rd_s1 : P.sub "Word" "Word" = some true := ReadPg.s1
theorem rd_s2 : P.sub "Back" "Word" = some false := ReadPg.s2
theorem rd_s3 : P.sub "Call" "Word" = some false := ReadPg.s3
end
noncomputable def rulesOf (chs : List Ch) (nm : Str) : List Rl := match chs.find? fun c => decide (c.1 = nm) with
  | some c => c.2
  | none => []
noncomputable abbrev Stp := Str × Nat × Bool
noncomputable def stV3 (s : Stp) : Val := .tup [.str s.1, .int (s.2.1 : Nat), .bl s.2.2]
noncomputable def opW : Option Bool → Val
  | none => .non
  | some s => .str (wdS s)
/-- a chain read from its i-th rule on: what is looked at, and the word -/
noncomputable def rdL (g : Str → List Stp × Option Bool) (nm : Str) (pt : List Int) : Nat → List Rl → List Stp × Option Bool
  | _, [] => ([], none)
  | i, r :: rs => if hasB r.bx pt = true then match r with
      | .word s _ => ([(nm, i, true)], some s)
      | .back _ => ([(nm, i, true)], none)
      | .call _ n2 => match (g n2).2 with
        | some s => ((nm, i, true) :: (g n2).1, some s)
        | none => ((nm, i, true) :: ((g n2).1 ++ (rdL g nm pt (i + 1) rs).1), (rdL g nm pt (i + 1) rs).2)
    else ((nm, i, false) :: (rdL g nm pt (i + 1) rs).1, (rdL g nm pt (i + 1) rs).2)
noncomputable def rdC (chs : List Ch) (pt : List Int) : Nat → Str → List Stp × Option Bool
  | 0, _ => ([], none)
  | f + 1, nm => rdL (rdC chs pt f) nm pt 0 (rulesOf chs nm)
section
local macro_rules
  | `(tactic| subst_eqs) => do
    let xs := ("bk_f2 bk_f1 bk_f4 bk_s1 bk_s2 bk_s3 rd_m1 rd_m2 rd_m3 rd_m4 rd_f1 rd_f2 rd_f3 rd_f4 rd_s1 rd_s2 rd_s3 is_k g_fld lk_cons lk_nil ow_i in_n ruo_w ruo_b ruo_c".splitOn " ").toArray.map fun s => (⟨(Lean.mkIdent s.toName).raw⟩ : Lean.TSyntax `term)
    `(tactic| specialize [$xs,*])
local macro_rules
  | `(tactic| exists $ts,*) => do
    let xs := ("bk_f2 bk_f1 bk_f4 bk_s1 bk_s2 bk_s3 rd_m1 rd_m2 rd_m3 rd_m4 rd_f1 rd_f2 rd_f3 rd_f4 rd_s1 rd_s2 rd_s3 is_k g_fld lk_cons lk_nil ow_i in_n ruo_w ruo_b ruo_c".splitOn " ").toArray.map fun s => (⟨(Lean.mkIdent s.toName).raw⟩ : Lean.TSyntax `term)
    `(tactic| specialize [$(xs ++ ts.getElems),*])
variable {P : Pg} {h : MH} {Q : Val → MH → Prop} {Z : XP}
noncomputable abbrev ChainOk (P : Pg) : Prop := ∀ {h : MH} {n A : Nat} {d : Str} {chs : List Ch} {t : Int} {rk len : Str → Nat} {c : Ch}, BkOk chs rk len → BokAt n h A d chs t → c ∈ chs →
  (P.cf "Book.chain" [.ref A, .str c.1] h).wp (fun v h' => ∃ as : List Nat, v = .ref h.length ∧ h' = h ++ [.lst true (as.map .ref)] ∧ F2 (fun a r => a < n ∧ h[a]? = some (ruO r)) as c.2) NoE
noncomputable abbrev HasOk (P : Pg) : Prop := ∀ {h : MH} {b : List Sg} {pt : List Int} {Q : Val → MH → Prop} {Z : XP}, (P.cf "has" [bxV b, pnV pt] h).wp Q Z = Q (.bl (hasB b pt)) h
noncomputable abbrev FitsOk (P : Pg) : Prop := ∀ {h : MH} {a : Nat} {r : Rl} {pt : List Int} {Q : Val → MH → Prop} {Z : XP}, h[a]? = some (ruO r) → (P.cf "Rule.fits" [.ref a, pnV pt] h).wp Q Z = Q (.bl (hasB r.bx pt)) h
noncomputable abbrev ReadOk (P : Pg) (f : Nat) : Prop := ∀ {h : MH} {n A S : Nat} {d : Str} {chs : List Ch} {t : Int} {rk len : Str → Nat} {c : Ch} {ss : List Stp} {pt : List Int}, BkOk chs rk len → BokAt n h A d chs t → c ∈ chs → n ≤ S → h[S]? = some (.lst true (ss.map stV3)) → ss.length + len c.1 ≤ 4000 → rk c.1 < f →
  (P.cf "read_chain" [.ref A, .str c.1, pnV pt, .ref S] h).wp (fun v h' => v = opW (rdC chs pt f c.1).2 ∧ h'[S]? = some (.lst true ((ss ++ (rdC chs pt f c.1).1).map stV3)) ∧ But h.length S h h') NoE
noncomputable def IRd (A S : Nat) (chs : List Ch) (len : Str → Nat) (c : Ch) (pt : List Int) (f : Nat) (ss : List Stp) (h1 : MH) (i : Nat) (ρ : Env') (h' : MH) : Prop :=
  (∃ x4 x5 x6 x7, ρ = [some (.ref A), some (.str c.1), some (pnV pt), some (.ref S), x4, x5, x6, x7]) ∧ ∃ pre : List Stp, h'[S]? = some (.lst true ((ss ++ pre).map stV3)) ∧ But h1.length S h1 h' ∧ pre.length ≤ i + ((callsR (c.2.take i)).map len).sum ∧
    rdC chs pt (f + 1) c.1 = (pre ++ (rdL (rdC chs pt f) c.1 pt i (c.2.drop i)).1, (rdL (rdC chs pt f) c.1 pt i (c.2.drop i)).2)
/-- the word of a book for a parcel -/
noncomputable def wordC (chs : List Ch) (d : Str) (pt : List Int) (f : Nat) : Str := match (rdC chs pt f sMain).2 with
  | some s => wdS s
  | none => d
noncomputable abbrev WordOk (P : Pg) (f : Nat) : Prop := ∀ {h : MH} {n A : Nat} {d : Str} {chs : List Ch} {t : Int} {rk len : Str → Nat} {pt : List Int}, BkOk chs rk len → BokAt n h A d chs t → n ≤ h.length → chs.length ≤ f → (P.cf "word_of" [.ref A, pnV pt] h).wp (fun v h' => v = .str (wordC chs d pt f) ∧ Up h.length h h') NoE
end
end
/-! Mini: rows of words: stretches, boxes, rules -/
section
open PySem
open Classical
local macro_rules
  | `(tactic| subst_eqs) => do
    let xs := ("if_t".splitOn " ").toArray.map fun s => (⟨(Lean.mkIdent s.toName).raw⟩ : Lean.TSyntax `term)
    `(tactic| specialize [$xs,*])
local macro_rules
  | `(tactic| exists $ts,*) => do
    let xs := ("if_t".splitOn " ").toArray.map fun s => (⟨(Lean.mkIdent s.toName).raw⟩ : Lean.TSyntax `term)
    `(tactic| specialize [$(xs ++ ts.getElems),*])
noncomputable def dS_mask : Df := { ps := [Str.ofString "bits"], np := 1, nn := 1, body :=
   [.ret (.bin .BitAnd (.bin .LShift (.glb "ALL") (.bin .Sub (.con (.int 32)) (.var 0))) (.glb "ALL"))] }
noncomputable def dS_beginning : Df := { ps := [Str.ofString "address", Str.ofString "bits"], np := 2, nn := 3, body :=
   [.asg (.nm 2) (.call "mask" [.var 1]),
    .ret (.tup [.bin .BitAnd (.var 0) (.var 2), .bin .BitOr (.var 0) (.bin .BitXor (.var 2) (.glb "ALL"))])] }
noncomputable def dS_words_of : Df := { ps := [Str.ofString "row"], np := 1, nn := 2, body :=
   [.ret (.cmp1 [1] (.var 1) (.nm 1) .val [.mth .split (.idx (.mth .partition (.var 0) [.con (.str (Str.ofString "#"))]) (.con (.int 0))) [.con (.str (Str.ofString " "))]] (some (.cmp .NotEq (.var 1) (.con (.str (Str.ofString ""))))))] }
noncomputable def dS_numbers_by : Df := { ps := [Str.ofString "word", Str.ofString "most"], np := 2, nn := 7, body :=
   [.asg (.tp [2, 3, 4]) (.mth .partition (.var 0) [.con (.str (Str.ofString "-"))]),
    .asg (.nm 5) (.call "number_by" [.var 2, .var 1]),
    .asg (.nm 6) (.var 5),
    .ite (.cmp .Eq (.var 3) (.con (.str (Str.ofString "-"))))
      [.asg (.nm 6) (.call "number_by" [.var 4, .var 1])]
      [],
    .ite (.cmp .Gt (.var 5) (.var 6))
      [.rai "NoRow" [.con (.int 1)]]
      [],
    .ret (.tup [.var 5, .var 6])] }
noncomputable def dS_addresses_by : Df := { ps := [Str.ofString "word"], np := 1, nn := 9, body :=
   [.asg (.tp [1, 2, 3]) (.mth .partition (.var 0) [.con (.str (Str.ofString "/"))]),
    .ite (.cmp .Eq (.var 2) (.con (.str (Str.ofString "/"))))
      [.ret (.call "beginning" [.call "address_by" [.var 1], .call "number_by" [.var 3, .con (.int 32)]])]
      [],
    .asg (.tp [4, 5, 6]) (.mth .partition (.var 0) [.con (.str (Str.ofString "-"))]),
    .asg (.nm 7) (.call "address_by" [.var 4]),
    .asg (.nm 8) (.var 7),
    .ite (.cmp .Eq (.var 5) (.con (.str (Str.ofString "-"))))
      [.asg (.nm 8) (.call "address_by" [.var 6])]
      [],
    .ite (.cmp .Gt (.var 7) (.var 8))
      [.rai "NoRow" [.con (.int 1)]]
      [],
    .ret (.tup [.var 7, .var 8])] }
noncomputable def dS_box_by : Df := { ps := [Str.ofString "words"], np := 1, nn := 5, body :=
   [.asg (.nm 1) (.call "every" []),
    .asg (.nm 2) (.dct [] []),
    .ite (.cmp .Eq (.bin .Mod (.bi .len [.var 0]) (.con (.int 2))) (.con (.int 1)))
      [.rai "NoRow" [.con (.int 1)]]
      [],
    .forS (.nm 3) .rng [.con (.int 0), .bi .len [.var 0], .con (.int 2)]
      [.asg (.nm 4) (.idx (.var 0) (.var 3)),
       .ite (.or (.cmp .NotIn (.var 4) (.glb "PAIRS")) (.cmp .In (.var 4) (.var 2)))
         [.rai "NoRow" [.con (.int 1)]]
         [],
       .ite (.or (.cmp .Eq (.var 4) (.con (.str (Str.ofString "from")))) (.cmp .Eq (.var 4) (.con (.str (Str.ofString "to")))))
         [.sub (.var 2) (.var 4) (.call "addresses_by" [.idx (.var 0) (.bin .Add (.var 3) (.con (.int 1)))])]
         [.sub (.var 2) (.var 4) (.call "numbers_by" [.idx (.var 0) (.bin .Add (.var 3) (.con (.int 1))), .idx (.idx (.var 1) (.gix "PAIRS" (.var 4))) (.con (.int 1))])]],
    .ret (.bi .tuple [.cmp1 [3, 4] (.mth .get2 (.var 2) [.var 4, .idx (.var 1) (.var 3)]) (.tp [3, 4]) .enm [.glb "PAIRS"] none])] }
noncomputable def dS_is_name : Df := { ps := [Str.ofString "word"], np := 1, nn := 2, body :=
   [.ret (.and (.chn .LtE .LtE (.con (.int 1)) (.bi .len [.var 0]) (.con (.int 12))) (.bi .all [.cmp1 [1] (.cmp .In (.var 1) (.glb "LETTERS")) (.nm 1) .val [.var 0] none]))] }
noncomputable def dS_rule_by : Df := { ps := [Str.ofString "words"], np := 1, nn := 1, body :=
   [.ite (.cmp .Eq (.var 0) (.lst []))
      [.rai "NoRow" [.con (.int 1)]]
      [],
    .ite (.cmp .Eq (.idx (.var 0) (.con (.int 0))) (.con (.str (Str.ofString "call"))))
      [.ite (.or (.cmp .Eq (.bi .len [.var 0]) (.con (.int 1))) (.not (.call "is_name" [.idx (.var 0) (.con (.int 1))])))
         [.rai "NoRow" [.con (.int 1)]]
         [],
       .ret (.tup [.con (.str (Str.ofString "call")), .call "box_by" [.slc (.var 0) (some (.con (.int 2))) none], .idx (.var 0) (.con (.int 1))])]
      [],
    .ite (.cmp .NotIn (.idx (.var 0) (.con (.int 0))) (.tup [.con (.str (Str.ofString "pass")), .con (.str (Str.ofString "stop")), .con (.str (Str.ofString "back"))]))
      [.rai "NoRow" [.con (.int 1)]]
      [],
    .ret (.tup [.idx (.var 0) (.con (.int 0)), .call "box_by" [.slc (.var 0) (some (.con (.int 1))) none]])] }
noncomputable def dS_read_rule : Df := { ps := [Str.ofString "row"], np := 1, nn := 1, body :=
   [.ret (.call "rule_by" [.call "words_of" [.var 0]])] }
class AllPg (P : Pg) : Prop where
  all : P.glb "ALL" = some (.int 4294967295)
class PairPg (P : Pg) : Prop where
  prs : P.glb "PAIRS" = some (.tup [.str (Str.ofString "turn"), .str (Str.ofString "kind"), .str (Str.ofString "from"), .str (Str.ofString "fromdoor"), .str (Str.ofString "to"), .str (Str.ofString "todoor")])
class LettPg (P : Pg) : Prop where
  lt : P.glb "LETTERS" = some (.str (Str.ofString "abcdefghijklmnopqrstuvwxyz"))
noncomputable abbrev NoR (Z : XP) (h : MH) : Prop := Z "NoRow" [("row", .int 1)] h
/-! texts and their parts -/
theorem spl_len {S : List Nat} : ∀ (r : List Nat) (k : Nat) (acc p : List Nat), p ∈ TL.spl S k acc r → p.length ≤ acc.length + r.length
  | [], k, acc, p, hp => by
    have e : TL.spl S k acc [] = [acc] := by cases k <;> rfl
    rw [e] at hp
    rw [List.mem_singleton.mp hp]; simp
  | c :: r, 0, acc, p, hp => by
    simp only [TL.spl] at hp
    split at hp
    · rcases List.mem_cons.mp hp with rfl | hp
      · simp
      · have := spl_len r _ _ p hp
        simp only [List.length_nil, List.length_cons] at this ⊢
        omega
    · have := spl_len r _ _ p hp
      simp only [List.length_append, List.length_nil, List.length_cons] at this ⊢
      omega
  | c :: r, k + 1, acc, p, hp => by
    simp only [TL.spl] at hp
    have := spl_len r _ _ p hp
    simp only [List.length_cons] at this ⊢
    omega
theorem par_len {S : List Nat} : ∀ (L acc : List Nat) (p : List Nat × List Nat), TL.par S acc L = some p → p.1.length ≤ acc.length + L.length ∧ p.2.length ≤ L.length
  | [], acc, p, e => by
    have : TL.par S acc [] = none := rfl
    rw [this] at e; cases e
  | c :: r, acc, p, e => by
    simp only [TL.par] at e
    split at e
    · cases e
      refine ⟨by simp, ?_⟩
      rw [List.length_drop]; omega
    · have := par_len r _ p e
      simp only [List.length_append, List.length_cons, List.length_nil] at this ⊢
      omega
theorem prt_len {w s : Str} (hs : TL.tl s ≠ []) : (Txt.partition w s).1.length ≤ w.length ∧ (Txt.partition w s).2.2.length ≤ w.length := by
  rw [TL.partition_par w s hs]
  cases e : TL.par (TL.tl s) [] (TL.tl w) with
  | none => exact ⟨Nat.le_refl _, Nat.zero_le _⟩
  | some p =>
    have q := par_len _ _ _ e
    simp only [List.length_nil] at q
    have l := TL.len_tl w
    show (List.toArray p.1).size ≤ _ ∧ (List.toArray p.2).size ≤ _
    simp only [List.size_toArray]
    omega
theorem split_len {t s : Str} (h1 : TL.tl s ≠ []) (h2 : s.cps.all (· < 256) = true) : ∀ w ∈ Txt.split t s, w.length ≤ t.length := fun w hw => by
  have q := TL.split_spl t s h1 (TL.kind_ok h2)
  have m : TL.tl w ∈ (Txt.split t s).map TL.tl := List.mem_map_of_mem hw
  rw [q] at m
  have l1 := spl_len _ _ _ _ m
  have l2 := TL.len_tl w
  have l3 := TL.len_tl t
  simp only [List.length_nil] at l1
  omega
theorem sep_tl : TL.tl (Str.ofString "-") = [45] ∧ TL.tl (Str.ofString "/") = [47] ∧ TL.tl (Str.ofString ".") = [46] ∧ TL.tl (Str.ofString " ") = [32] ∧ TL.tl (Str.ofString "#") = [35] := by decide +kernel
/-! numbers, addresses, their stretches -/
noncomputable abbrev NumOk (P : Pg) : Prop := ∀ {w : Str} {m : Int} {h : MH} {Q : Val → MH → Prop} {Z : XP}, w.length ≤ 4000 → (numG w m → Q (.int (wv w)) h) → (¬ numG w m → NoR Z h) → (P.cf "number_by" [.str w, .int m] h).wp Q Z
noncomputable abbrev AdrOk (P : Pg) : Prop := ∀ {t : Str} {h : MH} {Q : Val → MH → Prop} {Z : XP}, t.length ≤ 4000 → (∀ a h', Up h.length h h' → addrW t = some a → Q (.int a) h') → (∀ h', Up h.length h h' → addrW t = none → NoR Z h') → (P.cf "address_by" [.str t] h).wp Q Z
noncomputable def numsW (w : Str) (m : Int) : Option Sg :=
  if (Txt.partition w (Str.ofString "-")).2.1 = Str.ofString "-" then
    (if numG (Txt.partition w (Str.ofString "-")).1 m ∧ numG (Txt.partition w (Str.ofString "-")).2.2 m ∧ wv (Txt.partition w (Str.ofString "-")).1 ≤ wv (Txt.partition w (Str.ofString "-")).2.2 then some (wv (Txt.partition w (Str.ofString "-")).1, wv (Txt.partition w (Str.ofString "-")).2.2) else none)
  else if numG (Txt.partition w (Str.ofString "-")).1 m then some (wv (Txt.partition w (Str.ofString "-")).1, wv (Txt.partition w (Str.ofString "-")).1) else none
noncomputable abbrev NumsOk (P : Pg) : Prop := ∀ {w : Str} {m : Int} {h : MH} {Q : Val → MH → Prop} {Z : XP}, w.length ≤ 4000 → (∀ p, numsW w m = some p → Q (stV p) h) → (numsW w m = none → NoR Z h) → (P.cf "numbers_by" [.str w, .int m] h).wp Q Z
theorem nums_run {P : Pg} [RowPg P] (nb : NumOk P) {w : Str} {m : Int} {h : MH} {Q : Val → MH → Prop} {Z : XP} (hl : w.length ≤ 4000) (good : ∀ p, numsW w m = some p → Q (stV p) h) (bad : numsW w m = none → NoR Z h) : (callB P dS_numbers_by [.str w, .int m] h).wp Q Z := by
  rw [wp_call]
  unfold dS_numbers_by
  have nr := RowPg.nr (P := P)
  have b : (4096 : Nat) < sizeLine := by decide
  have l : w.length ≤ sizeLine := by omega
  have ld : ((Str.ofString "-").length == 0) = false := by decide +kernel
  obtain ⟨c1, c2⟩ := prt_len (w := w) (s := Str.ofString "-") (by rw [sep_tl.1]; simp)
  unfold numsW at good bad
  generalize hp : Txt.partition w (Str.ofString "-") = p at *
  obtain ⟨a, s, z⟩ := p
  simp only at c1 c2 good bad
  exists l, ld, hp
  refine nb (by omega) (fun g1 => ?_) (fun g1 => bad (by simp [g1]))
  by_cases e : s = Str.ofString "-"
  · have e1 := eq_true e
    simp only [e1, if_true] at good bad
    exists e1
    refine nb (by omega) (fun g2 => ?_) (fun g2 => bad (by simp [g2]))
    by_cases o : wv z < wv a
    · have o1 := eq_true o
      exists o1, nr
      exact bad (if_neg fun q => by have := q.2.2; omega)
    · have o1 := eq_false o
      exists o1
      exact good (wv a, wv z) (if_pos ⟨g1, g2, by omega⟩)
  · have e1 := eq_false e
    simp only [e1, if_false] at good bad
    have ii : (wv a < wv a) = False := eq_false (by omega)
    exists e1, ii
    exact good (wv a, wv a) (if_pos g1)
noncomputable def begS (a b : Int) : Sg := (a / 2 ^ (32 - b).toNat * 2 ^ (32 - b).toNat, a / 2 ^ (32 - b).toNat * 2 ^ (32 - b).toNat + 2 ^ (32 - b).toNat - 1)
noncomputable abbrev BegOk' (P : Pg) : Prop := ∀ {a b : Int} {h : MH} {Q : Val → MH → Prop} {Z : XP}, 0 ≤ a → a < 4294967296 → 0 ≤ b → b ≤ 32 → Q (stV (begS a b)) h → (P.cf "beginning" [.int a, .int b] h).wp Q Z
noncomputable abbrev MaskOk (P : Pg) : Prop := ∀ {b : Int} {h : MH} {Q : Val → MH → Prop} {Z : XP}, 0 ≤ b → b ≤ 32 → Q (.int (4294967296 - 2 ^ (32 - b).toNat)) h → (P.cf "mask" [.int b] h).wp Q Z
theorem mask_run {P : Pg} [AllPg P] {b : Int} {h : MH} {Q : Val → MH → Prop} {Z : XP} (h0 : 0 ≤ b) (h1 : b ≤ 32) (q : Q (.int (4294967296 - 2 ^ (32 - b).toNat)) h) : (callB P dS_mask [.int b] h).wp Q Z := by
  rw [wp_call]
  unfold dS_mask
  have al := AllPg.all (P := P)
  exists al
  refine ⟨⟨by omega, by omega, by decide⟩, ?_⟩
  rw [mask_val (by omega)]
  exact q
theorem beg_run' {P : Pg} [AllPg P] (mk : MaskOk P) {a b : Int} {h : MH} {Q : Val → MH → Prop} {Z : XP} (a0 : 0 ≤ a) (a1 : a < 4294967296) (h0 : 0 ≤ b) (h1 : b ≤ 32) (q : Q (stV (begS a b)) h) : (callB P dS_beginning [.int a, .int b] h).wp Q Z := by
  rw [wp_call]
  unfold dS_beginning
  have al := AllPg.all (P := P)
  subst_eqs
  refine mk h0 h1 ?_
  exists al
  rw [and_mask (by omega) a0 a1, xor_mask (by omega), or_lowM]
  exact q
theorem addrL_range : ∀ (ws : List Str) (a b v : Int), 0 ≤ a → a < b → addrL ws a = some v → 0 ≤ v ∧ v < b * 256 ^ ws.length
  | [], a, b, v, h0, h1, e => by
    simp only [addrL] at e
    cases e
    simp; omega
  | w :: r, a, b, v, h0, h1, e => by
    simp only [addrL] at e
    split at e
    · rename_i g
      have p := wv_pos (w := w)
      have l := g.2.2.2.2
      have := addrL_range r (a * 256 + wv w) (b * 256) v (by omega) (by omega) e
      rw [List.length_cons, Int.pow_succ, Int.mul_comm (256 ^ r.length), ← Int.mul_assoc]
      exact this
    · cases e
theorem addrW_range {t : Str} {a : Int} (e : addrW t = some a) : 0 ≤ a ∧ a < 4294967296 := by
  unfold addrW at e
  split at e
  · rename_i l
    have := addrL_range _ 0 1 a (by omega) (by omega) e
    rw [l] at this
    exact ⟨this.1, this.2⟩
  · cases e
noncomputable def addrsW (w : Str) : Option Sg :=
  if (Txt.partition w (Str.ofString "/")).2.1 = Str.ofString "/" then
    (match addrW (Txt.partition w (Str.ofString "/")).1 with
      | none => none
      | some a => if numG (Txt.partition w (Str.ofString "/")).2.2 32 then some (begS a (wv (Txt.partition w (Str.ofString "/")).2.2)) else none)
  else match addrW (Txt.partition w (Str.ofString "-")).1 with
    | none => none
    | some a => if (Txt.partition w (Str.ofString "-")).2.1 = Str.ofString "-" then
        (match addrW (Txt.partition w (Str.ofString "-")).2.2 with
          | none => none
          | some b => if a ≤ b then some (a, b) else none)
      else some (a, a)
noncomputable abbrev AdrsOk (P : Pg) : Prop := ∀ {w : Str} {h : MH} {Q : Val → MH → Prop} {Z : XP}, w.length ≤ 4000 → (∀ p h', Up h.length h h' → addrsW w = some p → Q (stV p) h') → (∀ h', Up h.length h h' → addrsW w = none → NoR Z h') → (P.cf "addresses_by" [.str w] h).wp Q Z
theorem addrs_run {P : Pg} [RowPg P] (nb : NumOk P) (ab : AdrOk P) (bg : BegOk' P) {w : Str} {h : MH} {Q : Val → MH → Prop} {Z : XP} (hl : w.length ≤ 4000) (good : ∀ p h', Up h.length h h' → addrsW w = some p → Q (stV p) h') (bad : ∀ h', Up h.length h h' → addrsW w = none → NoR Z h') : (callB P dS_addresses_by [.str w] h).wp Q Z := by
  rw [wp_call]
  unfold dS_addresses_by
  have nr := RowPg.nr (P := P)
  have b : (4096 : Nat) < sizeLine := by decide
  have l : w.length ≤ sizeLine := by omega
  have ld : ((Str.ofString "-").length == 0) = false := by decide +kernel
  have ls : ((Str.ofString "/").length == 0) = false := by decide +kernel
  obtain ⟨c1, c2⟩ := prt_len (w := w) (s := Str.ofString "-") (by rw [sep_tl.1]; simp)
  obtain ⟨d1, d2⟩ := prt_len (w := w) (s := Str.ofString "/") (by rw [sep_tl.2.1]; simp)
  unfold addrsW at good bad
  generalize hp : Txt.partition w (Str.ofString "-") = p at *
  generalize hq : Txt.partition w (Str.ofString "/") = q at *
  obtain ⟨a, s, z⟩ := p
  obtain ⟨a', s', z'⟩ := q
  simp only at c1 c2 d1 d2 good bad
  by_cases e' : s' = Str.ofString "/"
  · have e1 := eq_true e'
    simp only [e1, if_true] at good bad
    exists l, ls, hq, e1
    refine ab (by omega) (fun x h1 u1 e2 => ?_) (fun h1 u1 e2 => bad h1 u1 (by rw [e2]))
    rw [e2] at good bad
    simp only at good bad
    obtain ⟨r0, r1⟩ := addrW_range e2
    subst_eqs
    refine nb (by omega) (fun g => ?_) (fun g => bad h1 u1 (if_neg g))
    have p0 := wv_pos (w := z')
    subst_eqs
    refine bg r0 r1 p0 g.2.2.2.2 ?_
    exact good _ h1 u1 (if_pos g)
  have e1 := eq_false e'
  simp only [e1, if_false] at good bad
  exists l, ls, ld, hp, hq, e1
  refine ab (by omega) (fun x h1 u1 e2 => ?_) (fun h1 u1 e2 => bad h1 u1 (by rw [e2]))
  rw [e2] at good bad
  simp only at good bad
  by_cases e : s = Str.ofString "-"
  · have e3 := eq_true e
    simp only [e3, if_true] at good bad
    exists e3
    refine ab (by omega) (fun y h2 u2 e4 => ?_) (fun h2 u2 e4 => bad h2 (u1.trans u2 u1.1) (by rw [e4]))
    rw [e4] at good bad
    simp only at good bad
    by_cases o : y < x
    · have o1 := eq_true o
      exists o1, nr
      exact bad h2 (u1.trans u2 u1.1) (if_neg (by omega))
    · have o1 := eq_false o
      exists o1
      exact good (x, y) h2 (u1.trans u2 u1.1) (if_pos (by omega))
  · have e3 := eq_false e
    simp only [e3, if_false] at good bad
    have ii : (x < x) = False := eq_false (by omega)
    exists e3, ii
    exact good (x, x) h1 u1 rfl
/-! boxes -/
noncomputable def K6 : List Str := [Str.ofString "turn", Str.ofString "kind", Str.ofString "from", Str.ofString "fromdoor", Str.ofString "to", Str.ofString "todoor"]
noncomputable def kyS (k : Nat) : Str := K6.getD k (Str.ofString "")
theorem key_inj : ∀ i < 6, ∀ j < 6, kyS i = kyS j → i = j := by decide +kernel
theorem key_idx : ∀ i < 6, K6.idxOf (kyS i) = i ∧ kyS i ∈ K6 := by decide +kernel
noncomputable def valW (k w : Str) : Option Sg := if k = Str.ofString "from" ∨ k = Str.ofString "to" then addrsW w else numsW w (topN (K6.idxOf k))
noncomputable def boxF : List Str → (Str → Option Sg) → Option (Str → Option Sg)
  | [], f => some f
  | [_], _ => none
  | k :: w :: r, f => if k ∈ K6 ∧ f k = none then (match valW k w with
      | none => none
      | some p => boxF r fun k' => if k' = k then some p else f k') else none
noncomputable def boxW (ws : List Str) : Option (List Sg) := (boxF ws fun _ => none).map fun f => (List.range 6).map fun i => (f (kyS i)).getD (0, topN i)
theorem boxF_odd : ∀ (n : Nat) (ws : List Str) (f : Str → Option Sg), ws.length = 2 * n + 1 → boxF ws f = none
  | 0, [_], f, _ => by simp only [boxF]
  | n + 1, k :: w :: r, f, h => by
    have ih := fun f => boxF_odd n r f (by simp only [List.length_cons] at h; omega)
    simp only [boxF]
    split
    · split
      · rfl
      · exact ih _
    · rfl
theorem getC_put' {κ : Type} [DecidableEq κ] {c c' : κ} {v : Val} {kvs : List (κ × Val)} (e : getC c kvs = none) : getC c' (putC c v kvs) = if c' = c then some v else getC c' kvs := by
  have no : ∀ p ∈ kvs, p.1 ≠ c := fun p hp z => by
    unfold getC at e
    rw [Option.map_eq_none_iff, List.find?_eq_none] at e
    exact e p hp (by simp [z])
  have an : (kvs.any fun p => decide (p.1 = c)) = false := by
    rw [List.any_eq_false]
    exact fun p hp => by simp [no p hp]
  unfold putC
  rw [an]
  simp only [Bool.false_eq_true, if_false]
  unfold getC
  rw [List.find?_append]
  by_cases q : c' = c
  · subst q
    rw [List.find?_eq_none.mpr fun p hp => by simp [no p hp]]
    simp
  · rw [if_neg q]
    have z : List.find? (fun p => decide (p.1 = c')) [(c, v)] = none := by simp [Ne.symm q]
    rw [z]
    simp
theorem putC_len' {κ : Type} [DecidableEq κ] {c : κ} {v : Val} {kvs : List (κ × Val)} : (putC c v kvs).length ≤ kvs.length + 1 := by
  unfold putC
  split <;> simp
theorem vin_tss {ss : List Str} {s : Str} {h : MH} : vin? h (.str s) (.tup (ss.map .str)) = some (decide (s ∈ ss)) := by
  have f : (ss.map Val.str).all flat = true := by
    rw [List.all_map, List.all_eq_true]; intro x hx; rfl
  show (if (flat (.str s) && (ss.map Val.str).all flat) = true then some ((ss.map Val.str).any fun z => eqF z (.str s)) else none) = _
  rw [if_pos (by rw [f]; rfl)]
  congr 1
  induction ss with
  | nil => rfl
  | cons x r ih =>
    simp only [List.map_cons, List.any_cons]
    rw [ih (by rw [List.all_map, List.all_eq_true]; intro x hx; rfl)]
    have e : eqF (.str x) (.str s) = decide (x = s) := id rfl
    rw [e]
    by_cases q : x = s
    · subst q; simp
    · have q' : ¬ s = x := fun z => q z.symm
      simp [q, q']
noncomputable abbrev EvOk (P : Pg) : Prop := ∀ {h : MH}, (P.cf "every" [] h).wp (fun v h' => v = bxV wholeB ∧ Gr h h') NoE
noncomputable abbrev BoxOk' (P : Pg) : Prop := ∀ {S : Nat} {ws : List Str} {z : Bool} {h : MH} {Q : Val → MH → Prop} {Z : XP}, h[S]? = some (.lst z (ws.map .str)) → (∀ w ∈ ws, w.length ≤ 4000) → ws.length ≤ 4000 → (∀ b h', Up h.length h h' → boxW ws = some b → Q (bxV b) h') → (∀ h', Up h.length h h' → boxW ws = none → NoR Z h') → (P.cf "box_by" [.ref S] h).wp Q Z
noncomputable def IBw (ws : List Str) (S D : Nat) (h2 : MH) (i : Nat) (ρ : Env') (h' : MH) : Prop := ∃ (kvs : List (L2.Key × Val)) (f : Str → Option Sg) (x3 x4 : Option Val), ρ = [some (.ref S), some (bxV wholeB), some (.ref D), x3, x4] ∧
  h'[D]? = some (.dct true kvs) ∧ kvs.length ≤ i ∧ (∀ k, getC (Sum.inr k : L2.Key) kvs = (f k).map stV) ∧ boxF (ws.drop (2 * i)) f = boxF ws (fun _ => none) ∧ Up D h2 h'
theorem box_runW {P : Pg} [RowPg P] [PairPg P] (ev : EvOk P) (nb : NumsOk P) (ab : AdrsOk P) {S : Nat} {ws : List Str} {z : Bool} {h : MH} {Q : Val → MH → Prop} {Z : XP} (hS : h[S]? = some (.lst z (ws.map .str))) (hw : ∀ w ∈ ws, w.length ≤ 4000) (hn : ws.length ≤ 4000)
    (good : ∀ b h', Up h.length h h' → boxW ws = some b → Q (bxV b) h') (bad : ∀ h', Up h.length h h' → boxW ws = none → NoR Z h') : (callB P dS_box_by [.ref S] h).wp Q Z := by
  rw [wp_call]
  unfold dS_box_by
  have nr := RowPg.nr (P := P)
  have pg := PairPg.prs (P := P)
  have b4 : (4096 : Nat) < sizeLine := by decide
  subst_eqs
  refine wp_to ev ?_
  rintro v h1 ⟨rfl, g1⟩
  have hS1 := g1.get hS
  have hS2 := (Gr.app (g := [Ob.dct true []])).get hS1
  have ek : ([Val.str (Str.ofString "turn"), .str (Str.ofString "kind"), .str (Str.ofString "from"), .str (Str.ofString "fromdoor"), .str (Str.ofString "to"), .str (Str.ofString "todoor")] : List Val) = K6.map .str := rfl
  rw [ek] at pg
  have U1 : Up h.length h (h1 ++ [Ob.dct true []]) := g1.up.app
  have hD : (h1 ++ [Ob.dct true []])[h1.length]? = some (Ob.dct true []) := app_last
  have lg := g1.len
  by_cases od : ws.length % 2 = 1
  · have o1 : ((ws.length : Int) % 2 = 1) = True := eq_true (by omega)
    exists hS2, o1, nr, List.length_map
    have no := boxF_odd (ws.length / 2) ws (fun _ => none) (by omega)
    exact bad _ U1 (by unfold boxW; rw [no]; rfl)
  have o1 : ((ws.length : Int) % 2 = 1) = False := eq_false (by omega)
  exists hS2, o1, List.length_map
  generalize h1 ++ [Ob.dct true []] = h2 at *
  generalize h1.length = D at *
  have ltS := lt_of hS
  have ltD := lt_of hD
  have cn : Mn.cnt 0 (ws.length : Int) 2 = ws.length / 2 := by simp [Mn.cnt]; omega
  refine ⟨by omega, ?_⟩
  refine wp_rng (IBw ws S D h2) ⟨[], fun _ => none, _, _, rfl, hD, Nat.le_refl _, (fun k => by simp [getC]), by simp, Nat.le_of_lt ltD, fun _ _ => rfl⟩ ?_ ?_
  · rintro i ρ h' hi ⟨kvs, f, x3, x4, rfl, hD', kl, hf, hb, u⟩
    rw [cn] at hi
    obtain ⟨k, hk⟩ : ∃ k, ws[2 * i]? = some k := ⟨_, List.getElem?_eq_getElem (by omega)⟩
    obtain ⟨w, hww⟩ : ∃ w, ws[2 * i + 1]? = some w := ⟨_, List.getElem?_eq_getElem (by omega)⟩
    have dr : ws.drop (2 * i) = k :: w :: ws.drop (2 * (i + 1)) := by
      rw [List.drop_eq_getElem_cons (by omega), List.drop_eq_getElem_cons (by omega)]
      rw [List.getElem?_eq_getElem (by omega)] at hk hww
      cases hk; cases hww; rfl
    rw [dr] at hb
    simp only [boxF] at hb
    have a0 : L2.atI (ws.map Val.str) ((i : Int) * 2) = some (.str k) := by
      rw [show ((i : Int) * 2) = ((2 * i : Nat) : Int) by omega, Mn.atI_nat, List.getElem?_map, hk]; rfl
    have a1 : L2.atI (ws.map Val.str) ((i : Int) * 2 + 1) = some (.str w) := by
      rw [show ((i : Int) * 2 + 1) = ((2 * i + 1 : Nat) : Int) by omega, Mn.atI_nat, List.getElem?_map, hww]; rfl
    have ww := hw w (List.mem_of_getElem? hww)
    have hS' := u.get (by omega) hS2
    have vp : vin? h' (.str k) (.tup (K6.map .str)) = some (decide (k ∈ K6)) := vin_tss
    have vd : vin? h' (.str k) (.ref D) = some (f k).isSome := by
      rw [vin_d (c := Sum.inr k) hD' rfl, hf]; cases f k <;> rfl
    have UU : ∀ g : MH, Up h'.length h' g → Up h.length h g := fun g ug => U1.trans ((u.trans ug (Nat.le_of_lt (lt_of hD')))) lg
    have non : ∀ g : MH, Up h'.length h' g → boxF ws (fun _ => none) = none → NoR Z g := fun g ug e => bad g (UU g ug) (by unfold boxW; rw [e]; rfl)
    by_cases km : k ∈ K6
    case neg =>
      have km1 := eq_false km
      exists hS', a0, pg, vp, vd, km1, nr
      exact non _ Up.refl (by rw [← hb, if_neg fun q => km q.1])
    have km1 := eq_true km
    cases fk : f k with
    | some p0 =>
      have fk1 : (f k).isSome = true := by rw [fk]; rfl
      exists hS', a0, pg, vp, vd, km1, nr, fk1
      exact non _ Up.refl (by rw [← hb, if_neg fun q => by rw [fk] at q; cases q.2])
    | none =>
    have fk1 : (f k).isSome = false := by rw [fk]; rfl
    rw [if_pos ⟨km, fk⟩] at hb
    have g0 : getC (Sum.inr k : L2.Key) kvs = none := by rw [hf, fk]; rfl
    have ks : kvs.length < sizeLine := by omega
    have nx : ∀ (x3 x4 : Option Val) (p : Sg) (g : MH), valW k w = some p → Up h'.length h' g → IBw ws S D h2 (i + 1) [some (.ref S), some (bxV wholeB), some (.ref D), x3, x4] (g.set D (.dct true (putC (Sum.inr k) (stV p) kvs))) := fun x3 x4 p g ev ug => by
      have ltg : D < g.length := Nat.lt_of_lt_of_le (lt_of hD') ug.1
      rw [ev] at hb
      refine ⟨_, (fun k' => if k' = k then some p else f k'), _, _, rfl, List.getElem?_set_self ltg, by have := putC_len' (c := (Sum.inr k : L2.Key)) (v := stV p) (kvs := kvs); omega, fun k' => ?_, hb, ?_⟩
      · rw [getC_put' g0]
        dsimp only
        by_cases e : k' = k
        · subst e
          rw [if_pos rfl, if_pos rfl]; rfl
        · have ne : ¬ (Sum.inr k' : L2.Key) = Sum.inr k := fun z => e (by simpa using z)
          rw [if_neg ne, hf k', if_neg e]
      · exact (u.trans ug (Nat.le_of_lt (lt_of hD'))).set (Nat.le_refl _)
    have hDg := fun {g : MH} (ug : Up h'.length h' g) => ug.get (lt_of hD') hD'
    have i6 : K6.idxOf k < 6 := List.idxOf_lt_length_of_mem km
    by_cases c : k = Str.ofString "from" ∨ k = Str.ofString "to"
    · have ev : valW k w = addrsW w := if_pos c
      have go : (P.cf "addresses_by" [.str w] h').wp (fun v g => (∃ p, v = stV p ∧ valW k w = some p) ∧ Up h'.length h' g) (fun c1 fs g => c1 = "NoRow" ∧ fs = [("row", .int 1)] ∧ Up h'.length h' g ∧ valW k w = none) :=
        ab ww (fun p g ug e => ⟨⟨p, rfl, by rw [ev]; exact e⟩, ug⟩) (fun g ug e => ⟨rfl, rfl, ug, by rw [ev]; exact e⟩)
      have cc : (k = Str.ofString "from") = True ∨ (k = Str.ofString "from") = False ∧ (k = Str.ofString "to") = True := by
        by_cases q : k = Str.ofString "from"
        · exact .inl (eq_true q)
        · rcases c with c | c
          · exact absurd c q
          · exact .inr ⟨eq_false q, eq_true c⟩
      rcases cc with c1 | ⟨c1, c2⟩
      · exists hS', a0, a1, pg, vp, vd, km1, fk1, c1
        refine wp_imp go ?_ ?_
        · rintro v g ⟨⟨p, rfl, e⟩, ug⟩
          have hD2 := hDg ug
          exists hD2, ks
          exact nx _ _ p _ e ug
        · rintro c fs g ⟨rfl, rfl, ug, e⟩
          exact non g ug (by rw [← hb, e])
      · exists hS', a0, a1, pg, vp, vd, km1, fk1, c1, c2
        refine wp_imp go ?_ ?_
        · rintro v g ⟨⟨p, rfl, e⟩, ug⟩
          have hD2 := hDg ug
          exists hD2, ks
          exact nx _ _ p _ e ug
        · rintro c fs g ⟨rfl, rfl, ug, e⟩
          exact non g ug (by rw [← hb, e])
    · have ev : valW k w = numsW w (topN (K6.idxOf k)) := if_neg c
      have c1 : (k = Str.ofString "from") = False := eq_false fun z => c (.inl z)
      have c2 : (k = Str.ofString "to") = False := eq_false fun z => c (.inr z)
      have tv : wholeB[K6.idxOf k]? = some ((0, topN (K6.idxOf k)) : Sg) := by
        generalize K6.idxOf k = j at *
        rcases (by omega : j = 0 ∨ j = 1 ∨ j = 2 ∨ j = 3 ∨ j = 4 ∨ j = 5) with rfl | rfl | rfl | rfl | rfl | rfl <;> rfl
      have gx := fun (kk : Val → Prop) => gx_i (k := kk) km
      exists hS', a0, a1, pg, vp, vd, km1, fk1, c1, c2, gx, bx_def, tv, stV_def, hD', ks
      refine nb ww (fun p e => ?_) (fun e => non _ Up.refl (by rw [← hb, ev, e]))
      exists hD', ks
      exact nx _ _ p _ (by rw [ev]; exact e) Up.refl
  · rintro ρ h' ⟨kvs, f, x3, x4, rfl, hD', kl, hf, hb, u⟩
    rw [cn, List.drop_eq_nil_of_le (by omega)] at hb
    simp only [boxF] at hb
    have eb : boxW ws = some ((List.range 6).map fun i => (f (kyS i)).getD (0, topN i)) := by
      unfold boxW
      rw [← hb]; rfl
    exists pg
    refine wp_comp (fun i acc h'' => h'' = h' ∧ acc = ((List.range i).map fun i => (f (kyS i)).getD (0, topN i)).map stV) ⟨rfl, rfl⟩ ?_ ?_
    · rintro i v acc h'' hv ⟨rfl, rfl⟩
      have i6 : i < 6 := (List.getElem?_eq_some_iff.mp hv).1
      have ve : v = .tup [.int i, .str (kyS i)] := by
        unfold enumL at hv
        rw [List.getElem?_mapIdx, List.getElem?_map] at hv
        have ke : K6[i]? = some (kyS i) := by
          rcases (by omega : i = 0 ∨ i = 1 ∨ i = 2 ∨ i = 3 ∨ i = 4 ∨ i = 5) with rfl | rfl | rfl | rfl | rfl | rfl <;> rfl
        rw [ke] at hv
        cases hv; rfl
      subst ve
      have tv : wholeB[i]? = some ((0, topN i) : Sg) := by
        rcases (by omega : i = 0 ∨ i = 1 ∨ i = 2 ∨ i = 3 ∨ i = 4 ∨ i = 5) with rfl | rfl | rfl | rfl | rfl | rfl <;> rfl
      have gt : (getC (Sum.inr (kyS i) : L2.Key) kvs).getD (stV (0, topN i)) = stV ((f (kyS i)).getD (0, topN i)) := by
        rw [hf]
        cases f (kyS i) <;> rfl
      have ty : ((List.range (i + 1)).map fun i => (f (kyS i)).getD (0, topN i)).map stV = ((List.range i).map fun i => (f (kyS i)).getD (0, topN i)).map stV ++ [stV ((f (kyS i)).getD (0, topN i))] := by
        rw [List.range_succ, List.map_append, List.map_append]; rfl
      refine ⟨by rw [stands_nil]; trivial, by simp; omega, ?_⟩
      exists wi_cons, wi_nil, hD', bx_def, tv, gt, ty
    rintro acc h'' ⟨rfl, rfl⟩
    refine ⟨by rw [stands_nil]; trivial, ?_⟩
    rw [show (enumL (K6.map Val.str)).length = 6 from rfl]
    subst_eqs
    have bv : bxV ((List.range 6).map fun i => (f (kyS i)).getD (0, topN i)) = .tup (((List.range 6).map fun i => (f (kyS i)).getD (0, topN i)).map stV) := rfl
    rw [← bv]
    exact good _ _ ((U1.trans u lg).app) eb
/-! names and rules -/
noncomputable def NmW (s : Str) : Prop := (1 ≤ s.length ∧ s.length ≤ 12) ∧ ∀ c ∈ s.cps.toList, 97 ≤ c ∧ c ≤ 122
noncomputable abbrev NameOk' (P : Pg) : Prop := ∀ {s : Str} {h : MH} {Q : Val → MH → Prop} {Z : XP}, s.length ≤ 4000 → (∀ h', Gr h h' → Q (.bl (decide (NmW s))) h') → (P.cf "is_name" [.str s] h).wp Q Z
/-- the rule that words write -/
noncomputable def ruleW : List Str → Option Rl
  | [] => none
  | k :: r => if k = sCall then (match r with
      | [] => none
      | nm :: r' => if NmW nm then (boxW r').map fun b => .call b nm else none)
    else if k = sPass then (boxW r).map (.word false)
    else if k = sStop then (boxW r).map (.word true)
    else if k = sBack then (boxW r).map .back else none
noncomputable abbrev RuleOk' (P : Pg) : Prop := ∀ {S : Nat} {ws : List Str} {z : Bool} {h : MH} {Q : Val → MH → Prop} {Z : XP}, h[S]? = some (.lst z (ws.map .str)) → (∀ w ∈ ws, w.length ≤ 4000 ∧ (PyData.str w).canLay0 = true) → ws.length ≤ 4000 → (∀ r h', Up h.length h h' → ruleW ws = some r → Q (rlV r) h') → (∀ h', Up h.length h h' → ruleW ws = none → NoR Z h') → (P.cf "rule_by" [.ref S] h).wp Q Z
/-! words of a row -/
noncomputable def rowWs (row : Str) : List Str := (Txt.split (Txt.partition row (Str.ofString "#")).1 (Str.ofString " ")).filter fun w => !decide (w = Str.ofString "")
theorem rowWs_len {row : Str} : (∀ w ∈ rowWs row, w.length ≤ row.length) ∧ (rowWs row).length ≤ row.length + 2 := by
  have q := (prt_len (w := row) (s := Str.ofString "#") (by rw [sep_tl.2.2.2.2]; simp)).1
  constructor
  · intro w hw
    have := split_len (by rw [sep_tl.2.2.2.1]; simp) (by decide +kernel) w (List.mem_filter.mp hw).1
    omega
  · unfold rowWs
    have := List.length_filter_le (fun w => !decide (w = Str.ofString "")) (Txt.split (Txt.partition row (Str.ofString "#")).1 (Str.ofString " "))
    have := PyProof.Rows.split_le (Txt.partition row (Str.ofString "#")).1 (Str.ofString " ")
    omega
noncomputable abbrev WordsOk' (P : Pg) : Prop := ∀ {row : Str} {h : MH} {Q : Val → MH → Prop} {Z : XP}, row.length ≤ 3000 → (∀ W h', h'[W]? = some (.lst true ((rowWs row).map .str)) → h.length ≤ W → Gr h h' → Q (.ref W) h') → (P.cf "words_of" [.str row] h).wp Q Z
theorem words_runW {P : Pg} {row : Str} {h : MH} {Q : Val → MH → Prop} {Z : XP} (hl : row.length ≤ 3000) (fin : ∀ W h', h'[W]? = some (.lst true ((rowWs row).map .str)) → h.length ≤ W → Gr h h' → Q (.ref W) h') : (callB P dS_words_of [.str row] h).wp Q Z := by
  rw [wp_call]
  unfold dS_words_of
  have hp := (prt_len (w := row) (s := Str.ofString "#") (by rw [sep_tl.2.2.2.2]; simp)).1
  have hw := PyProof.Rows.split_le (Txt.partition row (Str.ofString "#")).1 (Str.ofString " ")
  have b4 : (4096 : Nat) < sizeLine := by decide
  have l : row.length ≤ sizeLine := by omega
  have l2 : (Txt.partition row (Str.ofString "#")).1.length + 2 ≤ sizeLine := by omega
  have l1 : ((Str.ofString "#").length == 0) = false := by decide +kernel
  have l0 : ((Str.ofString " ").length == 0) = false := by decide +kernel
  unfold rowWs at fin
  generalize hsp : Txt.split (Txt.partition row (Str.ofString "#")).1 (Str.ofString " ") = sp at *
  exists l, l1, l2, l0, hsp
  have hS : (h ++ [Ob.lst true (sp.map Val.str)])[h.length]? = some (Ob.lst true (sp.map Val.str)) := app_last
  have g1 : Gr h (h ++ [Ob.lst true (sp.map Val.str)]) := Gr.app
  generalize h ++ [Ob.lst true (sp.map Val.str)] = h1 at *
  have lN : h.length < h1.length := lt_of hS
  refine wp_compC (fun i acc h' => h' = h1 ∧ acc = ((sp.take i).filter fun w => !decide (w = Str.ofString "")).map .str) ⟨rfl, rfl⟩ ?_ ?_
  · rintro i v acc h' hv ⟨rfl, rfl⟩
    rw [List.getElem?_map] at hv
    obtain ⟨w, hw', rfl⟩ := Option.map_eq_some_iff.mp hv
    refine ⟨by rw [stands_one]; exact hS, ?_, ?_⟩
    · rw [List.length_map]
      have := List.length_filter_le (fun w : Str => !decide (w = Str.ofString "")) (sp.take i)
      rw [List.length_take] at this
      omega
    · have tk : (sp.take (i + 1)).filter (fun w => !decide (w = Str.ofString "")) = (sp.take i).filter (fun w => !decide (w = Str.ofString "")) ++ (if w = Str.ofString "" then [] else [w]) := by
        rw [List.take_add_one, hw', List.filter_append]
        congr 1
        by_cases e : w = Str.ofString ""
        · simp [e]
        · simp [e]
      by_cases e : w = Str.ofString ""
      · have e' := eq_true e
        rw [if_pos e, List.append_nil] at tk
        exists wi_cons, wi_nil, e', tk
      · have e' := eq_false e
        rw [if_neg e] at tk
        exists wi_cons, wi_nil, e', tk
        simp
  rintro acc h' ⟨rfl, rfl⟩
  refine ⟨by rw [stands_one]; exact hS, ?_⟩
  rw [List.length_map, List.take_length]
  subst_eqs
  exact fin _ _ app_last (by omega) (g1.trans Gr.app)
end
/-! Mini: what words write: plain facts -/
section
open PySem
open Classical
/-! signs of written words -/
theorem dn_no {n c : Nat} (h : c < 48 ∨ 57 < c) : c ∉ TL.tl (Dn n) := fun hm => by
  have q := dn_F (n := n) c hm
  unfold isF at q
  omega
theorem nF {c : Nat} (h : c < 48 ∨ 57 < c) : ¬ isF c := by unfold isF; omega
noncomputable def addrT (v : Nat) : Str := Tx (Dn (v / 16777216)) (Dn (v / 65536 % 256)) (Dn (v / 256 % 256)) (Dn (v % 256))
theorem no_dot {n : Nat} : 46 ∉ TL.tl (Dn n) := dn_no (by omega)
theorem split_at_dots {v : Nat} : Txt.split (addrT v) (Str.ofString ".") = [Dn (v / 16777216), Dn (v / 65536 % 256), Dn (v / 256 % 256), Dn (v % 256)] := split_tx fun p hp => by
  simp only [List.mem_cons, List.not_mem_nil, or_false] at hp
  rcases hp with rfl | rfl | rfl | rfl <;> exact no_dot
theorem addrT_ok {v : Nat} (h : v ≤ 4294967295) : addrW (addrT v) = some (v : Int) := by
  unfold addrW
  rw [split_at_dots]
  refine (if_pos (by simp)).trans ?_
  have p : ∀ n, n < 256 → partG (Dn n) := fun n hn => (part_dn (by omega)).mpr (by omega)
  simp only [addrL, dn_v]
  rw [if_pos (p _ (by omega)), if_pos (p _ (by omega)), if_pos (p _ (by omega)), if_pos (p _ (by omega))]
  congr 1
  omega
theorem one_len : (Str.ofString ".").length = 1 ∧ (Str.ofString "-").length = 1 ∧ (Str.ofString "/").length = 1 ∧ (Str.ofString " ").length = 1 ∧ (Str.ofString "#").length = 1 := by decide +kernel
theorem addrT_len {v : Nat} (h : v ≤ 4294967295) : (addrT v).length ≤ 15 ∧ 1 ≤ (addrT v).length := by
  have ld := one_len.1
  have l0 : (Dn (v / 16777216)).length ≤ 3 := dn_len (by decide) (by omega)
  have l1 : (Dn (v / 65536 % 256)).length ≤ 3 := dn_len (by decide) (by omega)
  have l2 : (Dn (v / 256 % 256)).length ≤ 3 := dn_len (by decide) (by omega)
  have l3 : (Dn (v % 256)).length ≤ 3 := dn_len (by decide) (by omega)
  unfold addrT Tx
  simp only [len_app, ld]
  omega
theorem addrT_mem {v : Nat} : ∀ c ∈ TL.tl (addrT v), c = 46 ∨ (48 ≤ c ∧ c ≤ 57) := by
  intro c hc
  unfold addrT Tx at hc
  simp only [TL.tl_append, sep_tl.2.2.1, List.mem_append, List.mem_singleton] at hc
  rcases hc with (((((hc | hc) | hc) | hc) | hc) | hc) | hc
  all_goals first | (exact .inl hc) | (exact .inr (dn_F c hc))
theorem addrT_no {v c : Nat} (hc : c < 46 ∨ c = 47 ∨ 57 < c) : c ∉ TL.tl (addrT v) := fun z => by
  have := addrT_mem c z
  omega
theorem dn_10 {v : Nat} (h : v ≤ 4294967296) : (Dn v).length ≤ 10 := dn_len (by decide) (by omega)
theorem num_bad {w : Str} {m : Int} {c : Nat} (hc : c ∈ TL.tl w) (n : ¬ isF c) : ¬ numG w m := fun g => n (g.2.2.2.1 c hc)
theorem part_bad {w : Str} {c : Nat} (hc : c ∈ TL.tl w) (n : ¬ isF c) : ¬ partG w := fun g => n (g.2.2.2.1 c hc)
theorem one_part {t : Str} (h : 46 ∉ TL.tl t) : addrW t = none := by
  have e : Txt.join (Str.ofString ".") [t] = t := by rw [TL.join_eq]; rfl
  have s : Txt.split t (Str.ofString ".") = [t] := by
    have q : Txt.split (Txt.join (Str.ofString ".") [t]) (Str.ofString ".") = [t] := TL.split_join dot_tl (by decide +kernel) (by simp) (fun p hp => by
      cases hp with
      | head => exact h
      | tail _ z => cases z)
    rw [e] at q
    exact q
  unfold addrW
  rw [s]
  exact if_neg (by simp)
theorem four_bad {a b c d : Str} (h : ∀ p ∈ [a, b, c, d], 46 ∉ TL.tl p) (bad : ¬ (partG a ∧ partG b ∧ partG c ∧ partG d)) : addrW (Tx a b c d) = none := by
  unfold addrW
  rw [split_tx h]
  refine (if_pos (by simp)).trans ?_
  simp only [addrL]
  by_cases p1 : partG a
  · rw [if_pos p1]
    by_cases p2 : partG b
    · rw [if_pos p2]
      by_cases p3 : partG c
      · rw [if_pos p3]
        exact if_neg fun p4 => bad ⟨p1, p2, p3, p4⟩
      · rw [if_neg p3]
    · rw [if_neg p2]
  · rw [if_neg p1]
theorem no_app {x y : Str} {c : Nat} (h1 : c ∉ TL.tl x) (h2 : c ∉ TL.tl y) : c ∉ TL.tl (x ++ y) := by
  rw [TL.tl_append]
  intro z
  rcases List.mem_append.mp z with z | z
  · exact h1 z
  · exact h2 z
/-! stretches -/
theorem mi_nil : (Str.empty = Str.ofString "-") = False ∧ (Str.empty = Str.ofString "/") = False := ⟨eq_false (by decide +kernel), eq_false (by decide +kernel)⟩
theorem nums_no {w : Str} {m : Int} (h : 45 ∉ TL.tl w) : numsW w m = if numG w m then some (wv w, wv w) else none := by
  unfold numsW
  rw [TL.partition_none sep_tl.1 h]
  simp only [mi_nil.1, if_false]
theorem nums_mi {a b : Str} {m : Int} (h : 45 ∉ TL.tl a) : numsW (a ++ Str.ofString "-" ++ b) m = if numG a m ∧ numG b m ∧ wv a ≤ wv b then some (wv a, wv b) else none := by
  unfold numsW
  rw [TL.partition_app sep_tl.1 h]
  simp only [if_true]
theorem nums_one {i : Nat} {m : Int} (h : (i : Int) ≤ m) (hi : i < 10 ^ 10) : numsW (Dn i) m = some ((i : Int), (i : Int)) := by
  rw [nums_no (dn_no (by omega)), if_pos ((num_dn hi).mpr h), dn_v]
theorem nums_two {i j : Nat} {m : Int} (hj : (j : Int) ≤ m) (h : i ≤ j) (hi : j < 10 ^ 10) : numsW (Dn i ++ Str.ofString "-" ++ Dn j) m = some ((i : Int), (j : Int)) := by
  rw [nums_mi (dn_no (by omega)), if_pos ⟨(num_dn (by omega)).mpr (by omega), (num_dn hi).mpr hj, by rw [dn_v, dn_v]; omega⟩, dn_v, dn_v]
theorem addrs_no {w : Str} (h : 45 ∉ TL.tl w) (h2 : 47 ∉ TL.tl w) : addrsW w = (addrW w).map fun a => (a, a) := by
  unfold addrsW
  rw [TL.partition_none sep_tl.1 h, TL.partition_none sep_tl.2.1 h2]
  simp only [mi_nil.1, mi_nil.2, if_false]
  cases addrW w <;> rfl
theorem addrs_mi {a b : Str} (h : 45 ∉ TL.tl a) (h2 : 47 ∉ TL.tl (a ++ Str.ofString "-" ++ b)) : addrsW (a ++ Str.ofString "-" ++ b) = match addrW a with
    | none => none
    | some x => match addrW b with
      | none => none
      | some y => if x ≤ y then some (x, y) else none := by
  unfold addrsW
  rw [TL.partition_app sep_tl.1 h, TL.partition_none sep_tl.2.1 h2]
  simp only [mi_nil.2, if_false, if_true]
  all_goals (cases addrW a <;> first | rfl | (cases addrW b <;> rfl))
theorem addrs_sl {a b : Str} (h : 47 ∉ TL.tl a) : addrsW (a ++ Str.ofString "/" ++ b) = match addrW a with
    | none => none
    | some x => if numG b 32 then some (begS x (wv b)) else none := by
  unfold addrsW
  rw [TL.partition_app sep_tl.2.1 h]
  simp only [if_true]
  all_goals (cases addrW a <;> rfl)
theorem addrs_one {a : Nat} (h : a ≤ 4294967295) : addrsW (addrT a) = some ((a : Int), (a : Int)) := by
  rw [addrs_no (addrT_no (by omega)) (addrT_no (by omega)), addrT_ok h]; rfl
theorem addrs_two {a b : Nat} (h : b ≤ 4294967295) (hab : a ≤ b) : addrsW (addrT a ++ Str.ofString "-" ++ addrT b) = some ((a : Int), (b : Int)) := by
  rw [addrs_mi (addrT_no (by omega)) (no_app (no_app (addrT_no (by omega)) (by rw [sep_tl.1]; simp)) (addrT_no (by omega))), addrT_ok (by omega), addrT_ok h]
  exact if_pos (by omega)
theorem addrs_bits {a b : Nat} (h : a ≤ 4294967295) (hb : b ≤ 32) : addrsW (addrT a ++ Str.ofString "/" ++ Dn b) = some (begS a b) := by
  rw [addrs_sl (addrT_no (by omega)), addrT_ok h]
  show (if numG (Dn b) 32 then _ else _) = _
  rw [if_pos ((num_dn (by omega)).mpr (by omega)), dn_v]
/-! pairs -/
noncomputable def flatP (l : List (Nat × Str)) : List Str := l.flatMap fun q => [kyS q.1, q.2]
theorem flat_len : ∀ l : List (Nat × Str), (flatP l).length = 2 * l.length
  | [] => rfl
  | q :: l => by
    have ih := flat_len l
    unfold flatP at ih ⊢
    rw [List.flatMap_cons, List.length_append, ih]
    simp only [List.length_cons, List.length_nil]
    omega
theorem flat_cons {q : Nat × Str} {l : List (Nat × Str)} : flatP (q :: l) = kyS q.1 :: q.2 :: flatP l := by
  unfold flatP
  rw [List.flatMap_cons]; rfl
theorem flat_app {l l' : List (Nat × Str)} : flatP (l ++ l') = flatP l ++ flatP l' := by
  unfold flatP
  rw [List.flatMap_append]
theorem ky_ne {i j : Nat} (hi : i < 6) (hj : j < 6) (h : i ≠ j) : ¬ kyS i = kyS j := fun e => h (key_inj i hi j hj e)
/-- pairs that are good, each told once, are read as their stretches -/
theorem boxF_flat {B : Nat → Sg} {r : List Str} : ∀ (l : List (Nat × Str)) (f : Str → Option Sg), (∀ q ∈ l, q.1 < 6 ∧ valW (kyS q.1) q.2 = some (B q.1)) → (l.map (·.1)).Nodup → (∀ q ∈ l, f (kyS q.1) = none) →
    ∃ g, boxF (flatP l ++ r) f = boxF r g ∧ (∀ i < 6, g (kyS i) = if i ∈ l.map (·.1) then some (B i) else f (kyS i)) ∧ ∀ k, f k ≠ none → g k ≠ none
  | [], f, _, _, _ => ⟨f, rfl, fun i _ => by simp, fun k h => h⟩
  | q :: l, f, h1, h2, h3 => by
    obtain ⟨q6, qv⟩ := h1 q (by simp)
    have nd := h2
    rw [List.map_cons, List.nodup_cons] at nd
    have ne : ∀ p ∈ l, ¬ kyS p.1 = kyS q.1 := fun p hp e => nd.1 (by
      have := key_inj p.1 (h1 p (List.mem_cons_of_mem _ hp)).1 q.1 q6 e
      rw [← this]
      exact List.mem_map.mpr ⟨p, hp, rfl⟩)
    obtain ⟨g, e, hg, hk⟩ := boxF_flat (B := B) (r := r) l (fun k' => if k' = kyS q.1 then some (B q.1) else f k') (fun p hp => h1 p (List.mem_cons_of_mem _ hp)) nd.2 (fun p hp => by
      show (if kyS p.1 = kyS q.1 then _ else f (kyS p.1)) = none
      rw [if_neg (ne p hp)]
      exact h3 p (List.mem_cons_of_mem _ hp))
    refine ⟨g, ?_, fun i hi => ?_, fun k hkf => hk k ?_⟩
    · rw [flat_cons]
      simp only [List.cons_append, boxF]
      rw [if_pos ⟨(key_idx q.1 q6).2, h3 q (by simp)⟩, qv]
      exact e
    · rw [hg i hi]
      by_cases m : i ∈ l.map (·.1)
      · rw [if_pos m, if_pos (by rw [List.map_cons]; exact List.mem_cons_of_mem _ m)]
      · rw [if_neg m]
        show (if kyS i = kyS q.1 then _ else f (kyS i)) = _
        by_cases e2 : i = q.1
        · subst e2
          rw [if_pos rfl, if_pos (by simp)]
        · rw [if_neg (ky_ne hi q6 e2), if_neg (by rw [List.map_cons]; simp only [List.mem_cons, not_or]; exact ⟨e2, m⟩)]
    · show (if k = kyS q.1 then some (B q.1) else f k) ≠ none
      by_cases z : k = kyS q.1
      · rw [if_pos z]; simp
      · rw [if_neg z]; exact hkf
theorem boxW_flat {B : Nat → Sg} {l : List (Nat × Str)} (h1 : ∀ q ∈ l, q.1 < 6 ∧ valW (kyS q.1) q.2 = some (B q.1)) (h2 : (l.map (·.1)).Nodup) : boxW (flatP l) = some ((List.range 6).map fun i => if i ∈ l.map (·.1) then B i else (0, topN i)) := by
  obtain ⟨g, e, hg, _⟩ := boxF_flat (B := B) (r := []) l (fun _ => none) h1 h2 (fun _ _ => rfl)
  rw [List.append_nil] at e
  unfold boxW
  rw [e]
  simp only [boxF, Option.map_some]
  congr 1
  apply List.map_congr_left
  intro i hi
  rw [hg i (List.mem_range.mp hi)]
  by_cases m : i ∈ l.map (·.1)
  · rw [if_pos m, if_pos m]; rfl
  · rw [if_neg m, if_neg m]; rfl
/-! rows -/
noncomputable def RwOk (row : Str) (ws : List Str) (e : Bool) : Prop := ∃ (ps : List Str) (x : Str), row = Str.join (Str.ofString " ") (ps ++ [x]) ∧ (∀ p ∈ ps ++ [x], 32 ∉ TL.tl p ∧ 35 ∉ TL.tl p) ∧ (ps ++ [x]).filter (fun w => !decide (w = Str.ofString "")) = ws ∧ (e = true → x = Str.ofString "") ∧ ps.length ≤ row.length
theorem sp_tl : TL.tl (Str.ofString " ") = [32] := by decide +kernel
theorem em_tl : TL.tl (Str.ofString "") = [] := by decide +kernel
theorem join_last {ps : List Str} {x y : Str} : Str.join (Str.ofString " ") (ps ++ [x]) ++ y = Str.join (Str.ofString " ") (ps ++ [x ++ y]) := by
  rw [PyProof.Rows.FinIter.join_snoc, PyProof.Rows.FinIter.join_snoc]
  split
  · rfl
  · rw [str_assoc]
theorem RwOk.nil : RwOk (Str.ofString "") [] true := ⟨[], Str.ofString "", by decide +kernel, by decide +kernel, by decide +kernel, fun _ => rfl, Nat.zero_le _⟩
theorem RwOk.sp {row : Str} {ws : List Str} {e : Bool} (r : RwOk row ws e) : RwOk (row ++ Str.ofString " ") ws true := by
  obtain ⟨ps, x, rfl, q, f, _, l⟩ := r
  refine ⟨ps ++ [x], Str.ofString "", ?_, fun p hp => ?_, ?_, fun _ => rfl, ?_⟩
  · rw [PyProof.Rows.FinIter.join_snoc (Str.ofString " ") (Str.ofString "") (ps ++ [x]), if_neg (by simp)]
    refine TL.ext_tl ?_
    rw [TL.tl_append _ (Str.ofString ""), em_tl, List.append_nil]
  · rcases List.mem_append.mp hp with z | z
    · exact q p z
    · rw [List.mem_singleton.mp z, em_tl]
      simp
  · rw [List.filter_append, f]
    simp
  · rw [List.length_append, len_app, one_len.2.2.2.1]
    simp only [List.length_cons, List.length_nil]
    omega
theorem emp_app {z : Str} : Str.empty ++ z = z := TL.ext_tl (by rw [TL.tl_append]; rfl)
theorem rep_succ (n : Nat) : repS (Str.ofString " ") (n + 1) = repS (Str.ofString " ") n ++ Str.ofString " " := by
  have fl : ∀ (n : Nat) (a : Array Nat), (List.replicate n (Str.ofString " ").cps).foldl (· ++ ·) a = a ++ (List.replicate n (Str.ofString " ").cps).foldl (· ++ ·) #[] := fun n => by
    induction n with
    | zero => intro a; simp
    | succ n ih =>
      intro a
      rw [List.replicate_succ, List.foldl_cons, List.foldl_cons, ih, ih (#[] ++ _)]
      simp
  have fs : ∀ n : Nat, (List.replicate (n + 1) (Str.ofString " ").cps).foldl (· ++ ·) #[] = (List.replicate n (Str.ofString " ").cps).foldl (· ++ ·) #[] ++ (Str.ofString " ").cps := fun n => by
    rw [List.replicate_succ', List.foldl_append]
    rfl
  exact congrArg Str.mk (fs n)
theorem rep_len (n : Nat) : (repS (Str.ofString " ") n).length = n := by
  induction n with
  | zero => rfl
  | succ n ih => rw [rep_succ, len_app, ih, one_len.2.2.2.1]
theorem RwOk.bl {row : Str} {ws : List Str} {e : Bool} (r : RwOk row ws e) : ∀ n, 0 < n → RwOk (row ++ repS (Str.ofString " ") n) ws true
  | 1, _ => by
    rw [show repS (Str.ofString " ") 1 = Str.ofString " " by decide +kernel]
    exact r.sp
  | n + 2, _ => by
    rw [rep_succ, ← str_assoc]
    exact (RwOk.bl r (n + 1) (by omega)).sp
theorem RwOk.fst (n : Nat) : RwOk (repS (Str.ofString " ") n) [] true := by
  cases n with
  | zero => exact RwOk.nil
  | succ n =>
    have := RwOk.bl RwOk.nil (n + 1) (by omega)
    rwa [show (Str.ofString "") = Str.empty from rfl, emp_app] at this
/-- a word without blanks -/
noncomputable def WdOk (w : Str) : Prop := 1 ≤ w.length ∧ w.length ≤ 60 ∧ ∀ c ∈ TL.tl w, 33 ≤ c ∧ c < 200 ∧ c ≠ 35
theorem RwOk.wd {row : Str} {ws : List Str} (r : RwOk row ws true) {w : Str} (hw : WdOk w) : RwOk (row ++ w) (ws ++ [w]) false := by
  obtain ⟨ps, x, rfl, q, f, xe, l⟩ := r
  have x0 := xe rfl
  subst x0
  have ew : Str.ofString "" ++ w = w := emp_app
  refine ⟨ps, w, ?_, fun p hp => ?_, ?_, (fun z => by cases z), by rw [len_app]; omega⟩
  · rw [join_last, ew]
  · rcases List.mem_append.mp hp with z | z
    · exact q p (List.mem_append_left _ z)
    · rw [List.mem_singleton.mp z]
      exact ⟨fun c => by have := hw.2.2 _ c; omega, fun c => by have := hw.2.2 _ c; omega⟩
  · have ne : ¬ w = Str.ofString "" := fun z => by
      have := hw.1
      rw [z] at this
      exact absurd this (by decide +kernel)
    rw [List.filter_append] at f ⊢
    simp only [List.filter_cons, List.filter_nil, decide_true, Bool.not_true, Bool.false_eq_true, if_false, List.append_nil] at f
    rw [f]
    simp [ne]
theorem RwOk.no {row : Str} {ws : List Str} {e : Bool} (r : RwOk row ws e) : 35 ∉ TL.tl row := by
  obtain ⟨ps, x, rfl, q, -⟩ := r
  rw [TL.tl_join, sp_tl]
  generalize ps ++ [x] = l at *
  induction l with
  | nil => simp [TL.joinL]
  | cons p l ih =>
    cases l with
    | nil => simpa [TL.joinL] using (q p (List.mem_cons_self ..)).2
    | cons p2 l =>
      have := ih fun y hy => q y (List.mem_cons_of_mem _ hy)
      have q1 := (q p (List.mem_cons_self ..)).2
      show 35 ∉ TL.tl p ++ ([32] ++ TL.joinL [32] ((p2 :: l).map TL.tl))
      simp only [List.mem_append, not_or]
      exact ⟨q1, by simp, this⟩
theorem RwOk.split {row : Str} {ws : List Str} {e : Bool} (r : RwOk row ws e) : (Txt.split row (Str.ofString " ")).filter (fun w => !decide (w = Str.ofString "")) = ws ∧ (Txt.split row (Str.ofString " ")).length ≤ row.length + 1 := by
  obtain ⟨ps, x, rfl, q, f, _, l⟩ := r
  have := TL.split_join sp_tl (by decide +kernel) (parts := ps ++ [x]) (by simp) fun p hp => (q p hp).1
  rw [TL.join_eq] at this
  rw [this]
  exact ⟨f, by rw [List.length_append]; simp only [List.length_cons, List.length_nil]; omega⟩
theorem ha_tl : TL.tl (Str.ofString "#") = [35] := sep_tl.2.2.2.2
theorem RwOk.words {row : Str} {ws : List Str} {e : Bool} (r : RwOk row ws e) : rowWs row = ws ∧ ∀ b : Str, rowWs (row ++ (Str.ofString "#" ++ b)) = ws := by
  have p0 := TL.partition_none ha_tl r.no
  refine ⟨by unfold rowWs; rw [p0]; exact r.split.1, fun b => ?_⟩
  have p1 := TL.partition_app (b := b) ha_tl r.no
  rw [str_assoc] at p1
  unfold rowWs
  rw [p1]
  exact r.split.1
theorem wdok_dec {w : Str} (h : (decide (1 ≤ w.length) && decide (w.length ≤ 60) && (TL.tl w).all fun c => decide (33 ≤ c) && decide (c < 200) && decide (c ≠ 35)) = true) : WdOk w := by
  simp only [Bool.and_eq_true, decide_eq_true_eq, List.all_eq_true] at h
  exact ⟨h.1.1, h.1.2, fun c hc => by have := h.2 c hc; exact ⟨this.1.1, this.1.2, this.2⟩⟩
theorem key_wd : ∀ k < 6, WdOk (kyS k) := fun k hk => wdok_dec (by
  rcases (by omega : k = 0 ∨ k = 1 ∨ k = 2 ∨ k = 3 ∨ k = 4 ∨ k = 5) with rfl | rfl | rfl | rfl | rfl | rfl <;> decide +kernel)
/-- signs that stand in numbers and addresses -/
noncomputable def ChO (w : Str) : Prop := ∀ c ∈ TL.tl w, 43 ≤ c ∧ c ≤ 57
theorem ChO.app {a b : Str} (ha : ChO a) (hb : ChO b) : ChO (a ++ b) := fun x hx => by
  rw [TL.tl_append] at hx
  rcases List.mem_append.mp hx with z | z
  · exact ha x z
  · exact hb x z
theorem dn_ch {n : Nat} : ChO (Dn n) := fun c hc => by have := dn_F (n := n) c hc; unfold isF at this; omega
theorem addrT_ch {v : Nat} : ChO (addrT v) := fun c hc => by have := addrT_mem c hc; omega
theorem mi_ch : ChO (Str.ofString "-") := by unfold ChO; rw [sep_tl.1]; simp
theorem sl_ch : ChO (Str.ofString "/") := by unfold ChO; rw [sep_tl.2.1]; simp
theorem ChO.wd {w : Str} (h : ChO w) (h1 : 1 ≤ w.length) (h2 : w.length ≤ 60) : WdOk w := ⟨h1, h2, fun c hc => by have := h c hc; omega⟩
theorem vin_lss {a : Nat} {w : Bool} {ss : List Str} {s : Str} {h : MH} (ha : h[a]? = some (.lst w (ss.map .str))) : vin? h (.str s) (.ref a) = some (decide (s ∈ ss)) := by
  have f : (flat (.str s) && (ss.map Val.str).all flat) = true := by simp [Mn.flat]
  simp only [vin?, ha, f, if_true]
  congr 1
  rw [List.any_map]
  by_cases z : s ∈ ss
  · rw [decide_eq_true z, List.any_eq_true]
    exact ⟨s, z, by simp [eqF]⟩
  · rw [decide_eq_false z, List.any_eq_false]
    intro q hq
    simp only [Function.comp, eqF, beq_iff_eq]
    intro e; rw [e] at hq; exact z hq
end
end Mn
/-! ## the program of the law, as Mini has it (printed by a program of ours from T.py) -/
namespace Lw
open PySem PySem.Spec PyProof.Rows L2 Mn
noncomputable def top (i : Nat) : Stmt := PySem.Challenge.pw_sieve_k52_changes_as_rows.main.body.getD i (.Pass ⟨0, 0, 0, 0⟩)
noncomputable def tbl : Tb := { fns := ["part_of", "read_address", "mask", "beginning", "every", "words_of", "number_by", "address_by", "numbers_by", "addresses_by", "box_by", "read_change", "_law_cell_at", "_law_top", "_law_dotted", "_law_size", "_law_stretch", "_law_value", "_law_pairs", "_law_spoiled", "_law_row", "_law_refused", "law"], cls := [], glb := ["PAIRS", "HIGHEST", "ALL", "FIGURES"], isi := ["tuple"], own := [], mks := [], cm := [], nfn := ["read_address", "part_of"] }
noncomputable abbrev s_part_of : Stmt := top 6
noncomputable abbrev s_read_address : Stmt := top 7
noncomputable abbrev s_mask : Stmt := top 10
noncomputable abbrev s_beginning : Stmt := top 11
noncomputable abbrev s_every : Stmt := top 14
/-- every(); names 0 high -/
noncomputable def d_every : Df := { ps := [], np := 0, nn := 1, body :=
   [.ret (.bi .tuple [.cmp1 [0] (.tup [.con (.int 0), .var 0]) (.nm 0) .val [.glb "HIGHEST"] none])] }
noncomputable abbrev s_words_of : Stmt := top 17
noncomputable abbrev s_number_by : Stmt := top 18
noncomputable abbrev s_address_by : Stmt := top 19
noncomputable abbrev s_numbers_by : Stmt := top 20
noncomputable abbrev s_addresses_by : Stmt := top 21
noncomputable abbrev s_box_by : Stmt := top 22
noncomputable abbrev s_read_change : Stmt := top 24
/-- read_change(row); names 0 row, 1 words -/
noncomputable def d_read_change : Df := { ps := [Str.ofString "row"], np := 1, nn := 2, body :=
   [.asg (.nm 1) (.call "words_of" [.var 0]),
    .ite (.or (.cmp .Lt (.bi .len [.var 1]) (.con (.int 3))) (.or (.cmp .NotIn (.idx (.var 1) (.con (.int 0))) (.tup [.con (.str (Str.ofString "from")), .con (.str (Str.ofString "to"))])) (.cmp .In (.con (.str (Str.ofString "turn"))) (.slc (.var 1) (some (.con (.int 3))) none))))
      [.rai "NoRow" [.con (.int 1)]]
      [],
    .ret (.tup [.idx (.var 1) (.con (.int 0)), .slc (.call "box_by" [.slc (.var 1) (some (.con (.int 3))) none]) (some (.con (.int 1))) none, .call "address_by" [.idx (.var 1) (.con (.int 1))], .call "numbers_by" [.idx (.var 1) (.con (.int 2)), .con (.int 65535)]])] }
noncomputable abbrev s_law_cell_at : Stmt := top 26
/-- _law_cell_at(_law_script, _law_k); names 0 _law_script, 1 _law_k -/
noncomputable def d_law_cell_at : Df := { ps := [Str.ofString "_law_script", Str.ofString "_law_k"], np := 2, nn := 2, body :=
   [.ite (.cmp .Lt (.var 1) (.bi .len [.var 0]))
      [.ret (.idx (.var 0) (.var 1))]
      [],
    .ret (.con (.int 0))] }
noncomputable abbrev s_law_top : Stmt := top 27
/-- _law_top(_law_d); names 0 _law_d -/
noncomputable def d_law_top : Df := { ps := [Str.ofString "_law_d"], np := 1, nn := 1, body :=
   [.ret (.idx (.lst [.con (.int 255), .con (.int 4294967295), .con (.int 65535), .con (.int 4294967295), .con (.int 65535)]) (.var 0))] }
noncomputable abbrev s_law_dotted : Stmt := top 28
/-- _law_dotted(_law_address); names 0 _law_address, 1 _law_some -/
noncomputable def d_law_dotted : Df := { ps := [Str.ofString "_law_address"], np := 1, nn := 2, body :=
   [.asg (.nm 1) (.lst [.bi .str [.bin .FloorDiv (.var 0) (.con (.int 16777216))], .bi .str [.bin .Mod (.bin .FloorDiv (.var 0) (.con (.int 65536))) (.con (.int 256))], .bi .str [.bin .Mod (.bin .FloorDiv (.var 0) (.con (.int 256))) (.con (.int 256))], .bi .str [.bin .Mod (.var 0) (.con (.int 256))]]),
    .ret (.mth .join (.con (.str (Str.ofString "."))) [.var 1])] }
noncomputable abbrev s_law_size : Stmt := top 29
/-- _law_size(_law_place); names 0 _law_place, 1 _law_size_here, 2 _law_k -/
noncomputable def d_law_size : Df := { ps := [Str.ofString "_law_place"], np := 1, nn := 3, body :=
   [.asg (.nm 1) (.con (.int 1)),
    .forS (.nm 2) .rng [.var 0]
      [.asg (.nm 1) (.bin .Mult (.var 1) (.con (.int 2)))],
    .ret (.var 1)] }
noncomputable abbrev s_law_stretch : Stmt := top 30
/-- _law_stretch(_law_d, _law_one, _law_two, _law_way); names 0 _law_d, 1 _law_one, 2 _law_two, 3 _law_way, 4 _law_first, 5 _law_last, 6 _law_size_here -/
noncomputable def d_law_stretch : Df := { ps := [Str.ofString "_law_d", Str.ofString "_law_one", Str.ofString "_law_two", Str.ofString "_law_way"], np := 4, nn := 7, body :=
   [.asg (.nm 4) (.bin .Mod (.var 1) (.bin .Add (.call "_law_top" [.var 0]) (.con (.int 1)))),
    .asg (.nm 5) (.bin .Mod (.var 2) (.bin .Add (.call "_law_top" [.var 0]) (.con (.int 1)))),
    .ite (.cmp .Eq (.var 3) (.con (.int 0)))
      [.ret (.tup [.var 4, .var 4])]
      [],
    .ite (.and (.cmp .Eq (.var 3) (.con (.int 1))) (.or (.cmp .Eq (.var 0) (.con (.int 1))) (.cmp .Eq (.var 0) (.con (.int 3)))))
      [.asg (.nm 6) (.call "_law_size" [.bin .Sub (.con (.int 32)) (.bin .Mod (.var 2) (.con (.int 33)))]),
       .ret (.tup [.bin .Mult (.bin .FloorDiv (.var 4) (.var 6)) (.var 6), .bin .Sub (.bin .Add (.bin .Mult (.bin .FloorDiv (.var 4) (.var 6)) (.var 6)) (.var 6)) (.con (.int 1))])]
      [],
    .ret (.tup [.bi .min [.var 4, .var 5], .bi .max [.var 4, .var 5]])] }
noncomputable abbrev s_law_value : Stmt := top 31
/-- _law_value(_law_d, _law_one, _law_two, _law_way); names 0 _law_d, 1 _law_one, 2 _law_two, 3 _law_way, 4 _law_low, 5 _law_high -/
noncomputable def d_law_value : Df := { ps := [Str.ofString "_law_d", Str.ofString "_law_one", Str.ofString "_law_two", Str.ofString "_law_way"], np := 4, nn := 6, body :=
   [.asg (.tp [4, 5]) (.call "_law_stretch" [.var 0, .var 1, .var 2, .var 3]),
    .ite (.and (.cmp .NotEq (.var 0) (.con (.int 1))) (.cmp .NotEq (.var 0) (.con (.int 3))))
      [.ite (.cmp .Eq (.var 3) (.con (.int 0)))
         [.ret (.bi .str [.var 4])]
         [],
       .ret (.bin .Add (.bin .Add (.bi .str [.var 4]) (.con (.str (Str.ofString "-")))) (.bi .str [.var 5]))]
      [],
    .ite (.cmp .Eq (.var 3) (.con (.int 0)))
      [.ret (.call "_law_dotted" [.var 4])]
      [],
    .ite (.cmp .Eq (.var 3) (.con (.int 1)))
      [.ret (.bin .Add (.bin .Add (.call "_law_dotted" [.bin .Mod (.var 1) (.con (.int 4294967296))]) (.con (.str (Str.ofString "/")))) (.bi .str [.bin .Mod (.var 2) (.con (.int 33))]))]
      [],
    .ret (.bin .Add (.bin .Add (.call "_law_dotted" [.var 4]) (.con (.str (Str.ofString "-")))) (.call "_law_dotted" [.var 5]))] }
noncomputable abbrev s_law_pairs : Stmt := top 32
/-- _law_pairs(_law_script, _law_bits); names 0 _law_script, 1 _law_bits, 2 _law_pairs_here, 3 _law_d, 4 _law_name, 5 _law_one, 6 _law_two, 7 _law_step -/
noncomputable def d_law_pairs : Df := { ps := [Str.ofString "_law_script", Str.ofString "_law_bits"], np := 2, nn := 8, body :=
   [.asg (.nm 2) (.lst []),
    .forS (.nm 3) .rng [.con (.int 5)]
      [.ite (.cmp .Eq (.idx (.var 1) (.var 3)) (.con (.int 1)))
         [.asg (.nm 4) (.idx (.lst [.con (.str (Str.ofString "kind")), .con (.str (Str.ofString "from")), .con (.str (Str.ofString "fromdoor")), .con (.str (Str.ofString "to")), .con (.str (Str.ofString "todoor"))]) (.var 3)),
          .asg (.nm 5) (.call "_law_cell_at" [.var 0, .bin .Add (.con (.int 6)) (.bin .Mult (.con (.int 2)) (.var 3))]),
          .asg (.nm 6) (.call "_law_cell_at" [.var 0, .bin .Add (.con (.int 7)) (.bin .Mult (.con (.int 2)) (.var 3))]),
          .exp (.mth .append (.var 2) [.lst [.var 4, .call "_law_value" [.var 3, .var 5, .var 6, .bin .Mod (.bin .FloorDiv (.call "_law_cell_at" [.var 0, .con (.int 5)]) (.bin .Add (.con (.int 1)) (.bin .Mult (.con (.int 2)) (.var 3)))) (.con (.int 3))]]])]
         []],
    .asg (.nm 7) (.bin .Mod (.call "_law_cell_at" [.var 0, .con (.int 4)]) (.bi .max [.con (.int 1), .bi .len [.var 2]])),
    .ret (.bin .Add (.slc (.var 2) (some (.var 7)) none) (.slc (.var 2) none (some (.var 7))))] }
noncomputable abbrev s_law_spoiled : Stmt := top 33
/-- _law_spoiled(_law_words, _law_cell); names 0 _law_words, 1 _law_cell, 2 _law_way -/
noncomputable def d_law_spoiled : Df := { ps := [Str.ofString "_law_words", Str.ofString "_law_cell"], np := 2, nn := 3, body :=
   [.asg (.nm 2) (.bin .Mod (.var 1) (.con (.int 10))),
    .ite (.cmp .Eq (.var 2) (.con (.int 0)))
      [.ret (.bin .Add (.var 0) (.lst [.con (.str (Str.ofString "turn")), .con (.str (Str.ofString "1"))]))]
      [],
    .ite (.cmp .Eq (.var 2) (.con (.int 1)))
      [.ret (.bin .Add (.var 0) (.lst [.con (.str (Str.ofString "kind")), .con (.str (Str.ofString "1")), .con (.str (Str.ofString "kind")), .con (.str (Str.ofString "1"))]))]
      [],
    .ite (.cmp .Eq (.var 2) (.con (.int 2)))
      [.ret (.bin .Add (.var 0) (.lst [.con (.str (Str.ofString "todoor"))]))]
      [],
    .ite (.cmp .Eq (.var 2) (.con (.int 3)))
      [.ret (.bin .Add (.bin .Add (.slc (.var 0) none (some (.con (.int 2)))) (.lst [.con (.str (Str.ofString "9-8"))])) (.slc (.var 0) (some (.con (.int 3))) none))]
      [],
    .ite (.cmp .Eq (.var 2) (.con (.int 4)))
      [.ret (.bin .Add (.bin .Add (.slc (.var 0) none (some (.con (.int 1)))) (.lst [.idx (.lst [.con (.str (Str.ofString "1.2.3.256")), .con (.str (Str.ofString "1.2.3.0/24")), .con (.str (Str.ofString "1.2.3.4-1.2.3.5"))]) (.bin .Mod (.bin .FloorDiv (.var 1) (.con (.int 10))) (.con (.int 3)))])) (.slc (.var 0) (some (.con (.int 2))) none))]
      [],
    .ite (.cmp .Eq (.var 2) (.con (.int 5)))
      [.ret (.bin .Add (.bin .Add (.slc (.var 0) none (some (.con (.int 2)))) (.lst [.con (.str (Str.ofString "65536"))])) (.slc (.var 0) (some (.con (.int 3))) none))]
      [],
    .ite (.cmp .Eq (.var 2) (.con (.int 6)))
      [.ret (.bin .Add (.lst [.con (.str (Str.ofString "form"))]) (.slc (.var 0) (some (.con (.int 1))) none))]
      [],
    .ite (.cmp .Eq (.var 2) (.con (.int 7)))
      [.ret (.slc (.var 0) none (some (.con (.int 2))))]
      [],
    .ite (.cmp .Eq (.var 2) (.con (.int 8)))
      [.ret (.lst [])]
      [],
    .ret (.bin .Add (.bin .Add (.slc (.var 0) none (some (.con (.int 2)))) (.slc (.var 0) (some (.con (.int 3))) none)) (.lst [.con (.str (Str.ofString "from")), .con (.str (Str.ofString "1.2.3.4"))]))] }
noncomputable abbrev s_law_row : Stmt := top 34
/-- _law_row(_law_words, _law_cell); names 0 _law_words, 1 _law_cell, 2 _law_gaps, 3 _law_row_here, 4 _law_k -/
noncomputable def d_law_row : Df := { ps := [Str.ofString "_law_words", Str.ofString "_law_cell"], np := 2, nn := 5, body :=
   [.asg (.nm 2) (.lst [.con (.str (Str.ofString " ")), .con (.str (Str.ofString "  ")), .con (.str (Str.ofString "   "))]),
    .asg (.nm 3) (.slc (.idx (.var 2) (.bin .Mod (.var 1) (.con (.int 3)))) none (some (.bin .Mod (.bin .FloorDiv (.var 1) (.con (.int 3))) (.con (.int 4))))),
    .forS (.nm 4) .rng [.bi .len [.var 0]]
      [.asg (.nm 3) (.bin .Add (.bin .Add (.var 3) (.idx (.var 0) (.var 4))) (.idx (.var 2) (.bin .Mod (.bin .Add (.bin .FloorDiv (.var 1) (.con (.int 12))) (.bin .Mult (.var 4) (.var 4))) (.con (.int 3)))))],
    .ite (.cmp .Eq (.bin .Mod (.bin .FloorDiv (.var 1) (.con (.int 36))) (.con (.int 2))) (.con (.int 1)))
      [.asg (.nm 3) (.bin .Add (.var 3) (.con (.str (Str.ofString "# turn 1"))))]
      [],
    .ret (.var 3)] }
noncomputable abbrev s_law_refused : Stmt := top 35
/-- _law_refused(_law_row_here); names 0 _law_row_here, 1 _law_found, 2 e, 3 _law_by_base -/
noncomputable def d_law_refused : Df := { ps := [Str.ofString "_law_row_here"], np := 1, nn := 4, body :=
   [.asg (.nm 1) (.con (.non)),
    .tryS
      [.exp (.call "read_change" [.var 0])]
      [("", none, []), ("NoRow", some 2, [.asg (.nm 1) (.fld (.var 2) "row")])],
    .asg (.nm 3) (.con (.bl false)),
    .tryS
      [.exp (.call "read_change" [.var 0])]
      [("SieveError", none, [.asg (.nm 3) (.con (.bl true))])],
    .ret (.and (.var 3) (.cmp .Eq (.var 1) (.con (.int 1))))] }
noncomputable abbrev s_law : Stmt := top 36
/-- law(_law_script); names 0 _law_script, 1 _law_side, 2 _law_address, 3 _law_doors, 4 _law_bits, 5 _law_words, 6 _law_box, 7 _law_d, 8 _law_stretch_here, 9 _law_way, 10 _law_pair, 11 _law_found -/
noncomputable def d_law : Df := { ps := [Str.ofString "_law_script"], np := 1, nn := 12, body :=
   [.asg (.nm 1) (.idx (.lst [.con (.str (Str.ofString "from")), .con (.str (Str.ofString "to"))]) (.bin .Mod (.call "_law_cell_at" [.var 0, .con (.int 0)]) (.con (.int 2)))),
    .asg (.nm 2) (.bin .Mod (.call "_law_cell_at" [.var 0, .con (.int 1)]) (.con (.int 4294967296))),
    .asg (.nm 3) (.call "_law_stretch" [.con (.int 4), .call "_law_cell_at" [.var 0, .con (.int 2)], .call "_law_cell_at" [.var 0, .con (.int 3)], .bin .Mult (.bin .Mod (.bin .FloorDiv (.call "_law_cell_at" [.var 0, .con (.int 0)]) (.con (.int 2))) (.con (.int 2))) (.con (.int 2))]),
    .asg (.nm 4) (.cmp1 [7] (.bin .Mod (.bin .FloorDiv (.call "_law_cell_at" [.var 0, .con (.int 0)]) (.bin .Mult (.con (.int 4)) (.call "_law_size" [.var 7]))) (.con (.int 2))) (.nm 7) .rng [.con (.int 5)] none),
    .asg (.nm 5) (.lst [.var 1, .call "_law_dotted" [.var 2], .bin .Add (.bin .Add (.bi .str [.idx (.var 3) (.con (.int 0))]) (.con (.str (Str.ofString "-")))) (.bi .str [.idx (.var 3) (.con (.int 1))])]),
    .ite (.cmp .Eq (.idx (.var 3) (.con (.int 0))) (.idx (.var 3) (.con (.int 1))))
      [.sub (.var 5) (.con (.int 2)) (.bi .str [.idx (.var 3) (.con (.int 0))])]
      [],
    .asg (.nm 6) (.lst []),
    .forS (.nm 7) .rng [.con (.int 5)]
      [.asg (.nm 8) (.tup [.con (.int 0), .call "_law_top" [.var 7]]),
       .ite (.cmp .Eq (.idx (.var 4) (.var 7)) (.con (.int 1)))
         [.asg (.nm 9) (.bin .Mod (.bin .FloorDiv (.call "_law_cell_at" [.var 0, .con (.int 5)]) (.bin .Add (.con (.int 1)) (.bin .Mult (.con (.int 2)) (.var 7)))) (.con (.int 3))),
          .asg (.nm 8) (.call "_law_stretch" [.var 7, .call "_law_cell_at" [.var 0, .bin .Add (.con (.int 6)) (.bin .Mult (.con (.int 2)) (.var 7))], .call "_law_cell_at" [.var 0, .bin .Add (.con (.int 7)) (.bin .Mult (.con (.int 2)) (.var 7))], .var 9])]
         [],
       .exp (.mth .append (.var 6) [.var 8])],
    .forS (.nm 10) .val [.call "_law_pairs" [.var 0, .var 4]]
      [.asg (.nm 5) (.bin .Add (.var 5) (.var 10))],
    .asg (.nm 11) (.call "read_change" [.call "_law_row" [.var 5, .call "_law_cell_at" [.var 0, .con (.int 16)]]]),
    .ite (.or (.cmp .NotEq (.var 11) (.tup [.var 1, .bi .tuple [.var 6], .var 2, .var 3])) (.not (.isi (.var 11) "tuple")))
      [.ret (.con (.bl false))]
      [],
    .ite (.cmp .Eq (.bin .Mod (.call "_law_cell_at" [.var 0, .con (.int 17)]) (.con (.int 2))) (.con (.int 0)))
      [.ret (.con (.bl true))]
      [],
    .ret (.call "_law_refused" [.call "_law_row" [.call "_law_spoiled" [.var 5, .bin .FloorDiv (.call "_law_cell_at" [.var 0, .con (.int 17)]) (.con (.int 2))], .call "_law_cell_at" [.var 0, .con (.int 16)]]])] }
noncomputable def exiT : List (String × Option String) := [("NoAddress", none), ("NoRow", some "row")]
noncomputable def exmT : List ((String × String) × Bool) := [(("NoRow", "NoRow"), true), (("NoAddress", "SieveError"), true), (("NoRow", "SieveError"), true), (("NoAddress", "NoAddress"), true)]
noncomputable def subT : List ((String × String) × Bool) := [(("NoneType", "tuple"), false), (("bool", "tuple"), false), (("int", "tuple"), false), (("str", "tuple"), false), (("tuple", "tuple"), true), (("list", "tuple"), false), (("dict", "tuple"), false)]
noncomputable def mroT : List ((String × String) × String) := []
noncomputable def fldT : List (String × String) := []
noncomputable def T : Pr := {
  defs := [("part_of", dS_part_of), ("read_address", dS_read_address), ("mask", dS_mask), ("beginning", dS_beginning), ("every", d_every), ("words_of", dS_words_of), ("number_by", dS_number_by), ("address_by", dS_address_by), ("numbers_by", dS_numbers_by), ("addresses_by", dS_addresses_by), ("box_by", dS_box_by), ("read_change", d_read_change), ("_law_cell_at", d_law_cell_at), ("_law_top", d_law_top), ("_law_dotted", d_law_dotted), ("_law_size", d_law_size), ("_law_stretch", d_law_stretch), ("_law_value", d_law_value), ("_law_pairs", d_law_pairs), ("_law_spoiled", d_law_spoiled), ("_law_row", d_law_row), ("_law_refused", d_law_refused), ("law", d_law)],
  glb := [("PAIRS", .tup [.str (Str.ofString "turn"), .str (Str.ofString "kind"), .str (Str.ofString "from"), .str (Str.ofString "fromdoor"), .str (Str.ofString "to"), .str (Str.ofString "todoor")]), ("HIGHEST", .tup [.int 3, .int 255, .int 4294967295, .int 65535, .int 4294967295, .int 65535]), ("ALL", .int 4294967295), ("FIGURES", .str (Str.ofString "0123456789"))],
  sub := fun c t => subT.lookup (c, t), mro := fun c m => mroT.lookup (c, m), flds := fun c => (fldT.filter fun p => p.1 == c).map (·.2), exm := fun c t => exmT.lookup (c, t), exi := fun c => exiT.lookup c }
theorem t_part_of : trSs tbl 60 [Str.ofString "word", Str.ofString "sign"] (defScope s_part_of) (defBody s_part_of) = some dS_part_of.body := by rfl
theorem tN_part_of : trSs (bareT tbl) 60 [Str.ofString "word", Str.ofString "sign"] (defScope s_part_of) (defBody s_part_of) = some dS_part_of.body := by rfl
theorem c_part_of : FnScope [Str.ofString "word", Str.ofString "sign"] [Str.ofString "word"] (defScope s_part_of) := ⟨rfl, rfl, rfl, by decide +kernel, rfl, by decide +kernel, by decide +kernel⟩
theorem t_read_address : trSs tbl 60 [Str.ofString "text", Str.ofString "words", Str.ofString "address", Str.ofString "word"] (defScope s_read_address) (defBody s_read_address) = some dS_read_address.body := by rfl
theorem tN_read_address : trSs (bareT tbl) 60 [Str.ofString "text", Str.ofString "words", Str.ofString "address", Str.ofString "word"] (defScope s_read_address) (defBody s_read_address) = some dS_read_address.body := by rfl
theorem c_read_address : FnScope [Str.ofString "text", Str.ofString "words", Str.ofString "address", Str.ofString "word"] [Str.ofString "text"] (defScope s_read_address) := ⟨rfl, rfl, rfl, by decide +kernel, rfl, by decide +kernel, by decide +kernel⟩
theorem t_mask : trSs tbl 60 [Str.ofString "bits"] (defScope s_mask) (defBody s_mask) = some dS_mask.body := by rfl
theorem c_mask : FnScope [Str.ofString "bits"] [Str.ofString "bits"] (defScope s_mask) := ⟨rfl, rfl, rfl, by decide +kernel, rfl, by decide +kernel, by decide +kernel⟩
theorem t_beginning : trSs tbl 60 [Str.ofString "address", Str.ofString "bits", Str.ofString "ones"] (defScope s_beginning) (defBody s_beginning) = some dS_beginning.body := by rfl
theorem c_beginning : FnScope [Str.ofString "address", Str.ofString "bits", Str.ofString "ones"] [Str.ofString "address", Str.ofString "bits"] (defScope s_beginning) := ⟨rfl, rfl, rfl, by decide +kernel, rfl, by decide +kernel, by decide +kernel⟩
theorem t_every : trSs tbl 60 [Str.ofString "high"] (defScope s_every) (defBody s_every) = some d_every.body := by rfl
theorem c_every : FnScope [Str.ofString "high"] [] (defScope s_every) := ⟨rfl, rfl, rfl, by decide +kernel, rfl, by decide +kernel, by decide +kernel⟩
theorem t_words_of : trSs tbl 60 [Str.ofString "row", Str.ofString "word"] (defScope s_words_of) (defBody s_words_of) = some dS_words_of.body := by rfl
theorem c_words_of : FnScope [Str.ofString "row", Str.ofString "word"] [Str.ofString "row"] (defScope s_words_of) := ⟨rfl, rfl, rfl, by decide +kernel, rfl, by decide +kernel, by decide +kernel⟩
theorem t_number_by : trSs tbl 60 [Str.ofString "word", Str.ofString "most", Str.ofString "sign", Str.ofString "number"] (defScope s_number_by) (defBody s_number_by) = some dS_number_by.body := by rfl
theorem c_number_by : FnScope [Str.ofString "word", Str.ofString "most", Str.ofString "sign", Str.ofString "number"] [Str.ofString "word", Str.ofString "most"] (defScope s_number_by) := ⟨rfl, rfl, rfl, by decide +kernel, rfl, by decide +kernel, by decide +kernel⟩
theorem t_address_by : trSs tbl 60 [Str.ofString "word"] (defScope s_address_by) (defBody s_address_by) = some dS_address_by.body := by rfl
theorem c_address_by : FnScope [Str.ofString "word"] [Str.ofString "word"] (defScope s_address_by) := ⟨rfl, rfl, rfl, by decide +kernel, rfl, by decide +kernel, by decide +kernel⟩
theorem t_numbers_by : trSs tbl 60 [Str.ofString "word", Str.ofString "most", Str.ofString "first", Str.ofString "dash", Str.ofString "last", Str.ofString "low", Str.ofString "high"] (defScope s_numbers_by) (defBody s_numbers_by) = some dS_numbers_by.body := by rfl
theorem c_numbers_by : FnScope [Str.ofString "word", Str.ofString "most", Str.ofString "first", Str.ofString "dash", Str.ofString "last", Str.ofString "low", Str.ofString "high"] [Str.ofString "word", Str.ofString "most"] (defScope s_numbers_by) := ⟨rfl, rfl, rfl, by decide +kernel, rfl, by decide +kernel, by decide +kernel⟩
theorem t_addresses_by : trSs tbl 60 [Str.ofString "word", Str.ofString "head", Str.ofString "slash", Str.ofString "bits", Str.ofString "first", Str.ofString "dash", Str.ofString "last", Str.ofString "low", Str.ofString "high"] (defScope s_addresses_by) (defBody s_addresses_by) = some dS_addresses_by.body := by rfl
theorem c_addresses_by : FnScope [Str.ofString "word", Str.ofString "head", Str.ofString "slash", Str.ofString "bits", Str.ofString "first", Str.ofString "dash", Str.ofString "last", Str.ofString "low", Str.ofString "high"] [Str.ofString "word"] (defScope s_addresses_by) := ⟨rfl, rfl, rfl, by decide +kernel, rfl, by decide +kernel, by decide +kernel⟩
theorem t_box_by : trSs tbl 60 [Str.ofString "words", Str.ofString "whole", Str.ofString "found", Str.ofString "at", Str.ofString "key"] (defScope s_box_by) (defBody s_box_by) = some dS_box_by.body := by rfl
theorem c_box_by : FnScope [Str.ofString "words", Str.ofString "whole", Str.ofString "found", Str.ofString "at", Str.ofString "key"] [Str.ofString "words"] (defScope s_box_by) := ⟨rfl, rfl, rfl, by decide +kernel, rfl, by decide +kernel, by decide +kernel⟩
theorem t_read_change : trSs tbl 60 [Str.ofString "row", Str.ofString "words"] (defScope s_read_change) (defBody s_read_change) = some d_read_change.body := by rfl
theorem c_read_change : FnScope [Str.ofString "row", Str.ofString "words"] [Str.ofString "row"] (defScope s_read_change) := ⟨rfl, rfl, rfl, by decide +kernel, rfl, by decide +kernel, by decide +kernel⟩
theorem t_law_cell_at : trSs tbl 60 [Str.ofString "_law_script", Str.ofString "_law_k"] (defScope s_law_cell_at) (defBody s_law_cell_at) = some d_law_cell_at.body := by rfl
theorem c_law_cell_at : FnScope [Str.ofString "_law_script", Str.ofString "_law_k"] [Str.ofString "_law_script", Str.ofString "_law_k"] (defScope s_law_cell_at) := ⟨rfl, rfl, rfl, by decide +kernel, rfl, by decide +kernel, by decide +kernel⟩
theorem t_law_top : trSs tbl 60 [Str.ofString "_law_d"] (defScope s_law_top) (defBody s_law_top) = some d_law_top.body := by rfl
theorem c_law_top : FnScope [Str.ofString "_law_d"] [Str.ofString "_law_d"] (defScope s_law_top) := ⟨rfl, rfl, rfl, by decide +kernel, rfl, by decide +kernel, by decide +kernel⟩
theorem t_law_dotted : trSs tbl 60 [Str.ofString "_law_address", Str.ofString "_law_some"] (defScope s_law_dotted) (defBody s_law_dotted) = some d_law_dotted.body := by rfl
theorem c_law_dotted : FnScope [Str.ofString "_law_address", Str.ofString "_law_some"] [Str.ofString "_law_address"] (defScope s_law_dotted) := ⟨rfl, rfl, rfl, by decide +kernel, rfl, by decide +kernel, by decide +kernel⟩
theorem t_law_size : trSs tbl 60 [Str.ofString "_law_place", Str.ofString "_law_size_here", Str.ofString "_law_k"] (defScope s_law_size) (defBody s_law_size) = some d_law_size.body := by rfl
theorem c_law_size : FnScope [Str.ofString "_law_place", Str.ofString "_law_size_here", Str.ofString "_law_k"] [Str.ofString "_law_place"] (defScope s_law_size) := ⟨rfl, rfl, rfl, by decide +kernel, rfl, by decide +kernel, by decide +kernel⟩
theorem t_law_stretch : trSs tbl 60 [Str.ofString "_law_d", Str.ofString "_law_one", Str.ofString "_law_two", Str.ofString "_law_way", Str.ofString "_law_first", Str.ofString "_law_last", Str.ofString "_law_size_here"] (defScope s_law_stretch) (defBody s_law_stretch) = some d_law_stretch.body := by rfl
theorem c_law_stretch : FnScope [Str.ofString "_law_d", Str.ofString "_law_one", Str.ofString "_law_two", Str.ofString "_law_way", Str.ofString "_law_first", Str.ofString "_law_last", Str.ofString "_law_size_here"] [Str.ofString "_law_d", Str.ofString "_law_one", Str.ofString "_law_two", Str.ofString "_law_way"] (defScope s_law_stretch) := ⟨rfl, rfl, rfl, by decide +kernel, rfl, by decide +kernel, by decide +kernel⟩
theorem t_law_value : trSs tbl 60 [Str.ofString "_law_d", Str.ofString "_law_one", Str.ofString "_law_two", Str.ofString "_law_way", Str.ofString "_law_low", Str.ofString "_law_high"] (defScope s_law_value) (defBody s_law_value) = some d_law_value.body := by rfl
theorem c_law_value : FnScope [Str.ofString "_law_d", Str.ofString "_law_one", Str.ofString "_law_two", Str.ofString "_law_way", Str.ofString "_law_low", Str.ofString "_law_high"] [Str.ofString "_law_d", Str.ofString "_law_one", Str.ofString "_law_two", Str.ofString "_law_way"] (defScope s_law_value) := ⟨rfl, rfl, rfl, by decide +kernel, rfl, by decide +kernel, by decide +kernel⟩
theorem t_law_pairs : trSs tbl 60 [Str.ofString "_law_script", Str.ofString "_law_bits", Str.ofString "_law_pairs_here", Str.ofString "_law_d", Str.ofString "_law_name", Str.ofString "_law_one", Str.ofString "_law_two", Str.ofString "_law_step"] (defScope s_law_pairs) (defBody s_law_pairs) = some d_law_pairs.body := by rfl
theorem c_law_pairs : FnScope [Str.ofString "_law_script", Str.ofString "_law_bits", Str.ofString "_law_pairs_here", Str.ofString "_law_d", Str.ofString "_law_name", Str.ofString "_law_one", Str.ofString "_law_two", Str.ofString "_law_step"] [Str.ofString "_law_script", Str.ofString "_law_bits"] (defScope s_law_pairs) := ⟨rfl, rfl, rfl, by decide +kernel, rfl, by decide +kernel, by decide +kernel⟩
theorem t_law_spoiled : trSs tbl 60 [Str.ofString "_law_words", Str.ofString "_law_cell", Str.ofString "_law_way"] (defScope s_law_spoiled) (defBody s_law_spoiled) = some d_law_spoiled.body := by rfl
theorem c_law_spoiled : FnScope [Str.ofString "_law_words", Str.ofString "_law_cell", Str.ofString "_law_way"] [Str.ofString "_law_words", Str.ofString "_law_cell"] (defScope s_law_spoiled) := ⟨rfl, rfl, rfl, by decide +kernel, rfl, by decide +kernel, by decide +kernel⟩
theorem t_law_row : trSs tbl 60 [Str.ofString "_law_words", Str.ofString "_law_cell", Str.ofString "_law_gaps", Str.ofString "_law_row_here", Str.ofString "_law_k"] (defScope s_law_row) (defBody s_law_row) = some d_law_row.body := by rfl
theorem c_law_row : FnScope [Str.ofString "_law_words", Str.ofString "_law_cell", Str.ofString "_law_gaps", Str.ofString "_law_row_here", Str.ofString "_law_k"] [Str.ofString "_law_words", Str.ofString "_law_cell"] (defScope s_law_row) := ⟨rfl, rfl, rfl, by decide +kernel, rfl, by decide +kernel, by decide +kernel⟩
theorem t_law_refused : trSs tbl 60 [Str.ofString "_law_row_here", Str.ofString "_law_found", Str.ofString "e", Str.ofString "_law_by_base"] (defScope s_law_refused) (defBody s_law_refused) = some d_law_refused.body := by rfl
theorem c_law_refused : FnScope [Str.ofString "_law_row_here", Str.ofString "_law_found", Str.ofString "e", Str.ofString "_law_by_base"] [Str.ofString "_law_row_here"] (defScope s_law_refused) := ⟨rfl, rfl, rfl, by decide +kernel, rfl, by decide +kernel, by decide +kernel⟩
theorem t_law : trSs tbl 60 [Str.ofString "_law_script", Str.ofString "_law_side", Str.ofString "_law_address", Str.ofString "_law_doors", Str.ofString "_law_bits", Str.ofString "_law_words", Str.ofString "_law_box", Str.ofString "_law_d", Str.ofString "_law_stretch_here", Str.ofString "_law_way", Str.ofString "_law_pair", Str.ofString "_law_found"] (defScope s_law) (defBody s_law) = some d_law.body := by rfl
theorem c_law : FnScope [Str.ofString "_law_script", Str.ofString "_law_side", Str.ofString "_law_address", Str.ofString "_law_doors", Str.ofString "_law_bits", Str.ofString "_law_words", Str.ofString "_law_box", Str.ofString "_law_d", Str.ofString "_law_stretch_here", Str.ofString "_law_way", Str.ofString "_law_pair", Str.ofString "_law_found"] [Str.ofString "_law_script"] (defScope s_law) := ⟨rfl, rfl, rfl, by decide +kernel, rfl, by decide +kernel, by decide +kernel⟩
theorem g_PAIRS (n : Nat) : (T.pg n).glb "PAIRS" = some (.tup [.str (Str.ofString "turn"), .str (Str.ofString "kind"), .str (Str.ofString "from"), .str (Str.ofString "fromdoor"), .str (Str.ofString "to"), .str (Str.ofString "todoor")]) := by cases n <;> rfl
theorem g_HIGHEST (n : Nat) : (T.pg n).glb "HIGHEST" = some (.tup [.int 3, .int 255, .int 4294967295, .int 65535, .int 4294967295, .int 65535]) := by cases n <;> rfl
theorem g_ALL (n : Nat) : (T.pg n).glb "ALL" = some (.int 4294967295) := by cases n <;> rfl
theorem g_FIGURES (n : Nat) : (T.pg n).glb "FIGURES" = some (.str (Str.ofString "0123456789")) := by cases n <;> rfl
theorem exm_NoRow_NoRow (n : Nat) : (T.pg n).exm "NoRow" "NoRow" = some true := by cases n <;> rfl
theorem exm_NoAddress_SieveError (n : Nat) : (T.pg n).exm "NoAddress" "SieveError" = some true := by cases n <;> rfl
theorem exm_NoRow_SieveError (n : Nat) : (T.pg n).exm "NoRow" "SieveError" = some true := by cases n <;> rfl
theorem exm_NoAddress_NoAddress (n : Nat) : (T.pg n).exm "NoAddress" "NoAddress" = some true := by cases n <;> rfl
theorem exi_NoAddress (n : Nat) : (T.pg (n + 1)).exi "NoAddress" = some none := rfl
theorem exi_NoRow (n : Nat) : (T.pg (n + 1)).exi "NoRow" = some (some "row") := rfl
theorem sub_NoneType_tuple (n : Nat) : (T.pg n).sub "NoneType" "tuple" = some false := by cases n <;> rfl
theorem sub_bool_tuple (n : Nat) : (T.pg n).sub "bool" "tuple" = some false := by cases n <;> rfl
theorem sub_int_tuple (n : Nat) : (T.pg n).sub "int" "tuple" = some false := by cases n <;> rfl
theorem sub_str_tuple (n : Nat) : (T.pg n).sub "str" "tuple" = some false := by cases n <;> rfl
theorem sub_tuple_tuple (n : Nat) : (T.pg n).sub "tuple" "tuple" = some true := by cases n <;> rfl
theorem sub_list_tuple (n : Nat) : (T.pg n).sub "list" "tuple" = some false := by cases n <;> rfl
theorem sub_dict_tuple (n : Nat) : (T.pg n).sub "dict" "tuple" = some false := by cases n <;> rfl
theorem bare_part_of (n : Nat) : (T.pg (n + 1)).bare "part_of" = callB (bareP (T.pg n)) dS_part_of := rfl
theorem bare_read_address (n : Nat) : (T.pg (n + 1)).bare "read_address" = callB (bareP (T.pg n)) dS_read_address := rfl
theorem cf_mask (n : Nat) : (T.pg (n + 1)).cf "mask" = callB (T.pg n) dS_mask := rfl
theorem cf_beginning (n : Nat) : (T.pg (n + 1)).cf "beginning" = callB (T.pg n) dS_beginning := rfl
theorem cf_every (n : Nat) : (T.pg (n + 1)).cf "every" = callB (T.pg n) d_every := rfl
theorem cf_words_of (n : Nat) : (T.pg (n + 1)).cf "words_of" = callB (T.pg n) dS_words_of := rfl
theorem cf_number_by (n : Nat) : (T.pg (n + 1)).cf "number_by" = callB (T.pg n) dS_number_by := rfl
theorem cf_address_by (n : Nat) : (T.pg (n + 1)).cf "address_by" = callB (T.pg n) dS_address_by := rfl
theorem cf_numbers_by (n : Nat) : (T.pg (n + 1)).cf "numbers_by" = callB (T.pg n) dS_numbers_by := rfl
theorem cf_addresses_by (n : Nat) : (T.pg (n + 1)).cf "addresses_by" = callB (T.pg n) dS_addresses_by := rfl
theorem cf_box_by (n : Nat) : (T.pg (n + 1)).cf "box_by" = callB (T.pg n) dS_box_by := rfl
theorem cf_read_change (n : Nat) : (T.pg (n + 1)).cf "read_change" = callB (T.pg n) d_read_change := rfl
theorem cf_law_top (n : Nat) : (T.pg (n + 1)).cf "_law_top" = callB (T.pg n) d_law_top := rfl
theorem cf_law_dotted (n : Nat) : (T.pg (n + 1)).cf "_law_dotted" = callB (T.pg n) d_law_dotted := rfl
theorem cf_law_size (n : Nat) : (T.pg (n + 1)).cf "_law_size" = callB (T.pg n) d_law_size := rfl
theorem cf_law_stretch (n : Nat) : (T.pg (n + 1)).cf "_law_stretch" = callB (T.pg n) d_law_stretch := rfl
theorem cf_law_value (n : Nat) : (T.pg (n + 1)).cf "_law_value" = callB (T.pg n) d_law_value := rfl
theorem cf_law_pairs (n : Nat) : (T.pg (n + 1)).cf "_law_pairs" = callB (T.pg n) d_law_pairs := rfl
theorem cf_law_spoiled (n : Nat) : (T.pg (n + 1)).cf "_law_spoiled" = callB (T.pg n) d_law_spoiled := rfl
theorem cf_law_row (n : Nat) : (T.pg (n + 1)).cf "_law_row" = callB (T.pg n) d_law_row := rfl
theorem cf_law_refused (n : Nat) : (T.pg (n + 1)).cf "_law_refused" = callB (T.pg n) d_law_refused := rfl
theorem cf_law (n : Nat) : (T.pg (n + 1)).cf "law" = callB (T.pg n) d_law := rfl
-- top
section
variable {K : PySem.W.Frag} {mg : Str → Option Value}
noncomputable def clsN : List String := []
noncomputable def excN : List String := ["SieveError", "NoAddress", "NoRow"]
noncomputable def lk (K : PySem.W.Frag) : Lk := ⟨K, fun c => if clsN.contains c = true then (match PySem.W.nsIn K mainGlobals (Str.ofString c) with | some (some (.ref C)) => some C | _ => none) else none, fun c => if excN.contains c = true then (match PySem.W.nsIn K mainGlobals (Str.ofString c) with | some (some (.ref C)) => some C | _ => none) else none⟩
theorem ln_0 {α : Type} {P : List α → Prop} (f : P []) (us : List α) (h : us.length = 0) : P us := match us, h with
  | [], _ => f
theorem ln_1 {α : Type} {P : List α → Prop} (f : ∀ a0 : α, P [a0]) (us : List α) (h : us.length = 1) : P us := match us, h with
  | [_], _ => f _
theorem ln_2 {α : Type} {P : List α → Prop} (f : ∀ a0 a1 : α, P [a0, a1]) (us : List α) (h : us.length = 2) : P us := match us, h with
  | [_, _], _ => f _ _
theorem ln_4 {α : Type} {P : List α → Prop} (f : ∀ a0 a1 a2 a3 : α, P [a0, a1, a2, a3]) (us : List α) (h : us.length = 4) : P us := match us, h with
  | [_, _, _, _], _ => f _ _ _ _
theorem top_ok {h : Heap} (X : K.In h) (G : h.Ns mainGlobals mg)
    {f0 : Addr} {od0 an0 : Option Addr} {sl0 : Array (Option Value)} {oc0 kV0 dc0 pm0 cd0 ct0 : Value}
    (a0 : PySem.W.nsIn K mainGlobals (Str.ofString "part_of") = some (some (.ref f0))) (l0 : K.lookup f0 = some ⟨oc0, od0, .func (PySem.W.fnOf (Str.ofString "part_of") (Str.ofString "part_of") (defArgs s_part_of) (defBody s_part_of) (defScope s_part_of) .none kV0 dc0 pm0 an0 cd0 ct0), sl0⟩) (c0 : PySem.W.codeIn K cd0 (Str.ofString "part_of") = true) (k0 : PySem.W.keepIn K (.ref f0) = true)
    {f1 : Addr} {od1 an1 : Option Addr} {sl1 : Array (Option Value)} {oc1 kV1 dc1 pm1 cd1 ct1 : Value}
    (a1 : PySem.W.nsIn K mainGlobals (Str.ofString "read_address") = some (some (.ref f1))) (l1 : K.lookup f1 = some ⟨oc1, od1, .func (PySem.W.fnOf (Str.ofString "read_address") (Str.ofString "read_address") (defArgs s_read_address) (defBody s_read_address) (defScope s_read_address) .none kV1 dc1 pm1 an1 cd1 ct1), sl1⟩) (c1 : PySem.W.codeIn K cd1 (Str.ofString "read_address") = true) (k1 : PySem.W.keepIn K (.ref f1) = true)
    {f2 : Addr} {od2 an2 : Option Addr} {sl2 : Array (Option Value)} {oc2 kV2 dc2 pm2 cd2 ct2 : Value}
    (a2 : PySem.W.nsIn K mainGlobals (Str.ofString "mask") = some (some (.ref f2))) (l2 : K.lookup f2 = some ⟨oc2, od2, .func (PySem.W.fnOf (Str.ofString "mask") (Str.ofString "mask") (defArgs s_mask) (defBody s_mask) (defScope s_mask) .none kV2 dc2 pm2 an2 cd2 ct2), sl2⟩) (c2 : PySem.W.codeIn K cd2 (Str.ofString "mask") = true) (k2 : PySem.W.keepIn K (.ref f2) = true)
    {f3 : Addr} {od3 an3 : Option Addr} {sl3 : Array (Option Value)} {oc3 kV3 dc3 pm3 cd3 ct3 : Value}
    (a3 : PySem.W.nsIn K mainGlobals (Str.ofString "beginning") = some (some (.ref f3))) (l3 : K.lookup f3 = some ⟨oc3, od3, .func (PySem.W.fnOf (Str.ofString "beginning") (Str.ofString "beginning") (defArgs s_beginning) (defBody s_beginning) (defScope s_beginning) .none kV3 dc3 pm3 an3 cd3 ct3), sl3⟩) (c3 : PySem.W.codeIn K cd3 (Str.ofString "beginning") = true) (k3 : PySem.W.keepIn K (.ref f3) = true)
    {f4 : Addr} {od4 an4 : Option Addr} {sl4 : Array (Option Value)} {oc4 kV4 dc4 pm4 cd4 ct4 : Value}
    (a4 : PySem.W.nsIn K mainGlobals (Str.ofString "every") = some (some (.ref f4))) (l4 : K.lookup f4 = some ⟨oc4, od4, .func (PySem.W.fnOf (Str.ofString "every") (Str.ofString "every") (defArgs s_every) (defBody s_every) (defScope s_every) .none kV4 dc4 pm4 an4 cd4 ct4), sl4⟩) (c4 : PySem.W.codeIn K cd4 (Str.ofString "every") = true) (k4 : PySem.W.keepIn K (.ref f4) = true)
    {f5 : Addr} {od5 an5 : Option Addr} {sl5 : Array (Option Value)} {oc5 kV5 dc5 pm5 cd5 ct5 : Value}
    (a5 : PySem.W.nsIn K mainGlobals (Str.ofString "words_of") = some (some (.ref f5))) (l5 : K.lookup f5 = some ⟨oc5, od5, .func (PySem.W.fnOf (Str.ofString "words_of") (Str.ofString "words_of") (defArgs s_words_of) (defBody s_words_of) (defScope s_words_of) .none kV5 dc5 pm5 an5 cd5 ct5), sl5⟩) (c5 : PySem.W.codeIn K cd5 (Str.ofString "words_of") = true) (k5 : PySem.W.keepIn K (.ref f5) = true)
    {f6 : Addr} {od6 an6 : Option Addr} {sl6 : Array (Option Value)} {oc6 kV6 dc6 pm6 cd6 ct6 : Value}
    (a6 : PySem.W.nsIn K mainGlobals (Str.ofString "number_by") = some (some (.ref f6))) (l6 : K.lookup f6 = some ⟨oc6, od6, .func (PySem.W.fnOf (Str.ofString "number_by") (Str.ofString "number_by") (defArgs s_number_by) (defBody s_number_by) (defScope s_number_by) .none kV6 dc6 pm6 an6 cd6 ct6), sl6⟩) (c6 : PySem.W.codeIn K cd6 (Str.ofString "number_by") = true) (k6 : PySem.W.keepIn K (.ref f6) = true)
    {f7 : Addr} {od7 an7 : Option Addr} {sl7 : Array (Option Value)} {oc7 kV7 dc7 pm7 cd7 ct7 : Value}
    (a7 : PySem.W.nsIn K mainGlobals (Str.ofString "address_by") = some (some (.ref f7))) (l7 : K.lookup f7 = some ⟨oc7, od7, .func (PySem.W.fnOf (Str.ofString "address_by") (Str.ofString "address_by") (defArgs s_address_by) (defBody s_address_by) (defScope s_address_by) .none kV7 dc7 pm7 an7 cd7 ct7), sl7⟩) (c7 : PySem.W.codeIn K cd7 (Str.ofString "address_by") = true) (k7 : PySem.W.keepIn K (.ref f7) = true)
    {f8 : Addr} {od8 an8 : Option Addr} {sl8 : Array (Option Value)} {oc8 kV8 dc8 pm8 cd8 ct8 : Value}
    (a8 : PySem.W.nsIn K mainGlobals (Str.ofString "numbers_by") = some (some (.ref f8))) (l8 : K.lookup f8 = some ⟨oc8, od8, .func (PySem.W.fnOf (Str.ofString "numbers_by") (Str.ofString "numbers_by") (defArgs s_numbers_by) (defBody s_numbers_by) (defScope s_numbers_by) .none kV8 dc8 pm8 an8 cd8 ct8), sl8⟩) (c8 : PySem.W.codeIn K cd8 (Str.ofString "numbers_by") = true) (k8 : PySem.W.keepIn K (.ref f8) = true)
    {f9 : Addr} {od9 an9 : Option Addr} {sl9 : Array (Option Value)} {oc9 kV9 dc9 pm9 cd9 ct9 : Value}
    (a9 : PySem.W.nsIn K mainGlobals (Str.ofString "addresses_by") = some (some (.ref f9))) (l9 : K.lookup f9 = some ⟨oc9, od9, .func (PySem.W.fnOf (Str.ofString "addresses_by") (Str.ofString "addresses_by") (defArgs s_addresses_by) (defBody s_addresses_by) (defScope s_addresses_by) .none kV9 dc9 pm9 an9 cd9 ct9), sl9⟩) (c9 : PySem.W.codeIn K cd9 (Str.ofString "addresses_by") = true) (k9 : PySem.W.keepIn K (.ref f9) = true)
    {f10 : Addr} {od10 an10 : Option Addr} {sl10 : Array (Option Value)} {oc10 kV10 dc10 pm10 cd10 ct10 : Value}
    (a10 : PySem.W.nsIn K mainGlobals (Str.ofString "box_by") = some (some (.ref f10))) (l10 : K.lookup f10 = some ⟨oc10, od10, .func (PySem.W.fnOf (Str.ofString "box_by") (Str.ofString "box_by") (defArgs s_box_by) (defBody s_box_by) (defScope s_box_by) .none kV10 dc10 pm10 an10 cd10 ct10), sl10⟩) (c10 : PySem.W.codeIn K cd10 (Str.ofString "box_by") = true) (k10 : PySem.W.keepIn K (.ref f10) = true)
    {f11 : Addr} {od11 an11 : Option Addr} {sl11 : Array (Option Value)} {oc11 kV11 dc11 pm11 cd11 ct11 : Value}
    (a11 : PySem.W.nsIn K mainGlobals (Str.ofString "read_change") = some (some (.ref f11))) (l11 : K.lookup f11 = some ⟨oc11, od11, .func (PySem.W.fnOf (Str.ofString "read_change") (Str.ofString "read_change") (defArgs s_read_change) (defBody s_read_change) (defScope s_read_change) .none kV11 dc11 pm11 an11 cd11 ct11), sl11⟩) (c11 : PySem.W.codeIn K cd11 (Str.ofString "read_change") = true) (k11 : PySem.W.keepIn K (.ref f11) = true)
    {f12 : Addr} {od12 an12 : Option Addr} {sl12 : Array (Option Value)} {oc12 kV12 dc12 pm12 cd12 ct12 : Value}
    (a12 : PySem.W.nsIn K mainGlobals (Str.ofString "_law_cell_at") = some (some (.ref f12))) (l12 : K.lookup f12 = some ⟨oc12, od12, .func (PySem.W.fnOf (Str.ofString "_law_cell_at") (Str.ofString "_law_cell_at") (defArgs s_law_cell_at) (defBody s_law_cell_at) (defScope s_law_cell_at) .none kV12 dc12 pm12 an12 cd12 ct12), sl12⟩) (c12 : PySem.W.codeIn K cd12 (Str.ofString "_law_cell_at") = true) (k12 : PySem.W.keepIn K (.ref f12) = true)
    {f13 : Addr} {od13 an13 : Option Addr} {sl13 : Array (Option Value)} {oc13 kV13 dc13 pm13 cd13 ct13 : Value}
    (a13 : PySem.W.nsIn K mainGlobals (Str.ofString "_law_top") = some (some (.ref f13))) (l13 : K.lookup f13 = some ⟨oc13, od13, .func (PySem.W.fnOf (Str.ofString "_law_top") (Str.ofString "_law_top") (defArgs s_law_top) (defBody s_law_top) (defScope s_law_top) .none kV13 dc13 pm13 an13 cd13 ct13), sl13⟩) (c13 : PySem.W.codeIn K cd13 (Str.ofString "_law_top") = true) (k13 : PySem.W.keepIn K (.ref f13) = true)
    {f14 : Addr} {od14 an14 : Option Addr} {sl14 : Array (Option Value)} {oc14 kV14 dc14 pm14 cd14 ct14 : Value}
    (a14 : PySem.W.nsIn K mainGlobals (Str.ofString "_law_dotted") = some (some (.ref f14))) (l14 : K.lookup f14 = some ⟨oc14, od14, .func (PySem.W.fnOf (Str.ofString "_law_dotted") (Str.ofString "_law_dotted") (defArgs s_law_dotted) (defBody s_law_dotted) (defScope s_law_dotted) .none kV14 dc14 pm14 an14 cd14 ct14), sl14⟩) (c14 : PySem.W.codeIn K cd14 (Str.ofString "_law_dotted") = true) (k14 : PySem.W.keepIn K (.ref f14) = true)
    {f15 : Addr} {od15 an15 : Option Addr} {sl15 : Array (Option Value)} {oc15 kV15 dc15 pm15 cd15 ct15 : Value}
    (a15 : PySem.W.nsIn K mainGlobals (Str.ofString "_law_size") = some (some (.ref f15))) (l15 : K.lookup f15 = some ⟨oc15, od15, .func (PySem.W.fnOf (Str.ofString "_law_size") (Str.ofString "_law_size") (defArgs s_law_size) (defBody s_law_size) (defScope s_law_size) .none kV15 dc15 pm15 an15 cd15 ct15), sl15⟩) (c15 : PySem.W.codeIn K cd15 (Str.ofString "_law_size") = true) (k15 : PySem.W.keepIn K (.ref f15) = true)
    {f16 : Addr} {od16 an16 : Option Addr} {sl16 : Array (Option Value)} {oc16 kV16 dc16 pm16 cd16 ct16 : Value}
    (a16 : PySem.W.nsIn K mainGlobals (Str.ofString "_law_stretch") = some (some (.ref f16))) (l16 : K.lookup f16 = some ⟨oc16, od16, .func (PySem.W.fnOf (Str.ofString "_law_stretch") (Str.ofString "_law_stretch") (defArgs s_law_stretch) (defBody s_law_stretch) (defScope s_law_stretch) .none kV16 dc16 pm16 an16 cd16 ct16), sl16⟩) (c16 : PySem.W.codeIn K cd16 (Str.ofString "_law_stretch") = true) (k16 : PySem.W.keepIn K (.ref f16) = true)
    {f17 : Addr} {od17 an17 : Option Addr} {sl17 : Array (Option Value)} {oc17 kV17 dc17 pm17 cd17 ct17 : Value}
    (a17 : PySem.W.nsIn K mainGlobals (Str.ofString "_law_value") = some (some (.ref f17))) (l17 : K.lookup f17 = some ⟨oc17, od17, .func (PySem.W.fnOf (Str.ofString "_law_value") (Str.ofString "_law_value") (defArgs s_law_value) (defBody s_law_value) (defScope s_law_value) .none kV17 dc17 pm17 an17 cd17 ct17), sl17⟩) (c17 : PySem.W.codeIn K cd17 (Str.ofString "_law_value") = true) (k17 : PySem.W.keepIn K (.ref f17) = true)
    {f18 : Addr} {od18 an18 : Option Addr} {sl18 : Array (Option Value)} {oc18 kV18 dc18 pm18 cd18 ct18 : Value}
    (a18 : PySem.W.nsIn K mainGlobals (Str.ofString "_law_pairs") = some (some (.ref f18))) (l18 : K.lookup f18 = some ⟨oc18, od18, .func (PySem.W.fnOf (Str.ofString "_law_pairs") (Str.ofString "_law_pairs") (defArgs s_law_pairs) (defBody s_law_pairs) (defScope s_law_pairs) .none kV18 dc18 pm18 an18 cd18 ct18), sl18⟩) (c18 : PySem.W.codeIn K cd18 (Str.ofString "_law_pairs") = true) (k18 : PySem.W.keepIn K (.ref f18) = true)
    {f19 : Addr} {od19 an19 : Option Addr} {sl19 : Array (Option Value)} {oc19 kV19 dc19 pm19 cd19 ct19 : Value}
    (a19 : PySem.W.nsIn K mainGlobals (Str.ofString "_law_spoiled") = some (some (.ref f19))) (l19 : K.lookup f19 = some ⟨oc19, od19, .func (PySem.W.fnOf (Str.ofString "_law_spoiled") (Str.ofString "_law_spoiled") (defArgs s_law_spoiled) (defBody s_law_spoiled) (defScope s_law_spoiled) .none kV19 dc19 pm19 an19 cd19 ct19), sl19⟩) (c19 : PySem.W.codeIn K cd19 (Str.ofString "_law_spoiled") = true) (k19 : PySem.W.keepIn K (.ref f19) = true)
    {f20 : Addr} {od20 an20 : Option Addr} {sl20 : Array (Option Value)} {oc20 kV20 dc20 pm20 cd20 ct20 : Value}
    (a20 : PySem.W.nsIn K mainGlobals (Str.ofString "_law_row") = some (some (.ref f20))) (l20 : K.lookup f20 = some ⟨oc20, od20, .func (PySem.W.fnOf (Str.ofString "_law_row") (Str.ofString "_law_row") (defArgs s_law_row) (defBody s_law_row) (defScope s_law_row) .none kV20 dc20 pm20 an20 cd20 ct20), sl20⟩) (c20 : PySem.W.codeIn K cd20 (Str.ofString "_law_row") = true) (k20 : PySem.W.keepIn K (.ref f20) = true)
    {f21 : Addr} {od21 an21 : Option Addr} {sl21 : Array (Option Value)} {oc21 kV21 dc21 pm21 cd21 ct21 : Value}
    (a21 : PySem.W.nsIn K mainGlobals (Str.ofString "_law_refused") = some (some (.ref f21))) (l21 : K.lookup f21 = some ⟨oc21, od21, .func (PySem.W.fnOf (Str.ofString "_law_refused") (Str.ofString "_law_refused") (defArgs s_law_refused) (defBody s_law_refused) (defScope s_law_refused) .none kV21 dc21 pm21 an21 cd21 ct21), sl21⟩) (c21 : PySem.W.codeIn K cd21 (Str.ofString "_law_refused") = true) (k21 : PySem.W.keepIn K (.ref f21) = true)
    {f22 : Addr} {od22 an22 : Option Addr} {sl22 : Array (Option Value)} {oc22 kV22 dc22 pm22 cd22 ct22 : Value}
    (a22 : PySem.W.nsIn K mainGlobals (Str.ofString "law") = some (some (.ref f22))) (l22 : K.lookup f22 = some ⟨oc22, od22, .func (PySem.W.fnOf (Str.ofString "law") (Str.ofString "law") (defArgs s_law) (defBody s_law) (defScope s_law) .none kV22 dc22 pm22 an22 cd22 ct22), sl22⟩) (c22 : PySem.W.codeIn K cd22 (Str.ofString "law") = true) (k22 : PySem.W.keepIn K (.ref f22) = true)
    {E0 : Addr} (aE0 : PySem.W.nsIn K mainGlobals (Str.ofString "SieveError") = some (some (.ref E0))) (xg0 : PySem.W.findIn K (.ref E0) "__getattribute__" = some (some (.builtin "BaseException.__getattribute__"))) (xk0 : PySem.W.findIn K (.ref E0) "__getattr__" = some none)
    (xs0 : PySem.W.subIn K (.ref E0) (.type "BaseException") = some true) (xd0 : PySem.W.hasDictIn K E0 = true) (xa0 : PySem.W.findIn K (.ref E0) "__class__" = some (some (.builtin "object.__class__"))) (xm0 : PySem.W.mroIn K E0 (.type "object") = some true) (xt0 : PySem.W.typeIn K (.ref E0) = some (.type "type"))
    {E1 : Addr} (aE1 : PySem.W.nsIn K mainGlobals (Str.ofString "NoAddress") = some (some (.ref E1))) (xg1 : PySem.W.findIn K (.ref E1) "__getattribute__" = some (some (.builtin "BaseException.__getattribute__"))) (xk1 : PySem.W.findIn K (.ref E1) "__getattr__" = some none)
    (xs1 : PySem.W.subIn K (.ref E1) (.type "BaseException") = some true) (xd1 : PySem.W.hasDictIn K E1 = true) (xa1 : PySem.W.findIn K (.ref E1) "__class__" = some (some (.builtin "object.__class__"))) (xm1 : PySem.W.mroIn K E1 (.type "object") = some true) (xt1 : PySem.W.typeIn K (.ref E1) = some (.type "type"))
    {E2 : Addr} (aE2 : PySem.W.nsIn K mainGlobals (Str.ofString "NoRow") = some (some (.ref E2))) (xg2 : PySem.W.findIn K (.ref E2) "__getattribute__" = some (some (.builtin "BaseException.__getattribute__"))) (xk2 : PySem.W.findIn K (.ref E2) "__getattr__" = some none)
    (xs2 : PySem.W.subIn K (.ref E2) (.type "BaseException") = some true) (xd2 : PySem.W.hasDictIn K E2 = true) (xa2 : PySem.W.findIn K (.ref E2) "__class__" = some (some (.builtin "object.__class__"))) (xm2 : PySem.W.mroIn K E2 (.type "object") = some true) (xt2 : PySem.W.typeIn K (.ref E2) = some (.type "type"))
    (xc1 : PySem.W.keepIn K (.ref E1) = true)
    (xe1 : PySem.W.excIn K E1 veTl "ValueError.__new__" = true)
    (xc2 : PySem.W.keepIn K (.ref E2) = true)
    {xnm2 xq2 : Str} {xN2 : Addr} {xbs2 : List Value} {xsn2 : List Str} {xsb2 : List Value} {xab2 : Bool} {xcl2 : Option Bool} {xdd2 : Option Addr} {xk0_2 xk1_2 xk2_2 xk3_2 xk5_2 : Option Value}
    (xl2 : K.lookup E2 = some (excClassObj xnm2 xq2 E2 xN2 xbs2 [.ref E0, .type "ValueError", .type "Exception", .type "BaseException", .type "object"] true xsn2 xsb2 xab2 xcl2 xdd2 xk0_2 xk1_2 xk2_2 xk3_2 xk5_2 "ValueError.__new__"))
    (xw2 : PySem.W.findIn K (.ref E2) "__setattr__" = some (some (.builtin "object.__setattr__"))) (xf2 : PySem.W.findIn K (.ref E2) (Str.ofString "row") = some none)
    {fx2 : Addr} {odx2 anx2 : Option Addr} {slx2 : Array (Option Value)} {ocx2 kVx2 dcx2 pmx2 cdx2 ctx2 : Value}
    (xi2 : PySem.W.findIn K (.ref E2) "__init__" = some (some (.ref fx2))) (xy2 : PySem.W.typeIn K (.ref fx2) = some (.type "function"))
    (lx2 : K.lookup fx2 = some ⟨ocx2, odx2, .func (PySem.W.fnOf (Str.ofString "__init__") (Str.ofString "NoRow.__init__") (defArgs (inClass (top 3) 0)) (defBody (inClass (top 3) 0)) (defScope (inClass (top 3) 0)) .none kVx2 dcx2 pmx2 anx2 cdx2 ctx2), slx2⟩) (cx2 : PySem.W.codeIn K cdx2 (Str.ofString "NoRow.__init__") = true) (kx2 : PySem.W.keepIn K (.ref fx2) = true)
    (xb0 : PySem.W.subIn K (.ref E2) (.ref E2) = some true)
    (xb1 : PySem.W.subIn K (.ref E1) (.ref E0) = some true)
    (xb2 : PySem.W.subIn K (.ref E2) (.ref E0) = some true)
    (xb3 : PySem.W.subIn K (.ref E1) (.ref E1) = some true)
    (hn : PySem.W.specialIn K (.builtin "object.__class__") "__get__" = some (some (.builtin "getset_descriptor.__get__"))) (htk : PySem.W.takesIn K (.builtin "object.__class__") = some true)
    {ga0 : Addr} {gs0 : Array (Option Value)} {gn0 : Nat} {tk0_0 : Tok} {tk0_1 : Tok} {tk0_2 : Tok} {tk0_3 : Tok} {tk0_4 : Tok} {tk0_5 : Tok} (gv0 : PySem.W.nsIn K mainGlobals (Str.ofString "PAIRS") = some (some (.ref ga0))) (gl0 : K.lookup ga0 = some ⟨.type "tuple", none, .seq #[.str (Str.ofString "turn") tk0_0, .str (Str.ofString "kind") tk0_1, .str (Str.ofString "from") tk0_2, .str (Str.ofString "fromdoor") tk0_3, .str (Str.ofString "to") tk0_4, .str (Str.ofString "todoor") tk0_5] gn0, gs0⟩)
    {ga1 : Addr} {gs1 : Array (Option Value)} {gn1 : Nat} {tk1_0 : Tok} {tk1_1 : Tok} {tk1_2 : Tok} {tk1_3 : Tok} {tk1_4 : Tok} {tk1_5 : Tok} (gv1 : PySem.W.nsIn K mainGlobals (Str.ofString "HIGHEST") = some (some (.ref ga1))) (gl1 : K.lookup ga1 = some ⟨.type "tuple", none, .seq #[.int 3 tk1_0, .int 255 tk1_1, .int 4294967295 tk1_2, .int 65535 tk1_3, .int 4294967295 tk1_4, .int 65535 tk1_5] gn1, gs1⟩)
    {tk2 : Tok} (gv2 : PySem.W.nsIn K mainGlobals (Str.ofString "ALL") = some (some (.int 4294967295 tk2)))
    {tk3 : Tok} (gv3 : PySem.W.nsIn K mainGlobals (Str.ofString "FIGURES") = some (some (.str (Str.ofString "0123456789") tk3)))
    (z0 : PySem.W.nsIn K mainGlobals (Str.ofString "range") = some none)
    (z1 : PySem.W.nsIn K mainGlobals (Str.ofString "enumerate") = some none)
    (z2 : PySem.W.nsIn K mainGlobals (Str.ofString "zip") = some none)
    (z3 : PySem.W.nsIn K mainGlobals (Str.ofString "reversed") = some none)
    (z4 : PySem.W.nsIn K mainGlobals (Str.ofString "len") = some none)
    (z5 : PySem.W.nsIn K mainGlobals (Str.ofString "max") = some none)
    (z6 : PySem.W.nsIn K mainGlobals (Str.ofString "min") = some none)
    (z7 : PySem.W.nsIn K mainGlobals (Str.ofString "int") = some none)
    (z8 : PySem.W.nsIn K mainGlobals (Str.ofString "str") = some none)
    (z9 : PySem.W.nsIn K mainGlobals (Str.ofString "tuple") = some none)
    (z10 : PySem.W.nsIn K mainGlobals (Str.ofString "list") = some none)
    (z11 : PySem.W.nsIn K mainGlobals (Str.ofString "sum") = some none)
    (z12 : PySem.W.nsIn K mainGlobals (Str.ofString "all") = some none)
    (z13 : PySem.W.nsIn K mainGlobals (Str.ofString "isinstance") = some none)
    (z14 : PySem.W.nsIn K mainGlobals (Str.ofString "dict") = some none) : TopOk tbl T (lk K) mg := by
  have clsOf : ∀ c C, (lk K).cls c = some C → c ∈ clsN := fun c C h => by
    by_cases z : clsN.contains c = true
    · simpa using z
    · simp only [lk, if_neg z] at h; cases h
  have ee0 : (lk K).exc "SieveError" = some E0 := by simp only [lk]; rw [if_pos (by decide), aE0]
  have ee1 : (lk K).exc "NoAddress" = some E1 := by simp only [lk]; rw [if_pos (by decide), aE1]
  have ee2 : (lk K).exc "NoRow" = some E2 := by simp only [lk]; rw [if_pos (by decide), aE2]
  have excOf : ∀ c C, (lk K).exc c = some C → c ∈ excN := fun c C h => by
    by_cases z : excN.contains c = true
    · simpa using z
    · simp only [lk, if_neg z] at h; cases h
  refine ⟨fun x hx => ?_, fun f hf => ?_, fun f hf => ?_, rfl, fun t ht => ?_, fun c hc => ?_, fun c C hc => ?_, fun c C hc => ?_, fun c t b hb => ?_, fun c o ho => ?_, fun c C hc H a dx fs e => ?_, fun b hb => ?_, fun c m f hm => ?_, fun m hm => ?_, fun m n cs hc c f hm => ?_, fun c hm => ?_, fun c f hf => ?_, fun c m f hm => ?_⟩
  · have hx : x ∈ (["PAIRS", "HIGHEST", "ALL", "FIGURES"] : List String) := by simpa [tbl, bltNames] using hx
    simp only [List.mem_cons, List.mem_nil_iff, List.not_mem_nil, or_false] at hx
    rcases hx with rfl | rfl | rfl | rfl
    · exact ⟨_, _, .ref _, rfl, PySem.W.mg_of X G gv0, rfl, fun _ _ => .tup (xs := [V.str (Str.ofString "turn"), V.str (Str.ofString "kind"), V.str (Str.ofString "from"), V.str (Str.ofString "fromdoor"), V.str (Str.ofString "to"), V.str (Str.ofString "todoor")]) (.inr ⟨(fun _ _ z => by cases z), _, _, _, gl0, rfl, rfl, (by show 6 ≤ sizeLine; decide), (.cons ⟨_, rfl⟩ (.cons ⟨_, rfl⟩ (.cons ⟨_, rfl⟩ (.cons ⟨_, rfl⟩ (.cons ⟨_, rfl⟩ (.cons ⟨_, rfl⟩ .nil))))))⟩) (.cons (.str _) (.cons (.str _) (.cons (.str _) (.cons (.str _) (.cons (.str _) (.cons (.str _) .nil)))))), fun a z => by cases z; exact ⟨_, gl0, rfl, rfl⟩⟩
    · exact ⟨_, _, .ref _, rfl, PySem.W.mg_of X G gv1, rfl, fun _ _ => .tup (xs := [V.int 3, V.int 255, V.int 4294967295, V.int 65535, V.int 4294967295, V.int 65535]) (.inr ⟨(fun _ _ z => by cases z), _, _, _, gl1, rfl, rfl, (by show 6 ≤ sizeLine; decide), (.cons ⟨_, rfl⟩ (.cons ⟨_, rfl⟩ (.cons ⟨_, rfl⟩ (.cons ⟨_, rfl⟩ (.cons ⟨_, rfl⟩ (.cons ⟨_, rfl⟩ .nil))))))⟩) (.cons (.int _) (.cons (.int _) (.cons (.int _) (.cons (.int _) (.cons (.int _) (.cons (.int _) .nil)))))), fun a z => by cases z; exact ⟨_, gl1, rfl, rfl⟩⟩
    · exact ⟨_, _, .int _, rfl, PySem.W.mg_of X G gv2, ⟨_, rfl⟩, fun _ _ => .int _, fun a z => by cases z⟩
    · exact ⟨_, _, .str _, rfl, PySem.W.mg_of X G gv3, ⟨_, rfl⟩, fun _ _ => .str _, fun a z => by cases z⟩
  · have hx : f ∈ (["part_of", "read_address", "mask", "beginning", "every", "words_of", "number_by", "address_by", "numbers_by", "addresses_by", "box_by", "read_change", "_law_cell_at", "_law_top", "_law_dotted", "_law_size", "_law_stretch", "_law_value", "_law_pairs", "_law_spoiled", "_law_row", "_law_refused", "law"] : List String) := by simpa [tbl, bltNames] using hf
    simp only [List.mem_cons, List.mem_nil_iff, List.not_mem_nil, or_false] at hx
    rcases hx with rfl | rfl | rfl | rfl | rfl | rfl | rfl | rfl | rfl | rfl | rfl | rfl | rfl | rfl | rfl | rfl | rfl | rfl | rfl | rfl | rfl | rfl | rfl
    · exact ⟨f0, s_part_of, Str.ofString "part_of", _, _, _, dS_part_of, 60, PySem.W.mg_of X G a0, fun_mk (st := s_part_of) l0 c0 k0, (by exact ln_1 fun _ => rfl), c_part_of, rfl, t_part_of, rfl, rfl, rfl⟩
    · exact ⟨f1, s_read_address, Str.ofString "read_address", _, _, _, dS_read_address, 60, PySem.W.mg_of X G a1, fun_mk (st := s_read_address) l1 c1 k1, (by exact ln_1 fun _ => rfl), c_read_address, rfl, t_read_address, rfl, rfl, rfl⟩
    · exact ⟨f2, s_mask, Str.ofString "mask", _, _, _, dS_mask, 60, PySem.W.mg_of X G a2, fun_mk (st := s_mask) l2 c2 k2, (by exact ln_1 fun _ => rfl), c_mask, rfl, t_mask, rfl, rfl, rfl⟩
    · exact ⟨f3, s_beginning, Str.ofString "beginning", _, _, _, dS_beginning, 60, PySem.W.mg_of X G a3, fun_mk (st := s_beginning) l3 c3 k3, (by exact ln_2 fun _ _ => rfl), c_beginning, rfl, t_beginning, rfl, rfl, rfl⟩
    · exact ⟨f4, s_every, Str.ofString "every", _, _, _, d_every, 60, PySem.W.mg_of X G a4, fun_mk (st := s_every) l4 c4 k4, (by exact ln_0 rfl), c_every, rfl, t_every, rfl, rfl, rfl⟩
    · exact ⟨f5, s_words_of, Str.ofString "words_of", _, _, _, dS_words_of, 60, PySem.W.mg_of X G a5, fun_mk (st := s_words_of) l5 c5 k5, (by exact ln_1 fun _ => rfl), c_words_of, rfl, t_words_of, rfl, rfl, rfl⟩
    · exact ⟨f6, s_number_by, Str.ofString "number_by", _, _, _, dS_number_by, 60, PySem.W.mg_of X G a6, fun_mk (st := s_number_by) l6 c6 k6, (by exact ln_2 fun _ _ => rfl), c_number_by, rfl, t_number_by, rfl, rfl, rfl⟩
    · exact ⟨f7, s_address_by, Str.ofString "address_by", _, _, _, dS_address_by, 60, PySem.W.mg_of X G a7, fun_mk (st := s_address_by) l7 c7 k7, (by exact ln_1 fun _ => rfl), c_address_by, rfl, t_address_by, rfl, rfl, rfl⟩
    · exact ⟨f8, s_numbers_by, Str.ofString "numbers_by", _, _, _, dS_numbers_by, 60, PySem.W.mg_of X G a8, fun_mk (st := s_numbers_by) l8 c8 k8, (by exact ln_2 fun _ _ => rfl), c_numbers_by, rfl, t_numbers_by, rfl, rfl, rfl⟩
    · exact ⟨f9, s_addresses_by, Str.ofString "addresses_by", _, _, _, dS_addresses_by, 60, PySem.W.mg_of X G a9, fun_mk (st := s_addresses_by) l9 c9 k9, (by exact ln_1 fun _ => rfl), c_addresses_by, rfl, t_addresses_by, rfl, rfl, rfl⟩
    · exact ⟨f10, s_box_by, Str.ofString "box_by", _, _, _, dS_box_by, 60, PySem.W.mg_of X G a10, fun_mk (st := s_box_by) l10 c10 k10, (by exact ln_1 fun _ => rfl), c_box_by, rfl, t_box_by, rfl, rfl, rfl⟩
    · exact ⟨f11, s_read_change, Str.ofString "read_change", _, _, _, d_read_change, 60, PySem.W.mg_of X G a11, fun_mk (st := s_read_change) l11 c11 k11, (by exact ln_1 fun _ => rfl), c_read_change, rfl, t_read_change, rfl, rfl, rfl⟩
    · exact ⟨f12, s_law_cell_at, Str.ofString "_law_cell_at", _, _, _, d_law_cell_at, 60, PySem.W.mg_of X G a12, fun_mk (st := s_law_cell_at) l12 c12 k12, (by exact ln_2 fun _ _ => rfl), c_law_cell_at, rfl, t_law_cell_at, rfl, rfl, rfl⟩
    · exact ⟨f13, s_law_top, Str.ofString "_law_top", _, _, _, d_law_top, 60, PySem.W.mg_of X G a13, fun_mk (st := s_law_top) l13 c13 k13, (by exact ln_1 fun _ => rfl), c_law_top, rfl, t_law_top, rfl, rfl, rfl⟩
    · exact ⟨f14, s_law_dotted, Str.ofString "_law_dotted", _, _, _, d_law_dotted, 60, PySem.W.mg_of X G a14, fun_mk (st := s_law_dotted) l14 c14 k14, (by exact ln_1 fun _ => rfl), c_law_dotted, rfl, t_law_dotted, rfl, rfl, rfl⟩
    · exact ⟨f15, s_law_size, Str.ofString "_law_size", _, _, _, d_law_size, 60, PySem.W.mg_of X G a15, fun_mk (st := s_law_size) l15 c15 k15, (by exact ln_1 fun _ => rfl), c_law_size, rfl, t_law_size, rfl, rfl, rfl⟩
    · exact ⟨f16, s_law_stretch, Str.ofString "_law_stretch", _, _, _, d_law_stretch, 60, PySem.W.mg_of X G a16, fun_mk (st := s_law_stretch) l16 c16 k16, (by exact ln_4 fun _ _ _ _ => rfl), c_law_stretch, rfl, t_law_stretch, rfl, rfl, rfl⟩
    · exact ⟨f17, s_law_value, Str.ofString "_law_value", _, _, _, d_law_value, 60, PySem.W.mg_of X G a17, fun_mk (st := s_law_value) l17 c17 k17, (by exact ln_4 fun _ _ _ _ => rfl), c_law_value, rfl, t_law_value, rfl, rfl, rfl⟩
    · exact ⟨f18, s_law_pairs, Str.ofString "_law_pairs", _, _, _, d_law_pairs, 60, PySem.W.mg_of X G a18, fun_mk (st := s_law_pairs) l18 c18 k18, (by exact ln_2 fun _ _ => rfl), c_law_pairs, rfl, t_law_pairs, rfl, rfl, rfl⟩
    · exact ⟨f19, s_law_spoiled, Str.ofString "_law_spoiled", _, _, _, d_law_spoiled, 60, PySem.W.mg_of X G a19, fun_mk (st := s_law_spoiled) l19 c19 k19, (by exact ln_2 fun _ _ => rfl), c_law_spoiled, rfl, t_law_spoiled, rfl, rfl, rfl⟩
    · exact ⟨f20, s_law_row, Str.ofString "_law_row", _, _, _, d_law_row, 60, PySem.W.mg_of X G a20, fun_mk (st := s_law_row) l20 c20 k20, (by exact ln_2 fun _ _ => rfl), c_law_row, rfl, t_law_row, rfl, rfl, rfl⟩
    · exact ⟨f21, s_law_refused, Str.ofString "_law_refused", _, _, _, d_law_refused, 60, PySem.W.mg_of X G a21, fun_mk (st := s_law_refused) l21 c21 k21, (by exact ln_1 fun _ => rfl), c_law_refused, rfl, t_law_refused, rfl, rfl, rfl⟩
    · exact ⟨f22, s_law, Str.ofString "law", _, _, _, d_law, 60, PySem.W.mg_of X G a22, fun_mk (st := s_law) l22 c22 k22, (by exact ln_1 fun _ => rfl), c_law, rfl, t_law, rfl, rfl, rfl⟩
  · have hx : f ∈ (["read_address", "part_of"] : List String) := by simpa [tbl, bltNames] using hf
    simp only [List.mem_cons, List.mem_nil_iff, List.not_mem_nil, or_false] at hx
    rcases hx with rfl | rfl
    · exact ⟨f1, s_read_address, Str.ofString "read_address", _, _, _, dS_read_address, 60, PySem.W.mg_of X G a1, fun_mk (st := s_read_address) l1 c1 k1, (by exact ln_1 fun _ => rfl), c_read_address, rfl, tN_read_address, rfl, rfl, rfl⟩
    · exact ⟨f0, s_part_of, Str.ofString "part_of", _, _, _, dS_part_of, 60, PySem.W.mg_of X G a0, fun_mk (st := s_part_of) l0 c0 k0, (by exact ln_1 fun _ => rfl), c_part_of, rfl, tN_part_of, rfl, rfl, rfl⟩
  · have hx : t ∈ (["tuple"] : List String) := by simpa [tbl, bltNames] using ht
    simp only [List.mem_cons, List.mem_nil_iff, List.not_mem_nil, or_false] at hx
    rcases hx with rfl
    · exact ⟨.ty "tuple", .type "tuple", .inl ⟨"tuple", rfl, rfl, PySem.W.mg_none_of X G z9, by decide +kernel⟩, sub_of (tab := subT) (by
        intro e he ht
        simp only [subT, List.mem_cons, List.not_mem_nil, or_false] at he
        rcases he with rfl | rfl | rfl | rfl | rfl | rfl | rfl <;> first | rfl | (exact absurd ht (by decide)))⟩
  · have hx : c ∈ (["NoneType", "bool", "int", "str", "tuple", "list", "dict"] : List String) := by simpa [isTy] using hc
    simp only [List.mem_cons, List.mem_nil_iff, List.not_mem_nil, or_false] at hx
    rcases hx with rfl | rfl | rfl | rfl | rfl | rfl | rfl <;> exact ⟨rfl, rfl⟩
  · have hx := clsOf c C hc
    simp [clsN] at hx
  · have hx := excOf c C hc
    simp only [excN, List.mem_cons, List.mem_nil_iff, List.not_mem_nil, or_false] at hx
    rcases hx with rfl | rfl | rfl
    · rw [ee0] at hc; cases hc; exact ⟨xg0, xk0, xs0, xd0, xa0, hn, htk, xm0⟩
    · rw [ee1] at hc; cases hc; exact ⟨xg1, xk1, xs1, xd1, xa1, hn, htk, xm1⟩
    · rw [ee2] at hc; cases hc; exact ⟨xg2, xk2, xs2, xd2, xa2, hn, htk, xm2⟩
  · have hx := lookup_mem hb
    simp only [exmT, List.mem_cons, List.mem_nil_iff, List.not_mem_nil, or_false, Prod.mk.injEq] at hx
    rcases hx with ⟨⟨rfl, rfl⟩, rfl⟩ | ⟨⟨rfl, rfl⟩, rfl⟩ | ⟨⟨rfl, rfl⟩, rfl⟩ | ⟨⟨rfl, rfl⟩, rfl⟩
    · exact ⟨E2, PySem.W.mg_of X G aE2, fun D hD => by rw [ee2] at hD; cases hD; exact PySem.W.exm_ref xs2 xd2 xt2 xb0⟩
    · exact ⟨E0, PySem.W.mg_of X G aE0, fun D hD => by rw [ee1] at hD; cases hD; exact PySem.W.exm_ref xs0 xd0 xt0 xb1⟩
    · exact ⟨E0, PySem.W.mg_of X G aE0, fun D hD => by rw [ee2] at hD; cases hD; exact PySem.W.exm_ref xs0 xd0 xt0 xb2⟩
    · exact ⟨E1, PySem.W.mg_of X G aE1, fun D hD => by rw [ee1] at hD; cases hD; exact PySem.W.exm_ref xs1 xd1 xt1 xb3⟩
  · have hx := lookup_mem ho
    simp only [exiT, List.mem_cons, List.mem_nil_iff, List.not_mem_nil, or_false, Prod.mk.injEq] at hx
    rcases hx with ⟨rfl, rfl⟩ | ⟨rfl, rfl⟩
    · exact ⟨E1, ee1, PySem.W.mg_of X G aE1, xc1, xs1, xt1, xe1⟩
    · exact ⟨E2, ee2, PySem.W.mg_of X G aE2, xc2, xs2, xt2, ⟨⟨_, _, _, _, _, _, _, _, _, _, _, _, _, _, _, xl2, by show HandSPX.refsVE veTl = true; decide +kernel⟩, xw2, xs2, xt2, xc2⟩, xf2, fx2, inClass (top 3) 0, Str.ofString "__init__", _, Str.ofString "self", Str.ofString "row", _, _, _, _, _, xi2, xy2, fun_mk (st := inClass (top 3) 0) lx2 cx2 kx2, (by exact ln_2 fun _ _ => rfl), ⟨rfl, rfl, rfl, by decide +kernel, rfl, by decide +kernel, by decide +kernel⟩, rfl, rfl, rfl, by decide +kernel, by decide +kernel⟩
  · have hx := clsOf c C hc
    simp [clsN] at hx
  · have hx : b ∈ (["range", "enumerate", "zip", "reversed", "len", "max", "min", "int", "str", "tuple", "list", "sum", "all", "isinstance", "dict"] : List String) := by simpa [tbl, bltNames] using hb
    simp only [List.mem_cons, List.mem_nil_iff, List.not_mem_nil, or_false] at hx
    rcases hx with rfl | rfl | rfl | rfl | rfl | rfl | rfl | rfl | rfl | rfl | rfl | rfl | rfl | rfl | rfl
    · exact PySem.W.mg_none_of X G z0
    · exact PySem.W.mg_none_of X G z1
    · exact PySem.W.mg_none_of X G z2
    · exact PySem.W.mg_none_of X G z3
    · exact PySem.W.mg_none_of X G z4
    · exact PySem.W.mg_none_of X G z5
    · exact PySem.W.mg_none_of X G z6
    · exact PySem.W.mg_none_of X G z7
    · exact PySem.W.mg_none_of X G z8
    · exact PySem.W.mg_none_of X G z9
    · exact PySem.W.mg_none_of X G z10
    · exact PySem.W.mg_none_of X G z11
    · exact PySem.W.mg_none_of X G z12
    · exact PySem.W.mg_none_of X G z13
    · exact PySem.W.mg_none_of X G z14
  · have hx := lookup_mem hm
    simp only [mroT, List.mem_cons, List.mem_nil_iff, List.not_mem_nil, or_false] at hx
  · have hx : m ∈ ([] : List String) := by simpa [tbl, bltNames] using hm
    simp at hx
  · simp [tbl] at hc
  · have hx : c ∈ ([] : List String) := by simpa [tbl, bltNames] using hm
    simp at hx
  · have hx : (c, f) ∈ fldT := by
      simp only [T, List.contains_iff_mem, List.mem_map, List.mem_filter, beq_iff_eq] at hf
      obtain ⟨⟨a, b⟩, ⟨h1, h2⟩, h3⟩ := hf
      simp only at h2 h3; subst h2; subst h3; exact h1
    simp only [fldT, List.mem_cons, List.mem_nil_iff, List.not_mem_nil, or_false] at hx
  · have hx := lookup_mem hm
    simp only [tbl, List.mem_cons, List.mem_nil_iff, List.not_mem_nil, or_false] at hx
end
-- pot
noncomputable def lvl : Nat := 8
end Lw
namespace Lw
open PySem PySem.Spec PyProof.Rows L2 Mn
local macro_rules
  | `(tactic| specialize [$ts,*]) => do
    let xs ← ("f_lens f_str f_ints ri_str mo_join mo_split mo_part mo_find mo_upper so_nil m_join m_split m_part m_find m_upper is_k we_fld g_fld ws_rai ws_try ws_onlyA ws_onlyR ws_hold hot_n hot_c hot_0 hot_a hot_r ra_n ra_f n_exc ty_exc g_fldx ws_fld g_set we_own ow_ref ow_i in_n we_new pf_nil pf_cons lk_nil lk_cons String.reduceEq reduceIte b_muls b_mull i_str f_sum io_nil io_cons m_pop m_index mo_index m_bit mo_bit vlen_app ap_l lt_last lt_app set_app cut_take cut_drop1 nn_add nn_mul nn_cast nn_mod at_nat List.getElem?_map Option.map_some Int.zero_add Int.mul_one m_okr mo_append mo_extend mo_pop mo_popAt mo_clear set_last sz_lt mulOk_l pow_lit app_last implies_true Int.reduceToNat stands_one stands_two if_t if_f if_dec if_not if_and if_or bl_k in_k op_k op_n op_map op_if ls_k wp_ok wp_err wp_bad wp_if wp_ret wg_0 wg_s we_var we_con we_glb we_bin we_cmp we_and we_or we_not we_neg we_isN we_notN we_isB we_chn we_lst we_tup we_idx wo_none wo_some we_slc we_call we_bi we_isi we_mth we_nil we_cons we_cmp1 ws_ite ws_asg ws_asgT un_tup un_ref tu_l bt_nm bt_tp bs_nil bs_cons ws_exp ws_ret ws_retN ws_brk ws_cnt ws_pas wb_nil wb_cons ws_for ws_whl ws_sub wp_call stands_nil b_add b_sub b_mul b_div b_mod b_pow b_shl b_shr b_and b_or b_xor b_adds b_addt b_addl c_lt c_le c_gt c_ge c_eq c_ne c_in c_nin v_ii v_ss v_bb i_tup i_lst ix_l ix_d l_tup l_lst ln_l ln_d lo_l lo_d su_l su_d su_t dk_s dk_n k_tup kt_tup gt_tup ix_t m_get mo_getd mo_gett gt_t gt_e k_int k_str gk_int gk_str ri_val ri_rng ri_enm ri_zip ri_zpx ri_rev ri_itm dc_k we_dct we_lofv we_lofr we_lofz we_fst fs_n fs_s fs_i we_gix gx_k gx_i m_get2 mo_get2d gt_s ws_thru ws_ran f_dict it_zipl it_zipx List.isEmpty_cons m_insert mo_insert f_max f_min f_int f_intb f_tupt f_tupl f_lstt f_lstl s_tup s_lst m_append m_extend u_sub ib_t ib_f ib_non ib_int ib_str ib_tup ib_ref n_non n_bl n_int n_str n_tup n_ref ty_non ty_bl ty_int ty_str ty_tup ty_ref tyO_l tyO_i List.set_cons_zero List.set_cons_succ List.map_cons List.map_nil List.length_cons List.length_nil List.length_map List.replicate_zero List.replicate_succ List.nil_append List.cons_append Bool.not_true Bool.not_false and_true true_and true_implies false_implies and_false false_and not_false_eq_true not_true_eq_false Nat.reduceAdd Nat.reduceSub Nat.reduceLeDiff Nat.reduceMul Int.reduceMul Int.reduceAdd Int.reduceSub Int.reduceLT Int.reduceLE Int.reduceNeg Int.reduceEq Int.cast_ofNat_Int Int.reducePow Nat.reducePow divOk_lit mulOk_r eq_self and_self decide_true decide_false it_rng1 it_rng2 it_rng3 it_rngd it_valt it_vall it_enml it_enmt it_revl it_zipt v_tt pl_non pl_int pl_str pl_tup List.all_cons List.all_nil Bool.and_self at_0 at_1 at_2 at_3 at_4 at_5 sz_ok Val.ref.injEq Val.int.injEq Val.bl.injEq Val.str.injEq Val.tup.injEq List.cons.injEq Option.some.injEq exists_eq exists_eq' exists_eq_left exists_eq_left' exists_eq_right exists_eq_right' exists_and_left exists_and_right".splitOn " ").toArray.mapM fun s => `(Lean.Parser.Tactic.simpLemma| $(Lean.mkIdent s.toName):ident)
    let ys ← ts.getElems.mapM fun t => `(Lean.Parser.Tactic.simpLemma| $t:term)
    `(tactic| simp (maxDischargeDepth := 40) only [$(xs ++ ys),*])
local macro_rules
  | `(tactic| subst_eqs) => do
    let xs := ("g_PAIRS g_HIGHEST g_ALL g_FIGURES sub_NoneType_tuple sub_bool_tuple sub_int_tuple sub_str_tuple sub_tuple_tuple sub_list_tuple sub_dict_tuple exm_NoRow_NoRow exm_NoAddress_SieveError exm_NoRow_SieveError exm_NoAddress_NoAddress exi_NoAddress exi_NoRow".splitOn " ").toArray.map fun s => (⟨(Lean.mkIdent s.toName).raw⟩ : Lean.TSyntax `term)
    `(tactic| specialize [$xs,*])
local macro_rules
  | `(tactic| exists $ts,*) => do
    let xs := ("g_PAIRS g_HIGHEST g_ALL g_FIGURES sub_NoneType_tuple sub_bool_tuple sub_int_tuple sub_str_tuple sub_tuple_tuple sub_list_tuple sub_dict_tuple exm_NoRow_NoRow exm_NoAddress_SieveError exm_NoRow_SieveError exm_NoAddress_NoAddress exi_NoAddress exi_NoRow".splitOn " ").toArray.map fun s => (⟨(Lean.mkIdent s.toName).raw⟩ : Lean.TSyntax `term)
    `(tactic| specialize [$(xs ++ ts.getElems),*])
theorem cell_at (n : Nat) {h : MH} {a : Nat} {z : Bool} {ns : List Int} (hs : h[a]? = some (.lst z (ns.map .int))) {i : Int} (k : Nat) (hi : i = k) : (T.pg (n + 1)).cf "_law_cell_at" [.ref a, .int i] h = .ok (.int (cell ns k)) h := cell_run hs k hi
instance figB {n : Nat} : FigPg (bareP (T.pg (n + 1))) := ⟨g_FIGURES (n + 1), by
  show (if (T.pg (n + 1)).exi "NoAddress" = some none then some none else none) = some none
  rw [exi_NoAddress, if_pos rfl]⟩
instance rowP {n : Nat} : RowPg (T.pg (n + 1)) := ⟨exi_NoRow n, exm_NoAddress_NoAddress _⟩
instance allP {n : Nat} : AllPg (T.pg n) := ⟨g_ALL n⟩
instance pairP {n : Nat} : PairPg (T.pg n) := ⟨g_PAIRS n⟩
theorem part_b {n : Nat} (w : Str) (h : MH) (Q : Val → MH → Prop) (Z : XP) (sl : w.length ≤ sizeLine) (good : partG w → Q (.int (wv w)) h) (bad : ¬ partG w → Z "NoAddress" [] h) : ((bareP (T.pg (n + 2))).cf "part_of" [.str w] h).wp Q Z := by
  show ((T.pg (n + 2)).bare "part_of" [.str w] h).wp Q Z
  rw [bare_part_of]
  exact part_run sl good bad
theorem adr_ok {n : Nat} : AdrOk (T.pg (n + 4)) := by
  intro t h Q Z hl good bad
  have b : (4096 : Nat) < sizeLine := by decide
  have hn := PyProof.Rows.split_le t (Str.ofString ".")
  have hs := split_len (t := t) (s := Str.ofString ".") (by rw [dot_tl]; simp) (by decide +kernel)
  rw [cf_address_by]
  refine addrby_run (g := h ++ [.lst true ((Txt.split t (Str.ofString ".")).map .str)]) (fun Q Z g b' => ?_) (fun a => good a _ Up.refl.app) (bad _ Up.refl.app)
  rw [bare_read_address]
  exact addr_run part_b (by omega) (by omega) (fun w hw => by have := hs w hw; omega) g b'
theorem num_ok {n : Nat} : NumOk (T.pg (n + 2)) := by
  intro w m h Q Z sl good bad
  have b : (4096 : Nat) < sizeLine := by decide
  rw [cf_number_by]
  exact num_run (by omega) good bad
theorem nums_ok {n : Nat} : NumsOk (T.pg (n + 3)) := by intro w m h Q Z sl good bad; rw [cf_numbers_by]; exact nums_run (num_ok (n := n)) sl good bad
theorem mask_okk {n : Nat} : MaskOk (T.pg (n + 1)) := by intro b h Q Z h0 h1 q; rw [cf_mask]; exact mask_run h0 h1 q
theorem beg_okk {n : Nat} : BegOk' (T.pg (n + 2)) := by intro a b h Q Z a0 a1 h0 h1 q; rw [cf_beginning]; exact beg_run' (mask_okk (n := n)) a0 a1 h0 h1 q
theorem adrs_ok {n : Nat} : AdrsOk (T.pg (n + 5)) := by intro w h Q Z hl good bad; rw [cf_addresses_by]; exact addrs_run (num_ok (n := n + 2)) (adr_ok (n := n)) (beg_okk (n := n + 2)) hl good bad
theorem words_okk {n : Nat} : WordsOk' (T.pg (n + 1)) := by intro row h Q Z hl fin; rw [cf_words_of]; exact words_runW hl fin
theorem ev_ok {n : Nat} : EvOk (T.pg (n + 1)) := by
  intro h
  rw [cf_every, wp_call]
  unfold d_every
  exists g_HIGHEST
  refine wp_comp (fun i acc h' => h' = h ∧ acc = (wholeB.take i).map stV) ⟨rfl, rfl⟩ ?_ ?_
  · rintro i v acc h' hv ⟨rfl, rfl⟩
    have i6 : i < 6 := (List.getElem?_eq_some_iff.mp hv).1
    refine ⟨by rw [stands_nil]; trivial, by simp; omega, ?_⟩
    have : i = 0 ∨ i = 1 ∨ i = 2 ∨ i = 3 ∨ i = 4 ∨ i = 5 := by omega
    rcases this with rfl | rfl | rfl | rfl | rfl | rfl
    all_goals
      cases hv
      exists wi_cons, wi_nil
      rfl
  rintro acc h' ⟨rfl, rfl⟩
  refine ⟨by rw [stands_nil]; trivial, ?_⟩
  have hL : (h' ++ [Ob.lst true ((wholeB.take 6).map stV)])[h'.length]? = some (Ob.lst true ((wholeB.take 6).map stV)) := app_last
  exists hL
  exact ⟨rfl, Gr.app⟩
theorem box_okk {n : Nat} : BoxOk' (T.pg (n + 6)) := by intro S ws z h Q Z hS hw hn good bad; rw [cf_box_by]; exact box_runW (ev_ok (n := n + 4)) (nums_ok (n := n + 2)) (adrs_ok (n := n)) hS hw hn good bad
-- change
noncomputable def chgR (r : List Str) (a d s : Str) : Option (Str × List Sg × Int × Sg) := match boxW r with
  | none => none
  | some b => match addrW a with
    | none => none
    | some x => match numsW d 65535 with
      | none => none
      | some p => some (s, b.drop 1, x, p)
noncomputable def chgW : List Str → Option (Str × List Sg × Int × Sg)
  | s :: a :: d :: r => if (s = Str.ofString "from" ∨ s = Str.ofString "to") ∧ Str.ofString "turn" ∉ r then chgR r a d s else none
  | _ => none
theorem chg_ok {n : Nat} {row : Str} {h : MH} {Q : Val → MH → Prop} {Z : XP} (hl : row.length ≤ 3000) (good : ∀ s b x p h', Up h.length h h' → chgW (rowWs row) = some (s, b, x, p) → Q (.tup [.str s, .tup (b.map stV), .int x, stV p]) h') (bad : ∀ h', Up h.length h h' → chgW (rowWs row) = none → NoR Z h') :
    ((T.pg (n + 7)).cf "read_change" [.str row] h).wp Q Z := by
  rw [cf_read_change, wp_call]
  unfold d_read_change
  subst_eqs
  refine words_okk (n := n + 5) hl fun W h1 hW lW g1 => ?_
  obtain ⟨wl, wn⟩ := rowWs_len (row := row)
  generalize rowWs row = ws at *
  have b4 : (4096 : Nat) < sizeLine := by decide
  have sl : ws.length ≤ sizeLine := by omega
  have nr : (T.pg (n + 6)).exi "NoRow" = some (some "row") := exi_NoRow _
  match ws, wl, wn, sl, good, bad, hW with
  | [], _, _, _, _, bad, hW =>
    simp only [List.map_nil] at hW
    exists hW, nr
    exact bad h1 g1.up rfl
  | [_], _, _, _, _, bad, hW =>
    simp only [List.map_nil, List.map_cons] at hW
    exists hW, nr
    exact bad h1 g1.up rfl
  | [_, _], _, _, _, _, bad, hW =>
    simp only [List.map_nil, List.map_cons] at hW
    exists hW, nr
    exact bad h1 g1.up rfl
  | s :: a :: d :: r, wl, wn, sl, good, bad, hW =>
    have e : chgW (s :: a :: d :: r) = if (s = Str.ofString "from" ∨ s = Str.ofString "to") ∧ Str.ofString "turn" ∉ r then chgR r a d s else none := rfl
    rw [e] at good bad
    simp only [List.map_cons] at hW
    have l3 : (((r.length + 1 + 1 + 1 : Nat) : Int) < 3) = False := eq_false (by omega)
    have vt : vin? h1 (.str s) (.tup [.str (Str.ofString "from"), .str (Str.ofString "to")]) = some (decide (s ∈ [Str.ofString "from", Str.ofString "to"])) := vin_tss (ss := [Str.ofString "from", Str.ofString "to"])
    have sl' : r.length + 1 + 1 + 1 ≤ sizeLine := sl
    by_cases k1 : s ∈ [Str.ofString "from", Str.ofString "to"]
    case neg =>
      have k2 := decide_eq_false k1
      simp only [List.mem_cons, List.not_mem_nil, or_false] at k1
      exists hW, List.length_map, l3, sl', vt, k2, nr
      exact bad h1 g1.up (if_neg fun q => k1 q.1)
    have k2 := decide_eq_true k1
    simp only [List.mem_cons, List.not_mem_nil, or_false] at k1
    have c3 : ∀ xs : List Val, cutL xs (some 3) none = xs.drop 3 := fun xs => cut_drop1 (k := 2)
    have hT : (h1 ++ [Ob.lst true (r.map Val.str)])[h1.length]? = some (.lst true (r.map Val.str)) := app_last
    have vl : vin? (h1 ++ [Ob.lst true (r.map Val.str)]) (.str (Str.ofString "turn")) (.ref h1.length) = some (decide (Str.ofString "turn" ∈ r)) := vin_lss hT
    have d3 : List.drop 3 (Val.str s :: Val.str a :: Val.str d :: List.map Val.str r) = List.map Val.str r := rfl
    by_cases t1 : Str.ofString "turn" ∈ r
    · have t2 := decide_eq_true t1
      exists hW, List.length_map, l3, sl', vt, k2, nr, c3, d3, vl, t2
      exact bad _ (g1.up.app) (if_neg fun q => q.2 t1)
    have t2 := decide_eq_false t1
    rw [if_pos ⟨k1, t1⟩] at good bad
    have u2 : Up h.length h (h1 ++ [Ob.lst true (r.map Val.str)]) := g1.up.app
    have hW2 : (h1 ++ [Ob.lst true (r.map Val.str)])[W]? = some (Ob.lst true (Val.str s :: Val.str a :: Val.str d :: List.map Val.str r)) := Gr.app.get hW
    exists hW, List.length_map, l3, sl', vt, k2, nr, c3, d3, vl, t2, hW2
    generalize h1 ++ [Ob.lst true (r.map Val.str)] = h2 at *
    have hR : (h2 ++ [Ob.lst true (r.map Val.str)])[h2.length]? = some (.lst true (r.map Val.str)) := app_last
    have u3 : Up h.length h (h2 ++ [Ob.lst true (r.map Val.str)]) := u2.app
    have hW3 : (h2 ++ [Ob.lst true (r.map Val.str)])[W]? = some (Ob.lst true (Val.str s :: Val.str a :: Val.str d :: List.map Val.str r)) := Gr.app.get hW2
    have wr : ∀ w ∈ r, w.length ≤ 4000 := fun w hw => by have := wl w (by simp [hw]); omega
    have wa := wl a (by simp)
    have wd := wl d (by simp)
    simp only [List.length_cons] at wn
    refine box_okk (n := n) hR wr (by omega) (fun b h4 u4 eb => ?_) (fun h4 u4 eb => bad h4 (u3.trans u4 u3.1) (by unfold chgR; rw [eb]))
    have u5 := u3.trans u4 u3.1
    have hW4 := u4.get (lt_of hW3) hW3
    have c1 : cutL (b.map stV) (some 1) none = (b.drop 1).map stV := (cut_drop1 (k := 0)).trans (List.map_drop ..).symm
    exists bx_def, c1, hW4
    refine adr_ok (n := n + 2) (by omega) (fun x h6 u6 ea => ?_) (fun h6 u6 ea => bad h6 (u5.trans u6 u5.1) (by unfold chgR; rw [eb]; simp only; rw [ea]))
    have hW6 := u6.get (lt_of hW4) hW4
    have u7 := u5.trans u6 u5.1
    exists hW6
    refine nums_ok (n := n + 3) (by omega) (fun p ep => ?_) (fun ep => bad h6 u7 (by unfold chgR; rw [eb]; simp only; rw [ea]; simp only; rw [ep]))
    subst_eqs
    rw [c1]
    exact good s (b.drop 1) x p h6 u7 (by unfold chgR; rw [eb]; simp only; rw [ea]; simp only; rw [ep])
-- words of the law
noncomputable def tN (d : Nat) : Nat := match d with
  | 0 => 255 | 1 => 4294967295 | 2 => 65535 | 3 => 4294967295 | _ => 65535
theorem tN_le {d : Nat} : tN d ≤ 4294967295 := by
  unfold tN
  split <;> omega
theorem tN_top {d : Nat} (hd : d ≤ 4) : topN (d + 1) = (tN d : Int) := by
  have : d = 0 ∨ d = 1 ∨ d = 2 ∨ d = 3 ∨ d = 4 := by omega
  rcases this with rfl | rfl | rfl | rfl | rfl <;> rfl
theorem ltop_ok {n d : Nat} {h : MH} (hd : d ≤ 4) : ((T.pg (n + 1)).cf "_law_top" [.int (d : Nat)] h).wp (fun v h' => v = .int (tN d : Nat) ∧ Up h.length h h') NoE := by
  rw [cf_law_top, wp_call]
  unfold d_law_top
  have hL : ∀ o : Ob, (h ++ [o])[h.length]? = some o := fun o => app_last
  have ad : L2.atI [Val.int 255, .int 4294967295, .int 65535, .int 4294967295, .int 65535] ((d : Nat) : Int) = some (.int (tN d : Nat)) := by
    have : d = 0 ∨ d = 1 ∨ d = 2 ∨ d = 3 ∨ d = 4 := by omega
    rcases this with rfl | rfl | rfl | rfl | rfl <;> rfl
  exists hL, ad
  exact Up.refl.app
theorem size_ok {n p : Nat} {h : MH} {Q : Val → MH → Prop} {Z : XP} (hp : p ≤ 32) (q : Q (.int (2 ^ p)) h) : ((T.pg (n + 1)).cf "_law_size" [.int (p : Nat)] h).wp Q Z := by
  rw [cf_law_size, wp_call]
  unfold d_law_size
  subst_eqs
  refine ⟨by omega, ?_⟩
  refine wp_rng (fun i ρ h' => h' = h ∧ ∃ x, ρ = [some (.int (p : Nat)), some (.int (2 ^ i)), x]) ⟨rfl, _, rfl⟩ ?_ ?_
  · rintro i ρ h' hi ⟨rfl, x, rfl⟩
    have e : (2 : Int) ^ i * 2 = 2 ^ (i + 1) := (Int.pow_succ ..).symm
    exists e
  · rintro ρ h' ⟨rfl, x, rfl⟩
    rw [cnt_1]
    have e : ((p : Int) - 0).toNat = p := by omega
    rw [e]
    subst_eqs
    exact q
theorem log_v {x : Int} (h0 : 0 ≤ x) (h1 : x ≤ 4294967296) : x.natAbs.log2 < 1920 := by
  have e : x.natAbs ≤ 4294967296 := by omega
  by_cases z : x.natAbs = 0
  · rw [z]; decide
  · exact (Nat.log2_lt z (k := 1920)).mpr (Nat.lt_of_le_of_lt e (by decide +kernel))
theorem dn_int {v : Nat} {x : Int} (h : x = (v : Int)) : Str.ofString (toString x) = Dn v := by subst h; rfl
theorem dotted_ok {n v : Nat} {h : MH} (hv : v ≤ 4294967295) : ((T.pg (n + 1)).cf "_law_dotted" [.int (v : Nat)] h).wp (fun w h' => w = .str (addrT v) ∧ Up h.length h h') NoE := by
  rw [cf_law_dotted, wp_call]
  unfold d_law_dotted
  have g0 := log_v (x := (v : Int) / 16777216) (by omega) (by omega)
  have g1 := log_v (x := (v : Int) / 65536 % 256) (by omega) (by omega)
  have g2 := log_v (x := (v : Int) / 256 % 256) (by omega) (by omega)
  have g3 := log_v (x := (v : Int) % 256) (by omega) (by omega)
  have e0 := dn_int (x := (v : Int) / 16777216) (v := v / 16777216) (by omega)
  have e1 := dn_int (x := (v : Int) / 65536 % 256) (v := v / 65536 % 256) (by omega)
  have e2 := dn_int (x := (v : Int) / 256 % 256) (v := v / 256 % 256) (by omega)
  have e3 := dn_int (x := (v : Int) % 256) (v := v % 256) (by omega)
  have so : strsO [Val.str (Dn (v / 16777216)), Val.str (Dn (v / 65536 % 256)), Val.str (Dn (v / 256 % 256)), Val.str (Dn (v % 256))] = some [Dn (v / 16777216), Dn (v / 65536 % 256), Dn (v / 256 % 256), Dn (v % 256)] := rfl
  have l0 : (Dn (v / 16777216)).length ≤ 3 := dn_len (by decide) (by omega)
  have l1 : (Dn (v / 65536 % 256)).length ≤ 3 := dn_len (by decide) (by omega)
  have l2 : (Dn (v / 256 % 256)).length ≤ 3 := dn_len (by decide) (by omega)
  have l3 : (Dn (v % 256)).length ≤ 3 := dn_len (by decide) (by omega)
  have ld : (Str.ofString ".").length = 1 := by decide +kernel
  have hL : ∀ o : Ob, (h ++ [o])[h.length]? = some o := fun o => app_last
  exists g0, g1, g2, g3, e0, e1, e2, e3, hL, so, join_tx
  rw [ld]
  simp only [List.sum_cons, List.sum_nil]
  exact ⟨sz4 (by omega), rfl, Up.refl.app⟩
/-- the stretch that two cells give -/
noncomputable def fN (d : Nat) (x : Int) : Nat := (x % ((tN d : Int) + 1)).toNat
theorem fN_int {d : Nat} {x : Int} : x % ((tN d : Int) + 1) = (fN d x : Int) := by
  unfold fN
  have h0 := Int.emod_nonneg x (show (tN d : Int) + 1 ≠ 0 by omega)
  omega
theorem fN_le {d : Nat} {x : Int} : fN d x ≤ tN d := by
  have h1 := Int.emod_lt_of_pos x (show (0 : Int) < (tN d : Int) + 1 by omega)
  rw [fN_int] at h1
  omega
noncomputable def zN (two : Int) : Nat := 2 ^ (32 - two % 33).toNat
noncomputable def strN (d : Nat) (one two way : Int) : Nat × Nat :=
  if way = 0 then (fN d one, fN d one)
  else if way = 1 ∧ (d = 1 ∨ d = 3) then (fN d one / zN two * zN two, fN d one / zN two * zN two + zN two - 1)
  else (min (fN d one) (fN d two), max (fN d one) (fN d two))
noncomputable def ivV (p : Nat × Nat) : Val := .tup [.int (p.1 : Nat), .int (p.2 : Nat)]
theorem zN_int {two : Int} : ((zN two : Nat) : Int) = 2 ^ (32 - two % 33).toNat := by unfold zN; exact Int.natCast_pow 2 _
theorem zN_pos {two : Int} : 0 < zN two := Nat.pow_pos (by omega)
theorem part_le {f e : Nat} (hf : f < 4294967296) (he : e ≤ 32) : f / 2 ^ e * 2 ^ e + 2 ^ e ≤ 4294967296 := by
  have q : (4294967296 : Nat) = 2 ^ (32 - e) * 2 ^ e := by
    rw [← Nat.pow_add, show 32 - e + e = 32 by omega]
  have l : f / 2 ^ e < 2 ^ (32 - e) := by
    rw [Nat.div_lt_iff_lt_mul (Nat.pow_pos (by omega)), ← q]; exact hf
  have := Nat.mul_le_mul_right (2 ^ e) (show f / 2 ^ e + 1 ≤ 2 ^ (32 - e) from l)
  rw [← q, Nat.add_mul, Nat.one_mul] at this
  exact this
theorem strN_ok {d : Nat} {one two way : Int} : (strN d one two way).1 ≤ (strN d one two way).2 ∧ (strN d one two way).2 ≤ tN d := by
  unfold strN
  have f1 := fN_le (d := d) (x := one)
  have f2 := fN_le (d := d) (x := two)
  split
  · exact ⟨Nat.le_refl _, f1⟩
  · split
    · rename_i q
      have t : tN d = 4294967295 := by rcases q.2 with rfl | rfl <;> rfl
      have z := part_le (f := fN d one) (e := (32 - two % 33).toNat) (by omega) (by omega)
      have zp := zN_pos (two := two)
      unfold zN at zp ⊢
      show _ ≤ _ ∧ _ ≤ _
      simp only
      omega
    · simp only
      omega
theorem stretch_ok {n d : Nat} {one two way : Int} {h : MH} (hd : d ≤ 4) : ((T.pg (n + 2)).cf "_law_stretch" [.int (d : Nat), .int one, .int two, .int way] h).wp (fun v h' => v = ivV (strN d one two way) ∧ Up h.length h h') NoE := by
  rw [cf_law_stretch, wp_call]
  unfold d_law_stretch
  have tn : ((tN d : Int) + 1 = 0) = False := eq_false (by omega)
  have tp : (0 < (tN d : Int) + 1) = True := eq_true (by omega)
  subst_eqs
  refine wp_to (ltop_ok (n := n) hd) ?_
  rintro v h1 ⟨rfl, u1⟩
  exists tn, tp, fN_int
  refine wp_to (ltop_ok (n := n) hd) ?_
  rintro v h2 ⟨rfl, u2⟩
  have u12 := u1.trans u2 u1.1
  unfold strN ivV
  by_cases w0 : way = 0
  · have w1 := eq_true w0
    rw [if_pos w0]
    exists tn, tp, fN_int, w1
    exact u12
  have w1 := eq_false w0
  rw [if_neg w0]
  by_cases w2 : way = 1 ∧ (d = 1 ∨ d = 3)
  · rw [if_pos w2]
    obtain ⟨rfl, w3⟩ := w2
    have e : (32 : Int) - two % 33 = ((32 - two % 33).toNat : Nat) := by omega
    have sz := fun (Q : Val → MH → Prop) (Z : XP) (q : Q (.int (2 ^ (32 - two % 33).toNat)) h2) => size_ok (n := n) (p := (32 - two % 33).toNat) (h := h2) (Q := Q) (Z := Z) (by omega) q
    rw [← e, ← zN_int] at sz
    have zp : (0 < (zN two : Int)) = True := eq_true (by have := zN_pos (two := two); omega)
    have zn : ((zN two : Int) = 0) = False := eq_false (by have := zN_pos (two := two); omega)
    have di : (fN d one : Int) / (zN two : Int) = ((fN d one / zN two : Nat) : Int) := (Int.natCast_ediv ..).symm
    have fl := fN_le (d := d) (x := one)
    have tl := tN_le (d := d)
    have zl : zN two ≤ 4294967296 := Nat.le_trans (Nat.pow_le_pow_right (by omega) (show (32 - two % 33).toNat ≤ 32 by omega)) (by decide)
    have dl : fN d one / zN two ≤ fN d one := Nat.div_le_self ..
    have m1 : ((fN d one / zN two : Nat) : Int) * (zN two : Nat) = ((fN d one / zN two * zN two : Nat) : Int) := (Int.natCast_mul ..).symm
    have zpp := zN_pos (two := two)
    have fin : Up h.length h h2 → divOk (zN two : Nat) ∧ mulOk ((fN d one / zN two : Nat) : Int) (zN two : Nat) ∧ divOk (zN two : Nat) ∧ mulOk ((fN d one / zN two : Nat) : Int) (zN two : Nat) ∧ (((fN d one / zN two : Nat) : Int) * (zN two : Nat) = ((fN d one / zN two * zN two : Nat) : Int) ∧ ((fN d one / zN two : Nat) : Int) * (zN two : Nat) + (zN two : Nat) - 1 = ((fN d one / zN two * zN two + zN two - 1 : Nat) : Int)) ∧ Up h.length h h2 := fun u => by
      have mo : mulOk ((fN d one / zN two : Nat) : Int) (zN two : Nat) := .inl (by have q : (0 : Int) ≤ ((fN d one / zN two : Nat) : Int) := Int.natCast_nonneg _; omega)
      have dv : divOk (zN two : Nat) := ⟨by omega, by have := log_v (x := (zN two : Int)) (by omega) (by omega); omega⟩
      refine ⟨dv, mo, dv, mo, ⟨m1, ?_⟩, u⟩
      rw [m1]
      generalize fN d one / zN two * zN two = y at *
      omega
    rcases w3 with rfl | rfl
    · exists tn, tp, fN_int, w1
      refine sz _ _ ?_
      exists zp, zn, di
      exact fin u12
    · exists tn, tp, fN_int, w1
      refine sz _ _ ?_
      exists zp, zn, di
      exact fin u12
  · rw [if_neg w2]
    have mi : min (fN d one : Int) (fN d two : Int) = ((min (fN d one) (fN d two) : Nat) : Int) := by omega
    have ma : max (fN d one : Int) (fN d two : Int) = ((max (fN d one) (fN d two) : Nat) : Int) := by omega
    by_cases w3 : way = 1
    · have d1 : ((d : Int) = 1) = False := eq_false (by omega)
      have d3 : ((d : Int) = 3) = False := eq_false (by omega)
      have w4 := eq_true w3
      exists tn, tp, fN_int, w1, w4, d1, d3
      exact ⟨⟨mi, ma⟩, u12⟩
    · have w4 := eq_false w3
      exists tn, tp, fN_int, w1, w4
      exact ⟨⟨mi, ma⟩, u12⟩
-- values
noncomputable def valN (d : Nat) (one two way : Int) : Str :=
  if d = 1 ∨ d = 3 then
    (if way = 0 then addrT (strN d one two way).1
    else if way = 1 then addrT (one % 4294967296).toNat ++ Str.ofString "/" ++ Dn (two % 33).toNat
    else addrT (strN d one two way).1 ++ Str.ofString "-" ++ addrT (strN d one two way).2)
  else if way = 0 then Dn (strN d one two way).1 else Dn (strN d one two way).1 ++ Str.ofString "-" ++ Dn (strN d one two way).2
theorem value_ok {n d : Nat} {one two way : Int} {h : MH} (hd : d ≤ 4) : ((T.pg (n + 3)).cf "_law_value" [.int (d : Nat), .int one, .int two, .int way] h).wp (fun v h' => v = .str (valN d one two way) ∧ Up h.length h h') NoE := by
  rw [cf_law_value, wp_call]
  unfold d_law_value
  subst_eqs
  refine wp_to (stretch_ok (n := n) hd) ?_
  rintro v h1 ⟨rfl, u1⟩
  obtain ⟨s1, s2⟩ := strN_ok (d := d) (one := one) (two := two) (way := way)
  have tl := tN_le (d := d)
  unfold valN ivV
  generalize strN d one two way = p at *
  obtain ⟨a, b⟩ := p
  simp only at s1 s2 ⊢
  have g1 := log_v (x := (a : Int)) (by omega) (by omega)
  have g2 := log_v (x := (b : Int)) (by omega) (by omega)
  have e1 := dn_int (x := (a : Int)) (v := a) rfl
  have e2 := dn_int (x := (b : Int)) (v := b) rfl
  have da := dn_10 (v := a) (by omega)
  have db := dn_10 (v := b) (by omega)
  have la := addrT_len (v := a) (by omega)
  have lb := addrT_len (v := b) (by omega)
  have lm := one_len.2.1
  have ls := one_len.2.2.1
  by_cases w : d = 1 ∨ d = 3
  · rw [if_pos w]
    have dd : (((d : Int) = 1) = True ∧ ((d : Int) = 3) = False) ∨ (((d : Int) = 1) = False ∧ ((d : Int) = 3) = True) := by
      rcases w with rfl | rfl
      · exact .inl ⟨eq_true rfl, eq_false (by omega)⟩
      · exact .inr ⟨eq_false (by omega), eq_true rfl⟩
    by_cases w0 : way = 0
    · have w1 := eq_true w0
      rw [if_pos w0]
      rcases dd with ⟨d1, d3⟩ | ⟨d1, d3⟩
      all_goals
        exists d1, d3, w1
        refine wp_to (dotted_ok (n := n + 1) (v := a) (by omega)) ?_
        rintro v h2 ⟨rfl, u2⟩
        exact ⟨rfl, u1.trans u2 u1.1⟩
    have w1 := eq_false w0
    rw [if_neg w0]
    by_cases w2 : way = 1
    · have w3 := eq_true w2
      rw [if_pos w2]
      have eo : one % 4294967296 = ((one % 4294967296).toNat : Int) := by omega
      have et := dn_int (x := two % 33) (v := (two % 33).toNat) (by omega)
      have gt := log_v (x := two % 33) (by omega) (by omega)
      have lo := addrT_len (v := (one % 4294967296).toNat) (by omega)
      have dt := dn_10 (v := (two % 33).toNat) (by omega)
      have dv := fun (h : MH) => dotted_ok (n := n + 1) (h := h) (v := (one % 4294967296).toNat) (by omega)
      rw [← eo] at dv
      have q1 : (addrT (one % 4294967296).toNat).length + (Str.ofString "/").length ≤ sizeLine := sz4 (by omega)
      have q2 : (addrT (one % 4294967296).toNat ++ Str.ofString "/").length + (Dn (two % 33).toNat).length ≤ sizeLine := sz4 (by rw [len_app]; omega)
      rcases dd with ⟨d1, d3⟩ | ⟨d1, d3⟩
      all_goals
        exists d1, d3, w1, w3
        refine wp_to (dv h1) ?_
        rintro v h2 ⟨rfl, u2⟩
        exists gt, et, q1, q2
        exact u1.trans u2 u1.1
    have w3 := eq_false w2
    rw [if_neg w2]
    have q1 : (addrT a).length + (Str.ofString "-").length ≤ sizeLine := sz4 (by omega)
    have q2 : (addrT a ++ Str.ofString "-").length + (addrT b).length ≤ sizeLine := sz4 (by rw [len_app]; omega)
    rcases dd with ⟨d1, d3⟩ | ⟨d1, d3⟩
    all_goals
      exists d1, d3, w1, w3
      refine wp_to (dotted_ok (n := n + 1) (v := a) (by omega)) ?_
      rintro v h2 ⟨rfl, u2⟩
      exists q1
      refine wp_to (dotted_ok (n := n + 1) (v := b) (by omega)) ?_
      rintro v h3 ⟨rfl, u3⟩
      exists q2
      exact (u1.trans u2 u1.1).trans u3 (u1.trans u2 u1.1).1
  · rw [if_neg w]
    have d1 : ((d : Int) = 1) = False := eq_false (by omega)
    have d3 : ((d : Int) = 3) = False := eq_false (by omega)
    by_cases w0 : way = 0
    · have w1 := eq_true w0
      rw [if_pos w0]
      exists d1, d3, w1, g1, e1
      exact u1
    · have w1 := eq_false w0
      rw [if_neg w0]
      have q1 : (Dn a).length + (Str.ofString "-").length ≤ sizeLine := sz4 (by omega)
      have q2 : (Dn a ++ Str.ofString "-").length + (Dn b).length ≤ sizeLine := sz4 (by rw [len_app]; omega)
      exists d1, d3, w1, g1, g2, e1, e2, q1, q2
      exact u1
theorem val_ft : ∀ d < 5, ((kyS (d + 1) = Str.ofString "from" ∨ kyS (d + 1) = Str.ofString "to") ↔ (d = 1 ∨ d = 3)) ∧ K6.idxOf (kyS (d + 1)) = d + 1 := by decide +kernel
/-- what the law writes is read as the stretch -/
theorem val_reads {d : Nat} {one two way : Int} (hd : d ≤ 4) (hw : 0 ≤ way ∧ way ≤ 2) : valW (kyS (d + 1)) (valN d one two way) = some (((strN d one two way).1 : Int), ((strN d one two way).2 : Int)) := by
  obtain ⟨s1, s2⟩ := strN_ok (d := d) (one := one) (two := two) (way := way)
  have tl := tN_le (d := d)
  obtain ⟨f1, f2⟩ := val_ft d (by omega)
  unfold valW
  by_cases w : d = 1 ∨ d = 3
  · rw [if_pos (f1.mpr w)]
    unfold valN
    rw [if_pos w]
    by_cases w0 : way = 0
    · rw [if_pos w0]
      subst w0
      have e : (strN d one two 0).2 = (strN d one two 0).1 := rfl
      rw [e] at s2 ⊢
      exact addrs_one (by omega)
    · rw [if_neg w0]
      by_cases w1 : way = 1
      · rw [if_pos w1]
        subst w1
        rw [addrs_bits (by omega) (by omega)]
        have t : tN d = 4294967295 := by rcases w with rfl | rfl <;> rfl
        have fo : (one % 4294967296).toNat = fN d one := by unfold fN; rw [t]; rfl
        have es : strN d one two 1 = (fN d one / zN two * zN two, fN d one / zN two * zN two + zN two - 1) := by
          unfold strN
          rw [if_neg (by omega), if_pos ⟨rfl, w⟩]
        rw [fo, es]
        have zi := zN_int (two := two)
        have zp := zN_pos (two := two)
        have ez : (32 - ((two % 33).toNat : Int)).toNat = (32 - two % 33).toNat := by omega
        unfold begS
        rw [ez, ← zi, ← Int.natCast_ediv, ← Int.natCast_mul]
        generalize fN d one / zN two * zN two = y at *
        simp only
        congr 2
        omega
      · rw [if_neg w1]
        exact addrs_two (by omega) s1
  · rw [if_neg fun q => w (f1.mp q), f2, tN_top hd]
    unfold valN
    rw [if_neg w]
    by_cases w0 : way = 0
    · rw [if_pos w0]
      subst w0
      have e : (strN d one two 0).2 = (strN d one two 0).1 := rfl
      rw [e] at s2 ⊢
      exact nums_one (by omega) (by omega)
    · rw [if_neg w0]
      exact nums_two (by omega) s1 (by omega)
-- pairs
theorem cut_dropA {α : Type} {xs : List α} {k : Nat} : cutL xs (some (k : Int)) none = xs.drop k := by
  unfold cutL
  rw [HT.sIx_none, HT.sIx_nat]
  by_cases c : k ≤ xs.length
  · rw [Nat.min_eq_left c, List.take_of_length_le (by simp)]
  · rw [Nat.min_eq_right (by omega), List.drop_length, List.drop_of_length_le (by omega)]
    simp
noncomputable def rot {α : Type} (s : Nat) (l : List α) : List α := l.drop s ++ l.take s
theorem F2t {α β : Type} {R : α → β → Prop} : ∀ {l : List α} {r : List β}, F2 R l r → ∀ k, F2 R (l.take k) (r.take k)
  | _, _, .nil, k => by rw [List.take_nil, List.take_nil]; exact .nil
  | _, _, .cons a t, 0 => .nil
  | _, _, .cons a t, k + 1 => .cons a (F2t t k)
theorem F2d {α β : Type} {R : α → β → Prop} : ∀ {l : List α} {r : List β}, F2 R l r → ∀ k, F2 R (l.drop k) (r.drop k)
  | _, _, .nil, k => by rw [List.drop_nil, List.drop_nil]; exact .nil
  | _, _, .cons a t, 0 => .cons a t
  | _, _, .cons a t, k + 1 => F2d t k
theorem F2r {α β : Type} {R : α → β → Prop} {l : List α} {r : List β} (f : F2 R l r) (k : Nat) : F2 R (rot k l) (rot k r) := (F2d f k).app (F2t f k)
noncomputable def prN (ns : List Int) (d : Nat) : Nat × Str := (d + 1, valN d (cell ns (6 + 2 * d)) (cell ns (7 + 2 * d)) (cell ns 5 / (1 + 2 * (d : Int)) % 3))
noncomputable def prsN (ns : List Int) (bt : Nat → Int) (i : Nat) : List (Nat × Str) := ((List.range i).filter fun d => decide (bt d = 1)).map (prN ns)
theorem prs_succ {ns : List Int} {bt : Nat → Int} {i : Nat} : prsN ns bt (i + 1) = prsN ns bt i ++ if bt i = 1 then [prN ns i] else [] := by
  unfold prsN
  rw [List.range_succ, List.filter_append, List.map_append]
  congr 1
  by_cases e : bt i = 1 <;> simp [e]
theorem prs_len {ns : List Int} {bt : Nat → Int} {i : Nat} : (prsN ns bt i).length ≤ i := by
  unfold prsN
  rw [List.length_map]
  exact Nat.le_trans (List.length_filter_le _ _) (by simp)
noncomputable def PrA (h : MH) (a : Nat) (q : Nat × Str) : Prop := h[a]? = some (.lst true [.str (kyS q.1), .str q.2])
noncomputable def IPr (ns : List Int) (bt : Nat → Int) (B : Nat) (h : MH) (i : Nat) (ρ : Env') (h' : MH) : Prop := ∃ (as : List Nat) (x3 x4 x5 x6 : Option Val), ρ = [some (.ref 0), some (.ref B), some (.ref h.length), x3, x4, x5, x6, none] ∧
  h'[h.length]? = some (.lst true (as.map .ref)) ∧ F2 (PrA h') as (prsN ns bt i) ∧ (∀ a ∈ as, h.length < a) ∧ Up h.length h h'
theorem F2_len {α β : Type} {R : α → β → Prop} {l : List α} {r : List β} (f : F2 R l r) : l.length = r.length := f.len
theorem pairs_ok {n B : Nat} {z w : Bool} {ns : List Int} {bt : Nat → Int} {h : MH} (hs : h[0]? = some (.lst z (ns.map .int))) (hB : h[B]? = some (.lst w ((List.range 5).map fun d => .int (bt d)))) :
    ((T.pg (n + 4)).cf "_law_pairs" [.ref 0, .ref B] h).wp (fun v h' => ∃ R as s, v = .ref R ∧ h'[R]? = some (.lst true (as.map .ref)) ∧ F2 (PrA h') as (rot s (prsN ns bt 5)) ∧ Up h.length h h') NoE := by
  rw [cf_law_pairs, wp_call]
  unfold d_law_pairs
  have l0 := lt_of hs
  have lB := lt_of hB
  subst_eqs
  refine wp_rng (IPr ns bt B h) ⟨[], _, _, _, _, rfl, app_last, .nil, by simp, Up.refl.app⟩ ?_ ?_
  · rintro i ρ h1 hi ⟨as, x3, x4, x5, x6, rfl, hL, f, al, u⟩
    have i5 : i < 5 := by simpa [cnt_1] using hi
    have hs1 := u.get l0 hs
    have hB1 := u.get lB hB
    have i1 : (0 : Int) + (i : Int) * 1 = i := by omega
    have ab : L2.atI ((List.range 5).map fun d => Val.int (bt d)) ((i : Nat) : Int) = some (.int (bt i)) := by
      rw [Mn.atI_nat, List.getElem?_map, List.getElem?_range i5]; rfl
    by_cases b1 : bt i = 1
    case neg =>
      have b2 := eq_false b1
      exists i1, hB1, ab, b2
      exact ⟨as, _, _, _, _, rfl, hL, by rw [prs_succ, if_neg b1, List.append_nil]; exact f, al, u⟩
    have b2 := eq_true b1
    have nm : L2.atI [Val.str (Str.ofString "kind"), .str (Str.ofString "from"), .str (Str.ofString "fromdoor"), .str (Str.ofString "to"), .str (Str.ofString "todoor")] ((i : Nat) : Int) = some (.str (kyS (i + 1))) := by
      have : i = 0 ∨ i = 1 ∨ i = 2 ∨ i = 3 ∨ i = 4 := by omega
      rcases this with rfl | rfl | rfl | rfl | rfl <;> rfl
    have u2 : ∀ o : Ob, Up h1.length h1 (h1 ++ [o]) := fun o => Up.refl.app
    have hs2 := fun o => (u2 o).get (lt_of hs1) hs1
    have c6 : ∀ o Q Z, ((T.pg (n + 3)).cf "_law_cell_at" [.ref 0, .int (6 + 2 * (i : Int))] (h1 ++ [o])).wp Q Z = Q (.int (cell ns (6 + 2 * i))) (h1 ++ [o]) := fun o Q Z => wp_is (cell_at (n + 2) (hs2 o) _ (by omega))
    have c7 : ∀ o Q Z, ((T.pg (n + 3)).cf "_law_cell_at" [.ref 0, .int (7 + 2 * (i : Int))] (h1 ++ [o])).wp Q Z = Q (.int (cell ns (7 + 2 * i))) (h1 ++ [o]) := fun o Q Z => wp_is (cell_at (n + 2) (hs2 o) _ (by omega))
    have c5 : ∀ o Q Z, ((T.pg (n + 3)).cf "_law_cell_at" [.ref 0, .int 5] (h1 ++ [o])).wp Q Z = Q (.int (cell ns 5)) (h1 ++ [o]) := fun o Q Z => wp_is (cell_at (n + 2) (hs2 o) _ (by omega))
    have dn : (1 + 2 * (i : Int) = 0) = False := eq_false (by omega)
    have dp : (0 < 1 + 2 * (i : Int)) = True := eq_true (by omega)
    have hL1 : ∀ o : Ob, (h1 ++ [o])[h.length]? = some (.lst true (as.map .ref)) := fun o => (u2 o).get (lt_of hL) hL
    exists i1, hB1, ab, b2, app_last, nm, c6, c7, c5, dn, dp, hL1
    refine ⟨⟨by omega, by have := log_v (x := 1 + 2 * (i : Int)) (by omega) (by omega); omega⟩, ?_⟩
    refine wp_to (value_ok (n := n) (d := i) (by omega)) ?_
    rintro v h2 ⟨rfl, u3⟩
    have u4 := (u2 _).trans u3 (u2 _).1
    have hL2 := u4.get (lt_of hL) hL
    have la : as.length < sizeLine := by
      have q := prs_len (ns := ns) (bt := bt) (i := i)
      rw [← F2_len f] at q
      have : (4096 : Nat) < sizeLine := by decide
      omega
    have lL2 := lt_of hL2
    exists ap_l, hL2, lL2, lt_app, List.length_map, la
    refine ⟨as ++ [h2.length], _, _, _, _, rfl, ?_, ?_, ?_, ?_⟩
    · rw [List.getElem?_append_left (by rw [List.length_set]; exact lL2), List.getElem?_set_self lL2, List.map_append]; rfl
    · rw [prs_succ, if_pos b1]
      refine F2.snoc (f.impm fun a q ha r => ?_) ?_
      · have q1 := al a ha
        have r2 := u4.get (lt_of r) r
        unfold PrA
        rw [List.getElem?_append_left (by rw [List.length_set]; exact lt_of r2), List.getElem?_set_ne (by omega)]
        exact r2
      · unfold PrA
        rw [List.getElem?_append_right (by simp), List.length_set, Nat.sub_self]; rfl
    · intro a ha
      rcases List.mem_append.mp ha with z | z
      · exact al a z
      · rw [List.mem_singleton.mp z]; omega
    · exact ((u.trans u4 u.1).set (Nat.le_refl _)).app
  · rintro ρ h1 ⟨as, x3, x4, x5, x6, rfl, hL, f, al, u⟩
    have hs1 := u.get l0 hs
    have c4 : ∀ Q Z, ((T.pg (n + 3)).cf "_law_cell_at" [.ref 0, .int 4] h1).wp Q Z = Q (.int (cell ns 4)) h1 := fun Q Z => wp_is (cell_at (n + 2) hs1 _ (by omega))
    obtain ⟨s, es⟩ : ∃ s : Nat, cell ns 4 % max 1 (as.length : Int) = s := ⟨(cell ns 4 % max 1 (as.length : Int)).toNat, by have := Int.emod_nonneg (cell ns 4) (show max 1 (as.length : Int) ≠ 0 by omega); omega⟩
    have mp : (0 < max 1 (as.length : Int)) = True := eq_true (by omega)
    have mn : (max 1 (as.length : Int) = 0) = False := eq_false (by omega)
    have cd : cutL (as.map Val.ref) (some (s : Int)) none = (as.drop s).map Val.ref := by rw [cut_dropA, List.map_drop]
    have cc : cutL (as.map Val.ref) none (some (s : Int)) = (as.take s).map Val.ref := by rw [cut_take, List.map_take]
    have lL := lt_of hL
    have sl : (as.drop s).length + (as.take s).length ≤ sizeLine := by
      have q := prs_len (ns := ns) (bt := bt) (i := 5)
      have e := F2_len f
      rw [show Mn.cnt 0 5 1 = 5 from rfl] at e
      rw [← e] at q
      exact sz4 (by simp; omega)
    exists c4, hL, es, mp, mn, cd, cc, ap_l, lL, lt_app, lt_last, app_last, List.length_map, sl
    refine ⟨rot s as, by unfold rot; rw [List.map_append], ⟨s, ?_⟩, ((u.app).app).app⟩
    exact F2r (f.imp fun a q r => Gr.app.get (Gr.app.get (Gr.app.get r))) s
-- rows
theorem s_strL {h : MH} {z : Str} {lo hi : Option Int} {Q : Val → MH → Prop} {Z : XP} : (slice (.str z) lo hi h).wp Q Z = (z.length ≤ sizeLine ∧ Q (.str ⟨(cutL z.cps.toList lo hi).toArray⟩) h) := by simp only [slice, wp_if]; rfl
noncomputable def gpS (j : Nat) : Str := if j = 0 then Str.ofString " " else if j = 1 then Str.ofString "  " else Str.ofString "   "
theorem gp_rep : ∀ j < 3, gpS j = repS (Str.ofString " ") (j + 1) := by decide +kernel
theorem gp_cut : ∀ j < 3, ∀ m < 4, (⟨((gpS j).cps.toList.take m).toArray⟩ : Str) = repS (Str.ofString " ") (min m (j + 1)) := by decide +kernel
theorem gp_len : ∀ j < 3, (gpS j).length = j + 1 := by decide +kernel
noncomputable def RowP (ws : List Str) (h : MH) : Val → MH → Prop := fun v h' => ∃ t, v = .str t ∧ rowWs t = ws ∧ t.length ≤ 3000 ∧ Up h.length h h'
theorem row_ok {n A : Nat} {z : Bool} {ws : List Str} {c : Int} {h : MH} (hA : h[A]? = some (.lst z (ws.map .str))) (hw : ∀ w ∈ ws, WdOk w) (hn : ws.length ≤ 30) : ((T.pg (n + 1)).cf "_law_row" [.ref A, .int c] h).wp (RowP ws h) NoE := by
  rw [cf_law_row, wp_call]
  unfold d_law_row
  have lA := lt_of hA
  obtain ⟨j, ej⟩ : ∃ j : Nat, c % 3 = j := ⟨(c % 3).toNat, by omega⟩
  obtain ⟨m, em⟩ : ∃ m : Nat, c / 3 % 4 = m := ⟨(c / 3 % 4).toNat, by omega⟩
  have gv : ∀ j : Nat, j < 3 → L2.atI [Val.str (Str.ofString " "), .str (Str.ofString "  "), .str (Str.ofString "   ")] ((j : Nat) : Int) = some (.str (gpS j)) := fun j hj => by
    rcases (by omega : j = 0 ∨ j = 1 ∨ j = 2) with rfl | rfl | rfl <;> rfl
  have gj := gv j (by omega)
  have gl := gp_len j (by omega)
  have g4 : (gpS j).length ≤ sizeLine := sz4 (by omega)
  have gc := gp_cut j (by omega) m (by omega)
  exists ej, em, app_last, gj, s_strL, g4, gc, ap_l, lA, hA, List.length_map
  have hA1 : ∀ o : Ob, (h ++ [o])[A]? = some (.lst z (ws.map .str)) := fun o => Gr.app.get hA
  have hG : (h ++ [Ob.lst true [Val.str (Str.ofString " "), .str (Str.ofString "  "), .str (Str.ofString "   ")]])[h.length]? = some (Ob.lst true [Val.str (Str.ofString " "), .str (Str.ofString "  "), .str (Str.ofString "   ")]) := app_last
  have U : Up h.length h (h ++ [Ob.lst true [Val.str (Str.ofString " "), .str (Str.ofString "  "), .str (Str.ofString "   ")]]) := Up.refl.app
  have hA2 := hA1 (Ob.lst true [Val.str (Str.ofString " "), .str (Str.ofString "  "), .str (Str.ofString "   ")])
  have rl := rep_len (min m (j + 1))
  have r0 := RwOk.fst (min m (j + 1))
  generalize repS (Str.ofString " ") (min m (j + 1)) = t0 at *
  generalize h ++ [Ob.lst true [Val.str (Str.ofString " "), .str (Str.ofString "  "), .str (Str.ofString "   ")]] = g at *
  generalize eG : h.length = G at *
  refine ⟨by omega, ?_⟩
  refine wp_rng (fun i ρ h' => h' = g ∧ ∃ t x, ρ = [some (.ref A), some (.int c), some (.ref G), some (.str t), x] ∧ RwOk t (ws.take i) true ∧ t.length ≤ 3 + 63 * i) ⟨rfl, t0, _, rfl, r0, by omega⟩ ?_ ?_
  · rintro i ρ h' hi ⟨rfl, t, x, rfl, r, tl⟩
    rw [cnt_1] at hi
    have il : i < ws.length := by omega
    obtain ⟨w, hww⟩ : ∃ w, ws[i]? = some w := ⟨_, List.getElem?_eq_getElem il⟩
    have wk := hw w (List.mem_of_getElem? hww)
    have aw : L2.atI (ws.map Val.str) ((i : Nat) : Int) = some (.str w) := by rw [Mn.atI_nat, List.getElem?_map, hww]; rfl
    obtain ⟨k, ek⟩ : ∃ k : Nat, (c / 12 + (i : Int) * (i : Int)) % 3 = k := ⟨((c / 12 + (i : Int) * (i : Int)) % 3).toNat, by omega⟩
    have gk := gv k (by omega)
    have kl := gp_len k (by omega)
    have i1 : (0 : Int) + (i : Int) * 1 = i := by omega
    have q1 : t.length + w.length ≤ sizeLine := sz4 (by have := wk.2.1; omega)
    have q2 : (t ++ w).length + (gpS k).length ≤ sizeLine := sz4 (by rw [len_app]; have := wk.2.1; omega)
    have tk : ws.take (i + 1) = ws.take i ++ [w] := by rw [List.take_add_one, hww]; rfl
    exists i1, hA2, aw, hG, ek, gk, q1, q2
    refine ⟨.inl (by omega), ?_, by rw [len_app, len_app]; have := wk.2.1; omega⟩
    rw [tk, gp_rep k (by omega)]
    exact (r.wd wk).bl (k + 1) (by omega)
  · rintro ρ h' ⟨rfl, t, x, rfl, r, tl⟩
    rw [cnt_1] at r tl
    have e : ((ws.length : Int) - 0).toNat = ws.length := by omega
    rw [e] at tl r
    rw [List.take_length] at r
    have lr : (Str.ofString "# turn 1").length = 8 := by decide +kernel
    have er : Str.ofString "# turn 1" = Str.ofString "#" ++ Str.ofString " turn 1" := by decide +kernel
    have q : t.length + (Str.ofString "# turn 1").length ≤ sizeLine := sz4 (by omega)
    by_cases z : c / 36 % 2 = 1
    · have z1 := eq_true z
      exists z1, q
      refine ⟨_, rfl, ?_, by rw [len_app]; omega, eG ▸ U⟩
      rw [er]
      exact r.words.2 _
    · have z1 := eq_false z
      exists z1
      exact ⟨_, rfl, r.words.1, by omega, eG ▸ U⟩
-- refused
theorem refused_ok {n : Nat} {row : Str} {h : MH} (hl : row.length ≤ 3000) (bad : chgW (rowWs row) = none) : ((T.pg (n + 8)).cf "_law_refused" [.str row] h).wp (fun v h' => v = .bl true) NoE := by
  rw [cf_law_refused, wp_call]
  unfold d_law_refused
  subst_eqs
  refine chg_ok (n := n) hl (fun _ _ _ _ _ _ e => by rw [bad] at e; cases e) (fun h1 u1 _ => ?_)
  unfold NoR
  subst_eqs
  refine ⟨by decide, ?_⟩
  refine chg_ok (n := n) hl (fun _ _ _ _ _ _ e => by rw [bad] at e; cases e) (fun h2 u2 _ => ?_)
  unfold NoR
  subst_eqs
-- spoiled
/-- a row of a change -/
structure Chg (B : Nat → Sg) (s : Str) (a : Nat) (dw : Str) (p : Sg) (l : List (Nat × Str)) : Prop where
  sd : s = Str.ofString "from" ∨ s = Str.ofString "to"
  ah : a ≤ 4294967295
  dwd : WdOk dw
  dr : numsW dw 65535 = some p
  nd : (l.map (·.1)).Nodup
  k6 : ∀ q ∈ l, 1 ≤ q.1 ∧ q.1 < 6 ∧ valW (kyS q.1) q.2 = some (B q.1)
  wd : ∀ q ∈ l, WdOk q.2
  ln : l.length ≤ 5
noncomputable def chgL (s : Str) (a : Nat) (dw : Str) (l : List (Nat × Str)) : List Str := s :: addrT a :: dw :: flatP l
noncomputable def spL (W : List Str) (way : Nat) (k : Nat) : List Str := match way with
  | 0 => W ++ [Str.ofString "turn", Str.ofString "1"]
  | 1 => W ++ [Str.ofString "kind", Str.ofString "1", Str.ofString "kind", Str.ofString "1"]
  | 2 => W ++ [Str.ofString "todoor"]
  | 3 => W.take 2 ++ [Str.ofString "9-8"] ++ W.drop 3
  | 4 => W.take 1 ++ [[Str.ofString "1.2.3.256", Str.ofString "1.2.3.0/24", Str.ofString "1.2.3.4-1.2.3.5"].getD k (Str.ofString "")] ++ W.drop 2
  | 5 => W.take 2 ++ [Str.ofString "65536"] ++ W.drop 3
  | 6 => [Str.ofString "form"] ++ W.drop 1
  | 7 => W.take 2
  | 8 => []
  | _ => W.take 2 ++ W.drop 3 ++ [Str.ofString "from", Str.ofString "1.2.3.4"]
noncomputable def SpoP (W : List Str) (h : MH) : Val → MH → Prop := fun v h' => ∃ b k w, v = .ref b ∧ k < 3 ∧ w < 10 ∧ h'[b]? = some (.lst true ((spL W w k).map .str)) ∧ Up h.length h h'
theorem spoiled_ok {n A : Nat} {z : Bool} {W : List Str} {c : Int} {h : MH} (hA : h[A]? = some (.lst z (W.map .str))) (hn : W.length ≤ 30) :
    ((T.pg (n + 1)).cf "_law_spoiled" [.ref A, .int c] h).wp (SpoP W h) NoE := by
  rw [cf_law_spoiled, wp_call]
  unfold d_law_spoiled
  have lA := lt_of hA
  obtain ⟨w, ew⟩ : ∃ w : Nat, c % 10 = w := ⟨(c % 10).toNat, by omega⟩
  obtain ⟨k, ek⟩ : ∃ k : Nat, c / 10 % 3 = k := ⟨(c / 10 % 3).toNat, by omega⟩
  have hw : w < 10 := by omega
  have hk : k < 3 := by omega
  have al : L2.atI [Val.str (Str.ofString "1.2.3.256"), .str (Str.ofString "1.2.3.0/24"), .str (Str.ofString "1.2.3.4-1.2.3.5")] ((k : Nat) : Int) = some (.str ([Str.ofString "1.2.3.256", Str.ofString "1.2.3.0/24", Str.ofString "1.2.3.4-1.2.3.5"].getD k (Str.ofString ""))) := by
    rcases (by omega : k = 0 ∨ k = 1 ∨ k = 2) with rfl | rfl | rfl <;> rfl
  have c1 : ∀ xs : List Val, cutL xs none (some 1) = xs.take 1 := fun xs => cut_take (k := 1)
  have c2 : ∀ xs : List Val, cutL xs none (some 2) = xs.take 2 := fun xs => cut_take (k := 2)
  have e1 : ∀ xs : List Val, cutL xs (some 1) none = xs.drop 1 := fun xs => cut_dropA (k := 1)
  have e2 : ∀ xs : List Val, cutL xs (some 2) none = xs.drop 2 := fun xs => cut_dropA (k := 2)
  have e3 : ∀ xs : List Val, cutL xs (some 3) none = xs.drop 3 := fun xs => cut_dropA (k := 3)
  have sl : ∀ m : Nat, m ≤ 4000 → m ≤ sizeLine := fun m hm => sz4 (by omega)
  rcases (by omega : w = 0 ∨ w = 1 ∨ w = 2 ∨ w = 3 ∨ w = 4 ∨ w = 5 ∨ w = 6 ∨ w = 7 ∨ w = 8 ∨ w = 9) with rfl | rfl | rfl | rfl | rfl | rfl | rfl | rfl | rfl | rfl
  all_goals
    exists ew, ek, al, hA, c1, c2, e1, e2, e3, ap_l, lA, lt_app, lt_last, app_last, vlen_app, List.length_map, List.length_take, List.length_drop
    repeat refine ⟨sl _ (by omega), ?_⟩
    refine ⟨_, k, _, rfl, hk, hw, app_last.trans (congrArg (fun x => some (Ob.lst true x)) (?_ : _ = (spL W _ k).map Val.str)), by repeat' (first | exact Up.refl | apply Up.app)⟩
    simp [spL, List.map_take, List.map_drop]
-- no spoiled row is read
theorem chgR_n3 {r : List Str} {a d s : Str} (h : numsW d 65535 = none) : chgR r a d s = none := by
  unfold chgR
  cases boxW r with
  | none => rfl
  | some b => cases addrW a with
    | none => rfl
    | some x => simp only; rw [h]
theorem chgR_n2 {r : List Str} {a d s : Str} (h : addrW a = none) : chgR r a d s = none := by
  unfold chgR
  cases boxW r with
  | none => rfl
  | some b => simp only; rw [h]
theorem chgR_n1 {r : List Str} {a d s : Str} (h : boxW r = none) : chgR r a d s = none := by
  unfold chgR
  rw [h]
theorem chgW_3 {s a d : Str} {r : List Str} : chgW (s :: a :: d :: r) = if (s = Str.ofString "from" ∨ s = Str.ofString "to") ∧ Str.ofString "turn" ∉ r then chgR r a d s else none := rfl
theorem chg_R {s a d : Str} {r : List Str} (h : chgR r a d s = none) : chgW (s :: a :: d :: r) = none := by
  rw [chgW_3, h]
  split <;> rfl
theorem ky_lett : ∀ i < 6, (45 ∉ TL.tl (kyS i)) ∧ ((TL.tl (kyS i)).any fun c => decide (57 < c)) = true := by decide +kernel
theorem nums_ky {i : Nat} {m : Int} (hi : i < 6) : numsW (kyS i) m = none := by
  obtain ⟨a, b⟩ := ky_lett i hi
  obtain ⟨c, hc, cb⟩ := List.any_eq_true.mp b
  rw [nums_no a, if_neg (num_bad hc (nF (.inr (of_decide_eq_true cb))))]
theorem c_98 : numsW (Str.ofString "9-8") 65535 = none := by
  have e : Str.ofString "9-8" = Dn 9 ++ Str.ofString "-" ++ Dn 8 := by decide +kernel
  rw [e, nums_mi (dn_no (by omega)), if_neg]
  rintro ⟨_, _, q⟩
  rw [dn_v, dn_v] at q
  omega
theorem c_65536 : numsW (Str.ofString "65536") 65535 = none := by
  have e : Str.ofString "65536" = Dn 65536 := by decide +kernel
  rw [e, nums_no (dn_no (by omega)), if_neg]
  intro q
  have := (num_dn (by omega)).mp q
  omega
theorem c_addr : ∀ k < 3, addrW ([Str.ofString "1.2.3.256", Str.ofString "1.2.3.0/24", Str.ofString "1.2.3.4-1.2.3.5"].getD k (Str.ofString "")) = none := by
  intro k hk
  rcases (by omega : k = 0 ∨ k = 1 ∨ k = 2) with rfl | rfl | rfl
  · show addrW (Str.ofString "1.2.3.256") = none
    have e : Str.ofString "1.2.3.256" = Tx (Dn 1) (Dn 2) (Dn 3) (Dn 256) := by decide +kernel
    rw [e]
    refine four_bad (fun q hq => ?_) fun g => ?_
    · simp only [List.mem_cons, List.not_mem_nil, or_false] at hq
      rcases hq with rfl | rfl | rfl | rfl <;> exact no_dot
    · have := (part_dn (by omega)).mp g.2.2.2
      omega
  · show addrW (Str.ofString "1.2.3.0/24") = none
    have e : Str.ofString "1.2.3.0/24" = Tx (Dn 1) (Dn 2) (Dn 3) (Str.ofString "0/24") := by decide +kernel
    have d : TL.tl (Str.ofString "0/24") = [48, 47, 50, 52] := by decide +kernel
    rw [e]
    refine four_bad (fun q hq => ?_) fun g => part_bad (c := 47) (by rw [d]; simp) (nF (by omega)) g.2.2.2
    simp only [List.mem_cons, List.not_mem_nil, or_false] at hq
    rcases hq with rfl | rfl | rfl | rfl
    · exact no_dot
    · exact no_dot
    · exact no_dot
    · rw [d]; simp
  · show addrW (Str.ofString "1.2.3.4-1.2.3.5") = none
    have e : (Txt.split (Str.ofString "1.2.3.4-1.2.3.5") (Str.ofString ".")).length = 7 := by decide +kernel
    unfold addrW
    exact if_neg (by rw [e]; decide)
theorem sp_none {B : Nat → Sg} {s : Str} {a : Nat} {dw : Str} {p : Sg} {l : List (Nat × Str)} (c : Chg B s a dw p l) {w k : Nat} (hk : k < 3) (hw : w < 10) : chgW (spL (chgL s a dw l) w k) = none := by
  have k6 : ∀ q ∈ l, q.1 < 6 ∧ valW (kyS q.1) q.2 = some (B q.1) := fun q hq => (c.k6 q hq).2
  rcases (by omega : w = 0 ∨ w = 1 ∨ w = 2 ∨ w = 3 ∨ w = 4 ∨ w = 5 ∨ w = 6 ∨ w = 7 ∨ w = 8 ∨ w = 9) with rfl | rfl | rfl | rfl | rfl | rfl | rfl | rfl | rfl | rfl
  · show chgW (s :: addrT a :: dw :: (flatP l ++ [Str.ofString "turn", Str.ofString "1"])) = none
    rw [chgW_3, if_neg fun q => q.2 (by simp)]
  · show chgW (s :: addrT a :: dw :: (flatP l ++ [Str.ofString "kind", Str.ofString "1", Str.ofString "kind", Str.ofString "1"])) = none
    refine chg_R (chgR_n1 ?_)
    obtain ⟨g, e, _, _⟩ := boxF_flat (B := B) (r := [Str.ofString "kind", Str.ofString "1", Str.ofString "kind", Str.ofString "1"]) l (fun _ => none) k6 c.nd (fun _ _ => rfl)
    unfold boxW
    rw [e]
    simp only [boxF]
    split
    · split
      · rfl
      · rw [if_neg fun q => by have := q.2; rw [if_pos trivial] at this; cases this]; rfl
    · rfl
  · show chgW (s :: addrT a :: dw :: (flatP l ++ [Str.ofString "todoor"])) = none
    refine chg_R (chgR_n1 ?_)
    unfold boxW
    rw [boxF_odd l.length _ _ (by rw [List.length_append, flat_len]; rfl)]
    rfl
  · exact chg_R (chgR_n3 c_98)
  · exact chg_R (chgR_n2 (c_addr k hk))
  · exact chg_R (chgR_n3 c_65536)
  · show chgW (Str.ofString "form" :: addrT a :: dw :: flatP l) = none
    rw [chgW_3, if_neg fun q => ?_]
    rcases q.1 with z | z <;> revert z <;> decide +kernel
  · rfl
  · rfl
  · show chgW (s :: addrT a :: (flatP l ++ [Str.ofString "from", Str.ofString "1.2.3.4"])) = none
    cases l with
    | nil => exact chg_R (chgR_n3 (nums_ky (i := 2) (by omega)))
    | cons q l =>
      rw [flat_cons]
      exact chg_R (chgR_n3 (nums_ky (c.k6 q (by simp)).2.1))
theorem turn_no : (45 ∉ TL.tl (Str.ofString "turn")) ∧ (47 ∉ TL.tl (Str.ofString "turn")) ∧ (46 ∉ TL.tl (Str.ofString "turn")) ∧ 117 ∈ TL.tl (Str.ofString "turn") := by decide +kernel
theorem valW_ne {i : Nat} {w : Str} {p : Sg} (hi : i < 6) (h : valW (kyS i) w = some p) : ¬ w = Str.ofString "turn" := fun e => by
  subst e
  unfold valW at h
  split at h
  · rw [addrs_no turn_no.1 turn_no.2.1, one_part turn_no.2.2.1] at h
    cases h
  · rw [nums_no turn_no.1, if_neg (num_bad turn_no.2.2.2 (nF (by omega)))] at h
    cases h
theorem chg_good {B : Nat → Sg} {s : Str} {a : Nat} {dw : Str} {p : Sg} {l : List (Nat × Str)} (c : Chg B s a dw p l) : chgW (chgL s a dw l) = some (s, ((List.range 6).map fun i => if i ∈ l.map (·.1) then B i else (0, topN i)).drop 1, (a : Int), p) := by
  have k6 : ∀ q ∈ l, q.1 < 6 ∧ valW (kyS q.1) q.2 = some (B q.1) := fun q hq => (c.k6 q hq).2
  unfold chgL
  have nt : Str.ofString "turn" ∉ flatP l := fun z => by
    unfold flatP at z
    obtain ⟨q, hq, m⟩ := List.mem_flatMap.mp z
    simp only [List.mem_cons, List.not_mem_nil, or_false] at m
    obtain ⟨q1, q6, _⟩ := c.k6 q hq
    rcases m with m | m
    · exact absurd (key_inj 0 (by omega) q.1 q6 m) (by omega)
    · have := valW_ne q6 (c.k6 q hq).2.2
      exact this m.symm
  rw [chgW_3, if_pos ⟨c.sd, nt⟩]
  unfold chgR
  rw [boxW_flat k6 c.nd]
  simp only
  rw [addrT_ok c.ah]
  simp only
  rw [c.dr]
-- the words stand
theorem chg_wd {B : Nat → Sg} {s : Str} {a : Nat} {dw : Str} {p : Sg} {l : List (Nat × Str)} (c : Chg B s a dw p l) : (∀ w ∈ chgL s a dw l, WdOk w) ∧ (chgL s a dw l).length ≤ 13 := by
  constructor
  · intro w hw
    unfold chgL at hw
    rcases List.mem_cons.mp hw with rfl | hw
    · rcases c.sd with rfl | rfl <;> exact wdok_dec (by decide +kernel)
    rcases List.mem_cons.mp hw with rfl | hw
    · have := addrT_len c.ah
      exact addrT_ch.wd this.2 (by omega)
    rcases List.mem_cons.mp hw with rfl | hw
    · exact c.dwd
    unfold flatP at hw
    obtain ⟨q, hq, m⟩ := List.mem_flatMap.mp hw
    simp only [List.mem_cons, List.not_mem_nil, or_false] at m
    rcases m with rfl | rfl
    · exact key_wd _ (c.k6 q hq).2.1
    · exact c.wd q hq
  · unfold chgL
    have := c.ln
    simp only [List.length_cons, flat_len]
    omega
theorem sp_con : ∀ w ∈ [Str.ofString "turn", Str.ofString "1", Str.ofString "kind", Str.ofString "todoor", Str.ofString "9-8", Str.ofString "1.2.3.256", Str.ofString "1.2.3.0/24", Str.ofString "1.2.3.4-1.2.3.5", Str.ofString "65536", Str.ofString "form", Str.ofString "from", Str.ofString "1.2.3.4"], WdOk w := by
  have : ([Str.ofString "turn", Str.ofString "1", Str.ofString "kind", Str.ofString "todoor", Str.ofString "9-8", Str.ofString "1.2.3.256", Str.ofString "1.2.3.0/24", Str.ofString "1.2.3.4-1.2.3.5", Str.ofString "65536", Str.ofString "form", Str.ofString "from", Str.ofString "1.2.3.4"].all fun w => (decide (1 ≤ w.length) && decide (w.length ≤ 60) && (TL.tl w).all fun c => decide (33 ≤ c) && decide (c < 200) && decide (c ≠ 35))) = true := by decide +kernel
  intro w hw
  exact wdok_dec (List.all_eq_true.mp this w hw)
theorem sp_wd {W : List Str} (h : ∀ w ∈ W, WdOk w) (hl : W.length ≤ 13) {w k : Nat} (hk : k < 3) (hw : w < 10) : (∀ x ∈ spL W w k, WdOk x) ∧ (spL W w k).length ≤ 30 := by
  have t : ∀ n, ∀ x ∈ W.take n, WdOk x := fun n x hx => h x (List.mem_of_mem_take hx)
  have d : ∀ n, ∀ x ∈ W.drop n, WdOk x := fun n x hx => h x (List.mem_of_mem_drop hx)
  have ap : ∀ {l r : List Str}, (∀ x ∈ l, WdOk x) → (∀ x ∈ r, WdOk x) → ∀ x ∈ l ++ r, WdOk x := fun a b x hx => by
    rcases List.mem_append.mp hx with z | z
    · exact a x z
    · exact b x z
  have k3 : ∀ x ∈ [[Str.ofString "1.2.3.256", Str.ofString "1.2.3.0/24", Str.ofString "1.2.3.4-1.2.3.5"].getD k (Str.ofString "")], WdOk x := fun x hx => by
    rcases (by omega : k = 0 ∨ k = 1 ∨ k = 2) with rfl | rfl | rfl <;> (rw [List.mem_singleton.mp hx]; exact sp_con _ (by decide +kernel))
  have cn : ∀ l : List Str, (l.all fun x => decide (x ∈ [Str.ofString "turn", Str.ofString "1", Str.ofString "kind", Str.ofString "todoor", Str.ofString "9-8", Str.ofString "1.2.3.256", Str.ofString "1.2.3.0/24", Str.ofString "1.2.3.4-1.2.3.5", Str.ofString "65536", Str.ofString "form", Str.ofString "from", Str.ofString "1.2.3.4"])) = true → ∀ x ∈ l, WdOk x := fun l e x hx => sp_con x (of_decide_eq_true (List.all_eq_true.mp e x hx))
  rcases (by omega : w = 0 ∨ w = 1 ∨ w = 2 ∨ w = 3 ∨ w = 4 ∨ w = 5 ∨ w = 6 ∨ w = 7 ∨ w = 8 ∨ w = 9) with rfl | rfl | rfl | rfl | rfl | rfl | rfl | rfl | rfl | rfl
  · exact ⟨ap h (cn _ (by decide +kernel)), by simp [spL]; omega⟩
  · exact ⟨ap h (cn _ (by decide +kernel)), by simp [spL]; omega⟩
  · exact ⟨ap h (cn _ (by decide +kernel)), by simp [spL]; omega⟩
  · exact ⟨ap (ap (t 2) (cn _ (by decide +kernel))) (d 3), by simp [spL]; omega⟩
  · exact ⟨ap (ap (t 1) k3) (d 2), by simp [spL]; omega⟩
  · exact ⟨ap (ap (t 2) (cn _ (by decide +kernel))) (d 3), by simp [spL]; omega⟩
  · exact ⟨ap (cn _ (by decide +kernel)) (d 1), by simp [spL]; omega⟩
  · exact ⟨t 2, by simp [spL]; omega⟩
  · exact ⟨fun x hx => (by cases hx), by simp [spL]⟩
  · exact ⟨ap (ap (t 2) (d 3)) (cn _ (by decide +kernel)), by simp [spL]; omega⟩
theorem val_wd {d : Nat} {one two way : Int} : WdOk (valN d one two way) := by
  obtain ⟨s1, s2⟩ := strN_ok (d := d) (one := one) (two := two) (way := way)
  have tl := tN_le (d := d)
  have lm := one_len.2.1
  have ls := one_len.2.2.1
  have da := dn_10 (v := (strN d one two way).1) (by omega)
  have db := dn_10 (v := (strN d one two way).2) (by omega)
  have pa := dn_pos (n := (strN d one two way).1)
  have pt := dn_pos (n := (two % 33).toNat)
  have dt := dn_10 (v := (two % 33).toNat) (by omega)
  have la := addrT_len (v := (strN d one two way).1) (by omega)
  have lb := addrT_len (v := (strN d one two way).2) (by omega)
  have lo := addrT_len (v := (one % 4294967296).toNat) (by omega)
  unfold valN
  split
  · split
    · exact addrT_ch.wd la.2 (by omega)
    · split
      · exact ((addrT_ch.app sl_ch).app dn_ch).wd (by simp only [len_app]; omega) (by simp only [len_app]; omega)
      · exact ((addrT_ch.app mi_ch).app addrT_ch).wd (by simp only [len_app]; omega) (by simp only [len_app]; omega)
  · split
    · exact dn_ch.wd pa (by omega)
    · exact ((dn_ch.app mi_ch).app dn_ch).wd (by simp only [len_app]; omega) (by simp only [len_app]; omega)
/-- the box that the law holds -/
noncomputable def stI (p : Nat × Nat) : Sg := ((p.1 : Int), (p.2 : Int))
noncomputable def wayN (ns : List Int) (d : Nat) : Int := cell ns 5 / (1 + 2 * (d : Int)) % 3
noncomputable def bxN (ns : List Int) (i : Nat) : Sg := stI (strN (i - 1) (cell ns (6 + 2 * (i - 1))) (cell ns (7 + 2 * (i - 1))) (wayN ns (i - 1)))
noncomputable def bitN (ns : List Int) (d : Nat) : Int := cell ns 0 / (4 * 2 ^ d) % 2
noncomputable def lbN (ns : List Int) (d : Nat) : Sg := if bitN ns d = 1 then bxN ns (d + 1) else (0, (tN d : Int))
theorem prs_mem {ns : List Int} {q : Nat × Str} (h : q ∈ prsN ns (bitN ns) 5) : ∃ d, d < 5 ∧ bitN ns d = 1 ∧ q = prN ns d := by
  unfold prsN at h
  obtain ⟨d, hd, rfl⟩ := List.mem_map.mp h
  obtain ⟨h1, h2⟩ := List.mem_filter.mp hd
  exact ⟨d, List.mem_range.mp h1, of_decide_eq_true h2, rfl⟩
theorem rot_perm {α : Type} {s : Nat} {l : List α} : (rot s l).Perm l := by
  have := List.perm_append_comm (l₁ := l.drop s) (l₂ := l.take s)
  rw [List.take_append_drop] at this
  exact this
theorem rot_map {α β : Type} {f : α → β} {s : Nat} {l : List α} : (rot s l).map f = rot s (l.map f) := by
  unfold rot
  rw [List.map_append, List.map_drop, List.map_take]
theorem prs_key {ns : List Int} {bt : Nat → Int} {i : Nat} : (prsN ns bt i).map (·.1) = ((List.range i).filter fun d => decide (bt d = 1)).map (· + 1) := by
  unfold prsN
  rw [List.map_map]; rfl
theorem prs_nd {ns : List Int} {bt : Nat → Int} {i : Nat} : ((prsN ns bt i).map (·.1)).Nodup := by
  rw [prs_key]
  have nd : ((List.range i).filter fun d => decide (bt d = 1)).Nodup := List.nodup_range.filter _
  exact List.pairwise_map.mpr (List.Pairwise.imp (fun h e => h (by omega)) nd)
theorem prs_in {ns : List Int} {bt : Nat → Int} {i d : Nat} : d + 1 ∈ (prsN ns bt i).map (·.1) ↔ d < i ∧ bt d = 1 := by
  rw [prs_key]
  constructor
  · intro h
    obtain ⟨e, he, q⟩ := List.mem_map.mp h
    obtain ⟨h1, h2⟩ := List.mem_filter.mp he
    have : e = d := by omega
    subst this
    exact ⟨List.mem_range.mp h1, of_decide_eq_true h2⟩
  · rintro ⟨h1, h2⟩
    exact List.mem_map.mpr ⟨d, List.mem_filter.mpr ⟨List.mem_range.mpr h1, decide_eq_true h2⟩, rfl⟩
theorem way_ok {ns : List Int} {d : Nat} : 0 ≤ wayN ns d ∧ wayN ns d ≤ 2 := by unfold wayN; omega
theorem chg_of {ns : List Int} {s : Str} {a sh : Nat} {dw : Str} {p : Sg} (hs : s = Str.ofString "from" ∨ s = Str.ofString "to") (ha : a ≤ 4294967295) (hd : WdOk dw) (hp : numsW dw 65535 = some p) : Chg (bxN ns) s a dw p (rot sh (prsN ns (bitN ns) 5)) := by
  refine ⟨hs, ha, hd, hp, ?_, fun q hq => ?_, fun q hq => ?_, ?_⟩
  · rw [rot_map]
    exact (rot_perm.nodup_iff).mpr prs_nd
  · obtain ⟨d, d5, _, rfl⟩ := prs_mem ((rot_perm.mem_iff).mp hq)
    refine ⟨by show 1 ≤ d + 1; omega, by show d + 1 < 6; omega, ?_⟩
    exact val_reads (by omega) way_ok
  · obtain ⟨d, d5, _, rfl⟩ := prs_mem ((rot_perm.mem_iff).mp hq)
    exact val_wd
  · rw [rot_perm.length_eq]
    exact prs_len
theorem box_is {ns : List Int} {sh : Nat} : ((List.range 6).map fun i => if i ∈ (rot sh (prsN ns (bitN ns) 5)).map (·.1) then bxN ns i else (0, topN i)).drop 1 = (List.range 5).map (lbN ns) := by
  have e : ∀ d < 5, (if d + 1 ∈ (rot sh (prsN ns (bitN ns) 5)).map (·.1) then bxN ns (d + 1) else (0, topN (d + 1))) = lbN ns d := fun d hd => by
    unfold lbN
    rw [tN_top (by omega), rot_map]
    by_cases b : bitN ns d = 1
    · rw [if_pos ((rot_perm.mem_iff).mpr (prs_in.mpr ⟨hd, b⟩)), if_pos b]
    · rw [if_neg fun q => b (prs_in.mp ((rot_perm.mem_iff).mp q)).2, if_neg b]
  show [_, _, _, _, _] = [_, _, _, _, _]
  rw [← e 0 (by omega), ← e 1 (by omega), ← e 2 (by omega), ← e 3 (by omega), ← e 4 (by omega)]
-- law
theorem bits_ok {n : Nat} {z : Bool} {ns : List Int} {h : MH} {x1 x2 x3 x4 x5 x6 x7 x8 x9 x10 x11 : Option Val} {K : List Val → MH → Prop} {Z : XP} (hs : h[0]? = some (.lst z (ns.map .int))) (fin : K ((List.range 5).map fun d => .int (bitN ns d)) h) :
    (compL (.nm 7) [] [some (.ref 0), x1, x2, x3, x4, x5, x6, x7, x8, x9, x10, x11] (evC (T.pg (n + 2)) none) (evE (T.pg (n + 2)) (.bin .Mod (.bin .FloorDiv (.call "_law_cell_at" [.var 0, .con (.int 0)]) (.bin .Mult (.con (.int 4)) (.call "_law_size" [.var 7]))) (.con (.int 2)))) (rangeL 0 5 1) [] h).wp K Z := by
  refine wp_compR (fun i acc h' => acc = (List.range i).map (fun d => Val.int (bitN ns d)) ∧ h' = h) ⟨rfl, rfl⟩ ?_ ?_
  · rintro i acc h' hi ⟨rfl, rfl⟩
    have i5 : i < 5 := by simpa using hi
    refine ⟨by simp; omega, ?_⟩
    have c0 : ∀ Q Z, ((T.pg (n + 2)).cf "_law_cell_at" [.ref 0, .int 0] h').wp Q Z = Q (.int (cell ns 0)) h' := fun Q Z => wp_is (cell_at (n + 1) hs _ (by omega))
    have z0 : (0 : Int) + (i : Int) = i := by omega
    exists z0, c0
    refine size_ok (n := n + 1) (by omega) ?_
    have p : (0 : Int) < 2 ^ i := Int.pow_pos (by omega)
    have p1 : (0 < 4 * (2 : Int) ^ i) = True := eq_true (by omega)
    have p2 : (4 * (2 : Int) ^ i = 0) = False := eq_false (by omega)
    have lr : (List.range (i + 1)).map (fun d => Val.int (bitN ns d)) = (List.range i).map (fun d => Val.int (bitN ns d)) ++ [.int (bitN ns i)] := by rw [List.range_succ, List.map_append]; rfl
    have bd : bitN ns i = cell ns 0 / (4 * 2 ^ i) % 2 := rfl
    have p3 : (4 * (2 : Int) ^ i) ≤ 64 := by
      rcases (by omega : i = 0 ∨ i = 1 ∨ i = 2 ∨ i = 3 ∨ i = 4) with rfl | rfl | rfl | rfl | rfl <;> decide
    exists p1, p2, lr, bd
    exact ⟨by omega, by have := log_v (x := 4 * (2 : Int) ^ i) (by omega) (by omega); omega⟩
  · rintro acc h' ⟨rfl, rfl⟩
    exact fin
noncomputable def boxB : List S := match (d_law.body[7]? : Option S) with
  | some (.forS _ _ _ b) => b
  | _ => []
noncomputable def IBx (ns : List Int) (X : Nat) (x1 x2 x3 x4 x5 : Option Val) (h : MH) (i : Nat) (ρ : Env') (h' : MH) : Prop := ∃ x7 x8 x9 : Option Val, ρ = [some (.ref 0), x1, x2, x3, x4, x5, some (.ref X), x7, x8, x9, none, none] ∧ h'[X]? = some (.lst true (((List.range i).map (lbN ns)).map stV)) ∧ Up X h h'
theorem boxloop {n X Bt : Nat} {z w : Bool} {ns : List Int} {h : MH} {x1 x2 x3 x5 : Option Val} {K : Ks} (hs : h[0]? = some (.lst z (ns.map .int))) (hB : h[Bt]? = some (.lst w ((List.range 5).map fun d => .int (bitN ns d)))) (hX : h[X]? = some (.lst true [])) (X0 : 0 < X) (XB : Bt < X)
    (fin : ∀ x7 x8 x9 h', h'[X]? = some (.lst true (((List.range 5).map (lbN ns)).map stV)) → Up X h h' → K.nx [some (.ref 0), x1, x2, x3, some (.ref Bt), x5, some (.ref X), x7, x8, x9, none, none] h') :
    (forL (.nm 7) [] (evB (T.pg (n + 3)) boxB) (rangeL 0 5 1) [some (.ref 0), x1, x2, x3, some (.ref Bt), x5, some (.ref X), none, none, none, none, none] h).wp K := by
  unfold boxB d_law
  dsimp only [List.getElem?_cons_succ, List.getElem?_cons_zero]
  refine wp_rng (IBx ns X x1 x2 x3 (some (.ref Bt)) x5 h) ⟨_, _, _, rfl, hX, Nat.le_of_lt (lt_of hX), fun _ _ => rfl⟩ ?_ ?_
  · rintro i ρ h1 hi ⟨x7, x8, x9, rfl, hX1, u⟩
    have i5 : i < 5 := by simpa [cnt_1] using hi
    have hs1 := u.get X0 hs
    have hB1 := u.get XB hB
    have i1 : (0 : Int) + (i : Int) * 1 = i := by omega
    exists i1
    refine wp_to (ltop_ok (n := n + 2) (d := i) (by omega)) ?_
    rintro v h2 ⟨rfl, u2⟩
    have hs2 := u2.get (lt_of hs1) hs1
    have hB2 := u2.get (lt_of hB1) hB1
    have hX2 := u2.get (lt_of hX1) hX1
    have ab : L2.atI ((List.range 5).map fun d => Val.int (bitN ns d)) ((i : Nat) : Int) = some (.int (bitN ns i)) := by
      rw [Mn.atI_nat, List.getElem?_map, List.getElem?_range i5]; rfl
    have ll : (List.range i).length < sizeLine := by
      have : (4096 : Nat) < sizeLine := by decide
      rw [List.length_range]; omega
    have nx : ∀ (x8 x9 : Option Val) (g : MH), Up h1.length h1 g → IBx ns X x1 x2 x3 (some (.ref Bt)) x5 h (i + 1) [some (.ref 0), x1, x2, x3, some (.ref Bt), x5, some (.ref X), some (.int (i : Nat)), x8, x9, none, none] (g.set X (.lst true (((List.range i).map (lbN ns)).map stV ++ [stV (lbN ns i)]))) := fun x8 x9 g ug => by
      have ltg : X < g.length := Nat.lt_of_lt_of_le (lt_of hX1) ug.1
      refine ⟨_, _, _, rfl, ?_, (u.trans ug (Nat.le_of_lt (lt_of hX1))).set (Nat.le_refl _)⟩
      rw [List.getElem?_set_self ltg, List.range_succ, List.map_append, List.map_append]; rfl
    by_cases b1 : bitN ns i = 1
    case neg =>
      have b2 := eq_false b1
      have e : stV (lbN ns i) = .tup [.int 0, .int (tN i : Nat)] := by unfold lbN; rw [if_neg b1]; rfl
      exists hB2, ab, b2, hX2, ll, List.length_map
      rw [← e]
      exact nx _ _ _ u2
    have b2 := eq_true b1
    have e : stV (lbN ns i) = ivV (strN i (cell ns (6 + 2 * i)) (cell ns (7 + 2 * i)) (wayN ns i)) := by unfold lbN; rw [if_pos b1]; rfl
    have c6 : ∀ Q Z, ((T.pg (n + 3)).cf "_law_cell_at" [.ref 0, .int (6 + 2 * (i : Int))] h2).wp Q Z = Q (.int (cell ns (6 + 2 * i))) h2 := fun Q Z => wp_is (cell_at (n + 2) hs2 _ (by omega))
    have c7 : ∀ Q Z, ((T.pg (n + 3)).cf "_law_cell_at" [.ref 0, .int (7 + 2 * (i : Int))] h2).wp Q Z = Q (.int (cell ns (7 + 2 * i))) h2 := fun Q Z => wp_is (cell_at (n + 2) hs2 _ (by omega))
    have c5 : ∀ Q Z, ((T.pg (n + 3)).cf "_law_cell_at" [.ref 0, .int 5] h2).wp Q Z = Q (.int (cell ns 5)) h2 := fun Q Z => wp_is (cell_at (n + 2) hs2 _ (by omega))
    have dn : (1 + 2 * (i : Int) = 0) = False := eq_false (by omega)
    have dp : (0 < 1 + 2 * (i : Int)) = True := eq_true (by omega)
    exists hB2, ab, b2, c6, c7, c5, dn, dp
    refine ⟨⟨by omega, by have := log_v (x := 1 + 2 * (i : Int)) (by omega) (by omega); omega⟩, ?_⟩
    refine wp_to (stretch_ok (n := n + 1) (d := i) (by omega)) ?_
    rintro v h3 ⟨rfl, u3⟩
    have hX3 := u3.get (lt_of hX2) hX2
    have we : cell ns 5 / (1 + 2 * (i : Int)) % 3 = wayN ns i := rfl
    rw [we, ← e]
    exists hX3, ll, List.length_map
    exact nx _ _ _ (u2.trans u3 u2.1)
  · rintro ρ h1 ⟨x7, x8, x9, rfl, hX1, u⟩
    exact fin _ _ _ _ hX1 u
noncomputable def IWd (W : List Str) (l : List (Nat × Str)) (as : List Nat) (R : Nat) (x1 x2 x3 x4 x6 x7 x8 x9 : Option Val) (h : MH) (i : Nat) (ρ : Env') (h' : MH) : Prop := ∃ (A : Nat) (x10 : Option Val), ρ = [some (.ref 0), x1, x2, x3, x4, some (.ref A), x6, x7, x8, x9, x10, none] ∧ h'[A]? = some (.lst true ((W ++ flatP (l.take i)).map .str)) ∧ Up h.length h h'
theorem pairloop {P : Pg} {W : List Str} {l : List (Nat × Str)} {as : List Nat} {R A : Nat} {h : MH} {x1 x2 x3 x4 x6 x7 x8 x9 : Option Val} {K : Ks} (hR : h[R]? = some (.lst true (as.map .ref))) (f : F2 (PrA h) as l) (hA : h[A]? = some (.lst true (W.map .str))) (hl : l.length ≤ 5) (hw : W.length ≤ 5)
    (fin : ∀ A x10 h', h'[A]? = some (.lst true ((W ++ flatP l).map .str)) → Up h.length h h' → K.nx [some (.ref 0), x1, x2, x3, x4, some (.ref A), x6, x7, x8, x9, x10, none] h') :
    (forL (.nm 10) [(R, .lst true (as.map .ref))] (evB P [.asg (.nm 5) (.bin .Add (.var 5) (.var 10))]) (as.map .ref) [some (.ref 0), x1, x2, x3, x4, some (.ref A), x6, x7, x8, x9, none, none] h).wp K := by
  have fl := F2_len f
  refine wp_for (IWd W l as R x1 x2 x3 x4 x6 x7 x8 x9 h) ⟨A, _, rfl, by simpa [flatP] using hA, .refl⟩ (fun i ρ h' hI _ => by
    obtain ⟨_, _, _, _, u⟩ := hI
    rw [stands_one]; exact u.get (lt_of hR) hR) ?_ ?_
  · rintro i v ρ h1 hv ⟨A1, x10, rfl, hA1, u⟩
    rw [List.getElem?_map] at hv
    obtain ⟨a, ha, rfl⟩ := Option.map_eq_some_iff.mp hv
    obtain ⟨q, hq, pa⟩ := f.get ha
    have pa1 := u.get (lt_of pa) pa
    have lf : (W ++ flatP (l.take i)).length + 2 ≤ sizeLine := sz4 (by rw [List.length_append, flat_len, List.length_take]; omega)
    have lf' : W.length + (flatP (l.take i)).length + 2 ≤ sizeLine := by rw [List.length_append] at lf; exact lf
    exists hA1, pa1, List.length_map, List.length_append, lf'
    refine ⟨_, _, rfl, ?_, u.app⟩
    have e : W ++ flatP (l.take (i + 1)) = W ++ flatP (l.take i) ++ [kyS q.1, q.2] := by
      rw [List.take_add_one, hq, flat_app, ← List.append_assoc]; rfl
    rw [e, List.map_append]
    exact app_last.trans (congrArg (fun x => some (Ob.lst true x)) (by simp [List.map_append]))
  · rintro ρ h1 ⟨A1, x10, rfl, hA1, u⟩
    rw [List.length_map, fl, List.take_length] at hA1
    exact fin _ _ _ hA1 u
-- tail
theorem tail_ok {z w : Bool} {ns : List Int} {h : MH} {s dw : Str} {ad da db A X Bt : Nat} {x7 x8 x9 : Option Val} {K : Ks} (hs : h[0]? = some (.lst z (ns.map .int))) (hB : h[Bt]? = some (.lst w ((List.range 5).map fun d => .int (bitN ns d)))) (hA : h[A]? = some (.lst true ([s, addrT ad, dw].map .str))) (hX : h[X]? = some (.lst true (((List.range 5).map (lbN ns)).map stV)))
    (sd : s = Str.ofString "from" ∨ s = Str.ofString "to") (ha : ad ≤ 4294967295) (hd : WdOk dw) (hp : numsW dw 65535 = some (stI (da, db))) (hK : K.rt = fun v _ => v = .bl true) :
    (evB (T.pg 8) (d_law.body.drop 8) [some (.ref 0), some (.str s), some (.int (ad : Nat)), some (ivV (da, db)), some (.ref Bt), some (.ref A), some (.ref X), x7, x8, x9, none, none] h).wp K := by
  unfold d_law
  simp only [List.drop_succ_cons, List.drop_zero]
  subst_eqs
  refine wp_to (pairs_ok (n := 4) hs hB) ?_
  rintro v h1 ⟨R, as, sh, rfl, hR, f, u1⟩
  have C := chg_of (ns := ns) (sh := sh) sd ha hd hp
  have hA1 := u1.get (lt_of hA) hA
  have hX1 := u1.get (lt_of hX) hX
  have hs1 := u1.get (lt_of hs) hs
  exists hR
  refine pairloop (W := [s, addrT ad, dw]) hR f hA1 C.ln (by simp) fun A2 x10 h2 hA2 u2 => ?_
  have eW : [s, addrT ad, dw] ++ flatP (rot sh (prsN ns (bitN ns) 5)) = chgL s ad dw (rot sh (prsN ns (bitN ns) 5)) := rfl
  rw [eW] at hA2
  have hs2 := u2.get (lt_of hs1) hs1
  have hX2 := u2.get (lt_of hX1) hX1
  obtain ⟨wd, wl⟩ := chg_wd C
  have c16 : ∀ Q Z, ((T.pg 8).cf "_law_cell_at" [.ref 0, .int 16] h2).wp Q Z = Q (.int (cell ns 16)) h2 := fun Q Z => wp_is (cell_at 7 hs2 _ (by omega))
  exists c16
  refine wp_to (row_ok (n := 7) hA2 wd (by omega)) ?_
  rintro v h3 ⟨t, rfl, tw, tl, u3⟩
  subst_eqs
  have cg := chg_good C
  rw [← tw] at cg
  refine chg_ok (n := 1) tl (fun s' b' x' p' h4 u4 e => ?_) (fun h4 u4 e => by rw [cg] at e; cases e)
  rw [cg] at e
  cases e
  rw [box_is]
  have u12 := u1.trans u2 u1.1
  have u34 := u3.trans u4 u3.1
  have hX4 := u34.get (lt_of hX2) hX2
  have hA4 := u34.get (lt_of hA2) hA2
  have hs4 := u34.get (lt_of hs2) hs2
  have pl : plainV 64 (.tup [.str s, .tup (((List.range 5).map (lbN ns)).map stV), .int (ad : Nat), stV (stI (da, db))]) = true := by
    have p1 : plainV 63 (.str s) = true := by rcases sd with rfl | rfl <;> (show (PyData.str _).canLay0 = true) <;> decide +kernel
    have p2 : plainV 63 (.tup (((List.range 5).map (lbN ns)).map stV)) = true := by
      refine (pl_tup (n := 62)).trans (List.all_eq_true.mpr fun v hv => ?_)
      obtain ⟨x, _, rfl⟩ := List.mem_map.mp hv
      rfl
    refine (pl_tup (n := 63)).trans ?_
    simp only [List.all_cons, List.all_nil, p1, p2, Bool.true_and]
    rfl
  have eD : ivV (da, db) = stV (stI (da, db)) := rfl
  have vt := v_tt (h := h4) pl pl
  have et : ∀ {α : Type} (x : α) [Decidable (x = x)], decide (x = x) = true := fun x _ => by simp
  have c17 : ∀ Q Z, ((T.pg 8).cf "_law_cell_at" [.ref 0, .int 17] h4).wp Q Z = Q (.int (cell ns 17)) h4 := fun Q Z => wp_is (cell_at 7 hs4 _ (by omega))
  rw [eD]
  have sl : (((List.range 5).map (lbN ns)).map stV).length ≤ sizeLine := sz4 (by simp)
  by_cases ev : cell ns 17 % 2 = 0
  · have ev1 := eq_true ev
    exists hX4, vt, et, c17, ev1, sl
    rw [hK]
  · have ev1 := eq_false ev
    exists hX4, vt, et, c17, ev1, sl
    refine wp_to (spoiled_ok (n := 7) hA4 (by omega)) ?_
    rintro v h5 ⟨b, k, y, rfl, hk, hy, hb, u5⟩
    have hs5 := u5.get (lt_of hs4) hs4
    have c16 : ∀ Q Z, ((T.pg 8).cf "_law_cell_at" [.ref 0, .int 16] h5).wp Q Z = Q (.int (cell ns 16)) h5 := fun Q Z => wp_is (cell_at 7 hs5 _ (by omega))
    obtain ⟨w1, w2⟩ := sp_wd wd (by omega) hk hy
    exists c16
    refine wp_to (row_ok (n := 7) hb w1 w2) ?_
    rintro v h6 ⟨t2, rfl, tw2, tl2, u6⟩
    subst_eqs
    refine wp_to (refused_ok (n := 0) tl2 (by rw [tw2]; exact sp_none C hk hy)) ?_
    rintro v h7 rfl
    subst_eqs
    rw [hK]
theorem law_runs (ns : List Int) (hl : ns.length ≤ 63) (hb : ∀ z ∈ ns, Builtin.Int.intBits z ≤ 1048576) : ∃ h', (T.pg (lvl + 1)).cf "law" [.ref 0] [.lst false (ns.map .int)] = .ok (.bl true) h' := by
  refine law_of ?_
  have lv : lvl = 8 := rfl
  rw [lv, cf_law, wp_call]
  unfold d_law
  have hs : ([.lst false (ns.map .int)] : MH)[0]? = some (.lst false (ns.map .int)) := rfl
  have h1 : ([.lst false (ns.map .int)] : MH).length = 1 := rfl
  generalize ([.lst false (ns.map .int)] : MH) = h at *
  have c0 : ∀ (k : Nat) {h' : MH}, h'[0]? = some (.lst false (ns.map .int)) → ∀ Q Z, ((T.pg 8).cf "_law_cell_at" [.ref 0, .int (k : Nat)] h').wp Q Z = Q (.int (cell ns k)) h' := fun k h' hh Q Z => wp_is (cell_at 7 hh _ (by omega))
  obtain ⟨sd, es⟩ : ∃ sd : Nat, cell ns 0 % 2 = sd := ⟨(cell ns 0 % 2).toNat, by omega⟩
  obtain ⟨ad, ea⟩ : ∃ ad : Nat, cell ns 1 % 4294967296 = ad := ⟨(cell ns 1 % 4294967296).toNat, by omega⟩
  obtain ⟨s, hsd, hsv⟩ : ∃ s, L2.atI [Val.str (Str.ofString "from"), .str (Str.ofString "to")] (sd : Int) = some (.str s) ∧ (s = Str.ofString "from" ∨ s = Str.ofString "to") := by
    rcases (by omega : sd = 0 ∨ sd = 1) with rfl | rfl
    · exact ⟨_, rfl, .inl rfl⟩
    · exact ⟨_, rfl, .inr rfl⟩
  have hg : ∀ o : Ob, (h ++ [o])[0]? = some (.lst false (ns.map .int)) := fun o => Gr.app.get hs
  have k0 : ∀ (o : Ob) Q Z, ((T.pg 8).cf "_law_cell_at" [.ref 0, .int 0] (h ++ [o])).wp Q Z = Q (.int (cell ns 0)) (h ++ [o]) := fun o => c0 0 (hg o)
  have k1 : ∀ (o : Ob) Q Z, ((T.pg 8).cf "_law_cell_at" [.ref 0, .int 1] (h ++ [o])).wp Q Z = Q (.int (cell ns 1)) (h ++ [o]) := fun o => c0 1 (hg o)
  have k2 : ∀ (o : Ob) Q Z, ((T.pg 8).cf "_law_cell_at" [.ref 0, .int 2] (h ++ [o])).wp Q Z = Q (.int (cell ns 2)) (h ++ [o]) := fun o => c0 2 (hg o)
  have k3 : ∀ (o : Ob) Q Z, ((T.pg 8).cf "_law_cell_at" [.ref 0, .int 3] (h ++ [o])).wp Q Z = Q (.int (cell ns 3)) (h ++ [o]) := fun o => c0 3 (hg o)
  exists k0, k1, k2, k3, es, ea, hsd, app_last
  refine wp_to (stretch_ok (n := 6) (d := 4) (by omega)) ?_
  rintro v h2 ⟨rfl, u2⟩
  have u2' := (Up.refl.app (h := h)).trans u2 (Up.refl.app (h := h)).1
  have hs2 := u2'.get (lt_of hs) hs
  obtain ⟨d1, d2⟩ := strN_ok (d := 4) (one := cell ns 2) (two := cell ns 3) (way := cell ns 0 / 2 % 2 * 2)
  generalize strN 4 (cell ns 2) (cell ns 3) (cell ns 0 / 2 % 2 * 2) = dd at *
  obtain ⟨da, db⟩ := dd
  simp only at d1 d2
  subst_eqs
  refine bits_ok (n := 6) (ns := ns) hs2 ?_
  subst_eqs
  have hBt : (h2 ++ [Ob.lst true ((List.range 5).map fun d => Val.int (bitN ns d))])[h2.length]? = some (.lst true ((List.range 5).map fun d => Val.int (bitN ns d))) := app_last
  have hs3 : (h2 ++ [Ob.lst true ((List.range 5).map fun d => Val.int (bitN ns d))])[0]? = some (.lst false (ns.map .int)) := Gr.app.get hs2
  generalize h2 ++ [Ob.lst true ((List.range 5).map fun d => Val.int (bitN ns d))] = h3 at *
  generalize h2.length = Bt at *
  refine wp_to (dotted_ok (n := 7) (v := ad) (by omega)) ?_
  rintro v h4 ⟨rfl, u4⟩
  have hB4 := u4.get (lt_of hBt) hBt
  have hs4 := u4.get (lt_of hs3) hs3
  have tl : tN 4 = 65535 := rfl
  have g1 := log_v (x := (da : Int)) (by omega) (by omega)
  have g2 := log_v (x := (db : Int)) (by omega) (by omega)
  have e1 := dn_int (x := (da : Int)) (v := da) rfl
  have e2 := dn_int (x := (db : Int)) (v := db) rfl
  have la := dn_10 (v := da) (by omega)
  have lb := dn_10 (v := db) (by omega)
  have pa := dn_pos (n := da)
  have lm := one_len.2.1
  have q1 : (Dn da).length + (Str.ofString "-").length ≤ sizeLine := sz4 (by omega)
  have q2 : (Dn da ++ Str.ofString "-").length + (Dn db).length ≤ sizeLine := sz4 (by rw [len_app]; omega)
  have iv : ivV (da, db) = .tup [.int (da : Nat), .int (db : Nat)] := rfl
  rw [iv]
  have U4 : ∀ o : Ob, (h4 ++ [o])[0]? = some (.lst false (ns.map .int)) := fun o => Gr.app.get hs4
  have B4 : ∀ o : Ob, (h4 ++ [o])[Bt]? = some (.lst true ((List.range 5).map fun d => .int (bitN ns d))) := fun o => Gr.app.get hB4
  have lB4 := lt_of hB4
  have ls4 := lt_of hs4
  have fin : ∀ (dw : Str) (g : MH) (A : Nat), WdOk dw → numsW dw 65535 = some (stI (da, db)) → g[0]? = some (.lst false (ns.map .int)) → g[Bt]? = some (.lst true ((List.range 5).map fun d => .int (bitN ns d))) → g[A]? = some (.lst true ([s, addrT ad, dw].map .str)) → 0 < g.length →
      (forL (.nm 7) [] (evB (T.pg 8) boxB) (rangeL 0 5 1) [some (.ref 0), some (.str s), some (.int (ad : Nat)), some (.tup [.int (da : Nat), .int (db : Nat)]), some (.ref Bt), some (.ref A), some (.ref g.length), none, none, none, none, none] (g ++ [Ob.lst true []])).wp
        { nx := fun ρ h => (evB (T.pg 8) (d_law.body.drop 8) ρ h).wp { nx := fun x h => Val.non = .bl true, bk := fun _ _ => False, ct := fun _ _ => False, rt := fun v _ => v = .bl true, er := fun c fs _ h => NoE c fs h }, bk := fun _ _ => False, ct := fun _ _ => False, rt := fun v _ => v = .bl true, er := fun c fs _ h => NoE c fs h } := by
    intro dw g A wd nw gs gB gA g0
    refine boxloop (n := 5) (Gr.app.get gs) (Gr.app.get gB) app_last g0 (lt_of gB) fun x7 x8 x9 h' hX u => ?_
    rw [← iv]
    exact tail_ok (u.get g0 (Gr.app.get gs)) (u.get (lt_of gB) (Gr.app.get gB)) (u.get (lt_of gA) (Gr.app.get gA)) hX hsv (by omega) wd nw rfl
  by_cases dq : da = db
  · subst dq
    have dq1 : ((da : Int) = (da : Int)) = True := eq_true rfl
    have ix : ixN 3 2 = some 2 := rfl
    exists g1, g2, e1, e2, q1, q2, dq1, app_last, ix, List.set_cons_succ, List.set_cons_zero
    refine fin (Dn da) _ _ (dn_ch.wd pa (by omega)) (nums_one (by omega) (by omega)) (U4 _) (B4 _) app_last (by simp)
  · have dq1 : ((da : Int) = (db : Int)) = False := eq_false (by omega)
    exists g1, g2, e1, e2, q1, q2, dq1
    refine fin (Dn da ++ Str.ofString "-" ++ Dn db) _ _ (((dn_ch.app mi_ch).app dn_ch).wd (by simp only [len_app]; omega) (by simp only [len_app]; omega)) (nums_two (by omega) (by omega) (by omega)) (U4 _) (B4 _) app_last (by simp)
end Lw
open PySem PySem.W PyProof.Rows in
set_option maxRecDepth 100000 in
set_option maxHeartbeats 0 in
theorem PySem.Challenge.cw_sieve_k52_changes_as_rows_holds : PySem.Challenge.rw_sieve_k52_changes_as_rows.Holds := by
  w_on; o_law; k_head; (case hw => w_witness2)
  k_fill
  refine Mn.walk (l := PySem.Challenge.rw_sieve_k52_changes_as_rows) (L := fun K => Lw.lk K) (T := Lw.T) (tb := Lw.tbl) (n := Lw.lvl) rfl rfl ⟨rfl, by decide, by decide⟩ (fun w h Y => PySem.W.kIn_of Y) (fun _ => rfl) rfl rfl rfl rfl Lw.law_runs ?F
  case F =>
    intro w mg h KX G
    refine' Lw.top_ok KX G ?a0 ?l0 ?c0 ?k0 ?a1 ?l1 ?c1 ?k1 ?a2 ?l2 ?c2 ?k2 ?a3 ?l3 ?c3 ?k3 ?a4 ?l4 ?c4 ?k4 ?a5 ?l5 ?c5 ?k5 ?a6 ?l6 ?c6 ?k6 ?a7 ?l7 ?c7 ?k7 ?a8 ?l8 ?c8 ?k8 ?a9 ?l9 ?c9 ?k9 ?a10 ?l10 ?c10 ?k10 ?a11 ?l11 ?c11 ?k11 ?a12 ?l12 ?c12 ?k12 ?a13 ?l13 ?c13 ?k13 ?a14 ?l14 ?c14 ?k14 ?a15 ?l15 ?c15 ?k15 ?a16 ?l16 ?c16 ?k16 ?a17 ?l17 ?c17 ?k17 ?a18 ?l18 ?c18 ?k18 ?a19 ?l19 ?c19 ?k19 ?a20 ?l20 ?c20 ?k20 ?a21 ?l21 ?c21 ?k21 ?a22 ?l22 ?c22 ?k22 ?aE0 ?xg0 ?xk0 ?xs0 ?xd0 ?xa0 ?xm0 ?xt0 ?aE1 ?xg1 ?xk1 ?xs1 ?xd1 ?xa1 ?xm1 ?xt1 ?aE2 ?xg2 ?xk2 ?xs2 ?xd2 ?xa2 ?xm2 ?xt2 ?xc1 ?xe1 ?xc2 ?xl2 ?xw2 ?xf2 ?xi2 ?xy2 ?lx2 ?cx2 ?kx2 ?xb0 ?xb1 ?xb2 ?xb3 ?hn ?htk ?gv0 ?gl0 ?gv1 ?gl1 ?gv2 ?gv3 ?z0 ?z1 ?z2 ?z3 ?z4 ?z5 ?z6 ?z7 ?z8 ?z9 ?z10 ?z11 ?z12 ?z13 ?z14
    (case a0 => first | k_is | kit_is | k_exc)
    (case l0 => first | k_is | kit_is | k_exc)
    (case c0 => first | k_is | kit_is | k_exc)
    (case k0 => first | k_is | kit_is | k_exc)
    (case a1 => first | k_is | kit_is | k_exc)
    (case l1 => first | k_is | kit_is | k_exc)
    (case c1 => first | k_is | kit_is | k_exc)
    (case k1 => first | k_is | kit_is | k_exc)
    (case a2 => first | k_is | kit_is | k_exc)
    (case l2 => first | k_is | kit_is | k_exc)
    (case c2 => first | k_is | kit_is | k_exc)
    (case k2 => first | k_is | kit_is | k_exc)
    (case a3 => first | k_is | kit_is | k_exc)
    (case l3 => first | k_is | kit_is | k_exc)
    (case c3 => first | k_is | kit_is | k_exc)
    (case k3 => first | k_is | kit_is | k_exc)
    (case a4 => first | k_is | kit_is | k_exc)
    (case l4 => first | k_is | kit_is | k_exc)
    (case c4 => first | k_is | kit_is | k_exc)
    (case k4 => first | k_is | kit_is | k_exc)
    (case a5 => first | k_is | kit_is | k_exc)
    (case l5 => first | k_is | kit_is | k_exc)
    (case c5 => first | k_is | kit_is | k_exc)
    (case k5 => first | k_is | kit_is | k_exc)
    (case a6 => first | k_is | kit_is | k_exc)
    (case l6 => first | k_is | kit_is | k_exc)
    (case c6 => first | k_is | kit_is | k_exc)
    (case k6 => first | k_is | kit_is | k_exc)
    (case a7 => first | k_is | kit_is | k_exc)
    (case l7 => first | k_is | kit_is | k_exc)
    (case c7 => first | k_is | kit_is | k_exc)
    (case k7 => first | k_is | kit_is | k_exc)
    (case a8 => first | k_is | kit_is | k_exc)
    (case l8 => first | k_is | kit_is | k_exc)
    (case c8 => first | k_is | kit_is | k_exc)
    (case k8 => first | k_is | kit_is | k_exc)
    (case a9 => first | k_is | kit_is | k_exc)
    (case l9 => first | k_is | kit_is | k_exc)
    (case c9 => first | k_is | kit_is | k_exc)
    (case k9 => first | k_is | kit_is | k_exc)
    (case a10 => first | k_is | kit_is | k_exc)
    (case l10 => first | k_is | kit_is | k_exc)
    (case c10 => first | k_is | kit_is | k_exc)
    (case k10 => first | k_is | kit_is | k_exc)
    (case a11 => first | k_is | kit_is | k_exc)
    (case l11 => first | k_is | kit_is | k_exc)
    (case c11 => first | k_is | kit_is | k_exc)
    (case k11 => first | k_is | kit_is | k_exc)
    (case a12 => first | k_is | kit_is | k_exc)
    (case l12 => first | k_is | kit_is | k_exc)
    (case c12 => first | k_is | kit_is | k_exc)
    (case k12 => first | k_is | kit_is | k_exc)
    (case a13 => first | k_is | kit_is | k_exc)
    (case l13 => first | k_is | kit_is | k_exc)
    (case c13 => first | k_is | kit_is | k_exc)
    (case k13 => first | k_is | kit_is | k_exc)
    (case a14 => first | k_is | kit_is | k_exc)
    (case l14 => first | k_is | kit_is | k_exc)
    (case c14 => first | k_is | kit_is | k_exc)
    (case k14 => first | k_is | kit_is | k_exc)
    (case a15 => first | k_is | kit_is | k_exc)
    (case l15 => first | k_is | kit_is | k_exc)
    (case c15 => first | k_is | kit_is | k_exc)
    (case k15 => first | k_is | kit_is | k_exc)
    (case a16 => first | k_is | kit_is | k_exc)
    (case l16 => first | k_is | kit_is | k_exc)
    (case c16 => first | k_is | kit_is | k_exc)
    (case k16 => first | k_is | kit_is | k_exc)
    (case a17 => first | k_is | kit_is | k_exc)
    (case l17 => first | k_is | kit_is | k_exc)
    (case c17 => first | k_is | kit_is | k_exc)
    (case k17 => first | k_is | kit_is | k_exc)
    (case a18 => first | k_is | kit_is | k_exc)
    (case l18 => first | k_is | kit_is | k_exc)
    (case c18 => first | k_is | kit_is | k_exc)
    (case k18 => first | k_is | kit_is | k_exc)
    (case a19 => first | k_is | kit_is | k_exc)
    (case l19 => first | k_is | kit_is | k_exc)
    (case c19 => first | k_is | kit_is | k_exc)
    (case k19 => first | k_is | kit_is | k_exc)
    (case a20 => first | k_is | kit_is | k_exc)
    (case l20 => first | k_is | kit_is | k_exc)
    (case c20 => first | k_is | kit_is | k_exc)
    (case k20 => first | k_is | kit_is | k_exc)
    (case a21 => first | k_is | kit_is | k_exc)
    (case l21 => first | k_is | kit_is | k_exc)
    (case c21 => first | k_is | kit_is | k_exc)
    (case k21 => first | k_is | kit_is | k_exc)
    (case a22 => first | k_is | kit_is | k_exc)
    (case l22 => first | k_is | kit_is | k_exc)
    (case c22 => first | k_is | kit_is | k_exc)
    (case k22 => first | k_is | kit_is | k_exc)
    (case aE0 => first | k_is | kit_is | k_exc)
    (case xg0 => first | k_is | kit_is | k_exc)
    (case xk0 => first | k_is | kit_is | k_exc)
    (case xs0 => first | k_is | kit_is | k_exc)
    (case xd0 => first | k_is | kit_is | k_exc)
    (case xa0 => first | k_is | kit_is | k_exc)
    (case xm0 => first | k_is | kit_is | k_exc)
    (case xt0 => first | k_is | kit_is | k_exc)
    (case aE1 => first | k_is | kit_is | k_exc)
    (case xg1 => first | k_is | kit_is | k_exc)
    (case xk1 => first | k_is | kit_is | k_exc)
    (case xs1 => first | k_is | kit_is | k_exc)
    (case xd1 => first | k_is | kit_is | k_exc)
    (case xa1 => first | k_is | kit_is | k_exc)
    (case xm1 => first | k_is | kit_is | k_exc)
    (case xt1 => first | k_is | kit_is | k_exc)
    (case aE2 => first | k_is | kit_is | k_exc)
    (case xg2 => first | k_is | kit_is | k_exc)
    (case xk2 => first | k_is | kit_is | k_exc)
    (case xs2 => first | k_is | kit_is | k_exc)
    (case xd2 => first | k_is | kit_is | k_exc)
    (case xa2 => first | k_is | kit_is | k_exc)
    (case xm2 => first | k_is | kit_is | k_exc)
    (case xt2 => first | k_is | kit_is | k_exc)
    (case xc1 => first | k_is | kit_is | k_exc)
    (case xe1 => first | k_is | kit_is | k_exc)
    (case xc2 => first | k_is | kit_is | k_exc)
    (case xl2 => first | k_is | kit_is | k_exc)
    (case xw2 => first | k_is | kit_is | k_exc)
    (case xf2 => first | k_is | kit_is | k_exc)
    (case xi2 => first | k_is | kit_is | k_exc)
    (case xy2 => first | k_is | kit_is | k_exc)
    (case lx2 => first | k_is | kit_is | k_exc)
    (case cx2 => first | k_is | kit_is | k_exc)
    (case kx2 => first | k_is | kit_is | k_exc)
    (case xb0 => first | k_is | kit_is | k_exc)
    (case xb1 => first | k_is | kit_is | k_exc)
    (case xb2 => first | k_is | kit_is | k_exc)
    (case xb3 => first | k_is | kit_is | k_exc)
    (case hn => first | k_is | kit_is | k_exc)
    (case htk => first | k_is | kit_is | k_exc)
    (case gv0 => first | k_is | kit_is | k_exc)
    (case gl0 => first | k_is | kit_is | k_exc)
    (case gv1 => first | k_is | kit_is | k_exc)
    (case gl1 => first | k_is | kit_is | k_exc)
    (case gv2 => first | k_is | kit_is | k_exc)
    (case gv3 => first | k_is | kit_is | k_exc)
    (case z0 => first | k_is | kit_is | k_exc)
    (case z1 => first | k_is | kit_is | k_exc)
    (case z2 => first | k_is | kit_is | k_exc)
    (case z3 => first | k_is | kit_is | k_exc)
    (case z4 => first | k_is | kit_is | k_exc)
    (case z5 => first | k_is | kit_is | k_exc)
    (case z6 => first | k_is | kit_is | k_exc)
    (case z7 => first | k_is | kit_is | k_exc)
    (case z8 => first | k_is | kit_is | k_exc)
    (case z9 => first | k_is | kit_is | k_exc)
    (case z10 => first | k_is | kit_is | k_exc)
    (case z11 => first | k_is | kit_is | k_exc)
    (case z12 => first | k_is | kit_is | k_exc)
    (case z13 => first | k_is | kit_is | k_exc)
    (case z14 => first | k_is | kit_is | k_exc)
#print axioms PySem.Challenge.cw_sieve_k52_changes_as_rows_holds
