import PyProof.Rows.All
import Wide.All
import OpenK.AllK
import Wide.FinOn
import HandS.ForMost
import HandS.Exc
import HandS.ExcOwn
import HandS.WordsExc
import HandS.Wide
import HandS.TupAny
import HandS.IsInst
import HandS.Zip
import HandS.Deep
import HandS.EndBits
import HandS.ClsMeth
import HandS.Text
import HandS.WideBits
import HandS.More
import HandS.Rev
import HandS.Conv
import HandS.WordsDict
import HandS.ExcInit
import HandS.RaiseMore
import KE.KExcIs
import HandS.ExcIs
import HandS.NoneIn
import HandS.TryOnly
import KE.KDictZip
import HandS.ExcValue
import HandS.FStr
import KE.GoesEnum
import PySem.Challenge.RW_sieve_k14_a_rule_shown
set_option Elab.async false
set_option linter.all false
set_option maxRecDepth 100000
set_option maxHeartbeats 8000000
/-! Mini: exceptions that are caught, noted, and looked at behind the clause -/
namespace Mn
open PySem PySem.Spec PyProof.Rows L2

/-- an exception that was caught and is kept: its class, its dict -/
def exH (a : Addr) (cls : Value) (d : Option Addr) : HO := .ext fun h => ∃ (oe : Obj) (vs : Array Value), h.get? a = some oe ∧ Zc cls d oe ∧ oe.data = .fields vs
theorem exH_ok {P : Program} {w : World} {H : Hp} {h : Heap} {a : Addr} {cls : Value} {d : Option Addr} {oe : Obj} {vs : Array Value} (e : h.get? a = some oe) (z : Zc cls d oe) (k : oe.data = .fields vs) : ObjOk P w H h a (exH a cls d) :=
  ⟨⟨oe, vs, e, z, k⟩, ⟨oe, e⟩, fun _ _ ⟨o, v, e, z, k⟩ hk => ⟨o, v, hk _ e, z, k⟩⟩
theorem exH_at {P : Program} {w : World} {H : Hp} {h : Heap} {a : Addr} {cls : Value} {d : Option Addr} (hok : HOk P w H h) (he : H a = some (exH a cls d)) : ∃ (oe : Obj) (vs : Array Value), h.get? a = some oe ∧ Zc cls d oe ∧ oe.data = .fields vs := by
  have x : ObjOk P w H h a (.ext fun h => ∃ (oe : Obj) (vs : Array Value), h.get? a = some oe ∧ Zc cls d oe ∧ oe.data = .fields vs) := hok a _ he
  exact x.1
theorem hok_more {P : Program} {w : World} {H : Hp} {h : Heap} {a : Addr} {o : HO} (I : HOk P w H h) (free : H a = none) (is : ObjOk P w (upd H a o) h a o) : HOk P w (upd H a o) h := by
  intro b u hb
  have off : ∀ {c : Addr} {v : HO}, H c = some v → upd H a o c = some v := fun {c v} q => (upd_ne (ne_of_none q free)).trans q
  rcases Classical.em (b = a) with e | e
  · subst e
    have z := upd_same.symm.trans hb
    cases z
    exact is
  · refine ObjOk.stay (I b u ((upd_ne e).symm.trans hb)) ?_ ?_ ?_
    · exact fun _ _ _ q => q
    · exact fun _ q => off q
    · exact fun _ _ q => off q
section
variable {X : Cx} {pins : List (Addr × Obj)} {σ : L2.St} {H : Hp} {s : Shared} {a : Addr} {o : HO}
/-- a state of ours, and an object a in it that nobody tracks and that the def has not met before -/
structure Stray (X : Cx) (pins : List (Addr × Obj)) (σ : L2.St) (H : Hp) (a : Addr) (s : Shared) : Prop where
  inv : Inv X pins σ H s
  non : H a = none
  loc : a ≠ X.env.locals
  frm : a ∉ X.fs
  old : X.s_0.heap.get? a = none
  cel : ∀ x c, X.env.cells.lookup x = some c → c ≠ a
  pin : ∀ p ∈ X.pn ++ pins, p.1 ≠ a
/-- it is tracked from now on -/
theorem Stray.adopt (S : Stray X pins σ H a s) (is : ObjOk X.prog X.w (upd H a o) s.heap a o) : Inv X pins σ (upd H a o) s := by
  have off : ∀ {c : Addr} {v : HO}, H c = some v → upd H a o c = some v := fun {c v} q => (upd_ne (ne_of_none q S.non)).trans q
  have U := S.inv.base
  have base : Un X.fs X.ex X.H_0 (upd H a o) X.s_0.heap s.heap := by
    refine ⟨U.keep, U.slot, ?_, U.there, ?_, ?_, ?_⟩
    · intro b u q n hx
      have ne : b ≠ a := fun z => by rw [z, S.old] at q; cases q
      exact (upd_ne ne).trans (U.free b u q n hx)
    · exact fun b xs q => off (U.tups b xs q)
    · exact fun b u v q => off (U.frzs b u v q)
    · exact fun b ps q => (U.tbls b ps q).imp fun _ e => off e
  refine ⟨S.inv.ok, S.inv.os, S.inv.bare, base, S.inv.loc, S.inv.cell, (upd_ne (Ne.symm S.loc)).trans S.inv.free, ?_, ?_, hok_more S.inv.hok S.non is, S.inv.len⟩
  · exact fun x c e => (upd_ne (S.cel x c e)).trans (S.inv.freeC x c e)
  · intro p hp
    have z := S.inv.pin p hp
    exact ⟨z.1, (upd_ne (S.pin p hp)).trans z.2.1, z.2.2⟩
end
/-- what a clause 'except c as i: j = i' wishes of an exception of the body -/
def wTold (K : PySem.W.Frag) (c : Value) (i j : Nat) (D : Ends) : WX := fun cls d σ H =>
  PySem.W.exmOne K cls c = some true ∧ i < σ.length ∧ ∀ a, H a = none → D.nx (((σ.set i (some (.ref a))).set j (some (.ref a))).set i none) (upd H a (exH a cls d))
section
variable {X : Cx} {pins : List (Addr × Obj)} {σ : L2.St} {H : Hp} {a : Addr} {cls : Value} {d : Option Addr} {B : Heap} {sI s : Shared}
/-- an exception that landed in the def X, out of the state sI -/
theorem stray_of (hs : X.stack = X.env :: X.outer) (hf : X.env.frame = some X.env.locals) (hex : X.ex = []) (G : Inv X pins σ H sI) (ground : ∀ b o, sI.heap.get? b = some o → b ∉ frs X.stack → B.get? b = some o) (non : H a = none)
    (fl : HandSPX.FlyingZ B (X.env :: X.outer) a (Zc cls d) s.heap) (slots : sI.heap.UpToSlots s.heap) (eo : s.os = sI.os) (eg : AllBare s.gens) : Stray X pins σ H a s := by
  obtain ⟨oe, vs, e, z, dt⟩ := fl.there
  have out : a ∉ frs (X.env :: X.outer) := by
    intro m
    obtain ⟨_, u, e2, nf⟩ := fl.2.2.1.mem m
    have q := e.symm.trans e2
    cases q
    exact nf _ dt
  have new : ∀ u, sI.heap.get? a ≠ some u := by
    intro u q
    have y := ground a u q (hs ▸ out)
    rw [fl.2.1] at y
    cases y
  refine ⟨G.landed ground fl.1 slots eo eg, non, ?_, ?_, ?_, ?_, ?_⟩
  · intro z
    refine out (List.mem_filterMap.mpr ⟨X.env, List.mem_cons_self, ?_⟩)
    rw [hf, z]
  · intro m
    obtain ⟨v, hv, q⟩ := List.mem_filterMap.mp m
    exact out (List.mem_filterMap.mpr ⟨v, List.mem_cons_of_mem _ hv, q⟩)
  · cases q : X.s_0.heap.get? a with
    | none => rfl
    | some u =>
      obtain ⟨u', q'⟩ := G.base.there a u q (by rw [hex]; exact List.not_mem_nil)
      exact absurd q' (new u')
  · intro x c hx z
    obtain ⟨v, u, q, _⟩ := G.cell x c hx
    rw [z] at q
    exact new _ q
  · intro p hp z
    have q := (G.pin p hp).1
    rw [z] at q
    exact new _ q
variable {x n t : Str} {c : Value} {i j : Nat} {body : List Stmt} {p1 p2 p3 p4 p5 pos : Pos} {tb : WX → TS}
/-- try: body / except c as n: t = n; the exception is kept -/
theorem ps_told (hs : X.stack = X.env :: X.outer) (hf : X.env.frame = some X.env.locals) (hex : X.ex = []) (nd : X.N.Nodup) (hi : X.N[i]? = some n) (hj : X.N[j]? = some t) (ln : X.env.scope.names.lookup n = some .local) (lt : X.env.scope.names.lookup t = some .local)
    (n1 : (n == ("__debug__" : Str)) = false) (n2 : (n == ("__classdict__" : Str)) = false) (gx : Gl X x) (dx : (x == ("__debug__" : Str)) = false) (mx : X.mg x = some c)
    (hb : ∀ (W : WX) (pn : List (Addr × Obj)) (xe : Value → Shared → Prop), Takes (X.tr pn xe) W → PassesOwn (model X.prog X.w) X.A X.env xe → PSs (X.tr pn xe) body (tb W)) :
    PS X (.Try body [.ExceptHandler (some (.Name x p1)) (some n) [.Assign [.Name t p2] (.Name n p3) p4] p5] [] [] pos) (fun D σ H => tb (wTold X.K c i j D) D σ H) := by
  refine ⟨fun pins s σ H D I h => ?_⟩
  have kn : X.env.kindOf n = some .local := ln
  have frames : X.A.frames = some (X.env :: X.outer) := I.ok.frames.trans (congrArg some hs)
  -- the clause, the exception being down
  have clause : ∀ (pins' : List (Addr × Obj)) (B : Heap) (sI : Shared) (σ' : L2.St) (H' : Hp) (a : Addr) (cls : Value) (d : Option Addr) (u : Shared), Inv X pins σ' H' sI → (∀ b o, sI.heap.get? b = some o → b ∉ frs X.stack → B.get? b = some o) → H' a = none →
      HandSPX.FlyingZ B (X.env :: X.outer) a (Zc cls d) u.heap → sI.heap.UpToSlots u.heap → u.os = sI.os → AllBare u.gens → wTold X.K c i j D cls d σ' H' →
      wpAny (model X.prog X.w) X.A (handleBy (.ref a) X.env [.ExceptHandler (some (.Name x p1)) (some n) [.Assign [.Name t p2] (.Name n p3) p4] p5]) (SP X pins D) X.xe u := by
    intro _ B sI σ' H' a cls d u G ground non fl slots eo eg wish
    have A1 := stray_of hs hf hex G ground non fl slots eo eg
    obtain ⟨o1, v1, g1, z1, d1⟩ := fl.there
    have I1 := A1.inv.suite g1 d1 non A1.loc A1.frm
    have ask := PySem.W.exm_one (M := model X.prog X.w) A1.inv.kIn (fun _ _ _ _ keeps q => wpAny_typeOf_ref (keeps _ _ g1) (by rw [z1.1]; exact q)) wish.1
    refine wpAny_handleBy_cons (codeAny_handlers_test (ld_glob (X := X.suite a ((a, o1) :: (X.pn ++ pins))) I1 gx mx (ask.here ?_) dx)) (by intro q; cases q)
    refine codeAny_handlers_suite_as (HandSPX.lands_againZ fl fun h2 fl2 slots2 => ?_)
    have A2 := stray_of (s := { u with heap := h2 }) hs hf hex G ground non fl2 (slots.trans slots2) eo eg
    obtain ⟨o2, v2, g2, z2, d2⟩ := fl2.there
    have I2 := A2.inv.suite g2 d2 non A2.loc A2.frm
    have asg : PS (X.suite a ((a, o2) :: (X.pn ++ pins))) (.Assign [.Name t p2] (.Name n p3) p4) (tAsg (tVar i) (gName j)) := ps_asg (pe_var hi (.inl ln) n1 n2) (pg_name nd hj (.inl lt) (.inr lt))
    refine store_ok (X := X.suite a ((a, o2) :: (X.pn ++ pins))) (v := .ref a) I2 nd hi (.inl ln) rfl (fun s3 I3 => ?_) (.inr ln)
    have rd : tSeq (tAsg (tVar i) (gName j)) tNext { nx := fun σ5 H5 => σ5 = (σ'.set i (some (.ref a))).set j (some (.ref a)) ∧ H5 = H', rt := fun _ _ => False, bk := fun _ _ => False, ct := fun _ _ => False } (σ'.set i (some (.ref a))) H' :=
      ⟨.ref a, List.getElem?_set_self wish.2.1, rfl, rfl⟩
    refine wpAny_mono ((pss_cons asg pss_nil).run [] s3 _ H' _ I3 rd) (fun f s4 e4 => ?_) fun _ _ z => z.elim
    cases f with
    | brk => obtain ⟨_, _, _, z⟩ := e4; exact z.elim
    | cont => obtain ⟨_, _, _, z⟩ := e4; exact z.elim
    | ret v => obtain ⟨_, _, _, _, _, z⟩ := e4; exact z.elim
    | next =>
      obtain ⟨σ5, H5, I4, e5, e6⟩ := e4
      subst e5 e6
      refine gone_ok (X := X.suite a ((a, o2) :: (X.pn ++ pins))) I4 nd hi kn fun s5 I5 => ?_
      have g5 : s5.heap.get? a = some o2 := (I5.pin (a, o2) (List.mem_append_left _ List.mem_cons_self)).1
      have A5 : Stray X pins _ _ a s5 := { A2 with inv := I5.unsuite I.ok }
      exact ⟨_, _, A5.adopt (exH_ok g5 z2 d2), wish.2.2 a non⟩
  refine wpAny_Try_except (wpAny_mono ((hb (wTold X.K c i j D) (X.pn ++ pins) _ (fun v s1 air => ?_) PassesOwn.looking).run [] s σ H D (I.toTry _) h) (fun f s1 e1 => ?_) fun _ _ z => z)
  · obtain ⟨a, B, sI, pins', σ', H', cls, d, rfl, G, ground, slots, sky, non, eo, eg, wish⟩ := air
    refine Sky.land Zc.steady frames hf (hs ▸ sky) fun h2 fl slots2 => ?_
    exact clause pins' B sI σ' H' a cls d { s1 with heap := h2 } (G.ofTry I.ok) ground non fl (slots.trans slots2) eo eg wish
  · cases f with
    | next => exact e1.elim fun σ' q => q.elim fun H' q => wpAny_execs_nil ⟨σ', H', q.1.ofTry I.ok, q.2⟩
    | brk => exact e1.elim fun σ' q => q.elim fun H' q => ⟨σ', H', q.1.ofTry I.ok, q.2⟩
    | cont => exact e1.elim fun σ' q => q.elim fun H' q => ⟨σ', H', q.1.ofTry I.ok, q.2⟩
    | ret u => exact e1.elim fun v q => q.elim fun σ' q => q.elim fun H' q => ⟨v, σ', H', q.1.ofTry I.ok, q.2⟩
end
/-- a clause's suite knows that an exception is handled -/
theorem hot_of {X : Cx} {pins : List (Addr × Obj)} {σ : L2.St} {H : Hp} {s : Shared} (a : Addr) (I : Inv X pins σ H s) : Inv (X.suite a X.pn) pins σ H s :=
  ⟨I.ok.suite a X.pn, I.os, I.bare, I.base, I.loc, I.cell, I.free, I.freeC, I.pin, I.hok, I.len⟩
theorem of_hot {X : Cx} {pins : List (Addr × Obj)} {σ : L2.St} {H : Hp} {s : Shared} {a : Addr} (ok : X.Ok) (I : Inv (X.suite a X.pn) pins σ H s) : Inv X pins σ H s :=
  ⟨ok, I.os, I.bare, I.base, I.loc, I.cell, I.free, I.freeC, I.pin, I.hok, I.len⟩
/-- what clauses 'except c as i: suite' wish of an exception of the body; a suite may look at it -/
def wHold (K : PySem.W.Frag) (D : Ends) : List (Value × Nat × TS) → WX
  | [] => fun _ _ _ _ => False
  | (c, i, ts) :: r => fun cls d σ H => ∃ b, PySem.W.exmOne K cls c = some b ∧
      (b = true → ∀ a, H a = none → ts { nx := fun σ' H' => D.nx (σ'.set i none) H', rt := D.rt, bk := fun σ' H' => D.bk (σ'.set i none) H', ct := fun σ' H' => D.ct (σ'.set i none) H' } (σ.set i (some (.ref a))) (upd H a (exH a cls d))) ∧
      (b = false → wHold K D r cls d σ H)
inductive HdA (X : Cx) : List ExceptHandler → List (Value × Nat × TS) → Prop
  | nil {hds : List ExceptHandler} : HdA X hds []
  | cons {x n : Str} {c : Value} {i : Nat} {b0 : Stmt} {suite : List Stmt} {ts : TS} {p1 p5 : Pos} {hds : List ExceptHandler} {l : List (Value × Nat × TS)} (hi : X.N[i]? = some n) (ln : X.env.scope.names.lookup n = some .local)
      (gx : Gl X x) (dx : (x == ("__debug__" : Str)) = false) (mx : X.mg x = some c) (hsu : ∀ a : Addr, PSs (X.suite a X.pn) (b0 :: suite) ts) (r : HdA X hds l) :
      HdA X (.ExceptHandler (some (.Name x p1)) (some n) (b0 :: suite) p5 :: hds) ((c, i, ts) :: l)
section
variable {X : Cx} {body : List Stmt} {h0 : ExceptHandler} {hds : List ExceptHandler} {l : List (Value × Nat × TS)} {pos : Pos} {tb : WX → TS}
theorem ps_hold (hs : X.stack = X.env :: X.outer) (hf : X.env.frame = some X.env.locals) (hex : X.ex = []) (nd : X.N.Nodup)
    (hb : ∀ (W : WX) (pn : List (Addr × Obj)) (xe : Value → Shared → Prop), Takes (X.tr pn xe) W → PassesOwn (model X.prog X.w) X.A X.env xe → PSs (X.tr pn xe) body (tb W))
    (hh : HdA X (h0 :: hds) l) :
    PS X (.Try body (h0 :: hds) [] [] pos) (fun D σ H => tb (wHold X.K D l) D σ H) := by
  refine ⟨fun pins s σ H D I h => ?_⟩
  have frames : X.A.frames = some (X.env :: X.outer) := I.ok.frames.trans (congrArg some hs)
  have clause : ∀ (B : Heap) (sI : Shared) (σ' : L2.St) (H' : Hp) (a : Addr) (cls : Value) (d : Option Addr) (u : Shared), Inv X pins σ' H' sI → (∀ b o, sI.heap.get? b = some o → b ∉ frs X.stack → B.get? b = some o) → H' a = none →
      HandSPX.FlyingZ B (X.env :: X.outer) a (Zc cls d) u.heap → sI.heap.UpToSlots u.heap → u.os = sI.os → AllBare u.gens → ∀ {hds' : List ExceptHandler} {l' : List (Value × Nat × TS)}, HdA X hds' l' → wHold X.K D l' cls d σ' H' →
      wpAny (model X.prog X.w) X.A (handleBy (.ref a) X.env hds') (SP X pins D) X.xe u := by
    intro B sI σ' H' a cls d u G ground non fl slots eo eg hds' l' hk
    have A1 := stray_of hs hf hex G ground non fl slots eo eg
    obtain ⟨o1, v1, g1, z1, d1⟩ := fl.there
    have I1 := A1.inv.suite g1 d1 non A1.loc A1.frm
    induction hk with
    | nil => intro w; exact w.elim
    | @cons x n c i b0 suite ts p1 p5 hds2 l2 hi ln gx dx mx hsu r ih =>
      intro wish
      obtain ⟨b, hb1, hyes, hno⟩ := wish
      have kn : X.env.kindOf n = some .local := ln
      have ask := PySem.W.exm_one (M := model X.prog X.w) A1.inv.kIn (fun _ _ _ _ keeps q => wpAny_typeOf_ref (keeps _ _ g1) (by rw [z1.1]; exact q)) hb1
      refine wpAny_handleBy_cons (codeAny_handlers_test (ld_glob (X := X.suite a ((a, o1) :: (X.pn ++ pins))) I1 gx mx (ask.here ?_) dx)) (by intro q; cases q)
      cases b with
      | false =>
        show wpAny _ X.A (handleBy (.ref a) X.env hds2) _ _ _
        exact ih (hno rfl)
      | true =>
        refine codeAny_handlers_suite_as (HandSPX.lands_againZ fl fun h2 fl2 slots2 => ?_)
        have A2 := stray_of (s := { u with heap := h2 }) hs hf hex G ground non fl2 (slots.trans slots2) eo eg
        obtain ⟨o2, v2, g2, z2, d2⟩ := fl2.there
        have I2 := A2.inv.suite g2 d2 non A2.loc A2.frm
        refine store_ok (X := X.suite a ((a, o2) :: (X.pn ++ pins))) (v := .ref a) I2 nd hi (.inl ln) rfl (fun s3 I3 => ?_) (.inr ln)
        have g3 : s3.heap.get? a = some o2 := (I3.pin (a, o2) (List.mem_append_left _ List.mem_cons_self)).1
        have A3 : Stray X pins _ _ a s3 := { A2 with inv := I3.unsuite I.ok }
        have J3 := A3.adopt (exH_ok g3 z2 d2)
        have over : ∀ {σ6 : L2.St} {H6 : Hp} {s6 : Shared} {Q : Shared → Prop}, Inv (X.suite a X.pn) pins σ6 H6 s6 → (∀ s7, Inv X pins (σ6.set i none) H6 s7 → Q s7) → wpAny (model X.prog X.w) X.A (do bindName X.env n .none; unbindBehindTheSuite X.env n p5) (fun _ s7 => Q s7) X.xe s6 := fun {σ6 H6 s6 Q} I6 q => gone_ok (of_hot I.ok I6) nd hi kn q
        refine wpAny_mono ((hsu a).run pins s3 _ _ _ (hot_of a J3) (hyes rfl a non)) (fun f s4 e4 => ?_) fun _ _ z => z.elim
        cases f with
        | next =>
          obtain ⟨σ5, H5, I4, q⟩ := e4
          exact over I4 fun s5 I5 => ⟨_, _, I5, q⟩
        | brk =>
          obtain ⟨σ5, H5, I4, q⟩ := e4
          exact over I4 fun s5 I5 => ⟨_, _, I5, q⟩
        | cont =>
          obtain ⟨σ5, H5, I4, q⟩ := e4
          exact over I4 fun s5 I5 => ⟨_, _, I5, q⟩
        | ret v =>
          obtain ⟨v5, σ5, H5, I4, r5, q⟩ := e4
          exact over I4 fun s5 I5 => ⟨_, _, _, I5, r5, q⟩
  refine wpAny_Try_except (wpAny_mono ((hb (wHold X.K D l) (X.pn ++ pins) _ (fun v s1 air => ?_) PassesOwn.looking).run [] s σ H D (I.toTry _) h) (fun f s1 e1 => ?_) fun _ _ z => z)
  · obtain ⟨a, B, sI, pins', σ', H', cls, d, rfl, G, ground, slots, sky, non, eo, eg, wish⟩ := air
    refine Sky.land Zc.steady frames hf (hs ▸ sky) fun h2 fl slots2 => ?_
    exact clause B sI σ' H' a cls d { s1 with heap := h2 } (G.ofTry I.ok) ground non fl (slots.trans slots2) eo eg hh wish
  · cases f with
    | next => exact e1.elim fun σ' q => q.elim fun H' q => wpAny_execs_nil ⟨σ', H', q.1.ofTry I.ok, q.2⟩
    | brk => exact e1.elim fun σ' q => q.elim fun H' q => ⟨σ', H', q.1.ofTry I.ok, q.2⟩
    | cont => exact e1.elim fun σ' q => q.elim fun H' q => ⟨σ', H', q.1.ofTry I.ok, q.2⟩
    | ret u => exact e1.elim fun v q => q.elim fun σ' q => q.elim fun H' q => ⟨v, σ', H', q.1.ofTry I.ok, q.2⟩
end
/-- what an own exception class must say for isinstance and for reading fields -/
structure ExK (K : PySem.W.Frag) (C : Addr) : Prop where
  ga : PySem.W.findIn K (.ref C) "__getattribute__" = some (some (.builtin "BaseException.__getattribute__"))
  gg : PySem.W.findIn K (.ref C) "__getattr__" = some none
  ex : PySem.W.subIn K (.ref C) (.type "BaseException") = some true
  hd : PySem.W.hasDictIn K C = true
  ha : PySem.W.findIn K (.ref C) "__class__" = some (some (.builtin "object.__class__"))
  hn : PySem.W.specialIn K (.builtin "object.__class__") "__get__" = some (some (.builtin "getset_descriptor.__get__"))
  ht : PySem.W.takesIn K (.builtin "object.__class__") = some true
  hm : PySem.W.mroIn K C (.type "object") = some true
theorem inst_of {P : Program} {w : World} {H : Hp} {h : Heap} {a C : Addr} {d : Option Addr} (hok : HOk P w H h) (he : H a = some (exH a (.ref C) d)) (hd : ∀ dd, d = some dd → ∃ fs, H dd = some (.xd fs)) : ∃ oe od, PySem.W.InstAt h a oe C od := by
  obtain ⟨oe, vs, e, z, k⟩ := exH_at hok he
  cases d with
  | none => exact ⟨oe, none, e, z.1, by unfold PySem.W.notCls; rw [k] <;> rfl, by rw [z.2]; exact trivial⟩
  | some dd =>
    obtain ⟨fs, hf⟩ := hd dd rfl
    have hx : ObjOk P w H h dd (.xd fs) := hok dd _ hf
    obtain ⟨mA, hns, hr⟩ := hx
    obtain ⟨od, ho, hl⟩ := lookIn_ns hns
    exact ⟨oe, some od, e, z.1, by unfold PySem.W.notCls; rw [k] <;> rfl, by rw [z.2]; exact ho⟩
/-- isinstance(e, c), e a kept exception -/
def rIsX (K : PySem.W.Frag) : List V → Hp → VK → Prop := fun xs H Q => ∃ (a C : Addr) (d : Option Addr) (c : V) (u : Value) (b : Bool), xs = [.ref a, c] ∧ ClsV c u ∧ H a = some (exH a (.ref C) d) ∧ (∀ dd, d = some dd → ∃ fs, H dd = some (.xd fs)) ∧ ExK K C ∧ PySem.W.kitOne K (.ref C) u = some b ∧ Q (.bl b) H
theorem call_isX {X : Cx} : CallR X (.builtin "isinstance") (rIsX X.K) := by
  intro pins s σ H xs us Q I r h
  obtain ⟨a, C, d, c, u, b, rfl, k, ea, hd, T, e, q⟩ := h
  obtain ⟨u1, u2, rfl, r1, r2⟩ := vals2 r
  have e2 := k.eq r2
  subst e2
  cases (show u1 = Value.ref a from r1)
  obtain ⟨oe, od, J⟩ := inst_of I.hok ea hd
  obtain ⟨cd, hcd, _⟩ := PySem.W.any_some T.hd
  exact PySem.W.kia_one (PySem.W.kitx_exc (by rw [hcd]; rfl) T.ga T.gg T.ex T.ha T.hn T.ht T.hm) I.kIn J e (fun z => nomatch z) fun tk => ⟨.bl b, H, I.tok tk, rfl, q⟩
end Mn
/-! Mini: values, heaps, how they lie in HandS's heap -/
namespace Mn
open PySem PySem.Spec PyProof.Rows L2

inductive Val where
  | non | bl (b : Bool) | int (i : Int) | str (s : Str) | tup (vs : List Val) | ref (a : Nat) | exc (c : String) (fs : List (String × Val))

inductive Ob where
  | lst (w : Bool) (vs : List Val)
  | dct (w : Bool) (kvs : List (Key × Val))
  | dtt (kvs : List (List Key × Val))
  | ins (c : String) (fs : List (String × Val))

abbrev MH := List Ob
abbrev Env' := List (Option Val)

inductive Res (α : Type) where
  | ok (a : α) (h : MH)
  | err (c : String) (fs : List (String × Val)) (h : MH)
  | bad

def RoL (K : PySem.W.Frag) (H : Hp) (a : Addr) (xs : List V) : Prop :=
  (∃ o, H a = some (.frz o (.lst xs))) ∨
    ∃ (o : Obj) (its : Array Value) (n : Nat), K.lookup a = some o ∧ o.cls = .type "list" ∧ o.dict = none ∧ o.data = .seq its n ∧ its.size ≤ sizeLine ∧ Vals xs its.toList
/-- the tuple at a: ours, or the program's -/
def TuA (K : PySem.W.Frag) (H : Hp) (a : Addr) (xs : List V) : Prop :=
  H a = some (.tup xs) ∨ (∀ s i, xs ≠ [.str s, .int i]) ∧
    ∃ (o : Obj) (its : Array Value) (n : Nat), K.lookup a = some o ∧ o.cls = .type "tuple" ∧ o.data = .seq its n ∧ its.size ≤ sizeLine ∧ Vals xs its.toList
theorem TuA.sq {K : PySem.W.Frag} {H : Hp} {a : Addr} {xs : List V} (h : TuA K H a xs) : SqT K H a xs := by
  rcases h with h | h
  · exact .inl (.inl h)
  · exact .inr h.2
theorem RoL.sq {K : PySem.W.Frag} {H : Hp} {a : Addr} {xs : List V} (h : RoL K H a xs) : SqL K H a xs := by
  rcases h with ⟨o, h⟩ | h
  · exact .inl (.inr ⟨o, h⟩)
  · exact .inr h

/-- where Mini's objects stand; true: the place is Mini's to write -/
abbrev Ph := List (Bool × Addr)
def At (φ : Ph) (i : Nat) (a : Addr) : Prop := ∃ w, φ[i]? = some (w, a)
/-- what differs from a program to a program: where its classes stand -/
structure Lk where
  K : PySem.W.Frag
  cls : String → Option Addr
  exc : String → Option Addr

mutual
inductive VR (L : Lk) (φ : Ph) (H : Hp) : Val → V → Prop
  | non : VR L φ H .non .non
  | bl (b : Bool) : VR L φ H (.bl b) (.bl b)
  | int (i : Int) : VR L φ H (.int i) (.int i)
  | str (x : Str) : VR L φ H (.str x) (.str x)
  | tup {a : Addr} {xs : List V} {vs : List Val} : TuA L.K H a xs → VRs L φ H vs xs → VR L φ H (.tup vs) (.ref a)
  | ref {i : Nat} {a : Addr} : At φ i a → VR L φ H (.ref i) (.ref a)
  | exc0 {c : String} {a C : Addr} : L.exc c = some C → H a = some (exH a (.ref C) none) → (true, a) ∉ φ → VR L φ H (.exc c []) (.ref a)
  | excF {c : String} {a C dd : Addr} {fs : List (String × Val)} {xs : List (Str × V)} : L.exc c = some C → H a = some (exH a (.ref C) (some dd)) → (true, a) ∉ φ → H dd = some (.xd xs) → (true, dd) ∉ φ → (fs.map fun p => Str.ofString p.1) = xs.map (·.1) → VRs L φ H (fs.map (·.2)) (xs.map (·.2)) → VR L φ H (.exc c fs) (.ref a)
inductive VRs (L : Lk) (φ : Ph) (H : Hp) : List Val → List V → Prop
  | nil : VRs L φ H [] []
  | cons {v : Val} {vs : List Val} {x : V} {xs : List V} : VR L φ H v x → VRs L φ H vs xs → VRs L φ H (v :: vs) (x :: xs)
end

/-- φ' goes on from φ -/
def Pre (φ φ' : Ph) : Prop := ∀ (i : Nat) (p : Bool × Addr), φ[i]? = some p → φ'[i]? = some p
/-- what was tracked beside φ is kept; what is new was free -/
structure Ext (L : Lk) (φ : Ph) (H : Hp) (φ' : Ph) (H' : Hp) : Prop where
  pre : Pre φ φ'
  keep : ∀ b o, H b = some o → (true, b) ∉ φ → H' b = some o
  new : ∀ b, (true, b) ∈ φ' → (true, b) ∉ φ → H b = none
  tups : ∀ a xs, TuA L.K H a xs → TuA L.K H' a xs
  frz : ∀ a ob u, H a = some (.frz ob u) → H' a = some (.frz ob u)
theorem Ext.refl {L : Lk} {φ : Ph} {H : Hp} : Ext L φ H φ H := ⟨fun _ _ h => h, fun _ _ h _ => h, fun _ h n => absurd h n, fun _ _ h => h, fun _ _ _ h => h⟩
theorem Ext.trans {L : Lk} {φ φ1 φ2 : Ph} {H H1 H2 : Hp} (a : Ext L φ H φ1 H1) (b : Ext L φ1 H1 φ2 H2) : Ext L φ H φ2 H2 := by
  refine ⟨fun i x h => b.pre i x (a.pre i x h), fun c o h n => b.keep c o (a.keep c o h n) fun m => ?_, fun c h n => ?_, fun c xs h => b.tups c xs (a.tups c xs h), fun c ob u h => b.frz c ob u (a.frz c ob u h)⟩
  · have z := a.new c m n
    rw [h] at z; cases z
  · by_cases m : (true, c) ∈ φ1
    · exact a.new c m n
    · have z := b.new c h m
      cases e : H c with
      | none => rfl
      | some o => rw [a.keep c o e n] at z; cases z

theorem Ext.out {L : Lk} {φ φ' : Ph} {H H' : Hp} (e : Ext L φ H φ' H') {b : Addr} {o : HO} (h : H b = some o) (n : (true, b) ∉ φ) : (true, b) ∉ φ' := fun m => by
  have z := e.new b m n
  rw [h] at z; cases z
mutual
theorem VR.mono {L : Lk} {φ φ' : Ph} {H H' : Hp} (e : Ext L φ H φ' H') : ∀ {v : Val} {x : V}, VR L φ H v x → VR L φ' H' v x
  | _, _, .non => .non
  | _, _, .bl b => .bl b
  | _, _, .int i => .int i
  | _, _, .str x => .str x
  | _, _, .tup h t => .tup (e.tups _ _ h) (VRs.mono e t)
  | _, _, .ref ⟨w, h⟩ => .ref ⟨w, e.pre _ _ h⟩
  | _, _, .exc0 hc ha na => .exc0 hc (e.keep _ _ ha na) (e.out ha na)
  | _, _, .excF hc ha na hd nd k r => .excF hc (e.keep _ _ ha na) (e.out ha na) (e.keep _ _ hd nd) (e.out hd nd) k (VRs.mono e r)
theorem VRs.mono {L : Lk} {φ φ' : Ph} {H H' : Hp} (e : Ext L φ H φ' H') : ∀ {vs : List Val} {xs : List V}, VRs L φ H vs xs → VRs L φ' H' vs xs
  | _, _, .nil => .nil
  | _, _, .cons h t => .cons (VR.mono e h) (VRs.mono e t)
end

/-- a dict's entries: keys ints and texts, or tuples of these -/
def keyV : Val → Option Key
  | .int i => some (.inl i)
  | .str x => some (.inr x)
  | _ => none
def keyT : Val → Option (List Key)
  | .tup [.str x, .int i] => some [.inr x, .inl i]
  | _ => none
inductive KRs {κ : Type} (L : Lk) (φ : Ph) (H : Hp) : List (κ × Val) → List (κ × V) → Prop
  | nil : KRs L φ H [] []
  | cons {c : κ} {v : Val} {kvs : List (κ × Val)} {x : V} {xs : List (κ × V)} : VR L φ H v x → KRs L φ H kvs xs → KRs L φ H ((c, v) :: kvs) ((c, x) :: xs)
inductive FRs (L : Lk) (φ : Ph) (H : Hp) : List (String × Val) → List (Str × V) → Prop
  | nil : FRs L φ H [] []
  | cons {k : String} {v : Val} {kvs : List (String × Val)} {x : V} {xs : List (Str × V)} : VR L φ H v x → FRs L φ H kvs xs → FRs L φ H ((k, v) :: kvs) ((Str.ofString k, x) :: xs)
theorem KRs.mono {κ : Type} {L : Lk} {φ φ' : Ph} {H H' : Hp} (e : Ext L φ H φ' H') : ∀ {vs : List (κ × Val)} {xs : List (κ × V)}, KRs L φ H vs xs → KRs L φ' H' vs xs
  | _, _, .nil => .nil
  | _, _, .cons h t => .cons (h.mono e) (t.mono e)
theorem FRs.mono {L : Lk} {φ φ' : Ph} {H H' : Hp} (e : Ext L φ H φ' H') : ∀ {vs : List (String × Val)} {xs : List (Str × V)}, FRs L φ H vs xs → FRs L φ' H' vs xs
  | _, _, .nil => .nil
  | _, _, .cons h t => .cons (h.mono e) (t.mono e)

/-- the object at a -/
inductive OR (L : Lk) (φ : Ph) (H : Hp) (a : Addr) : Ob → Prop
  | lst {xs : List V} {vs : List Val} : H a = some (.lst xs) → VRs L φ H vs xs → OR L φ H a (.lst true vs)
  | ro {xs : List V} {vs : List Val} : RoL L.K H a xs → VRs L φ H vs xs → OR L φ H a (.lst false vs)
  | dK {xs : List (Key × V)} {kvs : List (Key × Val)} : H a = some (.dK xs) → KRs L φ H kvs xs → OR L φ H a (.dct true kvs)
  | dF {ob : Obj} {xs : List (Key × V)} {kvs : List (Key × Val)} : H a = some (.frz ob (.dK xs)) → KRs L φ H kvs xs → OR L φ H a (.dct false kvs)
  | dT {xs : List (List Key × V)} {kvs : List (List Key × Val)} : H a = some (.dT xs) → KRs L φ H kvs xs → OR L φ H a (.dtt kvs)
  | ins {c : String} {C dx : Addr} {fs : List (String × Val)} {xs : List (Str × V)} : L.cls c = some C → H a = some (.ins C dx xs) → FRs L φ H fs xs → OR L φ H a (.ins c fs)

def wr : Ob → Bool
  | .lst false _ => false
  | .dct false _ => false
  | _ => true
structure Rel (L : Lk) (φ : Ph) (h : MH) (H : Hp) : Prop where
  len : φ.length = h.length
  obj : ∀ (i : Nat) (o : Ob), h[i]? = some o → ∃ w a, φ[i]? = some (w, a) ∧ (wr o = true → w = true) ∧ OR L φ H a o
  inj : ∀ (i j : Nat) (a : Addr), φ[i]? = some (true, a) → φ[j]? = some (true, a) → i = j
  live : ∀ (a : Addr), (true, a) ∈ φ → ∃ u, H a = some u ∧ (∀ ys, u ≠ .tup ys)

theorem RoL.upd {K : PySem.W.Frag} {H : Hp} {a p : Addr} {xs : List V} {o : HO} (h : RoL K H a xs) (hp : ∀ ob u, H p ≠ some (.frz ob u)) : RoL K (upd H p o) a xs := by
  rcases h with ⟨ob, h⟩ | h
  · refine .inl ⟨ob, ?_⟩
    rw [upd_ne (fun z => hp _ _ (z ▸ h))]; exact h
  · exact .inr h
theorem sqT_upd {K : PySem.W.Frag} {H : Hp} {a p : Addr} {xs : List V} {o : HO} (h : TuA K H a xs) (hp : ∀ ob u, H p ≠ some (.frz ob u)) (ht : ∀ ys, H p ≠ some (.tup ys)) : TuA K (upd H p o) a xs := by
  rcases h with h | h
  · exact .inl (by rw [upd_ne (fun z => ht _ (z ▸ h))]; exact h)
  · exact .inr h

theorem OR.mono {L : Lk} {φ φ' : Ph} {H H' : Hp} {a : Addr} {o : Ob} (e : Ext L φ H φ' H') (k : ∀ u, H a = some u → H' a = some u) : OR L φ H a o → OR L φ' H' a o
  | .lst h r => .lst (k _ h) (r.mono e)
  | .ro h r => .ro (h.elim (fun ⟨ob, q⟩ => .inl ⟨ob, k _ q⟩) .inr) (r.mono e)
  | .dK h r => .dK (k _ h) (r.mono e)
  | .dF h r => .dF (k _ h) (r.mono e)
  | .dT h r => .dT (k _ h) (r.mono e)
  | .ins c h r => .ins c (k _ h) (r.mono e)
theorem OR.at {L : Lk} {φ : Ph} {H : Hp} {a : Addr} {o : Ob} (x : OR L φ H a o) (w : wr o = true) : ∃ u, H a = some u ∧ (∀ ob v, u ≠ .frz ob v) ∧ ∀ ys, u ≠ .tup ys := by
  cases x with
  | lst h _ => exact ⟨_, h, (fun _ _ z => by cases z), (fun _ z => by cases z)⟩
  | ro _ _ => cases w
  | dK h _ => exact ⟨_, h, (fun _ _ z => by cases z), (fun _ z => by cases z)⟩
  | dF _ _ => cases w
  | dT h _ => exact ⟨_, h, (fun _ _ z => by cases z), (fun _ z => by cases z)⟩
  | ins _ h _ => exact ⟨_, h, (fun _ _ z => by cases z), (fun _ z => by cases z)⟩

/-- a new address beside all that is tracked -/
theorem Ext.alloc {L : Lk} {φ : Ph} {H : Hp} {p : Addr} {o : HO} (hp : H p = none) : Ext L φ H (φ ++ [(true, p)]) (upd H p o) := by
  refine ⟨fun i a h => ?_, fun b u h _ => ?_, fun b h n => ?_, fun a xs h => ?_, fun a ob u h => by rw [upd_ne (ne_of_none h hp)]; exact h⟩
  · rw [List.getElem?_append_left (List.getElem?_eq_some_iff.mp h).1]; exact h
  · rw [upd_ne (ne_of_none h hp)]; exact h
  · rcases List.mem_append.mp h with z | z
    · exact absurd z n
    · have := List.mem_singleton.mp z
      cases this
      exact hp
  · exact sqT_upd h (fun _ _ z => by rw [hp] at z; cases z) (fun _ z => by rw [hp] at z; cases z)
/-- something laid that Mini does not see -/
theorem Ext.side {L : Lk} {φ : Ph} {H : Hp} {p : Addr} {o : HO} (hp : H p = none) : Ext L φ H φ (upd H p o) := by
  refine ⟨fun i a h => h, fun b u h _ => ?_, fun b h n => absurd h n, fun a xs h => ?_, fun a ob u h => by rw [upd_ne (ne_of_none h hp)]; exact h⟩
  · rw [upd_ne (ne_of_none h hp)]; exact h
  · exact sqT_upd h (fun _ _ z => by rw [hp] at z; cases z) (fun _ z => by rw [hp] at z; cases z)
theorem Rel.side {L : Lk} {φ : Ph} {h : MH} {H : Hp} {p : Addr} {o : HO} (r : Rel L φ h H) (hp : H p = none) : Rel L φ h (upd H p o) := by
  refine ⟨r.len, fun i ob hi => ?_, r.inj, fun a ha => ?_⟩
  · obtain ⟨w, a, ha, hw, x⟩ := r.obj i ob hi
    refine ⟨w, a, ha, hw, x.mono (Ext.side hp) fun u q => ?_⟩
    rw [upd_ne (ne_of_none q hp)]; exact q
  · obtain ⟨u, hu, nt⟩ := r.live a ha
    exact ⟨u, by rw [upd_ne (ne_of_none hu hp)]; exact hu, nt⟩
/-- a new object -/
theorem Rel.alloc {L : Lk} {φ : Ph} {h : MH} {H : Hp} {p : Addr} {o : HO} {ob : Ob} (r : Rel L φ h H) (hp : H p = none) (nt : ∀ ys, o ≠ .tup ys) (new : OR L (φ ++ [(true, p)]) (upd H p o) p ob) : Rel L (φ ++ [(true, p)]) (h ++ [ob]) (upd H p o) := by
  have E : Ext L φ H (φ ++ [(true, p)]) (upd H p o) := Ext.alloc hp
  have hl := r.len
  refine ⟨by simp [r.len], fun i u hi => ?_, fun i j a ai aj => ?_, fun a ha => ?_⟩
  · by_cases c : i < h.length
    · rw [List.getElem?_append_left c] at hi
      obtain ⟨w, a, ha, hw, x⟩ := r.obj i u hi
      refine ⟨w, a, E.pre _ _ ha, hw, x.mono E fun w q => ?_⟩
      rw [upd_ne (ne_of_none q hp)]; exact q
    · have e : i = h.length := by
        have := (List.getElem?_eq_some_iff.mp hi).1
        simp at this; omega
      subst e
      simp at hi
      subst hi
      refine ⟨true, p, ?_, fun _ => rfl, new⟩
      rw [← hl]; simp
  · have old : ∀ {i : Nat} {a : Addr}, i < φ.length → (φ ++ [(true, p)])[i]? = some (true, a) → φ[i]? = some (true, a) ∧ a ≠ p := by
      intro i a c ai
      rw [List.getElem?_append_left c] at ai
      obtain ⟨u, hu, _⟩ := r.live a (List.mem_of_getElem? ai)
      exact ⟨ai, ne_of_none hu hp⟩
    have last : ∀ {i : Nat} {a : Addr}, ¬ i < φ.length → (φ ++ [(true, p)])[i]? = some (true, a) → i = φ.length ∧ a = p := by
      intro i a c ai
      have := (List.getElem?_eq_some_iff.mp ai).1
      simp at this
      have e : i = φ.length := by omega
      subst e
      simp at ai
      exact ⟨rfl, ai.symm⟩
    by_cases c : i < φ.length <;> by_cases d : j < φ.length
    · exact r.inj i j a (old c ai).1 (old d aj).1
    · exact absurd (last d aj).2 (old c ai).2
    · exact absurd (last c ai).2 (old d aj).2
    · rw [(last c ai).1, (last d aj).1]
  · rcases List.mem_append.mp ha with z | z
    · obtain ⟨u, hu, n⟩ := r.live a z
      exact ⟨u, by rw [upd_ne (ne_of_none hu hp)]; exact hu, n⟩
    · have := List.mem_singleton.mp z
      cases this
      exact ⟨o, upd_same, nt⟩
/-- an object written -/
theorem Ext.write {L : Lk} {φ : Ph} {H : Hp} {a : Addr} {o u : HO} {i : Nat} (hi : φ[i]? = some (true, a)) (hu : H a = some u) (nf : ∀ ob v, u ≠ .frz ob v) (nt : ∀ ys, u ≠ .tup ys) : Ext L φ H φ (upd H a o) := by
  refine ⟨fun _ _ h => h, fun b w h n => ?_, fun b h n => absurd h n, fun b xs h => ?_, fun b ob v h => by rw [upd_ne (fun z => by rw [z, hu] at h; exact nf ob v (Option.some.inj h))]; exact h⟩
  · rw [upd_ne (fun z => n (by rw [z]; exact List.mem_of_getElem? hi))]; exact h
  · exact sqT_upd h (fun ob v z => by rw [hu] at z; exact nf ob v (Option.some.inj z)) (fun ys z => by rw [hu] at z; exact nt ys (Option.some.inj z))
theorem Rel.write {L : Lk} {φ : Ph} {h : MH} {H : Hp} {a : Addr} {o : HO} {i : Nat} {ob ob' : Ob} (r : Rel L φ h H) (hi : h[i]? = some ob) (hw : wr ob = true) (nt' : ∀ ys, o ≠ .tup ys) (ai : φ[i]? = some (true, a)) (new : OR L φ (upd H a o) a ob') :
    Rel L φ (h.set i ob') (upd H a o) := by
  obtain ⟨w, a', ha', _, x⟩ := r.obj i ob hi
  rw [ai] at ha'; cases ha'
  obtain ⟨u, hu, nf, nt⟩ := x.at hw
  have E : Ext L φ H φ (upd H a o) := Ext.write ai hu nf nt
  have hil := (List.getElem?_eq_some_iff.mp hi).1
  have at' : ∀ {j : Nat} {v : Ob}, (h.set i ob')[j]? = some v → (j = i ∧ v = ob') ∨ (j ≠ i ∧ h[j]? = some v) := by
    intro j v hj
    by_cases e : j = i
    · subst e
      rw [List.getElem?_set_self hil] at hj
      exact .inl ⟨rfl, (Option.some.inj hj).symm⟩
    · rw [List.getElem?_set_ne (Ne.symm e)] at hj
      exact .inr ⟨e, hj⟩
  refine ⟨by simp [r.len], fun j v hj => ?_, r.inj, fun b hb => ?_⟩
  · rcases at' hj with ⟨rfl, rfl⟩ | ⟨ne, q⟩
    · exact ⟨true, a, ai, fun _ => rfl, new⟩
    · obtain ⟨w, b, hb, hw2, y⟩ := r.obj j v q
      refine ⟨w, b, hb, hw2, ?_⟩
      have nw : wr v = true → b ≠ a := fun z e => by
        subst e
        rw [hw2 z] at hb
        exact ne (r.inj j i b hb ai)
      by_cases e : b = a
      · subst e
        cases y with
        | ro hr hv => exact .ro (hr.upd fun ob2 z e2 => nf ob2 z (Option.some.inj (hu.symm.trans e2))) (hv.mono E)
        | lst hr hv => exact absurd rfl (nw rfl)
        | dK hr hv => exact absurd rfl (nw rfl)
        | dF hr hv => exact absurd (Option.some.inj (hu.symm.trans hr)) (nf _ _)
        | dT hr hv => exact absurd rfl (nw rfl)
        | ins hc hr hv => exact absurd rfl (nw rfl)
      · exact y.mono E fun w z => by rw [upd_ne e]; exact z
  · obtain ⟨v, hv, n⟩ := r.live b hb
    by_cases e : b = a
    · subst e; exact ⟨o, upd_same, nt'⟩
    · exact ⟨v, by rw [upd_ne e]; exact hv, n⟩
end Mn
/-! Mini: syntax, interpreter -/
namespace Mn
open PySem

inductive ItK where
  | val | rng | enm | zip | rev | itm
  deriving DecidableEq
inductive Tg where
  | nm (i : Nat) | tp (js : List Nat)
  deriving DecidableEq
/-- built-in functions and types, called -/
inductive Bi where
  | len | max | min | int | str | tuple | list | sum | all | sorted | dict
  deriving DecidableEq
/-- methods of built-in types -/
inductive Mt where
  | append | extend | pop | popAt | insert | index | count | get | get2 | items | join | split | partition | find | replace | upper | bitlen | clear
  deriving DecidableEq

inductive E where
  | var (i : Nat) | con (v : Val) | glb (x : String)
  | bin (op : Operator) (a b : E) | neg (a : E) | not (a : E)
  | and (a b : E) | or (a b : E)
  | cmp (op : CmpOp) (a b : E) | chn (o1 o2 : CmpOp) (a b c : E)
  | isN (a : E) | notN (a : E) | isB (a : E) (b : Bool)
  | lst (es : List E) | tup (es : List E) | dct (ks vs : List E)
  | idx (a i : E) | slc (a : E) (lo hi : Option E)
  | call (f : String) (es : List E)
  | bi (f : Bi) (es : List E)
  | isi (a : E) (t : String)
  | mth (m : Mt) (o : E) (es : List E)
  | own (m : String) (o : E) (es : List E)
  | new (c : String) (es : List E)
  | fld (o : E) (f : String)
  | cmp1 (own : List Nat) (elt : E) (tg : Tg) (k : ItK) (es : List E) (cond : Option E)
  | lof (k : ItK) (es : List E)
  | fst (es : List E)

inductive S where
  | asg (t : Tg) (e : E)
  | exp (e : E) | ret (e : E) | retN
  | ite (c : E) (a b : List S)
  | forS (t : Tg) (k : ItK) (es : List E) (b : List S)
  | whl (c : E) (b : List S)
  | brk | cnt | pas
  | sub (o i e : E)
  | fld (o : E) (f : String) (e : E)
  | rai (c : String) (es : List E)
  | tryS (b : List S) (hs : List (String × Option Nat × List S))

inductive SR where
  | nx (ρ : Env') (h : MH) | rt (v : Val) (h : MH) | bk (ρ : Env') (h : MH) | ct (ρ : Env') (h : MH)
  | err (c : String) (fs : List (String × Val)) (ρ : Env') (h : MH) | bad

end Mn

namespace Mn
open PySem PySem.Spec PyProof.Rows L2
open Classical

def Res.bind {α β : Type} (r : Res α) (f : α → MH → Res β) : Res β :=
  match r with
  | .ok a h => f a h
  | .err c fs h => .err c fs h
  | .bad => .bad
@[simp] theorem bind_ok {α β : Type} {a : α} {h : MH} {f : α → MH → Res β} : (Res.ok a h).bind f = f a h := rfl
@[simp] theorem bind_err {α β : Type} {c : String} {fs : List (String × Val)} {h : MH} {f : α → MH → Res β} : (Res.err c fs h).bind f = .err c fs h := rfl
@[simp] theorem bind_bad {α β : Type} {f : α → MH → Res β} : (Res.bad : Res α).bind f = .bad := rfl

def mapO {α β : Type} (f : α → Option β) : List α → Option (List β)
  | [] => some []
  | x :: r => match f x, mapO f r with
    | some y, some ys => some (y :: ys)
    | _, _ => none

/-- what differs from a program to a program -/
structure Pg where
  glb : String → Option Val
  sub : String → String → Option Bool
  mro : String → String → Option String
  flds : String → List String
  /-- except t takes one of class c -/
  exm : String → String → Option Bool
  /-- classes of exceptions that are made here: without an own __init__, or with one that stores its argument -/
  exi : String → Option (Option String)
  cf : String → List Val → MH → Res Val

/-! ### data -/
def snap (h : MH) : Nat → Val → Option PyData
  | 0, _ => none
  | _ + 1, .non => some .none
  | _ + 1, .bl b => some (.bool b)
  | _ + 1, .int i => some (.int i)
  | _ + 1, .str s => if (PyData.str s).canLay0 = true then some (.str s) else none
  | n + 1, .tup vs => (mapO (snap h n) vs).map .tuple
  | n + 1, .ref a => match h[a]? with
    | some (.lst _ vs) => (mapO (snap h n) vs).map .list
    | _ => none
  | _ + 1, .exc _ _ => none
/-- v == w -/
def veq (h : MH) (v w : Val) : Option Bool :=
  match v, w with
  | .int i, .int j => some (decide (i = j))
  | .str a, .str b => some (decide (a = b))
  | .bl a, .bl b => some (decide (a = b))
  | _, _ => match snap h 64 v, snap h 64 w with
    | some d, some e => some (PyData.eqv d e)
    | _, _ => none

def retO {α : Type} (o : Option α) (h : MH) : Res α := match o with
  | some v => .ok v h
  | none => .bad
/-- a new object -/
def alloc (o : Ob) (h : MH) : Res Val := .ok (.ref h.length) (h ++ [o])
def mulOk (i j : Int) : Prop := (-(2 ^ 64) < i ∧ i < 2 ^ 64) ∨ (-(2 ^ 64) < j ∧ j < 2 ^ 64) ∨ i.natAbs.log2 + j.natAbs.log2 < 1000000
def powOk (i j : Int) : Prop := 0 ≤ j ∧ j ≤ 1000000 ∧ i.natAbs < 2 ^ 64

def repS (z : Str) (n : Nat) : Str := ⟨(List.replicate n z.cps).foldl (· ++ ·) #[]⟩
noncomputable def binop (op : Operator) (x y : Val) (h : MH) : Res Val :=
  match op, x, y with
  | .Add, .int i, .int j => .ok (.int (i + j)) h
  | .Add, .str a, .str b => if a.length + b.length ≤ sizeLine then .ok (.str (a ++ b)) h else .bad
  | .Add, .tup a, .tup b => if a.length + b.length ≤ sizeLine then .ok (.tup (a ++ b)) h else .bad
  | .Add, .ref a, .ref b => match h[a]?, h[b]? with
    | some (.lst _ xs), some (.lst _ ys) => if xs.length + ys.length ≤ sizeLine then alloc (.lst true (xs ++ ys)) h else .bad
    | _, _ => .bad
  | .Sub, .int i, .int j => .ok (.int (i - j)) h
  | .Mult, .int i, .int j => if mulOk i j then .ok (.int (i * j)) h else .bad
  | .Mult, .str z, .int k => if 1 ≤ z.length ∧ 0 ≤ k ∧ z.length * k.toNat ≤ 4096 then .ok (.str (repS z k.toNat)) h else .bad
  | .Mult, .ref a, .int k => match h[a]? with
    | some (.lst true xs) => if 0 ≤ k ∧ k ≤ 4096 ∧ xs.length * k.toNat ≤ 4096 then alloc (.lst true (List.replicate k.toNat xs).flatten) h else .bad
    | _ => .bad
  | .FloorDiv, .int i, .int j => if 0 < j ∧ j.natAbs.log2 < 9000 then .ok (.int (i / j)) h else .bad
  | .Mod, .int i, .int j => if 0 < j then .ok (.int (i % j)) h else .bad
  | .Pow, .int i, .int j => if powOk i j then .ok (.int (i ^ j.toNat)) h else .bad
  | .LShift, .int i, .int j => if powOk i j then .ok (.int (i * 2 ^ j.toNat)) h else .bad
  | .RShift, .int i, .int j => if 0 ≤ j then .ok (.int (i / 2 ^ j.toNat)) h else .bad
  | .BitAnd, .int i, .int j => .ok (.int (Builtin.bitAnd i j)) h
  | .BitOr, .int i, .int j => .ok (.int (Builtin.bitOr i j)) h
  | .BitXor, .int i, .int j => .ok (.int (Builtin.bitXor i j)) h
  | _, _, _ => .bad

def flat : Val → Bool
  | .non => true
  | .bl _ => true
  | .int _ => true
  | .str _ => true
  | _ => false
/-- == of flat values -/
def eqF : Val → Val → Bool
  | .non, .non => true
  | .bl a, .bl b => a == b
  | .bl a, .int b => (if a then 1 else 0) == b
  | .int a, .bl b => a == (if b then 1 else 0)
  | .int a, .int b => a == b
  | .str a, .str b => a == b
  | _, _ => false
/-- what a dict holds at a key -/
def getC {κ : Type} [DecidableEq κ] (c : κ) (kvs : List (κ × Val)) : Option Val := (kvs.find? fun p => decide (p.1 = c)).map (·.2)
def getK (k : Val) (kvs : List (Key × Val)) : Option Val := (keyV k).bind fun c => getC c kvs
def getT (k : Val) (kvs : List (List Key × Val)) : Option Val := (keyT k).bind fun c => getC c kvs
/-- a key stored: in its place, or at the end -/
def putC {κ : Type} [DecidableEq κ] (c : κ) (v : Val) (kvs : List (κ × Val)) : List (κ × Val) :=
  if (kvs.any fun p => decide (p.1 = c)) = true then kvs.map (fun p => if p.1 = c then (p.1, v) else p) else kvs ++ [(c, v)]
/-- a key, as a value -/
def kVal : Key → Val
  | .inl i => .int i
  | .inr x => .str x
/-- a dict without keys is asked for a tuple -/
def emT (w : Bool) (kvs : List (Key × Val)) (x : Val) : Bool := w && kvs.isEmpty && (keyT x).isSome
def vin? (h : MH) (x y : Val) : Option Bool :=
  match y with
  | .tup ys => if (flat x && ys.all flat) = true then some (ys.any fun z => eqF z x) else none
  | .ref a => match h[a]? with
    | some (.lst _ ys) => if (flat x && ys.all flat) = true then some (ys.any fun z => eqF z x) else match snap h 64 x, snap h 64 y with
      | some d, some (.list ds) => some (ds.any fun z => PyData.eqv z d)
      | _, _ => none
    | some (.dct w kvs) => if emT w kvs x = true then some false else (keyV x).map fun c => (getC c kvs).isSome
    | some (.dtt kvs) => (keyT x).map fun c => (getC c kvs).isSome
    | _ => none
  | .str z => match x with
    | .str c => match c.cps.toList with
      | [k] => some (decide (k ∈ z.cps.toList))
      | _ => some (!(Builtin.Str.occurrences z c 0 z.length 1).isEmpty)
    | _ => none
  | _ => none
def cmpop (op : CmpOp) (x y : Val) (h : MH) : Res Val :=
  match op, x, y with
  | .Eq, _, _ => retO ((veq h x y).map .bl) h
  | .NotEq, _, _ => retO ((veq h x y).map fun b => .bl (!b)) h
  | .Lt, .int i, .int j => .ok (.bl (decide (i < j))) h
  | .LtE, .int i, .int j => .ok (.bl (decide (i ≤ j))) h
  | .Gt, .int i, .int j => .ok (.bl (decide (j < i))) h
  | .GtE, .int i, .int j => .ok (.bl (decide (j ≤ i))) h
  | .LtE, .str a, .str b => .ok (.bl (!decide (b.cps.toList < a.cps.toList))) h
  | .In, _, _ => retO ((vin? h x y).map .bl) h
  | .NotIn, _, _ => retO ((vin? h x y).map fun b => .bl (!b)) h
  | _, _, _ => .bad

/-! ### parts -/
def cutL {α : Type} (xs : List α) (lo hi : Option Int) : List α := (xs.drop (HT.sIx xs.length 0 lo)).take (HT.sIx xs.length xs.length hi - HT.sIx xs.length 0 lo)
def index (x i : Val) (h : MH) : Res Val :=
  match x, i with
  | .tup xs, .int k => retO (atI xs k) h
  | .str z, .int k => if z.length ≤ sizeLine then retO ((atI z.cps.toList k).map fun c => .str ⟨#[c]⟩) h else .bad
  | .ref a, _ => match h[a]?, i with
    | some (.lst _ xs), .int k => retO (atI xs k) h
    | some (.dct _ kvs), _ => retO (getK i kvs) h
    | some (.dtt kvs), _ => retO (getT i kvs) h
    | _, _ => .bad
  | _, _ => .bad
def slice (x : Val) (lo hi : Option Int) (h : MH) : Res Val :=
  match x with
  | .tup xs => .ok (.tup (cutL xs lo hi)) h
  | .str z => if z.length ≤ sizeLine then .ok (.str ⟨(cutL z.cps.toList lo hi).toArray⟩) h else .bad
  | .ref a => match h[a]? with
    | some (.lst _ xs) => alloc (.lst true (cutL xs lo hi)) h
    | _ => .bad
  | _ => .bad
def tyOf (h : MH) : Val → Option String
  | .non => some "NoneType"
  | .bl _ => some "bool"
  | .int _ => some "int"
  | .str _ => some "str"
  | .tup _ => some "tuple"
  | .ref a => match h[a]? with
    | some (.lst _ _) => some "list"
    | some (.dct _ _) => some "dict"
    | some (.dtt _) => some "dict"
    | some (.ins c _) => some c
    | none => none
  | .exc c _ => some c
/-- isinstance -/
def isInst (P : Pg) (v : Val) (t : String) (h : MH) : Res Val := retO ((tyOf h v).bind fun c => (P.sub c t).map .bl) h

def intsO : List Val → Option (List Int) := mapO fun v => match v with
  | .int i => some i
  | _ => none
def boolsO : List Val → Option (List Bool) := mapO fun v => match v with
  | .bl b => some b
  | _ => none
/-- a list of pairs, its keys told -/
def pairO : Val → Option (Key × Val)
  | .tup [k, x] => (keyV k).map fun c => (c, x)
  | _ => none
def pairsO (xs : List Val) : Option (List (Key × Val)) := mapO pairO xs
def dictL (kvs : List (Key × Val)) : List (Key × Val) := kvs.foldl (fun d p => putC p.1 p.2 d) []
noncomputable def bisem (f : Bi) (vs : List Val) (h : MH) : Res Val :=
  match f, vs with
  | .len, [.tup xs] => .ok (.int xs.length) h
  | .len, [.str z] => if z.length ≤ sizeLine then .ok (.int z.length) h else .bad
  | .len, [.ref a] => match h[a]? with
    | some (.lst _ xs) => .ok (.int xs.length) h
    | some (.dct _ kvs) => .ok (.int kvs.length) h
    | _ => .bad
  | .dict, [.ref a] => match h[a]? with
    | some (.lst _ xs) => match pairsO xs with
      | some kvs => alloc (.dct true (dictL kvs)) h
      | none => .bad
    | _ => .bad
  | .max, [.int i, .int j] => .ok (.int (if j > i then j else i)) h
  | .min, [.int i, .int j] => .ok (.int (if j < i then j else i)) h
  | .int, [.int i] => .ok (.int i) h
  | .int, [.bl b] => .ok (.int (if b then 1 else 0)) h
  | .int, [.str z] => if z.length ≤ 640 then retO ((PySem.intText? z).map .int) h else .bad
  | .str, [.int i] => if i.natAbs.log2 < 1920 then .ok (.str (toString i)) h else .bad
  | .tuple, [.tup xs] => .ok (.tup xs) h
  | .tuple, [.ref a] => match h[a]? with
    | some (.lst _ xs) => .ok (.tup xs) h
    | _ => .bad
  | .list, [.tup xs] => alloc (.lst true xs) h
  | .list, [.ref a] => match h[a]? with
    | some (.lst _ xs) => alloc (.lst true xs) h
    | some (.dct _ kvs) => alloc (.lst true (kvs.map fun p => kVal p.1)) h
    | _ => .bad
  | .sum, [.ref a] => match h[a]? with
    | some (.lst _ xs) => retO ((intsO xs).map fun ns => .int ns.sum) h
    | _ => .bad
  | .all, [.ref a] => match h[a]? with
    | some (.lst _ xs) => retO ((boolsO xs).map fun bs => .bl (bs.all id)) h
    | _ => .bad
  | _, _ => .bad
def strsO : List Val → Option (List Str) := mapO fun v => match v with
  | .str s => some s
  | _ => none
noncomputable def mtsem (m : Mt) (o : Val) (vs : List Val) (h : MH) : Res Val :=
  match m, o, vs with
  | .append, .ref a, [v] => match h[a]? with
    | some (.lst true xs) => if xs.length < sizeLine then .ok .non (h.set a (.lst true (xs ++ [v]))) else .bad
    | _ => .bad
  | .extend, .ref a, [.ref b] => match h[a]?, h[b]? with
    | some (.lst true xs), some (.lst true ys) => if xs.length + ys.length ≤ sizeLine then .ok .non (h.set a (.lst true (xs ++ ys))) else .bad
    | _, _ => .bad
  | .pop, .ref a, [] => match h[a]? with
    | some (.lst true xs) => match xs[xs.length - 1]? with
      | some v => .ok v (h.set a (.lst true xs.dropLast))
      | none => .bad
    | _ => .bad
  | .popAt, .ref a, [.int k] => match h[a]? with
    | some (.lst true xs) => match ixN xs.length k with
      | some j => match xs[j]? with
        | some v => if -(2 ^ 63) ≤ k ∧ k < 2 ^ 63 then .ok v (h.set a (.lst true (xs.eraseIdx j))) else .bad
        | none => .bad
      | none => .bad
    | _ => .bad
  | .clear, .ref a, [] => match h[a]? with
    | some (.lst true _) => .ok .non (h.set a (.lst true []))
    | _ => .bad
  | .join, .str z, [.ref a] => match h[a]? with
    | some (.lst _ xs) => match strsO xs with
      | some ys => if (ys.map (·.length)).sum + ys.length * z.length ≤ 16777216 then .ok (.str (Txt.join z ys)) h else .bad
      | none => .bad
    | _ => .bad
  | .split, .str z, [.str y] => if (y.length == 0) = false ∧ z.length + 2 ≤ sizeLine then alloc (.lst true ((Txt.split z y).map .str)) h else .bad
  | .partition, .str z, [.str y] => if (y.length == 0) = false ∧ z.length ≤ sizeLine then .ok (.tup [.str (Txt.partition z y).1, .str (Txt.partition z y).2.1, .str (Txt.partition z y).2.2]) h else .bad
  | .find, .str z, [.str y] => .ok (.int (Txt.find z y)) h
  | .upper, .str z, [] => if z.length ≤ 5592405 then .ok (.str (Txt.upper z)) h else .bad
  | .bitlen, .int i, [] => .ok (.int (Builtin.Int.intBits i)) h
  | .get, .ref a, [v] => match h[a]? with
    | some (.dct w kvs) => if emT w kvs v = true then .ok .non h else match keyV v with
      | some c => .ok ((getC c kvs).getD .non) h
      | none => .bad
    | some (.dtt kvs) => match keyT v with
      | some c => .ok ((getC c kvs).getD .non) h
      | none => .bad
    | _ => .bad
  | .get2, .ref a, [v, w] => match h[a]? with
    | some (.dct z kvs) => if emT z kvs v = true then .ok w h else match keyV v with
      | some c => .ok ((getC c kvs).getD w) h
      | none => .bad
    | some (.dtt kvs) => match keyT v with
      | some c => .ok ((getC c kvs).getD w) h
      | none => .bad
    | _ => .bad
  | .insert, .ref a, [.int i, v] => match h[a]? with
    | some (.lst true xs) => if xs.length < sizeLine ∧ 0 ≤ i ∧ i < 2 ^ 63 then .ok .non (h.set a (.lst true (xs.take i.toNat ++ [v] ++ xs.drop i.toNat))) else .bad
    | _ => .bad
  | .index, .ref a, [v] => match h[a]? with
    | some (.lst _ xs) => if (flat v && xs.all flat) = true then retO ((xs.findIdx? fun z => eqF z v).map fun j => .int (j : Nat)) h else match snap h 64 v, snap h 64 (.ref a) with
      | some d, some (.list ds) => retO ((ds.findIdx? fun z => PyData.eqv z d).map fun j => .int (j : Nat)) h
      | _, _ => .bad
    | _ => .bad
  | _, _, _ => .bad

/-! ### names -/
def wipe' (ρ : Env') : List Nat → Env'
  | [] => ρ
  | v :: vs => (wipe' ρ vs).set v none
def binds (ρ : Env') : List Nat → List Val → Option Env'
  | [], [] => some ρ
  | j :: js, v :: vs => binds (ρ.set j (some v)) js vs
  | _, _ => none
def bindT (t : Tg) (v : Val) (ρ : Env') : Option Env' :=
  match t, v with
  | .nm i, _ => some (ρ.set i (some v))
  | .tp js, .tup vs => binds ρ js vs
  | .tp _, _ => none

/-- what an assignment to names takes apart: a tuple, or a list's items -/
def tuL (o : Option Ob) (v : Val) : Val := match o with
  | some (.lst _ vs) => .tup vs
  | _ => v
def unT (t : Tg) (h : MH) (v : Val) : Val := match t, v with
  | .tp _, .ref a => tuL h[a]? v
  | _, _ => v
/-! ### what a for walks: the items, and what must stand meanwhile -/
abbrev Src := List (Nat × Ob)
def Src.stands (c : Src) (h : MH) : Prop := ∀ p ∈ c, h[p.1]? = some p.2
def rangeL (lo hi c : Int) : List Val := (List.range ((hi - lo + c - 1) / c).toNat).map fun (k : Nat) => Val.int (lo + (k : Int) * c)
def rangeD (lo hi : Int) : List Val := (List.range (lo - hi).toNat).map fun (k : Nat) => Val.int (lo - (k : Int))
def enumL (xs : List Val) : List Val := xs.mapIdx fun i v => .tup [.int i, v]
noncomputable def itemsOf (k : ItK) (vs : List Val) (h : MH) : Option (List Val × Src) :=
  match k, vs with
  | .val, [.tup xs] => some (xs, [])
  | .val, [.ref a] => match h[a]? with
    | some (.lst w xs) => some (xs, [(a, .lst w xs)])
    | _ => none
  | .val, [.str z] => some (z.cps.toList.map fun c => .str ⟨#[c]⟩, [])
  | .rng, [.int n] => if n < 2 ^ 62 ∧ -(2 ^ 62) ≤ n then some (rangeL 0 n 1, []) else none
  | .rng, [.int a, .int n] => if (n < 2 ^ 62 ∧ -(2 ^ 62) ≤ n) ∧ (a < 2 ^ 62 ∧ -(2 ^ 62) ≤ a) then some (rangeL a n 1, []) else none
  | .rng, [.int a, .int n, .int c] => if (n < 2 ^ 61 ∧ -(2 ^ 61) ≤ n) ∧ (a < 2 ^ 61 ∧ -(2 ^ 61) ≤ a) ∧ (0 < c ∧ c < 2 ^ 29) then some (rangeL a n c, [])
    else if (n < 2 ^ 61 ∧ -(2 ^ 61) ≤ n) ∧ (a < 2 ^ 61 ∧ -(2 ^ 61) ≤ a) ∧ c = -1 then some (rangeD a n, []) else none
  | .enm, [.ref a] => match h[a]? with
    | some (.lst w xs) => some (enumL xs, [(a, .lst w xs)])
    | _ => none
  | .enm, [.tup xs] => some (enumL xs, [])
  | .zip, [.tup xs, .tup ys] => some ((xs.zip ys).map fun p => .tup [p.1, p.2], [])
  | .zip, [.ref a, .ref b] => match h[a]?, h[b]? with
    | some (.lst w xs), some (.lst z ys) => some ((xs.zip ys).map fun p => .tup [p.1, p.2], [(a, .lst w xs), (b, .lst z ys)])
    | _, _ => none
  | .rev, [.ref a] => match h[a]? with
    | some (.lst w xs) => some (xs.reverse, [(a, .lst w xs)])
    | _ => none
  | _, _ => none

/-- d.items() is walked: the dict is not written any more -/
def itemsD (kvs : List (Key × Val)) : List Val := kvs.map fun p => .tup [kVal p.1, p.2]
noncomputable def resI (k : ItK) (vs : List Val) (h : MH) : Res (List Val × Src) := match k, vs with
  | .itm, [.ref a] => match h[a]? with
    | some (.dct _ kvs) => .ok (itemsD kvs, [(a, .dct false kvs)]) (h.set a (.dct false kvs))
    | _ => .bad
  | _, _ => match itemsOf k vs h with
    | some p => .ok p h
    | none => .bad
noncomputable def forL (t : Tg) (c : Src) (b : Env' → MH → SR) : List Val → Env' → MH → SR
  | [], ρ, h => if c.stands h then .nx ρ h else .bad
  | v :: r, ρ, h => if c.stands h then
      match bindT t v ρ with
      | none => .bad
      | some ρ1 => match b ρ1 h with
        | .nx ρ2 h2 => forL t c b r ρ2 h2
        | .ct ρ2 h2 => forL t c b r ρ2 h2
        | .bk ρ2 h2 => .nx ρ2 h2
        | .rt v h2 => .rt v h2
        | .err x fs ρ2 h2 => .err x fs ρ2 h2
        | .bad => .bad
    else .bad
/-- a comprehension's turns; what an element brings may not raise -/
noncomputable def compL (t : Tg) (c : Src) (ρ : Env') (cond elt : Env' → MH → Res Val) : List Val → List Val → MH → Res (List Val)
  | [], acc, h => if c.stands h then .ok acc h else .bad
  | v :: r, acc, h => if c.stands h then
      match bindT t v ρ with
      | none => .bad
      | some ρ1 => match cond ρ1 h with
        | .ok (.bl true) h1 => match elt ρ1 h1 with
          | .ok w h2 => if acc.length < sizeLine then compL t c ρ cond elt r (acc ++ [w]) h2 else .bad
          | _ => .bad
        | .ok (.bl false) h1 => compL t c ρ cond elt r acc h1
        | _ => .bad
    else .bad

def whN (t : Env' → MH → Res Val) (b : Env' → MH → SR) : Nat → Env' → MH → SR
  | 0, _, _ => .bad
  | n + 1, ρ, h => match t ρ h with
    | .ok (.bl true) h1 => match b ρ h1 with
      | .nx ρ2 h2 => whN t b n ρ2 h2
      | .ct ρ2 h2 => whN t b n ρ2 h2
      | .bk ρ2 h2 => .nx ρ2 h2
      | .rt v h2 => .rt v h2
      | .err x fs ρ2 h2 => .err x fs ρ2 h2
      | .bad => .bad
    | .ok (.bl false) h1 => .nx ρ h1
    | .err x fs h1 => .err x fs ρ h1
    | _ => .bad
noncomputable def whC (t : Env' → MH → Res Val) (b : Env' → MH → SR) (ρ : Env') (h : MH) : SR :=
  if e : ∃ n, whN t b n ρ h ≠ .bad then whN t b (Classical.choose e) ρ h else .bad

/-! ### expressions -/
def getV (ρ : Env') (i : Nat) (h : MH) : Res Val := match ρ[i]? with
  | some (some v) => .ok v h
  | _ => .bad
def isNon : Val → Bool
  | .non => true
  | _ => false
def isBl (b : Bool) : Val → Bool
  | .bl c => c == b
  | _ => false
/-- the def that o.m is -/
def ownFn (P : Pg) (m : String) (o : Val) (h : MH) : Option String :=
  match o with
  | .ref a => match h[a]? with
    | some (.ins c fs) => if (fs.lookup m).isNone = true then P.mro c m else none
    | _ => none
  | _ => none
/-- what type's method it is -/
def mtOk (m : Mt) (o : Val) (h : MH) : Bool :=
  match o with
  | .ref a => match h[a]? with
    | some (.lst _ _) => match m with
      | .append | .extend | .pop | .popAt | .insert | .index | .count | .clear => true
      | _ => false
    | some (.dct _ _) => match m with
      | .get | .get2 | .items => true
      | _ => false
    | some (.dtt _) => match m with
      | .get | .get2 => true
      | _ => false
    | _ => false
  | .str _ => match m with
    | .join | .split | .partition | .find | .replace | .upper => true
    | _ => false
  | .int _ => match m with
    | .bitlen => true
    | _ => false
  | _ => false
def getF (P : Pg) (o : Val) (f : String) (h : MH) : Res Val :=
  match o with
  | .ref a => match h[a]? with
    | some (.ins c fs) => if (P.flds c).contains f = true then retO (fs.lookup f) h else .bad
    | _ => .bad
  | .exc c fs => if P.exi c = some (some f) then retO (fs.lookup f) h else .bad
  | _ => .bad
def putFl (f : String) (v : Val) : List (String × Val) → List (String × Val)
  | [] => [(f, v)]
  | (g, w) :: r => if g = f then (g, v) :: r else (g, w) :: putFl f v r
def newObj (P : Pg) (c : String) (vs : List Val) (h : MH) : Res Val :=
  match P.mro c "__init__" with
  | some f => (P.cf f (.ref h.length :: vs) (h ++ [.ins c []])).bind fun v h2 => match v with
    | .non => .ok (.ref h.length) h2
    | _ => .bad
  | none => .bad

/-- a part of an f-string -/
noncomputable def fmtV : Val → Option Str
  | .str z => if z.length ≤ sizeLine then some z else none
  | .int i => if i.natAbs.log2 < 1920 then some (toString i) else none
  | _ => none
noncomputable def fstrO : List Val → Str → Option Str
  | [], acc => some acc
  | v :: r, acc => match fmtV v with
    | some y => if (acc ++ y).length ≤ sizeLine then fstrO r (acc ++ y) else none
    | none => none
mutual
noncomputable def evE (P : Pg) : E → Env' → MH → Res Val
  | .var i, ρ, h => getV ρ i h
  | .con v, _, h => .ok v h
  | .glb x, _, h => retO (P.glb x) h
  | .bin op a b, ρ, h => (evE P a ρ h).bind fun x h1 => (evE P b ρ h1).bind fun y h2 => binop op x y h2
  | .neg a, ρ, h => (evE P a ρ h).bind fun x h1 => match x with
    | .int i => .ok (.int (-i)) h1
    | _ => .bad
  | .not a, ρ, h => (evE P a ρ h).bind fun x h1 => match x with
    | .bl b => .ok (.bl (!b)) h1
    | _ => .bad
  | .and a b, ρ, h => (evE P a ρ h).bind fun x h1 => match x with
    | .bl true => evE P b ρ h1
    | .bl false => .ok (.bl false) h1
    | _ => .bad
  | .or a b, ρ, h => (evE P a ρ h).bind fun x h1 => match x with
    | .bl true => .ok (.bl true) h1
    | .bl false => evE P b ρ h1
    | _ => .bad
  | .cmp op a b, ρ, h => (evE P a ρ h).bind fun x h1 => (evE P b ρ h1).bind fun y h2 => cmpop op x y h2
  | .chn o1 o2 a b c, ρ, h => (evE P a ρ h).bind fun x h1 => (evE P b ρ h1).bind fun y h2 => (cmpop o1 x y h2).bind fun z h3 => match z with
    | .bl true => (evE P c ρ h3).bind fun w h4 => cmpop o2 y w h4
    | .bl false => .ok (.bl false) h3
    | _ => .bad
  | .isN a, ρ, h => (evE P a ρ h).bind fun x h1 => .ok (.bl (isNon x)) h1
  | .notN a, ρ, h => (evE P a ρ h).bind fun x h1 => .ok (.bl (!isNon x)) h1
  | .isB a b, ρ, h => (evE P a ρ h).bind fun x h1 => .ok (.bl (isBl b x)) h1
  | .lst es, ρ, h => (evEs P es ρ h).bind fun vs h1 => if vs.length ≤ sizeLine then alloc (.lst true vs) h1 else .bad
  | .tup es, ρ, h => (evEs P es ρ h).bind fun vs h1 => if vs.length ≤ sizeLine then .ok (.tup vs) h1 else .bad
  | .dct ks vs, _, h => match ks, vs with
    | [], [] => alloc (.dct true []) h
    | _, _ => .bad
  | .idx a i, ρ, h => (evE P a ρ h).bind fun x h1 => (evE P i ρ h1).bind fun y h2 => index x y h2
  | .slc a lo hi, ρ, h => (evE P a ρ h).bind fun x h1 => (evO P lo ρ h1).bind fun l h2 => (evO P hi ρ h2).bind fun u h3 => slice x l u h3
  | .call f es, ρ, h => (evEs P es ρ h).bind fun vs h1 => P.cf f vs h1
  | .bi f es, ρ, h => (evEs P es ρ h).bind fun vs h1 => bisem f vs h1
  | .isi a t, ρ, h => (evE P a ρ h).bind fun x h1 => isInst P x t h1
  | .mth m o es, ρ, h => (evE P o ρ h).bind fun x h1 => if mtOk m x h1 = true then (evEs P es ρ h1).bind fun vs h2 => mtsem m x vs h2 else .bad
  | .own m o es, ρ, h => (evE P o ρ h).bind fun x h1 => match ownFn P m x h1 with
    | some f => (evEs P es ρ h1).bind fun vs h2 => P.cf f (x :: vs) h2
    | none => .bad
  | .new c es, ρ, h => (evEs P es ρ h).bind fun vs h1 => newObj P c vs h1
  | .fld o f, ρ, h => (evE P o ρ h).bind fun x h1 => getF P x f h1
  | .cmp1 own elt t k es cond, ρ, h => ((evEs P es ρ h).bind (resI k)).bind fun p h1 =>
      (compL t p.2 (wipe' ρ own) (evC P cond) (evE P elt) p.1 [] h1).bind fun ws h2 => alloc (.lst true ws) h2
  | .lof k es, ρ, h => ((evEs P es ρ h).bind (resI k)).bind fun p h1 => match k with
    | .rev => alloc (.lst true p.1) h1
    | .rng => if p.1.length ≤ 4096 then alloc (.lst true p.1) h1 else .bad
    | .zip => if p.2.isEmpty = true then .bad else alloc (.lst true p.1) h1
    | _ => .bad
  | .fst es, ρ, h => (evEs P es ρ h).bind fun vs h1 => retO ((fstrO vs Str.empty).map .str) h1
noncomputable def evEs (P : Pg) : List E → Env' → MH → Res (List Val)
  | [], _, h => .ok [] h
  | e :: es, ρ, h => (evE P e ρ h).bind fun v h1 => (evEs P es ρ h1).bind fun vs h2 => .ok (v :: vs) h2
noncomputable def evO (P : Pg) : Option E → Env' → MH → Res (Option Int)
  | none, _, h => .ok none h
  | some e, ρ, h => (evE P e ρ h).bind fun v h1 => match v with
    | .int i => .ok (some i) h1
    | _ => .bad
noncomputable def evC (P : Pg) : Option E → Env' → MH → Res Val
  | none, _, h => .ok (.bl true) h
  | some e, ρ, h => evE P e ρ h
end

/-! ### statements -/
def SR.ofRes {α : Type} (ρ : Env') (r : Res α) (k : α → MH → SR) : SR := match r with
  | .ok v h => k v h
  | .err c fs h => .err c fs ρ h
  | .bad => .bad
def SR.seq (r : SR) (k : Env' → MH → SR) : SR := match r with
  | .nx ρ h => k ρ h
  | o => o
def setSub (o i v : Val) (h : MH) : Res Unit :=
  match o with
  | .ref a => match h[a]?, i with
    | some (.lst true xs), .int k => match ixN xs.length k with
      | some j => .ok () (h.set a (.lst true (xs.set j v)))
      | none => .bad
    | some (.dct true kvs), _ => match keyV i with
      | some c => if kvs.length < sizeLine then .ok () (h.set a (.dct true (putC c v kvs))) else .bad
      | none => match keyT i with
        | some c => if kvs.isEmpty = true then .ok () (h.set a (.dtt [(c, v)])) else .bad
        | none => .bad
    | some (.dtt kvs), _ => match keyT i with
      | some c => if kvs.length < sizeLine then .ok () (h.set a (.dtt (putC c v kvs))) else .bad
      | none => .bad
    | _, _ => .bad
  | _ => .bad
def setF (P : Pg) (o : Val) (f : String) (v : Val) (h : MH) : Res Unit :=
  match o with
  | .ref a => match h[a]? with
    | some (.ins c fs) => if fs.length < 1000 ∧ (P.flds c).contains f = true then .ok () (h.set a (.ins c (putFl f v fs))) else .bad
    | _ => .bad
  | _ => .bad
/-- the fields of c(v) -/
def raised (o : Option String) (v : Val) : List (String × Val) := match o with
  | none => []
  | some f => [(f, v)]
/-- try: .. except t: a suite that does not look at the exception -/
def onlyR (P : Pg) (t : String) (k : Env' → MH → SR) (r : SR) : SR := match r with
  | .err c fs ρ h => match P.exm c t with
    | some true => k ρ h
    | _ => .bad
  | r => r
/-- try: .. except t as i: j = i -/
def tryR (P : Pg) (t : String) (i j : Nat) (r : SR) : SR := match r with
  | .err c fs ρ h => match P.exm c t with
    | some true => if i < ρ.length then .nx ((ρ.set j (some (.exc c fs))).set i none) h else .bad
    | _ => .bad
  | r => r
/-- a suite that may look at the exception that it handles: names, a return -/
noncomputable def hotA (P : Pg) : List S → Env' → MH → SR
  | [], ρ, h => .nx ρ h
  | .asg (.nm j) e :: r, ρ, h => .ofRes ρ (evE P e ρ h) fun v h1 => hotA P r (ρ.set j (some v)) h1
  | .ret e :: _, ρ, h => .ofRes ρ (evE P e ρ h) fun v h1 => .rt v h1
  | _, _, _ => .bad
/-- the name of the exception is gone behind the suite; a suite does not raise -/
def goneR (i : Nat) (r : SR) : SR := match r with
  | .nx ρ h => .nx (ρ.set i none) h
  | .rt v h => .rt v h
  | _ => .bad
/-- clauses 'except t as i: suite' -/
noncomputable def hotR (P : Pg) (c : String) (fs : List (String × Val)) (ρ : Env') (h : MH) : List (String × Option Nat × List S) → SR
  | (t, some i, b) :: r => match P.exm c t with
    | some true => if i < ρ.length then goneR i (hotA P b (ρ.set i (some (.exc c fs))) h) else .bad
    | some false => hotR P c fs ρ h r
    | none => .bad
  | _ => .bad
noncomputable def holdR (P : Pg) (hs : List (String × Option Nat × List S)) (r : SR) : SR := match r with
  | .err c fs ρ h => hotR P c fs ρ h hs
  | r => r
mutual
noncomputable def evS (P : Pg) : S → Env' → MH → SR
  | .asg t e, ρ, h => .ofRes ρ (evE P e ρ h) fun v h1 => match bindT t (unT t h1 v) ρ with
    | some ρ1 => .nx ρ1 h1
    | none => .bad
  | .exp e, ρ, h => .ofRes ρ (evE P e ρ h) fun _ h1 => .nx ρ h1
  | .ret e, ρ, h => .ofRes ρ (evE P e ρ h) fun v h1 => .rt v h1
  | .retN, _, h => .rt .non h
  | .ite c a b, ρ, h => .ofRes ρ (evE P c ρ h) fun v h1 => match v with
    | .bl true => evB P a ρ h1
    | .bl false => evB P b ρ h1
    | _ => .bad
  | .forS t k es b, ρ, h => .ofRes ρ ((evEs P es ρ h).bind (resI k)) fun p h1 => forL t p.2 (evB P b) p.1 ρ h1
  | .whl c b, ρ, h => whC (evE P c) (evB P b) ρ h
  | .brk, ρ, h => .bk ρ h
  | .cnt, ρ, h => .ct ρ h
  | .pas, ρ, h => .nx ρ h
  | .sub o i e, ρ, h => .ofRes ρ (evE P e ρ h) fun v h1 => .ofRes ρ (evE P o ρ h1) fun x h2 => .ofRes ρ (evE P i ρ h2) fun y h3 => .ofRes ρ (setSub x y v h3) fun _ h4 => .nx ρ h4
  | .fld o f e, ρ, h => .ofRes ρ (evE P e ρ h) fun v h1 => .ofRes ρ (evE P o ρ h1) fun x h2 => .ofRes ρ (setF P x f v h2) fun _ h3 => .nx ρ h3
  | .rai c es, ρ, h => match es with
    | [e] => match P.exi c with
      | some o => .ofRes ρ (evE P e ρ h) fun v h1 => .err c (raised o v) ρ h1
      | none => .bad
    | _ => .bad
  | .tryS b hs, ρ, h => match hs with
    | [(t, none, [.asg (.nm j) e])] => onlyR P t (fun ρ2 h2 => .ofRes ρ2 (evE P e ρ2 h2) fun v h3 => .nx (ρ2.set j (some v)) h3) (evB P b ρ h)
    | [(t, none, [.ret e])] => onlyR P t (fun ρ2 h2 => .ofRes ρ2 (evE P e ρ2 h2) fun v h3 => .rt v h3) (evB P b ρ h)
    | [(t, some i, [.asg (.nm j) (.var k)])] => if i = k ∧ i ≠ j then tryR P t i j (evB P b ρ h) else .bad
    | (_, none, []) :: hs => holdR P hs (evB P b ρ h)
    | _ => .bad
noncomputable def evB (P : Pg) : List S → Env' → MH → SR
  | [], ρ, h => .nx ρ h
  | s :: r, ρ, h => (evS P s ρ h).seq (evB P r)
end
end Mn
/-! Mini: what a run of Mini says of HandS's readings -/
namespace Mn
open PySem PySem.Spec PyProof.Rows L2

/-- an exception of class c with the fields fs -/
def ExR (L : Lk) (φ : Ph) (H : Hp) (c : String) (fs : List (String × Val)) (cls : Value) (d : Option Addr) : Prop :=
  ∃ C, L.exc c = some C ∧ cls = .ref C ∧ ((fs = [] ∧ d = none) ∨ ∃ dd xs, d = some dd ∧ H dd = some (.xd xs) ∧ (true, dd) ∉ φ ∧ FRs L φ H fs xs)
def Post {α β : Type} (L : Lk) (φ : Ph) (H : Hp) (rel : Ph → Hp → α → β → Prop) (r : Res α) (Q : β → Hp → Prop) (E : XK) : Prop :=
  match r with
  | .ok m h' => ∀ (v : β) (H' : Hp) (φ' : Ph), Ext L φ H φ' H' → Rel L φ' h' H' → rel φ' H' m v → Q v H'
  | .err c fs h' => ∀ (cls : Value) (d : Option Addr) (H' : Hp) (φ' : Ph), Ext L φ H φ' H' → Rel L φ' h' H' → ExR L φ' H' c fs cls d → E cls d H'
  | .bad => False
section
variable {α β γ δ : Type} {L : Lk} {φ φ1 : Ph} {H H1 : Hp} {rel : Ph → Hp → α → β → Prop} {rel0 : Ph → Hp → γ → δ → Prop} {r : Res α} {Q Q' : β → Hp → Prop} {E : XK}
theorem Post.step (e : Ext L φ H φ1 H1) (h : Post L φ H rel r Q E) : Post L φ1 H1 rel r Q E := by
  cases r with
  | ok m h' => exact fun v H' φ' x R q => h v H' φ' (e.trans x) R q
  | err c fs h' => exact fun cls d H' φ' x R q => h cls d H' φ' (e.trans x) R q
  | bad => exact h
theorem Post.imp (h : Post L φ H rel r Q E) (k : ∀ v H', Q v H' → Q' v H') : Post L φ H rel r Q' E := by
  cases r with
  | ok m h' => exact fun v H' φ' x R q => k _ _ (h v H' φ' x R q)
  | err c fs h' => exact h
  | bad => exact h
theorem Post.bind {g : Res γ} {f : γ → MH → Res α} (h : Post L φ H rel (g.bind f) Q E) :
    Post L φ H rel0 g (fun v H' => ∃ φ' h' a, Ext L φ H φ' H' ∧ Rel L φ' h' H' ∧ rel0 φ' H' a v ∧ Post L φ' H' rel (f a h') Q E) E := by
  cases g with
  | ok m h' => exact fun v H' φ' x R q => ⟨φ', h', m, x, R, q, Post.step x h⟩
  | err c fs h' => exact h
  | bad => exact h
end

theorem Post.bindE {α β γ δ : Type} {L : Lk} {φ : Ph} {H : Hp} {rel : Ph → Hp → α → β → Prop} {rel0 : Ph → Hp → γ → δ → Prop} {Q : β → Hp → Prop} {E : XK} {g : Res γ} {f : γ → MH → Res α} (h : Post L φ H rel (g.bind f) Q E) :
    Post L φ H rel0 g (fun v H' => ∃ φ' h' a, g = .ok a h' ∧ Ext L φ H φ' H' ∧ Rel L φ' h' H' ∧ rel0 φ' H' a v ∧ Post L φ' H' rel (f a h') Q E) E := by
  cases g with
  | ok m h' => exact fun v H' φ' x R q => ⟨φ', h', m, rfl, x, R, q, Post.step x h⟩
  | err c fs h' => exact h
  | bad => exact h
/-- the names -/
structure EnvR (L : Lk) (φ : Ph) (H : Hp) (ρ : Env') (σ : L2.St) : Prop where
  len : ρ.length = σ.length
  get : ∀ (i : Nat) (v : Val), ρ[i]? = some (some v) → ∃ x, σ[i]? = some (some x) ∧ VR L φ H v x
theorem EnvR.mono {L : Lk} {φ φ' : Ph} {H H' : Hp} {ρ : Env'} {σ : L2.St} (r : EnvR L φ H ρ σ) (e : Ext L φ H φ' H') : EnvR L φ' H' ρ σ :=
  ⟨r.len, fun i v h => let ⟨x, a, b⟩ := r.get i v h; ⟨x, a, b.mono e⟩⟩
theorem EnvR.set {L : Lk} {φ : Ph} {H : Hp} {ρ : Env'} {σ : L2.St} (r : EnvR L φ H ρ σ) {v : Val} {x : V} (h : VR L φ H v x) (j : Nat) : EnvR L φ H (ρ.set j (some v)) (σ.set j (some x)) := by
  refine ⟨by simp [r.len], fun i w hi => ?_⟩
  by_cases e : j = i
  · subst e
    by_cases c : j < ρ.length
    · rw [List.getElem?_set_self c] at hi
      cases hi
      exact ⟨x, List.getElem?_set_self (by rw [← r.len]; exact c), h⟩
    · rw [List.getElem?_eq_none (by simpa using c)] at hi; cases hi
  · rw [List.getElem?_set_ne e] at hi
    obtain ⟨y, a, b⟩ := r.get i w hi
    exact ⟨y, by rw [List.getElem?_set_ne e]; exact a, b⟩
theorem wipe'_len (ρ : Env') : ∀ vs : List Nat, (wipe' ρ vs).length = ρ.length
  | [] => rfl
  | v :: vs => by unfold wipe'; rw [List.length_set, wipe'_len ρ vs]
theorem EnvR.wipe {L : Lk} {φ : Ph} {H : Hp} {ρ : Env'} {σ : L2.St} (r : EnvR L φ H ρ σ) : ∀ vs : List Nat, EnvR L φ H (wipe' ρ vs) (L2.wipe σ vs)
  | [] => r
  | v :: vs => by
    have ih := r.wipe vs
    refine ⟨by simp [wipe', L2.wipe, ih.len], fun i w hi => ?_⟩
    unfold wipe' at hi
    unfold L2.wipe
    by_cases e : v = i
    · subst e
      by_cases c : v < (wipe' ρ vs).length
      · rw [List.getElem?_set_self c] at hi; cases hi
      · rw [List.getElem?_eq_none (by simpa using c)] at hi; cases hi
    · rw [List.getElem?_set_ne e] at hi ⊢
      exact ih.get i w hi

abbrev vR (L : Lk) : Ph → Hp → Val → V → Prop := VR L
abbrev vRs (L : Lk) : Ph → Hp → List Val → List V → Prop := VRs L
/-- the reading that Mini's run gives -/
def tM (L : Lk) (P : Pg) (W : WX) (e : E) : TE := fun σ H Q => ∃ φ h ρ, Rel L φ h H ∧ EnvR L φ H ρ σ ∧ Post L φ H (vR L) (evE P e ρ h) Q (fun c d H' => W c d σ H')
def tMs (L : Lk) (P : Pg) (W : WX) (es : List E) : TA := fun σ H Q => ∃ φ h ρ, Rel L φ h H ∧ EnvR L φ H ρ σ ∧ Post L φ H (vRs L) (evEs P es ρ h) Q (fun c d H' => W c d σ H')
def tMT (L : Lk) (P : Pg) (W : WX) (e : E) : TT := fun σ H Q => tM L P W e σ H fun v H' => ∃ b, v = .bl b ∧ Q b H'
def rOp (L : Lk) (f : Val → Val → MH → Res Val) : R2 := fun x y H Q => ∃ φ h v w, Rel L φ h H ∧ VR L φ H v x ∧ VR L φ H w y ∧ Post L φ H (vR L) (f v w h) Q (fun _ _ _ => False)
def rUn (L : Lk) (f : Val → MH → Res Val) : V → Hp → VK → Prop := fun x H Q => ∃ φ h v, Rel L φ h H ∧ VR L φ H v x ∧ Post L φ H (vR L) (f v h) Q (fun _ _ _ => False)
def rCl (L : Lk) (f : List Val → MH → Res Val) : List V → Hp → VK → Prop := fun xs H Q => ∃ φ h vs, Rel L φ h H ∧ VRs L φ H vs xs ∧ Post L φ H (vR L) (f vs h) Q (fun _ _ _ => False)
def rMt (L : Lk) (f : Val → List Val → MH → Res Val) : V → List V → Hp → VK → Prop := fun x xs H Q => ∃ φ h v vs, Rel L φ h H ∧ VR L φ H v x ∧ VRs L φ H vs xs ∧ Post L φ H (vR L) (f v vs h) Q (fun _ _ _ => False)

section
variable {X : Cx}
theorem PE.weak {e : Expr} {t t' : TE} (h : PE X e t) (k : ∀ σ H Q, t' σ H Q → t σ H Q) : PE X e t' := ⟨fun pins s σ H Q I q => h.run pins s σ H Q I (k σ H Q q)⟩
theorem PT.weak {e : Expr} {t t' : TT} (h : PT X e t) (k : ∀ σ H Q, t' σ H Q → t σ H Q) : PT X e t' := ⟨fun pins s σ H Q I q => h.run pins s σ H Q I (k σ H Q q)⟩
theorem PW.weak {e : Expr} {t t' : TT} (h : PW X e t) (k : ∀ σ H Q, t' σ H Q → t σ H Q) : PW X e t' := ⟨fun wh pins s σ H Q I q => h.run wh pins s σ H Q I (k σ H Q q)⟩
theorem PA.weak {e : List Expr} {t t' : TA} (h : PA X e t) (k : ∀ σ H Q, t' σ H Q → t σ H Q) : PA X e t' := ⟨fun pos pins s σ H Q I q => h.run pos pins s σ H Q I (k σ H Q q)⟩
theorem PS.weak {e : Stmt} {t t' : TS} (h : PS X e t) (k : ∀ D σ H, t' D σ H → t D σ H) : PS X e t' := ⟨fun pins s σ H D I q => h.run pins s σ H D I (k D σ H q)⟩
theorem PSs.weak {e : List Stmt} {t t' : TS} (h : PSs X e t) (k : ∀ D σ H, t' D σ H → t D σ H) : PSs X e t' := ⟨fun pins s σ H D I q => h.run pins s σ H D I (k D σ H q)⟩
theorem PI.weak {tg e : Expr} {t t' : TI} (h : PI X tg e t) (k : ∀ σ H Q, t' σ H Q → t σ H Q) : PI X tg e t' := ⟨fun pins s σ H Q I q => h.run pins s σ H Q I (k σ H Q q)⟩
theorem PI.or {tg e : Expr} {t t' : TI} (h : PI X tg e t) (h' : PI X tg e t') : PI X tg e (fun σ H R => t σ H R ∨ t' σ H R) := ⟨fun pins s σ H Q I q => q.elim (h.run pins s σ H Q I) (h'.run pins s σ H Q I)⟩
theorem OpR.weak {f : Value → Value → Sem Value} {r r' : R2} (h : OpR X f r) (k : ∀ x y H Q, r' x y H Q → r x y H Q) : OpR X f r' := fun pins s σ H x y v u Q I rx ry q => h pins s σ H x y v u Q I rx ry (k _ _ _ _ q)
end

/-! ### binary operators -/
section
variable {X : Cx} {L : Lk}
theorem VR.intI {φ : Ph} {H : Hp} {i : Int} {x : V} (h : VR L φ H (.int i) x) : x = .int i := by cases h; rfl
theorem VR.strI {φ : Ph} {H : Hp} {i : Str} {x : V} (h : VR L φ H (.str i) x) : x = .str i := by cases h; rfl
theorem VR.blI {φ : Ph} {H : Hp} {i : Bool} {x : V} (h : VR L φ H (.bl i) x) : x = .bl i := by cases h; rfl
theorem VR.nonI {φ : Ph} {H : Hp} {x : V} (h : VR L φ H .non x) : x = .non := by cases h; rfl
theorem VR.tupI {φ : Ph} {H : Hp} {vs : List Val} {x : V} (h : VR L φ H (.tup vs) x) : ∃ a xs, x = .ref a ∧ SqT L.K H a xs ∧ VRs L φ H vs xs := by
  cases h with
  | tup a b => exact ⟨_, _, rfl, a.sq, b⟩
theorem VR.tupU {φ : Ph} {H : Hp} {vs : List Val} {x : V} (h : VR L φ H (.tup vs) x) : ∃ a xs, x = .ref a ∧ TuA L.K H a xs ∧ VRs L φ H vs xs := by
  cases h with
  | tup a b => exact ⟨_, _, rfl, a, b⟩
theorem VR.keyT {φ : Ph} {H : Hp} {v : Val} {x : V} {c : List Key} (h : VR L φ H v x) (e : keyT v = some c) : ∃ b, x = .ref b ∧ H b = some (.tup (c.map kV)) := by
  unfold Mn.keyT at e
  split at e
  · rename_i s i
    cases e
    obtain ⟨a, xs, rfl, t, r⟩ := h.tupU
    cases r with
    | cons r1 r =>
      cases r with
      | cons r2 r =>
        cases r
        rw [VR.strI r1, VR.intI r2] at t
        rcases t with t | t
        · exact ⟨a, rfl, t⟩
        · exact absurd rfl (t.1 s i)
  · cases e
theorem VR.refI {φ : Ph} {H : Hp} {i : Nat} {x : V} (h : VR L φ H (.ref i) x) : ∃ a, x = .ref a ∧ At φ i a := by
  cases h with
  | ref a => exact ⟨_, rfl, a⟩
theorem VRs.length {φ : Ph} {H : Hp} : ∀ {vs : List Val} {xs : List V}, VRs L φ H vs xs → vs.length = xs.length
  | _, _, .nil => rfl
  | _, _, .cons _ t => by simp [t.length]
theorem VRs.append {φ : Ph} {H : Hp} : ∀ {vs ws : List Val} {xs ys : List V}, VRs L φ H vs xs → VRs L φ H ws ys → VRs L φ H (vs ++ ws) (xs ++ ys)
  | _, _, _, _, .nil, q => q
  | _, _, _, _, .cons h t, q => .cons h (t.append q)
theorem VRs.drop {φ : Ph} {H : Hp} : ∀ (n : Nat) {vs : List Val} {xs : List V}, VRs L φ H vs xs → VRs L φ H (vs.drop n) (xs.drop n)
  | 0, _, _, q => q
  | _ + 1, _, _, .nil => .nil
  | n + 1, _, _, .cons _ t => t.drop n
theorem VRs.take {φ : Ph} {H : Hp} : ∀ (n : Nat) {vs : List Val} {xs : List V}, VRs L φ H vs xs → VRs L φ H (vs.take n) (xs.take n)
  | 0, _, _, _ => .nil
  | _ + 1, _, _, .nil => .nil
  | n + 1, _, _, .cons h t => .cons h (t.take n)
theorem VRs.get {φ : Ph} {H : Hp} : ∀ {vs : List Val} {xs : List V} {i : Nat} {v : Val}, VRs L φ H vs xs → vs[i]? = some v → ∃ x, xs[i]? = some x ∧ VR L φ H v x
  | _, _, _, _, .nil, e => by simp at e
  | _, _, 0, _, .cons r _, e => by simp at e; subst e; exact ⟨_, rfl, r⟩
  | _, _, i + 1, v, .cons _ t, e => by
    obtain ⟨u, h1, h2⟩ := t.get (i := i) (v := v) (by simpa using e)
    exact ⟨u, by simpa using h1, h2⟩
theorem VRs.set {φ : Ph} {H : Hp} {v : Val} {x : V} (h : VR L φ H v x) : ∀ {vs : List Val} {xs : List V} (i : Nat), VRs L φ H vs xs → VRs L φ H (vs.set i v) (xs.set i x)
  | _, _, _, .nil => .nil
  | _, _, 0, .cons _ t => .cons h t
  | _, _, i + 1, .cons q t => .cons q (t.set h i)
theorem VRs.nil_iff {φ : Ph} {H : Hp} {vs : List Val} {xs : List V} (h : VRs L φ H vs xs) : xs = [] ↔ vs = [] := by
  cases h <;> simp
theorem OR.lstI {φ : Ph} {H : Hp} {a : Addr} {w : Bool} {vs : List Val} (h : OR L φ H a (.lst w vs)) : ∃ xs, SqL L.K H a xs ∧ VRs L φ H vs xs ∧ (w = true → H a = some (.lst xs)) := by
  cases h with
  | lst h r => exact ⟨_, .of h, r, fun _ => h⟩
  | ro h r => exact ⟨_, h.sq, r, fun z => by cases z⟩
theorem Rel.at {φ : Ph} {h : MH} {H : Hp} (R : Rel L φ h H) {i : Nat} {o : Ob} {x : V} (hi : h[i]? = some o) (v : VR L φ H (.ref i) x) : ∃ a, x = .ref a ∧ (At φ i a ∧ (wr o = true → φ[i]? = some (true, a))) ∧ OR L φ H a o := by
  obtain ⟨a, rfl, w, e⟩ := v.refI
  obtain ⟨w', b, e', hw, q⟩ := R.obj i o hi
  rw [e] at e'; cases e'
  exact ⟨a, rfl, ⟨⟨w, e⟩, fun z => by rw [e, hw z]⟩, q⟩
theorem VRs.reverse {φ : Ph} {H : Hp} : ∀ {vs : List Val} {xs : List V}, VRs L φ H vs xs → VRs L φ H vs.reverse xs.reverse
  | _, _, .nil => .nil
  | _, _, .cons h t => by rw [List.reverse_cons, List.reverse_cons]; exact t.reverse.append (.cons h .nil)
theorem OR.dctI {φ : Ph} {H : Hp} {a : Addr} {w : Bool} {kvs : List (Key × Val)} (h : OR L φ H a (.dct w kvs)) : ∃ xs, Rd H a (.dK xs) ∧ KRs L φ H kvs xs ∧ (w = true → H a = some (.dK xs)) ∧ (w = false → ∃ ob, H a = some (.frz ob (.dK xs))) := by
  cases h with
  | dK h r => exact ⟨_, .inl h, r, (fun _ => h), fun z => Bool.noConfusion z⟩
  | dF h r => exact ⟨_, .inr ⟨_, h⟩, r, (fun z => Bool.noConfusion z), fun _ => ⟨_, h⟩⟩
theorem KRs.length {κ : Type} {φ : Ph} {H : Hp} : ∀ {kvs : List (κ × Val)} {xs : List (κ × V)}, KRs L φ H kvs xs → kvs.length = xs.length
  | _, _, .nil => rfl
  | _, _, .cons _ t => by simp [t.length]
theorem KRs.hit {κ : Type} [DecidableEq κ] {φ : Ph} {H : Hp} {c : κ} {v : Val} : ∀ {kvs : List (κ × Val)} {xs : List (κ × V)}, KRs L φ H kvs xs → getC c kvs = some v → ∃ x, valV xs c = some x ∧ VR L φ H v x
  | _, _, .nil, e => by cases e
  | _, _, .cons (c := d) (x := x) (v := w) (kvs := ks) h t, e => by
    by_cases q : d = c
    · have e' : some w = some v := by simpa [getC, List.find?_cons, q] using e
      cases e'
      exact ⟨x, valV_pos (p := (d, x)) q, h⟩
    · have e' : getC c ks = Option.some v := by simpa [getC, List.find?_cons, q] using e
      obtain ⟨y, e1, e2⟩ := t.hit e'
      exact ⟨y, by rw [valV_neg (p := (d, x)) q]; exact e1, e2⟩
theorem KRs.miss {κ : Type} [DecidableEq κ] {φ : Ph} {H : Hp} {c : κ} : ∀ {kvs : List (κ × Val)} {xs : List (κ × V)}, KRs L φ H kvs xs → getC c kvs = none → valV xs c = none
  | _, _, .nil, _ => rfl
  | _, _, .cons (c := d) (x := x) (v := w) (kvs := ks) h t, e => by
    by_cases q : d = c
    · have e' : Option.some w = Option.none := by simpa [getC, List.find?_cons, q] using e
      cases e'
    · have e' : getC c ks = Option.none := by simpa [getC, List.find?_cons, q] using e
      rw [valV_neg (p := (d, x)) q]
      exact t.miss e'
theorem KRs.isSome {κ : Type} [DecidableEq κ] {φ : Ph} {H : Hp} {c : κ} {kvs : List (κ × Val)} {xs : List (κ × V)} (r : KRs L φ H kvs xs) : (valV xs c).isSome = (getC c kvs).isSome := by
  cases e : getC c kvs with
  | none => rw [r.miss e]; rfl
  | some v =>
    obtain ⟨x, e1, _⟩ := r.hit e
    rw [e1]; rfl
theorem KRs.repl {κ : Type} [DecidableEq κ] {φ : Ph} {H : Hp} {c : κ} {v : Val} {x : V} (rv : VR L φ H v x) : ∀ {kvs : List (κ × Val)} {xs : List (κ × V)}, KRs L φ H kvs xs → KRs L φ H (kvs.map fun p => if p.1 = c then (p.1, v) else p) (xs.map fun p => if p.1 = c then (p.1, x) else p)
  | _, _, .nil => .nil
  | _, _, .cons (c := d) h t => by
    rw [List.map_cons, List.map_cons]
    by_cases q : d = c
    · rw [if_pos q, if_pos q]; exact .cons rv (t.repl rv)
    · rw [if_neg q, if_neg q]; exact .cons h (t.repl rv)
theorem KRs.snoc {κ : Type} {φ : Ph} {H : Hp} {c : κ} {v : Val} {x : V} (rv : VR L φ H v x) : ∀ {kvs : List (κ × Val)} {xs : List (κ × V)}, KRs L φ H kvs xs → KRs L φ H (kvs ++ [(c, v)]) (xs ++ [(c, x)])
  | _, _, .nil => .cons rv .nil
  | _, _, .cons h t => .cons h (t.snoc rv)
theorem KRs.put {κ : Type} [DecidableEq κ] {φ : Ph} {H : Hp} {c : κ} {v : Val} {x : V} (rv : VR L φ H v x) {kvs : List (κ × Val)} {xs : List (κ × V)} (r : KRs L φ H kvs xs) : KRs L φ H (putC c v kvs) (putK xs c x) := by
  have any : ∀ {kvs : List (κ × Val)} {xs : List (κ × V)}, KRs L φ H kvs xs → (kvs.any fun p => decide (p.1 = c)) = xs.any fun p => decide (p.1 = c) := by
    intro kvs xs r
    induction r with
    | nil => rfl
    | cons h t ih => rw [List.any_cons, List.any_cons, ih]
  unfold putC putK
  rw [any r]
  by_cases e : (xs.any fun p => decide (p.1 = c)) = true
  · rw [if_pos e, if_pos e]; exact r.repl rv
  · rw [if_neg e, if_neg e]; exact r.snoc rv
theorem kVal_ok {φ : Ph} {H : Hp} : ∀ c : Key, VR L φ H (kVal c) (kV c)
  | .inl i => .int i
  | .inr x => .str x
theorem KRs.keys {φ : Ph} {H : Hp} : ∀ {kvs : List (Key × Val)} {xs : List (Key × V)}, KRs L φ H kvs xs → VRs L φ H (kvs.map fun p => kVal p.1) (xs.map fun p => kV p.1)
  | _, _, .nil => .nil
  | _, _, .cons h t => .cons (kVal_ok _) t.keys
theorem KRs.get {φ : Ph} {H : Hp} : ∀ {kvs : List (Key × Val)} {xs : List (Key × V)} {i : Nat} {p : Key × V}, KRs L φ H kvs xs → xs[i]? = Option.some p → ∃ v, kvs[i]? = Option.some (p.1, v) ∧ VR L φ H v p.2
  | _, _, _, _, .nil, e => by simp at e
  | _, _, 0, _, .cons h _, e => by simp at e; subst e; exact ⟨_, rfl, h⟩
  | _, _, i + 1, p, .cons _ t, e => by
    obtain ⟨v, h1, h2⟩ := t.get (i := i) (p := p) (by simpa using e)
    exact ⟨v, by simpa using h1, h2⟩
theorem VR.key {φ : Ph} {H : Hp} {v : Val} {x : V} {c : Key} (r : VR L φ H v x) (e : keyV v = Option.some c) : x = kV c := by
  cases r <;> cases e <;> rfl
/-- no dict -/
def noD (h : MH) (v : Val) : Prop := ∀ a, v = .ref a → (∀ w kvs, h[a]? ≠ Option.some (.dct w kvs)) ∧ ∀ kvs, h[a]? ≠ Option.some (.dtt kvs)
/-- what a dict tells of a key -/
def askO (o : Ob) (k : Val) : Option (Option Val) := match o with
  | .dct w kvs => if emT w kvs k = true then Option.some Option.none else (keyV k).map fun c => getC c kvs
  | .dtt kvs => (Mn.keyT k).map fun c => getC c kvs
  | _ => Option.none
/-- an empty dict is one of either kind -/
theorem inv_KT {pins : List (Addr × Obj)} {σ : L2.St} {H : Hp} {s : Shared} {a : Addr} (I : Inv X pins σ H s) (e : H a = Option.some (.dK [])) : Inv X pins σ (upd H a (.dT [])) s := by
  obtain ⟨z, hd, vs, rel, dd⟩ := dk_of I.hok e
  cases rel
  obtain ⟨q, es, ep, hq, h2, h3, h4, h5, h6⟩ := dd
  have e0 : es.toList = [] := List.length_eq_zero_iff.mp h5.length
  exact d_write (h' := s.heap) (t' := s.toks) I (by rw [e]; exact True.intro) (Heap.SameBut.refl a s.heap) ⟨q, hq⟩ ⟨Nat.zero_le _, hd, [], .nil, q, es, ep, hq, h2, h3, e0, List.nodup_nil⟩
theorem inv_TK {pins : List (Addr × Obj)} {σ : L2.St} {H : Hp} {s : Shared} {a : Addr} (I : Inv X pins σ H s) (e : H a = Option.some (.dT [])) : Inv X pins σ (upd H a (.dK [])) s := by
  obtain ⟨z, hd, vs, rel, dd⟩ := dt_of I.hok e
  cases rel
  obtain ⟨q, es, ep, hq, h2, h3, h4, h5, h6⟩ := dd
  have h4' : es.toList = [] := h4
  exact d_write (h' := s.heap) (t' := s.toks) I (by rw [e]; exact True.intro) (Heap.SameBut.refl a s.heap) ⟨q, hq⟩ ⟨Nat.zero_le _, hd, [], .nil, q, es, ep, hq, h2, h3, (fun e he => by rw [← Array.mem_toList_iff, h4'] at he; cases he), (by rw [h4']; exact Pairs.nil), List.nodup_nil⟩
theorem ask_run {pins : List (Addr × Obj)} {σ : L2.St} {H : Hp} {s : Shared} {φ : Ph} {h : MH} {i : Nat} {k : Val} {x y : V} {ob : Ob} {o : Option Val} {C : Prop} (I : Inv X pins σ H s) (R : Rel L φ h H) (vd : VR L φ H (.ref i) x) (vk : VR L φ H k y) (hi : h[i]? = Option.some ob) (e : askO ob k = Option.some o)
    (go : ∀ (p : Addr) (H' : Hp) (o' : Option V), x = .ref p → Inv X pins σ H' s → DGet H' p y o' → (∀ s', Inv X pins σ H' s' → Inv X pins σ H s') → (o'.isSome = o.isSome) → (VR L φ H (o.getD .non) (o'.getD .non)) → (∀ w z, VR L φ H w z → VR L φ H (o.getD w) (o'.getD z)) → C) : C := by
  obtain ⟨p, rfl, _, q⟩ := R.at hi vd
  have vals : ∀ {κ : Type} [DecidableEq κ] {c : κ} {kvs : List (κ × Val)} {ys : List (κ × V)} {w : Val} {z : V}, KRs L φ H kvs ys → VR L φ H w z → VR L φ H ((getC c kvs).getD w) ((valV ys c).getD z) := by
    intro κ _ c kvs ys w z kr rw
    cases e : getC c kvs with
    | none => rw [kr.miss e]; exact rw
    | some v =>
      obtain ⟨x, e1, r⟩ := kr.hit e
      rw [e1]; exact r
  cases ob with
  | dct w kvs =>
    obtain ⟨ys, q1, kr, kk, _⟩ := q.dctI
    simp only [askO] at e
    by_cases c : emT w kvs k = true
    · rw [if_pos c] at e
      cases e
      unfold emT at c
      simp only [Bool.and_eq_true] at c
      obtain ⟨⟨c1, c2⟩, c3⟩ := c
      obtain ⟨ks, ek⟩ := Option.isSome_iff_exists.mp c3
      obtain rfl := List.isEmpty_iff.mp c2
      cases kr
      have hp := kk c1
      obtain ⟨b, rfl, hb⟩ := vk.keyT ek
      have ne : b ≠ p := fun z => by rw [z, hp] at hb; cases hb
      have I' := inv_KT I hp
      refine go p (upd H p (.dT [])) none rfl I' (.inr ⟨[], ks, b, .inl upd_same, rfl, (upd_ne ne).trans hb, rfl⟩) (fun s' I2 => ?_) rfl .non (fun _ _ r => r)
      have I3 := inv_TK I2 upd_same
      have eh : upd (upd H p (.dT [])) p (.dK []) = H := by
        funext a
        by_cases z : a = p
        · subst z; rw [upd_same, hp]
        · rw [upd_ne z, upd_ne z]
      rw [eh] at I3
      exact I3
    · rw [if_neg c] at e
      obtain ⟨c, ek, rfl⟩ := Option.map_eq_some_iff.mp e
      exact go p H _ rfl I (.inl ⟨ys, c, q1, vk.key ek, rfl⟩) (fun _ z => z) kr.isSome (vals kr .non) (fun _ _ r => vals kr r)
  | dtt kvs =>
    simp only [askO] at e
    obtain ⟨c, ek, rfl⟩ := Option.map_eq_some_iff.mp e
    cases q with
    | dT hq kr =>
      obtain ⟨b, rfl, hb⟩ := vk.keyT ek
      exact go p H _ rfl I (.inr ⟨_, c, b, .inl hq, rfl, hb, rfl⟩) (fun _ z => z) kr.isSome (vals kr .non) (fun _ _ r => vals kr r)
  | lst _ _ => cases e
  | ins _ _ => cases e
/-- nothing changes -/
theorem Post.here {φ : Ph} {h : MH} {H : Hp} {v : Val} {x : V} {Q : VK} {E : XK} (R : Rel L φ h H) (r : VR L φ H v x) (p : Post L φ H (vR L) (.ok v h) Q E) : Q x H := p x H φ Ext.refl R r
/-- a new tuple -/
theorem Post.tup {φ : Ph} {h : MH} {H : Hp} {vs : List Val} {xs : List V} {Q : VK} {E : XK} (R : Rel L φ h H) (r : VRs L φ H vs xs) (p : Post L φ H (vR L) (.ok (.tup vs) h) Q E) {a : Addr} (ha : H a = none) : Q (.ref a) (upd H a (.tup xs)) :=
  p (.ref a) _ φ (Ext.side ha) (R.side ha) (.tup (.inl upd_same) (r.mono (Ext.side ha)))
/-- a new list -/
theorem Post.lst {φ : Ph} {h : MH} {H : Hp} {vs : List Val} {xs : List V} {Q : VK} {E : XK} (R : Rel L φ h H) (r : VRs L φ H vs xs) (p : Post L φ H (vR L) (alloc (.lst true vs) h) Q E) {a : Addr} (ha : H a = none) : Q (.ref a) (upd H a (.lst xs)) :=
  p (.ref a) _ (φ ++ [(true, a)]) (Ext.alloc ha) (R.alloc ha (fun _ z => by cases z) (.lst upd_same (r.mono (Ext.alloc ha)))) (.ref ⟨true, by rw [← R.len]; simp⟩)
theorem Post.dct {φ : Ph} {h : MH} {H : Hp} {vs : List (Key × Val)} {xs : List (Key × V)} {Q : VK} {E : XK} (R : Rel L φ h H) (r : KRs L φ H vs xs) (p : Post L φ H (vR L) (alloc (.dct true vs) h) Q E) {a : Addr} (ha : H a = none) : Q (.ref a) (upd H a (.dK xs)) :=
  p (.ref a) _ (φ ++ [(true, a)]) (Ext.alloc ha) (R.alloc ha (fun _ z => by cases z) (.dK upd_same (r.mono (Ext.alloc ha)))) (.ref ⟨true, by rw [← R.len]; simp⟩)
end
end Mn
namespace Mn
open PySem PySem.Spec PyProof.Rows L2
theorem list_addW (l : Addr) (items : Array Value) (n : Nat) (b : Addr) (items2 : Array Value) (n2 : Nat) (sl sl2 : Array (Option Value)) (hc0 : items.size + items2.size ≤ sizeLine) :
    Meets (Builtin.«list.__add__» ⟨[.ref l, .ref b], []⟩) (fun _ R s => s.heap.get? l = some { cls := .type "list", dict := none, data := .seq items n, slots := sl } ∧ s.heap.get? b = some { cls := .type "list", dict := none, data := .seq items2 n2, slots := sl2 } ∧ R (.ok (.ret (Value.ref s.heap.objs.size))) { s with heap := s.heap.push { cls := Value.type "list", data := Data.seq (items ++ items2) }, toks := s.toks }) :=
  .of_wp fun prog w A R s h => by obtain ⟨hp, g, d, tk, os⟩ := s; obtain ⟨hl, hb, h⟩ := h; have f1 := AutoSeq1.idx_int; have f2 := AutoSeq1.sub_tuple_tuple; have f3 := AutoSeq1.sub_list_list; have f4 := AutoSeq1.sub_tuple_list; have f5 := AutoSeq1.sub_list_tuple; wp_walk using wpAny_loadPart' hl, wpAny_loadPart' hb; exact ⟨_, rfl, h⟩
section
variable {X : Cx} {L : Lk}
theorem CMulX {i j : Int} (h : mulOk i j) : IntMulOk i j := by
  rcases h with h | h | h
  · exact CMul.ok (.inl h)
  · exact CMul.ok (.inr h)
  · exact CMulW.ok h
theorem op_mulX : OpR X (binaryOp .Mult) (rI mulOk fun i j => .int (i * j)) := opI fun _ _ _ _ _ _ _ hc q => mul_int q (CMulX hc)
/-- two lists put together, the script too -/
theorem op_catR : OpR X (binaryOp .Add) (fun x y H Q => ∃ l b xs zs, x = .ref l ∧ y = .ref b ∧ SqL X.K H l xs ∧ SqL X.K H b zs ∧ xs.length + zs.length ≤ sizeLine ∧ ∀ p, H p = none → Q (.ref p) (upd H p (.lst (xs ++ zs)))) := by
  intro pins s σ H x y v u Q I rx ry h
  obtain ⟨l, b, xs, zs, rfl, rfl, hH, hB, hz, q⟩ := h
  cases rx
  cases ry
  obtain ⟨its, r, ⟨⟨oc, od, odt, osl⟩, n, e, ec, ed, ee⟩, z⟩ := I.list hH
  obtain ⟨its2, r2, ⟨⟨oc2, od2, odt2, osl2⟩, n2, e2, ec2, ed2, ee2⟩, z2⟩ := I.list hB
  simp only at ec ed ee ec2 ed2 ee2
  subst ec ed ee ec2 ed2 ee2
  have l1 := r.length
  have l2 := r2.length
  refine concat_meets ⟨_, e, rfl⟩ ⟨_, e2, rfl⟩ noFill_list_add seq_list_add PySem.F.slot_list_add PySem.F.entry_list_add (PySem.F.args_list_add_2 _ _)
    (list_addW l its.toArray n b its2.toArray n2 osl osl2 (by rw [List.size_toArray, List.size_toArray]; omega)) ⟨e, e2, ?_⟩
  have ea : its.toArray ++ its2.toArray = (its ++ its2).toArray := by simp
  rw [ea]
  exact ⟨.ref _, _, I.lnew (t' := s.toks) (r.append r2) (by rw [List.length_append]; omega), rfl, q _ I.fresh⟩

/-- a text, so many times -/
theorem op_mulS : OpR X (binaryOp .Mult) (fun x y H Q => ∃ z k, x = .str z ∧ y = .int k ∧ (1 ≤ z.length ∧ 0 ≤ k ∧ z.length * k.toNat ≤ 4096) ∧ Q (.str (repS z k.toNat)) H) := by
  intro pins s σ H x y v u Q I rx ry h
  obtain ⟨z, k, rfl, rfl, ⟨h1, h2, h3⟩, q⟩ := h
  obtain ⟨t, rfl⟩ := rx
  obtain ⟨t', rfl⟩ := ry
  have hk : k.toNat ≤ 4096 := Nat.le_trans (Nat.le_mul_of_pos_left _ h1) h3
  have hz : 1 ≤ k → z.length ≤ 4096 := fun c => Nat.le_trans (Nat.le_mul_of_pos_right _ (by omega)) h3
  have big : (4096 : Nat) ≤ sizeLine := by decide
  refine P.mul_str (by simp; omega) (fun c _ => ?_) (fun _ _ => ?_) ?_
  · have e : (z.length : Int) ≤ (2 ^ 63 - 1) / k := (Int.le_ediv_iff_mul_le (by omega)).mpr (by
      have := hz (by omega)
      have a : (z.length : Int) * k = ((z.length * k.toNat : Nat) : Int) := by rw [Int.natCast_mul]; congr 1; omega
      rw [a]; omega)
    omega
  · unfold Builtin.Str.tooLong
    simp; omega
  · by_cases c : k < 1
    · rw [if_pos c]
      have e : k.toNat = 0 := by omega
      rw [e] at q
      exact ⟨by show (0 : Nat) ≤ _; omega, .str (repS z 0), H, I.tok _, ⟨_, rfl⟩, q⟩
    · rw [if_neg c]
      by_cases d : (k == 1 || z.length == 0) = true
      · rw [if_pos d]
        have e : k.toNat = 1 := by simp at d; omega
        have e2 : repS z 1 = z := by unfold repS; simp
        rw [e, e2] at q
        exact ⟨.str z, H, I.tok _, ⟨_, rfl⟩, q⟩
      · rw [if_neg d]
        have sz : (repS z k.toNat).cps.size = z.length * k.toNat := by
          have f : ∀ (n : Nat) (a : Array Nat), ((List.replicate n z.cps).foldl (· ++ ·) a).size = a.size + z.cps.size * n := by
            intro n
            induction n with
            | zero => intro a; simp
            | succ n ih => intro a; rw [List.replicate_succ, List.foldl_cons, ih, Array.size_append, Nat.mul_succ]; omega
          unfold repS
          rw [f]
          simp [Str.length]
        exact ⟨by show (repS z k.toNat).cps.size ≤ _; omega, .str (repS z k.toNat), H, I.tok _, ⟨_, rfl⟩, q⟩

/-! ### Mini's operators by values -/
theorem VRs.rep {φ : Ph} {H : Hp} {vs : List Val} {xs : List V} (h : VRs L φ H vs xs) : ∀ n : Nat, VRs L φ H (List.replicate n vs).flatten (List.replicate n xs).flatten
  | 0 => .nil
  | n + 1 => VRs.append h (VRs.rep h n)
theorem bin_add (hK : X.K = L.K) : OpR X (binaryOp .Add) (rOp L (binop .Add)) := by
  intro pins s σ H x y v u Q I rx ry hq
  obtain ⟨φ, h, v', w', R, vv, vw, p⟩ := hq
  cases v' <;> cases w' <;> first | exact False.elim p | skip
  · exact op_add pins s σ H x y v u Q I rx ry ⟨_, _, vv.intI, vw.intI, Post.here R (.int _) p⟩
  · rename_i a b
    by_cases c : a.length + b.length ≤ sizeLine
    · replace p : Post L φ H (vR L) (if a.length + b.length ≤ sizeLine then .ok (.str (a ++ b)) h else .bad) Q _ := p
      rw [if_pos c] at p
      exact op_add_str pins s σ H x y v u Q I rx ry ⟨_, _, vv.strI, vw.strI, c, Post.here R (.str _) p⟩
    · replace p : Post L φ H (vR L) (if a.length + b.length ≤ sizeLine then .ok (.str (a ++ b)) h else .bad) Q _ := p
      rw [if_neg c] at p
      exact False.elim p
  · rename_i a b
    replace p : Post L φ H (vR L) (if a.length + b.length ≤ sizeLine then .ok (.tup (a ++ b)) h else .bad) Q _ := p
    by_cases c : a.length + b.length ≤ sizeLine
    · rw [if_pos c] at p
      obtain ⟨a1, xs, rfl, q1, r1⟩ := vv.tupI
      obtain ⟨a2, ys, rfl, q2, r2⟩ := vw.tupI
      refine op_catA pins s σ H _ _ v u Q I rx ry ⟨a1, a2, xs, ys, rfl, rfl, hK ▸ q1, hK ▸ q2, by rw [← r1.length, ← r2.length]; exact c, fun e => ?_, fun _ e => ?_, fun _ _ d hd => ?_⟩
      · rw [r1.nil_iff] at e
        subst e
        exact Post.here R vw p
      · rw [r2.nil_iff] at e
        subst e
        rw [List.append_nil] at p
        exact Post.here R vv p
      · exact Post.tup R (r1.append r2) p hd
    · rw [if_neg c] at p
      exact False.elim p
  · rename_i a b
    replace p : Post L φ H (vR L) (match h[a]?, h[b]? with
      | some (.lst _ xs), some (.lst _ ys) => if xs.length + ys.length ≤ sizeLine then alloc (.lst true (xs ++ ys)) h else .bad
      | _, _ => .bad) Q _ := p
    split at p
    · rename_i w1 xs w2 ys e1 e2
      by_cases c : xs.length + ys.length ≤ sizeLine
      · rw [if_pos c] at p
        obtain ⟨a1, rfl, i1, o1⟩ := R.at e1 vv
        obtain ⟨a2, rfl, i2, o2⟩ := R.at e2 vw
        obtain ⟨zs, q1, r1, _⟩ := o1.lstI
        obtain ⟨zs2, q2, r2, _⟩ := o2.lstI
        exact op_catR pins s σ H _ _ v u Q I rx ry ⟨a1, a2, _, _, rfl, rfl, hK ▸ q1, hK ▸ q2, by rw [← r1.length, ← r2.length]; exact c, fun d hd => Post.lst R (r1.append r2) p hd⟩
      · rw [if_neg c] at p
        exact False.elim p
    · exact False.elim p
theorem bin_int {op : Operator} {C : Int → Int → Prop} {g : Int → Int → Int} (ho : OpR X (binaryOp op) (rI C fun i j => .int (g i j)))
    (hb : ∀ (v w : Val) (h : MH), (∃ i j, v = .int i ∧ w = .int j ∧ C i j ∧ binop op v w h = .ok (.int (g i j)) h) ∨ binop op v w h = .bad) : OpR X (binaryOp op) (rOp L (binop op)) := by
  intro pins s σ H x y v u Q I rx ry hq
  obtain ⟨φ, h, v', w', R, vv, vw, p⟩ := hq
  rcases hb v' w' h with ⟨i, j, rfl, rfl, c, e⟩ | e
  · rw [e] at p
    exact ho pins s σ H x y v u Q I rx ry ⟨i, j, vv.intI, vw.intI, c, Post.here R (.int _) p⟩
  · rw [e] at p
    exact False.elim p
theorem int_cases {op : Operator} {C : Int → Int → Prop} {g : Int → Int → Int} [∀ i j, Decidable (C i j)] (h1 : ∀ i j h, binop op (.int i) (.int j) h = if C i j then .ok (.int (g i j)) h else .bad)
    (h2 : ∀ v w h, (∀ i j, ¬ (v = .int i ∧ w = .int j)) → binop op v w h = .bad) (v w : Val) (h : MH) : (∃ i j, v = .int i ∧ w = .int j ∧ C i j ∧ binop op v w h = .ok (.int (g i j)) h) ∨ binop op v w h = .bad := by
  by_cases e : ∃ i j, v = .int i ∧ w = .int j
  · obtain ⟨i, j, rfl, rfl⟩ := e
    rw [h1]
    by_cases c : C i j
    · rw [if_pos c]; exact .inl ⟨i, j, rfl, rfl, c, rfl⟩
    · rw [if_neg c]; exact .inr rfl
  · exact .inr (h2 v w h fun i j z => e ⟨i, j, z⟩)
theorem rI_true {g : Int → Int → V} {f : Value → Value → Sem Value} (h : OpR X f (rI0 g)) : OpR X f (rI (fun _ _ => True) g) := OpR.weak h fun x y H Q ⟨i, j, a, b, _, q⟩ => ⟨i, j, a, b, q⟩
open Classical in
theorem bin_mul (hK : X.K = L.K) : OpR X (binaryOp .Mult) (rOp L (binop .Mult)) := by
  intro pins s σ H x y v u Q I rx ry hq
  obtain ⟨φ, h, v', w', R, vv, vw, p⟩ := hq
  cases v' <;> cases w' <;> first | exact False.elim p | skip
  · rename_i a b
    replace p : Post L φ H (vR L) (if mulOk a b then .ok (.int (a * b)) h else .bad) Q _ := p
    by_cases c : mulOk a b
    · rw [if_pos c] at p
      exact op_mulX pins s σ H x y v u Q I rx ry ⟨_, _, vv.intI, vw.intI, c, Post.here R (.int _) p⟩
    · rw [if_neg c] at p
      exact False.elim p
  · rename_i a b
    replace p : Post L φ H (vR L) (if 1 ≤ a.length ∧ 0 ≤ b ∧ a.length * b.toNat ≤ 4096 then .ok (.str (repS a b.toNat)) h else .bad) Q _ := p
    by_cases c : 1 ≤ a.length ∧ 0 ≤ b ∧ a.length * b.toNat ≤ 4096
    · rw [if_pos c] at p
      exact op_mulS pins s σ H x y v u Q I rx ry ⟨_, _, vv.strI, vw.intI, c, Post.here R (.str _) p⟩
    · rw [if_neg c] at p
      exact False.elim p
  · rename_i a b
    have hb : binop .Mult (.ref a) (.int b) h = match h[a]? with
      | some (.lst true xs) => if 0 ≤ b ∧ b ≤ 4096 ∧ xs.length * b.toNat ≤ 4096 then alloc (.lst true (List.replicate b.toNat xs).flatten) h else .bad
      | _ => .bad := rfl
    rw [hb] at p
    cases e : h[a]? with
    | none => rw [e] at p; exact False.elim p
    | some o =>
      rw [e] at p
      cases o <;> first | exact False.elim p | skip
      rename_i w xs
      cases w
      · exact False.elim p
      replace p : Post L φ H (vR L) (if 0 ≤ b ∧ b ≤ 4096 ∧ xs.length * b.toNat ≤ 4096 then alloc (.lst true (List.replicate b.toNat xs).flatten) h else .bad) Q _ := p
      by_cases c : 0 ≤ b ∧ b ≤ 4096 ∧ xs.length * b.toNat ≤ 4096
      · rw [if_pos c] at p
        obtain ⟨a1, rfl, i1, o1⟩ := R.at e vv
        obtain ⟨zs, q1, r1, hw⟩ := o1.lstI
        have l1 := r1.length
        exact op_rep pins s σ H _ _ v u Q I rx ry ⟨a1, b, zs, rfl, vw.intI, hw rfl, by omega, by omega, by rw [← l1]; exact Nat.le_trans c.2.2 (by decide), fun d hd => Post.lst R (r1.rep _) p hd⟩
      · rw [if_neg c] at p
        exact False.elim p
open Classical in
theorem bin_all (hK : X.K = L.K) (op : Operator) : OpR X (binaryOp op) (rOp L (binop op)) := by
  have bad : ∀ {op}, (∀ v w h, binop op v w h = .bad) → OpR X (binaryOp op) (rOp L (binop op)) := fun hb pins s σ H x y v u Q I rx ry ⟨φ, h, v', w', R, vv, vw, p⟩ => by
    rw [hb] at p; exact False.elim p
  cases op
  case Add => exact bin_add hK
  case Sub => exact bin_int (rI_true op_sub) (int_cases (C := fun _ _ => True) (fun i j h => by rw [if_pos trivial]; rfl) (fun v w h n => by cases v <;> first | rfl | (cases w <;> first | rfl | exact absurd ⟨rfl, rfl⟩ (n _ _))))
  case Mult => exact bin_mul hK
  case FloorDiv => exact bin_int op_fdivW (int_cases (C := CDivW) (fun i j h => by show (if _ then _ else _) = _; congr) (fun v w h n => by cases v <;> first | rfl | (cases w <;> first | rfl | exact absurd ⟨rfl, rfl⟩ (n _ _))))
  case Mod => exact bin_int op_mod (int_cases (C := fun _ j => 0 < j) (fun i j h => by show (if _ then _ else _) = _; congr) (fun v w h n => by cases v <;> first | rfl | (cases w <;> first | rfl | exact absurd ⟨rfl, rfl⟩ (n _ _))))
  case Pow => exact bin_int op_pow (int_cases (C := CPow) (fun i j h => by show (if _ then _ else _) = _; congr) (fun v w h n => by cases v <;> first | rfl | (cases w <;> first | rfl | exact absurd ⟨rfl, rfl⟩ (n _ _))))
  case LShift => exact bin_int op_shl (int_cases (C := CPow) (fun i j h => by show (if _ then _ else _) = _; congr) (fun v w h n => by cases v <;> first | rfl | (cases w <;> first | rfl | exact absurd ⟨rfl, rfl⟩ (n _ _))))
  case RShift => exact bin_int op_shr (int_cases (C := fun _ j => 0 ≤ j) (fun i j h => by show (if _ then _ else _) = _; congr) (fun v w h n => by cases v <;> first | rfl | (cases w <;> first | rfl | exact absurd ⟨rfl, rfl⟩ (n _ _))))
  case BitAnd => exact bin_int (rI_true op_and) (int_cases (C := fun _ _ => True) (fun i j h => by rw [if_pos trivial]; rfl) (fun v w h n => by cases v <;> first | rfl | (cases w <;> first | rfl | exact absurd ⟨rfl, rfl⟩ (n _ _))))
  case BitOr => exact bin_int (rI_true op_or) (int_cases (C := fun _ _ => True) (fun i j h => by rw [if_pos trivial]; rfl) (fun v w h n => by cases v <;> first | rfl | (cases w <;> first | rfl | exact absurd ⟨rfl, rfl⟩ (n _ _))))
  case BitXor => exact bin_int (rI_true op_xor) (int_cases (C := fun _ _ => True) (fun i j h => by rw [if_pos trivial]; rfl) (fun v w h n => by cases v <;> first | rfl | (cases w <;> first | rfl | exact absurd ⟨rfl, rfl⟩ (n _ _))))
  all_goals exact bad fun v w h => by cases v <;> first | rfl | (cases w <;> rfl)
end
end Mn
namespace Mn
open PySem PySem.Spec PyProof.Rows L2
section
variable {X : Cx} {L : Lk}
theorem mapO_cons {α β : Type} {f : α → Option β} {x : α} {r : List α} {d : List β} (h : mapO f (x :: r) = some d) : ∃ y ys, f x = some y ∧ mapO f r = some ys ∧ d = y :: ys := by
  unfold mapO at h
  cases e : f x with
  | none => rw [e] at h; cases h
  | some y =>
    cases e2 : mapO f r with
    | none => rw [e, e2] at h; cases h
    | some ys => rw [e, e2] at h; exact ⟨y, ys, rfl, rfl, (Option.some.inj h).symm⟩
theorem snap_ok {h : MH} {φ : Ph} {H : Hp} (R : Rel L φ h H) : ∀ (n : Nat) (v : Val) (x : V) (d : PyData), VR L φ H v x → snap h n v = some d → Dp L.K H x d ∧ d.canLay0 = true ∧ d.depth ≤ n
  | 0, v, x, d, _, e => by simp [snap] at e
  | n + 1, .non, x, d, r, e => by
    simp only [snap, Option.some.injEq] at e; subst e; rw [r.nonI]; exact ⟨.non, by simp [PyData.canLay0], by simp [PyData.depth]⟩
  | n + 1, .bl b, x, d, r, e => by
    simp only [snap, Option.some.injEq] at e; subst e; rw [r.blI]; exact ⟨.bl b, by simp [PyData.canLay0], by simp [PyData.depth]⟩
  | n + 1, .int b, x, d, r, e => by
    simp only [snap, Option.some.injEq] at e; subst e; rw [r.intI]; exact ⟨.int b, by simp [PyData.canLay0], by simp [PyData.depth]⟩
  | n + 1, .str b, x, d, r, e => by
    simp only [snap] at e
    by_cases c : (PyData.str b).canLay0 = true
    · rw [if_pos c] at e
      simp only [Option.some.injEq] at e; subst e; rw [r.strI]; exact ⟨.str b, c, by simp [PyData.depth]⟩
    · rw [if_neg c] at e; cases e
  | n + 1, .tup vs, x, d, r, e => by
    simp only [snap] at e
    obtain ⟨ds, e1, rfl⟩ := Option.map_eq_some_iff.mp e
    obtain ⟨a, xs, rfl, q, rs⟩ := r.tupI
    obtain ⟨h1, h2, h3⟩ := all n vs xs ds rs e1
    exact ⟨.tup q h1, by simpa [PyData.canLay0] using h2, by simpa [PyData.depth] using h3⟩
  | n + 1, .ref i, x, d, r, e => by
    simp only [snap] at e
    split at e
    · rename_i w vs hi
      obtain ⟨ds, e1, rfl⟩ := Option.map_eq_some_iff.mp e
      obtain ⟨a, rfl, _, o⟩ := R.at hi r
      obtain ⟨xs, q, rs, _⟩ := o.lstI
      obtain ⟨h1, h2, h3⟩ := all n vs xs ds rs e1
      exact ⟨.lst q h1, by simpa [PyData.canLay0] using h2, by simpa [PyData.depth] using h3⟩
    · cases e
  | n + 1, .exc c fs, x, d, r, e => by simp [snap] at e
where all : ∀ (n : Nat) (vs : List Val) (xs : List V) (ds : List PyData), VRs L φ H vs xs → mapO (snap h n) vs = some ds → DpAll L.K H xs ds ∧ PyData.canLayAll0 ds = true ∧ PyData.depthAll ds ≤ n
  | n, [], xs, ds, r, e => by
    cases r
    simp only [mapO, Option.some.injEq] at e; subst e
    exact ⟨.nil, by simp [PyData.canLayAll0], by simp [PyData.depthAll]⟩
  | n, v :: vs, xs, ds, r, e => by
    obtain ⟨y, ys, e1, e2, rfl⟩ := mapO_cons e
    cases r with
    | cons r1 r2 =>
      obtain ⟨a1, a2, a3⟩ := snap_ok R n v _ y r1 e1
      obtain ⟨b1, b2, b3⟩ := all n vs _ ys r2 e2
      exact ⟨.cons a1 b1, by simp [PyData.canLayAll0, a2, b2], by simp [PyData.depthAll]; omega⟩
theorem snap_shaped {h : MH} {φ : Ph} {H : Hp} {v : Val} {x : V} {d : PyData} (R : Rel L φ h H) (r : VR L φ H v x) (e : snap h 64 v = some d) : Dp L.K H x d ∧ SeqAt.shaped d = true := by
  obtain ⟨a, b, c⟩ := snap_ok R 64 v x d r e
  exact ⟨a, by simp [SeqAt.shaped, b, c]⟩
theorem veq_ok (hK : X.K = L.K) (hu : X.A.units + 64 < cLine) {pins : List (Addr × Obj)} {s : Shared} {σ : L2.St} {H : Hp} {x y : V} {v u : Value} {Q : VK} {φ : Ph} {h : MH} {v' w' : Val} {b : Bool} (I : Inv X pins σ H s) (rx : RelV x v) (ry : RelV y u)
    (R : Rel L φ h H) (vv : VR L φ H v' x) (vw : VR L φ H w' y) (e : veq h v' w' = some b) (q : Q (.bl b) H) : wpAny (model X.prog X.w) X.A (compareOp .Eq v u) (EP X pins σ Q) X.xe s := by
  have gen : ∀ {b}, (match snap h 64 v', snap h 64 w' with
    | some d, some e => some (PyData.eqv d e)
    | _, _ => none) = some b → Q (.bl b) H → wpAny (model X.prog X.w) X.A (compareOp .Eq v u) (EP X pins σ Q) X.xe s := fun {b} e q => by
    split at e
    · rename_i d d2 e1 e2
      cases e
      obtain ⟨a1, a2⟩ := snap_shaped R vv e1
      obtain ⟨b1, b2⟩ := snap_shaped R vw e2
      exact op_eqD hu pins s σ H x y v u Q I rx ry ⟨d, d2, hK ▸ a1, hK ▸ b1, a2, b2, q⟩
    · cases e
  cases v' <;> cases w' <;> first | exact gen e q | skip
  · cases vv; cases vw; cases e
    refine op_eq pins s σ H _ _ v u Q I rx ry ⟨rfl, ?_⟩
    rename_i a b
    have : decide (V.str a = V.str b) = decide (a = b) := by simp
    rw [this]; exact q
theorem vne_ok (hK : X.K = L.K) (hu : X.A.units + 64 < cLine) {pins : List (Addr × Obj)} {s : Shared} {σ : L2.St} {H : Hp} {x y : V} {v u : Value} {Q : VK} {φ : Ph} {h : MH} {v' w' : Val} {b : Bool} (I : Inv X pins σ H s) (rx : RelV x v) (ry : RelV y u)
    (R : Rel L φ h H) (vv : VR L φ H v' x) (vw : VR L φ H w' y) (e : veq h v' w' = some b) (q : Q (.bl (!b)) H) : wpAny (model X.prog X.w) X.A (compareOp .NotEq v u) (EP X pins σ Q) X.xe s := by
  have gen : ∀ {b}, (match snap h 64 v', snap h 64 w' with
    | some d, some e => some (PyData.eqv d e)
    | _, _ => none) = some b → Q (.bl (!b)) H → wpAny (model X.prog X.w) X.A (compareOp .NotEq v u) (EP X pins σ Q) X.xe s := fun {b} e q => by
    split at e
    · rename_i d d2 e1 e2
      cases e
      obtain ⟨a1, a2⟩ := snap_shaped R vv e1
      obtain ⟨b1, b2⟩ := snap_shaped R vw e2
      exact op_neD hu pins s σ H x y v u Q I rx ry ⟨d, d2, hK ▸ a1, hK ▸ b1, a2, b2, q⟩
    · cases e
  cases v' <;> cases w' <;> first | exact gen e q | skip
  · cases vv; cases vw; cases e
    refine op_ne pins s σ H _ _ v u Q I rx ry ⟨rfl, ?_⟩
    rename_i a b
    have : decide (V.str a = V.str b) = decide (a = b) := by simp
    rw [this]; exact q

theorem VRs.flat : ∀ {φ : Ph} {H : Hp} {vs : List Val} {xs : List V}, VRs L φ H vs xs → vs.all flat = true → xs.all flatV = true
  | _, _, _, _, .nil, _ => rfl
  | _, _, _, _, .cons h t, e => by
    simp only [List.all_cons, Bool.and_eq_true] at e ⊢
    refine ⟨?_, t.flat e.2⟩
    have e1 := e.1
    cases h <;> first | rfl | exact absurd e1 (by simp [Mn.flat])
theorem VR.flat {φ : Ph} {H : Hp} {v : Val} {x : V} (r : VR L φ H v x) (e : flat v = true) : flatV x = true := by
  cases r <;> first | rfl | exact absurd e (by simp [Mn.flat])
theorem eqF_ok {φ : Ph} {H : Hp} {v w : Val} {x y : V} (r : VR L φ H v x) (r2 : VR L φ H w y) (f : flat v = true) (f2 : flat w = true) : eqV x y = eqF v w := by
  cases r <;> cases r2 <;> first | rfl | exact absurd f (by simp [Mn.flat]) | exact absurd f2 (by simp [Mn.flat])
theorem inF_ok {φ : Ph} {H : Hp} {v : Val} {x : V} (r : VR L φ H v x) (f : flat v = true) : ∀ {vs : List Val} {xs : List V}, VRs L φ H vs xs → vs.all flat = true → inV x xs = vs.any fun z => eqF z v
  | _, _, .nil, _ => rfl
  | _, _, .cons h t, e => by
    simp only [List.all_cons, Bool.and_eq_true] at e
    have ih := inF_ok r f t e.2
    unfold inV at ih ⊢
    simp only [List.any_cons]
    rw [ih, eqF_ok h r e.1 f]
theorem vin_ok (hK : X.K = L.K) (hu : X.A.units + 65 < cLine) (neg : Bool) {pins : List (Addr × Obj)} {s : Shared} {σ : L2.St} {H : Hp} {x y : V} {v u : Value} {Q : VK} {φ : Ph} {h : MH} {v' w' : Val} {b : Bool} (I : Inv X pins σ H s) (rx : RelV x v) (ry : RelV y u)
    (R : Rel L φ h H) (vv : VR L φ H v' x) (vw : VR L φ H w' y) (e : vin? h v' w' = some b) (nd : noD h w') (q : Q (.bl (if neg then !b else b)) H) :
    wpAny (model X.prog X.w) X.A (compareOp (if neg then .NotIn else .In) v u) (EP X pins σ Q) X.xe s := by
  have seq : ∀ {p : Addr} {xs : List V} {vs : List Val}, y = .ref p → (SqL X.K H p xs ∨ SqT X.K H p xs) → VRs L φ H vs xs → (flat v' && vs.all flat) = true → b = (vs.any fun z => eqF z v') →
      wpAny (model X.prog X.w) X.A (compareOp (if neg then .NotIn else .In) v u) (EP X pins σ Q) X.xe s := fun {p xs vs} ey hs rs c eb => by
    simp only [Bool.and_eq_true] at c
    cases neg with
    | false => exact op_in_seq pins s σ H x y v u Q I rx ry ⟨p, xs, ey, hs, vv.flat c.1, rs.flat c.2, by rw [inF_ok vv c.1 rs c.2, ← eb]; exact q⟩
    | true => exact op_notIn_seq pins s σ H x y v u Q I rx ry ⟨p, xs, ey, hs, vv.flat c.1, rs.flat c.2, by rw [inF_ok vv c.1 rs c.2, ← eb]; exact q⟩
  cases w' with
  | non => cases e
  | bl _ => cases e
  | int _ => cases e
  | exc _ _ => cases e
  | tup ys =>
    simp only [vin?] at e
    obtain ⟨a, xs, rfl, q1, r1⟩ := vw.tupI
    by_cases c : (flat v' && ys.all flat) = true
    · rw [if_pos c] at e
      exact seq rfl (.inr (hK ▸ q1)) r1 c (Option.some.inj e).symm
    · rw [if_neg c] at e; cases e
  | str z =>
    have ew := vw.strI
    cases v' with
    | str c =>
      have ev := vv.strI
      simp only [vin?] at e
      split at e
      · rename_i k ek
        have hc : c = ⟨#[k]⟩ := by
          obtain ⟨⟨l⟩⟩ := c
          simp only at ek
          rw [ek]
        subst hc
        cases e
        cases neg with
        | false => exact op_in_sign pins s σ H x y v u Q I rx ry ⟨k, z, ev, ew, q⟩
        | true => exact op_notIn_sign pins s σ H x y v u Q I rx ry ⟨k, z, ev, ew, q⟩
      · cases e
        cases neg with
        | false => exact op_in_str pins s σ H x y v u Q I rx ry ⟨c, z, ev, ew, q⟩
        | true => exact op_notin_str pins s σ H x y v u Q I rx ry ⟨c, z, ev, ew, q⟩
    | non => cases e
    | bl _ => cases e
    | int _ => cases e
    | exc _ _ => cases e
    | tup _ => cases e
    | ref _ => cases e
  | ref a =>
    simp only [vin?] at e
    split at e
    · rename_i w ys hi
      obtain ⟨p, rfl, _, o⟩ := R.at hi vw
      obtain ⟨xs, q1, r1, _⟩ := o.lstI
      by_cases c : (flat v' && ys.all flat) = true
      · rw [if_pos c] at e
        exact seq rfl (.inl (hK ▸ q1)) r1 c (Option.some.inj e).symm
      · rw [if_neg c] at e
        split at e
        · rename_i d ds e1 e2
          cases e
          obtain ⟨a1, a2⟩ := snap_shaped R vv e1
          obtain ⟨b1, b2⟩ := snap_shaped R vw e2
          cases neg with
          | false => exact op_inD hu pins s σ H x _ v u Q I rx ry ⟨d, ds, hK ▸ a1, hK ▸ b1, a2, b2, q⟩
          | true => exact op_notInD hu pins s σ H x _ v u Q I rx ry ⟨d, ds, hK ▸ a1, hK ▸ b1, a2, b2, q⟩
        · cases e
    · rename_i w kvs hi
      exact absurd hi ((nd a rfl).1 w kvs)
    · rename_i kvs hi
      exact absurd hi ((nd a rfl).2 kvs)
    · cases e
theorem cmp_bl {op : CmpOp} {f : Value → Value → Sem Value} {g : Int → Int → Bool} (ho : OpR X f (rI0 fun i j => .bl (g i j)))
    (hb : ∀ (v w : Val) (h : MH), (∃ i j, v = .int i ∧ w = .int j ∧ cmpop op v w h = .ok (.bl (g i j)) h) ∨ cmpop op v w h = .bad) : OpR X f (rOp L (cmpop op)) := by
  intro pins s σ H x y v u Q I rx ry hq
  obtain ⟨φ, h, v', w', R, vv, vw, p⟩ := hq
  rcases hb v' w' h with ⟨i, j, rfl, rfl, e⟩ | e
  · rw [e] at p
    exact ho pins s σ H x y v u Q I rx ry ⟨i, j, vv.intI, vw.intI, Post.here R (.bl _) p⟩
  · rw [e] at p
    exact False.elim p
/-- comparisons but in -/
theorem cmp_all (hK : X.K = L.K) (hu : X.A.units + 64 < cLine) (op : CmpOp) (n1 : op ≠ .In) (n2 : op ≠ .NotIn) : OpR X (compareOp op) (rOp L (cmpop op)) := by
  have bad : ∀ {op}, (∀ v w h, cmpop op v w h = .bad) → OpR X (compareOp op) (rOp L (cmpop op)) := fun hb pins s σ H x y v u Q I rx ry ⟨φ, h, v', w', R, vv, vw, p⟩ => by
    rw [hb] at p; exact False.elim p
  cases op
  case In => exact absurd rfl n1
  case NotIn => exact absurd rfl n2
  case Eq =>
    intro pins s σ H x y v u Q I rx ry ⟨φ, h, v', w', R, vv, vw, p⟩
    simp only [cmpop] at p
    cases e : veq h v' w' with
    | none => rw [e] at p; exact False.elim p
    | some b =>
      rw [e] at p
      exact veq_ok hK hu I rx ry R vv vw e (Post.here R (.bl b) p)
  case NotEq =>
    intro pins s σ H x y v u Q I rx ry ⟨φ, h, v', w', R, vv, vw, p⟩
    simp only [cmpop] at p
    cases e : veq h v' w' with
    | none => rw [e] at p; exact False.elim p
    | some b =>
      rw [e] at p
      exact vne_ok hK hu I rx ry R vv vw e (Post.here R (.bl (!b)) p)
  case Lt => exact cmp_bl op_lt fun v w h => by cases v <;> first | exact .inr rfl | (cases w <;> first | exact .inr rfl | exact .inl ⟨_, _, rfl, rfl, rfl⟩)
  case Gt => exact cmp_bl op_gt fun v w h => by cases v <;> first | exact .inr rfl | (cases w <;> first | exact .inr rfl | exact .inl ⟨_, _, rfl, rfl, rfl⟩)
  case GtE => exact cmp_bl op_ge fun v w h => by cases v <;> first | exact .inr rfl | (cases w <;> first | exact .inr rfl | exact .inl ⟨_, _, rfl, rfl, rfl⟩)
  case LtE =>
    intro pins s σ H x y v u Q I rx ry ⟨φ, h, v', w', R, vv, vw, p⟩
    cases v' <;> cases w' <;> first | exact False.elim p | skip
    · exact op_le pins s σ H x y v u Q I rx ry ⟨_, _, vv.intI, vw.intI, Post.here R (.bl _) p⟩
    · exact op_le_str pins s σ H x y v u Q I rx ry ⟨_, _, vv.strI, vw.strI, Post.here R (.bl _) p⟩
  all_goals exact bad fun v w h => by cases v <;> first | rfl | (cases w <;> rfl)
end
end Mn
namespace Mn
open PySem PySem.Spec PyProof.Rows L2
section
variable {X : Cx} {L : Lk}
theorem atI_ok {φ : Ph} {H : Hp} {vs : List Val} {xs : List V} {i : Int} {v : Val} (r : VRs L φ H vs xs) (e : atI vs i = some v) : ∃ x, atI xs i = some x ∧ VR L φ H v x := by
  unfold atI at e ⊢
  rw [← r.length]
  cases q : ixN vs.length i with
  | none => rw [q] at e; cases e
  | some j =>
    rw [q] at e
    exact r.get e
theorem index_ok (hK : X.K = L.K) : IxR X (fun x y H Q => ∃ φ h v w, Rel L φ h H ∧ VR L φ H v x ∧ VR L φ H w y ∧ noD h v ∧ Post L φ H (vR L) (index v w h) Q (fun _ _ _ => False)) := by
  intro value sl pins s σ H x y v u Q I rx ry hq hs
  obtain ⟨φ, h, v', w', R, vv, vw, nd, p⟩ := hq
  cases v' with
  | non => exact False.elim p
  | bl _ => exact False.elim p
  | int _ => exact False.elim p
  | exc _ _ => exact False.elim p
  | str z =>
    cases w' <;> first | exact False.elim p | skip
    rename_i k
    simp only [index] at p
    by_cases c : z.length ≤ sizeLine
    · rw [if_pos c] at p
      cases e : atI z.cps.toList k with
      | none => rw [e] at p; exact False.elim p
      | some d =>
        rw [e] at p
        exact ix_str value sl pins s σ H x y v u Q I rx ry ⟨z, k, d, vv.strI, vw.intI, c, e, Post.here R (.str _) p⟩ hs
    · rw [if_neg c] at p; exact False.elim p
  | tup vs =>
    cases w' <;> first | exact False.elim p | skip
    rename_i k
    simp only [index] at p
    obtain ⟨a, xs, rfl, q1, r1⟩ := vv.tupI
    cases e : atI vs k with
    | none => rw [e] at p; exact False.elim p
    | some d =>
      rw [e] at p
      obtain ⟨z, e2, r2⟩ := atI_ok r1 e
      exact ix_tup value sl pins s σ H _ y v u Q I rx ry ⟨a, xs, k, z, rfl, vw.intI, hK ▸ q1, e2, Post.here R r2 p⟩ hs
  | ref i =>
    simp only [index] at p
    split at p
    · rename_i w vs k hi
      obtain ⟨a, rfl, _, o⟩ := R.at hi vv
      obtain ⟨xs, q1, r1, _⟩ := o.lstI
      cases e : atI vs k with
      | none => rw [e] at p; exact False.elim p
      | some d =>
        rw [e] at p
        obtain ⟨z, e2, r2⟩ := atI_ok r1 e
        exact ix_list value sl pins s σ H _ y v u Q I rx ry ⟨a, xs, k, z, rfl, vw.intI, hK ▸ q1, e2, Post.here R r2 p⟩ hs
    · rename_i w kvs hi
      exact absurd hi ((nd i rfl).1 w kvs)
    · rename_i kvs hi
      exact absurd hi ((nd i rfl).2 kvs)
    · exact False.elim p
theorem VRs.cut {φ : Ph} {H : Hp} {vs : List Val} {xs : List V} (r : VRs L φ H vs xs) (lo hi : Option Int) : VRs L φ H (cutL vs lo hi) (cutV xs lo hi) := by
  unfold cutL cutV
  rw [← r.length]
  exact (r.drop _).take _
theorem cut_whole {α : Type} {vs : List α} {lo hi : Option Int} (h : HT.sIx vs.length 0 lo = 0 ∧ HT.sIx vs.length vs.length hi = vs.length) : cutL vs lo hi = vs := by
  unfold cutL
  rw [h.1, h.2]
  simp
theorem slice_ok (hK : X.K = L.K) : SlR X (fun x lo hi H Q => ∃ φ h v, Rel L φ h H ∧ VR L φ H v x ∧ Post L φ H (vR L) (slice v lo hi h) Q (fun _ _ _ => False)) := by
  intro pins s σ H x v vl vu lo hi sl Q I rx hs pl pu hq
  obtain ⟨φ, h, v', R, vv, p⟩ := hq
  cases v' <;> first | exact False.elim p | skip
  · rename_i z
    simp only [slice] at p
    by_cases c : z.length ≤ sizeLine
    · rw [if_pos c] at p
      exact sl_str pins s σ H x v vl vu lo hi sl Q I rx hs pl pu ⟨z, vv.strI, c, Post.here R (.str _) p⟩
    · rw [if_neg c] at p; exact False.elim p
  · rename_i vs
    simp only [slice] at p
    obtain ⟨a, xs, rfl, q1, r1⟩ := vv.tupI
    refine sl_tupA pins s σ H _ v vl vu lo hi sl Q I rx hs pl pu ⟨a, xs, rfl, hK ▸ q1, fun w => ?_, fun _ d hd => Post.tup R (r1.cut lo hi) p hd⟩
    rw [← r1.length] at w
    rw [cut_whole w] at p
    exact Post.here R vv p
  · rename_i i
    simp only [slice] at p
    split at p
    · rename_i w vs hi'
      obtain ⟨a, rfl, _, o⟩ := R.at hi' vv
      obtain ⟨xs, q1, r1, _⟩ := o.lstI
      exact sl_list pins s σ H _ v vl vu lo hi sl Q I rx hs pl pu ⟨a, xs, rfl, hK ▸ q1, fun d hd => Post.lst R (r1.cut lo hi) p hd⟩
    · exact False.elim p

/-! ### built-ins -/
theorem intsO_ok {φ : Ph} {H : Hp} : ∀ {vs : List Val} {xs : List V} {ns : List Int}, VRs L φ H vs xs → intsO vs = some ns → xs = ns.map V.int
  | _, _, _, .nil, e => by simp [intsO, mapO] at e; subst e; rfl
  | _, _, _, .cons (v := v) h t, e => by
    obtain ⟨y, ys, e1, e2, rfl⟩ := mapO_cons e
    cases v <;> first | (cases e1; done) | skip
    cases e1
    rw [intsO_ok t e2, h.intI]; rfl
theorem boolsO_ok {φ : Ph} {H : Hp} : ∀ {vs : List Val} {xs : List V} {ns : List Bool}, VRs L φ H vs xs → boolsO vs = some ns → xs = ns.map V.bl
  | _, _, _, .nil, e => by simp [boolsO, mapO] at e; subst e; rfl
  | _, _, _, .cons (v := v) h t, e => by
    obtain ⟨y, ys, e1, e2, rfl⟩ := mapO_cons e
    cases v <;> first | (cases e1; done) | skip
    cases e1
    rw [boolsO_ok t e2, h.blI]; rfl
theorem VRs.one {φ : Ph} {H : Hp} {v : Val} {xs : List V} (r : VRs L φ H [v] xs) : ∃ x, xs = [x] ∧ VR L φ H v x := by
  cases r with
  | cons h t => cases t; exact ⟨_, rfl, h⟩
theorem VRs.two {φ : Ph} {H : Hp} {v w : Val} {xs : List V} (r : VRs L φ H [v, w] xs) : ∃ x y, xs = [x, y] ∧ VR L φ H v x ∧ VR L φ H w y := by
  cases r with
  | cons h t =>
    obtain ⟨y, rfl, r2⟩ := t.one
    exact ⟨_, _, rfl, h, r2⟩
/-- the reading of a built-in's call -/
abbrev rB (L : Lk) (f : Bi) : List V → Hp → VK → Prop := rCl L (bisem f)
theorem bi_len (hK : X.K = L.K) : CallR X (.builtin "len") (rB L .len) := by
  intro pins s σ H xs us Q I rx hq
  obtain ⟨φ, h, vs, R, rs, p⟩ := hq
  match vs, rs, p with
  | [.tup ws], rs, p =>
    obtain ⟨x, rfl, r⟩ := rs.one
    obtain ⟨a, ys, rfl, q1, r1⟩ := r.tupI
    refine call_len pins s σ H _ us Q I rx ⟨_, ys.length, rfl, .inr ⟨ys, hK ▸ q1, rfl⟩, ?_⟩
    have p : Post L φ H (vR L) (.ok (.int ws.length) h) Q _ := p
    rw [r1.length] at p
    exact Post.here R (.int _) p
  | [.str z], rs, p =>
    obtain ⟨x, rfl, r⟩ := rs.one
    have p : Post L φ H (vR L) (if z.length ≤ sizeLine then .ok (.int z.length) h else .bad) Q _ := p
    by_cases c : z.length ≤ sizeLine
    · rw [if_pos c] at p
      rw [r.strI] at rx
      exact call_len pins s σ H _ us Q I rx ⟨_, z.length, rfl, ⟨c, rfl⟩, Post.here R (.int _) p⟩
    · rw [if_neg c] at p; exact False.elim p
  | [.ref a], rs, p =>
    obtain ⟨x, rfl, r⟩ := rs.one
    have p : Post L φ H (vR L) (match h[a]? with
      | some (.lst _ xs) => .ok (.int xs.length) h
      | some (.dct _ kvs) => .ok (.int kvs.length) h
      | _ => .bad) Q _ := p
    split at p
    · rename_i w ws hi
      obtain ⟨b, rfl, _, o⟩ := R.at hi r
      obtain ⟨ys, q1, r1, _⟩ := o.lstI
      rw [r1.length] at p
      exact call_len pins s σ H _ us Q I rx ⟨_, ys.length, rfl, .inl ⟨ys, hK ▸ q1, rfl⟩, Post.here R (.int _) p⟩
    · rename_i w kvs hi
      obtain ⟨b, rfl, _, o⟩ := R.at hi r
      obtain ⟨ys, q1, r1, _⟩ := o.dctI
      obtain ⟨u, rfl, ru⟩ := vals1 rx
      cases ru
      rw [r1.length] at p
      exact d_len I q1 fun t s' I' => ⟨.int ys.length, H, I', ⟨t, rfl⟩, Post.here R (.int _) p⟩
    · exact False.elim p
  | [], rs, p => exact False.elim p
  | [.non], rs, p => exact False.elim p
  | [.bl _], rs, p => exact False.elim p
  | [.int _], rs, p => exact False.elim p
  | [.exc _ _], rs, p => exact False.elim p
  | x :: y :: r, rs, p => cases x <;> exact False.elim p
theorem bi_two {n : String} {f : Bi} {g : Int → Int → Int} (ho : CallR X (.builtin n) (fun xs H Q => ∃ i j, xs = [.int i, .int j] ∧ Q (.int (g i j)) H))
    (hb : ∀ (vs : List Val) (h : MH), (∃ i j, vs = [.int i, .int j] ∧ bisem f vs h = .ok (.int (g i j)) h) ∨ bisem f vs h = .bad) : CallR X (.builtin n) (rB L f) := by
  intro pins s σ H xs us Q I rx hq
  obtain ⟨φ, h, vs, R, rs, p⟩ := hq
  rcases hb vs h with ⟨i, j, rfl, e⟩ | e
  · rw [e] at p
    obtain ⟨x, y, rfl, r1, r2⟩ := rs.two
    rw [r1.intI, r2.intI] at rx
    exact ho pins s σ H _ us Q I rx ⟨i, j, rfl, Post.here R (.int _) p⟩
  · rw [e] at p; exact False.elim p
theorem two_cases {f : Bi} {g : Int → Int → Int} (h1 : ∀ i j h, bisem f [.int i, .int j] h = .ok (.int (g i j)) h) (h2 : ∀ vs h, (∀ i j, vs ≠ [.int i, .int j]) → bisem f vs h = .bad) (vs : List Val) (h : MH) :
    (∃ i j, vs = [.int i, .int j] ∧ bisem f vs h = .ok (.int (g i j)) h) ∨ bisem f vs h = .bad := by
  by_cases e : ∃ i j, vs = [.int i, .int j]
  · obtain ⟨i, j, rfl⟩ := e
    exact .inl ⟨i, j, rfl, h1 i j h⟩
  · exact .inr (h2 vs h fun i j z => e ⟨i, j, z⟩)
theorem bi_max (hc : X.calm = true) : CallR X (.builtin "max") (rB L .max) := bi_two (call_max2 hc) (two_cases (fun _ _ _ => rfl) fun vs h n => by
  match vs, n with
  | [], n => rfl
  | [x], n => cases x <;> rfl
  | [x, y], n => cases x <;> first | rfl | (cases y <;> first | rfl | exact absurd rfl (n _ _))
  | x :: y :: z :: r, n => cases x <;> first | rfl | (cases y <;> rfl))
theorem bi_min (hc : X.calm = true) : CallR X (.builtin "min") (rB L .min) := bi_two (call_min2 hc) (two_cases (fun _ _ _ => rfl) fun vs h n => by
  match vs, n with
  | [], n => rfl
  | [x], n => cases x <;> rfl
  | [x, y], n => cases x <;> first | rfl | (cases y <;> first | rfl | exact absurd rfl (n _ _))
  | x :: y :: z :: r, n => cases x <;> first | rfl | (cases y <;> rfl))
theorem bi_int : CallR X (.type "int") (rB L .int) := by
  intro pins s σ H xs us Q I rx hq
  obtain ⟨φ, h, vs, R, rs, p⟩ := hq
  match vs, rs, p with
  | [.int i], rs, p =>
    obtain ⟨x, rfl, r⟩ := rs.one
    rw [r.intI] at rx
    exact call_int1 pins s σ H _ us Q I rx (.inl ⟨i, rfl, Post.here R (.int _) p⟩)
  | [.bl b], rs, p =>
    obtain ⟨x, rfl, r⟩ := rs.one
    rw [r.blI] at rx
    exact call_int1 pins s σ H _ us Q I rx (.inr ⟨b, rfl, Post.here R (.int _) p⟩)
  | [.str z], rs, p =>
    obtain ⟨x, rfl, r⟩ := rs.one
    rw [r.strI] at rx
    have p : Post L φ H (vR L) (if z.length ≤ 640 then retO ((PySem.intText? z).map .int) h else .bad) Q _ := p
    by_cases c : z.length ≤ 640
    · rw [if_pos c] at p
      cases e : PySem.intText? z with
      | none => rw [e] at p; exact False.elim p
      | some n =>
        rw [e] at p
        exact call_int_str pins s σ H _ us Q I rx ⟨z, n, rfl, e, c, Post.here R (.int _) p⟩
    · rw [if_neg c] at p; exact False.elim p
  | [], rs, p => exact False.elim p
  | [.non], rs, p => exact False.elim p
  | [.ref _], rs, p => exact False.elim p
  | [.tup _], rs, p => exact False.elim p
  | [.exc _ _], rs, p => exact False.elim p
  | x :: y :: r, rs, p => cases x <;> exact False.elim p
theorem bi_str : CallR X (.type "str") (rB L .str) := by
  intro pins s σ H xs us Q I rx hq
  obtain ⟨φ, h, vs, R, rs, p⟩ := hq
  match vs, rs, p with
  | [.int i], rs, p =>
    obtain ⟨x, rfl, r⟩ := rs.one
    rw [r.intI] at rx
    have p : Post L φ H (vR L) (if i.natAbs.log2 < 1920 then .ok (.str (toString i)) h else .bad) Q _ := p
    by_cases c : i.natAbs.log2 < 1920
    · rw [if_pos c] at p
      exact call_str_int pins s σ H _ us Q I rx ⟨i, rfl, c, Post.here R (.str _) p⟩
    · rw [if_neg c] at p; exact False.elim p
  | [], rs, p => exact False.elim p
  | [.non], rs, p => exact False.elim p
  | [.bl _], rs, p => exact False.elim p
  | [.str _], rs, p => exact False.elim p
  | [.ref _], rs, p => exact False.elim p
  | [.tup _], rs, p => exact False.elim p
  | [.exc _ _], rs, p => exact False.elim p
  | x :: y :: r, rs, p => cases x <;> exact False.elim p
theorem bi_tuple (hK : X.K = L.K) : CallR X (.type "tuple") (rB L .tuple) := by
  intro pins s σ H xs us Q I rx hq
  obtain ⟨φ, h, vs, R, rs, p⟩ := hq
  match vs, rs, p with
  | [.tup ws], rs, p =>
    obtain ⟨x, rfl, r⟩ := rs.one
    obtain ⟨a, ys, rfl, q1, r1⟩ := r.tupI
    exact call_tuple_of pins s σ H _ us Q I rx ⟨a, ys, rfl, .inr ⟨hK ▸ q1, Post.here R r p⟩⟩
  | [.ref a], rs, p =>
    obtain ⟨x, rfl, r⟩ := rs.one
    have p : Post L φ H (vR L) (match h[a]? with
      | some (.lst _ xs) => .ok (.tup xs) h
      | _ => .bad) Q _ := p
    split at p
    · rename_i w ws hi
      obtain ⟨b, rfl, _, o⟩ := R.at hi r
      obtain ⟨ys, q1, r1, _⟩ := o.lstI
      exact call_tuple_of pins s σ H _ us Q I rx ⟨b, ys, rfl, .inl ⟨hK ▸ q1, fun d hd => Post.tup R r1 p hd⟩⟩
    · exact False.elim p
  | [], rs, p => exact False.elim p
  | [.non], rs, p => exact False.elim p
  | [.bl _], rs, p => exact False.elim p
  | [.int _], rs, p => exact False.elim p
  | [.str _], rs, p => exact False.elim p
  | [.exc _ _], rs, p => exact False.elim p
  | x :: y :: r, rs, p => cases x <;> exact False.elim p
theorem bi_list (hK : X.K = L.K) (hc : X.calm = true) : CallR X (.type "list") (rB L .list) := by
  intro pins s σ H xs us Q I rx hq
  obtain ⟨φ, h, vs, R, rs, p⟩ := hq
  match vs, rs, p with
  | [.tup ws], rs, p =>
    obtain ⟨x, rfl, r⟩ := rs.one
    obtain ⟨a, ys, rfl, q1, r1⟩ := r.tupI
    exact call_list_of pins s σ H _ us Q I rx ⟨a, ys, rfl, .inr (hK ▸ q1), fun d hd => Post.lst R r1 p hd⟩
  | [.ref a], rs, p =>
    obtain ⟨x, rfl, r⟩ := rs.one
    have p : Post L φ H (vR L) (match h[a]? with
      | some (.lst _ xs) => alloc (.lst true xs) h
      | some (.dct _ kvs) => alloc (.lst true (kvs.map fun p => kVal p.1)) h
      | _ => .bad) Q _ := p
    split at p
    · rename_i w ws hi
      obtain ⟨b, rfl, _, o⟩ := R.at hi r
      obtain ⟨ys, q1, r1, _⟩ := o.lstI
      exact call_list_of pins s σ H _ us Q I rx ⟨b, ys, rfl, .inl (hK ▸ q1), fun d hd => Post.lst R r1 p hd⟩
    · rename_i w kvs hi
      obtain ⟨b, rfl, _, o⟩ := R.at hi r
      obtain ⟨ys, q1, r1, _⟩ := o.dctI
      exact call_listD hc pins s σ H _ us Q I rx ⟨b, ys, rfl, q1, fun d hd => Post.lst R r1.keys p hd⟩
    · exact False.elim p
  | [], rs, p => exact False.elim p
  | [.non], rs, p => exact False.elim p
  | [.bl _], rs, p => exact False.elim p
  | [.int _], rs, p => exact False.elim p
  | [.str _], rs, p => exact False.elim p
  | [.exc _ _], rs, p => exact False.elim p
  | x :: y :: r, rs, p => cases x <;> exact False.elim p
theorem pairs_ok {φ : Ph} {H : Hp} : ∀ {ws : List Val} {ys : List V} {kvs : List (Key × Val)}, VRs L φ H ws ys → pairsO ws = some kvs → ∃ (ps : List Addr) (xs : List (Key × V)), ys = ps.map V.ref ∧ Paired (fun p kv => SqT L.K H p [kV kv.1, kv.2]) ps xs ∧ KRs L φ H kvs xs := by
  intro ws
  induction ws with
  | nil =>
    intro ys kvs r e
    cases r
    cases (show some [] = some kvs from e)
    exact ⟨[], [], rfl, .nil, .nil⟩
  | cons w ws ih =>
    intro ys kvs r e
    cases r with
    | cons rw r =>
      simp only [pairsO, mapO] at e
      split at e
      · rename_i kv kvs' e1 e2
        cases e
        obtain ⟨ps, xs, rfl, p, k⟩ := ih r e2
        unfold pairO at e1
        split at e1
        · rename_i k0 x0
          obtain ⟨c, hc, rfl⟩ := Option.map_eq_some_iff.mp e1
          obtain ⟨a, zs, rfl, q, rz⟩ := rw.tupI
          cases rz with
          | cons r1 rz =>
            cases rz with
            | cons r2 rz =>
              cases rz
              have e3 := r1.key hc
              subst e3
              exact ⟨a :: ps, (c, _) :: xs, rfl, .cons q p, .cons r2 k⟩
        · cases e1
      · cases e
theorem KRs.fold {φ : Ph} {H : Hp} : ∀ {kvs : List (Key × Val)} {xs : List (Key × V)} {d : List (Key × Val)} {e : List (Key × V)}, KRs L φ H kvs xs → KRs L φ H d e → KRs L φ H (kvs.foldl (fun d p => putC p.1 p.2 d) d) (xs.foldl (fun acc kv => putK acc kv.1 kv.2) e) := by
  intro kvs xs d e r
  induction r generalizing d e with
  | nil => exact fun q => q
  | cons rv r ih => exact fun q => ih (q.put rv)
theorem bi_dict (hK : X.K = L.K) (hc : X.calm = true) : CallR X (.type "dict") (rB L .dict) := by
  intro pins s σ H xs us Q I rx hq
  obtain ⟨φ, h, vs, R, rs, p⟩ := hq
  match vs, rs, p with
  | [.ref a], rs, p =>
    obtain ⟨x, rfl, r⟩ := rs.one
    have p : Post L φ H (vR L) (match h[a]? with
      | some (.lst _ xs) => (match pairsO xs with
        | some kvs => alloc (.dct true (dictL kvs)) h
        | none => .bad)
      | _ => .bad) Q _ := p
    split at p
    · rename_i w ws hi
      obtain ⟨b, rfl, _, o⟩ := R.at hi r
      obtain ⟨ys, q1, r1, _⟩ := o.lstI
      cases e : pairsO ws with
      | none => rw [e] at p; exact False.elim p
      | some kvs =>
        rw [e] at p
        obtain ⟨ps, xs, rfl, pp, kk⟩ := pairs_ok r1 e
        refine call_dictP hc pins s σ H _ us Q I rx ⟨b, ps, xs, rfl, hK ▸ q1, hK ▸ pp, fun d hd => ?_⟩
        exact Post.dct R (KRs.fold kk .nil) p hd
    · exact False.elim p
  | [], rs, p => exact False.elim p
  | [.non], rs, p => exact False.elim p
  | [.bl _], rs, p => exact False.elim p
  | [.int _], rs, p => exact False.elim p
  | [.str _], rs, p => exact False.elim p
  | [.tup _], rs, p => exact False.elim p
  | [.exc _ _], rs, p => exact False.elim p
  | x :: y :: r, rs, p => cases x <;> exact False.elim p
theorem bi_sum (hK : X.K = L.K) (hc : X.calm = true) : CallR X (.builtin "sum") (rB L .sum) := by
  intro pins s σ H xs us Q I rx hq
  obtain ⟨φ, h, vs, R, rs, p⟩ := hq
  match vs, rs, p with
  | [.ref a], rs, p =>
    obtain ⟨x, rfl, r⟩ := rs.one
    have p : Post L φ H (vR L) (match h[a]? with
      | some (.lst _ xs) => retO ((intsO xs).map fun ns => .int ns.sum) h
      | _ => .bad) Q _ := p
    split at p
    · rename_i w ws hi
      obtain ⟨b, rfl, _, o⟩ := R.at hi r
      obtain ⟨ys, q1, r1, _⟩ := o.lstI
      cases e : intsO ws with
      | none => rw [e] at p; exact False.elim p
      | some ns =>
        rw [e] at p
        exact cr_sum hc pins s σ H _ us Q I rx ⟨b, ns, rfl, by rw [← intsO_ok r1 e]; exact hK ▸ q1, Post.here R (.int _) p⟩
    · exact False.elim p
  | [], rs, p => exact False.elim p
  | [.non], rs, p => exact False.elim p
  | [.bl _], rs, p => exact False.elim p
  | [.int _], rs, p => exact False.elim p
  | [.str _], rs, p => exact False.elim p
  | [.tup _], rs, p => exact False.elim p
  | [.exc _ _], rs, p => exact False.elim p
  | x :: y :: r, rs, p => cases x <;> exact False.elim p
theorem bi_all (hK : X.K = L.K) (hc : X.calm = true) : CallR X (.builtin "all") (rB L .all) := by
  intro pins s σ H xs us Q I rx hq
  obtain ⟨φ, h, vs, R, rs, p⟩ := hq
  match vs, rs, p with
  | [.ref a], rs, p =>
    obtain ⟨x, rfl, r⟩ := rs.one
    have p : Post L φ H (vR L) (match h[a]? with
      | some (.lst _ xs) => retO ((boolsO xs).map fun bs => .bl (bs.all id)) h
      | _ => .bad) Q _ := p
    split at p
    · rename_i w ws hi
      obtain ⟨b, rfl, _, o⟩ := R.at hi r
      obtain ⟨ys, q1, r1, _⟩ := o.lstI
      cases e : boolsO ws with
      | none => rw [e] at p; exact False.elim p
      | some ns =>
        rw [e] at p
        exact cr_all hc pins s σ H _ us Q I rx ⟨b, ns, rfl, by rw [← boolsO_ok r1 e]; exact hK ▸ q1, Post.here R (.bl _) p⟩
    · exact False.elim p
  | [], rs, p => exact False.elim p
  | [.non], rs, p => exact False.elim p
  | [.bl _], rs, p => exact False.elim p
  | [.int _], rs, p => exact False.elim p
  | [.str _], rs, p => exact False.elim p
  | [.tup _], rs, p => exact False.elim p
  | [.exc _ _], rs, p => exact False.elim p
  | x :: y :: r, rs, p => cases x <;> exact False.elim p
end
end Mn
namespace Mn
open PySem PySem.Spec PyProof.Rows L2
section
variable {X : Cx} {L : Lk}
theorem Post.lset {φ : Ph} {h : MH} {H : Hp} {i : Nat} {a : Addr} {us vs : List Val} {zs xs : List V} {v : Val} {y : V} {Q : VK} {E : XK} (R : Rel L φ h H) (hi : h[i]? = some (.lst true us)) (ai : φ[i]? = some (true, a)) (hz : H a = some (.lst zs)) (r : VRs L φ H vs xs) (rv : VR L φ H v y)
    (p : Post L φ H (vR L) (.ok v (h.set i (.lst true vs))) Q E) : Q y (upd H a (.lst xs)) := by
  have X1 : Ext L φ H φ (upd H a (.lst xs)) := Ext.write ai hz (fun _ _ z => by cases z) (fun _ z => by cases z)
  exact p y _ φ X1 (R.write hi rfl (fun _ z => by cases z) ai (.lst upd_same (r.mono X1))) (rv.mono X1)
theorem eraseIdx_ok {φ : Ph} {H : Hp} : ∀ {vs : List Val} {xs : List V} (j : Nat), VRs L φ H vs xs → VRs L φ H (vs.eraseIdx j) (xs.eraseIdx j)
  | _, _, _, .nil => .nil
  | _, _, 0, .cons _ t => t
  | _, _, j + 1, .cons h t => .cons h (eraseIdx_ok j t)
theorem dropLast_ok {φ : Ph} {H : Hp} {vs : List Val} {xs : List V} (r : VRs L φ H vs xs) : VRs L φ H vs.dropLast xs.dropLast := by
  rw [List.dropLast_eq_take, List.dropLast_eq_take, ← r.length]
  exact r.take _
abbrev rM (L : Lk) (m : Mt) : V → List V → Hp → VK → Prop := rMt L (mtsem m)
theorem mt_appendX : MtM X "list.append" (rM L .append) := by
  intro pins s σ H x xs v us Q I rx rxs hq
  obtain ⟨φ, h, v', vs, R, vv, rs, p⟩ := hq
  match v', vs, vv, rs, p with
  | .ref i, [w], vv, rs, p =>
    simp only [mtsem] at p
    split at p
    · rename_i ws hi
      by_cases c : ws.length < sizeLine
      · rw [if_pos c] at p
        obtain ⟨a, rfl, ai, o⟩ := R.at hi vv
        obtain ⟨zs, _, r1, k⟩ := o.lstI
        obtain ⟨y, rfl, r2⟩ := rs.one
        exact mt_append pins s σ H _ _ v us Q I rx rxs ⟨a, zs, y, rfl, rfl, k rfl, by rw [← r1.length]; exact c, Post.lset R hi (ai.2 rfl) (k rfl) (r1.append (.cons r2 .nil)) .non p⟩
      · rw [if_neg c] at p; exact False.elim p
    · exact False.elim p
  | .ref i, [], vv, rs, p => exact False.elim p
  | .ref i, _ :: _ :: _, vv, rs, p => exact False.elim p
  | .non, _, vv, rs, p => exact False.elim p
  | .bl _, _, vv, rs, p => exact False.elim p
  | .int _, _, vv, rs, p => exact False.elim p
  | .str _, _, vv, rs, p => exact False.elim p
  | .tup _, _, vv, rs, p => exact False.elim p
  | .exc _ _, _, vv, rs, p => exact False.elim p
theorem mt_extendX : MtM X "list.extend" (rM L .extend) := by
  intro pins s σ H x xs v us Q I rx rxs hq
  obtain ⟨φ, h, v', vs, R, vv, rs, p⟩ := hq
  match v', vs, vv, rs, p with
  | .ref i, [.ref j], vv, rs, p =>
    simp only [mtsem] at p
    split at p
    · rename_i ws zs hi hj
      by_cases c : ws.length + zs.length ≤ sizeLine
      · rw [if_pos c] at p
        obtain ⟨a, rfl, ai, o⟩ := R.at hi vv
        obtain ⟨xs1, _, r1, k⟩ := o.lstI
        obtain ⟨y, rfl, r2⟩ := rs.one
        obtain ⟨b, rfl, bi, o2⟩ := R.at hj r2
        obtain ⟨xs2, _, r3, k2⟩ := o2.lstI
        exact mt_extend pins s σ H _ _ v us Q I rx rxs ⟨a, b, xs1, xs2, rfl, rfl, k rfl, k2 rfl, by rw [← r1.length, ← r3.length]; exact c, Post.lset R hi (ai.2 rfl) (k rfl) (r1.append r3) .non p⟩
      · rw [if_neg c] at p; exact False.elim p
    · exact False.elim p
  | .ref i, [], vv, rs, p => exact False.elim p
  | .ref i, [.non], vv, rs, p => exact False.elim p
  | .ref i, [.bl _], vv, rs, p => exact False.elim p
  | .ref i, [.int _], vv, rs, p => exact False.elim p
  | .ref i, [.str _], vv, rs, p => exact False.elim p
  | .ref i, [.tup _], vv, rs, p => exact False.elim p
  | .ref i, [.exc _ _], vv, rs, p => exact False.elim p
  | .ref i, w :: _ :: _, vv, rs, p => cases w <;> exact False.elim p
  | .non, _, vv, rs, p => exact False.elim p
  | .bl _, _, vv, rs, p => exact False.elim p
  | .int _, _, vv, rs, p => exact False.elim p
  | .str _, _, vv, rs, p => exact False.elim p
  | .tup _, _, vv, rs, p => exact False.elim p
  | .exc _ _, _, vv, rs, p => exact False.elim p
theorem mt_popX : MtM X "list.pop" (rM L .pop) := by
  intro pins s σ H x xs v us Q I rx rxs hq
  obtain ⟨φ, h, v', vs, R, vv, rs, p⟩ := hq
  match v', vs, vv, rs, p with
  | .ref i, [], vv, rs, p =>
    simp only [mtsem] at p
    split at p
    · rename_i ws hi
      split at p
      · rename_i w hw
        obtain ⟨a, rfl, ai, o⟩ := R.at hi vv
        obtain ⟨zs, _, r1, k⟩ := o.lstI
        cases rs
        obtain ⟨y, hy, r2⟩ := r1.get hw
        rw [r1.length] at hy
        exact mt_pop pins s σ H _ _ v us Q I rx rxs ⟨a, zs, y, rfl, rfl, k rfl, hy, Post.lset R hi (ai.2 rfl) (k rfl) (dropLast_ok r1) r2 p⟩
      · exact False.elim p
    · exact False.elim p
  | .ref i, _ :: _, vv, rs, p => exact False.elim p
  | .non, _, vv, rs, p => exact False.elim p
  | .bl _, _, vv, rs, p => exact False.elim p
  | .int _, _, vv, rs, p => exact False.elim p
  | .str _, _, vv, rs, p => exact False.elim p
  | .tup _, _, vv, rs, p => exact False.elim p
  | .exc _ _, _, vv, rs, p => exact False.elim p
theorem mt_clearX : MtM X "list.clear" (rM L .clear) := by
  intro pins s σ H x xs v us Q I rx rxs hq
  obtain ⟨φ, h, v', vs, R, vv, rs, p⟩ := hq
  match v', vs, vv, rs, p with
  | .ref i, [], vv, rs, p =>
    simp only [mtsem] at p
    split at p
    · rename_i ws hi
      obtain ⟨a, rfl, ai, o⟩ := R.at hi vv
      obtain ⟨zs, _, r1, k⟩ := o.lstI
      cases rs
      exact mt_clear pins s σ H _ _ v us Q I rx rxs ⟨a, zs, rfl, rfl, k rfl, Post.lset R hi (ai.2 rfl) (k rfl) .nil .non p⟩
    · exact False.elim p
  | .ref i, _ :: _, vv, rs, p => exact False.elim p
  | .non, _, vv, rs, p => exact False.elim p
  | .bl _, _, vv, rs, p => exact False.elim p
  | .int _, _, vv, rs, p => exact False.elim p
  | .str _, _, vv, rs, p => exact False.elim p
  | .tup _, _, vv, rs, p => exact False.elim p
  | .exc _ _, _, vv, rs, p => exact False.elim p
theorem mt_popAtX : MtM X "list.pop" (rM L .popAt) := by
  intro pins s σ H x xs v us Q I rx rxs hq
  obtain ⟨φ, h, v', vs, R, vv, rs, p⟩ := hq
  match v', vs, vv, rs, p with
  | .ref i, [.int n], vv, rs, p =>
    simp only [mtsem] at p
    split at p
    · rename_i ws hi
      split at p
      · rename_i j hj
        split at p
        · rename_i w hw
          by_cases c : -(2 ^ 63) ≤ n ∧ n < 2 ^ 63
          · rw [if_pos c] at p
            obtain ⟨a, rfl, ai, o⟩ := R.at hi vv
            obtain ⟨zs, _, r1, k⟩ := o.lstI
            obtain ⟨y0, rfl, r0⟩ := rs.one
            obtain ⟨y, hy, r2⟩ := r1.get hw
            have e0 := r0.intI
            subst e0
            rw [r1.length] at hj
            exact mt_popAt pins s σ H _ _ v us Q I rx rxs ⟨a, zs, n, j, y, rfl, rfl, k rfl, c.1, c.2, (ixN_seq hj).1, hy, Post.lset R hi (ai.2 rfl) (k rfl) (eraseIdx_ok j r1) r2 p⟩
          · rw [if_neg c] at p; exact False.elim p
        · exact False.elim p
      · exact False.elim p
    · exact False.elim p
  | .ref i, [], vv, rs, p => exact False.elim p
  | .ref i, [.non], vv, rs, p => exact False.elim p
  | .ref i, [.bl _], vv, rs, p => exact False.elim p
  | .ref i, [.ref _], vv, rs, p => exact False.elim p
  | .ref i, [.str _], vv, rs, p => exact False.elim p
  | .ref i, [.tup _], vv, rs, p => exact False.elim p
  | .ref i, [.exc _ _], vv, rs, p => exact False.elim p
  | .ref i, w :: _ :: _, vv, rs, p => cases w <;> exact False.elim p
  | .non, _, vv, rs, p => exact False.elim p
  | .bl _, _, vv, rs, p => exact False.elim p
  | .int _, _, vv, rs, p => exact False.elim p
  | .str _, _, vv, rs, p => exact False.elim p
  | .tup _, _, vv, rs, p => exact False.elim p
  | .exc _ _, _, vv, rs, p => exact False.elim p
theorem VRs.getI {φ : Ph} {H : Hp} : ∀ {vs : List Val} {xs : List V} {i : Nat} {x : V}, VRs L φ H vs xs → xs[i]? = some x → ∃ v, vs[i]? = some v ∧ VR L φ H v x
  | _, _, _, _, .nil, e => by simp at e
  | _, _, 0, _, .cons r _, e => by simp at e; subst e; exact ⟨_, rfl, r⟩
  | _, _, i + 1, v, .cons _ t, e => by
    obtain ⟨u, h1, h2⟩ := t.getI (i := i) (x := v) (by simpa using e)
    exact ⟨u, by simpa using h1, h2⟩
theorem mt_indexX (hK : X.K = L.K) (hu : X.A.units + 65 < cLine) : MtM X "list.index" (rM L .index) := by
  intro pins s σ H x xs v us Q I rx rxs hq
  obtain ⟨φ, h, v', vs, R, vv, rs, p⟩ := hq
  match v', vs, vv, rs, p with
  | .ref i, [w], vv, rs, p =>
    simp only [mtsem] at p
    split at p
    · rename_i ww ws hi
      by_cases c : (flat w && ws.all flat) = true
      · rw [if_pos c] at p
        simp only [Bool.and_eq_true] at c
        obtain ⟨a, rfl, ai, o⟩ := R.at hi vv
        obtain ⟨zs, q1, r1, k⟩ := o.lstI
        obtain ⟨y, rfl, r2⟩ := rs.one
        cases e : ws.findIdx? (fun z => eqF z w) with
        | none => rw [e] at p; exact False.elim p
        | some j =>
          rw [e] at p
          obtain ⟨j1, j2, j3⟩ := List.findIdx?_eq_some_iff_getElem.mp e
          obtain ⟨z, hz, rz⟩ := r1.get (List.getElem?_eq_getElem j1)
          have fz : flat ws[j] = true := List.all_eq_true.mp c.2 _ (List.getElem_mem j1)
          refine mt_index pins s σ H _ _ v us Q I rx rxs ⟨a, zs, y, j, z, rfl, rfl, hK ▸ q1, r2.flat c.1, r1.flat c.2, hz, by rw [eqF_ok rz r2 fz c.1]; exact j2, fun m z' hm hz' => ?_, Post.here R (.int _) p⟩
          obtain ⟨u, hu, ru⟩ := r1.getI hz'
          have hml := (List.getElem?_eq_some_iff.mp hu).1
          have fu : flat u = true := List.all_eq_true.mp c.2 _ (List.mem_of_getElem? hu)
          rw [eqF_ok ru r2 fu c.1]
          have := j3 m hm
          rw [List.getElem?_eq_getElem hml] at hu
          cases hu
          simpa using this
      · rw [if_neg c] at p
        split at p
        · rename_i d ds e1 e2
          obtain ⟨y, rfl, r2⟩ := rs.one
          obtain ⟨a, rfl, _, _⟩ := R.at hi vv
          obtain ⟨d1, s1⟩ := snap_shaped R r2 e1
          obtain ⟨d2, s2⟩ := snap_shaped R vv e2
          cases e : ds.findIdx? (fun z => PyData.eqv z d) with
          | none => rw [e] at p; exact False.elim p
          | some j =>
            rw [e] at p
            obtain ⟨j1, j2, j3⟩ := List.findIdx?_eq_some_iff_getElem.mp e
            refine mt_indexD hu pins s σ H _ _ v us Q I rx rxs ⟨a, y, d, ds, j, _, rfl, rfl, hK ▸ d2, hK ▸ d1, s2, s1, List.getElem?_eq_getElem j1, j2, fun m z' hm hz' => ?_, Post.here R (.int _) p⟩
            obtain ⟨hml, rfl⟩ := List.getElem?_eq_some_iff.mp hz'
            simpa using j3 m hm
        · exact False.elim p
    · exact False.elim p
  | .ref i, [], vv, rs, p => exact False.elim p
  | .ref i, _ :: _ :: _, vv, rs, p => exact False.elim p
  | .non, _, vv, rs, p => exact False.elim p
  | .bl _, _, vv, rs, p => exact False.elim p
  | .int _, _, vv, rs, p => exact False.elim p
  | .str _, _, vv, rs, p => exact False.elim p
  | .tup _, _, vv, rs, p => exact False.elim p
  | .exc _ _, _, vv, rs, p => exact False.elim p
theorem mt_insertX : MtM X "list.insert" (rM L .insert) := by
  intro pins s σ H x xs v us Q I rx rxs hq
  obtain ⟨φ, h, v', vs, R, vv, rs, p⟩ := hq
  match v', vs, vv, rs, p with
  | .ref i, [.int n, w], vv, rs, p =>
    simp only [mtsem] at p
    split at p
    · rename_i ws hi
      by_cases c : ws.length < sizeLine ∧ 0 ≤ n ∧ n < 2 ^ 63
      · rw [if_pos c] at p
        obtain ⟨a, rfl, ai, o⟩ := R.at hi vv
        obtain ⟨zs, _, r1, k⟩ := o.lstI
        obtain ⟨y0, y, rfl, r0, r2⟩ := rs.two
        have e0 := r0.intI
        subst e0
        exact mt_insert pins s σ H _ _ v us Q I rx rxs ⟨a, zs, n, y, rfl, rfl, k rfl, by rw [← r1.length]; exact c.1, c.2.1, c.2.2, Post.lset R hi (ai.2 rfl) (k rfl) (((r1.take _).append (.cons r2 .nil)).append (r1.drop _)) .non p⟩
      · rw [if_neg c] at p; exact False.elim p
    · exact False.elim p
/-! texts -/
theorem VRs.strs {φ : Ph} {H : Hp} : ∀ {ys : List Str} {xs : List V}, VRs L φ H (ys.map Val.str) xs → xs = ys.map V.str
  | [], _, .nil => rfl
  | y :: ys, _, .cons r t => by rw [r.strI, VRs.strs t]; rfl
theorem VRs.ofStrs {φ : Ph} {H : Hp} : ∀ ys : List Str, VRs L φ H (ys.map Val.str) (ys.map V.str)
  | [] => .nil
  | y :: ys => .cons (.str y) (VRs.ofStrs ys)
theorem strsO_ok : ∀ {vs : List Val} {ys : List Str}, strsO vs = some ys → vs = ys.map Val.str
  | [], ys, e => by cases e; rfl
  | v :: vs, ys, e => by
    simp only [strsO, mapO] at e
    split at e
    · rename_i y zs e1 e2
      cases e
      cases v <;> first | (cases e1; done) | skip
      cases e1
      rw [strsO_ok (vs := vs) (ys := zs) e2]; rfl
    · cases e
theorem mt_joinX (hK : X.K = L.K) : MtR X "str.join" (rM L .join) := by
  intro pins s σ H x xs v us Q I rx rxs hq
  obtain ⟨φ, h, v', vs, R, vv, rs, p⟩ := hq
  match v', vs, vv, rs, p with
  | .str z, [.ref i], vv, rs, p =>
    simp only [mtsem] at p
    split at p
    · rename_i w ws hi
      split at p
      · rename_i ys hy
        by_cases c : (ys.map (·.length)).sum + ys.length * z.length ≤ 16777216
        · rw [if_pos c] at p
          obtain ⟨y, rfl, r2⟩ := rs.one
          obtain ⟨a, rfl, ai, o⟩ := R.at hi r2
          obtain ⟨zs, q, r1, k⟩ := o.lstI
          have e := strsO_ok hy
          subst e
          have ez := r1.strs
          subst ez
          exact mt_join pins s σ H _ _ v us Q I rx rxs ⟨z, a, ys, vv.strI, rfl, .inl (hK ▸ q), c, Post.here R (.str _) p⟩
        · rw [if_neg c] at p; exact False.elim p
      · exact False.elim p
    · exact False.elim p
theorem mt_splitX : MtR X "str.split" (rM L .split) := by
  intro pins s σ H x xs v us Q I rx rxs hq
  obtain ⟨φ, h, v', vs, R, vv, rs, p⟩ := hq
  match v', vs, vv, rs, p with
  | .str z, [.str y], vv, rs, p =>
    simp only [mtsem] at p
    by_cases c : (y.length == 0) = false ∧ z.length + 2 ≤ sizeLine
    · rw [if_pos c] at p
      obtain ⟨u, rfl, r2⟩ := rs.one
      exact mt_split pins s σ H _ _ v us Q I rx rxs ⟨z, y, vv.strI, by rw [r2.strI], c.1, c.2, fun q hq => Post.lst R (VRs.ofStrs _) p hq⟩
    · rw [if_neg c] at p; exact False.elim p
theorem mt_partitionX : MtR X "str.partition" (rM L .partition) := by
  intro pins s σ H x xs v us Q I rx rxs hq
  obtain ⟨φ, h, v', vs, R, vv, rs, p⟩ := hq
  match v', vs, vv, rs, p with
  | .str z, [.str y], vv, rs, p =>
    simp only [mtsem] at p
    by_cases c : (y.length == 0) = false ∧ z.length ≤ sizeLine
    · rw [if_pos c] at p
      obtain ⟨u, rfl, r2⟩ := rs.one
      exact mt_partition pins s σ H _ _ v us Q I rx rxs ⟨z, y, vv.strI, by rw [r2.strI], c.1, c.2, fun q hq => Post.tup R (.cons (.str _) (.cons (.str _) (.cons (.str _) .nil))) p hq⟩
    · rw [if_neg c] at p; exact False.elim p
theorem mt_findX : MtR X "str.find" (rM L .find) := by
  intro pins s σ H x xs v us Q I rx rxs hq
  obtain ⟨φ, h, v', vs, R, vv, rs, p⟩ := hq
  match v', vs, vv, rs, p with
  | .str z, [.str y], vv, rs, p =>
    simp only [mtsem] at p
    obtain ⟨u, rfl, r2⟩ := rs.one
    exact mt_find pins s σ H _ _ v us Q I rx rxs ⟨z, y, vv.strI, by rw [r2.strI], Post.here R (.int _) p⟩
theorem mt_upperX : MtR X "str.upper" (rM L .upper) := by
  intro pins s σ H x xs v us Q I rx rxs hq
  obtain ⟨φ, h, v', vs, R, vv, rs, p⟩ := hq
  match v', vs, vv, rs, p with
  | .str z, [], vv, rs, p =>
    simp only [mtsem] at p
    by_cases c : z.length ≤ 5592405
    · rw [if_pos c] at p
      exact mt_upper pins s σ H _ _ v us Q I rx rxs ⟨z, vv.strI, by cases rs; rfl, c, Post.here R (.str _) p⟩
    · rw [if_neg c] at p; exact False.elim p
end
end Mn
/-! Mini: the translator from PySem's syntax -/
namespace Mn
open PySem PySem.Spec PyProof.Rows L2

def toS (x : Str) : String := String.ofList (x.cps.toList.map Char.ofNat)
/-- a name, as a String that is it -/
def nmS (x : Str) : Option String := if Str.ofString (toS x) = x then some (toS x) else none
theorem nmS_ok {x : Str} {n : String} (h : nmS x = some n) : Str.ofString n = x := by
  unfold nmS at h
  by_cases c : Str.ofString (toS x) = x
  · rw [if_pos c] at h; cases h; exact c
  · rw [if_neg c] at h; cases h
/-- the names that a program has, and what they are -/
structure Tb where
  fns : List String
  cls : List String
  glb : List String
  isi : List String
  own : List String
  mks : List String
  cm : List ((String × String) × String)
def idxN (N : List Str) (x : Str) : Option Nat := N.findIdx? (· == x)
theorem idxN_ok {N : List Str} {x : Str} {i : Nat} (h : idxN N x = some i) : N[i]? = some x := by
  unfold idxN at h
  obtain ⟨h1, h2, _⟩ := List.findIdx?_eq_some_iff_getElem.mp h
  rw [List.getElem?_eq_getElem h1]
  simpa using h2
/-- the forms that are taken -/
def okE : Expr → Bool
  | .Name _ _ => true
  | .Constant _ _ _ => true
  | .BinOp _ _ _ _ => true
  | .UnaryOp _ _ _ => true
  | .BoolOp _ _ _ => true
  | .Compare _ _ _ _ => true
  | .List _ _ => true
  | .Tuple _ _ _ => true
  | .Dict _ _ _ => true
  | .Subscript _ _ _ => true
  | .Call _ _ _ _ => true
  | .Attribute _ _ _ => true
  | .ListComp _ _ _ _ => true
  | .JoinedStr _ _ => true
  | _ => false
/-- a base of an attribute -/
def okB : Expr → Bool
  | .Name _ _ => true
  | .Constant _ _ _ => true
  | .Subscript _ _ _ => true
  | .Attribute _ _ _ => true
  | .BinOp _ _ _ _ => true
  | .Call (.Attribute _ _ _) _ _ _ => true
  | .Call (.Name _ _) (_ :: _) _ _ => true
  | .ListComp _ _ _ _ => true
  | _ => false
def spC (x : Str) : Bool := !(x == "__debug__") && !(x == "__classdict__") && !(x == "__name__")
def biOf : String → Option Bi
  | "len" => some .len
  | "max" => some .max
  | "min" => some .min
  | "int" => some .int
  | "str" => some .str
  | "tuple" => some .tuple
  | "list" => some .list
  | "sum" => some .sum
  | "all" => some .all
  | "dict" => some .dict
  | _ => none
def mtOf : String → Nat → Option Mt
  | "append", 1 => some .append
  | "extend", 1 => some .extend
  | "pop", 0 => some .pop
  | "pop", 1 => some .popAt
  | "clear", 0 => some .clear
  | "bit_length", 0 => some .bitlen
  | "index", 1 => some .index
  | "insert", 2 => some .insert
  | "join", 1 => some .join
  | "split", 1 => some .split
  | "partition", 1 => some .partition
  | "find", 1 => some .find
  | "upper", 0 => some .upper
  | "get", 1 => some .get
  | _, _ => none
def trK (c : Const) : Option Val := match c with
  | .int i => some (.int i)
  | .bool b => some (.bl b)
  | .none => some .non
  | .str s => some (.str s)
  | _ => none
def gl (sc : Scope) (x : Str) : Bool := decide (sc.names.lookup x = some .globalImplicit)
/-- C.m, a def of the class C, called by the class -/
def cmOf (tb : Tb) (sc : Scope) (o : Expr) (m : Str) : Option String := match o with
  | .Name x _ => if (gl sc x && spC x) = true then match nmS x, nmS m with
    | some c, some s => tb.cm.lookup (c, s)
    | _, _ => none
    else none
  | _ => none
def trTg (blk : Bool) (N : List Str) (sc : Scope) : Expr → Option Nat
  | .Name x _ => match sc.names.lookup x with
    | some .local => idxN N x
    | some .cell => if blk then none else idxN N x
    | _ => none
  | _ => none
def trT (blk : Bool) (N : List Str) (sc : Scope) : Expr → Option Tg
  | .Name x p => (trTg blk N sc (.Name x p)).map .nm
  | .Tuple es _ _ => (mapO (trTg blk N sc) es).map .tp
  | _ => none
def tgIn (own : List Nat) : Tg → Bool
  | .nm i => own.contains i
  | .tp js => js.all own.contains
def isTup : Expr → Bool
  | .Tuple _ _ _ => true
  | _ => false
/-- the own names of a comprehension's block, with their slots -/
def ownOf (N : List Str) (scope : Scope) : List (Str × Nat) := scope.names.filterMap fun (n, k) => match k with
  | .local | .cell => (idxN N n).map fun i => (n, i)
  | _ => none
def relS' (scope sc : Scope) : Scope := relS scope sc

def itName (x : Str) (args : List Expr) (tg : Expr) : Option ItK :=
  match toS x, args with
  | "range", _ => if args.length = 1 ∨ args.length = 2 ∨ args.length = 3 then some .rng else none
  | "enumerate", [_] => if isTup tg = true then some .enm else none
  | "zip", [_, _] => if isTup tg = true then some .zip else none
  | "reversed", [_] => some .rev
  | _, _ => none

/-- list(reversed(x)), list(range(..)) -/
def lofOf (sc : Scope) : List Expr → Option (ItK × List Expr)
  | [.Call (.Name g _) args [] _] => if gl sc g = true then match args with
      | [_] => if g = Str.ofString "reversed" then some (.rev, args) else if g = Str.ofString "range" then some (.rng, args) else none
      | [_, _] => if g = Str.ofString "range" then some (.rng, args) else if g = Str.ofString "zip" then some (.zip, args) else none
      | _ => none
    else none
  | _ => none
/-- the parts of an f-string: texts and names -/
def trJ (N : List Str) (sc : Scope) : List Expr → Option (List E)
  | [] => some []
  | .Constant (.str s) _ _ :: r => (trJ N sc r).map fun es => .con (.str s) :: es
  | .FormattedValue (.Name x _) (-1) none _ :: r => if (spC x && decide (sc.names.lookup x = some .local)) = true then match idxN N x, trJ N sc r with
      | some i, some es => some (.var i :: es)
      | _, _ => none
    else none
  | _ => none
mutual
def trE (tb : Tb) : Nat → Bool → List Str → Scope → Expr → Option E
  | 0, _, _, _, _ => none
  | n + 1, blk, N, sc, e => match e with
    | .Name x _ => if spC x = true then match sc.names.lookup x with
        | some .local => (idxN N x).map .var
        | some .cell => (idxN N x).map .var
        | some .free => (idxN N x).map .var
        | some .globalImplicit => match nmS x with
          | some s => if tb.glb.contains s = true then some (.glb s) else none
          | none => none
        | _ => none
      else none
    | .Constant c _ _ => (trK c).map .con
    | .BinOp a op b _ => match trE tb n blk N sc a, trE tb n blk N sc b with
      | some x, some y => some (.bin op x y)
      | _, _ => none
    | .UnaryOp .Not a _ => (trE tb n blk N sc a).map .not
    | .UnaryOp .USub a _ => (trE tb n blk N sc a).map .neg
    | .BoolOp op (a :: r) _ => trBool tb n blk N sc op a r
    | .Compare a [op] [b] _ => match trE tb n blk N sc a, trE tb n blk N sc b with
      | some x, some y => match op, b with
        | .Is, .Constant .none _ _ => some (.isN x)
        | .IsNot, .Constant .none _ _ => some (.notN x)
        | .Is, .Constant (.bool c) _ _ => some (.isB x c)
        | .IsNot, .Constant (.bool c) _ _ => some (.not (.isB x c))
        | .Is, _ => none
        | .IsNot, _ => none
        | _, _ => some (.cmp op x y)
      | _, _ => none
    | .Compare a [o1, o2] [b, c] _ => match trE tb n blk N sc a, trE tb n blk N sc b, trE tb n blk N sc c with
      | some x, some y, some z => match o1, o2 with
        | .LtE, .LtE => some (.chn .LtE .LtE x y z)
        | _, _ => none
      | _, _, _ => none
    | .List es _ => (trEs tb n blk N sc es).map .lst
    | .Tuple es _ _ => (trEs tb n blk N sc es).map .tup
    | .Subscript a (.Slice lo hi none _) _ => match trE tb n blk N sc a, trO tb n blk N sc lo, trO tb n blk N sc hi with
      | some x, some l, some u => some (.slc x l u)
      | _, _, _ => none
    | .Subscript a i _ => match trE tb n blk N sc a, trE tb n blk N sc i with
      | some x, some y => some (.idx x y)
      | _, _ => none
    | .Call (.Name f _) args [] _ => if (gl sc f && spC f) = true then match nmS f with
        | none => none
        | some s => if tb.fns.contains s = true then (trEs tb n blk N sc args).map (.call s)
          else if tb.mks.contains s = true then (trEs tb n blk N sc args).map (.new s)
          else if tb.cls.contains s = true then none
          else if s = "isinstance" then match args with
            | [a, .Name t _] => match trE tb n blk N sc a, nmS t with
              | some x, some ts => if (gl sc t && spC t && tb.isi.contains ts) = true then some (.isi x ts) else none
              | _, _ => none
            | _ => none
          else match (if s = "list" then lofOf sc args else none) with
            | some (k, as) => match as with
              | [a] => (trE tb n blk N sc a).map fun x => .lof k [x]
              | [a, b] => match trE tb n blk N sc a, trE tb n blk N sc b with
                | some x, some y => if okE b = true then some (.lof k [x, y]) else none
                | _, _ => none
              | _ => none
            | none => match biOf s, args, trEs tb n blk N sc args with
              | some b, _ :: _, some es => some (.bi b es)
              | _, _, _ => none
      else none
    | .Call (.Attribute o m ap) args [] cp => if (okB o && (ap.endLine == cp.line) && decide (args.length < 20)) = true then match cmOf tb sc o m with
      | some f => (trEs tb n blk N sc args).map (.call f)
      | none => match nmS m, trE tb n blk N sc o, trEs tb n blk N sc args with
        | some s, some x, some es => if tb.own.contains s = true then some (.own s x es) else match mtOf s args.length with
          | some mt => some (.mth mt x es)
          | none => none
        | _, _, _ => none
      else none
    | .Attribute o f _ => if okB o = true then match nmS f, trE tb n blk N sc o with
        | some s, some x => some (.fld x s)
        | _, _ => none
      else none
    | .ListComp elt [⟨tg, iter, ifs, 0⟩] scope _ =>
      if (blkC N sc scope (ownOf N scope)) = true then
        match trI tb n blk N sc tg iter, trT true N (relS scope sc) tg, trE tb n true N (relS scope sc) elt with
        | some (k, es), some t, some x => if tgIn ((ownOf N scope).map (·.2)) t = true then match ifs with
          | [] => some (.cmp1 ((ownOf N scope).map (·.2)) x t k es none)
          | [c] => match trE tb n true N (relS scope sc) c with
            | some y => some (.cmp1 ((ownOf N scope).map (·.2)) x t k es (some y))
            | none => none
          | _ => none
          else none
        | _, _, _ => none
      else none
    | .Dict [] [] _ => some (.dct [] [])
    | .JoinedStr (a :: b :: r) _ => (trJ N sc (a :: b :: r)).map .fst
    | _ => none
def trEs (tb : Tb) : Nat → Bool → List Str → Scope → List Expr → Option (List E)
  | 0, _, _, _, _ => none
  | n + 1, blk, N, sc, es => match es with
    | [] => some []
    | e :: r => match trE tb n blk N sc e, trEs tb n blk N sc r with
      | some x, some xs => some (x :: xs)
      | _, _ => none
def trO (tb : Tb) : Nat → Bool → List Str → Scope → Option Expr → Option (Option E)
  | 0, _, _, _, _ => none
  | n + 1, blk, N, sc, o => match o with
    | none => some none
    | some e => (trE tb n blk N sc e).map some
def trBool (tb : Tb) : Nat → Bool → List Str → Scope → BoolOp → Expr → List Expr → Option E
  | 0, _, _, _, _, _, _ => none
  | n + 1, blk, N, sc, op, a, r => match r with
    | [] => trE tb n blk N sc a
    | b :: r' => match trE tb n blk N sc a, trBool tb n blk N sc op b r' with
      | some x, some y => match op with
        | .And => some (.and x y)
        | .Or => some (.or x y)
      | _, _ => none
def trI (tb : Tb) : Nat → Bool → List Str → Scope → Expr → Expr → Option (ItK × List E)
  | 0, _, _, _, _, _ => none
  | n + 1, blk, N, sc, tg, e => match e with
    | .Call (.Name f p) args [] cp => if gl sc f = true then match itName f args tg with
        | some k => match nmS f with
          | none => none
          | some _ => (trEs tb n blk N sc args).map fun es => (k, es)
        | none => (trE tb n blk N sc (.Call (.Name f p) args [] cp)).map fun x => (.val, [x])
      else none
    | .Call (.Attribute o m ap) [] [] cp => if (okB o && (ap.endLine == cp.line) && isTup tg && decide (m = Str.ofString "items")) = true then (trE tb n blk N sc o).map fun x => (.itm, [x])
      else (trE tb n blk N sc (.Call (.Attribute o m ap) [] [] cp)).map fun x => (.val, [x])
    | e => (trE tb n blk N sc e).map fun x => (.val, [x])
end
end Mn
/-! Mini: side conditions of the rules, calls -/
namespace Mn
open PySem PySem.Spec PyProof.Rows L2

theorem okE_star {e : Expr} (h : okE e = true) (es : List Expr) (env : Env) : starEach (e :: es) env = (false, eval e env) :: starEach es env := by
  cases e <;> first | rfl | exact absurd h (by simp [okE])
theorem okEs_any : ∀ {es : List Expr} (h : es.all okE = true) (env : Env) (pos : Pos), (backTo pos (starEach es env)).any (·.1) = false
  | [], _, _, _ => rfl
  | e :: es, h, env, pos => by
    simp only [List.all_cons, Bool.and_eq_true] at h
    rw [okE_star h.1]
    have ih := okEs_any h.2 env pos
    unfold backTo at ih ⊢
    simp only [List.map_cons, List.any_cons]
    rw [ih]; rfl
theorem okEs_all : ∀ {es : List Expr} (h : es.all okE = true) (env : Env) (pos : Pos), (backTo pos (starEach es env)).all (fun x => !x.1) = true
  | [], _, _, _ => rfl
  | e :: es, h, env, pos => by
    simp only [List.all_cons, Bool.and_eq_true] at h
    rw [okE_star h.1]
    have ih := okEs_all h.2 env pos
    unfold backTo at ih ⊢
    simp only [List.map_cons, List.all_cons]
    rw [ih]; rfl
theorem okB_base : ∀ {o : Expr} (h : okB o = true) (name : Str) (env : Env), attributeBase o name env (eval o env) = eval o env
  | .Name _ _, _, _, _ => rfl
  | .Constant _ _ _, _, _, _ => rfl
  | .Subscript _ _ _, _, _, _ => rfl
  | .Attribute _ _ _, _, _, _ => rfl
  | .BinOp _ _ _ _, _, _, _ => rfl
  | .Call (.Attribute _ _ _) _ _ _, _, _, _ => rfl
  | .Call (.Name _ _) (_ :: _) _ _, _, _, _ => rfl
  | .ListComp _ _ _ _, _, _, _ => rfl
theorem okE_plainIx {e : Expr} (h : okE e = true) : PlainIx e := fun _ _ => by
  cases e <;> first | rfl | exact absurd h (by simp [okE])
theorem okE_notSwap {e : Expr} (h : okE e = true) (hl : ∀ a b c d, e ≠ .ListComp a b c d) (t : Option Expr) (l : Nat) (env : Env) : swapsWith e t l env = pure false := by
  cases e <;> first | rfl | (exact absurd rfl (hl _ _ _ _)) | exact absurd h (by simp [okE])
theorem okE_folded {e : Expr} (h : okE e = true) (env : Env) (x : Value) : foldedSetIterable e env x = pure x := by
  cases e <;> first | rfl | exact absurd h (by simp [okE])
theorem okE_nomark {e : Expr} (h : okE e = true) (op : CmpOp) : behindInMarks op e = false := by
  cases e <;> first | rfl | exact absurd h (by simp [okE])

section
variable {X : Cx} {CX : CXT} {k : Nat} {f C : Addr} {fd : FuncData} {ps : List Str} {sp : Sp} {E : L2.St → XK} {x m : Str} {p pos apos : Pos} {o : Expr} {es : List Expr} {ta : TE} {t : TA}
/-- f(..), any number of arguments; what is raised is wished for at the caller's slots -/
theorem pe_callU0 (F : FnOk X.prog X.w X.K X.mg X.base CX k f fd ps sp) (hr : Room k X.A) (hg : Gl X x) (hm : X.mg x = some (.ref f)) (hk : PySem.W.keepIn X.K (.ref f) = true) (hb : Binds X.K fd ps []) (hx : ∀ σ, PassesAt CX X σ (E σ))
    (hdb : (x == ("__debug__" : Str)) = false) : PE X (.Call (.Name x p) [] [] pos) (tCallS sp E tNil) := by
  refine ⟨fun pins s σ H Q I h => ?_⟩
  refine wpAny_Call_Name_kw (ld_glob I hg hm ?_ hdb)
  exact PySem.W.callWith_K0 I.kIn hk (run_fnS (us := []) F hr hb (hx σ) I .nil h)
end
end Mn
/-! Mini: expressions, construct by construct -/
namespace Mn
open PySem PySem.Spec PyProof.Rows L2

/-- the promise of a def whose run Mini is g -/
def spOf (L : Lk) (g : List Val → MH → Res Val) (np : Nat) : Sp := fun vs H Q E => vs.length = np ∧ ∃ φ h ms, Rel L φ h H ∧ VRs L φ H ms vs ∧ Post L φ H (vR L) (g ms h) Q E
/-- the type of a value, as isinstance asks for it -/
def tyV' (L : Lk) (c : String) : Value := match L.exc c with
  | some C => .ref C
  | none => match L.cls c with
    | some C => .ref C
    | none => .type c
/-- __init__ of an exception's class, which stores its argument at f -/
def spEx (C : Addr) (f : Str) : Sp := fun vs H Q _ => ∃ a v, vs = [.ref a, v] ∧ H a = some (exo a C none) ∧ ∀ dx, H dx = none → dx ≠ a → Q .non (upd (upd H dx (exd dx [(f, v)])) a (exo a C (some dx)))
def veTl : List Value := [.type "ValueError", .type "Exception", .type "BaseException", .type "object"]
/-- how an exception's class is called -/
def ExMk (prog : Program) (w : World) (K : PySem.W.Frag) (mg : Str → Option Value) (base : Heap) (k : Nat) (C : Addr) : Option String → Prop
  | none => PySem.W.excIn K C veTl "ValueError.__new__" = true
  | some f => OexC K C ∧ PySem.W.findIn K (.ref C) (Str.ofString f) = some none ∧ ∃ fI fd ps, PySem.W.findIn K (.ref C) "__init__" = some (some (.ref fI)) ∧ PySem.W.typeIn K (.ref fI) = some (.type "function") ∧ Binds K fd ps [] ∧ FnOk prog w K mg base (L2.CX prog w) k fI fd ps (spEx C (Str.ofString f))
def isTy (c : String) : Bool := ["NoneType", "bool", "int", "str", "tuple", "list", "dict"].contains c
def bltNames : List String := ["range", "enumerate", "zip", "reversed", "len", "max", "min", "int", "str", "tuple", "list", "sum", "all", "isinstance", "dict"]
structure PrOk (tb : Tb) (L : Lk) (P : Pg) (k : Nat) (prog : Program) (w : World) (mg : Str → Option Value) (base : Heap) : Prop where
  glb : ∀ x, tb.glb.contains x = true → ∃ v u y, P.glb x = some v ∧ mg (Str.ofString x) = some u ∧ RelV y u ∧ ∀ φ H, VR L φ H v y
  fns : ∀ f, tb.fns.contains f = true → ∃ a fd ps, mg (Str.ofString f) = some (.ref a) ∧ PySem.W.keepIn L.K (.ref a) = true ∧ Binds L.K fd ps [] ∧ FnOk prog w L.K mg base (L2.CX prog w) k a fd ps (spOf L (P.cf f) ps.length) ∧
    ∀ ms h, P.cf f ms h ≠ .bad → ms.length = ps.length
  isi : ∀ t, tb.isi.contains t = true → ∃ (c : V) (u : Value), ((∃ T, c = .ty T ∧ u = .type T ∧ mg (Str.ofString t) = none ∧ bootBuiltins (Str.ofString t) = some (.type T)) ∨ ∃ C, c = .ref C ∧ u = .ref C ∧ mg (Str.ofString t) = some (.ref C)) ∧
    ∀ cl b, P.sub cl t = some b → PySem.W.kitOne L.K (tyV' L cl) u = some b
  noTy : ∀ c, isTy c = true → L.cls c = none ∧ L.exc c = none
  sep : ∀ c C, L.cls c = some C → L.exc c = none
  exk : ∀ c C, L.exc c = some C → ExK L.K C
  exm : ∀ c t b, P.exm c t = some b → ∃ C, mg (Str.ofString t) = some (.ref C) ∧ ∀ D, L.exc c = some D → PySem.W.exmOne L.K (.ref D) (.ref C) = some b
  exi : ∀ c o, P.exi c = some o → ∃ C, L.exc c = some C ∧ mg (Str.ofString c) = some (.ref C) ∧ PySem.W.keepIn L.K (.ref C) = true ∧ PySem.W.subIn L.K (.ref C) (.type "BaseException") = some true ∧ PySem.W.typeIn L.K (.ref C) = some (.type "type") ∧ ExMk prog w L.K mg base k C o
  insTy : ∀ c C, L.cls c = some C → ∀ (H : Hp) (a dx : Addr) (fs : List (Str × V)), H a = some (.ins C dx fs) → TyX L.K H (.ref a) (.ref C)
  blt : ∀ b, bltNames.contains b = true → mg (Str.ofString b) = none
  mro : ∀ c m f, P.mro c m = some f → ∃ C a fd ps, L.cls c = some C ∧ Cls L.K C ∧ Meth L.K C (Str.ofString m) a ∧ Binds L.K fd ps [] ∧ FnOk prog w L.K mg base (L2.CX prog w) k a fd ps (spOf L (P.cf f) ps.length) ∧
    ∀ ms h, P.cf f ms h ≠ .bad → ms.length = ps.length
  own : ∀ m, tb.own.contains m = true → ∃ c f, P.mro c m = some f
  mks : ∀ c, tb.mks.contains c = true → ∃ C a f, L.cls c = some C ∧ mg (Str.ofString c) = some (.ref C) ∧ Mk L.K C a ∧ P.mro c "__init__" = some f
  flds : ∀ c f, (P.flds c).contains f = true → ∃ C, L.cls c = some C ∧ Cls L.K C ∧ NoAttr L.K C (Str.ofString f)
  cm : ∀ c m f, tb.cm.lookup (c, m) = some f → ∃ C mc a fd ps, mg (Str.ofString c) = some (.ref C) ∧ ClX.CRead L.K C mc ∧ PySem.W.findCls L.K (.ref C) mc (Str.ofString m) = some (.val (.ref a)) ∧ PySem.W.keepIn L.K (.ref a) = true ∧ Binds L.K fd ps [] ∧ FnOk prog w L.K mg base (L2.CX prog w) k a fd ps (spOf L (P.cf f) ps.length) ∧
    ∀ ms h, P.cf f ms h ≠ .bad → ms.length = ps.length
structure Sy (tb : Tb) (L : Lk) (P : Pg) (k : Nat) (X : Cx) (blk : Bool) (N : List Str) (sc : Scope) (W : WX) : Prop where
  hK : X.K = L.K
  hN : X.N = N
  nd : N.Nodup
  hsc : X.env.scope = sc
  tk : Takes X W
  fnc : blk = false → ∀ x, X.fn x = true
  pr : PrOk tb L P k X.prog X.w X.mg X.base

structure Sx (tb : Tb) (L : Lk) (P : Pg) (k : Nat) (X : Cx) (blk : Bool) (N : List Str) (sc : Scope) (W : WX) : Prop extends Sy tb L P k X blk N sc W where
  room : Room (k + 1) X.A
  calm : X.calm = true

section
variable {tb : Tb} {L : Lk} {P : Pg} {k : Nat} {X : Cx} {blk : Bool} {N : List Str} {sc : Scope} {W : WX}
theorem Sx.rm (S : Sx tb L P k X blk N sc W) : Room k X.A := S.room.mono (Nat.le_succ k)
theorem Sx.units (S : Sx tb L P k X blk N sc W) : X.A.units + 64 < cLine := S.room.units
theorem Sx.units65 (S : Sx tb L P k X blk N sc W) : X.A.units + 65 < cLine := by have := S.room.un; omega
theorem Sy.gl (S : Sy tb L P k X blk N sc W) {x : Str} (h : gl sc x = true) : Gl X x := by
  unfold Gl
  show X.env.scope.names.lookup x = _
  rw [S.hsc]
  exact of_decide_eq_true h

theorem pe_con {v : Val} {c : Const} {j : Nat} {pos : Pos} (e : trK c = some v) : PE X (.Constant c j pos) (tM L P W (.con v)) := by
  cases c <;> first | (cases e; done) | skip
  all_goals cases e
  · exact PE.weak pe_non fun σ H Q ⟨φ, h, ρ, R, En, p⟩ => by simp only [evE] at p; exact Post.here R .non p
  · exact PE.weak pe_bl fun σ H Q ⟨φ, h, ρ, R, En, p⟩ => by simp only [evE] at p; exact Post.here R (.bl _) p
  · exact PE.weak pe_int fun σ H Q ⟨φ, h, ρ, R, En, p⟩ => by simp only [evE] at p; exact Post.here R (.int _) p
  · exact PE.weak pe_str fun σ H Q ⟨φ, h, ρ, R, En, p⟩ => by simp only [evE] at p; exact Post.here R (.str _) p
theorem pe_varM (S : Sy tb L P k X blk N sc W) {x : Str} {i : Nat} {pos : Pos} (hi : idxN N x = some i) (hv : Vis sc x) (hc : spC x = true) : PE X (.Name x pos) (tM L P W (.var i)) := by
  have hc' := hc
  unfold spC at hc'
  simp only [Bool.and_eq_true, Bool.not_eq_true'] at hc'
  refine PE.weak (pe_var (i := i) (by rw [S.hN]; exact idxN_ok hi) (by rw [S.hsc]; exact hv) hc'.1.1 hc'.1.2) fun σ H Q ⟨φ, h, ρ, R, En, p⟩ => ?_
  simp only [evE, getV] at p
  cases e : ρ[i]? with
  | none => rw [e] at p; exact False.elim p
  | some o =>
    cases o with
    | none => rw [e] at p; exact False.elim p
    | some v =>
      rw [e] at p
      obtain ⟨y, h1, h2⟩ := En.get i v e
      exact ⟨y, h1, Post.here R h2 p⟩
theorem pe_glbM (S : Sx tb L P k X blk N sc W) {s : String} {pos : Pos} (hg : Mn.gl sc (Str.ofString s) = true) (hb : tb.glb.contains s = true) (hc : spC (Str.ofString s) = true) : PE X (.Name (Str.ofString s) pos) (tM L P W (.glb s)) := by
  obtain ⟨v, u, y, e1, e2, e3, e4⟩ := S.pr.glb s hb
  unfold spC at hc
  simp only [Bool.and_eq_true, Bool.not_eq_true'] at hc
  refine PE.weak (pe_glob (S.gl hg) e2 e3 hc.1.1) fun σ H Q ⟨φ, h, ρ, R, En, p⟩ => ?_
  simp only [evE, e1, retO] at p
  exact Post.here R (e4 φ H) p
/-- two operands, then something by values -/
theorem two_of {a b : E} {f : Val → Val → MH → Res Val} {r : R2} {σ : L2.St} {H : Hp} {Q : VK} (ho : ∀ x y H Q, rOp L f x y H Q → r x y H Q) (hf : ∀ v w h c fs h', f v w h ≠ .err c fs h') {e : E} (he : ∀ ρ h, evE P e ρ h = (evE P a ρ h).bind fun x h1 => (evE P b ρ h1).bind fun y h2 => f x y h2)
    (q : tM L P W e σ H Q) : tOp r (tM L P W a) (tM L P W b) σ H Q := by
  obtain ⟨φ, h, ρ, R, En, p⟩ := q
  rw [he] at p
  refine ⟨φ, h, ρ, R, En, (Post.bind (rel0 := vR L) p).imp fun x H1 ⟨φ1, h1, v, E1, R1, r1, p1⟩ => ?_⟩
  refine ⟨φ1, h1, ρ, R1, En.mono E1, (Post.bind (rel0 := vR L) p1).imp fun y H2 ⟨φ2, h2, w, E2, R2, r2, p2⟩ => ho _ _ _ _ ?_⟩
  refine ⟨φ2, h2, v, w, R2, r1.mono E2, r2, ?_⟩
  cases e : f v w h2 with
  | ok m h3 => rw [e] at p2; exact p2
  | err c fs h3 => exact absurd e (hf _ _ _ _ _ _)
  | bad => rw [e] at p2; exact p2
theorem binop_noerr (op : Operator) (v w : Val) (h : MH) (c : String) (fs : List (String × Val)) (h' : MH) : binop op v w h ≠ .err c fs h' := by
  intro z
  unfold binop at z
  repeat' split at z
  all_goals cases z
theorem retO_noerr {α : Type} {o : Option α} {h : MH} {c : String} {fs : List (String × Val)} {h' : MH} : retO o h ≠ .err c fs h' := by
  intro z
  cases o <;> cases z
theorem cmpop_noerr (op : CmpOp) (v w : Val) (h : MH) (c : String) (fs : List (String × Val)) (h' : MH) : cmpop op v w h ≠ .err c fs h' := by
  intro z
  unfold cmpop at z
  repeat' split at z
  all_goals first | (cases z; done) | exact retO_noerr z
theorem index_noerr (v w : Val) (h : MH) (c : String) (fs : List (String × Val)) (h' : MH) : index v w h ≠ .err c fs h' := by
  intro z
  unfold index at z
  repeat' split at z
  all_goals first | (cases z; done) | exact retO_noerr z
theorem pe_binM (S : Sx tb L P k X blk N sc W) {op : Operator} {a b : Expr} {x y : E} {pos : Pos} (ha : PE X a (tM L P W x)) (hb : PE X b (tM L P W y)) : PE X (.BinOp a op b pos) (tM L P W (.bin op x y)) :=
  PE.weak (pe_op (bin_all S.hK op) ha hb) fun _ _ _ q => two_of (fun _ _ _ _ z => z) (binop_noerr op) (fun ρ h => by simp only [evE]) q
theorem pe_cmpM (S : Sx tb L P k X blk N sc W) {op : CmpOp} {a b : Expr} {x y : E} {pos : Pos} (n1 : op ≠ .In) (n2 : op ≠ .NotIn) (ok : okE b = true) (ha : PE X a (tM L P W x)) (hb : PE X b (tM L P W y)) : PE X (.Compare a [op] [b] pos) (tM L P W (.cmp op x y)) :=
  PE.weak (pe_cmpR (cmp_all S.hK S.units op n1 n2) ha hb (okE_nomark ok op)) fun _ _ _ q => two_of (fun _ _ _ _ z => z) (cmpop_noerr op) (fun ρ h => by simp only [evE]) q
/-- a test of a value -/
theorem tMT_of {e : E} {t : TE} (k : ∀ σ H Q, tM L P W e σ H Q → t σ H Q) : ∀ σ H Q, tMT L P W e σ H Q → tTest t σ H Q := fun σ H Q q => k _ _ _ q
theorem pt_cmpM (S : Sx tb L P k X blk N sc W) {op : CmpOp} {a b : Expr} {x y : E} {pos : Pos} (n1 : op ≠ .In) (n2 : op ≠ .NotIn) (ok : okE b = true) (ha : PE X a (tM L P W x)) (hb : PE X b (tM L P W y)) : PT X (.Compare a [op] [b] pos) (tMT L P W (.cmp op x y)) :=
  PT.weak (pt_cmpR (cmp_all S.hK S.units op n1 n2) ha hb (okE_nomark ok op)) (tMT_of fun _ _ _ q => two_of (fun _ _ _ _ z => z) (cmpop_noerr op) (fun ρ h => by simp only [evE]) q)

/-! in -/
def rInV (L : Lk) (neg : Bool) : R2 := fun x y H Q => ∃ φ h v w, Rel L φ h H ∧ VR L φ H v x ∧ VR L φ H w y ∧ Post L φ H (vR L) (cmpop (if neg then .NotIn else .In) v w h) Q (fun _ _ _ => False)
theorem in_all (S : Sx tb L P k X blk N sc W) (neg : Bool) : OpR X (compareOp (if neg then .NotIn else .In)) (rOp L (cmpop (if neg then .NotIn else .In))) := by
  intro pins s σ H x y v u Q I rx ry ⟨φ, h, v', w', R, vv, vw, p⟩
  have p2 : Post L φ H (vR L) (retO ((vin? h v' w').map fun b => .bl (if neg then !b else b)) h) Q (fun _ _ _ => False) := by
    cases neg with
    | false => exact p
    | true => exact p
  cases e : vin? h v' w' with
  | none => rw [e] at p2; exact False.elim p2
  | some b =>
    rw [e] at p2
    have q := Post.here R (.bl _) p2
    by_cases nd : noD h w'
    · exact vin_ok S.hK S.units65 neg I rx ry R vv vw e nd q
    · have nd2 : ∃ a ob o, w' = .ref a ∧ h[a]? = some ob ∧ askO ob v' = some o ∧ o.isSome = b := by
        refine Classical.byContradiction fun z => nd fun a e1 => ⟨fun w kvs e2 => z ?_, fun kvs e2 => z ?_⟩
        · subst e1
          simp only [vin?, e2] at e
          by_cases c : emT w kvs v' = true
          · rw [if_pos c] at e; cases e
            exact ⟨a, _, none, rfl, e2, by simp only [askO]; rw [if_pos c], rfl⟩
          · rw [if_neg c] at e
            obtain ⟨k, ek, rfl⟩ := Option.map_eq_some_iff.mp e
            exact ⟨a, _, _, rfl, e2, by simp only [askO]; rw [if_neg c, ek]; rfl, rfl⟩
        · subst e1
          simp only [vin?, e2] at e
          obtain ⟨k, ek, rfl⟩ := Option.map_eq_some_iff.mp e
          exact ⟨a, _, _, rfl, e2, by simp only [askO]; rw [ek]; rfl, rfl⟩
      obtain ⟨a, ob, o, rfl, hi, ea, rfl⟩ := nd2
      have hu : X.A.units + 1 < cLine := by have := S.units; omega
      refine ask_run I R vw vv hi ea fun p H' o' ex I' g back es _ _ => ?_
      subst ex
      cases (show u = Value.ref p from ry)
      rw [← es] at q
      cases neg with
      | false => exact d_in hu I' g rx fun s' I2 => ⟨.bl _, H, back s' I2, rfl, q⟩
      | true => exact d_notIn hu I' g rx fun s' I2 => ⟨.bl _, H, back s' I2, rfl, q⟩
theorem pe_inM (S : Sx tb L P k X blk N sc W) {neg : Bool} {a b : Expr} {x y : E} {pos : Pos} (ok : okE b = true) (ha : PE X a (tM L P W x)) (hb : PE X b (tM L P W y)) : PE X (.Compare a [if neg then .NotIn else .In] [b] pos) (tM L P W (.cmp (if neg then .NotIn else .In) x y)) :=
  PE.weak (pe_cmpR (in_all S neg) ha hb (okE_nomark ok _)) fun _ _ _ q => two_of (fun _ _ _ _ z => z) (cmpop_noerr _) (fun ρ h => by simp only [evE]) q
theorem pt_inM (S : Sx tb L P k X blk N sc W) {neg : Bool} {a b : Expr} {x y : E} {pos : Pos} (ok : okE b = true) (ha : PE X a (tM L P W x)) (hb : PE X b (tM L P W y)) : PT X (.Compare a [if neg then .NotIn else .In] [b] pos) (tMT L P W (.cmp (if neg then .NotIn else .In) x y)) :=
  PT.weak (pt_cmpR (in_all S neg) ha hb (okE_nomark ok _)) (tMT_of fun _ _ _ q => two_of (fun _ _ _ _ z => z) (cmpop_noerr _) (fun ρ h => by simp only [evE]) q)
theorem pe_cmpAll (S : Sx tb L P k X blk N sc W) {op : CmpOp} {a b : Expr} {x y : E} {pos : Pos} (ok : okE b = true) (ha : PE X a (tM L P W x)) (hb : PE X b (tM L P W y)) : PE X (.Compare a [op] [b] pos) (tM L P W (.cmp op x y)) ∧ PT X (.Compare a [op] [b] pos) (tMT L P W (.cmp op x y)) := by
  cases op
  case In => exact ⟨pe_inM (neg := false) S ok ha hb, pt_inM (neg := false) S ok ha hb⟩
  case NotIn => exact ⟨pe_inM (neg := true) S ok ha hb, pt_inM (neg := true) S ok ha hb⟩
  all_goals exact ⟨pe_cmpM S (by decide) (by decide) ok ha hb, pt_cmpM S (by decide) (by decide) ok ha hb⟩

/-! None -/
theorem isNon_ok {φ : Ph} {H : Hp} {v : Val} {x : V} (r : VR L φ H v x) : decide (x = V.non) = isNon v := by
  cases r <;> simp [isNon]
theorem isBl_ok {φ : Ph} {H : Hp} {v : Val} {x : V} {c : Bool} (r : VR L φ H v x) : decide (x = V.bl c) = isBl c v := by
  cases r <;> simp [isBl]
  rename_i b
  cases b <;> cases c <;> rfl
def tIsB (c : Bool) (ta : TE) : TE := fun σ H Q => ta σ H fun x H1 => Q (.bl (decide (x = .bl c))) H1
theorem relv_b {x : V} {v : Value} {c : Bool} (r : RelV x v) : (v == Value.bool c) = decide (x = .bl c) := by
  cases x with
  | non => cases r; rfl
  | bl b => cases r; cases b <;> cases c <;> rfl
  | int _ => obtain ⟨t, rfl⟩ := r; rfl
  | str _ => obtain ⟨t, rfl⟩ := r; rfl
  | byt _ => obtain ⟨t, rfl⟩ := r; rfl
  | flt _ => obtain ⟨t, rfl⟩ := r; rfl
  | ref _ => cases r; rfl
  | ty _ => cases r; rfl
theorem is_boolR {M : Model} {A : Around} {E : Value → Shared → Prop} {s : Shared} {Q : Value → Shared → Prop} {x : V} {v : Value} {c : Bool} (r : RelV x v) (h : Q (.bool (v == .bool c)) s) : wpAny M A (compareOp .Is v (.bool c)) Q E s := by
  cases x with
  | non => cases r; exact wpAny_pure h
  | bl b => cases r; exact wpAny_pure h
  | int _ => obtain ⟨t, rfl⟩ := r; exact wpAny_pure h
  | str _ => obtain ⟨t, rfl⟩ := r; exact wpAny_pure h
  | byt _ => obtain ⟨t, rfl⟩ := r; exact wpAny_pure h
  | flt _ => obtain ⟨t, rfl⟩ := r; exact wpAny_pure h
  | ref _ => cases r; exact wpAny_pure h
  | ty _ => cases r; exact wpAny_pure h
theorem pc_isB {a : Expr} {ta : TE} {c : Bool} {j pos'} (ha : PE X a ta) : PC X .Is a (.Constant (.bool c) j pos') (tIsB c ta) := by
  refine ⟨fun pins s σ H Q I h => ?_⟩
  refine thn (ha.run pins s σ H _ I h) fun v s1 ⟨x, H1, I1, r1, q1⟩ => ?_
  exact Constant_bool (is_boolR r1 ⟨.bl _, H1, I1, by rw [relv_b r1]; rfl, q1⟩)
theorem isB_w {x : E} {c : Bool} {σ : L2.St} {H : Hp} {Q : VK} (q : tM L P W (.isB x c) σ H Q) : tM L P W x σ H fun y H1 => Q (.bl (decide (y = .bl c))) H1 := by
  obtain ⟨φ, h, ρ, R, En, p⟩ := q
  simp only [evE] at p
  refine ⟨φ, h, ρ, R, En, (Post.bind (rel0 := vR L) p).imp fun y H1 ⟨φ1, h1, v, E1, R1, r1, p1⟩ => ?_⟩
  rw [isBl_ok r1]
  exact Post.here R1 (.bl _) p1
theorem isnot_boolR {M : Model} {A : Around} {E : Value → Shared → Prop} {s : Shared} {Q : Value → Shared → Prop} {x : V} {v : Value} {c : Bool} (r : RelV x v) (h : Q (.bool (!(v == .bool c))) s) : wpAny M A (compareOp .IsNot v (.bool c)) Q E s := by
  cases x with
  | non => cases r; exact wpAny_pure h
  | bl b => cases r; exact wpAny_pure h
  | int _ => obtain ⟨t, rfl⟩ := r; exact wpAny_pure h
  | str _ => obtain ⟨t, rfl⟩ := r; exact wpAny_pure h
  | byt _ => obtain ⟨t, rfl⟩ := r; exact wpAny_pure h
  | flt _ => obtain ⟨t, rfl⟩ := r; exact wpAny_pure h
  | ref _ => cases r; exact wpAny_pure h
  | ty _ => cases r; exact wpAny_pure h
def tNotB (c : Bool) (ta : TE) : TE := fun σ H Q => ta σ H fun x H1 => Q (.bl (!decide (x = .bl c))) H1
theorem pc_notB {a : Expr} {ta : TE} {c : Bool} {j pos'} (ha : PE X a ta) : PC X .IsNot a (.Constant (.bool c) j pos') (tNotB c ta) := by
  refine ⟨fun pins s σ H Q I h => ?_⟩
  refine thn (ha.run pins s σ H _ I h) fun v s1 ⟨x, H1, I1, r1, q1⟩ => ?_
  exact Constant_bool (isnot_boolR r1 ⟨.bl _, H1, I1, by rw [relv_b r1]; rfl, q1⟩)
theorem notB_w {x : E} {c : Bool} {σ : L2.St} {H : Hp} {Q : VK} (q : tM L P W (.not (.isB x c)) σ H Q) : tM L P W x σ H fun y H1 => Q (.bl (!decide (y = .bl c))) H1 := by
  obtain ⟨φ, h, ρ, R, En, p⟩ := q
  have e : evE P (.not (.isB x c)) ρ h = (evE P x ρ h).bind fun y h1 => .ok (.bl (!isBl c y)) h1 := by
    simp only [evE]
    cases evE P x ρ h <;> rfl
  rw [e] at p
  refine ⟨φ, h, ρ, R, En, (Post.bind (rel0 := vR L) p).imp fun y H1 ⟨φ1, h1, v, E1, R1, r1, p1⟩ => ?_⟩
  rw [isBl_ok r1]
  exact Post.here R1 (.bl _) p1
theorem pe_notBM {a : Expr} {x : E} {c : Bool} {j : Nat} {pos pos' : Pos} (ha : PE X a (tM L P W x)) : PE X (.Compare a [.IsNot] [.Constant (.bool c) j pos'] pos) (tM L P W (.not (.isB x c))) :=
  PE.weak (pe_cmp (pc_notB ha) rfl) fun _ _ _ q => notB_w q
theorem pt_notBM {a : Expr} {x : E} {c : Bool} {j : Nat} {pos pos' : Pos} (ha : PE X a (tM L P W x)) : PT X (.Compare a [.IsNot] [.Constant (.bool c) j pos'] pos) (tMT L P W (.not (.isB x c))) :=
  PT.weak (pt_cmp (pc_notB ha) rfl) fun _ _ _ q => notB_w q
theorem pe_isBM {a : Expr} {x : E} {c : Bool} {j : Nat} {pos pos' : Pos} (ha : PE X a (tM L P W x)) : PE X (.Compare a [.Is] [.Constant (.bool c) j pos'] pos) (tM L P W (.isB x c)) :=
  PE.weak (pe_cmp (pc_isB ha) rfl) fun _ _ _ q => isB_w q
theorem pt_isBM {a : Expr} {x : E} {c : Bool} {j : Nat} {pos pos' : Pos} (ha : PE X a (tM L P W x)) : PT X (.Compare a [.Is] [.Constant (.bool c) j pos'] pos) (tMT L P W (.isB x c)) :=
  PT.weak (pt_cmp (pc_isB ha) rfl) fun _ _ _ q => isB_w q
theorem isN_w {x : E} {σ : L2.St} {H : Hp} {Q : VK} (q : tM L P W (.isN x) σ H Q) : tM L P W x σ H fun y H1 => Q (.bl (decide (y = .non))) H1 := by
  obtain ⟨φ, h, ρ, R, En, p⟩ := q
  simp only [evE] at p
  refine ⟨φ, h, ρ, R, En, (Post.bind (rel0 := vR L) p).imp fun y H1 ⟨φ1, h1, v, E1, R1, r1, p1⟩ => ?_⟩
  rw [isNon_ok r1]
  exact Post.here R1 (.bl _) p1
theorem notN_w {x : E} {σ : L2.St} {H : Hp} {Q : VK} (q : tM L P W (.notN x) σ H Q) : tM L P W x σ H fun y H1 => Q (.bl (!decide (y = .non))) H1 := by
  obtain ⟨φ, h, ρ, R, En, p⟩ := q
  simp only [evE] at p
  refine ⟨φ, h, ρ, R, En, (Post.bind (rel0 := vR L) p).imp fun y H1 ⟨φ1, h1, v, E1, R1, r1, p1⟩ => ?_⟩
  rw [isNon_ok r1]
  exact Post.here R1 (.bl _) p1
theorem pe_isNM {a : Expr} {x : E} {j : Nat} {pos pos' : Pos} (ha : PE X a (tM L P W x)) : PE X (.Compare a [.Is] [.Constant .none j pos'] pos) (tM L P W (.isN x)) :=
  PE.weak (pe_cmp (pc_isN ha) rfl) fun _ _ _ q => isN_w q
theorem pe_notNM {a : Expr} {x : E} {j : Nat} {pos pos' : Pos} (ha : PE X a (tM L P W x)) : PE X (.Compare a [.IsNot] [.Constant .none j pos'] pos) (tM L P W (.notN x)) :=
  PE.weak (pe_cmp (pc_notN ha) rfl) fun _ _ _ q => notN_w q
theorem pt_isNM {a : Expr} {x : E} {j : Nat} {pos pos' : Pos} (ha : PE X a (tM L P W x)) : PT X (.Compare a [.Is] [.Constant .none j pos'] pos) (tMT L P W (.isN x)) :=
  PT.weak (pt_cmp (pc_isN ha) rfl) fun _ _ _ q => isN_w q
theorem pt_notNM {a : Expr} {x : E} {j : Nat} {pos pos' : Pos} (ha : PE X a (tM L P W x)) : PT X (.Compare a [.IsNot] [.Constant .none j pos'] pos) (tMT L P W (.notN x)) :=
  PT.weak (pt_cmp (pc_notN ha) rfl) fun _ _ _ q => notN_w q

/-! chains -/
theorem chn_w {a b c : E} {σ : L2.St} {H : Hp} {Q : VK} {o1 o2 : CmpOp} (q : tM L P W (.chn o1 o2 a b c) σ H Q) : tChain (rOp L (cmpop o1)) (rOp L (cmpop o2)) (tM L P W a) (tM L P W b) (tM L P W c) σ H Q := by
  obtain ⟨φ, h, ρ, R, En, p⟩ := q
  simp only [evE] at p
  refine ⟨φ, h, ρ, R, En, (Post.bind (rel0 := vR L) p).imp fun x H1 ⟨φ1, h1, v, E1, R1, r1, p1⟩ => ?_⟩
  refine ⟨φ1, h1, ρ, R1, En.mono E1, (Post.bind (rel0 := vR L) p1).imp fun y H2 ⟨φ2, h2, w, E2, R2, r2, p2⟩ => ?_⟩
  refine ⟨φ2, h2, v, w, R2, r1.mono E2, r2, ?_⟩
  cases e : cmpop o1 v w h2 with
  | err c fs h3 => exact absurd e (cmpop_noerr _ _ _ _ _ _ _)
  | bad => rw [e] at p2; exact p2
  | ok z h3 =>
    rw [e] at p2
    intro V H3 φ3 E3 R3 r3
    have p3 := Post.step E3 p2
    cases z with
    | bl bb =>
      cases bb with
      | true =>
        refine ⟨true, r3.blI, iteT ?_⟩
        change Post L φ3 H3 (vR L) ((evE P c ρ h3).bind fun u h4 => cmpop o2 w u h4) Q _ at p3
        refine ⟨φ3, h3, ρ, R3, ((En.mono E1).mono E2).mono E3, (Post.bind (rel0 := vR L) p3).imp fun u H4 ⟨φ4, h4, v4, E4, R4, r4, p4⟩ => ?_⟩
        refine ⟨φ4, h4, w, v4, R4, (r2.mono E3).mono E4, r4, ?_⟩
        cases e : cmpop o2 w v4 h4 with
        | ok m h5 => rw [e] at p4; exact p4
        | err c fs h5 => exact absurd e (cmpop_noerr _ _ _ _ _ _ _)
        | bad => rw [e] at p4; exact p4
      | false =>
        refine ⟨false, r3.blI, iteF ?_⟩
        exact Post.here R3 (.bl false) p3
    | non => exact False.elim p3
    | int _ => exact False.elim p3
    | str _ => exact False.elim p3
    | tup _ => exact False.elim p3
    | ref _ => exact False.elim p3
    | exc _ _ => exact False.elim p3
theorem pe_chnM (S : Sx tb L P k X blk N sc W) {o1 o2 : CmpOp} {a b c : Expr} {x y z : E} {pos : Pos} (n1 : o1 ≠ .In ∧ o1 ≠ .NotIn) (n2 : o2 ≠ .In ∧ o2 ≠ .NotIn) (ok : okE b = true) (ok2 : okE c = true) (ha : PE X a (tM L P W x)) (hb : PE X b (tM L P W y)) (hc : PE X c (tM L P W z)) :
    PE X (.Compare a [o1, o2] [b, c] pos) (tM L P W (.chn o1 o2 x y z)) ∧ PT X (.Compare a [o1, o2] [b, c] pos) (tMT L P W (.chn o1 o2 x y z)) :=
  ⟨PE.weak (pe_chain (cmp_all S.hK S.units o1 n1.1 n1.2) (cmp_all S.hK S.units o2 n2.1 n2.2) ha hb hc (show lastMarks [o1, o2] [b, c] = false from okE_nomark ok2 o2)) fun _ _ _ q => chn_w q,
   PT.weak (pt_chain (cmp_all S.hK S.units o1 n1.1 n1.2) (cmp_all S.hK S.units o2 n2.1 n2.2) ha hb hc (show lastMarks [o1, o2] [b, c] = false from okE_nomark ok2 o2)) fun _ _ _ q => chn_w q⟩
end
end Mn
namespace Mn
open PySem PySem.Spec PyProof.Rows L2
section
variable {tb : Tb} {L : Lk} {P : Pg} {k : Nat} {X : Cx} {blk : Bool} {N : List Str} {sc : Scope} {W : WX}
/-! arguments, displays -/
theorem pa_nilM : PA X [] (tMs L P W []) := PA.weak pa_nil fun σ H Q ⟨φ, h, ρ, R, En, p⟩ => by
  simp only [evEs] at p
  exact p [] H φ Ext.refl R .nil
theorem pa_consM {e : Expr} {es : List Expr} {x : E} {xs : List E} (ok : okE e = true) (ha : PE X e (tM L P W x)) (hb : PA X es (tMs L P W xs)) : PA X (e :: es) (tMs L P W (x :: xs)) :=
  PA.weak (pa_cons ha hb (okE_star ok _ _)) fun σ H Q ⟨φ, h, ρ, R, En, p⟩ => by
    simp only [evEs] at p
    refine ⟨φ, h, ρ, R, En, (Post.bind (rel0 := vR L) p).imp fun y H1 ⟨φ1, h1, v, E1, R1, r1, p1⟩ => ?_⟩
    refine ⟨φ1, h1, ρ, R1, En.mono E1, (Post.bind (rel0 := vRs L) p1).imp fun ys H2 ⟨φ2, h2, vs, E2, R2, r2, p2⟩ => ?_⟩
    exact p2 (y :: ys) H2 φ2 Ext.refl R2 (.cons (r1.mono E2) r2)
theorem pe_lstM {es : List Expr} {xs : List E} {pos : Pos} (ha : PA X es (tMs L P W xs)) : PE X (.List es pos) (tM L P W (.lst xs)) :=
  PE.weak (pe_lst ha) fun σ H Q ⟨φ, h, ρ, R, En, p⟩ => by
    simp only [evE] at p
    refine ⟨φ, h, ρ, R, En, (Post.bind (rel0 := vRs L) p).imp fun ys H1 ⟨φ1, h1, vs, E1, R1, r1, p1⟩ => ?_⟩
    by_cases c : vs.length ≤ sizeLine
    · rw [if_pos c] at p1
      exact ⟨by rw [← r1.length]; exact c, fun a ha => Post.lst R1 r1 p1 ha⟩
    · rw [if_neg c] at p1; exact False.elim p1
theorem pe_tupM {es : List Expr} {xs : List E} {j : Nat} {pos : Pos} (ha : PA X es (tMs L P W xs)) : PE X (.Tuple es j pos) (tM L P W (.tup xs)) :=
  PE.weak (pe_tup ha) fun σ H Q ⟨φ, h, ρ, R, En, p⟩ => by
    simp only [evE] at p
    refine ⟨φ, h, ρ, R, En, (Post.bind (rel0 := vRs L) p).imp fun ys H1 ⟨φ1, h1, vs, E1, R1, r1, p1⟩ => ?_⟩
    by_cases c : vs.length ≤ sizeLine
    · rw [if_pos c] at p1
      exact ⟨by rw [← r1.length]; exact c, fun a ha => Post.tup R1 r1 p1 ha⟩
    · rw [if_neg c] at p1; exact False.elim p1
/-! not, neg, and, or -/
theorem not_w {x : E} {σ : L2.St} {H : Hp} {Q : VK} (q : tM L P W (.not x) σ H Q) : tNotV (tM L P W x) σ H Q := by
  obtain ⟨φ, h, ρ, R, En, p⟩ := q
  simp only [evE] at p
  refine ⟨φ, h, ρ, R, En, (Post.bind (rel0 := vR L) p).imp fun y H1 ⟨φ1, h1, v, E1, R1, r1, p1⟩ => ?_⟩
  cases v <;> first | exact False.elim p1 | skip
  exact ⟨_, r1.blI, Post.here R1 (.bl _) p1⟩
theorem pe_notM {a : Expr} {x : E} {pos : Pos} (ha : PE X a (tM L P W x)) : PE X (.UnaryOp .Not a pos) (tM L P W (.not x)) := PE.weak (pe_not ha) fun _ _ _ q => not_w q
theorem pt_notM {a : Expr} {x : E} {pos : Pos} (ha : PT X a (tMT L P W x)) : PT X (.UnaryOp .Not a pos) (tMT L P W (.not x)) :=
  PT.weak (pt_not ha) fun σ H Q q => by
    obtain ⟨φ, h, ρ, R, En, p⟩ := not_w q
    exact ⟨φ, h, ρ, R, En, p.imp fun y H1 ⟨c, e, c', e', q'⟩ => ⟨c, e, by cases e'; exact q'⟩⟩
theorem pe_negM {a : Expr} {x : E} {pos : Pos} (ha : PE X a (tM L P W x)) : PE X (.UnaryOp .USub a pos) (tM L P W (.neg x)) :=
  PE.weak (pe_un un_neg ha) fun σ H Q ⟨φ, h, ρ, R, En, p⟩ => by
    simp only [evE] at p
    refine ⟨φ, h, ρ, R, En, (Post.bind (rel0 := vR L) p).imp fun y H1 ⟨φ1, h1, v, E1, R1, r1, p1⟩ => ?_⟩
    cases v <;> first | exact False.elim p1 | skip
    exact ⟨_, r1.intI, Post.here R1 (.int _) p1⟩
theorem and_w {x y : E} {σ : L2.St} {H : Hp} {Q : VK} (q : tM L P W (.and x y) σ H Q) : tAndV (tM L P W x) (tM L P W y) σ H Q := by
  obtain ⟨φ, h, ρ, R, En, p⟩ := q
  simp only [evE] at p
  refine ⟨φ, h, ρ, R, En, (Post.bind (rel0 := vR L) p).imp fun z H1 ⟨φ1, h1, v, E1, R1, r1, p1⟩ => ?_⟩
  cases v <;> first | exact False.elim p1 | skip
  rename_i b
  cases b with
  | true => exact ⟨true, r1.blI, iteT ⟨φ1, h1, ρ, R1, En.mono E1, p1⟩⟩
  | false => exact ⟨false, r1.blI, iteF (Post.here R1 (.bl _) p1)⟩
theorem or_w {x y : E} {σ : L2.St} {H : Hp} {Q : VK} (q : tM L P W (.or x y) σ H Q) : tOrV (tM L P W x) (tM L P W y) σ H Q := by
  obtain ⟨φ, h, ρ, R, En, p⟩ := q
  simp only [evE] at p
  refine ⟨φ, h, ρ, R, En, (Post.bind (rel0 := vR L) p).imp fun z H1 ⟨φ1, h1, v, E1, R1, r1, p1⟩ => ?_⟩
  cases v <;> first | exact False.elim p1 | skip
  rename_i b
  cases b with
  | true => exact ⟨true, r1.blI, iteT (Post.here R1 (.bl _) p1)⟩
  | false => exact ⟨false, r1.blI, iteF ⟨φ1, h1, ρ, R1, En.mono E1, p1⟩⟩
theorem pe_andM {a b : Expr} {r : List Expr} {x y : E} {pos : Pos} (ha : PE X a (tM L P W x)) (hb : PE X (.BoolOp .And (b :: r) pos) (tM L P W y)) : PE X (.BoolOp .And (a :: b :: r) pos) (tM L P W (.and x y)) :=
  PE.weak (pe_and ha hb) fun _ _ _ q => and_w q
theorem pe_orM {a b : Expr} {r : List Expr} {x y : E} {pos : Pos} (ha : PE X a (tM L P W x)) (hb : PE X (.BoolOp .Or (b :: r) pos) (tM L P W y)) : PE X (.BoolOp .Or (a :: b :: r) pos) (tM L P W (.or x y)) :=
  PE.weak (pe_or ha hb) fun _ _ _ q => or_w q
theorem pw_andM {a b : Expr} {r : List Expr} {x y : E} {pos : Pos} (ha : PT X a (tMT L P W x)) (hb : PW X (.BoolOp .And (b :: r) pos) (tMT L P W y)) : PW X (.BoolOp .And (a :: b :: r) pos) (tMT L P W (.and x y)) :=
  PW.weak (pw_and ha hb) fun σ H Q q => by
    obtain ⟨φ, h, ρ, R, En, p⟩ := and_w q
    refine ⟨φ, h, ρ, R, En, p.imp fun z H1 ⟨c, e, q'⟩ => ⟨c, e, ?_⟩⟩
    cases c with
    | true => exact iteT (by rw [if_pos rfl] at q'; exact q')
    | false =>
      rw [if_neg Bool.false_ne_true] at q'
      obtain ⟨c2, e2, q2⟩ := q'
      cases e2
      exact iteF q2
theorem pw_orM {a b : Expr} {r : List Expr} {x y : E} {pos : Pos} (ha : PT X a (tMT L P W x)) (hb : PW X (.BoolOp .Or (b :: r) pos) (tMT L P W y)) : PW X (.BoolOp .Or (a :: b :: r) pos) (tMT L P W (.or x y)) :=
  PW.weak (pw_or ha hb) fun σ H Q q => by
    obtain ⟨φ, h, ρ, R, En, p⟩ := or_w q
    refine ⟨φ, h, ρ, R, En, p.imp fun z H1 ⟨c, e, q'⟩ => ⟨c, e, ?_⟩⟩
    cases c with
    | false => exact iteF (by rw [if_neg Bool.false_ne_true] at q'; exact q')
    | true =>
      rw [if_pos rfl] at q'
      obtain ⟨c2, e2, q2⟩ := q'
      cases e2
      exact iteT q2
/-! parts -/
theorem okE_noSl {e : Expr} (h : okE e = true) : NoSl e := fun _ _ => by
  cases e <;> first | rfl | exact absurd h (by simp [okE])
theorem pe_idxM (S : Sx tb L P k X blk N sc W) {a b : Expr} {x y : E} {pos : Pos} (ok : okE b = true) (ha : PE X a (tM L P W x)) (hb : PE X b (tM L P W y)) : PE X (.Subscript a b pos) (tM L P W (.idx x y)) := by
  have h1 := pe_ix (pos := pos) (index_ok (L := L) S.hK) ha hb (okE_plainIx ok)
  have h2 := pe_dget (pos := pos) (by have := S.units; omega) ha hb (okE_noSl ok)
  refine ⟨fun pins s σ H Q I ⟨φ, h, ρ, R, En, p⟩ => ?_⟩
  simp only [evE] at p
  by_cases nd : ∃ v g1 w g2 i, evE P x ρ h = .ok v g1 ∧ evE P y ρ g1 = .ok w g2 ∧ v = .ref i ∧ ((∃ z kvs, g2[i]? = some (.dct z kvs)) ∨ ∃ kvs, g2[i]? = some (.dtt kvs))
  · -- a dict is asked
    obtain ⟨v, g1, w, g2, i, e1, e2, rfl, hi⟩ := nd
    rw [e1, bind_ok, e2, bind_ok] at p
    refine h2.run pins s σ H Q I ⟨φ, h, ρ, R, En, ?_⟩
    rw [e1]
    intro Xv H1 φ1 E1 R1 r1
    refine ⟨φ1, g1, ρ, R1, En.mono E1, ?_⟩
    rw [e2]
    intro Y H2 φ2 E2 R2 r2
    have p2 := Post.step (E1.trans E2) p
    rcases hi with ⟨z, kvs, hi⟩ | ⟨kvs, hi⟩
    · simp only [index, hi, getK] at p2
      obtain ⟨b', rfl, _, o⟩ := R2.at hi (r1.mono E2)
      obtain ⟨ys, q1, kr, _⟩ := o.dctI
      cases ek : keyV w with
      | none => rw [ek] at p2; exact False.elim p2
      | some c =>
        rw [ek] at p2
        cases eg : getC c kvs with
        | none => simp only [Option.bind_some, eg] at p2; exact False.elim p2
        | some u =>
          simp only [Option.bind_some, eg] at p2
          obtain ⟨x', l, rx⟩ := kr.hit eg
          exact ⟨b', x', rfl, .inl ⟨ys, c, q1, r2.key ek, l.symm⟩, Post.here R2 rx p2⟩
    · simp only [index, hi, getT] at p2
      obtain ⟨b', rfl, _, o⟩ := R2.at hi (r1.mono E2)
      cases o with
      | dT hq kr =>
        cases ek : Mn.keyT w with
        | none => rw [ek] at p2; exact False.elim p2
        | some c =>
          rw [ek] at p2
          cases eg : getC c kvs with
          | none => simp only [Option.bind_some, eg] at p2; exact False.elim p2
          | some u =>
            simp only [Option.bind_some, eg] at p2
            obtain ⟨x', l, rx⟩ := kr.hit eg
            obtain ⟨b, rfl, hb⟩ := r2.keyT ek
            exact ⟨b', x', rfl, .inr ⟨_, c, b, .inl hq, rfl, hb, l.symm⟩, Post.here R2 rx p2⟩
  refine h1.run pins s σ H Q I ⟨φ, h, ρ, R, En, (Post.bindE (rel0 := vR L) p).imp fun z H1 ⟨φ1, h1, v, q1, E1, R1, r1, p1⟩ => ?_⟩
  refine ⟨φ1, h1, ρ, R1, En.mono E1, (Post.bindE (rel0 := vR L) p1).imp fun u H2 ⟨φ2, h2, w, q2, E2, R2, r2, p2⟩ => ?_⟩
  refine ⟨φ2, h2, v, w, R2, r1.mono E2, r2, fun a e1 => ⟨fun w' kvs e2 => nd ⟨v, h1, w, h2, a, q1, q2, e1, .inl ⟨w', kvs, e2⟩⟩, fun kvs e2 => nd ⟨v, h1, w, h2, a, q1, q2, e1, .inr ⟨kvs, e2⟩⟩⟩, ?_⟩
  cases e : index v w h2 with
  | ok m h3 => rw [e] at p2; exact p2
  | err c fs h3 => exact absurd e (index_noerr _ _ _ _ _ _)
  | bad => rw [e] at p2; exact p2
theorem pe_dctM {pos : Pos} : PE X (.Dict [] [] pos) (tM L P W (.dct [] [])) := PE.weak pe_dnewK fun σ H Q ⟨φ, h, ρ, R, En, p⟩ => by
  simp only [evE] at p
  exact fun a ha => p (.ref a) _ (φ ++ [(true, a)]) (Ext.alloc ha) (R.alloc ha (fun _ z => by cases z) (.dK upd_same .nil)) (.ref ⟨true, by rw [← R.len]; simp⟩)
theorem slice_noerr (v : Val) (l u : Option Int) (h : MH) (c : String) (fs : List (String × Val)) (h' : MH) : slice v l u h ≠ .err c fs h' := by
  intro z
  unfold slice at z
  repeat' split at z
  all_goals cases z
def tMO (L : Lk) (P : Pg) (W : WX) (o : Option E) : TO := fun σ H Q => ∃ φ h ρ, Rel L φ h H ∧ EnvR L φ H ρ σ ∧ Post L φ H (fun _ _ a b => a = b) (evO P o ρ h) Q (fun c d H' => W c d σ H')
theorem po_noneM : PO X none (tMO L P W none) := ⟨fun pins s σ H Q I ⟨φ, h, ρ, R, En, p⟩ => po_none.run pins s σ H Q I (by
  simp only [evO] at p
  exact p none H φ Ext.refl R rfl)⟩
theorem po_someM {a : Expr} {x : E} (ha : PE X a (tM L P W x)) : PO X (some a) (tMO L P W (some x)) := ⟨fun pins s σ H Q I ⟨φ, h, ρ, R, En, p⟩ => (po_some ha).run pins s σ H Q I (by
  simp only [evO] at p
  refine ⟨φ, h, ρ, R, En, (Post.bind (rel0 := vR L) p).imp fun z H1 ⟨φ1, h1, v, E1, R1, r1, p1⟩ => ?_⟩
  cases v <;> first | exact False.elim p1 | skip
  exact ⟨_, r1.intI, p1 _ H1 φ1 Ext.refl R1 rfl⟩)⟩
theorem pe_slcM (S : Sx tb L P k X blk N sc W) {a : Expr} {lo hi : Option Expr} {x : E} {l u : Option E} {pos p2 : Pos} (ha : PE X a (tM L P W x)) (hl : PO X lo (tMO L P W l)) (hu : PO X hi (tMO L P W u)) : PE X (.Subscript a (.Slice lo hi none p2) pos) (tM L P W (.slc x l u)) :=
  PE.weak (pe_slice (slice_ok (L := L) S.hK) ha hl hu) fun σ H Q ⟨φ, h, ρ, R, En, p⟩ => by
    simp only [evE] at p
    refine ⟨φ, h, ρ, R, En, (Post.bind (rel0 := vR L) p).imp fun z H1 ⟨φ1, h1, v, E1, R1, r1, p1⟩ => ?_⟩
    refine ⟨φ1, h1, ρ, R1, En.mono E1, (Post.bind (rel0 := fun _ _ a b => a = b) p1).imp fun l' H2 ⟨φ2, h2, lv, E2, R2, r2, p2⟩ => ?_⟩
    refine ⟨φ2, h2, ρ, R2, (En.mono E1).mono E2, (Post.bind (rel0 := fun _ _ a b => a = b) p2).imp fun u' H3 ⟨φ3, h3, uv, E3, R3, r3, p3⟩ => ?_⟩
    subst r2 r3
    refine ⟨φ3, h3, v, R3, (r1.mono E2).mono E3, ?_⟩
    cases e : slice v lv uv h3 with
    | ok m h4 => rw [e] at p3; exact p3
    | err c fs h4 => exact absurd e (slice_noerr _ _ _ _ _ _ _)
    | bad => rw [e] at p3; exact p3
/-! calls -/
theorem sp_of {f : String} {np : Nat} {xs : List E} {σ : L2.St} {H : Hp} {Q : VK} (hn : ∀ ms h, P.cf f ms h ≠ .bad → ms.length = np) (q : tM L P W (.call f xs) σ H Q) : tMs L P W xs σ H fun vs H1 => spOf L (P.cf f) np vs H1 Q (WE W σ) := by
  obtain ⟨φ, h, ρ, R, En, p⟩ := q
  simp only [evE] at p
  refine ⟨φ, h, ρ, R, En, (Post.bind (rel0 := vRs L) p).imp fun ys H1 ⟨φ1, h1, vs, E1, R1, r1, p1⟩ => ?_⟩
  refine ⟨?_, φ1, h1, vs, R1, r1, p1⟩
  rw [← r1.length]
  exact hn vs h1 fun e => by rw [e] at p1; exact p1
theorem pe_callM (S : Sx tb L P k X blk N sc W) {f : String} {es : List Expr} {xs : List E} {p pos : Pos} (hg : Mn.gl sc (Str.ofString f) = true) (hf : tb.fns.contains f = true) (hc : spC (Str.ofString f) = true) (ok : es.all okE = true) (el : es = [] → xs = [])
    (ha : PA X es (tMs L P W xs)) : PE X (.Call (.Name (Str.ofString f) p) es [] pos) (tM L P W (.call f xs)) := by
  obtain ⟨a, fd, ps, e1, e2, e3, e4, e5⟩ := S.pr.fns f hf
  unfold spC at hc
  simp only [Bool.and_eq_true, Bool.not_eq_true'] at hc
  rw [← S.hK] at e2 e3 e4
  cases es with
  | nil =>
    have := el rfl
    subst this
    refine PE.weak (pe_callU0 (E := WE W) e4 S.rm (S.gl hg) e1 e2 e3 (fun σ => passAt S.tk σ) hc.1.1) fun σ H Q q => ?_
    obtain ⟨φ, h, ρ, R, En, q⟩ := sp_of e5 q
    simp only [evEs] at q
    exact q [] H φ Ext.refl R .nil
  | cons e es =>
    simp only [List.all_cons, Bool.and_eq_true] at ok
    exact PE.weak (pe_callS (E := WE W) e4 S.rm (S.gl hg) e1 e2 e3 (fun σ => passAt S.tk σ) ha hc.1.1 (okE_star ok.1 _ _) (okEs_any ok.2 _ _)) fun σ H Q q => sp_of e5 q
theorem bi_w {b : Bi} {xs : List E} {σ : L2.St} {H : Hp} {Q : VK} (q : tM L P W (.bi b xs) σ H Q) : tCB (rB L b) (tMs L P W xs) σ H Q := by
  obtain ⟨φ, h, ρ, R, En, p⟩ := q
  simp only [evE] at p
  refine ⟨φ, h, ρ, R, En, (Post.bind (rel0 := vRs L) p).imp fun ys H1 ⟨φ1, h1, vs, E1, R1, r1, p1⟩ => ?_⟩
  refine ⟨φ1, h1, vs, R1, r1, ?_⟩
  cases e : bisem b vs h1 with
  | ok m h4 => rw [e] at p1; exact p1
  | err c fs h4 =>
    exfalso
    unfold bisem at e
    repeat' split at e
    all_goals first | (cases e; done) | exact retO_noerr e
  | bad => rw [e] at p1; exact p1
theorem pe_biM (S : Sx tb L P k X blk N sc W) {f : String} {b : Bi} {e : Expr} {es : List Expr} {xs : List E} {p pos : Pos} (hg : Mn.gl sc (Str.ofString f) = true) (hb : biOf f = some b) (ok : (e :: es).all okE = true)
    (ha : PA X (e :: es) (tMs L P W xs)) : PE X (.Call (.Name (Str.ofString f) p) (e :: es) [] pos) (tM L P W (.bi b xs)) := by
  simp only [List.all_cons, Bool.and_eq_true] at ok
  have h1 := okE_star ok.1 es X.env
  have h2 := okEs_any ok.2 X.env pos
  have G := S.gl hg
  unfold biOf at hb
  split at hb <;> cases hb
  · exact PE.weak (pe_callB (bi_len S.hK) G (S.pr.blt "len" (by decide)) (by decide +kernel) ha (by decide +kernel) (by decide +kernel) h1 h2) fun _ _ _ q => bi_w q
  · exact PE.weak (pe_callB (bi_max S.calm) G (S.pr.blt "max" (by decide)) (by decide +kernel) ha (by decide +kernel) (by decide +kernel) h1 h2) fun _ _ _ q => bi_w q
  · exact PE.weak (pe_callB (bi_min S.calm) G (S.pr.blt "min" (by decide)) (by decide +kernel) ha (by decide +kernel) (by decide +kernel) h1 h2) fun _ _ _ q => bi_w q
  · exact PE.weak (pe_callTy bi_int G (S.pr.blt "int" (by decide)) (by decide +kernel) ha (by decide +kernel) (by decide +kernel) h1 h2) fun _ _ _ q => bi_w q
  · exact PE.weak (pe_callTy bi_str G (S.pr.blt "str" (by decide)) (by decide +kernel) ha (by decide +kernel) (by decide +kernel) h1 h2) fun _ _ _ q => bi_w q
  · exact PE.weak (pe_callTy (bi_tuple S.hK) G (S.pr.blt "tuple" (by decide)) (by decide +kernel) ha (by decide +kernel) (by decide +kernel) h1 h2) fun _ _ _ q => bi_w q
  · exact PE.weak (pe_callTy (bi_list S.hK S.calm) G (S.pr.blt "list" (by decide)) (by decide +kernel) ha (by decide +kernel) (by decide +kernel) h1 h2) fun _ _ _ q => bi_w q
  · exact PE.weak (pe_callB (bi_sum S.hK S.calm) G (S.pr.blt "sum" (by decide)) (by decide +kernel) ha (by decide +kernel) (by decide +kernel) h1 h2) fun _ _ _ q => bi_w q
  · exact PE.weak (pe_callB (bi_all S.hK S.calm) G (S.pr.blt "all" (by decide)) (by decide +kernel) ha (by decide +kernel) (by decide +kernel) h1 h2) fun _ _ _ q => bi_w q
  · exact PE.weak (pe_callTy (bi_dict S.hK S.calm) G (S.pr.blt "dict" (by decide)) (by decide +kernel) ha (by decide +kernel) (by decide +kernel) h1 h2) fun _ _ _ q => bi_w q
end
end Mn
namespace Mn
open PySem PySem.Spec PyProof.Rows L2
section
variable {tb : Tb} {L : Lk} {P : Pg} {k : Nat} {X : Cx} {blk : Bool} {N : List Str} {sc : Scope} {W : WX}
/-! isinstance -/
theorem ty_ok (S : Sy tb L P k X blk N sc W) {φ : Ph} {h : MH} {H : Hp} {v : Val} {x : V} {c : String} (R : Rel L φ h H) (r : VR L φ H v x) (e : tyOf h v = some c) (nx : ∀ c fs, v ≠ .exc c fs) : TyX X.K H x (tyV' L c) := by
  have ty : ∀ {c}, isTy c = true → tyV' L c = .type c := fun {c} hc => by unfold tyV'; rw [(S.pr.noTy c hc).1, (S.pr.noTy c hc).2]
  cases v with
  | non => cases e; rw [r.nonI, ty (by decide)]; exact .base .non
  | bl b => cases e; rw [r.blI, ty (by decide)]; exact .base (.bl b)
  | int i => cases e; rw [r.intI, ty (by decide)]; exact .base (.int i)
  | str z => cases e; rw [r.strI, ty (by decide)]; exact .base (.str z)
  | exc a b => exact absurd rfl (nx a b)
  | tup vs =>
    cases e; rw [ty (by decide)]
    obtain ⟨a, xs, rfl, q, _⟩ := r.tupI
    rcases q with (q | ⟨o, q⟩) | ⟨o, its, n, q, c, _⟩
    · exact .base (.tup q)
    · exact .fTuple q
    · rw [S.hK]; exact .kTuple q c
  | ref i =>
    simp only [tyOf] at e
    split at e
    · rename_i w vs hi
      cases e
      obtain ⟨a, rfl, _, o⟩ := R.at hi r
      rw [ty (by decide)]
      cases o with
      | lst q _ => exact .base (.lst q)
      | ro q _ =>
        rcases q with ⟨ob, q⟩ | ⟨ob, its, n, q, c, _⟩
        · exact .base (.frz q)
        · rw [S.hK]; exact .kList q c
    · rename_i w kvs hi
      cases e
      obtain ⟨a, rfl, _, o⟩ := R.at hi r
      rw [ty (by decide)]
      cases o with
      | dK q _ => exact .base (.dK q)
      | dF q _ => exact .fDict q
    · rename_i kvs hi
      cases e
      obtain ⟨a, rfl, _, o⟩ := R.at hi r
      rw [ty (by decide)]
      cases o with
      | dT q _ => exact .base (.dT q)
    · rename_i cl fs hi
      cases e
      obtain ⟨a, rfl, _, o⟩ := R.at hi r
      cases o with
      | ins hc q _ =>
        unfold tyV'
        rw [S.pr.sep _ _ hc, hc, S.hK]
        exact S.pr.insTy _ _ hc H a _ _ q
    · cases e
theorem CallR.or {f : Value} {r r' : List V → Hp → VK → Prop} (h : CallR X f r) (h' : CallR X f r') : CallR X f (fun xs H Q => r xs H Q ∨ r' xs H Q) := fun pins s σ H xs us Q I rv q => q.elim (h pins s σ H xs us Q I rv) (h' pins s σ H xs us Q I rv)
/-- a kept exception -/
theorem exc_at {φ : Ph} {H : Hp} {c : String} {fs : List (String × Val)} {x : V} (r : VR L φ H (.exc c fs) x) : ∃ a C d, x = .ref a ∧ L.exc c = some C ∧ H a = some (exH a (.ref C) d) ∧ ∀ dd, d = some dd → ∃ fs, H dd = some (.xd fs) := by
  cases r with
  | exc0 hc ha na => exact ⟨_, _, _, rfl, hc, ha, fun _ z => by cases z⟩
  | excF hc ha na hd nd k r => exact ⟨_, _, _, rfl, hc, ha, fun _ z => by cases z; exact ⟨_, hd⟩⟩
theorem pe_isiM (S : Sy tb L P k X blk N sc W) {t : String} {a : Expr} {x : E} {p p2 pos : Pos} (hg : Mn.gl sc (Str.ofString "isinstance") = true) (hg2 : Mn.gl sc (Str.ofString t) = true) (hc : spC (Str.ofString t) = true) (ht : tb.isi.contains t = true) (ok : okE a = true) (ha : PE X a (tM L P W x)) :
    PE X (.Call (.Name (Str.ofString "isinstance") p) [a, .Name (Str.ofString t) p2] [] pos) (tM L P W (.isi x t)) := by
  obtain ⟨c, u, hcu, hk⟩ := S.pr.isi t ht
  unfold spC at hc
  simp only [Bool.and_eq_true, Bool.not_eq_true'] at hc
  have hn : Str.ofString t ≠ "__name__" := fun z => by
    have := hc.2
    rw [z] at this
    simp at this
  have hN : PE X (.Name (Str.ofString t) p2) (tC c) ∧ ClsV c u := by
    rcases hcu with ⟨T, rfl, rfl, e1, e2⟩ | ⟨C, rfl, rfl, e1⟩
    · exact ⟨pe_bltn (S.gl hg2) e1 e2 rfl hn hc.1.1, .ty T⟩
    · exact ⟨pe_glob (S.gl hg2) e1 rfl hc.1.1, .own C⟩
  refine PE.weak (pe_callB (call_isi.or call_isX) (S.gl hg) (S.pr.blt "isinstance" (by decide)) (by decide +kernel) (pa_cons ha (pa_cons hN.1 pa_nil rfl) (okE_star ok _ _)) (by decide +kernel) (by decide +kernel) (okE_star ok _ _) rfl) fun σ H Q ⟨φ, h, ρ, R, En, p⟩ => ?_
  simp only [evE] at p
  refine ⟨φ, h, ρ, R, En, (Post.bind (rel0 := vR L) p).imp fun y H1 ⟨φ1, h1, v, E1, R1, r1, p1⟩ => ?_⟩
  unfold isInst at p1
  cases e1 : tyOf h1 v with
  | none => rw [e1] at p1; exact False.elim p1
  | some cl =>
    cases e2 : P.sub cl t with
    | none => rw [e1, Option.bind_some, e2] at p1; exact False.elim p1
    | some b =>
      rw [e1, Option.bind_some, e2] at p1
      by_cases nx : ∃ c fs, v = .exc c fs
      · obtain ⟨c', fs, rfl⟩ := nx
        obtain ⟨a, C, d, rfl, hC, ha, hd⟩ := exc_at r1
        cases e1
        have kk := hk cl b e2
        unfold tyV' at kk
        rw [hC] at kk
        exact .inr ⟨a, C, d, c, u, b, rfl, hN.2, ha, hd, by rw [S.hK]; exact S.pr.exk _ _ hC, by rw [S.hK]; exact kk, Post.here R1 (.bl b) p1⟩
      · exact .inl ⟨y, c, tyV' L cl, u, b, rfl, hN.2, ty_ok S R1 r1 e1 (fun c fs z => nx ⟨c, fs, z⟩), by rw [S.hK]; exact hk cl b e2, Post.here R1 (.bl b) p1⟩

/-! methods of lists -/
theorem PE.or {e : Expr} {t t' : TE} (h : PE X e t) (h' : PE X e t') : PE X e (fun σ H Q => t σ H Q ∨ t' σ H Q) := ⟨fun pins s σ H Q I q => q.elim (h.run pins s σ H Q I) (h'.run pins s σ H Q I)⟩
theorem mt_w {m : Mt} {x : E} {xs : List E} {T : String} {σ : L2.St} {H : Hp} {Q : VK} (hK : X.K = L.K) (hT : ∀ v h, mtOk m v h = true → ∀ φ H y, Rel L φ h H → VR L φ H v y → tyV L.K T y H) (hn : ∀ v vs h c fs h', mtsem m v vs h ≠ .err c fs h') (q : tM L P W (.mth m x xs) σ H Q) :
    tBM X.K T (rM L m) (tM L P W x) (tMs L P W xs) σ H Q := by
  obtain ⟨φ, h, ρ, R, En, p⟩ := q
  simp only [evE] at p
  refine ⟨φ, h, ρ, R, En, (Post.bind (rel0 := vR L) p).imp fun y H1 ⟨φ1, h1, v, E1, R1, r1, p1⟩ => ?_⟩
  by_cases c : mtOk m v h1 = true
  · rw [if_pos c] at p1
    refine ⟨by rw [hK]; exact hT v h1 c φ1 H1 y R1 r1, φ1, h1, ρ, R1, En.mono E1, (Post.bind (rel0 := vRs L) p1).imp fun ys H2 ⟨φ2, h2, vs, E2, R2, r2, p2⟩ => ?_⟩
    refine ⟨φ2, h2, v, vs, R2, r1.mono E2, r2, ?_⟩
    cases e : mtsem m v vs h2 with
    | ok m h3 => rw [e] at p2; exact p2
    | err c fs h3 => exact absurd e (hn _ _ _ _ _ _)
    | bad => rw [e] at p2; exact p2
  · rw [if_neg c] at p1; exact False.elim p1
theorem mtsem_noerr (m : Mt) (v : Val) (vs : List Val) (h : MH) (c : String) (fs : List (String × Val)) (h' : MH) : mtsem m v vs h ≠ .err c fs h' := by
  intro z
  unfold mtsem at z
  repeat' split at z
  all_goals first | (cases z; done) | exact retO_noerr z
theorem lst_ty {m : Mt} (hm : ∀ v h, mtOk m v h = true → ∃ i w vs, v = .ref i ∧ h[i]? = some (.lst w vs)) (v : Val) (h : MH) (c : mtOk m v h = true) (φ : Ph) (H : Hp) (y : V) (R : Rel L φ h H) (r : VR L φ H v y) : tyV L.K "list" y H := by
  obtain ⟨i, w, vs, rfl, hi⟩ := hm v h c
  obtain ⟨a, rfl, _, o⟩ := R.at hi r
  obtain ⟨xs, q, _⟩ := o.lstI
  exact .inl ⟨rfl, xs, q⟩
theorem lst_mt {m : Mt} (hm : m = .append ∨ m = .extend ∨ m = .pop ∨ m = .popAt ∨ m = .clear ∨ m = .index ∨ m = .insert) (v : Val) (h : MH) (c : mtOk m v h = true) : ∃ i w vs, v = .ref i ∧ h[i]? = some (.lst w vs) := by
  unfold mtOk at c
  split at c
  · split at c
    · exact ⟨_, _, _, rfl, by assumption⟩
    · rcases hm with rfl | rfl | rfl | rfl | rfl | rfl | rfl <;> cases c
    · rcases hm with rfl | rfl | rfl | rfl | rfl | rfl | rfl <;> cases c
    · cases c
  all_goals (rcases hm with rfl | rfl | rfl | rfl | rfl | rfl | rfl <;> cases c)
/-- o.m(..), m a list's method -/
theorem pe_lmM (S : Sx tb L P k X blk N sc W) {m : Mt} {name : String} {id : String} (hm : m = .append ∨ m = .extend ∨ m = .pop ∨ m = .popAt ∨ m = .clear ∨ m = .index ∨ m = .insert) (slot : Slot "list" (Str.ofString name) id) (hty : typeOf (.builtin id) = pure (.type "method_descriptor")) (hr : MtR X id (rM L m))
    {o : Expr} {es : List Expr} {x : E} {xs : List E} {ap cp : Pos} (ok : okB o = true) (hline : (ap.endLine == cp.line) = true) (hl : es.length < 20) (oks : es.all okE = true) (el : es = [] → xs = []) (ho : PE X o (tM L P W x)) (ha : PA X es (tMs L P W xs)) :
    PE X (.Call (.Attribute o (Str.ofString name) ap) es [] cp) (tM L P W (.mth m x xs)) := by
  have w := fun σ H Q => mt_w (P := P) (W := W) (m := m) (x := x) (xs := xs) (T := "list") (σ := σ) (H := H) (Q := Q) S.hK (lst_ty (lst_mt hm)) (mtsem_noerr m)
  cases es with
  | nil =>
    have := el rfl
    subst this
    refine PE.weak (pe_bm0 PySem.F.plainAttrs_list slot hty hr ho (okB_base ok _ _) hline) fun σ H Q q => ?_
    obtain ⟨φ, h, ρ, R, En, p⟩ := w σ H Q q
    refine ⟨φ, h, ρ, R, En, p.imp fun y H1 ⟨ty, φ1, h1, ρ1, R1, En1, p1⟩ => ⟨ty, ?_⟩⟩
    simp only [evEs] at p1
    exact p1 [] H1 φ1 Ext.refl R1 .nil
  | cons e es =>
    have oks' := oks
    simp only [List.all_cons, Bool.and_eq_true] at oks'
    refine PE.weak (pe_bm PySem.F.plainAttrs_list slot hty hr ho ha (okB_base ok _ _) ?_ hline (okE_star oks'.1 _ _) (okEs_any oks'.2 _ _)) fun σ H Q q => w σ H Q q
    rw [okEs_all oks]
    simp only [keywordEach, backToKw, List.map_nil, List.all_nil, List.length_nil, List.isEmpty_nil, if_true, Bool.true_and, decide_eq_true_eq]
    omega
theorem str_ty {m : Mt} (hm : m = .join ∨ m = .split ∨ m = .partition ∨ m = .find ∨ m = .upper) (v : Val) (h : MH) (c : mtOk m v h = true) (φ : Ph) (H : Hp) (y : V) (R : Rel L φ h H) (r : VR L φ H v y) : tyV L.K "str" y H := by
  unfold mtOk at c
  split at c
  · split at c
    · rcases hm with rfl | rfl | rfl | rfl | rfl <;> cases c
    · rcases hm with rfl | rfl | rfl | rfl | rfl <;> cases c
    · rcases hm with rfl | rfl | rfl | rfl | rfl <;> cases c
    · cases c
  · rw [r.strI]; exact (rfl : ("str" : String) = "str")
  · rcases hm with rfl | rfl | rfl | rfl | rfl <;> cases c
  · cases c
/-- o.m(..), m a text's method -/
theorem pe_smM (S : Sx tb L P k X blk N sc W) {m : Mt} {name : String} {id : String} (hm : m = .join ∨ m = .split ∨ m = .partition ∨ m = .find ∨ m = .upper) (slot : Slot "str" (Str.ofString name) id) (hty : typeOf (.builtin id) = pure (.type "method_descriptor")) (hr : MtR X id (rM L m))
    {o : Expr} {es : List Expr} {x : E} {xs : List E} {ap cp : Pos} (ok : okB o = true) (hline : (ap.endLine == cp.line) = true) (hl : es.length < 20) (oks : es.all okE = true) (el : es = [] → xs = []) (ho : PE X o (tM L P W x)) (ha : PA X es (tMs L P W xs)) :
    PE X (.Call (.Attribute o (Str.ofString name) ap) es [] cp) (tM L P W (.mth m x xs)) := by
  have w := fun σ H Q => mt_w (P := P) (W := W) (m := m) (x := x) (xs := xs) (T := "str") (σ := σ) (H := H) (Q := Q) S.hK (str_ty hm) (mtsem_noerr m)
  cases es with
  | nil =>
    have := el rfl
    subst this
    refine PE.weak (pe_bm0 PySem.F.plainAttrs_str slot hty hr ho (okB_base ok _ _) hline) fun σ H Q q => ?_
    obtain ⟨φ, h, ρ, R, En, p⟩ := w σ H Q q
    refine ⟨φ, h, ρ, R, En, p.imp fun y H1 ⟨ty, φ1, h1, ρ1, R1, En1, p1⟩ => ⟨ty, ?_⟩⟩
    simp only [evEs] at p1
    exact p1 [] H1 φ1 Ext.refl R1 .nil
  | cons e es =>
    have oks' := oks
    simp only [List.all_cons, Bool.and_eq_true] at oks'
    refine PE.weak (pe_bm PySem.F.plainAttrs_str slot hty hr ho ha (okB_base ok _ _) ?_ hline (okE_star oks'.1 _ _) (okEs_any oks'.2 _ _)) fun σ H Q q => w σ H Q q
    rw [okEs_all oks]
    simp only [keywordEach, backToKw, List.map_nil, List.all_nil, List.length_nil, List.isEmpty_nil, if_true, Bool.true_and, decide_eq_true_eq]
    omega
theorem get_ask {v k : Val} {h : MH} {u : Val} {h' : MH} (e : mtsem .get v [k] h = .ok u h') : ∃ i ob o, v = .ref i ∧ h[i]? = some ob ∧ askO ob k = some o ∧ u = o.getD .non ∧ h' = h := by
  cases v with
  | ref i =>
    simp only [mtsem] at e
    split at e
    · rename_i w kvs hi
      by_cases c : emT w kvs k = true
      · rw [if_pos c] at e
        cases e
        exact ⟨i, _, none, rfl, hi, by simp only [askO]; rw [if_pos c], rfl, rfl⟩
      · rw [if_neg c] at e
        split at e
        · rename_i c' ek
          cases e
          exact ⟨i, _, _, rfl, hi, by simp only [askO]; rw [if_neg c, ek]; rfl, rfl, rfl⟩
        · cases e
    · rename_i kvs hi
      split at e
      · rename_i c' ek
        cases e
        exact ⟨i, _, _, rfl, hi, by simp only [askO]; rw [ek]; rfl, rfl, rfl⟩
      · cases e
    · cases e
  | _ => simp only [mtsem] at e; cases e
theorem get_d {v : Val} {h : MH} (c : mtOk .get v h = true) : ∃ i, v = .ref i ∧ ((∃ w kvs, h[i]? = some (.dct w kvs)) ∨ ∃ kvs, h[i]? = some (.dtt kvs)) := by
  unfold mtOk at c
  split at c
  · split at c
    · cases c
    · exact ⟨_, rfl, .inl ⟨_, _, by assumption⟩⟩
    · exact ⟨_, rfl, .inr ⟨_, by assumption⟩⟩
    · cases c
  · cases c
  · cases c
  · cases c
/-- d.get(k) -/
theorem pe_dgX (S : Sx tb L P k X blk N sc W) {o e : Expr} {x : E} {xs : List E} {ap cp : Pos} (ok : okB o = true) (hline : (ap.endLine == cp.line) = true) (oke : okE e = true) (ho : PE X o (tM L P W x)) (ha : PA X [e] (tMs L P W xs)) :
    PE X (.Call (.Attribute o (Str.ofString "get") ap) [e] [] cp) (tM L P W (.mth .get x xs)) := by
  have hu : X.A.units + 1 < cLine := by have := S.units; omega
  have tr : backTo cp (starEach [e] X.env) = [(false, eval e X.env)] := by rw [okE_star oke]; rfl
  refine ⟨fun pins s σ H Q I ⟨φ, h, ρ, R, En, p⟩ => ?_⟩
  simp only [evE] at p
  refine wpAny_Call_method (okB_base ok _ _) (by rw [tr]; rfl) hline PySem.F.plainAttrs_dict PySem.F.slot_dict_get PySem.F.type_dict_get (thn (ho.run pins s σ H _ I ⟨φ, h, ρ, R, En, Post.bind (rel0 := vR L) p⟩) fun u s1 ⟨xv, H1, I1, rx, φ1, h1, v, E1, R1, r1, p1⟩ => ?_)
  by_cases c : mtOk .get v h1 = true
  · rw [if_pos c] at p1
    obtain ⟨i, rfl, hi⟩ := get_d c
    obtain ⟨a, ha', _⟩ := r1.refI
    subst ha'
    cases (show u = Value.ref a from rx)
    have d : IsD H1 a := by
      rcases hi with ⟨w, kvs, hi⟩ | ⟨kvs, hi⟩
      · obtain ⟨a', ea, _, q⟩ := R1.at hi r1
        cases ea
        obtain ⟨ys, q1, _⟩ := q.dctI
        exact .inl ⟨ys, q1⟩
      · obtain ⟨a', ea, _, q⟩ := R1.at hi r1
        cases ea
        cases q with
        | dT hq kr => exact .inr ⟨_, .inl hq⟩
    obtain ⟨t1, t2, _⟩ := isD_at I1 d
    refine ⟨t1, t2, ?_⟩
    have hA := ha.run cp pins s1 σ H1 (fun ys H2 => ∃ φ2 h2 w y ob o, ys = [y] ∧ Rel L φ2 h2 H2 ∧ VR L φ2 H2 (.ref i) (.ref a) ∧ VR L φ2 H2 w y ∧ h2[i]? = some ob ∧ askO ob w = some o ∧ ∀ z, VR L φ2 H2 (o.getD .non) z → Q z H2) I1 ⟨φ1, h1, ρ, R1, En.mono E1, by
      cases e2 : evEs P xs ρ h1 with
      | bad => rw [e2] at p1; exact False.elim p1
      | err c fs h2 => rw [e2] at p1; exact p1
      | ok ws h2 =>
        rw [e2] at p1
        intro ys H2 φ2 E2 R2 r2
        have p2 := Post.step E2 p1
        simp only [bind_ok] at p2
        have e4 : ∀ {z h3}, mtsem .get (.ref i) ws h2 = .ok z h3 → ∃ w, ws = [w] := by
          intro z h3 q
          simp only [mtsem] at q
          match ws, q with
          | [], q => cases q
          | [w], q => exact ⟨w, rfl⟩
          | _ :: _ :: _, q => cases q
        cases e3 : mtsem .get (.ref i) ws h2 with
        | bad => rw [e3] at p2; exact False.elim p2
        | err c fs h3 => exact absurd e3 (mtsem_noerr _ _ _ _ _ _ _)
        | ok z h3 =>
          obtain ⟨w, rfl⟩ := e4 e3
          rw [e3] at p2
          obtain ⟨i', ob, o', ei, hi', ea, rfl, rfl⟩ := get_ask e3
          cases ei
          obtain ⟨y, rfl, ry⟩ := VRs.one r2
          exact ⟨φ2, _, w, y, ob, o', rfl, R2, r1.mono E2, ry, hi', ea, fun z rz => Post.here R2 rz p2⟩⟩
    rw [tr] at hA ⊢
    refine Calls.callWith_builtin rfl (Calls.evalArgs_plain ?_)
    refine thn hA fun us s2 ⟨ys, H2, I2, rv, φ2, h2, w, y, ob, oo, ey, R2, rd, rk, hi2, ea, q⟩ => ?_
    subst ey
    cases rv with
    | cons ry rn =>
      cases rn
      refine ask_run I2 R2 rd rk hi2 ea fun p H' o' ex I' g back es rn _ => ?_
      cases ex
      exact d_get1 hu I' g ry fun w' s3 I3 rw' => ⟨_, H2, back s3 I3, rw', q _ rn⟩
  · rw [if_neg c] at p1; exact False.elim p1
/-- x.bit_length() -/
theorem pe_bitM (S : Sx tb L P k X blk N sc W) {o : Expr} {x : E} {ap cp : Pos} (ok : okB o = true) (hline : (ap.endLine == cp.line) = true) (ho : PE X o (tM L P W x)) :
    PE X (.Call (.Attribute o (Str.ofString "bit_length") ap) [] [] cp) (tM L P W (.mth .bitlen x [])) := by
  refine PE.weak (pe_bits ho (okB_base ok _ _) hline) fun σ H Q ⟨φ, h, ρ, R, En, p⟩ => ?_
  simp only [evE] at p
  refine ⟨φ, h, ρ, R, En, (Post.bind (rel0 := vR L) p).imp fun y H1 ⟨φ1, h1, v, E1, R1, r1, p1⟩ => ?_⟩
  by_cases c : mtOk .bitlen v h1 = true
  · rw [if_pos c] at p1
    cases v with
    | int i =>
      simp only [evEs, bind_ok] at p1
      exact ⟨i, r1.intI, Post.here R1 (.int _) p1⟩
    | ref a =>
      exfalso
      unfold mtOk at c
      dsimp only at c
      split at c <;> cases c
    | _ => cases c
  · rw [if_neg c] at p1; exact False.elim p1
end
end Mn
/-! Mini: what a for walks -/
namespace Mn
open PySem PySem.Spec PyProof.Rows L2
def ItOk (L : Lk) (φ0 : Ph) (H0 : Hp) (p : List Val × Src) (J : It) : Prop :=
  ∀ (φ : Ph) (h : MH) (H : Hp), Ext L φ0 H0 φ H → Rel L φ h H → p.2.stands h → ∀ i : Nat, (p.1.length ≤ i → J.stop i H) ∧ ∀ v, p.1[i]? = some v → J.go i H ∧ ∀ x H2, J.yld i H x H2 → VR L φ H2 v x ∧ Ext L φ H φ H2 ∧ Rel L φ h H2
def wI (L : Lk) (P : Pg) (W : WX) (k : ItK) (es : List E) : TI := fun σ H R => ∃ φ h ρ, Rel L φ h H ∧ EnvR L φ H ρ σ ∧ Post L φ H (ItOk L) ((evEs P es ρ h).bind (resI k)) R (fun c d H' => W c d σ H')
section
variable {tb : Tb} {L : Lk} {P : Pg} {k : Nat} {X : Cx} {blk : Bool} {N : List Str} {sc : Scope} {W : WX}
theorem At.mono {φ φ' : Ph} {i : Nat} {a : Addr} (h : Pre φ φ') (x : At φ i a) : At φ' i a := let ⟨w, e⟩ := x; ⟨w, h _ _ e⟩
theorem VRs.at2 {φ : Ph} {H : Hp} {vs : List Val} {xs : List V} {i : Nat} {v : Val} {x : V} (r : VRs L φ H vs xs) (hv : vs[i]? = some v) (hx : xs[i]? = some x) : VR L φ H v x := by
  obtain ⟨y, e, q⟩ := r.get hv
  rw [hx] at e; cases e
  exact q
theorem it_tup {φ : Ph} {H : Hp} {a : Addr} {xs : List V} {vs : List Val} (q : TuA L.K H a xs) (r : VRs L φ H vs xs) : ItOk L φ H (vs, []) (Itt L.K a) := by
  intro φ' h' H' E R _ i
  have q' := (E.tups _ _ q).sq
  have r' := r.mono E
  refine ⟨fun hl => ⟨xs, q', by rw [← r.length]; exact hl⟩, fun v hv => ?_⟩
  obtain ⟨x, hx, rx⟩ := r'.get hv
  refine ⟨⟨xs, x, q', hx⟩, fun y H2 ⟨e, hy⟩ => ?_⟩
  subst e
  exact ⟨r'.at2 hv (hy xs q'), Ext.refl, R⟩
theorem Rel.lstAt {φ : Ph} {h : MH} {H : Hp} (R : Rel L φ h H) {i : Nat} {a : Addr} {w : Bool} {vs : List Val} (hi : h[i]? = some (.lst w vs)) (ai : At φ i a) : ∃ xs, SqL L.K H a xs ∧ VRs L φ H vs xs := by
  obtain ⟨w', b, e, _, o⟩ := R.obj i _ hi
  obtain ⟨w2, ai⟩ := ai
  rw [ai] at e; cases e
  obtain ⟨xs, q, r, _⟩ := o.lstI
  exact ⟨xs, q, r⟩
theorem stands1 {i : Nat} {o : Ob} {h : MH} (s : Src.stands [(i, o)] h) : h[i]? = some o := s (i, o) (by simp)
theorem it_lst {φ : Ph} {H : Hp} {j : Nat} {a : Addr} {w : Bool} {vs : List Val} (aj : At φ j a) : ItOk L φ H (vs, [(j, .lst w vs)]) (Itl L.K a) := by
  intro φ' h' H' E R st i
  obtain ⟨xs, q, r⟩ := R.lstAt (stands1 st) (At.mono E.pre aj)
  refine ⟨fun hl => ⟨xs, q, by rw [← r.length]; exact hl⟩, fun v hv => ?_⟩
  obtain ⟨x, hx, rx⟩ := r.get hv
  refine ⟨⟨xs, x, q, hx⟩, fun y H2 ⟨e, hy⟩ => ?_⟩
  subst e
  exact ⟨r.at2 hv (hy xs q), Ext.refl, R⟩
theorem it_rev {φ : Ph} {H : Hp} {j : Nat} {a : Addr} {w : Bool} {vs : List Val} {n : Nat} (aj : At φ j a) (hn : n = vs.length) : ItOk L φ H (vs.reverse, [(j, .lst w vs)]) (Itv L.K a n) := by
  intro φ' h' H' E R st i
  subst hn
  obtain ⟨xs, q, r⟩ := R.lstAt (stands1 st) (At.mono E.pre aj)
  refine ⟨fun hl => (by simpa using hl : vs.length ≤ i), fun v hv => ?_⟩
  have hi : i < vs.length := by
    have := (List.getElem?_eq_some_iff.mp hv).1
    simpa using this
  rw [List.getElem?_reverse hi] at hv
  obtain ⟨x, hx, rx⟩ := r.get hv
  refine ⟨⟨hi, xs, x, q, hx⟩, fun y H2 ⟨e, hy⟩ => ?_⟩
  subst e
  exact ⟨r.at2 hv (hy xs q), Ext.refl, R⟩
theorem it_enum {φ : Ph} {H : Hp} {j : Nat} {a : Addr} {w : Bool} {vs : List Val} (aj : At φ j a) : ItOk L φ H (enumL vs, [(j, .lst w vs)]) (Ite L.K a) := by
  intro φ' h' H' E R st i
  obtain ⟨xs, q, r⟩ := R.lstAt (stands1 st) (At.mono E.pre aj)
  refine ⟨fun hl => ⟨xs, q, by rw [← r.length]; simpa [enumL] using hl⟩, fun v hv => ?_⟩
  unfold enumL at hv
  rw [List.getElem?_mapIdx] at hv
  obtain ⟨u, hu, rfl⟩ := Option.map_eq_some_iff.mp hv
  obtain ⟨x, hx, rx⟩ := r.get hu
  refine ⟨⟨xs, x, q, hx⟩, fun y H2 ⟨T, z, e1, e2, e3, e4⟩ => ?_⟩
  subst e1 e3
  have E2 : Ext L φ' H' φ' (upd H' T (.tup [.int (i : Nat), z])) := Ext.side e2
  exact ⟨.tup (.inl upd_same) (.cons (.int _) (.cons ((r.at2 hu (e4 xs q)).mono E2) .nil)), E2, R.side e2⟩
theorem zip_get {α β : Type} {xs : List α} {ys : List β} {f : α × β → Val} {i : Nat} {v : Val} (h : ((xs.zip ys).map f)[i]? = some v) : ∃ x y, xs[i]? = some x ∧ ys[i]? = some y ∧ v = f (x, y) := by
  rw [List.getElem?_map] at h
  obtain ⟨⟨x, y⟩, h1, rfl⟩ := Option.map_eq_some_iff.mp h
  rw [List.getElem?_zip_eq_some] at h1
  exact ⟨x, y, h1.1, h1.2, rfl⟩
theorem it_zipT {φ : Ph} {H : Hp} {a b : Addr} {xs ys : List V} {vs ws : List Val} (q : TuA L.K H a xs) (r : VRs L φ H vs xs) (q2 : TuA L.K H b ys) (r2 : VRs L φ H ws ys) : ItOk L φ H ((vs.zip ws).map fun p => .tup [p.1, p.2], []) (RZ.ItzT L.K a b) := by
  intro φ' h' H' E R _ i
  have q' := (E.tups _ _ q).sq
  have r' := r.mono E
  have q2' := (E.tups _ _ q2).sq
  have r2' := r2.mono E
  refine ⟨fun hl => ⟨xs, ys, q', q2', by
    have : ((vs.zip ws).map fun p => Val.tup [p.1, p.2]).length ≤ i := hl
    rw [List.length_map, List.length_zip, r.length, r2.length] at this
    omega⟩, fun v hv => ?_⟩
  obtain ⟨u, w, hu, hw, rfl⟩ := zip_get hv
  obtain ⟨x, hx, rx⟩ := r'.get hu
  obtain ⟨y, hy, ry⟩ := r2'.get hw
  refine ⟨⟨xs, ys, x, y, q', q2', hx, hy⟩, fun z H2 ⟨T, c, d, e1, e2, e3, e4, e5⟩ => ?_⟩
  subst e1 e3
  have E2 : Ext L φ' H' φ' (upd H' T (.tup [c, d])) := Ext.side e2
  exact ⟨.tup (.inl upd_same) (.cons ((r'.at2 hu (e4 xs q')).mono E2) (.cons ((r2'.at2 hw (e5 ys q2')).mono E2) .nil)), E2, R.side e2⟩
theorem it_zipL {φ : Ph} {H : Hp} {j l : Nat} {a b : Addr} {w1 w2 : Bool} {vs ws : List Val} (aj : At φ j a) (bl : At φ l b) : ItOk L φ H ((vs.zip ws).map fun p => .tup [p.1, p.2], [(j, .lst w1 vs), (l, .lst w2 ws)]) (Itz L.K a b) := by
  intro φ' h' H' E R st i
  obtain ⟨xs, q', r'⟩ := R.lstAt (st (j, .lst w1 vs) (by simp)) (At.mono E.pre aj)
  obtain ⟨ys, q2', r2'⟩ := R.lstAt (st (l, .lst w2 ws) (by simp)) (At.mono E.pre bl)
  refine ⟨fun hl => ⟨xs, ys, q', q2', by
    have : ((vs.zip ws).map fun p => Val.tup [p.1, p.2]).length ≤ i := hl
    rw [List.length_map, List.length_zip, r'.length, r2'.length] at this
    omega⟩, fun v hv => ?_⟩
  obtain ⟨u, w, hu, hw, rfl⟩ := zip_get hv
  obtain ⟨x, hx, rx⟩ := r'.get hu
  obtain ⟨y, hy, ry⟩ := r2'.get hw
  refine ⟨⟨xs, ys, x, y, q', q2', hx, hy⟩, fun z H2 ⟨T, c, d, e1, e2, e3, e4, e5⟩ => ?_⟩
  subst e1 e3
  have E2 : Ext L φ' H' φ' (upd H' T (.tup [c, d])) := Ext.side e2
  exact ⟨.tup (.inl upd_same) (.cons ((r'.at2 hu (e4 xs q')).mono E2) (.cons ((r2'.at2 hw (e5 ys q2')).mono E2) .nil)), E2, R.side e2⟩
theorem it_itm {φ : Ph} {H : Hp} {j : Nat} {a : Addr} {od : Obj} {ys : List (Key × V)} {kvs : List (Key × Val)} (q : H a = some (.frz od (.dK ys))) (kr : KRs L φ H kvs ys) : ItOk L φ H (itemsD kvs, [(j, .dct false kvs)]) (Iti a od ys) := by
  intro φ' h' H' E R st i
  have q' := E.frz _ _ _ q
  have kr' := kr.mono E
  refine ⟨fun hl => ⟨q', by rw [← kr'.length]; simpa [itemsD] using hl⟩, fun v hv => ?_⟩
  unfold itemsD at hv
  rw [List.getElem?_map] at hv
  obtain ⟨⟨c, w⟩, hu, rfl⟩ := Option.map_eq_some_iff.mp hv
  have hi := (List.getElem?_eq_some_iff.mp hu).1
  refine ⟨⟨q', by rw [← kr'.length]; exact hi⟩, fun x H2 ⟨T, k, z, e0, e1, e2, e3⟩ => ?_⟩
  obtain ⟨w', hw, rw'⟩ := kr'.get e0
  rw [hu] at hw
  cases hw
  subst e1 e3
  have E2 : Ext L φ' H' φ' (upd H' T (.tup [kV k, z])) := Ext.side e2
  exact ⟨.tup (.inl upd_same) (.cons (kVal_ok k) (.cons (rw'.mono E2) .nil)), E2, R.side e2⟩
theorem it_str {φ : Ph} {H : Hp} {z : Str} : ItOk L φ H (z.cps.toList.map fun c => .str ⟨#[c]⟩, []) (Its z) := by
  intro φ' h' H' E R _ i
  refine ⟨fun hl => by simpa [Its] using hl, fun v hv => ?_⟩
  rw [List.getElem?_map] at hv
  obtain ⟨c, h1, rfl⟩ := Option.map_eq_some_iff.mp hv
  have hi := (List.getElem?_eq_some_iff.mp h1).1
  refine ⟨by simpa [Its] using hi, fun y H2 ⟨e, d, hd, e2⟩ => ?_⟩
  subst e e2
  have : z.cps[i]? = some c := by rw [← Array.getElem?_toList]; exact h1
  rw [this] at hd; cases hd
  exact ⟨.str _, Ext.refl, R⟩
theorem rangeL_get {a b c : Int} {i : Nat} {v : Val} (h : (rangeL a b c)[i]? = some v) : i < ((b - a + c - 1) / c).toNat ∧ v = .int (a + (i : Int) * c) := by
  unfold rangeL at h
  rw [List.getElem?_map] at h
  obtain ⟨n, h1, rfl⟩ := Option.map_eq_some_iff.mp h
  have hi := (List.getElem?_eq_some_iff.mp h1).1
  rw [List.length_range] at hi
  rw [List.getElem?_range hi] at h1
  cases h1
  exact ⟨hi, rfl⟩
theorem rangeL_len (a b c : Int) : (rangeL a b c).length = ((b - a + c - 1) / c).toNat := by simp [rangeL]
theorem it_rng {φ : Ph} {H : Hp} {a b c : Int} {n : Nat} {J : It} (hn : n = ((b - a + c - 1) / c).toNat) (h1 : ∀ i H, n ≤ i → J.stop i H) (h2 : ∀ i H, i < n → J.go i H) (h3 : ∀ i H x H2, J.yld i H x H2 → H2 = H ∧ x = .int (a + (i : Nat) * c)) : ItOk L φ H (rangeL a b c, []) J := by
  intro φ' h' H' E R _ i
  refine ⟨fun hl => h1 i _ (by rw [hn, ← rangeL_len]; exact hl), fun v hv => ?_⟩
  obtain ⟨h4, rfl⟩ := rangeL_get hv
  refine ⟨h2 i _ (by rw [hn]; exact h4), fun y H2 q => ?_⟩
  obtain ⟨e, e2⟩ := h3 _ _ _ _ q
  subst e e2
  exact ⟨.int _, Ext.refl, R⟩
theorem it_rngD {φ : Ph} {H : Hp} {a b : Int} {n : Nat} {J : It} (hn : n = (a - b).toNat) (h1 : ∀ i H, n ≤ i → J.stop i H) (h2 : ∀ i H, i < n → J.go i H) (h3 : ∀ i H x H2, J.yld i H x H2 → H2 = H ∧ x = .int (a + (i : Nat) * (-1))) : ItOk L φ H (rangeD a b, []) J := by
  intro φ' h' H' E R _ i
  have len : (rangeD a b).length = (a - b).toNat := by simp [rangeD]
  refine ⟨fun hl => h1 i _ (by rw [hn, ← len]; exact hl), fun v hv => ?_⟩
  have hi := (List.getElem?_eq_some_iff.mp hv).1
  rw [len] at hi
  unfold rangeD at hv
  rw [List.getElem?_map, List.getElem?_range hi] at hv
  cases hv
  refine ⟨h2 i _ (by rw [hn]; exact hi), fun y H2 q => ?_⟩
  obtain ⟨e, e2⟩ := h3 _ _ _ _ q
  subst e e2
  have : a + (i : Int) * (-1) = a - (i : Int) := by omega
  rw [this]
  exact ⟨.int _, Ext.refl, R⟩
theorem rangeSize_up (a b c : Int) (hc : 0 < c) : Builtin.Range.rangeSize a b c = (((b - a + c - 1) / c).toNat : Int) := by
  unfold Builtin.Range.rangeSize
  rw [if_pos hc]
  by_cases h : a < b
  · rw [if_pos h]
    have e : b - a + c - 1 = (b - a - 1) + c := by omega
    rw [e, Int.add_ediv_of_dvd_right (Int.dvd_refl c), Int.ediv_self (by omega)]
    have : 0 ≤ (b - a - 1) / c := Int.ediv_nonneg (by omega) (by omega)
    omega
  · rw [if_neg h]
    have : (b - a + c - 1) / c ≤ 0 := by
      have : (b - a + c - 1) / c < 1 := Int.ediv_lt_of_lt_mul hc (by omega)
      omega
    omega
theorem fits_of {x : Int} (h1 : -(2 ^ 63) ≤ x) (h2 : x < 2 ^ 63) : Builtin.Range.rangeFitsLong x = true := by
  unfold Builtin.Range.rangeFitsLong
  simp
  omega
theorem small_of {a b c : Int} (ha : a < 2 ^ 61 ∧ -(2 ^ 61) ≤ a) (hb : b < 2 ^ 61 ∧ -(2 ^ 61) ≤ b) (hc : 0 < c ∧ c < 2 ^ 29) : Builtin.Range.small a b c = true := by
  have e := rangeSize_up a b c hc.1
  have h1 : (b - a + c - 1) / c ≤ b - a + c - 1 ∨ b - a + c - 1 < 0 := by
    by_cases z : 0 ≤ b - a + c - 1
    · exact .inl (Int.ediv_le_self _ z)
    · exact .inr (by omega)
  have h2 : Builtin.Range.rangeFitsLong (Builtin.Range.rangeSize a b c) = true := by
    rw [e]
    apply fits_of
    · omega
    · rcases h1 with h1 | h1
      · omega
      · have : (b - a + c - 1) / c < 0 := Int.ediv_neg_of_neg_of_pos h1 hc.1
        omega
  unfold Builtin.Range.small
  rw [fits_of (x := a) (by omega) (by omega), fits_of (x := b) (by omega) (by omega), fits_of (x := c) (by omega) (by omega), h2, if_pos hc.1, fits_of (x := b + (c - 1)) (by omega) (by omega)]
  simp
end
end Mn
/-! Mini: iterables, targets, comprehensions -/
namespace Mn
open PySem PySem.Spec PyProof.Rows L2
/-! enumerate of a tuple, or of a list -/
/-- the fields of a new enumerate over the iterator at j -/
abbrev enFs (j : Addr) : Obj := { cls := .type "enumerate", data := .fields #[.none, .bool false, .ref j, rawInt 0, .none, .none] }
theorem en_meets {v : Value} {io : Obj} {St : Heap → Prop} (B : Begins v io St) : Meets (Builtin.«enumerate.__new__» ⟨[.type "enumerate", v], []⟩)
    (fun _ R sh => St sh.heap ∧ R (.ok (.ret (.ref (sh.heap.push io).objs.size))) { sh with heap := (sh.heap.push io).push (enFs sh.heap.objs.size) }) :=
  .of_wp fun pr wo ar R sh hyp => by
    obtain ⟨hs, z⟩ := hyp
    obtain ⟨hp, gl, dd, tt, oo⟩ := sh
    have sb := PySem.sub_enumerate
    have itr : ∀ {ar' : Around} {E' : Value → Shared → Prop} {Q' : Value → Shared → Prop}, Q' (.ref hp.objs.size) ⟨hp.push io, gl, dd, tt, oo⟩ → wpAny (model pr wo) ar' (pyIter v) Q' E' ⟨hp, gl, dd, tt, oo⟩ := fun y => B.iter pr wo _ _ ⟨hp, gl, dd, tt, oo⟩ _ hs y
    wp_walk using itr
    refine wpAny_stack_any fun _ => wpAny_pure ?_
    split
    · rename_i cc _ _ _ _ _
      by_cases hcc : (cc == Value.type "enumerate") = true <;> simp only [hcc] <;> wp_walk using itr <;> exact ⟨_, rfl, z⟩
    · wp_walk using itr
      exact ⟨_, rfl, z⟩
theorem en_call {pr : Program} {wo : World} {ar : Around} {E : Value → Shared → Prop} {sh : Shared} {v : Value} {io : Obj} {St : Heap → Prop} {Q : Value → Shared → Prop} (B : Begins v io St) (hs : St sh.heap)
    (h : ∀ g, IsEnum g (sh.heap.objs.size + 1) sh.heap.objs.size 0 .none → g.get? sh.heap.objs.size = some io → (∀ b o, sh.heap.get? b = some o → g.get? b = some o) → Q (.ref (sh.heap.objs.size + 1)) { sh with heap := g }) :
    wpAny (model pr wo) ar (call (.type "enumerate") [v]) Q E sh := by
  refine callType_new F.called_enumerate (by decide) (F.typeCall_enumerate_1 _) (F.newCall_enumerate_1 _) (fun ob => F.args_object_init_2 ob _) F.entry_enumerate_new (en_meets B) ⟨hs, ?_⟩
  have sz : (sh.heap.push io).objs.size = sh.heap.objs.size + 1 := Heap.size_push ..
  have ie : IsEnum ((sh.heap.push io).push (enFs sh.heap.objs.size)) (sh.heap.objs.size + 1) sh.heap.objs.size 0 .none := by
    have q := Heap.get?_push_size (sh.heap.push io) (o := enFs sh.heap.objs.size) rfl
    rwa [sz] at q
  show _ ∧ _
  rw [sz]
  exact ⟨⟨_, ie, rfl⟩, h _ ie (Heap.get?_push_of_some _ (Heap.get?_push_size _ B.free)) fun b o x => Heap.get?_push_of_some _ (Heap.get?_push_of_some _ x)⟩
/-- the tuple at a, each item in a new pair -/
def EnI (K : PySem.W.Frag) (a : Addr) : It where
  go := fun i H => ∃ (xs : List V) (x : V), SqT K H a xs ∧ xs[i]? = some x
  yld := fun i H v G => ∃ T x, v = .ref T ∧ H T = none ∧ G = upd H T (.tup [.int (i : Nat), x]) ∧ ∀ xs, SqT K H a xs → xs[i]? = some x
  stop := fun i H => ∃ xs : List V, SqT K H a xs ∧ xs.length ≤ i
def EnS (a e j : Addr) (i : Nat) (g : Heap) : Prop := (∃ old, IsEnum g e j ((i : Nat) : Int) old) ∧ g.IsTupleIter j a i ∧ e ≠ j ∧ a ≠ j ∧ e ≠ a
theorem en_turn {P : Program} {w : World} {K : PySem.W.Frag} {elts : List Expr} {kk : Nat} {tpos : Pos} (a e j : Addr) : Turn P w K (.Tuple elts kk tpos) (EnI K a) [e, j] e (EnS a e j) where
  mem := by simp
  obj := fun i g st b hb => by
    obtain ⟨⟨old, he⟩, ⟨o, ho, hc, hd⟩, _⟩ := st
    rcases (show b = e ∨ b = j by simpa using hb) with rfl | rfl
    · exact ⟨_, he, fun v q => nomatch q⟩
    · exact ⟨o, ho, fun v q => by rw [hd] at q; cases q⟩
  keep := fun i g g' st k => ⟨⟨_, k e (by simp) _ st.1.choose_spec⟩, st.2.1.at fun o q => k j (by simp) o q, st.2.2⟩
  item := by
    intro X hP hw hK hc i pins s σ H E I hf st hg
    subst hP hw hK
    obtain ⟨⟨old, he⟩, hit, n1, n2, n3⟩ := st
    obtain ⟨xs, x, hq, hx⟩ := hg
    obtain ⟨its, rv, p, _⟩ := I.tuple hq
    obtain ⟨u, hu, ru⟩ := rv.get hx
    have hil : i < its.toArray.size := by
      have := (List.getElem?_eq_some_iff.mp hu).1
      simpa using this
    refine wpAny_pyNext_enum_itemC (Draws.tuple (A := X.A.in1) (I.ok.hd hc) j a n2 its.toArray) he ⟨hit, p⟩ hil n1 (by simp [n1, n3]) fun y g tk hy ho st' hT hsz hk => ?_
    have hyu : y = u := by
      have q : its[i]? = some y := by simpa using hy
      rw [hu] at q; exact (Option.some.inj q).symm
    subst hyu
    refine ⟨_, rfl, wpAny_letOwnedTupleGo_enum (s := { s with heap := g, toks := tk + 1 }) ho fun g2 he2 sb => ?_⟩
    have hel := Heap.lt_size he
    have hjl : j < s.heap.objs.size := by obtain ⟨_, q, _⟩ := hit; exact Heap.lt_size q
    have hT2 : g2.get? s.heap.objs.size = some { cls := .type "tuple", data := .seq #[.int ((i : Nat) : Int) tk, y] } := (sb.2 _ (Nat.ne_of_gt hel)).trans hT
    have nw : ObjOk X.prog X.w (upd H s.heap.objs.size (.tup [.int (i : Nat), x])) g2 s.heap.objs.size (.tup [.int (i : Nat), x]) := by
      refine ⟨by show 2 ≤ sizeLine; decide, [.int ((i : Nat) : Int) tk, y], ?_, _, hT2, rfl, _, rfl⟩
      exact .cons ⟨_, rfl⟩ (.cons ru .nil)
    have I1 : Inv X pins σ (upd H s.heap.objs.size (.tup [.int (i : Nat), x])) { s with heap := g2, toks := tk + 1 } := by
      refine I.turnedNew (ch := [e, j]) (fun b o hb q => ?_) hf (Nat.le_refl _) nw
      have b1 : b ≠ e := fun z => hb (by simp [z])
      have b2 : b ≠ j := fun z => hb (by simp [z])
      exact (sb.2 b b1).trans (hk b o b1 b2 q)
    have e1 : ((i + 1 : Nat) : Int) = (i : Int) + 1 := by omega
    refine ⟨.ref s.heap.objs.size, _, I1, rfl, ⟨_, x, rfl, I.hok.fresh (Nat.le_refl _), rfl, fun ys hy => by rw [I.tuple_inj hy hq]; exact hx⟩, ⟨⟨y, by rw [e1]; exact he2⟩, st'.1.at fun o q => (sb.2 j (Ne.symm n1)).trans q, n1, n2, n3⟩, fun b hb => ?_⟩
    have hbl : b < s.heap.objs.size := by
      rcases (show b = e ∨ b = j by simpa using hb) with rfl | rfl <;> assumption
    rw [upd_ne (Nat.ne_of_lt hbl)]
    exact (hf b hb).1
  done := by
    intro X hP hw hK hc i pins s σ H E I hf st hg
    subst hP hw hK
    obtain ⟨⟨old, he⟩, hit, n1, n2, n3⟩ := st
    obtain ⟨xs, hq, hx⟩ := hg
    obtain ⟨its, rv, p, _⟩ := I.tuple hq
    obtain ⟨f0, f1, f2, f3, f4, f5⟩ := hf j (by simp)
    have hl := rv.length
    have hi : its.toArray[i]? = none := by simp; omega
    have D : Draws X.prog X.w X.A.in1 j [j, a] i (fun _ _ => True) (fun k g => k = i ∧ g.IsTupleIter j a i ∧ g.IsTuple a its.toArray) := {
      live := fun _ _ st => let ⟨o, ho, _⟩ := st.2.1; ⟨o, ho⟩
      frame := fun _ _ _ st hk => ⟨st.1, st.2.1.at fun o q => hk j (by simp) o q, st.2.2.at fun o q => hk a (by simp) o q⟩
      item := fun k s Q E hk st _ => absurd st.1 (Nat.ne_of_lt hk)
      done := fun s Q E st hE => wpAny_nextOf_tuple_end (I.ok.hd hc) st.2.1 st.2.2 hi hE }
    exact wpAny_pyNext_enum_endD D he ⟨rfl, hit, p⟩ fun g eb => ⟨rfl, I.turned (t' := s.toks) (fun b o hb q => eb b o hb q) f0 f1 f3 f4 f5⟩
  self := fun A i s Q E st h => wpAny_pyIter_enum st.1.choose_spec h
theorem boot_en : bootBuiltins "enumerate" = some (.type "enumerate") := by decide +kernel
def wEn (K : PySem.W.Frag) (ta : TA) : TI := fun σ H R => ta σ H fun vs G => ∃ a xs, vs = [.ref a] ∧ ((SqL K G a xs ∧ R (Ite K a) G) ∨ (SqT K G a xs ∧ R (EnI K a) G))
theorem pi_en {X : Cx} {e : Expr} {ta : TA} {p pos tpos : Pos} {elts : List Expr} {kk : Nat} (hg : Gl X "enumerate") (hm : X.mg "enumerate" = none) (ha : PA X [e] ta) (hs : starEach [e] X.env = [(false, eval e X.env)]) :
    PI X (.Tuple elts kk tpos) (.Call (.Name "enumerate" p) [e] [] pos) (wEn X.K ta) := by
  refine ⟨fun pins s σ H R I h => Call_ (ld_blt I hg hm boot_en (PyProof.Rows.callWith_type1 (thn (ha.run pos pins s σ H _ I h) fun us s1 ⟨vs, H1, I1, r1, q1⟩ => ?_) hs rfl))⟩
  obtain ⟨a, xs, rfl, q⟩ := q1
  cases r1 with
  | cons r rr =>
    cases rr
    cases r
    have fr : ∀ b ∈ [s1.heap.objs.size + 1, s1.heap.objs.size], FpOk X pins H1 b := fun b hb => by
      have le : s1.heap.objs.size ≤ b := by
        rcases (show b = s1.heap.objs.size + 1 ∨ b = s1.heap.objs.size by simpa using hb) with rfl | rfl <;> omega
      exact I1.fpOk le (I1.hok.fresh le)
    rcases q with ⟨hq, q⟩ | ⟨hq, q⟩
    · obtain ⟨its, rv, p', _⟩ := I1.list hq
      refine en_call (begins_list a its.toArray) p'.isList fun g he hio hk => wpAny_pyIter_enum he ?_
      have I2 : Inv X pins σ H1 { s1 with heap := g } := I1.kept (t' := s1.toks) hk
      exact ⟨_, _, _, _, H1, rfl, I2, turn_enum a (s1.heap.objs.size + 1) s1.heap.objs.size, ⟨⟨.none, he⟩, ⟨_, hio, rfl, rfl⟩, Nat.succ_ne_self _⟩, fr, q⟩
    · obtain ⟨its, rv, p', _⟩ := I1.tuple hq
      obtain ⟨o1, ho1, _⟩ := id p'
      have al := Heap.lt_size ho1
      refine en_call (begins_tuple a its.toArray) p' fun g he hio hk => wpAny_pyIter_enum he ?_
      have I2 : Inv X pins σ H1 { s1 with heap := g } := I1.kept (t' := s1.toks) hk
      exact ⟨_, _, _, _, H1, rfl, I2, en_turn a (s1.heap.objs.size + 1) s1.heap.objs.size, ⟨⟨.none, he⟩, ⟨_, hio, rfl, rfl⟩, Nat.succ_ne_self _, Nat.ne_of_lt al, Nat.ne_of_gt (Nat.lt_succ_of_lt al)⟩, fr, q⟩
section
variable {tb : Tb} {L : Lk} {P : Pg} {k : Nat} {X : Cx} {blk : Bool} {N : List Str} {sc : Scope} {W : WX}
theorem VRs.three {φ : Ph} {H : Hp} {v w u : Val} {xs : List V} (r : VRs L φ H [v, w, u] xs) : ∃ x y z, xs = [x, y, z] ∧ VR L φ H v x ∧ VR L φ H w y ∧ VR L φ H u z := by
  cases r with
  | cons h t =>
    obtain ⟨y, z, rfl, r2, r3⟩ := t.two
    exact ⟨_, _, _, rfl, h, r2, r3⟩
theorem evEs_len {P : Pg} : ∀ {es : List E} {ρ : Env'} {h h1 : MH} {vs : List Val}, evEs P es ρ h = .ok vs h1 → vs.length = es.length
  | [], _, _, _, _, e => by simp only [evEs] at e; cases e; rfl
  | x :: es, ρ, h, h1, vs, e => by
    simp only [evEs] at e
    cases e1 : evE P x ρ h with
    | bad => rw [e1] at e; cases e
    | err c fs h2 => rw [e1] at e; cases e
    | ok v h2 =>
      rw [e1, bind_ok] at e
      cases e2 : evEs P es ρ h2 with
      | bad => rw [e2] at e; cases e
      | err c fs h2 => rw [e2] at e; cases e
      | ok ws h3 =>
        rw [e2, bind_ok] at e
        cases e
        simp [evEs_len e2]
/-- an iterable by its arguments: what its rule asks of these -/
theorem wI_args {kk : ItK} (nk : kk ≠ .itm) {es : List E} {σ : L2.St} {H : Hp} {R : It → Hp → Prop} {r : List V → Hp → Prop}
    (ho : ∀ (vs : List Val) (xs : List V) (φ : Ph) (h : MH) (H1 : Hp), Rel L φ h H1 → VRs L φ H1 vs xs → vs.length = es.length → ∀ p, itemsOf kk vs h = some p → (∀ J, ItOk L φ H1 p J → R J H1) → r xs H1) (q : wI L P W kk es σ H R) : tMs L P W es σ H r := by
  obtain ⟨φ, h, ρ, Rr, En, p⟩ := q
  refine ⟨φ, h, ρ, Rr, En, ?_⟩
  cases e : evEs P es ρ h with
  | bad => rw [e] at p; exact p
  | err c fs h1 => rw [e] at p; exact p
  | ok vs h1 =>
    rw [e] at p
    intro xs H1 φ1 E1 R1 r1
    have p1 : Post L φ1 H1 (ItOk L) (resI kk vs h1) R _ := Post.step E1 p
    have er : resI kk vs h1 = match itemsOf kk vs h1 with
      | some p => .ok p h1
      | none => .bad := by
      cases kk <;> first | rfl | exact absurd rfl nk
    rw [er] at p1
    cases e2 : itemsOf kk vs h1 with
    | none => rw [e2] at p1; exact False.elim p1
    | some pr =>
      rw [e2] at p1
      exact ho vs xs φ1 h1 H1 R1 r1 (evEs_len e) pr e2 fun J hJ => p1 J H1 φ1 Ext.refl R1 hJ
theorem pi_valM (S : Sx tb L P k X blk N sc W) {tg e : Expr} {x : E} (ha : PE X e (tM L P W x)) : PI X tg e (wI L P W .val [x]) := by
  refine PI.weak (PI.or (pi_list ha) (PI.or (pi_tup ha) (pi_str ha))) fun σ H R ⟨φ, h, ρ, Rr, En, p⟩ => ?_
  have ee : (evEs P [x] ρ h) = (evE P x ρ h).bind fun v h1 => .ok [v] h1 := by
    simp only [evEs]
    cases evE P x ρ h <;> rfl
  rw [ee] at p
  cases e : evE P x ρ h with
  | bad => rw [e] at p; exact False.elim p
  | err c fs h1 =>
    rw [e] at p
    exact .inl ⟨φ, h, ρ, Rr, En, by rw [e]; exact p⟩
  | ok v h1 =>
    rw [e] at p
    have p : Post L φ H (ItOk L) (resI .val [v] h1) R _ := p
    cases v with
    | tup vs =>
      refine .inr (.inl ⟨φ, h, ρ, Rr, En, by
        rw [e]
        intro y H1 φ1 E1 R1 r1
        obtain ⟨a, xs, rfl, q, r⟩ := r1.tupU
        exact ⟨a, rfl, ⟨xs, S.hK ▸ q.sq⟩, p _ H1 φ1 E1 R1 (by rw [S.hK]; exact it_tup q r)⟩⟩)
    | str z =>
      refine .inr (.inr ⟨φ, h, ρ, Rr, En, by
        rw [e]
        intro y H1 φ1 E1 R1 r1
        exact ⟨z, r1.strI, p _ H1 φ1 E1 R1 it_str⟩⟩)
    | ref i =>
      refine .inl ⟨φ, h, ρ, Rr, En, by
        rw [e]
        intro y H1 φ1 E1 R1 r1
        have p1 : Post L φ1 H1 (ItOk L) (match (match h1[i]? with
          | some (.lst w xs) => some (xs, [(i, Ob.lst w xs)])
          | _ => none : Option (List Val × Src)) with
          | some p => .ok p h1
          | none => .bad) R _ := Post.step E1 p
        split at p1
        · rename_i pr e2
          split at e2
          · rename_i w xs hi
            cases e2
            obtain ⟨a, rfl, ai, o⟩ := R1.at hi r1
            obtain ⟨zs, q, _⟩ := o.lstI
            exact ⟨a, rfl, ⟨zs, S.hK ▸ q⟩, p1 _ H1 φ1 Ext.refl R1 (by rw [S.hK]; exact it_lst ai.1)⟩
          · cases e2
        · exact False.elim p1⟩
    | non => exact False.elim p
    | bl _ => exact False.elim p
    | int _ => exact False.elim p
    | exc _ _ => exact False.elim p
theorem len1 {vs : List Val} (h : vs.length = 1) : ∃ a, vs = [a] := by
  match vs, h with
  | [a], _ => exact ⟨a, rfl⟩
theorem len2 {vs : List Val} (h : vs.length = 2) : ∃ a b, vs = [a, b] := by
  match vs, h with
  | [a, b], _ => exact ⟨a, b, rfl⟩
theorem len3 {vs : List Val} (h : vs.length = 3) : ∃ a b c, vs = [a, b, c] := by
  match vs, h with
  | [a, b, c], _ => exact ⟨a, b, c, rfl⟩
theorem pi_rngM (S : Sx tb L P k X blk N sc W) {tg : Expr} {es : List Expr} {xs : List E} {p pos : Pos} (hg : Mn.gl sc (Str.ofString "range") = true) (hl : es.length = 1 ∨ es.length = 2 ∨ es.length = 3) (hx : xs.length = es.length) (ok : es.all okE = true) (ha : PA X es (tMs L P W xs)) :
    PI X tg (.Call (.Name (Str.ofString "range") p) es [] pos) (wI L P W .rng xs) := by
  have G := S.gl hg
  have B := S.pr.blt "range" (by decide)
  match es, hl, hx, ok, ha with
  | [a], _, hx, ok, ha =>
    simp only [List.all_cons, List.all_nil, Bool.and_true] at ok
    refine PI.weak (pi_range1 G B ha (okE_star ok _ _)) fun σ H R q => wI_args (by decide) (fun vs ys φ h H1 R1 r1 hv pr e k => ?_) q
    rw [hx] at hv
    obtain ⟨v, rfl⟩ := len1 hv
    cases v <;> first | (cases e; done) | skip
    rename_i n
    obtain ⟨y, rfl, r⟩ := r1.one
    rw [r.intI]
    have e : (if n < 2 ^ 62 ∧ -(2 ^ 62) ≤ n then some (rangeL 0 n 1, []) else none) = some pr := e
    by_cases c : n < 2 ^ 62 ∧ -(2 ^ 62) ≤ n
    · rw [if_pos c] at e; cases e
      refine ⟨n, rfl, c.2, c.1, k _ (it_rng (n := n.toNat) (by simp) (fun i H h => h) (fun i H h => h) fun i H x H2 ⟨a, b⟩ => ⟨a, by rw [b]; simp⟩)⟩
    · rw [if_neg c] at e; cases e
  | [a, b], _, hx, ok, ha =>
    simp only [List.all_cons, List.all_nil, Bool.and_true, Bool.and_eq_true] at ok
    refine PI.weak (pi_range2 G B ha (by rw [okE_star ok.1, okE_star ok.2]; rfl) (okE_star ok.2 _ _)) fun σ H R q => wI_args (by decide) (fun vs ys φ h H1 R1 r1 hv pr e k => ?_) q
    rw [hx] at hv
    obtain ⟨v, w, rfl⟩ := len2 hv
    cases v <;> cases w <;> first | (cases e; done) | skip
    rename_i m n
    obtain ⟨y, z, rfl, r, r2⟩ := r1.two
    rw [r.intI, r2.intI]
    have e : (if (n < 2 ^ 62 ∧ -(2 ^ 62) ≤ n) ∧ (m < 2 ^ 62 ∧ -(2 ^ 62) ≤ m) then some (rangeL m n 1, []) else none) = some pr := e
    by_cases c : (n < 2 ^ 62 ∧ -(2 ^ 62) ≤ n) ∧ (m < 2 ^ 62 ∧ -(2 ^ 62) ≤ m)
    · rw [if_pos c] at e; cases e
      refine ⟨m, n, rfl, ⟨c.2.2, c.2.1, c.1.2, c.1.1⟩, k _ (it_rng (n := (n - m).toNat) (by simp) (fun i H h => h) (fun i H h => h) fun i H x H2 ⟨a, b⟩ => ⟨a, by rw [b]; simp⟩)⟩
    · rw [if_neg c] at e; cases e
  | [a, b, c], _, hx, ok, ha =>
    simp only [List.all_cons, List.all_nil, Bool.and_true, Bool.and_eq_true] at ok
    refine PI.weak (pi_range3 G B ha (okE_star ok.1 _ _) (okEs_any (es := [b, c]) (by simp [ok.2]) _ _)) fun σ H R q => wI_args (by decide) (fun vs ys φ h H1 R1 r1 hv pr e k => ?_) q
    rw [hx] at hv
    obtain ⟨v, w, u, rfl⟩ := len3 hv
    cases v <;> cases w <;> first | (cases e; done) | skip
    cases u <;> first | (cases e; done) | skip
    rename_i m n d
    obtain ⟨y, z, t, rfl, r, r2, r3⟩ := r1.three
    rw [r.intI, r2.intI, r3.intI]
    have e : (if (n < 2 ^ 61 ∧ -(2 ^ 61) ≤ n) ∧ (m < 2 ^ 61 ∧ -(2 ^ 61) ≤ m) ∧ (0 < d ∧ d < 2 ^ 29) then some (rangeL m n d, []) else if (n < 2 ^ 61 ∧ -(2 ^ 61) ≤ n) ∧ (m < 2 ^ 61 ∧ -(2 ^ 61) ≤ m) ∧ d = -1 then some (rangeD m n, []) else none) = some pr := e
    by_cases c : (n < 2 ^ 61 ∧ -(2 ^ 61) ≤ n) ∧ (m < 2 ^ 61 ∧ -(2 ^ 61) ≤ m) ∧ (0 < d ∧ d < 2 ^ 29)
    · rw [if_pos c] at e; cases e
      refine ⟨m, n, d, ((n - m + d - 1) / d).toNat, rfl, ⟨by omega, by omega, small_of c.2.1 c.1 c.2.2, rangeSize_up m n d c.2.2.1⟩, k _ (it_rng rfl (fun i H h => h) (fun i H h => h) fun i H x H2 ⟨a, b⟩ => ⟨a, b⟩)⟩
    · rw [if_neg c] at e
      by_cases c2 : (n < 2 ^ 61 ∧ -(2 ^ 61) ≤ n) ∧ (m < 2 ^ 61 ∧ -(2 ^ 61) ≤ m) ∧ d = -1
      · rw [if_pos c2] at e; cases e
        obtain ⟨c3, c4, rfl⟩ := c2
        refine ⟨m, n, -1, (m - n).toNat, rfl, .neg (by omega) (by omega) (by omega) (by omega), k _ (it_rngD rfl (fun i H h => h) (fun i H h => h) fun i H x H2 ⟨a, b⟩ => ⟨a, b⟩)⟩
      · rw [if_neg c2] at e; cases e
/-- what stands at d is locked behind e, where that is wished for -/
theorem pe_shift {e : Expr} {td : TE} (he : PE X e td) : PE X e (fun σ H Q => td σ H fun x H1 => Q x H1 ∨ ∃ d u, H1 d = some u ∧ Mut (some u) ∧ ∀ od, Q x (upd H1 d (.frz od u))) := by
  refine ⟨fun pins s σ H Q I h => ?_⟩
  refine thn (he.run pins s σ H _ I h) fun u s1 ⟨x, H1, I1, rx, q⟩ => ?_
  rcases q with q | ⟨d, v, hd, mu, q⟩
  · exact ⟨x, H1, I1, rx, q⟩
  · obtain ⟨od, I2⟩ := I1.lock hd mu
    exact ⟨x, _, I2, rx, q od⟩
theorem pi_itemsM {ts : List Expr} {tk : Nat} {tp : Pos} {a : Expr} {x : E} {ap cp : Pos} (ok : okB a = true) (hline : (ap.endLine == cp.line) = true) (ha : PE X a (tM L P W x)) : PI X (.Tuple ts tk tp) (.Call (.Attribute a (Str.ofString "items") ap) [] [] cp) (wI L P W .itm [x]) := by
  refine PI.weak (pi_items (pe_shift ha) (okB_base ok _ _) hline) fun σ H R ⟨φ, h, ρ, Rr, En, p⟩ => ?_
  have ee : (evEs P [x] ρ h) = (evE P x ρ h).bind fun v h1 => .ok [v] h1 := by
    simp only [evEs]
    cases evE P x ρ h <;> rfl
  rw [ee] at p
  refine ⟨φ, h, ρ, Rr, En, ?_⟩
  cases e : evE P x ρ h with
  | bad => rw [e] at p; exact False.elim p
  | err c fs h1 => rw [e] at p; exact p
  | ok v h1 =>
    rw [e] at p
    intro y H1 φ1 E1 R1 r1
    have p : Post L φ1 H1 (ItOk L) (resI .itm [v] h1) R _ := Post.step E1 p
    obtain ⟨i, rfl⟩ : ∃ i, v = Val.ref i := by cases v <;> first | exact ⟨_, rfl⟩ | exact False.elim p
    have p : Post L φ1 H1 (ItOk L) (match h1[i]? with
      | some (.dct _ kvs) => .ok (itemsD kvs, [(i, .dct false kvs)]) (h1.set i (.dct false kvs))
      | _ => .bad) R _ := p
    split at p
    · rename_i w kvs hi
      obtain ⟨d, rfl, di, o⟩ := R1.at hi r1
      obtain ⟨ys, q1, kr, k1, k2⟩ := o.dctI
      cases w with
      | true =>
        have q := k1 rfl
        refine .inr ⟨d, .dK ys, q, True.intro, fun od => ⟨d, od, ys, rfl, upd_same, ?_⟩⟩
        have X1 : Ext L φ1 H1 φ1 (upd H1 d (.frz od (.dK ys))) := Ext.write (di.2 rfl) q (fun _ _ z => by cases z) (fun _ z => by cases z)
        exact p _ _ φ1 X1 (R1.write hi rfl (fun _ z => by cases z) (di.2 rfl) (.dF upd_same (kr.mono X1))) (it_itm upd_same (kr.mono X1))
      | false =>
        obtain ⟨ob, q⟩ := k2 rfl
        have es : h1.set i (.dct false kvs) = h1 := by
          have hl := (List.getElem?_eq_some_iff.mp hi).1
          refine List.ext_getElem? fun j => ?_
          by_cases ej : i = j
          · subst ej
            rw [List.getElem?_set_self hl, hi]
          · rw [List.getElem?_set_ne ej]
        rw [es] at p
        exact .inl ⟨d, ob, ys, rfl, q, p _ _ φ1 Ext.refl R1 (it_itm q kr)⟩
    · exact False.elim p
def lstSrc (g : List Val → List Val) (v : Val) (h : MH) : Option (List Val × Src) := match v with
  | .ref a => match h[a]? with
    | some (.lst w xs) => some (g xs, [(a, Ob.lst w xs)])
    | _ => none
  | _ => none
theorem lst_of {φ : Ph} {h : MH} {H : Hp} {v : Val} {x : V} {pr : List Val × Src} {g : List Val → List Val} (R : Rel L φ h H) (r : VR L φ H v x) (e : lstSrc g v h = some pr) :
    ∃ i a w vs xs, v = .ref i ∧ x = .ref a ∧ At φ i a ∧ SqL L.K H a xs ∧ VRs L φ H vs xs ∧ pr = (g vs, [(i, .lst w vs)]) := by
  cases v <;> first | (cases e; done) | skip
  rename_i i
  simp only [lstSrc] at e
  split at e
  · rename_i w vs hi
    cases e
    obtain ⟨a, rfl, ai, o⟩ := R.at hi r
    obtain ⟨xs, q, r1, _⟩ := o.lstI
    exact ⟨_, a, w, vs, xs, rfl, rfl, ai.1, q, r1, rfl⟩
  · cases e
theorem it_enT {φ : Ph} {H : Hp} {a : Addr} {xs : List V} {vs : List Val} (q : TuA L.K H a xs) (r : VRs L φ H vs xs) : ItOk L φ H (enumL vs, []) (EnI L.K a) := by
  intro φ' h' H' E R _ i
  have q' := (E.tups _ _ q).sq
  have r' := r.mono E
  refine ⟨fun hl => ⟨xs, q', by rw [← r'.length]; simpa [enumL] using hl⟩, fun v hv => ?_⟩
  unfold enumL at hv
  rw [List.getElem?_mapIdx] at hv
  obtain ⟨u, hu, rfl⟩ := Option.map_eq_some_iff.mp hv
  obtain ⟨x, hx, rx⟩ := r'.get hu
  refine ⟨⟨xs, x, q', hx⟩, fun y H2 ⟨T, z, e1, e2, e3, e4⟩ => ?_⟩
  subst e1 e3
  have E2 : Ext L φ' H' φ' (upd H' T (.tup [.int (i : Nat), z])) := Ext.side e2
  exact ⟨.tup (.inl upd_same) (.cons (.int _) (.cons ((r'.at2 hu (e4 xs q')).mono E2) .nil)), E2, R.side e2⟩
theorem pi_enumM (S : Sx tb L P k X blk N sc W) {ts : List Expr} {tk : Nat} {tp : Pos} {a : Expr} {xs : List E} {p pos : Pos} (hg : Mn.gl sc (Str.ofString "enumerate") = true) (hx : xs.length = 1) (ok : okE a = true) (ha : PA X [a] (tMs L P W xs)) :
    PI X (.Tuple ts tk tp) (.Call (.Name (Str.ofString "enumerate") p) [a] [] pos) (wI L P W .enm xs) := by
  refine PI.weak (pi_en (S.gl hg) (S.pr.blt "enumerate" (by decide)) ha (okE_star ok _ _)) fun σ H R q => wI_args (by decide) (fun vs ys φ h H1 R1 r1 hv pr e k => ?_) q
  rw [hx] at hv
  obtain ⟨v, rfl⟩ := len1 hv
  obtain ⟨y, rfl, r⟩ := r1.one
  by_cases tv : ∃ us, v = .tup us
  · obtain ⟨us, rfl⟩ := tv
    cases e
    obtain ⟨c, cs, rfl, q1, s1⟩ := r.tupU
    exact ⟨c, cs, rfl, .inr ⟨S.hK ▸ q1.sq, k _ (by rw [S.hK]; exact it_enT q1 s1)⟩⟩
  · have e' : lstSrc (enumL) v h = some pr := by
      cases v <;> first | exact e | exact absurd ⟨_, rfl⟩ tv | (cases e; done)
    obtain ⟨i, b, w, ws, zs, rfl, rfl, bi, q1, r2, rfl⟩ := lst_of R1 r e'
    exact ⟨b, zs, rfl, .inl ⟨S.hK ▸ q1, k _ (by rw [S.hK]; exact it_enum bi)⟩⟩
theorem pi_revM (S : Sx tb L P k X blk N sc W) {tg : Expr} {a : Expr} {xs : List E} {p pos : Pos} (hg : Mn.gl sc (Str.ofString "reversed") = true) (hx : xs.length = 1) (ok : okE a = true) (ha : PA X [a] (tMs L P W xs)) :
    PI X tg (.Call (.Name (Str.ofString "reversed") p) [a] [] pos) (wI L P W .rev xs) := by
  refine PI.weak (pi_reversed (S.gl hg) (S.pr.blt "reversed" (by decide)) ha (okE_star ok _ _)) fun σ H R q => wI_args (by decide) (fun vs ys φ h H1 R1 r1 hv pr e k => ?_) q
  rw [hx] at hv
  obtain ⟨v, rfl⟩ := len1 hv
  obtain ⟨y, rfl, r⟩ := r1.one
  have e' : lstSrc (fun xs => xs.reverse) v h = some pr := by
    cases v <;> first | exact e | (cases e; done)
  obtain ⟨i, b, w, ws, zs, rfl, rfl, bi, q1, r2, rfl⟩ := lst_of R1 r e'
  exact ⟨b, zs, rfl, S.hK ▸ q1, k _ (by rw [S.hK]; exact it_rev bi r2.length.symm)⟩
theorem pi_zipM (S : Sx tb L P k X blk N sc W) {ts : List Expr} {tk : Nat} {tp : Pos} {a b : Expr} {xs : List E} {p pos : Pos} (hg : Mn.gl sc (Str.ofString "zip") = true) (hx : xs.length = 2) (ok : okE a = true) (ok2 : okE b = true) (ha : PA X [a, b] (tMs L P W xs)) :
    PI X (.Tuple ts tk tp) (.Call (.Name (Str.ofString "zip") p) [a, b] [] pos) (wI L P W .zip xs) := by
  refine PI.weak (RZ.pi_zipA (S.gl hg) (S.pr.blt "zip" (by decide)) ha (okE_star ok _ _) (okEs_any (es := [b]) (by simp [ok2]) _ _)) fun σ H R q => wI_args (by decide) (fun vs ys φ h H1 R1 r1 hv pr e k => ?_) q
  rw [hx] at hv
  obtain ⟨v, u, rfl⟩ := len2 hv
  obtain ⟨y, z, rfl, r, r2⟩ := r1.two
  cases v <;> cases u <;> first | (cases e; done) | skip
  · cases e
    obtain ⟨c, cs, rfl, q1, s1⟩ := r.tupU
    obtain ⟨d, ds, rfl, q2, s2⟩ := r2.tupU
    exact ⟨c, d, cs, ds, rfl, .inr ⟨S.hK ▸ q1.sq, S.hK ▸ q2.sq, k _ (by rw [S.hK]; exact it_zipT q1 s1 q2 s2)⟩⟩
  · rename_i i j
    have e : (match h[i]?, h[j]? with
      | some (.lst w xs), some (.lst z ys) => some ((xs.zip ys).map fun p => Val.tup [p.1, p.2], [(i, Ob.lst w xs), (j, Ob.lst z ys)])
      | _, _ => none) = some pr := e
    split at e
    · rename_i w ws z zs hi hj
      cases e
      obtain ⟨c, rfl, ci, o⟩ := R1.at hi r
      obtain ⟨cs, q1, s1, _⟩ := o.lstI
      obtain ⟨d, rfl, di, o2⟩ := R1.at hj r2
      obtain ⟨ds, q2, s2, _⟩ := o2.lstI
      exact ⟨c, d, cs, ds, rfl, .inl ⟨S.hK ▸ q1, S.hK ▸ q2, k _ (by rw [S.hK]; exact it_zipL ci.1 di.1)⟩⟩
    · cases e
/-! targets -/
def gM (L : Lk) (t : Tg) : TG := fun x σ H Q => ∃ φ h ρ ρ' v, Rel L φ h H ∧ VR L φ H v x ∧ EnvR L φ H ρ σ ∧ bindT t v ρ = some ρ' ∧ ∀ σ', EnvR L φ H ρ' σ' → (∀ i, (match t with | .nm j => i ≠ j | .tp js => i ∉ js) → σ'[i]? = σ[i]?) → σ'.length = σ.length → Q σ' H
theorem loc_of {x : Str} {i : Nat} {p : Pos} (S : Sy tb L P k X blk N sc W) (h : trTg blk N sc (.Name x p) = some i) : X.N[i]? = some x ∧ Loc X.env.scope x ∧ (X.fn x = true ∨ X.env.scope.names.lookup x = some .local) := by
  simp only [trTg] at h
  rw [S.hN, S.hsc]
  split at h
  · rename_i e
    exact ⟨idxN_ok h, .inl e, .inr e⟩
  · rename_i e
    by_cases hb : blk = true
    · rw [if_pos hb] at h; cases h
    · rw [if_neg hb] at h
      exact ⟨idxN_ok h, .inr e, .inl (S.fnc (by simpa using hb) x)⟩
  · cases h
theorem pg_nmM (S : Sy tb L P k X blk N sc W) {x : Str} {i : Nat} {p : Pos} (h : trTg blk N sc (.Name x p) = some i) : PG X (.Name x p) (gM L (.nm i)) := by
  obtain ⟨h1, h2, h3⟩ := loc_of S h
  have hp := pg_name (pos := p) (by rw [S.hN]; exact S.nd) h1 h2 h3
  refine ⟨fun pins s σ H v u Q I r ⟨φ, hh, ρ, ρ', w, R, rw_, En, eb, q⟩ => hp.run pins s σ H v u Q I r ?_⟩
  cases eb
  exact q _ (En.set rw_ i) (fun j hj => List.getElem?_set_ne (Ne.symm hj)) (by simp)
def gsM (L : Lk) (js : List Nat) : TGs := fun xs σ H Q => ∃ φ h ρ ρ' vs, Rel L φ h H ∧ VRs L φ H vs xs ∧ EnvR L φ H ρ σ ∧ binds ρ js vs = some ρ' ∧ ∀ σ', EnvR L φ H ρ' σ' → (∀ i, i ∉ js → σ'[i]? = σ[i]?) → σ'.length = σ.length → Q σ' H
theorem pgs_M (S : Sx tb L P k X blk N sc W) : ∀ {es : List Expr} {js : List Nat}, mapO (trTg blk N sc) es = some js → PGs X es (gsM L js)
  | [], js, h => by
    cases h
    refine ⟨fun pins s σ H vs us Q I r ⟨φ, hh, ρ, ρ', ws, R, rs, En, eb, q⟩ => pgs_nil.run pins s σ H vs us Q I r ?_⟩
    cases ws with
    | nil => cases rs; cases eb; exact ⟨rfl, q σ En (fun _ _ => rfl) rfl⟩
    | cons _ _ => cases eb
  | e :: es, js, h => by
    obtain ⟨j, js', h1, h2, rfl⟩ := mapO_cons h
    have ih := pgs_M S h2
    have en : ∃ x p, e = .Name x p := by
      cases e <;> first | exact ⟨_, _, rfl⟩ | (cases h1; done)
    obtain ⟨x, p, rfl⟩ := en
    have g := pg_nmM S.toSy h1
    refine ⟨fun pins s σ H vs us Q I r ⟨φ, hh, ρ, ρ', ws, R, rs, En, eb, q⟩ => (pgs_cons g ih rfl).run pins s σ H vs us Q I r ?_⟩
    cases ws with
    | nil => cases eb
    | cons w ws =>
      cases rs with
      | cons r1 r2 =>
        refine ⟨_, _, rfl, φ, hh, ρ, ρ.set j (some w), w, R, r1, En, rfl, fun σ1 En1 k1 l1 => ?_⟩
        refine ⟨φ, hh, ρ.set j (some w), ρ', ws, R, r2, En1, eb, fun σ2 En2 k2 l2 => q σ2 En2 (fun i hi => ?_) (by rw [l2, l1])⟩
        simp only [List.mem_cons, not_or] at hi
        rw [k2 i hi.2]
        exact k1 i hi.1
theorem pg_M (S : Sx tb L P k X blk N sc W) {e : Expr} {t : Tg} (h : trT blk N sc e = some t) : PG X e (gM L t) := by
  cases e <;> first | (cases h; done) | skip
  · rename_i x p
    unfold trT at h
    obtain ⟨i, h1, rfl⟩ := Option.map_eq_some_iff.mp h
    exact pg_nmM S.toSy h1
  · rename_i es kk p
    unfold trT at h
    obtain ⟨js, h1, rfl⟩ := Option.map_eq_some_iff.mp h
    have hq := pgs_M S h1
    have hlen : ∀ (es : List Expr) (js : List Nat), mapO (trTg blk N sc) es = some js → (assignEach es X.env).length = js.length ∧ (assignEach es X.env).findIdx? (·.1) = none := by
      intro es
      induction es with
      | nil => intro js h; cases h; exact ⟨rfl, rfl⟩
      | cons e es ih =>
        intro js h
        obtain ⟨j, js', h1, h2, rfl⟩ := mapO_cons h
        have en : ∃ x p, e = .Name x p := by
          cases e <;> first | exact ⟨_, _, rfl⟩ | (cases h1; done)
        obtain ⟨x, p, rfl⟩ := en
        obtain ⟨a, b⟩ := ih js' h2
        have ee : assignEach (.Name x p :: es) X.env = (false, assign (.Name x p) X.env) :: assignEach es X.env := rfl
        rw [ee]
        refine ⟨by simp [a], ?_⟩
        rw [List.findIdx?_cons]
        simp [b]
    obtain ⟨l1, l2⟩ := hlen es js h1
    refine ⟨fun pins s σ H v u Q I r ⟨φ, hh, ρ, ρ', w, R, rw_, En, eb, q⟩ => (pg_tup (n := js.length) S.calm hq l1 l2).run pins s σ H v u Q I r ?_⟩
    cases w <;> first | (cases eb; done) | skip
    rename_i ws
    obtain ⟨a, xs, rfl, q1, r1⟩ := rw_.tupI
    have eb : binds ρ js ws = some ρ' := eb
    have bl : ∀ (js : List Nat) (ws : List Val) (ρ ρ' : Env'), binds ρ js ws = some ρ' → ws.length = js.length := by
      intro js
      induction js with
      | nil => intro ws ρ ρ' h; cases ws with
        | nil => rfl
        | cons _ _ => cases h
      | cons j js ih => intro ws ρ ρ' h; cases ws with
        | nil => cases h
        | cons w ws => simp [ih ws _ _ h]
    exact ⟨a, xs, rfl, S.hK ▸ q1, by rw [← r1.length, bl _ _ _ _ eb], φ, hh, ρ, ρ', ws, R, r1, En, eb, q⟩
/-- the same for an assignment: a list is taken apart too -/
def gA (L : Lk) (t : Tg) : TG := fun x σ H Q => ∃ φ h ρ ρ' v, Rel L φ h H ∧ VR L φ H v x ∧ EnvR L φ H ρ σ ∧ bindT t (unT t h v) ρ = some ρ' ∧ ∀ σ', EnvR L φ H ρ' σ' → (∀ i, (match t with | .nm j => i ≠ j | .tp js => i ∉ js) → σ'[i]? = σ[i]?) → σ'.length = σ.length → Q σ' H
theorem bound_len : ∀ (js : List Nat) (ws : List Val) (ρ ρ' : Env'), binds ρ js ws = some ρ' → ws.length = js.length
  | [], [], _, _, _ => rfl
  | [], _ :: _, _, _, h => nomatch h
  | _ :: _, [], _, _, h => nomatch h
  | j :: js, w :: ws, ρ, ρ', h => by
    have := bound_len js ws _ _ h
    simp [this]
theorem tgt_len (S : Sx tb L P k X blk N sc W) : ∀ (es : List Expr) (js : List Nat), mapO (trTg blk N sc) es = some js → (assignEach es X.env).length = js.length ∧ (assignEach es X.env).findIdx? (·.1) = none
  | [], js, h => by cases h; exact ⟨rfl, rfl⟩
  | e :: es, js, h => by
    obtain ⟨j, js', h1, h2, rfl⟩ := mapO_cons h
    obtain ⟨a, b⟩ := tgt_len S es js' h2
    cases e <;> first | (cases h1; done) | skip
    rename_i x p
    have ee : assignEach (.Name x p :: es) X.env = (false, assign (.Name x p) X.env) :: assignEach es X.env := rfl
    rw [ee, List.findIdx?_cons]
    exact ⟨by simp [a], by simp [b]⟩
theorem pg_A (S : Sx tb L P k X blk N sc W) {e : Expr} {t : Tg} (h : trT blk N sc e = some t) : PG X e (gA L t) := by
  have g := pg_M S h
  cases e <;> first | (cases h; done) | skip
  · rename_i x p
    unfold trT at h
    obtain ⟨i, h1, rfl⟩ := Option.map_eq_some_iff.mp h
    exact g
  · rename_i es kk p
    unfold trT at h
    obtain ⟨js, h1, rfl⟩ := Option.map_eq_some_iff.mp h
    have hq := pgs_M S h1
    obtain ⟨l1, l2⟩ := tgt_len S es js h1
    refine ⟨fun pins s σ H v u Q I r ⟨φ, hh, ρ, ρ', w, R, rw_, En, eb, q⟩ => ?_⟩
    cases w with
    | ref a =>
      cases e2 : hh[a]? with
      | none => simp [unT, tuL, e2, bindT] at eb
      | some o =>
        cases o with
        | lst z ws =>
          have eb : binds ρ js ws = some ρ' := by simpa [unT, tuL, e2, bindT] using eb
          obtain ⟨c, rfl, ci, o⟩ := R.at e2 rw_
          obtain ⟨cs, q1, s1, _⟩ := o.lstI
          exact (pg_unl (n := js.length) S.calm hq l1 l2).run pins s σ H _ u Q I r ⟨c, cs, rfl, S.hK ▸ q1, by rw [← s1.length, bound_len _ _ _ _ eb], φ, hh, ρ, ρ', ws, R, s1, En, eb, q⟩
        | dct _ _ => simp [unT, tuL, e2, bindT] at eb
        | dtt _ => simp [unT, tuL, e2, bindT] at eb
        | ins _ _ => simp [unT, tuL, e2, bindT] at eb
    | non => exact g.run pins s σ H v u Q I r ⟨φ, hh, ρ, ρ', _, R, rw_, En, eb, q⟩
    | bl _ => exact g.run pins s σ H v u Q I r ⟨φ, hh, ρ, ρ', _, R, rw_, En, eb, q⟩
    | int _ => exact g.run pins s σ H v u Q I r ⟨φ, hh, ρ, ρ', _, R, rw_, En, eb, q⟩
    | str _ => exact g.run pins s σ H v u Q I r ⟨φ, hh, ρ, ρ', _, R, rw_, En, eb, q⟩
    | tup _ => exact g.run pins s σ H v u Q I r ⟨φ, hh, ρ, ρ', _, R, rw_, En, eb, q⟩
    | exc _ _ => exact g.run pins s σ H v u Q I r ⟨φ, hh, ρ, ρ', _, R, rw_, En, eb, q⟩
/-! list(range(..)), list(reversed(x)) -/
theorem rng_rel {φ : Ph} {H : Hp} (a b : Int) : VRs L φ H (rangeL a b 1) (rgV a b) := by
  unfold rangeL rgV
  have e : ((b - a + 1 - 1) / 1 : Int).toNat = (b - a).toNat := by simp
  rw [e]
  have key : ∀ l : List Nat, VRs L φ H (l.map fun (k : Nat) => Val.int (a + (k : Int) * 1)) (l.map fun (i : Nat) => V.int (a + (i : Nat))) := by
    intro l
    induction l with
    | nil => exact .nil
    | cons k r ih =>
      rw [List.map_cons, List.map_cons]
      refine .cons ?_ ih
      rw [Int.mul_one]
      exact .int _
  exact key _
theorem rgOk_of {a b : Int} (c1 : b < 2 ^ 62 ∧ -(2 ^ 62) ≤ b) (c2 : a < 2 ^ 62 ∧ -(2 ^ 62) ≤ a) (hl : (rangeL a b 1).length ≤ 4096) : RgOk a b := by
  refine ⟨c2.2, c2.1, c1.2, c1.1, ?_⟩
  have e : (rangeL a b 1).length = (b - a).toNat := by simp [rangeL]
  omega
theorem pe_lofR1 (S : Sx tb L P k X blk N sc W) {a : Expr} {x : E} {p pos p2 pos2 : Pos} (hg : Mn.gl sc (Str.ofString "list") = true) (hg2 : Mn.gl sc (Str.ofString "range") = true) (ok : okE a = true) (ha : PE X a (tM L P W x)) :
    PE X (.Call (.Name (Str.ofString "list") p) [.Call (.Name (Str.ofString "range") p2) [a] [] pos2] [] pos) (tM L P W (.lof .rng [x])) := by
  refine PE.weak (pe_listRg S.calm (S.gl hg) (S.pr.blt "list" (by decide)) (prg_1 (S.gl hg2) (S.pr.blt "range" (by decide)) ha (okE_star ok _ _))) fun σ H Q ⟨φ, h, ρ, R, En, p⟩ => ?_
  simp only [evE, evEs] at p
  refine ⟨φ, h, ρ, R, En, ?_⟩
  cases e : evE P x ρ h with
  | bad => rw [e] at p; exact False.elim p
  | err c fs h1 => rw [e] at p; exact p
  | ok v h1 =>
    rw [e] at p
    intro y H1 φ1 E1 R1 r1
    have p := Post.step E1 p
    obtain ⟨n, rfl⟩ : ∃ i, v = Val.int i := by cases v <;> first | exact ⟨_, rfl⟩ | exact False.elim p
    have p : Post L φ1 H1 (vR L) (Res.bind (match (if n < 2 ^ 62 ∧ -(2 ^ 62) ≤ n then some (rangeL 0 n 1, []) else none : Option (List Val × Src)) with
      | some p => .ok p h1
      | none => .bad) fun p h1 => if p.1.length ≤ 4096 then alloc (.lst true p.1) h1 else .bad) Q _ := p
    by_cases c : n < 2 ^ 62 ∧ -(2 ^ 62) ≤ n
    · rw [if_pos c] at p
      simp only [bind_ok] at p
      by_cases hl : (rangeL 0 n 1).length ≤ 4096
      · rw [if_pos hl] at p
        exact ⟨n, r1.intI, rgOk_of c ⟨by decide, by decide⟩ hl, fun d hd => Post.lst R1 (rng_rel 0 n) p hd⟩
      · rw [if_neg hl] at p; exact False.elim p
    · rw [if_neg c] at p; exact False.elim p
theorem pe_lofR2 (S : Sx tb L P k X blk N sc W) {a b : Expr} {x y : E} {p pos p2 pos2 : Pos} (hg : Mn.gl sc (Str.ofString "list") = true) (hg2 : Mn.gl sc (Str.ofString "range") = true) (ok : okE a = true) (ok2 : okE b = true) (ha : PE X a (tM L P W x)) (hb : PE X b (tM L P W y)) :
    PE X (.Call (.Name (Str.ofString "list") p) [.Call (.Name (Str.ofString "range") p2) [a, b] [] pos2] [] pos) (tM L P W (.lof .rng [x, y])) := by
  refine PE.weak (pe_listRg S.calm (S.gl hg) (S.pr.blt "list" (by decide)) (prg_2 (S.gl hg2) (S.pr.blt "range" (by decide)) ha hb (by rw [okE_star ok]) (okE_star ok2 _ _) (okEs_any (es := [b]) (by simp [ok2]) _ _))) fun σ H Q ⟨φ, h, ρ, R, En, p⟩ => ?_
  simp only [evE, evEs] at p
  refine ⟨φ, h, ρ, R, En, ?_⟩
  cases e : evE P x ρ h with
  | bad => rw [e] at p; exact False.elim p
  | err c fs h1 => rw [e] at p; exact p
  | ok v h1 =>
    rw [e] at p
    intro u H1 φ1 E1 R1 r1
    have p := Post.step E1 p
    refine ⟨φ1, h1, ρ, R1, En.mono E1, ?_⟩
    simp only [bind_ok] at p
    cases e2 : evE P y ρ h1 with
    | bad => rw [e2] at p; exact False.elim p
    | err c fs h2 => rw [e2] at p; exact p
    | ok w h2 =>
      rw [e2] at p
      intro z H2 φ2 E2 R2 r2
      have p := Post.step E2 p
      simp only [bind_ok] at p
      obtain ⟨m, rfl⟩ : ∃ i, v = Val.int i := by cases v <;> first | exact ⟨_, rfl⟩ | exact False.elim p
      obtain ⟨n, rfl⟩ : ∃ i, w = Val.int i := by cases w <;> first | exact ⟨_, rfl⟩ | exact False.elim p
      have p : Post L φ2 H2 (vR L) (Res.bind (match (if (n < 2 ^ 62 ∧ -(2 ^ 62) ≤ n) ∧ (m < 2 ^ 62 ∧ -(2 ^ 62) ≤ m) then some (rangeL m n 1, []) else none : Option (List Val × Src)) with
        | some p => .ok p h2
        | none => .bad) fun p h1 => if p.1.length ≤ 4096 then alloc (.lst true p.1) h1 else .bad) Q _ := p
      by_cases c : (n < 2 ^ 62 ∧ -(2 ^ 62) ≤ n) ∧ (m < 2 ^ 62 ∧ -(2 ^ 62) ≤ m)
      · rw [if_pos c] at p
        simp only [bind_ok] at p
        by_cases hl : (rangeL m n 1).length ≤ 4096
        · rw [if_pos hl] at p
          exact ⟨m, n, r1.intI, r2.intI, rgOk_of c.1 c.2 hl, fun d hd => Post.lst R2 (rng_rel m n) p hd⟩
        · rw [if_neg hl] at p; exact False.elim p
      · rw [if_neg c] at p; exact False.elim p
end
section
variable {prog : Program} {w : World} {A : Around} {E : Value → Shared → Prop} {s : Shared}
/-- a list, filled from the walk of a list from its end -/
theorem extend_rev {it l S : Addr} {items : Array Value} {c₀ : Nat} {res : Value} {R : Result → Shared → Prop} (hh : A.in1.handled = none) (hit : s.heap.IsRevIter it l ((items.size : Int) - 1)) (hl : s.heap.IsList l items) (hne : l ≠ it) (hn : items.size ≤ sizeLine) (hSi : S ≠ it) (hSl : S ≠ l)
    (hS : s.heap.get? S = some { cls := .type "list", data := .seq #[] c₀ })
    (hR : ∀ s' acc' c', (∀ b o, b ≠ it → b ≠ S → s.heap.get? b = some o → s'.heap.get? b = some o) → s' = { s with heap := s'.heap, toks := s'.toks } → s'.heap.get? S = some { cls := .type "list", dict := none, data := .seq acc' c', slots := #[] } →
      ItemsOf (fun i v => items[items.size - 1 - i]? = some v) acc' items.size → R (.ok (.ret res)) s') :
    wpAny (model prog w) A.in1 (Builtin.List.listExtendWith (.ref S) (.ref it) res)
      (fun fin s' => match fin with | .done f => R (.ok f) s' | .again c' => c'.quiet = true ∧ codeAny (model prog w) A c' R s') (fun e s' => R (.error e) s') s := by
  have W := (Walks.listRev (prog := prog) (w := w) (A := A.in1) hh it l hne items).toS
  have hSf : S ∉ [it, l] := by simp only [List.mem_cons, List.not_mem_nil, or_false, not_or]; exact ⟨hSi, hSl⟩
  have hT : s.TypeIs (.ref it) "list_reverseiterator" := hit.typeIs
  have h1 : Builtin.List.listSameRef (.ref S) (.ref it) = false := by simp [Builtin.List.listSameRef, hSi]
  unfold Builtin.List.listExtendWith
  refine wpAny_bind (wpAny_typeOf hT ?_)
  rw [if_neg (by rw [h1]; decide)]
  refine wpAny_bind (wpAny_pyIter_revIter hit ?_)
  refine wpAny_bind (wpAny_holding ?_)
  unfold Builtin.List.listLengthHint
  refine wpAny_bind (wpAny_specialOf hT RT.nolen_lri ?_)
  show wpAny _ A.in1 (specialOf (Value.ref it) (Str.ofString "__length_hint__") >>= _) _ _ _
  refine wpAny_bind (wpAny_specialOf hT RT.hint_lri ?_)
  generalize hid : ("list_reverseiterator.__length_hint__" : String) = id0
  wp_delta
  rw [show splitId id0 = some ("list_reverseiterator", "__length_hint__") from by subst hid; decide +kernel]
  subst hid
  refine wpAny_bind (wpAny_isInstance (b := true) hT (by rw [isSubtype_type]; kernel_rfl) ?_)
  refine wpAny_pure ?_
  rw [if_neg (by decide)]
  have e0 : ((items.size : Nat) : Int) - 1 - ((0 : Nat) : Int) = (items.size : Int) - 1 := by omega
  refine wpAny_pure ⟨plainId_quiet F.plain_extend_loop _, codeAny_extend_loopS W hn _ hSf _ items.size 0 _ _ _ rfl (Nat.zero_le _) ⟨Nat.zero_le _, by rw [e0]; exact hit, hl⟩ hS (ItemsOf.nil _) fun s' acc' c' hm hS' hacc => ?_⟩
  refine hR s' acc' c' (fun b o hb hbS e => hm.heap b o (fun hmem => ?_) e) (Moved.eq_with hm) hS' hacc
  rcases List.mem_cons.mp hmem with e' | hmem
  · exact hbS e'
  · exact hb (List.mem_singleton.mp hmem)
theorem list_init_rev {it l S : Addr} {items : Array Value} {R : Result → Shared → Prop} (hh : A.in1.handled = none) (hit : s.heap.IsRevIter it l ((items.size : Int) - 1)) (hl : s.heap.IsList l items) (hne : l ≠ it) (hn : items.size ≤ sizeLine) (hSi : S ≠ it) (hSl : S ≠ l)
    (hS : s.heap.get? S = some { cls := .type "list", data := .seq #[] })
    (hR : ∀ s' acc' c', (∀ b o, b ≠ it → b ≠ S → s.heap.get? b = some o → s'.heap.get? b = some o) → s' = { s with heap := s'.heap, toks := s'.toks } → s'.heap.get? S = some { cls := .type "list", dict := none, data := .seq acc' c', slots := #[] } →
      ItemsOf (fun i v => items[items.size - 1 - i]? = some v) acc' items.size → R (.ok (.ret .none)) s') :
    wpAny (model prog w) A.in1 (Builtin.«list.__init__» ⟨[.ref S, .ref it], []⟩)
      (fun fin s' => match fin with | .done f => R (.ok f) s' | .again c' => c'.quiet = true ∧ codeAny (model prog w) A c' R s') (fun e s' => R (.error e) s') s := by
  show wpAny _ A.in1 (do let old ← Builtin.List.listItems (.ref S); Builtin.List.listUpdate (.ref S) (fun _ => #[]); letGo old.toList.reverse; Builtin.List.listExtendWith (.ref S) (.ref it) .none) _ _ s
  refine wpAny_bind ?_
  unfold Builtin.List.listItems
  refine wpAny_bind (wpAny_seqItems hS rfl (wpAny_pure ?_))
  show wpAny _ A.in1 (updateSeq S (fun _ => #[]) >>= fun _ => letGo (#[] : Array Value).toList.reverse >>= fun _ => Builtin.List.listExtendWith (.ref S) (.ref it) .none) _ _ s
  refine wpAny_bind (wpAny_updateSeq hS rfl ?_)
  have hS₂ := Heap.get?_update_self (Obj.mapSeq (fun _ => (#[] : Array Value))) hS rfl
  have oth : ∀ b o, b ≠ S → s.heap.get? b = some o → (s.heap.update S (Obj.mapSeq (fun _ => (#[] : Array Value)))).get? b = some o :=
    fun b o hb e => (Heap.get?_update_other _ _ (Ne.symm hb)).trans e
  refine wpAny_bind (wpAny_letGo ?_)
  refine extend_rev (s := { s with heap := s.heap.update S (Obj.mapSeq (fun _ => (#[] : Array Value))) }) hh (hit.at fun o e => oth _ _ (Ne.symm hSi) e) (hl.at fun o e => oth _ _ (Ne.symm hSl) e) hne hn hSi hSl hS₂ fun s' acc' c' hk he hS' hacc => ?_
  exact hR s' acc' c' (fun b o hb hbS e => hk b o hb hbS (oth b o hbS e)) he hS' hacc
theorem call_list_rev {it l : Addr} {items : Array Value} {Q : Value → Shared → Prop} (hh : A.in1.in1.handled = none) (hit : s.heap.IsRevIter it l ((items.size : Int) - 1)) (hl : s.heap.IsList l items) (hne : l ≠ it) (hn : items.size ≤ sizeLine)
    (hQ : ∀ s' acc' c', (∀ b o, b ≠ it → s.heap.get? b = some o → s'.heap.get? b = some o) → s' = { s with heap := s'.heap, toks := s'.toks } → s'.heap.get? s.heap.objs.size = some { cls := .type "list", dict := none, data := .seq acc' c', slots := #[] } →
      ItemsOf (fun i v => items[items.size - 1 - i]? = some v) acc' items.size → Q (.ref s.heap.objs.size) s') :
    wpAny (model prog w) A (call (.type "list") [.ref it]) Q E s := by
  refine callType_codes (Q₁ := fun obj s₁ => obj = .ref s.heap.objs.size ∧ s₁ = { s with heap := s.heap.push { cls := .type "list", data := .seq #[] } }) F.called_list (F.typeCall_list_1 _) F.entry_list_init
    (code_list_new _ ⟨rfl, rfl⟩) fun obj s₁ h₁ => ?_
  obtain ⟨rfl, rfl⟩ := h₁
  have hS : (s.heap.push { cls := .type "list", data := .seq #[] }).get? s.heap.objs.size = some { cls := .type "list", data := .seq #[] } := Heap.get?_push_size _ rfl
  obtain ⟨oi, hoi, _⟩ := id hit
  obtain ⟨ol, hol, _⟩ := id hl
  have hSi : s.heap.objs.size ≠ it := Nat.ne_of_gt (Heap.lt_size hoi)
  have hSl : s.heap.objs.size ≠ l := Nat.ne_of_gt (Heap.lt_size hol)
  refine ⟨⟨_, hS, rfl⟩, F.args_list_init_2 _ _, list_init_rev (s := { s with heap := s.heap.push { cls := .type "list", data := .seq #[] } }) hh (hit.at fun o e => Heap.get?_push_of_some _ e) (hl.push _) hne hn hSi hSl hS fun s' acc' c' hk he hS' hacc => ?_⟩
  exact ⟨rfl, hQ s' acc' c' (fun b o hb e => hk b o hb (Nat.ne_of_lt (Heap.lt_size e)) (Heap.get?_push_of_some _ e)) he hS' hacc⟩
end
/-! list(zip(x, y)) -/
theorem zip_no_len : typeLookup (.type "zip") "__len__" = pure none := am_miss_of_fast (by decide +kernel)
theorem zip_no_hint : typeLookup (.type "zip") "__length_hint__" = pure none := am_miss_of_fast (by decide +kernel)
/-- pairs that were laid, one above the other -/
inductive Pz (h : Heap) : List Value → List Value → Addr → List Addr → Prop
  | nil {xs ys : List Value} {m : Addr} (e : xs = [] ∨ ys = []) : Pz h xs ys m []
  | cons {x y : Value} {xs ys : List Value} {m q : Addr} {qs : List Addr} (le : m ≤ q) (at' : h.get? q = some { cls := .type "tuple", data := .seq #[x, y] }) (r : Pz h xs ys (q + 1) qs) : Pz h (x :: xs) (y :: ys) m (q :: qs)
theorem Pz.mono {h h' : Heap} {xs ys : List Value} {m : Addr} {qs : List Addr} (p : Pz h xs ys m qs) (k : ∀ b o, m ≤ b → h.get? b = some o → h'.get? b = some o) : Pz h' xs ys m qs := by
  induction p with
  | nil e => exact .nil e
  | cons le at' r ih => exact .cons le (k _ _ le at') (ih fun b o hb e => k b o (Nat.le_trans (Nat.le_succ_of_le le) hb) e)
theorem Pz.low {h : Heap} {xs ys : List Value} {m n : Addr} {qs : List Addr} (p : Pz h xs ys m qs) (hn : n ≤ m) : Pz h xs ys n qs := by
  cases p with
  | nil e => exact .nil e
  | cons le at' r => exact .cons (Nat.le_trans hn le) at' r
section
variable {prog : Program} {w : World} {A : Around} {E : Value → Shared → Prop} {z TI TO i1 i2 l1 l2 S : Addr} {xs ys : Array Value}
/-- a zip of two lists that gave i pairs -/
structure Zst (z TI TO i1 i2 l1 l2 S : Addr) (xs ys : Array Value) (i : Nat) (h : Heap) : Prop where
  ti : IsPair h TI (.ref i1) (.ref i2)
  a1 : h.IsListIter i1 l1 i
  a2 : h.IsListIter i2 l2 i
  b1 : h.IsList l1 xs
  b2 : h.IsList l2 ys
  to : ∃ o, h.get? TO = some o
  st : (IsZip h z TI TO .none ∧ ∃ a b, IsPair h TO a b) ∨ ∃ (T : Addr) (f : Bool) (oT : Obj), PySem.IsZipHeld h z TI TO T f ∧ h.get? T = some oT ∧ T ≠ z ∧ T ≠ i1 ∧ T ≠ i2 ∧ T ≠ S
theorem Zst.at {i : Nat} {h h' : Heap} (s : Zst z TI TO i1 i2 l1 l2 S xs ys i h) (n : S ≠ z ∧ S ≠ TI ∧ S ≠ TO ∧ S ≠ i1 ∧ S ≠ i2 ∧ S ≠ l1 ∧ S ≠ l2) (k : ∀ b o, b ≠ S → h.get? b = some o → h'.get? b = some o) : Zst z TI TO i1 i2 l1 l2 S xs ys i h' := by
  obtain ⟨n1, n2, n3, n4, n5, n6, n7⟩ := n
  refine ⟨k _ _ n2.symm s.ti, s.a1.at fun o e => k _ o n4.symm e, s.a2.at fun o e => k _ o n5.symm e, s.b1.at fun o e => k _ o n6.symm e, s.b2.at fun o e => k _ o n7.symm e, s.to.imp fun o e => k _ o n3.symm e, ?_⟩
  rcases s.st with ⟨e1, a, b, e2⟩ | ⟨T, f, oT, e1, e2, t1, t2, t3, t4⟩
  · exact .inl ⟨k _ _ n1.symm e1, a, b, k _ _ n3.symm e2⟩
  · exact .inr ⟨T, f, oT, k _ _ n1.symm e1, k _ _ t4 e2, t1, t2, t3, t4⟩
theorem extend_zip_loop (D : ZipApart z TI TO i1 i2 l1 l2) (n : S ≠ z ∧ S ≠ TI ∧ S ≠ TO ∧ S ≠ i1 ∧ S ≠ i2 ∧ S ≠ l1 ∧ S ≠ l2) (hh : A.in1.handled = none) (hn : xs.size ≤ sizeLine) (res : Value) {R : Result → Shared → Prop} :
    ∀ (k i : Nat) (s : Shared) (acc : Array Value) (c : Nat), min xs.size ys.size - i = k → i ≤ min xs.size ys.size → Zst z TI TO i1 i2 l1 l2 S xs ys i s.heap → s.heap.get? S = some { cls := .type "list", dict := none, data := .seq acc c, slots := #[] } → acc.size = i →
    (∀ h' acc' c' qs, (∀ b o, b ≠ z → b ≠ TO → b ≠ i1 → b ≠ i2 → b ≠ S → s.heap.get? b = some o → h'.get? b = some o) → h'.get? S = some { cls := .type "list", dict := none, data := .seq acc' c', slots := #[] } → acc'.toList = acc.toList ++ qs.map Value.ref →
      Pz h' (xs.toList.drop i) (ys.toList.drop i) s.heap.objs.size qs → R (.ok (.ret res)) { s with heap := h' }) →
    codeAny (model prog w) A (.builtin "list.extend.loop" ⟨[.ref S, .ref z, res], []⟩) R s := by
  intro k
  have lt : ∀ {h : Heap} {c : Addr} {o : Obj}, h.get? c = some o → c < h.objs.size := fun e => Heap.lt_size e
  induction k with
  | zero =>
    intro i s acc c hk hi hst hS hacc hR
    refine codeAny_builtin PySem.F.entry_extend_loop ?_
    rw [Around.under_plainId PySem.F.plain_extend_loop _]
    show wpAny _ A.in1 (pyNext (.ref z) >>= _) _ _ s
    have hend : xs[i]? = none ∨ ys[i]? = none := by
      rcases Nat.le_total xs.size ys.size with h | h
      · exact .inl (Array.getElem?_eq_none (by omega))
      · exact .inr (Array.getElem?_eq_none (by omega))
    have he : xs.toList.drop i = [] ∨ ys.toList.drop i = [] := by
      rcases Nat.le_total xs.size ys.size with h | h
      · exact .inl (List.drop_eq_nil_of_le (by simp; omega))
      · exact .inr (List.drop_eq_nil_of_le (by simp; omega))
    refine wpAny_bind ?_
    rcases hst.st with ⟨e1, a, b, e2⟩ | ⟨T, f, oT, e1, e2, t1, t2, t3, t4⟩
    · refine wpAny_pyNext_zip_end hh D e1 hst.ti e2 hst.a1 hst.a2 hst.b1 hst.b2 hend fun h' hk => ?_
      exact wpAny_pure (hR h' acc c [] (fun b o b1 b2 b3 b4 b5 e => hk b o b1 b2 b3 b4 e) (hk _ _ n.1 n.2.2.1 n.2.2.2.1 n.2.2.2.2.1 hS) (by simp) (.nil he))
    · refine PySem.wpAny_pyNext_zip_end_held hh D e1 e2 hst.ti hst.a1 hst.a2 hst.b1 hst.b2 hend fun h' hk => ?_
      exact wpAny_pure (hR h' acc c [] (fun b o b1 b2 b3 b4 b5 e => hk b o b1 b3 b4 e) (hk _ _ n.1 n.2.2.2.1 n.2.2.2.2.1 hS) (by simp) (.nil he))
  | succ k ih =>
    intro i s acc c hk hi hst hS hacc hR
    have hx : i < xs.size := by omega
    have hy : i < ys.size := by omega
    refine codeAny_builtin PySem.F.entry_extend_loop ?_
    rw [Around.under_plainId PySem.F.plain_extend_loop _]
    show wpAny _ A.in1 (pyNext (.ref z) >>= _) _ _ s
    have dx : xs.toList.drop i = xs[i] :: xs.toList.drop (i + 1) := by rw [List.drop_eq_getElem_cons (by simpa using hx)]; simp
    have dy : ys.toList.drop i = ys[i] :: ys.toList.drop (i + 1) := by rw [List.drop_eq_getElem_cons (by simpa using hy)]; simp
    have tail : ∀ h' : Heap, Zst z TI TO i1 i2 l1 l2 S xs ys (i + 1) h' → IsPair h' s.heap.objs.size xs[i] ys[i] → s.heap.objs.size + 1 = h'.objs.size →
        (∀ b o, b ≠ z → b ≠ TO → b ≠ i1 → b ≠ i2 → s.heap.get? b = some o → h'.get? b = some o) → h'.get? S = some { cls := .type "list", dict := none, data := .seq acc c, slots := #[] } →
        wpAny (model prog w) A.in1 (updateSeq S (·.push (.ref s.heap.objs.size)) >>= fun _ => again (.builtin "list.extend.loop" ⟨[.ref S, .ref z, res], []⟩))
          (fun fin s' => match fin with | .done f => R (.ok f) s' | .again c' => c'.quiet = true ∧ codeAny (model prog w) A c' R s') (fun e s' => R (.error e) s') { s with heap := h' } := by
      intro h' st pr sz kk hS'
      have hSs : S < s.heap.objs.size := lt hS
      refine wpAny_bind (wpAny_updateSeq hS' rfl (wpAny_pure ⟨plainId_quiet PySem.F.plain_extend_loop _, ?_⟩) (by rw [hacc]; omega) (by show (acc.push _).size ≤ sizeLine + 1; rw [Array.size_push, hacc]; omega))
      have S2 := Heap.get?_update_self (Obj.mapSeq (·.push (Value.ref s.heap.objs.size))) hS' rfl
      have oth : ∀ b o, b ≠ S → h'.get? b = some o → (h'.update S (Obj.mapSeq (·.push (Value.ref s.heap.objs.size)))).get? b = some o := fun b o hb e => (Heap.get?_update_other _ _ (Ne.symm hb)).trans e
      have usz : (h'.update S (Obj.mapSeq (·.push (Value.ref s.heap.objs.size)))).objs.size = h'.objs.size := (Heap.SameBut.update ..).1
      refine ih (i + 1) { s with heap := h'.update S (Obj.mapSeq (·.push (Value.ref s.heap.objs.size))) } (acc.push (.ref s.heap.objs.size)) _ (by omega) (by omega) (st.at n fun b o hb e => oth b o hb e) S2 (by rw [Array.size_push, hacc]) fun h2 acc' c' qs kp e1 e2 pz => ?_
      refine hR h2 acc' c' (s.heap.objs.size :: qs) (fun b o b1 b2 b3 b4 b5 e => kp b o b1 b2 b3 b4 b5 (oth b o b5 (kk b o b1 b2 b3 b4 e))) e1 ?_ ?_
      · rw [e2]; simp
      · rw [dx, dy]
        have lz : z < s.heap.objs.size := by
          rcases hst.st with ⟨e, _⟩ | ⟨_, _, _, e, _⟩
          · exact lt e
          · exact lt e
        have lTO : TO < s.heap.objs.size := by obtain ⟨_, e⟩ := hst.to; exact lt e
        have l1' : i1 < s.heap.objs.size := by obtain ⟨_, e, _⟩ := hst.a1; exact lt e
        have l2' : i2 < s.heap.objs.size := by obtain ⟨_, e, _⟩ := hst.a2; exact lt e
        refine .cons (Nat.le_refl _) (kp _ _ (Nat.ne_of_gt lz) (Nat.ne_of_gt lTO) (Nat.ne_of_gt l1') (Nat.ne_of_gt l2') (Nat.ne_of_gt hSs) (oth _ _ (Nat.ne_of_gt hSs) pr)) (pz.low (Nat.le_of_eq (sz.trans usz.symm)))
    refine wpAny_bind ?_
    rcases hst.st with ⟨e1, a, b, e2⟩ | ⟨T, f, oT, e1, e2, t1, t2, t3, t4⟩
    · refine wpAny_pyNext_zip_item D e1 hst.ti e2 hst.a1 hst.a2 hst.b1 hst.b2 (Array.getElem?_eq_getElem hx) (Array.getElem?_eq_getElem hy) fun h' c1 c2 c3 c4 c5 c6 kk => ?_
      refine tail h' ⟨kk _ _ D.TIz D.TITO D.TIi1 D.TIi2 hst.ti, c3, c4, hst.b1.at fun o e => kk _ o D.l1z D.l1TO D.l1i1 D.l1i2 e, hst.b2.at fun o e => kk _ o D.l2z D.l2TO D.l2i1 D.l2i2 e, ⟨_, c2⟩, .inr ⟨s.heap.objs.size, false, _, c1, c5, ?_, ?_, ?_, ?_⟩⟩ c5 c6.symm kk (kk _ _ n.1 n.2.2.1 n.2.2.2.1 n.2.2.2.2.1 hS)
      · exact Nat.ne_of_gt (lt e1)
      · obtain ⟨_, e, _⟩ := hst.a1; exact Nat.ne_of_gt (lt e)
      · obtain ⟨_, e, _⟩ := hst.a2; exact Nat.ne_of_gt (lt e)
      · exact Nat.ne_of_gt (lt hS)
    · refine PySem.wpAny_pyNext_zip_item_held D e1 e2 hst.ti hst.a1 hst.a2 hst.b1 hst.b2 (Array.getElem?_eq_getElem hx) (Array.getElem?_eq_getElem hy) fun h' c1 c3 c4 c5 c6 kk => ?_
      refine tail h' ⟨kk _ _ D.TIz D.TIi1 D.TIi2 hst.ti, c3, c4, hst.b1.at fun o e => kk _ o D.l1z D.l1i1 D.l1i2 e, hst.b2.at fun o e => kk _ o D.l2z D.l2i1 D.l2i2 e, hst.to.imp fun o e => kk _ o D.TOz D.TOi1 D.TOi2 e, .inr ⟨T, true, oT, c1, kk _ _ t1 t2 t3 e2, t1, t2, t3, t4⟩⟩ c5 c6.symm (fun b o b1 b2 b3 b4 e => kk b o b1 b3 b4 e) (kk _ _ n.1 n.2.2.2.1 n.2.2.2.2.1 hS)
theorem extend_zip {s : Shared} {c0 : Nat} {res : Value} {R : Result → Shared → Prop} (D : ZipApart z TI TO i1 i2 l1 l2) (n : S ≠ z ∧ S ≠ TI ∧ S ≠ TO ∧ S ≠ i1 ∧ S ≠ i2 ∧ S ≠ l1 ∧ S ≠ l2) (hh : A.in1.handled = none) (hn : xs.size ≤ sizeLine)
    (hz : IsZip s.heap z TI TO .none) (hst : Zst z TI TO i1 i2 l1 l2 S xs ys 0 s.heap) (hS : s.heap.get? S = some { cls := .type "list", data := .seq #[] c0 })
    (hR : ∀ h' acc' c' qs, (∀ b o, b ≠ z → b ≠ TO → b ≠ i1 → b ≠ i2 → b ≠ S → s.heap.get? b = some o → h'.get? b = some o) → h'.get? S = some { cls := .type "list", dict := none, data := .seq acc' c', slots := #[] } → acc'.toList = qs.map Value.ref →
      Pz h' xs.toList ys.toList s.heap.objs.size qs → R (.ok (.ret res)) { s with heap := h' }) :
    wpAny (model prog w) A.in1 (Builtin.List.listExtendWith (.ref S) (.ref z) res)
      (fun fin s' => match fin with | .done f => R (.ok f) s' | .again c' => c'.quiet = true ∧ codeAny (model prog w) A c' R s') (fun e s' => R (.error e) s') s := by
  have hT : s.TypeIs (.ref z) "zip" := ⟨_, hz, rfl⟩
  have h1 : Builtin.List.listSameRef (.ref S) (.ref z) = false := by simp [Builtin.List.listSameRef, n.1]
  unfold Builtin.List.listExtendWith
  refine wpAny_bind (wpAny_typeOf hT ?_)
  have h2 : (Value.type "zip" == Value.type "list") = false := by decide
  have h3 : (Value.type "zip" == Value.type "tuple") = false := by decide
  simp only [h1, h2, h3, Bool.or_false, Bool.false_eq_true, if_false]
  refine wpAny_bind (wpAny_pyIter_zip hz ?_)
  refine wpAny_bind (wpAny_holding ?_)
  unfold Builtin.List.listLengthHint
  refine wpAny_bind (wpAny_specialOf hT zip_no_len ?_)
  show wpAny _ A.in1 (specialOf (Value.ref z) (Str.ofString "__length_hint__") >>= _) _ _ _
  refine wpAny_bind (wpAny_specialOf hT zip_no_hint ?_)
  refine wpAny_pure ?_
  show wpAny _ A.in1 (rule "list.extend.makes-room" >>= fun _ => Builtin.List.listTouch (.ref S) >>= fun _ =>
    again (.builtin "list.extend.loop" ⟨[.ref S, .ref z, res], []⟩)) _ _ _
  refine wpAny_bind (wpAny_rule ?_)
  refine wpAny_bind ?_
  show wpAny _ A.in1 (updateSeq S (·.push .none) >>= fun _ => updateSeq S (·.pop)) _ _ _
  refine wpAny_bind (wpAny_updateSeq hS rfl ?_)
  have hS2 := Heap.get?_update_self (Obj.mapSeq (·.push Value.none)) hS rfl
  refine wpAny_updateSeq hS2 rfl ?_
  have hS3 := Heap.get?_update_self (Obj.mapSeq (·.pop)) hS2 rfl
  have oth : ∀ b o, b ≠ S → s.heap.get? b = some o → ((s.heap.update S (Obj.mapSeq (·.push Value.none))).update S (Obj.mapSeq (·.pop))).get? b = some o :=
    fun b o hb e => (Heap.get?_update_other _ _ (Ne.symm hb)).trans ((Heap.get?_update_other _ _ (Ne.symm hb)).trans e)
  have usz : ((s.heap.update S (Obj.mapSeq (·.push Value.none))).update S (Obj.mapSeq (·.pop))).objs.size = s.heap.objs.size := ((Heap.SameBut.update ..).1).trans (Heap.SameBut.update ..).1
  refine wpAny_pure ⟨plainId_quiet PySem.F.plain_extend_loop _, extend_zip_loop (xs := xs) (ys := ys) D n hh hn res (min xs.size ys.size) 0 { s with heap := (s.heap.update S (Obj.mapSeq (·.push Value.none))).update S (Obj.mapSeq (·.pop)) } _ _ rfl (Nat.zero_le _) (hst.at n oth) hS3 rfl fun h' acc' c' qs kk e1 e2 pz => ?_⟩
  refine hR h' acc' c' qs (fun b o b1 b2 b3 b4 b5 e => kk b o b1 b2 b3 b4 b5 (oth b o b5 e)) e1 (by rw [e2]; simp [Obj.mapSeq]) ?_
  rw [← usz]
  simpa using pz
theorem list_init_zip {s : Shared} {R : Result → Shared → Prop} (D : ZipApart z TI TO i1 i2 l1 l2) (n : S ≠ z ∧ S ≠ TI ∧ S ≠ TO ∧ S ≠ i1 ∧ S ≠ i2 ∧ S ≠ l1 ∧ S ≠ l2) (hh : A.in1.handled = none) (hn : xs.size ≤ sizeLine)
    (hz : IsZip s.heap z TI TO .none) (hst : Zst z TI TO i1 i2 l1 l2 S xs ys 0 s.heap) (hS : s.heap.get? S = some { cls := .type "list", data := .seq #[] })
    (hR : ∀ h' acc' c' qs, (∀ b o, b ≠ z → b ≠ TO → b ≠ i1 → b ≠ i2 → b ≠ S → s.heap.get? b = some o → h'.get? b = some o) → h'.get? S = some { cls := .type "list", dict := none, data := .seq acc' c', slots := #[] } → acc'.toList = qs.map Value.ref →
      Pz h' xs.toList ys.toList s.heap.objs.size qs → R (.ok (.ret .none)) { s with heap := h' }) :
    wpAny (model prog w) A.in1 (Builtin.«list.__init__» ⟨[.ref S, .ref z], []⟩)
      (fun fin s' => match fin with | .done f => R (.ok f) s' | .again c' => c'.quiet = true ∧ codeAny (model prog w) A c' R s') (fun e s' => R (.error e) s') s := by
  show wpAny _ A.in1 (do let old ← Builtin.List.listItems (.ref S); Builtin.List.listUpdate (.ref S) (fun _ => #[]); letGo old.toList.reverse; Builtin.List.listExtendWith (.ref S) (.ref z) .none) _ _ s
  refine wpAny_bind ?_
  unfold Builtin.List.listItems
  refine wpAny_bind (wpAny_seqItems hS rfl (wpAny_pure ?_))
  show wpAny _ A.in1 (updateSeq S (fun _ => #[]) >>= fun _ => letGo (#[] : Array Value).toList.reverse >>= fun _ => Builtin.List.listExtendWith (.ref S) (.ref z) .none) _ _ s
  refine wpAny_bind (wpAny_updateSeq hS rfl ?_)
  have hS2 := Heap.get?_update_self (Obj.mapSeq (fun _ => (#[] : Array Value))) hS rfl
  have oth : ∀ b o, b ≠ S → s.heap.get? b = some o → (s.heap.update S (Obj.mapSeq (fun _ => (#[] : Array Value)))).get? b = some o :=
    fun b o hb e => (Heap.get?_update_other _ _ (Ne.symm hb)).trans e
  have usz : (s.heap.update S (Obj.mapSeq (fun _ => (#[] : Array Value)))).objs.size = s.heap.objs.size := (Heap.SameBut.update ..).1
  refine wpAny_bind (wpAny_letGo ?_)
  refine extend_zip (xs := xs) (ys := ys) (s := { s with heap := s.heap.update S (Obj.mapSeq (fun _ => (#[] : Array Value))) }) D n hh hn (oth _ _ n.1.symm hz) (hst.at n oth) hS2 fun h' acc' c' qs kk e1 e2 pz => ?_
  exact hR h' acc' c' qs (fun b o b1 b2 b3 b4 b5 e => kk b o b1 b2 b3 b4 b5 (oth b o b5 e)) e1 e2 (by rw [← usz]; exact pz)
theorem call_list_zip {s : Shared} {Q : Value → Shared → Prop} (D : ZipApart z TI TO i1 i2 l1 l2) (hh : A.in1.in1.handled = none) (hn : xs.size ≤ sizeLine)
    (hz : IsZip s.heap z TI TO .none) (hst : Zst z TI TO i1 i2 l1 l2 s.heap.objs.size xs ys 0 s.heap)
    (hQ : ∀ h' acc' c' qs, (∀ b o, b ≠ z → b ≠ TO → b ≠ i1 → b ≠ i2 → s.heap.get? b = some o → h'.get? b = some o) → h'.get? s.heap.objs.size = some { cls := .type "list", dict := none, data := .seq acc' c', slots := #[] } → acc'.toList = qs.map Value.ref →
      Pz h' xs.toList ys.toList (s.heap.objs.size + 1) qs → Q (.ref s.heap.objs.size) { s with heap := h' }) :
    wpAny (model prog w) A (call (.type "list") [.ref z]) Q E s := by
  refine callType_codes (Q₁ := fun obj s₁ => obj = .ref s.heap.objs.size ∧ s₁ = { s with heap := s.heap.push { cls := .type "list", data := .seq #[] } }) PySem.F.called_list (PySem.F.typeCall_list_1 _) PySem.F.entry_list_init
    (code_list_new _ ⟨rfl, rfl⟩) fun obj s₁ h₁ => ?_
  obtain ⟨rfl, rfl⟩ := h₁
  have hS : (s.heap.push { cls := .type "list", data := .seq #[] }).get? s.heap.objs.size = some { cls := .type "list", data := .seq #[] } := Heap.get?_push_size _ rfl
  have lt : ∀ {c : Addr} {o : Obj}, s.heap.get? c = some o → s.heap.objs.size ≠ c := fun e => Nat.ne_of_gt (Heap.lt_size e)
  have n : s.heap.objs.size ≠ z ∧ s.heap.objs.size ≠ TI ∧ s.heap.objs.size ≠ TO ∧ s.heap.objs.size ≠ i1 ∧ s.heap.objs.size ≠ i2 ∧ s.heap.objs.size ≠ l1 ∧ s.heap.objs.size ≠ l2 := by
    refine ⟨lt hz, lt hst.ti, ?_, ?_, ?_, ?_, ?_⟩
    · obtain ⟨_, e⟩ := hst.to; exact lt e
    · obtain ⟨_, e, _⟩ := hst.a1; exact lt e
    · obtain ⟨_, e, _⟩ := hst.a2; exact lt e
    · obtain ⟨_, e, _⟩ := hst.b1; exact lt e
    · obtain ⟨_, e, _⟩ := hst.b2; exact lt e
  refine ⟨⟨_, hS, rfl⟩, PySem.F.args_list_init_2 _ _, list_init_zip (xs := xs) (ys := ys) (s := { s with heap := s.heap.push { cls := .type "list", data := .seq #[] } }) D n hh hn (Heap.get?_push_of_some _ hz) (hst.at n fun b o _ e => Heap.get?_push_of_some _ e) hS fun h' acc' c' qs kk e1 e2 pz => ?_⟩
  refine ⟨rfl, hQ h' acc' c' qs (fun b o b1 b2 b3 b4 e => kk b o b1 b2 b3 b4 (Nat.ne_of_lt (Heap.lt_size e)) (Heap.get?_push_of_some _ e)) e1 e2 ?_⟩
  have : (s.heap.push { cls := .type "list", data := .seq #[] }).objs.size = s.heap.objs.size + 1 := by simp [Heap.push]
  rw [← this]
  exact pz
end
theorem ObjOk.ex {P : Program} {w : World} {H : Hp} {h : Heap} {a : Addr} {o : HO} (x : ObjOk P w H h a o) : ∃ u, h.get? a = some u := by
  cases o with
  | lst xs => obtain ⟨_, _, _, _, e⟩ := x; exact ⟨_, e⟩
  | tup xs => obtain ⟨_, _, _, o, e, _⟩ := x; exact ⟨_, e⟩
  | dK kvs => obtain ⟨_, _, _, _, o, _, _, e, _⟩ := x; exact ⟨_, e⟩
  | dT kvs => obtain ⟨_, _, _, _, o, _, _, e, _⟩ := x; exact ⟨_, e⟩
  | set S n => obtain ⟨o, _, _, _, e, _⟩ := x; exact ⟨_, e⟩
  | ins C dx fs => obtain ⟨_, _, _, e, _⟩ := x; exact ⟨_, e⟩
  | own y => obtain ⟨_, e⟩ := x; exact ⟨_, e⟩
  | xd fs => obtain ⟨_, ⟨_, _, _, e, _⟩, _⟩ := x; exact ⟨_, e⟩
  | rng lo hi => obtain ⟨_, _, _, e⟩ := x; exact ⟨_, e⟩
  | frz ob u => obtain ⟨e, _⟩ := x; exact ⟨_, e⟩
  | tbl ps => exact ⟨_, (show h.get? a = some _ from x)⟩
  | met f y => exact ⟨_, (show h.get? a = some _ from x)⟩
  | ext φ => obtain ⟨_, ⟨_, e⟩, _⟩ := x; exact ⟨_, e⟩
theorem HOk.none_of {P : Program} {w : World} {H : Hp} {h : Heap} {a : Addr} (x : HOk P w H h) (e : h.get? a = none) : H a = none := by
  cases q : H a with
  | none => rfl
  | some u =>
    obtain ⟨o, z⟩ := ObjOk.ex (x a u q)
    rw [e] at z; cases z
/-- pairs laid and tracked -/
inductive Zl : Hp → List V → List V → List Addr → Hp → Prop
  | nil {H : Hp} {xs ys : List V} (e : xs = [] ∨ ys = []) : Zl H xs ys [] H
  | cons {H H2 : Hp} {x y : V} {xs ys : List V} {q : Addr} {qs : List Addr} (n : H q = none) (r : Zl (upd H q (.tup [x, y])) xs ys qs H2) : Zl H (x :: xs) (y :: ys) (q :: qs) H2
theorem Zl.len {H H2 : Hp} {xs ys : List V} {qs : List Addr} (z : Zl H xs ys qs H2) : qs.length ≤ xs.length := by
  induction z with
  | nil e => simp
  | cons n r ih => simp; omega
section
variable {X : Cx} {pins : List (Addr × Obj)} {σ : L2.St}
theorem lay_many {s : Shared} {h' : Heap} {its its2 : List Value} {m : Addr} {qs : List Addr} (p : Pz h' its its2 m qs) : ∀ (xs ys : List V) (H : Hp) (G : Heap), Vals xs its → Vals ys its2 → Inv X pins σ H { s with heap := G } → (∀ b o, G.get? b = some o → h'.get? b = some o) →
    (∀ b, m ≤ b → G.get? b = none) → ∃ H2 G2, Zl H xs ys qs H2 ∧ Inv X pins σ H2 { s with heap := G2 } ∧ (∀ b o, G2.get? b = some o → h'.get? b = some o) ∧ ∀ b, b < m → G2.get? b = G.get? b := by
  induction p with
  | nil e =>
    intro xs ys H G v1 v2 I k f
    refine ⟨H, G, .nil ?_, I, k, fun b _ => rfl⟩
    rcases e with rfl | rfl
    · cases v1; exact .inl rfl
    · cases v2; exact .inr rfl
  | @cons x y ix iy m q qs le at' r ih =>
    intro xs ys H G v1 v2 I k f
    cases v1 with
    | @cons vx _ xs' _ rx v1 =>
      cases v2 with
      | @cons vy _ ys' _ ry v2 =>
        obtain ⟨G1, g1, g2⟩ := restrict h' fun b => decide (b = q) || (G.get? b).isSome
        have k1 : ∀ b o, G.get? b = some o → G1.get? b = some o := fun b o e => by
          rw [g1 b (by rw [e]; simp)]
          exact k b o e
        have kq : G1.get? q = h'.get? q := g1 q (by simp)
        have gq := f q le
        have I1 := I.laidN (t' := s.toks) (h' := G1) (a := q) (o := .tup [vx, vy]) k1 gq (HOk.none_of I.hok gq) ⟨by show 2 ≤ sizeLine; decide, [x, y], .cons rx (.cons ry .nil), _, kq.trans at', rfl, _, rfl⟩
        obtain ⟨H2, G2, z, I2, k2, f2⟩ := ih xs' ys' _ G1 v1 v2 I1 (fun b o e => by
          by_cases c : (decide (b = q) || (G.get? b).isSome) = true
          · rw [g1 b c] at e; exact e
          · rw [g2 b (Bool.not_eq_true _ ▸ c)] at e; cases e) (fun b hb => g2 b (by
            have h1 : b ≠ q := Nat.ne_of_gt hb
            rw [f b (Nat.le_trans le (Nat.le_of_succ_le hb))]
            simp [h1]))
        refine ⟨H2, G2, .cons (HOk.none_of I.hok gq) z, I2, k2, fun b hb => (f2 b (Nat.lt_of_lt_of_le hb (Nat.le_succ_of_le le))).trans ?_⟩
        by_cases c : (G.get? b).isSome = true
        · obtain ⟨o, e⟩ := Option.isSome_iff_exists.mp c
          rw [k1 b o e, e]
        · have e : G.get? b = none := by simpa using c
          have h1 : b ≠ q := Nat.ne_of_lt (Nat.lt_of_lt_of_le hb le)
          rw [g2 b (by rw [e]; simp [h1]), e]
def tLstZip (K : PySem.W.Frag) (ta : TA) : TE := fun σ H Q => ta σ H fun vs H1 => ∃ a b xs ys, vs = [.ref a, .ref b] ∧ SqL K H1 a xs ∧ SqL K H1 b ys ∧ ∀ qs H2 q, Zl H1 xs ys qs H2 → H2 q = none → Q (.ref q) (upd H2 q (.lst (qs.map V.ref)))
theorem vals_refs : ∀ qs : List Addr, Vals (qs.map V.ref) (qs.map Value.ref)
  | [] => .nil
  | q :: r => .cons rfl (vals_refs r)
theorem pe_lstZip {e e2 : Expr} {ta : TA} {p p2 pos pos2 : Pos} (hc : X.calm = true) (hg : Gl X "list") (hm : X.mg "list" = none) (hg2 : Gl X "zip") (hm2 : X.mg "zip" = none) (ha : PA X [e, e2] ta)
    (hs : starEach [e, e2] X.env = (false, eval e X.env) :: starEach [e2] X.env := by rfl) (hpl : (backTo pos2 (starEach [e2] X.env)).any (·.1) = false := by rfl)
    (hs2 : starEach [.Call (.Name "zip" p2) [e, e2] [] pos2] X.env = (false, eval (.Call (.Name "zip" p2) [e, e2] [] pos2) X.env) :: starEach [] X.env := by rfl) :
    PE X (.Call (.Name "list" p) [.Call (.Name "zip" p2) [e, e2] [] pos2] [] pos) (tLstZip X.K ta) := by
  refine ⟨fun pins s σ H Q I h => ?_⟩
  refine Call_ (ld_blt I hg hm boot_list (PyProof.Rows.callWith_type1 (args_cons (Call_ (ld_blt I hg2 hm2 PyProof.Rows.boot_zip (PyProof.Rows.callWith_type1 (thn (ha.run pos2 pins s σ H _ I h) fun us s1 ⟨vs, H1, I1, r1, q1⟩ => ?_) hs hpl))) hs2) hs2 rfl))
  obtain ⟨a, b, xs, ys, ex, hqx, hqy, q⟩ := q1
  subst ex
  cases r1 with
  | cons r rr =>
    cases rr with
    | cons r' rr =>
      cases rr
      cases r
      cases r'
      obtain ⟨its, rv, p1, z1⟩ := I1.list hqx
      obtain ⟨its2, rv2, p2, _⟩ := I1.list hqy
      have la : a < s1.heap.objs.size := p1.lt
      have lb : b < s1.heap.objs.size := p2.lt
      refine call_zip_2 p1.isList p2.isList fun h' hz hTI hTO h1 h2 hsz hk => args_nil ?_
      have D := PySem.W.ktu_apart s1.heap.objs.size a b la lb
      refine call_list_zip (s := { s1 with heap := h' }) D (I1.ok.hd hc) (by rw [List.size_toArray, ← rv.length]; exact z1) hz ⟨hTI, h1, h2, p1.isList.at fun o e => hk _ o e, p2.isList.at fun o e => hk _ o e, ⟨_, hTO⟩, .inl ⟨hz, _, _, hTO⟩⟩ fun h'' acc' c' qs kk eS ea pz => ?_
      have far : ∀ (k : Nat) (b : Addr) (o : Obj), s1.heap.get? b = some o → b ≠ s1.heap.objs.size + k := fun k b o e => Nat.ne_of_lt (Nat.lt_of_lt_of_le (Heap.lt_size e) (Nat.le_add_right _ _))
      have k0 : ∀ b o, s1.heap.get? b = some o → h''.get? b = some o := fun b o e => kk b o (far 4 b o e) (far 3 b o e) (far 0 b o e) (far 1 b o e) (hk b o e)
      have non : ∀ b, h'.objs.size ≤ b → s1.heap.get? b = none := fun b hb => by
        cases e : s1.heap.get? b with
        | none => rfl
        | some o =>
          have := Heap.lt_size e
          rw [hsz] at hb
          exact absurd (Nat.lt_of_lt_of_le this (Nat.le_trans (Nat.le_add_right _ 5) hb)) (Nat.lt_irrefl _)
      obtain ⟨H2, G2, zl, I2, k2, f2⟩ := lay_many (s := s1) pz xs ys H1 s1.heap rv rv2 I1 k0 fun b hb => non b (Nat.le_of_succ_le hb)
      have gS : G2.get? h'.objs.size = none := (f2 _ (Nat.lt_succ_self _)).trans (non _ (Nat.le_refl _))
      have nS := HOk.none_of I2.hok gS
      have ea' : acc' = (qs.map Value.ref).toArray := by rw [← ea]
      have len : qs.length ≤ sizeLine := Nat.le_trans zl.len z1
      have I3 := I2.laidN (t' := s1.toks) (h' := h'') (a := h'.objs.size) (o := .lst (qs.map V.ref)) k2 gS nS ⟨by rw [List.length_map]; exact len, qs.map Value.ref, c', vals_refs qs, by rw [eS, ea']⟩
      exact ⟨.ref h'.objs.size, _, I3, rfl, q qs H2 _ zl nS⟩
end
section
variable {tb : Tb} {L : Lk} {P : Pg} {k : Nat} {X : Cx} {blk : Bool} {N : List Str} {sc : Scope} {W : WX}
/-- list(reversed(x)), x a list: a new list -/
def tLstRev (K : PySem.W.Frag) (te : TE) : TE := fun σ H Q => te σ H fun v H1 => ∃ (a : Addr) (xs : List V), v = .ref a ∧ SqL K H1 a xs ∧ ∀ q, H1 q = none → Q (.ref q) (upd H1 q (.lst xs.reverse))
theorem pe_lstRev {e : Expr} {te : TE} {p p2 pos pos2 : Pos} (hc : X.calm = true) (hg : Gl X "list") (hm : X.mg "list" = none) (hg2 : Gl X "reversed") (hm2 : X.mg "reversed" = none) (he : PE X e te)
    (hs : starEach [e] X.env = (false, eval e X.env) :: starEach [] X.env := by rfl)
    (hs2 : starEach [.Call (.Name "reversed" p2) [e] [] pos2] X.env = (false, eval (.Call (.Name "reversed" p2) [e] [] pos2) X.env) :: starEach [] X.env := by rfl) :
    PE X (.Call (.Name "list" p) [.Call (.Name "reversed" p2) [e] [] pos2] [] pos) (tLstRev X.K te) := by
  refine ⟨fun pins s σ H Q I h => ?_⟩
  refine Call_ (ld_blt I hg hm boot_list (PyProof.Rows.callWith_type1 (args_cons (Call_ (ld_blt I hg2 hm2 PyProof.Rows.boot_reversed (PyProof.Rows.callWith_type1 (args_cons (thn (he.run pins s σ H _ I h) fun u s1 ⟨v, H1, I1, r1, q1⟩ => args_nil ?_) hs) hs rfl))) hs2) hs2 rfl))
  obtain ⟨a, xs, ev, hq, q⟩ := q1
  subst ev
  obtain rfl : u = Value.ref a := r1
  obtain ⟨its, rv, p', hz⟩ := I1.list hq
  refine call_reversed_list p'.isList (args_nil ?_)
  have k0 : ∀ b o, s1.heap.get? b = some o → (s1.heap.push (revObj a ((its.toArray.size : Int) - 1))).get? b = some o := fun b o e => Heap.get?_push_of_some _ e
  have hl := p'.isList
  obtain ⟨ol, hol, _⟩ := id hl
  have hne : a ≠ s1.heap.objs.size := Nat.ne_of_lt (Heap.lt_size hol)
  have hn : its.toArray.size ≤ sizeLine := by rw [List.size_toArray, ← rv.length]; exact hz
  have sz : (s1.heap.push (revObj a ((its.toArray.size : Int) - 1))).objs.size = s1.heap.objs.size + 1 := by simp [Heap.push]
  refine call_list_rev (s := { s1 with heap := s1.heap.push (revObj a ((its.toArray.size : Int) - 1)) }) (I1.ok.hd hc) ⟨_, Heap.get?_push_size _ rfl, rfl, rfl⟩ (hl.push _) hne hn fun s' acc c' hk es hS hi => ?_
  rw [es]
  have hlen : acc.toList.length = xs.length := by rw [Array.length_toList, hi.1, List.size_toArray, rv.length]
  refine ⟨.ref _, upd H1 _ (.lst xs.reverse), I1.laid (t' := s'.toks) (fun b u e => hk b u (Nat.ne_of_lt (Heap.lt_size e)) (k0 b u e)) (by rw [sz]; omega) (show ObjOk X.prog X.w _ _ _ (.lst xs.reverse) from ⟨by rw [List.length_reverse]; exact hz, acc.toList, c', RT.vals_rev rv hi, by rw [Array.toArray_toList]; exact hS⟩), rfl, q _ (I1.hok.fresh (by rw [sz]; omega))⟩
theorem pe_lofRev (S : Sx tb L P k X blk N sc W) {a : Expr} {x : E} {p pos p2 pos2 : Pos} (hg : Mn.gl sc (Str.ofString "list") = true) (hg2 : Mn.gl sc (Str.ofString "reversed") = true) (ok : okE a = true) (ha : PE X a (tM L P W x)) :
    PE X (.Call (.Name (Str.ofString "list") p) [.Call (.Name (Str.ofString "reversed") p2) [a] [] pos2] [] pos) (tM L P W (.lof .rev [x])) := by
  refine PE.weak (pe_lstRev S.calm (S.gl hg) (S.pr.blt "list" (by decide)) (S.gl hg2) (S.pr.blt "reversed" (by decide)) ha (okE_star ok _ _)) fun σ H Q ⟨φ, h, ρ, R, En, p⟩ => ?_
  simp only [evE, evEs] at p
  refine ⟨φ, h, ρ, R, En, ?_⟩
  cases e : evE P x ρ h with
  | bad => rw [e] at p; exact False.elim p
  | err c fs h1 => rw [e] at p; exact p
  | ok v h1 =>
    rw [e] at p
    intro y H1 φ1 E1 R1 r1
    have p := Post.step E1 p
    obtain ⟨i, rfl⟩ : ∃ i, v = Val.ref i := by cases v <;> first | exact ⟨_, rfl⟩ | exact False.elim p
    have p : Post L φ1 H1 (vR L) (Res.bind (match (match h1[i]? with
      | some (.lst w xs) => some (xs.reverse, [(i, .lst w xs)])
      | _ => none : Option (List Val × Src)) with
      | some p => .ok p h1
      | none => .bad) fun p h1 => alloc (.lst true p.1) h1) Q _ := p
    split at p
    · rename_i pr e2
      split at e2
      · rename_i w xs hi
        cases e2
        obtain ⟨d, rfl, _, o⟩ := R1.at hi r1
        obtain ⟨zs, q, r, _⟩ := o.lstI
        exact ⟨d, zs, rfl, S.hK ▸ q, fun c hc => Post.lst R1 (VRs.reverse r) p hc⟩
      · cases e2
    · exact False.elim p
theorem zl_rel {H H2 : Hp} {xs ys : List V} {qs : List Addr} (z : Zl H xs ys qs H2) : ∀ {φ : Ph} {h : MH} {as bs : List Val}, Rel L φ h H → VRs L φ H as xs → VRs L φ H bs ys → Ext L φ H φ H2 ∧ Rel L φ h H2 ∧ VRs L φ H2 ((as.zip bs).map fun p => .tup [p.1, p.2]) (qs.map V.ref) := by
  induction z with
  | nil e =>
    intro φ h as bs R r1 r2
    rcases e with rfl | rfl
    · cases r1; exact ⟨Ext.refl, R, .nil⟩
    · cases r2; rw [List.zip_nil_right]; exact ⟨Ext.refl, R, .nil⟩
  | @cons H H2 x y xs ys q qs n r ih =>
    intro φ h as bs R r1 r2
    cases r1 with
    | cons ra r1 =>
      cases r2 with
      | cons rb r2 =>
        have E1 : Ext L φ H φ (upd H q (.tup [x, y])) := Ext.side n
        obtain ⟨E2, R2, rr⟩ := ih (R.side n) (r1.mono E1) (r2.mono E1)
        refine ⟨E1.trans E2, R2, ?_⟩
        rw [List.zip_cons_cons, List.map_cons, List.map_cons]
        exact .cons (.tup (E2.tups q _ (.inl upd_same)) (.cons ((ra.mono E1).mono E2) (.cons ((rb.mono E1).mono E2) .nil))) rr
theorem items_zip {vs : List Val} {h : MH} {pr : List Val × Src} (e : itemsOf .zip vs h = some pr) (c : ¬ pr.2.isEmpty = true) : ∃ i j w z as bs, vs = [.ref i, .ref j] ∧ h[i]? = some (.lst w as) ∧ h[j]? = some (.lst z bs) ∧ pr = ((as.zip bs).map (fun p => .tup [p.1, p.2]), [(i, .lst w as), (j, .lst z bs)]) := by
  match vs with
  | [.ref i, .ref j] =>
    simp only [itemsOf] at e
    split at e
    · rename_i w xs z ys h1 h2
      cases e
      exact ⟨i, j, _, _, _, _, rfl, h1, h2, rfl⟩
    · cases e
  | [.tup xs, .tup ys] => simp only [itemsOf] at e; cases e; simp at c
  | [] => cases e
  | [x] => cases x <;> cases e
  | x :: y :: z :: r => cases x <;> cases y <;> cases e
  | [.non, y] => cases y <;> cases e
  | [.bl _, y] => cases y <;> cases e
  | [.int _, y] => cases y <;> cases e
  | [.str _, y] => cases y <;> cases e
  | [.exc _ _, y] => cases y <;> cases e
  | [.ref _, .non] => cases e
  | [.ref _, .bl _] => cases e
  | [.ref _, .int _] => cases e
  | [.ref _, .str _] => cases e
  | [.ref _, .tup _] => cases e
  | [.ref _, .exc _ _] => cases e
  | [.tup _, .non] => cases e
  | [.tup _, .bl _] => cases e
  | [.tup _, .int _] => cases e
  | [.tup _, .str _] => cases e
  | [.tup _, .ref _] => cases e
  | [.tup _, .exc _ _] => cases e
theorem pe_lofZip (S : Sx tb L P k X blk N sc W) {a b : Expr} {x y : E} {p pos p2 pos2 : Pos} (hg : Mn.gl sc (Str.ofString "list") = true) (hg2 : Mn.gl sc (Str.ofString "zip") = true) (ok : okE a = true) (ok2 : okE b = true) (ha : PA X [a, b] (tMs L P W [x, y])) :
    PE X (.Call (.Name (Str.ofString "list") p) [.Call (.Name (Str.ofString "zip") p2) [a, b] [] pos2] [] pos) (tM L P W (.lof .zip [x, y])) := by
  refine PE.weak (pe_lstZip S.calm (S.gl hg) (S.pr.blt "list" (by decide)) (S.gl hg2) (S.pr.blt "zip" (by decide)) ha (by rw [okE_star ok]) (okEs_any (es := [b]) (by simp [ok2]) _ _)) fun σ H Q ⟨φ, h, ρ, R, En, p⟩ => ?_
  rw [show evE P (.lof .zip [x, y]) ρ h = ((evEs P [x, y] ρ h).bind (resI .zip)).bind fun p h1 => if p.2.isEmpty = true then .bad else alloc (.lst true p.1) h1 from by simp only [evE]] at p
  refine ⟨φ, h, ρ, R, En, ?_⟩
  cases e : evEs P [x, y] ρ h with
  | bad => rw [e] at p; exact False.elim p
  | err c fs h1 => rw [e] at p; exact p
  | ok vs h1 =>
    rw [e] at p
    intro us H1 φ1 E1 R1 r1
    have p := Post.step E1 p
    have p : Post L φ1 H1 (vR L) (Res.bind (match itemsOf .zip vs h1 with
      | some p => .ok p h1
      | none => .bad) fun p h1 => if p.2.isEmpty = true then .bad else alloc (.lst true p.1) h1) Q _ := p
    cases ei : itemsOf .zip vs h1 with
    | none => rw [ei] at p; exact False.elim p
    | some pr =>
      rw [ei] at p
      have p : Post L φ1 H1 (vR L) (if pr.2.isEmpty = true then .bad else alloc (.lst true pr.1) h1) Q _ := p
      by_cases c : pr.2.isEmpty = true
      · rw [if_pos c] at p; exact False.elim p
      · rw [if_neg c] at p
        obtain ⟨i, j, w1, w2, as, bs, rfl, h1i, h1j, rfl⟩ := items_zip ei c
        cases r1 with
        | cons ra r1 =>
          cases r1 with
          | cons rb r1 =>
            cases r1
            obtain ⟨d1, rfl, _, o1⟩ := R1.at h1i ra
            obtain ⟨d2, rfl, _, o2⟩ := R1.at h1j rb
            obtain ⟨xs, q1, s1, _⟩ := o1.lstI
            obtain ⟨ys, q2, s2, _⟩ := o2.lstI
            refine ⟨d1, d2, xs, ys, rfl, S.hK ▸ q1, S.hK ▸ q2, fun qs H2 q zl nq => ?_⟩
            obtain ⟨E2, R2, rr⟩ := zl_rel zl R1 s1 s2
            exact Post.lst R2 rr (Post.step E2 p) nq
theorem lofOf_ok {sc : Scope} {args as : List Expr} {kk : ItK} (h : lofOf sc args = some (kk, as)) : (∃ a p pos, as = [a] ∧ args = [.Call (.Name (Str.ofString "reversed") p) [a] [] pos] ∧ Mn.gl sc (Str.ofString "reversed") = true ∧ kk = .rev) ∨
    (∃ a p pos, as = [a] ∧ args = [.Call (.Name (Str.ofString "range") p) [a] [] pos] ∧ Mn.gl sc (Str.ofString "range") = true ∧ kk = .rng) ∨ (∃ a b p pos, as = [a, b] ∧ args = [.Call (.Name (Str.ofString "range") p) [a, b] [] pos] ∧ Mn.gl sc (Str.ofString "range") = true ∧ kk = .rng) ∨ ∃ a b p pos, as = [a, b] ∧ args = [.Call (.Name (Str.ofString "zip") p) [a, b] [] pos] ∧ Mn.gl sc (Str.ofString "zip") = true ∧ kk = .zip := by
  unfold lofOf at h
  split at h
  · rename_i g p args' pos
    by_cases c : gl sc g = true
    · rw [if_pos c] at h
      split at h
      · rename_i a
        by_cases c1 : g = Str.ofString "reversed"
        · rw [if_pos c1] at h; cases h
          subst c1
          exact .inl ⟨a, p, pos, rfl, rfl, c, rfl⟩
        · rw [if_neg c1] at h
          by_cases c2 : g = Str.ofString "range"
          · rw [if_pos c2] at h; cases h
            subst c2
            exact .inr (.inl ⟨a, p, pos, rfl, rfl, c, rfl⟩)
          · rw [if_neg c2] at h; cases h
      · rename_i a b
        by_cases c2 : g = Str.ofString "range"
        · rw [if_pos c2] at h; cases h
          subst c2
          exact .inr (.inr (.inl ⟨a, b, p, pos, rfl, rfl, c, rfl⟩))
        · rw [if_neg c2] at h
          by_cases c3 : g = Str.ofString "zip"
          · rw [if_pos c3] at h; cases h
            subst c3
            exact .inr (.inr (.inr ⟨a, b, p, pos, rfl, rfl, c, rfl⟩))
          · rw [if_neg c3] at h; cases h
      · cases h
    · rw [if_neg c] at h; cases h
  · cases h
/-! f-strings of texts and names -/
theorem js_fmt {L : Lk} {φ : Ph} {h : MH} {H : Hp} {Q : VK} {E : XK} {v : Val} {vs : List Val} {acc : Str} (p : Post L φ H (vR L) (retO ((fstrO (v :: vs) acc).map .str) h) Q E) :
    ∃ y, fmtV v = some y ∧ (acc ++ y).length ≤ sizeLine ∧ Post L φ H (vR L) (retO ((fstrO vs (acc ++ y)).map .str) h) Q E := by
  rw [show fstrO (v :: vs) acc = match fmtV v with
    | some y => if (acc ++ y).length ≤ sizeLine then fstrO vs (acc ++ y) else none
    | none => none from rfl] at p
  cases e : fmtV v with
  | none => rw [e] at p; exact False.elim p
  | some y =>
    rw [e] at p
    have p : Post L φ H (vR L) (retO ((if (acc ++ y).length ≤ sizeLine then fstrO vs (acc ++ y) else none).map .str) h) Q E := p
    by_cases c : (acc ++ y).length ≤ sizeLine
    · rw [if_pos c] at p; exact ⟨y, rfl, c, p⟩
    · rw [if_neg c] at p; exact False.elim p
theorem fmt_str {z y : Str} (h : fmtV (.str z) = some y) : z.length ≤ sizeLine ∧ y = z := by
  rw [show fmtV (.str z) = if z.length ≤ sizeLine then some z else none from rfl] at h
  by_cases c : z.length ≤ sizeLine
  · rw [if_pos c] at h; exact ⟨c, (Option.some.inj h).symm⟩
  · rw [if_neg c] at h; cases h
theorem fmt_int {z : Int} {y : Str} (h : fmtV (.int z) = some y) : z.natAbs.log2 < 1920 ∧ y = toString z := by
  rw [show fmtV (.int z) = if z.natAbs.log2 < 1920 then some (toString z : Str) else none from rfl] at h
  by_cases c : z.natAbs.log2 < 1920
  · rw [if_pos c] at h; exact ⟨c, (Option.some.inj h).symm⟩
  · rw [if_neg c] at h; cases h
theorem js_ev {P : Pg} : ∀ (es : List Expr) (ms : List E), trJ N sc es = some ms → ∀ ρ h vs h1, evEs P ms ρ h = .ok vs h1 → h1 = h := by
  intro es
  induction es with
  | nil => intro ms h; cases h; intro ρ h vs h1 e; simp only [evEs] at e; cases e; rfl
  | cons e r ih =>
    intro ms h
    unfold trJ at h
    split at h
    · rename_i heq; cases heq
    · rename_i heq
      cases heq
      obtain ⟨es', e1, rfl⟩ := Option.map_eq_some_iff.mp h
      intro ρ h vs h1 e
      simp only [evEs, evE, bind_ok] at e
      cases ee : evEs P es' ρ h with
      | bad => rw [ee] at e; cases e
      | err c fs h1 => rw [ee] at e; cases e
      | ok ws h2 => rw [ee] at e; cases e; exact ih es' e1 ρ h _ _ ee
    · rename_i heq
      cases heq
      split at h
      · split at h
        · rename_i i es' e0 e1
          cases h
          intro ρ h vs h1 e
          simp only [evEs, evE, getV] at e
          cases e2 : ρ[i]? with
          | none => rw [e2] at e; cases e
          | some o => cases o with
            | none => rw [e2] at e; cases e
            | some v =>
              rw [e2] at e
              simp only [bind_ok] at e
              cases ee : evEs P es' ρ h with
              | bad => rw [ee] at e; cases e
              | err c fs h1 => rw [ee] at e; cases e
              | ok ws h2 => rw [ee] at e; cases e; exact ih es' e1 ρ h _ _ ee
        · cases h
      · cases h
    · cases h
theorem js_noerr {P : Pg} : ∀ (es : List Expr) (ms : List E), trJ N sc es = some ms → ∀ ρ h c fs h1, evEs P ms ρ h ≠ .err c fs h1 := by
  intro es
  induction es with
  | nil => intro ms h; cases h; intro ρ h c fs h1 e; simp only [evEs] at e; cases e
  | cons e r ih =>
    intro ms h
    unfold trJ at h
    split at h
    · rename_i heq; cases heq
    · rename_i heq
      cases heq
      obtain ⟨es', e1, rfl⟩ := Option.map_eq_some_iff.mp h
      intro ρ h c fs h1 e
      simp only [evEs, evE, bind_ok] at e
      cases ee : evEs P es' ρ h with
      | bad => rw [ee] at e; cases e
      | err c fs h1 => exact ih es' e1 ρ h c fs h1 ee
      | ok ws h2 => rw [ee] at e; cases e
    · rename_i heq
      cases heq
      split at h
      · split at h
        · rename_i i es' e0 e1
          cases h
          intro ρ h c fs h1 e
          simp only [evEs, evE, getV] at e
          cases e2 : ρ[i]? with
          | none => rw [e2] at e; cases e
          | some o => cases o with
            | none => rw [e2] at e; cases e
            | some v =>
              rw [e2] at e
              simp only [bind_ok] at e
              cases ee : evEs P es' ρ h with
              | bad => rw [ee] at e; cases e
              | err c fs h1 => exact ih es' e1 ρ h c fs h1 ee
              | ok ws h2 => rw [ee] at e; cases e
        · cases h
      · cases h
    · cases h
theorem js_run (S : Sy tb L P k X blk N sc W) : ∀ (es : List Expr) (ms : List E), trJ N sc es = some ms → ∃ ts, PJ X es ts ∧ ∀ (acc : Str) (σ : L2.St) (H : Hp) (Q : VK) (E : XK),
    (∃ φ h ρ vs, Rel L φ h H ∧ EnvR L φ H ρ σ ∧ evEs P ms ρ h = .ok vs h ∧ Post L φ H (vR L) (retO ((fstrO vs acc).map .str) h) Q E) → tJs ts acc σ H (fun out H1 => Q (.str out) H1) := by
  intro es
  induction es with
  | nil =>
    intro ms h
    cases h
    refine ⟨[], .nil, fun acc σ H Q E ⟨φ, h, ρ, vs, R, En, e, p⟩ => ?_⟩
    simp only [evEs] at e
    cases e
    exact Post.here R (.str _) p
  | cons e r ih =>
    intro ms h
    unfold trJ at h
    split at h
    · rename_i heq; cases heq
    · rename_i s j pos r' heq
      cases heq
      obtain ⟨es', e1, rfl⟩ := Option.map_eq_some_iff.mp h
      obtain ⟨ts, pj, w⟩ := ih es' e1
      refine ⟨_, .cons (pe_con (L := L) (P := P) (W := W) (v := .str s) rfl) pj, fun acc σ H Q E ⟨φ, h, ρ, vs, R, En, e, p⟩ => ?_⟩
      simp only [evEs, evE, bind_ok] at e
      cases ee : evEs P es' ρ h with
      | bad => rw [ee] at e; cases e
      | err c fs h1 => rw [ee] at e; cases e
      | ok ws h2 =>
        rw [ee] at e
        simp only [bind_ok] at e
        cases e
        obtain ⟨y, f, z, p⟩ := js_fmt p
        refine ⟨φ, h, ρ, R, En, ?_⟩
        simp only [evE]
        intro y' H1 φ1 E1 R1 r1
        cases r1
        have hy : s = y := (fmt_str f).2.symm
        subst hy
        exact ⟨s, rfl, z, w _ _ _ _ E ⟨φ1, h, ρ, ws, R1, En.mono E1, ee, Post.step E1 p⟩⟩
    · rename_i x p1 p2 r' heq
      cases heq
      split at h
      · rename_i hc
        simp only [Bool.and_eq_true, decide_eq_true_eq] at hc
        split at h
        · rename_i i es' e0 e1
          cases h
          obtain ⟨ts, pj, w⟩ := ih es' e1
          refine ⟨_, .cons (pe_fmt (pe_varM (pos := p1) S e0 (.inl hc.2) hc.1)) pj, fun acc σ H Q E ⟨φ, h, ρ, vs, R, En, e, p⟩ => ?_⟩
          simp only [evEs, evE, getV] at e
          cases e2 : ρ[i]? with
          | none => rw [e2] at e; cases e
          | some o => cases o with
            | none => rw [e2] at e; cases e
            | some v =>
              rw [e2] at e
              simp only [bind_ok] at e
              cases ee : evEs P es' ρ h with
              | bad => rw [ee] at e; cases e
              | err c fs h1 => rw [ee] at e; cases e
              | ok ws h2 =>
                rw [ee] at e
                simp only [bind_ok] at e
                cases e
                obtain ⟨y, f, z, p⟩ := js_fmt p
                refine ⟨φ, h, ρ, R, En, ?_⟩
                simp only [evE, getV, e2]
                intro y' H1 φ1 E1 R1 r1
                have fin := w _ _ _ _ E ⟨φ1, h, ρ, ws, R1, En.mono E1, ee, Post.step E1 p⟩
                cases v with
                | str q =>
                  obtain ⟨zl, rfl⟩ := fmt_str f
                  cases r1
                  exact .inl ⟨_, rfl, zl, _, rfl, z, fin⟩
                | int q =>
                  obtain ⟨zl, rfl⟩ := fmt_int f
                  cases r1
                  exact .inr ⟨_, rfl, zl, _, rfl, z, fin⟩
                | _ => cases f
        · cases h
      · cases h
    · cases h
theorem pe_fstM (S : Sy tb L P k X blk N sc W) {v1 v2 : Expr} {r : List Expr} {ms : List E} {pos : Pos} (h : trJ N sc (v1 :: v2 :: r) = some ms) : PE X (.JoinedStr (v1 :: v2 :: r) pos) (tM L P W (.fst ms)) := by
  obtain ⟨ts, pj, w⟩ := js_run S _ _ h
  refine PE.weak (pe_joined pj) fun σ H Q ⟨φ, g, ρ, R, En, p⟩ => ?_
  simp only [evE] at p
  cases e : evEs P ms ρ g with
  | bad => rw [e] at p; exact False.elim p
  | err c fs h1 => exact absurd e (js_noerr _ _ h ρ g c fs h1)
  | ok vs h1 =>
    have hh := js_ev _ _ h ρ g vs h1 e
    subst hh
    rw [e] at p
    exact w _ _ _ _ _ ⟨φ, _, ρ, vs, R, En, e, p⟩
end
end Mn
/-! Mini: comprehensions -/
namespace Mn
open PySem PySem.Spec PyProof.Rows L2
section
variable {tb : Tb} {L : Lk} {P : Pg} {k : Nat} {X : Cx} {blk : Bool} {N : List Str} {sc : Scope} {W : WX}
abbrev W0 : WX := fun _ _ _ _ => False
theorem Sx.block (S : Sx tb L P k X blk N sc W) (s : Shared) (H : Hp) (scope : Scope) (C : Addr) (cl : List (Str × Addr)) (fp : List Addr) : Sx tb L P k (X.blk s H scope (compEnvC scope cl C X.env) fp) true N (relS scope sc) W0 :=
  ⟨⟨S.hK, S.hN, S.nd, by rw [← S.hsc]; rfl, takes0, (fun h => by cases h), S.pr⟩, S.room, S.calm⟩
/-! what is beside -/
/-- exceptions that are kept stay -/
def Kx (φ : Ph) (H : Hp) (φ' : Ph) (H' : Hp) : Prop := ∀ b o, H b = some o → (∀ zs, o ≠ .lst zs) → (true, b) ∉ φ → H' b = some o ∧ (true, b) ∉ φ'
theorem kx_lst {φ : Ph} {H : Hp} {D : Addr} {zs ys : List V} (hD : H D = some (.lst zs)) : Kx φ H φ (upd H D (.lst ys)) := fun b o h n k => ⟨by rw [upd_ne (fun z => by rw [z, hD] at h; cases h; exact n _ rfl)]; exact h, k⟩
theorem kx_app {φ : Ph} {H : Hp} {D : Addr} {zs : List V} (hD : H D = some (.lst zs)) : Kx φ H (φ ++ [(true, D)]) H := fun b o h n k => ⟨h, fun m => by
  rcases List.mem_append.mp m with z | z
  · exact k z
  · have := List.mem_singleton.mp z
    cases this
    rw [hD] at h; cases h; exact n _ rfl⟩
mutual
theorem VR.tm {φ φ' : Ph} {H H' : Hp} (hp : Pre φ φ') (ht : ∀ a xs, TuA L.K H a xs → TuA L.K H' a xs) (hx : Kx φ H φ' H') : ∀ {v : Val} {x : V}, VR L φ H v x → VR L φ' H' v x
  | _, _, .non => .non
  | _, _, .bl b => .bl b
  | _, _, .int i => .int i
  | _, _, .str x => .str x
  | _, _, .tup h t => .tup (ht _ _ h) (VRs.tm hp ht hx t)
  | _, _, .ref ⟨w, h⟩ => .ref ⟨w, hp _ _ h⟩
  | _, _, .exc0 hc ha na => let e := hx _ _ ha (fun _ z => nomatch (show HO.ext _ = HO.lst _ from z)) na; .exc0 hc e.1 e.2
  | _, _, .excF hc ha na hd nd k r => let e := hx _ _ ha (fun _ z => nomatch (show HO.ext _ = HO.lst _ from z)) na; let u := hx _ _ hd (fun _ z => nomatch z) nd; .excF hc e.1 e.2 u.1 u.2 k (VRs.tm hp ht hx r)
theorem VRs.tm {φ φ' : Ph} {H H' : Hp} (hp : Pre φ φ') (ht : ∀ a xs, TuA L.K H a xs → TuA L.K H' a xs) (hx : Kx φ H φ' H') : ∀ {vs : List Val} {xs : List V}, VRs L φ H vs xs → VRs L φ' H' vs xs
  | _, _, .nil => .nil
  | _, _, .cons h t => .cons (VR.tm hp ht hx h) (VRs.tm hp ht hx t)
end
theorem KRs.tm {κ : Type} {φ φ' : Ph} {H H' : Hp} (hp : Pre φ φ') (ht : ∀ a xs, TuA L.K H a xs → TuA L.K H' a xs) (hx : Kx φ H φ' H') : ∀ {vs : List (κ × Val)} {xs : List (κ × V)}, KRs L φ H vs xs → KRs L φ' H' vs xs
  | _, _, .nil => .nil
  | _, _, .cons h t => .cons (h.tm hp ht hx) (t.tm hp ht hx)
theorem FRs.tm {φ φ' : Ph} {H H' : Hp} (hp : Pre φ φ') (ht : ∀ a xs, TuA L.K H a xs → TuA L.K H' a xs) (hx : Kx φ H φ' H') : ∀ {vs : List (String × Val)} {xs : List (Str × V)}, FRs L φ H vs xs → FRs L φ' H' vs xs
  | _, _, .nil => .nil
  | _, _, .cons h t => .cons (h.tm hp ht hx) (t.tm hp ht hx)
theorem OR.tm {φ φ' : Ph} {H H' : Hp} {a : Addr} {o : Ob} (hp : Pre φ φ') (ht : ∀ a xs, TuA L.K H a xs → TuA L.K H' a xs) (hx : Kx φ H φ' H') (k : ∀ u, H a = some u → H' a = some u) : OR L φ H a o → OR L φ' H' a o
  | .lst h r => .lst (k _ h) (r.tm hp ht hx)
  | .ro h r => .ro (h.elim (fun ⟨ob, q⟩ => .inl ⟨ob, k _ q⟩) .inr) (r.tm hp ht hx)
  | .dK h r => .dK (k _ h) (r.tm hp ht hx)
  | .dF h r => .dF (k _ h) (r.tm hp ht hx)
  | .dT h r => .dT (k _ h) (r.tm hp ht hx)
  | .ins c h r => .ins c (k _ h) (r.tm hp ht hx)
theorem tups_lst {H : Hp} {D : Addr} {zs ys : List V} (hD : H D = some (.lst zs)) : ∀ a xs, TuA L.K H a xs → TuA L.K (upd H D (.lst ys)) a xs := fun a xs h => sqT_upd h (fun _ _ z => by rw [hD] at z; cases z) (fun _ z => by rw [hD] at z; cases z)
theorem Rel.beside {φ : Ph} {h : MH} {H : Hp} {D : Addr} {zs ys : List V} (R : Rel L φ h H) (hD : H D = some (.lst zs)) (n : (true, D) ∉ φ) : Rel L φ h (upd H D (.lst ys)) := by
  refine ⟨R.len, fun i o hi => ?_, R.inj, fun a ha => ?_⟩
  · obtain ⟨w, a, ha, hw, x⟩ := R.obj i o hi
    refine ⟨w, a, ha, hw, ?_⟩
    cases x with
    | ro hr hv => exact .ro (hr.upd fun ob v z => by rw [hD] at z; cases z) (hv.tm (fun _ _ z => z) (tups_lst hD) (kx_lst hD))
    | dF hr hv => exact .dF (by rw [upd_ne (fun z => by rw [z, hD] at hr; cases hr)]; exact hr) (hv.tm (fun _ _ z => z) (tups_lst hD) (kx_lst hD))
    | _ =>
      rename_i hv
      refine OR.tm (fun _ _ z => z) (tups_lst hD) (kx_lst hD) (fun u q => ?_) (by first | exact .lst (by assumption) hv | exact .dK (by assumption) hv | exact .dT (by assumption) hv | exact .ins (by assumption) (by assumption) hv)
      rw [upd_ne (fun z => n (by rw [← z, ← hw rfl]; exact List.mem_of_getElem? ha))]; exact q
  · obtain ⟨u, hu, nt⟩ := R.live a ha
    exact ⟨u, by rw [upd_ne (fun z => n (by rw [← z]; exact ha))]; exact hu, nt⟩
theorem Ext.beside {φ1 φ : Ph} {H1 H : Hp} {D : Addr} {zs ys : List V} (E : Ext L φ1 H1 φ H) (h0 : H1 D = none) (hD : H D = some (.lst zs)) : Ext L φ1 H1 φ (upd H D (.lst ys)) :=
  ⟨E.pre, fun b o h n => by rw [upd_ne (ne_of_none h h0)]; exact E.keep b o h n, E.new, fun a xs h => tups_lst hD a xs (E.tups a xs h), fun a ob u h => by
    have q := E.frz a ob u h
    rw [upd_ne (fun z => by rw [z, hD] at q; cases q)]; exact q⟩
theorem pre_app {φ : Ph} {p : Bool × Addr} : Pre φ (φ ++ [p]) := fun i a h => by rw [List.getElem?_append_left (List.getElem?_eq_some_iff.mp h).1]; exact h
theorem Ext.adopt {φ1 φ : Ph} {H1 H : Hp} {D : Addr} (E : Ext L φ1 H1 φ H) (h0 : H1 D = none) : Ext L φ1 H1 (φ ++ [(true, D)]) H :=
  ⟨fun i a h => pre_app i a (E.pre i a h), E.keep, fun b h n => by
    rcases List.mem_append.mp h with z | z
    · exact E.new b z n
    · have := List.mem_singleton.mp z
      cases this
      exact h0, E.tups, E.frz⟩
theorem Rel.adopt {φ : Ph} {h : MH} {H : Hp} {D : Addr} {vs : List Val} {xs : List V} (R : Rel L φ h H) (hD : H D = some (.lst xs)) (n : (true, D) ∉ φ) (r : VRs L φ H vs xs) : Rel L (φ ++ [(true, D)]) (h ++ [.lst true vs]) H := by
  have hl := R.len
  refine ⟨by simp [R.len], fun i u hi => ?_, fun i j a ai aj => ?_, fun a ha => ?_⟩
  · by_cases c : i < h.length
    · rw [List.getElem?_append_left c] at hi
      obtain ⟨w, a, ha, hw, x⟩ := R.obj i u hi
      exact ⟨w, a, pre_app _ _ ha, hw, x.tm pre_app (fun _ _ z => z) (kx_app hD) fun _ q => q⟩
    · have e : i = h.length := by
        have := (List.getElem?_eq_some_iff.mp hi).1
        simp at this; omega
      subst e
      simp at hi
      subst hi
      exact ⟨true, D, by rw [← hl]; simp, fun _ => rfl, .lst hD (r.tm pre_app (fun _ _ z => z) (kx_app hD))⟩
  · have old : ∀ {i : Nat} {a : Addr}, i < φ.length → (φ ++ [(true, D)])[i]? = some (true, a) → φ[i]? = some (true, a) ∧ a ≠ D := by
      intro i a c ai
      rw [List.getElem?_append_left c] at ai
      exact ⟨ai, fun z => n (by rw [← z]; exact List.mem_of_getElem? ai)⟩
    have last : ∀ {i : Nat} {a : Addr}, ¬ i < φ.length → (φ ++ [(true, D)])[i]? = some (true, a) → i = φ.length ∧ a = D := by
      intro i a c ai
      have := (List.getElem?_eq_some_iff.mp ai).1
      simp at this
      have e : i = φ.length := by omega
      subst e
      simp at ai
      exact ⟨rfl, ai.symm⟩
    by_cases c : i < φ.length <;> by_cases d : j < φ.length
    · exact R.inj i j a (old c ai).1 (old d aj).1
    · exact absurd (last d aj).2 (old c ai).2
    · exact absurd (last c ai).2 (old d aj).2
    · rw [(last c ai).1, (last d aj).1]
  · rcases List.mem_append.mp ha with z | z
    · exact R.live a z
    · have := List.mem_singleton.mp z
      cases this
      exact ⟨_, hD, fun _ z => by cases z⟩

/-! wiping -/
theorem wipe_get (σ : L2.St) : ∀ (vs : List Nat) (i : Nat), (L2.wipe σ vs)[i]? = if i ∈ vs then (if i < σ.length then some none else none) else σ[i]?
  | [], i => by simp [L2.wipe]
  | v :: vs, i => by
    unfold L2.wipe
    by_cases e : v = i
    · subst e
      by_cases c : v < σ.length
      · rw [List.getElem?_set_self (by rw [wipe_length]; exact c)]
        simp [c]
      · rw [List.getElem?_eq_none (by rw [List.length_set, wipe_length]; omega)]
        simp [c]
    · rw [List.getElem?_set_ne e, wipe_get σ vs i]
      have : i ≠ v := fun z => e z.symm
      simp [this]
theorem wipe_same {σ σ' : L2.St} {vs : List Nat} (hl : σ'.length = σ.length) (h : ∀ i, i ∉ vs → σ'[i]? = σ[i]?) : L2.wipe σ' vs = L2.wipe σ vs := by
  apply List.ext_getElem?
  intro i
  rw [wipe_get, wipe_get, hl]
  by_cases c : i ∈ vs
  · rw [if_pos c, if_pos c]
  · rw [if_neg c, if_neg c, h i c]
theorem wipe_wipe (σ : L2.St) (vs : List Nat) : L2.wipe (L2.wipe σ vs) vs = L2.wipe σ vs :=
  wipe_same (wipe_length _ _) fun i hi => by rw [wipe_get, if_neg hi]

/-! the turns -/
def tCnd (L : Lk) (P : Pg) : Option E → TT
  | none => tYes
  | some y => tMT L P W0 y
theorem compL_w {own : List Nat} {x : E} {t : Tg} {kk : ItK} {es : List E} {cond : Option E} (hK : X.K = L.K) (ht : tgIn own t = true) {σ : L2.St} {H : Hp} {Q : VK} (q : tM L P W (.cmp1 own x t kk es cond) σ H Q) :
    tLc (wI L P W kk es) (gM L t) (tCnd L P cond) (tM L P W0 x) own σ H Q := by
  obtain ⟨φ, h, ρ, R, En, p⟩ := q
  simp only [evE] at p
  refine ⟨φ, h, ρ, R, En, (Post.bind (rel0 := ItOk L) p).imp fun J H1 ⟨φ1, h1, pr, E1, R1, hJ, p1⟩ => ?_⟩
  intro D hD
  have En1 : EnvR L φ1 H1 (wipe' ρ own) (L2.wipe σ own) := (En.mono E1).wipe own
  let go : List Val → List Val → MH → Res Val := fun r acc h2 => (compL t pr.2 (wipe' ρ own) (evC P cond) (evE P x) r acc h2).bind fun ws h3 => alloc (.lst true ws) h3
  have nD1 : (true, D) ∉ φ1 := fun z => by
    obtain ⟨u, hu, _⟩ := R1.live D z
    rw [hD] at hu; cases hu
  refine ⟨fun i m H' => m = pr.1.length - i ∧ i ≤ pr.1.length ∧ ∃ φ2 h2 acc accV, Ext L φ1 H1 φ2 H' ∧ Rel L φ2 h2 H' ∧ H' D = some (.lst accV) ∧ (true, D) ∉ φ2 ∧ VRs L φ2 H' acc accV ∧
    Post L φ1 H1 (vR L) (go (pr.1.drop i) acc h2) Q (fun c d H' => W c d σ H'), ⟨pr.1.length, by simp, Nat.zero_le _, φ1, h1, [], [], Ext.side hD, R1.side hD, upd_same, nD1, .nil, p1⟩, ?_⟩
  rintro i m H' ⟨rfl, hi, φ2, h2, acc, accV, E2, R2, hD2, nD, rs, p2⟩
  have hst : pr.2.stands h2 := by
    by_cases c : pr.2.stands h2
    · exact c
    · exfalso
      simp only [go] at p2
      cases hd : pr.1.drop i with
      | nil => rw [hd] at p2; simp only [compL] at p2; rw [if_neg c] at p2; exact p2
      | cons v r => rw [hd] at p2; simp only [compL] at p2; rw [if_neg c] at p2; exact p2
  obtain ⟨hs, hg⟩ := hJ φ2 h2 H' E2 R2 hst i
  by_cases hlt : i < pr.1.length
  · obtain ⟨v, hv⟩ : ∃ v, pr.1[i]? = some v := ⟨pr.1[i], List.getElem?_eq_getElem hlt⟩
    obtain ⟨hgo, hy⟩ := hg v hv
    have hd : pr.1.drop i = v :: pr.1.drop (i + 1) := by
      rw [List.drop_eq_getElem_cons hlt]
      rw [List.getElem?_eq_getElem hlt] at hv
      cases hv; rfl
    simp only [go] at p2
    rw [hd] at p2
    simp only [compL] at p2
    rw [if_pos hst] at p2
    refine .inr ⟨hgo, fun H'' => i + 1 ≤ pr.1.length ∧ ∃ φ2 h2 acc accV, Ext L φ1 H1 φ2 H'' ∧ Rel L φ2 h2 H'' ∧ H'' D = some (.lst accV) ∧ (true, D) ∉ φ2 ∧ VRs L φ2 H'' acc accV ∧
      Post L φ1 H1 (vR L) (go (pr.1.drop (i + 1)) acc h2) Q (fun c d H' => W c d σ H'), fun H'' ⟨a, b⟩ => ⟨pr.1.length - (i + 1), by omega, rfl, a, b⟩, fun y H2 hyl => ?_⟩
    obtain ⟨ry, E3, R3⟩ := hy y H2 hyl
    cases eb : bindT t v (wipe' ρ own) with
    | none => rw [eb] at p2; exact False.elim p2
    | some ρ1 =>
      rw [eb] at p2
      simp only at p2
      have E23 := E2.trans E3
      have hD3 : H2 D = some (.lst accV) := E3.keep D _ hD2 nD
      refine ⟨φ2, h2, wipe' ρ own, ρ1, v, R3, ry, En1.mono E23, eb, fun σ2 En2 ks kl => ⟨?_, ?_⟩⟩
      · rw [wipe_same (σ := L2.wipe σ own) kl fun j hj => ks j ?_, wipe_wipe]
        cases t with
        | nm l =>
          simp only [tgIn, List.contains_iff_mem] at ht
          exact fun z => hj (by rw [z]; exact ht)
        | tp js =>
          simp only [tgIn, List.all_eq_true, List.contains_iff_mem] at ht
          exact fun z => hj (ht j z)
      · -- the test, the element
        have fin : ∀ (b : Bool) (h3 : MH), evC P cond ρ1 h2 = .ok (.bl b) h3 → Post L φ1 H1 (vR L) ((if b = true then (match evE P x ρ1 h3 with
            | .ok w h4 => if acc.length < sizeLine then compL t pr.2 (wipe' ρ own) (evC P cond) (evE P x) (pr.1.drop (i + 1)) (acc ++ [w]) h4 else .bad
            | _ => .bad) else compL t pr.2 (wipe' ρ own) (evC P cond) (evE P x) (pr.1.drop (i + 1)) acc h3).bind fun ws h3 => alloc (.lst true ws) h3) Q (fun c d H' => W c d σ H') →
            ∀ (φ3 : Ph) (H3 : Hp), Ext L φ2 H2 φ3 H3 → Rel L φ3 h3 H3 → (if b = true then tM L P W0 x σ2 H3 fun y H4 => ∃ acc, H4 D = some (.lst acc) ∧ acc.length < sizeLine ∧ (i + 1 ≤ pr.1.length ∧ ∃ φ2 h2 acc' accV, Ext L φ1 H1 φ2 (upd H4 D (.lst (acc ++ [y]))) ∧ Rel L φ2 h2 (upd H4 D (.lst (acc ++ [y]))) ∧ (upd H4 D (.lst (acc ++ [y]))) D = some (.lst accV) ∧ (true, D) ∉ φ2 ∧ VRs L φ2 (upd H4 D (.lst (acc ++ [y]))) acc' accV ∧
              Post L φ1 H1 (vR L) (go (pr.1.drop (i + 1)) acc' h2) Q (fun c d H' => W c d σ H')) else (i + 1 ≤ pr.1.length ∧ ∃ φ2 h2 acc accV, Ext L φ1 H1 φ2 H3 ∧ Rel L φ2 h2 H3 ∧ H3 D = some (.lst accV) ∧ (true, D) ∉ φ2 ∧ VRs L φ2 H3 acc accV ∧
              Post L φ1 H1 (vR L) (go (pr.1.drop (i + 1)) acc h2) Q (fun c d H' => W c d σ H'))) := by
          intro b h3 ec p3 φ3 H3 E4 R4
          have E5 := E23.trans E4
          have hD4 : H3 D = some (.lst accV) := E4.keep D _ hD3 nD
          have nD3 : (true, D) ∉ φ3 := fun z => by
            have := E4.new D z nD
            rw [hD3] at this; cases this
          cases b with
          | false =>
            refine iteF ⟨hlt, φ3, h3, acc, accV, E5, R4, hD4, nD3, (rs.mono E3).mono E4, ?_⟩
            rw [if_neg Bool.false_ne_true] at p3
            exact p3
          | true =>
            rw [if_pos rfl] at p3
            refine iteT ⟨φ3, h3, ρ1, R4, En2.mono E4, ?_⟩
            cases ee : evE P x ρ1 h3 with
            | bad => rw [ee] at p3; exact False.elim p3
            | err c fs h4 => rw [ee] at p3; exact False.elim p3
            | ok w h4 =>
              rw [ee] at p3
              simp only at p3
              by_cases cl : acc.length < sizeLine
              · rw [if_pos cl] at p3
                intro y2 H4 φ4 E6 R6 r6
                have hD5 : H4 D = some (.lst accV) := E6.keep D _ hD4 nD3
                have nD4 : (true, D) ∉ φ4 := fun z => by
                  have := E6.new D z nD3
                  rw [hD4] at this; cases this
                have rs2 := (((rs.mono E3).mono E4).mono E6)
                have tl := tups_lst (L := L) (ys := accV ++ [y2]) hD5
                exact ⟨accV, hD5, by rw [← rs.length]; exact cl, hlt, φ4, h4, acc ++ [w], accV ++ [y2], (E5.trans E6).beside hD hD5, R6.beside hD5 nD4, upd_same, nD4, (rs2.append (.cons r6 .nil)).tm (fun _ _ z => z) tl (kx_lst hD5), p3⟩
              · rw [if_neg cl] at p3; exact False.elim p3
        cases cond with
        | none =>
          refine fin true h2 (by simp only [evC]) ?_ φ2 H2 Ext.refl R3
          simp only [evC] at p2
          rw [if_pos rfl]
          exact p2
        | some c =>
          refine ⟨φ2, h2, ρ1, R3, En2, ?_⟩
          simp only [evC] at p2 fin
          cases ec : evE P c ρ1 h2 with
          | bad => rw [ec] at p2; exact False.elim p2
          | err a b d => rw [ec] at p2; exact False.elim p2
          | ok u h3 =>
            rw [ec] at p2
            intro y2 H3 φ3 E4 R4 r4
            cases u <;> first | exact False.elim p2 | skip
            rename_i b
            refine ⟨b, r4.blI, fin b h3 ec ?_ φ3 H3 E4 R4⟩
            cases b with
            | true => rw [if_pos rfl]; exact p2
            | false => rw [if_neg Bool.false_ne_true]; exact p2
  · have e : i = pr.1.length := by omega
    subst e
    refine .inl ⟨hs (Nat.le_refl _), ?_⟩
    simp only [go] at p2
    rw [List.drop_length] at p2
    simp only [compL] at p2
    rw [if_pos hst] at p2
    exact p2 (.ref D) H' (φ2 ++ [(true, D)]) (E2.adopt hD) (R2.adopt hD2 nD rs) (.ref ⟨true, by rw [← R2.len]; simp⟩)
end
end Mn
/-! Mini: classes: attributes, methods, new objects -/
namespace Mn
open PySem PySem.Spec PyProof.Rows L2
theorem ofString_inj {s t : String} (h : Str.ofString s = Str.ofString t) : s = t := by
  rw [Str.ofString_eq_toList, Str.ofString_eq_toList] at h
  have h1 : s.toList.map Char.toNat = t.toList.map Char.toNat := by
    have := congrArg (fun x : Str => x.cps.toList) h
    simpa using this
  have h2 : s.toList = t.toList := by
    refine List.map_inj_right (fun a b e => ?_) |>.mp h1
    exact Char.ext (UInt32.toNat_inj.mp e)
  exact String.ext h2
theorem FRs.get {L : Lk} {φ : Ph} {H : Hp} {f : String} : ∀ {fs : List (String × Val)} {xs : List (Str × V)}, FRs L φ H fs xs → (∀ v, fs.lookup f = some v → ∃ x, xs.lookup (Str.ofString f) = some x ∧ VR L φ H v x) ∧ (fs.lookup f = none → xs.lookup (Str.ofString f) = none)
  | _, _, .nil => ⟨(fun v h => by cases h), fun _ => rfl⟩
  | _, _, .cons (k := k) r t => by
    rw [List.lookup_cons, List.lookup_cons]
    by_cases c : f = k
    · subst c
      rw [beq_self_eq_true, beq_self_eq_true]
      exact ⟨(fun v h => by cases h; exact ⟨_, rfl, r⟩), fun h => by cases h⟩
    · have c1 : (f == k) = false := by simpa using c
      have c2 : (Str.ofString f == Str.ofString k) = false := by
        rw [beq_eq_false_iff_ne]
        exact fun z => c (ofString_inj z)
      rw [c1, c2]
      exact FRs.get t
theorem FRs.split {L : Lk} {φ : Ph} {H : Hp} : ∀ {fs : List (String × Val)} {xs : List (Str × V)}, FRs L φ H fs xs → (fs.map fun p => Str.ofString p.1) = xs.map (·.1) ∧ VRs L φ H (fs.map (·.2)) (xs.map (·.2))
  | _, _, .nil => ⟨rfl, .nil⟩
  | _, _, .cons r t => ⟨by rw [List.map_cons, List.map_cons, t.split.1], .cons r t.split.2⟩
theorem FRs.join {L : Lk} {φ : Ph} {H : Hp} : ∀ {fs : List (String × Val)} {xs : List (Str × V)}, (fs.map fun p => Str.ofString p.1) = xs.map (·.1) → VRs L φ H (fs.map (·.2)) (xs.map (·.2)) → FRs L φ H fs xs
  | [], [], _, _ => .nil
  | [], _ :: _, e, _ => by cases e
  | _ :: _, [], e, _ => by cases e
  | (f, v) :: fs, (g, x) :: xs, e, r => by
    rw [List.map_cons, List.map_cons] at e
    obtain ⟨e1, e2⟩ := List.cons.inj e
    rw [List.map_cons, List.map_cons] at r
    cases r with
    | cons r1 r2 =>
      subst e1
      exact .cons r1 (FRs.join e2 r2)
theorem vrs_lookup {L : Lk} {φ : Ph} {H : Hp} {f : String} {fs : List (String × Val)} {xs : List (Str × V)} (k : (fs.map fun p => Str.ofString p.1) = xs.map (·.1)) (r : VRs L φ H (fs.map (·.2)) (xs.map (·.2))) (w : Val) (e : fs.lookup f = some w) : ∃ z, xs.lookup (Str.ofString f) = some z ∧ VR L φ H w z :=
  (FRs.join k r).get.1 w e
theorem FRs.put {L : Lk} {φ : Ph} {H : Hp} {f : String} {v : Val} {x : V} (r : VR L φ H v x) : ∀ {fs : List (String × Val)} {xs : List (Str × V)}, FRs L φ H fs xs → FRs L φ H (putFl f v fs) (putF (Str.ofString f) x xs)
  | _, _, .nil => .cons r .nil
  | _, _, .cons (k := k) (v := w) (kvs := fs) (x := y) (xs := xs) r2 t => by
    show FRs L φ H (if k = f then (k, v) :: fs else (k, w) :: putFl f v fs) (if Str.ofString k = Str.ofString f then (Str.ofString k, x) :: xs else (Str.ofString k, y) :: putF (Str.ofString f) x xs)
    by_cases c : k = f
    · rw [if_pos c, if_pos (by rw [c])]
      exact .cons r t
    · rw [if_neg c, if_neg (fun z => c (ofString_inj z))]
      exact .cons r2 (FRs.put r t)
theorem FRs.length {L : Lk} {φ : Ph} {H : Hp} : ∀ {fs : List (String × Val)} {xs : List (Str × V)}, FRs L φ H fs xs → fs.length = xs.length
  | _, _, .nil => rfl
  | _, _, .cons _ t => by simp [t.length]
section
variable {X : Cx}
theorem PE.exi {ι : Type} {e : Expr} {t : ι → TE} (h : ∀ i, PE X e (t i)) : PE X e (fun σ H Q => ∃ i, t i σ H Q) := ⟨fun pins s σ H Q I ⟨i, q⟩ => (h i).run pins s σ H Q I q⟩
end
section
variable {X : Cx} {CX : CXT} {k : Nat} {f C : Addr} {fd : FuncData} {ps : List Str} {sp : Sp} {E : L2.St → XK} {x m : Str} {p pos apos : Pos} {o e : Expr} {es : List Expr} {ta : TE} {t : TA}
/-- o.m(..), what is raised is wished for at the caller's slots -/
def tMethS (C : Addr) (m : Str) (sp : Sp) (E : L2.St → XK) (ta : TE) (t : TA) : TE := fun σ H Q => ta σ H fun x H1 => ∃ a dx fs, x = .ref a ∧ H1 a = some (.ins C dx fs) ∧ fs.lookup m = none ∧ t σ H1 fun vs H2 => sp (x :: vs) H2 Q (E σ)
theorem pe_methS {pl : Sem Bool} (he : PE X o ta) (c : Cls X.K C) (hm : Meth X.K C m f) (F : FnOk X.prog X.w X.K X.mg X.base CX k f fd ps sp) (hr : Room k X.A) (hb : Binds X.K fd ps []) (hx : ∀ σ, PassesAt CX X σ (E σ)) (ha : PA X (e :: es) t)
    (hst : starEach (e :: es) X.env = (false, eval e X.env) :: starEach es X.env) (hpl : (backTo pos (starEach es X.env)).any (·.1) = false)
    (ht : eval (.Call (.Attribute o m apos) (e :: es) [] pos) X.env = (do
      let ov ← eval o X.env
      standAt apos.atName
      let (f, first) ← holding [ov] (getMethod ov m pl)
      callWith pos f first (backTo pos (starEach (e :: es) X.env)) (backToKw pos (keywordEach [] X.env)))) :
    PE X (.Call (.Attribute o m apos) (e :: es) [] pos) (tMethS C m sp E ta t) := by
  refine ⟨fun pins s σ H Q I h => ?_⟩
  refine PySem.W.methodCall_KW (pl := pl) (thn (he.run pins s σ H _ I h) fun u s1 ⟨x, H1, I1, rx, a, dx, fs, ex, ea, l, q⟩ => ?_) ht
  subst ex
  obtain rfl : u = Value.ref a := rx
  refine getmeth_ok I1 ea c hm l ?_
  refine PySem.W.callWith_K (first := [.ref a]) (h₀ := X.base) I.ok.mod.kin hm.kp (thn (ha.run pos pins s1 σ H1 _ I1 q) fun us s2 ⟨vs, H2, I2, r, q2⟩ => ⟨I2.kIn, ?_⟩) hst hpl
  exact run_fnS (us := .ref a :: us) (vs := .ref a :: vs) F hr hb (hx σ) I2 (.cons rfl r) q2
theorem pe_methS0 {pl : Sem Bool} (he : PE X o ta) (c : Cls X.K C) (hm : Meth X.K C m f) (F : FnOk X.prog X.w X.K X.mg X.base CX k f fd ps sp) (hr : Room k X.A) (hb : Binds X.K fd ps []) (hx : ∀ σ, PassesAt CX X σ (E σ))
    (ht : eval (.Call (.Attribute o m apos) [] [] pos) X.env = (do
      let ov ← eval o X.env
      standAt apos.atName
      let (f, first) ← holding [ov] (getMethod ov m pl)
      callWith pos f first (backTo pos (starEach [] X.env)) (backToKw pos (keywordEach [] X.env)))) :
    PE X (.Call (.Attribute o m apos) [] [] pos) (tMethS C m sp E ta tNil) := by
  refine ⟨fun pins s σ H Q I h => ?_⟩
  refine PySem.W.methodCall_KW (pl := pl) (thn (he.run pins s σ H _ I h) fun u s1 ⟨x, H1, I1, rx, a, dx, fs, ex, ea, l, q⟩ => ?_) ht
  subst ex
  obtain rfl : u = Value.ref a := rx
  refine getmeth_ok I1 ea c hm l ?_
  exact PySem.W.callWith_K0 (first := [.ref a]) I1.kIn hm.kp (run_fnS (us := [.ref a]) (vs := [.ref a]) F hr hb (hx σ) I1 (.cons rfl .nil) q)
def tMakeS (C : Addr) (sp : Sp) (E : L2.St → XK) (t : TA) : TE := fun σ H Q => t σ H fun vs H1 => ∀ x dx, H1 x = none → H1 dx = none → dx ≠ x →
  sp (.ref x :: vs) (upd (upd H1 dx (.own x)) x (.ins C dx [])) (fun v H2 => v = .non ∧ Q (.ref x) H2) (E σ)
theorem run_makeS {pins : List (Addr × Obj)} {σ : L2.St} {H : Hp} {s : Shared} {Q : VK} {us : List Value} {vs : List V} (M : Mk X.K C f) (F : FnOk X.prog X.w X.K X.mg X.base CX k f fd ps sp) (hr : Room (k + 1) X.A) (hb : Binds X.K fd ps [])
    (hx : PassesAt CX X σ (E σ)) (I : Inv X pins σ H s) (r : Vals vs us)
    (h : ∀ x dx, H x = none → H dx = none → dx ≠ x → sp (.ref x :: vs) (upd (upd H dx (.own x)) x (.ins C dx [])) (fun v H2 => v = .non ∧ Q (.ref x) H2) (E σ)) :
    wpAny (model X.prog X.w) X.A (call (.ref C) us) (EP X pins σ Q) X.xe s := by
  have hq := h (s.heap.objs.size + 1) s.heap.objs.size (I.hok.fresh (Nat.le_succ _)) (I.hok.fresh (Nat.le_refl _)) (Nat.ne_of_lt (Nat.lt_succ_self _))
  have I2 := Inv.made (C := C) I
  have r2 : Vals (V.ref (s.heap.objs.size + 1) :: vs) (Value.ref (s.heap.objs.size + 1) :: us) := .cons rfl r
  have hl : (Value.ref (s.heap.objs.size + 1) :: us).length = ps.length := by
    have e := r2.length
    rw [F.len _ _ _ _ hq] at e
    exact e.symm
  have b := hb _ (Value.ref (s.heap.objs.size + 1) :: us) I2.kIn (by rw [List.append_nil]; exact hl)
  rw [List.append_nil] at b
  refine wpAny_call (make_map (f := f) I.kIn M.makes M.init (beq_iff_eq.mp M.fn) (codeAny_mono (F.run _ X.stack _ _ ⟨Value.ref (s.heap.objs.size + 1) :: us, []⟩ (Value.ref (s.heap.objs.size + 1) :: us) _ _ (E σ) (hr.make C us [])
    (I2.env0.make C us []) b r2 hq) fun r s' hq' => ?_))
  cases r with
  | error e => exact hx pins _ _ e s' I2 hq'
  | ok fl =>
    cases fl with
    | ret u =>
      obtain ⟨v, H', I3, rv, ev, q3⟩ := I2.after hq'
      subst ev
      exact ⟨rv, ⟨V.ref (s.heap.objs.size + 1), H', I3, rfl, q3⟩⟩
    | next => exact False.elim hq'
    | brk => exact False.elim hq'
    | cont => exact False.elim hq'
theorem pe_makeS (M : Mk X.K C f) (F : FnOk X.prog X.w X.K X.mg X.base CX k f fd ps sp) (hr : Room (k + 1) X.A) (hg : Gl X x) (hm : X.mg x = some (.ref C)) (hb : Binds X.K fd ps []) (hx : ∀ σ, PassesAt CX X σ (E σ))
    (ha : PA X (e :: es) t) (hdb : (x == ("__debug__" : Str)) = false) (he : starEach (e :: es) X.env = (false, eval e X.env) :: starEach es X.env) (hpl : (backTo pos (starEach es X.env)).any (·.1) = false) :
    PE X (.Call (.Name x p) (e :: es) [] pos) (tMakeS C sp E t) := by
  refine ⟨fun pins s σ H Q I h => ?_⟩
  refine wpAny_Call_Name_kw (ld_glob I hg hm ?_ hdb)
  refine PySem.W.callWith_K (h₀ := X.base) I.ok.mod.kin M.kp (thn (ha.run pos pins s σ H _ I h) fun us s1 ⟨vs, H1, I1, r, q⟩ => ⟨I1.kIn, ?_⟩) he hpl
  exact run_makeS M F hr hb (hx σ) I1 r q
theorem pe_makeS0 (M : Mk X.K C f) (F : FnOk X.prog X.w X.K X.mg X.base CX k f fd ps sp) (hr : Room (k + 1) X.A) (hg : Gl X x) (hm : X.mg x = some (.ref C)) (hb : Binds X.K fd ps []) (hx : ∀ σ, PassesAt CX X σ (E σ))
    (hdb : (x == ("__debug__" : Str)) = false) : PE X (.Call (.Name x p) [] [] pos) (tMakeS C sp E tNil) := by
  refine ⟨fun pins s σ H Q I h => ?_⟩
  refine wpAny_Call_Name_kw (ld_glob I hg hm ?_ hdb)
  exact PySem.W.callWith_K0 I.kIn M.kp (run_makeS (us := []) M F hr hb (hx σ) I .nil h)
end
def plainOfM (o : Expr) (env : Env) : Sem Bool := do return (← importBound o env).getD true
theorem mcall_lineM {o : Expr} {m : Str} {apos pos : Pos} {env : Env} {ov : Value} {n : Nat} {args : List (Bool × Sem Value)} {kws : List (Option Str × Sem Value)} (hf : methodCallForm n args kws = true) (hl : (apos.endLine == pos.line) = true) :
    methodCall o m apos pos env ov n args kws = (do
      let (f, first) ← holding [ov] (getMethod ov m (plainOfM o env))
      callWith pos f first args kws) := by
  have e1 : calleeOf (methodCallForm n args kws) o env ov m = getMethod ov m (plainOfM o env) := by
    rw [hf] <;> rfl
  have e2 : methodCallPos (methodCallForm n args kws) o env apos pos = pure pos := by
    unfold methodCallPos
    exact if_pos (by rw [hl, Bool.or_true])
  unfold methodCall
  rw [e1, e2]
  first
    | rfl
    | simp only [pure_bind]
theorem okB_meth {o : Expr} (h : okB o = true) (m : Str) {ap cp : Pos} (hl : (ap.endLine == cp.line) = true) {es : List Expr} (hn : es.length < 20) (oks : es.all okE = true) (env : Env) : eval (.Call (.Attribute o m ap) es [] cp) env = (do
      let ov ← eval o env
      standAt ap.atName
      let (f, first) ← holding [ov] (getMethod ov m (plainOfM o env))
      callWith cp f first (backTo cp (starEach es env)) (backToKw cp (keywordEach [] env))) := by
  have hf : methodCallForm (es.length + ([] : List Keyword).length) (backTo cp (starEach es env)) (backToKw cp (keywordEach [] env)) = true := by
    unfold methodCallForm
    rw [okEs_all oks env cp]
    show (true && true && decide (es.length + 0 + 0 < 30)) = true
    simp; omega
  have e : eval (.Call (.Attribute o m ap) es [] cp) env = (do
      let ov ← attributeBase o m env (eval o env)
      standAt ap.atName
      methodCall o m ap cp env ov (es.length + ([] : List Keyword).length) (backTo cp (starEach es env)) (backToKw cp (keywordEach [] env))) := rfl
  rw [e, okB_base h]
  congr 1
  funext ov
  congr 1
  funext _
  exact mcall_lineM hf hl
section
variable {tb : Tb} {L : Lk} {P : Pg} {k : Nat} {X : Cx} {blk : Bool} {N : List Str} {sc : Scope} {W : WX}
def tFldX (K : PySem.W.Frag) (ta : TE) (f : Str) : TE := fun σ H Q => ta σ H fun x H1 => (∃ (a C dx : Addr) (fs : List (Str × V)) (v : V), x = .ref a ∧ H1 a = some (.ins C dx fs) ∧ Cls K C ∧ NoAttr K C f ∧ fs.lookup f = some v ∧ Q v H1) ∨
  ∃ (a C dd : Addr) (fs : List (Str × V)) (v : V), x = .ref a ∧ H1 a = some (exH a (.ref C) (some dd)) ∧ H1 dd = some (.xd fs) ∧ ExK K C ∧ PySem.W.findIn K (.ref C) f = some none ∧ fs.lookup f = some v ∧ Q v H1
theorem pe_fldX {e : Expr} {f : Str} {pos : Pos} {ta : TE} (he : PE X e ta) (hb : attributeBase e f X.env (eval e X.env) = eval e X.env) : PE X (.Attribute e f pos) (tFldX X.K ta f) := by
  refine ⟨fun pins s σ H Q I h => ?_⟩
  refine attr_of hb (thn (he.run pins s σ H _ I h) fun u s1 ⟨x, H1, I1, rx, hh⟩ => ?_)
  rcases hh with ⟨a, C, dx, fs, v, ex, ea, c, n, l, q⟩ | ⟨a, C, dd, fs, v, ex, ea, ed, T, hno, l, q⟩
  · subst ex
    obtain rfl : u = Value.ref a := rx
    exact getattr_ok I1 ea c n l fun u' s2 I2 ru => ⟨v, H1, I2, ru, q⟩
  · subst ex
    obtain rfl : u = Value.ref a := rx
    obtain ⟨oe, vs, e, z, k⟩ := exH_at I1.hok ea
    have hx : ObjOk X.prog X.w H1 s1.heap dd (.xd fs) := I1.hok dd _ ed
    obtain ⟨mA, hns, hr⟩ := hx
    obtain ⟨od, ho, hl⟩ := lookIn_ns hns
    obtain ⟨u, hu, ru⟩ := RelO.some_of (v := v) (o := mA f) (by rw [← l]; exact hr f)
    have J : PySem.W.InstAt s1.heap a oe C (some od) := ⟨e, z.1, by unfold PySem.W.notCls; rw [k] <;> rfl, by rw [z.2]; exact ho⟩
    exact HandSPX.exc_get I1.kIn J T.ga T.gg T.ex (PySem.W.findObj_own T.hd hno rfl (by rw [hl, hu])) (handed_of ru) ⟨v, H1, I1.tok _, ru, q⟩
theorem pe_fldM (S : Sy tb L P k X blk N sc W) {f : String} {o : Expr} {x : E} {pos : Pos} (ok : okB o = true) (ho : PE X o (tM L P W x)) : PE X (.Attribute o (Str.ofString f) pos) (tM L P W (.fld x f)) :=
  PE.weak ((pe_fldX ho (okB_base ok _ _))) fun σ H Q ⟨φ, h, ρ, R, En, p⟩ => by
    simp only [evE] at p
    refine ⟨φ, h, ρ, R, En, (Post.bind (rel0 := vR L) p).imp fun y H1 ⟨φ1, h1, v, E1, R1, r1, p1⟩ => ?_⟩
    cases v <;> first | exact False.elim p1 | skip
    rotate_left
    · rename_i c fs
      simp only [getF] at p1
      by_cases cf : P.exi c = some (some f)
      · rw [if_pos cf] at p1
        obtain ⟨C, hC, _, _, _, _, _, hno, _⟩ := S.pr.exi _ _ cf
        cases r1 with
        | exc0 hc ha na => exact False.elim p1
        | excF hc ha na hd nd k r =>
          rw [hC] at hc; cases hc
          cases e : fs.lookup f with
          | none => rw [e] at p1; exact False.elim p1
          | some w =>
            rw [e] at p1
            obtain ⟨z, e2, r2⟩ := vrs_lookup k r w e
            exact .inr ⟨_, C, _, _, z, rfl, ha, hd, by rw [S.hK]; exact S.pr.exk _ _ hC, by rw [S.hK]; exact hno, e2, Post.here R1 r2 p1⟩
      · rw [if_neg cf] at p1; exact False.elim p1
    rename_i i
    simp only [getF] at p1
    split at p1
    · rename_i c fs hi
      by_cases cf : (P.flds c).contains f = true
      · rw [if_pos cf] at p1
        obtain ⟨a, rfl, _, ob⟩ := R1.at hi r1
        cases ob with
        | ins hc q rf =>
          obtain ⟨C', hC', hcl, hno⟩ := S.pr.flds c f cf
          rw [hc] at hC'; cases hC'
          cases e : fs.lookup f with
          | none => rw [e] at p1; exact False.elim p1
          | some w =>
            rw [e] at p1
            obtain ⟨z, e2, r2⟩ := rf.get.1 w e
            exact .inl ⟨a, _, _, _, z, rfl, q, S.hK ▸ hcl, S.hK ▸ hno, e2, Post.here R1 r2 p1⟩
      · rw [if_neg cf] at p1; exact False.elim p1
    · exact False.elim p1
/-- a method's call, as Mini has it -/
theorem own_w {c m f : String} {C : Addr} {np : Nat} {x : E} {xs : List E} {σ : L2.St} {H : Hp} {Q : VK} {φ : Ph} {h : MH} {ρ : Env'} (hc : L.cls c = some C) (hn : ∀ ms h, P.cf f ms h ≠ .bad → ms.length = np) (R : Rel L φ h H) (En : EnvR L φ H ρ σ)
    (hf : ∀ v h1, evE P x ρ h = .ok v h1 → ∃ i fs, v = .ref i ∧ h1[i]? = some (.ins c fs) ∧ fs.lookup m = none ∧ P.mro c m = some f) (p : Post L φ H (vR L) (evE P (.own m x xs) ρ h) Q (fun c d H' => W c d σ H')) :
    tMethS C (Str.ofString m) (spOf L (P.cf f) np) (WE W) (tM L P W x) (tMs L P W xs) σ H Q := by
  refine ⟨φ, h, ρ, R, En, ?_⟩
  simp only [evE] at p
  cases e : evE P x ρ h with
  | bad => rw [e] at p; exact p
  | err c fs h1 => rw [e] at p; exact p
  | ok v h1 =>
    rw [e] at p
    obtain ⟨i, fs, rfl, hi, hl, hm⟩ := hf v h1 e
    have ho : ownFn P m (.ref i) h1 = some f := by
      simp only [ownFn, hi, hl, Option.isNone_none, if_pos, hm]
    simp only [bind_ok, ho] at p
    intro y H1 φ1 E1 R1 r1
    have p1 := Post.step E1 p
    obtain ⟨a, rfl, _, ob⟩ := R1.at hi r1
    cases ob with
    | ins hc' q rf =>
      rw [hc] at hc'; cases hc'
      refine ⟨a, _, _, rfl, q, rf.get.2 hl, φ1, h1, ρ, R1, En.mono E1, (Post.bind (rel0 := vRs L) p1).imp fun ys H2 ⟨φ2, h2, vs, E2, R2, r2, p2⟩ => ?_⟩
      have hb : P.cf f (.ref i :: vs) h2 ≠ .bad := fun z => by rw [z] at p2; exact p2
      have hl2 := hn _ _ hb
      refine ⟨?_, φ2, h2, .ref i :: vs, R2, .cons (r1.mono E2) r2, p2⟩
      rw [← hl2, List.length_cons, List.length_cons, r2.length]
theorem pe_ownM (S : Sx tb L P k X blk N sc W) {m : String} {o : Expr} {es : List Expr} {x : E} {xs : List E} {ap cp : Pos} (hm : tb.own.contains m = true) (ok : okB o = true) (hline : (ap.endLine == cp.line) = true) (hl : es.length < 20) (oks : es.all okE = true) (el : es = [] → xs = [])
    (ho : PE X o (tM L P W x)) (ha : PA X es (tMs L P W xs)) : PE X (.Call (.Attribute o (Str.ofString m) ap) es [] cp) (tM L P W (.own m x xs)) := by
  obtain ⟨c0, f0, h0⟩ := S.pr.own m hm
  have ht := okB_meth ok (Str.ofString m) hline hl oks X.env
  have rule : ∀ i : { i : String × String // P.mro i.1 m = some i.2 }, PE X (.Call (.Attribute o (Str.ofString m) ap) es [] cp) (fun σ H Q => ∃ (C : Addr) (np : Nat), L.cls i.1.1 = some C ∧ (∀ ms h, P.cf i.1.2 ms h ≠ .bad → ms.length = np) ∧ tMethS C (Str.ofString m) (spOf L (P.cf i.1.2) np) (WE W) (tM L P W x) (tMs L P W xs) σ H Q) := fun ⟨⟨c, f⟩, hi⟩ => by
    obtain ⟨C, a, fd, ps, e1, e2, e3, e4, e5, e6⟩ := S.pr.mro c m f hi
    rw [← S.hK] at e2 e3 e4 e5
    have np_eq : ∀ np, (∀ ms h, P.cf f ms h ≠ .bad → ms.length = np) → ∀ vs H Q E, spOf L (P.cf f) np vs H Q E → spOf L (P.cf f) ps.length vs H Q E := fun np hn vs H Q E ⟨q1, φ, h, ms, q2, q3, q4⟩ => by
      have hb : P.cf f ms h ≠ .bad := fun z => by rw [z] at q4; exact q4
      refine ⟨?_, φ, h, ms, q2, q3, q4⟩
      rw [q1, ← hn _ _ hb, e6 _ _ hb]
    cases es with
    | nil =>
      have := el rfl
      subst this
      refine PE.weak (pe_methS0 (E := WE W) ho e2 e3 e5 S.rm e4 (fun σ => passAt S.tk σ) ht) fun σ H Q ⟨C', np, z1, z2, φ, h, ρ, R, En, q⟩ => ?_
      simp only at z1
      rw [e1] at z1; cases z1
      refine ⟨φ, h, ρ, R, En, q.imp fun y H1 ⟨a, dx, fs, w1, w2, w3, w4⟩ => ⟨a, dx, fs, w1, w2, w3, ?_⟩⟩
      obtain ⟨φ1, h1, ρ1, R1, En1, w4⟩ := w4
      simp only [evEs] at w4
      exact np_eq np z2 _ _ _ _ (w4 [] H1 φ1 Ext.refl R1 .nil)
    | cons e es =>
      simp only [List.all_cons, Bool.and_eq_true] at oks
      refine PE.weak (pe_methS (E := WE W) ho e2 e3 e5 S.rm e4 (fun σ => passAt S.tk σ) ha (okE_star oks.1 _ _) (okEs_any oks.2 _ _) ht) fun σ H Q ⟨C', np, z1, z2, φ, h, ρ, R, En, q⟩ => ?_
      simp only at z1
      rw [e1] at z1; cases z1
      refine ⟨φ, h, ρ, R, En, q.imp fun y H1 ⟨a, dx, fs, w1, w2, w3, w4⟩ => ⟨a, dx, fs, w1, w2, w3, ?_⟩⟩
      obtain ⟨φ1, h1, ρ1, R1, En1, w4⟩ := w4
      exact ⟨φ1, h1, ρ1, R1, En1, w4.imp fun vs H2 w5 => np_eq np z2 _ _ _ _ w5⟩
  refine PE.weak (PE.exi rule) fun σ H Q ⟨φ, h, ρ, R, En, p⟩ => ?_
  have go : ∀ c f, P.mro c m = some f → (∀ v h1, evE P x ρ h = .ok v h1 → ∃ i fs, v = .ref i ∧ h1[i]? = some (.ins c fs) ∧ fs.lookup m = none ∧ P.mro c m = some f) → ∃ i : { i : String × String // P.mro i.1 m = some i.2 }, ∃ (C : Addr) (np : Nat), L.cls i.1.1 = some C ∧ (∀ ms h, P.cf i.1.2 ms h ≠ .bad → ms.length = np) ∧ tMethS C (Str.ofString m) (spOf L (P.cf i.1.2) np) (WE W) (tM L P W x) (tMs L P W xs) σ H Q := fun c f hi hv => by
    obtain ⟨C, a, fd, ps, e1, e2, e3, e4, e5, e6⟩ := S.pr.mro c m f hi
    exact ⟨⟨(c, f), hi⟩, C, ps.length, e1, e6, own_w e1 e6 R En hv p⟩
  cases e : evE P x ρ h with
  | bad => simp only [evE, e] at p; exact False.elim p
  | err c fs h1 => exact go c0 f0 h0 fun v h1 z => by rw [e] at z; cases z
  | ok v h1 =>
    have p' := p
    simp only [evE, e, bind_ok] at p'
    cases eo : ownFn P m v h1 with
    | none => rw [eo] at p'; exact False.elim p'
    | some f =>
      cases v <;> first | (simp [ownFn] at eo; done) | skip
      rename_i i
      simp only [ownFn] at eo
      split at eo
      · rename_i c fs hi
        by_cases hn : (fs.lookup m).isNone = true
        · rw [if_pos hn] at eo
          exact go c f eo fun v2 h2 z => by
            rw [e] at z; cases z
            exact ⟨i, fs, rfl, hi, by simpa using hn, eo⟩
        · rw [if_neg hn] at eo; cases eo
      · cases eo
theorem pe_newM (S : Sx tb L P k X blk N sc W) {c : String} {es : List Expr} {xs : List E} {p pos : Pos} (hg : Mn.gl sc (Str.ofString c) = true) (hm : tb.mks.contains c = true) (hc : spC (Str.ofString c) = true) (oks : es.all okE = true) (el : es = [] → xs = [])
    (ha : PA X es (tMs L P W xs)) : PE X (.Call (.Name (Str.ofString c) p) es [] pos) (tM L P W (.new c xs)) := by
  obtain ⟨C, a, f, e1, e2, M, e3⟩ := S.pr.mks c hm
  obtain ⟨C', a', fd, ps, g1, g2, g3, g4, g5, g6⟩ := S.pr.mro c "__init__" f e3
  rw [e1] at g1; cases g1
  have ea : a' = a := by
    have z1 := g3.at_
    have z2 := M.init
    have z1 : PySem.W.findIn L.K (.ref C) (Str.ofString "__init__") = some (some (.ref a')) := z1
    rw [show (Str.ofString "__init__") = ("__init__" : Str) from rfl, z2] at z1
    cases z1; rfl
  subst ea
  unfold spC at hc
  simp only [Bool.and_eq_true, Bool.not_eq_true'] at hc
  rw [← S.hK] at M g4 g5
  have fin : ∀ σ H Q, tM L P W (.new c xs) σ H Q → tMakeS C (spOf L (P.cf f) ps.length) (WE W) (tMs L P W xs) σ H Q := fun σ H Q ⟨φ, h, ρ, R, En, p⟩ => by
    simp only [evE] at p
    refine ⟨φ, h, ρ, R, En, (Post.bind (rel0 := vRs L) p).imp fun ys H1 ⟨φ1, h1, vs, E1, R1, r1, p1⟩ => ?_⟩
    simp only [newObj, e3] at p1
    intro x dx hx hdx ne
    have hb : P.cf f (.ref h1.length :: vs) (h1 ++ [.ins c []]) ≠ .bad := fun z => by rw [z] at p1; exact p1
    have E2 : Ext L φ1 H1 φ1 (upd H1 dx (.own x)) := Ext.side hdx
    have R2 := R1.side (o := .own x) hdx
    have hx2 : (upd H1 dx (.own x)) x = none := by rw [upd_ne (Ne.symm ne)]; exact hx
    have E3 : Ext L φ1 (upd H1 dx (.own x)) (φ1 ++ [(true, x)]) (upd (upd H1 dx (.own x)) x (.ins C dx [])) := Ext.alloc hx2
    have R3 := R2.alloc (o := .ins C dx []) (ob := .ins c []) hx2 (fun _ z => by cases z) (.ins e1 upd_same .nil)
    have hl2 := g6 _ _ hb
    refine ⟨?_, _, _, .ref h1.length :: vs, R3, .cons (.ref ⟨true, by rw [← R1.len]; simp⟩) (r1.mono (E2.trans E3)), ?_⟩
    · rw [← hl2, List.length_cons, List.length_cons, r1.length]
    · have p2 := Post.step (E2.trans E3) p1
      cases e : P.cf f (.ref h1.length :: vs) (h1 ++ [.ins c []]) with
      | bad => exact absurd e hb
      | err cc fs h2 => rw [e] at p2; exact p2
      | ok v h2 =>
        rw [e, bind_ok] at p2
        intro y H2 φ2 E4 R4 r4
        have p3 := Post.step E4 p2
        cases v <;> first | exact False.elim p3 | skip
        refine ⟨r4.nonI, p3 (.ref x) H2 φ2 Ext.refl R4 (.ref ⟨true, ?_⟩)⟩
        exact E4.pre _ _ (by rw [← R1.len]; simp)
  cases es with
  | nil =>
    have := el rfl
    subst this
    refine PE.weak (pe_makeS0 (E := WE W) M g5 S.room (S.gl hg) e2 g4 (fun σ => passAt S.tk σ) hc.1.1) fun σ H Q q => ?_
    obtain ⟨φ, h, ρ, R, En, q⟩ := fin σ H Q q
    simp only [evEs] at q
    exact q [] H φ Ext.refl R .nil
  | cons e es =>
    simp only [List.all_cons, Bool.and_eq_true] at oks
    exact PE.weak (pe_makeS (E := WE W) M g5 S.room (S.gl hg) e2 g4 (fun σ => passAt S.tk σ) ha hc.1.1 (okE_star oks.1 _ _) (okEs_any oks.2 _ _)) fin
/-- C.m(..), C a class, m a def of it -/
theorem pe_clsM (S : Sx tb L P k X blk N sc W) {c m f : String} {es : List Expr} {xs : List E} {np ap cp : Pos} (hg : Mn.gl sc (Str.ofString c) = true) (hc : spC (Str.ofString c) = true) (hm : tb.cm.lookup (c, m) = some f) (hline : (ap.endLine == cp.line) = true) (hl : es.length < 20) (oks : es.all okE = true) (el : es = [] → xs = [])
    (ha : PA X es (tMs L P W xs)) : PE X (.Call (.Attribute (.Name (Str.ofString c) np) (Str.ofString m) ap) es [] cp) (tM L P W (.call f xs)) := by
  obtain ⟨C, mc, a, fd, ps, e1, e2, e3, e4, e5, e6, e7⟩ := S.pr.cm c m f hm
  have ht := okB_meth (o := .Name (Str.ofString c) np) rfl (Str.ofString m) hline hl oks X.env
  unfold spC at hc
  simp only [Bool.and_eq_true, Bool.not_eq_true'] at hc
  rw [← S.hK] at e2 e3 e4 e5 e6
  have hN : PE X (.Name (Str.ofString c) np) (tC (.ref C)) := pe_glob (S.gl hg) e1 rfl hc.1.1
  have get : ∀ {pins : List (Addr × Obj)} {σ : L2.St} {H : Hp} {s : Shared} {Q : Value × List Value → Shared → Prop}, Inv X pins σ H s → (∀ s', Inv X pins σ H s' → Q (.ref a, []) s') → wpAny (model X.prog X.w) X.A (getMethod (.ref C) (Str.ofString m) (plainOfM (.Name (Str.ofString c) np) X.env)) Q X.xe s := fun I h =>
    PySem.W.method_cls I.kIn e2.ga (ClX.getcval_ok I e2 (v := .ref a) ⟨e3, rfl⟩ h)
  cases es with
  | nil =>
    have := el rfl
    subst this
    refine ⟨fun pins s σ H Q I q => ?_⟩
    obtain ⟨φ, h, ρ, R, En, q⟩ := sp_of e7 q
    simp only [evEs] at q
    have q := q [] H φ Ext.refl R .nil
    refine PySem.W.methodCall_KW (pl := plainOfM (.Name (Str.ofString c) np) X.env) (thn (hN.run pins s σ H (fun v H1 => v = .ref C ∧ H1 = H) I ⟨rfl, rfl⟩) fun u s1 ⟨x, H1, I1, rx, ex, eH⟩ => ?_) ht
    subst ex eH
    obtain rfl : u = Value.ref C := rx
    exact get I1 fun s2 I2 => PySem.W.callWith_K0 (first := []) I2.kIn e4 (run_fnS (E := WE W) (us := []) (vs := []) e6 S.rm e5 (passAt S.tk σ) I2 .nil q)
  | cons e es =>
    simp only [List.all_cons, Bool.and_eq_true] at oks
    refine ⟨fun pins s σ H Q I q => ?_⟩
    have q := sp_of e7 q
    refine PySem.W.methodCall_KW (pl := plainOfM (.Name (Str.ofString c) np) X.env) (thn (hN.run pins s σ H (fun v H1 => v = .ref C ∧ H1 = H) I ⟨rfl, rfl⟩) fun u s1 ⟨x, H1, I1, rx, ex, eH⟩ => ?_) ht
    subst ex eH
    obtain rfl : u = Value.ref C := rx
    exact get I1 fun s2 I2 => PySem.W.callWith_K (first := []) (h₀ := X.base) I2.ok.mod.kin e4 (thn (ha.run cp pins s2 σ _ _ I2 q) fun us s3 ⟨vs, H2, I3, r, q2⟩ => ⟨I3.kIn, run_fnS (E := WE W) e6 S.rm e5 (passAt S.tk σ) I3 r q2⟩) (okE_star oks.1 _ _) (okEs_any oks.2 _ _)
end
end Mn
/-! Mini: the translator is right: expressions -/
namespace Mn
open PySem PySem.Spec PyProof.Rows L2
section
variable {tb : Tb} {L : Lk} {P : Pg} {k : Nat}
def GoodE (tb : Tb) (L : Lk) (P : Pg) (k : Nat) (n : Nat) : Prop := ∀ blk N sc X W e m, Sx tb L P k X blk N sc W → trE tb n blk N sc e = some m → okE e = true ∧ PE X e (tM L P W m) ∧ PT X e (tMT L P W m)
def GoodEs (tb : Tb) (L : Lk) (P : Pg) (k : Nat) (n : Nat) : Prop := ∀ blk N sc X W es ms, Sx tb L P k X blk N sc W → trEs tb n blk N sc es = some ms → es.all okE = true ∧ PA X es (tMs L P W ms) ∧ ms.length = es.length
def GoodO (tb : Tb) (L : Lk) (P : Pg) (k : Nat) (n : Nat) : Prop := ∀ blk N sc X W e m, Sx tb L P k X blk N sc W → trO tb n blk N sc e = some m → PO X e (tMO L P W m)
def GoodB (tb : Tb) (L : Lk) (P : Pg) (k : Nat) (n : Nat) : Prop := ∀ blk N sc X W op a r m pos, Sx tb L P k X blk N sc W → trBool tb n blk N sc op a r = some m → PE X (.BoolOp op (a :: r) pos) (tM L P W m) ∧ PW X (.BoolOp op (a :: r) pos) (tMT L P W m)
def GoodI (tb : Tb) (L : Lk) (P : Pg) (k : Nat) (n : Nat) : Prop := ∀ blk N sc X W tg e kk es, Sx tb L P k X blk N sc W → trI tb n blk N sc tg e = some (kk, es) → okE e = true ∧ PI X tg e (wI L P W kk es)
variable {blk : Bool} {N : List Str} {sc : Scope} {X : Cx} {W : WX} {n : Nat}
theorem el_of {es : List Expr} {xs : List E} (h : xs.length = es.length) : es = [] → xs = [] := fun e => by subst e; simpa using h
theorem pt_of {e : Expr} {m : E} (h : PE X e (tM L P W m)) (he : ∀ whole, isTrue e X.env whole = (do let v ← whole; standAt e.pos; holding [v] (truthy v))) : PT X e (tMT L P W m) := PT.weak (pt_val h he) fun _ _ _ q => q
theorem plainE {e : Expr} {m : E} (ok : okE e = true) (q : PE X e (tM L P W m)) (he : ∀ whole, isTrue e X.env whole = (do let v ← whole; standAt e.pos; holding [v] (truthy v))) : okE e = true ∧ PE X e (tM L P W m) ∧ PT X e (tMT L P W m) := ⟨ok, q, pt_of q he⟩
theorem good_es (h1 : GoodE tb L P k n) (h2 : GoodEs tb L P k n) : GoodEs tb L P k (n + 1) := by
  intro blk N sc X W es ms S h
  simp only [trEs] at h
  cases es with
  | nil => cases h; exact ⟨rfl, pa_nilM, rfl⟩
  | cons e r =>
    simp only at h
    split at h
    · rename_i x xs e1 e2
      cases h
      obtain ⟨a1, a2, _⟩ := h1 _ _ _ _ _ _ _ S e1
      obtain ⟨b1, b2, b3⟩ := h2 _ _ _ _ _ _ _ S e2
      exact ⟨by simp [a1, b1], pa_consM a1 a2 b2, by simp [b3]⟩
    · cases h
theorem good_o (h1 : GoodE tb L P k n) : GoodO tb L P k (n + 1) := by
  intro blk N sc X W o m S h
  simp only [trO] at h
  cases o with
  | none => cases h; exact po_noneM
  | some e =>
    simp only at h
    obtain ⟨x, e1, rfl⟩ := Option.map_eq_some_iff.mp h
    exact po_someM (h1 _ _ _ _ _ _ _ S e1).2.1
theorem good_b (h1 : GoodE tb L P k n) (h2 : GoodB tb L P k n) : GoodB tb L P k (n + 1) := by
  intro blk N sc X W op a r m pos S h
  simp only [trBool] at h
  cases r with
  | nil =>
    simp only at h
    obtain ⟨_, b, c⟩ := h1 _ _ _ _ _ _ _ S h
    refine ⟨pe_one b, ?_⟩
    cases op with
    | And => exact pw_and1 c
    | Or => exact pw_or1 c
  | cons b r' =>
    simp only at h
    split at h
    · rename_i x y e1 e2
      obtain ⟨_, a2, a3⟩ := h1 _ _ _ _ _ _ _ S e1
      obtain ⟨b1, b2⟩ := h2 _ _ _ _ _ _ _ _ _ pos S e2
      cases op with
      | And => cases h; exact ⟨pe_andM a2 b1, pw_andM a3 b2⟩
      | Or => cases h; exact ⟨pe_orM a2 b1, pw_orM a3 b2⟩
    · cases h
theorem itName_ok {x : Str} {args : List Expr} {tg : Expr} {kk : ItK} (h : itName x args tg = some kk) :
    (toS x = "range" ∧ kk = .rng ∧ (args.length = 1 ∨ args.length = 2 ∨ args.length = 3)) ∨ (toS x = "enumerate" ∧ kk = .enm ∧ (∃ a, args = [a]) ∧ isTup tg = true) ∨ (toS x = "zip" ∧ kk = .zip ∧ (∃ a b, args = [a, b]) ∧ isTup tg = true) ∨ (toS x = "reversed" ∧ kk = .rev ∧ ∃ a, args = [a]) := by
  unfold itName at h
  split at h
  · rename_i e
    split at h
    · rename_i c
      cases h; exact .inl ⟨e, rfl, c⟩
    · cases h
  · rename_i a e
    by_cases c : isTup tg = true
    · rw [if_pos c] at h; cases h; exact .inr (.inl ⟨e, rfl, ⟨a, rfl⟩, c⟩)
    · rw [if_neg c] at h; cases h
  · rename_i a b e
    by_cases c : isTup tg = true
    · rw [if_pos c] at h; cases h; exact .inr (.inr (.inl ⟨e, rfl, ⟨a, b, rfl⟩, c⟩))
    · rw [if_neg c] at h; cases h
  · rename_i a e
    cases h; exact .inr (.inr (.inr ⟨e, rfl, a, rfl⟩))
  · cases h
theorem good_i (h1 : GoodE tb L P k n) (h2 : GoodEs tb L P k n) : GoodI tb L P k (n + 1) := by
  intro blk N sc X W tg e kk es S h
  have plain : ∀ {e}, (trE tb n blk N sc e).map (fun x => (ItK.val, [x])) = some (kk, es) → okE e = true ∧ PI X tg e (wI L P W kk es) := fun {e} h => by
    obtain ⟨x, e1, e2⟩ := Option.map_eq_some_iff.mp h
    cases e2
    obtain ⟨a, b, _⟩ := h1 _ _ _ _ _ _ _ S e1
    exact ⟨a, pi_valM S b⟩
  simp only [trI] at h
  split at h
  · rename_i f p args cp
    by_cases g : gl sc f = true
    · rw [if_pos g] at h
      split at h
      · rename_i k2 hk
        split at h
        · cases h
        · rename_i s hs
          obtain ⟨xs, e1, e2⟩ := Option.map_eq_some_iff.mp h
          cases e2
          obtain ⟨a1, a2, a3⟩ := h2 _ _ _ _ _ _ _ S e1
          have hf : f = Str.ofString (toS f) := by
            unfold nmS at hs
            by_cases c : Str.ofString (toS f) = f
            · exact c.symm
            · rw [if_neg c] at hs; cases hs
          refine ⟨rfl, ?_⟩
          rcases itName_ok hk with ⟨e, rfl, c⟩ | ⟨e, rfl, ⟨a, rfl⟩, c⟩ | ⟨e, rfl, ⟨a, b, rfl⟩, c⟩ | ⟨e, rfl, a, rfl⟩
          · rw [e] at hf; subst hf
            exact pi_rngM S g c a3 a1 a2
          · rw [e] at hf; subst hf
            cases tg <;> first | (cases c; done) | skip
            simp only [List.all_cons, List.all_nil, Bool.and_true] at a1
            exact pi_enumM S g a3 a1 a2
          · rw [e] at hf; subst hf
            cases tg <;> first | (cases c; done) | skip
            simp only [List.all_cons, List.all_nil, Bool.and_true, Bool.and_eq_true] at a1
            exact pi_zipM S g a3 a1.1 a1.2 a2
          · rw [e] at hf; subst hf
            simp only [List.all_cons, List.all_nil, Bool.and_true] at a1
            exact pi_revM S g a3 a1 a2
      · exact plain h
    · rw [if_neg g] at h; cases h
  · rename_i o mm ap cp
    by_cases c : (okB o && (ap.endLine == cp.line) && isTup tg && decide (mm = Str.ofString "items")) = true
    · rw [if_pos c] at h
      obtain ⟨x, e1, e2⟩ := Option.map_eq_some_iff.mp h
      cases e2
      simp only [Bool.and_eq_true] at c
      have em := of_decide_eq_true c.2
      subst em
      have ct := c.1.2
      cases tg <;> first | (cases ct; done) | skip
      exact ⟨rfl, pi_itemsM c.1.1.1 c.1.1.2 (h1 _ _ _ _ _ _ _ S e1).2.1⟩
    · rw [if_neg c] at h
      exact plain h
  · exact plain h
/-! the expressions -/
theorem mtOf_ok {s : String} {j : Nat} {m : Mt} (h : mtOf s j = some m) : (s = "append" ∧ m = .append) ∨ (s = "extend" ∧ m = .extend) ∨ (s = "pop" ∧ (m = .pop ∨ m = .popAt)) ∨ (s = "clear" ∧ m = .clear) ∨ (s = "bit_length" ∧ m = .bitlen ∧ j = 0) ∨ (s = "index" ∧ m = .index) ∨ (s = "insert" ∧ m = .insert) ∨ (s = "join" ∧ m = .join) ∨ (s = "split" ∧ m = .split) ∨ (s = "partition" ∧ m = .partition) ∨ (s = "find" ∧ m = .find) ∨ (s = "upper" ∧ m = .upper) ∨ (s = "get" ∧ m = .get ∧ j = 1) := by
  unfold mtOf at h
  split at h <;> cases h <;> simp
theorem pe_mthM (S : Sx tb L P k X blk N sc W) {s : String} {m : Mt} {o : Expr} {es : List Expr} {x : E} {xs : List E} {ap cp : Pos} (hm : mtOf s es.length = some m) (ok : okB o = true) (hline : (ap.endLine == cp.line) = true) (hl : es.length < 20) (oks : es.all okE = true) (el : es = [] → xs = [])
    (ho : PE X o (tM L P W x)) (ha : PA X es (tMs L P W xs)) : PE X (.Call (.Attribute o (Str.ofString s) ap) es [] cp) (tM L P W (.mth m x xs)) := by
  rcases mtOf_ok hm with ⟨rfl, rfl⟩ | ⟨rfl, rfl⟩ | ⟨rfl, rfl | rfl⟩ | ⟨rfl, rfl⟩ | ⟨rfl, rfl, hz⟩ | ⟨rfl, rfl⟩ | ⟨rfl, rfl⟩ | ⟨rfl, rfl⟩ | ⟨rfl, rfl⟩ | ⟨rfl, rfl⟩ | ⟨rfl, rfl⟩ | ⟨rfl, rfl⟩ | ⟨rfl, rfl, hz⟩
  · exact pe_lmM S (.inl rfl) PySem.F.slot_list_append PySem.F.type_list_append mt_appendX ok hline hl oks el ho ha
  · exact pe_lmM S (.inr (.inl rfl)) PySem.F.slot_list_extend PySem.F.type_list_extend mt_extendX ok hline hl oks el ho ha
  · exact pe_lmM S (.inr (.inr (.inl rfl))) PySem.F.slot_list_pop PySem.F.type_list_pop mt_popX ok hline hl oks el ho ha
  · exact pe_lmM S (.inr (.inr (.inr (.inl rfl)))) PySem.F.slot_list_pop PySem.F.type_list_pop mt_popAtX ok hline hl oks el ho ha
  · exact pe_lmM S (.inr (.inr (.inr (.inr (.inl rfl))))) PySem.F.slot_list_clear PySem.F.type_list_clear mt_clearX ok hline hl oks el ho ha
  · obtain rfl : es = [] := List.eq_nil_of_length_eq_zero hz
    obtain rfl := el rfl
    exact pe_bitM S ok hline ho
  · exact pe_lmM S (.inr (.inr (.inr (.inr (.inr (.inl rfl)))))) PySem.F.slot_list_index PySem.F.type_list_index (mt_indexX S.hK S.units65) ok hline hl oks el ho ha
  · exact pe_lmM S (.inr (.inr (.inr (.inr (.inr (.inr rfl)))))) PySem.F.slot_list_insert PySem.F.type_list_insert mt_insertX ok hline hl oks el ho ha
  · exact pe_smM S (.inl rfl) PySem.F.slot_str_join PySem.F.type_str_join (mt_joinX S.hK) ok hline hl oks el ho ha
  · exact pe_smM S (.inr (.inl rfl)) PySem.F.slot_str_split PySem.F.type_str_split mt_splitX ok hline hl oks el ho ha
  · exact pe_smM S (.inr (.inr (.inl rfl))) PySem.F.slot_str_partition PySem.F.type_str_partition mt_partitionX ok hline hl oks el ho ha
  · exact pe_smM S (.inr (.inr (.inr (.inl rfl)))) PySem.F.slot_str_find PySem.F.type_str_find mt_findX ok hline hl oks el ho ha
  · exact pe_smM S (.inr (.inr (.inr (.inr rfl)))) PySem.F.slot_str_upper PySem.F.type_str_upper mt_upperX ok hline hl oks el ho ha
  · match es, hz with
    | [e], _ =>
      have oke : okE e = true := by simpa using oks
      exact pe_dgX S ok hline oke ho ha
theorem good_e (h1 : GoodE tb L P k n) (h2 : GoodEs tb L P k n) (h3 : GoodO tb L P k n) (h4 : GoodB tb L P k n) (h5 : GoodI tb L P k n) : GoodE tb L P k (n + 1) := by
  intro blk N sc X W e m S h
  simp only [trE] at h
  split at h
  · -- a name
    rename_i x pos
    by_cases c : spC x = true
    · rw [if_pos c] at h
      have nm : ∀ (q : PE X (.Name x pos) (tM L P W m)), okE (.Name x pos) = true ∧ PE X (.Name x pos) (tM L P W m) ∧ PT X (.Name x pos) (tMT L P W m) := fun q => ⟨rfl, q, pt_of q fun _ => rfl⟩
      split at h
      · rename_i hv
        obtain ⟨i, e1, rfl⟩ := Option.map_eq_some_iff.mp h
        exact nm (pe_varM S.toSy e1 (.inl hv) c)
      · rename_i hv
        obtain ⟨i, e1, rfl⟩ := Option.map_eq_some_iff.mp h
        exact nm (pe_varM S.toSy e1 (.inr (.inl hv)) c)
      · rename_i hv
        obtain ⟨i, e1, rfl⟩ := Option.map_eq_some_iff.mp h
        exact nm (pe_varM S.toSy e1 (.inr (.inr hv)) c)
      · rename_i hv
        split at h
        · rename_i s hs
          by_cases c2 : tb.glb.contains s = true
          · rw [if_pos c2] at h; cases h
            have e := nmS_ok hs
            subst e
            exact nm (pe_glbM S (decide_eq_true hv) c2 c)
          · rw [if_neg c2] at h; cases h
        · cases h
      · cases h
    · rw [if_neg c] at h; cases h
  · obtain ⟨v, e1, rfl⟩ := Option.map_eq_some_iff.mp h
    exact ⟨rfl, pe_con e1, pt_of (pe_con e1) fun _ => rfl⟩
  · split at h
    · rename_i x y e1 e2
      cases h
      exact plainE rfl (pe_binM S (h1 _ _ _ _ _ _ _ S e1).2.1 (h1 _ _ _ _ _ _ _ S e2).2.1) fun _ => rfl
    · cases h
  · obtain ⟨x, e1, rfl⟩ := Option.map_eq_some_iff.mp h
    obtain ⟨_, a, b⟩ := h1 _ _ _ _ _ _ _ S e1
    exact ⟨rfl, pe_notM a, pt_notM b⟩
  · obtain ⟨x, e1, rfl⟩ := Option.map_eq_some_iff.mp h
    obtain ⟨_, a, b⟩ := h1 _ _ _ _ _ _ _ S e1
    exact ⟨rfl, pe_negM a, pt_of (pe_negM a) fun _ => rfl⟩
  · obtain ⟨a, b⟩ := h4 _ _ _ _ _ _ _ _ _ _ S h
    exact ⟨rfl, a, b.pt⟩
  · -- a comparison
    split at h
    · rename_i x y e1 e2
      obtain ⟨_, a2, _⟩ := h1 _ _ _ _ _ _ _ S e1
      obtain ⟨b1, b2, _⟩ := h1 _ _ _ _ _ _ _ S e2
      split at h
      · cases h; exact ⟨rfl, pe_isNM a2, pt_isNM a2⟩
      · cases h; exact ⟨rfl, pe_notNM a2, pt_notNM a2⟩
      · cases h; exact ⟨rfl, pe_isBM a2, pt_isBM a2⟩
      · cases h; exact ⟨rfl, pe_notBM a2, pt_notBM a2⟩
      · cases h
      · cases h
      · cases h
        obtain ⟨c1, c2⟩ := pe_cmpAll S b1 a2 b2
        exact ⟨rfl, c1, c2⟩
    · cases h
  · split at h
    · rename_i x y z e1 e2 e3
      obtain ⟨_, a2, _⟩ := h1 _ _ _ _ _ _ _ S e1
      obtain ⟨b1, b2, _⟩ := h1 _ _ _ _ _ _ _ S e2
      obtain ⟨c1, c2, _⟩ := h1 _ _ _ _ _ _ _ S e3
      split at h
      · cases h
        obtain ⟨d1, d2⟩ := pe_chnM (o1 := .LtE) (o2 := .LtE) S ⟨by decide, by decide⟩ ⟨by decide, by decide⟩ b1 c1 a2 b2 c2
        exact ⟨rfl, d1, d2⟩
      · cases h
    · cases h
  · obtain ⟨x, e1, rfl⟩ := Option.map_eq_some_iff.mp h
    exact plainE rfl (pe_lstM (h2 _ _ _ _ _ _ _ S e1).2.1) fun _ => rfl
  · obtain ⟨x, e1, rfl⟩ := Option.map_eq_some_iff.mp h
    exact plainE rfl (pe_tupM (h2 _ _ _ _ _ _ _ S e1).2.1) fun _ => rfl
  · split at h
    · rename_i x l u e1 e2 e3
      cases h
      exact plainE rfl (pe_slcM S (h1 _ _ _ _ _ _ _ S e1).2.1 (h3 _ _ _ _ _ _ _ S e2) (h3 _ _ _ _ _ _ _ S e3)) fun _ => rfl
    · cases h
  · split at h
    · rename_i x y e1 e2
      cases h
      obtain ⟨b1, b2, _⟩ := h1 _ _ _ _ _ _ _ S e2
      exact plainE rfl (pe_idxM S b1 (h1 _ _ _ _ _ _ _ S e1).2.1 b2) fun _ => rfl
    · cases h
  · -- a call of a name
    rename_i f p args cp
    by_cases c : (gl sc f && spC f) = true
    · rw [if_pos c] at h
      simp only [Bool.and_eq_true] at c
      have nm : ∀ (q : PE X (.Call (.Name f p) args [] cp) (tM L P W m)), okE (.Call (.Name f p) args [] cp) = true ∧ PE X (.Call (.Name f p) args [] cp) (tM L P W m) ∧ PT X (.Call (.Name f p) args [] cp) (tMT L P W m) := fun q => ⟨rfl, q, pt_of q fun _ => rfl⟩
      split at h
      · cases h
      · rename_i s hs
        have e := nmS_ok hs
        subst e
        by_cases c1 : tb.fns.contains s = true
        · rw [if_pos c1] at h
          obtain ⟨xs, e1, rfl⟩ := Option.map_eq_some_iff.mp h
          obtain ⟨a1, a2, a3⟩ := h2 _ _ _ _ _ _ _ S e1
          exact nm (pe_callM S c.1 c1 c.2 a1 (el_of a3) a2)
        · rw [if_neg c1] at h
          by_cases c0 : tb.mks.contains s = true
          · rw [if_pos c0] at h
            obtain ⟨xs, e1, rfl⟩ := Option.map_eq_some_iff.mp h
            obtain ⟨a1, a2, a3⟩ := h2 _ _ _ _ _ _ _ S e1
            exact nm (pe_newM S c.1 c0 c.2 a1 (el_of a3) a2)
          rw [if_neg c0] at h
          by_cases c2 : tb.cls.contains s = true
          · rw [if_pos c2] at h; cases h
          · rw [if_neg c2] at h
            by_cases c3 : s = "isinstance"
            · rw [if_pos c3] at h
              subst c3
              split at h
              · rename_i a t p2
                split at h
                · rename_i x ts e1 e2
                  have e := nmS_ok e2
                  subst e
                  by_cases c4 : (gl sc (Str.ofString ts) && spC (Str.ofString ts) && tb.isi.contains ts) = true
                  · rw [if_pos c4] at h; cases h
                    simp only [Bool.and_eq_true] at c4
                    obtain ⟨a1, a2, _⟩ := h1 _ _ _ _ _ _ _ S e1
                    exact nm (pe_isiM S.toSy c.1 c4.1.1 c4.1.2 c4.2 a1 a2)
                  · rw [if_neg c4] at h; cases h
                · cases h
              · cases h
            · rw [if_neg c3] at h
              split at h
              · rename_i kk as hl
                by_cases cs : s = "list"
                · subst cs
                  rw [if_pos rfl] at hl
                  rcases lofOf_ok hl with ⟨a, p, pos, rfl, rfl, g, rfl⟩ | ⟨a, p, pos, rfl, rfl, g, rfl⟩ | ⟨a, b, p, pos, rfl, rfl, g, rfl⟩ | ⟨a, b, p, pos, rfl, rfl, g, rfl⟩
                  · obtain ⟨x, e1, rfl⟩ := Option.map_eq_some_iff.mp h
                    obtain ⟨a1, a2, _⟩ := h1 _ _ _ _ _ _ _ S e1
                    exact nm (pe_lofRev S c.1 g a1 a2)
                  · obtain ⟨x, e1, rfl⟩ := Option.map_eq_some_iff.mp h
                    obtain ⟨a1, a2, _⟩ := h1 _ _ _ _ _ _ _ S e1
                    exact nm (pe_lofR1 S c.1 g a1 a2)
                  · simp only at h
                    split at h
                    · rename_i x y e1 e2
                      by_cases cb : okE b = true
                      · rw [if_pos cb] at h
                        cases h
                        obtain ⟨a1, a2, _⟩ := h1 _ _ _ _ _ _ _ S e1
                        obtain ⟨b1, b2, _⟩ := h1 _ _ _ _ _ _ _ S e2
                        exact nm (pe_lofR2 S c.1 g a1 b1 a2 b2)
                      · rw [if_neg cb] at h; cases h
                    · cases h
                  · simp only at h
                    split at h
                    · rename_i x y e1 e2
                      by_cases cb : okE b = true
                      · rw [if_pos cb] at h
                        cases h
                        obtain ⟨a1, a2, _⟩ := h1 _ _ _ _ _ _ _ S e1
                        obtain ⟨b1, b2, _⟩ := h1 _ _ _ _ _ _ _ S e2
                        exact nm (pe_lofZip S c.1 g a1 b1 (pa_consM a1 a2 (pa_consM b1 b2 pa_nilM)))
                      · rw [if_neg cb] at h; cases h
                    · cases h
                · rw [if_neg cs] at hl; cases hl
              rename_i hno
              split at h
              · rename_i b e r xs hb he hx
                cases h
                obtain ⟨a1, a2, a3⟩ := h2 _ _ _ _ _ _ _ S hx
                exact nm (pe_biM S c.1 he a1 a2)
              · cases h
    · rw [if_neg c] at h; cases h
  · -- a method
    rename_i o mm ap args cp
    by_cases c : (okB o && (ap.endLine == cp.line) && decide (args.length < 20)) = true
    · rw [if_pos c] at h
      simp only [Bool.and_eq_true, decide_eq_true_eq] at c
      split at h
      · -- by the class
        rename_i f hcm
        obtain ⟨xs, e1, rfl⟩ := Option.map_eq_some_iff.mp h
        obtain ⟨a1, a2, a3⟩ := h2 _ _ _ _ _ _ _ S e1
        unfold cmOf at hcm
        split at hcm
        · rename_i x np
          by_cases cg : (gl sc x && spC x) = true
          · rw [if_pos cg] at hcm
            simp only [Bool.and_eq_true] at cg
            split at hcm
            · rename_i cc s q1 q2
              have z1 := nmS_ok q1
              have z2 := nmS_ok q2
              subst z1 z2
              have q := pe_clsM S cg.1 cg.2 hcm c.1.2 c.2 a1 (el_of a3) a2 (np := np)
              exact ⟨rfl, q, pt_of q fun _ => rfl⟩
            · cases hcm
          · rw [if_neg cg] at hcm; cases hcm
        · cases hcm
      split at h
      · rename_i s x es e1 e2 e3
        have e := nmS_ok e1
        subst e
        obtain ⟨a1, a2, a3⟩ := h2 _ _ _ _ _ _ _ S e3
        by_cases co : tb.own.contains s = true
        · rw [if_pos co] at h; cases h
          have q := pe_ownM S co c.1.1 c.1.2 c.2 a1 (el_of a3) (h1 _ _ _ _ _ _ _ S e2).2.1 a2
          exact ⟨rfl, q, pt_of q fun _ => rfl⟩
        rw [if_neg co] at h
        split at h
        · rename_i mt hm
          cases h
          have q := pe_mthM S hm c.1.1 c.1.2 c.2 a1 (el_of a3) (h1 _ _ _ _ _ _ _ S e2).2.1 a2
          exact ⟨rfl, q, pt_of q fun _ => rfl⟩
        · cases h
      · cases h
    · rw [if_neg c] at h; cases h
  · -- an attribute
    rename_i o f pos
    split at h
    · rename_i hok
      split at h
      · rename_i s x e1 e2
        cases h
        have e := nmS_ok e1
        subst e
        have q := pe_fldM (f := s) (pos := pos) S.toSy hok (h1 _ _ _ _ _ _ _ S e2).2.1
        exact ⟨rfl, q, pt_of q fun _ => rfl⟩
      · cases h
    · cases h
  · -- a comprehension
    rename_i elt tg iter ifs scope pos
    by_cases c : blkC N sc scope (ownOf N scope) = true
    · rw [if_pos c] at h
      split at h
      · rename_i kk es t x e1 e2 e3
        by_cases c2 : tgIn ((ownOf N scope).map (·.2)) t = true
        · rw [if_pos c2] at h
          obtain ⟨i1, i2⟩ := h5 _ _ _ _ _ _ _ _ _ S e1
          have ok : BlkOk X.N X.env.scope scope (ownOf N scope) := by rw [S.hN, S.hsc]; exact blkOk_by c
          have fin : ∀ (cond : Option E) (hm : m = .cmp1 ((ownOf N scope).map (·.2)) x t kk es cond) (ht : ∀ (s : Shared) (H : Hp) (C : Addr) (cl : List (Str × Addr)) (fp : List Addr), PTs (X.blk s H scope (compEnvC scope cl C X.env) fp) ifs (tCnd L P cond)),
              okE (.ListComp elt [⟨tg, iter, ifs, 0⟩] scope pos) = true ∧ PE X (.ListComp elt [⟨tg, iter, ifs, 0⟩] scope pos) (tM L P W m) ∧ PT X (.ListComp elt [⟨tg, iter, ifs, 0⟩] scope pos) (tMT L P W m) := fun cond hm ht => by
            subst hm
            have q : PE X (.ListComp elt [⟨tg, iter, ifs, 0⟩] scope pos) (tM L P W (.cmp1 ((ownOf N scope).map (·.2)) x t kk es cond)) :=
              PE.weak (pe_lc S.calm (by rw [S.hN]; exact S.nd) i2 ok (fun s H C cl fp => pg_M (S.block s H scope C cl fp) e2) ht (fun s H C cl fp => (h1 _ _ _ _ _ _ _ (S.block s H scope C cl fp) e3).2.1) (okE_folded i1 _)) fun _ _ _ q => compL_w S.hK c2 q
            exact ⟨rfl, q, pt_of q fun _ => rfl⟩
          split at h
          · cases h
            exact fin none rfl fun s H C cl fp => pts_nil
          · split at h
            · rename_i cc y ey
              cases h
              exact fin (some y) rfl fun s H C cl fp => pts_one (h1 _ _ _ _ _ _ _ (S.block s H scope C cl fp) ey).2.2
            · cases h
          · cases h
        · rw [if_neg c2] at h; cases h
      · cases h
    · rw [if_neg c] at h; cases h
  · cases h
    exact plainE rfl pe_dctM fun _ => rfl
  · -- an f-string
    obtain ⟨ms, e1, rfl⟩ := Option.map_eq_some_iff.mp h
    exact plainE rfl (pe_fstM S.toSy e1) fun _ => rfl
  · cases h
theorem good_all : ∀ n, GoodE tb L P k n ∧ GoodEs tb L P k n ∧ GoodO tb L P k n ∧ GoodB tb L P k n ∧ GoodI tb L P k n
  | 0 => ⟨(fun _ _ _ _ _ _ _ _ h => by simp only [trE] at h; cases h), (fun _ _ _ _ _ _ _ _ h => by simp only [trEs] at h; cases h), (fun _ _ _ _ _ _ _ _ h => by simp only [trO] at h; cases h), (fun _ _ _ _ _ _ _ _ _ _ _ h => by simp only [trBool] at h; cases h), (fun _ _ _ _ _ _ _ _ _ _ h => by simp only [trI] at h; cases h)⟩
  | n + 1 => by
    obtain ⟨a, b, c, d, e⟩ := good_all n
    exact ⟨good_e a b c d e, good_es a b, good_o a, good_b a d, good_i a b⟩
end
end Mn
/-! Mini: statements, construct by construct -/
namespace Mn
open PySem PySem.Spec PyProof.Rows L2
def PostS (L : Lk) (φ : Ph) (H : Hp) (r : SR) (D : Ends) (W : WX) : Prop := match r with
  | .nx ρ h => ∀ (σ' : L2.St) (H' : Hp) (φ' : Ph), Ext L φ H φ' H' → Rel L φ' h H' → EnvR L φ' H' ρ σ' → D.nx σ' H'
  | .bk ρ h => ∀ (σ' : L2.St) (H' : Hp) (φ' : Ph), Ext L φ H φ' H' → Rel L φ' h H' → EnvR L φ' H' ρ σ' → D.bk σ' H'
  | .ct ρ h => ∀ (σ' : L2.St) (H' : Hp) (φ' : Ph), Ext L φ H φ' H' → Rel L φ' h H' → EnvR L φ' H' ρ σ' → D.ct σ' H'
  | .rt v h => ∀ (x : V) (H' : Hp) (φ' : Ph), Ext L φ H φ' H' → Rel L φ' h H' → VR L φ' H' v x → D.rt x H'
  | .err c fs ρ h => ∀ (cls : Value) (d : Option Addr) (σ' : L2.St) (H' : Hp) (φ' : Ph), Ext L φ H φ' H' → Rel L φ' h H' → EnvR L φ' H' ρ σ' → ExR L φ' H' c fs cls d → W cls d σ' H'
  | .bad => False
def tS (L : Lk) (P : Pg) (W : WX) (s : S) : TS := fun D σ H => ∃ φ h ρ, Rel L φ h H ∧ EnvR L φ H ρ σ ∧ PostS L φ H (evS P s ρ h) D W
def tSs (L : Lk) (P : Pg) (W : WX) (s : List S) : TS := fun D σ H => ∃ φ h ρ, Rel L φ h H ∧ EnvR L φ H ρ σ ∧ PostS L φ H (evB P s ρ h) D W
section
variable {L : Lk} {φ φ1 : Ph} {H H1 : Hp} {r : SR} {D D' : Ends} {W : WX}
theorem PostS.step (e : Ext L φ H φ1 H1) (h : PostS L φ H r D W) : PostS L φ1 H1 r D W := by
  cases r with
  | nx ρ h' => exact fun σ H' φ' x R q => h σ H' φ' (e.trans x) R q
  | bk ρ h' => exact fun σ H' φ' x R q => h σ H' φ' (e.trans x) R q
  | ct ρ h' => exact fun σ H' φ' x R q => h σ H' φ' (e.trans x) R q
  | rt v h' => exact fun v H' φ' x R q => h v H' φ' (e.trans x) R q
  | err c fs ρ h' => exact fun cls d σ H' φ' x R q1 q => h cls d σ H' φ' (e.trans x) R q1 q
  | bad => exact h
theorem PostS.ofRes {α β : Type} {rel : Ph → Hp → α → β → Prop} {ρ : Env'} {σ : L2.St} {g : Res α} {f : α → MH → SR} (En : EnvR L φ H ρ σ) (h : PostS L φ H (.ofRes ρ g f) D W) :
    Post L φ H rel g (fun v H' => ∃ φ' h' a, Ext L φ H φ' H' ∧ Rel L φ' h' H' ∧ rel φ' H' a v ∧ PostS L φ' H' (f a h') D W) (fun c d H' => W c d σ H') := by
  cases g with
  | ok m h' => exact fun v H' φ' x R q => ⟨φ', h', m, x, R, q, PostS.step x h⟩
  | err c fs h' => exact fun cls d H' φ' x R q => h cls d σ H' φ' x R (En.mono x) q
  | bad => exact h
def Nxt (L : Lk) (φ : Ph) (H : Hp) (D : Ends) (W : WX) (f : Env' → MH → SR) : L2.St → Hp → Prop := fun σ' H' => ∃ φ' h' ρ', Ext L φ H φ' H' ∧ Rel L φ' h' H' ∧ EnvR L φ' H' ρ' σ' ∧ PostS L φ' H' (f ρ' h') D W
theorem PostS.seq {f : Env' → MH → SR} (h : PostS L φ H (r.seq f) D W) : PostS L φ H r { D with nx := Nxt L φ H D W f } W := by
  cases r with
  | nx ρ h' => exact fun σ H' φ' x R q => ⟨φ', h', ρ, x, R, q, PostS.step x h⟩
  | bk ρ h' => exact h
  | ct ρ h' => exact h
  | rt v h' => exact h
  | err c fs ρ h' => exact h
  | bad => exact h
def loopR (r : SR) (f : Env' → MH → SR) : SR := match r with
  | .nx ρ2 h2 => f ρ2 h2
  | .ct ρ2 h2 => f ρ2 h2
  | .bk ρ2 h2 => .nx ρ2 h2
  | .rt v h2 => .rt v h2
  | .err x fs ρ2 h2 => .err x fs ρ2 h2
  | .bad => .bad
theorem PostS.loop {f : Env' → MH → SR} (h : PostS L φ H (loopR r f) D W) : PostS L φ H r { D with nx := Nxt L φ H D W f, ct := Nxt L φ H D W f, bk := D.nx } W := by
  cases r with
  | nx ρ h' => exact fun σ H' φ' x R q => ⟨φ', h', ρ, x, R, q, PostS.step x h⟩
  | ct ρ h' => exact fun σ H' φ' x R q => ⟨φ', h', ρ, x, R, q, PostS.step x h⟩
  | bk ρ h' => exact h
  | rt v h' => exact h
  | err c fs ρ h' => exact h
  | bad => exact h
theorem PostS.mono {D' : Ends} (h : PostS L φ H r D W) (k1 : ∀ σ H, D.nx σ H → D'.nx σ H) (k2 : ∀ σ H, D.bk σ H → D'.bk σ H) (k3 : ∀ σ H, D.ct σ H → D'.ct σ H) (k4 : ∀ v H, D.rt v H → D'.rt v H) : PostS L φ H r D' W := by
  cases r with
  | nx ρ h' => exact fun σ H' φ' x R q => k1 _ _ (h σ H' φ' x R q)
  | bk ρ h' => exact fun σ H' φ' x R q => k2 _ _ (h σ H' φ' x R q)
  | ct ρ h' => exact fun σ H' φ' x R q => k3 _ _ (h σ H' φ' x R q)
  | rt v h' => exact fun v H' φ' x R q => k4 _ _ (h v H' φ' x R q)
  | err c fs ρ h' => exact h
  | bad => exact h
end
section
variable {tb : Tb} {L : Lk} {P : Pg} {k : Nat} {X : Cx} {blk : Bool} {N : List Str} {sc : Scope} {W : WX}
theorem pss_nilM : PSs X [] (tSs L P W []) := PSs.weak pss_nil fun D σ H ⟨φ, h, ρ, R, En, p⟩ => by
  simp only [evB] at p
  exact p σ H φ Ext.refl R En
theorem pss_consM {s : Stmt} {r : List Stmt} {x : S} {xs : List S} (h1 : PS X s (tS L P W x)) (h2 : PSs X r (tSs L P W xs)) : PSs X (s :: r) (tSs L P W (x :: xs)) := PSs.weak (pss_cons h1 h2) fun D σ H ⟨φ, h, ρ, R, En, p⟩ => by
  simp only [evB] at p
  exact ⟨φ, h, ρ, R, En, (PostS.seq p).mono (fun σ' H' ⟨φ', h', ρ', _, R', En', p'⟩ => ⟨φ', h', ρ', R', En', p'⟩) (fun _ _ z => z) (fun _ _ z => z) (fun _ _ z => z)⟩
theorem ps_expM {e : Expr} {x : E} {pos : Pos} (ok : okE e = true) (hl : ∀ a b c d, e ≠ .ListComp a b c d) (ha : PE X e (tM L P W x)) : PS X (.Expr e pos) (tS L P W (.exp x)) := PS.weak (ps_expr ha (okE_notSwap ok hl _ _ _)) fun D σ H ⟨φ, h, ρ, R, En, p⟩ => by
  simp only [evS] at p
  exact ⟨φ, h, ρ, R, En, (PostS.ofRes (rel := vR L) En p).imp fun v H1 ⟨φ1, h1, a, E1, R1, _, p1⟩ => p1 σ H1 φ1 Ext.refl R1 (En.mono E1)⟩
theorem ps_retM {e : Expr} {x : E} {pos : Pos} (ha : PE X e (tM L P W x)) : PS X (.Return (some e) pos) (tS L P W (.ret x)) := PS.weak (ps_ret ha) fun D σ H ⟨φ, h, ρ, R, En, p⟩ => by
  simp only [evS] at p
  exact ⟨φ, h, ρ, R, En, (PostS.ofRes (rel := vR L) En p).imp fun v H1 ⟨φ1, h1, a, E1, R1, r1, p1⟩ => p1 v H1 φ1 Ext.refl R1 r1⟩
theorem ps_retNM {pos : Pos} : PS X (.Return none pos) (tS L P W .retN) := PS.weak ps_retN fun D σ H ⟨φ, h, ρ, R, En, p⟩ => by
  simp only [evS] at p
  exact p .non H φ Ext.refl R .non
theorem ps_pasM {pos : Pos} : PS X (.Pass pos) (tS L P W .pas) := PS.weak ps_pass fun D σ H ⟨φ, h, ρ, R, En, p⟩ => by
  simp only [evS] at p
  exact p σ H φ Ext.refl R En
theorem ps_docM {x : Str} {j : Nat} {pos pos' : Pos} : PS X (.Expr (.Constant (.str x) j pos) pos') (tS L P W .pas) := PS.weak ps_doc fun D σ H ⟨φ, h, ρ, R, En, p⟩ => by
  simp only [evS] at p
  exact p σ H φ Ext.refl R En
theorem ps_brkM {pos : Pos} : PS X (.Break pos) (tS L P W .brk) := PS.weak ps_break fun D σ H ⟨φ, h, ρ, R, En, p⟩ => by
  simp only [evS] at p
  exact p σ H φ Ext.refl R En
theorem ps_cntM {pos : Pos} : PS X (.Continue pos) (tS L P W .cnt) := PS.weak ps_continue fun D σ H ⟨φ, h, ρ, R, En, p⟩ => by
  simp only [evS] at p
  exact p σ H φ Ext.refl R En
theorem ps_ifM {c : Expr} {x : E} {a b : List Stmt} {xa xb : List S} {pos : Pos} (hc : PT X c (tMT L P W x)) (ha : PSs X a (tSs L P W xa)) (hb : PSs X b (tSs L P W xb)) : PS X (.If c a b pos) (tS L P W (.ite x xa xb)) := PS.weak (ps_if hc ha hb) fun D σ H ⟨φ, h, ρ, R, En, p⟩ => by
  simp only [evS] at p
  refine ⟨φ, h, ρ, R, En, (PostS.ofRes (rel := vR L) En p).imp fun v H1 ⟨φ1, h1, a, E1, R1, r1, p1⟩ => ?_⟩
  cases a <;> first | exact False.elim p1 | skip
  rename_i bb
  refine ⟨bb, r1.blI, ?_⟩
  cases bb with
  | true => exact iteT ⟨φ1, h1, ρ, R1, En.mono E1, p1⟩
  | false => exact iteF ⟨φ1, h1, ρ, R1, En.mono E1, p1⟩
theorem gM_of {D : Ends} {σ : L2.St} {x : V} {t : Tg} {v : Val} {φ : Ph} {h : MH} {H : Hp} {ρ : Env'} (R : Rel L φ h H) (r : VR L φ H v x) (En : EnvR L φ H ρ σ) (p : PostS L φ H (match bindT t (unT t h v) ρ with
    | some ρ1 => .nx ρ1 h
    | none => .bad) D W) : gA L t x σ H D.nx := by
  cases e : bindT t (unT t h v) ρ with
  | none => rw [e] at p; exact False.elim p
  | some ρ1 =>
    rw [e] at p
    exact ⟨φ, h, ρ, ρ1, v, R, r, En, e, fun σ' En' _ _ => p σ' H φ Ext.refl R En'⟩
theorem asg_w {t : Tg} {x : E} {D : Ends} {σ : L2.St} {H : Hp} (q : tS L P W (.asg t x) D σ H) : tAsg (tM L P W x) (gA L t) D σ H := by
  obtain ⟨φ, h, ρ, R, En, p⟩ := q
  simp only [evS] at p
  exact ⟨φ, h, ρ, R, En, (PostS.ofRes (rel := vR L) En p).imp fun v H1 ⟨φ1, h1, a, E1, R1, r1, p1⟩ => gM_of R1 r1 (En.mono E1) p1⟩
theorem ps_asgM {tg e : Expr} {t : Tg} {x : E} {pos : Pos} (ha : PE X e (tM L P W x)) (hg : PG X tg (gA L t)) (hs : swapsWithSole [tg] e pos.line X.env = pure false) (hw : swappedStores [tg] e X.env = pure none) (h1 : (assignEach [tg] X.env).map (·.2) = [assign tg X.env]) :
    PS X (.Assign [tg] e pos) (tS L P W (.asg t x)) := PS.weak (ps_asg ha hg hs hw h1) fun _ _ _ q => asg_w q
theorem whN_mono {t : Env' → MH → Res Val} {b : Env' → MH → SR} : ∀ {n m : Nat} {ρ : Env'} {h : MH}, n ≤ m → whN t b n ρ h ≠ .bad → whN t b m ρ h = whN t b n ρ h
  | 0, _, _, _, _, hn => absurd rfl hn
  | n + 1, 0, _, _, hm, _ => by omega
  | n + 1, m + 1, ρ, h, hm, hn => by
    simp only [whN] at hn ⊢
    cases e : t ρ h with
    | bad => rfl
    | err c fs h1 => rfl
    | ok v h1 =>
      rw [e] at hn
      cases v <;> try rfl
      rename_i bb
      cases bb with
      | false => rfl
      | true =>
        simp only at hn ⊢
        cases e2 : b ρ h1 with
        | nx ρ2 h2 => rw [e2] at hn; exact whN_mono (by omega) hn
        | ct ρ2 h2 => rw [e2] at hn; exact whN_mono (by omega) hn
        | bk ρ2 h2 => rfl
        | rt v h2 => rfl
        | err c fs ρ2 h2 => rfl
        | bad => rfl
theorem whC_of {t : Env' → MH → Res Val} {b : Env' → MH → SR} {ρ : Env'} {h : MH} (n : Nat) (hn : whN t b n ρ h ≠ .bad) : whC t b ρ h = whN t b n ρ h := by
  unfold whC
  have e : ∃ n, whN t b n ρ h ≠ .bad := ⟨n, hn⟩
  rw [dif_pos e]
  have hc := Classical.choose_spec e
  rcases Nat.le_total n (Classical.choose e) with z | z
  · exact whN_mono z hn
  · exact (whN_mono z hc).symm
theorem whC_is {t : Env' → MH → Res Val} {b : Env' → MH → SR} {ρ : Env'} {h : MH} (hn : whC t b ρ h ≠ .bad) : ∃ n, whC t b ρ h = whN t b n ρ h := by
  unfold whC at hn ⊢
  by_cases e : ∃ n, whN t b n ρ h ≠ .bad
  · rw [dif_pos e]; exact ⟨_, rfl⟩
  · rw [dif_neg e] at hn; exact absurd rfl hn
theorem whN_body (t : Env' → MH → Res Val) (b : Env' → MH → SR) (n : Nat) (ρ : Env') (h : MH) : whN t b (n + 1) ρ h = match t ρ h with
    | .ok (.bl true) h1 => loopR (b ρ h1) (whN t b n)
    | .ok (.bl false) h1 => .nx ρ h1
    | .err x fs h1 => .err x fs ρ h1
    | _ => .bad := by
  simp only [whN]
  cases t ρ h with
  | bad => rfl
  | err c fs h1 => rfl
  | ok v h1 => cases v <;> rfl
theorem ps_whlM {c : Expr} {x : E} {body : List Stmt} {xs : List S} {pos : Pos} (hp : PassesOwn (model X.prog X.w) X.A X.env X.xe) (hc : PT X c (tMT L P W x)) (hb : PSs X body (tSs L P W xs)) : PS X (.While c body [] pos) (tS L P W (.whl x xs)) := PS.weak (ps_while hp hc hb) fun D σ H ⟨φ, h, ρ, R, En, p⟩ => by
  simp only [evS] at p
  have nb : whC (evE P x) (evB P xs) ρ h ≠ .bad := fun z => by rw [z] at p; exact p
  obtain ⟨n, hn⟩ := whC_is nb
  rw [hn] at p
  refine ⟨fun m σ' H' => ∃ φ' h' ρ', Rel L φ' h' H' ∧ EnvR L φ' H' ρ' σ' ∧ PostS L φ' H' (whN (evE P x) (evB P xs) m ρ' h') D W, ⟨n, φ, h, ρ, R, En, p⟩, fun m σ' H' ⟨φ', h', ρ', R', En', p'⟩ => ?_⟩
  cases m with
  | zero => exact False.elim p'
  | succ m =>
    rw [whN_body] at p'
    refine ⟨φ', h', ρ', R', En', ?_⟩
    cases e : evE P x ρ' h' with
    | bad => rw [e] at p'; exact p'
    | err c fs h1 => rw [e] at p'; exact fun cls d H2 φ2 E2 R2 q => p' cls d σ' H2 φ2 E2 R2 (En'.mono E2) q
    | ok v h1 =>
      rw [e] at p'
      intro y H1 φ1 E1 R1 r1
      cases v <;> first | exact False.elim p' | skip
      rename_i bb
      refine ⟨bb, r1.blI, ?_⟩
      cases bb with
      | false => exact iteF (p' σ' H1 φ1 E1 R1 (En'.mono E1))
      | true =>
        refine iteT ⟨Nxt L φ1 H1 D W (whN (evE P x) (evB P xs) m), fun σ2 H2 ⟨φ2, h2, ρ2, _, R2, En2, p2⟩ => ⟨m, Nat.lt_succ_self m, φ2, h2, ρ2, R2, En2, p2⟩, φ1, h1, ρ', R1, En'.mono E1, ?_⟩
        exact PostS.loop (PostS.step E1 p')
theorem forL_cons (t : Tg) (c : Src) (b : Env' → MH → SR) (v : Val) (r : List Val) (ρ : Env') (h : MH) (hc : c.stands h) : forL t c b (v :: r) ρ h = match bindT t v ρ with
    | none => .bad
    | some ρ1 => loopR (b ρ1 h) (forL t c b r) := by
  simp only [forL]
  rw [if_pos hc]
  cases bindT t v ρ with
  | none => rfl
  | some ρ1 => simp only; unfold loopR; cases b ρ1 h <;> rfl
theorem ps_forM {iter tg : Expr} {t : Tg} {kk : ItK} {es : List E} {body : List Stmt} {xs : List S} {pos : Pos} (hp : PassesOwn (model X.prog X.w) X.A X.env X.xe) (hc : X.calm = true) (hi : PI X tg iter (wI L P W kk es)) (hg : PG X tg (gM L t)) (hb : PSs X body (tSs L P W xs))
    (hs : ∀ x, foldedSetIterable iter X.env x = pure x) : PS X (.For tg iter body [] pos) (tS L P W (.forS t kk es xs)) := PS.weak (ps_for hp hc hi hg hb hs) fun D σ H ⟨φ, h, ρ, R, En, p⟩ => by
  simp only [evS] at p
  refine ⟨φ, h, ρ, R, En, (PostS.ofRes (rel := ItOk L) En p).imp fun J H1 ⟨φ1, h1, pr, E1, R1, hJ, p1⟩ => ?_⟩
  refine ⟨fun i m σ' H' => m = pr.1.length - i ∧ i ≤ pr.1.length ∧ ∃ φ' h' ρ', Ext L φ1 H1 φ' H' ∧ Rel L φ' h' H' ∧ EnvR L φ' H' ρ' σ' ∧ PostS L φ' H' (forL t pr.2 (evB P xs) (pr.1.drop i) ρ' h') D W,
    ⟨pr.1.length, by simp, Nat.zero_le _, φ1, h1, ρ, Ext.refl, R1, En.mono E1, p1⟩, ?_⟩
  rintro i m σ' H' ⟨rfl, hi, φ2, h2, ρ2, E2, R2, En2, p2⟩
  have hst : pr.2.stands h2 := by
    by_cases c : pr.2.stands h2
    · exact c
    · exfalso
      cases hd : pr.1.drop i with
      | nil => rw [hd] at p2; simp only [forL] at p2; rw [if_neg c] at p2; exact p2
      | cons v r => rw [hd] at p2; simp only [forL] at p2; rw [if_neg c] at p2; exact p2
  obtain ⟨hs, hgo⟩ := hJ φ2 h2 H' E2 R2 hst i
  by_cases hlt : i < pr.1.length
  · obtain ⟨v, hv⟩ : ∃ v, pr.1[i]? = some v := ⟨pr.1[i], List.getElem?_eq_getElem hlt⟩
    obtain ⟨go, hy⟩ := hgo v hv
    have hd : pr.1.drop i = v :: pr.1.drop (i + 1) := by
      rw [List.drop_eq_getElem_cons hlt]
      rw [List.getElem?_eq_getElem hlt] at hv
      cases hv; rfl
    rw [hd, forL_cons _ _ _ _ _ _ _ hst] at p2
    refine .inr ⟨go, fun σ3 H3 => i + 1 ≤ pr.1.length ∧ ∃ φ' h' ρ', Ext L φ1 H1 φ' H3 ∧ Rel L φ' h' H3 ∧ EnvR L φ' H3 ρ' σ3 ∧ PostS L φ' H3 (forL t pr.2 (evB P xs) (pr.1.drop (i + 1)) ρ' h') D W,
      fun σ3 H3 ⟨a, b⟩ => ⟨pr.1.length - (i + 1), by omega, rfl, a, b⟩, fun y H3 hyl => ?_⟩
    obtain ⟨ry, E3, R3⟩ := hy y H3 hyl
    cases eb : bindT t v ρ2 with
    | none => rw [eb] at p2; exact False.elim p2
    | some ρ3 =>
      rw [eb] at p2
      refine ⟨φ2, h2, ρ2, ρ3, v, R3, ry, En2.mono E3, eb, fun σ3 En3 _ _ => ?_⟩
      refine ⟨φ2, h2, ρ3, R3, En3, (PostS.loop (PostS.step E3 p2)).mono ?_ (fun _ _ z => z) ?_ (fun _ _ z => z)⟩
      · exact fun σ4 H4 ⟨φ4, h4, ρ4, E4, R4, En4, p4⟩ => ⟨hlt, φ4, h4, ρ4, (E2.trans E3).trans E4, R4, En4, p4⟩
      · exact fun σ4 H4 ⟨φ4, h4, ρ4, E4, R4, En4, p4⟩ => ⟨hlt, φ4, h4, ρ4, (E2.trans E3).trans E4, R4, En4, p4⟩
  · have e : i = pr.1.length := by omega
    subst e
    refine .inl ⟨hs (Nat.le_refl _), ?_⟩
    rw [List.drop_length] at p2
    simp only [forL] at p2
    rw [if_pos hst] at p2
    exact p2 σ' H' φ2 Ext.refl R2 En2
end
end Mn
/-! Mini: the translator for statements; stores -/
namespace Mn
open PySem PySem.Spec PyProof.Rows L2
def isLC : Expr → Bool
  | .ListComp _ _ _ _ => true
  | _ => false
def isSeqD : Expr → Bool
  | .Tuple _ _ _ => true
  | .List _ _ => true
  | _ => false
/-- raise c(a) -/
def raOf (sc : Scope) : Option Expr → Option Expr → Option (String × Expr)
  | some (.Call (.Name x _) [a] [] _), none => if (gl sc x && spC x && okE a) = true then (nmS x).map fun s => (s, a) else none
  | _, _ => none
/-- except c as n: t = n -/
def toldOf (N : List Str) (sc : Scope) : List ExceptHandler → Option (String × Nat × Nat)
  | [.ExceptHandler (some (.Name x _)) (some n) [.Assign [.Name t _] (.Name m _) _] _] => if (gl sc x && spC x && spC n && (m == n) && decide (sc.names.lookup n = some .local) && decide (sc.names.lookup t = some .local)) = true then
      match nmS x, idxN N n, idxN N t with
      | some s, some i, some j => some (s, i, j)
      | _, _, _ => none
    else none
  | _ => none
/-- what a suite that handles may tell: a constant, a name and a constant -/
def hotE (N : List Str) (sc : Scope) : Expr → Option E
  | .Constant c _ _ => (trK c).map .con
  | .BinOp (.Name x _) .Add (.Constant c _ _) _ => if (spC x && decide (sc.names.lookup x = some .local)) = true then match idxN N x, trK c with
      | some i, some v => some (.bin .Add (.var i) (.con v))
      | _, _ => none
    else none
  | _ => none
/-- except c: t = e, except c: return e -/
def onlyOf (N : List Str) (sc : Scope) : List ExceptHandler → Option (String × S)
  | [.ExceptHandler (some (.Name x _)) none [.Assign [.Name t _] e _] _] => if (gl sc x && spC x && decide (sc.names.lookup t = some .local)) = true then
      match nmS x, idxN N t, hotE N sc e with
      | some s, some j, some m => some (s, .asg (.nm j) m)
      | _, _, _ => none
    else none
  | [.ExceptHandler (some (.Name x _)) none [.Return (some e) _] _] => if (gl sc x && spC x) = true then
      match nmS x, hotE N sc e with
      | some s, some m => some (s, .ret m)
      | _, _ => none
    else none
  | _ => none
mutual
/-- what a suite may tell of the exception that it handles -/
def hotX (tb : Tb) (N : List Str) (sc : Scope) : Nat → Expr → Option E
  | 0, _ => none
  | n + 1, e => match e with
    | .Name x _ => if (spC x && decide (sc.names.lookup x = some .local)) = true then (idxN N x).map .var else none
    | .Constant c _ _ => (trK c).map .con
    | .UnaryOp .Not a _ => (hotX tb N sc n a).map .not
    | .BoolOp op (a :: r) _ => hotBo tb N sc n op a r
    | .List es _ => (hotXs tb N sc n es).map .lst
    | .Attribute o f _ => if okB o = true then match nmS f, hotX tb N sc n o with
        | some s, some x => some (.fld x s)
        | _, _ => none
      else none
    | .Call (.Name f _) [a, .Name t _] [] _ => if (decide (f = Str.ofString "isinstance") && gl sc f && okE a && gl sc t && spC t) = true then match hotX tb N sc n a, nmS t with
        | some x, some ts => if tb.isi.contains ts = true then some (.isi x ts) else none
        | _, _ => none
      else none
    | _ => none
def hotXs (tb : Tb) (N : List Str) (sc : Scope) : Nat → List Expr → Option (List E)
  | 0, _ => none
  | n + 1, es => match es with
    | [] => some []
    | e :: r => match hotX tb N sc n e, hotXs tb N sc n r with
      | some x, some xs => some (x :: xs)
      | _, _ => none
def hotBo (tb : Tb) (N : List Str) (sc : Scope) : Nat → BoolOp → Expr → List Expr → Option E
  | 0, _, _, _ => none
  | n + 1, op, a, r => match r with
    | [] => hotX tb N sc n a
    | b :: r' => match hotX tb N sc n a, hotBo tb N sc n op b r' with
      | some x, some y => match op with
        | .And => some (.and x y)
        | .Or => some (.or x y)
      | _, _ => none
end
/-- a suite that may look at the exception that it handles -/
def hotSs (tb : Tb) (N : List Str) (sc : Scope) (n : Nat) : List Stmt → Option (List S)
  | [] => some []
  | .Assign [.Name t _] e _ :: r => if decide (sc.names.lookup t = some .local) = true then match idxN N t, hotX tb N sc n e, hotSs tb N sc n r with
      | some j, some m, some l => some (.asg (.nm j) m :: l)
      | _, _, _ => none
    else none
  | .Return (some e) _ :: r => match hotX tb N sc n e, hotSs tb N sc n r with
      | some m, some l => some (.ret m :: l)
      | _, _ => none
  | _ => none
/-- except c as i: suite -/
def holdsOf (tb : Tb) (N : List Str) (sc : Scope) (n : Nat) : List ExceptHandler → Option (List (String × Option Nat × List S))
  | [] => some []
  | .ExceptHandler (some (.Name x _)) (some t) (b0 :: suite) _ :: r => if (gl sc x && spC x && decide (sc.names.lookup t = some .local)) = true then
      match nmS x, idxN N t, hotSs tb N sc n (b0 :: suite), holdsOf tb N sc n r with
      | some s, some i, some b, some l => some ((s, some i, b) :: l)
      | _, _, _, _ => none
    else none
  | _ => none
/-- x, y = e1, e2 -/
def swpOf (N : List Str) (sc : Scope) : List Expr → Expr → Option (Nat × Nat × Expr × Expr)
  | [.Name x px, .Name y py], .Tuple [a, b] _ _ => if (decide (sc.names.lookup x = some .local) && decide (sc.names.lookup y = some .local) && !(x == y) && !(y == x) && (py.line == px.line) && decide (sc.kind = .function) && okE a && okE b && !([a, b].all (foldedForSure 8)) && !([a, b].all (constantsAlone 8))) = true then match idxN N x, idxN N y with
      | some i, some j => some (i, j, a, b)
      | _, _ => none
    else none
  | _, _ => none
mutual
def trS (tb : Tb) : Nat → List Str → Scope → Stmt → Option S
  | 0, _, _, _ => none
  | n + 1, N, sc, s => match s with
    | .Assign [.Name x p] (.ListComp elt gs scope pos) spos => match trT false N sc (.Name x p), trE tb n false N sc (.ListComp elt gs scope pos) with
      | some t, some m => if (decide (sc.names.lookup x = some .local) && (p.line == pos.line) && !(scope.names.any fun (n, k) => n == x && (k == .local || k == .cell)) && decide (gs.length = 1)) = true then some (.asg t m)
        else if (decide (sc.names.lookup x = some .local)) = false then some (.asg t m) else none
      | _, _ => none
    | .Assign [tg] v _ => match tg with
      | .Subscript o i _ => match trE tb n false N sc v, trE tb n false N sc o, trE tb n false N sc i with
        | some m, some x, some y => some (.sub x y m)
        | _, _, _ => none
      | .Name x p => if isLC v = true then none else match trT false N sc (.Name x p), trE tb n false N sc v with
        | some t, some m => some (.asg t m)
        | _, _ => none
      | .Tuple es a b => if isSeqD v = true then match swpOf N sc es v with
          | some (i, j, e1, e2) => match trEs tb n false N sc [e1, e2] with
            | some ms => some (.asg (.tp [i, j]) (.tup ms))
            | none => none
          | none => none
        else if isLC v = true then none else match trT false N sc (.Tuple es a b), trE tb n false N sc v with
        | some t, some m => some (.asg t m)
        | _, _ => none
      | .Attribute o f _ => match nmS f, trE tb n false N sc o, trE tb n false N sc v with
        | some s, some x, some m => some (.fld x s m)
        | _, _, _ => none
      | _ => none
    | .Expr (.Constant (.str _) _ _) _ => some .pas
    | .Expr e _ => if isLC e = true then none else (trE tb n false N sc e).map .exp
    | .Return none _ => some .retN
    | .Return (some e) _ => (trE tb n false N sc e).map .ret
    | .If c a b _ => match trE tb n false N sc c, trSs tb n N sc a, trSs tb n N sc b with
      | some x, some y, some z => some (.ite x y z)
      | _, _, _ => none
    | .For tg it b [] _ => match trT false N sc tg, trI tb n false N sc tg it, trSs tb n N sc b with
      | some t, some (k, es), some x => some (.forS t k es x)
      | _, _, _ => none
    | .While c b [] _ => match trE tb n false N sc c, trSs tb n N sc b with
      | some x, some y => some (.whl x y)
      | _, _ => none
    | .Break _ => some .brk
    | .Continue _ => some .cnt
    | .Pass _ => some .pas
    | .Raise e c _ => match raOf sc e c with
      | some (s, a) => match trE tb n false N sc a with
        | some x => some (.rai s [x])
        | none => some (.rai "" [])
      | none => some (.rai "" [])
    | .Try b hs [] [] _ => match toldOf N sc hs with
      | some (s, i, j) => (trSs tb n N sc b).map fun x => .tryS x [(s, some i, [.asg (.nm j) (.var i)])]
      | none => match onlyOf N sc hs with
        | some (s, st) => (trSs tb n N sc b).map fun x => .tryS x [(s, none, [st])]
        | none => match hs with
          | [] => none
          | h0 :: hr => match holdsOf tb N sc n (h0 :: hr), trSs tb n N sc b with
            | some l, some x => some (.tryS x (("", none, []) :: l))
            | _, _ => none
    | _ => none
def trSs (tb : Tb) : Nat → List Str → Scope → List Stmt → Option (List S)
  | 0, _, _, _ => none
  | n + 1, N, sc, ss => match ss with
    | [] => some []
    | s :: r => match trS tb n N sc s, trSs tb n N sc r with
      | some x, some xs => some (x :: xs)
      | _, _ => none
end
section
variable {tb : Tb} {L : Lk} {P : Pg} {k : Nat} {X : Cx} {N : List Str} {sc : Scope} {W : WX} {n : Nat}
structure Ss (tb : Tb) (L : Lk) (P : Pg) (k : Nat) (X : Cx) (N : List Str) (sc : Scope) (W : WX) : Prop where
  S : Sx tb L P k X false N sc W
  pow : PassesOwn (model X.prog X.w) X.A X.env X.xe
  st : X.stack = X.env :: X.outer
  fr : X.env.frame = some X.env.locals
  ex : X.ex = []
theorem setSub_noerr (o i v : Val) (h : MH) (c : String) (fs : List (String × Val)) (h' : MH) : setSub o i v h ≠ .err c fs h' := by
  intro z
  unfold setSub at z
  repeat' split at z
  all_goals cases z
def rSt (L : Lk) (f : Val → Val → Val → MH → Res Unit) : TSet := fun o i v H Q => ∃ φ h o' i' v', Rel L φ h H ∧ VR L φ H o' o ∧ VR L φ H i' i ∧ VR L φ H v' v ∧ Post L φ H (fun _ _ (_ : Unit) (_ : Unit) => True) (f o' i' v' h) (fun _ H' => Q H') (fun _ _ _ => False)
theorem set_all (S : Sx tb L P k X false N sc W) : PSet X (rSt L setSub) := by
  intro pins s σ H o i v ov iv u Q I ro ri rv ⟨φ, h, o', i', v', R, vo, vi, vv, p⟩
  cases o' <;> first | exact False.elim p | skip
  rename_i a
  simp only [setSub] at p
  split at p
  · rename_i xs j hi
    split at p
    · rename_i l hl
      obtain ⟨b, rfl, bi, q⟩ := R.at hi vo
      obtain ⟨zs, _, r1, kk⟩ := q.lstI
      refine set_list pins s σ H _ i v ov iv u Q I ro ri rv ⟨b, zs, j, l, rfl, vi.intI, kk rfl, by rw [← r1.length]; exact hl, ?_⟩
      have X1 : Ext L φ H φ (upd H b (.lst (zs.set l v))) := Ext.write (bi.2 rfl) (kk rfl) (fun _ _ z => by cases z) (fun _ z => by cases z)
      exact p () _ φ X1 (R.write hi rfl (fun _ z => by cases z) (bi.2 rfl) (.lst upd_same ((r1.set vv l).mono X1))) trivial
    · exact False.elim p
  · rename_i kvs hi
    split at p
    · rename_i c ek
      by_cases cl : kvs.length < sizeLine
      · rw [if_pos cl] at p
        obtain ⟨b, rfl, bi, q⟩ := R.at hi vo
        obtain ⟨ys, _, kr, kk, _⟩ := q.dctI
        have ei := vi.key ek
        subst ei
        cases (show ov = Value.ref b from ro)
        have X1 : Ext L φ H φ (upd H b (.dK (putK ys c v))) := Ext.write (bi.2 rfl) (kk rfl) (fun _ _ z => by cases z) (fun _ z => by cases z)
        exact d_setItem (by have := S.units; omega) I (DPut.k (kk rfl) (by rw [← kr.length]; exact cl)) ri rv fun s' I' => ⟨_, I', p () _ φ X1 (R.write hi rfl (fun _ z => by cases z) (bi.2 rfl) (.dK upd_same ((kr.put vv).mono X1))) trivial⟩
      · rw [if_neg cl] at p; exact False.elim p
    · split at p
      · rename_i c ek
        by_cases cl : kvs.isEmpty = true
        · rw [if_pos cl] at p
          obtain rfl := List.isEmpty_iff.mp cl
          obtain ⟨b, rfl, bi, q⟩ := R.at hi vo
          obtain ⟨ys, _, kr, kk, _⟩ := q.dctI
          cases kr
          have hb := kk rfl
          obtain ⟨d, rfl, hd⟩ := vi.keyT ek
          cases (show ov = Value.ref b from ro)
          have ne : d ≠ b := fun z => by rw [z, hb] at hd; cases hd
          have X1 : Ext L φ H φ (upd H b (.dT [(c, v)])) := Ext.write (bi.2 rfl) hb (fun _ _ z => by cases z) (fun _ z => by cases z)
          have g : DPut (upd H b (.dT [])) b (.ref d) v (upd H b (.dT [(c, v)])) := .inr ⟨[], c, d, upd_same, rfl, (upd_ne ne).trans hd, by decide, by funext x; by_cases z : x = b <;> simp [upd, z, putK]⟩
          exact d_setItem (by have := S.units; omega) (inv_KT I hb) g ri rv fun s' I' => ⟨_, I', p () _ φ X1 (R.write hi rfl (fun _ z => by cases z) (bi.2 rfl) (.dT upd_same (.cons (vv.mono X1) .nil))) trivial⟩
        · rw [if_neg cl] at p; exact False.elim p
      · exact False.elim p
  · rename_i kvs hi
    split at p
    · rename_i c ek
      by_cases cl : kvs.length < sizeLine
      · rw [if_pos cl] at p
        obtain ⟨b, rfl, bi, q⟩ := R.at hi vo
        cases q with
        | @dT zs _ hb kr =>
          obtain ⟨d, rfl, hd⟩ := vi.keyT ek
          cases (show ov = Value.ref b from ro)
          have X1 : Ext L φ H φ (upd H b (.dT (putK zs c v))) := Ext.write (bi.2 rfl) hb (fun _ _ z => by cases z) (fun _ z => by cases z)
          exact d_setItem (by have := S.units; omega) I (DPut.t hb hd (by rw [← kr.length]; exact cl)) ri rv fun s' I' => ⟨_, I', p () _ φ X1 (R.write hi rfl (fun _ z => by cases z) (bi.2 rfl) (.dT upd_same ((kr.put vv).mono X1))) trivial⟩
      · rw [if_neg cl] at p; exact False.elim p
    · exact False.elim p
  · exact False.elim p
theorem ps_subM (S : Sx tb L P k X false N sc W) {o i e : Expr} {x y m : E} {p pos : Pos} (oki : okE i = true) (oke : okE e = true) (ho : PE X o (tM L P W x)) (hi : PE X i (tM L P W y)) (he : PE X e (tM L P W m)) : PS X (.Assign [.Subscript o i p] e pos) (tS L P W (.sub x y m)) := by
  have hs : swapsWithSole [.Subscript o i p] e pos.line X.env = pure false := by
    show swapsWith e (some (.Subscript o i p)) pos.line X.env = pure false
    cases e <;> first | rfl | (exact absurd oke (by simp [okE]))
  have hw : swappedStores [.Subscript o i p] e X.env = pure none := by
    cases e <;> rfl
  have hset : ∀ v, assign (.Subscript o i p) X.env v = (do
      let ov ← holding [v] (eval o X.env)
      let iv ← holding [v, ov] (eval i X.env)
      standAt p
      holding [v, ov, iv] (setItem ov iv v)
      release [v, ov, iv] []) := by
    intro v
    cases i <;> first | rfl | (exact absurd oki (by simp [okE]))
  refine PS.weak (ps_asg he (pg_sub ho hi (set_all S) hset) hs hw rfl) fun D σ H ⟨φ, h, ρ, R, En, p⟩ => ?_
  simp only [evS] at p
  refine ⟨φ, h, ρ, R, En, (PostS.ofRes (rel := vR L) En p).imp fun v H1 ⟨φ1, h1, a, E1, R1, r1, p1⟩ => ?_⟩
  refine ⟨φ1, h1, ρ, R1, En.mono E1, (PostS.ofRes (rel := vR L) (En.mono E1) p1).imp fun ov H2 ⟨φ2, h2, b, E2, R2, r2, p2⟩ => ?_⟩
  have En2 := (En.mono E1).mono E2
  refine ⟨φ2, h2, ρ, R2, En2, (PostS.ofRes (rel := vR L) En2 p2).imp fun iv H3 ⟨φ3, h3, c, E3, R3, r3, p3⟩ => ?_⟩
  have En3 := En2.mono E3
  refine ⟨φ3, h3, b, c, a, R3, r2.mono E3, r3, (r1.mono E2).mono E3, ?_⟩
  cases e : setSub b c a h3 with
  | err c fs h' => exact absurd e (setSub_noerr _ _ _ _ _ _ _)
  | bad => rw [e] at p3; exact p3
  | ok _ h4 => rw [e] at p3; exact fun _ H4 φ4 E4 R4 _ => p3 σ H4 φ4 E4 R4 (En3.mono E4)
theorem setF_noerr (P : Pg) (o : Val) (f : String) (v : Val) (h : MH) (c : String) (fs : List (String × Val)) (h' : MH) : setF P o f v h ≠ .err c fs h' := by
  intro z
  unfold setF at z
  repeat' split at z
  all_goals cases z
theorem ps_rai0 {e c : Option Expr} {pos : Pos} {x : String} : PS X (.Raise e c pos) (tS L P W (.rai x [])) := ⟨fun pins s σ H D I ⟨φ, h, ρ, R, En, p⟩ => by
  simp only [evS] at p
  exact False.elim p⟩
/-- raise c(e) -/
theorem ps_raiM (S : Ss tb L P k X N sc W) {a : Expr} {m : E} {s : String} {np cp pos : Pos} (hg : Mn.gl sc (Str.ofString s) = true) (hc : spC (Str.ofString s) = true) (ok : okE a = true) (ha : PE X a (tM L P W m)) :
    PS X (.Raise (some (.Call (.Name (Str.ofString s) np) [a] [] cp)) none pos) (tS L P W (.rai s [m])) := by
  unfold spC at hc
  simp only [Bool.and_eq_true, Bool.not_eq_true'] at hc
  cases e : P.exi s with
  | none => exact ⟨fun pins s σ H D I ⟨φ, h, ρ, R, En, p⟩ => by
      simp only [evS, e] at p
      exact False.elim p⟩
  | some o =>
    obtain ⟨C, hC, hm, kC, sC, tC, mk⟩ := S.S.pr.exi s o e
    cases o with
    | none =>
      have q : PySem.W.excIn X.K C veTl "ValueError.__new__" = true := by rw [S.S.hK]; exact mk
      refine PS.weak (ps_raise S.S.calm S.S.tk (SkE.pmk_own1 PySem.F.excBase_ValueError q hm (by rw [S.S.hK]; exact kC) (raises_own (by rw [S.S.hK]; exact sC) (by rw [S.S.hK]; exact tC)) (S.S.gl hg) ha (okE_star ok _ _) hc.1.1)) fun D σ H ⟨φ, h, ρ, R, En, p⟩ => ?_
      simp only [evS, e] at p
      refine ⟨φ, h, ρ, R, En, (PostS.ofRes (rel := vR L) En p).imp fun v H1 ⟨φ1, h1, a, E1, R1, r1, p1⟩ => ?_⟩
      exact p1 _ _ σ H1 φ1 Ext.refl R1 (En.mono E1) ⟨C, hC, rfl, .inl ⟨rfl, rfl⟩⟩
    | some f =>
      obtain ⟨T, hno, fI, fd, ps, iC, tI, hb, F⟩ := mk
      refine PS.weak (ps_raise S.S.calm S.S.tk (pmk_oex (X := X) (dvs := []) (by rw [S.S.hK]; exact T) (by rw [S.S.hK]; exact iC) (by rw [S.S.hK]; exact tI) (by rw [S.S.hK]; exact F) S.S.room (by rw [S.S.hK]; exact hb) .nil passL (S.S.gl hg) hm (pa_cons ha pa_nil (okE_star ok _ _)) hc.1.1 (okE_star ok _ _) (by rfl))) fun D σ H ⟨φ, h, ρ, R, En, p⟩ => ?_
      simp only [evS, e] at p
      refine ⟨φ, h, ρ, R, En, (PostS.ofRes (rel := vR L) En p).imp fun v H1 ⟨φ1, h1, a, E1, R1, r1, p1⟩ => ?_⟩
      refine ⟨by show 1 ≤ 1000; decide, fun ad hn => ⟨ad, v, rfl, upd_same, fun dx hd ne => ⟨rfl, dx, [(Str.ofString f, v)], upd_same, ?_, ?_, ?_⟩⟩⟩
      · rw [upd_ne ne, upd_same]
      · rw [upd_ne ne] at hd; exact hd
      · have hd' : H1 dx = none := by rw [upd_ne ne] at hd; exact hd
        have eq : upd (del (upd (upd (upd H1 ad (exo ad C none)) dx (exd dx [(Str.ofString f, v)])) ad (exo ad C (some dx))) ad) dx (.xd [(Str.ofString f, v)]) = upd H1 dx (.xd [(Str.ofString f, v)]) := by
          funext b
          by_cases hb : b = dx
          · subst hb; rw [upd_same, upd_same]
          · rw [upd_ne hb, upd_ne hb]
            by_cases hc : b = ad
            · subst hc; rw [del_same, hn]
            · rw [del_ne hc, upd_ne hc, upd_ne hb, upd_ne hc]
        rw [eq]
        have nx : (true, dx) ∉ φ1 := fun z => by
          obtain ⟨u, hu, _⟩ := R1.live dx z
          rw [hd'] at hu; cases hu
        exact p1 _ _ σ _ φ1 (Ext.side hd') (R1.side hd') ((En.mono E1).mono (Ext.side hd')) ⟨C, hC, rfl, .inr ⟨dx, _, rfl, upd_same, nx, .cons (r1.mono (Ext.side hd')) .nil⟩⟩
theorem cons_ok {c : String} {fs : List (String × Val)} {φ : Ph} {H : Hp} {cls : Value} {d : Option Addr} {a : Addr} {h : MH} (R : Rel L φ h H) (q : ExR L φ H c fs cls d) (na : H a = none) : VR L φ (upd H a (exH a cls d)) (.exc c fs) (.ref a) := by
  obtain ⟨C, hC, rfl, q⟩ := q
  have n1 : (true, a) ∉ φ := fun z => by
    obtain ⟨u, hu, _⟩ := R.live a z
    rw [na] at hu; cases hu
  rcases q with ⟨rfl, rfl⟩ | ⟨dd, xs, rfl, hd, nd, rf⟩
  · exact .exc0 hC upd_same n1
  · have rf := rf.mono (Ext.side (p := a) (o := exH a (.ref C) (some dd)) na)
    exact .excF hC upd_same n1 (by rw [upd_ne (ne_of_none hd na)]; exact hd) nd rf.split.1 rf.split.2
/-- try: .. except c as n: t = n -/
theorem ps_tryM (S : Ss tb L P k X N sc W) {s : String} {i j : Nat} {xn t : Str} {body : List Stmt} {xs : List Mn.S} {p1 p2 p3 p4 p5 pos : Pos} (hg : Mn.gl sc (Str.ofString s) = true) (hc : spC (Str.ofString s) = true) (hcn : spC xn = true) (hi : idxN N xn = some i) (hj : idxN N t = some j) (hln : sc.names.lookup xn = some .local) (hlt : sc.names.lookup t = some .local)
    (hb : ∀ X' W', Ss tb L P k X' N sc W' → PSs X' body (tSs L P W' xs)) :
    PS X (.Try body [.ExceptHandler (some (.Name (Str.ofString s) p1)) (some xn) [.Assign [.Name t p2] (.Name xn p3) p4] p5] [] [] pos) (tS L P W (.tryS xs [(s, some i, [.asg (.nm j) (.var i)])])) := by
  unfold spC at hc hcn
  simp only [Bool.and_eq_true, Bool.not_eq_true'] at hc hcn
  by_cases hP : ∃ c b, P.exm c s = some b
  · obtain ⟨c0, b0, hb0⟩ := hP
    obtain ⟨C, hm, hex⟩ := S.S.pr.exm _ _ _ hb0
    have hNi : X.N[i]? = some xn := by rw [S.S.hN]; exact idxN_ok hi
    have hNj : X.N[j]? = some t := by rw [S.S.hN]; exact idxN_ok hj
    have kn : X.env.kindOf xn = some .local := by unfold Env.kindOf; rw [S.S.hsc]; exact hln
    refine PS.weak (ps_told (c := .ref C) (i := i) (j := j) (tb := fun W' => tSs L P W' xs) S.st S.fr S.ex (by rw [S.S.hN]; exact S.S.nd) hNi hNj (by rw [S.S.hsc]; exact hln) (by rw [S.S.hsc]; exact hlt) hcn.1.1 hcn.1.2 (S.S.gl hg) hc.1.1 hm
      (fun W' pn xe tk pw => hb _ _ ⟨⟨⟨S.S.hK, S.S.hN, S.S.nd, S.S.hsc, tk, S.S.fnc, S.S.pr⟩, S.S.room, S.S.calm⟩, pw, S.st, S.fr, S.ex⟩)) fun D σ H ⟨φ, h, ρ, R, En, p⟩ => ?_
    simp only [evS] at p
    by_cases ne : True ∧ i ≠ j
    · rw [if_pos ne] at p
      refine ⟨φ, h, ρ, R, En, ?_⟩
      unfold tryR at p
      cases e : evB P xs ρ h with
      | nx ρ h' => rw [e] at p; exact p
      | bk ρ h' => rw [e] at p; exact p
      | ct ρ h' => rw [e] at p; exact p
      | rt v h' => rw [e] at p; exact p
      | bad => rw [e] at p; exact p
      | err c2 fs ρ2 h2 =>
        rw [e] at p
        simp only at p
        intro cls d σ' H' φ' x R' En' q
        cases em : P.exm c2 s with
        | none => rw [em] at p; exact False.elim p
        | some b =>
          rw [em] at p
          obtain ⟨C', hm', hx'⟩ := S.S.pr.exm _ _ _ em
          rw [hm] at hm'; cases hm'
          obtain ⟨C2, hC2, rfl, _⟩ := id q
          cases b with
          | false => exact False.elim p
          | true =>
            simp only at p
            by_cases hil : i < ρ2.length
            · rw [if_pos hil] at p
              refine ⟨by rw [S.S.hK]; exact hx' _ hC2, by rw [← En'.len]; exact hil, fun a na => ?_⟩
              have E2 : Ext L φ' H' φ' (upd H' a (exH a (.ref C2) d)) := Ext.side na
              refine p _ (upd H' a (exH a (.ref C2) d)) φ' (x.trans E2) (R'.side na) ?_
              have k := ((En'.mono E2).set (cons_ok R' q na) j)
              refine ⟨by simp [En'.len], fun l v hl => ?_⟩
              by_cases li : i = l
              · subst li
                by_cases ll : i < (ρ2.set j (some (Val.exc c2 fs))).length
                · rw [List.getElem?_set_self ll] at hl; cases hl
                · rw [List.getElem?_eq_none (by simpa using ll)] at hl; cases hl
              · rw [List.getElem?_set_ne li] at hl
                obtain ⟨y, h1, h2⟩ := k.get l v hl
                refine ⟨y, ?_, h2⟩
                rw [List.getElem?_set_ne li]
                by_cases lj : j = l
                · subst lj
                  have jl : j < σ'.length := by
                    have := (List.getElem?_eq_some_iff.mp h1).1
                    simpa using this
                  rw [List.getElem?_set_self jl] at h1
                  rw [List.getElem?_set_self (by simpa using jl)]
                  exact h1
                · rw [List.getElem?_set_ne lj] at h1 ⊢
                  rw [List.getElem?_set_ne li]
                  exact h1
            · rw [if_neg hil] at p; exact False.elim p
    · rw [if_neg ne] at p; exact False.elim p
  · have hP' : ∀ c, P.exm c s = none := fun c => by
      cases e : P.exm c s with
      | none => rfl
      | some b => exact absurd ⟨c, b, e⟩ hP
    refine PS.weak (ps_try_thru0 (hb X.nox (fun _ _ _ _ => False) ⟨⟨⟨S.S.hK, S.S.hN, S.S.nd, S.S.hsc, takes0, S.S.fnc, S.S.pr⟩, S.S.room, S.S.calm⟩, PassesOwn.never, S.st, S.fr, S.ex⟩)) fun D σ H ⟨φ, h, ρ, R, En, p⟩ => ?_
    simp only [evS] at p
    by_cases ne : True ∧ i ≠ j
    · rw [if_pos ne] at p
      refine ⟨φ, h, ρ, R, En, ?_⟩
      unfold tryR at p
      cases e : evB P xs ρ h with
      | nx ρ h' => rw [e] at p; exact p
      | bk ρ h' => rw [e] at p; exact p
      | ct ρ h' => rw [e] at p; exact p
      | rt v h' => rw [e] at p; exact p
      | bad => rw [e] at p; exact p
      | err c2 fs ρ2 h2 => rw [e] at p; simp only [hP'] at p; exact False.elim p
    · rw [if_neg ne] at p; exact False.elim p
/-- a suite that handles -/
inductive HotS : Mn.S → Prop
  | asg (j : Nat) (m : E) : HotS (.asg (.nm j) m)
  | ret (m : E) : HotS (.ret m)
theorem hotE_noerr {P : Pg} {N : List Str} {sc : Scope} {e : Expr} {m : E} (h : hotE N sc e = some m) (ρ : Env') (hh : MH) (c : String) (fs : List (String × Val)) (h' : MH) : evE P m ρ hh ≠ .err c fs h' := by
  unfold hotE at h
  split at h
  · obtain ⟨v, _, rfl⟩ := Option.map_eq_some_iff.mp h
    intro z; simp only [evE] at z; cases z
  · split at h
    · split at h
      · rename_i i v _ _
        cases h
        intro z
        simp only [evE, getV] at z
        split at z
        · exact binop_noerr _ _ _ _ _ _ _ z
        · cases z
      · cases h
    · cases h
  · cases h
theorem pe_hot {X' : Cx} {W' : WX} {e : Expr} {m : E} (hK : X'.K = L.K) (hN : X'.N = N) (hsc : X'.env.scope = sc) (h : hotE N sc e = some m) : PE X' e (tM L P W' m) := by
  unfold hotE at h
  split at h
  · obtain ⟨v, hv, rfl⟩ := Option.map_eq_some_iff.mp h
    exact pe_con hv
  · rename_i x p c j p2 p3
    by_cases z : (spC x && decide (sc.names.lookup x = some .local)) = true
    · rw [if_pos z] at h
      split at h
      · rename_i i v h1 h2
        cases h
        simp only [Bool.and_eq_true, decide_eq_true_eq] at z
        obtain ⟨z1, z2⟩ := z
        unfold spC at z1
        simp only [Bool.and_eq_true, Bool.not_eq_true'] at z1
        have pv : PE X' (.Name x p) (tM L P W' (.var i)) := by
          refine PE.weak (pe_var (i := i) (by rw [hN]; exact idxN_ok h1) (by rw [hsc]; exact .inl z2) z1.1.1 z1.1.2) fun σ H Q ⟨φ, h, ρ, R, En, p⟩ => ?_
          simp only [evE, getV] at p
          cases e : ρ[i]? with
          | none => rw [e] at p; exact False.elim p
          | some o =>
            cases o with
            | none => rw [e] at p; exact False.elim p
            | some v =>
              rw [e] at p
              obtain ⟨y, h1, h2⟩ := En.get i v e
              exact ⟨y, h1, Post.here R h2 p⟩
        exact PE.weak (pe_op (bin_all hK .Add) pv (pe_con h2)) fun _ _ _ q => two_of (fun _ _ _ _ z => z) (binop_noerr .Add) (fun ρ h => by simp only [evE]) q
      · cases h
    · rw [if_neg z] at h; cases h
  · cases h
/-- try: .. except c: a suite that handles -/
theorem ps_onlyM (S : Ss tb L P k X N sc W) {s : String} {body : List Stmt} {xs : List Mn.S} {st0 : Stmt} {st : Mn.S} {e : Expr} {m : E} {p1 p5 pos : Pos} (hg : Mn.gl sc (Str.ofString s) = true) (hc : spC (Str.ofString s) = true) (he : hotE N sc e = some m)
    (hst : (∃ t p2 p4 j, st0 = .Assign [.Name t p2] e p4 ∧ st = .asg (.nm j) m ∧ idxN N t = some j ∧ sc.names.lookup t = some .local) ∨ ∃ p4, st0 = .Return (some e) p4 ∧ st = .ret m)
    (hb : ∀ X' W', Ss tb L P k X' N sc W' → PSs X' body (tSs L P W' xs)) :
    PS X (.Try body [.ExceptHandler (some (.Name (Str.ofString s) p1)) none [st0] p5] [] [] pos) (tS L P W (.tryS xs [(s, none, [st])])) := by
  unfold spC at hc
  simp only [Bool.and_eq_true, Bool.not_eq_true'] at hc
  have ev : ∀ ρ h, evS P (.tryS xs [(s, none, [st])]) ρ h = onlyR P s (fun ρ2 h2 => evS P st ρ2 h2) (evB P xs ρ h) := by
    intro ρ h
    rcases hst with ⟨t, p2, p4, j, rfl, rfl, hj, hl⟩ | ⟨p4, rfl, rfl⟩
    · simp only [evS, bindT]
      all_goals first | rfl | (congr 1; funext ρ2 h2; cases evE P m ρ2 h2 <;> rfl)
    · simp only [evS]
  by_cases hP : ∃ c b, P.exm c s = some b
  · obtain ⟨c0, b0, hb0⟩ := hP
    obtain ⟨C, hm, hex⟩ := S.S.pr.exm _ _ _ hb0
    have hsu : ∀ (a : Addr) (oe : Obj) (cls : Value) (d : Option Addr) (pn : List (Addr × Obj)), PSs (X.suite a ((a, oe) :: pn)) [st0] (tSs L P (fun _ _ _ _ => False) [st]) := by
      intro a oe cls d pn
      refine pss_consM ?_ pss_nilM
      have pe : PE (X.suite a ((a, oe) :: pn)) e (tM L P (fun _ _ _ _ => False) m) := pe_hot S.S.hK S.S.hN S.S.hsc he
      rcases hst with ⟨t, p2, p4, j, rfl, rfl, hj, hl⟩ | ⟨p4, rfl, rfl⟩
      · have hp := pg_name (X := X.suite a ((a, oe) :: pn)) (pos := p2) (i := j) (x := t) (by show X.N.Nodup; rw [S.S.hN]; exact S.S.nd) (by show X.N[j]? = some t; rw [S.S.hN]; exact idxN_ok hj) (.inl (by show X.env.scope.names.lookup t = _; rw [S.S.hsc]; exact hl)) (.inr (by show X.env.scope.names.lookup t = _; rw [S.S.hsc]; exact hl))
        have pg : PG (X.suite a ((a, oe) :: pn)) (.Name t p2) (gA L (.nm j)) := ⟨fun pins s σ H v u Q I r ⟨φ, hh, ρ, ρ', w, R, rw_, En, eb, q⟩ => hp.run pins s σ H v u Q I r (by
          cases eb
          exact q _ (En.set rw_ j) (fun i hi => List.getElem?_set_ne (Ne.symm hi)) (by simp))⟩
        refine ps_asgM pe pg ?_ ?_ rfl
        · unfold hotE at he
          split at he <;> first | rfl | cases he
        · unfold hotE at he
          split at he <;> first | rfl | cases he
      · exact ps_retM pe
    refine PS.weak (ps_try_only (c := .ref C) (tb := fun W' => tSs L P W' xs) (ts := fun _ _ _ => tSs L P (fun _ _ _ _ => False) [st]) S.st S.fr ⟨S.S.gl hg, hc.1.1, .inl hm⟩ S.S.tk
      (fun W' pn xe tk pw => hb _ _ ⟨⟨⟨S.S.hK, S.S.hN, S.S.nd, S.S.hsc, tk, S.S.fnc, S.S.pr⟩, S.S.room, S.S.calm⟩, pw, S.st, S.fr, S.ex⟩) (fun a oe cls d pn _ _ => hsu a oe cls d pn)) fun D σ H ⟨φ, h, ρ, R, En, p⟩ => ?_
    rw [ev] at p
    refine ⟨φ, h, ρ, R, En, ?_⟩
    unfold onlyR at p
    cases eb : evB P xs ρ h with
    | nx ρ h' => rw [eb] at p; exact p
    | bk ρ h' => rw [eb] at p; exact p
    | ct ρ h' => rw [eb] at p; exact p
    | rt v h' => rw [eb] at p; exact p
    | bad => rw [eb] at p; exact p
    | err c2 fs ρ2 h2 =>
      rw [eb] at p
      simp only at p
      intro cls d σ' H' φ' x R' En' q
      cases em : P.exm c2 s with
      | none => rw [em] at p; exact False.elim p
      | some b =>
        rw [em] at p
        obtain ⟨C', hm', hx'⟩ := S.S.pr.exm _ _ _ em
        rw [hm] at hm'; cases hm'
        obtain ⟨C2, hC2, rfl, _⟩ := id q
        cases b with
        | false => exact False.elim p
        | true =>
          simp only at p
          refine ⟨true, by rw [S.S.hK]; exact hx' _ hC2, fun _ a na => ?_, fun z => by cases z⟩
          refine ⟨φ', h2, ρ2, R', En', ?_⟩
          have p2 := PostS.step x p
          have ne : ∀ c fs ρ3 h3, evS P st ρ2 h2 ≠ .err c fs ρ3 h3 := by
            intro c fs ρ3 h3 z
            rcases hst with ⟨t, q2, q4, j, rfl, rfl, hj, hl⟩ | ⟨q4, rfl, rfl⟩
            · simp only [evS, bindT] at z
              cases ee : evE P m ρ2 h2 with
              | ok v h => rw [ee] at z; cases z
              | err c fs h => exact hotE_noerr he _ _ _ _ _ ee
              | bad => rw [ee] at z; cases z
            · simp only [evS] at z
              cases ee : evE P m ρ2 h2 with
              | ok v h => rw [ee] at z; cases z
              | err c fs h => exact hotE_noerr he _ _ _ _ _ ee
              | bad => rw [ee] at z; cases z
          have eb2 : evB P [st] ρ2 h2 = evS P st ρ2 h2 := by
            simp only [evB]
            cases evS P st ρ2 h2 <;> rfl
          rw [eb2]
          cases es : evS P st ρ2 h2 with
          | nx ρ h' => rw [es] at p2; exact p2
          | bk ρ h' => rw [es] at p2; exact p2
          | ct ρ h' => rw [es] at p2; exact p2
          | rt v h' => rw [es] at p2; exact p2
          | bad => rw [es] at p2; exact p2
          | err c fs ρ3 h3 => exact absurd es (ne _ _ _ _)
  · have hP' : ∀ c, P.exm c s = none := fun c => by
      cases e : P.exm c s with
      | none => rfl
      | some b => exact absurd ⟨c, b, e⟩ hP
    refine PS.weak (ps_try_thru0 (hb X.nox (fun _ _ _ _ => False) ⟨⟨⟨S.S.hK, S.S.hN, S.S.nd, S.S.hsc, takes0, S.S.fnc, S.S.pr⟩, S.S.room, S.S.calm⟩, PassesOwn.never, S.st, S.fr, S.ex⟩)) fun D σ H ⟨φ, h, ρ, R, En, p⟩ => ?_
    rw [ev] at p
    refine ⟨φ, h, ρ, R, En, ?_⟩
    unfold onlyR at p
    cases eb : evB P xs ρ h with
    | nx ρ h' => rw [eb] at p; exact p
    | bk ρ h' => rw [eb] at p; exact p
    | ct ρ h' => rw [eb] at p; exact p
    | rt v h' => rw [eb] at p; exact p
    | bad => rw [eb] at p; exact p
    | err c2 fs ρ2 h2 => rw [eb] at p; simp only [hP'] at p; exact False.elim p
/-! suites that look at the exception they handle -/
theorem EnvR.gone {φ : Ph} {H : Hp} {ρ : Env'} {σ : L2.St} (En : EnvR L φ H ρ σ) (i : Nat) : EnvR L φ H (ρ.set i none) (σ.set i none) := by
  refine ⟨by simp [En.len], fun l v hl => ?_⟩
  by_cases li : i = l
  · subst li
    by_cases ll : i < ρ.length
    · rw [List.getElem?_set_self ll] at hl; cases hl
    · rw [List.getElem?_eq_none (by simpa using ll)] at hl; cases hl
  · rw [List.getElem?_set_ne li] at hl ⊢
    exact En.get l v hl
def HotE (tb : Tb) (L : Lk) (P : Pg) (k : Nat) (n : Nat) : Prop := ∀ N sc X W e m, Sy tb L P k X false N sc W → hotX tb N sc n e = some m → okE e = true ∧ (∀ a b c d, e ≠ .ListComp a b c d) ∧ PE X e (tM L P W m)
def HotEs (tb : Tb) (L : Lk) (P : Pg) (k : Nat) (n : Nat) : Prop := ∀ N sc X W es ms, Sy tb L P k X false N sc W → hotXs tb N sc n es = some ms → PA X es (tMs L P W ms)
def HotBo (tb : Tb) (L : Lk) (P : Pg) (k : Nat) (n : Nat) : Prop := ∀ N sc X W op a r m pos, Sy tb L P k X false N sc W → hotBo tb N sc n op a r = some m → PE X (.BoolOp op (a :: r) pos) (tM L P W m)
theorem hot_e (h1 : HotE tb L P k n) (h2 : HotEs tb L P k n) (h3 : HotBo tb L P k n) : HotE tb L P k (n + 1) := by
  intro N sc X W e m S h
  simp only [hotX] at h
  split at h
  · rename_i x p
    by_cases z : (spC x && decide (sc.names.lookup x = some .local)) = true
    · rw [if_pos z] at h
      obtain ⟨i, hi, rfl⟩ := Option.map_eq_some_iff.mp h
      simp only [Bool.and_eq_true, decide_eq_true_eq] at z
      exact ⟨rfl, (fun _ _ _ _ z => by cases z), pe_varM S hi (.inl z.2) z.1⟩
    · rw [if_neg z] at h; cases h
  · obtain ⟨v, hv, rfl⟩ := Option.map_eq_some_iff.mp h
    exact ⟨rfl, (fun _ _ _ _ z => by cases z), pe_con hv⟩
  · obtain ⟨x, hx, rfl⟩ := Option.map_eq_some_iff.mp h
    exact ⟨rfl, (fun _ _ _ _ z => by cases z), pe_notM (h1 _ _ _ _ _ _ S hx).2.2⟩
  · exact ⟨rfl, (fun _ _ _ _ z => by cases z), h3 _ _ _ _ _ _ _ _ _ S h⟩
  · obtain ⟨x, hx, rfl⟩ := Option.map_eq_some_iff.mp h
    exact ⟨rfl, (fun _ _ _ _ z => by cases z), pe_lstM (h2 _ _ _ _ _ _ S hx)⟩
  · rename_i o f p
    by_cases z : okB o = true
    · rw [if_pos z] at h
      split at h
      · rename_i s x e0 e1
        cases h
        have e := nmS_ok e0
        subst e
        exact ⟨rfl, (fun _ _ _ _ z => by cases z), pe_fldM S z (h1 _ _ _ _ _ _ S e1).2.2⟩
      · cases h
    · rw [if_neg z] at h; cases h
  · rename_i f p1 a t p2 p3
    by_cases z : (decide (f = Str.ofString "isinstance") && gl sc f && okE a && gl sc t && spC t) = true
    · rw [if_pos z] at h
      split at h
      · rename_i x ts e1 e2
        by_cases y : tb.isi.contains ts = true
        · rw [if_pos y] at h
          cases h
          have e := nmS_ok e2
          subst e
          simp only [Bool.and_eq_true, decide_eq_true_eq] at z
          obtain ⟨⟨⟨⟨z1, z2⟩, z3⟩, z4⟩, z5⟩ := z
          subst z1
          exact ⟨rfl, (fun _ _ _ _ z => by cases z), pe_isiM S z2 z4 z5 y z3 (h1 _ _ _ _ _ _ S e1).2.2⟩
        · rw [if_neg y] at h; cases h
      · cases h
    · rw [if_neg z] at h; cases h
  · cases h
theorem hot_es (h1 : HotE tb L P k n) (h2 : HotEs tb L P k n) : HotEs tb L P k (n + 1) := by
  intro N sc X W es ms S h
  simp only [hotXs] at h
  cases es with
  | nil => cases h; exact pa_nilM
  | cons e r =>
    simp only at h
    split at h
    · rename_i x xs e1 e2
      cases h
      obtain ⟨a1, _, a2⟩ := h1 _ _ _ _ _ _ S e1
      exact pa_consM a1 a2 (h2 _ _ _ _ _ _ S e2)
    · cases h
theorem hot_bo (h1 : HotE tb L P k n) (h2 : HotBo tb L P k n) : HotBo tb L P k (n + 1) := by
  intro N sc X W op a r m pos S h
  simp only [hotBo] at h
  cases r with
  | nil => exact pe_one (h1 _ _ _ _ _ _ S h).2.2
  | cons b r' =>
    simp only at h
    split at h
    · rename_i x y e1 e2
      have a2 := (h1 _ _ _ _ _ _ S e1).2.2
      have b1 := h2 _ _ _ _ _ _ _ _ pos S e2
      cases op with
      | And => cases h; exact pe_andM a2 b1
      | Or => cases h; exact pe_orM a2 b1
    · cases h
theorem hot_all : ∀ n, HotE tb L P k n ∧ HotEs tb L P k n ∧ HotBo tb L P k n
  | 0 => ⟨(fun _ _ _ _ _ _ _ h => by simp only [hotX] at h; cases h), (fun _ _ _ _ _ _ _ h => by simp only [hotXs] at h; cases h), (fun _ _ _ _ _ _ _ _ _ _ h => by simp only [hotBo] at h; cases h)⟩
  | n + 1 => ⟨hot_e (hot_all n).1 (hot_all n).2.1 (hot_all n).2.2, hot_es (hot_all n).1 (hot_all n).2.1, hot_bo (hot_all n).1 (hot_all n).2.2⟩
theorem hot_ss (S : Sy tb L P k X false N sc W) : ∀ (ss : List Stmt) (ms : List Mn.S), hotSs tb N sc n ss = some ms → PSs X ss (tSs L P W ms) ∧ ∀ ρ h, evB P ms ρ h = hotA P ms ρ h := by
  intro ss
  induction ss with
  | nil => intro ms h; simp only [hotSs] at h; cases h; exact ⟨pss_nilM, fun _ _ => by simp only [evB, hotA]⟩
  | cons s0 r ih =>
    intro ms h
    unfold hotSs at h
    split at h
    · rename_i z; cases z
    · rename_i t p2 e p4 r' z
      cases z
      split at h
      · rename_i y
        split at h
        · rename_i j m l h1 h2 h3
          cases h
          obtain ⟨a1, a2, a3⟩ := (hot_all n).1 _ _ _ _ _ _ S h2
          obtain ⟨i1, i2⟩ := ih _ h3
          have hl := of_decide_eq_true y
          have hp := pg_name (X := X) (pos := p2) (i := j) (x := t) (by rw [S.hN]; exact S.nd) (by rw [S.hN]; exact idxN_ok h1) (.inl (by rw [S.hsc]; exact hl)) (.inr (by rw [S.hsc]; exact hl))
          have pg : PG X (.Name t p2) (gA L (.nm j)) := ⟨fun pins s σ H v u Q I r ⟨φ, hh, ρ, ρ', w, R, rw_, En, eb, q⟩ => hp.run pins s σ H v u Q I r (by
            cases eb
            exact q _ (En.set rw_ j) (fun i hi => List.getElem?_set_ne (Ne.symm hi)) (by simp))⟩
          refine ⟨pss_consM (ps_asgM a3 pg ?_ ?_ rfl) i1, fun ρ h => ?_⟩
          · exact okE_notSwap a1 a2 (some (.Name t p2)) p4.line X.env
          · cases e <;> first | rfl | exact absurd a1 (by simp [okE])
          · simp only [evB, evS, hotA, bindT]
            cases evE P m ρ h with
            | ok v h1 => exact i2 _ _
            | err c fs h1 => rfl
            | bad => rfl
        · cases h
      · cases h
    · rename_i e p4 r' z
      cases z
      split at h
      · rename_i m l h2 h3
        cases h
        obtain ⟨a1, a2, a3⟩ := (hot_all n).1 _ _ _ _ _ _ S h2
        obtain ⟨i1, i2⟩ := ih _ h3
        refine ⟨pss_consM (ps_retM a3) i1, fun ρ h => ?_⟩
        simp only [evB, evS, hotA]
        cases evE P m ρ h with
        | ok v h1 => rfl
        | err c fs h1 => rfl
        | bad => rfl
      · cases h
    · cases h
theorem hda_of (S : Ss tb L P k X N sc W) : ∀ (hds : List ExceptHandler) (hs : List (String × Option Nat × List Mn.S)), holdsOf tb N sc n hds = some hs → ∃ l, HdA X hds l ∧ ∀ c fs ρ h φ H σ D cls d, Rel L φ h H → EnvR L φ H ρ σ → ExR L φ H c fs cls d → PostS L φ H (hotR P c fs ρ h hs) D W → wHold X.K D l cls d σ H := by
  intro hds
  induction hds with
  | nil => intro hs h; simp only [holdsOf] at h; cases h; exact ⟨[], .nil, fun c fs ρ h φ H σ D cls d R En q p => by simp only [hotR] at p; exact p⟩
  | cons h0 r ih =>
    intro hs h
    unfold holdsOf at h
    split at h
    · rename_i z; cases z
    · rename_i x p1 t b0 suite p5 r' z
      cases z
      split at h
      · rename_i y
        split at h
        · rename_i s i b l h1 h2 h3 h4
          cases h
          obtain ⟨l', k1, k2⟩ := ih _ h4
          have e := nmS_ok h1
          subst e
          simp only [Bool.and_eq_true, decide_eq_true_eq] at y
          obtain ⟨⟨y1, y2⟩, y3⟩ := y
          unfold spC at y2
          simp only [Bool.and_eq_true, Bool.not_eq_true'] at y2
          by_cases hP : ∃ c b, P.exm c s = some b
          · obtain ⟨c0, b1, hb1⟩ := hP
            obtain ⟨C, hm, hex⟩ := S.S.pr.exm _ _ _ hb1
            have Sh : ∀ a, Sy tb L P k (X.suite a X.pn) false N sc (fun _ _ _ _ => False) := fun a => ⟨S.S.hK, S.S.hN, S.S.nd, S.S.hsc, takes0, S.S.fnc, S.S.pr⟩
            refine ⟨(.ref C, i, tSs L P (fun _ _ _ _ => False) b) :: l', .cons (by rw [S.S.hN]; exact idxN_ok h2) (by rw [S.S.hsc]; exact y3) (S.S.gl y1) y2.1.1 hm (fun a => (hot_ss (Sh a) _ _ h3).1) k1, ?_⟩
            intro c fs ρ h φ H σ D cls d R En q p
            simp only [hotR] at p
            cases em : P.exm c s with
            | none => rw [em] at p; exact False.elim p
            | some bb =>
              rw [em] at p
              obtain ⟨C', hm', hx'⟩ := S.S.pr.exm _ _ _ em
              rw [hm] at hm'; cases hm'
              obtain ⟨C2, hC2, rfl, _⟩ := id q
              refine ⟨bb, by rw [S.S.hK]; exact hx' _ hC2, fun z a na => ?_, fun z => ?_⟩
              · subst z
                simp only at p
                by_cases hil : i < ρ.length
                · rw [if_pos hil] at p
                  have E2 : Ext L φ H φ (upd H a (exH a (.ref C2) d)) := Ext.side na
                  refine ⟨φ, h, ρ.set i (some (.exc c fs)), R.side na, (En.mono E2).set (cons_ok R q na) i, ?_⟩
                  have p2 := PostS.step E2 p
                  rw [(hot_ss (Sh a) _ _ h3).2]
                  cases er : hotA P b (ρ.set i (some (.exc c fs))) h with
                  | nx ρ2 h2 => rw [er] at p2; exact fun σ' H' φ' x R' En' => p2 _ H' φ' x R' (En'.gone i)
                  | rt v h2 => rw [er] at p2; exact p2
                  | bk ρ2 h2 => rw [er] at p2; exact False.elim p2
                  | ct ρ2 h2 => rw [er] at p2; exact False.elim p2
                  | err c fs ρ2 h2 => rw [er] at p2; exact False.elim p2
                  | bad => rw [er] at p2; exact False.elim p2
                · rw [if_neg hil] at p; exact False.elim p
              · subst z
                exact k2 c fs ρ h φ H σ D _ d R En q p
          · refine ⟨[], .nil, fun c fs ρ h φ H σ D cls d R En q p => ?_⟩
            have hP' : P.exm c s = none := by
              cases e : P.exm c s with
              | none => rfl
              | some b => exact absurd ⟨c, b, e⟩ hP
            simp only [hotR, hP'] at p
            exact False.elim p
        · cases h
      · cases h
    · cases h
/-- try: .. except c as i: a suite that may look at it -/
theorem ps_holdM (S : Ss tb L P k X N sc W) {body : List Stmt} {xs : List Mn.S} {h0 : ExceptHandler} {hds : List ExceptHandler} {hs : List (String × Option Nat × List Mn.S)} {pos : Pos} (hh : holdsOf tb N sc n (h0 :: hds) = some hs)
    (hb : ∀ X' W', Ss tb L P k X' N sc W' → PSs X' body (tSs L P W' xs)) :
    PS X (.Try body (h0 :: hds) [] [] pos) (tS L P W (.tryS xs (("", none, []) :: hs))) := by
  obtain ⟨l, k1, k2⟩ := hda_of S _ _ hh
  refine PS.weak (ps_hold (tb := fun W' => tSs L P W' xs) S.st S.fr S.ex (by rw [S.S.hN]; exact S.S.nd)
    (fun W' pn xe tk pw => hb _ _ ⟨⟨⟨S.S.hK, S.S.hN, S.S.nd, S.S.hsc, tk, S.S.fnc, S.S.pr⟩, S.S.room, S.S.calm⟩, pw, S.st, S.fr, S.ex⟩) k1) fun D σ H ⟨φ, h, ρ, R, En, p⟩ => ?_
  simp only [evS] at p
  refine ⟨φ, h, ρ, R, En, ?_⟩
  unfold holdR at p
  cases eb : evB P xs ρ h with
  | nx ρ h' => rw [eb] at p; exact p
  | bk ρ h' => rw [eb] at p; exact p
  | ct ρ h' => rw [eb] at p; exact p
  | rt v h' => rw [eb] at p; exact p
  | bad => rw [eb] at p; exact p
  | err c2 fs ρ2 h2 =>
    rw [eb] at p
    simp only at p
    exact fun cls d σ' H' φ' x R' En' q => k2 c2 fs ρ2 h2 φ' H' σ' D cls d R' En' q (PostS.step x p)
theorem ps_fldM (S : Sx tb L P k X false N sc W) {f : String} {o e : Expr} {x m : E} {p pos : Pos} (oke : okE e = true) (ho : PE X o (tM L P W x)) (he : PE X e (tM L P W m)) : PS X (.Assign [.Attribute o (Str.ofString f) p] e pos) (tS L P W (.fld x f m)) := by
  have hs : swapsWith e (some (.Attribute o (Str.ofString f) p)) pos.line X.env = pure false := by
    cases e <;> first | rfl | exact absurd oke (by simp [okE])
  refine PS.weak (ps_fld ho he hs) fun D σ H ⟨φ, h, ρ, R, En, p⟩ => ?_
  simp only [evS] at p
  refine ⟨φ, h, ρ, R, En, (PostS.ofRes (rel := vR L) En p).imp fun v H1 ⟨φ1, h1, a, E1, R1, r1, p1⟩ => ?_⟩
  refine ⟨φ1, h1, ρ, R1, En.mono E1, (PostS.ofRes (rel := vR L) (En.mono E1) p1).imp fun ov H2 ⟨φ2, h2, b, E2, R2, r2, p2⟩ => ?_⟩
  have En2 := (En.mono E1).mono E2
  cases b <;> first | exact False.elim p2 | skip
  rename_i i
  simp only [setF] at p2
  split at p2
  · rename_i c fs hi
    by_cases cf : fs.length < 1000 ∧ (P.flds c).contains f = true
    · rw [if_pos cf] at p2
      obtain ⟨d, rfl, bi, ob⟩ := R2.at hi r2
      cases ob with
      | ins hc q rf =>
        obtain ⟨C', hC', hcl, hno⟩ := S.pr.flds c f cf.2
        rw [hc] at hC'; cases hC'
        rename_i C dx xs
        refine ⟨d, C, dx, xs, rfl, q, S.hK ▸ hcl, S.hK ▸ hno, by rw [← rf.length]; exact cf.1, ?_⟩
        have X1 : Ext L φ2 H2 φ2 (upd H2 d (.ins C dx (putF (Str.ofString f) v xs))) := Ext.write (bi.2 rfl) q (fun _ _ z => by cases z) (fun _ z => by cases z)
        exact p2 σ _ φ2 X1 (R2.write hi rfl (fun _ z => by cases z) (bi.2 rfl) (.ins hc upd_same ((FRs.put (r1.mono E2) rf).mono X1))) (En2.mono X1)
    · rw [if_neg cf] at p2; exact False.elim p2
  · exact False.elim p2
theorem ps_lcM (S : Sx tb L P k X false N sc W) {x : Str} {p : Pos} {elt : Expr} {gs : List Comprehension} {scope : Scope} {pos spos : Pos} {t : Tg} {m : E} (ht : trT false N sc (.Name x p) = some t) (hm : trE tb n false N sc (.ListComp elt gs scope pos) = some m)
    (hx : sc.names.lookup x = some .local) (hl : (p.line == pos.line) = true) (ha : (scope.names.any fun (n, k) => n == x && (k == .local || k == .cell)) = false) : PS X (.Assign [.Name x p] (.ListComp elt gs scope pos) spos) (tS L P W (.asg t m)) := by
  cases n with
  | zero => simp only [trE] at hm; cases hm
  | succ n =>
    obtain ⟨h1, h2, h3, h4, h5⟩ := good_all (tb := tb) (L := L) (P := P) (k := k) n
    obtain ⟨tg, iter, ifs, rfl⟩ : ∃ tg iter ifs, gs = [⟨tg, iter, ifs, 0⟩] := by
      rcases gs with _ | ⟨⟨tg, iter, ifs, a⟩, _ | ⟨g2, r⟩⟩
      · simp only [trE] at hm; cases hm
      · by_cases ha : a = 0
        · subst ha; exact ⟨_, _, _, rfl⟩
        · exfalso
          simp only [trE] at hm
          split at hm
          all_goals simp_all
      · simp only [trE] at hm; cases hm
    simp only [trE] at hm
    obtain ⟨j, hj, rfl⟩ := Option.map_eq_some_iff.mp (show (trTg false N sc (.Name x p)).map Tg.nm = some t from ht)
    obtain ⟨l1, l2, l3⟩ := loc_of S.toSy hj
    by_cases c : blkC N sc scope (ownOf N scope) = true
    · rw [if_pos c] at hm
      split at hm
      · rename_i kk es t x e1 e2 e3
        by_cases c2 : tgIn ((ownOf N scope).map (·.2)) t = true
        · rw [if_pos c2] at hm
          obtain ⟨i1, i2⟩ := h5 _ _ _ _ _ _ _ _ _ S e1
          have ok : BlkOk X.N X.env.scope scope (ownOf N scope) := by rw [S.hN, S.hsc]; exact blkOk_by c
          have fin : ∀ (cond : Option E) (hm : m = .cmp1 ((ownOf N scope).map (·.2)) x t kk es cond) (ht : ∀ (s : Shared) (H : Hp) (C : Addr) (cl : List (Str × Addr)) (fp : List Addr), PTs (X.blk s H scope (compEnvC scope cl C X.env) fp) ifs (tCnd L P cond)),
              PS X (.Assign [.Name _ p] (.ListComp elt [⟨tg, iter, ifs, 0⟩] scope pos) spos) (tS L P W (.asg (.nm j) m)) := fun cond hm ht => by
            subst hm
            refine ⟨fun pins s σ H D I q => ?_⟩
            have sw := sw_true (elt := elt) (gs := [⟨tg, iter, ifs, 0⟩]) (l := spos.line) (env := X.env) I.ok.kind (by rw [S.hsc]; exact hx) hl ha
            refine (ps_setLc (i := j) S.calm (by rw [S.hN]; exact S.nd) l1 (by rw [S.hsc]; exact hx) sw i2 ok (fun s H C cl fp => pg_M (S.block s H scope C cl fp) e2) ht (fun s H C cl fp => (h1 _ _ _ _ _ _ _ (S.block s H scope C cl fp) e3).2.1) (okE_folded i1 _)).run pins s σ H D I ?_
            obtain ⟨φ, h, ρ, R, En, p⟩ := q
            simp only [evS] at p
            refine compL_w (W := W) S.hK c2 (P := P) (cond := cond) ⟨φ, h, ρ, R, En, (PostS.ofRes (rel := vR L) En p).imp fun v H1 ⟨φ1, h1, a, E1, R1, r1, p1⟩ => ?_⟩
            have p1 : PostS L φ1 H1 (.nx (ρ.set j (some a)) h1) D W := p1
            exact p1 _ H1 φ1 Ext.refl R1 ((En.mono E1).set r1 j)
          split at hm
          · cases hm
            exact fin none rfl fun s H C cl fp => pts_nil
          · split at hm
            · rename_i cc y ey
              cases hm
              exact fin (some y) rfl fun s H C cl fp => pts_one (h1 _ _ _ _ _ _ _ (S.block s H scope C cl fp) ey).2.2
            · cases hm
          · cases hm
        · rw [if_neg c2] at hm; cases hm
      · cases hm
    · rw [if_neg c] at hm; cases hm
end
end Mn
/-! Mini: statements are right; defs; a program -/
namespace Mn
open PySem PySem.Spec PyProof.Rows L2
theorem isLC_ne {e : Expr} (h : ¬ isLC e = true) : ∀ a b c d, e ≠ .ListComp a b c d := fun _ _ _ _ z => by subst z; exact h rfl
section
variable {tb : Tb} {L : Lk} {P : Pg} {k : Nat} {X : Cx} {N : List Str} {sc : Scope} {W : WX} {n : Nat}
theorem trE_ok (S : Sx tb L P k X false N sc W) {e : Expr} {m : E} (h : trE tb n false N sc e = some m) : okE e = true ∧ PE X e (tM L P W m) ∧ PT X e (tMT L P W m) := (good_all n).1 _ _ _ _ _ _ _ S h
theorem swp_stores {env : Env} {x y : Str} {px py pt pt2 : Pos} {kt k2 : Nat} {a b : Expr} (hk : env.scope.kind = .function) (hx : env.scope.names.lookup x = some .local) (hy : env.scope.names.lookup y = some .local)
    (hne : (x == y) = false) (hne' : (y == x) = false) (hl : py.line = px.line) (oa : okE a = true) (ob : okE b = true) (f1 : [a, b].all (foldedForSure 8) = false) (f2 : [a, b].all (constantsAlone 8) = false) :
    swappedStores [.Tuple [.Name x px, .Name y py] kt pt] (.Tuple [a, b] k2 pt2) env = pure (some [x, y]) := by
  unfold swappedStores
  have hb : env.blockKind = .function := by unfold Env.blockKind; rw [hk]; rfl
  have kx : env.kindOf x = some .local := by unfold Env.kindOf; exact hx
  have ky : env.kindOf y = some .local := by unfold Env.kindOf; exact hy
  simp only [List.length_cons, List.length_nil, hb, f1, f2]
  have st : ∀ e : Expr, okE e = true → (match e with
      | .Starred .. => true
      | _ => false) = false := fun e he => by
    cases e <;> first | rfl | exact absurd he Bool.false_ne_true
  have sa := st a oa
  have sb := st b ob
  simp [kx, ky, hl, List.eraseDups, List.eraseDupsBy, List.eraseDupsBy.loop, hne, hne', Expr.pos, sa, sb]
  rintro (z | z)
  · exact absurd (sa.symm.trans z) Bool.false_ne_true
  · exact absurd (sb.symm.trans z) Bool.false_ne_true
theorem swp_w {i j : Nat} {ms : List E} {D : Ends} {σ : L2.St} {H : Hp} (q : tS L P W (.asg (.tp [i, j]) (.tup ms)) D σ H) : tPar i j (tMs L P W ms) D σ H := by
  obtain ⟨φ, h, ρ, R, En, p⟩ := q
  simp only [evS, evE] at p
  refine ⟨φ, h, ρ, R, En, ?_⟩
  cases e : evEs P ms ρ h with
  | bad => rw [e] at p; exact False.elim p
  | err c fs h1 => rw [e] at p; exact fun cls d H' φ' x R' q => p cls d σ H' φ' x R' (En.mono x) q
  | ok vs h1 =>
    rw [e] at p
    simp only [bind_ok] at p
    by_cases c : vs.length ≤ sizeLine
    · rw [if_pos c] at p
      intro us H1 φ1 E1 R1 r1
      have p := PostS.step E1 p
      have p : PostS L φ1 H1 (match binds ρ [i, j] vs with
        | some ρ1 => .nx ρ1 h1
        | none => .bad) D W := p
      cases vs with
      | nil => exact False.elim p
      | cons v vs => cases vs with
        | nil => exact False.elim p
        | cons w vs => cases vs with
          | cons z vs => exact False.elim p
          | nil =>
            cases r1 with
            | cons rv r1 => cases r1 with
              | cons rw' r1 =>
                cases r1
                exact ⟨_, _, rfl, p _ H1 φ1 Ext.refl R1 (((En.mono E1).set rv i).set rw' j)⟩
    · rw [if_neg c] at p; exact False.elim p
theorem swp_ok (S : Sx tb L P k X false N sc W) {es : List Expr} {v e1 e2 : Expr} {i j a : Nat} {ms : List E} {p pos : Pos} (hs : swpOf N sc es v = some (i, j, e1, e2)) (ha : PA X [e1, e2] (tMs L P W ms)) :
    PS X (.Assign [.Tuple es a p] v pos) (tS L P W (.asg (.tp [i, j]) (.tup ms))) := by
  unfold swpOf at hs
  split at hs
  · rename_i x px y py b1 b2 k2 pt2
    split at hs
    · rename_i c
      simp only [Bool.and_eq_true, decide_eq_true_eq, Bool.not_eq_true', beq_iff_eq] at c
      obtain ⟨⟨⟨⟨⟨⟨⟨⟨⟨cx, cy⟩, cn⟩, cn'⟩, cl⟩, ck⟩, oa⟩, ob⟩, f1⟩, f2⟩ := c
      split at hs
      · rename_i i' j' ei ej
        cases hs
        have hi := idxN_ok ei
        have hj := idxN_ok ej
        refine PS.weak (ps_par S.calm (by rw [S.hN]; exact S.nd) (by rw [S.hN]; exact hi) (by rw [S.hN]; exact hj) (fun z => ?_) (by rw [S.hsc]; exact cx) (by rw [S.hsc]; exact cy) ha
          (swp_stores (by rw [S.hsc]; exact ck) (by rw [S.hsc]; exact cx) (by rw [S.hsc]; exact cy) cn cn' cl oa ob f1 f2)) fun _ _ _ q => swp_w q
        subst z
        rw [hi] at hj
        cases hj
        simp at cn
      · cases hs
    · cases hs
  · cases hs
theorem raOf_inv {sc : Scope} {e c : Option Expr} {s : String} {a : Expr} (h : raOf sc e c = some (s, a)) : ∃ np cp, e = some (.Call (.Name (Str.ofString s) np) [a] [] cp) ∧ c = none ∧ Mn.gl sc (Str.ofString s) = true ∧ spC (Str.ofString s) = true ∧ okE a = true := by
  unfold raOf at h
  split at h
  · rename_i x np a' cp
    by_cases z : (gl sc x && spC x && okE a') = true
    · rw [if_pos z] at h
      obtain ⟨s', h1, h2⟩ := Option.map_eq_some_iff.mp h
      cases h2
      have e := nmS_ok h1
      subst e
      simp only [Bool.and_eq_true] at z
      exact ⟨_, _, rfl, rfl, z.1.1, z.1.2, z.2⟩
    · rw [if_neg z] at h; cases h
  · cases h
theorem onlyOf_inv {N : List Str} {sc : Scope} {hs : List ExceptHandler} {s : String} {st : Mn.S} (h : onlyOf N sc hs = some (s, st)) : ∃ (e : Expr) (m : E) (st0 : Stmt) (p1 p5 : Pos), hs = [.ExceptHandler (some (.Name (Str.ofString s) p1)) none [st0] p5] ∧ Mn.gl sc (Str.ofString s) = true ∧ spC (Str.ofString s) = true ∧ hotE N sc e = some m ∧
    ((∃ t p2 p4 j, st0 = .Assign [.Name t p2] e p4 ∧ st = .asg (.nm j) m ∧ idxN N t = some j ∧ sc.names.lookup t = some .local) ∨ ∃ p4, st0 = .Return (some e) p4 ∧ st = .ret m) := by
  unfold onlyOf at h
  split at h
  · split at h
    · rename_i z
      split at h
      · rename_i s' j' m' h1 h2 h3
        cases h
        have e := nmS_ok h1
        subst e
        simp only [Bool.and_eq_true, decide_eq_true_eq] at z
        exact ⟨_, _, _, _, _, rfl, z.1.1, z.1.2, h3, .inl ⟨_, _, _, _, rfl, rfl, h2, z.2⟩⟩
      · cases h
    · cases h
  · split at h
    · rename_i z
      split at h
      · rename_i s' m' h1 h3
        cases h
        have e := nmS_ok h1
        subst e
        simp only [Bool.and_eq_true] at z
        exact ⟨_, _, _, _, _, rfl, z.1, z.2, h3, .inr ⟨_, rfl, rfl⟩⟩
      · cases h
    · cases h
  · cases h
theorem toldOf_inv {N : List Str} {sc : Scope} {hs : List ExceptHandler} {s : String} {i j : Nat} (h : toldOf N sc hs = some (s, i, j)) : ∃ xn t p1 p2 p3 p4 p5, hs = [.ExceptHandler (some (.Name (Str.ofString s) p1)) (some xn) [.Assign [.Name t p2] (.Name xn p3) p4] p5] ∧ Mn.gl sc (Str.ofString s) = true ∧ spC (Str.ofString s) = true ∧ spC xn = true ∧
    idxN N xn = some i ∧ idxN N t = some j ∧ sc.names.lookup xn = some .local ∧ sc.names.lookup t = some .local := by
  unfold toldOf at h
  split at h
  · rename_i x p1 n t p2 m p3 p4 p5
    by_cases z : (gl sc x && spC x && spC n && (m == n) && decide (sc.names.lookup n = some .local) && decide (sc.names.lookup t = some .local)) = true
    · rw [if_pos z] at h
      split at h
      · rename_i s' i' j' h1 h2 h3
        cases h
        have e := nmS_ok h1
        subst e
        simp only [Bool.and_eq_true, decide_eq_true_eq, beq_iff_eq] at z
        obtain ⟨⟨⟨⟨⟨z1, z2⟩, z3⟩, z4⟩, z5⟩, z6⟩ := z
        subst z4
        exact ⟨_, _, _, _, _, _, _, rfl, z1, z2, z3, h2, h3, z5, z6⟩
      · cases h
    · rw [if_neg z] at h; cases h
  · cases h
def GoodS (tb : Tb) (L : Lk) (P : Pg) (k : Nat) (n : Nat) : Prop := ∀ N sc X W s m, Ss tb L P k X N sc W → trS tb n N sc s = some m → PS X s (tS L P W m)
def GoodSs (tb : Tb) (L : Lk) (P : Pg) (k : Nat) (n : Nat) : Prop := ∀ N sc X W s m, Ss tb L P k X N sc W → trSs tb n N sc s = some m → PSs X s (tSs L P W m)
theorem good_ss (h1 : GoodS tb L P k n) (h2 : GoodSs tb L P k n) : GoodSs tb L P k (n + 1) := by
  intro N sc X W ss m S h
  simp only [trSs] at h
  cases ss with
  | nil => cases h; exact pss_nilM
  | cons s r =>
    simp only at h
    split at h
    · rename_i x xs e1 e2
      cases h
      exact pss_consM (h1 _ _ _ _ _ _ S e1) (h2 _ _ _ _ _ _ S e2)
    · cases h
theorem good_s (h2 : GoodSs tb L P k n) : GoodS tb L P k (n + 1) := by
  intro N sc X W s m S h
  simp only [trS] at h
  split at h
  · -- a comprehension's list is named
    rename_i x p elt gs scope pos spos
    split at h
    · rename_i t m' e1 e2
      obtain ⟨a1, a2, a3⟩ := trE_ok S.S e2
      by_cases c : (decide (sc.names.lookup x = some .local) && (p.line == pos.line) && !(scope.names.any fun (n, k) => n == x && (k == .local || k == .cell)) && decide (gs.length = 1)) = true
      · rw [if_pos c] at h; cases h
        simp only [Bool.and_eq_true, decide_eq_true_eq, Bool.not_eq_true'] at c
        exact ps_lcM S.S e1 e2 c.1.1.1 c.1.1.2 c.1.2
      · rw [if_neg c] at h
        by_cases c2 : (decide (sc.names.lookup x = some .local)) = false
        · rw [if_pos c2] at h; cases h
          have k2 : (X.env.kindOf x == some .local) = false := by
            have z : X.env.kindOf x ≠ some .local := by
              unfold Env.kindOf
              rw [S.S.hsc]
              exact of_decide_eq_false c2
            cases e : X.env.kindOf x with
            | none => rfl
            | some kk => cases kk <;> first | rfl | exact absurd e z
          refine ps_asgM a2 (pg_A S.S e1) ?_ rfl rfl
          show swapsWith (.ListComp elt gs scope pos) (some (.Name x p)) spos.line X.env = pure false
          unfold swapsWith
          simp only [k2, Bool.and_false, Bool.false_and]
        · rw [if_neg c2] at h; cases h
    · cases h
  · rename_i s tg v pos hne
    split at h
    · rename_i o i p
      split at h
      · rename_i m' x y e1 e2 e3
        cases h
        obtain ⟨a1, a2, _⟩ := trE_ok S.S e1
        obtain ⟨_, b2, _⟩ := trE_ok S.S e2
        obtain ⟨c1, c2, _⟩ := trE_ok S.S e3
        exact ps_subM S.S c1 a1 b2 c2 a2
      · cases h
    · rename_i x p
      by_cases c : isLC v = true
      · rw [if_pos c] at h; cases h
      · rw [if_neg c] at h
        split at h
        · rename_i t m' e1 e2
          cases h
          obtain ⟨a1, a2, _⟩ := trE_ok S.S e2
          refine ps_asgM a2 (pg_A S.S e1) ?_ ?_ rfl
          · show swapsWith v (some (.Name x p)) pos.line X.env = pure false
            exact okE_notSwap a1 (isLC_ne c) (some (.Name x p)) pos.line X.env
          · cases v <;> rfl
        · cases h
    · rename_i es a b
      by_cases c0 : isSeqD v = true
      · rw [if_pos c0] at h
        split at h
        · rename_i i j e1 e2 hs
          split at h
          · rename_i ms em
            cases h
            exact swp_ok S.S hs ((good_all n).2.1 _ _ _ _ _ _ _ S.S em).2.1
          · cases h
        · cases h
      · rw [if_neg c0] at h
        by_cases c1 : isLC v = true
        · rw [if_pos c1] at h; cases h
        rw [if_neg c1] at h
        have c := And.intro c1 c0
        split at h
        · rename_i t m' e1 e2
          cases h
          obtain ⟨a1, a2, _⟩ := trE_ok S.S e2
          refine ps_asgM a2 (pg_A S.S e1) ?_ ?_ rfl
          · show swapsWith v (some (.Tuple es a b)) pos.line X.env = pure false
            exact okE_notSwap a1 (isLC_ne c.1) (some (.Tuple es a b)) pos.line X.env
          · cases v <;> first | rfl | exact absurd rfl c.2
        · cases h
    · rename_i o f p
      split at h
      · rename_i s x m' e0 e1 e2
        cases h
        have e := nmS_ok e0
        subst e
        obtain ⟨b1, b2, _⟩ := trE_ok S.S e1
        obtain ⟨a1, a2, _⟩ := trE_ok S.S e2
        exact ps_fldM S.S a1 b2 a2
      · cases h
    · cases h
  · cases h; exact ps_docM
  · rename_i e pos hne
    by_cases c : isLC e = true
    · rw [if_pos c] at h; cases h
    · rw [if_neg c] at h
      obtain ⟨x, e1, rfl⟩ := Option.map_eq_some_iff.mp h
      obtain ⟨a1, a2, _⟩ := trE_ok S.S e1
      exact ps_expM a1 (isLC_ne c) a2
  · cases h; exact ps_retNM
  · obtain ⟨x, e1, rfl⟩ := Option.map_eq_some_iff.mp h
    exact ps_retM (trE_ok S.S e1).2.1
  · split at h
    · rename_i x y z e1 e2 e3
      cases h
      exact ps_ifM (trE_ok S.S e1).2.2 (h2 _ _ _ _ _ _ S e2) (h2 _ _ _ _ _ _ S e3)
    · cases h
  · split at h
    · rename_i t kk es x e1 e2 e3
      cases h
      obtain ⟨i1, i2⟩ := (good_all n).2.2.2.2 _ _ _ _ _ _ _ _ _ S.S e2
      exact ps_forM S.pow S.S.calm i2 (pg_M S.S e1) (h2 _ _ _ _ _ _ S e3) (okE_folded i1 _)
    · cases h
  · split at h
    · rename_i x y e1 e2
      cases h
      exact ps_whlM S.pow (trE_ok S.S e1).2.2 (h2 _ _ _ _ _ _ S e2)
    · cases h
  · cases h; exact ps_brkM
  · cases h; exact ps_cntM
  · cases h; exact ps_pasM
  · split at h
    · rename_i s a e1
      split at h
      · rename_i x e2
        cases h
        obtain ⟨np, cp, rfl, rfl, g1, g2, ok⟩ := raOf_inv e1
        exact ps_raiM S g1 g2 ok (trE_ok S.S e2).2.1
      · cases h; exact ps_rai0
    · cases h; exact ps_rai0
  · split at h
    · rename_i s i j e1
      obtain ⟨x, e2, rfl⟩ := Option.map_eq_some_iff.mp h
      obtain ⟨xn, t, p1, p2, p3, p4, p5, rfl, g1, g2, g3, hi, hj, l1, l2⟩ := toldOf_inv e1
      exact ps_tryM S g1 g2 g3 hi hj l1 l2 fun X' W' S' => h2 _ _ _ _ _ _ S' e2
    · split at h
      · rename_i s st e1
        obtain ⟨x, e2, rfl⟩ := Option.map_eq_some_iff.mp h
        obtain ⟨e, m, st0, p1, p5, rfl, g1, g2, he, hst⟩ := onlyOf_inv e1
        exact ps_onlyM S g1 g2 he hst fun X' W' S' => h2 _ _ _ _ _ _ S' e2
      · split at h
        · cases h
        · split at h
          · rename_i l x e1 e2
            cases h
            exact ps_holdM S e1 fun X' W' S' => h2 _ _ _ _ _ _ S' e2
          · cases h
  · cases h
theorem good_st : ∀ n, GoodS tb L P k n ∧ GoodSs tb L P k n
  | 0 => ⟨(fun _ _ _ _ _ _ _ h => by simp only [trS] at h; cases h), (fun _ _ _ _ _ _ _ h => by simp only [trSs] at h; cases h)⟩
  | n + 1 => ⟨good_s (good_st n).2, good_ss (good_st n).1 (good_st n).2⟩
end
end Mn
/-! Mini: defs; a program -/
namespace Mn
open PySem PySem.Spec PyProof.Rows L2
/-- a def: parameters, names, body -/
structure Df where
  ps : List Str
  np : Nat
  nn : Nat
  body : List S
@[irreducible] noncomputable def callB (P : Pg) (d : Df) (args : List Val) (h : MH) : Res Val :=
  if args.length = d.np then
    match evB P d.body (args.map some ++ List.replicate (d.nn - d.np) none) h with
    | .rt v h' => .ok v h'
    | .nx _ h' => .ok .non h'
    | .err c fs _ h' => .err c fs h'
    | _ => .bad
  else .bad
structure Pr where
  defs : List (String × Df)
  glb : List (String × Val)
  sub : String → String → Option Bool
  mro : String → String → Option String
  flds : String → List String
  exm : String → String → Option Bool
  exi : String → Option (Option String)
noncomputable def Pr.pg (T : Pr) : Nat → Pg
  | 0 => { glb := fun x => T.glb.lookup x, sub := T.sub, mro := T.mro, flds := T.flds, exm := T.exm, exi := fun _ => none, cf := fun _ _ _ => .bad }
  | n + 1 => { glb := fun x => T.glb.lookup x, sub := T.sub, mro := T.mro, flds := T.flds, exm := T.exm, exi := T.exi, cf := fun f args h => match T.defs.lookup f with
      | some d => callB (T.pg n) d args h
      | none => .bad }
/-- the def f of the program is the Mini def -/
def DefOk (tb : Tb) (T : Pr) (K : PySem.W.Frag) (mg : Str → Option Value) (f : String) : Prop :=
  ∃ (a : Addr) (st : Stmt) (qual : Str) (fd : FuncData) (N ps : List Str) (d : Df) (fuel : Nat), mg (Str.ofString f) = some (.ref a) ∧ Fun K (Str.ofString f) qual st a fd ∧ (∀ us : List Value, us.length = ps.length → bindArgs fd ⟨us, []⟩ = pure (ps.zip us)) ∧ FnScope N ps (defScope st) ∧
    T.defs.lookup f = some d ∧ trSs tb fuel N (defScope st) (defBody st) = some d.body ∧ d.np = ps.length ∧ d.nn = N.length ∧ d.ps = ps
/-- an exception's class, as the program has it -/
def ExDf (K : PySem.W.Frag) (C : Addr) : Option String → Prop
  | none => PySem.W.excIn K C veTl "ValueError.__new__" = true
  | some f => OexC K C ∧ PySem.W.findIn K (.ref C) (Str.ofString f) = some none ∧ ∃ (fI : Addr) (st : Stmt) (x qual self row : Str) (fd : FuncData) (p1 p2 p3 p4 : Pos), PySem.W.findIn K (.ref C) "__init__" = some (some (.ref fI)) ∧ PySem.W.typeIn K (.ref fI) = some (.type "function") ∧ Fun K x qual st fI fd ∧ (∀ us : List Value, us.length = [self, row].length → bindArgs fd ⟨us, []⟩ = pure ([self, row].zip us)) ∧ FnScope [self, row] [self, row] (defScope st) ∧
    defBody st = [.Assign [.Attribute (.Name self p1) (Str.ofString f) p2] (.Name row p3) p4] ∧ (defScope st).names.lookup self = some .local ∧ (defScope st).names.lookup row = some .local ∧ spC self = true ∧ spC row = true
structure TopOk (tb : Tb) (T : Pr) (L : Lk) (mg : Str → Option Value) : Prop where
  glb : ∀ x, tb.glb.contains x = true → ∃ v u y, T.glb.lookup x = some v ∧ mg (Str.ofString x) = some u ∧ RelV y u ∧ ∀ φ H, VR L φ H v y
  fns : ∀ f, tb.fns.contains f = true → DefOk tb T L.K mg f
  isi : ∀ t, tb.isi.contains t = true → ∃ (c : V) (u : Value), ((∃ T, c = .ty T ∧ u = .type T ∧ mg (Str.ofString t) = none ∧ bootBuiltins (Str.ofString t) = some (.type T)) ∨ ∃ C, c = .ref C ∧ u = .ref C ∧ mg (Str.ofString t) = some (.ref C)) ∧
    ∀ cl b, T.sub cl t = some b → PySem.W.kitOne L.K (tyV' L cl) u = some b
  noTy : ∀ c, isTy c = true → L.cls c = none ∧ L.exc c = none
  sep : ∀ c C, L.cls c = some C → L.exc c = none
  exk : ∀ c C, L.exc c = some C → ExK L.K C
  exm : ∀ c t b, T.exm c t = some b → ∃ C, mg (Str.ofString t) = some (.ref C) ∧ ∀ D, L.exc c = some D → PySem.W.exmOne L.K (.ref D) (.ref C) = some b
  exi : ∀ c o, T.exi c = some o → ∃ C, L.exc c = some C ∧ mg (Str.ofString c) = some (.ref C) ∧ PySem.W.keepIn L.K (.ref C) = true ∧ PySem.W.subIn L.K (.ref C) (.type "BaseException") = some true ∧ PySem.W.typeIn L.K (.ref C) = some (.type "type") ∧ ExDf L.K C o
  insTy : ∀ c C, L.cls c = some C → ∀ (H : Hp) (a dx : Addr) (fs : List (Str × V)), H a = some (.ins C dx fs) → TyX L.K H (.ref a) (.ref C)
  blt : ∀ b, bltNames.contains b = true → mg (Str.ofString b) = none
  mro : ∀ c m f, T.mro c m = some f → ∃ C a st qual fd N ps d fuel, L.cls c = some C ∧ Cls L.K C ∧ Meth L.K C (Str.ofString m) a ∧ Fun L.K (Str.ofString m) qual st a fd ∧ (∀ us : List Value, us.length = ps.length → bindArgs fd ⟨us, []⟩ = pure (ps.zip us)) ∧ FnScope N ps (defScope st) ∧
    T.defs.lookup f = some d ∧ trSs tb fuel N (defScope st) (defBody st) = some d.body ∧ d.np = ps.length ∧ d.nn = N.length
  own : ∀ m, tb.own.contains m = true → ∃ c f, T.mro c m = some f
  mks : ∀ c, tb.mks.contains c = true → ∃ C a f, L.cls c = some C ∧ mg (Str.ofString c) = some (.ref C) ∧ Mk L.K C a ∧ T.mro c "__init__" = some f
  flds : ∀ c f, (T.flds c).contains f = true → ∃ C, L.cls c = some C ∧ Cls L.K C ∧ NoAttr L.K C (Str.ofString f)
  cm : ∀ c m f, tb.cm.lookup (c, m) = some f → ∃ C mc a st qual fd N ps d fuel, mg (Str.ofString c) = some (.ref C) ∧ ClX.CRead L.K C mc ∧ PySem.W.findCls L.K (.ref C) mc (Str.ofString m) = some (.val (.ref a)) ∧ Fun L.K (Str.ofString m) qual st a fd ∧ (∀ us : List Value, us.length = ps.length → bindArgs fd ⟨us, []⟩ = pure (ps.zip us)) ∧ FnScope N ps (defScope st) ∧
    T.defs.lookup f = some d ∧ trSs tb fuel N (defScope st) (defBody st) = some d.body ∧ d.np = ps.length ∧ d.nn = N.length
section
variable {tb : Tb} {T : Pr} {L : Lk} {prog : Program} {w : World} {mg : Str → Option Value} {base : Heap}
theorem VRs.map_get {φ : Ph} {H : Hp} : ∀ {ms : List Val} {vs : List V}, VRs L φ H ms vs → ∀ (m : Nat) (i : Nat) (v : Val), (ms.map some ++ List.replicate m none)[i]? = some (some v) → ∃ x, (vs.map some ++ List.replicate m none)[i]? = some (some x) ∧ VR L φ H v x
  | _, _, .nil, m, i, v, h => by
    simp only [List.map_nil, List.nil_append] at h
    rw [List.getElem?_replicate] at h
    split at h <;> cases h
  | _, _, .cons r t, m, 0, v, h => by
    simp at h; subst h
    exact ⟨_, by simp, r⟩
  | _, _, .cons r t, m, i + 1, v, h => by
    obtain ⟨x, h1, h2⟩ := t.map_get m i v (by simpa using h)
    exact ⟨x, by simpa using h1, h2⟩
theorem def_ok {k : Nat} {P : Pg} (pr : PrOk tb L P k prog w mg base) {f : Str} {qual : Str} {st : Stmt} {a : Addr} {fd : FuncData} {N ps : List Str} {d : Df} {fuel : Nat} (F : Fun L.K f qual st a fd) (S : FnScope N ps (defScope st))
    (ht : trSs tb fuel N (defScope st) (defBody st) = some d.body) (hp : d.np = ps.length) (hn : d.nn = N.length) : FnOk prog w L.K mg base (L2.CX prog w) (k + 2) a fd ps (spOf L (callB P d) ps.length) := by
  refine F.okX S (fun vs H Q E h => h.1) fun cdv A outer s H vs Q E hr ⟨hl, φ, h, ms, R, rv, p⟩ => ?_
  have hms : ms.length = d.np := by rw [rv.length, hl, hp]
  unfold callB at p
  rw [if_pos hms] at p
  have Sx0 : Ss tb L P k (cxOf (L2.CX prog w) prog w L.K mg base N qual (defScope st) a cdv A outer s H E) N (defScope st) (fun cls d _ H => E cls d H) :=
    ⟨⟨⟨rfl, rfl, S.nd, rfl, takes_of rfl rfl rfl rfl, fun _ _ => rfl, pr⟩, hr, rfl⟩, passes_of rfl, rfl, rfl, rfl⟩
  refine ⟨_, (good_st fuel).2 _ _ _ _ _ _ Sx0 ht, φ, h, ms.map some ++ List.replicate (d.nn - d.np) none, R, ⟨?_, fun i v hi => ?_⟩, ?_⟩
  · unfold L2.start; simp [rv.length, hl, hn, hp]
  · unfold L2.start
    rw [hl, ← hp, ← hn]
    exact rv.map_get _ i v hi
  · cases e : evB P d.body (ms.map some ++ List.replicate (d.nn - d.np) none) h with
    | nx ρ h' => rw [e] at p; exact fun σ' H' φ' x R' _ => p .non H' φ' x R' .non
    | rt v h' => rw [e] at p; exact fun x H' φ' E' R' r => p x H' φ' E' R' r
    | bk ρ h' => rw [e] at p; exact False.elim p
    | ct ρ h' => rw [e] at p; exact False.elim p
    | bad => rw [e] at p; exact False.elim p
    | err c fs ρ h' => rw [e] at p; exact fun cls d σ H' φ' x R' _ q => p cls d H' φ' x R' q
/-- __init__ of an exception's class -/
theorem exinit_ok {k : Nat} {x qual self row f : Str} {st : Stmt} {a C : Addr} {fd : FuncData} {p1 p2 p3 p4 : Pos} (F : Fun L.K x qual st a fd) (S : FnScope [self, row] [self, row] (defScope st)) (hb : defBody st = [.Assign [.Attribute (.Name self p1) f p2] (.Name row p3) p4])
    (l1 : (defScope st).names.lookup self = some .local) (l2 : (defScope st).names.lookup row = some .local) (c1 : spC self = true) (c2 : spC row = true) (T : OexC L.K C) (hno : PySem.W.findIn L.K (.ref C) f = some none) : FnOk prog w L.K mg base (L2.CX prog w) (k + 1) a fd [self, row] (spEx C f) := by
    refine F.okX S (fun vs H Q E ⟨a, v, e, _⟩ => by rw [e]; rfl) fun cdv A outer s H vs Q E hr ⟨e, v, ev, he, q⟩ => ?_
    subst ev
    unfold spC at c1 c2
    simp only [Bool.and_eq_true, Bool.not_eq_true'] at c1 c2
    rw [hb]
    refine ⟨_, pss_cons (ps_ost (pe_var (i := 0) rfl (.inl l1) c1.1.1 c1.1.2) (pe_var (i := 1) rfl (.inl l2) c2.1.1 c2.1.2)) pss_nil, ?_⟩
    exact ⟨v, rfl, .ref e, rfl, e, C, rfl, T, hno, .inl ⟨he, fun dx hd ne => q dx hd ne⟩⟩
theorem exdf_ok {k : Nat} {C : Addr} {o : Option String} (h : ExDf L.K C o) : ExMk prog w L.K mg base (k + 1) C o := by
  cases o with
  | none => exact h
  | some f =>
    obtain ⟨T, hno, fI, st, x, qual, self, row, fd, p1, p2, p3, p4, iC, tI, F, hb, S, hd, l1, l2, c1, c2⟩ := h
    exact ⟨T, hno, fI, fd, _, iC, tI, .all hb, exinit_ok F S hd l1 l2 c1 c2 T hno⟩
theorem cf_eq {f : String} {d : Df} (hd : T.defs.lookup f = some d) {n : Nat} : (T.pg (n + 1)).cf f = callB (T.pg n) d := by
  funext ms h
  show (match T.defs.lookup f with
    | some d => callB (T.pg n) d ms h
    | none => Res.bad) = _
  rw [hd]
theorem bad_fn {C : CXT} {k : Nat} {a : Addr} {fd : FuncData} {ps : List Str} {f : String} : FnOk prog w L.K mg base C k a fd ps (spOf L ((T.pg 0).cf f) ps.length) := ⟨fun vs H Q E h => h.1, fun A outer s H args us vs Q E hr _ _ _ h => by
      obtain ⟨_, φ, hh, ms, _, _, p⟩ := h
      exact False.elim p⟩
theorem callB_len {P : Pg} {d : Df} {ms : List Val} {h : MH} (z : callB P d ms h ≠ .bad) : ms.length = d.np := by
  unfold callB at z
  by_cases c : ms.length = d.np
  · exact c
  · rw [if_neg c] at z; exact absurd rfl z
theorem prog_ok (O : TopOk tb T L mg) : ∀ n, PrOk tb L (T.pg n) (2 * n) prog w mg base
  | 0 => by
    refine ⟨O.glb, fun f hf => ?_, O.isi, O.noTy, O.sep, O.exk, O.exm, (fun _ _ h => nomatch h), O.insTy, O.blt, fun c m f hm => ?_, O.own, O.mks, O.flds, fun c m f hm => ?_⟩
    rotate_left 2
    · obtain ⟨C, mc, a, st, qual, fd, N, ps, d, fuel, h1, h2, h3, F, hb, S, hd, ht, hp, hn⟩ := O.cm c m f hm
      exact ⟨C, mc, a, fd, ps, h1, h2, h3, F.kp, .all hb, bad_fn, fun ms h z => absurd rfl z⟩
    · obtain ⟨a, st, qual, fd, N, ps, d, fuel, h1, F, hb, S, hd, ht, hp, hn, _⟩ := O.fns f hf
      exact ⟨a, fd, ps, h1, F.kp, .all hb, bad_fn, fun ms h z => absurd rfl z⟩
    · obtain ⟨C, a, st, qual, fd, N, ps, d, fuel, h1, h2, h3, F, hb, S, hd, ht, hp, hn⟩ := O.mro c m f hm
      exact ⟨C, a, fd, ps, h1, h2, h3, .all hb, bad_fn, fun ms h z => absurd rfl z⟩
  | n + 1 => by
    refine ⟨O.glb, fun f hf => ?_, O.isi, O.noTy, O.sep, O.exk, O.exm, (fun c o h => by obtain ⟨C, a1, a2, a3, a4, a5, a6⟩ := O.exi c o h; exact ⟨C, a1, a2, a3, a4, a5, exdf_ok a6⟩), O.insTy, O.blt, fun c m f hm => ?_, O.own, O.mks, O.flds, fun c m f hm => ?_⟩
    rotate_left 2
    · obtain ⟨C, mc, a, st, qual, fd, N, ps, d, fuel, h1, h2, h3, F, hb, S, hd, ht, hp, hn⟩ := O.cm c m f hm
      have e := cf_eq hd (n := n)
      refine ⟨C, mc, a, fd, ps, h1, h2, h3, F.kp, .all hb, ?_, fun ms h z => ?_⟩
      · rw [e]
        exact def_ok (prog_ok O n) F S ht hp hn
      · rw [e] at z
        rw [callB_len z, hp]
    · obtain ⟨a, st, qual, fd, N, ps, d, fuel, h1, F, hb, S, hd, ht, hp, hn, _⟩ := O.fns f hf
      have e := cf_eq hd (n := n)
      refine ⟨a, fd, ps, h1, F.kp, .all hb, ?_, fun ms h z => ?_⟩
      · rw [e]
        exact def_ok (prog_ok O n) F S ht hp hn
      · rw [e] at z
        rw [callB_len z, hp]
    · obtain ⟨C, a, st, qual, fd, N, ps, d, fuel, h1, h2, h3, F, hb, S, hd, ht, hp, hn⟩ := O.mro c m f hm
      have e := cf_eq hd (n := n)
      refine ⟨C, a, fd, ps, h1, h2, h3, .all hb, ?_, fun ms h z => ?_⟩
      · rw [e]
        exact def_ok (prog_ok O n) F S ht hp hn
      · rw [e] at z
        rw [callB_len z, hp]
end
theorem lookup_mem {α β : Type} [BEq α] [LawfulBEq α] {a : α} {b : β} : ∀ {l : List (α × β)}, l.lookup a = some b → (a, b) ∈ l
  | [], h => by cases h
  | (c, d) :: l, h => by
    rw [List.lookup_cons] at h
    by_cases e : (a == c) = true
    · rw [e] at h
      cases h
      rw [beq_iff_eq.mp e]
      exact List.mem_cons_self ..
    · rw [show (a == c) = false by simpa using e] at h
      exact List.mem_cons_of_mem _ (lookup_mem h)
theorem sub_of {L : Lk} {tab : List ((String × String) × Bool)} {t : String} {u : Value} (h : ∀ e ∈ tab, e.1.2 = t → PySem.W.kitOne L.K (tyV' L e.1.1) u = some e.2) : ∀ cl b, tab.lookup (cl, t) = some b → PySem.W.kitOne L.K (tyV' L cl) u = some b := by
  intro cl b hb
  induction tab with
  | nil => cases hb
  | cons e r ih =>
    obtain ⟨⟨c, t'⟩, v⟩ := e
    rw [List.lookup_cons] at hb
    by_cases q : ((cl, t) == (c, t')) = true
    · have z : (cl, t) = (c, t') := by simpa using q
      rw [q] at hb
      cases z; cases hb
      exact h ((cl, t), b) (List.mem_cons_self ..) rfl
    · have q' : ((cl, t) == (c, t')) = false := by simpa using q
      rw [q'] at hb
      exact ih (fun e he => h e (List.mem_cons_of_mem _ he)) hb
theorem VRs.intsOf {L : Lk} {φ : Ph} {H : Hp} : ∀ ns : List Int, VRs L φ H (ns.map Val.int) (ns.map V.int)
  | [] => .nil
  | n :: r => .cons (.int n) (VRs.intsOf r)
/-- the law's end -/
theorem walk {l : PySem.W.OpenLaw} {n : Nat} {q : Program} {loose : List Str} {XP : (Str → Option Value) → Heap → Prop} {YP : World → Heap → Prop} {d : DefRec} {K : Params → PySem.W.Frag} {L : PySem.W.Frag → Lk} {tb : Tb} {T : Pr} {x : Str} {dl : Df}
    (hn : l.most = some 63) (hdf : d.params.defaults = []) (hr : Room (2 * (n + 1)) callerA) (hY : ∀ (w : World) (h : Heap), YP w h → (K w.params).In h)
    (hK : ∀ K, (L K).K = K) (hnm : d.name = Str.ofString "law") (hf : tb.fns.contains "law" = true) (hdl : T.defs.lookup "law" = some dl) (hx : dl.ps = [x])
    (hlaw : ∀ ns : List Int, ns.length ≤ 63 → (∀ z ∈ ns, Builtin.Int.intBits z ≤ 1048576) → ∃ h', (T.pg (n + 1)).cf "law" [.ref 0] [.lst false (ns.map .int)] = .ok (.bl true) h')
    (F : ∀ (w : World) (mg : Str → Option Value) (h : Heap), (K w.params).In h → h.Ns mainGlobals mg → TopOk tb T (L (K w.params)) mg) :
    PySem.W.WalkO q loose XP YP l.row.toRowW d [] (fun f vs => PySem.call f vs) := by
  refine L2.walk_ofB (n := 63) (k := 2 * (n + 1)) (x := x) (K := K) (CX := fun w => L2.CX l.prog w) (sp := fun w => spOf (L (K w.params)) ((T.pg (n + 1)).cf "law") 1) hn (by decide) hdf hr hY ?_ ?_ ?_
  · intro w mg fa h KX G hmg
    have O := F w mg h KX G
    obtain ⟨a, st, qual, fd, N, ps, d2, fuel, h1, F1, hb, S, hd, ht, hp, hn2, hps⟩ := O.fns "law" hf
    rw [hdl] at hd; cases hd
    have e : ps = [x] := by rw [← hps, hx]
    subst e
    rw [hnm, h1] at hmg; cases hmg
    refine ⟨fd, fun s u => ?_, fun base KB GB => ?_⟩
    · exact .of_eq (hb [u] rfl)
    · have z := def_ok (prog_ok (prog := l.prog) (w := w) (base := base) O n) F1 S ht hp hn2
      rw [cf_eq hdl]
      rw [hK] at z
      exact z
  · intro w H a ns hl hbits ho hS
    obtain ⟨h', e⟩ := hlaw ns hl hbits
    refine ⟨rfl, [(false, a)], [.lst false (ns.map .int)], [.ref 0], ?_, .cons (.ref ⟨false, rfl⟩) .nil, ?_⟩
    · refine ⟨rfl, fun i o hi => ?_, fun i j a hi _ => ?_, fun b hb => ?_⟩
      · match i, hi with
        | 0, hi =>
          cases hi
          refine ⟨false, a, rfl, (fun z => by cases z), .ro ?_ (VRs.intsOf ns)⟩
          rw [hK]
          rcases hS with (z | ⟨o, z⟩) | z
          · rcases ho a with y | ⟨o, xs, y⟩
            · rw [y] at z; cases z
            · rw [y] at z; cases z
          · exact .inl ⟨o, z⟩
          · exact .inr z
        | i + 1, hi => simp at hi
      · match i, hi with
        | 0, hi => cases hi
        | i + 1, hi => simp at hi
      · simp at hb
    · rw [e]
      exact fun v H' φ' _ _ r => r.blI
  · rintro w H s e s' ⟨_, _, _, _, _, _, _, _, _, _, _, _, z⟩
    exact z.elim
end Mn
/-! Mini: rules for running a program by hand -/
namespace Mn
open PySem
open Classical
/-- what simp shall not look into -/
structure Fz {α : Sort _} (a : α) : Type where
abbrev XP := String → List (String × Val) → MH → Prop
def Res.wp {α : Type} (r : Res α) (Q : α → MH → Prop) (E : XP) (_ : Fz Q := ⟨⟩) (_ : Fz E := ⟨⟩) : Prop := match r with
  | .ok a h => Q a h
  | .err c fs h => E c fs h
  | .bad => False
structure Ks where
  nx : Env' → MH → Prop
  bk : Env' → MH → Prop
  ct : Env' → MH → Prop
  rt : Val → MH → Prop
  er : String → List (String × Val) → Env' → MH → Prop
def SR.wp (r : SR) (K : Ks) (_ : Fz K := ⟨⟩) : Prop := match r with
  | .nx ρ h => K.nx ρ h
  | .bk ρ h => K.bk ρ h
  | .ct ρ h => K.ct ρ h
  | .rt v h => K.rt v h
  | .err c fs ρ h => K.er c fs ρ h
  | .bad => False
def ifK (v : Val) (a b : Prop) (_ : Fz a := ⟨⟩) (_ : Fz b := ⟨⟩) : Prop := match v with
  | .bl true => a
  | .bl false => b
  | _ => False
def blK (v : Val) (k : Bool → Prop) (_ : Fz k := ⟨⟩) : Prop := match v with
  | .bl b => k b
  | _ => False
def inK (v : Val) (k : Int → Prop) (_ : Fz k := ⟨⟩) : Prop := match v with
  | .int b => k b
  | _ => False
def opK {α : Type} (o : Option α) (k : α → Prop) (_ : Fz k := ⟨⟩) : Prop := match o with
  | some b => k b
  | none => False
def lsK (o : Option Ob) (k : Bool → List Val → Prop) (_ : Fz k := ⟨⟩) : Prop := match o with
  | some (.lst w xs) => k w xs
  | _ => False
section
variable {α β : Type} {P : Pg} {ρ : Env'} {h : MH} {Q Q' : α → MH → Prop} {E E' : XP} {K K' : Ks} {a b : Prop}
theorem if_t : ifK (.bl true) a b = a := id rfl
theorem if_f : ifK (.bl false) a b = b := id rfl
theorem if_dec {p : Prop} {d : Decidable p} : ifK (.bl (@decide p d)) a b = ((p → a) ∧ (¬ p → b)) := by
  by_cases z : p
  · simp [z, ifK]
  · simp [z, ifK]
theorem if_not {d : Bool} : ifK (.bl (!d)) a b = ifK (.bl d) b a := by cases d <;> rfl
theorem if_and {c d : Bool} : ifK (.bl (c && d)) a b = ifK (.bl c) (ifK (.bl d) a b) b := by cases c <;> cases d <;> rfl
theorem if_or {c d : Bool} : ifK (.bl (c || d)) a b = ifK (.bl c) a (ifK (.bl d) a b) := by cases c <;> cases d <;> rfl
theorem if_any {d : Bool} : ifK (.bl d) a b = ((d = true → a) ∧ (d = false → b)) := by cases d <;> simp [ifK]
theorem bl_k {d : Bool} {k : Bool → Prop} : blK (.bl d) k = k d := id rfl
theorem in_k {d : Int} {k : Int → Prop} : inK (.int d) k = k d := id rfl
theorem op_k {v : α} {k : α → Prop} : opK (some v) k = k v := id rfl
theorem op_n {k : α → Prop} : opK none k = False := id rfl
theorem op_map {f : β → α} {o : Option β} {k : α → Prop} : opK (o.map f) k = opK o fun x => k (f x) := by cases o <;> rfl
theorem op_if {c : Prop} {d : Decidable c} {x : α} {k : α → Prop} : opK (@ite _ c d (some x) none) k = (c ∧ k x) := by
  by_cases z : c
  · rw [if_pos z]; simp [z, opK]
  · rw [if_neg z]; simp [z, opK]
theorem ls_k {w : Bool} {xs : List Val} {k : Bool → List Val → Prop} : lsK (some (.lst w xs)) k = k w xs := id rfl
theorem wp_ok {a : α} : (Res.ok a h).wp Q E = Q a h := id rfl
theorem wp_err {c : String} {fs : List (String × Val)} : (Res.err c fs h : Res α).wp Q E = E c fs h := id rfl
theorem wp_bad : (Res.bad : Res α).wp Q E = False := id rfl
theorem wp_bind {r : Res β} {f : β → MH → Res α} : (r.bind f).wp Q E = r.wp (fun a h => (f a h).wp Q E) E := by
  cases r <;> rfl
theorem wp_if {c : Prop} {d : Decidable c} {r : Res α} : (@ite _ c d r .bad).wp Q E = (c ∧ r.wp Q E) := by
  by_cases z : c
  · rw [if_pos z]; simp [z]
  · rw [if_neg z]; simp [z, wp_bad]
theorem wp_ret {o : Option α} : (retO o h).wp Q E = opK o fun a => Q a h := by
  cases o <;> rfl
theorem wp_cg {r : Res α} (e : ∀ a h, Q a h = Q' a h) : r.wp Q E = r.wp Q' E := by
  have : Q = Q' := funext fun a => funext fun h => e a h
  subst this; rfl
theorem wp_bg {r : Res β} {f : β → MH → Res α} {G : β → MH → Prop} (e : ∀ a h, (f a h).wp Q E = G a h) : (r.bind f).wp Q E = r.wp G E := by
  rw [wp_bind]; exact wp_cg e
theorem srw_og {r : Res α} {f : α → MH → SR} {G : α → MH → Prop} (e : ∀ a h, (f a h).wp K = G a h) : (SR.ofRes ρ r f).wp K = r.wp G (fun c fs h => K.er c fs ρ h) := by
  have : G = fun a h => (f a h).wp K := funext fun a => funext fun h => (e a h).symm
  subst this
  cases r <;> rfl
theorem wp_imp {r : Res α} (p : r.wp Q E) (k : ∀ a h, Q a h → Q' a h) (e : ∀ c fs h, E c fs h → E' c fs h) : r.wp Q' E' := by
  cases r with
  | ok a h => exact k _ _ p
  | err c fs h => exact e _ _ _ p
  | bad => exact p
abbrev NoE : XP := fun _ _ _ => False
theorem wp_to {r : Res α} (p : r.wp Q NoE) (k : ∀ a h, Q a h → Q' a h) : r.wp Q' E' := wp_imp p k fun _ _ _ z => z.elim
theorem wp_eq {r : Res α} {v : α} (p : r.wp (fun v' h' => v' = v ∧ h' = h) NoE) : r = .ok v h := by
  cases r with
  | ok a h => obtain ⟨rfl, rfl⟩ := p; rfl
  | err c fs h => exact p.elim
  | bad => exact p.elim
/-- a run that is known -/
theorem wp_is {r : Res α} {v : α} (e : r = .ok v h) : r.wp Q E = Q v h := by rw [e]; rfl
theorem wp_ex {r : Res α} (p : r.wp Q NoE) : ∃ v h, r = .ok v h ∧ Q v h := by
  cases r with
  | ok a h => exact ⟨_, _, rfl, p⟩
  | err c fs h => exact p.elim
  | bad => exact p.elim
theorem srw_ofRes {r : Res α} {f : α → MH → SR} : (SR.ofRes ρ r f).wp K = r.wp (fun a h => (f a h).wp K) (fun c fs h => K.er c fs ρ h) := by
  cases r <;> rfl
theorem srw_seq {r : SR} {f : Env' → MH → SR} : (r.seq f).wp K = r.wp { K with nx := fun ρ h => (f ρ h).wp K } := by
  cases r <;> rfl
theorem srw_imp {r : SR} (p : r.wp K) (k1 : ∀ ρ h, K.nx ρ h → K'.nx ρ h) (k2 : ∀ ρ h, K.bk ρ h → K'.bk ρ h) (k3 : ∀ ρ h, K.ct ρ h → K'.ct ρ h) (k4 : ∀ v h, K.rt v h → K'.rt v h) (k5 : ∀ c fs ρ h, K.er c fs ρ h → K'.er c fs ρ h) : r.wp K' := by
  cases r with
  | nx ρ h => exact k1 _ _ p
  | bk ρ h => exact k2 _ _ p
  | ct ρ h => exact k3 _ _ p
  | rt v h => exact k4 _ _ p
  | err c fs ρ h => exact k5 _ _ _ _ p
  | bad => exact p
end
section
variable {P : Pg} {ρ : Env'} {h : MH} {Q : Val → MH → Prop} {Z : XP} {K : Ks}
theorem wg_0 {v : Val} {r : Env'} : (getV (some v :: r) 0 h).wp Q Z = Q v h := id rfl
theorem wg_s {x : Option Val} {r : Env'} {i : Nat} : (getV (x :: r) (i + 1) h).wp Q Z = (getV r i h).wp Q Z := by
  unfold getV; rw [List.getElem?_cons_succ]
theorem we_var {i : Nat} : (evE P (.var i) ρ h).wp Q Z = (getV ρ i h).wp Q Z := by simp only [evE]
theorem we_con {v : Val} : (evE P (.con v) ρ h).wp Q Z = Q v h := by simp only [evE, wp_ok]
theorem we_glb {x : String} : (evE P (.glb x) ρ h).wp Q Z = opK (P.glb x) fun v => Q v h := by simp only [evE, wp_ret]
theorem we_bin {op : Operator} {a b : E} : (evE P (.bin op a b) ρ h).wp Q Z = (evE P a ρ h).wp (fun x h1 => (evE P b ρ h1).wp (fun y h2 => (binop op x y h2).wp Q Z) Z) Z := by
  simp only [evE]; exact wp_bg fun x h1 => wp_bind
theorem we_cmp {op : CmpOp} {a b : E} : (evE P (.cmp op a b) ρ h).wp Q Z = (evE P a ρ h).wp (fun x h1 => (evE P b ρ h1).wp (fun y h2 => (cmpop op x y h2).wp Q Z) Z) Z := by
  simp only [evE]; exact wp_bg fun x h1 => wp_bind
theorem we_and {a b : E} : (evE P (.and a b) ρ h).wp Q Z = (evE P a ρ h).wp (fun x h1 => ifK x ((evE P b ρ h1).wp Q Z) (Q (.bl false) h1)) Z := by
  simp only [evE]
  refine wp_bg fun x h1 => ?_
  cases x <;> try rfl
  rename_i c
  cases c <;> rfl
theorem we_or {a b : E} : (evE P (.or a b) ρ h).wp Q Z = (evE P a ρ h).wp (fun x h1 => ifK x (Q (.bl true) h1) ((evE P b ρ h1).wp Q Z)) Z := by
  simp only [evE]
  refine wp_bg fun x h1 => ?_
  cases x <;> try rfl
  rename_i c
  cases c <;> rfl
theorem we_not {a : E} : (evE P (.not a) ρ h).wp Q Z = (evE P a ρ h).wp (fun x h1 => blK x fun c => Q (.bl (!c)) h1) Z := by
  simp only [evE]
  refine wp_bg fun x h1 => ?_
  cases x <;> rfl
theorem we_neg {a : E} : (evE P (.neg a) ρ h).wp Q Z = (evE P a ρ h).wp (fun x h1 => inK x fun c => Q (.int (-c)) h1) Z := by
  simp only [evE]
  refine wp_bg fun x h1 => ?_
  cases x <;> rfl
theorem we_isN {a : E} : (evE P (.isN a) ρ h).wp Q Z = (evE P a ρ h).wp (fun x h1 => Q (.bl (isNon x)) h1) Z := by
  simp only [evE]; exact wp_bg fun x h1 => rfl
theorem we_notN {a : E} : (evE P (.notN a) ρ h).wp Q Z = (evE P a ρ h).wp (fun x h1 => Q (.bl (!isNon x)) h1) Z := by
  simp only [evE]; exact wp_bg fun x h1 => rfl
theorem we_isB {a : E} {b : Bool} : (evE P (.isB a b) ρ h).wp Q Z = (evE P a ρ h).wp (fun x h1 => Q (.bl (isBl b x)) h1) Z := by
  simp only [evE]; exact wp_bg fun x h1 => rfl
theorem we_chn {o1 o2 : CmpOp} {a b c : E} : (evE P (.chn o1 o2 a b c) ρ h).wp Q Z = (evE P a ρ h).wp (fun x h1 => (evE P b ρ h1).wp (fun y h2 => (cmpop o1 x y h2).wp (fun z h3 => ifK z ((evE P c ρ h3).wp (fun w h4 => (cmpop o2 y w h4).wp Q Z) Z) (Q (.bl false) h3)) Z) Z) Z := by
  simp only [evE]
  refine wp_bg fun x h1 => wp_bg fun y h2 => wp_bg fun z h3 => ?_
  cases z <;> try rfl
  rename_i c
  cases c
  · rfl
  · exact wp_bind
theorem we_lst {es : List E} : (evE P (.lst es) ρ h).wp Q Z = (evEs P es ρ h).wp (fun vs h1 => vs.length ≤ sizeLine ∧ Q (.ref h1.length) (h1 ++ [.lst true vs])) Z := by
  simp only [evE]; exact wp_bg fun x h1 => wp_if
theorem we_tup {es : List E} : (evE P (.tup es) ρ h).wp Q Z = (evEs P es ρ h).wp (fun vs h1 => vs.length ≤ sizeLine ∧ Q (.tup vs) h1) Z := by
  simp only [evE]; exact wp_bg fun x h1 => wp_if
theorem we_idx {a b : E} : (evE P (.idx a b) ρ h).wp Q Z = (evE P a ρ h).wp (fun x h1 => (evE P b ρ h1).wp (fun y h2 => (index x y h2).wp Q Z) Z) Z := by
  simp only [evE]; exact wp_bg fun x h1 => wp_bind
theorem wo_none {Q : Option Int → MH → Prop} : (evO P none ρ h).wp Q Z = Q none h := by simp only [evO, wp_ok]
theorem wo_some {e : E} {Q : Option Int → MH → Prop} : (evO P (some e) ρ h).wp Q Z = (evE P e ρ h).wp (fun v h1 => inK v fun i => Q (some i) h1) Z := by
  simp only [evO]
  refine wp_bg fun x h1 => ?_
  cases x <;> rfl
theorem we_slc {a : E} {lo hi : Option E} : (evE P (.slc a lo hi) ρ h).wp Q Z = (evE P a ρ h).wp (fun x h1 => (evO P lo ρ h1).wp (fun l h2 => (evO P hi ρ h2).wp (fun u h3 => (slice x l u h3).wp Q Z) Z) Z) Z := by
  simp only [evE]; exact wp_bg fun x h1 => wp_bg fun y h2 => wp_bind
theorem we_call {f : String} {es : List E} : (evE P (.call f es) ρ h).wp Q Z = (evEs P es ρ h).wp (fun vs h1 => (P.cf f vs h1).wp Q Z) Z := by
  simp only [evE]; exact wp_bind
theorem we_bi {f : Bi} {es : List E} : (evE P (.bi f es) ρ h).wp Q Z = (evEs P es ρ h).wp (fun vs h1 => (bisem f vs h1).wp Q Z) Z := by
  simp only [evE]; exact wp_bind
theorem we_isi {a : E} {t : String} : (evE P (.isi a t) ρ h).wp Q Z = (evE P a ρ h).wp (fun x h1 => opK (tyOf h1 x) fun c => opK (P.sub c t) fun b => Q (.bl b) h1) Z := by
  simp only [evE]
  refine wp_bg fun x h1 => ?_
  unfold isInst
  rw [wp_ret]
  cases tyOf h1 x with
  | none => rfl
  | some c =>
    show opK ((P.sub c t).map Val.bl) _ = opK (P.sub c t) _
    rw [op_map]
theorem we_mth {m : Mt} {o : E} {es : List E} : (evE P (.mth m o es) ρ h).wp Q Z = (evE P o ρ h).wp (fun x h1 => mtOk m x h1 = true ∧ (evEs P es ρ h1).wp (fun vs h2 => (mtsem m x vs h2).wp Q Z) Z) Z := by
  simp only [evE]
  refine wp_bg fun x h1 => ?_
  rw [wp_if, wp_bind]
theorem we_nil {Q : List Val → MH → Prop} : (evEs P [] ρ h).wp Q Z = Q [] h := by simp only [evEs, wp_ok]
theorem we_cons {e : E} {es : List E} {Q : List Val → MH → Prop} : (evEs P (e :: es) ρ h).wp Q Z = (evE P e ρ h).wp (fun v h1 => (evEs P es ρ h1).wp (fun vs h2 => Q (v :: vs) h2) Z) Z := by
  simp only [evEs]; exact wp_bg fun x h1 => wp_bg fun y h2 => rfl
/-- what a for walks, and the heap behind that -/
noncomputable def riK (k : ItK) (vs : List Val) (h : MH) (f : List Val × Src → MH → Prop) (_ : Fz f := ⟨⟩) : Prop := match k, vs with
  | .itm, [.ref a] => match h[a]? with
    | some (.dct _ kvs) => f (itemsD kvs, [(a, .dct false kvs)]) (h.set a (.dct false kvs))
    | _ => False
  | _, _ => opK (itemsOf k vs h) fun p => f p h
theorem wp_resI {k : ItK} {vs : List Val} {Q : List Val × Src → MH → Prop} : (resI k vs h).wp Q Z = riK k vs h Q := by
  have gen : ∀ k, (match itemsOf k vs h with
    | some p => .ok p h
    | none => .bad : Res (List Val × Src)).wp Q Z = opK (itemsOf k vs h) fun p => Q p h := fun k => by
    cases itemsOf k vs h <;> rfl
  cases k <;> first | exact gen _ | skip
  match vs with
  | [] => exact gen .itm
  | [.ref a] =>
    simp only [resI, riK]
    cases h[a]? with
    | none => rfl
    | some o => cases o <;> rfl
  | [.non] => exact gen .itm
  | [.bl _] => exact gen .itm
  | [.int _] => exact gen .itm
  | [.str _] => exact gen .itm
  | [.tup _] => exact gen .itm
  | [.exc _ _] => exact gen .itm
  | x :: y :: r => cases x <;> exact gen .itm
section
variable {vs : List Val} {f : List Val × Src → MH → Prop}
theorem ri_cg {k : ItK} {f' : List Val × Src → MH → Prop} (e : ∀ p h, f p h = f' p h) : riK k vs h f = riK k vs h f' := by
  have : f = f' := funext fun p => funext fun h => e p h
  subst this; rfl
theorem ri_val : riK .val vs h f = opK (itemsOf .val vs h) fun p => f p h := id rfl
theorem ri_rng : riK .rng vs h f = opK (itemsOf .rng vs h) fun p => f p h := id rfl
theorem ri_enm : riK .enm vs h f = opK (itemsOf .enm vs h) fun p => f p h := id rfl
theorem ri_zip : riK .zip vs h f = opK (itemsOf .zip vs h) fun p => f p h := id rfl
theorem ri_rev : riK .rev vs h f = opK (itemsOf .rev vs h) fun p => f p h := id rfl
/-- the thing at a is a dict -/
def dcK (o : Option Ob) (k : Bool → List (L2.Key × Val) → Prop) (_ : Fz k := ⟨⟩) : Prop := match o with
  | some (.dct w xs) => k w xs
  | _ => False
theorem dc_k {w : Bool} {xs : List (L2.Key × Val)} {k : Bool → List (L2.Key × Val) → Prop} : dcK (some (.dct w xs)) k = k w xs := id rfl
theorem ri_itm {a : Nat} : riK .itm [.ref a] h f = dcK h[a]? fun _ kvs => f (itemsD kvs, [(a, .dct false kvs)]) (h.set a (.dct false kvs)) := by
  simp only [riK]
  cases h[a]? with
  | none => rfl
  | some o => cases o <;> rfl
end
theorem we_cmp1 {own : List Nat} {elt : E} {t : Tg} {k : ItK} {es : List E} {cond : Option E} : (evE P (.cmp1 own elt t k es cond) ρ h).wp Q Z = (evEs P es ρ h).wp (fun vs h1 => riK k vs h1 fun p h2 => (compL t p.2 (wipe' ρ own) (evC P cond) (evE P elt) p.1 [] h2).wp (fun ws h3 => Q (.ref h3.length) (h3 ++ [.lst true ws])) Z) Z := by
  simp only [evE]
  rw [wp_bind, wp_bind]
  refine wp_cg fun vs h1 => ?_
  rw [wp_resI]
  exact ri_cg fun p h2 => wp_bg fun ws h2 => rfl
theorem we_lofv {es : List E} : (evE P (.lof .rev es) ρ h).wp Q Z = (evEs P es ρ h).wp (fun vs h1 => opK (itemsOf .rev vs h1) fun p => Q (.ref h1.length) (h1 ++ [.lst true p.1])) Z := by
  simp only [evE]
  rw [wp_bind, wp_bind]
  refine wp_cg fun vs h1 => ?_
  rw [wp_resI, ri_rev]
  cases itemsOf .rev vs h1 <;> rfl
theorem we_lofr {es : List E} : (evE P (.lof .rng es) ρ h).wp Q Z = (evEs P es ρ h).wp (fun vs h1 => opK (itemsOf .rng vs h1) fun p => p.1.length ≤ 4096 ∧ Q (.ref h1.length) (h1 ++ [.lst true p.1])) Z := by
  simp only [evE]
  rw [wp_bind, wp_bind]
  refine wp_cg fun vs h1 => ?_
  rw [wp_resI, ri_rng]
  cases itemsOf .rng vs h1 with
  | none => rfl
  | some p => exact wp_if
theorem we_lofz {es : List E} : (evE P (.lof .zip es) ρ h).wp Q Z = (evEs P es ρ h).wp (fun vs h1 => opK (itemsOf .zip vs h1) fun p => p.2.isEmpty = false ∧ Q (.ref h1.length) (h1 ++ [.lst true p.1])) Z := by
  simp only [evE]
  rw [wp_bind, wp_bind]
  refine wp_cg fun vs h1 => ?_
  rw [wp_resI, ri_zip]
  cases itemsOf .zip vs h1 with
  | none => rfl
  | some p =>
    rw [op_k]
    show (if p.2.isEmpty = true then Res.bad else alloc (.lst true p.1) h1).wp Q Z = (p.2.isEmpty = false ∧ Q (.ref h1.length) (h1 ++ [.lst true p.1]))
    by_cases c : p.2.isEmpty = true
    · rw [if_pos c, c]; simp [Res.wp]
    · rw [if_neg c]
      have c2 : p.2.isEmpty = false := by simpa using c
      rw [c2]
      simp only [true_and]
      rfl
theorem we_fst {es : List E} : (evE P (.fst es) ρ h).wp Q Z = (evEs P es ρ h).wp (fun vs h1 => opK (fstrO vs Str.empty) fun z => Q (.str z) h1) Z := by
  simp only [evE]
  rw [wp_bind]
  refine wp_cg fun vs h1 => ?_
  cases fstrO vs Str.empty <;> rfl
theorem fs_n {acc : Str} {k : Str → Prop} : opK (fstrO [] acc) k = k acc := id rfl
theorem fs_s {z acc : Str} {r : List Val} {k : Str → Prop} : opK (fstrO (.str z :: r) acc) k = (z.length ≤ sizeLine ∧ (acc ++ z).length ≤ sizeLine ∧ opK (fstrO r (acc ++ z)) k) := by
  rw [show fstrO (.str z :: r) acc = match (if z.length ≤ sizeLine then some z else none) with
    | some y => if (acc ++ y).length ≤ sizeLine then fstrO r (acc ++ y) else none
    | none => none from rfl]
  by_cases c : z.length ≤ sizeLine
  · rw [if_pos c]
    show opK (if (acc ++ z).length ≤ sizeLine then fstrO r (acc ++ z) else none) k = _
    by_cases d : (acc ++ z).length ≤ sizeLine
    · rw [if_pos d]; simp only [c, d, true_and]
    · rw [if_neg d]; simp only [c, d, false_and, and_false]; rfl
  · rw [if_neg c]; simp only [c, false_and]; rfl
theorem fs_i {i : Int} {acc : Str} {r : List Val} {k : Str → Prop} : opK (fstrO (.int i :: r) acc) k = (i.natAbs.log2 < 1920 ∧ (acc ++ toString i).length ≤ sizeLine ∧ opK (fstrO r (acc ++ toString i)) k) := by
  rw [show fstrO (.int i :: r) acc = match (if i.natAbs.log2 < 1920 then some (toString i : Str) else none) with
    | some y => if (acc ++ y).length ≤ sizeLine then fstrO r (acc ++ y) else none
    | none => none from rfl]
  by_cases c : i.natAbs.log2 < 1920
  · rw [if_pos c]
    show opK (if (acc ++ toString i : Str).length ≤ sizeLine then fstrO r (acc ++ toString i) else none) k = _
    by_cases d : (acc ++ toString i : Str).length ≤ sizeLine
    · rw [if_pos d]; simp only [c, d, true_and]
    · rw [if_neg d]; simp only [c, d, false_and, and_false]; rfl
  · rw [if_neg c]; simp only [c, false_and]; rfl
theorem we_dct : (evE P (.dct [] []) ρ h).wp Q Z = Q (.ref h.length) (h ++ [.dct true []]) := by simp only [evE]; rfl
/-! statements -/
theorem ws_ite {c : E} {a b : List S} : (evS P (.ite c a b) ρ h).wp K = (evE P c ρ h).wp (fun v h1 => ifK v ((evB P a ρ h1).wp K) ((evB P b ρ h1).wp K)) (fun c fs h => K.er c fs ρ h) := by
  simp only [evS]
  refine srw_og fun x h1 => ?_
  cases x <;> try rfl
  rename_i c
  cases c <;> rfl
theorem ws_asg {i : Nat} {e : E} : (evS P (.asg (.nm i) e) ρ h).wp K = (evE P e ρ h).wp (fun v h1 => opK (bindT (.nm i) v ρ) fun ρ1 => K.nx ρ1 h1) (fun c fs h => K.er c fs ρ h) := by
  simp only [evS]
  refine srw_og fun x h1 => ?_
  rfl
theorem ws_asgT {js : List Nat} {e : E} : (evS P (.asg (.tp js) e) ρ h).wp K = (evE P e ρ h).wp (fun v h1 => opK (bindT (.tp js) (unT (.tp js) h1 v) ρ) fun ρ1 => K.nx ρ1 h1) (fun c fs h => K.er c fs ρ h) := by
  simp only [evS]
  refine srw_og fun x h1 => ?_
  cases bindT (.tp js) (unT (.tp js) h1 x) ρ <;> rfl
theorem un_tup {js : List Nat} {vs : List Val} : unT (.tp js) h (.tup vs) = .tup vs := id rfl
theorem un_ref {js : List Nat} {a : Nat} : unT (.tp js) h (.ref a) = tuL h[a]? (.ref a) := id rfl
theorem tu_l {w : Bool} {vs : List Val} {v : Val} : tuL (some (.lst w vs)) v = .tup vs := id rfl
theorem bt_nm {i : Nat} {v : Val} : bindT (.nm i) v ρ = some (ρ.set i (some v)) := id rfl
theorem bt_tp {js : List Nat} {vs : List Val} : bindT (.tp js) (.tup vs) ρ = binds ρ js vs := id rfl
theorem bs_nil : binds ρ [] [] = some ρ := id rfl
theorem bs_cons {j : Nat} {js : List Nat} {v : Val} {vs : List Val} : binds ρ (j :: js) (v :: vs) = binds (ρ.set j (some v)) js vs := id rfl
theorem ws_exp {e : E} : (evS P (.exp e) ρ h).wp K = (evE P e ρ h).wp (fun v h1 => K.nx ρ h1) (fun c fs h => K.er c fs ρ h) := by
  simp only [evS]; exact srw_og fun x h1 => rfl
theorem ws_ret {e : E} : (evS P (.ret e) ρ h).wp K = (evE P e ρ h).wp (fun v h1 => K.rt v h1) (fun c fs h => K.er c fs ρ h) := by
  simp only [evS]; exact srw_og fun x h1 => rfl
theorem ws_retN : (evS P .retN ρ h).wp K = K.rt .non h := by simp only [evS]; rfl
theorem ws_brk : (evS P .brk ρ h).wp K = K.bk ρ h := by simp only [evS]; rfl
theorem ws_cnt : (evS P .cnt ρ h).wp K = K.ct ρ h := by simp only [evS]; rfl
theorem ws_pas : (evS P .pas ρ h).wp K = K.nx ρ h := by simp only [evS]; rfl
theorem wb_nil : (evB P [] ρ h).wp K = K.nx ρ h := by simp only [evB]; rfl
theorem wb_cons {s : S} {r : List S} : (evB P (s :: r) ρ h).wp K = (evS P s ρ h).wp { K with nx := fun ρ h => (evB P r ρ h).wp K } := by simp only [evB, srw_seq]
theorem ws_for {t : Tg} {k : ItK} {es : List E} {b : List S} : (evS P (.forS t k es b) ρ h).wp K = (evEs P es ρ h).wp (fun vs h1 => riK k vs h1 fun p h2 => (forL t p.2 (evB P b) p.1 ρ h2).wp K) (fun c fs h => K.er c fs ρ h) := by
  simp only [evS]
  rw [srw_ofRes, wp_bind]
  exact wp_cg fun vs h1 => wp_resI
theorem ws_whl {c : E} {b : List S} : (evS P (.whl c b) ρ h).wp K = (whC (evE P c) (evB P b) ρ h).wp K := by simp only [evS]
theorem ws_sub {o i e : E} : (evS P (.sub o i e) ρ h).wp K = (evE P e ρ h).wp (fun v h1 => (evE P o ρ h1).wp (fun x h2 => (evE P i ρ h2).wp (fun y h3 => (setSub x y v h3).wp (fun _ h4 => K.nx ρ h4) (fun c fs h => K.er c fs ρ h)) (fun c fs h => K.er c fs ρ h)) (fun c fs h => K.er c fs ρ h)) (fun c fs h => K.er c fs ρ h) := by
  simp only [evS]
  exact srw_og fun x h1 => srw_og fun x h1 => srw_og fun x h1 => srw_og fun x h1 => rfl
/-- a call -/
theorem wp_call {d : Df} {args : List Val} : (callB P d args h).wp Q Z = (args.length = d.np ∧ (evB P d.body (args.map some ++ List.replicate (d.nn - d.np) none) h).wp
    { nx := fun _ h => Q .non h, bk := fun _ _ => False, ct := fun _ _ => False, rt := Q, er := fun c fs _ h => Z c fs h }) := by
  unfold callB
  rw [wp_if]
  congr 1
  cases evB P d.body (args.map some ++ List.replicate (d.nn - d.np) none) h <;> rfl
/-- a for: an invariant -/
theorem wp_for {t : Tg} {c : Src} {b : Env' → MH → SR} {items : List Val} (I : Nat → Env' → MH → Prop) (h0 : I 0 ρ h) (hst : ∀ i ρ h, I i ρ h → i ≤ items.length → c.stands h)
    (step : ∀ i v ρ h, items[i]? = some v → I i ρ h → opK (bindT t v ρ) fun ρ1 => (b ρ1 h).wp { K with nx := I (i + 1), ct := I (i + 1), bk := K.nx })
    (done : ∀ ρ h, I items.length ρ h → K.nx ρ h) : (forL t c b items ρ h).wp K := by
  have key : ∀ (r : List Val) (i : Nat) (ρ : Env') (h : MH), items.drop i = r → i ≤ items.length → I i ρ h → (forL t c b r ρ h).wp K := by
    intro r
    induction r with
    | nil =>
      intro i ρ h hd hi hI
      have e : i = items.length := by
        have := congrArg List.length hd
        simp at this; omega
      subst e
      simp only [forL]
      rw [if_pos (hst _ _ _ hI hi)]
      exact done _ _ hI
    | cons v r ih =>
      intro i ρ h hd hi hI
      have hv : items[i]? = some v := by
        have := congrArg (fun l => l[0]?) hd
        simpa using this
      have hlt : i < items.length := (List.getElem?_eq_some_iff.mp hv).1
      have hr : items.drop (i + 1) = r := by
        rw [← List.drop_drop (i := 1), hd]; rfl
      rw [forL_cons _ _ _ _ _ _ _ (hst _ _ _ hI hi)]
      have p := step i v ρ h hv hI
      cases e1 : bindT t v ρ with
      | none => rw [e1] at p; exact p.elim
      | some ρ1 =>
        rw [e1] at p
        have p : (b ρ1 h).wp { K with nx := I (i + 1), ct := I (i + 1), bk := K.nx } := p
        simp only
        cases e : b ρ1 h with
        | nx ρ2 h2 => rw [e] at p; exact ih (i + 1) _ _ hr hlt p
        | ct ρ2 h2 => rw [e] at p; exact ih (i + 1) _ _ hr hlt p
        | bk ρ2 h2 => rw [e] at p; exact p
        | rt v h2 => rw [e] at p; exact p
        | err c fs ρ2 h2 => rw [e] at p; exact p
        | bad => rw [e] at p; exact p
  exact key items 0 ρ h rfl (Nat.zero_le _) h0
/-- a while: an invariant and a measure -/
theorem wp_whl {t : Env' → MH → Res Val} {b : Env' → MH → SR} (I : Nat → Env' → MH → Prop) (m : Nat) (h0 : I m ρ h)
    (step : ∀ m ρ h, I m ρ h → (t ρ h).wp (fun v h1 => ifK v ((b ρ h1).wp { K with nx := fun ρ2 h2 => ∃ m2, m2 < m ∧ I m2 ρ2 h2, ct := fun ρ2 h2 => ∃ m2, m2 < m ∧ I m2 ρ2 h2, bk := K.nx }) (K.nx ρ h1)) (fun c fs h => K.er c fs ρ h)) : (whC t b ρ h).wp K := by
  have key : ∀ (m : Nat) (ρ : Env') (h : MH), I m ρ h → ∃ n, (whN t b n ρ h).wp K := by
    intro m
    induction m using Nat.strongRecOn with
    | ind m ih =>
      intro ρ h hI
      have q := step m ρ h hI
      cases e : t ρ h with
      | bad => rw [e] at q; exact q.elim
      | err c fs h1 => rw [e] at q; exact ⟨1, by rw [whN_body, e]; exact q⟩
      | ok v h1 =>
        rw [e] at q
        cases v <;> first | exact False.elim q | skip
        rename_i d
        cases d with
        | false => exact ⟨1, by rw [whN_body, e]; exact q⟩
        | true =>
          have q2 : (b ρ h1).wp _ := q
          cases eb : b ρ h1 with
          | bad => rw [eb] at q2; exact q2.elim
          | nx ρ2 h2 =>
            rw [eb] at q2
            obtain ⟨m2, lt, I2⟩ := q2
            obtain ⟨n, p⟩ := ih m2 lt _ _ I2
            exact ⟨n + 1, by rw [whN_body, e]; simp only [eb, loopR]; exact p⟩
          | ct ρ2 h2 =>
            rw [eb] at q2
            obtain ⟨m2, lt, I2⟩ := q2
            obtain ⟨n, p⟩ := ih m2 lt _ _ I2
            exact ⟨n + 1, by rw [whN_body, e]; simp only [eb, loopR]; exact p⟩
          | bk ρ2 h2 => rw [eb] at q2; exact ⟨1, by rw [whN_body, e]; simp only [eb, loopR]; exact q2⟩
          | rt v h2 => rw [eb] at q2; exact ⟨1, by rw [whN_body, e]; simp only [eb, loopR]; exact q2⟩
          | err c fs ρ2 h2 => rw [eb] at q2; exact ⟨1, by rw [whN_body, e]; simp only [eb, loopR]; exact q2⟩
  obtain ⟨n, p⟩ := key m ρ h h0
  rw [whC_of n fun z => by rw [z] at p; exact p]
  exact p
theorem stands_nil {h : MH} : Src.stands [] h = True := by simp [Src.stands]
theorem stands_one {a : Nat} {o : Ob} {h : MH} : Src.stands [(a, o)] h = (h[a]? = some o) := by simp [Src.stands]
theorem stands_two {a b : Nat} {o u : Ob} {h : MH} : Src.stands [(a, o), (b, u)] h = (h[a]? = some o ∧ h[b]? = some u) := by simp [Src.stands]
theorem wf_nil {t : Tg} {c : Src} {b : Env' → MH → SR} : (forL t c b [] ρ h).wp K = (c.stands h ∧ K.nx ρ h) := by
  simp only [forL]
  by_cases z : c.stands h
  · rw [if_pos z]; simp [z, SR.wp]
  · rw [if_neg z]; simp [z, SR.wp]
theorem wf_cons {t : Tg} {c : Src} {b : Env' → MH → SR} {v : Val} {r : List Val} : (forL t c b (v :: r) ρ h).wp K = (c.stands h ∧ opK (bindT t v ρ) fun ρ1 => (b ρ1 h).wp { K with nx := fun ρ h => (forL t c b r ρ h).wp K, ct := fun ρ h => (forL t c b r ρ h).wp K, bk := K.nx }) := by
  by_cases z : c.stands h
  · rw [forL_cons _ _ _ _ _ _ _ z]
    simp only [z, true_and]
    cases bindT t v ρ with
    | none => rfl
    | some ρ1 =>
      show (loopR (b ρ1 h) (forL t c b r)).wp K = (b ρ1 h).wp _
      cases b ρ1 h <;> rfl
  · simp only [forL]
    rw [if_neg z]; simp [z, SR.wp]
/-! ### operators -/
def divOk (j : Int) : Prop := 0 < j ∧ j.natAbs.log2 < 9000
section
variable {i j : Int} {s t : Str} {vs ws : List Val}
theorem b_add : (binop .Add (.int i) (.int j) h).wp Q Z = Q (.int (i + j)) h := id rfl
theorem b_sub : (binop .Sub (.int i) (.int j) h).wp Q Z = Q (.int (i - j)) h := id rfl
theorem b_mul : (binop .Mult (.int i) (.int j) h).wp Q Z = (mulOk i j ∧ Q (.int (i * j)) h) := by simp only [binop, wp_if, wp_ok]
theorem b_div : (binop .FloorDiv (.int i) (.int j) h).wp Q Z = (divOk j ∧ Q (.int (i / j)) h) := by simp only [binop, wp_if, wp_ok, divOk]
theorem b_mod : (binop .Mod (.int i) (.int j) h).wp Q Z = (0 < j ∧ Q (.int (i % j)) h) := by simp only [binop, wp_if, wp_ok]
theorem b_pow : (binop .Pow (.int i) (.int j) h).wp Q Z = (powOk i j ∧ Q (.int (i ^ j.toNat)) h) := by simp only [binop, wp_if, wp_ok]
theorem b_shl : (binop .LShift (.int i) (.int j) h).wp Q Z = (powOk i j ∧ Q (.int (i * 2 ^ j.toNat)) h) := by simp only [binop, wp_if, wp_ok]
theorem b_shr : (binop .RShift (.int i) (.int j) h).wp Q Z = (0 ≤ j ∧ Q (.int (i / 2 ^ j.toNat)) h) := by simp only [binop, wp_if, wp_ok]
theorem b_and : (binop .BitAnd (.int i) (.int j) h).wp Q Z = Q (.int (Builtin.bitAnd i j)) h := id rfl
theorem b_or : (binop .BitOr (.int i) (.int j) h).wp Q Z = Q (.int (Builtin.bitOr i j)) h := id rfl
theorem b_xor : (binop .BitXor (.int i) (.int j) h).wp Q Z = Q (.int (Builtin.bitXor i j)) h := id rfl
theorem b_adds : (binop .Add (.str s) (.str t) h).wp Q Z = (s.length + t.length ≤ sizeLine ∧ Q (.str (s ++ t)) h) := by simp only [binop, wp_if, wp_ok]
theorem b_addt : (binop .Add (.tup vs) (.tup ws) h).wp Q Z = (vs.length + ws.length ≤ sizeLine ∧ Q (.tup (vs ++ ws)) h) := by simp only [binop, wp_if, wp_ok]
theorem b_addl {a b : Nat} : (binop .Add (.ref a) (.ref b) h).wp Q Z = lsK h[a]? fun _ xs => lsK h[b]? fun _ ys => xs.length + ys.length ≤ sizeLine ∧ Q (.ref h.length) (h ++ [.lst true (xs ++ ys)]) := by
  simp only [binop]
  cases h[a]? with
  | none => rfl
  | some o =>
    cases o with
    | lst w xs =>
      cases h[b]? with
      | none => rfl
      | some u =>
        cases u with
        | lst w2 ys => simp only [wp_if]; rfl
        | dct _ _ => rfl
        | dtt _ => rfl
        | ins _ _ => rfl
    | dct _ _ => rfl
    | dtt _ => rfl
    | ins _ _ => rfl
theorem c_lt : (cmpop .Lt (.int i) (.int j) h).wp Q Z = Q (.bl (decide (i < j))) h := id rfl
theorem c_le : (cmpop .LtE (.int i) (.int j) h).wp Q Z = Q (.bl (decide (i ≤ j))) h := id rfl
theorem c_gt : (cmpop .Gt (.int i) (.int j) h).wp Q Z = Q (.bl (decide (j < i))) h := id rfl
theorem c_ge : (cmpop .GtE (.int i) (.int j) h).wp Q Z = Q (.bl (decide (j ≤ i))) h := id rfl
theorem c_eq {x y : Val} : (cmpop .Eq x y h).wp Q Z = opK (veq h x y) fun b => Q (.bl b) h := by
  show (retO ((veq h x y).map .bl) h).wp Q Z = _
  simp only [wp_ret, op_map]
theorem c_ne {x y : Val} : (cmpop .NotEq x y h).wp Q Z = opK (veq h x y) fun b => Q (.bl (!b)) h := by
  show (retO ((veq h x y).map fun b => .bl (!b)) h).wp Q Z = _
  simp only [wp_ret, op_map]
theorem c_in {x y : Val} : (cmpop .In x y h).wp Q Z = opK (vin? h x y) fun b => Q (.bl b) h := by
  show (retO ((vin? h x y).map .bl) h).wp Q Z = _
  simp only [wp_ret, op_map]
theorem c_nin {x y : Val} : (cmpop .NotIn x y h).wp Q Z = opK (vin? h x y) fun b => Q (.bl (!b)) h := by
  show (retO ((vin? h x y).map fun b => .bl (!b)) h).wp Q Z = _
  simp only [wp_ret, op_map]
theorem v_ii : veq h (.int i) (.int j) = some (decide (i = j)) := id rfl
theorem v_ss : veq h (.str s) (.str t) = some (decide (s = t)) := id rfl
theorem v_bb {a b : Bool} : veq h (.bl a) (.bl b) = some (decide (a = b)) := id rfl
/-! parts -/
theorem i_tup {k : Int} : (index (.tup vs) (.int k) h).wp Q Z = opK (L2.atI vs k) fun v => Q v h := by
  show (retO (L2.atI vs k) h).wp Q Z = _
  simp only [wp_ret]
def ixO (o : Option Ob) (v : Val) : Option Val := match o, v with
  | some (.lst _ xs), .int k => L2.atI xs k
  | some (.dct _ kvs), _ => getK v kvs
  | some (.dtt kvs), _ => getT v kvs
  | _, _ => none
theorem ix_l {w : Bool} {xs : List Val} {k : Int} : ixO (some (.lst w xs)) (.int k) = L2.atI xs k := id rfl
theorem ix_d {w : Bool} {kvs : List (L2.Key × Val)} {v : Val} : ixO (some (.dct w kvs)) v = getK v kvs := by cases v <;> rfl
theorem ix_t {kvs : List (List L2.Key × Val)} {v : Val} : ixO (some (.dtt kvs)) v = getT v kvs := by cases v <;> rfl
theorem i_lst {a : Nat} {v : Val} : (index (.ref a) v h).wp Q Z = opK (ixO h[a]? v) fun v => Q v h := by
  simp only [index]
  cases h[a]? with
  | none => cases v <;> rfl
  | some o => cases o <;> cases v <;> first | rfl | exact wp_ret
theorem l_tup : (bisem .len [.tup vs] h).wp Q Z = Q (.int vs.length) h := id rfl
def lenO (o : Option Ob) : Option Nat := match o with
  | some (.lst _ xs) => some xs.length
  | some (.dct _ kvs) => some kvs.length
  | _ => none
theorem ln_l {w : Bool} {xs : List Val} : lenO (some (.lst w xs)) = some xs.length := id rfl
theorem ln_d {w : Bool} {kvs : List (L2.Key × Val)} : lenO (some (.dct w kvs)) = some kvs.length := id rfl
theorem l_lst {a : Nat} : (bisem .len [.ref a] h).wp Q Z = opK (lenO h[a]?) fun n => Q (.int n) h := by
  simp only [bisem]
  cases h[a]? with
  | none => rfl
  | some o => cases o <;> rfl
theorem f_max : (bisem .max [.int i, .int j] h).wp Q Z = Q (.int (max i j)) h := by
  have e : max i j = if j > i then j else i := by split <;> omega
  rw [e]; rfl
theorem f_min : (bisem .min [.int i, .int j] h).wp Q Z = Q (.int (min i j)) h := by
  have e : min i j = if j < i then j else i := by split <;> omega
  rw [e]; rfl
theorem f_int : (bisem .int [.int i] h).wp Q Z = Q (.int i) h := id rfl
theorem f_intb {b : Bool} : (bisem .int [.bl b] h).wp Q Z = Q (.int (if b then 1 else 0)) h := id rfl
theorem ri_str {z : Str} : itemsOf .val [.str z] h = some (z.cps.toList.map fun c => .str ⟨#[c]⟩, []) := id rfl
theorem f_lens {z : Str} : (bisem .len [.str z] h).wp Q Z = (z.length ≤ sizeLine ∧ Q (.int z.length) h) := by simp only [bisem, wp_if, wp_ok]
theorem f_dict {a : Nat} : (bisem .dict [.ref a] h).wp Q Z = lsK h[a]? fun _ xs => opK (pairsO xs) fun kvs => Q (.ref h.length) (h ++ [.dct true (dictL kvs)]) := by
  simp only [bisem]
  cases h[a]? with
  | none => rfl
  | some o =>
    cases o with
    | lst w xs => 
      show (match pairsO xs with
        | some kvs => alloc (.dct true (dictL kvs)) h
        | none => .bad).wp Q Z = opK (pairsO xs) _
      cases pairsO xs <;> rfl
    | _ => rfl
theorem f_str : (bisem .str [.int i] h).wp Q Z = (i.natAbs.log2 < 1920 ∧ Q (.str (toString i)) h) := by simp only [bisem, wp_if, wp_ok]
theorem f_ints {z : Str} : (bisem .int [.str z] h).wp Q Z = (z.length ≤ 640 ∧ opK (PySem.intText? z) fun i => Q (.int i) h) := by simp only [bisem, wp_if, wp_ret, op_map]
theorem f_tupt : (bisem .tuple [.tup vs] h).wp Q Z = Q (.tup vs) h := id rfl
theorem f_tupl {a : Nat} : (bisem .tuple [.ref a] h).wp Q Z = lsK h[a]? fun _ xs => Q (.tup xs) h := by
  simp only [bisem]
  cases h[a]? with
  | none => rfl
  | some o => cases o <;> rfl
theorem f_lstt : (bisem .list [.tup vs] h).wp Q Z = Q (.ref h.length) (h ++ [.lst true vs]) := id rfl
def lstO (o : Option Ob) : Option (List Val) := match o with
  | some (.lst _ xs) => some xs
  | some (.dct _ kvs) => some (kvs.map fun p => kVal p.1)
  | _ => none
theorem lo_l {w : Bool} {xs : List Val} : lstO (some (.lst w xs)) = some xs := id rfl
theorem lo_d {w : Bool} {kvs : List (L2.Key × Val)} : lstO (some (.dct w kvs)) = some (kvs.map fun p => kVal p.1) := id rfl
theorem f_lstl {a : Nat} : (bisem .list [.ref a] h).wp Q Z = opK (lstO h[a]?) fun xs => Q (.ref h.length) (h ++ [.lst true xs]) := by
  simp only [bisem]
  cases h[a]? with
  | none => rfl
  | some o => cases o <;> rfl
theorem s_tup {lo hi : Option Int} : (slice (.tup vs) lo hi h).wp Q Z = Q (.tup (cutL vs lo hi)) h := id rfl
theorem s_lst {a : Nat} {lo hi : Option Int} : (slice (.ref a) lo hi h).wp Q Z = lsK h[a]? fun _ xs => Q (.ref h.length) (h ++ [.lst true (cutL xs lo hi)]) := by
  simp only [slice]
  cases h[a]? with
  | none => rfl
  | some o => cases o <;> rfl
theorem m_append {a : Nat} {v : Val} : (mtsem .append (.ref a) [v] h).wp Q Z = lsK h[a]? fun w xs => w = true ∧ xs.length < sizeLine ∧ Q .non (h.set a (.lst true (xs ++ [v]))) := by
  simp only [mtsem]
  cases h[a]? with
  | none => rfl
  | some o =>
    cases o with
    | lst w xs =>
      cases w with
      | true => simp only [wp_if, lsK, true_and]; rfl
      | false => simp [lsK, wp_bad]
    | dct _ _ => rfl
    | dtt _ => rfl
    | ins _ _ => rfl
theorem m_insert {a : Nat} {i : Int} {v : Val} : (mtsem .insert (.ref a) [.int i, v] h).wp Q Z = lsK h[a]? fun w xs => w = true ∧ (xs.length < sizeLine ∧ 0 ≤ i ∧ i < 2 ^ 63) ∧ Q .non (h.set a (.lst true (xs.take i.toNat ++ [v] ++ xs.drop i.toNat))) := by
  simp only [mtsem]
  cases h[a]? with
  | none => rfl
  | some o =>
    cases o with
    | lst w xs =>
      cases w with
      | true => simp only [wp_if, lsK, true_and]; rfl
      | false => simp [lsK, wp_bad]
    | dct _ _ => rfl
    | dtt _ => rfl
    | ins _ _ => rfl
theorem m_extend {a b : Nat} : (mtsem .extend (.ref a) [.ref b] h).wp Q Z = lsK h[a]? fun w xs => lsK h[b]? fun z ys => w = true ∧ z = true ∧ xs.length + ys.length ≤ sizeLine ∧ Q .non (h.set a (.lst true (xs ++ ys))) := by
  simp only [mtsem]
  cases h[a]? with
  | none => rfl
  | some o =>
    cases o with
    | lst w xs =>
      cases h[b]? with
      | none => cases w <;> rfl
      | some u =>
        cases u with
        | lst z ys =>
          cases w <;> cases z <;> first | (simp [lsK, wp_bad]; done) | skip
          simp only [wp_if, lsK, true_and]; rfl
        | dct _ _ => cases w <;> rfl
        | dtt _ => cases w <;> rfl
        | ins _ _ => cases w <;> rfl
    | dct _ _ => rfl
    | dtt _ => rfl
    | ins _ _ => rfl
theorem m_okl {m : Mt} {a : Nat} {w : Bool} {xs : List Val} (e : h[a]? = some (.lst w xs)) : mtOk m (.ref a) h = (match m with
    | .append | .extend | .pop | .popAt | .insert | .index | .count | .clear => true
    | _ => false) := by
  unfold mtOk
  dsimp only
  rw [e]
  all_goals (cases m <;> rfl)
theorem ib_t {c : Bool} : isBl true (.bl c) = c := by cases c <;> rfl
theorem ib_f {c : Bool} : isBl false (.bl c) = !c := by cases c <;> rfl
theorem ib_non {b : Bool} : isBl b .non = false := id rfl
theorem ib_int {b : Bool} : isBl b (.int i) = false := id rfl
theorem ib_str {b : Bool} : isBl b (.str s) = false := id rfl
theorem ib_tup {b : Bool} : isBl b (.tup vs) = false := id rfl
theorem ib_ref {b : Bool} {a : Nat} : isBl b (.ref a) = false := id rfl
theorem n_non : isNon .non = true := id rfl
theorem n_bl {b : Bool} : isNon (.bl b) = false := id rfl
theorem n_int : isNon (.int i) = false := id rfl
theorem n_str : isNon (.str s) = false := id rfl
theorem n_tup : isNon (.tup vs) = false := id rfl
theorem n_ref {a : Nat} : isNon (.ref a) = false := id rfl
theorem ty_non : tyOf h .non = some "NoneType" := id rfl
theorem ty_bl {b : Bool} : tyOf h (.bl b) = some "bool" := id rfl
theorem ty_int : tyOf h (.int i) = some "int" := id rfl
theorem ty_str : tyOf h (.str s) = some "str" := id rfl
theorem ty_tup : tyOf h (.tup vs) = some "tuple" := id rfl
def tyO (o : Option Ob) : Option String := match o with
  | some (.lst _ _) => some "list"
  | some (.dct _ _) => some "dict"
  | some (.dtt _) => some "dict"
  | some (.ins c _) => some c
  | none => none
theorem ty_ref {a : Nat} : tyOf h (.ref a) = tyO h[a]? := by
  cases e : h[a]? with
  | none => simp [tyOf, tyO, e]
  | some o => cases o <;> simp [tyOf, tyO, e]
theorem tyO_l {w : Bool} {xs : List Val} : tyO (some (.lst w xs)) = some "list" := id rfl
theorem tyO_i {c : String} {fs : List (String × Val)} : tyO (some (.ins c fs)) = some c := id rfl
def mtO (m : Mt) (o : Option Ob) : Bool := match o with
  | some (.lst _ _) => match m with
    | .append | .extend | .pop | .popAt | .insert | .index | .count | .clear => true
    | _ => false
  | some (.dct _ _) => match m with
    | .get | .get2 | .items => true
    | _ => false
  | some (.dtt _) => match m with
    | .get | .get2 => true
    | _ => false
  | _ => false
theorem m_bit : (mtsem .bitlen (.int i) [] h).wp Q Z = Q (.int (Builtin.Int.intBits i)) h := id rfl
theorem mo_bit : mtOk .bitlen (.int i) h = true := id rfl
def ixD (h : MH) (v w : Val) : Option Nat := match snap h 64 v, snap h 64 w with
  | some d, some (.list ds) => ds.findIdx? fun z => PyData.eqv z d
  | _, _ => none
theorem m_index {a : Nat} {v : Val} : (mtsem .index (.ref a) [v] h).wp Q Z = lsK h[a]? fun _ xs => if (flat v && xs.all flat) = true then opK (xs.findIdx? fun z => eqF z v) (fun j => Q (.int (j : Nat)) h) else opK (ixD h v (.ref a)) fun j => Q (.int (j : Nat)) h := by
  simp only [mtsem]
  cases h[a]? with
  | none => rfl
  | some o =>
    cases o with
    | lst w xs =>
      simp only [lsK]
      by_cases c : (flat v && xs.all flat) = true
      · simp only [if_pos c, wp_ret, op_map]
      · simp only [if_neg c]
        unfold ixD
        cases snap h 64 v with
        | none => rfl
        | some d =>
          cases snap h 64 (.ref a) with
          | none => rfl
          | some e =>
            cases e <;> first | rfl | simp only [wp_ret, op_map]
    | dct _ _ => rfl
    | dtt _ => rfl
    | ins _ _ => rfl
theorem mo_index {w : Bool} {xs : List Val} : mtO .index (some (.lst w xs)) = true := id rfl
theorem m_pop {a : Nat} : (mtsem .pop (.ref a) [] h).wp Q Z = lsK h[a]? fun w xs => w = true ∧ opK xs[xs.length - 1]? fun v => Q v (h.set a (.lst true xs.dropLast)) := by
  simp only [mtsem]
  cases h[a]? with
  | none => rfl
  | some o =>
    cases o with
    | lst w xs =>
      cases w with
      | true =>
        simp only [lsK, true_and]
        cases xs[xs.length - 1]? <;> rfl
      | false => simp [lsK, wp_bad]
    | dct _ _ => rfl
    | dtt _ => rfl
    | ins _ _ => rfl
theorem m_okr {m : Mt} {a : Nat} : mtOk m (.ref a) h = mtO m h[a]? := by
  unfold mtOk mtO
  dsimp only
  all_goals (rcases h[a]? with _ | o)
  all_goals first | rfl | (cases o <;> cases m <;> rfl)
theorem mo_append {w : Bool} {xs : List Val} : mtO .append (some (.lst w xs)) = true := id rfl
theorem mo_insert {w : Bool} {xs : List Val} : mtO .insert (some (.lst w xs)) = true := id rfl
theorem mo_extend {w : Bool} {xs : List Val} : mtO .extend (some (.lst w xs)) = true := id rfl
theorem mo_pop {w : Bool} {xs : List Val} : mtO .pop (some (.lst w xs)) = true := id rfl
theorem mo_popAt {w : Bool} {xs : List Val} : mtO .popAt (some (.lst w xs)) = true := id rfl
theorem mo_clear {w : Bool} {xs : List Val} : mtO .clear (some (.lst w xs)) = true := id rfl
theorem set_last {o u : Ob} : (h ++ [o]).set h.length u = h ++ [u] := by simp
def dkK {α : Type} (o : Option α) (k : α → Prop) (e : Prop) (_ : Fz k := ⟨⟩) : Prop := match o with
  | some c => k c
  | none => e
theorem dk_s {α : Type} {c : α} {k : α → Prop} {e : Prop} : dkK (some c) k e = k c := id rfl
theorem dk_n {α : Type} {k : α → Prop} {e : Prop} : dkK none k e = e := id rfl
def suK (o : Option Ob) (i v : Val) (k : Ob → Prop) (_ : Fz k := ⟨⟩) : Prop := match o, i with
  | some (.lst w xs), .int j => w = true ∧ opK (L2.ixN xs.length j) fun j => k (.lst true (xs.set j v))
  | some (.dct w kvs), _ => w = true ∧ dkK (keyV i) (fun c => kvs.length < sizeLine ∧ k (.dct true (putC c v kvs))) (opK (keyT i) fun c => kvs.isEmpty = true ∧ k (.dtt [(c, v)]))
  | some (.dtt kvs), _ => opK (keyT i) fun c => kvs.length < sizeLine ∧ k (.dtt (putC c v kvs))
  | _, _ => False
theorem su_l {w : Bool} {xs : List Val} {j : Int} {v : Val} {k : Ob → Prop} : suK (some (.lst w xs)) (.int j) v k = (w = true ∧ opK (L2.ixN xs.length j) fun j => k (.lst true (xs.set j v))) := id rfl
theorem su_d {w : Bool} {kvs : List (L2.Key × Val)} {i v : Val} {k : Ob → Prop} : suK (some (.dct w kvs)) i v k = (w = true ∧ dkK (keyV i) (fun c => kvs.length < sizeLine ∧ k (.dct true (putC c v kvs))) (opK (keyT i) fun c => kvs.isEmpty = true ∧ k (.dtt [(c, v)]))) := by cases i <;> rfl
theorem su_t {kvs : List (List L2.Key × Val)} {i v : Val} {k : Ob → Prop} : suK (some (.dtt kvs)) i v k = opK (keyT i) fun c => kvs.length < sizeLine ∧ k (.dtt (putC c v kvs)) := by cases i <;> rfl
theorem u_sub {a : Nat} {i v : Val} {Q : Unit → MH → Prop} : (setSub (.ref a) i v h).wp Q Z = suK h[a]? i v fun o => Q () (h.set a o) := by
  simp only [setSub]
  cases h[a]? with
  | none => cases i <;> rfl
  | some o =>
    cases o with
    | lst w xs =>
      cases w <;> cases i <;> first | rfl | (simp [suK, wp_bad]; done) | skip
      simp only [suK, true_and]
      cases L2.ixN xs.length _ <;> rfl
    | dct w kvs =>
      rw [su_d]
      cases w with
      | true =>
        simp only [true_and]
        cases keyV i with
        | none =>
          cases keyT i with
          | none => rfl
          | some c => exact wp_if
        | some c => exact wp_if
      | false => simp [wp_bad]
    | dtt kvs =>
      rw [su_t]
      simp only
      cases keyT i with
      | none => rfl
      | some c => exact wp_if
    | ins _ _ => cases i <;> rfl
theorem k_tup {vs : List Val} : keyV (.tup vs) = none := id rfl
theorem kt_tup {z : Str} {j : Int} : keyT (.tup [.str z, .int j]) = some [.inr z, .inl j] := id rfl
theorem gt_tup {z : Str} {j : Int} {kvs : List (List L2.Key × Val)} : getT (.tup [.str z, .int j]) kvs = getC [.inr z, .inl j] kvs := id rfl
/-- d.get(k) -/
def gtO (o : Option Ob) (k : Val) : Option (Option Val) := match o with
  | some (.dct w kvs) => if emT w kvs k = true then some none else (keyV k).map fun c => getC c kvs
  | some (.dtt kvs) => (keyT k).map fun c => getC c kvs
  | _ => none
theorem m_get {a : Nat} {v : Val} {Q : Val → MH → Prop} {Z : XP} : (mtsem .get (.ref a) [v] h).wp Q Z = opK (gtO h[a]? v) fun o => Q (o.getD .non) h := by
  simp only [mtsem]
  cases h[a]? with
  | none => rfl
  | some o =>
    cases o with
    | lst _ _ => rfl
    | ins _ _ => rfl
    | dct w kvs =>
      simp only [gtO]
      by_cases c : emT w kvs v = true
      · rw [if_pos c, if_pos c]; rfl
      · rw [if_neg c, if_neg c]; cases keyV v <;> rfl
    | dtt kvs =>
      simp only [gtO]
      cases keyT v <;> rfl
theorem mo_getd {w : Bool} {kvs : List (L2.Key × Val)} : mtO .get (some (.dct w kvs)) = true := id rfl
theorem mo_gett {kvs : List (List L2.Key × Val)} : mtO .get (some (.dtt kvs)) = true := id rfl
theorem gt_t {kvs : List (List L2.Key × Val)} {z : Str} {j : Int} : gtO (some (.dtt kvs)) (.tup [.str z, .int j]) = some (getC [.inr z, .inl j] kvs) := id rfl
theorem gt_e {z : Str} {j : Int} : gtO (some (.dct true [])) (.tup [.str z, .int j]) = some none := id rfl
theorem vin_t {a : Nat} {kvs : List (List L2.Key × Val)} {z : Str} {j : Int} (e : h[a]? = some (.dtt kvs)) : vin? h (.tup [.str z, .int j]) (.ref a) = some (getC [.inr z, .inl j] kvs).isSome := by
  simp only [vin?, e]; rfl
theorem vin_e {a : Nat} {z : Str} {j : Int} (e : h[a]? = some (.dct true [])) : vin? h (.tup [.str z, .int j]) (.ref a) = some false := by
  simp only [vin?, e]; rfl
theorem k_int {j : Int} : keyV (.int j) = some (.inl j) := id rfl
theorem k_str {z : Str} : keyV (.str z) = some (.inr z) := id rfl
theorem gk_int {j : Int} {kvs : List (L2.Key × Val)} : getK (.int j) kvs = getC (.inl j) kvs := id rfl
theorem gk_str {z : Str} {kvs : List (L2.Key × Val)} : getK (.str z) kvs = getC (.inr z) kvs := id rfl
theorem vin_d {a : Nat} {w : Bool} {kvs : List (L2.Key × Val)} {v : Val} {c : L2.Key} (e : h[a]? = some (.dct w kvs)) (ec : keyV v = some c) : vin? h v (.ref a) = some (getC c kvs).isSome := by
  have z : emT w kvs v = false := by
    unfold emT
    cases v <;> first | (cases ec; done) | simp [keyT]
  simp only [vin?, e, ec, Option.map_some, z, Bool.false_eq_true, if_false]
end
theorem divOk_of {j : Int} (h0 : 0 < j) (h1 : j < 2 ^ 1000) : divOk j := by
  refine ⟨h0, ?_⟩
  have h2 : j.natAbs < 2 ^ 1000 := by omega
  have h3 : j.natAbs ≠ 0 := by omega
  exact Nat.lt_of_lt_of_le ((Nat.log2_lt h3).mpr h2) (by decide)
theorem divOk_lit {j : Int} (h0 : 0 < j) (h1 : j < 1606938044258990275541962092341162602522202993782792835301376) : divOk j = True := eq_true (divOk_of h0 (by omega))
theorem mulOk_r {i j : Int} (h0 : -18446744073709551616 < j) (h1 : j < 18446744073709551616) : mulOk i j = True := eq_true (.inr (.inl ⟨h0, h1⟩))
theorem mulOk_l {i j : Int} (h0 : -18446744073709551616 < i) (h1 : i < 18446744073709551616) : mulOk i j = True := eq_true (.inl ⟨h0, h1⟩)
theorem pow_lit {i j : Int} (h0 : 0 ≤ j) (h1 : j ≤ 1000000) (h2 : -1000 < i) (h3 : i < 1000) : powOk i j = True := eq_true ⟨h0, h1, by omega⟩
theorem natAbs_log2 {i : Int} {n : Nat} (h0 : -(2 ^ n) < i) (h1 : i < 2 ^ n) (hn : 0 < n) : i.natAbs.log2 < n := by
  by_cases z : i.natAbs = 0
  · rw [z]; simpa using hn
  · refine (Nat.log2_lt z).mpr ?_
    have e : ((2 ^ n : Nat) : Int) = 2 ^ n := by simp
    omega
/-- products of numbers of up to n and m bits -/
theorem mulOk_of {i j : Int} (n m : Nat) (h0 : -(2 ^ n) < i) (h1 : i < 2 ^ n) (h2 : -(2 ^ m) < j) (h3 : j < 2 ^ m) (hn : 0 < n) (hm : 0 < m) (h : n + m < 1000000) : mulOk i j := by
  have a := natAbs_log2 h0 h1 hn
  have b := natAbs_log2 h2 h3 hm
  exact .inr (.inr (by omega))
theorem sz_lt {n : Nat} (h : n ≤ 4096) : (n < sizeLine) = True := by
  have : 4097 ≤ sizeLine := by decide
  simp; omega
theorem sz_ok {n : Nat} (h : n ≤ 4096) : (n ≤ sizeLine) = True := by
  have : 4096 ≤ sizeLine := by decide
  simp; omega
theorem b_muls {z : Str} {k : Int} : (binop .Mult (.str z) (.int k) h).wp Q Z = ((1 ≤ z.length ∧ 0 ≤ k ∧ z.length * k.toNat ≤ 4096) ∧ Q (.str (repS z k.toNat)) h) := by simp only [binop, wp_if, wp_ok]
theorem b_mull {a : Nat} {k : Int} : (binop .Mult (.ref a) (.int k) h).wp Q Z = lsK h[a]? fun w xs => w = true ∧ (0 ≤ k ∧ k ≤ 4096 ∧ xs.length * k.toNat ≤ 4096) ∧ Q (.ref h.length) (h ++ [.lst true (List.replicate k.toNat xs).flatten]) := by
  simp only [binop]
  cases h[a]? with
  | none => rfl
  | some o =>
    cases o with
    | lst w xs =>
      cases w
      · simp [lsK, Res.wp]
      · simp only [wp_if, lsK, true_and]; rfl
    | dct _ _ => rfl
    | dtt _ => rfl
    | ins _ _ => rfl
theorem i_str {z : Str} {k : Int} : (index (.str z) (.int k) h).wp Q Z = (z.length ≤ sizeLine ∧ opK (L2.atI z.cps.toList k) fun c => Q (.str ⟨#[c]⟩) h) := by
  show (if z.length ≤ sizeLine then retO ((L2.atI z.cps.toList k).map fun c => Val.str ⟨#[c]⟩) h else .bad : Res Val).wp Q Z = _
  rw [wp_if, wp_ret]
  cases L2.atI z.cps.toList k <;> rfl
theorem f_sum {a : Nat} : (bisem .sum [.ref a] h).wp Q Z = lsK h[a]? fun _ xs => opK (intsO xs) fun ns => Q (.int ns.sum) h := by
  simp only [bisem]
  cases h[a]? with
  | none => rfl
  | some o =>
    cases o with
    | lst w xs =>
      show (retO ((intsO xs).map fun ns => Val.int ns.sum) h).wp Q Z = opK (intsO xs) _
      rw [wp_ret]
      cases intsO xs <;> rfl
    | dct _ _ => rfl
    | dtt _ => rfl
    | ins _ _ => rfl
theorem io_nil : intsO [] = some [] := id rfl
theorem io_cons {n : Int} {xs : List Val} : intsO (.int n :: xs) = (intsO xs).map fun l => n :: l := by
  simp only [intsO, mapO]
  cases mapO _ xs <;> rfl
/-! objects -/
def isK (o : Option Ob) (k : String → List (String × Val) → Prop) (_ : Fz k := ⟨⟩) : Prop := match o with
  | some (.ins c fs) => k c fs
  | _ => False
theorem is_k {c : String} {fs : List (String × Val)} {k : String → List (String × Val) → Prop} : isK (some (.ins c fs)) k = k c fs := id rfl
theorem we_fld {o : E} {f : String} : (evE P (.fld o f) ρ h).wp Q Z = (evE P o ρ h).wp (fun x h1 => (getF P x f h1).wp Q Z) Z := by
  simp only [evE]; exact wp_bind
theorem g_fld {a : Nat} {f : String} : (getF P (.ref a) f h).wp Q Z = isK h[a]? fun c fs => (P.flds c).contains f = true ∧ opK (fs.lookup f) fun v => Q v h := by
  simp only [getF]
  cases h[a]? with
  | none => rfl
  | some o =>
    cases o with
    | lst w xs => rfl
    | dct _ _ => rfl
    | dtt _ => rfl
    | ins c fs =>
      show (if (P.flds c).contains f = true then retO (fs.lookup f) h else .bad : Res Val).wp Q Z = _
      rw [wp_if, wp_ret]
      rfl
/-! exceptions -/
theorem n_exc {c : String} {fs : List (String × Val)} : isNon (.exc c fs) = false := id rfl
theorem ty_exc {c : String} {fs : List (String × Val)} : tyOf h (.exc c fs) = some c := id rfl
theorem g_fldx {c f : String} {fs : List (String × Val)} : (getF P (.exc c fs) f h).wp Q Z = opK (P.exi c) fun o => o = some f ∧ opK (fs.lookup f) fun v => Q v h := by
  simp only [getF]
  cases e : P.exi c with
  | none => rfl
  | some o =>
    show (if some o = some (some f) then retO (fs.lookup f) h else .bad : Res Val).wp Q Z = (o = some f ∧ _)
    rw [wp_if, wp_ret, Option.some.injEq]
theorem ra_n {v : Val} : raised none v = [] := id rfl
theorem ra_f {f : String} {v : Val} : raised (some f) v = [(f, v)] := id rfl
theorem ws_rai {c : String} {e : E} : (evS P (.rai c [e]) ρ h).wp K = opK (P.exi c) fun o => (evE P e ρ h).wp (fun v h1 => K.er c (raised o v) ρ h1) (fun c fs h => K.er c fs ρ h) := by
  simp only [evS]
  cases P.exi c with
  | none => rfl
  | some o => exact srw_og fun x h1 => rfl
theorem ws_try {b : List S} {t : String} {i j : Nat} : (evS P (.tryS b [(t, some i, [.asg (.nm j) (.var i)])]) ρ h).wp K = (i ≠ j ∧ (evB P b ρ h).wp { K with er := fun c fs ρ h => opK (P.exm c t) fun b => b = true ∧ i < ρ.length ∧ K.nx ((ρ.set j (some (.exc c fs))).set i none) h }) := by
  simp only [evS]
  by_cases z : i = j
  · rw [if_neg (by simp [z])]; simp [z, SR.wp]
  · rw [if_pos ⟨trivial, z⟩]
    simp only [ne_eq, z, not_false_eq_true, true_and]
    unfold tryR
    cases evB P b ρ h with
    | err c fs ρ2 h2 =>
      simp only
      show _ = opK (P.exm c t) fun b => b = true ∧ i < ρ2.length ∧ K.nx ((ρ2.set j (some (.exc c fs))).set i none) h2
      cases P.exm c t with
      | none => rfl
      | some b =>
        cases b with
        | false => simp [opK, SR.wp]
        | true =>
          show (if i < ρ2.length then _ else _ : SR).wp K = (true = true ∧ i < ρ2.length ∧ _)
          by_cases y : i < ρ2.length
          · rw [if_pos y]; simp [y, SR.wp]
          · rw [if_neg y]; simp [y, SR.wp]
    | _ => rfl
theorem ws_onlyA {b : List S} {t : String} {j : Nat} {e : E} : (evS P (.tryS b [(t, none, [.asg (.nm j) e])]) ρ h).wp K = (evB P b ρ h).wp { K with er := fun c fs ρ h => opK (P.exm c t) fun b => b = true ∧ (evE P e ρ h).wp (fun v h1 => K.nx (ρ.set j (some v)) h1) (fun c fs h => K.er c fs ρ h) } := by
  simp only [evS]
  unfold onlyR
  cases evB P b ρ h with
  | err c fs ρ2 h2 =>
    simp only
    show _ = opK (P.exm c t) fun b => b = true ∧ (evE P e ρ2 h2).wp (fun v h1 => K.nx (ρ2.set j (some v)) h1) (fun c fs h => K.er c fs ρ2 h)
    cases P.exm c t with
    | none => rfl
    | some b =>
      cases b with
      | false => simp [opK, SR.wp]
      | true =>
        rw [op_k]
        simp only [true_and]
        exact srw_og fun x h1 => rfl
  | _ => rfl
theorem ws_onlyR {b : List S} {t : String} {e : E} : (evS P (.tryS b [(t, none, [.ret e])]) ρ h).wp K = (evB P b ρ h).wp { K with er := fun c fs ρ h => opK (P.exm c t) fun b => b = true ∧ (evE P e ρ h).wp (fun v h1 => K.rt v h1) (fun c fs h => K.er c fs ρ h) } := by
  simp only [evS]
  unfold onlyR
  cases evB P b ρ h with
  | err c fs ρ2 h2 =>
    simp only
    show _ = opK (P.exm c t) fun b => b = true ∧ (evE P e ρ2 h2).wp (fun v h1 => K.rt v h1) (fun c fs h => K.er c fs ρ2 h)
    cases P.exm c t with
    | none => rfl
    | some b =>
      cases b with
      | false => simp [opK, SR.wp]
      | true =>
        rw [op_k]
        simp only [true_and]
        exact srw_og fun x h1 => rfl
  | _ => rfl
theorem ws_hold {b : List S} {hs : List (String × Option Nat × List S)} {t : String} : (evS P (.tryS b ((t, none, []) :: hs)) ρ h).wp K = (evB P b ρ h).wp { K with er := fun c fs ρ h => (hotR P c fs ρ h hs).wp K } := by
  simp only [evS]
  unfold holdR
  cases evB P b ρ h <;> rfl
theorem hot_n {c : String} {fs : List (String × Val)} : (hotR P c fs ρ h []).wp K = False := by simp only [hotR]; rfl
theorem hot_c {c t : String} {fs : List (String × Val)} {i : Nat} {b : List S} {r : List (String × Option Nat × List S)} : (hotR P c fs ρ h ((t, some i, b) :: r)).wp K = opK (P.exm c t) fun bb => ifK (.bl bb) (i < ρ.length ∧ (hotA P b (ρ.set i (some (.exc c fs))) h).wp { nx := fun ρ h => K.nx (ρ.set i none) h, bk := fun _ _ => False, ct := fun _ _ => False, rt := K.rt, er := fun _ _ _ _ => False }) ((hotR P c fs ρ h r).wp K) := by
  simp only [hotR]
  cases P.exm c t with
  | none => rfl
  | some bb =>
    cases bb with
    | false => rfl
    | true =>
      rw [op_k, if_t]
      simp only
      by_cases y : i < ρ.length
      · rw [if_pos y]
        simp only [y, true_and]
        cases hotA P b (ρ.set i (some (.exc c fs))) h <;> rfl
      · rw [if_neg y]; simp [y, SR.wp]
theorem hot_0 : (hotA P [] ρ h).wp K = K.nx ρ h := by simp only [hotA]; rfl
theorem hot_a {j : Nat} {e : E} {r : List S} : (hotA P (.asg (.nm j) e :: r) ρ h).wp K = (evE P e ρ h).wp (fun v h1 => (hotA P r (ρ.set j (some v)) h1).wp K) (fun c fs h => K.er c fs ρ h) := by
  simp only [hotA]
  exact srw_og fun x h1 => rfl
theorem hot_r {e : E} {r : List S} : (hotA P (.ret e :: r) ρ h).wp K = (evE P e ρ h).wp (fun v h1 => K.rt v h1) (fun c fs h => K.er c fs ρ h) := by
  simp only [hotA]
  exact srw_og fun x h1 => rfl
theorem ws_fld {o e : E} {f : String} : (evS P (.fld o f e) ρ h).wp K = (evE P e ρ h).wp (fun v h1 => (evE P o ρ h1).wp (fun x h2 => (setF P x f v h2).wp (fun _ h4 => K.nx ρ h4) (fun c fs h => K.er c fs ρ h)) (fun c fs h => K.er c fs ρ h)) (fun c fs h => K.er c fs ρ h) := by
  simp only [evS]
  exact srw_og fun x h1 => srw_og fun x h1 => srw_og fun x h1 => rfl
theorem g_set {a : Nat} {f : String} {v : Val} {Q : Unit → MH → Prop} : (setF P (.ref a) f v h).wp Q Z = isK h[a]? fun c fs => fs.length < 1000 ∧ (P.flds c).contains f = true ∧ Q () (h.set a (.ins c (putFl f v fs))) := by
  simp only [setF]
  cases h[a]? with
  | none => rfl
  | some o =>
    cases o with
    | lst w xs => rfl
    | dct _ _ => rfl
    | dtt _ => rfl
    | ins c fs =>
      show (if fs.length < 1000 ∧ (P.flds c).contains f = true then Res.ok () (h.set a (.ins c (putFl f v fs))) else .bad).wp Q Z = _
      rw [wp_if, and_assoc]
      rfl
theorem we_own {m : String} {o : E} {es : List E} : (evE P (.own m o es) ρ h).wp Q Z = (evE P o ρ h).wp (fun x h1 => opK (ownFn P m x h1) fun f => (evEs P es ρ h1).wp (fun vs h2 => (P.cf f (x :: vs) h2).wp Q Z) Z) Z := by
  simp only [evE]
  refine wp_bg fun x h1 => ?_
  cases ownFn P m x h1 with
  | none => rfl
  | some f => exact wp_bind
def ownO (P : Pg) (m : String) (o : Option Ob) : Option String := match o with
  | some (.ins c fs) => if (fs.lookup m).isNone = true then P.mro c m else none
  | _ => none
theorem ow_ref {m : String} {a : Nat} : ownFn P m (.ref a) h = ownO P m h[a]? := by
  cases e : h[a]? with
  | none => simp [ownFn, ownO, e]
  | some o => cases o <;> simp [ownFn, ownO, e]
def ifN (o : Option Val) (s : Option String) : Option String := match o with
  | none => s
  | some _ => none
theorem ow_i {m c : String} {fs : List (String × Val)} : ownO P m (some (.ins c fs)) = ifN (fs.lookup m) (P.mro c m) := by
  simp only [ownO]
  cases fs.lookup m <;> rfl
theorem in_n {s : Option String} : ifN none s = s := id rfl
theorem we_new {c : String} {es : List E} : (evE P (.new c es) ρ h).wp Q Z = (evEs P es ρ h).wp (fun vs h1 => opK (P.mro c "__init__") fun f => (P.cf f (.ref h1.length :: vs) (h1 ++ [.ins c []])).wp (fun v h2 => isNon v = true ∧ Q (.ref h1.length) h2) Z) Z := by
  simp only [evE]
  refine wp_bg fun vs h1 => ?_
  unfold newObj
  cases P.mro c "__init__" with
  | none => rfl
  | some f =>
    show ((P.cf f (.ref h1.length :: vs) (h1 ++ [.ins c []])).bind _).wp Q Z = (P.cf f (.ref h1.length :: vs) (h1 ++ [.ins c []])).wp _ Z
    refine wp_bg fun v h2 => ?_
    cases v <;> first | (simp [isNon, Res.wp]; done) | rfl
theorem pf_nil {f : String} {v : Val} : putFl f v [] = [(f, v)] := id rfl
theorem pf_cons {f g : String} {v w : Val} {r : List (String × Val)} : putFl f v ((g, w) :: r) = if g = f then (g, v) :: r else (g, w) :: putFl f v r := id rfl
theorem lk_nil {f : String} : List.lookup f ([] : List (String × Val)) = none := id rfl
theorem lk_cons {f g : String} {w : Val} {r : List (String × Val)} : List.lookup f ((g, w) :: r) = if f = g then some w else r.lookup f := by
  rw [List.lookup_cons]
  by_cases c : f = g
  · subst c; simp
  · rw [if_neg c, show (f == g) = false by simpa using c]
theorem mo_str {m : Mt} {z : Str} (hm : m = .join ∨ m = .split ∨ m = .partition ∨ m = .find ∨ m = .upper) : mtOk m (.str z) h = true := by rcases hm with rfl | rfl | rfl | rfl | rfl <;> rfl
theorem mo_join {z : Str} : mtOk .join (.str z) h = true := id rfl
theorem mo_split {z : Str} : mtOk .split (.str z) h = true := id rfl
theorem mo_part {z : Str} : mtOk .partition (.str z) h = true := id rfl
theorem mo_find {z : Str} : mtOk .find (.str z) h = true := id rfl
theorem mo_upper {z : Str} : mtOk .upper (.str z) h = true := id rfl
theorem so_nil : strsO [] = some [] := id rfl
theorem so_map : ∀ ys : List Str, strsO (ys.map .str) = some ys
  | [] => rfl
  | y :: ys => by
    have ih := so_map ys
    simp only [strsO, List.map_cons, mapO] at ih ⊢
    rw [ih]
theorem m_join {z : Str} {a : Nat} : (mtsem .join (.str z) [.ref a] h).wp Q Z = lsK h[a]? fun _ xs => opK (strsO xs) fun ys => (ys.map (·.length)).sum + ys.length * z.length ≤ 16777216 ∧ Q (.str (Txt.join z ys)) h := by
  simp only [mtsem]
  cases h[a]? with
  | none => rfl
  | some o =>
    cases o with
    | lst w xs =>
      show (match strsO xs with
      | some ys => if (ys.map (·.length)).sum + ys.length * z.length ≤ 16777216 then Res.ok (.str (Txt.join z ys)) h else .bad
      | none => .bad : Res Val).wp Q Z = opK (strsO xs) _
      cases strsO xs with
      | none => rfl
      | some ys => rw [op_k]; exact wp_if
    | dct _ _ => rfl
    | dtt _ => rfl
    | ins _ _ => rfl
theorem m_split {z y : Str} : (mtsem .split (.str z) [.str y] h).wp Q Z = (((y.length == 0) = false ∧ z.length + 2 ≤ sizeLine) ∧ Q (.ref h.length) (h ++ [.lst true ((Txt.split z y).map .str)])) := by simp only [mtsem, wp_if]; rfl
theorem m_part {z y : Str} : (mtsem .partition (.str z) [.str y] h).wp Q Z = (((y.length == 0) = false ∧ z.length ≤ sizeLine) ∧ Q (.tup [.str (Txt.partition z y).1, .str (Txt.partition z y).2.1, .str (Txt.partition z y).2.2]) h) := by simp only [mtsem, wp_if]; rfl
theorem m_find {z y : Str} : (mtsem .find (.str z) [.str y] h).wp Q Z = Q (.int (Txt.find z y)) h := by simp only [mtsem]; rfl
theorem m_upper {z : Str} : (mtsem .upper (.str z) [] h).wp Q Z = (z.length ≤ 5592405 ∧ Q (.str (Txt.upper z)) h) := by simp only [mtsem, wp_if]; rfl
end
end Mn
/-! Mini: what many laws share -/
namespace Mn
open PySem
open Classical
/-! ### what a for walks -/
section
variable {h : MH} {K : Ks} {t : Tg} {b : Env' → MH → SR} {ρ : Env'} {k : List Val × Src → Prop} {P : Pg}
theorem it_rng1 {n : Int} : itemsOf .rng [.int n] h = if n < 2 ^ 62 ∧ -(2 ^ 62) ≤ n then some (rangeL 0 n 1, []) else none := id rfl
theorem it_rng2 {a n : Int} : itemsOf .rng [.int a, .int n] h = if (n < 2 ^ 62 ∧ -(2 ^ 62) ≤ n) ∧ (a < 2 ^ 62 ∧ -(2 ^ 62) ≤ a) then some (rangeL a n 1, []) else none := id rfl
theorem it_rng3 {a n c : Int} (hc : (c = -1) = False) : itemsOf .rng [.int a, .int n, .int c] h = if (n < 2 ^ 61 ∧ -(2 ^ 61) ≤ n) ∧ (a < 2 ^ 61 ∧ -(2 ^ 61) ≤ a) ∧ (0 < c ∧ c < 2 ^ 29) then some (rangeL a n c, []) else none := by
  have e : itemsOf .rng [.int a, .int n, .int c] h = if (n < 2 ^ 61 ∧ -(2 ^ 61) ≤ n) ∧ (a < 2 ^ 61 ∧ -(2 ^ 61) ≤ a) ∧ (0 < c ∧ c < 2 ^ 29) then some (rangeL a n c, []) else if (n < 2 ^ 61 ∧ -(2 ^ 61) ≤ n) ∧ (a < 2 ^ 61 ∧ -(2 ^ 61) ≤ a) ∧ c = -1 then some (rangeD a n, []) else none := rfl
  rw [e]
  congr 1
  rw [if_neg]
  intro z
  rw [hc] at z
  exact z.2.2
theorem it_rngd {a n : Int} : itemsOf .rng [.int a, .int n, .int (-1)] h = if (n < 2 ^ 61 ∧ -(2 ^ 61) ≤ n) ∧ (a < 2 ^ 61 ∧ -(2 ^ 61) ≤ a) then some (rangeD a n, []) else none := by
  have e : itemsOf .rng [.int a, .int n, .int (-1)] h = if (n < 2 ^ 61 ∧ -(2 ^ 61) ≤ n) ∧ (a < 2 ^ 61 ∧ -(2 ^ 61) ≤ a) ∧ (0 < (-1 : Int) ∧ (-1 : Int) < 2 ^ 29) then some (rangeL a n (-1), []) else if (n < 2 ^ 61 ∧ -(2 ^ 61) ≤ n) ∧ (a < 2 ^ 61 ∧ -(2 ^ 61) ≤ a) ∧ (-1 : Int) = -1 then some (rangeD a n, []) else none := rfl
  rw [e, if_neg (fun z => absurd z.2.2.1 (by decide))]
  simp
theorem it_valt {xs : List Val} : itemsOf .val [.tup xs] h = some (xs, []) := id rfl
theorem it_vall {a : Nat} : opK (itemsOf .val [.ref a] h) k = lsK h[a]? fun w xs => k (xs, [(a, .lst w xs)]) := by
  simp only [itemsOf]
  cases h[a]? with
  | none => rfl
  | some o => cases o <;> rfl
theorem it_enmt {xs : List Val} {h : MH} {k : List Val × Src → Prop} : opK (itemsOf .enm [.tup xs] h) k = k (enumL xs, []) := id rfl
theorem it_enml {a : Nat} : opK (itemsOf .enm [.ref a] h) k = lsK h[a]? fun w xs => k (enumL xs, [(a, .lst w xs)]) := by
  simp only [itemsOf]
  cases h[a]? with
  | none => rfl
  | some o => cases o <;> rfl
theorem it_revl {a : Nat} : opK (itemsOf .rev [.ref a] h) k = lsK h[a]? fun w xs => k (xs.reverse, [(a, .lst w xs)]) := by
  simp only [itemsOf]
  cases h[a]? with
  | none => rfl
  | some o => cases o <;> rfl
theorem it_zipt {xs ys : List Val} : itemsOf .zip [.tup xs, .tup ys] h = some ((xs.zip ys).map fun p => .tup [p.1, p.2], []) := id rfl
theorem it_zipl {a b : Nat} : opK (itemsOf .zip [.ref a, .ref b] h) k = lsK h[a]? fun w xs => lsK h[b]? fun z ys => k ((xs.zip ys).map (fun p => .tup [p.1, p.2]), [(a, .lst w xs), (b, .lst z ys)]) := by
  simp only [itemsOf]
  cases e1 : h[a]? with
  | none => rfl
  | some o =>
    cases o with
    | lst w xs =>
      rw [ls_k]
      cases e2 : h[b]? with
      | none => rfl
      | some o2 => cases o2 <;> rfl
    | _ => rfl
def cnt (lo hi c : Int) : Nat := ((hi - lo + c - 1) / c).toNat
theorem rngL_len {lo hi c : Int} : (rangeL lo hi c).length = cnt lo hi c := by simp [rangeL, cnt]
theorem rngL_get {lo hi c : Int} {i : Nat} {v : Val} (e : (rangeL lo hi c)[i]? = some v) : i < cnt lo hi c ∧ v = .int (lo + (i : Int) * c) := by
  have hl := (List.getElem?_eq_some_iff.mp e).1
  rw [rngL_len] at hl
  refine ⟨hl, ?_⟩
  unfold rangeL at e
  rw [List.getElem?_map, List.getElem?_range (by unfold cnt at hl; exact hl)] at e
  exact (Option.some.inj e).symm
theorem cnt_1 {lo hi : Int} : cnt lo hi 1 = (hi - lo).toNat := by simp [cnt]
theorem wp_rng {lo hi c : Int} (I : Nat → Env' → MH → Prop) (h0 : I 0 ρ h) (step : ∀ (i : Nat) ρ h, i < cnt lo hi c → I i ρ h → opK (bindT t (.int (lo + (i : Int) * c)) ρ) fun ρ1 => (b ρ1 h).wp { K with nx := I (i + 1), ct := I (i + 1), bk := K.nx })
    (done : ∀ ρ h, I (cnt lo hi c) ρ h → K.nx ρ h) : (forL t [] b (rangeL lo hi c) ρ h).wp K := by
  refine wp_for I h0 (fun _ _ _ _ _ => by rw [stands_nil]; trivial) (fun i v ρ h hv hI => ?_) (by rw [rngL_len]; exact done)
  obtain ⟨a, rfl⟩ := rngL_get hv
  exact step i ρ h a hI
theorem wp_rngD {lo hi : Int} (I : Nat → Env' → MH → Prop) (h0 : I 0 ρ h) (step : ∀ (i : Nat) ρ h, i < (lo - hi).toNat → I i ρ h → opK (bindT t (.int (lo - (i : Int))) ρ) fun ρ1 => (b ρ1 h).wp { K with nx := I (i + 1), ct := I (i + 1), bk := K.nx })
    (done : ∀ ρ h, I (lo - hi).toNat ρ h → K.nx ρ h) : (forL t [] b (rangeD lo hi) ρ h).wp K := by
  have len : (rangeD lo hi).length = (lo - hi).toNat := by simp [rangeD]
  refine wp_for I h0 (fun _ _ _ _ _ => by rw [stands_nil]; trivial) (fun i v ρ h hv hI => ?_) (by rw [len]; exact done)
  have hl := (List.getElem?_eq_some_iff.mp hv).1
  rw [len] at hl
  unfold rangeD at hv
  rw [List.getElem?_map, List.getElem?_range hl] at hv
  cases hv
  exact step i ρ h hl hI
end
/-! ### == -/
def plainV : Nat → Val → Bool
  | 0, _ => false
  | _ + 1, .non => true
  | _ + 1, .bl _ => false
  | _ + 1, .int _ => true
  | _ + 1, .str s => (PyData.str s).canLay0
  | n + 1, .tup vs => vs.all (plainV n)
  | _ + 1, .ref _ => false
  | _ + 1, .exc _ _ => false
theorem pl_non {n : Nat} : plainV (n + 1) .non = true := id rfl
theorem pl_int {n : Nat} {i : Int} : plainV (n + 1) (.int i) = true := id rfl
theorem pl_str {n : Nat} {s : Str} : plainV (n + 1) (.str s) = (PyData.str s).canLay0 := id rfl
theorem pl_tup {n : Nat} {vs : List Val} : plainV (n + 1) (.tup vs) = vs.all (plainV n) := id rfl
theorem snapL_plain {h : MH} {n : Nat} (ih : ∀ v, plainV n v = true → ∃ d, snap h n v = some d) : ∀ vs : List Val, vs.all (plainV n) = true → ∃ ds, mapO (snap h n) vs = some ds
  | [], _ => ⟨[], rfl⟩
  | v :: vs, p => by
    simp only [List.all_cons, Bool.and_eq_true] at p
    obtain ⟨d, e⟩ := ih v p.1
    obtain ⟨ds, es⟩ := snapL_plain ih vs p.2
    exact ⟨d :: ds, by simp [mapO, e, es]⟩
theorem snap_plain {h : MH} : ∀ (n : Nat) (v : Val), plainV n v = true → ∃ d, snap h n v = some d
  | 0, _, p => by cases p
  | n + 1, v, p => by
    cases v with
    | non => exact ⟨_, rfl⟩
    | bl _ => cases p
    | int i => exact ⟨_, rfl⟩
    | str s =>
      rw [pl_str] at p
      exact ⟨.str s, by simp [snap, p]⟩
    | tup vs =>
      rw [pl_tup] at p
      obtain ⟨ds, e⟩ := snapL_plain (h := h) (snap_plain n) vs p
      exact ⟨.tuple ds, by simp [snap, e]⟩
    | ref _ => cases p
    | exc _ _ => cases p
theorem eqvL_plain {h : MH} {n : Nat} (ih : ∀ v w d e, plainV n v = true → plainV n w = true → snap h n v = some d → snap h n w = some e → PyData.eqv d e = decide (v = w)) : ∀ (vs ws : List Val) (ds es : List PyData), vs.all (plainV n) = true → ws.all (plainV n) = true → mapO (snap h n) vs = some ds → mapO (snap h n) ws = some es → PyData.eqvAll ds es = decide (vs = ws)
  | [], [], ds, es, _, _, e1, e2 => by cases e1; cases e2; simp [PyData.eqvAll]
  | [], w :: ws, ds, es, _, _, e1, e2 => by
    cases e1
    simp only [mapO] at e2
    split at e2
    · cases e2; simp [PyData.eqvAll]
    · cases e2
  | v :: vs, [], ds, es, _, _, e1, e2 => by
    cases e2
    simp only [mapO] at e1
    split at e1
    · cases e1; simp [PyData.eqvAll]
    · cases e1
  | v :: vs, w :: ws, ds, es, p1, p2, e1, e2 => by
    simp only [List.all_cons, Bool.and_eq_true] at p1 p2
    simp only [mapO] at e1 e2
    split at e1
    · rename_i d ds' a1 a2
      cases e1
      split at e2
      · rename_i e es' b1 b2
        cases e2
        have q := eqvL_plain ih vs ws ds' es' p1.2 p2.2 a2 b2
        simp only [PyData.eqvAll]
        rw [ih v w d e p1.1 p2.1 a1 b1, q]
        by_cases c : v = w <;> by_cases c2 : vs = ws <;> simp [c, c2]
      · cases e2
    · cases e1
theorem eqv_plain {h : MH} : ∀ (n : Nat) (v w : Val) (d e : PyData), plainV n v = true → plainV n w = true → snap h n v = some d → snap h n w = some e → PyData.eqv d e = decide (v = w)
  | 0, _, _, _, _, p, _, _, _ => by cases p
  | n + 1, v, w, d, e, p1, p2, e1, e2 => by
    have tupS : ∀ {vs : List Val} {d : PyData}, snap h (n + 1) (.tup vs) = some d → ∃ ds, d = .tuple ds ∧ mapO (snap h n) vs = some ds := by
      intro vs d e
      simp only [snap] at e
      obtain ⟨ds, h1, h2⟩ := Option.map_eq_some_iff.mp e
      exact ⟨ds, h2.symm, h1⟩
    have strS : ∀ {s : Str} {d : PyData}, snap h (n + 1) (.str s) = some d → d = .str s := by
      intro s d e
      simp only [snap] at e
      split at e <;> cases e
      rfl
    cases v with
    | bl _ => cases p1
    | ref _ => cases p1
    | exc _ _ => cases p1
    | non =>
      cases e1
      cases w with
      | bl _ => cases p2
      | ref _ => cases p2
      | exc _ _ => cases p2
      | non => cases e2; simp [PyData.eqv]
      | int _ => cases e2; simp [PyData.eqv]
      | str _ => cases strS e2; simp [PyData.eqv]
      | tup _ => obtain ⟨_, rfl, _⟩ := tupS e2; simp [PyData.eqv]
    | int i =>
      cases e1
      cases w with
      | bl _ => cases p2
      | ref _ => cases p2
      | exc _ _ => cases p2
      | non => cases e2; simp [PyData.eqv]
      | int j => cases e2; by_cases c : i = j <;> simp [PyData.eqv, c]
      | str _ => cases strS e2; simp [PyData.eqv]
      | tup _ => obtain ⟨_, rfl, _⟩ := tupS e2; simp [PyData.eqv]
    | str s =>
      cases strS e1
      cases w with
      | bl _ => cases p2
      | ref _ => cases p2
      | exc _ _ => cases p2
      | non => cases e2; simp [PyData.eqv]
      | int j => cases e2; simp [PyData.eqv]
      | str t => cases strS e2; by_cases c : s = t <;> simp [PyData.eqv, c]
      | tup _ => obtain ⟨_, rfl, _⟩ := tupS e2; simp [PyData.eqv]
    | tup vs =>
      obtain ⟨ds, rfl, a1⟩ := tupS e1
      cases w with
      | bl _ => cases p2
      | ref _ => cases p2
      | exc _ _ => cases p2
      | non => cases e2; simp [PyData.eqv]
      | int j => cases e2; simp [PyData.eqv]
      | str _ => cases strS e2; simp [PyData.eqv]
      | tup ws =>
        obtain ⟨es, rfl, a2⟩ := tupS e2
        rw [pl_tup] at p1 p2
        have q := eqvL_plain (eqv_plain n) vs ws ds es p1 p2 a1 a2
        simp only [PyData.eqv]
        rw [q]
        by_cases c : vs = ws <;> simp [c]
theorem v_tt {h : MH} {vs ws : List Val} (p1 : plainV 64 (.tup vs) = true) (p2 : plainV 64 (.tup ws) = true) : veq h (.tup vs) (.tup ws) = some (decide (vs = ws)) := by
  obtain ⟨d, e1⟩ := snap_plain (h := h) 64 _ p1
  obtain ⟨e, e2⟩ := snap_plain (h := h) 64 _ p2
  show (match snap h 64 (.tup vs), snap h 64 (.tup ws) with
    | some d, some e => some (PyData.eqv d e)
    | _, _ => none) = _
  rw [e1, e2]
  have q := eqv_plain 64 _ _ _ _ p1 p2 e1 e2
  simp only [q]
  congr 1
  by_cases c : vs = ws <;> simp [c]
theorem v_ll {h : MH} {a b : Nat} {w z : Bool} {vs ws : List Val} (ha : h[a]? = some (.lst w vs)) (hb : h[b]? = some (.lst z ws)) (p1 : vs.all (plainV 63) = true) (p2 : ws.all (plainV 63) = true) : veq h (.ref a) (.ref b) = some (decide (vs = ws)) := by
  obtain ⟨ds, e1⟩ := snapL_plain (h := h) (snap_plain 63) vs p1
  obtain ⟨es, e2⟩ := snapL_plain (h := h) (snap_plain 63) ws p2
  show (match snap h 64 (.ref a), snap h 64 (.ref b) with
    | some d, some e => some (PyData.eqv d e)
    | _, _ => none) = _
  have s1 : snap h 64 (.ref a) = some (.list ds) := by simp [snap, ha, e1]
  have s2 : snap h 64 (.ref b) = some (.list es) := by simp [snap, hb, e2]
  rw [s1, s2]
  simp only [PyData.eqv, eqvL_plain (eqv_plain 63) vs ws ds es p1 p2 e1 e2]
theorem pl_ints {n : Nat} (l : List Int) : (l.map Val.int).all (plainV (n + 1)) = true := by
  rw [List.all_eq_true]
  intro v hv
  obtain ⟨i, _, rfl⟩ := List.mem_map.mp hv
  rfl
/-! ### lists -/
theorem atI_nat {α : Type} {xs : List α} {k : Nat} : L2.atI xs (k : Int) = xs[k]? := by
  unfold L2.atI L2.ixN
  by_cases c : k < xs.length
  · rw [if_pos (by omega), if_pos (by omega)]
    simp
  · rw [if_pos (by omega), if_neg (by omega)]
    simp; omega
theorem at_0 {α : Type} {a : α} {xs : List α} : L2.atI (a :: xs) 0 = some a := atI_nat (k := 0)
theorem at_1 {α : Type} {a b : α} {xs : List α} : L2.atI (a :: b :: xs) 1 = some b := atI_nat (k := 1)
theorem at_2 {α : Type} {a b c : α} {xs : List α} : L2.atI (a :: b :: c :: xs) 2 = some c := atI_nat (k := 2)
theorem at_3 {α : Type} {a b c d : α} {xs : List α} : L2.atI (a :: b :: c :: d :: xs) 3 = some d := atI_nat (k := 3)
theorem at_4 {α : Type} {a b c d e : α} {xs : List α} : L2.atI (a :: b :: c :: d :: e :: xs) 4 = some e := atI_nat (k := 4)
theorem at_5 {α : Type} {a b c d e f : α} {xs : List α} : L2.atI (a :: b :: c :: d :: e :: f :: xs) 5 = some f := atI_nat (k := 5)
theorem cut_take {α : Type} {xs : List α} {k : Nat} : cutL xs none (some (k : Int)) = xs.take k := by
  unfold cutL
  rw [HT.sIx_none, HT.sIx_nat]
  simp
theorem cut_drop1 {α : Type} {xs : List α} {k : Nat} : cutL xs (some ((k : Int) + 1)) none = xs.drop (k + 1) := by
  unfold cutL
  have e : ((k : Int) + 1) = ((k + 1 : Nat) : Int) := by omega
  rw [e, HT.sIx_none, HT.sIx_nat]
  by_cases c : k + 1 ≤ xs.length
  · rw [Nat.min_eq_left c, List.take_of_length_le (by simp)]
  · rw [Nat.min_eq_right (by omega), List.drop_length, List.drop_of_length_le (by omega)]
    simp
theorem vlen_app {xs ys : List Val} : (xs ++ ys).length = xs.length + ys.length := List.length_append
/-! ### signs -/
theorem nn_add {a b : Int} (ha : 0 ≤ a) (hb : 0 ≤ b) : (0 ≤ a + b) = True := eq_true (by omega)
theorem nn_mul {a b : Int} (ha : 0 ≤ a) (hb : 0 ≤ b) : (0 ≤ a * b) = True := eq_true (Int.mul_nonneg ha hb)
theorem nn_cast {a : Nat} : (0 ≤ (a : Int)) = True := eq_true (by omega)
theorem nn_mod {a b : Int} (hb : 0 < b) : (0 ≤ a % b) = True := eq_true (Int.emod_nonneg a (by omega))
theorem at_nat {α : Type} {xs : List α} {k : Nat} : L2.atI xs (k : Int) = xs[k]? := atI_nat
/-! ### the script -/
theorem law_of {r : Res Val} (p : r.wp (fun v _ => v = .bl true) NoE) : ∃ h', r = .ok (.bl true) h' := by
  obtain ⟨v, h, e, rfl⟩ := wp_ex p
  exact ⟨h, e⟩
theorem ifO {α : Type} {o : Option α} : (∃ x, o = x) = True := eq_true ⟨_, rfl⟩
def cell (ns : List Int) (k : Nat) : Int := ns.getD k 0
def dCell : Df := { ps := [Str.ofString "_law_script", Str.ofString "_law_k"], np := 2, nn := 2, body :=
   [.ite (.cmp .Lt (.var 1) (.bi .len [.var 0]))
      [.ret (.idx (.var 0) (.var 1))]
      [],
    .ret (.con (.int 0))] }
theorem cell_run {P : Pg} {h : MH} {a : Nat} {w : Bool} {ns : List Int} (hs : h[a]? = some (.lst w (ns.map .int))) {i : Int} (k : Nat) (hi : i = k) : callB P dCell [.ref a, .int i] h = .ok (.int (cell ns k)) h := by
  subst hi
  refine wp_eq ?_
  rw [wp_call]
  refine ⟨rfl, ?_⟩
  simp only [dCell, List.map_cons, List.map_nil, List.cons_append, List.nil_append, List.replicate, wb_cons, ws_ite, we_cmp, we_var, wg_0, wg_s, we_bi, we_cons, we_nil, l_lst, ln_l, op_k, hs, ls_k, c_lt, if_dec, ws_ret, we_idx, i_lst, ix_l, wb_nil, we_con, List.length_map]
  refine ⟨fun c => ?_, fun c => ?_⟩
  · have c' : k < ns.length := by omega
    rw [atI_nat, List.getElem?_map, List.getElem?_eq_getElem c']
    simp only [Option.map_some, op_k]
    simp [cell, List.getD_eq_getElem?_getD, c']
  · have c' : ns.length ≤ k := by omega
    simp [cell, List.getD_eq_getElem?_getD, c']
/-! ### heaps that only grow -/
def Gr (h h' : MH) : Prop := ∃ g, h' = h ++ g
theorem Gr.refl {h : MH} : Gr h h := ⟨[], by simp⟩
theorem Gr.trans {h h1 h2 : MH} (a : Gr h h1) (b : Gr h1 h2) : Gr h h2 := by
  obtain ⟨g, rfl⟩ := a
  obtain ⟨g2, rfl⟩ := b
  exact ⟨g ++ g2, by simp⟩
theorem Gr.app {h g : MH} : Gr h (h ++ g) := ⟨g, rfl⟩
theorem Gr.get {h h' : MH} (a : Gr h h') {i : Nat} {o : Ob} (e : h[i]? = some o) : h'[i]? = some o := by
  obtain ⟨g, rfl⟩ := a
  rw [List.getElem?_append_left (List.getElem?_eq_some_iff.mp e).1]; exact e
theorem Gr.len {h h' : MH} (a : Gr h h') : h.length ≤ h'.length := by
  obtain ⟨g, rfl⟩ := a
  simp
theorem app_last {h : MH} {o : Ob} : (h ++ [o])[h.length]? = some o := by simp
/-! looking a place up in a heap that grew -/
theorem ap_l {g : MH} {x : Ob} {i : Nat} (hi : i < g.length) : (g ++ [x])[i]? = g[i]? := List.getElem?_append_left hi
theorem lt_last {g : MH} {x : Ob} : (g.length < (g ++ [x]).length) = True := eq_true (by simp)
theorem lt_app {g : MH} {x : Ob} {i : Nat} (hi : i < g.length) : (i < (g ++ [x]).length) = True := eq_true (by simp; omega)
theorem set_app {g : MH} {x y : Ob} {i : Nat} (hi : i < g.length) : (g ++ [x]).set i y = g.set i y ++ [x] := by
  rw [List.set_append_left _ _ hi]
theorem Gr.app1 {h g : MH} {x : Ob} (a : Gr h g) : Gr h (g ++ [x]) := a.trans Gr.app
theorem set_ne {h : MH} {i j : Nat} {o : Ob} (e : i ≠ j) : (h.set j o)[i]? = h[i]? := List.getElem?_set_ne (Ne.symm e)
theorem lt_of {h : MH} {i : Nat} {o : Ob} (e : h[i]? = some o) : i < h.length := (List.getElem?_eq_some_iff.mp e).1
theorem Gr.trans2 {h h1 h2 : MH} (a : Gr h h1) (b : Gr h1 h2) : Gr h h2 := a.trans b
/-- what stands ahead of a place stays, whatever is done to the rest -/
def Up (n : Nat) (h h' : MH) : Prop := n ≤ h'.length ∧ ∀ i, i < n → h'[i]? = h[i]?
theorem Gr.up {h h' : MH} (a : Gr h h') : Up h.length h h' := by
  refine ⟨a.len, fun i hi => ?_⟩
  obtain ⟨g, rfl⟩ := a
  rw [List.getElem?_append_left hi]
theorem Up.refl {h : MH} : Up h.length h h := ⟨Nat.le_refl _, fun _ _ => rfl⟩
theorem Up.get {n : Nat} {h h' : MH} (a : Up n h h') {i : Nat} {o : Ob} (hi : i < n) (e : h[i]? = some o) : h'[i]? = some o := by rw [a.2 i hi, e]
theorem Up.gr {n : Nat} {h h1 h2 : MH} (a : Up n h h1) (b : Gr h1 h2) : Up n h h2 := by
  refine ⟨Nat.le_trans a.1 b.len, fun i hi => ?_⟩
  obtain ⟨g, rfl⟩ := b
  rw [List.getElem?_append_left (Nat.lt_of_lt_of_le hi a.1), a.2 i hi]
theorem Up.trans {n m : Nat} {h h1 h2 : MH} (a : Up n h h1) (b : Up m h1 h2) (hm : n ≤ m) : Up n h h2 := by
  refine ⟨Nat.le_trans hm b.1, fun i hi => ?_⟩
  rw [b.2 i (by omega), a.2 i hi]
theorem Up.set {n : Nat} {h h1 : MH} (a : Up n h h1) {j : Nat} {o : Ob} (hj : n ≤ j) : Up n h (h1.set j o) := by
  refine ⟨by simpa using a.1, fun i hi => ?_⟩
  rw [List.getElem?_set_ne (by omega), a.2 i hi]
theorem Up.app {n : Nat} {h h1 g : MH} (a : Up n h h1) : Up n h (h1 ++ g) := a.gr Gr.app
theorem set_get {h : MH} {j : Nat} {o u : Ob} (e : h[j]? = some u) : (h.set j o)[j]? = some o := by
  rw [List.getElem?_set_self (List.getElem?_eq_some_iff.mp e).1]
/-! ### bits -/
theorem and_shift (x c : Int) : ∀ s : Nat, Builtin.bitAnd x (2 ^ s * c) = 2 ^ s * Builtin.bitAnd (x / 2 ^ s) c
  | 0 => by simp
  | s + 1 => by
    rw [PySem.W.kbt_halves]
    have e1 : (2 ^ (s + 1) * c : Int) / 2 = 2 ^ s * c := by
      rw [Int.pow_succ, Int.mul_comm (2 ^ s) 2, Int.mul_assoc, Int.mul_ediv_cancel_left _ (by decide)]
    have e2 : (2 ^ (s + 1) * c : Int) % 2 = 0 := by
      rw [Int.pow_succ, Int.mul_comm (2 ^ s) 2, Int.mul_assoc, Int.mul_emod_right]
    rw [e1, e2, and_shift (x / 2) c s]
    have e3 : x / 2 / 2 ^ s = x / 2 ^ (s + 1) := by
      rw [Int.pow_succ, Int.mul_comm, Int.ediv_ediv_of_nonneg (by decide)]
    rw [e3, Int.pow_succ]
    simp
    rw [Int.mul_comm (2 ^ s) 2, Int.mul_assoc]
theorem two_pow_pos (s : Nat) : (0 : Int) < 2 ^ s := Int.pow_pos (by decide)
theorem pow_split {s : Nat} (hs : s ≤ 32) : (4294967296 : Int) = 2 ^ s * 2 ^ (32 - s) := by
  rw [← Int.pow_add, Nat.add_sub_cancel' hs]; rfl
/-- the mask of the first 32 - s bits -/
theorem mask_val {s : Nat} (hs : s ≤ 32) : Builtin.bitAnd (4294967295 * 2 ^ s) 4294967295 = 4294967296 - 2 ^ s := by
  have e := PySem.W.kbt_mask (4294967295 * 2 ^ s) 32
  have e2 : ((2 : Int) ^ 32 - 1) = 4294967295 := id rfl
  rw [e2] at e
  rw [e]
  have h0 := two_pow_pos s
  have h1 : (2 : Int) ^ s ≤ 4294967296 := by
    rw [pow_split hs]
    have := two_pow_pos (32 - s)
    have z := Int.mul_le_mul_of_nonneg_left (show (1 : Int) ≤ 2 ^ (32 - s) by omega) (show (0 : Int) ≤ 2 ^ s by omega)
    rw [Int.mul_one] at z; exact z
  have e3 : (2 : Int) ^ 32 = 4294967296 := id rfl
  rw [e3]
  generalize (2 : Int) ^ s = m at *
  omega
theorem and_mask {s : Nat} (hs : s ≤ 32) {x : Int} (h0 : 0 ≤ x) (h1 : x < 4294967296) : Builtin.bitAnd x (4294967296 - 2 ^ s) = x / 2 ^ s * 2 ^ s := by
  have e : (4294967296 - 2 ^ s : Int) = 2 ^ s * (2 ^ (32 - s) - 1) := by
    rw [Int.mul_sub, ← pow_split hs, Int.mul_one]
  rw [e, and_shift, PySem.W.kbt_mask, Int.mul_comm]
  congr 1
  refine Int.emod_eq_of_lt (Int.ediv_nonneg h0 (by have := two_pow_pos s; omega)) ?_
  refine Int.ediv_lt_of_lt_mul (two_pow_pos s) ?_
  rw [Int.mul_comm, ← pow_split hs]; exact h1
theorem xor_mask {s : Nat} (hs : s ≤ 32) : Builtin.bitXor (4294967296 - 2 ^ s) 4294967295 = 2 ^ s - 1 := by
  have h0 := two_pow_pos s
  have h1 : (2 : Int) ^ s ≤ 4294967296 := by
    rw [pow_split hs]
    have := two_pow_pos (32 - s)
    have z := Int.mul_le_mul_of_nonneg_left (show (1 : Int) ≤ 2 ^ (32 - s) by omega) (show (0 : Int) ≤ 2 ^ s by omega)
    rw [Int.mul_one] at z; exact z
  have e := PySem.W.kbt_mask (4294967296 - 2 ^ s) 32
  have e2 : ((2 : Int) ^ 32 - 1) = 4294967295 := id rfl
  rw [e2] at e
  rw [PyProof.Rows.bitXor_and, e]
  have e3 : (2 : Int) ^ 32 = 4294967296 := id rfl
  rw [e3]
  generalize (2 : Int) ^ s = m at *
  omega
theorem or_lowM {s : Nat} {x : Int} : Builtin.bitOr x (2 ^ s - 1) = x / 2 ^ s * 2 ^ s + 2 ^ s - 1 := by
  rw [PyProof.Rows.bitOr_and, PySem.W.kbt_mask]
  have e := Int.emod_add_mul_ediv x (2 ^ s)
  rw [Int.mul_comm] at e
  omega
end Mn
/-! Mini: stretches and boxes -/
namespace Mn
open PySem
open Classical
local macro_rules
  | `(tactic| subst_eqs) => `(tactic| simp (maxDischargeDepth := 40) only [f_lens, f_str, f_ints, ri_str, mo_join, mo_split, mo_part, mo_find, mo_upper, so_nil, m_join, m_split, m_part, m_find, m_upper, is_k, we_fld, g_fld, ws_rai, ws_try, ws_onlyA, ws_onlyR, ws_hold, hot_n, hot_c, hot_0, hot_a, hot_r, ra_n, ra_f, n_exc, ty_exc, g_fldx, ws_fld, g_set, we_own, ow_ref, ow_i, in_n, we_new, pf_nil, pf_cons, lk_nil, lk_cons, String.reduceEq, reduceIte, b_muls, b_mull, i_str, f_sum, io_nil, io_cons, m_pop, m_index, mo_index, m_bit, mo_bit, vlen_app, ap_l, lt_last, lt_app, set_app, cut_take, cut_drop1, nn_add, nn_mul, nn_cast, nn_mod, at_nat, List.getElem?_map, Option.map_some, Int.zero_add, Int.mul_one, m_okr, mo_append, mo_extend, mo_pop, mo_popAt, mo_clear, set_last, sz_lt, mulOk_l, pow_lit, app_last, implies_true, Int.reduceToNat, stands_one, stands_two, if_t, if_f, if_dec, if_not, if_and, if_or, bl_k, in_k, op_k, op_n, op_map, op_if, ls_k, wp_ok, wp_err, wp_bad, wp_if, wp_ret, wg_0, wg_s, we_var, we_con, we_glb, we_bin, we_cmp, we_and, we_or, we_not, we_neg, we_isN, we_notN, we_isB, we_chn, we_lst, we_tup, we_idx, wo_none, wo_some, we_slc, we_call, we_bi, we_isi, we_mth, we_nil, we_cons, we_cmp1, ws_ite, ws_asg, ws_asgT, un_tup, un_ref, tu_l, bt_nm, bt_tp, bs_nil, bs_cons, ws_exp, ws_ret, ws_retN, ws_brk, ws_cnt, ws_pas, wb_nil, wb_cons, ws_for, ws_whl, ws_sub, wp_call, stands_nil, b_add, b_sub, b_mul, b_div, b_mod, b_pow, b_shl, b_shr, b_and, b_or, b_xor, b_adds, b_addt, b_addl, c_lt, c_le, c_gt, c_ge, c_eq, c_ne, c_in, c_nin, v_ii, v_ss, v_bb, i_tup, i_lst, ix_l, ix_d, l_tup, l_lst, ln_l, ln_d, lo_l, lo_d, su_l, su_d, su_t, dk_s, dk_n, k_tup, kt_tup, gt_tup, ix_t, m_get, mo_getd, mo_gett, gt_t, gt_e, k_int, k_str, gk_int, gk_str, ri_val, ri_rng, ri_enm, ri_zip, ri_rev, ri_itm, dc_k, we_dct, we_lofv, we_lofr, we_lofz, we_fst, fs_n, fs_s, fs_i, f_dict, it_zipl, List.isEmpty_cons, m_insert, mo_insert, f_max, f_min, f_int, f_intb, f_tupt, f_tupl, f_lstt, f_lstl, s_tup, s_lst, m_append, m_extend, u_sub, ib_t, ib_f, ib_non, ib_int, ib_str, ib_tup, ib_ref, n_non, n_bl, n_int, n_str, n_tup, n_ref, ty_non, ty_bl, ty_int, ty_str, ty_tup, ty_ref, tyO_l, tyO_i, List.set_cons_zero, List.set_cons_succ, List.map_cons, List.map_nil, List.length_cons, List.length_nil, List.length_map, List.replicate_zero, List.replicate_succ, List.nil_append, List.cons_append, Bool.not_true, Bool.not_false, and_true, true_and, true_implies, false_implies, and_false, false_and, not_false_eq_true, not_true_eq_false, Nat.reduceAdd, Nat.reduceSub, Nat.reduceLeDiff, Nat.reduceMul, Int.reduceMul, Int.reduceAdd, Int.reduceSub, Int.reduceLT, Int.reduceLE, Int.reduceNeg, Int.reduceEq, Int.cast_ofNat_Int, Int.reducePow, Nat.reducePow, divOk_lit, mulOk_r, eq_self, and_self, decide_true, decide_false, it_rng1, it_rng2, it_rng3, it_rngd, it_valt, it_vall, it_enml, it_enmt, it_revl, it_zipt, v_tt, pl_non, pl_int, pl_str, pl_tup, List.all_cons, List.all_nil, Bool.and_self, at_0, at_1, at_2, at_3, at_4, at_5, sz_ok, Val.ref.injEq, Val.int.injEq, Val.bl.injEq, Val.str.injEq, Val.tup.injEq, List.cons.injEq, Option.some.injEq, exists_eq, exists_eq', exists_eq_left, exists_eq_left', exists_eq_right, exists_eq_right', exists_and_left, exists_and_right])
local macro_rules
  | `(tactic| exists $ts,*) => `(tactic| simp (maxDischargeDepth := 40) only [f_lens, f_str, f_ints, ri_str, mo_join, mo_split, mo_part, mo_find, mo_upper, so_nil, m_join, m_split, m_part, m_find, m_upper, is_k, we_fld, g_fld, ws_rai, ws_try, ws_onlyA, ws_onlyR, ws_hold, hot_n, hot_c, hot_0, hot_a, hot_r, ra_n, ra_f, n_exc, ty_exc, g_fldx, ws_fld, g_set, we_own, ow_ref, ow_i, in_n, we_new, pf_nil, pf_cons, lk_nil, lk_cons, String.reduceEq, reduceIte, b_muls, b_mull, i_str, f_sum, io_nil, io_cons, m_pop, m_index, mo_index, m_bit, mo_bit, vlen_app, ap_l, lt_last, lt_app, set_app, cut_take, cut_drop1, nn_add, nn_mul, nn_cast, nn_mod, at_nat, List.getElem?_map, Option.map_some, Int.zero_add, Int.mul_one, m_okr, mo_append, mo_extend, mo_pop, mo_popAt, mo_clear, set_last, sz_lt, mulOk_l, pow_lit, app_last, implies_true, Int.reduceToNat, stands_one, stands_two, if_t, if_f, if_dec, if_not, if_and, if_or, bl_k, in_k, op_k, op_n, op_map, op_if, ls_k, wp_ok, wp_err, wp_bad, wp_if, wp_ret, wg_0, wg_s, we_var, we_con, we_glb, we_bin, we_cmp, we_and, we_or, we_not, we_neg, we_isN, we_notN, we_isB, we_chn, we_lst, we_tup, we_idx, wo_none, wo_some, we_slc, we_call, we_bi, we_isi, we_mth, we_nil, we_cons, we_cmp1, ws_ite, ws_asg, ws_asgT, un_tup, un_ref, tu_l, bt_nm, bt_tp, bs_nil, bs_cons, ws_exp, ws_ret, ws_retN, ws_brk, ws_cnt, ws_pas, wb_nil, wb_cons, ws_for, ws_whl, ws_sub, wp_call, stands_nil, b_add, b_sub, b_mul, b_div, b_mod, b_pow, b_shl, b_shr, b_and, b_or, b_xor, b_adds, b_addt, b_addl, c_lt, c_le, c_gt, c_ge, c_eq, c_ne, c_in, c_nin, v_ii, v_ss, v_bb, i_tup, i_lst, ix_l, ix_d, l_tup, l_lst, ln_l, ln_d, lo_l, lo_d, su_l, su_d, su_t, dk_s, dk_n, k_tup, kt_tup, gt_tup, ix_t, m_get, mo_getd, mo_gett, gt_t, gt_e, k_int, k_str, gk_int, gk_str, ri_val, ri_rng, ri_enm, ri_zip, ri_rev, ri_itm, dc_k, we_dct, we_lofv, we_lofr, we_lofz, we_fst, fs_n, fs_s, fs_i, f_dict, it_zipl, List.isEmpty_cons, m_insert, mo_insert, f_max, f_min, f_int, f_intb, f_tupt, f_tupl, f_lstt, f_lstl, s_tup, s_lst, m_append, m_extend, u_sub, ib_t, ib_f, ib_non, ib_int, ib_str, ib_tup, ib_ref, n_non, n_bl, n_int, n_str, n_tup, n_ref, ty_non, ty_bl, ty_int, ty_str, ty_tup, ty_ref, tyO_l, tyO_i, List.set_cons_zero, List.set_cons_succ, List.map_cons, List.map_nil, List.length_cons, List.length_nil, List.length_map, List.replicate_zero, List.replicate_succ, List.nil_append, List.cons_append, Bool.not_true, Bool.not_false, and_true, true_and, true_implies, false_implies, and_false, false_and, not_false_eq_true, not_true_eq_false, Nat.reduceAdd, Nat.reduceSub, Nat.reduceLeDiff, Nat.reduceMul, Int.reduceMul, Int.reduceAdd, Int.reduceSub, Int.reduceLT, Int.reduceLE, Int.reduceNeg, Int.reduceEq, Int.cast_ofNat_Int, Int.reducePow, Nat.reducePow, divOk_lit, mulOk_r, eq_self, and_self, decide_true, decide_false, it_rng1, it_rng2, it_rng3, it_rngd, it_valt, it_vall, it_enml, it_enmt, it_revl, it_zipt, v_tt, pl_non, pl_int, pl_str, pl_tup, List.all_cons, List.all_nil, Bool.and_self, at_0, at_1, at_2, at_3, at_4, at_5, sz_ok, Val.ref.injEq, Val.int.injEq, Val.bl.injEq, Val.str.injEq, Val.tup.injEq, List.cons.injEq, Option.some.injEq, exists_eq, exists_eq', exists_eq_left, exists_eq_left', exists_eq_right, exists_eq_right', exists_and_left, exists_and_right, $[$ts:term],*])
/-- holds(stretch, number); names 0 stretch, 1 number -/
def dS_holds : Df := { ps := [Str.ofString "stretch", Str.ofString "number"], np := 2, nn := 2, body :=
   [.ret (.chn .LtE .LtE (.idx (.var 0) (.con (.int 0))) (.var 1) (.idx (.var 0) (.con (.int 1))))] }
/-- meet(one, other); names 0 one, 1 other, 2 low, 3 high -/
def dS_meet : Df := { ps := [Str.ofString "one", Str.ofString "other"], np := 2, nn := 4, body :=
   [.asg (.nm 2) (.bi .max [.idx (.var 0) (.con (.int 0)), .idx (.var 1) (.con (.int 0))]),
    .asg (.nm 3) (.bi .min [.idx (.var 0) (.con (.int 1)), .idx (.var 1) (.con (.int 1))]),
    .ite (.cmp .Gt (.var 2) (.var 3))
      [.ret (.con (.non))]
      [],
    .ret (.tup [.var 2, .var 3])] }
/-- width(stretch); names 0 stretch -/
def dS_width : Df := { ps := [Str.ofString "stretch"], np := 1, nn := 1, body :=
   [.ret (.bin .Add (.bin .Sub (.idx (.var 0) (.con (.int 1))) (.idx (.var 0) (.con (.int 0)))) (.con (.int 1)))] }
/-- has(box, point); names 0 box, 1 point, 2 stretch, 3 number -/
def dS_has : Df := { ps := [Str.ofString "box", Str.ofString "point"], np := 2, nn := 4, body :=
   [.forS (.tp [2, 3]) .zip [.var 0, .var 1]
      [.ite (.not (.call "holds" [.var 2, .var 3]))
         [.ret (.con (.bl false))]
         []],
    .ret (.con (.bl true))] }
/-- common(box, other); names 0 box, 1 other, 2 both, 3 mine, 4 its, 5 stretch -/
def dS_common : Df := { ps := [Str.ofString "box", Str.ofString "other"], np := 2, nn := 6, body :=
   [.asg (.nm 2) (.lst []),
    .forS (.tp [3, 4]) .zip [.var 0, .var 1]
      [.asg (.nm 5) (.call "meet" [.var 3, .var 4]),
       .ite (.isN (.var 5))
         [.ret (.con (.non))]
         [],
       .exp (.mth .append (.var 2) [.var 5])],
    .ret (.bi .tuple [.var 2])] }
/-- within(box, other); names 0 box, 1 other -/
def dS_within : Df := { ps := [Str.ofString "box", Str.ofString "other"], np := 2, nn := 2, body :=
   [.ret (.cmp .Eq (.call "common" [.var 0, .var 1]) (.var 0))] }
/-- count_of(box); names 0 box, 1 count, 2 stretch -/
def dS_count_of : Df := { ps := [Str.ofString "box"], np := 1, nn := 3, body :=
   [.asg (.nm 1) (.con (.int 1)),
    .forS (.nm 2) .val [.var 0]
      [.asg (.nm 1) (.bin .Mult (.var 1) (.call "width" [.var 2]))],
    .ret (.var 1)] }
/-- corner(box); names 0 box, 1 stretch -/
def dS_corner : Df := { ps := [Str.ofString "box"], np := 1, nn := 2, body :=
   [.ret (.bi .tuple [.cmp1 [1] (.idx (.var 1) (.con (.int 0))) (.nm 1) .val [.var 0] none])] }
/-- rests(box, other); names 0 box, 1 other, 2 both, 3 told, 4 k, 5 ahead, 6 behind -/
def dS_rests : Df := { ps := [Str.ofString "box", Str.ofString "other"], np := 2, nn := 7, body :=
   [.asg (.nm 2) (.call "common" [.var 0, .var 1]),
    .ite (.isN (.var 2))
      [.ret (.lst [.var 0])]
      [],
    .asg (.nm 3) (.lst []),
    .forS (.nm 4) .rng [.bi .len [.var 0]]
      [.asg (.nm 5) (.slc (.var 2) none (some (.var 4))),
       .asg (.nm 6) (.slc (.var 0) (some (.bin .Add (.var 4) (.con (.int 1)))) none),
       .ite (.cmp .Lt (.idx (.idx (.var 0) (.var 4)) (.con (.int 0))) (.idx (.idx (.var 2) (.var 4)) (.con (.int 0))))
         [.exp (.mth .append (.var 3) [.bin .Add (.bin .Add (.var 5) (.tup [.tup [.idx (.idx (.var 0) (.var 4)) (.con (.int 0)), .bin .Sub (.idx (.idx (.var 2) (.var 4)) (.con (.int 0))) (.con (.int 1))]])) (.var 6)])]
         [],
       .ite (.cmp .Lt (.idx (.idx (.var 2) (.var 4)) (.con (.int 1))) (.idx (.idx (.var 0) (.var 4)) (.con (.int 1))))
         [.exp (.mth .append (.var 3) [.bin .Add (.bin .Add (.var 5) (.tup [.tup [.bin .Add (.idx (.idx (.var 2) (.var 4)) (.con (.int 1))) (.con (.int 1)), .idx (.idx (.var 0) (.var 4)) (.con (.int 1))]])) (.var 6)])]
         []],
    .ret (.var 3)] }
/-- left(box, others); names 0 box, 1 others, 2 told, 3 other, 4 kept, 5 one -/
def dS_left : Df := { ps := [Str.ofString "box", Str.ofString "others"], np := 2, nn := 6, body :=
   [.asg (.nm 2) (.lst [.var 0]),
    .forS (.nm 3) .val [.var 1]
      [.asg (.nm 4) (.lst []),
       .forS (.nm 5) .val [.var 2]
         [.exp (.mth .extend (.var 4) [.call "rests" [.var 5, .var 3]])],
       .asg (.nm 2) (.var 4)],
    .ret (.var 2)] }
/-- fills(others, box); names 0 others, 1 box -/
def dS_fills : Df := { ps := [Str.ofString "others", Str.ofString "box"], np := 2, nn := 2, body :=
   [.ret (.cmp .Eq (.call "left" [.var 1, .var 0]) (.lst []))] }

abbrev Sg := Int × Int
def stV (p : Sg) : Val := .tup [.int p.1, .int p.2]
def bxV (b : List Sg) : Val := .tup (b.map stV)
def pnV (b : List Int) : Val := .tup (b.map .int)
def Sz (b : List Sg) : Prop := ∀ p ∈ b, -(2 ^ 1000) < p.2 - p.1 + 1 ∧ p.2 - p.1 + 1 < 2 ^ 1000
theorem stV_def {p : Sg} : stV p = .tup [.int p.1, .int p.2] := id rfl
section
variable {P : Pg} {h : MH} {Q : Val → MH → Prop} {Z : XP}
theorem holds_run {p : Sg} {x : Int} : (callB P dS_holds [stV p, .int x] h).wp Q Z = Q (.bl (decide (p.1 ≤ x ∧ x ≤ p.2))) h := by
  refine wp_is (wp_eq ?_)
  rw [wp_call]
  unfold dS_holds
  exists stV_def
  refine ⟨fun c => ?_, fun c => ?_⟩ <;> simp [c]
def meetS (p q : Sg) : Option Sg := if min p.2 q.2 < max p.1 q.1 then none else some (max p.1 q.1, min p.2 q.2)
def opV : Option Sg → Val
  | none => .non
  | some p => stV p
theorem meet_run {p q : Sg} : (callB P dS_meet [stV p, stV q] h).wp Q Z = Q (opV (meetS p q)) h := by
  refine wp_is (wp_eq ?_)
  rw [wp_call]
  unfold dS_meet
  exists stV_def
  refine ⟨fun c => ?_, fun c => ?_⟩ <;> simp [c, meetS, opV, stV]
theorem width_run {p : Sg} : (callB P dS_width [stV p] h).wp Q Z = Q (.int (p.2 - p.1 + 1)) h := by
  refine wp_is (wp_eq ?_)
  rw [wp_call]
  unfold dS_width
  exists stV_def
def hasB (b : List Sg) (pt : List Int) : Bool := (b.zip pt).all fun x => decide (x.1.1 ≤ x.2 ∧ x.2 ≤ x.1.2)
theorem zip_mapV {α β : Type} (f : α → Val) (g : β → Val) : ∀ (xs : List α) (ys : List β), ((xs.map f).zip (ys.map g)).map (fun p => Val.tup [p.1, p.2]) = (xs.zip ys).map fun p => Val.tup [f p.1, g p.2] := by
  intro xs ys
  rw [List.zip_map, List.map_map]; rfl
abbrev HoldsOk (P : Pg) : Prop := ∀ (p : Sg) (x : Int) (h : MH) (Q : Val → MH → Prop) (Z : XP), (P.cf "holds" [stV p, .int x] h).wp Q Z = Q (.bl (decide (p.1 ≤ x ∧ x ≤ p.2))) h
theorem has_run (hh : HoldsOk P) {b : List Sg} {pt : List Int} : (callB P dS_has [bxV b, pnV pt] h).wp Q Z = Q (.bl (hasB b pt)) h := by
  refine wp_is (wp_eq ?_)
  rw [wp_call]
  unfold dS_has bxV pnV
  subst_eqs
  rw [zip_mapV]
  unfold hasB
  have key : ∀ (l : List (Sg × Int)) (u v : Val) (x y : Option Val) (K : Ks), (∀ x y, l.all (fun x => decide (x.1.1 ≤ x.2 ∧ x.2 ≤ x.1.2)) = true → K.nx [some u, some v, x, y] h) → (l.all (fun x => decide (x.1.1 ≤ x.2 ∧ x.2 ≤ x.1.2)) = false → K.rt (.bl false) h) →
      (forL (.tp [2, 3]) [] (evB P [.ite (.not (.call "holds" [.var 2, .var 3])) [.ret (.con (.bl false))] []]) (l.map fun p => Val.tup [stV p.1, .int p.2]) [some u, some v, x, y] h).wp K := by
    intro l
    induction l with
    | nil => intro u v x y K h1 h2; simp only [List.map_nil, wf_nil, stands_nil, true_and]; exact h1 _ _ rfl
    | cons p l ih =>
      intro u v x y K h1 h2
      exists wf_cons, hh
      refine ⟨fun c => ?_, fun c => ?_⟩
      · refine ih _ _ _ _ _ (fun x y c2 => ?_) fun c2 => ?_
        · exact h1 _ _ (by simp [c]; simpa using c2)
        · exact h2 (by simp [c]; simpa using c2)
      · exact h2 (by simp [c])
  refine key _ _ _ _ _ _ (fun x y c => ?_) fun c => ?_
  · subst_eqs; exact c.symm
  · exact ⟨by rw [c], rfl⟩
/-! what two boxes have in common -/
def commonL : List (Sg × Sg) → Option (List Sg)
  | [] => some []
  | (p, q) :: r => match meetS p q, commonL r with
    | some m, some t => some (m :: t)
    | _, _ => none
def commonB (b c : List Sg) : Option (List Sg) := commonL (b.zip c)
def opB : Option (List Sg) → Val
  | none => .non
  | some b => bxV b
theorem op_some {p : Sg} : opV (some p) = stV p := id rfl
theorem op_none : opV none = .non := id rfl
theorem isN_st {p : Sg} : isNon (stV p) = false := id rfl
theorem app_set {h : MH} {o u : Ob} : (h ++ [o]).set h.length u = h ++ [u] := by simp
abbrev MeetOk (P : Pg) : Prop := ∀ (p q : Sg) (h : MH) (Q : Val → MH → Prop) (Z : XP), (P.cf "meet" [stV p, stV q] h).wp Q Z = Q (opV (meetS p q)) h
theorem commonL_len : ∀ {l : List (Sg × Sg)} {t : List Sg}, commonL l = some t → t.length = l.length
  | [], _, e => by cases e; rfl
  | (p, q) :: r, t, e => by
    simp only [commonL] at e
    split at e
    · rename_i m t' _ e2
      cases e
      simp [commonL_len e2]
    · cases e
theorem common_run (hm : MeetOk P) {b c : List Sg} (hb : b.length ≤ 4000) : (callB P dS_common [bxV b, bxV c] h).wp (fun v h' => v = opB (commonB b c) ∧ Gr h h') NoE := by
  rw [wp_call]
  unfold dS_common bxV
  subst_eqs
  rw [zip_mapV]
  unfold commonB
  have key : ∀ (l : List (Sg × Sg)) (acc : List Sg) (u v : Val) (x y z : Option Val) (K : Ks), acc.length + l.length ≤ 4000 → (∀ t x y z, commonL l = some t → K.nx [some u, some v, some (.ref h.length), x, y, z] (h ++ [.lst true ((acc ++ t).map stV)])) → (commonL l = none → ∀ o, K.rt .non (h ++ [o])) →
      (forL (.tp [3, 4]) [] (evB P [.asg (.nm 5) (.call "meet" [.var 3, .var 4]), .ite (.isN (.var 5)) [.ret (.con (.non))] [], .exp (.mth .append (.var 2) [.var 5])]) (l.map fun p => Val.tup [stV p.1, stV p.2]) [some u, some v, some (.ref h.length), x, y, z] (h ++ [.lst true (acc.map stV)])).wp K := by
    intro l
    induction l with
    | nil =>
      intro acc u v x y z K _ h1 h2
      simp only [List.map_nil, wf_nil, stands_nil, true_and]
      simpa using h1 [] x y z rfl
    | cons p l ih =>
      intro acc u v x y z K hl h1 h2
      simp only [List.length_cons] at hl
      exists wf_cons, hm
      cases e : meetS p.1 p.2 with
      | none =>
        exists op_none
        exact h2 (by simp only [commonL, e]) _
      | some m =>
        have hl' : (acc ++ [m]).length + l.length ≤ 4000 := by simp; omega
        have hl2 : acc.length ≤ 4096 := by omega
        exists op_some, isN_st, hl2
        have q := ih (acc ++ [m]) u v (some (stV p.1)) (some (stV p.2)) (some (stV m)) K hl' (fun t x y z et => by
          have := h1 (m :: t) x y z (by simp only [commonL, e, et])
          simpa using this) (fun et o => h2 (by simp only [commonL, e, et]) o)
        simp only [List.map_append, List.map_cons, List.map_nil] at q
        exact q
  have hz : ([] : List Sg).length + (b.zip c).length ≤ 4000 := by simp; omega
  have q := key (b.zip c) [] (.tup (b.map stV)) (.tup (c.map stV)) none none none
  simp only [List.map_nil] at q
  refine q _ hz (fun t x y z et => ?_) fun et o => ?_
  · subst_eqs
    refine ⟨?_, Gr.app⟩
    rw [et]; rfl
  · exact ⟨by rw [et]; rfl, Gr.app⟩
/-! how many points -/
def countB (b : List Sg) : Int := b.foldl (fun n p => n * (p.2 - p.1 + 1)) 1
abbrev WidthOk (P : Pg) : Prop := ∀ (p : Sg) (h : MH) (Q : Val → MH → Prop) (Z : XP), (P.cf "width" [stV p] h).wp Q Z = Q (.int (p.2 - p.1 + 1)) h
theorem mul_lt_pow {x y : Int} {n m : Nat} (h0 : -(2 ^ n) < x) (h1 : x < 2 ^ n) (h2 : -(2 ^ m) < y) (h3 : y < 2 ^ m) : -(2 ^ (n + m)) < x * y ∧ x * y < 2 ^ (n + m) := by
  have e : ((2 ^ n : Nat) : Int) = 2 ^ n := by simp
  have e2 : ((2 ^ m : Nat) : Int) = 2 ^ m := by simp
  have e3 : ((2 ^ (n + m) : Nat) : Int) = 2 ^ (n + m) := by simp
  have a : x.natAbs < 2 ^ n := by omega
  have b : y.natAbs < 2 ^ m := by omega
  have c : (x * y).natAbs < 2 ^ (n + m) := by
    rw [Int.natAbs_mul, Nat.pow_add]
    exact Nat.mul_lt_mul'' a b
  omega
theorem count_run (hw : WidthOk P) {b : List Sg} (hb : b.length ≤ 500) (hs : Sz b) : (callB P dS_count_of [bxV b] h).wp Q Z = Q (.int (countB b)) h := by
  refine wp_is (wp_eq ?_)
  rw [wp_call]
  unfold dS_count_of bxV
  subst_eqs
  have key : ∀ (l : List Sg) (k : Nat) (n : Int) (u : Val) (x : Option Val) (K : Ks), (∀ p ∈ l, -(2 ^ 1000) < p.2 - p.1 + 1 ∧ p.2 - p.1 + 1 < 2 ^ 1000) → k + l.length ≤ 500 → -(2 ^ (1000 * k + 1)) < n → n < 2 ^ (1000 * k + 1) → (∀ x, K.nx [some u, some (.int (l.foldl (fun n p => n * (p.2 - p.1 + 1)) n)), x] h) →
      (forL (.nm 2) [] (evB P [.asg (.nm 1) (.bin .Mult (.var 1) (.call "width" [.var 2]))]) (l.map stV) [some u, some (.int n), x] h).wp K := by
    intro l
    induction l with
    | nil => intro k n u x K _ _ _ _ hk; simp only [List.map_nil, wf_nil, stands_nil, true_and]; exact hk _
    | cons p l ih =>
      intro k n u x K hp hl h0 h1 hk
      simp only [List.length_cons] at hl
      obtain ⟨p0, p1⟩ := hp p (List.mem_cons_self ..)
      exists wf_cons, hw
      have z := mul_lt_pow h0 h1 p0 p1
      have e : 1000 * k + 1 + 1000 = 1000 * (k + 1) + 1 := by omega
      rw [e] at z
      exact ⟨mulOk_of (1000 * k + 1) 1000 h0 h1 p0 p1 (by omega) (by omega) (by omega), ih (k + 1) _ _ _ _ (fun q hq => hp q (List.mem_cons_of_mem _ hq)) (by omega) z.1 z.2 (fun x => hk x)⟩
  refine key b 0 1 _ _ _ hs (by omega) (by decide) (by decide) fun x => ?_
  subst_eqs
  rfl
/-- products of sizes, one on -/
theorem count_step {k : Nat} {n : Int} {p : Sg} (h0 : -(2 ^ (1000 * k + 1)) < n) (h1 : n < 2 ^ (1000 * k + 1)) (hp : -(2 ^ 1000) < p.2 - p.1 + 1 ∧ p.2 - p.1 + 1 < 2 ^ 1000) (hk : k < 500) :
    mulOk n (p.2 - p.1 + 1) ∧ -(2 ^ (1000 * (k + 1) + 1)) < n * (p.2 - p.1 + 1) ∧ n * (p.2 - p.1 + 1) < 2 ^ (1000 * (k + 1) + 1) := by
  have z := mul_lt_pow h0 h1 hp.1 hp.2
  have e : 1000 * k + 1 + 1000 = 1000 * (k + 1) + 1 := by omega
  rw [e] at z
  exact ⟨mulOk_of (1000 * k + 1) 1000 h0 h1 hp.1 hp.2 (by omega) (by omega) (by omega), z⟩
/-! a comprehension of pure parts -/
theorem compL_map {t : Tg} {c : Src} {ρ : Env'} {elt : E} (f : Val → Val) : ∀ (items acc : List Val), c.stands h → acc.length + items.length ≤ sizeLine → (∀ v ∈ items, ∃ ρ1, bindT t v ρ = some ρ1 ∧ evE P elt ρ1 h = .ok (f v) h) → compL t c ρ (evC P none) (evE P elt) items acc h = .ok (acc ++ items.map f) h
  | [], acc, hc, _, _ => by simp only [compL]; rw [if_pos hc]; simp
  | v :: r, acc, hc, hl, hv => by
    obtain ⟨ρ1, e1, e2⟩ := hv v (List.mem_cons_self ..)
    simp only [List.length_cons] at hl
    simp only [compL]
    rw [if_pos hc]
    simp only [e1, evC, e2]
    rw [if_pos (by omega)]
    have q := compL_map f r (acc ++ [f v]) hc (by simp; omega) (fun w hw => hv w (List.mem_cons_of_mem _ hw))
    refine Eq.trans ?_ (q.trans (by simp))
    rfl
theorem corner_run {b : List Sg} (hb : b.length ≤ 4000) : (callB P dS_corner [bxV b] h).wp (fun v h' => v = pnV (b.map (·.1)) ∧ Gr h h') NoE := by
  rw [wp_call]
  unfold dS_corner bxV
  subst_eqs
  have e : compL (.nm 1) [] (wipe' [some (.tup (b.map stV)), none] [1]) (evC P none) (evE P (.idx (.var 1) (.con (.int 0)))) (b.map stV) [] h = .ok ([] ++ (b.map stV).map fun v => match v with
      | .tup (w :: _) => w
      | _ => .non) h := by
    refine compL_map _ _ _ (by rw [stands_nil]; trivial) (by simp; have : 4000 ≤ sizeLine := (by decide); omega) fun v hv => ?_
    obtain ⟨p, _, rfl⟩ := List.mem_map.mp hv
    refine ⟨_, rfl, wp_eq ?_⟩
    simp only [wipe']
    exists stV_def
  rw [e]
  subst_eqs
  refine ⟨?_, Gr.app⟩
  unfold pnV
  rw [List.map_map, List.map_map]
  rfl
theorem pn_def {b : List Int} : pnV b = .tup (b.map .int) := id rfl
theorem bx_def {b : List Sg} : bxV b = .tup (b.map stV) := id rfl
abbrev WholeOk (P : Pg) : Prop := ∀ (i : Int) (h : MH) (Q : Val → MH → Prop) (Z : XP), (P.cf "_law_whole" [.int i] h).wp Q Z = Q (.bl true) h
/-- for x in numbers: if not whole(x): return False -/
theorem whole_loop (hw : WholeOk P) {j : Nat} {ρ : Env'} (hj : j < ρ.length) {K : Ks} (l : List Int) (h0 : K.nx ρ h) (h1 : ∀ x, K.nx (ρ.set j (some x)) h) :
    (forL (.nm j) [] (evB P [.ite (.not (.call "_law_whole" [.var j])) [.ret (.con (.bl false))] []]) (l.map .int) ρ h).wp K := by
  refine wp_for (fun i ρ' h' => h' = h ∧ (ρ' = ρ ∨ ∃ x, ρ' = ρ.set j (some x))) ⟨rfl, .inl rfl⟩ (fun _ _ _ _ _ => by rw [stands_nil]; trivial) (fun i v ρ' h' hv hI => ?_) ?_
  · obtain ⟨rfl, hr⟩ := hI
    obtain ⟨z, _, rfl⟩ := List.mem_map.mp (List.mem_of_getElem? hv)
    have e : ρ'.set j (some (.int z)) = ρ.set j (some (.int z)) := by
      rcases hr with rfl | ⟨x, rfl⟩
      · rfl
      · rw [List.set_set]
    rw [bt_nm, op_k, e]
    have g : (ρ.set j (some (.int z)))[j]? = some (some (.int z)) := List.getElem?_set_self hj
    have gv : ∀ (Q : Val → MH → Prop) (Z : XP), (getV (ρ.set j (some (.int z))) j h').wp Q Z = Q (.int z) h' := fun Q Z => by unfold getV; rw [g]; rfl
    exists gv, hw
    exact .inr ⟨_, rfl⟩
  · rintro ρ' h' ⟨rfl, rfl | ⟨x, rfl⟩⟩
    · exact h0
    · exact h1 x
theorem hasB_true : ∀ {b : List Sg} {pt : List Int}, (∀ (j : Nat) p x, b[j]? = some p → pt[j]? = some x → p.1 ≤ x ∧ x ≤ p.2) → hasB b pt = true
  | [], _, _ => rfl
  | _ :: _, [], _ => rfl
  | p :: b, x :: pt, h => by
    have h0 := h 0 p x rfl rfl
    have ih := hasB_true (b := b) (pt := pt) fun j q y hq hy => h (j + 1) q y (by simpa using hq) (by simpa using hy)
    unfold hasB at ih ⊢
    simp [h0, ih]
    simpa using ih
theorem hasB_false : ∀ {b : List Sg} {pt : List Int} {j : Nat} {p : Sg} {x : Int}, b[j]? = some p → pt[j]? = some x → ¬ (p.1 ≤ x ∧ x ≤ p.2) → hasB b pt = false
  | [], _, _, _, _, h, _, _ => by simp at h
  | _ :: _, [], _, _, _, _, h, _ => by simp at h
  | q :: b, y :: pt, 0, p, x, h1, h2, h3 => by
    simp at h1 h2
    subst h1; subst h2
    unfold hasB
    simp [h3]
  | q :: b, y :: pt, j + 1, p, x, h1, h2, h3 => by
    have ih := hasB_false (b := b) (pt := pt) (j := j) (by simpa using h1) (by simpa using h2) h3
    unfold hasB at ih ⊢
    simp only [List.zip_cons_cons, List.all_cons, ih, Bool.and_false]
theorem commonB_of : ∀ {b c t : List Sg}, b.length = c.length → t.length = b.length → (∀ (j : Nat) p q m, b[j]? = some p → c[j]? = some q → t[j]? = some m → meetS p q = some m) → commonB b c = some t
  | [], [], [], _, _, _ => rfl
  | [], [], _ :: _, _, h, _ => by simp at h
  | [], _ :: _, _, h, _, _ => by simp at h
  | _ :: _, [], _, h, _, _ => by simp at h
  | _ :: _, _ :: _, [], _, h, _ => by simp at h
  | p :: b, q :: c, m :: t, h1, h2, h => by
    have h0 := h 0 p q m rfl rfl rfl
    have ih := commonB_of (b := b) (c := c) (t := t) (by simpa using h1) (by simpa using h2) fun j p q m a b c => h (j + 1) p q m (by simpa using a) (by simpa using b) (by simpa using c)
    unfold commonB at ih ⊢
    simp only [List.zip_cons_cons, commonL, h0, ih]
theorem commonB_none : ∀ {b c : List Sg} {j : Nat} {p q : Sg}, b[j]? = some p → c[j]? = some q → meetS p q = none → commonB b c = none
  | [], _, _, _, _, h, _, _ => by simp at h
  | _ :: _, [], _, _, _, _, h, _ => by simp at h
  | x :: b, y :: c, 0, p, q, h1, h2, h3 => by
    simp at h1 h2
    subst h1; subst h2
    unfold commonB
    simp only [List.zip_cons_cons, commonL, h3]
  | x :: b, y :: c, j + 1, p, q, h1, h2, h3 => by
    have ih := commonB_none (b := b) (c := c) (j := j) (by simpa using h1) (by simpa using h2) h3
    unfold commonB at ih ⊢
    simp only [List.zip_cons_cons, commonL, ih]
    split
    · rename_i e; cases e
    · rfl
theorem commonB_len {b c t : List Sg} (hl : b.length = c.length) (e : commonB b c = some t) : t.length = b.length := by
  rw [commonL_len e, List.length_zip, ← hl, Nat.min_self]
theorem meetS_comm (p q : Sg) : meetS p q = meetS q p := by
  unfold meetS
  rw [Int.min_comm, Int.max_comm]
theorem commonB_comm : ∀ b c : List Sg, commonB b c = commonB c b
  | [], [] => rfl
  | [], _ :: _ => rfl
  | _ :: _, [] => rfl
  | p :: b, q :: c => by
    have ih := commonB_comm b c
    unfold commonB at ih ⊢
    simp only [List.zip_cons_cons, commonL, ih, meetS_comm p q]
theorem meetS_self {p : Sg} (h : p.1 ≤ p.2) : meetS p p = some p := by
  unfold meetS
  rw [Int.min_self, Int.max_self, if_neg (by omega)]
theorem commonB_self : ∀ {b : List Sg}, (∀ p ∈ b, p.1 ≤ p.2) → commonB b b = some b
  | [], _ => rfl
  | p :: b, h => by
    have ih := commonB_self (b := b) fun q hq => h q (List.mem_cons_of_mem _ hq)
    unfold commonB at ih ⊢
    simp only [List.zip_cons_cons, commonL, ih, meetS_self (h p (List.mem_cons_self ..))]
theorem pl_bx {n : Nat} (b : List Sg) : plainV (n + 3) (bxV b) = true := by
  show (b.map stV).all (plainV (n + 2)) = true
  rw [List.all_eq_true]
  intro v hv
  obtain ⟨p, _, rfl⟩ := List.mem_map.mp hv
  rfl
theorem stV_inj {p q : Sg} (h : stV p = stV q) : p = q := by
  unfold stV at h
  simp only [Val.tup.injEq, List.cons.injEq, Val.int.injEq, and_true] at h
  exact Prod.ext h.1 h.2
theorem map_stV_inj {b c : List Sg} : (b.map stV = c.map stV) = (b = c) := by
  refine propext ⟨fun h => ?_, fun h => by rw [h]⟩
  exact (List.map_inj_right fun _ _ => stV_inj).mp h
theorem bx_inj {b c : List Sg} : (bxV b = bxV c) = (b = c) := by
  unfold bxV
  rw [Val.tup.injEq, map_stV_inj]
/-- == of boxes -/
theorem v_bx {h : MH} {b c : List Sg} : veq h (bxV b) (bxV c) = some (decide (b = c)) := by
  have e := v_tt (h := h) (vs := b.map stV) (ws := c.map stV) (pl_bx (n := 61) b) (pl_bx (n := 61) c)
  unfold bxV
  rw [e]
  congr 1
  exact decide_eq_decide.mpr (by rw [map_stV_inj])
/-- == of what may be None -/
theorem v_ob {h : MH} {b : Option (List Sg)} {c : List Sg} : veq h (opB b) (bxV c) = some (decide (b = some c)) := by
  cases b with
  | some b =>
    show veq h (bxV b) (bxV c) = _
    rw [v_bx]
    congr 1
    exact decide_eq_decide.mpr (by simp)
  | none =>
    obtain ⟨e, he⟩ := snap_plain (h := h) 64 (bxV c) (pl_bx (n := 61) c)
    show (match snap h 64 .non, snap h 64 (bxV c) with
      | some d, some e => some (PyData.eqv d e)
      | _, _ => none) = _
    rw [he]
    have q := eqv_plain (h := h) 64 .non (bxV c) .none e rfl (pl_bx (n := 61) c) rfl he
    show some (PyData.eqv .none e) = _
    rw [q]
    congr 1
    exact decide_eq_decide.mpr ⟨(fun z => by unfold bxV at z; cases z), (fun z => by cases z)⟩
theorem within_run (hc : ∀ (b c : List Sg) (h : MH), b.length ≤ 4000 → (P.cf "common" [bxV b, bxV c] h).wp (fun v h' => v = opB (commonB b c) ∧ Gr h h') NoE) {b c : List Sg} (hb : b.length ≤ 4000) : (callB P dS_within [bxV b, bxV c] h).wp (fun v h' => v = .bl (decide (commonB b c = some b)) ∧ Gr h h') NoE := by
  rw [wp_call]
  unfold dS_within
  subst_eqs
  refine wp_to (hc b c h hb) ?_
  rintro v h1 ⟨rfl, g⟩
  exists v_ob
  exact g
/-- v is a list of its own, with these items, laid behind n others -/
def LstAt (h' : MH) (v : Val) (xs : List Val) (n : Nat) : Prop := ∃ a, v = .ref a ∧ h'[a]? = some (.lst true xs) ∧ n ≤ a
theorem LstAt.last {h : MH} {xs : List Val} {n : Nat} (hn : n ≤ h.length) : LstAt (h ++ [.lst true xs]) (.ref h.length) xs n := ⟨_, rfl, app_last, hn⟩
/-! what is left of a box beside another one -/
def pcs (b m : List Sg) (k : Nat) : List (List Sg) := match b[k]?, m[k]? with
  | some p, some q => (if p.1 < q.1 then [m.take k ++ (p.1, q.1 - 1) :: b.drop (k + 1)] else []) ++ (if q.2 < p.2 then [m.take k ++ (q.2 + 1, p.2) :: b.drop (k + 1)] else [])
  | _, _ => []
def restsM (b m : List Sg) (n : Nat) : List (List Sg) := (List.range n).flatMap (pcs b m)
theorem restsM_s {b m : List Sg} {n : Nat} : restsM b m (n + 1) = restsM b m n ++ pcs b m n := by
  unfold restsM
  rw [List.range_succ, List.flatMap_append]
  simp
theorem pcs_len {b m : List Sg} {k : Nat} : (pcs b m k).length ≤ 2 := by
  unfold pcs
  split
  · split <;> split <;> simp
  · simp
theorem restsM_len {b m : List Sg} : ∀ n, (restsM b m n).length ≤ 2 * n
  | 0 => by simp [restsM]
  | n + 1 => by
    rw [restsM_s, List.length_append]
    have := restsM_len (b := b) (m := m) n
    have := pcs_len (b := b) (m := m) (k := n)
    omega
def restsB (b c : List Sg) : List (List Sg) := match commonB b c with
  | none => [b]
  | some m => restsM b m b.length
theorem restsB_len {b c : List Sg} : (restsB b c).length ≤ 2 * b.length + 1 := by
  unfold restsB
  split
  · simp
  · have := restsM_len (b := b) (m := ‹_›) b.length
    omega
theorem opb_n : opB none = .non := id rfl
theorem opb_s {b : List Sg} : opB (some b) = .tup (b.map stV) := id rfl
def IRe (h1 : MH) (b c m : List Sg) (i : Nat) (ρ : Env') (h' : MH) : Prop := ∃ (x1 x2 x3 : Option Val), h' = h1 ++ [.lst true ((restsM b m i).map bxV)] ∧ ρ = [some (.tup (b.map stV)), some (.tup (c.map stV)), some (.tup (m.map stV)), some (.ref h1.length), x1, x2, x3]
theorem IRe.next {h1 : MH} {b c m : List Sg} {i : Nat} {x1 x2 x3 : Option Val} {l : List Val} (e : l = (pcs b m i).map bxV) :
    IRe h1 b c m (i + 1) [some (.tup (b.map stV)), some (.tup (c.map stV)), some (.tup (m.map stV)), some (.ref h1.length), x1, x2, x3] (h1 ++ [.lst true ((restsM b m i).map bxV ++ l)]) :=
  ⟨x1, x2, x3, by rw [restsM_s, List.map_append, e], rfl⟩
theorem rests_run (hc : ∀ (b c : List Sg) (h : MH), b.length ≤ 2000 → (P.cf "common" [bxV b, bxV c] h).wp (fun v h' => v = opB (commonB b c) ∧ Gr h h') NoE) {b c : List Sg} (hl : c.length = b.length) (hb : b.length ≤ 1000) :
    (callB P dS_rests [bxV b, bxV c] h).wp (fun v h' => LstAt h' v ((restsB b c).map bxV) h.length ∧ Gr h h') NoE := by
  rw [wp_call]
  unfold dS_rests
  subst_eqs
  refine wp_to (hc b c h (by omega)) ?_
  rintro v h1 ⟨rfl, g⟩
  unfold restsB
  cases e : commonB b c with
  | none =>
    exists opb_n
    exact ⟨.last g.len, g.trans Gr.app⟩
  | some m =>
    have ml : m.length = b.length := commonB_len hl.symm e
    exists opb_s, bx_def
    refine ⟨by omega, ?_⟩
    refine wp_rng (IRe h1 b c m) ⟨_, _, _, rfl, rfl⟩ ?_ ?_
    · rintro i ρ h' hi ⟨x1, x2, x3, rfl, rfl⟩
      rw [cnt_1] at hi
      obtain ⟨p, hp⟩ : ∃ p, b[i]? = some p := ⟨_, List.getElem?_eq_getElem (by omega)⟩
      obtain ⟨q, hq⟩ : ∃ q, m[i]? = some q := ⟨_, List.getElem?_eq_getElem (by omega)⟩
      have hr := restsM_len (b := b) (m := m) i
      have l1 : (restsM b m i).length ≤ 4096 := by omega
      have l2 : (restsM b m i).length + 1 ≤ 4096 := by omega
      have l3 : ((m.map stV).take i).length + 1 ≤ 4096 := by simp; omega
      have l4 : ((m.map stV).take i).length + 1 + ((b.map stV).drop (i + 1)).length ≤ 4096 := by simp; omega
      exists hp, hq, stV_def, l1, l2, l3, l4, List.length_append
      refine ⟨fun c1 => ⟨fun c2 => ?_, fun c2 => ?_⟩, fun c1 => ⟨fun c2 => ?_, fun c2 => ?_⟩⟩
      · rw [List.append_assoc]
        exact IRe.next (by simp [pcs, hp, hq, c1, c2, bxV, stV])
      · exact IRe.next (by simp [pcs, hp, hq, c1, c2, bxV, stV])
      · exact IRe.next (by simp [pcs, hp, hq, c1, c2, bxV, stV])
      · have z := IRe.next (h1 := h1) (b := b) (c := c) (m := m) (i := i) (x1 := some (Val.int i)) (x2 := some (Val.tup (List.take i (List.map stV m)))) (x3 := some (Val.tup (List.drop (i + 1) (List.map stV b)))) (l := []) (by simp [pcs, hp, hq, c1, c2])
        rw [List.append_nil] at z
        exact z
    · rintro ρ h' ⟨x1, x2, x3, rfl, rfl⟩
      subst_eqs
      rw [cnt_1]
      exact ⟨.last g.len, g.trans Gr.app⟩
theorem pl_bxs {n : Nat} (l : List (List Sg)) : (l.map bxV).all (plainV (n + 3)) = true := by
  rw [List.all_eq_true]
  intro v hv
  obtain ⟨b, _, rfl⟩ := List.mem_map.mp hv
  exact pl_bx b
theorem pl_bxs1 {n : Nat} (l : List (List Sg)) (b : List Sg) : (l.map bxV ++ [bxV b]).all (plainV (n + 3)) = true := by
  have z := pl_bxs (n := n) (l ++ [b])
  simpa using z
/-! what is left of a box beside a list of boxes -/
def leftB (b : List Sg) (cs : List (List Sg)) : List (List Sg) := cs.foldl (fun told c => told.flatMap fun x => restsB x c) [b]
theorem leftB_s {b : List Sg} {cs : List (List Sg)} {i : Nat} {c : List Sg} (hc : cs[i]? = some c) : leftB b (cs.take (i + 1)) = (leftB b (cs.take i)).flatMap fun x => restsB x c := by
  unfold leftB
  rw [List.take_add_one, hc, List.foldl_append]
  rfl
theorem pcs_dim {b m : List Sg} {k : Nat} (hl : m.length = b.length) : ∀ x ∈ pcs b m k, x.length = b.length := by
  intro x hx
  unfold pcs at hx
  split at hx
  · rename_i p q hp hq
    have hk := (List.getElem?_eq_some_iff.mp hp).1
    have e : ∀ y : Sg, (m.take k ++ y :: b.drop (k + 1)).length = b.length := fun y => by simp; omega
    rcases List.mem_append.mp hx with z | z
    · split at z
      · rw [List.mem_singleton.mp z]; exact e _
      · cases z
    · split at z
      · rw [List.mem_singleton.mp z]; exact e _
      · cases z
  · cases hx
theorem restsB_dim {b c : List Sg} (hl : c.length = b.length) : ∀ x ∈ restsB b c, x.length = b.length := by
  intro x hx
  unfold restsB at hx
  split at hx
  · rw [List.mem_singleton.mp hx]
  · rename_i m e
    obtain ⟨k, _, hk⟩ := List.mem_flatMap.mp hx
    exact pcs_dim (commonB_len hl.symm e) x hk
theorem leftB_dim {b : List Sg} : ∀ {cs : List (List Sg)}, (∀ c ∈ cs, c.length = b.length) → ∀ x ∈ leftB b cs, x.length = b.length := by
  have key : ∀ (cs : List (List Sg)) (told : List (List Sg)), (∀ c ∈ cs, c.length = b.length) → (∀ x ∈ told, x.length = b.length) → ∀ x ∈ cs.foldl (fun told c => told.flatMap fun x => restsB x c) told, x.length = b.length := by
    intro cs
    induction cs with
    | nil => intro told _ ht x hx; exact ht x hx
    | cons c cs ih =>
      intro told hc ht x hx
      refine ih _ (fun c' h' => hc c' (List.mem_cons_of_mem _ h')) (fun y hy => ?_) x hx
      obtain ⟨z, hz, hy⟩ := List.mem_flatMap.mp hy
      have hz' := ht z hz
      rw [restsB_dim (by rw [hz', hc c (List.mem_cons_self ..)]) y hy, hz']
  intro cs hc x hx
  exact key cs [b] hc (fun y hy => by rw [List.mem_singleton.mp hy]) x hx
abbrev RestsOk (P : Pg) : Prop := ∀ (b c : List Sg) (h : MH), c.length = b.length → b.length ≤ 1000 → (P.cf "rests" [bxV b, bxV c] h).wp (fun v h' => LstAt h' v ((restsB b c).map bxV) h.length ∧ Gr h h') NoE
def IKp (h : MH) (b c : List Sg) (O tl K : Nat) (w : Bool) (cs cur : List (List Sg)) (j : Nat) (ρ : Env') (h' : MH) : Prop := ∃ (x5 : Option Val), ρ = [some (bxV b), some (.ref O), some (.ref tl), some (bxV c), some (.ref K), x5] ∧
  h'[O]? = some (.lst w (cs.map bxV)) ∧ h'[tl]? = some (.lst true (cur.map bxV)) ∧ h'[K]? = some (.lst true (((cur.take j).flatMap fun x => restsB x c).map bxV)) ∧ Up h.length h h'
def ILf (h : MH) (b : List Sg) (O : Nat) (w : Bool) (cs : List (List Sg)) (i : Nat) (ρ : Env') (h' : MH) : Prop := ∃ (tl : Nat) (x3 x4 x5 : Option Val), ρ = [some (bxV b), some (.ref O), some (.ref tl), x3, x4, x5] ∧
  h'[O]? = some (.lst w (cs.map bxV)) ∧ h'[tl]? = some (.lst true ((leftB b (cs.take i)).map bxV)) ∧ Up h.length h h' ∧ h.length ≤ tl
theorem left_run (hr : RestsOk P) {b : List Sg} {cs : List (List Sg)} {O : Nat} {w : Bool} (hO : h[O]? = some (.lst w (cs.map bxV))) (hc : ∀ c ∈ cs, c.length = b.length) (hb : b.length ≤ 1000) (hlen : ∀ i, (leftB b (cs.take i)).length ≤ 16000000) :
    (callB P dS_left [bxV b, .ref O] h).wp (fun v h' => LstAt h' v ((leftB b cs).map bxV) h.length ∧ Up h.length h h') NoE := by
  have O1 := lt_of hO
  rw [wp_call]
  unfold dS_left
  exists hO, O1
  refine wp_for (ILf h b O w cs) ⟨h.length, _, _, _, rfl, Gr.app.get hO, app_last, Up.refl.app, Nat.le_refl _⟩ (fun i ρ h' hI _ => ?_) (fun i v ρ h' hv hI => ?_) (fun ρ h' hI => ?_)
  · obtain ⟨tl, x3, x4, x5, rfl, e1, e2, e3, e4⟩ := hI
    subst_eqs; exact e1
  · obtain ⟨tl, x3, x4, x5, rfl, e1, e2, e3, e4⟩ := hI
    rw [List.getElem?_map] at hv
    obtain ⟨c, hci, rfl⟩ := Option.map_eq_some_iff.mp hv
    have hcl : c.length = b.length := hc c (List.mem_of_getElem? hci)
    have t1 := lt_of e2
    exists e2, t1
    have hcur := hlen i
    have hcur1 := hlen (i + 1)
    rw [leftB_s hci] at hcur1
    have hdim : ∀ x ∈ leftB b (cs.take i), x.length = b.length := leftB_dim fun c hc' => hc c (List.mem_of_mem_take hc')
    have es := leftB_s (b := b) hci
    generalize hcu : leftB b (cs.take i) = cur at *
    refine wp_for (IKp h b c O tl h'.length w cs cur) ⟨_, rfl, Gr.app.get e1, Gr.app.get e2, app_last, e3.app⟩ (fun j ρ h2 hI _ => ?_) (fun j v ρ h2 hv hI => ?_) (fun ρ h2 hI => ?_)
    · obtain ⟨x5, rfl, f1, f2, f3, f4⟩ := hI
      subst_eqs; exact f2
    · obtain ⟨x5, rfl, f1, f2, f3, f4⟩ := hI
      rw [List.getElem?_map] at hv
      obtain ⟨x, hx, rfl⟩ := Option.map_eq_some_iff.mp hv
      have xm := List.mem_of_getElem? hx
      have kne : h'.length ≠ tl := by omega
      have one : O ≠ h'.length := by have := e3.1; omega
      have kge : h.length ≤ h'.length := e3.1
      have tk : cur.take (j + 1) = cur.take j ++ [x] := by rw [List.take_add_one, hx]; rfl
      generalize h'.length = K at *
      exists f3
      refine wp_to (hr x c h2 (by rw [hcl, hdim x xm]) (by rw [hdim x xm]; exact hb)) ?_
      rintro v h3 ⟨⟨a, rfl, ha, a'⟩, g3⟩
      have k3 := g3.get f3
      have len1 : ((cur.take j).flatMap fun x => restsB x c).length + (restsB x c).length ≤ sizeLine := by
        have h0 : (cur.take (j + 1)).flatMap (fun x => restsB x c) = ((cur.take j).flatMap fun x => restsB x c) ++ restsB x c := by rw [tk, List.flatMap_append]; simp
        have h1 : ((cur.take (j + 1)).flatMap fun x => restsB x c).length ≤ (cur.flatMap fun x => restsB x c).length := by
          have e : cur.flatMap (fun x => restsB x c) = ((cur.take (j + 1)).flatMap fun x => restsB x c) ++ ((cur.drop (j + 1)).flatMap fun x => restsB x c) := by
            rw [← List.flatMap_append, List.take_append_drop]
          rw [e, List.length_append]; omega
        rw [h0, List.length_append] at h1
        have : (16000000 : Nat) ≤ sizeLine := by decide
        omega
      exists k3, ha, len1
      refine ⟨_, rfl, ?_, ?_, ?_, ?_⟩
      · exact (set_ne one).trans (g3.get f1)
      · exact (set_ne (Ne.symm kne)).trans (g3.get f2)
      · rw [set_get k3, tk, List.flatMap_append]; simp
      · exact (f4.gr g3).set kge
    · obtain ⟨x5, rfl, f1, f2, f3, f4⟩ := hI
      subst_eqs
      refine ⟨h'.length, _, _, _, rfl, f1, ?_, f4, e3.1⟩
      rw [f3, es, List.length_map, List.take_length]
  · obtain ⟨tl, x3, x4, x5, rfl, e1, e2, e3, e4⟩ := hI
    subst_eqs
    refine ⟨⟨tl, rfl, ?_, e4⟩, e3⟩
    rw [e2, List.length_map, List.take_length]
theorem v_le {h : MH} {a b : Nat} {w z : Bool} {l : List (List Sg)} (ha : h[a]? = some (.lst w (l.map bxV))) (hb : h[b]? = some (.lst z [])) : veq h (.ref a) (.ref b) = some l.isEmpty := by
  rw [v_ll ha hb (pl_bxs _) rfl]
  congr 1
  cases l <;> simp
theorem fills_run {b : List Sg} {cs : List (List Sg)} {O : Nat} {w : Bool} (hf : ∀ (h : MH), h[O]? = some (.lst w (cs.map bxV)) → (P.cf "left" [bxV b, .ref O] h).wp (fun v h' => LstAt h' v ((leftB b cs).map bxV) h.length ∧ Up h.length h h') NoE) (hO : h[O]? = some (.lst w (cs.map bxV))) :
    (callB P dS_fills [.ref O, bxV b] h).wp (fun v h' => v = .bl (leftB b cs).isEmpty ∧ Up h.length h h') NoE := by
  rw [wp_call]
  unfold dS_fills
  subst_eqs
  refine wp_to (hf h hO) ?_
  rintro v h2 ⟨⟨a, rfl, ha, a'⟩, u⟩
  have q := v_le (Gr.app.get ha) (app_last (h := h2) (o := .lst true []))
  exists q
  exact u.app
theorem cut_map {α β : Type} {f : α → β} {l : List α} {lo hi : Option Int} : cutL (l.map f) lo hi = (cutL l lo hi).map f := by
  unfold cutL
  rw [List.length_map, List.map_take, List.map_drop]
theorem cut_mem {α : Type} {l : List α} {lo hi : Option Int} {x : α} (h : x ∈ cutL l lo hi) : x ∈ l := List.mem_of_mem_drop (List.mem_of_mem_take h)
theorem cut_len {α : Type} {l : List α} {lo hi : Option Int} : (cutL l lo hi).length ≤ l.length := by
  unfold cutL
  simp; omega
theorem cut_lit {α : Type} {l : List α} (k : Nat) : cutL l none (some (k : Int)) = l.take k := cut_take
/-- how many boxes can be left -/
theorem leftB_len {b : List Sg} {d : Nat} (hb : b.length ≤ d) (hd : 0 < d) : ∀ {cs : List (List Sg)}, (∀ c ∈ cs, c.length = b.length) → (leftB b cs).length ≤ (2 * d) ^ cs.length := by
  have key : ∀ (cs : List (List Sg)) (told : List (List Sg)) (n : Nat), (∀ c ∈ cs, c.length = b.length) → (∀ x ∈ told, x.length = b.length) → told.length ≤ n → (cs.foldl (fun told c => told.flatMap fun x => restsB x c) told).length ≤ n * (2 * d) ^ cs.length := by
    intro cs
    induction cs with
    | nil => intro told n _ _ hn; simpa using hn
    | cons c cs ih =>
      intro told n hc ht hn
      have hcl := hc c (List.mem_cons_self ..)
      have hf : ∀ l : List (List Sg), (∀ x ∈ l, x.length = b.length) → (l.flatMap fun x => restsB x c).length ≤ l.length * (2 * d) := by
        intro l
        induction l with
        | nil => intro _; simp
        | cons x l ih2 =>
          intro hx
          have h1 := ih2 fun y hy => hx y (List.mem_cons_of_mem _ hy)
          have h2 : (restsB x c).length ≤ 2 * d := by
            have xl := hx x (List.mem_cons_self ..)
            unfold restsB
            split
            · simp; omega
            · have := restsM_len (b := x) (m := ‹_›) x.length
              omega
          simp only [List.flatMap_cons, List.length_append, List.length_cons]
          rw [Nat.add_mul]
          omega
      have h3 := hf told ht
      have h4 : told.length * (2 * d) ≤ n * (2 * d) := Nat.mul_le_mul_right _ hn
      have q := ih (told.flatMap fun x => restsB x c) (n * (2 * d)) (fun c' h' => hc c' (List.mem_cons_of_mem _ h')) (fun y hy => by
        obtain ⟨z, hz, hy⟩ := List.mem_flatMap.mp hy
        have hz' := ht z hz
        rw [restsB_dim (by rw [hz', hcl]) y hy, hz']) (by omega)
      simp only [List.foldl_cons, List.length_cons]
      rw [Nat.pow_succ, Nat.mul_comm ((2 * d) ^ cs.length), ← Nat.mul_assoc]
      exact q
  intro cs hc
  have z := key cs [b] 1 hc (fun y hy => by rw [List.mem_singleton.mp hy]) (by simp)
  rw [Nat.one_mul] at z
  exact z
end
end Mn
/-! Mini: boxes followed along rows -/
namespace Mn
open PySem
open Classical
local macro_rules
  | `(tactic| subst_eqs) => `(tactic| simp (maxDischargeDepth := 40) only [f_lens, f_str, f_ints, ri_str, mo_join, mo_split, mo_part, mo_find, mo_upper, so_nil, m_join, m_split, m_part, m_find, m_upper, is_k, we_fld, g_fld, ws_rai, ws_try, ws_onlyA, ws_onlyR, ws_hold, hot_n, hot_c, hot_0, hot_a, hot_r, ra_n, ra_f, n_exc, ty_exc, g_fldx, ws_fld, g_set, we_own, ow_ref, ow_i, in_n, we_new, pf_nil, pf_cons, lk_nil, lk_cons, String.reduceEq, reduceIte, b_muls, b_mull, i_str, f_sum, io_nil, io_cons, m_pop, m_index, mo_index, m_bit, mo_bit, vlen_app, ap_l, lt_last, lt_app, set_app, cut_take, cut_drop1, nn_add, nn_mul, nn_cast, nn_mod, at_nat, List.getElem?_map, Option.map_some, Int.zero_add, Int.mul_one, m_okr, mo_append, mo_extend, mo_pop, mo_popAt, mo_clear, set_last, sz_lt, mulOk_l, pow_lit, app_last, implies_true, Int.reduceToNat, stands_one, stands_two, if_t, if_f, if_dec, if_not, if_and, if_or, bl_k, in_k, op_k, op_n, op_map, op_if, ls_k, wp_ok, wp_err, wp_bad, wp_if, wp_ret, wg_0, wg_s, we_var, we_con, we_glb, we_bin, we_cmp, we_and, we_or, we_not, we_neg, we_isN, we_notN, we_isB, we_chn, we_lst, we_tup, we_idx, wo_none, wo_some, we_slc, we_call, we_bi, we_isi, we_mth, we_nil, we_cons, we_cmp1, ws_ite, ws_asg, ws_asgT, un_tup, un_ref, tu_l, bt_nm, bt_tp, bs_nil, bs_cons, ws_exp, ws_ret, ws_retN, ws_brk, ws_cnt, ws_pas, wb_nil, wb_cons, ws_for, ws_whl, ws_sub, wp_call, stands_nil, b_add, b_sub, b_mul, b_div, b_mod, b_pow, b_shl, b_shr, b_and, b_or, b_xor, b_adds, b_addt, b_addl, c_lt, c_le, c_gt, c_ge, c_eq, c_ne, c_in, c_nin, v_ii, v_ss, v_bb, i_tup, i_lst, ix_l, ix_d, l_tup, l_lst, ln_l, ln_d, lo_l, lo_d, su_l, su_d, su_t, dk_s, dk_n, k_tup, kt_tup, gt_tup, ix_t, m_get, mo_getd, mo_gett, gt_t, gt_e, k_int, k_str, gk_int, gk_str, ri_val, ri_rng, ri_enm, ri_zip, ri_rev, ri_itm, dc_k, we_dct, we_lofv, we_lofr, we_lofz, we_fst, fs_n, fs_s, fs_i, f_dict, it_zipl, List.isEmpty_cons, m_insert, mo_insert, f_max, f_min, f_int, f_intb, f_tupt, f_tupl, f_lstt, f_lstl, s_tup, s_lst, m_append, m_extend, u_sub, ib_t, ib_f, ib_non, ib_int, ib_str, ib_tup, ib_ref, n_non, n_bl, n_int, n_str, n_tup, n_ref, ty_non, ty_bl, ty_int, ty_str, ty_tup, ty_ref, tyO_l, tyO_i, List.set_cons_zero, List.set_cons_succ, List.map_cons, List.map_nil, List.length_cons, List.length_nil, List.length_map, List.replicate_zero, List.replicate_succ, List.nil_append, List.cons_append, Bool.not_true, Bool.not_false, and_true, true_and, true_implies, false_implies, and_false, false_and, not_false_eq_true, not_true_eq_false, Nat.reduceAdd, Nat.reduceSub, Nat.reduceLeDiff, Nat.reduceMul, Int.reduceMul, Int.reduceAdd, Int.reduceSub, Int.reduceLT, Int.reduceLE, Int.reduceNeg, Int.reduceEq, Int.cast_ofNat_Int, Int.reducePow, Nat.reducePow, divOk_lit, mulOk_r, eq_self, and_self, decide_true, decide_false, it_rng1, it_rng2, it_rng3, it_rngd, it_valt, it_vall, it_enml, it_enmt, it_revl, it_zipt, v_tt, pl_non, pl_int, pl_str, pl_tup, List.all_cons, List.all_nil, Bool.and_self, at_0, at_1, at_2, at_3, at_4, at_5, sz_ok, Val.ref.injEq, Val.int.injEq, Val.bl.injEq, Val.str.injEq, Val.tup.injEq, List.cons.injEq, Option.some.injEq, exists_eq, exists_eq', exists_eq_left, exists_eq_left', exists_eq_right, exists_eq_right', exists_and_left, exists_and_right])
local macro_rules
  | `(tactic| exists $ts,*) => `(tactic| simp (maxDischargeDepth := 40) only [f_lens, f_str, f_ints, ri_str, mo_join, mo_split, mo_part, mo_find, mo_upper, so_nil, m_join, m_split, m_part, m_find, m_upper, is_k, we_fld, g_fld, ws_rai, ws_try, ws_onlyA, ws_onlyR, ws_hold, hot_n, hot_c, hot_0, hot_a, hot_r, ra_n, ra_f, n_exc, ty_exc, g_fldx, ws_fld, g_set, we_own, ow_ref, ow_i, in_n, we_new, pf_nil, pf_cons, lk_nil, lk_cons, String.reduceEq, reduceIte, b_muls, b_mull, i_str, f_sum, io_nil, io_cons, m_pop, m_index, mo_index, m_bit, mo_bit, vlen_app, ap_l, lt_last, lt_app, set_app, cut_take, cut_drop1, nn_add, nn_mul, nn_cast, nn_mod, at_nat, List.getElem?_map, Option.map_some, Int.zero_add, Int.mul_one, m_okr, mo_append, mo_extend, mo_pop, mo_popAt, mo_clear, set_last, sz_lt, mulOk_l, pow_lit, app_last, implies_true, Int.reduceToNat, stands_one, stands_two, if_t, if_f, if_dec, if_not, if_and, if_or, bl_k, in_k, op_k, op_n, op_map, op_if, ls_k, wp_ok, wp_err, wp_bad, wp_if, wp_ret, wg_0, wg_s, we_var, we_con, we_glb, we_bin, we_cmp, we_and, we_or, we_not, we_neg, we_isN, we_notN, we_isB, we_chn, we_lst, we_tup, we_idx, wo_none, wo_some, we_slc, we_call, we_bi, we_isi, we_mth, we_nil, we_cons, we_cmp1, ws_ite, ws_asg, ws_asgT, un_tup, un_ref, tu_l, bt_nm, bt_tp, bs_nil, bs_cons, ws_exp, ws_ret, ws_retN, ws_brk, ws_cnt, ws_pas, wb_nil, wb_cons, ws_for, ws_whl, ws_sub, wp_call, stands_nil, b_add, b_sub, b_mul, b_div, b_mod, b_pow, b_shl, b_shr, b_and, b_or, b_xor, b_adds, b_addt, b_addl, c_lt, c_le, c_gt, c_ge, c_eq, c_ne, c_in, c_nin, v_ii, v_ss, v_bb, i_tup, i_lst, ix_l, ix_d, l_tup, l_lst, ln_l, ln_d, lo_l, lo_d, su_l, su_d, su_t, dk_s, dk_n, k_tup, kt_tup, gt_tup, ix_t, m_get, mo_getd, mo_gett, gt_t, gt_e, k_int, k_str, gk_int, gk_str, ri_val, ri_rng, ri_enm, ri_zip, ri_rev, ri_itm, dc_k, we_dct, we_lofv, we_lofr, we_lofz, we_fst, fs_n, fs_s, fs_i, f_dict, it_zipl, List.isEmpty_cons, m_insert, mo_insert, f_max, f_min, f_int, f_intb, f_tupt, f_tupl, f_lstt, f_lstl, s_tup, s_lst, m_append, m_extend, u_sub, ib_t, ib_f, ib_non, ib_int, ib_str, ib_tup, ib_ref, n_non, n_bl, n_int, n_str, n_tup, n_ref, ty_non, ty_bl, ty_int, ty_str, ty_tup, ty_ref, tyO_l, tyO_i, List.set_cons_zero, List.set_cons_succ, List.map_cons, List.map_nil, List.length_cons, List.length_nil, List.length_map, List.replicate_zero, List.replicate_succ, List.nil_append, List.cons_append, Bool.not_true, Bool.not_false, and_true, true_and, true_implies, false_implies, and_false, false_and, not_false_eq_true, not_true_eq_false, Nat.reduceAdd, Nat.reduceSub, Nat.reduceLeDiff, Nat.reduceMul, Int.reduceMul, Int.reduceAdd, Int.reduceSub, Int.reduceLT, Int.reduceLE, Int.reduceNeg, Int.reduceEq, Int.cast_ofNat_Int, Int.reducePow, Nat.reducePow, divOk_lit, mulOk_r, eq_self, and_self, decide_true, decide_false, it_rng1, it_rng2, it_rng3, it_rngd, it_valt, it_vall, it_enml, it_enmt, it_revl, it_zipt, v_tt, pl_non, pl_int, pl_str, pl_tup, List.all_cons, List.all_nil, Bool.and_self, at_0, at_1, at_2, at_3, at_4, at_5, sz_ok, Val.ref.injEq, Val.int.injEq, Val.bl.injEq, Val.str.injEq, Val.tup.injEq, List.cons.injEq, Option.some.injEq, exists_eq, exists_eq', exists_eq_left, exists_eq_left', exists_eq_right, exists_eq_right', exists_and_left, exists_and_right, $[$ts:term],*])
/-- looked(rows, default, box); names 0 rows, 1 default, 2 box, 3 told, 4 todo, 5 here, 6 at, 7 way, 8 row, 9 one, 10 both -/
def dS_looked : Df := { ps := [Str.ofString "rows", Str.ofString "default", Str.ofString "box"], np := 3, nn := 11, body :=
   [.asg (.nm 3) (.lst []),
    .asg (.nm 4) (.lst [.tup [.var 2, .con (.int 0), .lst []]]),
    .whl (.cmp .Gt (.bi .len [.var 4]) (.con (.int 0)))
      [.asg (.tp [5, 6, 7]) (.mth .pop (.var 4) []),
       .ite (.isi (.var 6) "str")
         [.exp (.mth .append (.var 3) [.tup [.var 5, .var 7, .var 6]]),
          .cnt]
         [],
       .ite (.cmp .Eq (.var 6) (.bi .len [.var 0]))
         [.exp (.mth .append (.var 3) [.tup [.var 5, .var 7, .var 1]]),
          .cnt]
         [],
       .asg (.nm 8) (.idx (.var 0) (.var 6)),
       .forS (.nm 9) .rev [.call "rests" [.var 5, .idx (.var 8) (.con (.int 2))]]
         [.exp (.mth .append (.var 4) [.tup [.var 9, .idx (.var 8) (.con (.int 4)), .bin .Add (.var 7) (.lst [.tup [.var 6, .con (.bl false)]])]])],
       .asg (.nm 10) (.call "common" [.var 5, .idx (.var 8) (.con (.int 2))]),
       .ite (.notN (.var 10))
         [.exp (.mth .append (.var 4) [.tup [.var 10, .idx (.var 8) (.con (.int 3)), .bin .Add (.var 7) (.lst [.tup [.var 6, .con (.bl true)]])]])]
         []],
    .ret (.var 3)] }

inductive F2 {α β : Type} (R : α → β → Prop) : List α → List β → Prop
  | nil : F2 R [] []
  | cons {a : α} {b : β} {l : List α} {r : List β} : R a b → F2 R l r → F2 R (a :: l) (b :: r)
section
variable {α β : Type} {R R' : α → β → Prop}
theorem F2.imp (k : ∀ a b, R a b → R' a b) : ∀ {l : List α} {r : List β}, F2 R l r → F2 R' l r
  | _, _, .nil => .nil
  | _, _, .cons h t => .cons (k _ _ h) (t.imp k)
theorem F2.app : ∀ {l l2 : List α} {r r2 : List β}, F2 R l r → F2 R l2 r2 → F2 R (l ++ l2) (r ++ r2)
  | _, _, _, _, .nil, q => q
  | _, _, _, _, .cons h t, q => .cons h (t.app q)
theorem F2.snoc {l : List α} {r : List β} {a : α} {b : β} (h : F2 R l r) (x : R a b) : F2 R (l ++ [a]) (r ++ [b]) := h.app (.cons x .nil)
theorem F2.len : ∀ {l : List α} {r : List β}, F2 R l r → l.length = r.length
  | _, _, .nil => rfl
  | _, _, .cons _ t => by simp [t.len]
theorem F2.snoc_inv : ∀ {l : List α} {r : List β} {b : β}, F2 R l (r ++ [b]) → ∃ l' a, l = l' ++ [a] ∧ F2 R l' r ∧ R a b
  | _, [], _, .cons h .nil => ⟨[], _, rfl, .nil, h⟩
  | _, _ :: _, _, .cons h t => by
    obtain ⟨l', a, rfl, q, x⟩ := t.snoc_inv
    exact ⟨_ :: l', a, rfl, .cons h q, x⟩
end
abbrev Pl := Sum Int Str
def atV : Pl → Val
  | .inl n => .int n
  | .inr s => .str s
structure Rw where
  nm : Str
  ix : Int
  bx : List Sg
  yes : Pl
  no : Pl
def rwV (r : Rw) : Val := .tup [.str r.nm, .int r.ix, bxV r.bx, atV r.yes, atV r.no]
abbrev Wy := List (Int × Bool)
def stpV (p : Int × Bool) : Val := .tup [.int p.1, .bl p.2]
structure En where
  f : Nat
  b : List Sg
  p : Pl
  w : Wy
abbrev Res3 := List Sg × Wy × Str
def look (rows : List Rw) (dflt : Str) : Nat → List Sg → Pl → Wy → List Res3
  | 0, _, _, _ => []
  | _ + 1, b, .inr s, w => [(b, w, s)]
  | f + 1, b, .inl n, w => if n = rows.length then [(b, w, dflt)] else match rows[n.toNat]? with
    | none => []
    | some r => (match commonB b r.bx with
      | none => []
      | some m => look rows dflt f m r.yes (w ++ [(n, true)])) ++ (restsB b r.bx).flatMap fun x => look rows dflt f x r.no (w ++ [(n, false)])
def looks (rows : List Rw) : Nat → List Sg → Pl → Nat
  | 0, _, _ => 1
  | _ + 1, _, .inr _ => 1
  | f + 1, b, .inl n => if n = rows.length then 1 else match rows[n.toNat]? with
    | none => 1
    | some r => 1 + (match commonB b r.bx with
      | none => 0
      | some m => looks rows f m r.yes) + ((restsB b r.bx).map fun x => looks rows f x r.no).sum
/-- where it goes on, there are rows -/
def lookOk (rows : List Rw) : Nat → List Sg → Pl → Prop
  | 0, _, _ => False
  | _ + 1, _, .inr _ => True
  | f + 1, b, .inl n => n = rows.length ∨ ∃ (k : Nat) (r : Rw), n = k ∧ rows[k]? = some r ∧ r.bx.length = b.length ∧ b.length ≤ 1000 ∧ (∀ m, commonB b r.bx = some m → lookOk rows f m r.yes) ∧ ∀ x ∈ restsB b r.bx, lookOk rows f x r.no
section
variable {n0 A B : Nat}
def EnR (n0 A B : Nat) (h : MH) (v : Val) (e : En) : Prop := ∃ W, v = .tup [bxV e.b, atV e.p, .ref W] ∧ h[W]? = some (.lst true (e.w.map stpV)) ∧ W ≠ A ∧ W ≠ B ∧ n0 ≤ W
def RsR (n0 A B : Nat) (h : MH) (v : Val) (r : Res3) : Prop := ∃ W, v = .tup [bxV r.1, .ref W, .str r.2.2] ∧ h[W]? = some (.lst true (r.2.1.map stpV)) ∧ W ≠ A ∧ W ≠ B ∧ n0 ≤ W
theorem EnR.gr {h h2 : MH} (g : Gr h h2) {v : Val} {e : En} : EnR n0 A B h v e → EnR n0 A B h2 v e := fun ⟨W, a, b, c⟩ => ⟨W, a, g.get b, c⟩
theorem RsR.gr {h h2 : MH} (g : Gr h h2) {v : Val} {e : Res3} : RsR n0 A B h v e → RsR n0 A B h2 v e := fun ⟨W, a, b, c⟩ => ⟨W, a, g.get b, c⟩
theorem EnR.setA {h : MH} {o : Ob} {v : Val} {e : En} : EnR n0 A B h v e → EnR n0 A B (h.set A o) v e := fun ⟨W, a, b, c, d⟩ => ⟨W, a, (set_ne c).trans b, c, d⟩
theorem EnR.setB {h : MH} {o : Ob} {v : Val} {e : En} : EnR n0 A B h v e → EnR n0 A B (h.set B o) v e := fun ⟨W, a, b, c, d, d'⟩ => ⟨W, a, (set_ne d).trans b, c, d, d'⟩
theorem RsR.setA {h : MH} {o : Ob} {v : Val} {e : Res3} : RsR n0 A B h v e → RsR n0 A B (h.set A o) v e := fun ⟨W, a, b, c, d⟩ => ⟨W, a, (set_ne c).trans b, c, d⟩
theorem RsR.setB {h : MH} {o : Ob} {v : Val} {e : Res3} : RsR n0 A B h v e → RsR n0 A B (h.set B o) v e := fun ⟨W, a, b, c, d, d'⟩ => ⟨W, a, (set_ne d).trans b, c, d, d'⟩
/-- the place of the way in an entry -/
def wOf : Val → Nat
  | .tup [_, .ref W, _] => W
  | .tup [_, _, .ref W] => W
  | _ => 0
theorem wOf_en {b : List Sg} {p : Pl} {W : Nat} : wOf (.tup [bxV b, atV p, .ref W]) = W := by cases p <;> rfl
theorem wOf_rs {b : List Sg} {s : Str} {W : Nat} : wOf (.tup [bxV b, .ref W, .str s]) = W := rfl
theorem F2.mem {α β : Type} {R : α → β → Prop} : ∀ {l : List α} {r : List β}, F2 R l r → ∀ a ∈ l, ∃ b, b ∈ r ∧ R a b
  | _, _, .nil, a, h => by cases h
  | _, _, .cons x t, a, h => by
    rcases List.mem_cons.mp h with rfl | z
    · exact ⟨_, List.mem_cons_self .., x⟩
    · obtain ⟨b, m, y⟩ := t.mem a z
      exact ⟨b, List.mem_cons_of_mem _ m, y⟩
structure LkS (h0 : MH) (R A B : Nat) (wr : Bool) (rows : List Rw) (h : MH) (vs ts : List Val) (st : List En) (tl : List Res3) : Prop where
  r : h[R]? = some (.lst wr (rows.map rwV))
  a : h[A]? = some (.lst true vs)
  b : h[B]? = some (.lst true ts)
  e : F2 (EnR h0.length A B h) vs st
  t : F2 (RsR h0.length A B h) ts tl
  up : Up h0.length h0 h
  rn : R < h0.length
  an : h0.length ≤ A
  bn : h0.length ≤ B
  ab : A ≠ B
  nd : ((vs ++ ts).map wOf).Nodup
variable {h0 h h2 : MH} {R : Nat} {wr : Bool} {rows : List Rw} {vs ts : List Val} {st : List En} {tl : List Res3}
theorem LkS.gr (S : LkS h0 R A B wr rows h vs ts st tl) (g : Gr h h2) : LkS h0 R A B wr rows h2 vs ts st tl :=
  ⟨g.get S.r, g.get S.a, g.get S.b, S.e.imp fun _ _ => EnR.gr g, S.t.imp fun _ _ => RsR.gr g, S.up.gr g, S.rn, S.an, S.bn, S.ab, S.nd⟩
theorem LkS.setA (S : LkS h0 R A B wr rows h vs ts st tl) {vs2 : List Val} {st2 : List En} (e : F2 (EnR h0.length A B h) vs2 st2) (nd : ((vs2 ++ ts).map wOf).Nodup) : LkS h0 R A B wr rows (h.set A (.lst true vs2)) vs2 ts st2 tl :=
  ⟨(set_ne (by have := S.rn; have := S.an; omega)).trans S.r, set_get S.a, (set_ne (Ne.symm S.ab)).trans S.b, e.imp fun _ _ => EnR.setA, S.t.imp fun _ _ => RsR.setA, S.up.set S.an, S.rn, S.an, S.bn, S.ab, nd⟩
theorem LkS.setB (S : LkS h0 R A B wr rows h vs ts st tl) {ts2 : List Val} {tl2 : List Res3} (e : F2 (RsR h0.length A B h) ts2 tl2) (nd : ((vs ++ ts2).map wOf).Nodup) : LkS h0 R A B wr rows (h.set B (.lst true ts2)) vs ts2 st tl2 :=
  ⟨(set_ne (by have := S.rn; have := S.bn; omega)).trans S.r, (set_ne S.ab).trans S.a, set_get S.b, S.e.imp fun _ _ => EnR.setB, e.imp fun _ _ => RsR.setB, S.up.set S.bn, S.rn, S.an, S.bn, S.ab, nd⟩
/-- a way, one step longer, is laid; an entry with it is pushed -/
theorem LkS.push (S : LkS h0 R A B wr rows h vs ts st tl) {w : Wy} {f : Nat} {x : List Sg} {p : Pl} {n : Int} {c : Bool} {o1 : Ob} :
    LkS h0 R A B wr rows (((h.set A (.lst true (vs ++ [.tup [bxV x, atV p, .ref (h ++ [o1]).length]]))) ++ [o1]) ++ [.lst true (w.map stpV ++ [.tup [.int n, .bl c]])]) (vs ++ [.tup [bxV x, atV p, .ref (h ++ [o1]).length]]) ts (st ++ [⟨f, x, p, w ++ [(n, c)]⟩]) tl := by
  have g := (S.gr (Gr.app (g := [o1]))).gr (Gr.app (g := [.lst true (w.map stpV ++ [.tup [.int n, .bl c]])]))
  have a1 := lt_of S.a
  have b1 := lt_of S.b
  have u := S.up.1
  have en : EnR h0.length A B (h ++ [o1] ++ [.lst true (w.map stpV ++ [.tup [.int n, .bl c]])]) (.tup [bxV x, atV p, .ref (h ++ [o1]).length]) ⟨f, x, p, w ++ [(n, c)]⟩ := by
    refine ⟨(h ++ [o1]).length, rfl, ?_, ?_, ?_, ?_⟩
    · rw [app_last]; simp [stpV]
    all_goals (simp; omega)
  have z := g.setA (g.e.snoc en) (by
    have lt : ∀ x ∈ (vs ++ ts).map wOf, x < h.length := fun x hx => by
      obtain ⟨v, hv, rfl⟩ := List.mem_map.mp hx
      rcases List.mem_append.mp hv with q | q
      · obtain ⟨_, _, W, rfl, hW, _⟩ := S.e.mem v q
        rw [wOf_en]; exact lt_of hW
      · obtain ⟨_, _, W, rfl, hW, _⟩ := S.t.mem v q
        rw [wOf_rs]; exact lt_of hW
    have pm : (vs ++ [Val.tup [bxV x, atV p, .ref (h ++ [o1]).length]] ++ ts).map wOf = vs.map wOf ++ [(h ++ [o1]).length] ++ ts.map wOf := by
      rw [List.map_append, List.map_append, List.map_singleton, wOf_en]
    rw [pm]
    have pr : (vs.map wOf ++ [(h ++ [o1]).length] ++ ts.map wOf).Perm ((h ++ [o1]).length :: (vs.map wOf ++ ts.map wOf)) := by
      rw [List.append_assoc]; exact List.perm_middle
    refine pr.nodup_iff.mpr (List.nodup_cons.mpr ⟨fun m => ?_, by rw [← List.map_append]; exact S.nd⟩)
    have := lt _ (by rw [List.map_append]; exact m)
    simp at this; omega)
  rw [set_app (by simp; omega), set_app a1] at z
  exact z
theorem last_at2 {xs : List Val} {v : Val} : (xs ++ [v])[xs.length + 1 - 1]? = some v := by simp
theorem last_at {xs : List Val} {v : Val} : (xs ++ [v])[(xs ++ [v]).length - 1]? = some v := by simp
theorem drop_last {xs : List Val} {v : Val} : (xs ++ [v]).dropLast = xs := List.dropLast_concat
theorem at_l {n : Int} : atV (.inl n) = .int n := id rfl
theorem at_r {s : Str} : atV (.inr s) = .str s := id rfl
theorem rw_def {r : Rw} : rwV r = .tup [.str r.nm, .int r.ix, bxV r.bx, atV r.yes, atV r.no] := id rfl
theorem looks_pos (rows : List Rw) : ∀ (f : Nat) (b : List Sg) (p : Pl), 1 ≤ looks rows f b p
  | 0, _, _ => Nat.le_refl _
  | _ + 1, _, .inr _ => Nat.le_refl _
  | f + 1, b, .inl n => by
    simp only [looks]
    split
    · exact Nat.le_refl _
    · split
      · exact Nat.le_refl _
      · omega
theorem sum_ge {α : Type} (g : α → Nat) (hg : ∀ x, 1 ≤ g x) : ∀ l : List α, l.length ≤ (l.map g).sum
  | [] => Nat.le_refl _
  | x :: l => by
    have := sum_ge g hg l
    have := hg x
    simp only [List.length_cons, List.map_cons, List.sum_cons]
    omega
abbrev CommonOk (P : Pg) : Prop := ∀ (b c : List Sg) (h : MH), b.length ≤ 2000 → (P.cf "common" [bxV b, bxV c] h).wp (fun v h' => v = opB (commonB b c) ∧ Gr h h') NoE
def enS (rows : List Rw) (e : En) : Nat := looks rows e.f e.b e.p
def enL (rows : List Rw) (dflt : Str) (e : En) : List Res3 := look rows dflt e.f e.b e.p e.w
def ILo (h0 : MH) (R A B : Nat) (wr : Bool) (rows : List Rw) (dflt : Str) (b0 : List Sg) (f0 : Nat) (total : List Res3) (m : Nat) (ρ : Env') (h' : MH) : Prop :=
  ∃ (vs ts : List Val) (st : List En) (tl : List Res3) (x5 x6 x7 x8 x9 x10 : Option Val), ρ = [some (.ref R), some (.str dflt), some (bxV b0), some (.ref B), some (.ref A), x5, x6, x7, x8, x9, x10] ∧
    LkS h0 R A B wr rows h' vs ts st tl ∧ (∀ e ∈ st, lookOk rows e.f e.b e.p ∧ e.w.length + e.f ≤ f0) ∧ m = (st.map (enS rows)).sum ∧ tl.length + m ≤ 1000000 ∧ tl ++ st.reverse.flatMap (enL rows dflt) = total
def IPu (h0 : MH) (R A B : Nat) (wr : Bool) (rows : List Rw) (dflt : Str) (b0 b : List Sg) (r : Rw) (n : Int) (w : Wy) (f W a : Nat) (ts : List Val) (st : List En) (tl : List Res3) (i : Nat) (ρ : Env') (h' : MH) : Prop :=
  ∃ (vs : List Val) (x9 x10 : Option Val), ρ = [some (.ref R), some (.str dflt), some (bxV b0), some (.ref B), some (.ref A), some (bxV b), some (.int n), some (.ref W), some (rwV r), x9, x10] ∧
    LkS h0 R A B wr rows h' vs ts (st ++ ((restsB b r.bx).reverse.take i).map fun x => ⟨f, x, r.no, w ++ [(n, false)]⟩) tl ∧ h'[W]? = some (.lst true (w.map stpV)) ∧ h'[a]? = some (.lst true ((restsB b r.bx).map bxV))
theorem ob_nn : opB none = .non := id rfl
theorem ob_bx {m : List Sg} : opB (some m) = bxV m := id rfl
theorem n_bx {m : List Sg} : isNon (bxV m) = false := id rfl
theorem sum_rev {α : Type} (g : α → Nat) : ∀ l : List α, (l.reverse.map g).sum = (l.map g).sum
  | [] => rfl
  | x :: l => by
    have := sum_rev g l
    rw [List.reverse_cons, List.map_append, List.sum_append, this]
    simp; omega
theorem look_row {rows : List Rw} {dflt : Str} {f k : Nat} {b : List Sg} {w : Wy} {r : Rw} (en : ¬ (k : Int) = (rows.length : Int)) (hk : rows[k]? = some r) : look rows dflt (f + 1) b (.inl (k : Int)) w = (match commonB b r.bx with
    | none => []
    | some m => look rows dflt f m r.yes (w ++ [((k : Int), true)])) ++ (restsB b r.bx).flatMap fun x => look rows dflt f x r.no (w ++ [((k : Int), false)]) := by
  simp only [look, Int.toNat_natCast, hk]
  rw [if_neg en]
theorem looks_row {rows : List Rw} {f k : Nat} {b : List Sg} {r : Rw} (en : ¬ (k : Int) = (rows.length : Int)) (hk : rows[k]? = some r) : looks rows (f + 1) b (.inl (k : Int)) = 1 + (match commonB b r.bx with
    | none => 0
    | some m => looks rows f m r.yes) + ((restsB b r.bx).map fun x => looks rows f x r.no).sum := by
  simp only [looks, Int.toNat_natCast, hk]
  rw [if_neg en]
/-- the list that looked tells, and no two of the ways are one list -/
def LookedN (h h' : MH) (v : Val) (l : List Res3) : Prop := ∃ (B A : Nat) (ts : List Val), v = .ref B ∧ h'[B]? = some (.lst true ts) ∧ F2 (RsR h.length A B h') ts l ∧ h.length ≤ B ∧ Up h.length h h' ∧ (ts.map wOf).Nodup
/-- the list that looked tells: its entries, each with a way of its own -/
def LookedR (h h' : MH) (v : Val) (l : List Res3) : Prop := ∃ (B A : Nat) (ts : List Val), v = .ref B ∧ h'[B]? = some (.lst true ts) ∧ F2 (RsR h.length A B h') ts l ∧ h.length ≤ B ∧ Up h.length h h'
theorem looked_runN {P : Pg} (hr : RestsOk P) (hc : CommonOk P) (s1 : P.sub "int" "str" = some false) (s2 : P.sub "str" "str" = some true) {h : MH} {R : Nat} {wr : Bool} {rows : List Rw} {dflt : Str} {b0 : List Sg} (hR : h[R]? = some (.lst wr (rows.map rwV))) {f0 : Nat} (hok : lookOk rows f0 b0 (.inl 0)) (hN : looks rows f0 b0 (.inl 0) ≤ 1000000) (hf : f0 ≤ 1000000) :
    (callB P dS_looked [.ref R, .str dflt, bxV b0] h).wp (fun v h' => LookedN h h' v (look rows dflt f0 b0 (.inl 0) [])) NoE := by
  rw [wp_call]
  unfold dS_looked
  have R1 := lt_of hR
  have big : 1000001 ≤ sizeLine := by decide
  exists hR, R1
  refine wp_whl (ILo h R ((h ++ [Ob.lst true []]) ++ [Ob.lst true []]).length h.length wr rows dflt b0 f0 (look rows dflt f0 b0 (.inl 0) [])) (looks rows f0 b0 (.inl 0)) ?_ ?_
  · refine ⟨_, [], [⟨f0, b0, .inl 0, []⟩], [], _, _, _, _, _, _, rfl, ⟨?_, app_last, ?_, ?_, .nil, ((Up.refl.app).app).app, R1, by simp, Nat.le_refl _, by simp, by simp⟩, ?_, ?_, ?_, ?_⟩
    · exact ((Gr.refl.app1).app1).app1.get hR
    · exact ((Gr.refl.app1).app1).get app_last
    · refine .cons ⟨(h ++ [Ob.lst true []]).length, rfl, ?_, by simp, by simp, by simp⟩ .nil
      exact (Gr.refl.app1).get app_last
    · intro e he
      rw [List.mem_singleton.mp he]; exact ⟨hok, by simp⟩
    · simp [enS]
    · simpa using hN
    · simp [enL]
  rintro m ρ h' ⟨vs, ts, st, tl, x5, x6, x7, x8, x9, x10, rfl, S, hok, hm, hN, hT⟩
  have lv := S.e.len
  have lt := S.t.len
  have a1 := lt_of S.a
  have ls := sum_ge (enS rows) (fun e => looks_pos rows _ _ _) st
  have eA := S.a
  exists eA
  refine ⟨fun c => ?_, fun c => ?_⟩
  · obtain ⟨st', e, rfl⟩ : ∃ st' e, st = st' ++ [e] := by
      rcases List.eq_nil_or_concat st with z | ⟨l, x, z⟩
      · subst z; have lv : vs.length = 0 := lv; omega
      · exact ⟨l, x, by simpa using z⟩
    obtain ⟨vs', v, rfl, q, W, rfl, hW, W1, W2, W3⟩ := S.e.snoc_inv
    have nd1 := S.nd
    rw [List.append_assoc, List.map_append, List.singleton_append, List.map_cons] at nd1
    have nd2 : ((vs' ++ ts).map wOf).Nodup := by
      rw [List.map_append]
      exact nd1.sublist (List.Sublist.append (List.Sublist.refl _) (List.sublist_cons_self _ _))
    rw [wOf_en] at nd1
    have nd3 : ∀ x : Val, wOf x = W → ((vs' ++ (ts ++ [x])).map wOf).Nodup := fun x hx => by
      rw [List.map_append, List.map_append, List.map_singleton, hx]
      refine (List.Perm.nodup_iff ?_).mp nd1
      exact List.Perm.append_left _ (List.perm_append_comm (l₁ := [W]) (l₂ := ts.map wOf))
    have S1 := S.setA q nd2
    have hW1 := (set_ne (o := .lst true vs') W1).trans hW
    obtain ⟨hoke, hwf⟩ := hok e (by simp)
    have hok' : ∀ e ∈ st', lookOk rows e.f e.b e.p ∧ e.w.length + e.f ≤ f0 := fun e he => hok e (by simp [he])
    rw [List.map_append, List.sum_append] at hm
    simp only [List.map_cons, List.map_nil, List.sum_cons, List.sum_nil, Nat.add_zero] at hm
    rw [List.reverse_append, List.reverse_singleton, List.singleton_append, List.flatMap_cons] at hT
    exists eA, last_at2, drop_last
    generalize hA' : ((h ++ [Ob.lst true []]) ++ [Ob.lst true []]).length = A at *
    generalize hB' : h.length = B at *
    obtain ⟨f, b, p, w⟩ := e
    simp only at hoke hW1 hT hm hwf
    generalize h'.set A (.lst true vs') = h1 at *
    have eB := S1.b
    have lt1 := S1.t.len
    have lts : ts.length < sizeLine := by omega
    cases f with
    | zero => exact hoke.elim
    | succ f =>
      cases p with
      | inr s =>
        have S2 := S1.setB (S1.t.snoc (b := (b, w, s)) ⟨W, rfl, hW1, W1, by omega, by omega⟩) (nd3 _ wOf_rs)
        have m1 : m = (st'.map (enS rows)).sum + 1 := hm
        exists at_r, s2, eB, lts
        exact ⟨m - 1, by omega, vs', _, st', _, _, _, _, _, _, _, rfl, S2, hok', by omega, by simp; omega, by rw [← hT]; simp [enL, look]⟩
      | inl n =>
        by_cases en : n = rows.length
        · have S2 := S1.setB (S1.t.snoc (b := (b, w, dflt)) ⟨W, rfl, hW1, W1, by omega, by omega⟩) (nd3 _ wOf_rs)
          have m1 : m = (st'.map (enS rows)).sum + 1 := by rw [hm]; simp [enS, looks, en]
          have el : enL rows dflt ⟨f + 1, b, .inl n, w⟩ = [(b, w, dflt)] := by simp [enL, look, en]
          rw [el] at hT
          have eR := S1.r
          have en' : (n = (rows.length : Int)) = True := eq_true en
          exists at_l, s1, eR, en', eB, lts
          exact ⟨m - 1, by omega, vs', _, st', _, _, _, _, _, _, _, rfl, S2, hok', by omega, by simp; omega, by rw [← hT]; simp⟩
        · obtain ⟨k, r, rfl, hk, hrl, hbl, hyes, hno⟩ := hoke.resolve_left en
          have hT : tl ++ (look rows dflt (f + 1) b (.inl (k : Int)) w ++ List.flatMap (enL rows dflt) st'.reverse) = look rows dflt f0 b0 (.inl 0) [] := hT
          have hm : m = (st'.map (enS rows)).sum + looks rows (f + 1) b (.inl (k : Int)) := hm
          rw [look_row en hk] at hT
          rw [looks_row en hk] at hm
          have lr := sum_ge (fun x => looks rows f x r.no) (fun x => looks_pos rows _ _ _) (restsB b r.bx)
          have lst' := sum_ge (enS rows) (fun e => looks_pos rows _ _ _) st'
          have eR := S1.r
          have en' : ((k : Int) = (rows.length : Int)) = False := eq_false en
          exists at_l, s1, eR, en', hk, rw_def
          refine wp_to (hr b r.bx h1 hrl hbl) ?_
          rintro v h2 ⟨⟨a, rfl, ha, a'⟩, g2⟩
          have S2 := S1.gr g2
          have hW2 := g2.get hW1
          have aA : a ≠ A := by have := lt_of S1.a; omega
          exists ha
          have lw : w.length + 1 ≤ sizeLine := by omega
          refine wp_for (IPu h R A B wr rows dflt b0 b r k w f W a ts st' tl) ⟨vs', _, _, rfl, by simpa using S2, hW2, ha⟩ (fun i ρ h3 hI _ => ?_) (fun i v ρ h3 hv hI => ?_) (fun ρ h3 hI => ?_)
          · obtain ⟨vs3, x9, x10, rfl, S3, hW3, ha3⟩ := hI
            subst_eqs; exact ha3
          · obtain ⟨vs3, x9, x10, rfl, S3, hW3, ha3⟩ := hI
            rw [← List.map_reverse, List.getElem?_map] at hv
            obtain ⟨x, hx, rfl⟩ := Option.map_eq_some_iff.mp hv
            have tk : (restsB b r.bx).reverse.take (i + 1) = (restsB b r.bx).reverse.take i ++ [x] := by rw [List.take_add_one, hx]; rfl
            have il := (List.getElem?_eq_some_iff.mp hx).1
            rw [List.length_reverse] at il
            have l3 := S3.e.len
            simp only [List.length_append, List.length_map, List.length_take, List.length_reverse] at l3
            have lv3 : vs3.length < sizeLine := by omega
            have eA3 := S3.a
            have a3 := lt_of eA3
            have w3 := lt_of hW3
            have z := S3.push (w := w) (f := f) (x := x) (p := r.no) (n := k) (c := false) (o1 := .lst true [.tup [.int k, .bl false]])
            exists rw_def, eA3, hW3, a3, w3, lw, lv3
            refine ⟨vs3 ++ [.tup [bxV x, atV r.no, .ref (h3 ++ [Ob.lst true [Val.tup [Val.int k, Val.bl false]]]).length]], some (bxV x), x10, rfl, ?_, ?_, ?_⟩
            · rw [tk, List.map_append, ← List.append_assoc]; exact z
            · exact ((Gr.refl.app1).app1).get ((set_ne W1).trans hW3)
            · exact ((Gr.refl.app1).app1).get ((set_ne aA).trans ha3)
          · obtain ⟨vs3, x9, x10, rfl, S3, hW3, ha3⟩ := hI
            rw [List.length_reverse, List.length_map, List.take_of_length_le (by simp)] at S3
            have l3 := S3.e.len
            simp only [List.length_append, List.length_map, List.length_reverse] at l3
            have lv3 : vs3.length < sizeLine := by omega
            have sr : (((restsB b r.bx).reverse.map fun x => (⟨f, x, r.no, w ++ [((k : Int), false)]⟩ : En)).map (enS rows)).sum = ((restsB b r.bx).map fun x => looks rows f x r.no).sum := by
              rw [List.map_map]; exact sum_rev _ _
            have okr : ∀ e ∈ st' ++ (restsB b r.bx).reverse.map (fun x => (⟨f, x, r.no, w ++ [((k : Int), false)]⟩ : En)), lookOk rows e.f e.b e.p ∧ e.w.length + e.f ≤ f0 := by
              intro e he
              rcases List.mem_append.mp he with y | y
              · exact hok' e y
              · obtain ⟨x, hx, rfl⟩ := List.mem_map.mp y
                exact ⟨hno x (List.mem_reverse.mp hx), by simp; omega⟩
            exists rw_def
            refine wp_to (hc b r.bx h3 (by omega)) ?_
            rintro v h4 ⟨rfl, g4⟩
            have S4 := S3.gr g4
            have hW4 := g4.get hW3
            cases ec : commonB b r.bx with
            | none =>
              simp only [ec] at hm hT
              exists ob_nn
              refine ⟨m - 1, by omega, vs3, ts, _, tl, _, _, _, _, _, _, rfl, S4, okr, ?_, by omega, ?_⟩
              · rw [List.map_append, List.sum_append, sr]; omega
              · rw [← hT, List.reverse_append, ← List.map_reverse, List.reverse_reverse, List.flatMap_append, List.flatMap_map]
                simp [enL]
            | some mm =>
              simp only [ec] at hm hT
              have eA4 := S4.a
              have a4 := lt_of eA4
              have w4 := lt_of hW4
              have z := S4.push (w := w) (f := f) (x := mm) (p := r.yes) (n := k) (c := true) (o1 := .lst true [.tup [.int k, .bl true]])
              exists ob_bx, n_bx, rw_def, eA4, hW4, a4, w4, lw, lv3
              refine ⟨m - 1, by omega, _, ts, _, tl, _, _, _, _, _, _, rfl, z, ?_, ?_, by omega, ?_⟩
              · intro e he
                rcases List.mem_append.mp he with y | y
                · exact okr e y
                · rw [List.mem_singleton.mp y]
                  exact ⟨hyes mm ec, by simp; omega⟩
              · rw [List.map_append, List.sum_append, List.map_append, List.sum_append, sr]
                simp [enS]; omega
              · rw [← hT, List.reverse_append, List.reverse_append, ← List.map_reverse, List.reverse_reverse, List.flatMap_append, List.flatMap_append, List.flatMap_map]
                simp [enL]
  · have z : st = [] := by
      have : vs.length = 0 := by omega
      exact List.eq_nil_of_length_eq_zero (by omega)
    subst z
    subst_eqs
    refine ⟨h.length, ((h ++ [Ob.lst true []]) ++ [Ob.lst true []]).length, ts, rfl, S.b, ?_, Nat.le_refl _, S.up, S.nd.sublist (by rw [List.map_append]; exact List.sublist_append_right _ _)⟩
    have e : tl = look rows dflt f0 b0 (.inl 0) [] := by simpa using hT
    rw [← e]
    exact S.t
theorem looked_run {P : Pg} (hr : RestsOk P) (hc : CommonOk P) (s1 : P.sub "int" "str" = some false) (s2 : P.sub "str" "str" = some true) {h : MH} {R : Nat} {wr : Bool} {rows : List Rw} {dflt : Str} {b0 : List Sg} (hR : h[R]? = some (.lst wr (rows.map rwV))) {f0 : Nat} (hok : lookOk rows f0 b0 (.inl 0)) (hN : looks rows f0 b0 (.inl 0) ≤ 1000000) (hf : f0 ≤ 1000000) :
    (callB P dS_looked [.ref R, .str dflt, bxV b0] h).wp (fun v h' => LookedR h h' v (look rows dflt f0 b0 (.inl 0) [])) NoE :=
  wp_to (looked_runN hr hc s1 s2 hR hok hN hf) fun _ _ ⟨B, A, ts, a, b, c, d, e, _⟩ => ⟨B, A, ts, a, b, c, d, e⟩
/-! == of such lists -/
def sgD (p : Sg) : PyData := .tuple [.int p.1, .int p.2]
def bxD (b : List Sg) : PyData := .tuple (b.map sgD)
def stD (p : Int × Bool) : PyData := .tuple [.int p.1, .bool p.2]
def rsD (r : Res3) : PyData := .tuple [bxD r.1, .list (r.2.1.map stD), .str r.2.2]
theorem mapO_map {α β γ : Type} {f : β → Option γ} {g : α → β} {d : α → γ} : ∀ {l : List α}, (∀ x ∈ l, f (g x) = some (d x)) → mapO f (l.map g) = some (l.map d)
  | [], _ => rfl
  | x :: l, h => by
    simp only [List.map_cons, mapO, h x (List.mem_cons_self ..), mapO_map fun y hy => h y (List.mem_cons_of_mem _ hy)]
theorem mapO_F2 {β : Type} {f : Val → Option PyData} {R : Val → β → Prop} {d : β → PyData} : ∀ {vs : List Val} {l : List β}, F2 R vs l → (∀ v x, x ∈ l → R v x → f v = some (d x)) → mapO f vs = some (l.map d)
  | _, _, .nil, _ => rfl
  | _, _, .cons r t, h => by
    simp only [List.map_cons, mapO, h _ _ (List.mem_cons_self ..) r, mapO_F2 t fun v x hx => h v x (List.mem_cons_of_mem _ hx)]
theorem snap_bx {h : MH} {n : Nat} {b : List Sg} : snap h (n + 3) (bxV b) = some (bxD b) := by
  unfold bxV bxD
  simp only [snap]
  rw [mapO_map (d := sgD) fun p _ => by simp [stV, sgD, snap, mapO]]
  rfl
theorem snap_rs {h : MH} {n n0 A B : Nat} {v : Val} {r : Res3} (hr : RsR n0 A B h v r) (hs : (PyData.str r.2.2).canLay0 = true) : snap h (n + 4) v = some (rsD r) := by
  obtain ⟨W, rfl, hW, _⟩ := hr
  have e : snap h (n + 3) (.ref W) = some (.list (r.2.1.map stD)) := by
    simp only [snap, hW]
    rw [mapO_map (d := stD) fun p _ => by simp [stpV, stD, snap, mapO]]
    rfl
  have e2 : snap h (n + 3) (.str r.2.2) = some (.str r.2.2) := by simp [snap, hs]
  show (mapO (snap h (n + 3)) [bxV r.1, .ref W, .str r.2.2]).map PyData.tuple = _
  simp only [mapO, snap_bx, e, e2]
  rfl
theorem eqvAll_map {α : Type} {d : α → PyData} (h : ∀ x, PyData.eqv (d x) (d x) = true) : ∀ l : List α, PyData.eqvAll (l.map d) (l.map d) = true
  | [] => by simp [PyData.eqvAll]
  | x :: l => by simp [PyData.eqvAll, h x, eqvAll_map h l]
theorem eqv_rs (r : Res3) : PyData.eqv (rsD r) (rsD r) = true := by
  have e1 : PyData.eqv (bxD r.1) (bxD r.1) = true := by
    simp only [bxD, PyData.eqv]
    exact eqvAll_map (fun p => by simp [sgD, PyData.eqv, PyData.eqvAll]) _
  have e2 : PyData.eqvAll (r.2.1.map stD) (r.2.1.map stD) = true := eqvAll_map (fun p => by simp [stD, PyData.eqv, PyData.eqvAll]) _
  simp [rsD, PyData.eqv, PyData.eqvAll, e1, e2]
theorem v_rs {h : MH} {a b n0 A B n1 A2 B2 : Nat} {w z : Bool} {ts us : List Val} {l : List Res3} (ha : h[a]? = some (.lst w ts)) (hb : h[b]? = some (.lst z us)) (f1 : F2 (RsR n0 A B h) ts l) (f2 : F2 (RsR n1 A2 B2 h) us l) (hs : ∀ r ∈ l, (PyData.str r.2.2).canLay0 = true) :
    veq h (.ref a) (.ref b) = some true := by
  have e1 : snap h 64 (.ref a) = some (.list (l.map rsD)) := by
    simp only [snap, ha]
    rw [mapO_F2 (d := rsD) f1 fun v x hx r => snap_rs (n := 59) r (hs x hx)]
    rfl
  have e2 : snap h 64 (.ref b) = some (.list (l.map rsD)) := by
    simp only [snap, hb]
    rw [mapO_F2 (d := rsD) f2 fun v x hx r => snap_rs (n := 59) r (hs x hx)]
    rfl
  show (match snap h 64 (.ref a), snap h 64 (.ref b) with
    | some d, some e => some (PyData.eqv d e)
    | _, _ => none) = _
  rw [e1, e2]
  simp only [PyData.eqv, eqvAll_map eqv_rs l]
theorem RsR.up {h h2 : MH} {n0 A B : Nat} (u : Up h.length h h2) {v : Val} {r : Res3} : RsR n0 A B h v r → RsR n0 A B h2 v r := fun ⟨W, a, b, c⟩ => ⟨W, a, u.get (lt_of b) b, c⟩
end
end Mn
/-! Mini: boxes point by point; how many points -/
namespace Mn
open PySem
open Classical
def restsR : List Sg → List Sg → List (List Sg)
  | p :: b, q :: m => ((if p.1 < q.1 then [(p.1, q.1 - 1) :: b] else []) ++ (if q.2 < p.2 then [(q.2 + 1, p.2) :: b] else [])) ++ (restsR b m).map (q :: ·)
  | _, _ => []
theorem restsM_R : ∀ {b m : List Sg}, m.length = b.length → restsM b m b.length = restsR b m
  | [], [], _ => rfl
  | [], _ :: _, h => by simp at h
  | _ :: _, [], h => by simp at h
  | p :: b, q :: m, h => by
    have ih := restsM_R (b := b) (m := m) (by simpa using h)
    unfold restsM at ih ⊢
    rw [List.length_cons, List.range_succ_eq_map, List.flatMap_cons, List.flatMap_map]
    have e0 : pcs (p :: b) (q :: m) 0 = (if p.1 < q.1 then [(p.1, q.1 - 1) :: b] else []) ++ (if q.2 < p.2 then [(q.2 + 1, p.2) :: b] else []) := rfl
    have es : ∀ k, pcs (p :: b) (q :: m) (k + 1) = (pcs b m k).map (q :: ·) := fun k => by
      unfold pcs
      simp only [List.getElem?_cons_succ, List.take_succ_cons, List.drop_succ_cons]
      split
      · split <;> split <;> simp
      · rfl
    rw [e0]
    simp only [restsR]
    congr 1
    rw [← ih, List.map_flatMap]
    congr 1
    funext k
    exact es k
def Inn : List Sg → List Sg → Prop
  | p :: b, q :: m => (p.1 ≤ q.1 ∧ q.1 ≤ q.2 ∧ q.2 ≤ p.2) ∧ Inn b m
  | [], [] => True
  | _, _ => False
theorem common_inn : ∀ {b c m : List Sg}, b.length = c.length → commonB b c = some m → Inn b m ∧ ∀ pt : List Int, pt.length = b.length → hasB m pt = (hasB b pt && hasB c pt)
  | [], [], m, _, e => by
    cases e
    exact ⟨trivial, fun pt h => by
      cases pt with
      | nil => rfl
      | cons _ _ => simp at h⟩
  | [], _ :: _, _, h, _ => by simp at h
  | _ :: _, [], _, h, _ => by simp at h
  | p :: b, q :: c, m, hl, e => by
    unfold commonB at e
    simp only [List.zip_cons_cons, commonL] at e
    split at e
    · rename_i r t e1 e2
      cases e
      obtain ⟨i1, i2⟩ := common_inn (b := b) (c := c) (m := t) (by simpa using hl) e2
      unfold meetS at e1
      split at e1
      · cases e1
      · cases e1
        rename_i hc
        refine ⟨⟨⟨?_, ?_, ?_⟩, i1⟩, fun pt h => ?_⟩
        · simp only; omega
        · simp only; omega
        · simp only; omega
        · cases pt with
          | nil => simp at h
          | cons x pt =>
            have := i2 pt (by simpa using h)
            unfold hasB at this ⊢
            simp only [List.zip_cons_cons, List.all_cons, this]
            have z : decide (max p.1 q.1 ≤ x ∧ x ≤ min p.2 q.2) = (decide (p.1 ≤ x ∧ x ≤ p.2) && decide (q.1 ≤ x ∧ x ≤ q.2)) := by
              rw [Bool.eq_iff_iff]; simp; omega
            rw [z]
            cases decide (p.1 ≤ x ∧ x ≤ p.2) <;> cases decide (q.1 ≤ x ∧ x ≤ q.2) <;> cases (List.all (b.zip pt) fun x => decide (x.1.1 ≤ x.2 ∧ x.2 ≤ x.1.2)) <;> simp
    · cases e
theorem common_none : ∀ {b c : List Sg} {pt : List Int}, b.length = c.length → pt.length = b.length → commonB b c = none → (hasB b pt && hasB c pt) = false
  | [], [], _, _, _, e => by cases e
  | [], _ :: _, _, h, _, _ => by simp at h
  | _ :: _, [], _, h, _, _ => by simp at h
  | p :: b, q :: c, [], _, h, _ => by simp at h
  | p :: b, q :: c, x :: pt, hl, h, e => by
    unfold commonB at e
    simp only [List.zip_cons_cons, commonL] at e
    have ih : commonL (b.zip c) = none → (hasB b pt && hasB c pt) = false := fun z => common_none (by simpa using hl) (by simpa using h) z
    unfold hasB at ih ⊢
    simp only [List.zip_cons_cons, List.all_cons]
    cases e1 : meetS p q with
    | none =>
      unfold meetS at e1
      split at e1
      · have z : (decide (p.1 ≤ x ∧ x ≤ p.2) && decide (q.1 ≤ x ∧ x ≤ q.2)) = false := by
          rw [Bool.eq_false_iff]; simp; omega
        revert z
        cases decide (p.1 ≤ x ∧ x ≤ p.2) <;> cases decide (q.1 ≤ x ∧ x ≤ q.2) <;> simp
      · cases e1
    | some r =>
      rw [e1] at e
      cases e2 : commonL (b.zip c) with
      | some t => rw [e2] at e; cases e
      | none =>
        have := ih e2
        revert this
        cases decide (p.1 ≤ x ∧ x ≤ p.2) <;> cases decide (q.1 ≤ x ∧ x ≤ q.2) <;> simp
def hits (l : List (List Sg)) (pt : List Int) : Nat := l.countP fun x => hasB x pt
theorem has_cons {p : Sg} {b : List Sg} {x : Int} {pt : List Int} : hasB (p :: b) (x :: pt) = (decide (p.1 ≤ x ∧ x ≤ p.2) && hasB b pt) := rfl
theorem count_R : ∀ {b m : List Sg} {pt : List Int}, Inn b m → pt.length = b.length → hits (restsR b m) pt = if (hasB b pt && !hasB m pt) = true then 1 else 0
  | [], [], pt, _, h => by
    cases pt with
    | nil => rfl
    | cons _ _ => simp at h
  | [], _ :: _, _, h, _ => h.elim
  | _ :: _, [], _, h, _ => h.elim
  | p :: b, q :: m, [], _, h => by simp at h
  | p :: b, q :: m, x :: pt, ⟨⟨h1, h2, h3⟩, hi⟩, h => by
    have ih := count_R (b := b) (m := m) (pt := pt) hi (by simpa using h)
    unfold hits at ih ⊢
    simp only [restsR, List.countP_append, List.countP_map]
    have em : (List.countP ((fun x_1 => hasB x_1 (x :: pt)) ∘ fun x => q :: x) (restsR b m)) = if q.1 ≤ x ∧ x ≤ q.2 then List.countP (fun x => hasB x pt) (restsR b m) else 0 := by
      have : ((fun x_1 => hasB x_1 (x :: pt)) ∘ fun x => q :: x) = fun y => decide (q.1 ≤ x ∧ x ≤ q.2) && hasB y pt := rfl
      rw [this]
      by_cases c : q.1 ≤ x ∧ x ≤ q.2
      · simp [c]
      · rw [if_neg c]
        have e : (fun y : List Sg => decide (q.1 ≤ x ∧ x ≤ q.2) && hasB y pt) = fun _ => false := by
          funext y; simp [c]
        rw [e]
        simp
    rw [em, ih]
    have eb := has_cons (p := p) (b := b) (x := x) (pt := pt)
    have eq := has_cons (p := q) (b := m) (x := x) (pt := pt)
    rw [eb, eq]
    cases hb : hasB b pt with
    | false =>
      have z1 : List.countP (fun x_1 => hasB x_1 (x :: pt)) (if p.1 < q.1 then [(p.1, q.1 - 1) :: b] else []) = 0 := by
        split
        · simp [has_cons, hb]
        · rfl
      have z2 : List.countP (fun x_1 => hasB x_1 (x :: pt)) (if q.2 < p.2 then [(q.2 + 1, p.2) :: b] else []) = 0 := by
        split
        · simp [has_cons, hb]
        · rfl
      rw [z1, z2]
      simp
    | true =>
      have z1 : List.countP (fun x_1 => hasB x_1 (x :: pt)) (if p.1 < q.1 then [(p.1, q.1 - 1) :: b] else []) = if p.1 ≤ x ∧ x < q.1 then 1 else 0 := by
        split
        · by_cases c : p.1 ≤ x ∧ x < q.1
          · have : p.1 ≤ x ∧ x ≤ q.1 - 1 := ⟨c.1, by omega⟩
            simp [has_cons, hb, c, this]
          · have : ¬ (p.1 ≤ x ∧ x ≤ q.1 - 1) := fun z => c ⟨z.1, by omega⟩
            rw [if_neg c]
            simp only [List.countP_cons, List.countP_nil, has_cons, hb, Bool.and_true, decide_eq_true_eq, this, if_false]
        · rw [if_neg (by omega)]; rfl
      have z2 : List.countP (fun x_1 => hasB x_1 (x :: pt)) (if q.2 < p.2 then [(q.2 + 1, p.2) :: b] else []) = if q.2 < x ∧ x ≤ p.2 then 1 else 0 := by
        split
        · by_cases c : q.2 < x ∧ x ≤ p.2
          · have : q.2 + 1 ≤ x ∧ x ≤ p.2 := ⟨by omega, c.2⟩
            simp [has_cons, hb, c, this]
          · have : ¬ (q.2 + 1 ≤ x ∧ x ≤ p.2) := fun z => c ⟨by omega, z.2⟩
            rw [if_neg c]
            simp only [List.countP_cons, List.countP_nil, has_cons, hb, Bool.and_true, decide_eq_true_eq, this, if_false]
        · rw [if_neg (by omega)]; rfl
      rw [z1, z2]
      cases hm : hasB m pt <;> simp only [Bool.and_true, Bool.true_and, Bool.and_false, Bool.not_true, Bool.not_false, decide_eq_true_eq, Bool.not_eq_true', decide_eq_false_iff_not, Bool.and_eq_true, if_true, if_false, Bool.false_eq_true] <;> (repeat' split) <;> omega
theorem rests_hits {b c : List Sg} {pt : List Int} (hl : c.length = b.length) (hp : pt.length = b.length) : hits (restsB b c) pt = if (hasB b pt && !hasB c pt) = true then 1 else 0 := by
  unfold restsB
  cases e : commonB b c with
  | none =>
    have z := common_none hl.symm hp e
    simp only [hits, List.countP_cons, List.countP_nil]
    revert z
    cases hasB b pt <;> cases hasB c pt <;> simp
  | some m =>
    obtain ⟨i1, i2⟩ := common_inn hl.symm e
    simp only
    rw [restsM_R (commonB_len hl.symm e), count_R i1 hp, i2 pt hp]
    cases hasB b pt <;> cases hasB c pt <;> simp
theorem restsR_ok : ∀ {b m : List Sg}, Inn b m → (∀ p ∈ b, p.1 ≤ p.2) → ∀ x ∈ restsR b m, ∀ p ∈ x, p.1 ≤ p.2
  | [], [], _, _, x, hx => by cases hx
  | [], _ :: _, h, _, _, _ => h.elim
  | _ :: _, [], h, _, _, _ => h.elim
  | p :: b, q :: m, ⟨⟨h1, h2, h3⟩, hi⟩, hb, x, hx => by
    have hb' : ∀ r ∈ b, r.1 ≤ r.2 := fun r hr => hb r (List.mem_cons_of_mem _ hr)
    simp only [restsR] at hx
    rcases List.mem_append.mp hx with z | z
    · intro r hr
      rcases List.mem_append.mp z with y | y
      · split at y
        · rw [List.mem_singleton.mp y] at hr
          rcases List.mem_cons.mp hr with e | e
          · subst e; simp only; omega
          · exact hb' r e
        · cases y
      · split at y
        · rw [List.mem_singleton.mp y] at hr
          rcases List.mem_cons.mp hr with e | e
          · subst e; simp only; omega
          · exact hb' r e
        · cases y
    · obtain ⟨y, hy, rfl⟩ := List.mem_map.mp z
      intro r hr
      rcases List.mem_cons.mp hr with e | e
      · subst e; exact h2
      · exact restsR_ok hi hb' y hy r e
theorem restsB_ok {b c : List Sg} (hl : c.length = b.length) (hb : ∀ p ∈ b, p.1 ≤ p.2) : ∀ x ∈ restsB b c, ∀ p ∈ x, p.1 ≤ p.2 := by
  unfold restsB
  cases e : commonB b c with
  | none => intro x hx; rw [List.mem_singleton.mp hx]; exact hb
  | some m =>
    obtain ⟨i1, _⟩ := common_inn hl.symm e
    simp only
    rw [restsM_R (commonB_len hl.symm e)]
    exact restsR_ok i1 hb

def VB (b : List Sg) : Prop := ∀ p ∈ b, p.1 ≤ p.2
theorem hits_app {l r : List (List Sg)} {pt : List Int} : hits (l ++ r) pt = hits l pt + hits r pt := by simp [hits, List.countP_append]
theorem flat_hits {c : List Sg} {pt : List Int} {d : Nat} (hc : c.length = d) (hp : pt.length = d) : ∀ told : List (List Sg), (∀ x ∈ told, x.length = d) → hits (told.flatMap fun x => restsB x c) pt = if hasB c pt = true then 0 else hits told pt
  | [], _ => by simp [hits]
  | x :: told, h => by
    have ih := flat_hits hc hp told fun y hy => h y (List.mem_cons_of_mem _ hy)
    have xl := h x (List.mem_cons_self ..)
    rw [List.flatMap_cons, hits_app, ih, rests_hits (by omega) (by omega)]
    have e : hits (x :: told) pt = (if hasB x pt = true then 1 else 0) + hits told pt := by
      unfold hits
      rw [List.countP_cons]
      cases hasB x pt <;> simp <;> omega
    rw [e]
    cases hasB c pt <;> cases hasB x pt <;> simp
theorem left_hits {b : List Sg} {pt : List Int} (hp : pt.length = b.length) {cs : List (List Sg)} (hc : ∀ c ∈ cs, c.length = b.length) : hits (leftB b cs) pt = if (hasB b pt && cs.all fun c => !hasB c pt) = true then 1 else 0 := by
  have key : ∀ (cs told : List (List Sg)), (∀ c ∈ cs, c.length = b.length) → (∀ x ∈ told, x.length = b.length) → hits (cs.foldl (fun told c => told.flatMap fun x => restsB x c) told) pt = if (cs.all fun c => !hasB c pt) = true then hits told pt else 0 := by
    intro cs
    induction cs with
    | nil => intro told _ _; simp
    | cons c cs ih =>
      intro told hc ht
      have cl := hc c (List.mem_cons_self ..)
      rw [List.foldl_cons, ih _ (fun c' h' => hc c' (List.mem_cons_of_mem _ h')) (fun y hy => by
        obtain ⟨z, hz, hy⟩ := List.mem_flatMap.mp hy
        have hz' := ht z hz
        rw [restsB_dim (by rw [hz', cl]) y hy, hz']), flat_hits cl hp told ht]
      by_cases e : hasB c pt = true <;> simp [e]
  have z := key cs [b] hc (fun y hy => by rw [List.mem_singleton.mp hy])
  unfold leftB
  rw [z]
  have e : hits [b] pt = if hasB b pt = true then 1 else 0 := by
    unfold hits
    rw [List.countP_cons]
    cases hasB b pt <;> simp
  rw [e]
  cases hasB b pt <;> cases (cs.all fun c => !hasB c pt) <;> simp
theorem left_valid {b : List Sg} (hb : VB b) {cs : List (List Sg)} (hc : ∀ c ∈ cs, c.length = b.length) : ∀ x ∈ leftB b cs, VB x := by
  have key : ∀ (cs told : List (List Sg)), (∀ c ∈ cs, c.length = b.length) → (∀ x ∈ told, x.length = b.length ∧ VB x) → ∀ x ∈ cs.foldl (fun told c => told.flatMap fun x => restsB x c) told, VB x := by
    intro cs
    induction cs with
    | nil => intro told _ ht x hx; exact (ht x hx).2
    | cons c cs ih =>
      intro told hc ht x hx
      have cl := hc c (List.mem_cons_self ..)
      refine ih _ (fun c' h' => hc c' (List.mem_cons_of_mem _ h')) (fun y hy => ?_) x hx
      obtain ⟨z, hz, hy⟩ := List.mem_flatMap.mp hy
      obtain ⟨hz', hv⟩ := ht z hz
      exact ⟨by rw [restsB_dim (by rw [hz', cl]) y hy, hz'], restsB_ok (by rw [hz', cl]) hv y hy⟩
  intro x hx
  exact key cs [b] hc (fun y hy => by rw [List.mem_singleton.mp hy]; exact ⟨rfl, hb⟩) x hx
theorem corner_in : ∀ {b : List Sg}, VB b → hasB b (b.map (·.1)) = true
  | [], _ => rfl
  | p :: b, h => by
    have ih := corner_in (b := b) fun q hq => h q (List.mem_cons_of_mem _ hq)
    have hp := h p (List.mem_cons_self ..)
    rw [List.map_cons, has_cons, ih]
    simp [hp]
theorem top_in : ∀ {b : List Sg}, VB b → hasB b (b.map (·.2)) = true
  | [], _ => rfl
  | p :: b, h => by
    have ih := top_in (b := b) fun q hq => h q (List.mem_cons_of_mem _ hq)
    have hp := h p (List.mem_cons_self ..)
    rw [List.map_cons, has_cons, ih]
    simp [hp]
theorem hits_pos {l : List (List Sg)} {x : List Sg} {pt : List Int} (hx : x ∈ l) (h : hasB x pt = true) : 1 ≤ hits l pt := by
  unfold hits
  exact List.countP_pos_iff.mpr ⟨x, hx, h⟩
theorem nil_of_hits {l : List (List Sg)} {d : Nat} (hv : ∀ x ∈ l, x.length = d ∧ VB x) (h : ∀ pt : List Int, pt.length = d → hits l pt = 0) : l = [] := by
  cases l with
  | nil => rfl
  | cons x l =>
    obtain ⟨h1, h2⟩ := hv x (List.mem_cons_self ..)
    have := hits_pos (List.mem_cons_self (a := x) (l := l)) (corner_in h2)
    rw [h _ (by rw [List.length_map]; exact h1)] at this
    omega
/-! how many points -/
def volB : List Sg → Int
  | [] => 1
  | p :: b => (p.2 - p.1 + 1) * volB b
theorem count_vol : ∀ (b : List Sg) (n : Int), b.foldl (fun n p => n * (p.2 - p.1 + 1)) n = n * volB b
  | [], n => by simp [volB]
  | p :: b, n => by
    rw [List.foldl_cons, count_vol b, volB, Int.mul_assoc]
def sumZ (L : Int) (f : Int → Int) : Nat → Int
  | 0 => 0
  | n + 1 => sumZ L f n + f (L + n)
def ind (p : Sg) (t : Int) : Int := if p.1 ≤ t ∧ t ≤ p.2 then 1 else 0
theorem sum_ind (p : Sg) (L : Int) : ∀ n : Nat, sumZ L (ind p) n = max 0 (min p.2 (L + n - 1) - max p.1 L + 1)
  | 0 => by simp [sumZ]; omega
  | n + 1 => by
    simp only [sumZ, sum_ind p L n, ind]
    split <;> omega
theorem sumZ_add (L : Int) (f g : Int → Int) : ∀ n, sumZ L (fun t => f t + g t) n = sumZ L f n + sumZ L g n
  | 0 => rfl
  | n + 1 => by simp only [sumZ, sumZ_add L f g n]; omega
theorem sumZ_mul (L : Int) (f : Int → Int) (c : Int) : ∀ n, sumZ L (fun t => f t * c) n = sumZ L f n * c
  | 0 => by simp [sumZ]
  | n + 1 => by simp only [sumZ, sumZ_mul L f c n, Int.add_mul]
theorem sumZ_zero (L : Int) : ∀ n, sumZ L (fun _ => 0) n = 0
  | 0 => rfl
  | n + 1 => by simp [sumZ, sumZ_zero L n]
theorem sumZ_eq (L : Int) {f g : Int → Int} (h : ∀ t, f t = g t) (n : Nat) : sumZ L f n = sumZ L g n := by
  have : f = g := funext h
  rw [this]
def tot (l : List (List Sg)) : Int := (l.map volB).sum
/-- what stands above t -/
def slice1 (t : Int) : List (List Sg) → List (List Sg)
  | [] => []
  | [] :: l => slice1 t l
  | (p :: b) :: l => if p.1 ≤ t ∧ t ≤ p.2 then b :: slice1 t l else slice1 t l
theorem slice_hits (t : Int) (pt : List Int) : ∀ l : List (List Sg), (∀ x ∈ l, x ≠ []) → hits (slice1 t l) pt = hits l (t :: pt)
  | [], _ => rfl
  | [] :: l, h => absurd rfl (h [] (List.mem_cons_self ..))
  | (p :: b) :: l, h => by
    have ih := slice_hits t pt l fun x hx => h x (List.mem_cons_of_mem _ hx)
    have e : hits ((p :: b) :: l) (t :: pt) = (if (decide (p.1 ≤ t ∧ t ≤ p.2) && hasB b pt) = true then 1 else 0) + hits l (t :: pt) := by
      unfold hits
      rw [List.countP_cons, has_cons]
      omega
    rw [e, ← ih]
    simp only [slice1]
    by_cases c : p.1 ≤ t ∧ t ≤ p.2
    · rw [if_pos c]
      have e2 : hits (b :: slice1 t l) pt = (if hasB b pt = true then 1 else 0) + hits (slice1 t l) pt := by
        unfold hits
        rw [List.countP_cons]; omega
      rw [e2]
      simp [c]
    · rw [if_neg c]; simp [c]
theorem slice_mem {t : Int} : ∀ {l : List (List Sg)} {y : List Sg}, y ∈ slice1 t l → ∃ p, (p :: y) ∈ l ∧ p.1 ≤ t ∧ t ≤ p.2
  | [], _, h => by cases h
  | [] :: l, y, h => by
    obtain ⟨p, a, b⟩ := slice_mem (l := l) h
    exact ⟨p, List.mem_cons_of_mem _ a, b⟩
  | (p :: b) :: l, y, h => by
    simp only [slice1] at h
    split at h
    · rename_i c
      rcases List.mem_cons.mp h with e | e
      · subst e; exact ⟨p, List.mem_cons_self .., c⟩
      · obtain ⟨q, a, b⟩ := slice_mem (l := l) e
        exact ⟨q, List.mem_cons_of_mem _ a, b⟩
    · obtain ⟨q, a, b⟩ := slice_mem (l := l) h
      exact ⟨q, List.mem_cons_of_mem _ a, b⟩
theorem slice_tot (L : Int) (n : Nat) : ∀ l : List (List Sg), (∀ x ∈ l, ∃ p b, x = p :: b ∧ p.1 ≤ p.2 ∧ L ≤ p.1 ∧ p.2 < L + n) → sumZ L (fun t => tot (slice1 t l)) n = tot l
  | [], _ => by
    show sumZ L (fun _ => 0) n = 0
    exact sumZ_zero L n
  | x :: l, h => by
    obtain ⟨p, b, rfl, h1, h2, h3⟩ := h x (List.mem_cons_self ..)
    have ih := slice_tot L n l fun y hy => h y (List.mem_cons_of_mem _ hy)
    have e : ∀ t, tot (slice1 t ((p :: b) :: l)) = ind p t * volB b + tot (slice1 t l) := fun t => by
      simp only [slice1, ind]
      split
      · simp [tot]
      · simp
    rw [sumZ_eq L e n, sumZ_add, sumZ_mul, ih, sum_ind]
    have e2 : max 0 (min p.2 (L + n - 1) - max p.1 L + 1) = p.2 - p.1 + 1 := by omega
    rw [e2]
    simp [tot, volB]
theorem bounds : ∀ l : List Sg, ∃ (L : Int) (n : Nat), ∀ p ∈ l, L ≤ p.1 ∧ p.2 < L + n
  | [] => ⟨0, 0, fun _ h => by cases h⟩
  | p :: l => by
    obtain ⟨L, n, h⟩ := bounds l
    refine ⟨min L p.1, (max (L + n) (p.2 + 1) - min L p.1).toNat, fun q hq => ?_⟩
    rcases List.mem_cons.mp hq with e | e
    · subst e; omega
    · have := h q e; omega
/-- boxes that share the points of one have as many points together -/
theorem vol_hits : ∀ (d : Nat) (l : List (List Sg)) (g : List Sg), (∀ x ∈ l, x.length = d ∧ VB x) → g.length = d → VB g → (∀ pt : List Int, pt.length = d → hits l pt = if hasB g pt = true then 1 else 0) → tot l = volB g
  | 0, l, g, hl, hg, _, hh => by
    have g0 : g = [] := List.eq_nil_of_length_eq_zero hg
    subst g0
    have h1 := hh [] rfl
    have all : ∀ x ∈ l, x = [] := fun x hx => List.eq_nil_of_length_eq_zero (hl x hx).1
    have e : ∀ l : List (List Sg), (∀ x ∈ l, x = []) → tot l = (hits l [] : Int) := by
      intro l
      induction l with
      | nil => intro _; rfl
      | cons x l ih =>
        intro h
        have hx := h x (List.mem_cons_self ..)
        subst hx
        have := ih fun y hy => h y (List.mem_cons_of_mem _ hy)
        have e3 : hits ([] :: l) [] = hits l [] + 1 := by simp [hits, hasB]
        rw [e3]
        simp only [tot, List.map_cons, List.sum_cons, volB] at this ⊢
        omega
    rw [e l all, h1]
    rfl
  | d + 1, l, g, hl, hg, hv, hh => by
    obtain ⟨q, g', rfl⟩ : ∃ q g', g = q :: g' := by
      cases g with
      | nil => simp at hg
      | cons q g' => exact ⟨q, g', rfl⟩
    have hv' : VB g' := fun p hp => hv p (List.mem_cons_of_mem _ hp)
    have hq := hv q (List.mem_cons_self ..)
    have hne : ∀ x ∈ l, x ≠ [] := fun x hx z => by have := (hl x hx).1; subst z; simp at this
    obtain ⟨L, n, hL⟩ := bounds (q :: l.filterMap List.head?)
    have hcov : ∀ x ∈ l, ∃ p b, x = p :: b ∧ p.1 ≤ p.2 ∧ L ≤ p.1 ∧ p.2 < L + n := fun x hx => by
      cases x with
      | nil => exact absurd rfl (hne _ hx)
      | cons p b =>
        have := hL p (List.mem_cons_of_mem _ (List.mem_filterMap.mpr ⟨p :: b, hx, rfl⟩))
        exact ⟨p, b, rfl, (hl _ hx).2 p (List.mem_cons_self ..), this.1, this.2⟩
    have sl : ∀ t, tot (slice1 t l) = ind q t * volB g' := fun t => by
      have hs : ∀ y ∈ slice1 t l, y.length = d ∧ VB y := fun y hy => by
        obtain ⟨p, hp, _⟩ := slice_mem hy
        obtain ⟨a, b⟩ := hl _ hp
        exact ⟨by simpa using a, fun r hr => b r (List.mem_cons_of_mem _ hr)⟩
      have hsh : ∀ pt : List Int, pt.length = d → hits (slice1 t l) pt = if (decide (q.1 ≤ t ∧ t ≤ q.2) && hasB g' pt) = true then 1 else 0 := fun pt hp => by
        rw [slice_hits t pt l hne, hh (t :: pt) (by simp [hp]), has_cons]
      by_cases c : q.1 ≤ t ∧ t ≤ q.2
      · rw [vol_hits d (slice1 t l) g' hs (by simpa using hg) hv' (fun pt hp => by rw [hsh pt hp]; simp [c])]
        simp [ind, c]
      · have e : slice1 t l = [] := nil_of_hits hs fun pt hp => by rw [hsh pt hp]; simp [c]
        rw [e]
        simp [ind, c, tot]
    have z := slice_tot L n l hcov
    rw [sumZ_eq L sl n, sumZ_mul, sum_ind] at z
    have qb := hL q (List.mem_cons_self ..)
    have e2 : max 0 (min q.2 (L + n - 1) - max q.1 L + 1) = q.2 - q.1 + 1 := by omega
    rw [e2] at z
    rw [← z]
    rfl
end Mn
/-! Mini: books that laws draw -/
namespace Mn
open PySem
open Classical
local macro_rules
  | `(tactic| subst_eqs) => `(tactic| simp (maxDischargeDepth := 40) only [f_lens, f_str, f_ints, ri_str, mo_join, mo_split, mo_part, mo_find, mo_upper, so_nil, m_join, m_split, m_part, m_find, m_upper, is_k, we_fld, g_fld, ws_rai, ws_try, ws_onlyA, ws_onlyR, ws_hold, hot_n, hot_c, hot_0, hot_a, hot_r, ra_n, ra_f, n_exc, ty_exc, g_fldx, ws_fld, g_set, we_own, ow_ref, ow_i, in_n, we_new, pf_nil, pf_cons, lk_nil, lk_cons, String.reduceEq, reduceIte, b_muls, b_mull, i_str, f_sum, io_nil, io_cons, m_pop, m_index, mo_index, m_bit, mo_bit, vlen_app, ap_l, lt_last, lt_app, set_app, cut_take, cut_drop1, nn_add, nn_mul, nn_cast, nn_mod, at_nat, List.getElem?_map, Option.map_some, Int.zero_add, Int.mul_one, m_okr, mo_append, mo_extend, mo_pop, mo_popAt, mo_clear, set_last, sz_lt, mulOk_l, pow_lit, app_last, implies_true, Int.reduceToNat, stands_one, stands_two, if_t, if_f, if_dec, if_not, if_and, if_or, bl_k, in_k, op_k, op_n, op_map, op_if, ls_k, wp_ok, wp_err, wp_bad, wp_if, wp_ret, wg_0, wg_s, we_var, we_con, we_glb, we_bin, we_cmp, we_and, we_or, we_not, we_neg, we_isN, we_notN, we_isB, we_chn, we_lst, we_tup, we_idx, wo_none, wo_some, we_slc, we_call, we_bi, we_isi, we_mth, we_nil, we_cons, we_cmp1, ws_ite, ws_asg, ws_asgT, un_tup, un_ref, tu_l, bt_nm, bt_tp, bs_nil, bs_cons, ws_exp, ws_ret, ws_retN, ws_brk, ws_cnt, ws_pas, wb_nil, wb_cons, ws_for, ws_whl, ws_sub, wp_call, stands_nil, b_add, b_sub, b_mul, b_div, b_mod, b_pow, b_shl, b_shr, b_and, b_or, b_xor, b_adds, b_addt, b_addl, c_lt, c_le, c_gt, c_ge, c_eq, c_ne, c_in, c_nin, v_ii, v_ss, v_bb, i_tup, i_lst, ix_l, ix_d, l_tup, l_lst, ln_l, ln_d, lo_l, lo_d, su_l, su_d, su_t, dk_s, dk_n, k_tup, kt_tup, gt_tup, ix_t, m_get, mo_getd, mo_gett, gt_t, gt_e, k_int, k_str, gk_int, gk_str, ri_val, ri_rng, ri_enm, ri_zip, ri_rev, ri_itm, dc_k, we_dct, we_lofv, we_lofr, we_lofz, we_fst, fs_n, fs_s, fs_i, f_dict, it_zipl, List.isEmpty_cons, m_insert, mo_insert, f_max, f_min, f_int, f_intb, f_tupt, f_tupl, f_lstt, f_lstl, s_tup, s_lst, m_append, m_extend, u_sub, ib_t, ib_f, ib_non, ib_int, ib_str, ib_tup, ib_ref, n_non, n_bl, n_int, n_str, n_tup, n_ref, ty_non, ty_bl, ty_int, ty_str, ty_tup, ty_ref, tyO_l, tyO_i, List.set_cons_zero, List.set_cons_succ, List.map_cons, List.map_nil, List.length_cons, List.length_nil, List.length_map, List.replicate_zero, List.replicate_succ, List.nil_append, List.cons_append, Bool.not_true, Bool.not_false, and_true, true_and, true_implies, false_implies, and_false, false_and, not_false_eq_true, not_true_eq_false, Nat.reduceAdd, Nat.reduceSub, Nat.reduceLeDiff, Nat.reduceMul, Int.reduceMul, Int.reduceAdd, Int.reduceSub, Int.reduceLT, Int.reduceLE, Int.reduceNeg, Int.reduceEq, Int.cast_ofNat_Int, Int.reducePow, Nat.reducePow, divOk_lit, mulOk_r, eq_self, and_self, decide_true, decide_false, it_rng1, it_rng2, it_rng3, it_rngd, it_valt, it_vall, it_enml, it_enmt, it_revl, it_zipt, v_tt, pl_non, pl_int, pl_str, pl_tup, List.all_cons, List.all_nil, Bool.and_self, at_0, at_1, at_2, at_3, at_4, at_5, sz_ok, Val.ref.injEq, Val.int.injEq, Val.bl.injEq, Val.str.injEq, Val.tup.injEq, List.cons.injEq, Option.some.injEq, exists_eq, exists_eq', exists_eq_left, exists_eq_left', exists_eq_right, exists_eq_right', exists_and_left, exists_and_right])
local macro_rules
  | `(tactic| exists $ts,*) => `(tactic| simp (maxDischargeDepth := 40) only [f_lens, f_str, f_ints, ri_str, mo_join, mo_split, mo_part, mo_find, mo_upper, so_nil, m_join, m_split, m_part, m_find, m_upper, is_k, we_fld, g_fld, ws_rai, ws_try, ws_onlyA, ws_onlyR, ws_hold, hot_n, hot_c, hot_0, hot_a, hot_r, ra_n, ra_f, n_exc, ty_exc, g_fldx, ws_fld, g_set, we_own, ow_ref, ow_i, in_n, we_new, pf_nil, pf_cons, lk_nil, lk_cons, String.reduceEq, reduceIte, b_muls, b_mull, i_str, f_sum, io_nil, io_cons, m_pop, m_index, mo_index, m_bit, mo_bit, vlen_app, ap_l, lt_last, lt_app, set_app, cut_take, cut_drop1, nn_add, nn_mul, nn_cast, nn_mod, at_nat, List.getElem?_map, Option.map_some, Int.zero_add, Int.mul_one, m_okr, mo_append, mo_extend, mo_pop, mo_popAt, mo_clear, set_last, sz_lt, mulOk_l, pow_lit, app_last, implies_true, Int.reduceToNat, stands_one, stands_two, if_t, if_f, if_dec, if_not, if_and, if_or, bl_k, in_k, op_k, op_n, op_map, op_if, ls_k, wp_ok, wp_err, wp_bad, wp_if, wp_ret, wg_0, wg_s, we_var, we_con, we_glb, we_bin, we_cmp, we_and, we_or, we_not, we_neg, we_isN, we_notN, we_isB, we_chn, we_lst, we_tup, we_idx, wo_none, wo_some, we_slc, we_call, we_bi, we_isi, we_mth, we_nil, we_cons, we_cmp1, ws_ite, ws_asg, ws_asgT, un_tup, un_ref, tu_l, bt_nm, bt_tp, bs_nil, bs_cons, ws_exp, ws_ret, ws_retN, ws_brk, ws_cnt, ws_pas, wb_nil, wb_cons, ws_for, ws_whl, ws_sub, wp_call, stands_nil, b_add, b_sub, b_mul, b_div, b_mod, b_pow, b_shl, b_shr, b_and, b_or, b_xor, b_adds, b_addt, b_addl, c_lt, c_le, c_gt, c_ge, c_eq, c_ne, c_in, c_nin, v_ii, v_ss, v_bb, i_tup, i_lst, ix_l, ix_d, l_tup, l_lst, ln_l, ln_d, lo_l, lo_d, su_l, su_d, su_t, dk_s, dk_n, k_tup, kt_tup, gt_tup, ix_t, m_get, mo_getd, mo_gett, gt_t, gt_e, k_int, k_str, gk_int, gk_str, ri_val, ri_rng, ri_enm, ri_zip, ri_rev, ri_itm, dc_k, we_dct, we_lofv, we_lofr, we_lofz, we_fst, fs_n, fs_s, fs_i, f_dict, it_zipl, List.isEmpty_cons, m_insert, mo_insert, f_max, f_min, f_int, f_intb, f_tupt, f_tupl, f_lstt, f_lstl, s_tup, s_lst, m_append, m_extend, u_sub, ib_t, ib_f, ib_non, ib_int, ib_str, ib_tup, ib_ref, n_non, n_bl, n_int, n_str, n_tup, n_ref, ty_non, ty_bl, ty_int, ty_str, ty_tup, ty_ref, tyO_l, tyO_i, List.set_cons_zero, List.set_cons_succ, List.map_cons, List.map_nil, List.length_cons, List.length_nil, List.length_map, List.replicate_zero, List.replicate_succ, List.nil_append, List.cons_append, Bool.not_true, Bool.not_false, and_true, true_and, true_implies, false_implies, and_false, false_and, not_false_eq_true, not_true_eq_false, Nat.reduceAdd, Nat.reduceSub, Nat.reduceLeDiff, Nat.reduceMul, Int.reduceMul, Int.reduceAdd, Int.reduceSub, Int.reduceLT, Int.reduceLE, Int.reduceNeg, Int.reduceEq, Int.cast_ofNat_Int, Int.reducePow, Nat.reducePow, divOk_lit, mulOk_r, eq_self, and_self, decide_true, decide_false, it_rng1, it_rng2, it_rng3, it_rngd, it_valt, it_vall, it_enml, it_enmt, it_revl, it_zipt, v_tt, pl_non, pl_int, pl_str, pl_tup, List.all_cons, List.all_nil, Bool.and_self, at_0, at_1, at_2, at_3, at_4, at_5, sz_ok, Val.ref.injEq, Val.int.injEq, Val.bl.injEq, Val.str.injEq, Val.tup.injEq, List.cons.injEq, Option.some.injEq, exists_eq, exists_eq', exists_eq_left, exists_eq_left', exists_eq_right, exists_eq_right', exists_and_left, exists_and_right, $[$ts:term],*])
/-- _law_top(_law_d); names 0 _law_d -/
def dS_law_top : Df := { ps := [Str.ofString "_law_d"], np := 1, nn := 1, body :=
   [.ret (.idx (.lst [.con (.int 3), .con (.int 255), .con (.int 4294967295), .con (.int 65535), .con (.int 4294967295), .con (.int 65535)]) (.var 0))] }
/-- _law_marks(_law_script); names 0 _law_script, 1 _law_d -/
def dS_law_marks : Df := { ps := [Str.ofString "_law_script"], np := 1, nn := 2, body :=
   [.ret (.cmp1 [1] (.bin .Mod (.call "_law_cell_at" [.var 0, .bin .Add (.con (.int 1)) (.var 1)]) (.bin .Add (.call "_law_top" [.var 1]) (.con (.int 1)))) (.nm 1) .rng [.con (.int 6)] none)] }
/-- _law_stretch(_law_mark, _law_top_here, _law_cell); names 0 _law_mark, 1 _law_top_here, 2 _law_cell, 3 _law_way, 4 _law_one, 5 _law_two -/
def dS_law_stretch : Df := { ps := [Str.ofString "_law_mark", Str.ofString "_law_top_here", Str.ofString "_law_cell"], np := 3, nn := 6, body :=
   [.asg (.nm 3) (.bin .Mod (.var 2) (.con (.int 7))),
    .ite (.cmp .Eq (.var 3) (.con (.int 0)))
      [.ret (.tup [.con (.int 0), .var 0])]
      [],
    .ite (.cmp .Eq (.var 3) (.con (.int 1)))
      [.ret (.tup [.var 0, .var 1])]
      [],
    .ite (.cmp .Eq (.var 3) (.con (.int 2)))
      [.ret (.tup [.var 0, .var 0])]
      [],
    .ite (.cmp .Eq (.var 3) (.con (.int 3)))
      [.ret (.tup [.bi .min [.bin .Add (.var 0) (.con (.int 1)), .var 1], .var 1])]
      [],
    .ite (.cmp .Eq (.var 3) (.con (.int 4)))
      [.ret (.tup [.con (.int 0), .bi .max [.bin .Sub (.var 0) (.con (.int 1)), .con (.int 0)]])]
      [],
    .asg (.nm 4) (.bin .Mod (.bin .FloorDiv (.var 2) (.con (.int 7))) (.bin .Add (.var 1) (.con (.int 1)))),
    .ite (.cmp .Eq (.var 3) (.con (.int 5)))
      [.ret (.tup [.bi .min [.var 4, .var 0], .bi .max [.var 4, .var 0]])]
      [],
    .asg (.nm 5) (.bin .Mod (.bin .Mod (.bin .Mult (.bin .Mod (.var 2) (.con (.int 2147483647))) (.con (.int 48271))) (.con (.int 2147483647))) (.bin .Add (.var 1) (.con (.int 1)))),
    .ret (.tup [.bi .min [.var 4, .var 5], .bi .max [.var 4, .var 5]])] }
/-- _law_box(_law_marks_here, _law_cell, _law_wish); names 0 _law_marks_here, 1 _law_cell, 2 _law_wish, 3 _law_box_here, 4 _law_at, 5 _law_k, 6 _law_d -/
def dS_law_box : Df := { ps := [Str.ofString "_law_marks_here", Str.ofString "_law_cell", Str.ofString "_law_wish"], np := 3, nn := 7, body :=
   [.asg (.nm 3) (.cmp1 [6] (.tup [.con (.int 0), .call "_law_top" [.var 6]]) (.nm 6) .rng [.con (.int 6)] none),
    .asg (.nm 4) (.bin .Mod (.var 1) (.con (.int 6))),
    .forS (.nm 5) .rng [.var 2]
      [.sub (.var 3) (.var 4) (.call "_law_stretch" [.idx (.var 0) (.var 4), .call "_law_top" [.var 4], .bin .FloorDiv (.bin .Mod (.bin .FloorDiv (.var 1) (.con (.int 30))) (.bin .Pow (.con (.int 10)) (.con (.int 30)))) (.bin .Add (.con (.int 1)) (.bin .Mult (.con (.int 13)) (.var 5)))]),
       .asg (.nm 4) (.bin .Mod (.bin .Add (.bin .Add (.var 4) (.con (.int 1))) (.bin .Mod (.bin .FloorDiv (.var 1) (.con (.int 6))) (.con (.int 5)))) (.con (.int 6)))],
    .ret (.bi .tuple [.var 3])] }
/-- _law_boxes(_law_script, _law_marks_here, _law_many); names 0 _law_script, 1 _law_marks_here, 2 _law_many, 3 _law_boxes_here, 4 _law_pieces, 5 _law_k, 6 _law_at, 7 _law_cell, 8 _law_wish -/
def dS_law_boxes : Df := { ps := [Str.ofString "_law_script", Str.ofString "_law_marks_here", Str.ofString "_law_many"], np := 3, nn := 9, body :=
   [.asg (.nm 3) (.bin .Mult (.lst [.con (.non)]) (.var 2)),
    .asg (.nm 4) (.con (.int 1)),
    .forS (.nm 5) .rng [.var 2]
      [.asg (.nm 6) (.bin .Mod (.bin .Add (.bin .FloorDiv (.call "_law_cell_at" [.var 0, .con (.int 0)]) (.con (.int 90))) (.var 5)) (.var 2)),
       .asg (.nm 7) (.call "_law_cell_at" [.var 0, .bin .Add (.con (.int 8)) (.bin .Mult (.con (.int 2)) (.var 6))]),
       .asg (.nm 8) (.idx (.lst [.con (.int 0), .con (.int 1), .con (.int 1), .con (.int 2)]) (.bin .Mod (.var 7) (.con (.int 4)))),
       .ite (.cmp .Gt (.bin .Mult (.var 4) (.bin .Add (.con (.int 1)) (.bin .Mult (.con (.int 2)) (.var 8)))) (.con (.int 45)))
         [.asg (.nm 8) (.con (.int 0))]
         [],
       .asg (.nm 4) (.bin .Mult (.var 4) (.bin .Add (.con (.int 1)) (.bin .Mult (.con (.int 2)) (.var 8)))),
       .sub (.var 3) (.var 6) (.call "_law_box" [.var 1, .bin .FloorDiv (.var 7) (.con (.int 4)), .var 8])],
    .ret (.var 3)] }
/-- _law_name(_law_cell, _law_k); names 0 _law_cell, 1 _law_k, 2 _law_many, 3 _law_at -/
def dS_law_name : Df := { ps := [Str.ofString "_law_cell", Str.ofString "_law_k"], np := 2, nn := 4, body :=
   [.asg (.nm 2) (.bin .Add (.con (.int 1)) (.bin .Mod (.var 0) (.con (.int 12)))),
    .asg (.nm 3) (.bin .Mod (.bin .FloorDiv (.var 0) (.con (.int 12))) (.var 2)),
    .ret (.bin .Add (.bin .Add (.bin .Mult (.con (.str (Str.ofString "q"))) (.var 3)) (.idx (.con (.str (Str.ofString "abcdefghijklmnop"))) (.bin .Add (.bin .Mod (.bin .FloorDiv (.var 0) (.con (.int 144))) (.con (.int 8))) (.bin .Mult (.con (.int 8)) (.var 1))))) (.bin .Mult (.con (.str (Str.ofString "q"))) (.bin .Sub (.bin .Sub (.var 2) (.con (.int 1))) (.var 3))))] }
/-- _law_rule(_law_cell, _law_level, _law_box_here, _law_names, _law_calls); names 0 _law_cell, 1 _law_level, 2 _law_box_here, 3 _law_names, 4 _law_calls, 5 _law_way -/
def dS_law_rule : Df := { ps := [Str.ofString "_law_cell", Str.ofString "_law_level", Str.ofString "_law_box_here", Str.ofString "_law_names", Str.ofString "_law_calls"], np := 5, nn := 6, body :=
   [.asg (.nm 5) (.bin .Mod (.var 0) (.con (.int 8))),
    .ite (.cmp .Eq (.var 5) (.con (.int 4)))
      [.ret (.tup [.con (.str (Str.ofString "back")), .var 2])]
      [],
    .ite (.and (.cmp .Gt (.var 5) (.con (.int 4))) (.and (.cmp .Lt (.var 1) (.con (.int 2))) (.cmp .Lt (.var 4) (.con (.int 2)))))
      [.ret (.tup [.con (.str (Str.ofString "call")), .var 2, .idx (.var 3) (.bi .max [.bin .Add (.var 1) (.con (.int 1)), .bin .Add (.con (.int 1)) (.bin .Mod (.bin .FloorDiv (.var 0) (.con (.int 8))) (.con (.int 2)))])])]
      [],
    .ret (.tup [.idx (.lst [.con (.str (Str.ofString "pass")), .con (.str (Str.ofString "stop"))]) (.bin .Mod (.var 5) (.con (.int 2))), .var 2])] }
/-- _law_chains(_law_script); names 0 _law_script, 1 _law_shape, 2 _law_sizes, 3 _law_boxes_here, 4 _law_names, 5 _law_chains_here, 6 _law_at, 7 _law_level, 8 _law_rules, 9 _law_calls, 10 _law_k -/
def dS_law_chains : Df := { ps := [Str.ofString "_law_script"], np := 1, nn := 11, body :=
   [.asg (.nm 1) (.bin .FloorDiv (.call "_law_cell_at" [.var 0, .con (.int 0)]) (.con (.int 2))),
    .asg (.nm 2) (.lst [.bin .Mod (.var 1) (.con (.int 5)), .bin .Mod (.bin .FloorDiv (.var 1) (.con (.int 5))) (.con (.int 3)), .bin .Mod (.bin .FloorDiv (.var 1) (.con (.int 15))) (.con (.int 3))]),
    .asg (.nm 3) (.call "_law_boxes" [.var 0, .call "_law_marks" [.var 0], .bi .sum [.var 2]]),
    .asg (.nm 4) (.lst [.con (.str (Str.ofString "main")), .call "_law_name" [.call "_law_cell_at" [.var 0, .con (.int 7)], .con (.int 0)], .call "_law_name" [.call "_law_cell_at" [.var 0, .con (.int 7)], .con (.int 1)]]),
    .asg (.nm 5) (.lst []),
    .asg (.nm 6) (.con (.int 0)),
    .forS (.nm 7) .rng [.con (.int 3)]
      [.asg (.nm 8) (.lst []),
       .asg (.nm 9) (.con (.int 0)),
       .forS (.nm 10) .rng [.idx (.var 2) (.var 7)]
         [.exp (.mth .append (.var 8) [.call "_law_rule" [.call "_law_cell_at" [.var 0, .bin .Add (.con (.int 9)) (.bin .Mult (.con (.int 2)) (.var 6))], .var 7, .idx (.var 3) (.var 6), .var 4, .var 9]]),
          .asg (.nm 9) (.bin .Add (.var 9) (.bi .int [.cmp .Eq (.idx (.idx (.var 8) (.neg (.con (.int 1)))) (.con (.int 0))) (.con (.str (Str.ofString "call")))])),
          .asg (.nm 6) (.bin .Add (.var 6) (.con (.int 1)))],
       .exp (.mth .append (.var 5) [.tup [.idx (.var 4) (.var 7), .var 8]])],
    .ite (.cmp .Eq (.bin .Mod (.bin .FloorDiv (.call "_law_cell_at" [.var 0, .con (.int 7)]) (.con (.int 1152))) (.con (.int 2))) (.con (.int 1)))
      [.ret (.lst [.idx (.var 5) (.con (.int 0)), .idx (.var 5) (.con (.int 2)), .idx (.var 5) (.con (.int 1))])]
      [],
    .ret (.var 5)] }
/-- _law_length(_law_chains_here, _law_name_here); names 0 _law_chains_here, 1 _law_name_here, 2 _law_count, 3 _law_its_name, 4 _law_rules, 5 _law_rule_here -/
def dS_law_length : Df := { ps := [Str.ofString "_law_chains_here", Str.ofString "_law_name_here"], np := 2, nn := 6, body :=
   [.asg (.nm 2) (.con (.int 0)),
    .forS (.tp [3, 4]) .val [.var 0]
      [.ite (.cmp .Eq (.var 3) (.var 1))
         [.forS (.nm 5) .val [.var 4]
            [.asg (.nm 2) (.bin .Add (.var 2) (.con (.int 1))),
             .ite (.cmp .Eq (.idx (.var 5) (.con (.int 0))) (.con (.str (Str.ofString "call"))))
               [.asg (.nm 2) (.bin .Add (.var 2) (.call "_law_length" [.var 0, .idx (.var 5) (.con (.int 2))]))]
               []]]
         []],
    .ret (.var 2)] }
/-- _law_rows(_law_chains_here, _law_level, _law_start); names 0 _law_chains_here, 1 _law_level, 2 _law_start, 3 _law_name_here, 4 _law_end, 5 _law_names, 6 _law_rows_here, 7 _law_index, 8 _law_rule_here, 9 _law_at, 10 _law_more, 11 _law_yes, 12 _law_chain -/
def dS_law_rows : Df := { ps := [Str.ofString "_law_chains_here", Str.ofString "_law_level", Str.ofString "_law_start"], np := 3, nn := 13, body :=
   [.asg (.nm 3) (.idx (.idx (.var 0) (.var 1)) (.con (.int 0))),
    .asg (.nm 4) (.bin .Add (.var 2) (.call "_law_length" [.var 0, .var 3])),
    .asg (.nm 5) (.cmp1 [12] (.idx (.var 12) (.con (.int 0))) (.nm 12) .val [.var 0] none),
    .asg (.nm 6) (.lst []),
    .forS (.tp [7, 8]) .enm [.idx (.idx (.var 0) (.var 1)) (.con (.int 1))]
      [.asg (.nm 9) (.bin .Add (.var 2) (.bi .len [.var 6])),
       .asg (.nm 10) (.lst []),
       .asg (.nm 11) (.idx (.var 8) (.con (.int 0))),
       .ite (.cmp .Eq (.var 11) (.con (.str (Str.ofString "back"))))
         [.asg (.nm 11) (.var 4)]
         [],
       .ite (.cmp .Eq (.var 11) (.con (.str (Str.ofString "call"))))
         [.asg (.nm 11) (.bin .Add (.var 9) (.con (.int 1))),
          .asg (.nm 10) (.call "_law_rows" [.var 0, .mth .index (.var 5) [.idx (.var 8) (.con (.int 2))], .bin .Add (.var 9) (.con (.int 1))])]
         [],
       .asg (.nm 6) (.bin .Add (.bin .Add (.var 6) (.lst [.tup [.var 3, .var 7, .idx (.var 8) (.con (.int 1)), .var 11, .bin .Add (.bin .Add (.var 9) (.con (.int 1))) (.bi .len [.var 10])]])) (.var 10))],
    .ret (.var 6)] }
section
variable {P : Pg} {h : MH} {Q : Val → MH → Prop} {Z : XP} {ρ : Env'}
theorem wi_nil : wipe' ρ [] = ρ := id rfl
theorem wi_cons {v : Nat} {vs : List Nat} : wipe' ρ (v :: vs) = (wipe' ρ vs).set v none := id rfl
/-- a comprehension, turn by turn -/
theorem wp_comp {t : Tg} {c : Src} {elt : E} {items : List Val} {Q : List Val → MH → Prop} (I : Nat → List Val → MH → Prop) (h0 : I 0 [] h)
    (step : ∀ i v acc h, items[i]? = some v → I i acc h → c.stands h ∧ acc.length ≤ 4096 ∧ opK (bindT t v ρ) fun ρ1 => (evE P elt ρ1 h).wp (fun w h' => I (i + 1) (acc ++ [w]) h') NoE)
    (done : ∀ acc h, I items.length acc h → c.stands h ∧ Q acc h) : (compL t c ρ (evC P none) (evE P elt) items [] h).wp Q Z := by
  have key : ∀ (r : List Val) (i : Nat) (acc : List Val) (h : MH), items.drop i = r → i ≤ items.length → I i acc h → (compL t c ρ (evC P none) (evE P elt) r acc h).wp Q Z := by
    intro r
    induction r with
    | nil =>
      intro i acc h hd hi hI
      have e : i = items.length := by
        have := congrArg List.length hd
        simp at this; omega
      subst e
      obtain ⟨d1, d2⟩ := done acc h hI
      simp only [compL]
      rw [if_pos d1]
      exact d2
    | cons v r ih =>
      intro i acc h hd hi hI
      have hv : items[i]? = some v := by
        have := congrArg (fun l => l[0]?) hd
        simpa using this
      have il := (List.getElem?_eq_some_iff.mp hv).1
      have hd2 : items.drop (i + 1) = r := by
        have := congrArg (List.drop 1) hd
        simpa [Nat.add_comm] using this
      obtain ⟨s1, s2, s3⟩ := step i v acc h hv hI
      simp only [compL]
      rw [if_pos s1]
      cases eb : bindT t v ρ with
      | none => rw [eb] at s3; exact s3.elim
      | some ρ1 =>
        rw [eb] at s3
        replace s3 : (evE P elt ρ1 h).wp (fun w h' => I (i + 1) (acc ++ [w]) h') NoE := s3
        have e1 : evC P none ρ1 h = .ok (.bl true) h := by simp only [evC]
        simp only [e1]
        cases ee : evE P elt ρ1 h with
        | ok w h2 =>
          rw [ee] at s3
          simp only []
          rw [if_pos (of_eq_true (sz_lt s2))]
          exact ih (i + 1) _ h2 hd2 (by omega) s3
        | err c fs h2 => rw [ee] at s3; exact s3.elim
        | bad => rw [ee] at s3; exact s3.elim
  exact key items 0 [] h (by simp) (Nat.zero_le _) h0
/-- .. over a range -/
theorem wp_compR {t : Tg} {lo hi : Int} {elt : E} {Q : List Val → MH → Prop} (I : Nat → List Val → MH → Prop) (h0 : I 0 [] h)
    (step : ∀ (i : Nat) acc h, i < (hi - lo).toNat → I i acc h → acc.length ≤ 4096 ∧ opK (bindT t (.int (lo + i)) ρ) fun ρ1 => (evE P elt ρ1 h).wp (fun w h' => I (i + 1) (acc ++ [w]) h') NoE)
    (done : ∀ acc h, I (hi - lo).toNat acc h → Q acc h) : (compL t [] ρ (evC P none) (evE P elt) (rangeL lo hi 1) [] h).wp Q Z := by
  refine wp_comp I h0 (fun i v acc h hv hI => ?_) (fun acc h hI => ?_)
  · obtain ⟨hi, rfl⟩ := rngL_get hv
    rw [cnt_1] at hi
    obtain ⟨s1, s2⟩ := step i acc h hi hI
    rw [Int.mul_one]
    exact ⟨by rw [stands_nil]; trivial, s1, s2⟩
  · rw [rngL_len, cnt_1] at hI
    exact ⟨by rw [stands_nil]; trivial, done acc h hI⟩
def topN : Nat → Int
  | 0 => 3
  | 1 => 255
  | 2 => 4294967295
  | 3 => 65535
  | 4 => 4294967295
  | _ => 65535
theorem topN_pos (d : Nat) : 0 < topN d ∧ topN d ≤ 4294967295 := by
  unfold topN; split <;> decide
abbrev CellOk (P : Pg) : Prop := ∀ {h : MH} {a : Nat} {z : Bool} {ns : List Int}, h[a]? = some (.lst z (ns.map .int)) → ∀ {d : Int} {Q : Val → MH → Prop} {Z : XP}, 0 ≤ d → (P.cf "_law_cell_at" [.ref a, .int d] h).wp Q Z = Q (.int (cell ns d.toNat)) h
abbrev TopNOk (P : Pg) : Prop := ∀ {h : MH} {d : Nat}, d < 6 → (P.cf "_law_top" [.int d] h).wp (fun v h' => v = .int (topN d) ∧ Gr h h') NoE
theorem top_run {d : Nat} (hd : d < 6) : (callB P dS_law_top [.int d] h).wp (fun v h' => v = .int (topN d) ∧ Gr h h') NoE := by
  rw [wp_call]
  unfold dS_law_top
  rcases d with _ | _ | _ | _ | _ | _ | d
  all_goals first
    | (exists List.getElem?_cons_zero, List.getElem?_cons_succ, Nat.zero_add
       exact ⟨rfl, Gr.app⟩)
    | omega
def Mks (ms : List Int) : Prop := ms.length = 6 ∧ ∀ d m, ms[d]? = some m → 0 ≤ m ∧ m ≤ topN d
def IMk (h0 : MH) (i : Nat) (acc : List Val) (h' : MH) : Prop := ∃ ms : List Int, acc = ms.map .int ∧ ms.length = i ∧ (∀ d m, ms[d]? = some m → 0 ≤ m ∧ m ≤ topN d) ∧ Gr h0 h'
theorem marks_run (hc : CellOk P) (ht : TopNOk P) {a : Nat} {z : Bool} {ns : List Int} (hs : h[a]? = some (.lst z (ns.map .int))) : (callB P dS_law_marks [.ref a] h).wp (fun v h' => ∃ ms, LstAt h' v (ms.map .int) h.length ∧ Mks ms ∧ Gr h h') NoE := by
  rw [wp_call]
  unfold dS_law_marks
  subst_eqs
  refine wp_compR (IMk h) ⟨[], rfl, rfl, fun _ _ h => by simp at h, Gr.refl⟩ ?_ ?_
  · rintro i acc h' hi ⟨ms, rfl, l, b, g⟩
    refine ⟨by simp; omega, ?_⟩
    have hs' := g.get hs
    have e1 : (0 : Int) + (i : Int) = i := by omega
    exists e1, hc hs', wi_nil, wi_cons
    refine wp_to (ht (by omega)) ?_
    rintro v h2 ⟨rfl, g2⟩
    have tp := topN_pos i
    have t1 : (0 : Int) < topN i + 1 := by omega
    exists t1
    refine ⟨ms ++ [cell ns (1 + (i : Int)).toNat % (topN i + 1)], by simp, by simp [l], fun d m hm => ?_, g.trans g2⟩
    by_cases c : d < ms.length
    · rw [List.getElem?_append_left c] at hm
      exact b d m hm
    · have dl := (List.getElem?_eq_some_iff.mp hm).1
      have e : d = i := by simp at dl; omega
      subst e
      rw [← l, List.getElem?_concat_length] at hm
      cases hm
      rw [l]
      have := Int.emod_nonneg (cell ns (1 + (d : Int)).toNat) (show topN d + 1 ≠ 0 by omega)
      have := Int.emod_lt_of_pos (cell ns (1 + (d : Int)).toNat) (show 0 < topN d + 1 by omega)
      omega
  · rintro acc h' ⟨ms, rfl, l, b, g⟩
    exact ⟨ms, .last g.len, ⟨l, b⟩, g.app1⟩
def In1 (t : Int) (p : Sg) : Prop := 0 ≤ p.1 ∧ p.1 ≤ p.2 ∧ p.2 ≤ t
abbrev StretchOk (P : Pg) : Prop := ∀ {h : MH} {m t c : Int}, 0 ≤ m → m ≤ t → t ≤ 4294967295 → (P.cf "_law_stretch" [.int m, .int t, .int c] h).wp (fun v h' => (∃ p, v = stV p ∧ In1 t p) ∧ h' = h) NoE
theorem stretch_run {m t c : Int} (h0 : 0 ≤ m) (h1 : m ≤ t) (h2 : t ≤ 4294967295) : (callB P dS_law_stretch [.int m, .int t, .int c] h).wp (fun v h' => (∃ p, v = stV p ∧ In1 t p) ∧ h' = h) NoE := by
  rw [wp_call]
  unfold dS_law_stretch
  have t1 : (0 : Int) < t + 1 := by omega
  have e1 := Int.emod_nonneg (c / 7) (show t + 1 ≠ 0 by omega)
  have e2 := Int.emod_lt_of_pos (c / 7) t1
  have e3 := Int.emod_nonneg (c % 2147483647 * 48271 % 2147483647) (show t + 1 ≠ 0 by omega)
  have e4 := Int.emod_lt_of_pos (c % 2147483647 * 48271 % 2147483647) t1
  have fin : ∀ a b : Int, 0 ≤ a → a ≤ b → b ≤ t → (∃ p, Val.tup [.int a, .int b] = stV p ∧ In1 t p) := fun a b x y z => ⟨(a, b), rfl, x, y, z⟩
  exists t1
  refine ⟨fun _ => fin _ _ ?_ ?_ ?_, fun _ => ⟨fun _ => fin _ _ ?_ ?_ ?_, fun _ => ⟨fun _ => fin _ _ ?_ ?_ ?_, fun _ => ⟨fun _ => fin _ _ ?_ ?_ ?_, fun _ => ⟨fun _ => fin _ _ ?_ ?_ ?_, fun _ => ⟨fun _ => fin _ _ ?_ ?_ ?_, fun _ => fin _ _ ?_ ?_ ?_⟩⟩⟩⟩⟩⟩
  all_goals omega
theorem ixN_nat {n k : Nat} (h : k < n) : L2.ixN n (k : Int) = some k := by
  unfold L2.ixN
  simp; omega
def wholeB : List Sg := [(0, topN 0), (0, topN 1), (0, topN 2), (0, topN 3), (0, topN 4), (0, topN 5)]
theorem whole_at {i : Nat} (hi : i < 6) : wholeB[i]? = some (0, topN i) := by
  rcases i with _ | _ | _ | _ | _ | _ | i
  all_goals first | rfl | omega
def IWh (h0 : MH) (i : Nat) (acc : List Val) (h' : MH) : Prop := acc = (wholeB.take i).map stV ∧ Gr h0 h'
theorem whole_comp (ht : TopNOk P) {j : Nat} (hj : j < ρ.length) : (compL (.nm j) [] ρ (evC P none) (evE P (.tup [.con (.int 0), .call "_law_top" [.var j]])) (rangeL 0 6 1) [] h).wp (fun ws h' => ws = wholeB.map stV ∧ Gr h h') NoE := by
  refine wp_compR (IWh h) ⟨rfl, Gr.refl⟩ ?_ ?_
  · rintro i acc h' hi ⟨rfl, g⟩
    have i6 : i < 6 := hi
    refine ⟨by simp; omega, ?_⟩
    have e1 : (0 : Int) + (i : Int) = i := by omega
    have e2 : getV (ρ.set j (some (.int (i : Int)))) j h' = .ok (.int i) h' := by simp [getV, hj]
    exists e1, e2
    refine wp_to (ht i6) ?_
    rintro v h2 ⟨rfl, g2⟩
    subst_eqs
    refine ⟨?_, g.trans g2⟩
    rw [List.take_add_one, whole_at i6, List.map_append]
    rfl
  · rintro acc h' ⟨rfl, g⟩
    exact ⟨rfl, g⟩
/-- a box of six stretches, each within its whole one -/
def InW (b : List Sg) : Prop := b.length = 6 ∧ ∀ d p, b[d]? = some p → In1 (topN d) p
def w0 (b : List Sg) (k : Nat) : Nat := if b[k]? = some (0, topN k) then 0 else 1
def nar (b : List Sg) : Nat := w0 b 0 + w0 b 1 + w0 b 2 + w0 b 3 + w0 b 4 + w0 b 5
theorem nar_whole : nar wholeB = 0 := by simp [nar, w0, wholeB]
theorem w0_le (b : List Sg) (k : Nat) : w0 b k ≤ 1 := by unfold w0; split <;> omega
theorem w0_set {b : List Sg} {d k : Nat} {p : Sg} (e : k ≠ d) : w0 (b.set d p) k = w0 b k := by
  unfold w0
  rw [List.getElem?_set_ne (Ne.symm e)]
theorem nar_set {b : List Sg} {d : Nat} {p : Sg} : nar (b.set d p) ≤ nar b + 1 := by
  have z := w0_le (b.set d p)
  unfold nar
  have a : ∀ k, w0 (b.set d p) k ≤ w0 b k + if k = d then 1 else 0 := fun k => by
    by_cases c : k = d
    · rw [if_pos c]; have := z k; omega
    · rw [if_neg c, w0_set c]; omega
  have a0 := a 0
  have a1 := a 1
  have a2 := a 2
  have a3 := a 3
  have a4 := a 4
  have a5 := a 5
  repeat' split at *
  all_goals omega
theorem inW_whole : InW wholeB := by
  refine ⟨rfl, fun d p h => ?_⟩
  have dl := (List.getElem?_eq_some_iff.mp h).1
  have d6 : d < 6 := dl
  rw [whole_at d6] at h
  cases h
  have := topN_pos d
  exact ⟨Int.le_refl _, by simp only; omega, Int.le_refl _⟩
theorem inW_set {b : List Sg} {d : Nat} {p : Sg} (h : InW b) (hp : In1 (topN d) p) : InW (b.set d p) := by
  refine ⟨by rw [List.length_set]; exact h.1, fun e q hq => ?_⟩
  by_cases c : d = e
  · subst c
    have dl := (List.getElem?_eq_some_iff.mp hq).1
    rw [List.length_set] at dl
    rw [List.getElem?_set_self dl] at hq
    cases hq; exact hp
  · rw [List.getElem?_set_ne c] at hq
    exact h.2 e q hq
abbrev BoxOk (P : Pg) : Prop := ∀ {h : MH} {M : Nat} {w : Bool} {ms : List Int} {c : Int} {wish : Nat}, h[M]? = some (.lst w (ms.map .int)) → Mks ms → wish ≤ 2 → (P.cf "_law_box" [.ref M, .int c, .int wish] h).wp (fun v h' => (∃ b, v = bxV b ∧ InW b ∧ nar b ≤ wish) ∧ Up h.length h h') NoE
def IBx (h0 : MH) (M : Nat) (c : Int) (wish : Nat) (i : Nat) (ρ : Env') (h' : MH) : Prop := ∃ (B at_ : Nat) (b : List Sg) (x5 x6 : Option Val), ρ = [some (.ref M), some (.int c), some (.int wish), some (.ref B), some (.int at_), x5, x6] ∧ at_ < 6 ∧ h'[B]? = some (.lst true (b.map stV)) ∧ InW b ∧ nar b ≤ i ∧ Up h0.length h0 h' ∧ h0.length ≤ B
theorem box_run (ht : TopNOk P) (hst : StretchOk P) {M : Nat} {w : Bool} {ms : List Int} {c : Int} {wish : Nat} (hM : h[M]? = some (.lst w (ms.map .int))) (hm : Mks ms) (hw : wish ≤ 2) :
    (callB P dS_law_box [.ref M, .int c, .int wish] h).wp (fun v h' => (∃ b, v = bxV b ∧ InW b ∧ nar b ≤ wish) ∧ Up h.length h h') NoE := by
  rw [wp_call]
  unfold dS_law_box
  have M1 := lt_of hM
  subst_eqs
  refine wp_to (whole_comp ht (by simp [wi_cons, wi_nil])) ?_
  intro ws h1 hh
  have e := hh.1
  have g1 := hh.2
  clear hh
  rw [e]
  have s6 : (0 : Int) < 6 := by decide
  subst_eqs
  refine ⟨by omega, ?_⟩
  obtain ⟨k0, hk0⟩ : ∃ k : Nat, c % 6 = k := ⟨(c % 6).toNat, by omega⟩
  refine wp_rng (IBx h M c wish) ⟨h1.length, k0, wholeB, _, _, by rw [hk0], by omega, app_last, inW_whole, by rw [nar_whole]; omega, (g1.app1).up, g1.len⟩ ?_ ?_
  · rintro i ρ h' hi ⟨B, at_, b, x5, x6, rfl, ha, hB, hb, hn, u, B1⟩
    rw [cnt_1] at hi
    have hM' := u.get M1 hM
    obtain ⟨m, hmm⟩ : ∃ m, ms[at_]? = some m := ⟨_, List.getElem?_eq_getElem (by have := hm.1; omega)⟩
    obtain ⟨m1, m2⟩ := hm.2 _ _ hmm
    exists hM', hmm
    refine wp_to (ht ha) ?_
    rintro v h2 ⟨rfl, g2⟩
    have tp := topN_pos at_
    have dv : divOk (1 + 13 * (i : Int)) := by
      rcases (by omega : i = 0 ∨ i = 1) with rfl | rfl <;> exact ⟨by decide, by decide +kernel⟩
    have e1 : (0 : Int) + (i : Int) = i := by omega
    exists dv, e1
    refine wp_to (hst m1 m2 tp.2) ?_
    intro v h3 hh
    obtain ⟨p, e2, hp⟩ := hh.1
    have e3 := hh.2
    subst e2
    subst e3
    have hB3 := g2.get hB
    have B3 := lt_of hB3
    obtain ⟨j, hj⟩ : ∃ j : Nat, (at_ + 1 + c / 6 % 5 : Int) % 6 = j := ⟨((at_ + 1 + c / 6 % 5 : Int) % 6).toNat, by omega⟩
    exists hB3, ixN_nat (show at_ < b.length by have := hb.1; omega), hj
    refine ⟨B, j, b.set at_ p, _, _, rfl, by omega, ?_, inW_set hb hp, Nat.le_trans nar_set (by omega), ?_, B1⟩
    · rw [set_get hB3, List.map_set]
    · exact (u.gr g2).set B1
  · rintro ρ h' ⟨B, at_, b, x5, x6, rfl, ha, hB, hb, hn, u, B1⟩
    rw [cnt_1] at hn
    exists hB
    exact ⟨⟨b, rfl, hb, by omega⟩, u⟩
def prodO : List (Option (List Sg)) → Nat
  | [] => 1
  | none :: l => prodO l
  | some b :: l => (1 + 2 * nar b) * prodO l
def prodB : List (List Sg) → Nat
  | [] => 1
  | b :: l => (1 + 2 * nar b) * prodB l
theorem prodO_some : ∀ bs : List (List Sg), prodO (bs.map some) = prodB bs
  | [] => rfl
  | b :: l => by simp only [List.map_cons, prodO, prodB, prodO_some l]
theorem prodO_none : ∀ n : Nat, prodO (List.replicate n none) = 1
  | 0 => rfl
  | n + 1 => by rw [List.replicate_succ]; exact prodO_none n
theorem prodO_set {b : List Sg} : ∀ {l : List (Option (List Sg))} {j : Nat}, l[j]? = some none → prodO (l.set j (some b)) = prodO l * (1 + 2 * nar b)
  | [], _, h => by simp at h
  | o :: l, 0, h => by
    simp at h
    subst h
    simp only [List.set_cons_zero, prodO]
    exact Nat.mul_comm _ _
  | o :: l, j + 1, h => by
    have ih := prodO_set (b := b) (l := l) (j := j) (by simpa using h)
    simp only [List.set_cons_succ]
    cases o with
    | none => exact ih
    | some c => simp only [prodO]; rw [ih, Nat.mul_assoc]
theorem all_some : ∀ {l : List (Option (List Sg))}, (∀ o ∈ l, ∃ b, o = some b ∧ InW b) → ∃ bs : List (List Sg), l = bs.map some ∧ ∀ b ∈ bs, InW b
  | [], _ => ⟨[], rfl, fun _ h => by cases h⟩
  | o :: l, h => by
    obtain ⟨b, rfl, hb⟩ := h o (List.mem_cons_self ..)
    obtain ⟨bs, rfl, hs⟩ := all_some fun o ho => h o (List.mem_cons_of_mem _ ho)
    refine ⟨b :: bs, rfl, fun c hc => ?_⟩
    rcases List.mem_cons.mp hc with rfl | hc
    · exact hb
    · exact hs c hc
/-- the places filled in k turns, from s0 on, round about -/
def off (many s0 j : Nat) : Nat := if s0 ≤ j then j - s0 else j + many - s0
def IBs (h0 : MH) (a M many s0 : Nat) (k : Nat) (ρ : Env') (h' : MH) : Prop := ∃ (B pc : Nat) (L : List (Option (List Sg))) (x5 x6 x7 x8 : Option Val), ρ = [some (.ref a), some (.ref M), some (.int many), some (.ref B), some (.int pc), x5, x6, x7, x8] ∧
  h'[B]? = some (.lst true (L.map opB)) ∧ pc ≤ 45 ∧ prodO L ≤ pc ∧ L.length = many ∧ (∀ j, j < many → if off many s0 j < k then ∃ b, L[j]? = some (some b) ∧ InW b else L[j]? = some none) ∧ Up h0.length h0 h' ∧ h0.length ≤ B
theorem IBs.next {h0 h' : MH} {a M many s0 k at_ B pc pc2 : Nat} {L : List (Option (List Sg))} {b : List Sg} {x5 x6 x7 x8 : Option Val} (hat : at_ < many) (ho : ∀ j, j < many → (off many s0 j = k ↔ j = at_)) (hB : h'[B]? = some (.lst true (L.map opB))) (hp : pc2 ≤ 45) (hq : prodO L ≤ pc) (hpc : pc * (1 + 2 * nar b) ≤ pc2) (hl : L.length = many)
    (hL : ∀ j, j < many → if off many s0 j < k then ∃ b, L[j]? = some (some b) ∧ InW b else L[j]? = some none) (hb : InW b) (u : Up h0.length h0 h') (hB0 : h0.length ≤ B) :
    IBs h0 a M many s0 (k + 1) [some (.ref a), some (.ref M), some (.int many), some (.ref B), some (.int pc2), x5, x6, x7, x8] (h'.set B (.lst true ((L.map opB).set at_ (bxV b)))) := by
  have hat' : L[at_]? = some none := by
    have z := hL at_ hat
    rw [if_neg (by have := (ho at_ hat).mpr rfl; omega)] at z
    exact z
  refine ⟨B, pc2, L.set at_ (some b), _, _, _, _, rfl, ?_, hp, ?_, by rw [List.length_set]; exact hl, fun j hj => ?_, u.set hB0, hB0⟩
  · rw [set_get hB, List.map_set]; rfl
  · rw [prodO_set hat']
    exact Nat.le_trans (Nat.mul_le_mul_right _ hq) hpc
  · have z := hL j hj
    have e := ho j hj
    by_cases c : j = at_
    · subst c
      rw [if_pos (by have := e.mpr rfl; omega)]
      exact ⟨b, List.getElem?_set_self (by omega), hb⟩
    · rw [List.getElem?_set_ne (Ne.symm c)]
      have ne : off many s0 j ≠ k := fun q => c (e.mp q)
      by_cases d : off many s0 j < k
      · rw [if_pos d] at z
        rw [if_pos (by omega)]
        exact z
      · rw [if_neg d] at z
        rw [if_neg (by omega)]
        exact z
theorem wish_at (c : Int) : ∃ w : Nat, w ≤ 2 ∧ L2.atI [Val.int 0, .int 1, .int 1, .int 2] (c % 4) = some (.int w) := by
  have h0 := Int.emod_nonneg c (show (4 : Int) ≠ 0 by decide)
  have h1 := Int.emod_lt_of_pos c (show (0 : Int) < 4 by decide)
  rcases (by omega : c % 4 = 0 ∨ c % 4 = 1 ∨ c % 4 = 2 ∨ c % 4 = 3) with e | e | e | e <;> rw [e]
  · exact ⟨0, by omega, at_0⟩
  · exact ⟨1, by omega, at_1⟩
  · exact ⟨1, by omega, at_2⟩
  · exact ⟨2, by omega, at_3⟩
abbrev BoxesOk (P : Pg) : Prop := ∀ {h : MH} {a M : Nat} {z w : Bool} {ns ms : List Int} {many : Nat}, h[a]? = some (.lst z (ns.map .int)) → h[M]? = some (.lst w (ms.map .int)) → Mks ms → many ≤ 8 →
  (P.cf "_law_boxes" [.ref a, .ref M, .int many] h).wp (fun v h' => ∃ bs, LstAt h' v (bs.map bxV) h.length ∧ bs.length = many ∧ (∀ b ∈ bs, InW b) ∧ prodB bs ≤ 45 ∧ Up h.length h h') NoE
theorem boxes_run (hc : CellOk P) (hbx : BoxOk P) {a M : Nat} {z w : Bool} {ns ms : List Int} {many : Nat} (hs : h[a]? = some (.lst z (ns.map .int))) (hM : h[M]? = some (.lst w (ms.map .int))) (hm : Mks ms) (h8 : many ≤ 8) :
    (callB P dS_law_boxes [.ref a, .ref M, .int many] h).wp (fun v h' => ∃ bs, LstAt h' v (bs.map bxV) h.length ∧ bs.length = many ∧ (∀ b ∈ bs, InW b) ∧ prodB bs ≤ 45 ∧ Up h.length h h') NoE := by
  rw [wp_call]
  unfold dS_law_boxes
  have a1 := lt_of hs
  have M1 := lt_of hM
  have l1 : ([Val.non] : List Val).length * many ≤ 4096 := by simp; omega
  have m1 : (many : Int) ≤ 4096 := by omega
  exists l1, m1, Int.toNat_natCast
  refine ⟨by omega, by omega, ?_⟩
  have er : (List.replicate many [Val.non]).flatten = (List.replicate many (none : Option (List Sg))).map opB := by
    rw [List.map_replicate]
    induction many with
    | zero => rfl
    | succ n ih => rw [List.replicate_succ, List.replicate_succ, List.flatten_cons]; simp [opB]
  rw [er]
  refine wp_rng (IBs h a M many ((cell ns 0 / 90) % many).toNat) ⟨_, 1, List.replicate many none, _, _, _, _, rfl, app_last, by omega, by rw [prodO_none]; exact Nat.le_refl _, List.length_replicate, fun j hj => ?_, (Up.refl.app).app, by simp⟩ ?_ ?_
  · rw [if_neg (Nat.not_lt_zero _)]
    rw [List.getElem?_replicate, if_pos hj]
  · rintro k ρ h' hk ⟨B, pc, L, x5, x6, x7, x8, rfl, hB, hp, hq, hl, hL, u, hB0⟩
    rw [cnt_1] at hk
    have mz : (0 : Int) < many := by omega
    have hs' := u.get a1 hs
    have s0 := Int.emod_nonneg (cell ns 0 / 90) (show (many : Int) ≠ 0 by omega)
    have s1 := Int.emod_lt_of_pos (cell ns 0 / 90) mz
    have ea : (cell ns 0 / 90 + (k : Int)) % many = (((cell ns 0 / 90) % many) + k) % many := by rw [Int.emod_add_emod]
    obtain ⟨s, es⟩ : ∃ s : Nat, cell ns 0 / 90 % many = s := ⟨(cell ns 0 / 90 % many).toNat, by omega⟩
    rw [es] at ea hL ⊢
    rw [Int.toNat_natCast] at hL ⊢
    have sl : s < many := by omega
    obtain ⟨at_, ha, hat⟩ : ∃ at_ : Nat, ((s : Int) + k) % many = at_ ∧ at_ = if s + k < many then s + k else s + k - many := by
      by_cases c : s + k < many
      · exact ⟨s + k, by rw [Int.emod_eq_of_lt (by omega) (by omega)]; omega, by rw [if_pos c]⟩
      · refine ⟨s + k - many, ?_, by rw [if_neg c]⟩
        have e : ((s : Int) + k) = ((s + k - many : Nat) : Int) + many := by omega
        rw [e, Int.add_emod_right, Int.emod_eq_of_lt (by omega) (by omega)]
    have atl : at_ < many := by split at hat <;> omega
    have ho : ∀ j, j < many → (off many s j = k ↔ j = at_) := fun j hj => by
      unfold off
      split at hat <;> split <;> omega
    rw [ha] at ea
    have e1 : (0 : Int) + (k : Int) = k := by omega
    have mo : ∀ x : Int, mulOk (pc : Int) x := fun x => .inl ⟨by omega, by omega⟩
    obtain ⟨wi, w2, hwi⟩ := wish_at (cell ns (8 + 2 * (at_ : Int)).toNat)
    have M' := u.get M1 hM
    have g4 : ∀ o, Gr h' (h' ++ [o]) := fun o => Gr.app
    have lM : (L.map opB).length = many := by rw [List.length_map]; exact hl
    exists hc hs', e1, mz, ea, hc (Gr.app.get hs'), hwi, mo
    have M2 := (g4 (Ob.lst true [Val.int 0, Val.int 1, Val.int 1, Val.int 2])).get M'
    have B2 := lt_of hB
    have fin : ∀ (wi pc2 : Nat) (pcv : Int) (v : Val) (h2 : MH), (∃ b, v = bxV b ∧ InW b ∧ nar b ≤ wi) ∧ Up (h' ++ [Ob.lst true [Val.int 0, Val.int 1, Val.int 1, Val.int 2]]).length (h' ++ [Ob.lst true [Val.int 0, Val.int 1, Val.int 1, Val.int 2]]) h2 → pc2 ≤ 45 → pc * (1 + 2 * wi) ≤ pc2 → pcv = pc2 → ∀ y8,
        h2[B]? = some (Ob.lst true (List.map opB L)) ∧ IBs h a M many s (k + 1) [some (.ref a), some (.ref M), some (.int many), some (.ref B), some (.int pcv), some (.int k), some (.int at_), some (.int (cell ns (8 + 2 * (at_ : Int)).toNat)), y8] (h2.set B (.lst true ((L.map opB).set at_ v))) := by
      intro wi pc2 pcv v h2 hh p1 p2 e y8
      obtain ⟨b, e1, hb, hn⟩ := hh.1
      have u2 := hh.2
      subst e1
      subst e
      have hB2 := u2.get (by simp; omega) (Gr.app.get hB)
      exact ⟨hB2, IBs.next atl ho hB2 p1 hq (Nat.le_trans (Nat.mul_le_mul_left _ (by omega)) p2) hl hL hb ((u.gr Gr.app).trans u2 (by simp; omega)) hB0⟩
    refine ⟨fun c => ?_, fun c => ?_⟩
    · refine wp_to (hbx (wish := 0) M2 hm (by omega)) ?_
      intro v h2 hh
      obtain ⟨f1, f2⟩ := fin 0 pc pc v h2 hh hp (by omega) rfl (some (.int 0))
      exists f1, hl, ixN_nat atl
      exact f2
    · refine wp_to (hbx M2 hm w2) ?_
      intro v h2 hh
      obtain ⟨p2, hp2⟩ : ∃ p2 : Nat, p2 = pc * (1 + 2 * wi) := ⟨_, rfl⟩
      have pe : (p2 : Int) = (pc : Int) * (1 + 2 * (wi : Int)) := by rw [hp2]; simp
      rw [← pe] at c
      obtain ⟨f1, f2⟩ := fin wi p2 ((pc : Int) * (1 + 2 * (wi : Int))) v h2 hh (by omega) (by omega) pe.symm (some (.int wi))
      exists f1, hl, ixN_nat atl
      exact f2
  · rintro ρ h' ⟨B, pc, L, x5, x6, x7, x8, rfl, hB, hp, hq, hl, hL, u, hB0⟩
    rw [cnt_1] at hL
    subst_eqs
    obtain ⟨bs, e, hi⟩ := all_some (l := L) fun o ho => by
      obtain ⟨j, hj⟩ := List.mem_iff_getElem?.mp ho
      have jl := (List.getElem?_eq_some_iff.mp hj).1
      have z := hL j (by omega)
      rw [if_pos (by
        have := Int.emod_nonneg (cell ns 0 / 90) (show (many : Int) ≠ 0 by omega)
        have := Int.emod_lt_of_pos (cell ns 0 / 90) (show (0 : Int) < many by omega)
        unfold off
        split <;> omega)] at z
      obtain ⟨b, hb, ib⟩ := z
      rw [hj] at hb
      cases hb
      exact ⟨b, rfl, ib⟩
    subst e
    rw [List.length_map] at hl
    rw [prodO_some] at hq
    refine ⟨bs, ⟨B, rfl, ?_, hB0⟩, hl, hi, by omega, u⟩
    rw [hB, List.map_map]; rfl
/-! ### names, rules -/
theorem repS_list {z : Str} (n : Nat) : (repS z n).cps.toList = (List.replicate n z.cps.toList).flatten := by
  have f : ∀ (n : Nat) (a : Array Nat), ((List.replicate n z.cps).foldl (· ++ ·) a).toList = a.toList ++ (List.replicate n z.cps.toList).flatten := by
    intro n
    induction n with
    | zero => intro a; simp
    | succ n ih => intro a; rw [List.replicate_succ, List.foldl_cons, ih, List.replicate_succ, List.flatten_cons]; simp
  unfold repS
  rw [f]
  simp
theorem str_len {s : Str} : s.length = s.cps.toList.length := by simp [Str.length]
theorem app_list {s t : Str} : (s ++ t).cps.toList = s.cps.toList ++ t.cps.toList := by
  show (s.cps ++ t.cps).toList = _
  simp
theorem repq_list (n : Nat) : (repS (Str.ofString "q") n).cps.toList = List.replicate n 113 := by
  rw [repS_list]
  have e : (Str.ofString "q").cps.toList = [113] := by decide +kernel
  rw [e]
  induction n with
  | zero => rfl
  | succ n ih => rw [List.replicate_succ, List.replicate_succ, List.flatten_cons, ih]; rfl
/-- a drawn name: one sign of eight, else q -/
def Nmk (k : Nat) (s : Str) : Prop := (∀ c ∈ s.cps.toList, c = 113 ∨ (97 + 8 * k ≤ c ∧ c < 105 + 8 * k)) ∧ (∃ c ∈ s.cps.toList, 97 + 8 * k ≤ c ∧ c < 105 + 8 * k) ∧ s.cps.toList.length ≤ 12
theorem name_run {c : Int} {k : Nat} (hk : k ≤ 1) : (callB P dS_law_name [.int c, .int k] h).wp (fun v h' => (∃ s, v = .str s ∧ Nmk k s) ∧ h' = h) NoE := by
  rw [wp_call]
  unfold dS_law_name
  obtain ⟨m, hm⟩ : ∃ m : Nat, 1 + c % 12 = m := ⟨(1 + c % 12).toNat, by omega⟩
  have m1 : (0 : Int) < m := by omega
  obtain ⟨a, ha⟩ : ∃ a : Nat, c / 12 % (m : Int) = a := ⟨(c / 12 % (m : Int)).toNat, by have := Int.emod_nonneg (c / 12) (show (m : Int) ≠ 0 by omega); omega⟩
  have al : a < m := by have := Int.emod_lt_of_pos (c / 12) m1; omega
  obtain ⟨b, hb⟩ : ∃ b : Nat, (m : Int) - 1 - a = b := ⟨m - 1 - a, by omega⟩
  obtain ⟨j, hj⟩ : ∃ j : Nat, c / 144 % 8 + 8 * (k : Int) = j := ⟨(c / 144 % 8 + 8 * (k : Int)).toNat, by omega⟩
  have jl : 8 * k ≤ j ∧ j < 8 * k + 8 := by omega
  have q1 : (Str.ofString "q").length = 1 := by decide +kernel
  have el : (Str.ofString "abcdefghijklmnop").cps.toList = (List.range 16).map (97 + ·) := by decide +kernel
  have ll : (Str.ofString "abcdefghijklmnop").length = 16 := by decide +kernel
  have ej : ((List.range 16).map (97 + ·))[j]? = some (97 + j) := by
    rw [List.getElem?_map, List.getElem?_range (by omega)]; rfl
  have t1 : (repS (Str.ofString "q") a).length + (⟨#[97 + j]⟩ : Str).length ≤ 4096 := by
    rw [str_len, repq_list, List.length_replicate]
    show a + 1 ≤ 4096
    omega
  have t2 : (repS (Str.ofString "q") a ++ (⟨#[97 + j]⟩ : Str)).length + (repS (Str.ofString "q") b).length ≤ 4096 := by
    rw [str_len, str_len, app_list, repq_list, repq_list, List.length_append, List.length_replicate, List.length_replicate]
    show a + 1 + b ≤ 4096
    omega
  exists hm, m1, ha, hb, hj, q1, el, ll, ej, t1, t2, Int.toNat_natCast, Nat.one_mul, Nat.le_refl
  refine ⟨by omega, by omega, ?_⟩
  have e : (repS (Str.ofString "q") a ++ (⟨#[97 + j]⟩ : Str) ++ repS (Str.ofString "q") b).cps.toList = List.replicate a 113 ++ [97 + j] ++ List.replicate b 113 := by
    rw [app_list, app_list, repq_list, repq_list]
  unfold Nmk
  rw [e]
  refine ⟨fun x hx => ?_, ⟨97 + j, by simp, by omega⟩, by simp; omega⟩
  simp at hx
  omega
inductive Rl where
  | word (s : Bool) (b : List Sg) | back (b : List Sg) | call (b : List Sg) (nm : Str)
def sPass : Str := Str.ofString "pass"
def sStop : Str := Str.ofString "stop"
def sBack : Str := Str.ofString "back"
def sCall : Str := Str.ofString "call"
def sMain : Str := Str.ofString "main"
def wdS (s : Bool) : Str := if s = true then sStop else sPass
def Rl.bx : Rl → List Sg
  | .word _ b => b
  | .back b => b
  | .call b _ => b
def Rl.wd : Rl → Str
  | .word s _ => wdS s
  | .back _ => sBack
  | .call _ _ => sCall
def rlV : Rl → Val
  | .word s b => .tup [.str (wdS s), bxV b]
  | .back b => .tup [.str sBack, bxV b]
  | .call b nm => .tup [.str sCall, bxV b, .str nm]
theorem rl_0 {r : Rl} : (index (rlV r) (.int 0) h).wp Q Z = Q (.str r.wd) h := by cases r <;> (unfold rlV; exists at_0) <;> rfl
theorem rl_1 {r : Rl} : (index (rlV r) (.int 1) h).wp Q Z = Q (bxV r.bx) h := by cases r <;> (unfold rlV; exists at_1) <;> rfl
theorem rl_2 {b : List Sg} {nm : Str} : (index (rlV (.call b nm)) (.int 2) h).wp Q Z = Q (.str nm) h := by unfold rlV; exists at_2
theorem wd_call {r : Rl} : decide (r.wd = Str.ofString "call") = match r with
    | .call _ _ => true
    | _ => false := by
  cases r with
  | word s b => cases s <;> (show decide (wdS _ = _) = false) <;> decide +kernel
  | back b => show decide (sBack = _) = false; decide +kernel
  | call b nm => show decide (sCall = _) = true; decide +kernel
theorem wd_back {r : Rl} : decide (r.wd = Str.ofString "back") = match r with
    | .back _ => true
    | _ => false := by
  cases r with
  | word s b => cases s <;> (show decide (wdS _ = _) = false) <;> decide +kernel
  | back b => show decide (sBack = _) = true; decide +kernel
  | call b nm => show decide (sCall = _) = false; decide +kernel
/-- whom a rule of the rank may call -/
def RlOk (names : List Str) (lv : Nat) (r : Rl) : Prop := match r with
  | .call _ nm => ∃ j, lv < j ∧ j ≤ 2 ∧ names[j]? = some nm
  | _ => True
abbrev RuleOk (P : Pg) : Prop := ∀ {h : MH} {c cl : Int} {lv N : Nat} {w : Bool} {b : List Sg} {names : List Str}, lv ≤ 2 → h[N]? = some (.lst w (names.map .str)) → names.length = 3 →
  (P.cf "_law_rule" [.int c, .int lv, bxV b, .ref N, .int cl] h).wp (fun v h' => (∃ r, v = rlV r ∧ r.bx = b ∧ RlOk names lv r) ∧ Gr h h') NoE
theorem rule_run {c cl : Int} {lv N : Nat} {w : Bool} {b : List Sg} {names : List Str} (h2 : lv ≤ 2) (hN : h[N]? = some (.lst w (names.map .str))) (h3 : names.length = 3) :
    (callB P dS_law_rule [.int c, .int lv, bxV b, .ref N, .int cl] h).wp (fun v h' => (∃ r, v = rlV r ∧ r.bx = b ∧ RlOk names lv r) ∧ Gr h h') NoE := by
  rw [wp_call]
  unfold dS_law_rule
  obtain ⟨j, hj⟩ : ∃ j : Nat, max ((lv : Int) + 1) (1 + c / 8 % 2) = j := ⟨(max ((lv : Int) + 1) (1 + c / 8 % 2)).toNat, by omega⟩
  have w2 : ∃ s : Bool, L2.atI [Val.str (Str.ofString "pass"), .str (Str.ofString "stop")] (c % 8 % 2) = some (.str (wdS s)) := by
    have z : c % 8 % 2 = 0 ∨ c % 8 % 2 = 1 := by omega
    rcases z with z | z <;> rw [z]
    · exact ⟨false, at_0⟩
    · exact ⟨true, at_1⟩
  obtain ⟨s, ws⟩ := w2
  have fw : ∀ h1, (∃ r, Val.tup [.str (wdS s), bxV b] = rlV r ∧ r.bx = b ∧ RlOk names lv r) ∧ Gr h1 h1 := fun h1 => ⟨⟨.word s b, rfl, rfl, trivial⟩, Gr.refl⟩
  exists hN, hj, ws
  refine ⟨fun _ => ⟨⟨.back b, rfl, rfl, trivial⟩, Gr.refl⟩, fun _ => ?_⟩
  have fg : ∀ h1, Gr h h1 → (∃ r, Val.tup [.str (wdS s), bxV b] = rlV r ∧ r.bx = b ∧ RlOk names lv r) ∧ Gr h h1 := fun h1 g => ⟨(fw h1).1, g⟩
  refine ⟨fun _ => ⟨fun l => ⟨fun _ => ?_, fun _ => fg _ Gr.app⟩, fun _ => fg _ Gr.app⟩, fun _ => fg _ Gr.app⟩
  obtain ⟨nm, hnm⟩ : ∃ nm, names[j]? = some nm := ⟨_, List.getElem?_eq_getElem (by omega)⟩
  exists hnm
  exact ⟨⟨.call b nm, rfl, rfl, j, by omega, by omega, hnm⟩, Gr.refl⟩
/-! ### chains -/
abbrev Ch := Str × List Rl
def ChR (n0 C : Nat) (h : MH) (v : Val) (c : Ch) : Prop := ∃ a, v = .tup [.str c.1, .ref a] ∧ h[a]? = some (.lst true (c.2.map rlV)) ∧ a ≠ C ∧ n0 ≤ a
theorem ChR.up {n0 C : Nat} {h h2 : MH} (u : Up h.length h h2) {v : Val} {c : Ch} : ChR n0 C h v c → ChR n0 C h2 v c := fun ⟨a, x, y, z⟩ => ⟨a, x, u.get (lt_of y) y, z⟩
theorem ChR.set {n0 C : Nat} {h : MH} {o : Ob} {v : Val} {c : Ch} : ChR n0 C h v c → ChR n0 C (h.set C o) v c := fun ⟨a, x, y, z, w⟩ => ⟨a, x, (set_ne z).trans y, z, w⟩
def RuP (names : List Str) (bs : List (List Sg)) (i : Nat) (r : Rl) : Prop := r.bx ∈ bs ∧ RlOk names i r
def ChP (names : List Str) (sizes : List Nat) (bs : List (List Sg)) (i : Nat) (c : Ch) : Prop := names[i]? = some c.1 ∧ (∃ s, sizes[i]? = some s ∧ c.2.length = s) ∧ ∀ r ∈ c.2, RuP names bs i r
def IRu (h1 : MH) (a S B N C : Nat) (sh : Int) (names : List Str) (bs : List (List Sg)) (at0 lv : Nat) (i : Nat) (ρ : Env') (h' : MH) : Prop := ∃ (rs : List Rl) (k : Nat) (cl : Int) (x10 : Option Val),
  ρ = [some (.ref a), some (.int sh), some (.ref S), some (.ref B), some (.ref N), some (.ref C), some (.int k), some (.int lv), some (.ref h1.length), some (.int cl), x10] ∧ k = at0 + i ∧
  h'[h1.length]? = some (.lst true (rs.map rlV)) ∧ rs.length = i ∧ (∀ r ∈ rs, RuP names bs lv r) ∧ Up h1.length h1 h'
def ICh (h1 : MH) (a S B N : Nat) (sh : Int) (names : List Str) (sizes : List Nat) (bs : List (List Sg)) (lv : Nat) (ρ : Env') (h' : MH) : Prop := ∃ (cvs : List Val) (chs : List Ch) (k : Nat) (x7 x8 x9 x10 : Option Val),
  ρ = [some (.ref a), some (.int sh), some (.ref S), some (.ref B), some (.ref N), some (.ref h1.length), some (.int k), x7, x8, x9, x10] ∧ k = (sizes.take lv).sum ∧
  h'[h1.length]? = some (.lst true cvs) ∧ F2 (ChR h1.length h1.length h') cvs chs ∧ chs.length = lv ∧ (∀ i c, chs[i]? = some c → ChP names sizes bs i c) ∧ Up h1.length h1 h'
theorem at_neg {xs : List Val} {v : Val} : L2.atI (xs ++ [v]) (-1) = some v := by
  unfold L2.atI L2.ixN
  have e : (-1 + ((xs.length : Int) + 1)).toNat = xs.length := by omega
  simp
  rw [if_pos (by omega), e]
  simp
/-- where the chains lie -/
def BookAt (n0 : Nat) (h : MH) (C : Nat) (chs : List Ch) : Prop := ∃ cvs, h[C]? = some (.lst true cvs) ∧ F2 (ChR n0 C h) cvs chs ∧ n0 ≤ C
def Drawn (names : List Str) (sizes : List Nat) (bs : List (List Sg)) (chs : List Ch) : Prop := ∃ c0 c1 c2 : Ch, ChP names sizes bs 0 c0 ∧ ChP names sizes bs 1 c1 ∧ ChP names sizes bs 2 c2 ∧ (chs = [c0, c1, c2] ∨ chs = [c0, c2, c1])
abbrev NameOk (P : Pg) : Prop := ∀ {h : MH} {c : Int} {k : Nat}, k ≤ 1 → (P.cf "_law_name" [.int c, .int k] h).wp (fun v h' => (∃ s, v = .str s ∧ Nmk k s) ∧ h' = h) NoE
abbrev MarksOk (P : Pg) : Prop := ∀ {h : MH} {a : Nat} {z : Bool} {ns : List Int}, h[a]? = some (.lst z (ns.map .int)) → (P.cf "_law_marks" [.ref a] h).wp (fun v h' => ∃ ms, LstAt h' v (ms.map .int) h.length ∧ Mks ms ∧ Gr h h') NoE
def DrawnBook (h : MH) (v : Val) (h' : MH) : Prop := ∃ n1 n2 sizes bs chs C, v = .ref C ∧ BookAt h.length h' C chs ∧ Drawn [sMain, n1, n2] sizes bs chs ∧ Nmk 0 n1 ∧ Nmk 1 n2 ∧ (∃ s0 s1 s2, sizes = [s0, s1, s2] ∧ s0 ≤ 4 ∧ s1 ≤ 2 ∧ s2 ≤ 2) ∧ (∀ b ∈ bs, InW b) ∧ prodB bs ≤ 45 ∧ Up h.length h h'
theorem chains_run (hc : CellOk P) (hbs : BoxesOk P) (hmk : MarksOk P) (hnm : NameOk P) (hru : RuleOk P) {a : Nat} {z : Bool} {ns : List Int} (hs : h[a]? = some (.lst z (ns.map .int))) :
    (callB P dS_law_chains [.ref a] h).wp (DrawnBook h) NoE := by
  rw [wp_call]
  unfold dS_law_chains
  have a1 := lt_of hs
  obtain ⟨s0, e0, l0⟩ : ∃ s : Nat, cell ns 0 / 2 % 5 = s ∧ s ≤ 4 := ⟨(cell ns 0 / 2 % 5).toNat, by omega, by omega⟩
  obtain ⟨s1, e1, l1⟩ : ∃ s : Nat, cell ns 0 / 2 / 5 % 3 = s ∧ s ≤ 2 := ⟨(cell ns 0 / 2 / 5 % 3).toNat, by omega, by omega⟩
  obtain ⟨s2, e2, l2⟩ : ∃ s : Nat, cell ns 0 / 2 / 15 % 3 = s ∧ s ≤ 2 := ⟨(cell ns 0 / 2 / 15 % 3).toNat, by omega, by omega⟩
  have hs1 : ∀ o, (h ++ [o])[a]? = some (.lst z (ns.map .int)) := fun o => Gr.app.get hs
  exists hc hs, e0, e1, e2
  refine wp_to (hmk (hs1 _)) ?_
  intro v h2 hh
  obtain ⟨ms, hl, hm, g2⟩ := hh
  obtain ⟨M, e, hM, M1⟩ := hl
  subst e
  have gS : Gr (h ++ [Ob.lst true [Val.int s0, .int s1, .int s2]]) h2 := g2
  have hS := gS.get app_last
  have esum : ([(s0 : Int), (s1 : Int), (s2 : Int)]).sum = ((s0 + s1 + s2 : Nat) : Int) := by simp; omega
  exists hS, esum
  have hs2 := (g2.get (hs1 _))
  refine wp_to (hbs hs2 hM hm (by omega)) ?_
  intro v h3 hh
  obtain ⟨bs, hlB, bl, hbI, hpB, u3⟩ := hh
  obtain ⟨B, e, hB, B1⟩ := hlB
  subst e
  have a2 := lt_of hs2
  have S2 := lt_of hS
  have hs3 := u3.get a2 hs2
  have hS3 := u3.get S2 hS
  exists hc hs3
  refine wp_to (hnm (k := 0) (by omega)) ?_
  intro v h3' hh
  obtain ⟨n1, e, k1⟩ := hh.1
  have e' := hh.2
  subst e
  subst e'
  exists hc hs3
  refine wp_to (hnm (k := 1) (by omega)) ?_
  intro v h3 hh
  obtain ⟨n2, e, k2⟩ := hh.1
  have e' := hh.2
  subst e
  subst e'
  subst_eqs
  have gN : Gr h3 (h3 ++ [Ob.lst true [Val.str (Str.ofString "main"), .str n1, .str n2]]) := Gr.app
  have hN : (h3 ++ [Ob.lst true [Val.str (Str.ofString "main"), .str n1, .str n2]])[h3.length]? = some (.lst true ([sMain, n1, n2].map .str)) := app_last
  have hs4 := gN.get hs3
  have hS4 := gN.get hS3
  have hB4 := gN.get hB
  have u04 : Up h.length h (h3 ++ [Ob.lst true [Val.str (Str.ofString "main"), .str n1, .str n2]]) := ((((Gr.app (h := h) (g := [Ob.lst true [Val.int s0, .int s1, .int s2]])).trans g2).up).trans u3 (by have := g2.len; simp at this; omega)).gr gN
  generalize h3 ++ [Ob.lst true [Val.str (Str.ofString "main"), .str n1, .str n2]] = h4 at *
  have S4 := lt_of hS4
  have B4 := lt_of hB4
  have N4 := lt_of hN
  have a4 := lt_of hs4
  have hh4 := u04.1
  refine wp_rng (ICh h4 a h.length B h3.length (cell ns 0 / 2) [sMain, n1, n2] [s0, s1, s2] bs) ⟨[], [], 0, _, _, _, _, rfl, rfl, app_last, .nil, rfl, fun i c h => by simp at h, Up.refl.app⟩ ?_ ?_
  · rintro lv ρ h' hlv ⟨cvs, chs, k, x7, x8, x9, x10, rfl, hk, hC, hF, hL, hP, u⟩
    have lv3 : lv < 3 := hlv
    obtain ⟨s, hsz⟩ : ∃ s, [s0, s1, s2][lv]? = some s := ⟨_, List.getElem?_eq_getElem (by simpa using lv3)⟩
    have hsz2 : [Val.int (s0 : Int), .int s1, .int s2][lv]? = some (.int s) := by
      have : [Val.int (s0 : Int), .int s1, .int s2] = [s0, s1, s2].map fun (x : Nat) => Val.int x := rfl
      rw [this, List.getElem?_map, hsz]; rfl
    have ss : ([s0, s1, s2].take (lv + 1)).sum = ([s0, s1, s2].take lv).sum + s := by
      rw [List.take_add_one, hsz, List.sum_append]; simp
    have sle : ([s0, s1, s2].take (lv + 1)).sum ≤ bs.length := by
      rcases (by omega : lv = 0 ∨ lv = 1 ∨ lv = 2) with r | r | r <;> subst r <;> simp [bl] <;> omega
    have s4 : s ≤ 4 := by
      rcases (by omega : lv = 0 ∨ lv = 1 ∨ lv = 2) with r | r | r <;> subst r <;> simp at hsz <;> omega
    have hS' := u.get S4 hS4
    have elv : (0 : Int) + (lv : Int) = lv := by omega
    have S' := lt_of hS'
    exists elv, hS', hsz2, S'
    refine ⟨by omega, ?_⟩
    refine wp_rng (IRu h' a h.length B h3.length h4.length (cell ns 0 / 2) [sMain, n1, n2] bs k lv) ⟨[], k, 0, _, rfl, by omega, app_last, rfl, (fun r h => by cases h), Up.refl.app⟩ ?_ ?_
    · rintro i ρ h'' hi ⟨rs, k2, cl, x10, rfl, hk2, hR, hl, hrs, u2⟩
      rw [cnt_1] at hi
      have uu := u.trans u2 u.1
      have hs5 := uu.get a4 hs4
      have hB5 := uu.get B4 hB4
      have hN5 := uu.get N4 hN
      obtain ⟨b, hb⟩ : ∃ b, bs[k2]? = some b := ⟨_, List.getElem?_eq_getElem (by omega)⟩
      exists hc hs5, hB5, hb, hR
      refine wp_to (hru (by omega) hN5 rfl) ?_
      intro v h6 hh
      obtain ⟨r, e, er, hr⟩ := hh.1
      have g6 := hh.2
      subst e
      have hR6 := g6.get hR
      have l4 : rs.length ≤ 4096 := by omega
      exists hR6, l4, at_neg, rl_0, set_get hR6
      refine ⟨rs ++ [r], k2 + 1, _, _, rfl, by omega, ?_, by simp [hl], fun q hq => ?_, (u2.gr g6).set (Nat.le_refl _)⟩
      · rw [set_get hR6, List.map_append]; rfl
      · rcases List.mem_append.mp hq with x | x
        · exact hrs q x
        · rw [List.mem_singleton.mp x]
          exact ⟨by rw [er]; exact List.mem_of_getElem? hb, hr⟩
    · rintro ρ h'' ⟨rs, k2, cl, x10, rfl, hk2, hR, hl, hrs, u2⟩
      rw [cnt_1] at hl hk2
      have C' := lt_of hC
      have hC2 := u2.get C' hC
      have uu := u.trans u2 u.1
      have hN5 := uu.get N4 hN
      have cl4 := hF.len
      have l4 : cvs.length ≤ 4096 := by omega
      obtain ⟨nm, hnm'⟩ : ∃ nm, [sMain, n1, n2][lv]? = some nm := ⟨_, List.getElem?_eq_getElem (by simpa using lv3)⟩
      have hnm2 : [Val.str sMain, .str n1, .str n2][lv]? = some (.str nm) := by
        have : [Val.str sMain, .str n1, .str n2] = [sMain, n1, n2].map Val.str := rfl
        rw [this, List.getElem?_map, hnm']; rfl
      exists hC2, l4, hN5, hnm2
      refine ⟨cvs ++ [.tup [.str nm, .ref h'.length]], chs ++ [(nm, rs)], k2, _, _, _, _, rfl, by omega, set_get hC2, ?_, by simp [hL], fun i c hc => ?_, uu.set (Nat.le_refl _)⟩
      · refine ((hF.imp fun _ _ x => (ChR.up u2 x)).snoc (b := (nm, rs)) ⟨h'.length, rfl, hR, by have := lt_of hC; omega, by omega⟩).imp fun _ _ x => ChR.set x
      · by_cases d : i < chs.length
        · rw [List.getElem?_append_left d] at hc
          exact hP i c hc
        · have dl := (List.getElem?_eq_some_iff.mp hc).1
          have e : i = chs.length := by simp at dl; omega
          rw [e, List.getElem?_concat_length] at hc
          cases hc
          rw [e, hL]
          exact ⟨hnm', ⟨s, hsz, by show rs.length = s; omega⟩, hrs⟩
  · rintro ρ h' ⟨cvs, chs, k, x7, x8, x9, x10, rfl, hk, hC, hF, hL, hP, u⟩
    have hL : chs.length = 3 := hL
    obtain ⟨c0, c1, c2, rfl⟩ : ∃ c0 c1 c2, chs = [c0, c1, c2] := by
      match chs, hL with
      | [c0, c1, c2], _ => exact ⟨c0, c1, c2, rfl⟩
    have p0 := hP 0 c0 rfl
    have p1 := hP 1 c1 rfl
    have p2 := hP 2 c2 rfl
    have uu : Up h.length h h' := u04.trans u hh4
    have hs5 := u.get a4 hs4
    have C' := lt_of hC
    cases hF with
    | cons r0 t0 => cases t0 with
      | cons r1 t1 => cases t1 with
        | cons r2 t2 =>
          cases t2
          exists hc hs5, hC, at_0, at_1, at_2
          refine ⟨fun _ => ?_, fun _ => ?_⟩
          · have e : ∀ x v c, ChR h4.length h4.length h' v c → ChR h.length h4.length (h' ++ [x]) v c := fun x v c ⟨q, q1, q2, q3, q4⟩ => ⟨q, q1, Gr.app.get q2, q3, by omega⟩
            have e' : ∀ x v c, ChR h4.length h4.length h' v c → ChR h.length h'.length (h' ++ [x]) v c := fun x v c ⟨q, q1, q2, q3, q4⟩ => ⟨q, q1, Gr.app.get q2, by have := lt_of q2; omega, by omega⟩
            exact ⟨n1, n2, _, bs, [c0, c2, c1], h'.length, rfl, ⟨_, app_last, .cons (e' _ _ _ r0) (.cons (e' _ _ _ r2) (.cons (e' _ _ _ r1) .nil)), by omega⟩, ⟨c0, c1, c2, p0, p1, p2, .inr rfl⟩, k1, k2, ⟨s0, s1, s2, rfl, l0, l1, l2⟩, hbI, hpB, uu.app⟩
          · have e : ∀ v c, ChR h4.length h4.length h' v c → ChR h.length h4.length h' v c := fun v c ⟨q, q1, q2, q3, q4⟩ => ⟨q, q1, q2, q3, by omega⟩
            exact ⟨n1, n2, _, bs, [c0, c1, c2], h4.length, rfl, ⟨_, hC, .cons (e _ _ r0) (.cons (e _ _ r1) (.cons (e _ _ r2) .nil)), by omega⟩, ⟨c0, c1, c2, p0, p1, p2, .inl rfl⟩, k1, k2, ⟨s0, s1, s2, rfl, l0, l1, l2⟩, hbI, hpB, uu⟩
/-! ### rows of a book, unfolded -/
theorem F2.get {α β : Type} {R : α → β → Prop} : ∀ {l : List α} {r : List β} {i : Nat} {v : α}, F2 R l r → l[i]? = some v → ∃ c, r[i]? = some c ∧ R v c
  | _, _, _, _, .nil, h => by simp at h
  | _, _, 0, _, .cons x _, h => by simp at h; subst h; exact ⟨_, rfl, x⟩
  | _, _, i + 1, _, .cons _ t, h => by
    obtain ⟨c, h1, h2⟩ := F2.get (i := i) t (by simpa using h)
    exact ⟨c, by simpa using h1, h2⟩
theorem F2.get2 {α β : Type} {R : α → β → Prop} : ∀ {l : List α} {r : List β} {i : Nat} {c : β}, F2 R l r → r[i]? = some c → ∃ v, l[i]? = some v ∧ R v c
  | _, _, _, _, .nil, h => by simp at h
  | _, _, 0, _, .cons x _, h => by simp at h; subst h; exact ⟨_, rfl, x⟩
  | _, _, i + 1, _, .cons _ t, h => by
    obtain ⟨c, h1, h2⟩ := F2.get2 (i := i) t (by simpa using h)
    exact ⟨c, by simpa using h1, h2⟩
def ixOf (chs : List Ch) (nm : Str) : Nat := chs.findIdx fun c => decide (c.1 = nm)
def lenR (g : Str → Nat) (r : Rl) : Nat := 1 + match r with
  | .call _ nm => g nm
  | _ => 0
def lenF (chs : List Ch) : Nat → Nat → Nat
  | 0, _ => 0
  | f + 1, i => match chs[i]? with
    | none => 0
    | some c => (c.2.map (lenR fun nm => lenF chs f (ixOf chs nm))).sum
def Uq (chs : List Ch) : Prop := chs.length ≤ 10 ∧ ∀ i c, chs[i]? = some c → ixOf chs c.1 = i
def bd (f : Nat) : Nat := if f = 2 then 4 else 2
def Dp (chs : List Ch) : Nat → Nat → Prop
  | 0, _ => False
  | f + 1, i => ∃ c, chs[i]? = some c ∧ c.2.length ≤ bd f ∧ ∀ r ∈ c.2, match r with
    | .call _ nm => (∃ c', chs[ixOf chs nm]? = some c' ∧ c'.1 = nm) ∧ Dp chs f (ixOf chs nm)
    | _ => True
abbrev LenOk (P : Pg) (f : Nat) : Prop := ∀ {h : MH} {n0 C i : Nat} {chs : List Ch} {c : Ch}, BookAt n0 h C chs → Uq chs → Dp chs f i → chs[i]? = some c → (P.cf "_law_length" [.ref C, .str c.1] h).wp (fun v h' => v = .int (lenF chs f i : Nat) ∧ h' = h) NoE
def ILe (h0 : MH) (C : Nat) (nm : Str) (i0 n : Nat) (j : Nat) (ρ : Env') (h' : MH) : Prop := ∃ (k : Nat) (x3 x4 x5 : Option Val), ρ = [some (.ref C), some (.str nm), some (.int k), x3, x4, x5] ∧ k = (if i0 < j then n else 0) ∧ h' = h0
def ILi (h0 : MH) (C : Nat) (nm : Str) (g : Str → Nat) (rs : List Rl) (y3 y4 : Option Val) (j : Nat) (ρ : Env') (h' : MH) : Prop := ∃ (k : Nat) (x5 : Option Val), ρ = [some (.ref C), some (.str nm), some (.int k), y3, y4, x5] ∧ k = ((rs.take j).map (lenR g)).sum ∧ h' = h0
theorem length_run {f : Nat} (hl : LenOk P f) {n0 C i : Nat} {chs : List Ch} {c : Ch} (hb : BookAt n0 h C chs) (hu : Uq chs) (hd : Dp chs (f + 1) i) (hi : chs[i]? = some c) :
    (callB P dS_law_length [.ref C, .str c.1] h).wp (fun v h' => v = .int (lenF chs (f + 1) i : Nat) ∧ h' = h) NoE := by
  rw [wp_call]
  unfold dS_law_length
  have hb' := hb
  obtain ⟨cvs, hC, hF, _⟩ := hb'
  obtain ⟨c', hc', hcl, hr⟩ := hd
  have e : c' = c := by rw [hi] at hc'; cases hc'; rfl
  subst e
  have en : lenF chs (f + 1) i = (c'.2.map (lenR fun nm => lenF chs f (ixOf chs nm))).sum := by simp only [lenF, hi]
  have il : i < cvs.length := by rw [hF.len]; exact (List.getElem?_eq_some_iff.mp hi).1
  exists hC
  refine wp_for (ILe h C c'.1 i (lenF chs (f + 1) i)) ⟨0, _, _, _, rfl, by rw [if_neg (Nat.not_lt_zero _)], rfl⟩ (fun j ρ h' hI _ => ?_) (fun j v ρ h' hv hI => ?_) (fun ρ h' hI => ?_)
  · obtain ⟨k, x3, x4, x5, rfl, hk, rfl⟩ := hI
    subst_eqs; exact hC
  · obtain ⟨k, x3, x4, x5, rfl, hk, rfl⟩ := hI
    obtain ⟨d, hd, a, rfl, ha, _⟩ := hF.get hv
    have iff : d.1 = c'.1 ↔ j = i := by
      constructor
      · intro z
        have z1 := hu.2 j d hd
        have z2 := hu.2 i c' hi
        rw [z] at z1; omega
      · rintro rfl
        rw [hi] at hd; cases hd; rfl
    by_cases q : j = i
    · subst q
      have e : d = c' := by rw [hi] at hd; cases hd; rfl
      subst e
      exists ha
      rw [if_neg (Nat.lt_irrefl _)] at hk
      subst hk
      refine wp_for (ILi h' C d.1 (fun nm => lenF chs f (ixOf chs nm)) d.2 (some (.str d.1)) (some (.ref a))) ⟨0, _, rfl, rfl, rfl⟩ (fun j ρ h' hI _ => ?_) (fun m v ρ h'' hv2 hI => ?_) (fun ρ h'' hI => ?_)
      · obtain ⟨k, x5, rfl, hk, rfl⟩ := hI
        subst_eqs; exact ha
      · obtain ⟨k, x5, rfl, hk, rfl⟩ := hI
        rw [List.getElem?_map] at hv2
        obtain ⟨r, hr', rfl⟩ := Option.map_eq_some_iff.mp hv2
        have rm := hr r (List.mem_of_getElem? hr')
        have tk : ((d.2.take (m + 1)).map (lenR fun nm => lenF chs f (ixOf chs nm))).sum = k + lenR (fun nm => lenF chs f (ixOf chs nm)) r := by
          rw [List.take_add_one, hr', List.map_append, List.sum_append, ← hk]; simp
        exists rl_0, wd_call
        cases r with
        | call b nm =>
          obtain ⟨⟨c2, hc2, e2⟩, dp⟩ := rm
          subst e2
          exists rl_2
          refine wp_to (hl hb hu dp hc2) ?_
          intro v h3 hh
          have e1 := hh.1
          have e2 := hh.2
          subst e1
          subst e2
          subst_eqs
          refine ⟨k + 1 + lenF chs f (ixOf chs c2.1), _, rfl, ?_, rfl⟩
          rw [tk]; simp [lenR]; omega
        | word s b =>
          subst_eqs
          exact ⟨k + 1, _, rfl, by rw [tk]; simp [lenR], rfl⟩
        | back b =>
          subst_eqs
          exact ⟨k + 1, _, rfl, by rw [tk]; simp [lenR], rfl⟩
      · obtain ⟨k, x5, rfl, hk, rfl⟩ := hI
        rw [List.length_map, List.take_of_length_le (Nat.le_refl _)] at hk
        subst_eqs
        exact ⟨k, _, _, _, rfl, by rw [if_pos (by omega), en]; exact hk, rfl⟩
    · have nq : (d.1 = c'.1) = False := eq_false fun z => q (iff.mp z)
      exists nq
      refine ⟨k, _, _, _, rfl, ?_, rfl⟩
      rw [hk]
      by_cases z : i < j
      · rw [if_pos z, if_pos (by omega)]
      · rw [if_neg z, if_neg (by omega)]
  · obtain ⟨k, x3, x4, x5, rfl, hk, rfl⟩ := hI
    rw [if_pos il] at hk
    subst hk
    subst_eqs
def plOf (en at_ : Nat) (r : Rl) : Pl := match r with
  | .word s _ => .inr (wdS s)
  | .back _ => .inl (en : Nat)
  | .call _ _ => .inl ((at_ + 1 : Nat) : Int)
def rowsG (nm : Str) (en : Nat) (more : Rl → Nat → List Rw) : Nat → Nat → List Rl → List Rw
  | _, _, [] => []
  | i, at_, r :: rs => ⟨nm, (i : Nat), r.bx, plOf en at_ r, .inl ((at_ + 1 + (more r (at_ + 1)).length : Nat) : Int)⟩ :: (more r (at_ + 1) ++ rowsG nm en more (i + 1) (at_ + 1 + (more r (at_ + 1)).length) rs)
def rowsF (chs : List Ch) : Nat → Nat → Nat → List Rw
  | 0, _, _ => []
  | f + 1, i, st => match chs[i]? with
    | none => []
    | some c => rowsG c.1 (st + lenF chs (f + 1) i) (fun r a => match r with
      | .call _ nm => rowsF chs f (ixOf chs nm) a
      | _ => []) 0 st c.2
theorem rowsG_snoc {nm : Str} {en : Nat} {more : Rl → Nat → List Rw} {r : Rl} : ∀ (rs : List Rl) (i at_ : Nat), rowsG nm en more i at_ (rs ++ [r]) = rowsG nm en more i at_ rs ++ rowsG nm en more (i + rs.length) (at_ + (rowsG nm en more i at_ rs).length) [r]
  | [], i, at_ => by simp [rowsG]
  | q :: rs, i, at_ => by
    have ih := rowsG_snoc (nm := nm) (en := en) (more := more) (r := r) rs (i + 1) (at_ + 1 + (more q (at_ + 1)).length)
    simp only [List.cons_append, rowsG, ih, List.append_assoc, List.length_cons, List.length_append]
    have e1 : i + 1 + rs.length = i + (rs.length + 1) := by omega
    have e2 : at_ + 1 + (more q (at_ + 1)).length + (rowsG nm en more (i + 1) (at_ + 1 + (more q (at_ + 1)).length) rs).length = at_ + ((more q (at_ + 1)).length + (rowsG nm en more (i + 1) (at_ + 1 + (more q (at_ + 1)).length) rs).length + 1) := by omega
    rw [e1, e2]
theorem rowsG_len {nm : Str} {en : Nat} {more : Rl → Nat → List Rw} {g : Str → Nat} : ∀ (rs : List Rl) (i at_ : Nat), (∀ r ∈ rs, ∀ a, 1 + (more r a).length = lenR g r) → (rowsG nm en more i at_ rs).length = (rs.map (lenR g)).sum
  | [], _, _, _ => rfl
  | q :: rs, i, at_, h => by
    have ih := rowsG_len (nm := nm) (en := en) (more := more) (g := g) rs (i + 1) (at_ + 1 + (more q (at_ + 1)).length) fun r hr => h r (List.mem_cons_of_mem _ hr)
    have z := h q (List.mem_cons_self ..) (at_ + 1)
    simp only [rowsG, List.length_cons, List.length_append, ih, List.map_cons, List.sum_cons]
    omega
theorem rowsF_len {chs : List Ch} : ∀ (f i st : Nat), Dp chs f i → (rowsF chs f i st).length = lenF chs f i
  | 0, _, _, h => h.elim
  | f + 1, i, st, ⟨c, hc, _, hr⟩ => by
    simp only [rowsF, lenF, hc]
    refine rowsG_len c.2 0 st fun r hm a => ?_
    have z := hr r hm
    cases r with
    | call b nm => simp only [lenR]; rw [rowsF_len f _ a z.2]
    | word s b => rfl
    | back b => rfl
def bdL : Nat → Nat
  | 0 => 0
  | f + 1 => bd f * (1 + bdL f)
theorem sum_le {g : Rl → Nat} {m : Nat} : ∀ rs : List Rl, (∀ r ∈ rs, g r ≤ m) → (rs.map g).sum ≤ rs.length * m
  | [], _ => by simp
  | r :: rs, h => by
    have ih := sum_le rs fun r hr => h r (List.mem_cons_of_mem _ hr)
    have z := h r (List.mem_cons_self ..)
    simp only [List.map_cons, List.sum_cons, List.length_cons, Nat.succ_mul]
    omega
theorem lenF_le {chs : List Ch} : ∀ (f i : Nat), Dp chs f i → lenF chs f i ≤ bdL f
  | 0, _, h => h.elim
  | f + 1, i, ⟨c, hc, hl, hr⟩ => by
    simp only [lenF, hc, bdL]
    refine Nat.le_trans (sum_le (m := 1 + bdL f) c.2 fun r hm => ?_) (Nat.mul_le_mul_right _ hl)
    have z := hr r hm
    cases r with
    | call b nm => simp only [lenR]; have := lenF_le f _ z.2; omega
    | word s b => simp only [lenR]; omega
    | back b => simp only [lenR]; omega
theorem bdL_3 {f : Nat} (h : f ≤ 3) : bdL f ≤ 28 := by
  rcases (by omega : f = 0 ∨ f = 1 ∨ f = 2 ∨ f = 3) with r | r | r | r <;> subst r <;> decide
theorem names_ix {chs : List Ch} {nm : Str} {c : Ch} (h : chs[ixOf chs nm]? = some c) : ((chs.map fun c => Val.str c.1).findIdx? fun z => eqF z (.str nm)) = some (ixOf chs nm) := by
  have e : ((chs.map fun c => Val.str c.1).findIdx? fun z => eqF z (.str nm)) = chs.findIdx? fun c => decide (c.1 = nm) := by
    rw [List.findIdx?_map]
    rfl
  rw [e]
  have hl := (List.getElem?_eq_some_iff.mp h).1
  rw [List.findIdx?_eq_guard_findIdx_lt, Option.guard_eq_some_iff]
  exact ⟨rfl, by simpa [ixOf] using hl⟩
theorem enumL_get {xs : List Val} {j : Nat} {v : Val} (h : (enumL xs)[j]? = some v) : ∃ x, xs[j]? = some x ∧ v = .tup [.int j, x] := by
  unfold enumL at h
  rw [List.getElem?_mapIdx] at h
  obtain ⟨x, hx, rfl⟩ := Option.map_eq_some_iff.mp h
  exact ⟨x, hx, rfl⟩
theorem v_is {i : Int} {s : Str} (hs : (PyData.str s).canLay0 = true) : veq h (.int i) (.str s) = some false := by
  show (match snap h 64 (.int i), snap h 64 (.str s) with
    | some d, some e => some (PyData.eqv d e)
    | _, _ => none) = _
  simp [snap, hs, PyData.eqv]
theorem sum_take {g : Rl → Nat} (rs : List Rl) (n : Nat) : ((rs.take n).map g).sum ≤ (rs.map g).sum := by
  have e : (rs.map g).sum = ((rs.take n).map g).sum + ((rs.drop n).map g).sum := by
    rw [← List.sum_append, ← List.map_append, List.take_append_drop]
  omega
abbrev RowsOk (P : Pg) (f : Nat) : Prop := ∀ {h : MH} {n0 C i st : Nat} {chs : List Ch}, BookAt n0 h C chs → Uq chs → Dp chs f i → (P.cf "_law_rows" [.ref C, .int i, .int st] h).wp (fun v h' => LstAt h' v ((rowsF chs f i st).map rwV) h.length ∧ Gr h h') NoE
def INm (h0 : MH) (chs : List Ch) (i : Nat) (acc : List Val) (h' : MH) : Prop := acc = (chs.take i).map (fun c => Val.str c.1) ∧ h' = h0
def moreF (chs : List Ch) (f : Nat) (r : Rl) (a : Nat) : List Rw := match r with
  | .call _ nm => rowsF chs f (ixOf chs nm) a
  | _ => []
def IRw (h1 : MH) (C i st N : Nat) (nm : Str) (en : Nat) (chs : List Ch) (f : Nat) (rs : List Rl) (a : Nat) (j : Nat) (ρ : Env') (h' : MH) : Prop := ∃ (R : Nat) (x7 x8 x9 x10 x11 : Option Val),
  ρ = [some (.ref C), some (.int i), some (.int st), some (.str nm), some (.int en), some (.ref N), some (.ref R), x7, x8, x9, x10, x11, none] ∧
  h'[R]? = some (.lst true ((rowsG nm en (moreF chs f) 0 st (rs.take j)).map rwV)) ∧ Gr h1 h' ∧ h1.length ≤ R
theorem BookAt.gr {n0 C : Nat} {h h' : MH} {chs : List Ch} (g : Gr h h') (b : BookAt n0 h C chs) : BookAt n0 h' C chs := by
  obtain ⟨cvs, hC, hF, n⟩ := b
  exact ⟨cvs, g.get hC, hF.imp fun _ _ ⟨a, x, y, z⟩ => ⟨a, x, g.get y, z⟩, n⟩
theorem rows_run {f : Nat} (hf : f ≤ 2) (hl : LenOk P (f + 1)) (hw : RowsOk P f) {n0 C i st : Nat} {chs : List Ch} (hb : BookAt n0 h C chs) (hu : Uq chs) (hd : Dp chs (f + 1) i) :
    (callB P dS_law_rows [.ref C, .int i, .int st] h).wp (fun v h' => LstAt h' v ((rowsF chs (f + 1) i st).map rwV) h.length ∧ Gr h h') NoE := by
  rw [wp_call]
  unfold dS_law_rows
  have hb' := hb
  obtain ⟨cvs, hC, hF, _⟩ := hb'
  have hd' := hd
  obtain ⟨c, hc, hcl, hr⟩ := hd'
  obtain ⟨v, hv, a, rfl, ha, _⟩ := hF.get2 hc
  exists hC, hv
  refine wp_to (hl hb hu hd hc) ?_
  intro v h2 hh
  have e1 := hh.1
  have e2 := hh.2
  subst e1
  subst e2
  have ef : rowsF chs (f + 1) i st = rowsG c.1 (st + lenF chs (f + 1) i) (moreF chs f) 0 st c.2 := by
    simp only [rowsF, hc]
    rfl
  have ll := rowsF_len (f + 1) i st hd
  have lb := lenF_le (f + 1) i hd
  have b3 := bdL_3 (f := f + 1) (by omega)
  have ec : ((st : Int) + (lenF chs (f + 1) i : Nat)) = ((st + lenF chs (f + 1) i : Nat) : Int) := by omega
  exists hC, ec
  refine wp_comp (INm h2 chs) ⟨rfl, rfl⟩ ?_ ?_
  · rintro j v acc h' hj ⟨rfl, rfl⟩
    obtain ⟨d, hd2, a2, rfl, ha2, _⟩ := hF.get hj
    have jl := (List.getElem?_eq_some_iff.mp hd2).1
    have cl := hF.len
    exists wi_nil, wi_cons, hC
    have u10 := hu.1
    refine ⟨by simp; omega, ?_, rfl⟩
    rw [List.take_add_one, hd2, List.map_append]; rfl
  · rintro acc h' ⟨rfl, rfl⟩
    rw [hF.len, List.take_length]
    refine ⟨by rw [stands_one]; exact hC, ?_⟩
    have gN : Gr h' (h' ++ [Ob.lst true (chs.map fun c => Val.str c.1)]) := Gr.app
    have hN : (h' ++ [Ob.lst true (chs.map fun c => Val.str c.1)])[h'.length]? = some (.lst true (chs.map fun c => Val.str c.1)) := app_last
    have hC2 := gN.get hC
    have ha2 := gN.get ha
    have hb2 := hb.gr gN
    generalize h' ++ [Ob.lst true (chs.map fun c => Val.str c.1)] = h1 at *
    have C1 := lt_of hC2
    have a1 := lt_of ha2
    have N1 := lt_of hN
    exists hC2, hv, C1
    have C2 : ∀ o, (h1 ++ [o])[C]? = some (.lst true cvs) := fun o => Gr.app.get hC2
    exists C2, hv, a1, ha2
    refine wp_for (IRw h1 C i st h'.length c.1 (st + lenF chs (f + 1) i) chs f c.2 a) ⟨h1.length, _, _, _, _, _, rfl, app_last, Gr.app, Nat.le_refl _⟩ (fun j ρ h2 hI _ => ?_) (fun j v ρ h2 hv2 hI => ?_) (fun ρ h2 hI => ?_)
    · obtain ⟨R, x7, x8, x9, x10, x11, rfl, hR, g, _⟩ := hI
      subst_eqs
      exact g.get ha2
    · obtain ⟨R, x7, x8, x9, x10, x11, rfl, hR, g, R1⟩ := hI
      obtain ⟨x, hx, rfl⟩ := enumL_get hv2
      rw [List.getElem?_map] at hx
      obtain ⟨r, hr', rfl⟩ := Option.map_eq_some_iff.mp hx
      have rm := hr r (List.mem_of_getElem? hr')
      have tk : c.2.take (j + 1) = c.2.take j ++ [r] := by rw [List.take_add_one, hr']; rfl
      have jl := (List.getElem?_eq_some_iff.mp hr').1
      have lj : (c.2.take j).length = j := by rw [List.length_take]; omega
      generalize hac : rowsG c.1 (st + lenF chs (f + 1) i) (moreF chs f) 0 st (c.2.take j) = acc at *
      have sn := rowsG_snoc (nm := c.1) (en := st + lenF chs (f + 1) i) (more := moreF chs f) (r := r) (c.2.take j) 0 st
      rw [hac, lj, Nat.zero_add] at sn
      simp only [rowsG, List.append_nil] at sn
      rw [← tk] at sn
      have eat : ((st : Int) + (acc.length : Nat)) = ((st + acc.length : Nat) : Int) := by omega
      have R2 := lt_of hR
      have tl : (rowsG c.1 (st + lenF chs (f + 1) i) (moreF chs f) 0 st (c.2.take (j + 1))).length ≤ 28 := by
        have z := rowsG_len (nm := c.1) (en := st + lenF chs (f + 1) i) (more := moreF chs f) (g := fun nm => lenF chs f (ixOf chs nm)) (c.2.take (j + 1)) 0 st fun r hm a => by
          have z := hr r (List.mem_of_mem_take hm)
          cases r with
          | call b nm => simp only [lenR, moreF]; rw [rowsF_len f _ a z.2]
          | word s b => rfl
          | back b => rfl
        have z2 : (c.2.map (lenR fun nm => lenF chs f (ixOf chs nm))).sum = lenF chs (f + 1) i := by simp only [lenF, hc]
        have z3 := sum_take (g := lenR fun nm => lenF chs f (ixOf chs nm)) c.2 (j + 1)
        omega
      rw [sn] at tl
      simp only [List.length_append, List.length_cons] at tl
      have ca : ∀ m n : Nat, (m : Int) + (n : Int) = ((m + n : Nat) : Int) := fun m n => by omega
      have ca1 : ∀ m : Nat, (m : Int) + 1 = ((m + 1 : Nat) : Int) := fun m => by omega
      have cw := fun o => (Gr.app (h := h2) (g := [o])).get hR
      exists hR, eat, rl_0
      cases r with
      | word s b =>
        have w1 : (Rl.word s b).wd = wdS s := rfl
        have w2 : (wdS s = Str.ofString "back") = False := by cases s <;> (apply eq_false; show ¬ wdS _ = _; decide +kernel)
        have w3 : (wdS s = Str.ofString "call") = False := by cases s <;> (apply eq_false; show ¬ wdS _ = _; decide +kernel)
        have l1 : acc.length + 1 ≤ 4096 := by omega
        have l2 : acc.length + 1 + 0 ≤ 4096 := by omega
        exists w1, w2, w3, hR, cw, R2, rl_1, ca, ca1, l1, l2, Nat.add_zero
        refine ⟨_, _, _, _, _, _, rfl, ?_, ?_, ?_⟩
        · rw [app_last, sn]
          simp [rwV, plOf, atV, moreF]
        · exact (((g.app1).app1).app1).app1
        · have := g.len
          simp; omega
      | back b =>
        have w1 : (Rl.back b).wd = sBack := rfl
        have w2 : (sBack = Str.ofString "back") = True := eq_true rfl
        have w3 := fun (i : Int) (h : MH) => v_is (h := h) (i := i) (s := Str.ofString "call") (by decide +kernel)
        have l1 : acc.length + 1 ≤ 4096 := by omega
        exists w1, w2, w3, hR, cw, R2, rl_1, ca, ca1, l1, Nat.add_zero
        refine ⟨_, _, _, _, _, _, rfl, ?_, ?_, ?_⟩
        · rw [app_last, sn]
          simp [rwV, plOf, atV, moreF]
        · exact (((g.app1).app1).app1).app1
        · have := g.len
          simp; omega
      | call b nm =>
        obtain ⟨⟨c2, hc2, e2⟩, dp⟩ := rm
        subst e2
        have w1 : (Rl.call b c2.1).wd = sCall := rfl
        have w2 : (sCall = Str.ofString "back") = False := eq_false (by decide +kernel)
        have w3 : (sCall = Str.ofString "call") = True := eq_true rfl
        have hN2 := (Gr.app (g := [Ob.lst true []])).get (g.get hN)
        have fl : (flat (.str c2.1) && (chs.map fun c => Val.str c.1).all flat) = true := by
          simp [flat]
        exists w1, w2, w3, hR, cw, R2, rl_2, ca, ca1, hN2, fl, names_ix hc2
        refine wp_to (hw ((hb2.gr g).gr Gr.app) hu dp) ?_
        intro v h3 hh
        obtain ⟨M, e, hM, M1⟩ := hh.1
        have g3 := hh.2
        subst e
        have hR3 := g3.get (cw (Ob.lst true []))
        have R3 := lt_of hR3
        have M3 := lt_of hM
        exists hR3, rl_1, R3, hM, M3, ca, ca1
        have tl' : acc.length + ((rowsF chs f (ixOf chs c2.1) (st + acc.length + 1)).length + 1) ≤ 28 := tl
        refine ⟨of_eq_true (sz_ok (by omega)), of_eq_true (sz_ok (by omega)), _, _, _, _, _, _, rfl, ?_, ?_, ?_⟩
        · rw [app_last, sn]
          simp [rwV, plOf, atV, moreF]
        · exact ((((g.app1).trans g3).app1).app1).app1
        · have := g.len
          have := g3.len
          simp at this
          simp; omega
    · obtain ⟨R, x7, x8, x9, x10, x11, rfl, hR, g, R1⟩ := hI
      have e : c.2.take (enumL (c.2.map rlV)).length = c.2 := by rw [List.take_of_length_le]; simp [enumL]
      rw [e, ← ef] at hR
      subst_eqs
      exact ⟨⟨R, rfl, hR, by have := gN.len; omega⟩, gN.trans g⟩
end
end Mn
/-! Mini: what follows of a drawn book: its rows, how many boxes, which ways -/
namespace Mn
open PySem
open Classical
/-- the one lies in the other -/
def Wth (c b : List Sg) : Prop := ∀ (k : Nat) p q, b[k]? = some p → c[k]? = some q → q.1 ≤ p.1 ∧ p.2 ≤ q.2
/-- nothing in common -/
def Apt (b c : List Sg) : Prop := ∃ (k : Nat) (p q : Sg), b[k]? = some p ∧ c[k]? = some q ∧ (p.2 < q.1 ∨ q.2 < p.1)
theorem InW.get {b : List Sg} (h : InW b) {k : Nat} (hk : k < 6) : ∃ p, b[k]? = some p ∧ In1 (topN k) p := by
  have hl : k < b.length := by rw [h.1]; exact hk
  have e : b[k]? = some b[k] := List.getElem?_eq_getElem hl
  exact ⟨_, e, h.2 k _ e⟩
theorem InW.lt {b : List Sg} (h : InW b) {k : Nat} {p : Sg} (e : b[k]? = some p) : k < 6 := by
  have := (List.getElem?_eq_some_iff.mp e).1
  rw [h.1] at this; exact this
theorem Wth.refl {b : List Sg} : Wth b b := fun k p q h1 h2 => by
  rw [h1] at h2; cases h2; exact ⟨Int.le_refl _, Int.le_refl _⟩
theorem Wth.trans {a b c : List Sg} (hb : InW b) (hc : InW c) (h1 : Wth a b) (h2 : Wth b c) : Wth a c := fun k p q e1 e2 => by
  obtain ⟨r, e3, _⟩ := hb.get (hc.lt e1)
  have x := h1 k r q e3 e2
  have y := h2 k p r e1 e3
  omega
theorem Apt.sub {b c x : List Sg} (hx : InW x) (hb : InW b) (h : Apt b c) (w : Wth b x) : Apt x c := by
  obtain ⟨k, p, q, e1, e2, d⟩ := h
  obtain ⟨r, e3, i⟩ := hx.get (hb.lt e1)
  have y := w k r p e3 e1
  exact ⟨k, r, q, e3, e2, by omega⟩
theorem commonL_get : ∀ {l : List (Sg × Sg)} {m : List Sg} {k : Nat} {x : Sg × Sg}, commonL l = some m → l[k]? = some x → ∃ r, m[k]? = some r ∧ meetS x.1 x.2 = some r
  | [], _, _, _, _, h => by simp at h
  | y :: l, m, k, x, e, h => by
    simp only [commonL] at e
    split at e
    · rename_i r t e1 e2
      cases e
      cases k with
      | zero => simp at h; subst h; exact ⟨r, rfl, e1⟩
      | succ k =>
        obtain ⟨r2, h1, h2⟩ := commonL_get (k := k) e2 (by simpa using h)
        exact ⟨r2, by simpa using h1, h2⟩
    · cases e
theorem common_get {b c m : List Sg} (hb : InW b) (hc : InW c) (e : commonB b c = some m) {k : Nat} {p q : Sg} (hp : b[k]? = some p) (hq : c[k]? = some q) : m[k]? = some (max p.1 q.1, min p.2 q.2) ∧ max p.1 q.1 ≤ min p.2 q.2 := by
  obtain ⟨r, h1, h2⟩ := commonL_get (k := k) (x := (p, q)) e (by
    rw [List.getElem?_zip_eq_some]; exact ⟨hp, hq⟩)
  unfold meetS at h2
  split at h2
  · cases h2
  · cases h2
    exact ⟨h1, by simp only at *; omega⟩
theorem common_apt {b c : List Sg} (h : Apt b c) : commonB b c = none := by
  obtain ⟨k, p, q, e1, e2, d⟩ := h
  refine commonB_none e1 e2 ?_
  unfold meetS
  rw [if_pos (by omega)]
theorem common_of {b c : List Sg} (hb : InW b) (hc : InW c) (h : ¬ Apt b c) : ∃ m, commonB b c = some m := by
  cases e : commonB b c with
  | some m => exact ⟨m, rfl⟩
  | none =>
    exfalso
    have e2 : commonB b c = some ((b.zip c).map fun x => (max x.1.1 x.2.1, min x.1.2 x.2.2)) := by
      refine commonB_of (by rw [hb.1, hc.1]) (by rw [List.length_map, List.length_zip, hb.1, hc.1]; rfl) fun j p q m hp hq hm => ?_
      have hz : (b.zip c)[j]? = some (p, q) := by rw [List.getElem?_zip_eq_some]; exact ⟨hp, hq⟩
      rw [List.getElem?_map, hz] at hm
      cases hm
      have n : ¬ (p.2 < q.1 ∨ q.2 < p.1) := fun d => h ⟨j, p, q, hp, hq, d⟩
      obtain ⟨_, i1⟩ := hb.get (hb.lt hp)
      have i2 := hb.2 j p hp
      have i3 := hc.2 j q hq
      unfold In1 at i2 i3
      unfold meetS
      rw [if_neg (by omega)]
    rw [e] at e2; cases e2
theorem common_in {b c m : List Sg} (hb : InW b) (hc : InW c) (e : commonB b c = some m) : InW m ∧ Wth b m ∧ Wth c m := by
  have ml : m.length = 6 := by rw [commonB_len (by rw [hb.1, hc.1]) e, hb.1]
  have g : ∀ k r, m[k]? = some r → ∃ p q, b[k]? = some p ∧ c[k]? = some q ∧ In1 (topN k) p ∧ In1 (topN k) q ∧ r = (max p.1 q.1, min p.2 q.2) ∧ max p.1 q.1 ≤ min p.2 q.2 := fun k r hr => by
    have k6 : k < 6 := by have := (List.getElem?_eq_some_iff.mp hr).1; omega
    obtain ⟨p, hp, ip⟩ := hb.get k6
    obtain ⟨q, hq, iq⟩ := hc.get k6
    obtain ⟨z1, z2⟩ := common_get hb hc e hp hq
    rw [hr] at z1
    cases z1
    exact ⟨p, q, hp, hq, ip, iq, rfl, z2⟩
  refine ⟨⟨ml, fun k r hr => ?_⟩, fun k r p hr hp => ?_, fun k r q hr hq => ?_⟩
  · obtain ⟨p, q, _, _, ip, iq, rfl, z⟩ := g k r hr
    unfold In1 at *
    simp only
    omega
  · obtain ⟨p', q, hp', _, _, _, rfl, z⟩ := g k r hr
    rw [hp] at hp'; cases hp'
    simp only; omega
  · obtain ⟨p, q', _, hq', _, _, rfl, z⟩ := g k r hr
    rw [hq] at hq'; cases hq'
    simp only; omega
theorem inW_ext {a b : List Sg} (ha : InW a) (hb : InW b) (h : ∀ (k : Nat) (p q : Sg), a[k]? = some p → b[k]? = some q → p = q) : a = b := by
  apply List.ext_getElem?
  intro k
  by_cases k6 : k < 6
  · obtain ⟨p, hp, _⟩ := ha.get k6
    obtain ⟨q, hq, _⟩ := hb.get k6
    rw [hp, hq, h k p q hp hq]
  · rw [List.getElem?_eq_none (by rw [ha.1]; omega), List.getElem?_eq_none (by rw [hb.1]; omega)]
theorem common_wth {b c : List Sg} (hb : InW b) (hc : InW c) (h : Wth c b) : commonB b c = some b := by
  obtain ⟨m, e⟩ := common_of hb hc (fun ⟨k, p, q, e1, e2, d⟩ => by
    have x := h k p q e1 e2
    have y := hb.2 k p e1
    unfold In1 at y
    omega)
  obtain ⟨i, _, _⟩ := common_in hb hc e
  rw [e]
  congr 1
  refine inW_ext i hb fun k r p hr hp => ?_
  obtain ⟨q, hq, _⟩ := hc.get (hb.lt hp)
  obtain ⟨z, _⟩ := common_get hb hc e hp hq
  rw [hr] at z
  cases z
  have x := h k p q hp hq
  have e1 : max p.1 q.1 = p.1 := by omega
  have e2 : min p.2 q.2 = p.2 := by omega
  rw [e1, e2]
/-- a piece of what is left -/
theorem pcs_in {b c m : List Sg} (hb : InW b) (hc : InW c) (e : commonB b c = some m) {k : Nat} (hk : k < 6) : (pcs b m k).length ≤ 2 * w0 c k ∧ ∀ x ∈ pcs b m k, InW x ∧ Wth b x ∧ Apt x c := by
  obtain ⟨im, wb, wc⟩ := common_in hb hc e
  obtain ⟨p, hp, ip⟩ := hb.get hk
  obtain ⟨q, hq, iq⟩ := hc.get hk
  obtain ⟨hr, le⟩ := common_get hb hc e hp hq
  have part : ∀ t : Sg, p.1 ≤ t.1 → t.1 ≤ t.2 → t.2 ≤ p.2 → (t.2 < q.1 ∨ q.2 < t.1) → InW (m.take k ++ t :: b.drop (k + 1)) ∧ Wth b (m.take k ++ t :: b.drop (k + 1)) ∧ Apt (m.take k ++ t :: b.drop (k + 1)) c := fun t t1 t2 t3 t4 => by
    have tl : (m.take k).length = k := by rw [List.length_take, im.1]; omega
    have g : ∀ j r, (m.take k ++ t :: b.drop (k + 1))[j]? = some r → (j < k ∧ m[j]? = some r) ∨ (j = k ∧ r = t) ∨ (k < j ∧ b[j]? = some r) := fun j r hr => by
      by_cases c1 : j < k
      · rw [List.getElem?_append_left (by omega), List.getElem?_take_of_lt c1] at hr
        exact .inl ⟨c1, hr⟩
      · rw [List.getElem?_append_right (by omega), tl] at hr
        by_cases c2 : j = k
        · subst c2
          rw [Nat.sub_self] at hr
          cases hr
          exact .inr (.inl ⟨rfl, rfl⟩)
        · have e : j - k = (j - k - 1) + 1 := by omega
          rw [e, List.getElem?_cons_succ, List.getElem?_drop] at hr
          have e2 : k + 1 + (j - k - 1) = j := by omega
          rw [e2] at hr
          exact .inr (.inr ⟨by omega, hr⟩)
    refine ⟨⟨by rw [List.length_append, tl, List.length_cons, List.length_drop, hb.1]; omega, fun j r hr => ?_⟩, fun j r p2 hr hp2 => ?_, ⟨k, t, q, ?_, hq, t4⟩⟩
    · rcases g j r hr with ⟨_, h⟩ | ⟨h1, h2⟩ | ⟨_, h⟩
      · exact im.2 j r h
      · subst h1; subst h2
        unfold In1 at *
        omega
      · exact hb.2 j r h
    · rcases g j r hr with ⟨_, h⟩ | ⟨h1, h2⟩ | ⟨_, h⟩
      · exact wb j r p2 h hp2
      · subst h1; subst h2
        rw [hp] at hp2; cases hp2
        exact ⟨t1, t3⟩
      · rw [h] at hp2; cases hp2
        exact ⟨Int.le_refl _, Int.le_refl _⟩
    · rw [List.getElem?_append_right (by omega), tl, Nat.sub_self]; rfl
  have ep : pcs b m k = (if p.1 < max p.1 q.1 then [m.take k ++ (p.1, max p.1 q.1 - 1) :: b.drop (k + 1)] else []) ++ (if min p.2 q.2 < p.2 then [m.take k ++ (min p.2 q.2 + 1, p.2) :: b.drop (k + 1)] else []) := by
    unfold pcs
    rw [hp, hr]
  have wl : (p.1 < max p.1 q.1 ∨ min p.2 q.2 < p.2) → w0 c k = 1 := fun d => by
    unfold w0
    rw [if_neg]
    intro z
    rw [hq] at z
    cases z
    unfold In1 at ip
    simp only at d
    omega
  rw [ep]
  refine ⟨?_, fun x hx => ?_⟩
  · by_cases c1 : p.1 < max p.1 q.1
    · rw [wl (.inl c1)]
      rw [if_pos c1]
      split <;> simp
    · rw [if_neg c1]
      by_cases c2 : min p.2 q.2 < p.2
      · rw [wl (.inr c2), if_pos c2]; simp
      · rw [if_neg c2]; simp
  · rcases List.mem_append.mp hx with z | z
    · by_cases c1 : p.1 < max p.1 q.1
      · rw [if_pos c1] at z
        rw [List.mem_singleton.mp z]
        exact part _ (by simp) (by simp only; omega) (by simp only; unfold In1 at ip iq; omega) (.inl (by simp only; omega))
      · rw [if_neg c1] at z; cases z
    · by_cases c1 : min p.2 q.2 < p.2
      · rw [if_pos c1] at z
        rw [List.mem_singleton.mp z]
        exact part _ (by simp only; unfold In1 at ip iq; omega) (by simp only; omega) (by simp) (.inr (by simp only; omega))
      · rw [if_neg c1] at z; cases z
theorem rests_in {b c m : List Sg} (hb : InW b) (hc : InW c) (e : commonB b c = some m) : (restsB b c).length ≤ 2 * nar c ∧ ∀ x ∈ restsB b c, InW x ∧ Wth b x ∧ Apt x c := by
  have er : restsB b c = restsM b m 6 := by unfold restsB; rw [e]; simp only [hb.1]
  rw [er]
  have p0 := pcs_in hb hc e (k := 0) (by omega)
  have p1 := pcs_in hb hc e (k := 1) (by omega)
  have p2 := pcs_in hb hc e (k := 2) (by omega)
  have p3 := pcs_in hb hc e (k := 3) (by omega)
  have p4 := pcs_in hb hc e (k := 4) (by omega)
  have p5 := pcs_in hb hc e (k := 5) (by omega)
  have e6 : restsM b m 6 = pcs b m 0 ++ pcs b m 1 ++ pcs b m 2 ++ pcs b m 3 ++ pcs b m 4 ++ pcs b m 5 := by
    rw [restsM_s, restsM_s, restsM_s, restsM_s, restsM_s, restsM_s]
    rfl
  rw [e6]
  refine ⟨?_, fun x hx => ?_⟩
  · simp only [List.length_append]
    unfold nar
    omega
  · simp only [List.mem_append] at hx
    rcases hx with ((((h | h) | h) | h) | h) | h
    · exact p0.2 x h
    · exact p1.2 x h
    · exact p2.2 x h
    · exact p3.2 x h
    · exact p4.2 x h
    · exact p5.2 x h
theorem rests_wth {b c : List Sg} (hb : InW b) (hc : InW c) (h : Wth c b) : restsB b c = [] := by
  have e := common_wth hb hc h
  have z := rests_in hb hc e
  cases er : restsB b c with
  | nil => rfl
  | cons x l =>
    exfalso
    rw [er] at z
    obtain ⟨ix, wx, k, p, q, e1, e2, d⟩ := z.2 x (List.mem_cons_self ..)
    obtain ⟨r, e3, ir⟩ := hb.get (ix.lt e1)
    have y := wx k p r e1 e3
    have y2 := h k r q e3 e2
    have y3 := ix.2 k p e1
    unfold In1 at y3
    omega
/-- how many pieces can come -/
def cuts (c b : List Sg) : Prop := ¬ Apt b c ∧ ¬ Wth c b
noncomputable def pw : List (List Sg) → List Sg → Nat
  | [], _ => 1
  | c :: bs, b => (if cuts c b then 1 + 2 * nar c else 1) * pw bs b
theorem pw_pos : ∀ bs b, 1 ≤ pw bs b
  | [], _ => Nat.le_refl _
  | c :: bs, b => by
    have := pw_pos bs b
    simp only [pw]
    split
    · exact Nat.le_trans this (Nat.le_mul_of_pos_left _ (by omega))
    · omega
theorem pw_le : ∀ bs b, pw bs b ≤ prodB bs
  | [], _ => Nat.le_refl _
  | c :: bs, b => by
    simp only [pw, prodB]
    refine Nat.mul_le_mul ?_ (pw_le bs b)
    split <;> omega
theorem cuts_sub {b x c : List Sg} (hb : InW b) (hx : InW x) (hc : InW c) (w : Wth b x) (h : cuts c x) : cuts c b :=
  ⟨fun a => h.1 (a.sub hx hb w), fun v => h.2 (v.trans hb hx w)⟩
theorem pw_mono {b x : List Sg} (hb : InW b) (hx : InW x) (w : Wth b x) : ∀ bs, (∀ c ∈ bs, InW c) → pw bs x ≤ pw bs b
  | [], _ => Nat.le_refl _
  | c :: bs, h => by
    have ih := pw_mono hb hx w bs fun d hd => h d (List.mem_cons_of_mem _ hd)
    simp only [pw]
    refine Nat.mul_le_mul ?_ ih
    by_cases k : cuts c x
    · rw [if_pos k, if_pos (cuts_sub hb hx (h c (List.mem_cons_self ..)) w k)]
      exact Nat.le_refl _
    · rw [if_neg k]
      split <;> omega
theorem pw_cut {b x c : List Sg} (hb : InW b) (hx : InW x) (w : Wth b x) (hc : cuts c b) (nc : ¬ cuts c x) : ∀ bs, (∀ c ∈ bs, InW c) → c ∈ bs → (1 + 2 * nar c) * pw bs x ≤ pw bs b
  | [], _, h => by cases h
  | d :: bs, h, hm => by
    have hd := h d (List.mem_cons_self ..)
    have hbs := fun e he => h e (List.mem_cons_of_mem _ he)
    simp only [pw]
    by_cases q : d = c
    · subst q
      rw [if_pos hc, if_neg nc, Nat.one_mul]
      exact Nat.mul_le_mul_left _ (pw_mono hb hx w bs hbs)
    · have hm' : c ∈ bs := by
        rcases List.mem_cons.mp hm with z | z
        · exact absurd z.symm q
        · exact z
      have ih := pw_cut hb hx w hc nc bs hbs hm'
      have m1 : (if cuts d x then 1 + 2 * nar d else 1) ≤ (if cuts d b then 1 + 2 * nar d else 1) := by
        by_cases k : cuts d x
        · rw [if_pos k, if_pos (cuts_sub hb hx hd w k)]
          exact Nat.le_refl _
        · rw [if_neg k]
          split <;> omega
      calc (1 + 2 * nar c) * ((if cuts d x then 1 + 2 * nar d else 1) * pw bs x)
          = (if cuts d x then 1 + 2 * nar d else 1) * ((1 + 2 * nar c) * pw bs x) := Nat.mul_left_comm ..
        _ ≤ (if cuts d b then 1 + 2 * nar d else 1) * pw bs b := Nat.mul_le_mul m1 ih
theorem sum_pw {bs : List (List Sg)} {q M : Nat} : ∀ l : List (List Sg), (∀ x ∈ l, q * pw bs x ≤ M) → q * (l.map (pw bs)).sum ≤ l.length * M
  | [], _ => by simp
  | x :: l, h => by
    have ih := sum_pw l fun y hy => h y (List.mem_cons_of_mem _ hy)
    have z := h x (List.mem_cons_self ..)
    simp only [List.map_cons, List.sum_cons, List.length_cons, Nat.mul_add, Nat.succ_mul]
    omega
/-- all pieces of a box beside a rule's -/
def kids (b c : List Sg) : List (List Sg) := (match commonB b c with
  | none => []
  | some m => [m]) ++ restsB b c
theorem kids_in {b c : List Sg} (hb : InW b) (hc : InW c) : ∀ x ∈ kids b c, InW x ∧ Wth b x ∧ ¬ cuts c x := by
  intro x hx
  unfold kids at hx
  cases e : commonB b c with
  | none =>
    rw [e] at hx
    have er : restsB b c = [b] := by unfold restsB; rw [e]
    rw [er] at hx
    have : x = b := by simpa using hx
    subst this
    refine ⟨hb, Wth.refl, fun k => ?_⟩
    obtain ⟨m, e2⟩ := common_of hb hc k.1
    rw [e] at e2; cases e2
  | some m =>
    rw [e] at hx
    rcases List.mem_append.mp hx with z | z
    · rw [List.mem_singleton.mp z]
      obtain ⟨h1, h2, h3⟩ := common_in hb hc e
      exact ⟨h1, h2, fun k => k.2 h3⟩
    · obtain ⟨h1, h2, h3⟩ := (rests_in hb hc e).2 x z
      exact ⟨h1, h2, fun k => k.1 h3⟩
theorem kids_pw {b c : List Sg} {bs : List (List Sg)} (hb : InW b) (hbs : ∀ c ∈ bs, InW c) (hm : c ∈ bs) : ((kids b c).map (pw bs)).sum ≤ pw bs b := by
  have hc := hbs c hm
  by_cases k : cuts c b
  · have z := sum_pw (bs := bs) (q := 1 + 2 * nar c) (M := pw bs b) (kids b c) fun x hx => by
      obtain ⟨h1, h2, h3⟩ := kids_in hb hc x hx
      exact pw_cut hb h1 h2 k h3 bs hbs hm
    have kl : (kids b c).length ≤ 1 + 2 * nar c := by
      obtain ⟨m, e⟩ := common_of hb hc k.1
      have := (rests_in hb hc e).1
      unfold kids
      rw [e]
      simp; omega
    have z2 : (1 + 2 * nar c) * ((kids b c).map (pw bs)).sum ≤ (1 + 2 * nar c) * pw bs b := Nat.le_trans z (Nat.mul_le_mul_right _ kl)
    exact Nat.le_of_mul_le_mul_left z2 (by omega)
  · have e : kids b c = [b] := by
      unfold kids
      by_cases a : Apt b c
      · have e := common_apt a
        unfold restsB
        rw [e]; rfl
      · have w : Wth c b := Classical.byContradiction fun n => k ⟨a, n⟩
        rw [common_wth hb hc w, rests_wth hb hc w]; rfl
    rw [e]; simp
/-! ### rows -/
def PlP (a en : Nat) (p : Pl) : Prop := match p with
  | .inr s => s = sPass ∨ s = sStop
  | .inl n => ∃ k : Nat, n = k ∧ a < k ∧ k ≤ en
structure RwP (bs : List (List Sg)) (a en : Nat) (r : Rw) : Prop where
  yes : PlP a en r.yes
  no : ∃ k : Nat, r.no = .inl (k : Int) ∧ a < k ∧ k ≤ en
  bx : r.bx ∈ bs
theorem PlP.up {a en en2 : Nat} {p : Pl} (h : en ≤ en2) (q : PlP a en p) : PlP a en2 p := by
  cases p with
  | inr s => exact q
  | inl n => obtain ⟨k, h1, h2, h3⟩ := q; exact ⟨k, h1, h2, by omega⟩
theorem RwP.up {bs : List (List Sg)} {a en en2 : Nat} {r : Rw} (h : en ≤ en2) (q : RwP bs a en r) : RwP bs a en2 r := by
  obtain ⟨h1, ⟨k, h2, h3, h4⟩, h5⟩ := q
  exact ⟨h1.up h, ⟨k, h2, h3, by omega⟩, h5⟩
theorem wdS_or (s : Bool) : wdS s = sPass ∨ wdS s = sStop := by cases s <;> simp [wdS]
theorem rowsG_wf {bs : List (List Sg)} {nm : Str} {en : Nat} {more : Rl → Nat → List Rw} : ∀ (rs : List Rl) (i at_ : Nat), (∀ r ∈ rs, r.bx ∈ bs ∧ ∀ a j x, (more r a)[j]? = some x → RwP bs (a + j) (a + (more r a).length) x) → at_ + (rowsG nm en more i at_ rs).length ≤ en →
    ∀ j x, (rowsG nm en more i at_ rs)[j]? = some x → RwP bs (at_ + j) en x
  | [], _, _, _, _, j, x, h => by simp [rowsG] at h
  | r :: rs, i, at_, hm, hen, j, x, h => by
    obtain ⟨h1, h2⟩ := hm r (List.mem_cons_self ..)
    have ih := rowsG_wf (bs := bs) (nm := nm) (en := en) (more := more) rs (i + 1) (at_ + 1 + (more r (at_ + 1)).length) (fun q hq => hm q (List.mem_cons_of_mem _ hq))
    simp only [rowsG, List.length_cons, List.length_append] at hen
    simp only [rowsG] at h
    cases j with
    | zero =>
      simp only [List.getElem?_cons_zero, Option.some.injEq] at h
      subst h
      refine ⟨?_, ⟨_, rfl, by omega, by omega⟩, h1⟩
      cases r with
      | word s b => exact wdS_or s
      | back b => exact ⟨en, rfl, by omega, Nat.le_refl _⟩
      | call b n => exact ⟨at_ + 1, rfl, by omega, by omega⟩
    | succ j =>
      simp only [List.getElem?_cons_succ] at h
      by_cases c : j < (more r (at_ + 1)).length
      · rw [List.getElem?_append_left c] at h
        have z := (h2 (at_ + 1) j x h).up (show at_ + 1 + (more r (at_ + 1)).length ≤ en by omega)
        have e : at_ + 1 + j = at_ + (j + 1) := by omega
        rw [e] at z
        exact z
      · rw [List.getElem?_append_right (by omega)] at h
        have z := ih (by omega) _ x h
        have e : at_ + 1 + (more r (at_ + 1)).length + (j - (more r (at_ + 1)).length) = at_ + (j + 1) := by omega
        rw [e] at z
        exact z
theorem rowsF_wf {bs : List (List Sg)} {chs : List Ch} (hb : ∀ (i : Nat) c, chs[i]? = some c → ∀ r ∈ c.2, r.bx ∈ bs) : ∀ (f i st : Nat), Dp chs f i → ∀ j x, (rowsF chs f i st)[j]? = some x → RwP bs (st + j) (st + (rowsF chs f i st).length) x
  | 0, _, _, h, _, _, _ => h.elim
  | f + 1, i, st, hd, j, x, h => by
    have hl := rowsF_len (f + 1) i st hd
    obtain ⟨c, hc, _, hr⟩ := hd
    rw [hl]
    have ef : rowsF chs (f + 1) i st = rowsG c.1 (st + lenF chs (f + 1) i) (moreF chs f) 0 st c.2 := by
      simp only [rowsF, hc]
      rfl
    rw [ef] at h hl
    refine rowsG_wf c.2 0 st (fun r hm => ⟨hb i c hc r hm, fun a k y hy => ?_⟩) (by omega) j x h
    have z := hr r hm
    cases r with
    | call b nm => exact rowsF_wf hb f _ a z.2 k y hy
    | word s b => simp [moreF] at hy
    | back b => simp [moreF] at hy
/-- rows that go on and on -/
def Rws (bs : List (List Sg)) (rows : List Rw) : Prop := (∀ (k : Nat) r, rows[k]? = some r → RwP bs k rows.length r) ∧ ∀ c ∈ bs, InW c
def PlA (n f : Nat) (p : Pl) : Prop := match p with
  | .inr s => s = sPass ∨ s = sStop
  | .inl i => ∃ k : Nat, i = k ∧ k ≤ n ∧ n < k + f
theorem PlP.a {a n f : Nat} {p : Pl} (h : PlP a n p) (hf : n < a + 1 + f) : PlA n f p := by
  cases p with
  | inr s => exact h
  | inl i => obtain ⟨k, h1, h2, h3⟩ := h; exact ⟨k, h1, h3, by omega⟩
theorem RwP.noP {bs : List (List Sg)} {a n : Nat} {r : Rw} (h : RwP bs a n r) : PlP a n r.no := by
  obtain ⟨k, h2, h3, h4⟩ := h.no
  rw [h2]; exact ⟨k, rfl, h3, h4⟩
theorem kids_mem {b c x : List Sg} : x ∈ kids b c ↔ commonB b c = some x ∨ x ∈ restsB b c := by
  unfold kids
  cases commonB b c with
  | none => simp
  | some m => simp [eq_comm]
theorem look_ok {bs : List (List Sg)} {rows : List Rw} (hr : Rws bs rows) : ∀ (f : Nat) (b : List Sg) (p : Pl), InW b → PlA rows.length (f + 1) p → lookOk rows (f + 1) b p
  | _, _, .inr _, _, _ => trivial
  | f, b, .inl i, hb, hp => by
    obtain ⟨k, rfl, h1, h2⟩ := hp
    by_cases c : k = rows.length
    · exact .inl (by rw [c])
    · obtain ⟨r, hk⟩ : ∃ r, rows[k]? = some r := ⟨_, List.getElem?_eq_getElem (by omega)⟩
      have w := hr.1 k r hk
      have hc := hr.2 _ w.bx
      refine .inr ⟨k, r, rfl, hk, by rw [hc.1, hb.1], by rw [hb.1]; omega, fun m hm => ?_, fun x hx => ?_⟩
      · have q := (kids_in hb hc m (kids_mem.mpr (.inl hm))).1
        cases f with
        | zero => omega
        | succ f => exact look_ok hr f m r.yes q (w.yes.a (by omega))
      · have q := (kids_in hb hc x (kids_mem.mpr (.inr hx))).1
        cases f with
        | zero => omega
        | succ f => exact look_ok hr f x r.no q (w.noP.a (by omega))
theorem sum_looks {rows : List Rw} {bs : List (List Sg)} {f : Nat} {p : Pl} (n : Nat) : ∀ l : List (List Sg), (∀ x ∈ l, looks rows f x p ≤ n * pw bs x) → (l.map fun x => looks rows f x p).sum ≤ n * (l.map (pw bs)).sum
  | [], _ => by simp
  | x :: l, h => by
    have ih := sum_looks n l fun y hy => h y (List.mem_cons_of_mem _ hy)
    have z := h x (List.mem_cons_self ..)
    simp only [List.map_cons, List.sum_cons, Nat.mul_add]
    omega
theorem looks_le {bs : List (List Sg)} {rows : List Rw} (hr : Rws bs rows) : ∀ (f : Nat) (b : List Sg) (p : Pl), InW b → looks rows f b p ≤ (f + 1) * pw bs b
  | 0, b, p, _ => by have := pw_pos bs b; simp only [looks]; omega
  | f + 1, b, .inr s, _ => by
    have := pw_pos bs b
    simp only [looks]
    exact Nat.le_trans this (Nat.le_mul_of_pos_left _ (by omega))
  | f + 1, b, .inl i, hb => by
    have p1 := pw_pos bs b
    have one : 1 ≤ (f + 1 + 1) * pw bs b := Nat.le_trans p1 (Nat.le_mul_of_pos_left _ (by omega))
    simp only [looks]
    split
    · exact one
    · cases hk : rows[i.toNat]? with
      | none => exact one
      | some r =>
        have w := hr.1 _ r hk
        have hc := hr.2 _ w.bx
        have kp := kids_pw hb hr.2 w.bx
        have ki := kids_in hb hc
        have s2 : ((restsB b r.bx).map fun x => looks rows f x r.no).sum ≤ (f + 1) * ((restsB b r.bx).map (pw bs)).sum := sum_looks (f + 1) _ fun x hx => looks_le hr f x r.no (ki x (kids_mem.mpr (.inr hx))).1
        have e : (f + 1 + 1) * pw bs b = (f + 1) * pw bs b + pw bs b := Nat.succ_mul _ _
        simp only
        rw [e]
        unfold kids at kp
        cases ec : commonB b r.bx with
        | none =>
          rw [ec] at kp
          simp only [List.nil_append] at kp
          have := Nat.mul_le_mul_left (f + 1) kp
          simp only
          omega
        | some m =>
          rw [ec] at kp
          simp only [List.cons_append, List.nil_append, List.map_cons, List.sum_cons] at kp
          have s1 := looks_le hr f m r.yes (ki m (kids_mem.mpr (.inl ec))).1
          have := Nat.mul_le_mul_left (f + 1) kp
          rw [Nat.mul_add] at this
          simp only
          omega
/-! ### ways -/
inductive Wlk (rows : List Rw) (dflt : Str) (x : List Sg) : Pl → Wy → Str → Prop
  | word (s : Str) : Wlk rows dflt x (.inr s) [] s
  | fin : Wlk rows dflt x (.inl ((rows.length : Nat) : Int)) [] dflt
  | yes {k : Nat} {r : Rw} {w : Wy} {s : Str} : rows[k]? = some r → Wth r.bx x → Wlk rows dflt x r.yes w s → Wlk rows dflt x (.inl (k : Int)) (((k : Int), true) :: w) s
  | no {k : Nat} {r : Rw} {w : Wy} {s : Str} : rows[k]? = some r → Apt x r.bx → Wlk rows dflt x r.no w s → Wlk rows dflt x (.inl (k : Int)) (((k : Int), false) :: w) s
structure Told (rows : List Rw) (dflt : Str) (b : List Sg) (p : Pl) (w0 : Wy) (e : Res3) : Prop where
  box : InW e.1
  wth : Wth b e.1
  way : ∃ w, e.2.1 = w0 ++ w ∧ Wlk rows dflt e.1 p w e.2.2 ∧ w.length ≤ 1000
  word : e.2.2 = sPass ∨ e.2.2 = sStop
theorem look_told {bs : List (List Sg)} {rows : List Rw} {dflt : Str} (hd : dflt = sPass ∨ dflt = sStop) (hr : Rws bs rows) : ∀ (f : Nat) (b : List Sg) (p : Pl) (w0 : Wy), f ≤ 900 → InW b → PlA rows.length f p → ∀ e ∈ look rows dflt f b p w0, InW e.1 ∧ Wth b e.1 ∧ (∃ w, e.2.1 = w0 ++ w ∧ Wlk rows dflt e.1 p w e.2.2 ∧ w.length ≤ f) ∧ (e.2.2 = sPass ∨ e.2.2 = sStop)
  | 0, b, p, w0, _, _, _, e, h => by simp [look] at h
  | f + 1, b, .inr s, w0, _, hb, hp, e, h => by
    simp only [look, List.mem_singleton] at h
    subst h
    exact ⟨hb, Wth.refl, ⟨[], by simp, .word s, by simp⟩, hp⟩
  | f + 1, b, .inl i, w0, hf, hb, hp, e, h => by
    obtain ⟨k, rfl, h1, h2⟩ := hp
    by_cases c : k = rows.length
    · subst c
      simp only [look, if_pos, List.mem_singleton] at h
      subst h
      exact ⟨hb, Wth.refl, ⟨[], by simp, .fin, by simp⟩, hd⟩
    · obtain ⟨r, hk⟩ : ∃ r, rows[k]? = some r := ⟨_, List.getElem?_eq_getElem (by omega)⟩
      have w := hr.1 k r hk
      have hc := hr.2 _ w.bx
      rw [look_row (by omega) hk] at h
      have up : ∀ x p2 (t : Bool), InW x → Wth b x → PlA rows.length f p2 → (∀ y, InW y → Wth x y → ∀ v s, Wlk rows dflt y p2 v s → Wlk rows dflt y (.inl (k : Int)) (((k : Int), t) :: v) s) → e ∈ look rows dflt f x p2 (w0 ++ [((k : Int), t)]) → InW e.1 ∧ Wth b e.1 ∧ (∃ w, e.2.1 = w0 ++ w ∧ Wlk rows dflt e.1 (.inl (k : Int)) w e.2.2 ∧ w.length ≤ f + 1) ∧ (e.2.2 = sPass ∨ e.2.2 = sStop) := fun x p2 t hx wx hp2 go he => by
        obtain ⟨g1, g2, ⟨v, g3, g4, g5⟩, g6⟩ := look_told hd hr f x p2 _ (by omega) hx hp2 e he
        exact ⟨g1, wx.trans hx g1 g2 , ⟨((k : Int), t) :: v, by rw [g3]; simp, go _ g1 g2 _ _ g4, by simp; omega⟩, g6⟩
      rcases List.mem_append.mp h with z | z
      · cases ec : commonB b r.bx with
        | none => rw [ec] at z; cases z
        | some m =>
          rw [ec] at z
          obtain ⟨m1, m2, m3⟩ := common_in hb hc ec
          exact up m r.yes true m1 m2 (w.yes.a (by omega)) (fun y hy wy v s q => .yes hk (m3.trans m1 hy wy) q) z
      · obtain ⟨x, hx, he⟩ := List.mem_flatMap.mp z
        have ki := kids_in hb hc x (kids_mem.mpr (.inr hx))
        have ap : Apt x r.bx := by
          cases ec : commonB b r.bx with
          | none =>
            have er : restsB b r.bx = [b] := by unfold restsB; rw [ec]
            rw [er] at hx
            have : x = b := by simpa using hx
            subst this
            exact Classical.byContradiction fun n => by
              obtain ⟨m, e2⟩ := common_of hb hc n
              rw [ec] at e2; cases e2
          | some m => exact ((rests_in hb hc ec).2 x hx).2.2
        exact up x r.no false ki.1 ki.2.1 (w.noP.a (by omega)) (fun y hy wy v s q => .no hk (ap.sub hy ki.1 wy) q) he
/-! ### a drawn book is well built -/
theorem drawn_ok {n1 n2 : Str} {sizes : List Nat} {bs : List (List Sg)} {chs : List Ch} (h : Drawn [sMain, n1, n2] sizes bs chs) (k1 : Nmk 0 n1) (k2 : Nmk 1 n2) (hs : ∃ s0 s1 s2, sizes = [s0, s1, s2] ∧ s0 ≤ 4 ∧ s1 ≤ 2 ∧ s2 ≤ 2) :
    Uq chs ∧ Dp chs 3 0 ∧ ∀ (i : Nat) c, chs[i]? = some c → ∀ r ∈ c.2, r.bx ∈ bs := by
  obtain ⟨c0, c1, c2, p0, p1, p2, ho⟩ := h
  obtain ⟨s0, s1, s2, rfl, l0, l1, l2⟩ := hs
  obtain ⟨e0, ⟨t0, et0, q0⟩, r0⟩ := p0
  obtain ⟨e1, ⟨t1, et1, q1⟩, r1⟩ := p1
  obtain ⟨e2, ⟨t2, et2, q2⟩, r2⟩ := p2
  simp at e0 e1 e2 et0 et1 et2
  have ml : sMain.cps.toList = [109, 97, 105, 110] := by decide +kernel
  have d1 : n1 ≠ sMain := fun z => by
    have := k1.1 109 (by rw [z, ml]; simp)
    omega
  have d2 : n2 ≠ sMain := fun z => by
    have := k2.1 97 (by rw [z, ml]; simp)
    omega
  have d3 : n1 ≠ n2 := fun z => by
    obtain ⟨c, hc, a1, a2⟩ := k1.2.1
    have := k2.1 c (by rw [← z]; exact hc)
    omega
  have d3' : n2 ≠ n1 := fun z => d3 z.symm
  have d1' : sMain ≠ n1 := fun z => d1 z.symm
  have d2' : sMain ≠ n2 := fun z => d2 z.symm
  have no2 : ∀ r ∈ c2.2, ∀ b nm, r = .call b nm → False := fun r hr b nm e => by
    have z := (r2 r hr).2
    subst e
    obtain ⟨j, a1, a2, _⟩ := z
    omega
  have key : ∀ i1 i2, chs[0]? = some c0 → chs[i1]? = some c1 → chs[i2]? = some c2 → ixOf chs n1 = i1 → ixOf chs n2 = i2 → Dp chs 3 0 := fun i1 i2 g0 g1 g2 x1 x2 => by
    have D2 : ∀ f, Dp chs (f + 1) i2 := fun f => ⟨c2, g2, by unfold bd; split <;> omega, fun r hr => by
      cases r with
      | call b nm => exact (no2 _ hr b nm rfl).elim
      | word s b => trivial
      | back b => trivial⟩
    have D1 : Dp chs 2 i1 := ⟨c1, g1, by unfold bd; split <;> omega, fun r hr => by
      have z := (r1 r hr).2
      cases r with
      | call b nm =>
        obtain ⟨j, a1, a2, a3⟩ := z
        have : j = 2 := by omega
        subst this
        simp at a3
        subst a3
        dsimp only
        rw [x2]
        exact ⟨⟨c2, g2, e2.symm⟩, D2 0⟩
      | word s b => trivial
      | back b => trivial⟩
    refine ⟨c0, g0, by show c0.2.length ≤ 4; omega, fun r hr => ?_⟩
    have z := (r0 r hr).2
    cases r with
    | call b nm =>
      obtain ⟨j, a1, a2, a3⟩ := z
      rcases (by omega : j = 1 ∨ j = 2) with q | q <;> subst q <;> simp at a3 <;> subst a3
      · dsimp only; rw [x1]; exact ⟨⟨c1, g1, e1.symm⟩, D1⟩
      · dsimp only; rw [x2]; exact ⟨⟨c2, g2, e2.symm⟩, D2 1⟩
    | word s b => trivial
    | back b => trivial
  have mem : ∀ c : Ch, c = c0 ∨ c = c1 ∨ c = c2 → ∀ r ∈ c.2, r.bx ∈ bs := fun c hc r hr => by
    rcases hc with z | z | z <;> subst z
    · exact (r0 r hr).1
    · exact (r1 r hr).1
    · exact (r2 r hr).1
  rcases ho with ho | ho <;> subst ho
  · refine ⟨⟨by simp, fun i c hc => ?_⟩, key 1 2 rfl rfl rfl ?_ ?_, fun i c hc => mem c ?_⟩
    · rcases i with _ | _ | _ | i <;> simp at hc <;> subst hc <;> simp [ixOf, List.findIdx_cons, ← e0, ← e1, ← e2, d1, d2, d3, d1', d2', d3']
    · simp [ixOf, List.findIdx_cons, ← e0, ← e1, ← e2, d1, d2, d3, d1', d2', d3']
    · simp [ixOf, List.findIdx_cons, ← e0, ← e1, ← e2, d1, d2, d3, d1', d2', d3']
    · rcases i with _ | _ | _ | i <;> simp at hc <;> subst hc <;> simp
  · refine ⟨⟨by simp, fun i c hc => ?_⟩, key 2 1 rfl rfl rfl ?_ ?_, fun i c hc => mem c ?_⟩
    · rcases i with _ | _ | _ | i <;> simp at hc <;> subst hc <;> simp [ixOf, List.findIdx_cons, ← e0, ← e1, ← e2, d1, d2, d3, d1', d2', d3']
    · simp [ixOf, List.findIdx_cons, ← e0, ← e1, ← e2, d1, d2, d3, d1', d2', d3']
    · simp [ixOf, List.findIdx_cons, ← e0, ← e1, ← e2, d1, d2, d3, d1', d2', d3']
    · rcases i with _ | _ | _ | i <;> simp at hc <;> subst hc <;> simp
/-- what is to be known of the rows of a drawn book -/
structure DRows (bs : List (List Sg)) (rows : List Rw) : Prop where
  rws : Rws bs rows
  len : rows.length ≤ 28
  few : prodB bs ≤ 45
theorem drawn_rows {bs : List (List Sg)} {chs : List Ch} (hd : Dp chs 3 0) (hb : ∀ (i : Nat) c, chs[i]? = some c → ∀ r ∈ c.2, r.bx ∈ bs) (hw : ∀ b ∈ bs, InW b) (hp : prodB bs ≤ 45) : DRows bs (rowsF chs 3 0 0) := by
  refine ⟨⟨fun k r hk => ?_, hw⟩, ?_, hp⟩
  · have z := rowsF_wf hb 3 0 0 hd k r hk
    rw [Nat.zero_add, Nat.zero_add] at z
    exact z
  · rw [rowsF_len 3 0 0 hd]
    exact Nat.le_trans (lenF_le 3 0 hd) (bdL_3 (Nat.le_refl _))
theorem DRows.ok {bs : List (List Sg)} {rows : List Rw} (h : DRows bs rows) {b : List Sg} (hb : InW b) : lookOk rows 29 b (.inl 0) := look_ok h.rws 28 b (.inl 0) hb ⟨0, rfl, Nat.zero_le _, by have := h.len; omega⟩
theorem DRows.n {bs : List (List Sg)} {rows : List Rw} (h : DRows bs rows) {b : List Sg} (hb : InW b) : looks rows 29 b (.inl 0) ≤ 1350 := by
  refine Nat.le_trans (looks_le h.rws 29 b (.inl 0) hb) ?_
  have := Nat.le_trans (pw_le bs b) h.few
  omega
theorem DRows.told {bs : List (List Sg)} {rows : List Rw} (h : DRows bs rows) {dflt : Str} (hd : dflt = sPass ∨ dflt = sStop) {b : List Sg} (hb : InW b) : ∀ e ∈ look rows dflt 29 b (.inl 0) [], InW e.1 ∧ Wth b e.1 ∧ (∃ w, e.2.1 = w ∧ Wlk rows dflt e.1 (.inl 0) w e.2.2 ∧ w.length ≤ 29) ∧ (e.2.2 = sPass ∨ e.2.2 = sStop) := by
  intro e he
  have z := look_told hd h.rws 29 b (.inl 0) [] (by omega) hb ⟨0, rfl, Nat.zero_le _, by have := h.len; omega⟩ e he
  simp only [List.nil_append] at z
  exact z
theorem pass_lay : (PyData.str sPass).canLay0 = true := by decide +kernel
theorem stop_lay : (PyData.str sStop).canLay0 = true := by decide +kernel
theorem look_len {rows : List Rw} {dflt : Str} : ∀ (f : Nat) (b : List Sg) (p : Pl) (w : Wy), (look rows dflt f b p w).length ≤ looks rows f b p
  | 0, _, _, _ => by simp [look]
  | f + 1, b, .inr s, w => by simp [look, looks]
  | f + 1, b, .inl n, w => by
    simp only [look, looks]
    by_cases c : n = rows.length
    · rw [if_pos c, if_pos c]; simp
    · rw [if_neg c, if_neg c]
      cases rows[n.toNat]? with
      | none => simp
      | some r =>
        have fl : ∀ l : List (List Sg), (l.flatMap fun x => look rows dflt f x r.no (w ++ [(n, false)])).length ≤ (l.map fun x => looks rows f x r.no).sum := by
          intro l
          induction l with
          | nil => simp
          | cons x l ih =>
            have := look_len (rows := rows) (dflt := dflt) f x r.no (w ++ [(n, false)])
            simp only [List.flatMap_cons, List.length_append, List.map_cons, List.sum_cons]
            omega
        have z := fl (restsB b r.bx)
        simp only [List.length_append]
        cases commonB b r.bx with
        | none => simp only [List.length_nil]; omega
        | some m =>
          have := look_len (rows := rows) (dflt := dflt) f m r.yes (w ++ [(n, true)])
          simp only
          omega
end Mn
/-! Mini: talks and tables -/
namespace Mn
open PySem
open Classical
structure Lb where
  k : Int
  s : Int
  n : Int
  r : Int
  f : Int
  deriving DecidableEq
def lbV (l : Lb) : Val := .tup [.int l.k, .int l.s, .int l.n, .int l.r, .int l.f]
def Lb.flip (l : Lb) : Lb := ⟨l.k, l.r, l.f, l.s, l.n⟩
theorem flip_flip (l : Lb) : l.flip.flip = l := rfl
theorem flip_inj {a b : Lb} (h : a.flip = b.flip) : a = b := by rw [← flip_flip a, ← flip_flip b, h]
def lbD (l : Lb) : PyData := .tuple [.int l.k, .int l.s, .int l.n, .int l.r, .int l.f]
theorem snap_lb {h : MH} {n : Nat} {l : Lb} : snap h (n + 2) (lbV l) = some (lbD l) := by simp [snap, lbV, lbD, mapO]
theorem eqv_lb {a b : Lb} : PyData.eqv (lbD a) (lbD b) = decide (a = b) := by
  obtain ⟨a1, a2, a3, a4, a5⟩ := a
  obtain ⟨b1, b2, b3, b4, b5⟩ := b
  simp [lbD, PyData.eqv, PyData.eqvAll]
  by_cases c1 : a1 = b1 <;> by_cases c2 : a2 = b2 <;> by_cases c3 : a3 = b3 <;> by_cases c4 : a4 = b4 <;> by_cases c5 : a5 = b5 <;> simp [c1, c2, c3, c4, c5]
theorem v_lb {h : MH} {a b : Lb} : veq h (lbV a) (lbV b) = some (decide (a = b)) := by
  show (match snap h 64 (lbV a), snap h 64 (lbV b) with
    | some d, some e => some (PyData.eqv d e)
    | _, _ => none) = _
  rw [snap_lb, snap_lb]
  simp only [eqv_lb]
structure Tk where
  label : Lb
  sent : Lb
  til : Int
  ans : Bool
  f1 : Bool
  f2 : Bool
def tkF (t : Tk) : List (String × Val) := [("label", lbV t.label), ("sent", lbV t.sent), ("until", .int t.til), ("answered", .bl t.ans), ("farewells", .tup [.bl t.f1, .bl t.f2])]
structure Tbl where
  short : Int
  long : Int
  most : Int
  time : Int
  talks : List Tk
def tbF (t : Tbl) (L : Nat) : List (String × Val) := [("short", .int t.short), ("long", .int t.long), ("most", .int t.most), ("time", .int t.time), ("talks", .ref L)]
def TkAt (h : MH) (i : Nat) (t : Tk) : Prop := h[i]? = some (.ins "Talk" (tkF t))
structure TabAt (h : MH) (A L : Nat) (is : List Nat) (t : Tbl) : Prop where
  a : h[A]? = some (.ins "Table" (tbF t L))
  l : h[L]? = some (.lst true (is.map .ref))
  t : F2 (TkAt h) is t.talks
  nd : is.Nodup
/-- what of the program is asked -/
class TalkPg (P : Pg) : Prop where
  m1 : P.mro "Talk" "key_back" = some "Talk.key_back"
  m2 : P.mro "Table" "talk_by" = some "Table.talk_by"
  m3 : P.mro "Table" "free" = some "Table.free"
  m4 : P.mro "Table" "is_full" = some "Table.is_full"
  m5 : P.mro "Talk" "__init__" = some "Talk.__init__"
  f1 : (P.flds "Talk").contains "label" = true
  f2 : (P.flds "Talk").contains "sent" = true
  f3 : (P.flds "Talk").contains "until" = true
  f4 : (P.flds "Talk").contains "answered" = true
  f5 : (P.flds "Talk").contains "farewells" = true
  f6 : (P.flds "Table").contains "short" = true
  f7 : (P.flds "Table").contains "long" = true
  f8 : (P.flds "Table").contains "most" = true
  f9 : (P.flds "Table").contains "time" = true
  f10 : (P.flds "Table").contains "talks" = true
section
variable {P : Pg} [TalkPg P]
theorem tp_m1 : P.mro "Talk" "key_back" = some "Talk.key_back" := TalkPg.m1
theorem tp_m2 : P.mro "Table" "talk_by" = some "Table.talk_by" := TalkPg.m2
theorem tp_m3 : P.mro "Table" "free" = some "Table.free" := TalkPg.m3
theorem tp_m4 : P.mro "Table" "is_full" = some "Table.is_full" := TalkPg.m4
theorem tp_m5 : P.mro "Talk" "__init__" = some "Talk.__init__" := TalkPg.m5
theorem tp_f1 : (P.flds "Talk").contains "label" = true := TalkPg.f1
theorem tp_f2 : (P.flds "Talk").contains "sent" = true := TalkPg.f2
theorem tp_f3 : (P.flds "Talk").contains "until" = true := TalkPg.f3
theorem tp_f4 : (P.flds "Talk").contains "answered" = true := TalkPg.f4
theorem tp_f5 : (P.flds "Talk").contains "farewells" = true := TalkPg.f5
theorem tp_f6 : (P.flds "Table").contains "short" = true := TalkPg.f6
theorem tp_f7 : (P.flds "Table").contains "long" = true := TalkPg.f7
theorem tp_f8 : (P.flds "Table").contains "most" = true := TalkPg.f8
theorem tp_f9 : (P.flds "Table").contains "time" = true := TalkPg.f9
theorem tp_f10 : (P.flds "Table").contains "talks" = true := TalkPg.f10
end
local macro_rules
  | `(tactic| subst_eqs) => `(tactic| simp (maxDischargeDepth := 40) only [f_lens, f_str, f_ints, ri_str, mo_join, mo_split, mo_part, mo_find, mo_upper, so_nil, m_join, m_split, m_part, m_find, m_upper, is_k, we_fld, g_fld, ws_rai, ws_try, ws_onlyA, ws_onlyR, ws_hold, hot_n, hot_c, hot_0, hot_a, hot_r, ra_n, ra_f, n_exc, ty_exc, g_fldx, ws_fld, g_set, we_own, ow_ref, ow_i, in_n, we_new, pf_nil, pf_cons, lk_nil, lk_cons, String.reduceEq, reduceIte, b_muls, b_mull, i_str, f_sum, io_nil, io_cons, m_pop, m_index, mo_index, m_bit, mo_bit, vlen_app, ap_l, lt_last, lt_app, set_app, cut_take, cut_drop1, nn_add, nn_mul, nn_cast, nn_mod, at_nat, List.getElem?_map, Option.map_some, Int.zero_add, Int.mul_one, m_okr, mo_append, mo_extend, mo_pop, mo_popAt, mo_clear, set_last, sz_lt, mulOk_l, pow_lit, app_last, implies_true, Int.reduceToNat, stands_one, stands_two, if_t, if_f, if_dec, if_not, if_and, if_or, bl_k, in_k, op_k, op_n, op_map, op_if, ls_k, wp_ok, wp_err, wp_bad, wp_if, wp_ret, wg_0, wg_s, we_var, we_con, we_glb, we_bin, we_cmp, we_and, we_or, we_not, we_neg, we_isN, we_notN, we_isB, we_chn, we_lst, we_tup, we_idx, wo_none, wo_some, we_slc, we_call, we_bi, we_isi, we_mth, we_nil, we_cons, we_cmp1, ws_ite, ws_asg, ws_asgT, un_tup, un_ref, tu_l, bt_nm, bt_tp, bs_nil, bs_cons, ws_exp, ws_ret, ws_retN, ws_brk, ws_cnt, ws_pas, wb_nil, wb_cons, ws_for, ws_whl, ws_sub, wp_call, stands_nil, b_add, b_sub, b_mul, b_div, b_mod, b_pow, b_shl, b_shr, b_and, b_or, b_xor, b_adds, b_addt, b_addl, c_lt, c_le, c_gt, c_ge, c_eq, c_ne, c_in, c_nin, v_ii, v_ss, v_bb, i_tup, i_lst, ix_l, ix_d, l_tup, l_lst, ln_l, ln_d, lo_l, lo_d, su_l, su_d, su_t, dk_s, dk_n, k_tup, kt_tup, gt_tup, ix_t, m_get, mo_getd, mo_gett, gt_t, gt_e, k_int, k_str, gk_int, gk_str, ri_val, ri_rng, ri_enm, ri_zip, ri_rev, ri_itm, dc_k, we_dct, we_lofv, we_lofr, we_lofz, we_fst, fs_n, fs_s, fs_i, f_dict, it_zipl, List.isEmpty_cons, m_insert, mo_insert, f_max, f_min, f_int, f_intb, f_tupt, f_tupl, f_lstt, f_lstl, s_tup, s_lst, m_append, m_extend, u_sub, ib_t, ib_f, ib_non, ib_int, ib_str, ib_tup, ib_ref, n_non, n_bl, n_int, n_str, n_tup, n_ref, ty_non, ty_bl, ty_int, ty_str, ty_tup, ty_ref, tyO_l, tyO_i, List.set_cons_zero, List.set_cons_succ, List.map_cons, List.map_nil, List.length_cons, List.length_nil, List.length_map, List.replicate_zero, List.replicate_succ, List.nil_append, List.cons_append, Bool.not_true, Bool.not_false, and_true, true_and, true_implies, false_implies, and_false, false_and, not_false_eq_true, not_true_eq_false, Nat.reduceAdd, Nat.reduceSub, Nat.reduceLeDiff, Nat.reduceMul, Int.reduceMul, Int.reduceAdd, Int.reduceSub, Int.reduceLT, Int.reduceLE, Int.reduceNeg, Int.reduceEq, Int.cast_ofNat_Int, Int.reducePow, Nat.reducePow, divOk_lit, mulOk_r, eq_self, and_self, decide_true, decide_false, it_rng1, it_rng2, it_rng3, it_rngd, it_valt, it_vall, it_enml, it_enmt, it_revl, it_zipt, v_tt, pl_non, pl_int, pl_str, pl_tup, List.all_cons, List.all_nil, Bool.and_self, at_0, at_1, at_2, at_3, at_4, at_5, sz_ok, Val.ref.injEq, Val.int.injEq, Val.bl.injEq, Val.str.injEq, Val.tup.injEq, List.cons.injEq, Option.some.injEq, exists_eq, exists_eq', exists_eq_left, exists_eq_left', exists_eq_right, exists_eq_right', exists_and_left, exists_and_right, tp_m1, tp_m2, tp_m3, tp_m4, tp_m5, tp_f1, tp_f2, tp_f3, tp_f4, tp_f5, tp_f6, tp_f7, tp_f8, tp_f9, tp_f10])
local macro_rules
  | `(tactic| exists $ts,*) => `(tactic| simp (maxDischargeDepth := 40) only [f_lens, f_str, f_ints, ri_str, mo_join, mo_split, mo_part, mo_find, mo_upper, so_nil, m_join, m_split, m_part, m_find, m_upper, is_k, we_fld, g_fld, ws_rai, ws_try, ws_onlyA, ws_onlyR, ws_hold, hot_n, hot_c, hot_0, hot_a, hot_r, ra_n, ra_f, n_exc, ty_exc, g_fldx, ws_fld, g_set, we_own, ow_ref, ow_i, in_n, we_new, pf_nil, pf_cons, lk_nil, lk_cons, String.reduceEq, reduceIte, b_muls, b_mull, i_str, f_sum, io_nil, io_cons, m_pop, m_index, mo_index, m_bit, mo_bit, vlen_app, ap_l, lt_last, lt_app, set_app, cut_take, cut_drop1, nn_add, nn_mul, nn_cast, nn_mod, at_nat, List.getElem?_map, Option.map_some, Int.zero_add, Int.mul_one, m_okr, mo_append, mo_extend, mo_pop, mo_popAt, mo_clear, set_last, sz_lt, mulOk_l, pow_lit, app_last, implies_true, Int.reduceToNat, stands_one, stands_two, if_t, if_f, if_dec, if_not, if_and, if_or, bl_k, in_k, op_k, op_n, op_map, op_if, ls_k, wp_ok, wp_err, wp_bad, wp_if, wp_ret, wg_0, wg_s, we_var, we_con, we_glb, we_bin, we_cmp, we_and, we_or, we_not, we_neg, we_isN, we_notN, we_isB, we_chn, we_lst, we_tup, we_idx, wo_none, wo_some, we_slc, we_call, we_bi, we_isi, we_mth, we_nil, we_cons, we_cmp1, ws_ite, ws_asg, ws_asgT, un_tup, un_ref, tu_l, bt_nm, bt_tp, bs_nil, bs_cons, ws_exp, ws_ret, ws_retN, ws_brk, ws_cnt, ws_pas, wb_nil, wb_cons, ws_for, ws_whl, ws_sub, wp_call, stands_nil, b_add, b_sub, b_mul, b_div, b_mod, b_pow, b_shl, b_shr, b_and, b_or, b_xor, b_adds, b_addt, b_addl, c_lt, c_le, c_gt, c_ge, c_eq, c_ne, c_in, c_nin, v_ii, v_ss, v_bb, i_tup, i_lst, ix_l, ix_d, l_tup, l_lst, ln_l, ln_d, lo_l, lo_d, su_l, su_d, su_t, dk_s, dk_n, k_tup, kt_tup, gt_tup, ix_t, m_get, mo_getd, mo_gett, gt_t, gt_e, k_int, k_str, gk_int, gk_str, ri_val, ri_rng, ri_enm, ri_zip, ri_rev, ri_itm, dc_k, we_dct, we_lofv, we_lofr, we_lofz, we_fst, fs_n, fs_s, fs_i, f_dict, it_zipl, List.isEmpty_cons, m_insert, mo_insert, f_max, f_min, f_int, f_intb, f_tupt, f_tupl, f_lstt, f_lstl, s_tup, s_lst, m_append, m_extend, u_sub, ib_t, ib_f, ib_non, ib_int, ib_str, ib_tup, ib_ref, n_non, n_bl, n_int, n_str, n_tup, n_ref, ty_non, ty_bl, ty_int, ty_str, ty_tup, ty_ref, tyO_l, tyO_i, List.set_cons_zero, List.set_cons_succ, List.map_cons, List.map_nil, List.length_cons, List.length_nil, List.length_map, List.replicate_zero, List.replicate_succ, List.nil_append, List.cons_append, Bool.not_true, Bool.not_false, and_true, true_and, true_implies, false_implies, and_false, false_and, not_false_eq_true, not_true_eq_false, Nat.reduceAdd, Nat.reduceSub, Nat.reduceLeDiff, Nat.reduceMul, Int.reduceMul, Int.reduceAdd, Int.reduceSub, Int.reduceLT, Int.reduceLE, Int.reduceNeg, Int.reduceEq, Int.cast_ofNat_Int, Int.reducePow, Nat.reducePow, divOk_lit, mulOk_r, eq_self, and_self, decide_true, decide_false, it_rng1, it_rng2, it_rng3, it_rngd, it_valt, it_vall, it_enml, it_enmt, it_revl, it_zipt, v_tt, pl_non, pl_int, pl_str, pl_tup, List.all_cons, List.all_nil, Bool.and_self, at_0, at_1, at_2, at_3, at_4, at_5, sz_ok, Val.ref.injEq, Val.int.injEq, Val.bl.injEq, Val.str.injEq, Val.tup.injEq, List.cons.injEq, Option.some.injEq, exists_eq, exists_eq', exists_eq_left, exists_eq_left', exists_eq_right, exists_eq_right', exists_and_left, exists_and_right, tp_m1, tp_m2, tp_m3, tp_m4, tp_m5, tp_f1, tp_f2, tp_f3, tp_f4, tp_f5, tp_f6, tp_f7, tp_f8, tp_f9, tp_f10, $[$ts:term],*])
/-- flip(label); names 0 label, 1 kind, 2 sender, 3 near, 4 receiver, 5 far -/
def dS_flip : Df := { ps := [Str.ofString "label"], np := 1, nn := 6, body :=
   [.asg (.tp [1, 2, 3, 4, 5]) (.var 0),
    .ret (.tup [.var 1, .var 4, .var 5, .var 2, .var 3])] }
/-- Talk.__init__(self, label, sent, until); names 0 self, 1 label, 2 sent, 3 until -/
def dS_Talk___init__ : Df := { ps := [Str.ofString "self", Str.ofString "label", Str.ofString "sent", Str.ofString "until"], np := 4, nn := 4, body :=
   [.fld (.var 0) "label" (.var 1),
    .fld (.var 0) "sent" (.var 2),
    .fld (.var 0) "until" (.var 3),
    .fld (.var 0) "answered" (.con (.bl false)),
    .fld (.var 0) "farewells" (.tup [.con (.bl false), .con (.bl false)])] }
/-- Talk.key_back(self); names 0 self -/
def dS_Talk_key_back : Df := { ps := [Str.ofString "self"], np := 1, nn := 1, body :=
   [.ret (.call "flip" [.fld (.var 0) "sent"])] }
/-- Table.__init__(self, short, long, most); names 0 self, 1 short, 2 long, 3 most -/
def dS_Table___init__ : Df := { ps := [Str.ofString "self", Str.ofString "short", Str.ofString "long", Str.ofString "most"], np := 4, nn := 4, body :=
   [.fld (.var 0) "short" (.var 1),
    .fld (.var 0) "long" (.var 2),
    .fld (.var 0) "most" (.var 3),
    .fld (.var 0) "time" (.con (.int 0)),
    .fld (.var 0) "talks" (.lst [])] }
/-- Table.talk_by(self, label); names 0 self, 1 label, 2 talk -/
def dS_Table_talk_by : Df := { ps := [Str.ofString "self", Str.ofString "label"], np := 2, nn := 3, body :=
   [.forS (.nm 2) .val [.fld (.var 0) "talks"]
      [.ite (.or (.cmp .Eq (.var 1) (.fld (.var 2) "label")) (.cmp .Eq (.var 1) (.own "key_back" (.var 2) [])))
         [.ret (.var 2)]
         []],
    .ret (.con (.non))] }
/-- Table.turn(self, label); names 0 self, 1 label, 2 talk -/
def dS_Table_turn : Df := { ps := [Str.ofString "self", Str.ofString "label"], np := 2, nn := 3, body :=
   [.asg (.nm 2) (.own "talk_by" (.var 0) [.var 1]),
    .ite (.isN (.var 2))
      [.ret (.con (.int 0))]
      [],
    .ite (.cmp .NotEq (.var 1) (.fld (.var 2) "label"))
      [.ret (.con (.int 3))]
      [],
    .ite (.fld (.var 2) "answered")
      [.ret (.con (.int 2))]
      [],
    .ret (.con (.int 1))] }
/-- Table.free(self, label, sent); names 0 self, 1 label, 2 sent, 3 key -/
def dS_Table_free : Df := { ps := [Str.ofString "self", Str.ofString "label", Str.ofString "sent"], np := 3, nn := 4, body :=
   [.asg (.nm 3) (.call "flip" [.var 2]),
    .ite (.cmp .Eq (.var 1) (.var 3))
      [.ret (.con (.bl false))]
      [],
    .ret (.and (.isN (.own "talk_by" (.var 0) [.var 1])) (.isN (.own "talk_by" (.var 0) [.var 3])))] }
/-- Table.is_full(self); names 0 self -/
def dS_Table_is_full : Df := { ps := [Str.ofString "self"], np := 1, nn := 1, body :=
   [.ret (.cmp .GtE (.bi .len [.fld (.var 0) "talks"]) (.fld (.var 0) "most"))] }
/-- Table.begin(self, label, sent); names 0 self, 1 label, 2 sent -/
def dS_Table_begin : Df := { ps := [Str.ofString "self", Str.ofString "label", Str.ofString "sent"], np := 3, nn := 3, body :=
   [.ite (.own "is_full" (.var 0) [])
      [.rai "Full" [.con (.str (Str.ofString "as many talks stand as may"))]]
      [],
    .ite (.not (.own "free" (.var 0) [.var 1, .var 2]))
      [.rai "Taken" [.con (.str (Str.ofString "labels that are not free"))]]
      [],
    .exp (.mth .append (.fld (.var 0) "talks") [.new "Talk" [.var 1, .var 2, .bin .Add (.fld (.var 0) "time") (.fld (.var 0) "short")]])] }
/-- Table.standing(self); names 0 self, 1 talk -/
def dS_Table_standing : Df := { ps := [Str.ofString "self"], np := 1, nn := 2, body :=
   [.ret (.cmp1 [1] (.tup [.fld (.var 1) "label", .fld (.var 1) "sent", .fld (.var 1) "answered", .fld (.var 1) "until"]) (.nm 1) .val [.fld (.var 0) "talks"] none)] }
section
variable {P : Pg} {h : MH} {Q : Val → MH → Prop} {Z : XP}
theorem lb_def {l : Lb} : lbV l = .tup [.int l.k, .int l.s, .int l.n, .int l.r, .int l.f] := id rfl
theorem tk_def {t : Tk} : tkF t = [("label", lbV t.label), ("sent", lbV t.sent), ("until", .int t.til), ("answered", .bl t.ans), ("farewells", .tup [.bl t.f1, .bl t.f2])] := id rfl
theorem tb_def {t : Tbl} {L : Nat} : tbF t L = [("short", .int t.short), ("long", .int t.long), ("most", .int t.most), ("time", .int t.time), ("talks", .ref L)] := id rfl
theorem flip_run {l : Lb} : (callB P dS_flip [lbV l] h).wp Q Z = Q (lbV l.flip) h := by
  refine wp_is (wp_eq ?_)
  rw [wp_call]
  unfold dS_flip
  exists lb_def, Lb.flip
abbrev FlipOk (P : Pg) : Prop := ∀ {h : MH} {l : Lb} {Q : Val → MH → Prop} {Z : XP}, (P.cf "flip" [lbV l] h).wp Q Z = Q (lbV l.flip) h
abbrev KeyOk (P : Pg) : Prop := ∀ {h : MH} {i : Nat} {t : Tk} {Q : Val → MH → Prop} {Z : XP}, TkAt h i t → (P.cf "Talk.key_back" [.ref i] h).wp Q Z = Q (lbV t.sent.flip) h
def hit (l : Lb) (t : Tk) : Bool := decide (l = t.label) || decide (l = t.sent.flip)
def tby (l : Lb) : List Nat → List Tk → Option (Nat × Tk)
  | i :: is, t :: ts => if hit l t = true then some (i, t) else tby l is ts
  | _, _ => none
def opR : Option (Nat × Tk) → Val
  | none => .non
  | some p => .ref p.1
theorem opr_n : opR none = .non := id rfl
theorem opr_s {i : Nat} {t : Tk} : opR (some (i, t)) = .ref i := id rfl
def isKey (l : Lb) (ts : List Tk) : Bool := ts.any (hit l)
theorem tby_none {l : Lb} : ∀ {is : List Nat} {ts : List Tk}, is.length = ts.length → (tby l is ts = none ↔ isKey l ts = false)
  | [], [], _ => by simp [tby, isKey]
  | _ :: _, [], h => by simp at h
  | [], _ :: _, h => by simp at h
  | i :: is, t :: ts, h => by
    have ih := tby_none (l := l) (is := is) (ts := ts) (by simpa using h)
    simp only [tby, isKey, List.any_cons]
    by_cases c : hit l t = true
    · simp [c]
    · rw [if_neg c]
      simp only [isKey] at ih
      simp [c, ih]
theorem tby_at {l : Lb} : ∀ {is : List Nat} {ts : List Tk} {i : Nat} {t : Tk}, tby l is ts = some (i, t) → ∃ k : Nat, is[k]? = some i ∧ ts[k]? = some t ∧ hit l t = true ∧ ∀ j t', j < k → ts[j]? = some t' → hit l t' = false
  | [], _, _, _, h => by simp [tby] at h
  | _ :: _, [], _, _, h => by simp [tby] at h
  | i0 :: is, t0 :: ts, i, t, h => by
    simp only [tby] at h
    by_cases c : hit l t0 = true
    · rw [if_pos c] at h
      cases h
      exact ⟨0, rfl, rfl, c, fun j t' hj => by omega⟩
    · rw [if_neg c] at h
      obtain ⟨k, h1, h2, h3, h4⟩ := tby_at h
      refine ⟨k + 1, by simpa using h1, by simpa using h2, h3, fun j t' hj ht => ?_⟩
      cases j with
      | zero => simp at ht; subst ht; simpa using c
      | succ j => exact h4 j t' (by omega) (by simpa using ht)
abbrev TalkByOk (P : Pg) : Prop := ∀ {h : MH} {A L : Nat} {is : List Nat} {tb : Tbl} {l : Lb} {Q : Val → MH → Prop} {Z : XP}, TabAt h A L is tb → (P.cf "Table.talk_by" [.ref A, lbV l] h).wp Q Z = Q (opR (tby l is tb.talks)) h
def freeT (ts : List Tk) (l s : Lb) : Bool := !decide (l = s.flip) && (!isKey l ts && !isKey s.flip ts)
abbrev FreeOk (P : Pg) : Prop := ∀ {h : MH} {A L : Nat} {is : List Nat} {tb : Tbl} {l s : Lb} {Q : Val → MH → Prop} {Z : XP}, TabAt h A L is tb → (P.cf "Table.free" [.ref A, lbV l, lbV s] h).wp Q Z = Q (.bl (freeT tb.talks l s)) h
abbrev FullOk (P : Pg) : Prop := ∀ {h : MH} {A L : Nat} {is : List Nat} {tb : Tbl} {Q : Val → MH → Prop} {Z : XP}, TabAt h A L is tb → (P.cf "Table.is_full" [.ref A] h).wp Q Z = Q (.bl (decide (tb.most ≤ tb.talks.length))) h
def turnT (o : Option (Nat × Tk)) (l : Lb) : Int := match o with
  | none => 0
  | some p => if l = p.2.label then (if p.2.ans = true then 2 else 1) else 3
theorem key_run [TalkPg P] (hf : FlipOk P) {i : Nat} {t : Tk} (ht : TkAt h i t) : (callB P dS_Talk_key_back [.ref i] h).wp Q Z = Q (lbV t.sent.flip) h := by
  refine wp_is (wp_eq ?_)
  rw [wp_call]
  unfold dS_Talk_key_back
  have ht : h[i]? = _ := ht
  exists ht, tk_def, hf
theorem talk_by_run [TalkPg P] (hk : KeyOk P) {A L : Nat} {is : List Nat} {tb : Tbl} {l : Lb} (T : TabAt h A L is tb) : (callB P dS_Table_talk_by [.ref A, lbV l] h).wp Q Z = Q (opR (tby l is tb.talks)) h := by
  refine wp_is (wp_eq ?_)
  rw [wp_call]
  unfold dS_Table_talk_by
  have hA := T.a
  have hL := T.l
  exists hA, tb_def, hL
  have key : ∀ (is' : List Nat) (ts' : List Tk) (x : Option Val) (K : Ks), F2 (TkAt h) is' ts' → (∀ x, tby l is' ts' = none → K.nx [some (.ref A), some (lbV l), x] h) → (∀ p, tby l is' ts' = some p → K.rt (.ref p.1) h) →
      (forL (.nm 2) [(L, Ob.lst true (is.map .ref))] (evB P [.ite (.or (.cmp .Eq (.var 1) (.fld (.var 2) "label")) (.cmp .Eq (.var 1) (.own "key_back" (.var 2) []))) [.ret (.var 2)] []]) (is'.map .ref) [some (.ref A), some (lbV l), x] h).wp K := by
    intro is'
    induction is' with
    | nil =>
      intro ts' x K hF k1 k2
      cases hF
      rw [List.map_nil, wf_nil, stands_one]
      exact ⟨hL, k1 x rfl⟩
    | cons i is' ih =>
      intro ts' x K hF k1 k2
      cases hF with
      | cons ht hF =>
        rename_i t ts'
        have kk := fun Q Z => hk (Q := Q) (Z := Z) ht
        have ht : h[i]? = _ := ht
        simp only [tby] at k1 k2
        by_cases c : hit l t = true
        · rw [if_pos c] at k1 k2
          have k2 := k2 (i, t) rfl
          exists wf_cons, hL, ht, tk_def, v_lb, kk
          refine ⟨fun _ => k2, fun h1 => ⟨fun _ => k2, fun h2 => ?_⟩⟩
          simp [hit, h1, h2] at c
        · rw [if_neg c] at k1 k2
          have c1 : (l = t.label) = False := eq_false fun z => c (by simp [hit, z])
          have c2 : (l = t.sent.flip) = False := eq_false fun z => c (by simp [hit, z])
          exists wf_cons, hL, ht, tk_def, v_lb, kk, c1, c2
          exact ih ts' _ K hF k1 k2
  refine key is tb.talks none _ T.t (fun x e => ?_) (fun p e => ?_)
  · rw [e]; subst_eqs; rfl
  · rw [e]; exact ⟨rfl, rfl⟩
theorem turn_run [TalkPg P] (hb : TalkByOk P) {A L : Nat} {is : List Nat} {tb : Tbl} {l : Lb} (T : TabAt h A L is tb) : (callB P dS_Table_turn [.ref A, lbV l] h).wp Q Z = Q (.int (turnT (tby l is tb.talks) l)) h := by
  refine wp_is (wp_eq ?_)
  rw [wp_call]
  unfold dS_Table_turn
  have hA := T.a
  have bb := fun Q Z => hb (l := l) (Q := Q) (Z := Z) T
  cases e : tby l is tb.talks with
  | none =>
    exists hA, tb_def, bb, e, opr_n
    rfl
  | some p =>
    obtain ⟨i, t⟩ := p
    obtain ⟨k, h1, h2, _⟩ := tby_at e
    obtain ⟨t', q1, q2⟩ := T.t.get h1
    rw [h2] at q1; cases q1
    have ht : h[i]? = _ := q2
    by_cases c : l = t.label
    · have c1 : (l = t.label) = True := eq_true c
      by_cases d : t.ans = true
      · exists hA, tb_def, bb, e, opr_s, ht, tk_def, v_lb, c1, d
        simp [turnT, c, d]
      · have d : t.ans = false := by simpa using d
        exists hA, tb_def, bb, e, opr_s, ht, tk_def, v_lb, c1, d
        simp [turnT, c, d]
    · have c1 : (l = t.label) = False := eq_false c
      exists hA, tb_def, bb, e, opr_s, ht, tk_def, v_lb, c1
      simp [turnT, c]
theorem free_run [TalkPg P] (hf : FlipOk P) (hb : TalkByOk P) {A L : Nat} {is : List Nat} {tb : Tbl} {l s : Lb} (T : TabAt h A L is tb) : (callB P dS_Table_free [.ref A, lbV l, lbV s] h).wp Q Z = Q (.bl (freeT tb.talks l s)) h := by
  refine wp_is (wp_eq ?_)
  rw [wp_call]
  unfold dS_Table_free
  have hA := T.a
  have len := T.t.len
  have nn : ∀ l, isNon (opR (tby l is tb.talks)) = !isKey l tb.talks := fun l => by
    cases e : tby l is tb.talks with
    | none => rw [(tby_none len).mp e]; rfl
    | some p =>
      have : isKey l tb.talks = true := by
        cases z : isKey l tb.talks with
        | true => rfl
        | false => rw [(tby_none len).mpr z] at e; cases e
      rw [this]; rfl
  have b1 := fun l Q Z => hb (l := l) (Q := Q) (Z := Z) T
  by_cases c : l = s.flip
  · have c1 : (l = s.flip) = True := eq_true c
    exists hA, tb_def, hf, v_lb, c1
    simp [freeT, c]
  · have c1 : (l = s.flip) = False := eq_false c
    cases e1 : isKey l tb.talks with
    | true =>
      exists hA, tb_def, hf, v_lb, c1, b1, nn, e1
      simp [freeT, c, e1]
    | false =>
      exists hA, tb_def, hf, v_lb, c1, b1, nn, e1
      simp [freeT, c, e1]
theorem full_run [TalkPg P] {A L : Nat} {is : List Nat} {tb : Tbl} (T : TabAt h A L is tb) : (callB P dS_Table_is_full [.ref A] h).wp Q Z = Q (.bl (decide (tb.most ≤ tb.talks.length))) h := by
  refine wp_is (wp_eq ?_)
  rw [wp_call]
  unfold dS_Table_is_full
  have hA := T.a
  have hL := T.l
  have len := T.t.len
  exists hA, tb_def, hL, len
theorem talk_init_run [TalkPg P] {l s : Lb} {u : Int} : (callB P dS_Talk___init__ [.ref h.length, lbV l, lbV s, .int u] (h ++ [.ins "Talk" []])).wp Q Z = Q .non (h ++ [.ins "Talk" (tkF ⟨l, s, u, false, false, false⟩)]) := by
  refine wp_is (wp_eq ?_)
  rw [wp_call]
  unfold dS_Talk___init__
  exists tk_def
  simp
theorem table_init_run [TalkPg P] {s l m : Int} : (callB P dS_Table___init__ [.ref h.length, .int s, .int l, .int m] (h ++ [.ins "Table" []])).wp Q Z = Q .non (h ++ [.ins "Table" (tbF ⟨s, l, m, 0, []⟩ (h.length + 1))] ++ [.lst true []]) := by
  refine wp_is (wp_eq ?_)
  rw [wp_call]
  unfold dS_Table___init__
  exists tb_def
  simp
/-- what stood stands, but at these places -/
def Chg (ps : List Nat) (h h' : MH) : Prop := h.length ≤ h'.length ∧ ∀ j, j < h.length → j ∉ ps → h'[j]? = h[j]?
theorem F2.impm {α β : Type} {R R' : α → β → Prop} : ∀ {l : List α} {r : List β}, F2 R l r → (∀ a b, a ∈ l → R a b → R' a b) → F2 R' l r
  | _, _, .nil, _ => .nil
  | _, _, .cons h t, k => .cons (k _ _ (List.mem_cons_self ..) h) (F2.impm t fun a b m => k a b (List.mem_cons_of_mem _ m))
theorem Chg.get {ps : List Nat} {h h' : MH} (c : Chg ps h h') {j : Nat} {o : Ob} (e : h[j]? = some o) (n : j ∉ ps) : h'[j]? = some o := by rw [c.2 j (lt_of e) n, e]
theorem Chg.refl {ps : List Nat} {h : MH} : Chg ps h h := ⟨Nat.le_refl _, fun _ _ _ => rfl⟩
theorem Chg.trans {ps qs : List Nat} {h h1 h2 : MH} (a : Chg ps h h1) (b : Chg qs h1 h2) (k : ∀ j, j < h.length → j ∉ ps → j ∉ qs) : Chg ps h h2 :=
  ⟨Nat.le_trans a.1 b.1, fun j hj n => by have := a.1; rw [b.2 j (by omega) (k j hj n), a.2 j hj n]⟩
theorem Chg.gr {ps : List Nat} {h h' : MH} (g : Gr h h') : Chg ps h h' := ⟨g.len, fun j hj _ => by
  obtain ⟨r, rfl⟩ := g
  rw [List.getElem?_append_left hj]⟩
theorem Chg.up {ps : List Nat} {h h' : MH} (u : Up h.length h h') : Chg ps h h' := ⟨u.1, fun j hj _ => u.2 j hj⟩
theorem TabAt.chg {h h' : MH} {ps : List Nat} {A L : Nat} {is : List Nat} {t : Tbl} (T : TabAt h A L is t) (c : Chg ps h h') (nA : A ∉ ps) (nL : L ∉ ps) (ni : ∀ i ∈ is, i ∉ ps) : TabAt h' A L is t := by
  refine ⟨c.get T.a nA, c.get T.l nL, ?_, T.nd⟩
  have key : ∀ {is : List Nat} {ts : List Tk}, F2 (TkAt h) is ts → (∀ i ∈ is, i ∉ ps) → F2 (TkAt h') is ts := by
    intro is ts f
    induction f with
    | nil => intro _; exact .nil
    | cons r t ih => intro n; exact .cons (c.get r (n _ (List.mem_cons_self ..))) (ih fun i hi => n i (List.mem_cons_of_mem _ hi))
  exact key T.t ni
theorem TabAt.gr {h h' : MH} {A L : Nat} {is : List Nat} {t : Tbl} (T : TabAt h A L is t) (g : Gr h h') : TabAt h' A L is t := T.chg (ps := []) (.gr g) (by simp) (by simp) (by simp)
theorem TabAt.up {h h' : MH} {A L : Nat} {is : List Nat} {t : Tbl} (T : TabAt h A L is t) (u : Up h.length h h') : TabAt h' A L is t := T.chg (ps := []) (.up u) (by simp) (by simp) (by simp)
theorem TabAt.neA {h : MH} {A L : Nat} {is : List Nat} {t : Tbl} (T : TabAt h A L is t) : A ≠ L := fun z => by
  have a := T.a
  rw [z, T.l] at a; cases a
theorem TabAt.mem {h : MH} {A L : Nat} {is : List Nat} {t : Tbl} (T : TabAt h A L is t) {i : Nat} (hi : i ∈ is) : ∃ tk, h[i]? = some (.ins "Talk" (tkF tk)) := by
  have key : ∀ {is : List Nat} {ts : List Tk}, F2 (TkAt h) is ts → i ∈ is → ∃ tk, h[i]? = some (.ins "Talk" (tkF tk)) := by
    intro is ts f
    induction f with
    | nil => intro m; cases m
    | cons r t ih =>
      intro m
      rcases List.mem_cons.mp m with z | z
      · subst z; exact ⟨_, r⟩
      · exact ih z
  exact key T.t hi
theorem TabAt.neL {h : MH} {A L : Nat} {is : List Nat} {t : Tbl} (T : TabAt h A L is t) {i : Nat} (hi : i ∈ is) : i ≠ L ∧ i ≠ A ∧ i < h.length := by
  obtain ⟨tk, e⟩ := T.mem hi
  refine ⟨fun z => ?_, fun z => ?_, lt_of e⟩
  · rw [z, T.l] at e; cases e
  · rw [z, T.a] at e
    simp at e
/-- a talk more -/
theorem TabAt.add {h : MH} {A L : Nat} {is : List Nat} {t : Tbl} (T : TabAt h A L is t) (tk : Tk) : TabAt ((h ++ [Ob.ins "Talk" (tkF tk)]).set L (Ob.lst true (is.map Val.ref ++ [Val.ref h.length]))) A L (is ++ [h.length]) { t with talks := t.talks ++ [tk] } ∧ Chg [L] h ((h ++ [Ob.ins "Talk" (tkF tk)]).set L (Ob.lst true (is.map Val.ref ++ [Val.ref h.length]))) := by
  have L1 := lt_of T.l
  have g : Gr h (h ++ [Ob.ins "Talk" (tkF tk)]) := Gr.app
  have c : Chg [L] h ((h ++ [Ob.ins "Talk" (tkF tk)]).set L (Ob.lst true (is.map Val.ref ++ [Val.ref h.length]))) := by
    refine ⟨by simp, fun j hj n => ?_⟩
    rw [List.getElem?_set_ne (fun z => n (by simp [z])), List.getElem?_append_left hj]
  refine ⟨⟨?_, ?_, ?_, ?_⟩, c⟩
  · exact c.get T.a (by simpa using T.neA)
  · have e : (h ++ [Ob.ins "Talk" (tkF tk)])[L]? = _ := g.get T.l
    rw [set_get e]
    simp
  · refine F2.snoc (T.t.impm ?_) ?_
    · exact fun i tk' hi r => c.get r (by simpa using (T.neL hi).1)
    · show ((h ++ [Ob.ins "Talk" (tkF tk)]).set L _)[h.length]? = _
      rw [List.getElem?_set_ne (by omega)]
      exact app_last
  · rw [List.nodup_append]
    refine ⟨T.nd, by simp, fun a ha b hb => ?_⟩
    have := (T.neL ha).2.2
    simp at hb
    omega
abbrev TalkInitOk (P : Pg) : Prop := ∀ {h : MH} {l s : Lb} {u : Int} {Q : Val → MH → Prop} {Z : XP}, (P.cf "Talk.__init__" [.ref h.length, lbV l, lbV s, .int u] (h ++ [.ins "Talk" []])).wp Q Z = Q .non (h ++ [.ins "Talk" (tkF ⟨l, s, u, false, false, false⟩)])
theorem begin_run [TalkPg P] (hu : FullOk P) (hr : FreeOk P) (hi : TalkInitOk P) {A L : Nat} {is : List Nat} {tb : Tbl} {l s : Lb} (T : TabAt h A L is tb) (nf : (tb.talks.length : Int) < tb.most) (fr : freeT tb.talks l s = true) (sz : tb.talks.length ≤ 4000) :
    (callB P dS_Table_begin [.ref A, lbV l, lbV s] h).wp (fun v h' => v = .non ∧ TabAt h' A L (is ++ [h.length]) { tb with talks := tb.talks ++ [⟨l, s, tb.time + tb.short, false, false, false⟩] } ∧ Chg [L] h h') NoE := by
  rw [wp_call]
  unfold dS_Table_begin
  have hA := T.a
  have hL := T.l
  have L1 := lt_of hL
  have u1 := fun Q Z => hu (Q := Q) (Z := Z) T
  have r1 := fun Q Z => hr (l := l) (s := s) (Q := Q) (Z := Z) T
  have c1 : (tb.most ≤ (tb.talks.length : Int)) = False := eq_false (by omega)
  have len := T.t.len
  have ls : is.length ≤ 4096 := by omega
  have neL : L ≠ h.length := by omega
  have hL2 : ∀ o, (h ++ [o])[L]? = some (.lst true (is.map .ref)) := fun o => Gr.app.get hL
  exists hA, tb_def, u1, c1, r1, fr, hL, hi, n_non, hL2, ls
  have z := T.add ⟨l, s, tb.time + tb.short, false, false, false⟩
  exact z
def stdV (t : Tk) : Val := .tup [lbV t.label, lbV t.sent, .bl t.ans, .int t.til]
theorem standing_run [TalkPg P] {A L : Nat} {is : List Nat} {tb : Tbl} (T : TabAt h A L is tb) (sz : tb.talks.length ≤ 4000) : (callB P dS_Table_standing [.ref A] h).wp Q Z = Q (.ref h.length) (h ++ [.lst true (tb.talks.map stdV)]) := by
  refine wp_is (wp_eq ?_)
  rw [wp_call]
  unfold dS_Table_standing
  have hA := T.a
  have hL := T.l
  have len := T.t.len
  exists hA, tb_def, hL
  refine wp_comp (fun i acc h' => acc = (tb.talks.take i).map stdV ∧ h' = h) ⟨by simp, rfl⟩ ?_ ?_
  · rintro i v acc h' hv ⟨rfl, rfl⟩
    rw [List.getElem?_map] at hv
    obtain ⟨a, ha, rfl⟩ := Option.map_eq_some_iff.mp hv
    obtain ⟨t, q1, q2⟩ := T.t.get ha
    have ht : h'[a]? = _ := q2
    refine ⟨by rw [stands_one]; exact hL, by simp; omega, ?_⟩
    exists wi_cons, wi_nil, ht, tk_def
    rw [List.take_add_one, q1, List.map_append]
    rfl
  · rintro acc h' ⟨rfl, rfl⟩
    refine ⟨by rw [stands_one]; exact hL, ?_⟩
    rw [List.length_map, len, List.take_length]
    exact ⟨rfl, rfl⟩
theorem f_all {a : Nat} : (bisem .all [.ref a] h).wp Q Z = lsK h[a]? fun _ xs => opK (boolsO xs) fun bs => Q (.bl (bs.all id)) h := by
  simp only [bisem]
  cases h[a]? with
  | none => rfl
  | some o =>
    cases o with
    | lst w xs =>
      show (retO ((boolsO xs).map fun bs => Val.bl (bs.all id)) h).wp Q Z = opK (boolsO xs) _
      rw [wp_ret]
      cases boolsO xs <;> rfl
    | dct _ _ => rfl
    | dtt _ => rfl
    | ins _ _ => rfl
theorem bo_map : ∀ bs : List Bool, boolsO (bs.map .bl) = some bs
  | [] => rfl
  | b :: bs => by
    have ih := bo_map bs
    simp only [boolsO, List.map_cons, mapO] at ih ⊢
    rw [ih]
/-! == of a list with another that holds the same -/
theorem mapO_mem {α β : Type} {f : α → Option β} : ∀ {l : List α} {m : List β}, mapO f l = some m → ∀ y ∈ m, ∃ x, f x = some y
  | [], m, e, y, hy => by cases e; cases hy
  | x :: l, m, e, y, hy => by
    simp only [mapO] at e
    split at e
    · rename_i z zs e1 e2
      cases e
      rcases List.mem_cons.mp hy with q | q
      · subst q; exact ⟨x, e1⟩
      · exact mapO_mem e2 y q
    · cases e
theorem layAll {ds : List PyData} (h : ∀ d ∈ ds, d.canLay0 = true) : PyData.canLayAll0 ds = true := by
  induction ds with
  | nil => rfl
  | cons d ds ih => simp only [PyData.canLayAll0, h d (List.mem_cons_self ..), ih fun e he => h e (List.mem_cons_of_mem _ he), Bool.and_self]
theorem snap_lay {h : MH} : ∀ (n : Nat) (v : Val) (d : PyData), snap h n v = some d → d.canLay0 = true
  | 0, _, _, e => by cases e
  | n + 1, v, d, e => by
    cases v with
    | non => cases e; rfl
    | bl b => cases e; rfl
    | int i => cases e; rfl
    | str s =>
      simp only [snap] at e
      split at e
      · rename_i c; cases e; exact c
      · cases e
    | tup vs =>
      simp only [snap] at e
      obtain ⟨ds, e1, rfl⟩ := Option.map_eq_some_iff.mp e
      exact layAll fun d hd => let ⟨x, hx⟩ := mapO_mem e1 d hd; snap_lay n x d hx
    | ref a =>
      simp only [snap] at e
      split at e
      · obtain ⟨ds, e1, rfl⟩ := Option.map_eq_some_iff.mp e
        exact layAll fun d hd => let ⟨x, hx⟩ := mapO_mem e1 d hd; snap_lay n x d hx
      · cases e
    | exc _ _ => cases e
theorem v_same {a b : Nat} {w z : Bool} {vs : List Val} {ds : List PyData} (ha : h[a]? = some (.lst w vs)) (hb : h[b]? = some (.lst z vs)) (hs : mapO (snap h 63) vs = some ds) : veq h (.ref a) (.ref b) = some true := by
  have e1 : snap h 64 (.ref a) = some (.list ds) := by simp only [snap, ha, hs]; rfl
  have e2 : snap h 64 (.ref b) = some (.list ds) := by simp only [snap, hb, hs]; rfl
  have l := snap_lay 64 _ _ e1
  show (match snap h 64 (.ref a), snap h 64 (.ref b) with
    | some d, some e => some (PyData.eqv d e)
    | _, _ => none) = _
  rw [e1, e2]
  simp only [PySem.SeqAt.eqv_refl _ l]
/-- x in ys, labels -/
theorem vin_lb {a : Nat} {w : Bool} {ks : List Lb} {x : Lb} (ha : h[a]? = some (.lst w (ks.map lbV))) : vin? h (lbV x) (.ref a) = some (ks.any fun k => decide (k = x)) := by
  have e1 : snap h 64 (.ref a) = some (.list (ks.map lbD)) := by
    simp only [snap, ha]
    rw [mapO_map (d := lbD) fun k _ => snap_lb]
    rfl
  have f : flat (lbV x) = false := rfl
  simp only [vin?, ha, f, Bool.false_and, e1, snap_lb]
  rw [if_neg (by decide)]
  simp only [List.any_map, Function.comp_def, eqv_lb]
/-- _law_stream(_law_cell, _law_many); names 0 _law_cell, 1 _law_many, 2 _law_found, 3 _law_number, 4 _law_k -/
def dS_law_stream : Df := { ps := [Str.ofString "_law_cell", Str.ofString "_law_many"], np := 2, nn := 5, body :=
   [.asg (.nm 2) (.lst []),
    .asg (.nm 3) (.bin .Add (.bin .Mod (.var 0) (.con (.int 4294967311))) (.con (.int 48271))),
    .forS (.nm 4) .rng [.var 1]
      [.asg (.nm 3) (.bin .Mod (.bin .Add (.bin .Add (.bin .Mult (.var 3) (.var 3)) (.bin .Mult (.con (.int 69621)) (.var 3))) (.var 4)) (.con (.int 4294967311))),
       .exp (.mth .append (.var 2) [.var 3])],
    .ret (.var 2)] }
/-- _law_flip(_law_label_here); names 0 _law_label_here -/
def dS_law_flip : Df := { ps := [Str.ofString "_law_label_here"], np := 1, nn := 1, body :=
   [.ret (.tup [.idx (.var 0) (.con (.int 0)), .idx (.var 0) (.con (.int 3)), .idx (.var 0) (.con (.int 4)), .idx (.var 0) (.con (.int 1)), .idx (.var 0) (.con (.int 2))])] }
/-- numbers drawn from a number -/
abbrev StreamOk (P : Pg) : Prop := ∀ {h : MH} {c : Int} {m : Nat}, m ≤ 100 → (P.cf "_law_stream" [.int c, .int m] h).wp (fun v h' => ∃ ds : List Int, LstAt h' v (ds.map .int) h.length ∧ ds.length = m ∧ (∀ d ∈ ds, 0 ≤ d ∧ d < 4294967311) ∧ Gr h h') NoE
def ISt (h : MH) (c : Int) (m : Nat) (i : Nat) (ρ : Env') (h' : MH) : Prop := ∃ (ds : List Int) (n : Int) (x : Option Val), ρ = [some (.int c), some (.int m), some (.ref h.length), some (.int n), x] ∧ h' = h ++ [.lst true (ds.map .int)] ∧ ds.length = i ∧ (0 ≤ n ∧ n < 4295015582) ∧ ∀ d ∈ ds, 0 ≤ d ∧ d < 4294967311
theorem stream_run {c : Int} {m : Nat} (hm : m ≤ 100) : (callB P dS_law_stream [.int c, .int m] h).wp (fun v h' => ∃ ds : List Int, LstAt h' v (ds.map .int) h.length ∧ ds.length = m ∧ (∀ d ∈ ds, 0 ≤ d ∧ d < 4294967311) ∧ Gr h h') NoE := by
  rw [wp_call]
  unfold dS_law_stream
  subst_eqs
  refine ⟨⟨by omega, by omega⟩, ?_⟩
  refine wp_rng (ISt h c m) ⟨[], _, _, rfl, rfl, rfl, by omega, by simp⟩ ?_ ?_
  · rintro i ρ h' hi ⟨ds, n, x, rfl, rfl, hl, hn, hd⟩
    rw [cnt_1] at hi
    have dl : ds.length ≤ 4096 := by omega
    have n1 : (-18446744073709551616 : Int) < n := by omega
    have n2 : n < 18446744073709551616 := by omega
    exists n1, n2, dl
    refine ⟨ds ++ [(n * n + 69621 * n + i) % 4294967311], _, _, rfl, by simp, by simp [hl], ⟨by omega, by omega⟩, fun d hd' => ?_⟩
    rcases List.mem_append.mp hd' with z | z
    · exact hd d z
    · rw [List.mem_singleton.mp z]; omega
  · rintro ρ h' ⟨ds, n, x, rfl, rfl, hl, hn, hd⟩
    rw [cnt_1] at hl
    subst_eqs
    exact ⟨ds, .last (Nat.le_refl _), by omega, hd, Gr.app⟩
theorem lflip_run {l : Lb} : (callB P dS_law_flip [lbV l] h).wp Q Z = Q (lbV l.flip) h := by
  refine wp_is (wp_eq ?_)
  rw [wp_call]
  unfold dS_law_flip
  exists lb_def, Lb.flip
end
end Mn
/-! Mini: rules as objects -/
namespace Mn
open PySem
open Classical
/-- what of the program is asked -/
class RulePg (P : Pg) : Prop where
  m1 : P.mro "Word" "__init__" = some "Word.__init__"
  m2 : P.mro "Back" "__init__" = some "Rule.__init__"
  m3 : P.mro "Call" "__init__" = some "Call.__init__"
  f1 : (P.flds "Word").contains "box" = true
  f2 : (P.flds "Word").contains "word" = true
  f3 : (P.flds "Back").contains "box" = true
  f4 : (P.flds "Call").contains "box" = true
  f5 : (P.flds "Call").contains "name" = true
section
variable {P : Pg} [RulePg P]
theorem ru_m1 : P.mro "Word" "__init__" = some "Word.__init__" := RulePg.m1
theorem ru_m2 : P.mro "Back" "__init__" = some "Rule.__init__" := RulePg.m2
theorem ru_m3 : P.mro "Call" "__init__" = some "Call.__init__" := RulePg.m3
theorem ru_f1 : (P.flds "Word").contains "box" = true := RulePg.f1
theorem ru_f2 : (P.flds "Word").contains "word" = true := RulePg.f2
theorem ru_f3 : (P.flds "Back").contains "box" = true := RulePg.f3
theorem ru_f4 : (P.flds "Call").contains "box" = true := RulePg.f4
theorem ru_f5 : (P.flds "Call").contains "name" = true := RulePg.f5
end
local macro_rules
  | `(tactic| subst_eqs) => `(tactic| simp (maxDischargeDepth := 40) only [f_lens, f_str, f_ints, ri_str, mo_join, mo_split, mo_part, mo_find, mo_upper, so_nil, m_join, m_split, m_part, m_find, m_upper, is_k, we_fld, g_fld, ws_rai, ws_try, ws_onlyA, ws_onlyR, ws_hold, hot_n, hot_c, hot_0, hot_a, hot_r, ra_n, ra_f, n_exc, ty_exc, g_fldx, ws_fld, g_set, we_own, ow_ref, ow_i, in_n, we_new, pf_nil, pf_cons, lk_nil, lk_cons, String.reduceEq, reduceIte, b_muls, b_mull, i_str, f_sum, io_nil, io_cons, m_pop, m_index, mo_index, m_bit, mo_bit, vlen_app, ap_l, lt_last, lt_app, set_app, cut_take, cut_drop1, nn_add, nn_mul, nn_cast, nn_mod, at_nat, List.getElem?_map, Option.map_some, Int.zero_add, Int.mul_one, m_okr, mo_append, mo_extend, mo_pop, mo_popAt, mo_clear, set_last, sz_lt, mulOk_l, pow_lit, app_last, implies_true, Int.reduceToNat, stands_one, stands_two, if_t, if_f, if_dec, if_not, if_and, if_or, bl_k, in_k, op_k, op_n, op_map, op_if, ls_k, wp_ok, wp_err, wp_bad, wp_if, wp_ret, wg_0, wg_s, we_var, we_con, we_glb, we_bin, we_cmp, we_and, we_or, we_not, we_neg, we_isN, we_notN, we_isB, we_chn, we_lst, we_tup, we_idx, wo_none, wo_some, we_slc, we_call, we_bi, we_isi, we_mth, we_nil, we_cons, we_cmp1, ws_ite, ws_asg, ws_asgT, un_tup, un_ref, tu_l, bt_nm, bt_tp, bs_nil, bs_cons, ws_exp, ws_ret, ws_retN, ws_brk, ws_cnt, ws_pas, wb_nil, wb_cons, ws_for, ws_whl, ws_sub, wp_call, stands_nil, b_add, b_sub, b_mul, b_div, b_mod, b_pow, b_shl, b_shr, b_and, b_or, b_xor, b_adds, b_addt, b_addl, c_lt, c_le, c_gt, c_ge, c_eq, c_ne, c_in, c_nin, v_ii, v_ss, v_bb, i_tup, i_lst, ix_l, ix_d, l_tup, l_lst, ln_l, ln_d, lo_l, lo_d, su_l, su_d, su_t, dk_s, dk_n, k_tup, kt_tup, gt_tup, ix_t, m_get, mo_getd, mo_gett, gt_t, gt_e, k_int, k_str, gk_int, gk_str, ri_val, ri_rng, ri_enm, ri_zip, ri_rev, ri_itm, dc_k, we_dct, we_lofv, we_lofr, we_lofz, we_fst, fs_n, fs_s, fs_i, f_dict, it_zipl, List.isEmpty_cons, m_insert, mo_insert, f_max, f_min, f_int, f_intb, f_tupt, f_tupl, f_lstt, f_lstl, s_tup, s_lst, m_append, m_extend, u_sub, ib_t, ib_f, ib_non, ib_int, ib_str, ib_tup, ib_ref, n_non, n_bl, n_int, n_str, n_tup, n_ref, ty_non, ty_bl, ty_int, ty_str, ty_tup, ty_ref, tyO_l, tyO_i, List.set_cons_zero, List.set_cons_succ, List.map_cons, List.map_nil, List.length_cons, List.length_nil, List.length_map, List.replicate_zero, List.replicate_succ, List.nil_append, List.cons_append, Bool.not_true, Bool.not_false, and_true, true_and, true_implies, false_implies, and_false, false_and, not_false_eq_true, not_true_eq_false, Nat.reduceAdd, Nat.reduceSub, Nat.reduceLeDiff, Nat.reduceMul, Int.reduceMul, Int.reduceAdd, Int.reduceSub, Int.reduceLT, Int.reduceLE, Int.reduceNeg, Int.reduceEq, Int.cast_ofNat_Int, Int.reducePow, Nat.reducePow, divOk_lit, mulOk_r, eq_self, and_self, decide_true, decide_false, it_rng1, it_rng2, it_rng3, it_rngd, it_valt, it_vall, it_enml, it_enmt, it_revl, it_zipt, v_tt, pl_non, pl_int, pl_str, pl_tup, List.all_cons, List.all_nil, Bool.and_self, at_0, at_1, at_2, at_3, at_4, at_5, sz_ok, Val.ref.injEq, Val.int.injEq, Val.bl.injEq, Val.str.injEq, Val.tup.injEq, List.cons.injEq, Option.some.injEq, exists_eq, exists_eq', exists_eq_left, exists_eq_left', exists_eq_right, exists_eq_right', exists_and_left, exists_and_right, ru_m1, ru_m2, ru_m3, ru_f1, ru_f2, ru_f3, ru_f4, ru_f5])
local macro_rules
  | `(tactic| exists $ts,*) => `(tactic| simp (maxDischargeDepth := 40) only [f_lens, f_str, f_ints, ri_str, mo_join, mo_split, mo_part, mo_find, mo_upper, so_nil, m_join, m_split, m_part, m_find, m_upper, is_k, we_fld, g_fld, ws_rai, ws_try, ws_onlyA, ws_onlyR, ws_hold, hot_n, hot_c, hot_0, hot_a, hot_r, ra_n, ra_f, n_exc, ty_exc, g_fldx, ws_fld, g_set, we_own, ow_ref, ow_i, in_n, we_new, pf_nil, pf_cons, lk_nil, lk_cons, String.reduceEq, reduceIte, b_muls, b_mull, i_str, f_sum, io_nil, io_cons, m_pop, m_index, mo_index, m_bit, mo_bit, vlen_app, ap_l, lt_last, lt_app, set_app, cut_take, cut_drop1, nn_add, nn_mul, nn_cast, nn_mod, at_nat, List.getElem?_map, Option.map_some, Int.zero_add, Int.mul_one, m_okr, mo_append, mo_extend, mo_pop, mo_popAt, mo_clear, set_last, sz_lt, mulOk_l, pow_lit, app_last, implies_true, Int.reduceToNat, stands_one, stands_two, if_t, if_f, if_dec, if_not, if_and, if_or, bl_k, in_k, op_k, op_n, op_map, op_if, ls_k, wp_ok, wp_err, wp_bad, wp_if, wp_ret, wg_0, wg_s, we_var, we_con, we_glb, we_bin, we_cmp, we_and, we_or, we_not, we_neg, we_isN, we_notN, we_isB, we_chn, we_lst, we_tup, we_idx, wo_none, wo_some, we_slc, we_call, we_bi, we_isi, we_mth, we_nil, we_cons, we_cmp1, ws_ite, ws_asg, ws_asgT, un_tup, un_ref, tu_l, bt_nm, bt_tp, bs_nil, bs_cons, ws_exp, ws_ret, ws_retN, ws_brk, ws_cnt, ws_pas, wb_nil, wb_cons, ws_for, ws_whl, ws_sub, wp_call, stands_nil, b_add, b_sub, b_mul, b_div, b_mod, b_pow, b_shl, b_shr, b_and, b_or, b_xor, b_adds, b_addt, b_addl, c_lt, c_le, c_gt, c_ge, c_eq, c_ne, c_in, c_nin, v_ii, v_ss, v_bb, i_tup, i_lst, ix_l, ix_d, l_tup, l_lst, ln_l, ln_d, lo_l, lo_d, su_l, su_d, su_t, dk_s, dk_n, k_tup, kt_tup, gt_tup, ix_t, m_get, mo_getd, mo_gett, gt_t, gt_e, k_int, k_str, gk_int, gk_str, ri_val, ri_rng, ri_enm, ri_zip, ri_rev, ri_itm, dc_k, we_dct, we_lofv, we_lofr, we_lofz, we_fst, fs_n, fs_s, fs_i, f_dict, it_zipl, List.isEmpty_cons, m_insert, mo_insert, f_max, f_min, f_int, f_intb, f_tupt, f_tupl, f_lstt, f_lstl, s_tup, s_lst, m_append, m_extend, u_sub, ib_t, ib_f, ib_non, ib_int, ib_str, ib_tup, ib_ref, n_non, n_bl, n_int, n_str, n_tup, n_ref, ty_non, ty_bl, ty_int, ty_str, ty_tup, ty_ref, tyO_l, tyO_i, List.set_cons_zero, List.set_cons_succ, List.map_cons, List.map_nil, List.length_cons, List.length_nil, List.length_map, List.replicate_zero, List.replicate_succ, List.nil_append, List.cons_append, Bool.not_true, Bool.not_false, and_true, true_and, true_implies, false_implies, and_false, false_and, not_false_eq_true, not_true_eq_false, Nat.reduceAdd, Nat.reduceSub, Nat.reduceLeDiff, Nat.reduceMul, Int.reduceMul, Int.reduceAdd, Int.reduceSub, Int.reduceLT, Int.reduceLE, Int.reduceNeg, Int.reduceEq, Int.cast_ofNat_Int, Int.reducePow, Nat.reducePow, divOk_lit, mulOk_r, eq_self, and_self, decide_true, decide_false, it_rng1, it_rng2, it_rng3, it_rngd, it_valt, it_vall, it_enml, it_enmt, it_revl, it_zipt, v_tt, pl_non, pl_int, pl_str, pl_tup, List.all_cons, List.all_nil, Bool.and_self, at_0, at_1, at_2, at_3, at_4, at_5, sz_ok, Val.ref.injEq, Val.int.injEq, Val.bl.injEq, Val.str.injEq, Val.tup.injEq, List.cons.injEq, Option.some.injEq, exists_eq, exists_eq', exists_eq_left, exists_eq_left', exists_eq_right, exists_eq_right', exists_and_left, exists_and_right, ru_m1, ru_m2, ru_m3, ru_f1, ru_f2, ru_f3, ru_f4, ru_f5, $[$ts:term],*])
/-- Rule.__init__(self, box); names 0 self, 1 box -/
def dS_Rule___init__ : Df := { ps := [Str.ofString "self", Str.ofString "box"], np := 2, nn := 2, body :=
   [.fld (.var 0) "box" (.var 1)] }
/-- Rule.fits(self, parcel); names 0 self, 1 parcel -/
def dS_Rule_fits : Df := { ps := [Str.ofString "self", Str.ofString "parcel"], np := 2, nn := 2, body :=
   [.ret (.call "has" [.fld (.var 0) "box", .var 1])] }
/-- Word.__init__(self, box, word); names 0 self, 1 box, 2 word -/
def dS_Word___init__ : Df := { ps := [Str.ofString "self", Str.ofString "box", Str.ofString "word"], np := 3, nn := 3, body :=
   [.exp (.call "Rule.__init__" [.var 0, .var 1]),
    .fld (.var 0) "word" (.var 2)] }
/-- Call.__init__(self, box, name); names 0 self, 1 box, 2 name -/
def dS_Call___init__ : Df := { ps := [Str.ofString "self", Str.ofString "box", Str.ofString "name"], np := 3, nn := 3, body :=
   [.exp (.call "Rule.__init__" [.var 0, .var 1]),
    .fld (.var 0) "name" (.var 2)] }
/-- rule_of(row); names 0 row -/
def dS_rule_of : Df := { ps := [Str.ofString "row"], np := 1, nn := 1, body :=
   [.ite (.cmp .Eq (.idx (.var 0) (.con (.int 0))) (.con (.str (Str.ofString "call"))))
      [.ret (.new "Call" [.idx (.var 0) (.con (.int 1)), .idx (.var 0) (.con (.int 2))])]
      [],
    .ite (.cmp .Eq (.idx (.var 0) (.con (.int 0))) (.con (.str (Str.ofString "back"))))
      [.ret (.new "Back" [.idx (.var 0) (.con (.int 1))])]
      [],
    .ret (.new "Word" [.idx (.var 0) (.con (.int 1)), .idx (.var 0) (.con (.int 0))])] }
/-- the object that a rule is -/
def ruC : Rl → String
  | .word _ _ => "Word"
  | .back _ => "Back"
  | .call _ _ => "Call"
def ruF : Rl → List (String × Val)
  | .word s b => [("box", bxV b), ("word", .str (wdS s))]
  | .back b => [("box", bxV b)]
  | .call b nm => [("box", bxV b), ("name", .str nm)]
def ruO (r : Rl) : Ob := .ins (ruC r) (ruF r)
section
variable {P : Pg} {h : MH} {Q : Val → MH → Prop} {Z : XP}
theorem ruo_w {s : Bool} {b : List Sg} : ruO (.word s b) = .ins "Word" [("box", bxV b), ("word", .str (wdS s))] := id rfl
theorem ruo_b {b : List Sg} : ruO (.back b) = .ins "Back" [("box", bxV b)] := id rfl
theorem ruo_c {b : List Sg} {nm : Str} : ruO (.call b nm) = .ins "Call" [("box", bxV b), ("name", .str nm)] := id rfl
theorem rule_init_run [RulePg P] {C : String} {b : List Sg} (hf : (P.flds C).contains "box" = true) : (callB P dS_Rule___init__ [.ref h.length, bxV b] (h ++ [.ins C []])).wp Q Z = Q .non (h ++ [.ins C [("box", bxV b)]]) := by
  refine wp_is (wp_eq ?_)
  rw [wp_call]
  unfold dS_Rule___init__
  exists hf
  simp
abbrev RuleInitOk (P : Pg) : Prop := ∀ {h : MH} {C : String} {b : List Sg} {Q : Val → MH → Prop} {Z : XP}, (P.flds C).contains "box" = true → (P.cf "Rule.__init__" [.ref h.length, bxV b] (h ++ [.ins C []])).wp Q Z = Q .non (h ++ [.ins C [("box", bxV b)]])
theorem word_init_run [RulePg P] (hr : RuleInitOk P) {b : List Sg} {w : Str} : (callB P dS_Word___init__ [.ref h.length, bxV b, .str w] (h ++ [.ins "Word" []])).wp Q Z = Q .non (h ++ [.ins "Word" [("box", bxV b), ("word", .str w)]]) := by
  refine wp_is (wp_eq ?_)
  rw [wp_call]
  unfold dS_Word___init__
  exists hr ru_f1
  simp
theorem call_init_run [RulePg P] (hr : RuleInitOk P) {b : List Sg} {w : Str} : (callB P dS_Call___init__ [.ref h.length, bxV b, .str w] (h ++ [.ins "Call" []])).wp Q Z = Q .non (h ++ [.ins "Call" [("box", bxV b), ("name", .str w)]]) := by
  refine wp_is (wp_eq ?_)
  rw [wp_call]
  unfold dS_Call___init__
  exists hr ru_f4
  simp
abbrev WordInitOk (P : Pg) : Prop := ∀ {h : MH} {b : List Sg} {w : Str} {Q : Val → MH → Prop} {Z : XP}, (P.cf "Word.__init__" [.ref h.length, bxV b, .str w] (h ++ [.ins "Word" []])).wp Q Z = Q .non (h ++ [.ins "Word" [("box", bxV b), ("word", .str w)]])
abbrev CallInitOk (P : Pg) : Prop := ∀ {h : MH} {b : List Sg} {w : Str} {Q : Val → MH → Prop} {Z : XP}, (P.cf "Call.__init__" [.ref h.length, bxV b, .str w] (h ++ [.ins "Call" []])).wp Q Z = Q .non (h ++ [.ins "Call" [("box", bxV b), ("name", .str w)]])
theorem rule_of_run [RulePg P] (hr : RuleInitOk P) (hw : WordInitOk P) (hc : CallInitOk P) {r : Rl} : (callB P dS_rule_of [rlV r] h).wp Q Z = Q (.ref h.length) (h ++ [ruO r]) := by
  refine wp_is (wp_eq ?_)
  rw [wp_call]
  unfold dS_rule_of
  have e1 := wd_call (r := r)
  have e2 := wd_back (r := r)
  cases r with
  | word s b =>
    have e1 := eq_false (of_decide_eq_false e1)
    have e2 := eq_false (of_decide_eq_false e2)
    simp only [Rl.wd] at e1 e2
    exists rl_0, rl_1, Rl.wd, Rl.bx, e1, e2, hw, n_non
    rfl
  | back b =>
    have e1 := eq_false (of_decide_eq_false e1)
    have e2 := eq_true (of_decide_eq_true e2)
    simp only [Rl.wd] at e1 e2
    exists rl_0, rl_1, Rl.wd, Rl.bx, e1, e2, hr ru_f3, n_non
    rfl
  | call b nm =>
    have e1 := eq_true (of_decide_eq_true e1)
    simp only [Rl.wd] at e1
    exists rl_0, rl_1, rl_2, Rl.wd, Rl.bx, e1, hc, n_non
    rfl
end
end Mn
/-! ## the program of the law, as Mini has it (printed by a program of ours from T.py) -/
namespace Lw
open PySem PySem.Spec PyProof.Rows L2 Mn
def top (i : Nat) : Stmt := PySem.Challenge.pw_sieve_k14_a_rule_shown.main.body.getD i (.Pass ⟨0, 0, 0, 0⟩)
def tbl : Tb := { fns := ["show_address", "mask", "beginning", "shared", "bits_of", "every", "rule_of", "show_numbers", "show_addresses", "show_rule", "_law_cell_at", "_law_stream", "_law_stretch", "_law_box", "_law_name", "_law_address", "_law_word", "_law_due", "law"], cls := [], glb := ["PAIRS", "HIGHEST", "ALL"], isi := ["str"], own := ["head"], mks := ["Word", "Call", "Back"], cm := [(("Rule", "__init__"), "Rule.__init__")] }
abbrev s_show_address : Stmt := top 2
/-- show_address(address); names 0 address, 1 words, 2 shift -/
def d_show_address : Df := { ps := [Str.ofString "address"], np := 1, nn := 3, body :=
   [.asg (.nm 1) (.lst []),
    .forS (.nm 2) .val [.lst [.con (.int 24), .con (.int 16), .con (.int 8), .con (.int 0)]]
      [.exp (.mth .append (.var 1) [.bi .str [.bin .BitAnd (.bin .RShift (.var 0) (.var 2)) (.con (.int 255))]])],
    .ret (.mth .join (.con (.str (Str.ofString "."))) [.var 1])] }
abbrev s_mask : Stmt := top 5
/-- mask(bits); names 0 bits -/
def d_mask : Df := { ps := [Str.ofString "bits"], np := 1, nn := 1, body :=
   [.ret (.bin .BitAnd (.bin .LShift (.glb "ALL") (.bin .Sub (.con (.int 32)) (.var 0))) (.glb "ALL"))] }
abbrev s_beginning : Stmt := top 6
/-- beginning(address, bits); names 0 address, 1 bits, 2 ones -/
def d_beginning : Df := { ps := [Str.ofString "address", Str.ofString "bits"], np := 2, nn := 3, body :=
   [.asg (.nm 2) (.call "mask" [.var 1]),
    .ret (.tup [.bin .BitAnd (.var 0) (.var 2), .bin .BitOr (.var 0) (.bin .BitXor (.var 2) (.glb "ALL"))])] }
abbrev s_shared : Stmt := top 7
/-- shared(one, other); names 0 one, 1 other -/
def d_shared : Df := { ps := [Str.ofString "one", Str.ofString "other"], np := 2, nn := 2, body :=
   [.ret (.bin .Sub (.con (.int 32)) (.mth .bitlen (.bin .BitXor (.var 0) (.var 1)) []))] }
abbrev s_bits_of : Stmt := top 8
/-- bits_of(low, high); names 0 low, 1 high, 2 bits -/
def d_bits_of : Df := { ps := [Str.ofString "low", Str.ofString "high"], np := 2, nn := 3, body :=
   [.asg (.nm 2) (.call "shared" [.var 0, .var 1]),
    .ite (.cmp .Eq (.call "beginning" [.var 0, .var 2]) (.tup [.var 0, .var 1]))
      [.ret (.var 2)]
      [],
    .ret (.con (.non))] }
abbrev s_every : Stmt := top 11
/-- every(); names 0 high -/
def d_every : Df := { ps := [], np := 0, nn := 1, body :=
   [.ret (.bi .tuple [.cmp1 [0] (.tup [.con (.int 0), .var 0]) (.nm 0) .val [.glb "HIGHEST"] none])] }
abbrev s_rule_of : Stmt := top 16
abbrev s_show_numbers : Stmt := top 19
/-- show_numbers(low, high); names 0 low, 1 high -/
def d_show_numbers : Df := { ps := [Str.ofString "low", Str.ofString "high"], np := 2, nn := 2, body :=
   [.ite (.cmp .Eq (.var 0) (.var 1))
      [.ret (.bi .str [.var 0])]
      [],
    .ret (.fst [.var 0, .con (.str (Str.ofString "-")), .var 1])] }
abbrev s_show_addresses : Stmt := top 20
/-- show_addresses(low, high); names 0 low, 1 high, 2 first, 3 bits, 4 last -/
def d_show_addresses : Df := { ps := [Str.ofString "low", Str.ofString "high"], np := 2, nn := 5, body :=
   [.asg (.nm 2) (.call "show_address" [.var 0]),
    .ite (.cmp .Eq (.var 0) (.var 1))
      [.ret (.var 2)]
      [],
    .asg (.nm 3) (.call "bits_of" [.var 0, .var 1]),
    .ite (.notN (.var 3))
      [.ret (.fst [.var 2, .con (.str (Str.ofString "/")), .var 3])]
      [],
    .asg (.nm 4) (.call "show_address" [.var 1]),
    .ret (.fst [.var 2, .con (.str (Str.ofString "-")), .var 4])] }
abbrev s_show_rule : Stmt := top 21
/-- show_rule(row); names 0 row, 1 words, 2 whole, 3 at, 4 key, 5 low, 6 high -/
def d_show_rule : Df := { ps := [Str.ofString "row"], np := 1, nn := 7, body :=
   [.asg (.nm 1) (.lst [.own "head" (.call "rule_of" [.var 0]) []]),
    .asg (.nm 2) (.call "every" []),
    .forS (.tp [3, 4]) .enm [.glb "PAIRS"]
      [.asg (.tp [5, 6]) (.idx (.idx (.var 0) (.con (.int 1))) (.var 3)),
       .ite (.cmp .NotEq (.tup [.var 5, .var 6]) (.idx (.var 2) (.var 3)))
         [.exp (.mth .append (.var 1) [.var 4]),
          .ite (.or (.cmp .Eq (.var 4) (.con (.str (Str.ofString "from")))) (.cmp .Eq (.var 4) (.con (.str (Str.ofString "to")))))
            [.exp (.mth .append (.var 1) [.call "show_addresses" [.var 5, .var 6]])]
            [.exp (.mth .append (.var 1) [.call "show_numbers" [.var 5, .var 6]])]]
         []],
    .ret (.mth .join (.con (.str (Str.ofString " "))) [.var 1])] }
abbrev s_law_cell_at : Stmt := top 23
/-- _law_cell_at(_law_script, _law_k); names 0 _law_script, 1 _law_k -/
def d_law_cell_at : Df := { ps := [Str.ofString "_law_script", Str.ofString "_law_k"], np := 2, nn := 2, body :=
   [.ite (.cmp .Lt (.var 1) (.bi .len [.var 0]))
      [.ret (.idx (.var 0) (.var 1))]
      [],
    .ret (.con (.int 0))] }
abbrev s_law_stream : Stmt := top 24
abbrev s_law_stretch : Stmt := top 25
/-- _law_stretch(_law_top, _law_way, _law_a, _law_b); names 0 _law_top, 1 _law_way, 2 _law_a, 3 _law_b, 4 _law_x, 5 _law_y, 6 _law_size -/
def d_law_stretch : Df := { ps := [Str.ofString "_law_top", Str.ofString "_law_way", Str.ofString "_law_a", Str.ofString "_law_b"], np := 4, nn := 7, body :=
   [.asg (.nm 4) (.bin .Mod (.var 2) (.bin .Add (.var 0) (.con (.int 1)))),
    .asg (.nm 5) (.bin .Mod (.var 3) (.bin .Add (.var 0) (.con (.int 1)))),
    .ite (.cmp .Eq (.var 1) (.con (.int 1)))
      [.ret (.tup [.var 4, .var 4])]
      [],
    .ite (.cmp .Eq (.var 1) (.con (.int 2)))
      [.ret (.tup [.bi .min [.var 4, .var 5], .bi .max [.var 4, .var 5]])]
      [],
    .ite (.cmp .Eq (.var 1) (.con (.int 3)))
      [.ret (.tup [.con (.int 0), .var 4])]
      [],
    .ite (.cmp .Eq (.var 1) (.con (.int 4)))
      [.ret (.tup [.var 4, .var 0])]
      [],
    .ite (.cmp .Eq (.var 1) (.con (.int 5)))
      [.ret (.tup [.var 4, .bi .min [.var 0, .bin .Add (.var 4) (.bin .Mod (.var 3) (.con (.int 3)))]])]
      [],
    .ite (.and (.cmp .Eq (.var 1) (.con (.int 6))) (.cmp .Eq (.var 0) (.con (.int 4294967295))))
      [.asg (.nm 6) (.bin .LShift (.con (.int 1)) (.bin .Mod (.var 3) (.con (.int 33)))),
       .ret (.tup [.bin .Mult (.bin .FloorDiv (.var 4) (.var 6)) (.var 6), .bin .Sub (.bin .Add (.bin .Mult (.bin .FloorDiv (.var 4) (.var 6)) (.var 6)) (.var 6)) (.con (.int 1))])]
      [],
    .ret (.tup [.con (.int 0), .var 0])] }
abbrev s_law_box : Stmt := top 26
/-- _law_box(_law_cell, _law_more); names 0 _law_cell, 1 _law_more, 2 _law_draws, 3 _law_tops, 4 _law_box_here, 5 _law_k -/
def d_law_box : Df := { ps := [Str.ofString "_law_cell", Str.ofString "_law_more"], np := 2, nn := 6, body :=
   [.asg (.nm 2) (.call "_law_stream" [.var 0, .con (.int 18)]),
    .asg (.nm 3) (.lst [.con (.int 3), .con (.int 255), .con (.int 4294967295), .con (.int 65535), .con (.int 4294967295), .con (.int 65535)]),
    .asg (.nm 4) (.lst []),
    .forS (.nm 5) .rng [.con (.int 6)]
      [.exp (.mth .append (.var 4) [.call "_law_stretch" [.idx (.var 3) (.var 5), .bin .Mod (.idx (.var 2) (.bin .Mult (.con (.int 3)) (.var 5))) (.con (.int 9)), .idx (.var 2) (.bin .Add (.bin .Mult (.con (.int 3)) (.var 5)) (.con (.int 1))), .idx (.var 2) (.bin .Add (.bin .Mult (.con (.int 3)) (.var 5)) (.con (.int 2)))]])],
    .ite (.cmp .Eq (.bin .Mod (.var 1) (.con (.int 3))) (.con (.int 1)))
      [.sub (.var 4) (.con (.int 4)) (.idx (.var 4) (.con (.int 2)))]
      [],
    .ret (.bi .tuple [.var 4])] }
abbrev s_law_name : Stmt := top 27
/-- _law_name(_law_cell); names 0 _law_cell, 1 _law_words, 2 _law_letters, 3 _law_draw -/
def d_law_name : Df := { ps := [Str.ofString "_law_cell"], np := 1, nn := 4, body :=
   [.asg (.nm 1) (.lst [.con (.str (Str.ofString "pass")), .con (.str (Str.ofString "stop")), .con (.str (Str.ofString "back")), .con (.str (Str.ofString "call")), .con (.str (Str.ofString "chain")), .con (.str (Str.ofString "default")), .con (.str (Str.ofString "turn")), .con (.str (Str.ofString "kind")), .con (.str (Str.ofString "from")), .con (.str (Str.ofString "fromdoor")), .con (.str (Str.ofString "to")), .con (.str (Str.ofString "todoor"))]),
    .asg (.nm 2) (.con (.str (Str.ofString "abcdefghijklmnopqrstuvwxyz"))),
    .ite (.cmp .Eq (.bin .Mod (.var 0) (.con (.int 5))) (.con (.int 4)))
      [.ret (.idx (.var 1) (.bin .Mod (.bin .FloorDiv (.var 0) (.con (.int 5))) (.con (.int 12))))]
      [],
    .ret (.mth .join (.con (.str (Str.ofString ""))) [.cmp1 [3] (.idx (.var 2) (.bin .Mod (.var 3) (.con (.int 26)))) (.nm 3) .val [.call "_law_stream" [.var 0, .bin .Add (.con (.int 1)) (.bin .Mod (.bin .FloorDiv (.var 0) (.con (.int 5))) (.con (.int 12)))]] none])] }
abbrev s_law_address : Stmt := top 28
/-- _law_address(_law_number); names 0 _law_number, 1 _law_words, 2 _law_size -/
def d_law_address : Df := { ps := [Str.ofString "_law_number"], np := 1, nn := 3, body :=
   [.asg (.nm 1) (.lst []),
    .forS (.nm 2) .val [.lst [.con (.int 16777216), .con (.int 65536), .con (.int 256), .con (.int 1)]]
      [.exp (.mth .append (.var 1) [.bi .str [.bin .Mod (.bin .FloorDiv (.var 0) (.var 2)) (.con (.int 256))]])],
    .ret (.mth .join (.con (.str (Str.ofString "."))) [.var 1])] }
abbrev s_law_word : Stmt := top 29
/-- _law_word(_law_key, _law_low, _law_high); names 0 _law_key, 1 _law_low, 2 _law_high, 3 _law_bits, 4 _law_size -/
def d_law_word : Df := { ps := [Str.ofString "_law_key", Str.ofString "_law_low", Str.ofString "_law_high"], np := 3, nn := 5, body :=
   [.ite (.and (.cmp .NotEq (.var 0) (.con (.str (Str.ofString "from")))) (.cmp .NotEq (.var 0) (.con (.str (Str.ofString "to")))))
      [.ite (.cmp .Eq (.var 1) (.var 2))
         [.ret (.bi .str [.var 1])]
         [],
       .ret (.bin .Add (.bin .Add (.bi .str [.var 1]) (.con (.str (Str.ofString "-")))) (.bi .str [.var 2]))]
      [],
    .ite (.cmp .Eq (.var 1) (.var 2))
      [.ret (.call "_law_address" [.var 1])]
      [],
    .forS (.nm 3) .rng [.con (.int 32)]
      [.asg (.nm 4) (.bin .LShift (.con (.int 1)) (.bin .Sub (.con (.int 32)) (.var 3))),
       .ite (.and (.cmp .Eq (.bin .Mod (.var 1) (.var 4)) (.con (.int 0))) (.cmp .Eq (.var 2) (.bin .Sub (.bin .Add (.var 1) (.var 4)) (.con (.int 1)))))
         [.ret (.bin .Add (.bin .Add (.call "_law_address" [.var 1]) (.con (.str (Str.ofString "/")))) (.bi .str [.var 3]))]
         []],
    .ret (.bin .Add (.bin .Add (.call "_law_address" [.var 1]) (.con (.str (Str.ofString "-")))) (.call "_law_address" [.var 2]))] }
abbrev s_law_due : Stmt := top 30
/-- _law_due(_law_rule); names 0 _law_rule, 1 _law_words, 2 _law_tops, 3 _law_keys, 4 _law_k, 5 _law_low, 6 _law_high -/
def d_law_due : Df := { ps := [Str.ofString "_law_rule"], np := 1, nn := 7, body :=
   [.asg (.nm 1) (.lst [.idx (.var 0) (.con (.int 0))]),
    .ite (.cmp .Eq (.idx (.var 0) (.con (.int 0))) (.con (.str (Str.ofString "call"))))
      [.exp (.mth .append (.var 1) [.idx (.var 0) (.con (.int 2))])]
      [],
    .asg (.nm 2) (.lst [.con (.int 3), .con (.int 255), .con (.int 4294967295), .con (.int 65535), .con (.int 4294967295), .con (.int 65535)]),
    .asg (.nm 3) (.lst [.con (.str (Str.ofString "turn")), .con (.str (Str.ofString "kind")), .con (.str (Str.ofString "from")), .con (.str (Str.ofString "fromdoor")), .con (.str (Str.ofString "to")), .con (.str (Str.ofString "todoor"))]),
    .forS (.nm 4) .rng [.con (.int 6)]
      [.asg (.tp [5, 6]) (.idx (.idx (.var 0) (.con (.int 1))) (.var 4)),
       .ite (.or (.cmp .Gt (.var 5) (.con (.int 0))) (.cmp .Lt (.var 6) (.idx (.var 2) (.var 4))))
         [.exp (.mth .append (.var 1) [.idx (.var 3) (.var 4)]),
          .exp (.mth .append (.var 1) [.call "_law_word" [.idx (.var 3) (.var 4), .var 5, .var 6]])]
         []],
    .ret (.mth .join (.con (.str (Str.ofString " "))) [.var 1])] }
abbrev s_law : Stmt := top 31
/-- law(_law_script); names 0 _law_script, 1 _law_k, 2 _law_cell, 3 _law_box_here, 4 _law_rule, 5 _law_found -/
def d_law : Df := { ps := [Str.ofString "_law_script"], np := 1, nn := 6, body :=
   [.forS (.nm 1) .rng [.con (.int 0), .bi .max [.con (.int 1), .bi .min [.bi .len [.var 0], .con (.int 24)]], .con (.int 3)]
      [.asg (.nm 2) (.call "_law_cell_at" [.var 0, .var 1]),
       .asg (.nm 3) (.call "_law_box" [.call "_law_cell_at" [.var 0, .bin .Add (.var 1) (.con (.int 1))], .call "_law_cell_at" [.var 0, .bin .Add (.var 1) (.con (.int 2))]]),
       .asg (.nm 4) (.tup [.idx (.lst [.con (.str (Str.ofString "pass")), .con (.str (Str.ofString "stop")), .con (.str (Str.ofString "back")), .con (.str (Str.ofString "call"))]) (.bin .Mod (.var 2) (.con (.int 4))), .var 3]),
       .ite (.cmp .Eq (.idx (.var 4) (.con (.int 0))) (.con (.str (Str.ofString "call"))))
         [.asg (.nm 4) (.bin .Add (.var 4) (.tup [.call "_law_name" [.bin .FloorDiv (.var 2) (.con (.int 4))]]))]
         [],
       .asg (.nm 5) (.call "show_rule" [.var 4]),
       .ite (.or (.not (.isi (.var 5) "str")) (.cmp .NotEq (.var 5) (.call "_law_due" [.var 4])))
         [.ret (.con (.bl false))]
         []],
    .ret (.con (.bl true))] }
abbrev s_Rule___init__ : Stmt := inClass (top 12) 0
abbrev s_Word___init__ : Stmt := inClass (top 13) 0
abbrev s_Word_head : Stmt := inClass (top 13) 2
/-- Word.head(self); names 0 self -/
def d_Word_head : Df := { ps := [Str.ofString "self"], np := 1, nn := 1, body :=
   [.ret (.fld (.var 0) "word")] }
abbrev s_Back_head : Stmt := inClass (top 14) 1
/-- Back.head(self); names 0 self -/
def d_Back_head : Df := { ps := [Str.ofString "self"], np := 1, nn := 1, body :=
   [.ret (.con (.str (Str.ofString "back")))] }
abbrev s_Call___init__ : Stmt := inClass (top 15) 0
abbrev s_Call_head : Stmt := inClass (top 15) 2
/-- Call.head(self); names 0 self -/
def d_Call_head : Df := { ps := [Str.ofString "self"], np := 1, nn := 1, body :=
   [.ret (.bin .Add (.con (.str (Str.ofString "call "))) (.fld (.var 0) "name"))] }
def exiT : List (String × Option String) := []
def exmT : List ((String × String) × Bool) := []
def subT : List ((String × String) × Bool) := [(("NoneType", "str"), false), (("bool", "str"), false), (("int", "str"), false), (("str", "str"), true), (("tuple", "str"), false), (("list", "str"), false), (("dict", "str"), false)]
def mroT : List ((String × String) × String) := [(("Word", "__init__"), "Word.__init__"), (("Word", "head"), "Word.head"), (("Call", "__init__"), "Call.__init__"), (("Call", "head"), "Call.head"), (("Back", "__init__"), "Rule.__init__"), (("Back", "head"), "Back.head")]
def fldT : List (String × String) := [("Word", "box"), ("Word", "word"), ("Call", "box"), ("Call", "name"), ("Back", "box")]
def T : Pr := {
  defs := [("show_address", d_show_address), ("mask", d_mask), ("beginning", d_beginning), ("shared", d_shared), ("bits_of", d_bits_of), ("every", d_every), ("rule_of", dS_rule_of), ("show_numbers", d_show_numbers), ("show_addresses", d_show_addresses), ("show_rule", d_show_rule), ("_law_cell_at", d_law_cell_at), ("_law_stream", dS_law_stream), ("_law_stretch", d_law_stretch), ("_law_box", d_law_box), ("_law_name", d_law_name), ("_law_address", d_law_address), ("_law_word", d_law_word), ("_law_due", d_law_due), ("law", d_law), ("Rule.__init__", dS_Rule___init__), ("Word.__init__", dS_Word___init__), ("Word.head", d_Word_head), ("Back.head", d_Back_head), ("Call.__init__", dS_Call___init__), ("Call.head", d_Call_head)],
  glb := [("PAIRS", .tup [.str (Str.ofString "turn"), .str (Str.ofString "kind"), .str (Str.ofString "from"), .str (Str.ofString "fromdoor"), .str (Str.ofString "to"), .str (Str.ofString "todoor")]), ("HIGHEST", .tup [.int 3, .int 255, .int 4294967295, .int 65535, .int 4294967295, .int 65535]), ("ALL", .int 4294967295)],
  sub := fun c t => subT.lookup (c, t), mro := fun c m => mroT.lookup (c, m), flds := fun c => (fldT.filter fun p => p.1 == c).map (·.2), exm := fun c t => exmT.lookup (c, t), exi := fun c => exiT.lookup c }
theorem t_show_address : trSs tbl 60 [Str.ofString "address", Str.ofString "words", Str.ofString "shift"] (defScope s_show_address) (defBody s_show_address) = some d_show_address.body := by rfl
theorem c_show_address : FnScope [Str.ofString "address", Str.ofString "words", Str.ofString "shift"] [Str.ofString "address"] (defScope s_show_address) := ⟨rfl, rfl, rfl, by decide +kernel, rfl, by decide +kernel, by decide +kernel⟩
theorem t_mask : trSs tbl 60 [Str.ofString "bits"] (defScope s_mask) (defBody s_mask) = some d_mask.body := by rfl
theorem c_mask : FnScope [Str.ofString "bits"] [Str.ofString "bits"] (defScope s_mask) := ⟨rfl, rfl, rfl, by decide +kernel, rfl, by decide +kernel, by decide +kernel⟩
theorem t_beginning : trSs tbl 60 [Str.ofString "address", Str.ofString "bits", Str.ofString "ones"] (defScope s_beginning) (defBody s_beginning) = some d_beginning.body := by rfl
theorem c_beginning : FnScope [Str.ofString "address", Str.ofString "bits", Str.ofString "ones"] [Str.ofString "address", Str.ofString "bits"] (defScope s_beginning) := ⟨rfl, rfl, rfl, by decide +kernel, rfl, by decide +kernel, by decide +kernel⟩
theorem t_shared : trSs tbl 60 [Str.ofString "one", Str.ofString "other"] (defScope s_shared) (defBody s_shared) = some d_shared.body := by rfl
theorem c_shared : FnScope [Str.ofString "one", Str.ofString "other"] [Str.ofString "one", Str.ofString "other"] (defScope s_shared) := ⟨rfl, rfl, rfl, by decide +kernel, rfl, by decide +kernel, by decide +kernel⟩
theorem t_bits_of : trSs tbl 60 [Str.ofString "low", Str.ofString "high", Str.ofString "bits"] (defScope s_bits_of) (defBody s_bits_of) = some d_bits_of.body := by rfl
theorem c_bits_of : FnScope [Str.ofString "low", Str.ofString "high", Str.ofString "bits"] [Str.ofString "low", Str.ofString "high"] (defScope s_bits_of) := ⟨rfl, rfl, rfl, by decide +kernel, rfl, by decide +kernel, by decide +kernel⟩
theorem t_every : trSs tbl 60 [Str.ofString "high"] (defScope s_every) (defBody s_every) = some d_every.body := by rfl
theorem c_every : FnScope [Str.ofString "high"] [] (defScope s_every) := ⟨rfl, rfl, rfl, by decide +kernel, rfl, by decide +kernel, by decide +kernel⟩
theorem t_rule_of : trSs tbl 60 [Str.ofString "row"] (defScope s_rule_of) (defBody s_rule_of) = some dS_rule_of.body := by rfl
theorem c_rule_of : FnScope [Str.ofString "row"] [Str.ofString "row"] (defScope s_rule_of) := ⟨rfl, rfl, rfl, by decide +kernel, rfl, by decide +kernel, by decide +kernel⟩
theorem t_show_numbers : trSs tbl 60 [Str.ofString "low", Str.ofString "high"] (defScope s_show_numbers) (defBody s_show_numbers) = some d_show_numbers.body := by rfl
theorem c_show_numbers : FnScope [Str.ofString "low", Str.ofString "high"] [Str.ofString "low", Str.ofString "high"] (defScope s_show_numbers) := ⟨rfl, rfl, rfl, by decide +kernel, rfl, by decide +kernel, by decide +kernel⟩
theorem t_show_addresses : trSs tbl 60 [Str.ofString "low", Str.ofString "high", Str.ofString "first", Str.ofString "bits", Str.ofString "last"] (defScope s_show_addresses) (defBody s_show_addresses) = some d_show_addresses.body := by rfl
theorem c_show_addresses : FnScope [Str.ofString "low", Str.ofString "high", Str.ofString "first", Str.ofString "bits", Str.ofString "last"] [Str.ofString "low", Str.ofString "high"] (defScope s_show_addresses) := ⟨rfl, rfl, rfl, by decide +kernel, rfl, by decide +kernel, by decide +kernel⟩
theorem t_show_rule : trSs tbl 60 [Str.ofString "row", Str.ofString "words", Str.ofString "whole", Str.ofString "at", Str.ofString "key", Str.ofString "low", Str.ofString "high"] (defScope s_show_rule) (defBody s_show_rule) = some d_show_rule.body := by rfl
theorem c_show_rule : FnScope [Str.ofString "row", Str.ofString "words", Str.ofString "whole", Str.ofString "at", Str.ofString "key", Str.ofString "low", Str.ofString "high"] [Str.ofString "row"] (defScope s_show_rule) := ⟨rfl, rfl, rfl, by decide +kernel, rfl, by decide +kernel, by decide +kernel⟩
theorem t_law_cell_at : trSs tbl 60 [Str.ofString "_law_script", Str.ofString "_law_k"] (defScope s_law_cell_at) (defBody s_law_cell_at) = some d_law_cell_at.body := by rfl
theorem c_law_cell_at : FnScope [Str.ofString "_law_script", Str.ofString "_law_k"] [Str.ofString "_law_script", Str.ofString "_law_k"] (defScope s_law_cell_at) := ⟨rfl, rfl, rfl, by decide +kernel, rfl, by decide +kernel, by decide +kernel⟩
theorem t_law_stream : trSs tbl 60 [Str.ofString "_law_cell", Str.ofString "_law_many", Str.ofString "_law_found", Str.ofString "_law_number", Str.ofString "_law_k"] (defScope s_law_stream) (defBody s_law_stream) = some dS_law_stream.body := by rfl
theorem c_law_stream : FnScope [Str.ofString "_law_cell", Str.ofString "_law_many", Str.ofString "_law_found", Str.ofString "_law_number", Str.ofString "_law_k"] [Str.ofString "_law_cell", Str.ofString "_law_many"] (defScope s_law_stream) := ⟨rfl, rfl, rfl, by decide +kernel, rfl, by decide +kernel, by decide +kernel⟩
theorem t_law_stretch : trSs tbl 60 [Str.ofString "_law_top", Str.ofString "_law_way", Str.ofString "_law_a", Str.ofString "_law_b", Str.ofString "_law_x", Str.ofString "_law_y", Str.ofString "_law_size"] (defScope s_law_stretch) (defBody s_law_stretch) = some d_law_stretch.body := by rfl
theorem c_law_stretch : FnScope [Str.ofString "_law_top", Str.ofString "_law_way", Str.ofString "_law_a", Str.ofString "_law_b", Str.ofString "_law_x", Str.ofString "_law_y", Str.ofString "_law_size"] [Str.ofString "_law_top", Str.ofString "_law_way", Str.ofString "_law_a", Str.ofString "_law_b"] (defScope s_law_stretch) := ⟨rfl, rfl, rfl, by decide +kernel, rfl, by decide +kernel, by decide +kernel⟩
theorem t_law_box : trSs tbl 60 [Str.ofString "_law_cell", Str.ofString "_law_more", Str.ofString "_law_draws", Str.ofString "_law_tops", Str.ofString "_law_box_here", Str.ofString "_law_k"] (defScope s_law_box) (defBody s_law_box) = some d_law_box.body := by rfl
theorem c_law_box : FnScope [Str.ofString "_law_cell", Str.ofString "_law_more", Str.ofString "_law_draws", Str.ofString "_law_tops", Str.ofString "_law_box_here", Str.ofString "_law_k"] [Str.ofString "_law_cell", Str.ofString "_law_more"] (defScope s_law_box) := ⟨rfl, rfl, rfl, by decide +kernel, rfl, by decide +kernel, by decide +kernel⟩
theorem t_law_name : trSs tbl 60 [Str.ofString "_law_cell", Str.ofString "_law_words", Str.ofString "_law_letters", Str.ofString "_law_draw"] (defScope s_law_name) (defBody s_law_name) = some d_law_name.body := by rfl
theorem c_law_name : FnScope [Str.ofString "_law_cell", Str.ofString "_law_words", Str.ofString "_law_letters", Str.ofString "_law_draw"] [Str.ofString "_law_cell"] (defScope s_law_name) := ⟨rfl, rfl, rfl, by decide +kernel, rfl, by decide +kernel, by decide +kernel⟩
theorem t_law_address : trSs tbl 60 [Str.ofString "_law_number", Str.ofString "_law_words", Str.ofString "_law_size"] (defScope s_law_address) (defBody s_law_address) = some d_law_address.body := by rfl
theorem c_law_address : FnScope [Str.ofString "_law_number", Str.ofString "_law_words", Str.ofString "_law_size"] [Str.ofString "_law_number"] (defScope s_law_address) := ⟨rfl, rfl, rfl, by decide +kernel, rfl, by decide +kernel, by decide +kernel⟩
theorem t_law_word : trSs tbl 60 [Str.ofString "_law_key", Str.ofString "_law_low", Str.ofString "_law_high", Str.ofString "_law_bits", Str.ofString "_law_size"] (defScope s_law_word) (defBody s_law_word) = some d_law_word.body := by rfl
theorem c_law_word : FnScope [Str.ofString "_law_key", Str.ofString "_law_low", Str.ofString "_law_high", Str.ofString "_law_bits", Str.ofString "_law_size"] [Str.ofString "_law_key", Str.ofString "_law_low", Str.ofString "_law_high"] (defScope s_law_word) := ⟨rfl, rfl, rfl, by decide +kernel, rfl, by decide +kernel, by decide +kernel⟩
theorem t_law_due : trSs tbl 60 [Str.ofString "_law_rule", Str.ofString "_law_words", Str.ofString "_law_tops", Str.ofString "_law_keys", Str.ofString "_law_k", Str.ofString "_law_low", Str.ofString "_law_high"] (defScope s_law_due) (defBody s_law_due) = some d_law_due.body := by rfl
theorem c_law_due : FnScope [Str.ofString "_law_rule", Str.ofString "_law_words", Str.ofString "_law_tops", Str.ofString "_law_keys", Str.ofString "_law_k", Str.ofString "_law_low", Str.ofString "_law_high"] [Str.ofString "_law_rule"] (defScope s_law_due) := ⟨rfl, rfl, rfl, by decide +kernel, rfl, by decide +kernel, by decide +kernel⟩
theorem t_law : trSs tbl 60 [Str.ofString "_law_script", Str.ofString "_law_k", Str.ofString "_law_cell", Str.ofString "_law_box_here", Str.ofString "_law_rule", Str.ofString "_law_found"] (defScope s_law) (defBody s_law) = some d_law.body := by rfl
theorem c_law : FnScope [Str.ofString "_law_script", Str.ofString "_law_k", Str.ofString "_law_cell", Str.ofString "_law_box_here", Str.ofString "_law_rule", Str.ofString "_law_found"] [Str.ofString "_law_script"] (defScope s_law) := ⟨rfl, rfl, rfl, by decide +kernel, rfl, by decide +kernel, by decide +kernel⟩
theorem t_Rule___init__ : trSs tbl 60 [Str.ofString "self", Str.ofString "box"] (defScope s_Rule___init__) (defBody s_Rule___init__) = some dS_Rule___init__.body := by rfl
theorem c_Rule___init__ : FnScope [Str.ofString "self", Str.ofString "box"] [Str.ofString "self", Str.ofString "box"] (defScope s_Rule___init__) := ⟨rfl, rfl, rfl, by decide +kernel, rfl, by decide +kernel, by decide +kernel⟩
theorem t_Word___init__ : trSs tbl 60 [Str.ofString "self", Str.ofString "box", Str.ofString "word"] (defScope s_Word___init__) (defBody s_Word___init__) = some dS_Word___init__.body := by rfl
theorem c_Word___init__ : FnScope [Str.ofString "self", Str.ofString "box", Str.ofString "word"] [Str.ofString "self", Str.ofString "box", Str.ofString "word"] (defScope s_Word___init__) := ⟨rfl, rfl, rfl, by decide +kernel, rfl, by decide +kernel, by decide +kernel⟩
theorem t_Word_head : trSs tbl 60 [Str.ofString "self"] (defScope s_Word_head) (defBody s_Word_head) = some d_Word_head.body := by rfl
theorem c_Word_head : FnScope [Str.ofString "self"] [Str.ofString "self"] (defScope s_Word_head) := ⟨rfl, rfl, rfl, by decide +kernel, rfl, by decide +kernel, by decide +kernel⟩
theorem t_Back_head : trSs tbl 60 [Str.ofString "self"] (defScope s_Back_head) (defBody s_Back_head) = some d_Back_head.body := by rfl
theorem c_Back_head : FnScope [Str.ofString "self"] [Str.ofString "self"] (defScope s_Back_head) := ⟨rfl, rfl, rfl, by decide +kernel, rfl, by decide +kernel, by decide +kernel⟩
theorem t_Call___init__ : trSs tbl 60 [Str.ofString "self", Str.ofString "box", Str.ofString "name"] (defScope s_Call___init__) (defBody s_Call___init__) = some dS_Call___init__.body := by rfl
theorem c_Call___init__ : FnScope [Str.ofString "self", Str.ofString "box", Str.ofString "name"] [Str.ofString "self", Str.ofString "box", Str.ofString "name"] (defScope s_Call___init__) := ⟨rfl, rfl, rfl, by decide +kernel, rfl, by decide +kernel, by decide +kernel⟩
theorem t_Call_head : trSs tbl 60 [Str.ofString "self"] (defScope s_Call_head) (defBody s_Call_head) = some d_Call_head.body := by rfl
theorem c_Call_head : FnScope [Str.ofString "self"] [Str.ofString "self"] (defScope s_Call_head) := ⟨rfl, rfl, rfl, by decide +kernel, rfl, by decide +kernel, by decide +kernel⟩
theorem g_PAIRS (n : Nat) : (T.pg n).glb "PAIRS" = some (.tup [.str (Str.ofString "turn"), .str (Str.ofString "kind"), .str (Str.ofString "from"), .str (Str.ofString "fromdoor"), .str (Str.ofString "to"), .str (Str.ofString "todoor")]) := by cases n <;> rfl
theorem g_HIGHEST (n : Nat) : (T.pg n).glb "HIGHEST" = some (.tup [.int 3, .int 255, .int 4294967295, .int 65535, .int 4294967295, .int 65535]) := by cases n <;> rfl
theorem g_ALL (n : Nat) : (T.pg n).glb "ALL" = some (.int 4294967295) := by cases n <;> rfl
theorem mr_Word___init__ (n : Nat) : (T.pg n).mro "Word" "__init__" = some "Word.__init__" := by cases n <;> rfl
theorem mr_Word_head (n : Nat) : (T.pg n).mro "Word" "head" = some "Word.head" := by cases n <;> rfl
theorem mr_Call___init__ (n : Nat) : (T.pg n).mro "Call" "__init__" = some "Call.__init__" := by cases n <;> rfl
theorem mr_Call_head (n : Nat) : (T.pg n).mro "Call" "head" = some "Call.head" := by cases n <;> rfl
theorem mr_Back___init__ (n : Nat) : (T.pg n).mro "Back" "__init__" = some "Rule.__init__" := by cases n <;> rfl
theorem mr_Back_head (n : Nat) : (T.pg n).mro "Back" "head" = some "Back.head" := by cases n <;> rfl
theorem fl_Word_box (n : Nat) : ((T.pg n).flds "Word").contains "box" = true := by cases n <;> rfl
theorem fl_Word_word (n : Nat) : ((T.pg n).flds "Word").contains "word" = true := by cases n <;> rfl
theorem fl_Call_box (n : Nat) : ((T.pg n).flds "Call").contains "box" = true := by cases n <;> rfl
theorem fl_Call_name (n : Nat) : ((T.pg n).flds "Call").contains "name" = true := by cases n <;> rfl
theorem fl_Back_box (n : Nat) : ((T.pg n).flds "Back").contains "box" = true := by cases n <;> rfl
theorem sub_NoneType_str (n : Nat) : (T.pg n).sub "NoneType" "str" = some false := by cases n <;> rfl
theorem sub_bool_str (n : Nat) : (T.pg n).sub "bool" "str" = some false := by cases n <;> rfl
theorem sub_int_str (n : Nat) : (T.pg n).sub "int" "str" = some false := by cases n <;> rfl
theorem sub_str_str (n : Nat) : (T.pg n).sub "str" "str" = some true := by cases n <;> rfl
theorem sub_tuple_str (n : Nat) : (T.pg n).sub "tuple" "str" = some false := by cases n <;> rfl
theorem sub_list_str (n : Nat) : (T.pg n).sub "list" "str" = some false := by cases n <;> rfl
theorem sub_dict_str (n : Nat) : (T.pg n).sub "dict" "str" = some false := by cases n <;> rfl
theorem cf_show_address (n : Nat) : (T.pg (n + 1)).cf "show_address" = callB (T.pg n) d_show_address := rfl
theorem cf_mask (n : Nat) : (T.pg (n + 1)).cf "mask" = callB (T.pg n) d_mask := rfl
theorem cf_beginning (n : Nat) : (T.pg (n + 1)).cf "beginning" = callB (T.pg n) d_beginning := rfl
theorem cf_shared (n : Nat) : (T.pg (n + 1)).cf "shared" = callB (T.pg n) d_shared := rfl
theorem cf_bits_of (n : Nat) : (T.pg (n + 1)).cf "bits_of" = callB (T.pg n) d_bits_of := rfl
theorem cf_every (n : Nat) : (T.pg (n + 1)).cf "every" = callB (T.pg n) d_every := rfl
theorem cf_rule_of (n : Nat) : (T.pg (n + 1)).cf "rule_of" = callB (T.pg n) dS_rule_of := rfl
theorem cf_show_numbers (n : Nat) : (T.pg (n + 1)).cf "show_numbers" = callB (T.pg n) d_show_numbers := rfl
theorem cf_show_addresses (n : Nat) : (T.pg (n + 1)).cf "show_addresses" = callB (T.pg n) d_show_addresses := rfl
theorem cf_show_rule (n : Nat) : (T.pg (n + 1)).cf "show_rule" = callB (T.pg n) d_show_rule := rfl
theorem cf_law_cell_at (n : Nat) : (T.pg (n + 1)).cf "_law_cell_at" = callB (T.pg n) d_law_cell_at := rfl
theorem cf_law_stream (n : Nat) : (T.pg (n + 1)).cf "_law_stream" = callB (T.pg n) dS_law_stream := rfl
theorem cf_law_stretch (n : Nat) : (T.pg (n + 1)).cf "_law_stretch" = callB (T.pg n) d_law_stretch := rfl
theorem cf_law_box (n : Nat) : (T.pg (n + 1)).cf "_law_box" = callB (T.pg n) d_law_box := rfl
theorem cf_law_name (n : Nat) : (T.pg (n + 1)).cf "_law_name" = callB (T.pg n) d_law_name := rfl
theorem cf_law_address (n : Nat) : (T.pg (n + 1)).cf "_law_address" = callB (T.pg n) d_law_address := rfl
theorem cf_law_word (n : Nat) : (T.pg (n + 1)).cf "_law_word" = callB (T.pg n) d_law_word := rfl
theorem cf_law_due (n : Nat) : (T.pg (n + 1)).cf "_law_due" = callB (T.pg n) d_law_due := rfl
theorem cf_law (n : Nat) : (T.pg (n + 1)).cf "law" = callB (T.pg n) d_law := rfl
theorem cf_Rule___init__ (n : Nat) : (T.pg (n + 1)).cf "Rule.__init__" = callB (T.pg n) dS_Rule___init__ := rfl
theorem cf_Word___init__ (n : Nat) : (T.pg (n + 1)).cf "Word.__init__" = callB (T.pg n) dS_Word___init__ := rfl
theorem cf_Word_head (n : Nat) : (T.pg (n + 1)).cf "Word.head" = callB (T.pg n) d_Word_head := rfl
theorem cf_Back_head (n : Nat) : (T.pg (n + 1)).cf "Back.head" = callB (T.pg n) d_Back_head := rfl
theorem cf_Call___init__ (n : Nat) : (T.pg (n + 1)).cf "Call.__init__" = callB (T.pg n) dS_Call___init__ := rfl
theorem cf_Call_head (n : Nat) : (T.pg (n + 1)).cf "Call.head" = callB (T.pg n) d_Call_head := rfl
-- top
section
variable {K : PySem.W.Frag} {mg : Str → Option Value}
def clsN : List String := ["Word", "Call", "Back"]
def excN : List String := []
def lk (K : PySem.W.Frag) : Lk := ⟨K, fun c => if clsN.contains c = true then (match PySem.W.nsIn K mainGlobals (Str.ofString c) with | some (some (.ref C)) => some C | _ => none) else none, fun c => if excN.contains c = true then (match PySem.W.nsIn K mainGlobals (Str.ofString c) with | some (some (.ref C)) => some C | _ => none) else none⟩
theorem top_ok {h : Heap} (X : K.In h) (G : h.Ns mainGlobals mg)
    {f0 : Addr} {od0 an0 : Option Addr} {sl0 : Array (Option Value)} {oc0 kV0 dc0 pm0 cd0 ct0 : Value}
    (a0 : PySem.W.nsIn K mainGlobals (Str.ofString "show_address") = some (some (.ref f0))) (l0 : K.lookup f0 = some ⟨oc0, od0, .func (PySem.W.fnOf (Str.ofString "show_address") (Str.ofString "show_address") (defArgs s_show_address) (defBody s_show_address) (defScope s_show_address) .none kV0 dc0 pm0 an0 cd0 ct0), sl0⟩) (c0 : PySem.W.codeIn K cd0 (Str.ofString "show_address") = true) (k0 : PySem.W.keepIn K (.ref f0) = true)
    {f1 : Addr} {od1 an1 : Option Addr} {sl1 : Array (Option Value)} {oc1 kV1 dc1 pm1 cd1 ct1 : Value}
    (a1 : PySem.W.nsIn K mainGlobals (Str.ofString "mask") = some (some (.ref f1))) (l1 : K.lookup f1 = some ⟨oc1, od1, .func (PySem.W.fnOf (Str.ofString "mask") (Str.ofString "mask") (defArgs s_mask) (defBody s_mask) (defScope s_mask) .none kV1 dc1 pm1 an1 cd1 ct1), sl1⟩) (c1 : PySem.W.codeIn K cd1 (Str.ofString "mask") = true) (k1 : PySem.W.keepIn K (.ref f1) = true)
    {f2 : Addr} {od2 an2 : Option Addr} {sl2 : Array (Option Value)} {oc2 kV2 dc2 pm2 cd2 ct2 : Value}
    (a2 : PySem.W.nsIn K mainGlobals (Str.ofString "beginning") = some (some (.ref f2))) (l2 : K.lookup f2 = some ⟨oc2, od2, .func (PySem.W.fnOf (Str.ofString "beginning") (Str.ofString "beginning") (defArgs s_beginning) (defBody s_beginning) (defScope s_beginning) .none kV2 dc2 pm2 an2 cd2 ct2), sl2⟩) (c2 : PySem.W.codeIn K cd2 (Str.ofString "beginning") = true) (k2 : PySem.W.keepIn K (.ref f2) = true)
    {f3 : Addr} {od3 an3 : Option Addr} {sl3 : Array (Option Value)} {oc3 kV3 dc3 pm3 cd3 ct3 : Value}
    (a3 : PySem.W.nsIn K mainGlobals (Str.ofString "shared") = some (some (.ref f3))) (l3 : K.lookup f3 = some ⟨oc3, od3, .func (PySem.W.fnOf (Str.ofString "shared") (Str.ofString "shared") (defArgs s_shared) (defBody s_shared) (defScope s_shared) .none kV3 dc3 pm3 an3 cd3 ct3), sl3⟩) (c3 : PySem.W.codeIn K cd3 (Str.ofString "shared") = true) (k3 : PySem.W.keepIn K (.ref f3) = true)
    {f4 : Addr} {od4 an4 : Option Addr} {sl4 : Array (Option Value)} {oc4 kV4 dc4 pm4 cd4 ct4 : Value}
    (a4 : PySem.W.nsIn K mainGlobals (Str.ofString "bits_of") = some (some (.ref f4))) (l4 : K.lookup f4 = some ⟨oc4, od4, .func (PySem.W.fnOf (Str.ofString "bits_of") (Str.ofString "bits_of") (defArgs s_bits_of) (defBody s_bits_of) (defScope s_bits_of) .none kV4 dc4 pm4 an4 cd4 ct4), sl4⟩) (c4 : PySem.W.codeIn K cd4 (Str.ofString "bits_of") = true) (k4 : PySem.W.keepIn K (.ref f4) = true)
    {f5 : Addr} {od5 an5 : Option Addr} {sl5 : Array (Option Value)} {oc5 kV5 dc5 pm5 cd5 ct5 : Value}
    (a5 : PySem.W.nsIn K mainGlobals (Str.ofString "every") = some (some (.ref f5))) (l5 : K.lookup f5 = some ⟨oc5, od5, .func (PySem.W.fnOf (Str.ofString "every") (Str.ofString "every") (defArgs s_every) (defBody s_every) (defScope s_every) .none kV5 dc5 pm5 an5 cd5 ct5), sl5⟩) (c5 : PySem.W.codeIn K cd5 (Str.ofString "every") = true) (k5 : PySem.W.keepIn K (.ref f5) = true)
    {f6 : Addr} {od6 an6 : Option Addr} {sl6 : Array (Option Value)} {oc6 kV6 dc6 pm6 cd6 ct6 : Value}
    (a6 : PySem.W.nsIn K mainGlobals (Str.ofString "rule_of") = some (some (.ref f6))) (l6 : K.lookup f6 = some ⟨oc6, od6, .func (PySem.W.fnOf (Str.ofString "rule_of") (Str.ofString "rule_of") (defArgs s_rule_of) (defBody s_rule_of) (defScope s_rule_of) .none kV6 dc6 pm6 an6 cd6 ct6), sl6⟩) (c6 : PySem.W.codeIn K cd6 (Str.ofString "rule_of") = true) (k6 : PySem.W.keepIn K (.ref f6) = true)
    {f7 : Addr} {od7 an7 : Option Addr} {sl7 : Array (Option Value)} {oc7 kV7 dc7 pm7 cd7 ct7 : Value}
    (a7 : PySem.W.nsIn K mainGlobals (Str.ofString "show_numbers") = some (some (.ref f7))) (l7 : K.lookup f7 = some ⟨oc7, od7, .func (PySem.W.fnOf (Str.ofString "show_numbers") (Str.ofString "show_numbers") (defArgs s_show_numbers) (defBody s_show_numbers) (defScope s_show_numbers) .none kV7 dc7 pm7 an7 cd7 ct7), sl7⟩) (c7 : PySem.W.codeIn K cd7 (Str.ofString "show_numbers") = true) (k7 : PySem.W.keepIn K (.ref f7) = true)
    {f8 : Addr} {od8 an8 : Option Addr} {sl8 : Array (Option Value)} {oc8 kV8 dc8 pm8 cd8 ct8 : Value}
    (a8 : PySem.W.nsIn K mainGlobals (Str.ofString "show_addresses") = some (some (.ref f8))) (l8 : K.lookup f8 = some ⟨oc8, od8, .func (PySem.W.fnOf (Str.ofString "show_addresses") (Str.ofString "show_addresses") (defArgs s_show_addresses) (defBody s_show_addresses) (defScope s_show_addresses) .none kV8 dc8 pm8 an8 cd8 ct8), sl8⟩) (c8 : PySem.W.codeIn K cd8 (Str.ofString "show_addresses") = true) (k8 : PySem.W.keepIn K (.ref f8) = true)
    {f9 : Addr} {od9 an9 : Option Addr} {sl9 : Array (Option Value)} {oc9 kV9 dc9 pm9 cd9 ct9 : Value}
    (a9 : PySem.W.nsIn K mainGlobals (Str.ofString "show_rule") = some (some (.ref f9))) (l9 : K.lookup f9 = some ⟨oc9, od9, .func (PySem.W.fnOf (Str.ofString "show_rule") (Str.ofString "show_rule") (defArgs s_show_rule) (defBody s_show_rule) (defScope s_show_rule) .none kV9 dc9 pm9 an9 cd9 ct9), sl9⟩) (c9 : PySem.W.codeIn K cd9 (Str.ofString "show_rule") = true) (k9 : PySem.W.keepIn K (.ref f9) = true)
    {f10 : Addr} {od10 an10 : Option Addr} {sl10 : Array (Option Value)} {oc10 kV10 dc10 pm10 cd10 ct10 : Value}
    (a10 : PySem.W.nsIn K mainGlobals (Str.ofString "_law_cell_at") = some (some (.ref f10))) (l10 : K.lookup f10 = some ⟨oc10, od10, .func (PySem.W.fnOf (Str.ofString "_law_cell_at") (Str.ofString "_law_cell_at") (defArgs s_law_cell_at) (defBody s_law_cell_at) (defScope s_law_cell_at) .none kV10 dc10 pm10 an10 cd10 ct10), sl10⟩) (c10 : PySem.W.codeIn K cd10 (Str.ofString "_law_cell_at") = true) (k10 : PySem.W.keepIn K (.ref f10) = true)
    {f11 : Addr} {od11 an11 : Option Addr} {sl11 : Array (Option Value)} {oc11 kV11 dc11 pm11 cd11 ct11 : Value}
    (a11 : PySem.W.nsIn K mainGlobals (Str.ofString "_law_stream") = some (some (.ref f11))) (l11 : K.lookup f11 = some ⟨oc11, od11, .func (PySem.W.fnOf (Str.ofString "_law_stream") (Str.ofString "_law_stream") (defArgs s_law_stream) (defBody s_law_stream) (defScope s_law_stream) .none kV11 dc11 pm11 an11 cd11 ct11), sl11⟩) (c11 : PySem.W.codeIn K cd11 (Str.ofString "_law_stream") = true) (k11 : PySem.W.keepIn K (.ref f11) = true)
    {f12 : Addr} {od12 an12 : Option Addr} {sl12 : Array (Option Value)} {oc12 kV12 dc12 pm12 cd12 ct12 : Value}
    (a12 : PySem.W.nsIn K mainGlobals (Str.ofString "_law_stretch") = some (some (.ref f12))) (l12 : K.lookup f12 = some ⟨oc12, od12, .func (PySem.W.fnOf (Str.ofString "_law_stretch") (Str.ofString "_law_stretch") (defArgs s_law_stretch) (defBody s_law_stretch) (defScope s_law_stretch) .none kV12 dc12 pm12 an12 cd12 ct12), sl12⟩) (c12 : PySem.W.codeIn K cd12 (Str.ofString "_law_stretch") = true) (k12 : PySem.W.keepIn K (.ref f12) = true)
    {f13 : Addr} {od13 an13 : Option Addr} {sl13 : Array (Option Value)} {oc13 kV13 dc13 pm13 cd13 ct13 : Value}
    (a13 : PySem.W.nsIn K mainGlobals (Str.ofString "_law_box") = some (some (.ref f13))) (l13 : K.lookup f13 = some ⟨oc13, od13, .func (PySem.W.fnOf (Str.ofString "_law_box") (Str.ofString "_law_box") (defArgs s_law_box) (defBody s_law_box) (defScope s_law_box) .none kV13 dc13 pm13 an13 cd13 ct13), sl13⟩) (c13 : PySem.W.codeIn K cd13 (Str.ofString "_law_box") = true) (k13 : PySem.W.keepIn K (.ref f13) = true)
    {f14 : Addr} {od14 an14 : Option Addr} {sl14 : Array (Option Value)} {oc14 kV14 dc14 pm14 cd14 ct14 : Value}
    (a14 : PySem.W.nsIn K mainGlobals (Str.ofString "_law_name") = some (some (.ref f14))) (l14 : K.lookup f14 = some ⟨oc14, od14, .func (PySem.W.fnOf (Str.ofString "_law_name") (Str.ofString "_law_name") (defArgs s_law_name) (defBody s_law_name) (defScope s_law_name) .none kV14 dc14 pm14 an14 cd14 ct14), sl14⟩) (c14 : PySem.W.codeIn K cd14 (Str.ofString "_law_name") = true) (k14 : PySem.W.keepIn K (.ref f14) = true)
    {f15 : Addr} {od15 an15 : Option Addr} {sl15 : Array (Option Value)} {oc15 kV15 dc15 pm15 cd15 ct15 : Value}
    (a15 : PySem.W.nsIn K mainGlobals (Str.ofString "_law_address") = some (some (.ref f15))) (l15 : K.lookup f15 = some ⟨oc15, od15, .func (PySem.W.fnOf (Str.ofString "_law_address") (Str.ofString "_law_address") (defArgs s_law_address) (defBody s_law_address) (defScope s_law_address) .none kV15 dc15 pm15 an15 cd15 ct15), sl15⟩) (c15 : PySem.W.codeIn K cd15 (Str.ofString "_law_address") = true) (k15 : PySem.W.keepIn K (.ref f15) = true)
    {f16 : Addr} {od16 an16 : Option Addr} {sl16 : Array (Option Value)} {oc16 kV16 dc16 pm16 cd16 ct16 : Value}
    (a16 : PySem.W.nsIn K mainGlobals (Str.ofString "_law_word") = some (some (.ref f16))) (l16 : K.lookup f16 = some ⟨oc16, od16, .func (PySem.W.fnOf (Str.ofString "_law_word") (Str.ofString "_law_word") (defArgs s_law_word) (defBody s_law_word) (defScope s_law_word) .none kV16 dc16 pm16 an16 cd16 ct16), sl16⟩) (c16 : PySem.W.codeIn K cd16 (Str.ofString "_law_word") = true) (k16 : PySem.W.keepIn K (.ref f16) = true)
    {f17 : Addr} {od17 an17 : Option Addr} {sl17 : Array (Option Value)} {oc17 kV17 dc17 pm17 cd17 ct17 : Value}
    (a17 : PySem.W.nsIn K mainGlobals (Str.ofString "_law_due") = some (some (.ref f17))) (l17 : K.lookup f17 = some ⟨oc17, od17, .func (PySem.W.fnOf (Str.ofString "_law_due") (Str.ofString "_law_due") (defArgs s_law_due) (defBody s_law_due) (defScope s_law_due) .none kV17 dc17 pm17 an17 cd17 ct17), sl17⟩) (c17 : PySem.W.codeIn K cd17 (Str.ofString "_law_due") = true) (k17 : PySem.W.keepIn K (.ref f17) = true)
    {f18 : Addr} {od18 an18 : Option Addr} {sl18 : Array (Option Value)} {oc18 kV18 dc18 pm18 cd18 ct18 : Value}
    (a18 : PySem.W.nsIn K mainGlobals (Str.ofString "law") = some (some (.ref f18))) (l18 : K.lookup f18 = some ⟨oc18, od18, .func (PySem.W.fnOf (Str.ofString "law") (Str.ofString "law") (defArgs s_law) (defBody s_law) (defScope s_law) .none kV18 dc18 pm18 an18 cd18 ct18), sl18⟩) (c18 : PySem.W.codeIn K cd18 (Str.ofString "law") = true) (k18 : PySem.W.keepIn K (.ref f18) = true)
    {f19 : Addr} {od19 an19 : Option Addr} {sl19 : Array (Option Value)} {oc19 kV19 dc19 pm19 cd19 ct19 : Value}
    (l19 : K.lookup f19 = some ⟨oc19, od19, .func (PySem.W.fnOf (Str.ofString "__init__") (Str.ofString "Rule.__init__") (defArgs s_Rule___init__) (defBody s_Rule___init__) (defScope s_Rule___init__) .none kV19 dc19 pm19 an19 cd19 ct19), sl19⟩) (c19 : PySem.W.codeIn K cd19 (Str.ofString "Rule.__init__") = true) (k19 : PySem.W.keepIn K (.ref f19) = true) (i19 : PySem.W.isFn K (.ref f19) = true)
    {f20 : Addr} {od20 an20 : Option Addr} {sl20 : Array (Option Value)} {oc20 kV20 dc20 pm20 cd20 ct20 : Value}
    (l20 : K.lookup f20 = some ⟨oc20, od20, .func (PySem.W.fnOf (Str.ofString "__init__") (Str.ofString "Word.__init__") (defArgs s_Word___init__) (defBody s_Word___init__) (defScope s_Word___init__) .none kV20 dc20 pm20 an20 cd20 ct20), sl20⟩) (c20 : PySem.W.codeIn K cd20 (Str.ofString "Word.__init__") = true) (k20 : PySem.W.keepIn K (.ref f20) = true) (i20 : PySem.W.isFn K (.ref f20) = true)
    {f21 : Addr} {od21 an21 : Option Addr} {sl21 : Array (Option Value)} {oc21 kV21 dc21 pm21 cd21 ct21 : Value}
    (l21 : K.lookup f21 = some ⟨oc21, od21, .func (PySem.W.fnOf (Str.ofString "head") (Str.ofString "Word.head") (defArgs s_Word_head) (defBody s_Word_head) (defScope s_Word_head) .none kV21 dc21 pm21 an21 cd21 ct21), sl21⟩) (c21 : PySem.W.codeIn K cd21 (Str.ofString "Word.head") = true) (k21 : PySem.W.keepIn K (.ref f21) = true) (i21 : PySem.W.isFn K (.ref f21) = true)
    {f22 : Addr} {od22 an22 : Option Addr} {sl22 : Array (Option Value)} {oc22 kV22 dc22 pm22 cd22 ct22 : Value}
    (l22 : K.lookup f22 = some ⟨oc22, od22, .func (PySem.W.fnOf (Str.ofString "head") (Str.ofString "Back.head") (defArgs s_Back_head) (defBody s_Back_head) (defScope s_Back_head) .none kV22 dc22 pm22 an22 cd22 ct22), sl22⟩) (c22 : PySem.W.codeIn K cd22 (Str.ofString "Back.head") = true) (k22 : PySem.W.keepIn K (.ref f22) = true) (i22 : PySem.W.isFn K (.ref f22) = true)
    {f23 : Addr} {od23 an23 : Option Addr} {sl23 : Array (Option Value)} {oc23 kV23 dc23 pm23 cd23 ct23 : Value}
    (l23 : K.lookup f23 = some ⟨oc23, od23, .func (PySem.W.fnOf (Str.ofString "__init__") (Str.ofString "Call.__init__") (defArgs s_Call___init__) (defBody s_Call___init__) (defScope s_Call___init__) .none kV23 dc23 pm23 an23 cd23 ct23), sl23⟩) (c23 : PySem.W.codeIn K cd23 (Str.ofString "Call.__init__") = true) (k23 : PySem.W.keepIn K (.ref f23) = true) (i23 : PySem.W.isFn K (.ref f23) = true)
    {f24 : Addr} {od24 an24 : Option Addr} {sl24 : Array (Option Value)} {oc24 kV24 dc24 pm24 cd24 ct24 : Value}
    (l24 : K.lookup f24 = some ⟨oc24, od24, .func (PySem.W.fnOf (Str.ofString "head") (Str.ofString "Call.head") (defArgs s_Call_head) (defBody s_Call_head) (defScope s_Call_head) .none kV24 dc24 pm24 an24 cd24 ct24), sl24⟩) (c24 : PySem.W.codeIn K cd24 (Str.ofString "Call.head") = true) (k24 : PySem.W.keepIn K (.ref f24) = true) (i24 : PySem.W.isFn K (.ref f24) = true)
    {C0 : Addr} (aC0 : PySem.W.nsIn K mainGlobals (Str.ofString "Word") = some (some (.ref C0))) (pg0 : PySem.W.plainGet K C0 Str.empty = true) (hd0 : PySem.W.hasDictIn K C0 = true) (po0 : PySem.W.plainOver K C0 = true) (sa0 : PySem.W.findIn K (.ref C0) "__setattr__" = some (some (.builtin "object.__setattr__")))
    (ha0 : PySem.W.findIn K (.ref C0) "__class__" = some (some (.builtin "object.__class__"))) (hm0 : PySem.W.mroIn K C0 (.type "object") = some true)
    (mk0 : PySem.W.makesIn K C0 = true) (kc0 : PySem.W.keepIn K (.ref C0) = true)
    {C1 : Addr} (aC1 : PySem.W.nsIn K mainGlobals (Str.ofString "Call") = some (some (.ref C1))) (pg1 : PySem.W.plainGet K C1 Str.empty = true) (hd1 : PySem.W.hasDictIn K C1 = true) (po1 : PySem.W.plainOver K C1 = true) (sa1 : PySem.W.findIn K (.ref C1) "__setattr__" = some (some (.builtin "object.__setattr__")))
    (ha1 : PySem.W.findIn K (.ref C1) "__class__" = some (some (.builtin "object.__class__"))) (hm1 : PySem.W.mroIn K C1 (.type "object") = some true)
    (mk1 : PySem.W.makesIn K C1 = true) (kc1 : PySem.W.keepIn K (.ref C1) = true)
    {C2 : Addr} (aC2 : PySem.W.nsIn K mainGlobals (Str.ofString "Back") = some (some (.ref C2))) (pg2 : PySem.W.plainGet K C2 Str.empty = true) (hd2 : PySem.W.hasDictIn K C2 = true) (po2 : PySem.W.plainOver K C2 = true) (sa2 : PySem.W.findIn K (.ref C2) "__setattr__" = some (some (.builtin "object.__setattr__")))
    (ha2 : PySem.W.findIn K (.ref C2) "__class__" = some (some (.builtin "object.__class__"))) (hm2 : PySem.W.mroIn K C2 (.type "object") = some true)
    (mk2 : PySem.W.makesIn K C2 = true) (kc2 : PySem.W.keepIn K (.ref C2) = true)
    (hn : PySem.W.specialIn K (.builtin "object.__class__") "__get__" = some (some (.builtin "getset_descriptor.__get__"))) (htk : PySem.W.takesIn K (.builtin "object.__class__") = some true)
    (mt0 : PySem.W.findIn K (.ref C0) (Str.ofString "__init__") = some (some (.ref f20)))
    (mt1 : PySem.W.findIn K (.ref C0) (Str.ofString "head") = some (some (.ref f21)))
    (mt2 : PySem.W.findIn K (.ref C1) (Str.ofString "__init__") = some (some (.ref f23)))
    (mt3 : PySem.W.findIn K (.ref C1) (Str.ofString "head") = some (some (.ref f24)))
    (mt4 : PySem.W.findIn K (.ref C2) (Str.ofString "__init__") = some (some (.ref f19)))
    (mt5 : PySem.W.findIn K (.ref C2) (Str.ofString "head") = some (some (.ref f22)))
    {D0 : Addr} (ad0 : PySem.W.nsIn K mainGlobals (Str.ofString "Rule") = some (some (.ref D0))) (rd0 : PySem.W.readsIn K D0 (.type "type") = true) (rg0 : PySem.W.specialIn K (.ref D0) "__getattribute__" = some (some (.builtin "type.__getattribute__")))
    (ct_0 : PySem.W.findCls K (.ref D0) (.type "type") (Str.ofString "__init__") = some (.val (.ref f19)))
    (na0 : PySem.W.findIn K (.ref C0) (Str.ofString "box") = some none)
    (na1 : PySem.W.findIn K (.ref C0) (Str.ofString "word") = some none)
    (na2 : PySem.W.findIn K (.ref C1) (Str.ofString "box") = some none)
    (na3 : PySem.W.findIn K (.ref C1) (Str.ofString "name") = some none)
    (na4 : PySem.W.findIn K (.ref C2) (Str.ofString "box") = some none)
    {ga0 : Addr} {gd0 : Option Addr} {gs0 : Array (Option Value)} {gn0 : Nat} {tk0_0 : Tok} {tk0_1 : Tok} {tk0_2 : Tok} {tk0_3 : Tok} {tk0_4 : Tok} {tk0_5 : Tok} (gv0 : PySem.W.nsIn K mainGlobals (Str.ofString "PAIRS") = some (some (.ref ga0))) (gl0 : K.lookup ga0 = some ⟨.type "tuple", gd0, .seq #[.str (Str.ofString "turn") tk0_0, .str (Str.ofString "kind") tk0_1, .str (Str.ofString "from") tk0_2, .str (Str.ofString "fromdoor") tk0_3, .str (Str.ofString "to") tk0_4, .str (Str.ofString "todoor") tk0_5] gn0, gs0⟩)
    {ga1 : Addr} {gd1 : Option Addr} {gs1 : Array (Option Value)} {gn1 : Nat} {tk1_0 : Tok} {tk1_1 : Tok} {tk1_2 : Tok} {tk1_3 : Tok} {tk1_4 : Tok} {tk1_5 : Tok} (gv1 : PySem.W.nsIn K mainGlobals (Str.ofString "HIGHEST") = some (some (.ref ga1))) (gl1 : K.lookup ga1 = some ⟨.type "tuple", gd1, .seq #[.int 3 tk1_0, .int 255 tk1_1, .int 4294967295 tk1_2, .int 65535 tk1_3, .int 4294967295 tk1_4, .int 65535 tk1_5] gn1, gs1⟩)
    {tk2 : Tok} (gv2 : PySem.W.nsIn K mainGlobals (Str.ofString "ALL") = some (some (.int 4294967295 tk2)))
    (z0 : PySem.W.nsIn K mainGlobals (Str.ofString "range") = some none)
    (z1 : PySem.W.nsIn K mainGlobals (Str.ofString "enumerate") = some none)
    (z2 : PySem.W.nsIn K mainGlobals (Str.ofString "zip") = some none)
    (z3 : PySem.W.nsIn K mainGlobals (Str.ofString "reversed") = some none)
    (z4 : PySem.W.nsIn K mainGlobals (Str.ofString "len") = some none)
    (z5 : PySem.W.nsIn K mainGlobals (Str.ofString "max") = some none)
    (z6 : PySem.W.nsIn K mainGlobals (Str.ofString "min") = some none)
    (z7 : PySem.W.nsIn K mainGlobals (Str.ofString "int") = some none)
    (z8 : PySem.W.nsIn K mainGlobals (Str.ofString "str") = some none)
    (z9 : PySem.W.nsIn K mainGlobals (Str.ofString "tuple") = some none)
    (z10 : PySem.W.nsIn K mainGlobals (Str.ofString "list") = some none)
    (z11 : PySem.W.nsIn K mainGlobals (Str.ofString "sum") = some none)
    (z12 : PySem.W.nsIn K mainGlobals (Str.ofString "all") = some none)
    (z13 : PySem.W.nsIn K mainGlobals (Str.ofString "isinstance") = some none)
    (z14 : PySem.W.nsIn K mainGlobals (Str.ofString "dict") = some none) : TopOk tbl T (lk K) mg := by
  have ec0 : (lk K).cls "Word" = some C0 := by simp only [lk]; rw [if_pos (by decide), aC0]
  have ec1 : (lk K).cls "Call" = some C1 := by simp only [lk]; rw [if_pos (by decide), aC1]
  have ec2 : (lk K).cls "Back" = some C2 := by simp only [lk]; rw [if_pos (by decide), aC2]
  have cl0 : Cls (lk K).K C0 := ⟨pg0, hd0, po0, sa0⟩
  have cl1 : Cls (lk K).K C1 := ⟨pg1, hd1, po1, sa1⟩
  have cl2 : Cls (lk K).K C2 := ⟨pg2, hd2, po2, sa2⟩
  have clsOf : ∀ c C, (lk K).cls c = some C → c ∈ clsN := fun c C h => by
    by_cases z : clsN.contains c = true
    · simpa using z
    · simp only [lk, if_neg z] at h; cases h
  have excOf : ∀ c C, (lk K).exc c = some C → c ∈ excN := fun c C h => by
    by_cases z : excN.contains c = true
    · simpa using z
    · simp only [lk, if_neg z] at h; cases h
  refine ⟨fun x hx => ?_, fun f hf => ?_, fun t ht => ?_, fun c hc => ?_, fun c C hc => ?_, fun c C hc => ?_, fun c t b hb => ?_, fun c o ho => ?_, fun c C hc H a dx fs e => ?_, fun b hb => ?_, fun c m f hm => ?_, fun m hm => ?_, fun c hm => ?_, fun c f hf => ?_, fun c m f hm => ?_⟩
  · have hx : x ∈ (["PAIRS", "HIGHEST", "ALL"] : List String) := by simpa [tbl, bltNames] using hx
    simp only [List.mem_cons, List.mem_nil_iff, List.not_mem_nil, or_false] at hx
    rcases hx with rfl | rfl | rfl
    · exact ⟨_, _, .ref _, rfl, PySem.W.mg_of X G gv0, rfl, fun _ _ => .tup (xs := [V.str (Str.ofString "turn"), V.str (Str.ofString "kind"), V.str (Str.ofString "from"), V.str (Str.ofString "fromdoor"), V.str (Str.ofString "to"), V.str (Str.ofString "todoor")]) (.inr ⟨(fun _ _ z => by cases z), _, _, _, gl0, rfl, rfl, (by show 6 ≤ sizeLine; decide), (.cons ⟨_, rfl⟩ (.cons ⟨_, rfl⟩ (.cons ⟨_, rfl⟩ (.cons ⟨_, rfl⟩ (.cons ⟨_, rfl⟩ (.cons ⟨_, rfl⟩ .nil))))))⟩) (.cons (.str _) (.cons (.str _) (.cons (.str _) (.cons (.str _) (.cons (.str _) (.cons (.str _) .nil))))))⟩
    · exact ⟨_, _, .ref _, rfl, PySem.W.mg_of X G gv1, rfl, fun _ _ => .tup (xs := [V.int 3, V.int 255, V.int 4294967295, V.int 65535, V.int 4294967295, V.int 65535]) (.inr ⟨(fun _ _ z => by cases z), _, _, _, gl1, rfl, rfl, (by show 6 ≤ sizeLine; decide), (.cons ⟨_, rfl⟩ (.cons ⟨_, rfl⟩ (.cons ⟨_, rfl⟩ (.cons ⟨_, rfl⟩ (.cons ⟨_, rfl⟩ (.cons ⟨_, rfl⟩ .nil))))))⟩) (.cons (.int _) (.cons (.int _) (.cons (.int _) (.cons (.int _) (.cons (.int _) (.cons (.int _) .nil))))))⟩
    · exact ⟨_, _, .int _, rfl, PySem.W.mg_of X G gv2, ⟨_, rfl⟩, fun _ _ => .int _⟩
  · have hx : f ∈ (["show_address", "mask", "beginning", "shared", "bits_of", "every", "rule_of", "show_numbers", "show_addresses", "show_rule", "_law_cell_at", "_law_stream", "_law_stretch", "_law_box", "_law_name", "_law_address", "_law_word", "_law_due", "law"] : List String) := by simpa [tbl, bltNames] using hf
    simp only [List.mem_cons, List.mem_nil_iff, List.not_mem_nil, or_false] at hx
    rcases hx with rfl | rfl | rfl | rfl | rfl | rfl | rfl | rfl | rfl | rfl | rfl | rfl | rfl | rfl | rfl | rfl | rfl | rfl | rfl
    · exact ⟨f0, s_show_address, Str.ofString "show_address", _, _, _, d_show_address, 60, PySem.W.mg_of X G a0, fun_mk (st := s_show_address) l0 c0 k0, (fun us hl => match us, hl with | [_], _ => rfl), c_show_address, rfl, t_show_address, rfl, rfl, rfl⟩
    · exact ⟨f1, s_mask, Str.ofString "mask", _, _, _, d_mask, 60, PySem.W.mg_of X G a1, fun_mk (st := s_mask) l1 c1 k1, (fun us hl => match us, hl with | [_], _ => rfl), c_mask, rfl, t_mask, rfl, rfl, rfl⟩
    · exact ⟨f2, s_beginning, Str.ofString "beginning", _, _, _, d_beginning, 60, PySem.W.mg_of X G a2, fun_mk (st := s_beginning) l2 c2 k2, (fun us hl => match us, hl with | [_, _], _ => rfl), c_beginning, rfl, t_beginning, rfl, rfl, rfl⟩
    · exact ⟨f3, s_shared, Str.ofString "shared", _, _, _, d_shared, 60, PySem.W.mg_of X G a3, fun_mk (st := s_shared) l3 c3 k3, (fun us hl => match us, hl with | [_, _], _ => rfl), c_shared, rfl, t_shared, rfl, rfl, rfl⟩
    · exact ⟨f4, s_bits_of, Str.ofString "bits_of", _, _, _, d_bits_of, 60, PySem.W.mg_of X G a4, fun_mk (st := s_bits_of) l4 c4 k4, (fun us hl => match us, hl with | [_, _], _ => rfl), c_bits_of, rfl, t_bits_of, rfl, rfl, rfl⟩
    · exact ⟨f5, s_every, Str.ofString "every", _, _, _, d_every, 60, PySem.W.mg_of X G a5, fun_mk (st := s_every) l5 c5 k5, (fun us hl => match us, hl with | [], _ => rfl), c_every, rfl, t_every, rfl, rfl, rfl⟩
    · exact ⟨f6, s_rule_of, Str.ofString "rule_of", _, _, _, dS_rule_of, 60, PySem.W.mg_of X G a6, fun_mk (st := s_rule_of) l6 c6 k6, (fun us hl => match us, hl with | [_], _ => rfl), c_rule_of, rfl, t_rule_of, rfl, rfl, rfl⟩
    · exact ⟨f7, s_show_numbers, Str.ofString "show_numbers", _, _, _, d_show_numbers, 60, PySem.W.mg_of X G a7, fun_mk (st := s_show_numbers) l7 c7 k7, (fun us hl => match us, hl with | [_, _], _ => rfl), c_show_numbers, rfl, t_show_numbers, rfl, rfl, rfl⟩
    · exact ⟨f8, s_show_addresses, Str.ofString "show_addresses", _, _, _, d_show_addresses, 60, PySem.W.mg_of X G a8, fun_mk (st := s_show_addresses) l8 c8 k8, (fun us hl => match us, hl with | [_, _], _ => rfl), c_show_addresses, rfl, t_show_addresses, rfl, rfl, rfl⟩
    · exact ⟨f9, s_show_rule, Str.ofString "show_rule", _, _, _, d_show_rule, 60, PySem.W.mg_of X G a9, fun_mk (st := s_show_rule) l9 c9 k9, (fun us hl => match us, hl with | [_], _ => rfl), c_show_rule, rfl, t_show_rule, rfl, rfl, rfl⟩
    · exact ⟨f10, s_law_cell_at, Str.ofString "_law_cell_at", _, _, _, d_law_cell_at, 60, PySem.W.mg_of X G a10, fun_mk (st := s_law_cell_at) l10 c10 k10, (fun us hl => match us, hl with | [_, _], _ => rfl), c_law_cell_at, rfl, t_law_cell_at, rfl, rfl, rfl⟩
    · exact ⟨f11, s_law_stream, Str.ofString "_law_stream", _, _, _, dS_law_stream, 60, PySem.W.mg_of X G a11, fun_mk (st := s_law_stream) l11 c11 k11, (fun us hl => match us, hl with | [_, _], _ => rfl), c_law_stream, rfl, t_law_stream, rfl, rfl, rfl⟩
    · exact ⟨f12, s_law_stretch, Str.ofString "_law_stretch", _, _, _, d_law_stretch, 60, PySem.W.mg_of X G a12, fun_mk (st := s_law_stretch) l12 c12 k12, (fun us hl => match us, hl with | [_, _, _, _], _ => rfl), c_law_stretch, rfl, t_law_stretch, rfl, rfl, rfl⟩
    · exact ⟨f13, s_law_box, Str.ofString "_law_box", _, _, _, d_law_box, 60, PySem.W.mg_of X G a13, fun_mk (st := s_law_box) l13 c13 k13, (fun us hl => match us, hl with | [_, _], _ => rfl), c_law_box, rfl, t_law_box, rfl, rfl, rfl⟩
    · exact ⟨f14, s_law_name, Str.ofString "_law_name", _, _, _, d_law_name, 60, PySem.W.mg_of X G a14, fun_mk (st := s_law_name) l14 c14 k14, (fun us hl => match us, hl with | [_], _ => rfl), c_law_name, rfl, t_law_name, rfl, rfl, rfl⟩
    · exact ⟨f15, s_law_address, Str.ofString "_law_address", _, _, _, d_law_address, 60, PySem.W.mg_of X G a15, fun_mk (st := s_law_address) l15 c15 k15, (fun us hl => match us, hl with | [_], _ => rfl), c_law_address, rfl, t_law_address, rfl, rfl, rfl⟩
    · exact ⟨f16, s_law_word, Str.ofString "_law_word", _, _, _, d_law_word, 60, PySem.W.mg_of X G a16, fun_mk (st := s_law_word) l16 c16 k16, (fun us hl => match us, hl with | [_, _, _], _ => rfl), c_law_word, rfl, t_law_word, rfl, rfl, rfl⟩
    · exact ⟨f17, s_law_due, Str.ofString "_law_due", _, _, _, d_law_due, 60, PySem.W.mg_of X G a17, fun_mk (st := s_law_due) l17 c17 k17, (fun us hl => match us, hl with | [_], _ => rfl), c_law_due, rfl, t_law_due, rfl, rfl, rfl⟩
    · exact ⟨f18, s_law, Str.ofString "law", _, _, _, d_law, 60, PySem.W.mg_of X G a18, fun_mk (st := s_law) l18 c18 k18, (fun us hl => match us, hl with | [_], _ => rfl), c_law, rfl, t_law, rfl, rfl, rfl⟩
  · have hx : t ∈ (["str"] : List String) := by simpa [tbl, bltNames] using ht
    simp only [List.mem_cons, List.mem_nil_iff, List.not_mem_nil, or_false] at hx
    rcases hx with rfl
    · exact ⟨.ty "str", .type "str", .inl ⟨"str", rfl, rfl, PySem.W.mg_none_of X G z8, by decide +kernel⟩, sub_of (tab := subT) (by
        intro e he ht
        simp only [subT, List.mem_cons, List.not_mem_nil, or_false] at he
        rcases he with rfl | rfl | rfl | rfl | rfl | rfl | rfl <;> first | rfl | (exact absurd ht (by decide)))⟩
  · have hx : c ∈ (["NoneType", "bool", "int", "str", "tuple", "list", "dict"] : List String) := by simpa [isTy] using hc
    simp only [List.mem_cons, List.mem_nil_iff, List.not_mem_nil, or_false] at hx
    rcases hx with rfl | rfl | rfl | rfl | rfl | rfl | rfl <;> exact ⟨rfl, rfl⟩
  · have hx := clsOf c C hc
    simp only [clsN, List.mem_cons, List.mem_nil_iff, List.not_mem_nil, or_false] at hx
    rcases hx with rfl | rfl | rfl
    · rfl
    · rfl
    · rfl
  · have hx := excOf c C hc
    simp [excN] at hx
  · have hx := lookup_mem hb
    simp only [exmT, List.mem_cons, List.mem_nil_iff, List.not_mem_nil, or_false] at hx
  · have hx := lookup_mem ho
    simp only [exiT, List.mem_cons, List.mem_nil_iff, List.not_mem_nil, or_false] at hx
  · have hx := clsOf c C hc
    simp only [clsN, List.mem_cons, List.mem_nil_iff, List.not_mem_nil, or_false] at hx
    rcases hx with rfl | rfl | rfl
    · rw [ec0] at hc; cases hc; exact .base (.ins e cl0 ha0 hn htk hm0)
    · rw [ec1] at hc; cases hc; exact .base (.ins e cl1 ha1 hn htk hm1)
    · rw [ec2] at hc; cases hc; exact .base (.ins e cl2 ha2 hn htk hm2)
  · have hx : b ∈ (["range", "enumerate", "zip", "reversed", "len", "max", "min", "int", "str", "tuple", "list", "sum", "all", "isinstance", "dict"] : List String) := by simpa [tbl, bltNames] using hb
    simp only [List.mem_cons, List.mem_nil_iff, List.not_mem_nil, or_false] at hx
    rcases hx with rfl | rfl | rfl | rfl | rfl | rfl | rfl | rfl | rfl | rfl | rfl | rfl | rfl | rfl | rfl
    · exact PySem.W.mg_none_of X G z0
    · exact PySem.W.mg_none_of X G z1
    · exact PySem.W.mg_none_of X G z2
    · exact PySem.W.mg_none_of X G z3
    · exact PySem.W.mg_none_of X G z4
    · exact PySem.W.mg_none_of X G z5
    · exact PySem.W.mg_none_of X G z6
    · exact PySem.W.mg_none_of X G z7
    · exact PySem.W.mg_none_of X G z8
    · exact PySem.W.mg_none_of X G z9
    · exact PySem.W.mg_none_of X G z10
    · exact PySem.W.mg_none_of X G z11
    · exact PySem.W.mg_none_of X G z12
    · exact PySem.W.mg_none_of X G z13
    · exact PySem.W.mg_none_of X G z14
  · have hx := lookup_mem hm
    simp only [mroT, List.mem_cons, List.mem_nil_iff, List.not_mem_nil, or_false, Prod.mk.injEq] at hx
    rcases hx with ⟨⟨rfl, rfl⟩, rfl⟩ | ⟨⟨rfl, rfl⟩, rfl⟩ | ⟨⟨rfl, rfl⟩, rfl⟩ | ⟨⟨rfl, rfl⟩, rfl⟩ | ⟨⟨rfl, rfl⟩, rfl⟩ | ⟨⟨rfl, rfl⟩, rfl⟩
    · exact ⟨C0, f20, s_Word___init__, Str.ofString "Word.__init__", _, _, _, dS_Word___init__, 60, ec0, cl0, ⟨mt0, i20, k20⟩, fun_mk (st := s_Word___init__) l20 c20 k20, (fun us hl => match us, hl with | [_, _, _], _ => rfl), c_Word___init__, rfl, t_Word___init__, rfl, rfl⟩
    · exact ⟨C0, f21, s_Word_head, Str.ofString "Word.head", _, _, _, d_Word_head, 60, ec0, cl0, ⟨mt1, i21, k21⟩, fun_mk (st := s_Word_head) l21 c21 k21, (fun us hl => match us, hl with | [_], _ => rfl), c_Word_head, rfl, t_Word_head, rfl, rfl⟩
    · exact ⟨C1, f23, s_Call___init__, Str.ofString "Call.__init__", _, _, _, dS_Call___init__, 60, ec1, cl1, ⟨mt2, i23, k23⟩, fun_mk (st := s_Call___init__) l23 c23 k23, (fun us hl => match us, hl with | [_, _, _], _ => rfl), c_Call___init__, rfl, t_Call___init__, rfl, rfl⟩
    · exact ⟨C1, f24, s_Call_head, Str.ofString "Call.head", _, _, _, d_Call_head, 60, ec1, cl1, ⟨mt3, i24, k24⟩, fun_mk (st := s_Call_head) l24 c24 k24, (fun us hl => match us, hl with | [_], _ => rfl), c_Call_head, rfl, t_Call_head, rfl, rfl⟩
    · exact ⟨C2, f19, s_Rule___init__, Str.ofString "Rule.__init__", _, _, _, dS_Rule___init__, 60, ec2, cl2, ⟨mt4, i19, k19⟩, fun_mk (st := s_Rule___init__) l19 c19 k19, (fun us hl => match us, hl with | [_, _], _ => rfl), c_Rule___init__, rfl, t_Rule___init__, rfl, rfl⟩
    · exact ⟨C2, f22, s_Back_head, Str.ofString "Back.head", _, _, _, d_Back_head, 60, ec2, cl2, ⟨mt5, i22, k22⟩, fun_mk (st := s_Back_head) l22 c22 k22, (fun us hl => match us, hl with | [_], _ => rfl), c_Back_head, rfl, t_Back_head, rfl, rfl⟩
  · have hx : m ∈ (["head"] : List String) := by simpa [tbl, bltNames] using hm
    simp only [List.mem_cons, List.mem_nil_iff, List.not_mem_nil, or_false] at hx
    rcases hx with rfl
    · exact ⟨"Word", "Word.head", rfl⟩
  · have hx : c ∈ (["Word", "Call", "Back"] : List String) := by simpa [tbl, bltNames] using hm
    simp only [List.mem_cons, List.mem_nil_iff, List.not_mem_nil, or_false] at hx
    rcases hx with rfl | rfl | rfl
    · exact ⟨C0, f20, "Word.__init__", ec0, PySem.W.mg_of X G aC0, ⟨mk0, mt0, i20, kc0⟩, rfl⟩
    · exact ⟨C1, f23, "Call.__init__", ec1, PySem.W.mg_of X G aC1, ⟨mk1, mt2, i23, kc1⟩, rfl⟩
    · exact ⟨C2, f19, "Rule.__init__", ec2, PySem.W.mg_of X G aC2, ⟨mk2, mt4, i19, kc2⟩, rfl⟩
  · have hx : (c, f) ∈ fldT := by
      simp only [T, List.contains_iff_mem, List.mem_map, List.mem_filter, beq_iff_eq] at hf
      obtain ⟨⟨a, b⟩, ⟨h1, h2⟩, h3⟩ := hf
      simp only at h2 h3; subst h2; subst h3; exact h1
    simp only [fldT, List.mem_cons, List.mem_nil_iff, List.not_mem_nil, or_false, Prod.mk.injEq] at hx
    rcases hx with ⟨rfl, rfl⟩ | ⟨rfl, rfl⟩ | ⟨rfl, rfl⟩ | ⟨rfl, rfl⟩ | ⟨rfl, rfl⟩
    · exact ⟨C0, ec0, cl0, na0⟩
    · exact ⟨C0, ec0, cl0, na1⟩
    · exact ⟨C1, ec1, cl1, na2⟩
    · exact ⟨C1, ec1, cl1, na3⟩
    · exact ⟨C2, ec2, cl2, na4⟩
  · have hx := lookup_mem hm
    simp only [tbl, List.mem_cons, List.mem_nil_iff, List.not_mem_nil, or_false, Prod.mk.injEq] at hx
    rcases hx with ⟨⟨rfl, rfl⟩, rfl⟩
    · exact ⟨D0, .type "type", f19, s_Rule___init__, Str.ofString "Rule.__init__", _, _, _, dS_Rule___init__, 60, PySem.W.mg_of X G ad0, ⟨rd0, rg0⟩, ct_0, fun_mk (st := s_Rule___init__) l19 c19 k19, (fun us hl => match us, hl with | [_, _], _ => rfl), c_Rule___init__, rfl, t_Rule___init__, rfl, rfl⟩
end
-- pot
def lvl : Nat := 5
end Lw
namespace Lw
open PySem PySem.Spec PyProof.Rows L2 Mn
local macro_rules
  | `(tactic| subst_eqs) => `(tactic| simp (maxDischargeDepth := 40) only [f_lens, f_str, f_ints, ri_str, mo_join, mo_split, mo_part, mo_find, mo_upper, so_nil, m_join, m_split, m_part, m_find, m_upper, is_k, we_fld, g_fld, ws_rai, ws_try, ws_onlyA, ws_onlyR, ws_hold, hot_n, hot_c, hot_0, hot_a, hot_r, ra_n, ra_f, n_exc, ty_exc, g_fldx, ws_fld, g_set, we_own, ow_ref, ow_i, in_n, we_new, pf_nil, pf_cons, lk_nil, lk_cons, String.reduceEq, reduceIte, b_muls, b_mull, i_str, f_sum, io_nil, io_cons, m_pop, m_index, mo_index, m_bit, mo_bit, vlen_app, ap_l, lt_last, lt_app, set_app, cut_take, cut_drop1, nn_add, nn_mul, nn_cast, nn_mod, at_nat, List.getElem?_map, Option.map_some, Int.zero_add, Int.mul_one, m_okr, mo_append, mo_extend, mo_pop, mo_popAt, mo_clear, set_last, sz_lt, mulOk_l, pow_lit, app_last, implies_true, Int.reduceToNat, stands_one, stands_two, if_t, if_f, if_dec, if_not, if_and, if_or, bl_k, in_k, op_k, op_n, op_map, op_if, ls_k, wp_ok, wp_err, wp_bad, wp_if, wp_ret, wg_0, wg_s, we_var, we_con, we_glb, we_bin, we_cmp, we_and, we_or, we_not, we_neg, we_isN, we_notN, we_isB, we_chn, we_lst, we_tup, we_idx, wo_none, wo_some, we_slc, we_call, we_bi, we_isi, we_mth, we_nil, we_cons, we_cmp1, ws_ite, ws_asg, ws_asgT, un_tup, un_ref, tu_l, bt_nm, bt_tp, bs_nil, bs_cons, ws_exp, ws_ret, ws_retN, ws_brk, ws_cnt, ws_pas, wb_nil, wb_cons, ws_for, ws_whl, ws_sub, wp_call, stands_nil, b_add, b_sub, b_mul, b_div, b_mod, b_pow, b_shl, b_shr, b_and, b_or, b_xor, b_adds, b_addt, b_addl, c_lt, c_le, c_gt, c_ge, c_eq, c_ne, c_in, c_nin, v_ii, v_ss, v_bb, i_tup, i_lst, ix_l, ix_d, l_tup, l_lst, ln_l, ln_d, lo_l, lo_d, su_l, su_d, su_t, dk_s, dk_n, k_tup, kt_tup, gt_tup, ix_t, m_get, mo_getd, mo_gett, gt_t, gt_e, k_int, k_str, gk_int, gk_str, ri_val, ri_rng, ri_enm, ri_zip, ri_rev, ri_itm, dc_k, we_dct, we_lofv, we_lofr, we_lofz, we_fst, fs_n, fs_s, fs_i, f_dict, it_zipl, List.isEmpty_cons, m_insert, mo_insert, f_max, f_min, f_int, f_intb, f_tupt, f_tupl, f_lstt, f_lstl, s_tup, s_lst, m_append, m_extend, u_sub, ib_t, ib_f, ib_non, ib_int, ib_str, ib_tup, ib_ref, n_non, n_bl, n_int, n_str, n_tup, n_ref, ty_non, ty_bl, ty_int, ty_str, ty_tup, ty_ref, tyO_l, tyO_i, List.set_cons_zero, List.set_cons_succ, List.map_cons, List.map_nil, List.length_cons, List.length_nil, List.length_map, List.replicate_zero, List.replicate_succ, List.nil_append, List.cons_append, Bool.not_true, Bool.not_false, and_true, true_and, true_implies, false_implies, and_false, false_and, not_false_eq_true, not_true_eq_false, Nat.reduceAdd, Nat.reduceSub, Nat.reduceLeDiff, Nat.reduceMul, Int.reduceMul, Int.reduceAdd, Int.reduceSub, Int.reduceLT, Int.reduceLE, Int.reduceNeg, Int.reduceEq, Int.cast_ofNat_Int, Int.reducePow, Nat.reducePow, divOk_lit, mulOk_r, eq_self, and_self, decide_true, decide_false, it_rng1, it_rng2, it_rng3, it_rngd, it_valt, it_vall, it_enml, it_enmt, it_revl, it_zipt, v_tt, pl_non, pl_int, pl_str, pl_tup, List.all_cons, List.all_nil, Bool.and_self, at_0, at_1, at_2, at_3, at_4, at_5, sz_ok, Val.ref.injEq, Val.int.injEq, Val.bl.injEq, Val.str.injEq, Val.tup.injEq, List.cons.injEq, Option.some.injEq, exists_eq, exists_eq', exists_eq_left, exists_eq_left', exists_eq_right, exists_eq_right', exists_and_left, exists_and_right, g_PAIRS, g_HIGHEST, g_ALL, sub_NoneType_str, sub_bool_str, sub_int_str, sub_str_str, sub_tuple_str, sub_list_str, sub_dict_str, mr_Word___init__, mr_Word_head, mr_Call___init__, mr_Call_head, mr_Back___init__, mr_Back_head, fl_Word_box, fl_Word_word, fl_Call_box, fl_Call_name, fl_Back_box])
local macro_rules
  | `(tactic| exists $ts,*) => `(tactic| simp (maxDischargeDepth := 40) only [f_lens, f_str, f_ints, ri_str, mo_join, mo_split, mo_part, mo_find, mo_upper, so_nil, m_join, m_split, m_part, m_find, m_upper, is_k, we_fld, g_fld, ws_rai, ws_try, ws_onlyA, ws_onlyR, ws_hold, hot_n, hot_c, hot_0, hot_a, hot_r, ra_n, ra_f, n_exc, ty_exc, g_fldx, ws_fld, g_set, we_own, ow_ref, ow_i, in_n, we_new, pf_nil, pf_cons, lk_nil, lk_cons, String.reduceEq, reduceIte, b_muls, b_mull, i_str, f_sum, io_nil, io_cons, m_pop, m_index, mo_index, m_bit, mo_bit, vlen_app, ap_l, lt_last, lt_app, set_app, cut_take, cut_drop1, nn_add, nn_mul, nn_cast, nn_mod, at_nat, List.getElem?_map, Option.map_some, Int.zero_add, Int.mul_one, m_okr, mo_append, mo_extend, mo_pop, mo_popAt, mo_clear, set_last, sz_lt, mulOk_l, pow_lit, app_last, implies_true, Int.reduceToNat, stands_one, stands_two, if_t, if_f, if_dec, if_not, if_and, if_or, bl_k, in_k, op_k, op_n, op_map, op_if, ls_k, wp_ok, wp_err, wp_bad, wp_if, wp_ret, wg_0, wg_s, we_var, we_con, we_glb, we_bin, we_cmp, we_and, we_or, we_not, we_neg, we_isN, we_notN, we_isB, we_chn, we_lst, we_tup, we_idx, wo_none, wo_some, we_slc, we_call, we_bi, we_isi, we_mth, we_nil, we_cons, we_cmp1, ws_ite, ws_asg, ws_asgT, un_tup, un_ref, tu_l, bt_nm, bt_tp, bs_nil, bs_cons, ws_exp, ws_ret, ws_retN, ws_brk, ws_cnt, ws_pas, wb_nil, wb_cons, ws_for, ws_whl, ws_sub, wp_call, stands_nil, b_add, b_sub, b_mul, b_div, b_mod, b_pow, b_shl, b_shr, b_and, b_or, b_xor, b_adds, b_addt, b_addl, c_lt, c_le, c_gt, c_ge, c_eq, c_ne, c_in, c_nin, v_ii, v_ss, v_bb, i_tup, i_lst, ix_l, ix_d, l_tup, l_lst, ln_l, ln_d, lo_l, lo_d, su_l, su_d, su_t, dk_s, dk_n, k_tup, kt_tup, gt_tup, ix_t, m_get, mo_getd, mo_gett, gt_t, gt_e, k_int, k_str, gk_int, gk_str, ri_val, ri_rng, ri_enm, ri_zip, ri_rev, ri_itm, dc_k, we_dct, we_lofv, we_lofr, we_lofz, we_fst, fs_n, fs_s, fs_i, f_dict, it_zipl, List.isEmpty_cons, m_insert, mo_insert, f_max, f_min, f_int, f_intb, f_tupt, f_tupl, f_lstt, f_lstl, s_tup, s_lst, m_append, m_extend, u_sub, ib_t, ib_f, ib_non, ib_int, ib_str, ib_tup, ib_ref, n_non, n_bl, n_int, n_str, n_tup, n_ref, ty_non, ty_bl, ty_int, ty_str, ty_tup, ty_ref, tyO_l, tyO_i, List.set_cons_zero, List.set_cons_succ, List.map_cons, List.map_nil, List.length_cons, List.length_nil, List.length_map, List.replicate_zero, List.replicate_succ, List.nil_append, List.cons_append, Bool.not_true, Bool.not_false, and_true, true_and, true_implies, false_implies, and_false, false_and, not_false_eq_true, not_true_eq_false, Nat.reduceAdd, Nat.reduceSub, Nat.reduceLeDiff, Nat.reduceMul, Int.reduceMul, Int.reduceAdd, Int.reduceSub, Int.reduceLT, Int.reduceLE, Int.reduceNeg, Int.reduceEq, Int.cast_ofNat_Int, Int.reducePow, Nat.reducePow, divOk_lit, mulOk_r, eq_self, and_self, decide_true, decide_false, it_rng1, it_rng2, it_rng3, it_rngd, it_valt, it_vall, it_enml, it_enmt, it_revl, it_zipt, v_tt, pl_non, pl_int, pl_str, pl_tup, List.all_cons, List.all_nil, Bool.and_self, at_0, at_1, at_2, at_3, at_4, at_5, sz_ok, Val.ref.injEq, Val.int.injEq, Val.bl.injEq, Val.str.injEq, Val.tup.injEq, List.cons.injEq, Option.some.injEq, exists_eq, exists_eq', exists_eq_left, exists_eq_left', exists_eq_right, exists_eq_right', exists_and_left, exists_and_right, g_PAIRS, g_HIGHEST, g_ALL, sub_NoneType_str, sub_bool_str, sub_int_str, sub_str_str, sub_tuple_str, sub_list_str, sub_dict_str, mr_Word___init__, mr_Word_head, mr_Call___init__, mr_Call_head, mr_Back___init__, mr_Back_head, fl_Word_box, fl_Word_word, fl_Call_box, fl_Call_name, fl_Back_box, $[$ts:term],*])
theorem cell_at (n : Nat) {h : MH} {a : Nat} {z : Bool} {ns : List Int} (hs : h[a]? = some (.lst z (ns.map .int))) {i : Int} (k : Nat) (hi : i = k) : (T.pg (n + 1)).cf "_law_cell_at" [.ref a, .int i] h = .ok (.int (cell ns k)) h := cell_run hs k hi
theorem cell_w0 {n : Nat} {h : MH} {a : Nat} {z : Bool} {ns : List Int} (hs : h[a]? = some (.lst z (ns.map .int))) {i : Nat} {c : Int} {Q : Val → MH → Prop} {Z : XP} (hc : 0 ≤ c) : ((T.pg (n + 1)).cf "_law_cell_at" [.ref a, .int (0 + (i : Int) * c)] h).wp Q Z = Q (.int (cell ns (i * c.toNat))) h := wp_is (cell_at n hs _ (by have := Int.toNat_of_nonneg hc; rw [Int.natCast_mul, this]; omega))
theorem cell_w {n : Nat} {h : MH} {a : Nat} {z : Bool} {ns : List Int} (hs : h[a]? = some (.lst z (ns.map .int))) {i : Nat} {c d : Int} {Q : Val → MH → Prop} {Z : XP} (hc : 0 ≤ c) (hd : 0 ≤ d) : ((T.pg (n + 1)).cf "_law_cell_at" [.ref a, .int (0 + (i : Int) * c + d)] h).wp Q Z = Q (.int (cell ns (i * c.toNat + d.toNat))) h := wp_is (cell_at n hs _ (by have e1 := Int.toNat_of_nonneg hc; have e2 := Int.toNat_of_nonneg hd; rw [Int.natCast_add, Int.natCast_mul, e1, e2]; omega))
theorem cell_l {n : Nat} {h : MH} {a : Nat} {z : Bool} {ns : List Int} (hs : h[a]? = some (.lst z (ns.map .int))) {d : Int} {Q : Val → MH → Prop} {Z : XP} (hd : 0 ≤ d) : ((T.pg (n + 1)).cf "_law_cell_at" [.ref a, .int d] h).wp Q Z = Q (.int (cell ns d.toNat)) h := wp_is (cell_at n hs _ (by omega))
instance (n : Nat) : RulePg (T.pg n) := ⟨mr_Word___init__ n, mr_Back___init__ n, mr_Call___init__ n, fl_Word_box n, fl_Word_word n, fl_Back_box n, fl_Call_box n, fl_Call_name n⟩
theorem pg_flds (n : Nat) : (T.pg n).flds = T.flds := by cases n <;> rfl
theorem rinit_ok {n : Nat} : RuleInitOk (T.pg (n + 1)) := by
  intro h C b Q Z hf
  rw [cf_Rule___init__]
  exact rule_init_run (by rw [pg_flds] at hf ⊢; exact hf)
theorem winit_ok {n : Nat} : WordInitOk (T.pg (n + 2)) := by intro h b w Q Z; rw [cf_Word___init__]; exact word_init_run rinit_ok
theorem cinit_ok {n : Nat} : CallInitOk (T.pg (n + 2)) := by intro h b w Q Z; rw [cf_Call___init__]; exact call_init_run rinit_ok
theorem rule_of_wp {n : Nat} {h : MH} {r : Rl} {Q : Val → MH → Prop} {Z : XP} : ((T.pg (n + 3)).cf "rule_of" [rlV r] h).wp Q Z = Q (.ref h.length) (h ++ [ruO r]) := by rw [cf_rule_of]; exact rule_of_run rinit_ok winit_ok cinit_ok
theorem stream_ok {n : Nat} : StreamOk (T.pg (n + 1)) := by intro h c m hm; rw [cf_law_stream]; exact stream_run hm
def tops6 : List Int := [3, 255, 4294967295, 65535, 4294967295, 65535]
theorem tops6_ok {i : Nat} {t : Int} (h : tops6[i]? = some t) : 0 ≤ t ∧ t ≤ 4294967295 := by
  have i6 := (List.getElem?_eq_some_iff.mp h).1
  have i6 : i < 6 := i6
  rcases (by omega : i = 0 ∨ i = 1 ∨ i = 2 ∨ i = 3 ∨ i = 4 ∨ i = 5) with z | z | z | z | z | z <;> subst z <;> cases h <;> omega
/-! the name -/
def LowS (s : Str) : Prop := s.length ≤ 12 ∧ ∀ c ∈ s.cps.toList, c < 200
theorem join_low : ∀ ys : List Str, (∀ y ∈ ys, y.length = 1 ∧ ∀ c ∈ y.cps.toList, c < 200) → (Str.join (Str.ofString "") ys).length = ys.length ∧ ∀ c ∈ (Str.join (Str.ofString "") ys).cps.toList, c < 200 := by
  have e0 : (Str.ofString "").cps.toList = [] := by decide +kernel
  intro ys h
  have tj : (Str.join (Str.ofString "") ys).cps.toList = (ys.map fun y => y.cps.toList).flatten := by
    have z := TL.tl_join (Str.ofString "") ys
    have z : (Str.join (Str.ofString "") ys).cps.toList = TL.joinL (Str.ofString "").cps.toList (ys.map fun y => y.cps.toList) := z
    rw [z, e0]
    clear z h
    generalize (ys.map fun y => y.cps.toList) = ls
    induction ls with
    | nil => rfl
    | cons p ls ih =>
      cases ls with
      | nil => simp [TL.joinL]
      | cons q r =>
        show p ++ ([] ++ TL.joinL [] (q :: r)) = _
        rw [ih]; simp
  refine ⟨?_, fun c hc => ?_⟩
  · rw [str_len, tj]
    have : ((ys.map fun y => y.cps.toList).flatten).length = (ys.map fun y => y.cps.toList.length).sum := by
      rw [List.length_flatten, List.map_map]; rfl
    rw [this]
    have e : ∀ l : List Str, (∀ y ∈ l, y.length = 1 ∧ ∀ c ∈ y.cps.toList, c < 200) → (l.map fun y => y.cps.toList.length).sum = l.length := by
      intro l
      induction l with
      | nil => intro _; rfl
      | cons y l ih =>
        intro hl
        have := (hl y (List.mem_cons_self ..)).1
        rw [str_len] at this
        simp only [List.map_cons, List.sum_cons, List.length_cons, ih fun z hz => hl z (List.mem_cons_of_mem _ hz), this]
        omega
    exact e ys h
  · rw [tj] at hc
    obtain ⟨l, hl, hc⟩ := List.mem_flatten.mp hc
    obtain ⟨y, hy, rfl⟩ := List.mem_map.mp hl
    exact (h y hy).2 c hc
theorem letters_l : (Str.ofString "abcdefghijklmnopqrstuvwxyz").cps.toList = (List.range 26).map (97 + ·) := by decide +kernel
def wordsL : List Str := [Str.ofString "pass", Str.ofString "stop", Str.ofString "back", Str.ofString "call", Str.ofString "chain", Str.ofString "default", Str.ofString "turn", Str.ofString "kind", Str.ofString "from", Str.ofString "fromdoor", Str.ofString "to", Str.ofString "todoor"]
theorem words_low : ∀ s ∈ wordsL, LowS s := by unfold LowS; decide +kernel
theorem name_ok {n : Nat} {h : MH} {c : Int} : ((T.pg (n + 2)).cf "_law_name" [.int c] h).wp (fun v h' => (∃ s, v = .str s ∧ LowS s) ∧ Gr h h') NoE := by
  rw [cf_law_name, wp_call]
  unfold d_law_name
  obtain ⟨k, hk, k12⟩ : ∃ k : Nat, c / 5 % 12 = k ∧ k < 12 := ⟨(c / 5 % 12).toNat, by omega, by omega⟩
  obtain ⟨s, hs⟩ : ∃ s, wordsL[k]? = some s := ⟨_, List.getElem?_eq_getElem (by show k < 12; exact k12)⟩
  have ew : ([Val.str (Str.ofString "pass"), .str (Str.ofString "stop"), .str (Str.ofString "back"), .str (Str.ofString "call"), .str (Str.ofString "chain"), .str (Str.ofString "default"), .str (Str.ofString "turn"), .str (Str.ofString "kind"), .str (Str.ofString "from"), .str (Str.ofString "fromdoor"), .str (Str.ofString "to"), .str (Str.ofString "todoor")] : List Val) = wordsL.map .str := rfl
  have k1 : (1 : Int) + k = ((k + 1 : Nat) : Int) := by omega
  exists ew, hk, hs, k1
  refine ⟨fun _ => ?_, fun _ => ?_⟩
  · exact ⟨words_low s (List.mem_of_getElem? hs), Gr.app⟩
  · refine wp_to (stream_ok (n := n) (m := k + 1) (by omega)) ?_
    intro v h1 hh
    obtain ⟨ds, ⟨D, e, hD, _⟩, hl, hd, g⟩ := hh
    subst e
    exists hD
    refine wp_comp (fun i acc h' => (∃ ys : List Str, acc = ys.map .str ∧ ys.length = i ∧ ∀ y ∈ ys, y.length = 1 ∧ ∀ c ∈ y.cps.toList, c < 200) ∧ h' = h1) ⟨⟨[], rfl, rfl, by simp⟩, rfl⟩ ?_ ?_
    · rintro i v acc h' hv ⟨⟨ys, rfl, hy, hq⟩, rfl⟩
      rw [List.getElem?_map] at hv
      obtain ⟨d, hd', rfl⟩ := Option.map_eq_some_iff.mp hv
      have il := (List.getElem?_eq_some_iff.mp hd').1
      obtain ⟨j, hj, j26⟩ : ∃ j : Nat, d % 26 = j ∧ j < 26 := ⟨(d % 26).toNat, by omega, by omega⟩
      have ej : ((List.range 26).map (97 + ·))[j]? = some (97 + j) := by
        rw [List.getElem?_map, List.getElem?_range j26]; rfl
      have ll : (Str.ofString "abcdefghijklmnopqrstuvwxyz").length ≤ 4096 := by decide +kernel
      refine ⟨by rw [stands_one]; exact hD, by simp; omega, ?_⟩
      exists wi_cons, wi_nil, hj, letters_l, ej, ll
      refine ⟨ys ++ [⟨#[97 + j]⟩], by simp, by simp [hy], fun y hy' => ?_⟩
      rcases List.mem_append.mp hy' with z | z
      · exact hq y z
      · rw [List.mem_singleton.mp z]
        exact ⟨rfl, fun c hc => by simp at hc; omega⟩
    rintro acc h' ⟨⟨ys, rfl, hy, hq⟩, rfl⟩
    rw [List.length_map] at hy
    refine ⟨by rw [stands_one]; exact hD, ?_⟩
    have jl := join_low ys hq
    have sm : (ys.map (·.length)).sum + ys.length * (Str.ofString "").length ≤ 16777216 := by
      have e0 : (Str.ofString "").length = 0 := by decide +kernel
      have e : ∀ l : List Str, (∀ y ∈ l, y.length = 1 ∧ ∀ c ∈ y.cps.toList, c < 200) → (l.map (·.length)).sum = l.length := by
        intro l
        induction l with
        | nil => intro _; rfl
        | cons y l ih =>
          intro hl
          simp only [List.map_cons, List.sum_cons, List.length_cons, ih fun z hz => hl z (List.mem_cons_of_mem _ hz), (hl y (List.mem_cons_self ..)).1]
          omega
      rw [e ys hq, e0]; omega
    have q1 : (h' ++ [Ob.lst true (ys.map Val.str)])[h'.length]? = some (Ob.lst true (ys.map Val.str)) := app_last
    exists q1, so_map
    refine ⟨by simpa using sm, ?_, ?_⟩
    · rw [TL.join_eq]
      exact ⟨by rw [jl.1]; omega, jl.2⟩
    · exact (Gr.app.trans g).trans Gr.app
theorem mask_ok (n : Nat) (b : Int) (h : MH) (h0 : 0 ≤ b) (h1 : b ≤ 32) : (T.pg (n + 1)).cf "mask" [.int b] h = .ok (.int (4294967296 - 2 ^ (32 - b).toNat)) h := by
  refine wp_eq ?_
  rw [cf_mask, wp_call]
  unfold d_mask
  subst_eqs
  refine ⟨⟨by omega, by omega, by decide⟩, ?_⟩
  rw [mask_val (by omega)]
theorem beg_ok (n : Nat) (a b : Int) (h : MH) (a0 : 0 ≤ a) (a1 : a < 4294967296) (h0 : 0 ≤ b) (h1 : b ≤ 32) : (T.pg (n + 2)).cf "beginning" [.int a, .int b] h = .ok (.tup [.int (a / 2 ^ (32 - b).toNat * 2 ^ (32 - b).toNat), .int (a / 2 ^ (32 - b).toNat * 2 ^ (32 - b).toNat + 2 ^ (32 - b).toNat - 1)]) h := by
  refine wp_eq ?_
  rw [cf_beginning, wp_call]
  unfold d_beginning
  exists (wp_is (mask_ok n b h h0 h1))
  rw [and_mask (by omega) a0 a1, xor_mask (by omega), or_lowM]
  exact ⟨rfl, rfl⟩
theorem pow32 {b : Int} (h0 : 0 ≤ b) (h1 : b ≤ 32) {i : Nat} (hi : (i : Int) ≤ 32 - b) : (0 : Int) < 2 ^ i ∧ (2 : Int) ^ i ≤ 4294967296 := by
  have hs : i ≤ 32 := by omega
  refine ⟨two_pow_pos i, ?_⟩
  have z : (2 : Int) ^ i ≤ 2 ^ 32 := by
    rw [pow_split hs |> (fun e => (show (2 : Int) ^ 32 = _ from e))]
    have z := Int.mul_le_mul_of_nonneg_left (show (1 : Int) ≤ 2 ^ (32 - i) by have := two_pow_pos (32 - i); omega) (show (0 : Int) ≤ 2 ^ i by have := two_pow_pos i; omega)
    rw [Int.mul_one] at z; exact z
  exact z
theorem xor_halves (x y : Int) : Builtin.bitXor x y = 2 * Builtin.bitXor (x / 2) (y / 2) + (if x % 2 = y % 2 then 0 else 1) := by
  rw [PyProof.Rows.bitXor_and, PyProof.Rows.bitXor_and, PySem.W.kbt_halves x y]
  by_cases a : x % 2 = 1 <;> by_cases b : y % 2 = 1 <;> simp [a, b] <;> omega
theorem div_succ (x : Int) (p : Nat) : x / 2 ^ (p + 1) = x / 2 / 2 ^ p := by
  rw [Int.pow_succ, Int.mul_comm, ← Int.ediv_ediv_of_nonneg (by decide)]
theorem xor_top : ∀ (p : Nat) (x y : Int), x / 2 ^ (p + 1) = y / 2 ^ (p + 1) → x / 2 ^ p ≠ y / 2 ^ p → 2 ^ p ≤ Builtin.bitXor x y ∧ Builtin.bitXor x y < 2 ^ (p + 1)
  | 0, x, y, h1, h2 => by
    simp at h1 h2
    rw [xor_halves, show x / 2 = y / 2 from h1, PyProof.Rows.bitXor_self, if_neg (by omega)]
    decide
  | p + 1, x, y, h1, h2 => by
    rw [div_succ, div_succ y] at h1 h2
    have ih := xor_top p (x / 2) (y / 2) h1 h2
    rw [xor_halves]
    have e1 : (2 : Int) ^ (p + 1 + 1) = 2 * 2 ^ (p + 1) := by rw [Int.pow_succ, Int.mul_comm]
    have e2 : (2 : Int) ^ (p + 1) = 2 * 2 ^ p := by rw [Int.pow_succ, Int.mul_comm]
    rw [e1]
    split <;> omega
theorem bits_top {v : Int} {p : Nat} (h1 : 2 ^ p ≤ v) (h2 : v < 2 ^ (p + 1)) : Builtin.Int.intBits v = p + 1 := by
  have pp := two_pow_pos p
  unfold Builtin.Int.intBits
  have e1 : ((2 ^ p : Nat) : Int) = 2 ^ p := by simp
  have e2 : ((2 ^ (p + 1) : Nat) : Int) = 2 ^ (p + 1) := by simp
  have n0 : v.natAbs ≠ 0 := by omega
  have l1 : v.natAbs.log2 < p + 1 := (Nat.log2_lt n0).mpr (by omega)
  have l2 : p ≤ v.natAbs.log2 := (Nat.le_log2 n0).mpr (by omega)
  have nz : (v == 0) = false := by simp; omega
  rw [nz]
  simp only [Bool.false_eq_true, if_false]
  omega
theorem shared_wp {n : Nat} {x y : Int} {h : MH} {Q : Val → MH → Prop} {Z : XP} : ((T.pg (n + 1)).cf "shared" [.int x, .int y] h).wp Q Z = Q (.int (32 - (Builtin.Int.intBits (Builtin.bitXor x y) : Int))) h := by
  refine wp_is (wp_eq ?_)
  rw [cf_shared, wp_call]
  unfold d_shared
  subst_eqs
theorem xor_comm (x y : Int) : Builtin.bitXor x y = Builtin.bitXor y x := by
  rw [PyProof.Rows.bitXor_and, PyProof.Rows.bitXor_and, PyProof.Rows.bitAnd_comm x y, Int.add_comm]
theorem div_succ' (x : Int) (p : Nat) : x / 2 ^ (p + 1) = x / 2 ^ p / 2 := by
  rw [Int.pow_succ, ← Int.ediv_ediv_of_nonneg (by have := two_pow_pos p; omega)]
theorem bg_wp {n : Nat} {a : Int} {s : Nat} {b : Int} {h : MH} {Q : Val → MH → Prop} {Z : XP} (hs : b = 32 - (s : Int)) (s1 : s ≤ 32) (a0 : 0 ≤ a) (a1 : a < 4294967296) : ((T.pg (n + 2)).cf "beginning" [.int a, .int b] h).wp Q Z = Q (.tup [.int (a / 2 ^ s * 2 ^ s), .int (a / 2 ^ s * 2 ^ s + 2 ^ s - 1)]) h := by
  have q := beg_ok n a b h a0 a1 (by omega) (by omega)
  have e : (32 - b).toNat = s := by omega
  rw [e] at q
  exact wp_is q
theorem xor_lt : ∀ (n : Nat) (x y : Int), 0 ≤ x → x < 2 ^ n → 0 ≤ y → y < 2 ^ n → 0 ≤ Builtin.bitXor x y ∧ Builtin.bitXor x y < 2 ^ n
  | 0, x, y, h1, h2, h3, h4 => by
    have : x = 0 := by simp at h2; omega
    have : y = 0 := by simp at h4; omega
    subst x; subst y
    decide
  | n + 1, x, y, h1, h2, h3, h4 => by
    have e1 : (2 : Int) ^ (n + 1) = 2 * 2 ^ n := by rw [Int.pow_succ, Int.mul_comm]
    rw [e1] at h2 h4 ⊢
    have ih := xor_lt n (x / 2) (y / 2) (by omega) (by omega) (by omega) (by omega)
    rw [xor_halves]
    split <;> omega
theorem bits_le {v : Int} {n : Nat} (h0 : 0 ≤ v) (h : v < 2 ^ n) : Builtin.Int.intBits v ≤ n := by
  by_cases z : v = 0
  · subst z; exact Nat.zero_le _
  · have nz : (v == 0) = false := by simp; omega
    unfold Builtin.Int.intBits
    rw [nz]
    simp only [Bool.false_eq_true, if_false]
    have e1 : ((2 ^ n : Nat) : Int) = 2 ^ n := by simp
    have n0 : v.natAbs ≠ 0 := by omega
    have := (Nat.log2_lt n0).mpr (show v.natAbs < 2 ^ n by omega)
    omega
/-- low .. high is a beginning of 2 ^ s addresses -/
def Bg (low high : Int) (s : Nat) : Prop := high - low + 1 = 2 ^ s ∧ low % 2 ^ s = 0
theorem bg_bits {low high : Int} {s : Nat} (h : Bg low high s) : Builtin.Int.intBits (Builtin.bitXor low high) = s := by
  obtain ⟨h1, h2⟩ := h
  cases s with
  | zero =>
    have : high = low := by simp at h1; omega
    subst this
    rw [PyProof.Rows.bitXor_self]; rfl
  | succ p =>
    have pp := two_pow_pos p
    have e1 : (2 : Int) ^ (p + 1) = 2 * 2 ^ p := by rw [Int.pow_succ, Int.mul_comm]
    obtain ⟨k, hk⟩ := Int.dvd_of_emod_eq_zero h2
    have l1 : low / 2 ^ p = 2 * k := by
      rw [hk, e1, Int.mul_comm 2, Int.mul_assoc, Int.mul_ediv_cancel_left _ (by omega)]
    have hh : high = 2 ^ p * (2 * k + 1) + (2 ^ p - 1) := by
      rw [Int.mul_add, Int.mul_one]
      have : (2 : Int) ^ p * (2 * k) = low := by rw [hk, e1, ← Int.mul_assoc, Int.mul_comm (2 ^ p) 2]
      omega
    have l2 : high / 2 ^ p = 2 * k + 1 := by
      rw [hh, Int.add_comm, Int.add_mul_ediv_left _ _ (by omega), Int.ediv_eq_zero_of_lt (by omega) (by omega), Int.zero_add]
    obtain ⟨t1, t2⟩ := xor_top p low high (by rw [div_succ', div_succ' high, l1, l2]; omega) (by rw [l1, l2]; omega)
    exact bits_top t1 t2
theorem bits_of_ok {n : Nat} {low high : Int} {h : MH} (h0 : 0 ≤ low) (h1 : low ≤ high) (h2 : high < 4294967296) :
    ((T.pg (n + 3)).cf "bits_of" [.int low, .int high] h).wp (fun v h' => h' = h ∧ ((∃ s : Nat, s ≤ 32 ∧ Bg low high s ∧ v = .int (32 - s)) ∨ (v = .non ∧ ∀ s : Nat, ¬ Bg low high s))) NoE := by
  rw [cf_bits_of, wp_call]
  unfold d_bits_of
  obtain ⟨x0, x1⟩ := xor_lt 32 low high h0 (by have : (2 : Int) ^ 32 = 4294967296 := rfl; omega) (by omega) (by have : (2 : Int) ^ 32 = 4294967296 := rfl; omega)
  have bl := bits_le x0 x1
  generalize hb : Builtin.Int.intBits (Builtin.bitXor low high) = b at *
  have q := fun h Q Z => bg_wp (n := n) (a := low) (s := b) (b := 32 - b) (h := h) (Q := Q) (Z := Z) rfl bl h0 (by omega)
  have dm := Int.emod_add_mul_ediv low (2 ^ b)
  rw [Int.mul_comm] at dm
  exists shared_wp, hb, q
  refine ⟨fun c => .inl ⟨b, bl, ⟨by omega, by omega⟩, rfl⟩, fun c => .inr fun s hs => ?_⟩
  have := bg_bits hs
  rw [hb] at this
  subst this
  obtain ⟨s1, s2⟩ := hs
  exact c ⟨by omega, by omega⟩
/-! figures and addresses -/
def Dg (i : Int) : Str := Str.ofString (toString i)
theorem len_app {x y : Str} : (x ++ y).length = x.length + y.length := by
  rw [TL.len_tl, TL.len_tl, TL.len_tl, TL.tl_append, List.length_append]
theorem app_assoc {x y z : Str} : x ++ y ++ z = x ++ (y ++ z) := TL.ext_tl (by simp only [TL.tl_append, List.append_assoc])
theorem emp_app {z : Str} : Str.empty ++ z = z := TL.ext_tl (by rw [TL.tl_append]; rfl)
theorem dg_tl (n : Nat) : TL.tl (Dg n) = (Nat.toDigits 10 n).map Char.toNat := by
  show (Str.ofString (Nat.repr n)).cps.toList = _
  rw [Str.ofString_eq_toList]
  simp [Nat.repr]
theorem dg_len {i : Int} {k : Nat} (hk : 0 < k) (h0 : 0 ≤ i) (h1 : i < 10 ^ k) : (Dg i).length ≤ k := by
  obtain ⟨n, rfl⟩ : ∃ n : Nat, i = n := ⟨i.toNat, by omega⟩
  rw [TL.len_tl, dg_tl, List.length_map]
  exact (Nat.length_toDigits_le_iff (by decide) hk).mpr (by exact_mod_cast h1)
theorem dg3 {i : Int} (h0 : 0 ≤ i) (h1 : i < 256) : (Dg i).length ≤ 3 := dg_len (by decide) h0 (by
  have : (10 : Int) ^ 3 = 1000 := by decide
  omega)
theorem dg10 {i : Int} (h0 : 0 ≤ i) (h1 : i ≤ 4294967295) : (Dg i).length ≤ 10 := dg_len (by decide) h0 (by
  have : (10 : Int) ^ 10 = 10000000000 := by decide
  omega)
theorem log_i {i : Int} (h0 : 0 ≤ i) (h1 : i ≤ 4294967295) : i.natAbs.log2 < 1920 := by
  by_cases z : i.natAbs = 0
  · rw [z]; decide
  · refine (Nat.log2_lt z).mpr ?_
    have : (2 : Nat) ^ 32 ≤ 2 ^ 1920 := Nat.pow_le_pow_right (by decide) (by decide)
    have : (2 : Nat) ^ 32 = 4294967296 := by decide
    omega
def Tx (a b c d : Str) : Str := a ++ Str.ofString "." ++ b ++ Str.ofString "." ++ c ++ Str.ofString "." ++ d
theorem join_tx {a b c d : Str} : Txt.join (Str.ofString ".") [a, b, c, d] = Tx a b c d := by
  rw [TL.join_eq]
  unfold Tx
  simp only [Str.join, app_assoc]
def Ad (x : Int) : Str := Tx (Dg (x / 16777216)) (Dg (x / 65536 % 256)) (Dg (x / 256 % 256)) (Dg (x % 256))
theorem one_len : (Str.ofString ".").length = 1 ∧ (Str.ofString "-").length = 1 ∧ (Str.ofString "/").length = 1 ∧ (Str.ofString " ").length = 1 := by decide +kernel
theorem ad_len {x : Int} (h0 : 0 ≤ x) (h1 : x < 4294967296) : (Ad x).length ≤ 15 := by
  have a := dg3 (i := x / 16777216) (by omega) (by omega)
  have b := dg3 (i := x / 65536 % 256) (by omega) (by omega)
  have c := dg3 (i := x / 256 % 256) (by omega) (by omega)
  have d := dg3 (i := x % 256) (by omega) (by omega)
  unfold Ad Tx
  simp only [len_app, one_len.1]
  omega
theorem mask8 {x : Int} (hx : 0 ≤ x) : Builtin.bitAnd x 255 = x % 256 := by
  have e : (2 : Int) ^ 8 = 256 := by decide +kernel
  have := Bits.bitAnd_mask 8 hx
  rw [e] at this
  exact this
theorem small {k : Nat} (hk : k ≤ 4000) : k ≤ sizeLine := by
  have : (4096 : Nat) < sizeLine := by decide
  omega
/-- the four parts put into a list, one for each item walked -/
theorem parts_run {P : Pg} {A : Int} {h : MH} {N M : Nat} {b0 b1 b2 b3 : Int} {ss : List Val} {body : List Mn.S} {x : Option Val} (l4 : ss.length = 4) (hM : h[M]? = some (.lst true ss)) (hN : h[N]? = some (.lst true [])) (ne : N ≠ M) {K : Ks}
    (a0 : 0 ≤ b0 ∧ b0 < 256) (a1 : 0 ≤ b1 ∧ b1 < 256) (a2 : 0 ≤ b2 ∧ b2 < 256) (a3 : 0 ≤ b3 ∧ b3 < 256)
    (step : ∀ (i : Nat) v b (h' : MH) l (K : Ks), ss[i]? = some v → ([b0, b1, b2, b3] : List Int)[i]? = some b → h'[N]? = some (.lst true l) → l.length < sizeLine → b.natAbs.log2 < 1920 → (∀ x, K.nx [some (.int A), some (.ref N), x] (h'.set N (.lst true (l ++ [.str (Dg b)])))) → (evB P body [some (.int A), some (.ref N), some v] h').wp K)
    (fin : ∀ x h', h'[N]? = some (.lst true ([Dg b0, Dg b1, Dg b2, Dg b3].map .str)) → Up N h h' → K.nx [some (.int A), some (.ref N), x] h') :
    (forL (.nm 2) [(M, .lst true ss)] (evB P body) ss [some (.int A), some (.ref N), x] h).wp K := by
  have lb : ∀ {i : Nat} {b : Int}, ([b0, b1, b2, b3] : List Int)[i]? = some b → 0 ≤ b ∧ b < 256 := fun {i b} e => by
    rcases i with _ | _ | _ | _ | i <;> simp at e <;> subst e <;> assumption
  refine wp_for (fun i ρ h' => (∃ x, ρ = [some (.int A), some (.ref N), x]) ∧ h'[M]? = some (.lst true ss) ∧ h'[N]? = some (.lst true ((([b0, b1, b2, b3] : List Int).take i).map fun b => .str (Dg b))) ∧ Up N h h') ⟨⟨_, rfl⟩, hM, hN, Nat.le_of_lt (lt_of hN), fun _ _ => rfl⟩ ?_ ?_ ?_
  · rintro i ρ h' ⟨_, q, _⟩ _
    rw [stands_one]; exact q
  · rintro i v ρ h' hv ⟨⟨x, rfl⟩, hM', hN', u⟩
    have il := (List.getElem?_eq_some_iff.mp hv).1
    obtain ⟨b, hb⟩ : ∃ b, ([b0, b1, b2, b3] : List Int)[i]? = some b := ⟨_, List.getElem?_eq_getElem (by show i < 4; omega)⟩
    have bb := lb hb
    subst_eqs
    refine step i v b h' _ _ hv hb hN' ?_ (log_i bb.1 (by omega)) fun x => ?_
    · rw [List.length_map, List.length_take]
      have := small (k := 4) (by omega)
      simp only [List.length_cons, List.length_nil]
      have : (4096 : Nat) < sizeLine := by decide
      omega
    · refine ⟨⟨_, rfl⟩, (List.getElem?_set_ne ne).trans hM', ?_, u.set (Nat.le_refl _)⟩
      rw [set_get hN', List.take_add_one, hb]
      simp
  · rintro ρ h' ⟨⟨x, rfl⟩, hM', hN', u⟩
    rw [l4] at hN'
    exact fin x h' hN' u
theorem join4 {P : Pg} {A : Int} {x : Option Val} {N : Nat} {h : MH} {b0 b1 b2 b3 : Int} (hN : h[N]? = some (.lst true ([Dg b0, Dg b1, Dg b2, Dg b3].map .str))) (a0 : 0 ≤ b0 ∧ b0 < 256) (a1 : 0 ≤ b1 ∧ b1 < 256) (a2 : 0 ≤ b2 ∧ b2 < 256) (a3 : 0 ≤ b3 ∧ b3 < 256) {K : Ks}
    (fin : K.rt (.str (Tx (Dg b0) (Dg b1) (Dg b2) (Dg b3))) h) : (evB P [Mn.S.ret (.mth .join (.con (.str (Str.ofString "."))) [.var 1])] [some (.int A), some (.ref N), x] h).wp K := by
  have l0 := dg3 a0.1 a0.2
  have l1 := dg3 a1.1 a1.2
  have l2 := dg3 a2.1 a2.2
  have l3 := dg3 a3.1 a3.2
  have ld := one_len.1
  exists hN, so_map, join_tx
  refine ⟨?_, fin⟩
  simp only [List.map_cons, List.map_nil, List.sum_cons, List.sum_nil, List.length_cons, List.length_nil, ld]
  omega
theorem show_ok {n : Nat} {x : Int} {h : MH} (h0 : 0 ≤ x) (h1 : x < 4294967296) :
    ((T.pg (n + 1)).cf "show_address" [.int x] h).wp (fun v h' => v = .str (Ad x) ∧ Up h.length h h') NoE := by
  rw [cf_show_address, wp_call]
  unfold d_show_address
  have k0 : (2 : Int) ^ (24 : Int).toNat = 16777216 := by decide +kernel
  have k1 : (2 : Int) ^ (16 : Int).toNat = 65536 := by decide +kernel
  have k2 : (2 : Int) ^ (8 : Int).toNat = 256 := by decide +kernel
  have k3 : (2 : Int) ^ (0 : Int).toNat = 1 := by decide +kernel
  have s0 : Builtin.bitAnd (x / 16777216) 255 = x / 16777216 := by rw [mask8 (by omega)]; omega
  have s1 : Builtin.bitAnd (x / 65536) 255 = x / 65536 % 256 := mask8 (by omega)
  have s2 : Builtin.bitAnd (x / 256) 255 = x / 256 % 256 := mask8 (by omega)
  have s3 : Builtin.bitAnd x 255 = x % 256 := mask8 h0
  subst_eqs
  refine parts_run (b0 := x / 16777216) (b1 := x / 65536 % 256) (b2 := x / 256 % 256) (b3 := x % 256) rfl app_last (Gr.app.get app_last) (by simp) (by omega) (by omega) (by omega) (by omega) ?_ ?_
  · intro i v b h' l K hv hb hN ll lg go
    rcases i with _ | _ | _ | _ | i
    · cases hv; cases hb
      exists k0, s0, hN, lg, ll
      exact go _
    · cases hv; cases hb
      exists k1, s1, hN, lg, ll
      exact go _
    · cases hv; cases hb
      exists k2, s2, hN, lg, ll
      exact go _
    · cases hv; cases hb
      exists k3, s3, hN, lg, ll, Int.ediv_one
      exact go _
    · cases hv
  · intro x' h' hN u
    exact join4 hN (by omega) (by omega) (by omega) (by omega) ⟨rfl, ((Up.refl.app).app).trans u (by simp)⟩
theorem laddr_ok {n : Nat} {x : Int} {h : MH} (h0 : 0 ≤ x) (h1 : x < 4294967296) :
    ((T.pg (n + 1)).cf "_law_address" [.int x] h).wp (fun v h' => v = .str (Ad x) ∧ Up h.length h h') NoE := by
  rw [cf_law_address, wp_call]
  unfold d_law_address
  have s0 : x / 16777216 % 256 = x / 16777216 := by omega
  subst_eqs
  refine parts_run (b0 := x / 16777216) (b1 := x / 65536 % 256) (b2 := x / 256 % 256) (b3 := x % 256) rfl app_last (Gr.app.get app_last) (by simp) (by omega) (by omega) (by omega) (by omega) ?_ ?_
  · intro i v b h' l K hv hb hN ll lg go
    rcases i with _ | _ | _ | _ | i
    · cases hv; cases hb
      exists s0, hN, lg, ll
      exact go _
    · cases hv; cases hb
      exists hN, lg, ll
      exact go _
    · cases hv; cases hb
      exists hN, lg, ll
      exact go _
    · cases hv; cases hb
      exists hN, lg, ll, Int.ediv_one
      exact go _
    · cases hv
  · intro x' h' hN u
    exact join4 hN (by omega) (by omega) (by omega) (by omega) ⟨rfl, ((Up.refl.app).app).trans u (by simp)⟩
/-! stretches as words -/
def nT (lo hi : Int) : Str := if lo = hi then Dg lo else Dg lo ++ Str.ofString "-" ++ Dg hi
def bT (lo hi : Int) : Nat := Builtin.Int.intBits (Builtin.bitXor lo hi)
open Classical in
noncomputable def aT (lo hi : Int) : Str := if lo = hi then Ad lo else if Bg lo hi (bT lo hi) then Ad lo ++ Str.ofString "/" ++ Dg (32 - (bT lo hi : Int)) else Ad lo ++ Str.ofString "-" ++ Ad hi
theorem aT_s {lo hi : Int} {s : Nat} (ne : lo ≠ hi) (h : Bg lo hi s) : aT lo hi = Ad lo ++ Str.ofString "/" ++ Dg (32 - (s : Int)) := by
  have e : bT lo hi = s := bg_bits h
  unfold aT
  rw [e, if_neg ne, if_pos h]
theorem aT_n {lo hi : Int} (ne : lo ≠ hi) (h : ¬ Bg lo hi (bT lo hi)) : aT lo hi = Ad lo ++ Str.ofString "-" ++ Ad hi := by
  unfold aT
  rw [if_neg ne, if_neg h]
theorem bT_le {lo hi : Int} (h0 : 0 ≤ lo) (h1 : lo ≤ hi) (h2 : hi < 4294967296) : bT lo hi ≤ 32 := by
  obtain ⟨x0, x1⟩ := xor_lt 32 lo hi h0 (by have : (2 : Int) ^ 32 = 4294967296 := rfl; omega) (by omega) (by have : (2 : Int) ^ 32 = 4294967296 := rfl; omega)
  exact bits_le x0 x1
theorem nT_len {lo hi : Int} (h0 : 0 ≤ lo) (h1 : lo ≤ hi) (h2 : hi ≤ 4294967295) : (nT lo hi).length ≤ 40 := by
  have a := dg10 h0 (by omega)
  have b := dg10 (i := hi) (by omega) h2
  have d := one_len.2.1
  unfold nT
  split
  · omega
  · simp only [len_app]; omega
theorem aT_len {lo hi : Int} (h0 : 0 ≤ lo) (h1 : lo ≤ hi) (h2 : hi < 4294967296) : (aT lo hi).length ≤ 40 := by
  have a := ad_len h0 (by omega)
  have b := ad_len (x := hi) (by omega) h2
  have c := bT_le h0 h1 h2
  have e := dg10 (i := 32 - (bT lo hi : Int)) (by omega) (by omega)
  have d := one_len
  unfold aT
  split
  · omega
  · split <;> simp only [len_app] <;> omega
theorem shnum_wp {n : Nat} {lo hi : Int} {h : MH} {Q : Val → MH → Prop} {Z : XP} (h0 : 0 ≤ lo) (h1 : lo ≤ hi) (h2 : hi ≤ 4294967295) : ((T.pg (n + 1)).cf "show_numbers" [.int lo, .int hi] h).wp Q Z = Q (.str (nT lo hi)) h := by
  refine wp_is (wp_eq ?_)
  rw [cf_show_numbers, wp_call]
  unfold d_show_numbers
  have g0 := log_i h0 (by omega)
  have g1 := log_i (i := hi) (by omega) h2
  have l0 := dg10 h0 (by omega)
  have l1 := dg10 (i := hi) (by omega) h2
  have ld := one_len.2.1
  have d0 : ∀ i : Int, Str.ofString (toString i) = Dg i := fun _ => rfl
  have z0 : (Dg lo).length ≤ sizeLine := small (by omega)
  have z1 : (Str.ofString "-").length ≤ sizeLine := small (by omega)
  have z2 : (Dg lo ++ Str.ofString "-").length ≤ sizeLine := small (by rw [len_app]; omega)
  have z3 : (Dg lo ++ Str.ofString "-" ++ Dg hi).length ≤ sizeLine := small (by simp only [len_app]; omega)
  by_cases e : lo = hi
  · subst e
    have q : nT lo lo = Dg lo := if_pos rfl
    exists g0, d0, q
  · have q : nT lo hi = Dg lo ++ Str.ofString "-" ++ Dg hi := if_neg e
    have e' := eq_false e
    exists e', g0, g1, d0, emp_app, z0, z1, z2, z3, q
theorem shadr_ok {n : Nat} {lo hi : Int} {h : MH} (h0 : 0 ≤ lo) (h1 : lo ≤ hi) (h2 : hi < 4294967296) :
    ((T.pg (n + 4)).cf "show_addresses" [.int lo, .int hi] h).wp (fun v h' => v = .str (aT lo hi) ∧ Up h.length h h') NoE := by
  rw [cf_show_addresses, wp_call]
  unfold d_show_addresses
  have l0 := ad_len h0 (by omega)
  have l1 := ad_len (x := hi) (by omega) h2
  have ld := one_len
  have d0 : ∀ i : Int, Str.ofString (toString i) = Dg i := fun _ => rfl
  have z0 : (Ad lo).length ≤ sizeLine := small (by omega)
  have z1 : (Str.ofString "-").length ≤ sizeLine := small (by omega)
  have z2 : (Ad lo ++ Str.ofString "-").length ≤ sizeLine := small (by rw [len_app]; omega)
  have z3 : (Ad lo ++ Str.ofString "-" ++ Ad hi).length ≤ sizeLine := small (by simp only [len_app]; omega)
  have z4 : (Str.ofString "/").length ≤ sizeLine := small (by omega)
  have z5 : (Ad lo ++ Str.ofString "/").length ≤ sizeLine := small (by rw [len_app]; omega)
  have z6 : (Ad hi).length ≤ sizeLine := small (by omega)
  subst_eqs
  refine wp_to (show_ok (n := n + 2) h0 (by omega)) ?_
  rintro v g1 ⟨rfl, u1⟩
  by_cases e : lo = hi
  · have e' := eq_true e
    have q : aT lo hi = Ad lo := if_pos e
    exists e', q
    exact u1
  have e' := eq_false e
  exists e'
  refine wp_to (bits_of_ok (n := n) h0 h1 h2) ?_
  rintro v g2 ⟨rfl, hv⟩
  rcases hv with ⟨s, s1, hB, rfl⟩ | ⟨rfl, hN⟩
  · have q := aT_s e hB
    have g0 := log_i (i := 32 - (s : Int)) (by omega) (by omega)
    have l3 := dg10 (i := 32 - (s : Int)) (by omega) (by omega)
    have z7 : (Ad lo ++ Str.ofString "/" ++ Dg (32 - (s : Int))).length ≤ sizeLine := small (by simp only [len_app]; omega)
    exists g0, d0, emp_app, z0, z4, z5, z7, q
    exact u1
  · have q := aT_n e (hN _)
    subst_eqs
    refine wp_to (show_ok (n := n + 2) (by omega) h2) ?_
    rintro v g3 ⟨rfl, u3⟩
    exists emp_app, z0, z1, z2, z3, z6, q
    exact u1.trans u3 u1.1
/-- the law's word of a stretch of numbers -/
theorem lnum_wp {n : Nat} {k : Str} {lo hi : Int} {h : MH} {Q : Val → MH → Prop} {Z : XP} (k1 : k ≠ Str.ofString "from") (k2 : k ≠ Str.ofString "to") (h0 : 0 ≤ lo) (h1 : lo ≤ hi) (h2 : hi ≤ 4294967295) :
    ((T.pg (n + 1)).cf "_law_word" [.str k, .int lo, .int hi] h).wp Q Z = Q (.str (nT lo hi)) h := by
  refine wp_is (wp_eq ?_)
  rw [cf_law_word, wp_call]
  unfold d_law_word
  have k1 := eq_false k1
  have k2 := eq_false k2
  have g0 := log_i h0 (by omega)
  have g1 := log_i (i := hi) (by omega) h2
  have l0 := dg10 h0 (by omega)
  have l1 := dg10 (i := hi) (by omega) h2
  have ld := one_len.2.1
  have d0 : ∀ i : Int, Str.ofString (toString i) = Dg i := fun _ => rfl
  have z2 : (Dg lo).length + (Str.ofString "-").length ≤ sizeLine := small (by omega)
  have z3 : (Dg lo ++ Str.ofString "-").length + (Dg hi).length ≤ sizeLine := small (by simp only [len_app]; omega)
  by_cases e : lo = hi
  · subst e
    have q : nT lo lo = Dg lo := if_pos rfl
    exists k1, k2, g0, d0, q
  · have q : nT lo hi = Dg lo ++ Str.ofString "-" ++ Dg hi := if_neg e
    have e' := eq_false e
    exists k1, k2, e', g0, g1, d0, z2, z3, q
theorem ladr_ok {n : Nat} {k : Str} {lo hi : Int} {h : MH} (hk : k = Str.ofString "from" ∨ k = Str.ofString "to") (h0 : 0 ≤ lo) (h1 : lo ≤ hi) (h2 : hi < 4294967296) :
    ((T.pg (n + 2)).cf "_law_word" [.str k, .int lo, .int hi] h).wp (fun v h' => v = .str (aT lo hi) ∧ Up h.length h h') NoE := by
  rw [cf_law_word, wp_call]
  unfold d_law_word
  have l0 := ad_len h0 (by omega)
  have l1 := ad_len (x := hi) (by omega) h2
  have ld := one_len
  have d0 : ∀ i : Int, Str.ofString (toString i) = Dg i := fun _ => rfl
  have z2 : (Ad lo).length + (Str.ofString "-").length ≤ sizeLine := small (by omega)
  have z3 : (Ad lo ++ Str.ofString "-").length + (Ad hi).length ≤ sizeLine := small (by simp only [len_app]; omega)
  have z4 : (Ad lo).length + (Str.ofString "/").length ≤ sizeLine := small (by omega)
  have n1 : (Str.ofString "to" = Str.ofString "from") = False := eq_false (by decide +kernel)
  have kk : ∀ (K : Ks) (a b : Prop) (hb : b → (ifK (.bl (!decide (k = Str.ofString "from"))) (ifK (.bl (!decide (k = Str.ofString "to"))) a b) b)), True := fun _ _ _ _ => trivial
  by_cases e : lo = hi
  · have e' := eq_true e
    have q : aT lo hi = Ad lo := if_pos e
    rcases hk with rfl | rfl
    all_goals
      exists e', n1
      refine wp_to (laddr_ok (n := n) h0 (by omega)) ?_
      rintro v g1 ⟨rfl, u1⟩
      exact ⟨by rw [q], u1⟩
  have e' := eq_false e
  rcases hk with rfl | rfl
  all_goals
    exists e', n1
    refine wp_rng (fun i ρ h' => h' = h ∧ i ≤ 32 ∧ (∀ j : Nat, j < i → ¬ Bg lo hi (32 - j)) ∧ ∃ w x y, ρ = [some (.str w), some (.int lo), some (.int hi), x, y]) ⟨rfl, by omega, (fun j z => by omega), _, _, _, rfl⟩ ?_ ?_
    · rintro i ρ h' hi' ⟨rfl, i1, hA, w, x, y, rfl⟩
      rw [cnt_1] at hi'
      obtain ⟨s, hs, s32⟩ : ∃ s : Nat, 32 - (i : Int) = s ∧ s ≤ 32 := ⟨32 - i, by omega, by omega⟩
      have is : 32 - i = s := by omega
      have pw : powOk 1 s := ⟨by omega, by omega, by decide⟩
      have pp := two_pow_pos s
      have g0 := log_i (i := (i : Int)) (by omega) (by omega)
      have l3 := dg10 (i := (i : Int)) (by omega) (by omega)
      have z5 : (Ad lo ++ Str.ofString "/").length + (Dg (i : Int)).length ≤ sizeLine := small (by simp only [len_app]; omega)
      exists hs, pw, Int.toNat_natCast, Int.one_mul, pp
      refine ⟨fun c => ⟨fun c2 => ?_, fun c2 => ⟨by omega, fun j hj => ?_⟩⟩, fun c => ⟨by omega, fun j hj => ?_⟩⟩
      · have hB : Bg lo hi s := ⟨by omega, c⟩
        have q := aT_s e hB
        have q2 : 32 - (s : Int) = i := by omega
        rw [q2] at q
        refine wp_to (laddr_ok (n := n) h0 (by omega)) ?_
        rintro v g1 ⟨rfl, u1⟩
        exists z4, g0, d0, z5, q
        exact u1
      · by_cases ej : j = i
        · subst ej; exact fun z => c2 (by have := z.1; rw [is] at this; omega)
        · exact hA j (by omega)
      · by_cases ej : j = i
        · subst ej; exact fun z => c (by have := z.2; rw [is] at this; exact this)
        · exact hA j (by omega)
    · rintro ρ h' ⟨rfl, i1, hA, w, x, y, rfl⟩
      have no : ¬ Bg lo hi (bT lo hi) := fun z => by
        have hb := bT_le h0 h1 h2
        by_cases b0 : bT lo hi = 0
        · have := z.1
          rw [b0] at this
          simp at this
          omega
        · have := hA (32 - bT lo hi) (by rw [cnt_1]; omega)
          rw [show 32 - (32 - bT lo hi) = bT lo hi by omega] at this
          exact this z
      have q := aT_n e no
      subst_eqs
      refine wp_to (laddr_ok (n := n) h0 (by omega)) ?_
      rintro v g1 ⟨rfl, u1⟩
      exists z2
      refine wp_to (laddr_ok (n := n) (by omega) h2) ?_
      rintro v g2 ⟨rfl, u2⟩
      exists z3, q
      exact u1.trans u2 u1.1
/-! boxes -/
def StOk (t : Int) (p : Sg) : Prop := 0 ≤ p.1 ∧ p.1 ≤ p.2 ∧ p.2 ≤ t
def BxOk (b : List Sg) : Prop := b.length = 6 ∧ ∀ (i : Nat) p t, b[i]? = some p → tops6[i]? = some t → StOk t p
theorem top_part {x : Int} {e : Nat} (x1 : x < 4294967296) (he : e ≤ 32) : x / 2 ^ e * 2 ^ e + 2 ^ e ≤ 4294967296 := by
  have s := pow_split he
  have p := two_pow_pos e
  have h1 : x / 2 ^ e < 2 ^ (32 - e) := Int.ediv_lt_of_lt_mul p (by rw [Int.mul_comm, ← s]; exact x1)
  have h2 := Int.mul_le_mul_of_nonneg_right (show x / 2 ^ e + 1 ≤ 2 ^ (32 - e) by omega) (show (0 : Int) ≤ 2 ^ e by omega)
  rw [Int.add_mul, Int.one_mul, Int.mul_comm (2 ^ (32 - e)), ← s] at h2
  exact h2
theorem stretch_ok {n : Nat} {h : MH} {t w a b : Int} (ht : 0 ≤ t) (ht2 : t ≤ 4294967295) : ((T.pg (n + 1)).cf "_law_stretch" [.int t, .int w, .int a, .int b] h).wp (fun v h' => (∃ p, v = stV p ∧ StOk t p) ∧ h' = h) NoE := by
  rw [cf_law_stretch, wp_call]
  unfold d_law_stretch
  have t1 : (0 : Int) < t + 1 := by omega
  have b0 := Int.emod_nonneg b (show (33 : Int) ≠ 0 by omega)
  have b1 := Int.emod_lt_of_pos b (show (0 : Int) < 33 by omega)
  have b2 : b % 33 ≤ 1000000 := by omega
  obtain ⟨e, he, e33⟩ : ∃ e : Nat, (b % 33).toNat = e ∧ e < 33 := ⟨_, rfl, by omega⟩
  have x0 := Int.emod_nonneg a (show t + 1 ≠ 0 by omega)
  have x1 := Int.emod_lt_of_pos a t1
  have y0 := Int.emod_nonneg b (show t + 1 ≠ 0 by omega)
  have y1 := Int.emod_lt_of_pos b t1
  have c0 := Int.emod_nonneg b (show (3 : Int) ≠ 0 by omega)
  have tp := top_part (x := a % (t + 1)) (e := e) (by omega) (by omega)
  have p0 := two_pow_pos e
  have dn : 0 ≤ a % (t + 1) / 2 ^ e * 2 ^ e := Int.mul_nonneg (Int.ediv_nonneg x0 (by omega)) (by omega)
  have dv : divOk (2 ^ e) := divOk_of p0 (by
    have : (2 : Int) ^ 32 < 2 ^ 1000 := by decide
    omega)
  have ml : ∀ x, mulOk x (2 ^ e) := fun x => .inr (.inl ⟨by omega, by
    have : (2 : Int) ^ 32 < 2 ^ 64 := by decide
    omega⟩)
  have ly : ∀ x y : Int, 0 ≤ x → x ≤ y → y ≤ t → (∃ p : Sg, Val.tup [.int x, .int y] = stV p ∧ StOk t p) := fun x y a b c => ⟨(x, y), rfl, a, b, c⟩
  exists t1, b0, b2, he, dv, ml, Int.one_mul
  refine ⟨fun _ => ly _ _ (by omega) (by omega) (by omega), fun _ => ⟨fun _ => ?_, fun _ => ⟨fun _ => ly _ _ (by omega) (by omega) (by omega), fun _ => ⟨fun _ => ly _ _ (by omega) (by omega) (by omega), fun _ => ⟨fun _ => ?_, fun _ => ?_⟩⟩⟩⟩⟩
  · exact ly _ _ (by omega) (by omega) (by omega)
  · exact ly _ _ (by omega) (by omega) (by omega)
  · exact ⟨fun _ => ⟨fun q => ly _ _ dn (by omega) (by omega), fun _ => ly _ _ (by omega) (by omega) (by omega)⟩, fun _ => ly _ _ (by omega) (by omega) (by omega)⟩
def IBx (h : MH) (c m : Int) (D N B : Nat) (i : Nat) (ρ : Env') (h' : MH) : Prop := ∃ (l : List Sg) (x4 : Option Val), ρ = [some (.int c), some (.int m), some (.ref D), some (.ref N), some (.ref B), x4] ∧ h'[B]? = some (.lst true (l.map stV)) ∧ l.length = i ∧ (∀ (j : Nat) p t, l[j]? = some p → tops6[j]? = some t → StOk t p) ∧ Up B h h'
theorem lbox_ok {n : Nat} {h : MH} {c m : Int} : ((T.pg (n + 2)).cf "_law_box" [.int c, .int m] h).wp (fun v h' => (∃ b, v = bxV b ∧ BxOk b) ∧ Up h.length h h') NoE := by
  rw [cf_law_box, wp_call]
  unfold d_law_box
  subst_eqs
  refine wp_to (stream_ok (n := n) (m := 18) (by omega)) ?_
  intro v h1 hh
  obtain ⟨ds, ⟨D, e, hD, _⟩, hl, hd, g⟩ := hh
  subst e
  have D1 := lt_of hD
  have e1 : ([Val.int 3, .int 255, .int 4294967295, .int 65535, .int 4294967295, .int 65535] : List Val) = tops6.map .int := rfl
  exists e1
  have hT : (h1 ++ [Ob.lst true (tops6.map .int)] ++ [Ob.lst true []])[h1.length]? = some (Ob.lst true (tops6.map .int)) := Gr.app.get app_last
  have hB : (h1 ++ [Ob.lst true (tops6.map .int)] ++ [Ob.lst true []])[(h1 ++ [Ob.lst true (tops6.map .int)]).length]? = some (Ob.lst true []) := app_last
  have hD2 : (h1 ++ [Ob.lst true (tops6.map .int)] ++ [Ob.lst true []])[D]? = some (Ob.lst true (ds.map .int)) := (Gr.app.trans Gr.app).get hD
  have u1 : Up h.length h (h1 ++ [Ob.lst true (tops6.map .int)] ++ [Ob.lst true []]) := (g.up.app).app
  have TB : h1.length < (h1 ++ [Ob.lst true (tops6.map .int)]).length := by simp
  have hB0 : h.length ≤ h1.length := g.len
  generalize h1 ++ [Ob.lst true (tops6.map .int)] ++ [Ob.lst true []] = h2 at *
  generalize (h1 ++ [Ob.lst true (tops6.map .int)]).length = B at *
  refine wp_rng (IBx h2 c m D h1.length B) ⟨[], _, rfl, hB, rfl, (fun j p t z => by simp at z), by have := lt_of hB; exact ⟨by omega, fun _ _ => rfl⟩⟩ ?_ ?_
  · rintro i ρ h' hi ⟨l, x4, rfl, q1, q2, q0, q3⟩
    have i6 : i < 6 := hi
    have hD3 := q3.get (by omega) hD2
    have hT3 := q3.get TB hT
    obtain ⟨t, ht⟩ : ∃ x, tops6[i]? = some x := ⟨_, List.getElem?_eq_getElem (by show i < 6; omega)⟩
    obtain ⟨d0, e0⟩ : ∃ d, ds[3 * i]? = some d := ⟨_, List.getElem?_eq_getElem (by omega)⟩
    obtain ⟨d1, e1⟩ : ∃ d, ds[3 * i + 1]? = some d := ⟨_, List.getElem?_eq_getElem (by omega)⟩
    obtain ⟨d2, e2⟩ : ∃ d, ds[3 * i + 2]? = some d := ⟨_, List.getElem?_eq_getElem (by omega)⟩
    have a0 : L2.atI (ds.map Val.int) (3 * (i : Int)) = some (.int d0) := by
      rw [show (3 * (i : Int)) = ((3 * i : Nat) : Int) by omega, Mn.atI_nat, List.getElem?_map, e0]; rfl
    have a1 : L2.atI (ds.map Val.int) (3 * (i : Int) + 1) = some (.int d1) := by
      rw [show (3 * (i : Int) + 1) = ((3 * i + 1 : Nat) : Int) by omega, Mn.atI_nat, List.getElem?_map, e1]; rfl
    have a2 : L2.atI (ds.map Val.int) (3 * (i : Int) + 2) = some (.int d2) := by
      rw [show (3 * (i : Int) + 2) = ((3 * i + 2 : Nat) : Int) by omega, Mn.atI_nat, List.getElem?_map, e2]; rfl
    have m3 : mulOk 3 i := .inl ⟨by omega, by omega⟩
    exists q1, hT3, ht, hD3, m3, a0, a1, a2
    refine wp_to (stretch_ok (n := n) (tops6_ok ht).1 (tops6_ok ht).2) ?_
    intro v h3 hh
    obtain ⟨p, e, pk⟩ := hh.1
    have e3 := hh.2
    subst e e3
    have l4 : l.length ≤ 4096 := by omega
    exists q1, l4
    refine ⟨l ++ [p], _, rfl, by rw [set_get q1]; simp, by simp [q2], fun j p' t' z z' => ?_, q3.set (Nat.le_refl _)⟩
    by_cases ej : j < l.length
    · rw [List.getElem?_append_left ej] at z
      exact q0 j p' t' z z'
    · have jl := (List.getElem?_eq_some_iff.mp z).1
      have : j = i := by simp at jl; omega
      subst this
      rw [List.getElem?_append_right (by omega)] at z
      rw [ht] at z'
      cases z'
      rw [show j - l.length = 0 by omega] at z
      cases z
      exact pk
  · rintro ρ h' ⟨l, x4, rfl, q1, q2, q0, q3⟩
    have l6 : l.length = 6 := q2
    obtain ⟨p2, e2⟩ : ∃ p, l[2]? = some p := ⟨_, List.getElem?_eq_getElem (by omega)⟩
    have fin : Up h.length h h' := ⟨by have := q3.1; have := u1.1; omega, fun j hj => by rw [q3.2 j (by omega), u1.2 j hj]⟩
    have k4 : ixN l.length 4 = some 4 := by rw [l6]; rfl
    have at2 : L2.atI (l.map stV) 2 = some (stV p2) := by
      have := Mn.atI_nat (xs := l.map stV) (k := 2)
      exact this.trans (by rw [List.getElem?_map, e2]; rfl)
    have ls : (l.map stV).set 4 (stV p2) = (l.set 4 p2).map stV := by rw [List.map_set]
    have q4 := set_get (o := Ob.lst true ((l.set 4 p2).map stV)) q1
    exists q1, k4, at2, ls, q4
    refine ⟨fun _ => ⟨⟨_, rfl, by rw [List.length_set]; exact l6, fun j p t z z' => ?_⟩, ?_⟩, fun _ => ⟨⟨l, rfl, l6, q0⟩, fin⟩⟩
    · by_cases ej : j = 4
      · subst ej
        rw [List.getElem?_set_self (by omega)] at z
        cases z
        cases z'
        exact q0 2 _ _ e2 rfl
      · rw [List.getElem?_set_ne (by omega)] at z
        exact q0 j p t z z'
    · exact ⟨by rw [List.length_set]; exact fin.1, fun j hj => by rw [List.getElem?_set_ne (by omega)]; exact fin.2 j hj⟩
/-! the words of a rule -/
def K6 : List Str := [Str.ofString "turn", Str.ofString "kind", Str.ofString "from", Str.ofString "fromdoor", Str.ofString "to", Str.ofString "todoor"]
noncomputable def wT (i : Nat) (p : Sg) : Str := if i = 2 ∨ i = 4 then aT p.1 p.2 else nT p.1 p.2
noncomputable def one (i : Nat) (p : Sg) (t : Int) (k : Str) : List Str := if p.1 = 0 ∧ p.2 = t then [] else [k, wT i p]
noncomputable def pw (b : List Sg) : Nat → List Str
  | 0 => []
  | i + 1 => pw b i ++ match b[i]?, tops6[i]?, K6[i]? with
    | some p, some t, some k => one i p t k
    | _, _, _ => []
theorem pw_s {b : List Sg} {i : Nat} {p : Sg} {t : Int} {k : Str} (h1 : b[i]? = some p) (h2 : tops6[i]? = some t) (h3 : K6[i]? = some k) : pw b (i + 1) = pw b i ++ one i p t k := by
  simp only [pw, h1, h2, h3]
theorem k6_len : ∀ k ∈ K6, k.length ≤ 40 := by unfold K6; decide +kernel
theorem wT_len {i : Nat} {p : Sg} {t : Int} (h : StOk t p) (ht : t ≤ 4294967295) : (wT i p).length ≤ 40 := by
  obtain ⟨a, b, c⟩ := h
  unfold wT
  split
  · exact aT_len a b (by omega)
  · exact nT_len a b (by omega)
theorem pw_len {b : List Sg} (hb : BxOk b) : ∀ i, i ≤ 6 → (pw b i).length ≤ 2 * i ∧ ∀ w ∈ pw b i, w.length ≤ 40
  | 0, _ => ⟨Nat.le_refl _, fun w hw => by simp [pw] at hw⟩
  | i + 1, hi => by
    obtain ⟨q1, q2⟩ := pw_len hb i (by omega)
    obtain ⟨p, hp⟩ : ∃ p, b[i]? = some p := ⟨_, List.getElem?_eq_getElem (by have := hb.1; omega)⟩
    obtain ⟨t, ht⟩ : ∃ t, tops6[i]? = some t := ⟨_, List.getElem?_eq_getElem (by show i < 6; omega)⟩
    obtain ⟨k, hk⟩ : ∃ k, K6[i]? = some k := ⟨_, List.getElem?_eq_getElem (by show i < 6; omega)⟩
    have so := hb.2 i p t hp ht
    rw [pw_s hp ht hk]
    unfold one
    split
    · simp only [List.append_nil]; exact ⟨by omega, q2⟩
    · refine ⟨by simp; omega, fun w hw => ?_⟩
      rcases List.mem_append.mp hw with z | z
      · exact q2 w z
      · simp only [List.mem_cons, List.not_mem_nil, or_false] at z
        rcases z with rfl | rfl
        · exact k6_len _ (List.mem_of_getElem? hk)
        · exact wT_len so (tops6_ok ht).2
theorem sum_le : ∀ l : List Str, (∀ w ∈ l, w.length ≤ 40) → (l.map (·.length)).sum ≤ 40 * l.length
  | [], _ => Nat.le_refl _
  | w :: l, h => by
    have := sum_le l fun z hz => h z (List.mem_cons_of_mem _ hz)
    have := h w (List.mem_cons_self ..)
    simp only [List.map_cons, List.sum_cons, List.length_cons]
    omega
/-- the words joined -/
theorem join_run {P : Pg} {ρ : Env'} {N j : Nat} {h : MH} {l : List Str} (hj : getV ρ j h = .ok (.ref N) h) (hN : h[N]? = some (.lst true (l.map .str))) (hl : ∀ w ∈ l, w.length ≤ 40) (ll : l.length ≤ 100) {K : Ks}
    (fin : K.rt (.str (Txt.join (Str.ofString " ") l)) h) : (evB P [Mn.S.ret (.mth .join (.con (.str (Str.ofString " "))) [.var j])] ρ h).wp K := by
  have ld := one_len.2.2.2
  have sm := sum_le l hl
  have gv : ∀ (Q : Val → MH → Prop) (Z : XP), (evE P (.var j) ρ h).wp Q Z = Q (.ref N) h := fun Q Z => by
    show (getV ρ j h).wp Q Z = _
    rw [hj]; rfl
  exists gv, hN, so_map, ld
  exact ⟨by omega, fin⟩
def hdR : Rl → Str
  | .word s _ => wdS s
  | .back _ => sBack
  | .call _ nm => sCall ++ Str.ofString " " ++ nm
def duR : Rl → List Str
  | .word s _ => [wdS s]
  | .back _ => [sBack]
  | .call _ nm => [sCall, nm]
def RlOk (r : Rl) : Prop := BxOk r.bx ∧ match r with
  | .call _ nm => nm.length ≤ 12
  | _ => True
theorem call_l : sCall.length = 4 ∧ sBack.length = 4 ∧ ∀ s, (wdS s).length = 4 := by
  refine ⟨by decide +kernel, by decide +kernel, fun s => ?_⟩
  cases s <;> decide +kernel
theorem hd_len {r : Rl} (hr : RlOk r) : (hdR r).length ≤ 40 := by
  have c := call_l
  have d := one_len.2.2.2
  cases r with
  | word s b => have := c.2.2 s; show (wdS s).length ≤ 40; omega
  | back b => show sBack.length ≤ 40; omega
  | call b nm =>
    have := hr.2
    show (sCall ++ Str.ofString " " ++ nm).length ≤ 40
    simp only [len_app]
    have : nm.length ≤ 12 := this
    omega
theorem du_len {r : Rl} (hr : RlOk r) : ∀ w ∈ duR r, w.length ≤ 40 := by
  have c := call_l
  cases r with
  | word s b =>
    intro w hw
    rw [List.mem_singleton.mp hw]
    have := c.2.2 s; omega
  | back b =>
    intro w hw
    rw [List.mem_singleton.mp hw]
    omega
  | call b nm =>
    intro w hw
    have : nm.length ≤ 12 := hr.2
    rcases List.mem_cons.mp hw with rfl | hw
    · omega
    · rw [List.mem_singleton.mp hw]; omega
theorem same_join {r : Rl} {l : List Str} : Txt.join (Str.ofString " ") (duR r ++ l) = Txt.join (Str.ofString " ") (hdR r :: l) := by
  cases r with
  | word s b => rfl
  | back b => rfl
  | call b nm =>
    show Txt.join (Str.ofString " ") (sCall :: nm :: l) = Txt.join (Str.ofString " ") ((sCall ++ Str.ofString " " ++ nm) :: l)
    rw [TL.join_eq, TL.join_eq]
    cases l with
    | nil => simp only [Str.join, app_assoc]
    | cons w l => simp only [Str.join, app_assoc]
/-! what is shown -/
theorem wb_app {P : Pg} {r : List S} : ∀ (l : List S) {ρ : Env'} {h : MH} {K : Ks}, (evB P (l ++ r) ρ h).wp K = (evB P l ρ h).wp { K with nx := fun ρ h => (evB P r ρ h).wp K }
  | [], ρ, h, K => by rw [List.nil_append, wb_nil]
  | s :: l, ρ, h, K => by
    rw [List.cons_append, wb_cons, wb_cons]
    have e : (fun ρ h => (evB P (l ++ r) ρ h).wp K) = fun ρ h => (evB P l ρ h).wp { K with nx := fun ρ h => (evB P r ρ h).wp K } := funext fun ρ => funext fun h => wb_app l
    rw [e]
def headS : List S := d_show_rule.body.take 1
def tailS : List S := d_show_rule.body.drop 1
theorem show_split : d_show_rule.body = headS ++ tailS := rfl
def tops6V : List Sg := tops6.map fun t => (0, t)
theorem every_ok {n : Nat} {h : MH} : ((T.pg (n + 1)).cf "every" [] h).wp (fun v h' => v = bxV tops6V ∧ Gr h h') NoE := by
  rw [cf_every, wp_call]
  unfold d_every
  have e1 : ([Val.int 3, .int 255, .int 4294967295, .int 65535, .int 4294967295, .int 65535] : List Val) = tops6.map .int := rfl
  exists e1
  refine wp_comp (fun i acc h' => acc = (tops6.take i).map (fun t => stV (0, t)) ∧ h' = h) ⟨by simp, rfl⟩ ?_ ?_
  · rintro i v acc h' hv ⟨rfl, rfl⟩
    rw [List.getElem?_map] at hv
    obtain ⟨t, ht, rfl⟩ := Option.map_eq_some_iff.mp hv
    have il := (List.getElem?_eq_some_iff.mp ht).1
    have il : i < 6 := il
    refine ⟨by rw [stands_nil]; trivial, by simp; omega, ?_⟩
    exists wi_cons, wi_nil
    rw [List.take_add_one, ht, List.map_append]
    rfl
  rintro acc h' ⟨rfl, rfl⟩
  refine ⟨by rw [stands_nil]; trivial, ?_⟩
  rw [List.length_map, List.take_length]
  subst_eqs
  exact ⟨rfl, Gr.app⟩
def IWd (h : MH) (r : Rl) (hd : Str) (N : Nat) (i : Nat) (ρ : Env') (h' : MH) : Prop := ∃ x3 x4 x5 x6, ρ = [some (rlV r), some (.ref N), some (bxV tops6V), x3, x4, x5, x6] ∧ h'[N]? = some (.lst true ((hd :: pw r.bx i).map .str)) ∧ Up N h h'
theorem tail_ok {n : Nat} {h : MH} {r : Rl} {hd : Str} {N : Nat} (hb : BxOk r.bx) (hh : hd.length ≤ 40) (hN : h[N]? = some (.lst true [.str hd])) {x2 x3 x4 x5 x6 : Option Val} {K : Ks}
    (fin : ∀ h', Up N h h' → K.rt (.str (Txt.join (Str.ofString " ") (hd :: pw r.bx 6))) h') (er : K.er = fun c fs _ h => NoE c fs h) : (evB (T.pg (n + 4)) tailS [some (rlV r), some (.ref N), x2, x3, x4, x5, x6] h).wp K := by
  unfold tailS d_show_rule
  simp only [List.drop_succ_cons, List.drop_zero]
  subst_eqs
  refine wp_to (every_ok (n := n + 3)) ?_
  rintro v g ⟨rfl, g1⟩
  have hN1 := g1.get hN
  have u1 : Up N h g := ⟨by have := lt_of hN1; omega, fun j hj => g1.up.2 j (by have := lt_of hN; omega)⟩
  have ek : ([Val.str (Str.ofString "turn"), .str (Str.ofString "kind"), .str (Str.ofString "from"), .str (Str.ofString "fromdoor"), .str (Str.ofString "to"), .str (Str.ofString "todoor")] : List Val) = K6.map .str := rfl
  have te : ∀ i : Nat, i < 6 → ∃ t, tops6[i]? = some t ∧ tops6V[i]? = some ((0, t) : Sg) := fun i hi => by
    rcases (by omega : i = 0 ∨ i = 1 ∨ i = 2 ∨ i = 3 ∨ i = 4 ∨ i = 5) with rfl | rfl | rfl | rfl | rfl | rfl <;> exact ⟨_, rfl, rfl⟩
  exists ek
  refine wp_for (IWd h r hd N) ⟨_, _, _, _, rfl, hN1, u1⟩ (fun i ρ h' hI _ => by rw [stands_nil]; trivial) ?_ ?_
  · rintro i v ρ h' hv ⟨x3, x4, x5, x6, rfl, q1, u⟩
    have i6 : i < 6 := (List.getElem?_eq_some_iff.mp hv).1
    obtain ⟨p, hp⟩ : ∃ p, r.bx[i]? = some p := ⟨_, List.getElem?_eq_getElem (by have := hb.1; omega)⟩
    obtain ⟨t, ht, htv⟩ := te i i6
    obtain ⟨k, hk⟩ : ∃ k, K6[i]? = some k := ⟨_, List.getElem?_eq_getElem (by show i < 6; exact i6)⟩
    obtain ⟨s0, s1, s2⟩ := hb.2 i p t hp ht
    have t32 := (tops6_ok ht).2
    have ve : v = .tup [.int i, .str k] := by
      unfold enumL at hv
      rw [List.getElem?_mapIdx, List.getElem?_map, hk] at hv
      cases hv; rfl
    subst ve
    have pl := pw_len hb i (by omega)
    have ln : ((hd :: pw r.bx i).map Val.str).length + 1 < 4096 := by rw [List.length_map, List.length_cons]; omega
    have ps := pw_s hp ht hk
    have nx0 : ∀ x3 x4 x5 x6, p.1 = 0 ∧ p.2 = t → IWd h r hd N (i + 1) [some (rlV r), some (.ref N), some (bxV tops6V), x3, x4, x5, x6] h' := fun x3 x4 x5 x6 e =>
      ⟨_, _, _, _, rfl, by rw [ps]; unfold one; rw [if_pos e, List.append_nil]; exact q1, u⟩
    have nx1 : ∀ x3 x4 x5 x6 g2 g3, ¬ (p.1 = 0 ∧ p.2 = t) → Up g2.length g2 g3 → g2 = h'.set N (.lst true ((hd :: pw r.bx i).map .str ++ [.str k])) → IWd h r hd N (i + 1) [some (rlV r), some (.ref N), some (bxV tops6V), x3, x4, x5, x6] (g3.set N (.lst true ((hd :: pw r.bx i).map .str ++ [.str k] ++ [.str (wT i p)]))) := fun x3 x4 x5 x6 g2 g3 e u2 eg => by
      have nl := lt_of q1
      have n2 : N < g2.length := by rw [eg, List.length_set]; exact nl
      have n3 : N < g3.length := Nat.lt_of_lt_of_le n2 u2.1
      refine ⟨_, _, _, _, rfl, ?_, ?_⟩
      · rw [List.getElem?_set_self n3, ps]
        unfold one
        rw [if_neg e]
        simp
      · refine ⟨by rw [List.length_set]; exact Nat.le_of_lt n3, fun j hj => ?_⟩
        rw [List.getElem?_set_ne (by omega), u2.2 j (by omega), eg, List.getElem?_set_ne (by omega)]
        exact u.2 j hj
    have q2 := set_get (o := Ob.lst true ((hd :: pw r.bx i).map .str ++ [.str k])) q1
    have pe : ∀ {h : MH}, veq h (.tup [.int p.1, .int p.2]) (.tup [.int 0, .int t]) = some (decide (p.1 = 0 ∧ p.2 = t)) := fun {h} => by
      rw [v_tt (by rfl) (by rfl)]
      congr 1
      simp
    by_cases e : p.1 = 0 ∧ p.2 = t
    · have e' := eq_true e
      exists rl_1, bx_def, hp, stV_def, htv, pe, e'
      exact nx0 _ _ _ _ e
    have e' := eq_false e
    have kf : (k = Str.ofString "from") = (i = 2) ∧ (k = Str.ofString "to") = (i = 4) := by
      rcases (by omega : i = 0 ∨ i = 1 ∨ i = 2 ∨ i = 3 ∨ i = 4 ∨ i = 5) with rfl | rfl | rfl | rfl | rfl | rfl <;> cases hk <;> refine ⟨?_, ?_⟩ <;> first | exact eq_true_intro (by decide +kernel) | (apply propext; constructor <;> intro z <;> first | exact absurd z (by decide +kernel) | exact absurd z (by omega) | rfl)
    generalize hw : ((hd :: pw r.bx i).map Val.str) = ws at *
    have l1 : ws.length < sizeLine := by
      have : (4096 : Nat) < sizeLine := by decide
      omega
    have l2 : (ws ++ [Val.str k]).length < sizeLine := by
      have : (4096 : Nat) < sizeLine := by decide
      rw [List.length_append]
      show ws.length + 1 < sizeLine
      omega
    obtain ⟨kf1, kf2⟩ := kf
    by_cases c : i = 2 ∨ i = 4
    · have wt : wT i p = aT p.1 p.2 := by unfold wT; rw [if_pos c]
      have c1 : (i = 2) = True ∨ (i = 2) = False ∧ (i = 4) = True := by
        rcases c with c | c
        · exact .inl (eq_true c)
        · exact .inr ⟨eq_false (by omega), eq_true c⟩
      rw [wt] at nx1
      have l2' : ws.length + 1 < sizeLine := by
        have := l2
        rwa [List.length_append] at this
      rcases c1 with c1 | ⟨c1, c2⟩
      · exists rl_1, bx_def, hp, stV_def, htv, pe, e', q1, l1, kf1, kf2, c1, q2
        refine wp_to (shadr_ok (n := n) s0 s1 (by omega)) ?_
        rintro v g3 ⟨rfl, u2⟩
        have q3 := u2.get (lt_of q2) q2
        exists q3
        exact ⟨l2', nx1 _ _ _ _ _ _ e u2 rfl⟩
      · exists rl_1, bx_def, hp, stV_def, htv, pe, e', q1, l1, kf1, kf2, c1, c2, q2
        refine wp_to (shadr_ok (n := n) s0 s1 (by omega)) ?_
        rintro v g3 ⟨rfl, u2⟩
        have q3 := u2.get (lt_of q2) q2
        exists q3
        exact ⟨l2', nx1 _ _ _ _ _ _ e u2 rfl⟩
    · have c1 := eq_false (show i ≠ 2 by omega)
      have c2 := eq_false (show i ≠ 4 by omega)
      have wt : wT i p = nT p.1 p.2 := by unfold wT; rw [if_neg c]
      have sw := fun h Q Z => shnum_wp (n := n + 3) (h := h) (Q := Q) (Z := Z) s0 s1 (show p.2 ≤ 4294967295 by omega)
      exists rl_1, bx_def, hp, stV_def, htv, pe, e', q1, l1, kf1, kf2, c1, c2, sw, q2, l2
      rw [wt] at nx1
      refine ⟨?_, nx1 _ _ _ _ _ _ e Up.refl rfl⟩
      have := l2
      rwa [List.length_append] at this
  · rintro ρ h' ⟨x3, x4, x5, x6, rfl, q1, u⟩
    have pl := pw_len hb 6 (by omega)
    refine join_run rfl q1 (fun w hw => ?_) (by simp [enumL, K6]; have := pl.1; simp at this; omega) ?_
    · rcases List.mem_cons.mp hw with rfl | hw
      · exact hh
      · exact pl.2 w hw
    · exact fin h' u
theorem show_rule_ok {n : Nat} {h : MH} {r : Rl} (hr : RlOk r) : ((T.pg (n + 5)).cf "show_rule" [rlV r] h).wp (fun v h' => v = .str (Txt.join (Str.ofString " ") (hdR r :: pw r.bx 6)) ∧ Up h.length h h') NoE := by
  rw [cf_show_rule, wp_call]
  refine ⟨rfl, ?_⟩
  rw [show_split, wb_app]
  show (evB (T.pg (n + 4)) headS [some (rlV r), none, none, none, none, none, none] h).wp _
  unfold headS d_show_rule
  simp only [List.take_succ_cons, List.take_zero]
  have hi : (h ++ [ruO r])[h.length]? = some (ruO r) := app_last
  have tl : ∀ K : Ks, (∀ h', Up h.length h h' → K.rt (.str (Txt.join (Str.ofString " ") (hdR r :: pw r.bx 6))) h') → (K.er = fun c fs _ h => NoE c fs h) → (evB (T.pg (n + 4)) tailS [some (rlV r), some (.ref (h ++ [ruO r]).length), none, none, none, none, none] (h ++ [ruO r] ++ [.lst true [.str (hdR r)]])).wp K := fun K fin er => by
    refine tail_ok (n := n) hr.1 (hd_len hr) app_last (fun h' u => fin h' ?_) er
    exact ((Up.refl.app).app).trans u (by simp)
  have rw1 := fun Q Z => rule_of_wp (n := n + 1) (h := h) (r := r) (Q := Q) (Z := Z)
  cases r with
  | word s b =>
    have hd : ∀ Q Z, ((T.pg (n + 4)).cf "Word.head" [.ref h.length] (h ++ [ruO (.word s b)])).wp Q Z = Q (.str (wdS s)) (h ++ [ruO (.word s b)]) := fun Q Z => by
      refine wp_is (wp_eq ?_)
      rw [cf_Word_head, wp_call]
      unfold d_Word_head
      rw [ruo_w] at hi ⊢
      exists hi
    rw [ruo_w] at *
    exists rw1, hi, hd
    exact tl _ (fun h' u => ⟨rfl, u⟩) rfl
  | back b =>
    have hd : ∀ Q Z, ((T.pg (n + 4)).cf "Back.head" [.ref h.length] (h ++ [ruO (.back b)])).wp Q Z = Q (.str sBack) (h ++ [ruO (.back b)]) := fun Q Z => by
      refine wp_is (wp_eq ?_)
      rw [cf_Back_head, wp_call]
      unfold d_Back_head
      subst_eqs
      rfl
    rw [ruo_b] at *
    exists rw1, hi, hd
    exact tl _ (fun h' u => ⟨rfl, u⟩) rfl
  | call b nm =>
    have hd : ∀ Q Z, ((T.pg (n + 4)).cf "Call.head" [.ref h.length] (h ++ [ruO (.call b nm)])).wp Q Z = Q (.str (sCall ++ Str.ofString " " ++ nm)) (h ++ [ruO (.call b nm)]) := fun Q Z => by
      refine wp_is (wp_eq ?_)
      rw [cf_Call_head, wp_call]
      unfold d_Call_head
      rw [ruo_c] at hi ⊢
      have e : Str.ofString "call " = sCall ++ Str.ofString " " := by decide +kernel
      have nl : nm.length ≤ 12 := hr.2
      have s2 : (sCall ++ Str.ofString " ").length + nm.length ≤ sizeLine := small (by
        have := call_l.1
        have := one_len.2.2.2
        rw [len_app]; omega)
      exists hi, e, s2
    rw [ruo_c] at *
    exists rw1, hi, hd
    exact tl _ (fun h' u => ⟨rfl, u⟩) rfl
/-! what is due -/
def headD : List S := d_law_due.body.take 4
def tailD : List S := d_law_due.body.drop 4
theorem due_split : d_law_due.body = headD ++ tailD := rfl
def IDu (h : MH) (r : Rl) (N Tp Ks : Nat) (i : Nat) (ρ : Env') (h' : MH) : Prop := ∃ x4 x5 x6, ρ = [some (rlV r), some (.ref N), some (.ref Tp), some (.ref Ks), x4, x5, x6] ∧ h'[N]? = some (.lst true ((duR r ++ pw r.bx i).map .str)) ∧ h'[Tp]? = some (.lst true (tops6.map .int)) ∧ h'[Ks]? = some (.lst true (K6.map .str)) ∧ Up N h h'
theorem due_tail {n : Nat} {h : MH} {r : Rl} {N Tp Ky : Nat} (hr : RlOk r) (hN : h[N]? = some (.lst true ((duR r).map .str))) (hT : h[Tp]? = some (.lst true (tops6.map .int))) (hK : h[Ky]? = some (.lst true (K6.map .str))) (neT : N ≠ Tp) (nK : N ≠ Ky) {x4 x5 x6 : Option Val} {K : Ks}
    (fin : ∀ h', Up N h h' → K.rt (.str (Txt.join (Str.ofString " ") (duR r ++ pw r.bx 6))) h') (er : K.er = fun c fs _ h => NoE c fs h) : (evB (T.pg (n + 2)) tailD [some (rlV r), some (.ref N), some (.ref Tp), some (.ref Ky), x4, x5, x6] h).wp K := by
  unfold tailD d_law_due
  simp only [List.drop_succ_cons, List.drop_zero]
  have hb := hr.1
  have dl : (duR r).length ≤ 2 := by cases r <;> simp [duR]
  subst_eqs
  refine wp_rng (IDu h r N Tp Ky) ⟨_, _, _, rfl, by simpa [pw] using hN, hT, hK, Nat.le_of_lt (lt_of hN), fun _ _ => rfl⟩ ?_ ?_
  · rintro i ρ h' hi ⟨x4, x5, x6, rfl, q1, qT, qK, u⟩
    have i6 : i < 6 := hi
    obtain ⟨p, hp⟩ : ∃ p, r.bx[i]? = some p := ⟨_, List.getElem?_eq_getElem (by have := hb.1; omega)⟩
    obtain ⟨t, ht⟩ : ∃ t, tops6[i]? = some t := ⟨_, List.getElem?_eq_getElem (by show i < 6; exact i6)⟩
    obtain ⟨k, hk⟩ : ∃ k, K6[i]? = some k := ⟨_, List.getElem?_eq_getElem (by show i < 6; exact i6)⟩
    obtain ⟨s0, s1, s2⟩ := hb.2 i p t hp ht
    have t32 := (tops6_ok ht).2
    have pl := pw_len hb i (by omega)
    have ln : ((duR r ++ pw r.bx i).map Val.str).length + 1 < 4096 := by rw [List.length_map, List.length_append]; omega
    have ps := pw_s hp ht hk
    have nx0 : ∀ x4 x5 x6, p.1 = 0 ∧ p.2 = t → IDu h r N Tp Ky (i + 1) [some (rlV r), some (.ref N), some (.ref Tp), some (.ref Ky), x4, x5, x6] h' := fun x4 x5 x6 e =>
      ⟨_, _, _, rfl, by rw [ps]; unfold one; rw [if_pos e, List.append_nil]; exact q1, qT, qK, u⟩
    have nx1 : ∀ x4 x5 x6 g2 g3, ¬ (p.1 = 0 ∧ p.2 = t) → Up g2.length g2 g3 → g2 = h'.set N (.lst true ((duR r ++ pw r.bx i).map .str ++ [.str k])) → IDu h r N Tp Ky (i + 1) [some (rlV r), some (.ref N), some (.ref Tp), some (.ref Ky), x4, x5, x6] (g3.set N (.lst true ((duR r ++ pw r.bx i).map .str ++ [.str k] ++ [.str (wT i p)]))) := fun x4 x5 x6 g2 g3 e u2 eg => by
      have nl := lt_of q1
      have n2 : N < g2.length := by rw [eg, List.length_set]; exact nl
      have n3 : N < g3.length := Nat.lt_of_lt_of_le n2 u2.1
      have oth : ∀ j o, N ≠ j → h'[j]? = some o → (g3.set N (.lst true ((duR r ++ pw r.bx i).map .str ++ [.str k] ++ [.str (wT i p)])))[j]? = some o := fun j o nj hj => by
        rw [List.getElem?_set_ne nj, u2.2 j (by rw [eg, List.length_set]; exact lt_of hj), eg, List.getElem?_set_ne nj]
        exact hj
      refine ⟨_, _, _, rfl, ?_, oth _ _ neT qT, oth _ _ nK qK, ?_⟩
      · rw [List.getElem?_set_self n3, ps]
        unfold one
        rw [if_neg e]
        simp
      · refine ⟨by rw [List.length_set]; exact Nat.le_of_lt n3, fun j hj => ?_⟩
        rw [List.getElem?_set_ne (by omega), u2.2 j (by omega), eg, List.getElem?_set_ne (by omega)]
        exact u.2 j hj
    have q2 := set_get (o := Ob.lst true ((duR r ++ pw r.bx i).map .str ++ [.str k])) q1
    have qK2 : (h'.set N (Ob.lst true ((duR r ++ pw r.bx i).map .str ++ [.str k])))[Ky]? = some (.lst true (K6.map .str)) := (List.getElem?_set_ne nK).trans qK
    by_cases e : p.1 = 0 ∧ p.2 = t
    · have e1 : ((0 : Int) < p.1) = False := eq_false (by omega)
      have e2 : (p.2 < t) = False := eq_false (by omega)
      exists rl_1, bx_def, hp, stV_def, qT, ht, e1, e2
      exact nx0 _ _ _ e
    have cc : ((0 : Int) < p.1) = True ∨ ((0 : Int) < p.1) = False ∧ (p.2 < t) = True := by
      by_cases z : (0 : Int) < p.1
      · exact .inl (eq_true z)
      · exact .inr ⟨eq_false z, eq_true (by omega)⟩
    have kf : k ≠ Str.ofString "from" ∧ k ≠ Str.ofString "to" ∨ k = Str.ofString "from" ∨ k = Str.ofString "to" := by
      by_cases a : k = Str.ofString "from"
      · exact .inr (.inl a)
      · by_cases b : k = Str.ofString "to"
        · exact .inr (.inr b)
        · exact .inl ⟨a, b⟩
    have ki : (k = Str.ofString "from" ∨ k = Str.ofString "to") ↔ (i = 2 ∨ i = 4) := by
      rcases (by omega : i = 0 ∨ i = 1 ∨ i = 2 ∨ i = 3 ∨ i = 4 ∨ i = 5) with rfl | rfl | rfl | rfl | rfl | rfl <;> cases hk <;> decide +kernel
    generalize hw : ((duR r ++ pw r.bx i).map Val.str) = ws at *
    have l1 : ws.length < sizeLine := by
      have : (4096 : Nat) < sizeLine := by decide
      omega
    have l2 : ws.length + 1 < sizeLine := by
      have : (4096 : Nat) < sizeLine := by decide
      omega
    rcases kf with ⟨k1, k2⟩ | kf
    · have c : ¬ (i = 2 ∨ i = 4) := fun z => by
        rcases ki.mpr z with z | z
        · exact k1 z
        · exact k2 z
      have wt : wT i p = nT p.1 p.2 := by unfold wT; rw [if_neg c]
      rw [wt] at nx1
      have sw := fun h Q Z => lnum_wp (n := n + 1) (k := k) (h := h) (Q := Q) (Z := Z) k1 k2 s0 s1 (show p.2 ≤ 4294967295 by omega)
      rcases cc with e1 | ⟨e1, e2⟩
      · exists rl_1, bx_def, hp, stV_def, qT, ht, e1, q1, l1, qK, hk, qK2, sw, q2
        exact ⟨l2, nx1 _ _ _ _ _ e Up.refl rfl⟩
      · exists rl_1, bx_def, hp, stV_def, qT, ht, e1, e2, q1, l1, qK, hk, qK2, sw, q2
        exact ⟨l2, nx1 _ _ _ _ _ e Up.refl rfl⟩
    · have wt : wT i p = aT p.1 p.2 := by unfold wT; rw [if_pos (ki.mp kf)]
      rw [wt] at nx1
      rcases cc with e1 | ⟨e1, e2⟩
      · exists rl_1, bx_def, hp, stV_def, qT, ht, e1, q1, l1, qK, hk, qK2, q2
        refine wp_to (ladr_ok (n := n) kf s0 s1 (by omega)) ?_
        rintro v g3 ⟨rfl, u2⟩
        have q3 := u2.get (lt_of q2) q2
        exists q3
        exact ⟨l2, nx1 _ _ _ _ _ e u2 rfl⟩
      · exists rl_1, bx_def, hp, stV_def, qT, ht, e1, e2, q1, l1, qK, hk, qK2, q2
        refine wp_to (ladr_ok (n := n) kf s0 s1 (by omega)) ?_
        rintro v g3 ⟨rfl, u2⟩
        have q3 := u2.get (lt_of q2) q2
        exists q3
        exact ⟨l2, nx1 _ _ _ _ _ e u2 rfl⟩
  · rintro ρ h' ⟨x4, x5, x6, rfl, q1, qT, qK, u⟩
    have pl := pw_len hb 6 (by omega)
    refine join_run rfl q1 (fun w hw => ?_) (by rw [List.length_append]; have := pl.1; show (duR r).length + (pw r.bx 6).length ≤ 100; omega) ?_
    · rcases List.mem_append.mp hw with hw | hw
      · exact du_len hr w hw
      · exact pl.2 w hw
    · exact fin h' u
theorem due_ok {n : Nat} {h : MH} {r : Rl} (hr : RlOk r) : ((T.pg (n + 3)).cf "_law_due" [rlV r] h).wp (fun v h' => v = .str (Txt.join (Str.ofString " ") (hdR r :: pw r.bx 6)) ∧ Up h.length h h') NoE := by
  rw [cf_law_due, wp_call]
  refine ⟨rfl, ?_⟩
  rw [due_split, wb_app]
  show (evB (T.pg (n + 2)) headD [some (rlV r), none, none, none, none, none, none] h).wp _
  unfold headD d_law_due
  simp only [List.take_succ_cons, List.take_zero]
  have e1 : ([Val.int 3, .int 255, .int 4294967295, .int 65535, .int 4294967295, .int 65535] : List Val) = tops6.map .int := rfl
  have ek : ([Val.str (Str.ofString "turn"), .str (Str.ofString "kind"), .str (Str.ofString "from"), .str (Str.ofString "fromdoor"), .str (Str.ofString "to"), .str (Str.ofString "todoor")] : List Val) = K6.map .str := rfl
  have tl : ∀ (g : MH) (K : Ks), g = h ++ [.lst true ((duR r).map .str)] → (∀ h', Up h.length h h' → K.rt (.str (Txt.join (Str.ofString " ") (hdR r :: pw r.bx 6))) h') → (K.er = fun c fs _ h => NoE c fs h) →
      (evB (T.pg (n + 2)) tailD [some (rlV r), some (.ref h.length), some (.ref g.length), some (.ref (g ++ [Ob.lst true (tops6.map .int)]).length), none, none, none] (g ++ [.lst true (tops6.map .int)] ++ [.lst true (K6.map .str)])).wp K := fun g K eg fin er => by
    subst eg
    refine due_tail (n := n) hr (Gr.app.get (Gr.app.get app_last)) (Gr.app.get app_last) app_last (by simp) (by simp) (fun h' u => ?_) er
    rw [same_join]
    exact fin h' ((((Up.refl.app).app).app).trans u (Nat.le_refl _))
  cases r with
  | word s b =>
    have c1 : (wdS s = Str.ofString "call") = False := eq_false (by cases s <;> decide +kernel)
    exists rl_0, Rl.wd, c1, e1, ek
    exact tl _ _ rfl (fun h' u => ⟨rfl, u⟩) rfl
  | back b =>
    have c1 : (sBack = Str.ofString "call") = False := eq_false (by decide +kernel)
    exists rl_0, Rl.wd, c1, e1, ek
    exact tl _ _ rfl (fun h' u => ⟨rfl, u⟩) rfl
  | call b nm =>
    have c1 : (sCall = Str.ofString "call") = True := eq_true (by decide +kernel)
    exists rl_0, rl_2, Rl.wd, c1, e1, ek
    exact tl _ _ rfl (fun h' u => ⟨rfl, u⟩) rfl
/-! the law -/
def I14 (ns : List Int) (_ : Nat) (ρ : Env') (h : MH) : Prop := h[0]? = some (.lst false (ns.map .int)) ∧ ∃ x1 x2 x3 x4 x5, ρ = [some (.ref 0), x1, x2, x3, x4, x5]
theorem law_runs (ns : List Int) (hl : ns.length ≤ 63) (hb : ∀ z ∈ ns, Builtin.Int.intBits z ≤ 1048576) : ∃ h', (T.pg (lvl + 1)).cf "law" [.ref 0] [.lst false (ns.map .int)] = .ok (.bl true) h' := by
  refine law_of ?_
  rw [cf_law, wp_call]
  unfold d_law lvl
  have hs : ([.lst false (ns.map .int)] : MH)[0]? = some (.lst false (ns.map .int)) := rfl
  generalize ([.lst false (ns.map .int)] : MH) = h at *
  exists hs
  refine ⟨by omega, ?_⟩
  refine wp_rng (fun i => I14 ns i) ⟨hs, _, _, _, _, _, rfl⟩ ?_ ?_
  · rintro i ρ h1 hi ⟨hs1, x1, x2, x3, x4, x5, rfl⟩
    exists cell_l hs1
    refine wp_to (lbox_ok (n := 3)) ?_
    rintro v h2 ⟨⟨b, rfl, bk⟩, u2⟩
    have hs2 := u2.get (lt_of hs1) hs1
    have b6 := bk.1
    have n1 : (Str.ofString "pass" = Str.ofString "call") = False := eq_false (by decide +kernel)
    have n2 : (Str.ofString "stop" = Str.ofString "call") = False := eq_false (by decide +kernel)
    have n3 : (Str.ofString "back" = Str.ofString "call") = False := eq_false (by decide +kernel)
    have hs3 : ∀ x, (h2 ++ [x])[0]? = some (.lst false (ns.map .int)) := fun x => Gr.app.get hs2
    have fin : ∀ (h3 g g' : MH) (x1 x2 x3 x4 x5 : Option Val), h3[0]? = some (.lst false (ns.map .int)) → Up h3.length h3 g → Up g.length g g' → I14 ns (i + 1) [some (.ref 0), x1, x2, x3, x4, x5] g' := fun h3 g g' x1 x2 x3 x4 x5 h30 u u' =>
      ⟨u'.get (by have := lt_of h30; have := u.1; omega) (u.get (lt_of h30) h30), _, _, _, _, _, rfl⟩
    rcases (by omega : cell ns (↑i * 3 : Int).toNat % 4 = 0 ∨ cell ns (↑i * 3 : Int).toNat % 4 = 1 ∨ cell ns (↑i * 3 : Int).toNat % 4 = 2 ∨ cell ns (↑i * 3 : Int).toNat % 4 = 3) with z | z | z | z
    · exists z, n1
      refine wp_to (show_rule_ok (n := 0) (r := (.word false b)) ⟨bk, trivial⟩) ?_
      rintro v g ⟨rfl, u⟩
      subst_eqs
      refine wp_to (due_ok (n := 2) (r := (.word false b)) ⟨bk, trivial⟩) ?_
      rintro v g' ⟨rfl, u'⟩
      subst_eqs
      exact fin _ _ _ _ _ _ _ _ (hs3 _) u u'
    · exists z, n2
      refine wp_to (show_rule_ok (n := 0) (r := (.word true b)) ⟨bk, trivial⟩) ?_
      rintro v g ⟨rfl, u⟩
      subst_eqs
      refine wp_to (due_ok (n := 2) (r := (.word true b)) ⟨bk, trivial⟩) ?_
      rintro v g' ⟨rfl, u'⟩
      subst_eqs
      exact fin _ _ _ _ _ _ _ _ (hs3 _) u u'
    · exists z, n3
      refine wp_to (show_rule_ok (n := 0) (r := (.back b)) ⟨bk, trivial⟩) ?_
      rintro v g ⟨rfl, u⟩
      subst_eqs
      refine wp_to (due_ok (n := 2) (r := (.back b)) ⟨bk, trivial⟩) ?_
      rintro v g' ⟨rfl, u'⟩
      subst_eqs
      exact fin _ _ _ _ _ _ _ _ (hs3 _) u u'
    · exists z
      refine wp_to (name_ok (n := 3)) ?_
      rintro v h3 ⟨⟨s, rfl, ls⟩, g3⟩
      subst_eqs
      refine wp_to (show_rule_ok (n := 0) (r := (.call b s)) ⟨bk, ls.1⟩) ?_
      rintro v g ⟨rfl, u⟩
      subst_eqs
      refine wp_to (due_ok (n := 2) (r := (.call b s)) ⟨bk, ls.1⟩) ?_
      rintro v g' ⟨rfl, u'⟩
      subst_eqs
      exact fin _ _ _ _ _ _ _ _ (g3.get (hs3 _)) u u'
  · rintro ρ h' ⟨hs', x1, x2, x3, x4, x5, rfl⟩
    subst_eqs
end Lw
open PySem PySem.W PyProof.Rows in
set_option maxRecDepth 100000 in
set_option maxHeartbeats 0 in
theorem PySem.Challenge.cw_sieve_k14_a_rule_shown_holds : PySem.Challenge.rw_sieve_k14_a_rule_shown.Holds := by
  w_on; o_law; k_head; (case hw => w_witness2)
  k_fill
  refine Mn.walk (l := PySem.Challenge.rw_sieve_k14_a_rule_shown) (L := fun K => Lw.lk K) (T := Lw.T) (tb := Lw.tbl) (n := Lw.lvl) rfl rfl ⟨rfl, by decide, by decide⟩ (fun w h Y => PySem.W.kIn_of Y) (fun _ => rfl) rfl rfl rfl rfl Lw.law_runs ?F
  case F =>
    intro w mg h KX G
    refine' Lw.top_ok KX G ?a0 ?l0 ?c0 ?k0 ?a1 ?l1 ?c1 ?k1 ?a2 ?l2 ?c2 ?k2 ?a3 ?l3 ?c3 ?k3 ?a4 ?l4 ?c4 ?k4 ?a5 ?l5 ?c5 ?k5 ?a6 ?l6 ?c6 ?k6 ?a7 ?l7 ?c7 ?k7 ?a8 ?l8 ?c8 ?k8 ?a9 ?l9 ?c9 ?k9 ?a10 ?l10 ?c10 ?k10 ?a11 ?l11 ?c11 ?k11 ?a12 ?l12 ?c12 ?k12 ?a13 ?l13 ?c13 ?k13 ?a14 ?l14 ?c14 ?k14 ?a15 ?l15 ?c15 ?k15 ?a16 ?l16 ?c16 ?k16 ?a17 ?l17 ?c17 ?k17 ?a18 ?l18 ?c18 ?k18 ?l19 ?c19 ?k19 ?i19 ?l20 ?c20 ?k20 ?i20 ?l21 ?c21 ?k21 ?i21 ?l22 ?c22 ?k22 ?i22 ?l23 ?c23 ?k23 ?i23 ?l24 ?c24 ?k24 ?i24 ?aC0 ?pg0 ?hd0 ?po0 ?sa0 ?ha0 ?hm0 ?mk0 ?kc0 ?aC1 ?pg1 ?hd1 ?po1 ?sa1 ?ha1 ?hm1 ?mk1 ?kc1 ?aC2 ?pg2 ?hd2 ?po2 ?sa2 ?ha2 ?hm2 ?mk2 ?kc2 ?hn ?htk ?mt0 ?mt1 ?mt2 ?mt3 ?mt4 ?mt5 ?ad0 ?rd0 ?rg0 ?ct_0 ?na0 ?na1 ?na2 ?na3 ?na4 ?gv0 ?gl0 ?gv1 ?gl1 ?gv2 ?z0 ?z1 ?z2 ?z3 ?z4 ?z5 ?z6 ?z7 ?z8 ?z9 ?z10 ?z11 ?z12 ?z13 ?z14
    (case a0 => first | k_is | kit_is | k_exc)
    (case l0 => first | k_is | kit_is | k_exc)
    (case c0 => first | k_is | kit_is | k_exc)
    (case k0 => first | k_is | kit_is | k_exc)
    (case a1 => first | k_is | kit_is | k_exc)
    (case l1 => first | k_is | kit_is | k_exc)
    (case c1 => first | k_is | kit_is | k_exc)
    (case k1 => first | k_is | kit_is | k_exc)
    (case a2 => first | k_is | kit_is | k_exc)
    (case l2 => first | k_is | kit_is | k_exc)
    (case c2 => first | k_is | kit_is | k_exc)
    (case k2 => first | k_is | kit_is | k_exc)
    (case a3 => first | k_is | kit_is | k_exc)
    (case l3 => first | k_is | kit_is | k_exc)
    (case c3 => first | k_is | kit_is | k_exc)
    (case k3 => first | k_is | kit_is | k_exc)
    (case a4 => first | k_is | kit_is | k_exc)
    (case l4 => first | k_is | kit_is | k_exc)
    (case c4 => first | k_is | kit_is | k_exc)
    (case k4 => first | k_is | kit_is | k_exc)
    (case a5 => first | k_is | kit_is | k_exc)
    (case l5 => first | k_is | kit_is | k_exc)
    (case c5 => first | k_is | kit_is | k_exc)
    (case k5 => first | k_is | kit_is | k_exc)
    (case a6 => first | k_is | kit_is | k_exc)
    (case l6 => first | k_is | kit_is | k_exc)
    (case c6 => first | k_is | kit_is | k_exc)
    (case k6 => first | k_is | kit_is | k_exc)
    (case a7 => first | k_is | kit_is | k_exc)
    (case l7 => first | k_is | kit_is | k_exc)
    (case c7 => first | k_is | kit_is | k_exc)
    (case k7 => first | k_is | kit_is | k_exc)
    (case a8 => first | k_is | kit_is | k_exc)
    (case l8 => first | k_is | kit_is | k_exc)
    (case c8 => first | k_is | kit_is | k_exc)
    (case k8 => first | k_is | kit_is | k_exc)
    (case a9 => first | k_is | kit_is | k_exc)
    (case l9 => first | k_is | kit_is | k_exc)
    (case c9 => first | k_is | kit_is | k_exc)
    (case k9 => first | k_is | kit_is | k_exc)
    (case a10 => first | k_is | kit_is | k_exc)
    (case l10 => first | k_is | kit_is | k_exc)
    (case c10 => first | k_is | kit_is | k_exc)
    (case k10 => first | k_is | kit_is | k_exc)
    (case a11 => first | k_is | kit_is | k_exc)
    (case l11 => first | k_is | kit_is | k_exc)
    (case c11 => first | k_is | kit_is | k_exc)
    (case k11 => first | k_is | kit_is | k_exc)
    (case a12 => first | k_is | kit_is | k_exc)
    (case l12 => first | k_is | kit_is | k_exc)
    (case c12 => first | k_is | kit_is | k_exc)
    (case k12 => first | k_is | kit_is | k_exc)
    (case a13 => first | k_is | kit_is | k_exc)
    (case l13 => first | k_is | kit_is | k_exc)
    (case c13 => first | k_is | kit_is | k_exc)
    (case k13 => first | k_is | kit_is | k_exc)
    (case a14 => first | k_is | kit_is | k_exc)
    (case l14 => first | k_is | kit_is | k_exc)
    (case c14 => first | k_is | kit_is | k_exc)
    (case k14 => first | k_is | kit_is | k_exc)
    (case a15 => first | k_is | kit_is | k_exc)
    (case l15 => first | k_is | kit_is | k_exc)
    (case c15 => first | k_is | kit_is | k_exc)
    (case k15 => first | k_is | kit_is | k_exc)
    (case a16 => first | k_is | kit_is | k_exc)
    (case l16 => first | k_is | kit_is | k_exc)
    (case c16 => first | k_is | kit_is | k_exc)
    (case k16 => first | k_is | kit_is | k_exc)
    (case a17 => first | k_is | kit_is | k_exc)
    (case l17 => first | k_is | kit_is | k_exc)
    (case c17 => first | k_is | kit_is | k_exc)
    (case k17 => first | k_is | kit_is | k_exc)
    (case a18 => first | k_is | kit_is | k_exc)
    (case l18 => first | k_is | kit_is | k_exc)
    (case c18 => first | k_is | kit_is | k_exc)
    (case k18 => first | k_is | kit_is | k_exc)
    (case aC0 => first | k_is | kit_is | k_exc)
    (case pg0 => first | k_is | kit_is | k_exc)
    (case hd0 => first | k_is | kit_is | k_exc)
    (case po0 => first | k_is | kit_is | k_exc)
    (case sa0 => first | k_is | kit_is | k_exc)
    (case ha0 => first | k_is | kit_is | k_exc)
    (case hm0 => first | k_is | kit_is | k_exc)
    (case mk0 => first | k_is | kit_is | k_exc)
    (case kc0 => first | k_is | kit_is | k_exc)
    (case aC1 => first | k_is | kit_is | k_exc)
    (case pg1 => first | k_is | kit_is | k_exc)
    (case hd1 => first | k_is | kit_is | k_exc)
    (case po1 => first | k_is | kit_is | k_exc)
    (case sa1 => first | k_is | kit_is | k_exc)
    (case ha1 => first | k_is | kit_is | k_exc)
    (case hm1 => first | k_is | kit_is | k_exc)
    (case mk1 => first | k_is | kit_is | k_exc)
    (case kc1 => first | k_is | kit_is | k_exc)
    (case aC2 => first | k_is | kit_is | k_exc)
    (case pg2 => first | k_is | kit_is | k_exc)
    (case hd2 => first | k_is | kit_is | k_exc)
    (case po2 => first | k_is | kit_is | k_exc)
    (case sa2 => first | k_is | kit_is | k_exc)
    (case ha2 => first | k_is | kit_is | k_exc)
    (case hm2 => first | k_is | kit_is | k_exc)
    (case mk2 => first | k_is | kit_is | k_exc)
    (case kc2 => first | k_is | kit_is | k_exc)
    (case hn => first | k_is | kit_is | k_exc)
    (case htk => first | k_is | kit_is | k_exc)
    (case mt0 => first | k_is | kit_is | k_exc)
    (case l20 => first | k_is | kit_is | k_exc)
    (case c20 => first | k_is | kit_is | k_exc)
    (case k20 => first | k_is | kit_is | k_exc)
    (case i20 => first | k_is | kit_is | k_exc)
    (case mt1 => first | k_is | kit_is | k_exc)
    (case l21 => first | k_is | kit_is | k_exc)
    (case c21 => first | k_is | kit_is | k_exc)
    (case k21 => first | k_is | kit_is | k_exc)
    (case i21 => first | k_is | kit_is | k_exc)
    (case mt2 => first | k_is | kit_is | k_exc)
    (case l23 => first | k_is | kit_is | k_exc)
    (case c23 => first | k_is | kit_is | k_exc)
    (case k23 => first | k_is | kit_is | k_exc)
    (case i23 => first | k_is | kit_is | k_exc)
    (case mt3 => first | k_is | kit_is | k_exc)
    (case l24 => first | k_is | kit_is | k_exc)
    (case c24 => first | k_is | kit_is | k_exc)
    (case k24 => first | k_is | kit_is | k_exc)
    (case i24 => first | k_is | kit_is | k_exc)
    (case mt4 => first | k_is | kit_is | k_exc)
    (case l19 => first | k_is | kit_is | k_exc)
    (case c19 => first | k_is | kit_is | k_exc)
    (case k19 => first | k_is | kit_is | k_exc)
    (case i19 => first | k_is | kit_is | k_exc)
    (case mt5 => first | k_is | kit_is | k_exc)
    (case l22 => first | k_is | kit_is | k_exc)
    (case c22 => first | k_is | kit_is | k_exc)
    (case k22 => first | k_is | kit_is | k_exc)
    (case i22 => first | k_is | kit_is | k_exc)
    (case ad0 => first | k_is | kit_is | k_exc)
    (case rd0 => first | k_is | kit_is | k_exc)
    (case rg0 => first | k_is | kit_is | k_exc)
    (case ct_0 => first | k_is | kit_is | k_exc)
    (case na0 => first | k_is | kit_is | k_exc)
    (case na1 => first | k_is | kit_is | k_exc)
    (case na2 => first | k_is | kit_is | k_exc)
    (case na3 => first | k_is | kit_is | k_exc)
    (case na4 => first | k_is | kit_is | k_exc)
    (case gv0 => first | k_is | kit_is | k_exc)
    (case gl0 => first | k_is | kit_is | k_exc)
    (case gv1 => first | k_is | kit_is | k_exc)
    (case gl1 => first | k_is | kit_is | k_exc)
    (case gv2 => first | k_is | kit_is | k_exc)
    (case z0 => first | k_is | kit_is | k_exc)
    (case z1 => first | k_is | kit_is | k_exc)
    (case z2 => first | k_is | kit_is | k_exc)
    (case z3 => first | k_is | kit_is | k_exc)
    (case z4 => first | k_is | kit_is | k_exc)
    (case z5 => first | k_is | kit_is | k_exc)
    (case z6 => first | k_is | kit_is | k_exc)
    (case z7 => first | k_is | kit_is | k_exc)
    (case z8 => first | k_is | kit_is | k_exc)
    (case z9 => first | k_is | kit_is | k_exc)
    (case z10 => first | k_is | kit_is | k_exc)
    (case z11 => first | k_is | kit_is | k_exc)
    (case z12 => first | k_is | kit_is | k_exc)
    (case z13 => first | k_is | kit_is | k_exc)
    (case z14 => first | k_is | kit_is | k_exc)
#print axioms PySem.Challenge.cw_sieve_k14_a_rule_shown_holds
