import PyProof.Rows.All
import PySem.Challenge.RW_unknowntakes_k00_error_classes
import KE.OsRunLaw
import HandS.Exc
import HandS.ExcInit
import HandS.TryMany
import HandS.IsInst
import KE.KExcIs
import KE.KIsAll
import HandS.ForMost
import HandS.Star
import HandS.CallSlots
import HandS.WordsExc
import HandS.Wide
import HandS.Deep
import HandS.TupAny
import HandS.FStr
import HandS.Conv
import KE.GoesEnum
import HandS.Zip
import HandS.Property
import HandS.MapJoin
import HandS.Style
import KE.KCallOwn
import HandS.Iter
import HandS.Defaults
import HandS.Codes
import HandS.EndBits
import HandS.ExcOwn
import HandS.Words
import HandS.Dict
import HandS.Small
import HandS.SlotsOwn
import PyProof.InstNe
import PyProof.InstEq
import OpenK.KMeth
import KE.DataMinMax
import KE.LtData
import PyProof.Rows.CountFlat
import HandS.MakeKw
import HandS.NoneIn
import HandS.MakeKwOnly
import HandS.TupMul
import HandS.HotCalls
set_option Elab.async false
set_option linter.all false
set_option maxRecDepth 100000
set_option autoImplicit false
set_option maxHeartbeats 0
/-! the head: what stands at the top, look by look -/
namespace HeadCut
open PySem PySem.W PyProof.Rows HeadRun
theorem join3 {σ α β γ : Type} {o : Option σ} {f : σ → α} {g : σ → β} {h : σ → γ} {x : α} {y : β} {z : γ} (a : o.map f = some x) (b : o.map g = some y) (c : o.map h = some z) : o.map (fun s => (f s, g s, h s)) = some (x, y, z) := by
  cases o with
  | none => cases a
  | some s =>
    cases a
    cases b
    cases c
    rfl
theorem join2 {σ α β : Type} {o : Option σ} {f : σ → α × β} {x : α × β} (a : o.map (fun s => (f s).1) = some x.1) (b : o.map (fun s => (f s).2) = some x.2) : o.map f = some x := by
  cases o with
  | none => cases a
  | some s =>
    have a' : (f s).1 = x.1 := Option.some.inj a
    have b' : (f s).2 = x.2 := Option.some.inj b
    exact congrArg some (Prod.ext a' b')
def dropAt (ix : List Nat) (l : List Stmt) : List Stmt := (l.zipIdx.filter (fun x => !ix.contains x.2)).map (·.1)
abbrev rw := PySem.Challenge.rw_unknowntakes_k00_error_classes
noncomputable def q0 : Program := { rw.row.prog with main := { rw.row.prog.main with body := dropAt [1, 10, 37, 71] rw.row.prog.main.body } }
def ls0 : List Str := [Str.ofString "Sheet"]
noncomputable def end0 (w : World) (os : OsState) : Option SharedT := endF (stepQ (denQ tabQ) rw.row.prog w) 16592 rw.row.prog w os
noncomputable def sn (s : SharedT) := seenQ q0 ls0 (importedModules rw.row.prog.main.body) (fun s => xlAt q0 [] s && recOk rw.row.records s) s.abs
theorem lookA (w : World) (os : OsState) : (end0 w os).map (fun s => looksF rw.row.prog (boot_heap w.params) s.abs) = some true := by kernel_rfl
theorem look1 (w : World) (os : OsState) : (end0 w os).map (fun s => (sn s).1) = some (expectedOf q0) := by kernel_rfl
theorem look2 (w : World) (os : OsState) : (end0 w os).map (fun s => (sn s).2.1) = some bltViewBooted := by kernel_rfl
theorem look3 (w : World) (os : OsState) : (end0 w os).map (fun s => (sn s).2.2.1) = some true := by kernel_rfl
theorem look4 (w : World) (os : OsState) : (end0 w os).map (fun s => (sn s).2.2.2.1) = some true := by kernel_rfl
theorem look5 (w : World) (os : OsState) : (end0 w os).map (fun s => (sn s).2.2.2.2.1) = some (pinGoodD (drecsOf q0)) := by kernel_rfl
theorem lwT : Fast.tw821141287760084731 q0 ls0 = ls0 := by kernel_rfl
theorem lwG : looseW q0 ls0 = ls0 := by kernel_rfl
theorem plT : Fast.tw210736558901404530 q0 ls0 = [] := by kernel_rfl
theorem plG : plainsOf q0 ls0 = [] := by kernel_rfl
theorem endSome (w : World) (os : OsState) : (end0 w os).map (fun _ => ()) = some () := by kernel_rfl
theorem mapC {σ α : Type} {o : Option σ} {f : σ → α} {z : α} (a : o.map (fun _ => ()) = some ()) (e : ∀ s, f s = z) : o.map f = some z := by
  cases o with
  | none => cases a
  | some s => exact congrArg some (e s)
theorem sn6 (s : SharedT) : (sn s).2.2.2.2.2.1 = [] := by
  have e1 : (sn s).2.2.2.2.2.1 = Fast.tw2386780881361962483 q0 (Fast.tw821141287760084731 q0 ls0) s.abs := by with_unfolding_all rfl
  refine e1.trans ((congrArg (fun l => Fast.tw2386780881361962483 q0 l s.abs) lwT).trans ?_)
  unfold Fast.tw2386780881361962483
  rw [plT]
  rfl
theorem good6 : plainGoodE q0 (looseW q0 ls0) = [] := by
  refine (congrArg (plainGoodE q0) lwG).trans ?_
  unfold plainGoodE
  rw [plG]
  rfl
theorem look6 (w : World) (os : OsState) : (end0 w os).map (fun s => (sn s).2.2.2.2.2.1) = some (plainGoodE q0 (looseW q0 ls0)) := (mapC (endSome w os) sn6).trans (congrArg some good6.symm)
theorem look7 (w : World) (os : OsState) : (end0 w os).map (fun s => (sn s).2.2.2.2.2.2.1) = some (plainGoodD q0 ls0) := by kernel_rfl
theorem look8 (w : World) (os : OsState) : (end0 w os).map (fun s => (sn s).2.2.2.2.2.2.2.1) = some (wideGood q0) := by kernel_rfl
theorem look9 (w : World) (os : OsState) : (end0 w os).map (fun s => (sn s).2.2.2.2.2.2.2.2) = some (clsGoodW q0 ls0) := by kernel_rfl
theorem run (w : World) (os : OsState) : (end0 w os).map sn = some (openGood q0 ls0) := join2 (look1 w os) (join2 (look2 w os) (join2 (look3 w os) (join2 (look4 w os) (join2 (look5 w os) (join2 (look6 w os) (join2 (look7 w os) (join2 (look8 w os) (look9 w os))))))))
end HeadCut

/-! EX1: a caught exception is kept in the abstract heap; try with several clauses, with names or without -/
namespace L2
open PySem PySem.Spec PyProof.Rows

/-- at a: an exception that was raised, of the class cls, its dict at d -/
def exq (a : Addr) (cls : Value) (d : Option Addr) : HO := .ext fun h => ∃ (oe : Obj) (vs : Array Value), h.get? a = some oe ∧ Zc cls d oe ∧ oe.data = .fields vs
theorem exq_ok {P : Program} {w : World} {H : Hp} {h : Heap} {a : Addr} {cls : Value} {d : Option Addr} {oe : Obj} {vs : Array Value} (e : h.get? a = some oe) (z : Zc cls d oe) (dd : oe.data = .fields vs) : ObjOk P w H h a (exq a cls d) :=
  ⟨⟨oe, vs, e, z, dd⟩, ⟨oe, e⟩, fun _ _ ⟨o, v, q, r⟩ k => ⟨o, v, k o q, r⟩⟩
theorem exq_at {P : Program} {w : World} {H : Hp} {h : Heap} {a : Addr} {cls : Value} {d : Option Addr} (hok : HOk P w H h) (he : H a = some (exq a cls d)) : ∃ (oe : Obj) (vs : Array Value), h.get? a = some oe ∧ Zc cls d oe ∧ oe.data = .fields vs := by
  have x : ObjOk P w H h a (.ext fun h => ∃ (oe : Obj) (vs : Array Value), h.get? a = some oe ∧ Zc cls d oe ∧ oe.data = .fields vs) := hok a _ he
  exact x.1
section
variable {X : Cx} {pins : List (Addr × Obj)} {σ : St} {H : Hp} {s : Shared} {a : Addr} {oe : Obj} {vs : Array Value} {cls : Value} {d : Option Addr}
/-- an object that was not there at the entry, tracked from now on -/
theorem Inv.track (I : Inv X pins σ H s) (ha : s.heap.get? a = some oe) (hz : Zc cls d oe) (hd : oe.data = .fields vs) (na : H a = none) (n0 : X.s_0.heap.get? a = none) (nL : a ≠ X.env.locals) (np : ∀ p ∈ X.pn ++ pins, p.1 ≠ a) :
    Inv X pins σ (upd H a (exq a cls d)) s := by
  have nc : ∀ x c, X.env.cells.lookup x = some c → c ≠ a := fun x c e z => by
    obtain ⟨v, o, h1, h2⟩ := I.cell x c e
    rw [z, ha] at h1
    cases h1
    rw [hd] at h2
    cases h2
  refine ⟨I.ok, I.os, I.bare, ⟨I.base.keep, I.base.slot, fun b o e n hx => ?_, I.base.there, fun b xs e => ?_, fun b o u e => ?_, fun b ps e => ?_⟩, I.loc, I.cell, ?_, fun x c e => ?_, fun p hp => ?_, fun b u e => ?_, I.len⟩
  · rw [upd_ne (fun z => by rw [z, n0] at e; cases e)]
    exact I.base.free b o e n hx
  · have q := I.base.tups b xs e
    rw [upd_ne (ne_of_none q na)]
    exact q
  · have q := I.base.frzs b o u e
    rw [upd_ne (ne_of_none q na)]
    exact q
  · obtain ⟨m, q⟩ := I.base.tbls b ps e
    exact ⟨m, by rw [upd_ne (ne_of_none q na)]; exact q⟩
  · rw [upd_ne (Ne.symm nL)]
    exact I.free
  · rw [upd_ne (nc x c e)]
    exact I.freeC x c e
  · obtain ⟨e1, e2, e3, e4, e5⟩ := I.pin p hp
    exact ⟨e1, by rw [upd_ne (np p hp)]; exact e2, e3, e4, e5⟩
  · by_cases hb : b = a
    · subst hb
      rw [upd_same] at e
      cases e
      exact exq_ok ha hz hd
    · rw [upd_ne hb] at e
      exact (I.hok b u e).stay (fun _ _ _ q => q) (fun c q => by rw [upd_ne (ne_of_none q na)]; exact q) fun c xs q => by rw [upd_ne (ne_of_none q na)]; exact q
/-- the suite's context bears no pin of the exception -/
theorem Inv.suiteT (I : Inv X pins σ H s) (a : Addr) : Inv (X.suite a (X.pn ++ pins)) [] σ H s :=
  ⟨I.ok.suite _ _, I.os, I.bare, I.base, I.loc, I.cell, I.free, I.freeC, fun p hp => I.pin p (by rw [List.append_nil] at hp; exact hp), I.hok, I.len⟩
theorem Inv.unsuiteT {pn' : List (Addr × Obj)} (I : Inv (X.suite a (X.pn ++ pins)) pn' σ H s) (ok : X.Ok) : Inv X pins σ H s :=
  ⟨ok, I.os, I.bare, I.base, I.loc, I.cell, I.free, I.freeC, fun p hp => I.pin p (List.mem_append_left _ hp), I.hok, I.len⟩
end

/-- the ends of a suite whose name stands at i -/
def endsAt (D : Ends) (i : Nat) : Ends := { nx := fun σ' H' => D.nx (σ'.set i none) H', rt := D.rt, bk := fun σ' H' => D.bk (σ'.set i none) H', ct := fun σ' H' => D.ct (σ'.set i none) H' }
abbrev Hd := Value × Option Nat × TS
/-- what the clauses wish of an exception of the body -/
def wTry (K : PySem.W.Frag) (Wout : WX) (D : Ends) : List Hd → WX
  | [] => Wout
  | (c, none, ts) :: r => fun cls d σ H => ∃ b, PySem.W.exmOne K cls c = some b ∧ (b = true → ∀ a, H a = none → ts D σ (upd H a (exq a cls d))) ∧ (b = false → wTry K Wout D r cls d σ H)
  | (c, some i, ts) :: r => fun cls d σ H => ∃ b, PySem.W.exmOne K cls c = some b ∧ (b = true → ∀ a, H a = none → ts (endsAt D i) (σ.set i (some (.ref a))) (upd H a (exq a cls d))) ∧ (b = false → wTry K Wout D r cls d σ H)
inductive HdsT (X : Cx) : List ExceptHandler → List Hd → Prop
  | nil : HdsT X [] []
  | only {x : Str} {c : Value} {ts : TS} {b₀ : Stmt} {suite : List Stmt} {np pos' : Pos} {hds : List ExceptHandler} {l : List Hd} (hc : Names X x c)
      (hsu : ∀ (a : Addr) (pn : List (Addr × Obj)), PSs (X.suite a pn) (b₀ :: suite) ts) (r : HdsT X hds l) : HdsT X (.ExceptHandler (some (.Name x np)) none (b₀ :: suite) pos' :: hds) ((c, none, ts) :: l)
  | as_ {x n : Str} {i : Nat} {c : Value} {ts : TS} {b₀ : Stmt} {suite : List Stmt} {np pos' : Pos} {hds : List ExceptHandler} {l : List Hd} (hc : Names X x c) (hi : X.N[i]? = some n) (hln : X.env.kindOf n = some .local)
      (hsu : ∀ (a : Addr) (pn : List (Addr × Obj)), PSs (X.suite a pn) (b₀ :: suite) ts) (r : HdsT X hds l) : HdsT X (.ExceptHandler (some (.Name x np)) (some n) (b₀ :: suite) pos' :: hds) ((c, some i, ts) :: l)
section
variable {X : Cx} {body : List Stmt} {h₀ : ExceptHandler} {hds : List ExceptHandler} {l : List Hd} {pos : Pos} {tb : WX → TS} {Wout : WX}
theorem ps_tryT (hs : X.stack = X.env :: X.outer) (hf : X.env.frame = some X.env.locals) (hex : X.ex = []) (hN : X.N.Nodup) (tk : Takes X Wout)
    (hb : ∀ (W : WX) (pn : List (Addr × Obj)) (xe : Value → Shared → Prop), Takes (X.tr pn xe) W → PassesOwn (model X.prog X.w) X.A X.env xe → PSs (X.tr pn xe) body (tb W))
    (hh : HdsT X (h₀ :: hds) l) : PS X (.Try body (h₀ :: hds) [] [] pos) (fun D σ H => tb (wTry X.K Wout D l) D σ H) := by
  refine ⟨fun pins s σ H D I h => ?_⟩
  have ok := I.ok
  have hfr : X.A.frames = some (X.env :: X.outer) := by rw [ok.frames, hs]
  refine wpAny_Try_except ?_
  refine wpAny_mono ((hb (wTry X.K Wout D l) (X.pn ++ pins) (fun e s₁ => wpAny (model X.prog X.w) X.A (noteFrame e X.env) (fun _ s₂ => wpAny (model X.prog X.w) X.A (setFlight e none) (fun _ s₃ =>
    wpAny (model X.prog X.w) X.A (handleBy e X.env (h₀ :: hds)) (SP X pins D) X.xe s₃) X.xe s₂) X.xe s₁) (fun u s' xx => ?_) PassesOwn.looking).run [] s σ H D (I.toTry _) h) (fun f s1 hsp => ?_) (fun e s1 he => he)
  · -- the catch
    obtain ⟨a, B, sI, pins', σ', H', cls, d, rfl, J', nb, up, sky, na, os, ag, w⟩ := xx
    have J : Inv X pins σ' H' sI := J'.ofTry ok
    have sky' : Sky B (X.env :: X.outer) a (Zc cls d) X.env.locals s'.heap := by rw [← hs]; exact sky
    show wpAny (model X.prog X.w) X.A (noteFrame (.ref a) X.env) _ _ _
    refine Sky.land Zc.steady hfr hf sky' fun h3 fl3 up3 => ?_
    have J3 : Inv X pins σ' H' { s' with heap := h3 } := J.landed nb fl3.1 (up.trans up3) os ag
    obtain ⟨oe3, vs3, he3, hz3, hd3⟩ := fl3.there
    have notFr : ∀ {h : Heap} {o : Obj} {vs : Array Value}, h.FunFrames B (X.env :: X.outer) → h.get? a = some o → o.data = .fields vs → a ∉ frs (X.env :: X.outer) := fun {h o vs} ff e dd hm => by
      obtain ⟨_, o', e', hnf⟩ := ff.mem hm
      rw [e] at e'; cases e'
      exact hnf _ dd
    have nfr := notFr fl3.2.2.1 he3 hd3
    have nL : a ≠ X.env.locals := fun z => nfr (List.mem_filterMap.mpr ⟨X.env, List.mem_cons_self, by rw [hf, z]⟩)
    have nF : a ∉ X.fs := fun hm => by
      obtain ⟨e, he, q⟩ := List.mem_filterMap.mp hm
      exact nfr (List.mem_filterMap.mpr ⟨e, List.mem_cons_of_mem _ he, q⟩)
    have nB : B.get? a = none := fl3.2.1
    have inB : ∀ b o, sI.heap.get? b = some o → b ∉ frs X.stack → b ≠ a := fun b o e hb z => by
      have q := nb b o e hb
      rw [z, nB] at q
      cases q
    have nSt : a ∉ frs X.stack := by rw [hs]; exact nfr
    have n0 : X.s_0.heap.get? a = none := by
      cases q : X.s_0.heap.get? a with
      | none => rfl
      | some o =>
        obtain ⟨o', e⟩ := J.base.there a o q (by rw [hex]; exact fun z => nomatch z)
        exact absurd rfl (inB a o' e nSt)
    have np : ∀ p ∈ X.pn ++ pins, p.1 ≠ a := fun p hp => by
      obtain ⟨e1, _, e3, e4, _⟩ := J.pin p hp
      refine inB p.1 p.2 e1 fun hm => ?_
      rw [hs] at hm
      obtain ⟨e, he, q⟩ := List.mem_filterMap.mp hm
      rcases List.mem_cons.mp he with z | z
      · rw [z, hf] at q
        exact e3 (Option.some.inj q).symm
      · exact e4 (List.mem_filterMap.mpr ⟨e, z, q⟩)
    have S3 := J3.suite he3 hd3 na nL nF
    have go : ∀ {hds' : List ExceptHandler} {l' : List Hd}, HdsT X hds' l' → wTry X.K Wout D l' cls d σ' H' →
        wpAny (model X.prog X.w) X.A (handleBy (.ref a) X.env hds') (SP X pins D) X.xe { s' with heap := h3 } := by
      intro hds' l' hk
      have test : ∀ {x : Str} {c : Value} {np : Pos}, Names X x c → ∀ {Q : Value → Shared → Prop} {E : Value → Shared → Prop}, Q c { s' with heap := h3 } → wpAny (model X.prog X.w) (X.A.mark (some (.ref a))) (eval (.Name x np) X.env) Q E { s' with heap := h3 } := fun {x c np} hc {Q E} q => by
        obtain ⟨hg, hdbg, hm | ⟨hm, hv, hnn⟩⟩ := hc
        · exact ld_glob (X := X.suite a ((a, oe3) :: (X.pn ++ pins))) S3 hg hm q hdbg
        · exact ld_blt (X := X.suite a ((a, oe3) :: (X.pn ++ pins))) S3 hg hm hv q hnn hdbg
      have LT : PySem.W.Looks (model X.prog X.w) h3 (typeOf (.ref a)) cls := fun A Q E s k q => wpAny_typeOf_ref (k _ _ he3) (by rw [hz3.1]; exact q)
      induction hk with
      | nil =>
        intro w
        refine wpAny_handleBy_nil ?_
        obtain ⟨k1, k2, k3, oe, vs, T, oT, ts', he, hz, hd, h1, hr⟩ := id fl3
        unfold PySem.passOn
        refine wpAny_bind (wpAny_field he hd h1 ?_)
        rw [if_neg (show ¬ ((Value.ref T == Value.none) = true) from by simp)]
        have fin : wpAny (model X.prog X.w) X.A (setFlight (.ref a) X.env.frame) (fun _ s4 => wpAny (model X.prog X.w) X.A (throw (.ref a) : Sem Flow) (SP X pins D) X.xe s4) X.xe { s' with heap := h3 } := by
          rw [hf]
          refine HandSPX.setFlight_upZ fl3 fun h4 hh4 up4 => wpAny_throw (tk _ _ ?_)
          exact ⟨a, B, sI, pins, σ', H', cls, d, rfl, J, nb, (up.trans up3).trans up4, .inr (.inr (by rw [hs]; exact hh4)), na, os, ag, w⟩
        first
          | exact wpAny_bind (wpAny_pure (wpAny_bind fin))
          | exact wpAny_bind fin
      | @only x c ts b₀ suite np' pos' hds2 l2 hc hsu r ih =>
        intro w
        obtain ⟨b, hb1, hyes, hno⟩ := w
        refine wpAny_handleBy_cons (codeAny_handlers_test ?_) (by intro q; cases q)
        have LM := PySem.W.exm_one (M := model X.prog X.w) (J3.kIn) LT hb1
        refine test hc (LM.here ?_)
        cases b with
        | true =>
          refine codeAny_handlers_suite ?_
          refine HandSPX.lands_againZ fl3 fun h4 fl4 up4 => ?_
          have J4 : Inv X pins σ' H' { s' with heap := h4 } := J.landed nb fl4.1 ((up.trans up3).trans up4) os ag
          obtain ⟨oe4, vs4, he4, hz4, hd4⟩ := fl4.there
          have S4 := (J4.track he4 hz4 hd4 na n0 nL np).suiteT a
          refine wpAny_mono ((hsu a (X.pn ++ pins)).run [] _ _ _ _ S4 (hyes rfl a na)) (fun f s6 hsp => ?_) (fun _ _ z => False.elim z)
          cases f with
          | next =>
            obtain ⟨σ6, H6, S6, q6⟩ := hsp
            exact ⟨_, _, S6.unsuiteT ok, q6⟩
          | brk =>
            obtain ⟨σ6, H6, S6, q6⟩ := hsp
            exact ⟨_, _, S6.unsuiteT ok, q6⟩
          | cont =>
            obtain ⟨σ6, H6, S6, q6⟩ := hsp
            exact ⟨_, _, S6.unsuiteT ok, q6⟩
          | ret u =>
            obtain ⟨v6, σ6, H6, S6, r6, q6⟩ := hsp
            exact ⟨_, _, _, S6.unsuiteT ok, r6, q6⟩
        | false =>
          show wpAny _ X.A (handleBy (.ref a) X.env hds2) _ _ _
          exact ih (hno rfl)
      | @as_ x n i c ts b₀ suite np' pos' hds2 l2 hc hi hln hsu r ih =>
        intro w
        obtain ⟨b, hb1, hyes, hno⟩ := w
        refine wpAny_handleBy_cons (codeAny_handlers_test ?_) (by intro q; cases q)
        have LM := PySem.W.exm_one (M := model X.prog X.w) (J3.kIn) LT hb1
        refine test hc (LM.here ?_)
        cases b with
        | true =>
          refine codeAny_handlers_suite_as ?_
          refine HandSPX.lands_againZ fl3 fun h4 fl4 up4 => ?_
          have J4 : Inv X pins σ' H' { s' with heap := h4 } := J.landed nb fl4.1 ((up.trans up3).trans up4) os ag
          obtain ⟨oe4, vs4, he4, hz4, hd4⟩ := fl4.there
          have S4 := (J4.track he4 hz4 hd4 na n0 nL np).suiteT a
          refine store_ok (X := X.suite a (X.pn ++ pins)) (v := .ref a) S4 hN hi (.inl hln) rfl (fun s5 S5 => ?_) (.inr hln)
          refine wpAny_mono ((hsu a (X.pn ++ pins)).run [] s5 _ _ _ S5 (hyes rfl a na)) (fun f s6 hsp => ?_) (fun _ _ z => False.elim z)
          have end_ : ∀ {σ6 : St} {H6 : Hp} {Q : Shared → Prop}, Inv (X.suite a (X.pn ++ pins)) [] σ6 H6 s6 → (∀ s7, Inv X pins (σ6.set i none) H6 s7 → Q s7) →
              wpAny (model X.prog X.w) X.A (do bindName X.env n .none; unbindBehindTheSuite X.env n pos') (fun _ s7 => Q s7) X.xe s6 := fun {σ6 H6 Q} S6 hq => gone_ok (S6.unsuiteT ok) hN hi hln hq
          cases f with
          | next =>
            obtain ⟨σ6, H6, S6, q6⟩ := hsp
            exact end_ S6 fun s7 J7 => ⟨_, _, J7, q6⟩
          | brk =>
            obtain ⟨σ6, H6, S6, q6⟩ := hsp
            exact end_ S6 fun s7 J7 => ⟨_, _, J7, q6⟩
          | cont =>
            obtain ⟨σ6, H6, S6, q6⟩ := hsp
            exact end_ S6 fun s7 J7 => ⟨_, _, J7, q6⟩
          | ret u =>
            obtain ⟨v6, σ6, H6, S6, r6, q6⟩ := hsp
            exact end_ S6 fun s7 J7 => ⟨_, _, _, J7, r6, q6⟩
        | false =>
          show wpAny _ X.A (handleBy (.ref a) X.env hds2) _ _ _
          exact ih (hno rfl)
    exact go hh w
  · cases f with
    | next =>
      obtain ⟨σ', H', J', q⟩ := hsp
      exact wpAny_execs_nil ⟨σ', H', J'.ofTry ok, q⟩
    | brk =>
      obtain ⟨σ', H', J', q⟩ := hsp
      exact ⟨σ', H', J'.ofTry ok, q⟩
    | cont =>
      obtain ⟨σ', H', J', q⟩ := hsp
      exact ⟨σ', H', J'.ofTry ok, q⟩
    | ret u =>
      obtain ⟨v, σ', H', J', r, q⟩ := hsp
      exact ⟨v, σ', H', J'.ofTry ok, r, q⟩
end

/-! ### isinstance(e, C), e.f -/
/-- what the class must say -/
structure ExcT (K : PySem.W.Frag) (C : Addr) : Prop where
  ga : PySem.W.findIn K (.ref C) "__getattribute__" = some (some (.builtin "BaseException.__getattribute__"))
  gg : PySem.W.findIn K (.ref C) "__getattr__" = some none
  exC : PySem.W.subIn K (.ref C) (.type "BaseException") = some true
  hdC : PySem.W.hasDictIn K C = true
  cls : (PySem.W.clsIn K C).isSome = true
  ca : PySem.W.findIn K (.ref C) "__class__" = some (some (.builtin "object.__class__"))
  cg : PySem.W.specialIn K (.builtin "object.__class__") "__get__" = some (some (.builtin "getset_descriptor.__get__"))
  ct : PySem.W.takesIn K (.builtin "object.__class__") = some true
  cm : PySem.W.mroIn K C (.type "object") = some true
def rIsQ (K : PySem.W.Frag) : List V → Hp → VK → Prop := fun xs H Q => ∃ (a C : Addr) (d : Option Addr) (c : V) (cv : Value) (b : Bool), xs = [.ref a, c] ∧ ExcT K C ∧ H a = some (exq a (.ref C) d) ∧ (∀ dd, d = some dd → ∃ fs, H dd = some (.xd fs)) ∧ (∀ u, RelV c u → u = cv) ∧ PySem.W.kitOne K (.ref C) cv = some b ∧ Q (.bl b) H
theorem inst_exq {X : Cx} {pins : List (Addr × Obj)} {σ : St} {H : Hp} {s : Shared} {a C : Addr} {d : Option Addr} (I : Inv X pins σ H s) (ha : H a = some (exq a (.ref C) d)) (hd : ∀ dd, d = some dd → ∃ fs, H dd = some (.xd fs)) :
    ∃ oe od, PySem.W.InstAt s.heap a oe C od ∧ ∀ dd fs, d = some dd → H dd = some (.xd fs) → ∃ mA o, od = some o ∧ s.heap.Ns1 dd mA ∧ (∀ f, RelO (fs.lookup f) (mA f)) ∧ s.heap.get? dd = some o := by
  obtain ⟨oe, vs, he, hz, hdt⟩ := exq_at I.hok ha
  cases d with
  | none =>
    exact ⟨oe, none, ⟨he, hz.1, by unfold PySem.W.notCls; rw [hdt] <;> rfl, by rw [hz.2]; trivial⟩, fun dd fs e => nomatch e⟩
  | some dd =>
    obtain ⟨fs, hx⟩ := hd dd rfl
    have hx' : ObjOk X.prog X.w H s.heap dd (.xd fs) := I.hok dd _ hx
    obtain ⟨mA, hns, hr⟩ := hx'
    obtain ⟨od, ho, hl⟩ := lookIn_ns hns
    refine ⟨oe, some od, ⟨he, hz.1, by unfold PySem.W.notCls; rw [hdt] <;> rfl, by rw [hz.2]; exact ho⟩, fun dd' fs' e e' => ?_⟩
    cases e
    rw [hx] at e'
    cases e'
    exact ⟨mA, od, rfl, hns, hr, ho⟩
theorem call_isQ {X : Cx} : CallR X (.builtin "isinstance") (rIsQ X.K) := by
  intro pins s σ H xs us Q I r h
  obtain ⟨a, C, d, c, cv, b, rfl, T, ha, hd, hcv, e, q⟩ := h
  cases r with
  | cons rx rr =>
    cases rr with
    | cons rt rr =>
      cases rr
      cases rx
      have ec := hcv _ rt
      subst ec
      obtain ⟨oe, od, J, _⟩ := inst_exq I ha hd
      exact PySem.W.kia_one (PySem.W.kitx_exc T.cls T.ga T.gg T.exC T.ca T.cg T.ct T.cm) I.kIn J e (fun z => nomatch z) fun tk => ⟨.bl b, H, I.kept (t' := tk) fun _ _ z => z, rfl, q⟩
/-- e.f -/
def tXq (K : PySem.W.Frag) (f : Str) (te : TE) : TE := fun σ H Q => te σ H fun x H1 => ∃ (a C dd : Addr) (fs : List (Str × V)) (v : V), x = .ref a ∧ ExcT K C ∧ PySem.W.findIn K (.ref C) f = some none ∧ H1 a = some (exq a (.ref C) (some dd)) ∧ H1 dd = some (.xd fs) ∧ fs.lookup f = some v ∧ Q v H1
theorem pe_xq {X : Cx} {e : Expr} {te : TE} {pos : Pos} {n : Str} (he : PE X e te) (hb : attributeBase e n X.env (eval e X.env) = eval e X.env := by rfl) : PE X (.Attribute e n pos) (tXq X.K n te) := by
  refine ⟨fun pins s σ H Q I h => ?_⟩
  refine attr_of hb (thn (he.run pins s σ H _ I h) fun u s1 hh => ?_)
  obtain ⟨x, H1, I1, rx, a, C, dd, fs, v, ex, T, hno, ha, hx, l, q⟩ := hh
  subst ex
  obtain rfl : u = Value.ref a := rx
  obtain ⟨oe, od, J, hJ⟩ := inst_exq I1 ha fun d' e => by cases e; exact ⟨fs, hx⟩
  obtain ⟨mA, o, rfl, hns, hr, ho⟩ := hJ dd fs rfl hx
  obtain ⟨u, hu, ru⟩ := RelO.some_of (v := v) (o := mA n) (by rw [← l]; exact hr n)
  obtain ⟨o', ho', hl⟩ := lookIn_ns hns
  rw [ho] at ho'
  cases ho'
  exact HandSPX.exc_get I1.kIn J T.ga T.gg T.exC (PySem.W.findObj_own T.hdC hno rfl (by rw [hl, hu])) (handed_of ru) ⟨v, H1, I1.tok _, ru, q⟩
end L2

/-! DD1: values as data, the store of what may change, how they stand in the abstract heap -/
namespace DD
open PySem PySem.Spec PyProof.Rows L2

/-- a value as data; cell n: the n-th thing of the store (it may change) -/
inductive D where
  | non | bl (b : Bool) | int (i : Int) | str (x : Str)
  | tup (xs : List D) | lst (xs : List D) | rol (xs : List D)
  | obj (c : Nat) (fs : List (Str × D))
  | cell (n : Nat)
  | ty (n : String) | cls (c : Nat)
  | exn (c : Nat) (fs : List (Str × D))

/-- what may change: a list, an instance of the c-th class -/
inductive Cell where
  | lst (xs : List D)
  | obj (c : Nat) (fs : List (Str × D))
  | dct (kvs : List (Key × D))

abbrev Sto := List (Option Cell)
abbrev DEnv := List (Option D)
/-- how a piece of code ends: a value; an exception of the c-th class with its fields; not told -/
inductive Out (α : Type) where
  | ok (a : α) (S : Sto)
  | exc (c : Nat) (fs : List (Str × D)) (S : Sto)
  | bad
def M (α : Type) := Sto → Out α
def M.pure {α : Type} (a : α) : M α := fun S => .ok a S
def M.bind {α β : Type} (m : M α) (k : α → M β) : M β := fun S => match m S with
  | .ok a S' => k a S'
  | .exc c fs S' => .exc c fs S'
  | .bad => .bad
instance : Monad M where
  pure := M.pure
  bind := M.bind
def M.bad {α : Type} : M α := fun _ => .bad
def M.exc {α : Type} (c : Nat) (fs : List (Str × D)) : M α := fun S => .exc c fs S
theorem M.pure_run {α : Type} (a : α) (S : Sto) : (Pure.pure a : M α) S = .ok a S := rfl
theorem M.bind_run {α β : Type} (m : M α) (k : α → M β) (S : Sto) : (m >>= k) S = (match m S with
  | .ok a S' => k a S'
  | .exc c fs S' => .exc c fs S'
  | .bad => .bad) := rfl

/-- the written part, where the own classes stand -/
structure Gx where
  K : PySem.W.Frag
  ca : Nat → Addr

/-- what is told of the run: where the cells stand, which lists are being made -/
structure Gh where
  m : List Addr
  ex : List Addr
def Live (μ : Gh) (S : Sto) (a : Addr) : Prop := ∃ (n : Nat) (c : Cell), S[n]? = some (some c) ∧ μ.m[n]? = some a
/-- a list, a tuple, that stays as it is -/
def Held (μ : Gh) (S : Sto) (a : Addr) : Prop := Live μ S a ∨ a ∈ μ.ex
def FzL (μ : Gh) (S : Sto) (H : Hp) (a : Addr) (xs : List V) : Prop := H a = some (.lst xs) ∧ ¬ Held μ S a
/-- a list that is read alone (the script) -/
def RoL (g : Gx) (H : Hp) (a : Addr) (xs : List V) : Prop :=
  (∃ o, H a = some (.frz o (.lst xs))) ∨
    ∃ (o : Obj) (its : Array Value) (n : Nat), g.K.lookup a = some o ∧ o.cls = .type "list" ∧ o.dict = none ∧ o.data = .seq its n ∧ its.size ≤ sizeLine ∧ Vals xs its.toList
def FzT (g : Gx) (μ : Gh) (S : Sto) (H : Hp) (a : Addr) (xs : List V) : Prop :=
  (Rd H a (.tup xs) ∧ ¬ Held μ S a) ∨
    ∃ (o : Obj) (its : Array Value) (n : Nat), g.K.lookup a = some o ∧ o.cls = .type "tuple" ∧ o.data = .seq its n ∧ its.size ≤ sizeLine ∧ Vals xs its.toList
theorem FzL.sq {K : PySem.W.Frag} {μ : Gh} {S : Sto} {H : Hp} {a : Addr} {xs : List V} (h : FzL μ S H a xs) : SqL K H a xs := .inl (.inl h.1)
theorem RoL.sq {g : Gx} {H : Hp} {a : Addr} {xs : List V} (h : RoL g H a xs) : SqL g.K H a xs := by
  rcases h with h | h
  · exact .inl (.inr h)
  · exact .inr h
theorem FzT.sq {g : Gx} {μ : Gh} {S : Sto} {H : Hp} {a : Addr} {xs : List V} (h : FzT g μ S H a xs) : SqT g.K H a xs := by
  rcases h with h | h
  · exact .inl h.1
  · exact .inr h

mutual
inductive Rep (g : Gx) (μ : Gh) (S : Sto) (H : Hp) : V → D → Prop where
  | non : Rep g μ S H .non .non
  | bl (b : Bool) : Rep g μ S H (.bl b) (.bl b)
  | int (i : Int) : Rep g μ S H (.int i) (.int i)
  | str (x : Str) : Rep g μ S H (.str x) (.str x)
  | tup {a : Addr} {xs : List V} {ds : List D} : FzT g μ S H a xs → RepAll g μ S H xs ds → Rep g μ S H (.ref a) (.tup ds)
  | lst {a : Addr} {xs : List V} {ds : List D} : FzL μ S H a xs → RepAll g μ S H xs ds → Rep g μ S H (.ref a) (.lst ds)
  | obj {a dx : Addr} {c : Nat} {vs : List (Str × V)} {fs : List (Str × D)} : H a = some (.ins (g.ca c) dx vs) → ¬ Held μ S a → RepF g μ S H vs fs → Rep g μ S H (.ref a) (.obj c fs)
  | rol {a : Addr} {xs : List V} {ds : List D} : RoL g H a xs → RepAll g μ S H xs ds → Rep g μ S H (.ref a) (.rol ds)
  | cell {a : Addr} {n : Nat} : μ.m[n]? = some a → Rep g μ S H (.ref a) (.cell n)
  | ty (n : String) : Rep g μ S H (.ty n) (.ty n)
  | cls (c : Nat) : Rep g μ S H (.ref (g.ca c)) (.cls c)
  | exn0 {a : Addr} {c : Nat} : H a = some (exq a (.ref (g.ca c)) none) → ¬ Held μ S a → Rep g μ S H (.ref a) (.exn c [])
  | exn1 {a dx : Addr} {c : Nat} {vs : List (Str × V)} {fs : List (Str × D)} : H a = some (exq a (.ref (g.ca c)) (some dx)) → ¬ Held μ S a → H dx = some (.xd vs) → ¬ Held μ S dx → RepF g μ S H vs fs → Rep g μ S H (.ref a) (.exn c fs)
inductive RepAll (g : Gx) (μ : Gh) (S : Sto) (H : Hp) : List V → List D → Prop where
  | nil : RepAll g μ S H [] []
  | cons {v : V} {vs : List V} {d : D} {ds : List D} : Rep g μ S H v d → RepAll g μ S H vs ds → RepAll g μ S H (v :: vs) (d :: ds)
inductive RepF (g : Gx) (μ : Gh) (S : Sto) (H : Hp) : List (Str × V) → List (Str × D) → Prop where
  | nil : RepF g μ S H [] []
  | cons {f : Str} {v : V} {vs : List (Str × V)} {d : D} {ds : List (Str × D)} : Rep g μ S H v d → RepF g μ S H vs ds → RepF g μ S H ((f, v) :: vs) ((f, d) :: ds)
end

/-- a dict's pairs: the same keys -/
inductive RepK (g : Gx) (μ : Gh) (S : Sto) (H : Hp) : List (Key × V) → List (Key × D) → Prop where
  | nil : RepK g μ S H [] []
  | cons {k : Key} {v : V} {vs : List (Key × V)} {d : D} {ds : List (Key × D)} : Rep g μ S H v d → RepK g μ S H vs ds → RepK g μ S H ((k, v) :: vs) ((k, d) :: ds)
def CellAt (g : Gx) (μ : Gh) (S : Sto) (H : Hp) (a : Addr) : Cell → Prop
  | .dct ds => ∃ vs, H a = some (.dK vs) ∧ RepK g μ S H vs ds
  | .lst ds => ∃ xs, H a = some (.lst xs) ∧ RepAll g μ S H xs ds
  | .obj c fs => ∃ dx vs, H a = some (.ins (g.ca c) dx vs) ∧ RepF g μ S H vs fs
structure StoOk (g : Gx) (μ : Gh) (S : Sto) (H : Hp) : Prop where
  len : μ.m.length = S.length
  nex : ∀ a, Live μ S a → a ∉ μ.ex
  ext : ∀ a, a ∈ μ.ex → H a ≠ none
  inj : ∀ (n m : Nat) (c c' : Cell) (a : Addr), S[n]? = some (some c) → S[m]? = some (some c') → μ.m[n]? = some a → μ.m[m]? = some a → n = m
  at_ : ∀ (n : Nat) (c : Cell), S[n]? = some (some c) → ∃ a, μ.m[n]? = some a ∧ CellAt g μ S H a c
theorem StoOk.there {g : Gx} {μ : Gh} {S : Sto} {H : Hp} (k : StoOk g μ S H) {a : Addr} (l : Live μ S a) : H a ≠ none := by
  obtain ⟨n, c, e1, e2⟩ := l
  obtain ⟨b, e3, q⟩ := k.at_ n c e1
  rw [e2] at e3
  cases e3
  cases c with
  | lst ds =>
    obtain ⟨xs, h, _⟩ := q
    rw [h]
    exact fun z => nomatch z
  | obj c fs =>
    obtain ⟨dx, vs, h, _⟩ := q
    rw [h]
    exact fun z => nomatch z
  | dct ds =>
    obtain ⟨vs, h, _⟩ := q
    rw [h]
    exact fun z => nomatch z
theorem StoOk.newL {g : Gx} {μ : Gh} {S : Sto} {H : Hp} (k : StoOk g μ S H) {p : Addr} (h : H p = none) : ¬ Live μ S p := fun l => k.there l h
theorem StoOk.new {g : Gx} {μ : Gh} {S : Sto} {H : Hp} (k : StoOk g μ S H) {p : Addr} (h : H p = none) : ¬ Held μ S p := fun l => l.elim (fun l => k.there l h) fun l => k.ext p l h

/-- from one state to a later one -/
structure Step (μ : Gh) (S : Sto) (H : Hp) (μ' : Gh) (S' : Sto) (H' : Hp) : Prop where
  pre : μ.m <+: μ'.m
  ex : ∀ a, a ∈ μ.ex → a ∈ μ'.ex
  frz : ∀ {a : Addr} {o : Obj} {u : HO}, H a = some (.frz o u) → H' a = some (.frz o u)
  keep : ∀ a o, ¬ Live μ S a → H a = some o → H' a = some o
  live : ∀ a, Live μ' S' a → Live μ S a ∨ H a = none
  exh : ∀ a, a ∈ μ'.ex → a ∈ μ.ex ∨ H a = none
  there : ∀ a, H' a = none → H a = none
theorem Step.refl (μ : Gh) (S : Sto) (H : Hp) : Step μ S H μ S H := ⟨List.prefix_refl _, fun _ h => h, fun h => h, fun _ _ _ h => h, fun _ h => .inl h, fun _ h => .inl h, fun _ h => h⟩
theorem Step.trans {μ μ1 μ2 : Gh} {S S1 S2 : Sto} {H H1 H2 : Hp} (a : Step μ S H μ1 S1 H1) (b : Step μ1 S1 H1 μ2 S2 H2) : Step μ S H μ2 S2 H2 := by
  refine ⟨a.pre.trans b.pre, fun x h => b.ex x (a.ex x h), fun h => b.frz (a.frz h), fun x o n h => b.keep x o (fun l => ?_) (a.keep x o n h), fun x l => ?_, fun x l => ?_, fun x h => a.there x (b.there x h)⟩
  · rcases a.live x l with z | z
    · exact n z
    · rw [h] at z; cases z
  · rcases b.live x l with z | z
    · exact a.live x z
    · exact .inr (a.there x z)
  · rcases b.exh x l with z | z
    · exact a.exh x z
    · exact .inr (a.there x z)
section
variable {g : Gx} {μ μ' : Gh} {S S' : Sto} {H H' : Hp}
/-- what is told of data needs of a step -/
structure StepR (μ : Gh) (S : Sto) (H : Hp) (μ' : Gh) (S' : Sto) (H' : Hp) : Prop where
  pre : μ.m <+: μ'.m
  frz : ∀ {a : Addr} {o : Obj} {u : HO}, H a = some (.frz o u) → H' a = some (.frz o u)
  keep : ∀ a o, ¬ Held μ S a → H a = some o → H' a = some o
  held : ∀ a, H a ≠ none → Held μ' S' a → Held μ S a
theorem Step.held (t : Step μ S H μ' S' H') {a : Addr} (h : H a ≠ none) (n : ¬ Held μ S a) : ¬ Held μ' S' a := fun l => by
  rcases l with l | l
  · rcases t.live a l with z | z
    · exact n (.inl z)
    · exact h z
  · rcases t.exh a l with z | z
    · exact n (.inr z)
    · exact h z
theorem Step.toR (t : Step μ S H μ' S' H') : StepR μ S H μ' S' H' := ⟨t.pre, t.frz, fun a o n h => t.keep a o (fun l => n (.inl l)) h, fun a h l => by
  by_cases q : Held μ S a
  · exact q
  · exact absurd l (t.held h q)⟩
theorem StepR.rd (t : StepR μ S H μ' S' H') {a : Addr} {u : HO} (h : Rd H a u) (n : ¬ Held μ S a) : Rd H' a u ∧ ¬ Held μ' S' a := by
  have ne : H a ≠ none := by
    rcases h with h | ⟨o, h⟩ <;> rw [h] <;> exact fun z => nomatch z
  refine ⟨?_, fun l => n (t.held a ne l)⟩
  rcases h with h | ⟨o, h⟩
  · exact .inl (t.keep a _ n h)
  · exact .inr ⟨o, t.frz h⟩
theorem Step.rd (t : Step μ S H μ' S' H') {a : Addr} {u : HO} (h : Rd H a u) (n : ¬ Held μ S a) : Rd H' a u ∧ ¬ Held μ' S' a := by
  have ne : H a ≠ none := by
    rcases h with h | ⟨o, h⟩ <;> rw [h] <;> exact fun z => nomatch z
  refine ⟨?_, t.held ne n⟩
  rcases h with h | ⟨o, h⟩
  · exact .inl (t.keep a _ (fun l => n (.inl l)) h)
  · exact .inr ⟨o, t.frz h⟩
theorem prefix_get {α : Type} {l l' : List α} (h : l <+: l') {n : Nat} {a : α} (e : l[n]? = some a) : l'[n]? = some a := by
  obtain ⟨t, rfl⟩ := h
  rw [List.getElem?_append_left (List.getElem?_eq_some_iff.mp e).1]
  exact e
mutual
theorem Rep.stepR (t : StepR μ S H μ' S' H') : ∀ {v : V} {d : D}, Rep g μ S H v d → Rep g μ' S' H' v d
  | _, _, .non => .non
  | _, _, .bl b => .bl b
  | _, _, .int i => .int i
  | _, _, .str x => .str x
  | _, _, .tup h r => .tup (by
      rcases h with ⟨h, n⟩ | h
      · exact .inl (t.rd h n)
      · exact .inr h) (RepAll.stepR t r)
  | _, _, .lst h r => .lst (by
      obtain ⟨q, n⟩ := t.rd (.inl h.1) h.2
      exact ⟨t.keep _ _ h.2 h.1, n⟩) (RepAll.stepR t r)
  | _, _, .rol h r => .rol (by
      rcases h with ⟨o, h⟩ | h
      · exact .inl ⟨o, t.frz h⟩
      · exact .inr h) (RepAll.stepR t r)
  | _, _, .obj h n r => .obj (t.keep _ _ n h) (fun l => n (t.held _ (by rw [h]; exact fun z => nomatch z) l)) (RepF.stepR t r)
  | _, _, .cell e => .cell (prefix_get t.pre e)
  | _, _, .ty n => .ty n
  | _, _, .cls c => .cls c
  | _, _, .exn0 h n => .exn0 (t.keep _ _ n h) (fun l => n (t.held _ (by rw [h]; exact fun z => nomatch z) l))
  | _, _, .exn1 h n hx nx r => .exn1 (t.keep _ _ n h) (fun l => n (t.held _ (by rw [h]; exact fun z => nomatch z) l)) (t.keep _ _ nx hx) (fun l => nx (t.held _ (by rw [hx]; exact fun z => nomatch z) l)) (RepF.stepR t r)
theorem RepAll.stepR (t : StepR μ S H μ' S' H') : ∀ {vs : List V} {ds : List D}, RepAll g μ S H vs ds → RepAll g μ' S' H' vs ds
  | _, _, .nil => .nil
  | _, _, .cons r q => .cons (Rep.stepR t r) (RepAll.stepR t q)
theorem RepF.stepR (t : StepR μ S H μ' S' H') : ∀ {vs : List (Str × V)} {ds : List (Str × D)}, RepF g μ S H vs ds → RepF g μ' S' H' vs ds
  | _, _, .nil => .nil
  | _, _, .cons r q => .cons (Rep.stepR t r) (RepF.stepR t q)
end
theorem Rep.step (t : Step μ S H μ' S' H') {v : V} {d : D} (r : Rep g μ S H v d) : Rep g μ' S' H' v d := r.stepR t.toR
theorem RepAll.step (t : Step μ S H μ' S' H') {vs : List V} {ds : List D} (r : RepAll g μ S H vs ds) : RepAll g μ' S' H' vs ds := r.stepR t.toR
theorem RepF.step (t : Step μ S H μ' S' H') {vs : List (Str × V)} {ds : List (Str × D)} (r : RepF g μ S H vs ds) : RepF g μ' S' H' vs ds := r.stepR t.toR
theorem RepK.stepR (t : StepR μ S H μ' S' H') {vs : List (Key × V)} {ds : List (Key × D)} (r : RepK g μ S H vs ds) : RepK g μ' S' H' vs ds := by
  induction r with
  | nil => exact .nil
  | cons r _ ih => exact .cons (r.stepR t) ih
theorem RepK.step (t : Step μ S H μ' S' H') {vs : List (Key × V)} {ds : List (Key × D)} (r : RepK g μ S H vs ds) : RepK g μ' S' H' vs ds := by
  induction r with
  | nil => exact .nil
  | cons r _ ih => exact .cons (r.step t) ih
theorem RepAll.length : ∀ {vs : List V} {ds : List D}, RepAll g μ S H vs ds → vs.length = ds.length
  | _, _, .nil => rfl
  | _, _, .cons _ q => congrArg Nat.succ (RepAll.length q)
theorem RepAll.append : ∀ {vs ws : List V} {ds es : List D}, RepAll g μ S H vs ds → RepAll g μ S H ws es → RepAll g μ S H (vs ++ ws) (ds ++ es)
  | _, _, _, _, .nil, q => q
  | _, _, _, _, .cons r p, q => .cons r (RepAll.append p q)
theorem RepAll.get : ∀ {vs : List V} {ds : List D} {i : Nat} {d : D}, RepAll g μ S H vs ds → ds[i]? = some d → ∃ v, vs[i]? = some v ∧ Rep g μ S H v d
  | _, _, _, _, .nil, e => by simp at e
  | _, _, 0, _, .cons r _, e => by simp at e; subst e; exact ⟨_, rfl, r⟩
  | _, _, i + 1, _, .cons _ q, e => by
    obtain ⟨v, h1, h2⟩ := RepAll.get (i := i) q (by simpa using e)
    exact ⟨v, by simpa using h1, h2⟩
theorem RepAll.getV : ∀ {vs : List V} {ds : List D} {i : Nat} {v : V}, RepAll g μ S H vs ds → vs[i]? = some v → ∃ d, ds[i]? = some d ∧ Rep g μ S H v d
  | _, _, _, _, .nil, e => by simp at e
  | _, _, 0, _, .cons r _, e => by simp at e; subst e; exact ⟨_, rfl, r⟩
  | _, _, i + 1, _, .cons _ q, e => by
    obtain ⟨v, h1, h2⟩ := RepAll.getV (i := i) q (by simpa using e)
    exact ⟨v, by simpa using h1, h2⟩
theorem RepAll.take : ∀ {vs : List V} {ds : List D} (n : Nat), RepAll g μ S H vs ds → RepAll g μ S H (vs.take n) (ds.take n)
  | _, _, 0, _ => .nil
  | _, _, _ + 1, .nil => .nil
  | _, _, n + 1, .cons r q => .cons r (RepAll.take n q)
theorem RepAll.drop : ∀ {vs : List V} {ds : List D} (n : Nat), RepAll g μ S H vs ds → RepAll g μ S H (vs.drop n) (ds.drop n)
  | _, _, 0, q => q
  | _, _, _ + 1, .nil => .nil
  | _, _, n + 1, .cons _ q => RepAll.drop n q
theorem RepAll.set : ∀ {vs : List V} {ds : List D} (i : Nat) {v : V} {d : D}, RepAll g μ S H vs ds → Rep g μ S H v d → RepAll g μ S H (vs.set i v) (ds.set i d)
  | _, _, _, _, _, .nil, _ => .nil
  | _, _, 0, _, _, .cons _ q, r => .cons r q
  | _, _, i + 1, _, _, .cons p q, r => .cons p (RepAll.set i q r)
theorem RepAll.reverse : ∀ {vs : List V} {ds : List D}, RepAll g μ S H vs ds → RepAll g μ S H vs.reverse ds.reverse
  | _, _, .nil => .nil
  | _, _, .cons r q => by
    rw [List.reverse_cons, List.reverse_cons]
    exact RepAll.append (RepAll.reverse q) (.cons r .nil)
theorem RepF.lookup {f : Str} : ∀ {vs : List (Str × V)} {fs : List (Str × D)} {d : D}, RepF g μ S H vs fs → fs.lookup f = some d → ∃ v, vs.lookup f = some v ∧ Rep g μ S H v d
  | _, _, _, .nil, e => by simp at e
  | _, _, _, .cons (f := h) r q, e => by
    by_cases z : f = h
    · subst z
      rw [List.lookup_cons_self] at e ⊢
      cases e
      exact ⟨_, rfl, r⟩
    · have z' : (f == h) = false := beq_eq_false_iff_ne.mpr z
      rw [List.lookup_cons, z'] at e
      rw [List.lookup_cons, z']
      exact RepF.lookup q e
theorem RepF.length : ∀ {vs : List (Str × V)} {fs : List (Str × D)}, RepF g μ S H vs fs → vs.length = fs.length
  | _, _, .nil => rfl
  | _, _, .cons _ q => congrArg Nat.succ (RepF.length q)
/-- an attribute stored -/
def putD (f : Str) (d : D) : List (Str × D) → List (Str × D)
  | [] => [(f, d)]
  | (h, x) :: r => if h = f then (h, d) :: r else (h, x) :: putD f d r
theorem RepF.put {f : Str} {v : V} {d : D} (r : Rep g μ S H v d) : ∀ {vs : List (Str × V)} {fs : List (Str × D)}, RepF g μ S H vs fs → RepF g μ S H (putF f v vs) (putD f d fs)
  | _, _, .nil => .cons r .nil
  | _, _, .cons (f := h) (v := x) (vs := vs) (d := y) (ds := fs) p q => by
    show RepF g μ S H (if h = f then (h, v) :: vs else (h, x) :: putF f v vs) (if h = f then (h, d) :: fs else (h, y) :: putD f d fs)
    by_cases z : h = f
    · rw [if_pos z, if_pos z]
      exact .cons r q
    · rw [if_neg z, if_neg z]
      exact .cons p (RepF.put r q)
end

/-- the names' values -/
def EnvOk (g : Gx) (μ : Gh) (S : Sto) (H : Hp) (σ : L2.St) (ρ : DEnv) : Prop := σ.length = ρ.length ∧ ∀ (i : Nat) (d : D), ρ[i]? = some (some d) → ∃ v, σ[i]? = some (some v) ∧ Rep g μ S H v d
section
variable {g : Gx} {μ μ' : Gh} {S S' : Sto} {H H' : Hp} {σ : L2.St} {ρ : DEnv}
theorem EnvOk.step (t : Step μ S H μ' S' H') (h : EnvOk g μ S H σ ρ) : EnvOk g μ' S' H' σ ρ := ⟨h.1, fun i d e => by
  obtain ⟨v, e1, r⟩ := h.2 i d e
  exact ⟨v, e1, r.step t⟩⟩
theorem EnvOk.set (h : EnvOk g μ S H σ ρ) (i : Nat) {v : V} {d : D} (r : Rep g μ S H v d) : EnvOk g μ S H (σ.set i (some v)) (ρ.set i (some d)) := by
  refine ⟨by rw [List.length_set, List.length_set]; exact h.1, fun j e hj => ?_⟩
  by_cases z : i = j
  · subst z
    have hl : i < ρ.length := by
      have q := (List.getElem?_eq_some_iff.mp hj).1
      rw [List.length_set] at q
      exact q
    rw [List.getElem?_set_self hl] at hj
    cases hj
    rw [List.getElem?_set_self (by rw [h.1]; exact hl)]
    exact ⟨v, rfl, r⟩
  · rw [List.getElem?_set_ne z] at hj
    rw [List.getElem?_set_ne z]
    exact h.2 j e hj
/-- a name is gone -/
theorem EnvOk.unset (h : EnvOk g μ S H σ ρ) (i : Nat) {x : Option V} : EnvOk g μ S H (σ.set i x) (ρ.set i none) := by
  refine ⟨by rw [List.length_set, List.length_set]; exact h.1, fun j e hj => ?_⟩
  by_cases z : i = j
  · subst z
    have hl : i < ρ.length := by
      have q := (List.getElem?_eq_some_iff.mp hj).1
      rw [List.length_set] at q
      exact q
    rw [List.getElem?_set_self hl] at hj
    cases hj
  · rw [List.getElem?_set_ne z] at hj
    rw [List.getElem?_set_ne z]
    exact h.2 j e hj
end

/-- an error's dict (d: where) has its fields -/
def XcP (g : Gx) (μ : Gh) (S : Sto) (H : Hp) (d : Option Addr) (fs : List (Str × D)) : Prop := (d = none ∧ fs = []) ∨ ∃ dx vs, d = some dx ∧ H dx = some (.xd vs) ∧ ¬ Held μ S dx ∧ RepF g μ S H vs fs
/-- what is wanted of a piece of code that starts at (μ, S, H): Q of each value and later state, E of each exception -/
def Wp {α : Type} (g : Gx) (E : XK) (m : M α) (μ : Gh) (S : Sto) (H : Hp) (Q : α → Gh → Sto → Hp → Prop) : Prop :=
  match m S with
  | .ok a S' => ∀ μ' H', Step μ S H μ' S' H' → StoOk g μ' S' H' → Q a μ' S' H'
  | .exc c fs S' => ∀ μ' H' (d : Option Addr), Step μ S H μ' S' H' → StoOk g μ' S' H' → XcP g μ' S' H' d fs → E (.ref (g.ca c)) d H'
  | .bad => False
section
variable {α β : Type} {g : Gx} {E : XK} {μ : Gh} {S : Sto} {H : Hp}
theorem Wp.bind {m : M α} {k : α → M β} {Q : β → Gh → Sto → Hp → Prop} (h : Wp g E (m >>= k) μ S H Q) : Wp g E m μ S H fun a μ1 S1 H1 => Wp g E (k a) μ1 S1 H1 fun b μ2 S2 H2 => Step μ S H μ2 S2 H2 → Q b μ2 S2 H2 := by
  unfold Wp at h ⊢
  rw [M.bind_run] at h
  cases e : m S with
  | bad => rw [e] at h; exact h
  | exc c fs S1 => rw [e] at h; exact h
  | ok a S1 =>
    rw [e] at h
    intro μ1 H1 t1 k1
    dsimp only at h
    show match k a S1 with | .ok a S' => _ | .exc c fs S' => _ | .bad => _
    cases e2 : k a S1 with
    | bad => rw [e2] at h; exact h
    | exc c fs S2 =>
      rw [e2] at h
      exact fun μ2 H2 d t2 k2 q => h μ2 H2 d (t1.trans t2) k2 q
    | ok b S2 =>
      rw [e2] at h
      exact fun μ2 H2 t2 k2 t => h μ2 H2 t k2
theorem Wp.mono {m : M α} {Q Q' : α → Gh → Sto → Hp → Prop} (h : Wp g E m μ S H Q) (f : ∀ a μ' S' H', Step μ S H μ' S' H' → StoOk g μ' S' H' → Q a μ' S' H' → Q' a μ' S' H') : Wp g E m μ S H Q' := by
  unfold Wp at h ⊢
  cases e : m S with
  | bad => rw [e] at h; exact h
  | exc c fs S1 => rw [e] at h; exact h
  | ok a S1 =>
    rw [e] at h
    exact fun μ' H' t k => f _ _ _ _ t k (h μ' H' t k)
theorem Wp.of_ok {m : M α} {a : α} {S' : Sto} {Q : α → Gh → Sto → Hp → Prop} (e : m S = .ok a S') (h : ∀ μ' H', Step μ S H μ' S' H' → StoOk g μ' S' H' → Q a μ' S' H') : Wp g E m μ S H Q := by
  unfold Wp
  rw [e]
  exact h
theorem Wp.run {m : M α} {Q : α → Gh → Sto → Hp → Prop} (h : Wp g E m μ S H Q) : (∃ a S', m S = .ok a S' ∧ ∀ μ' H', Step μ S H μ' S' H' → StoOk g μ' S' H' → Q a μ' S' H') ∨
    ∃ c fs S', m S = .exc c fs S' ∧ ∀ μ' H' (d : Option Addr), Step μ S H μ' S' H' → StoOk g μ' S' H' → XcP g μ' S' H' d fs → E (.ref (g.ca c)) d H' := by
  unfold Wp at h
  cases e : m S with
  | bad => rw [e] at h; exact h.elim
  | exc c fs S1 =>
    rw [e] at h
    exact .inr ⟨c, fs, S1, rfl, h⟩
  | ok a S1 =>
    rw [e] at h
    exact .inl ⟨a, S1, rfl, h⟩
theorem Wp.of_exc {m : M α} {c : Nat} {fs : List (Str × D)} {S' : Sto} {Q : α → Gh → Sto → Hp → Prop} (e : m S = .exc c fs S')
    (h : ∀ μ' H' (d : Option Addr), Step μ S H μ' S' H' → StoOk g μ' S' H' → XcP g μ' S' H' d fs → E (.ref (g.ca c)) d H') : Wp g E m μ S H Q := by
  unfold Wp
  rw [e]
  exact h
theorem Wp.pure {a : α} {Q : α → Gh → Sto → Hp → Prop} (h : Wp g E (Pure.pure a : M α) μ S H Q) (k : StoOk g μ S H) : Q a μ S H := h μ H (Step.refl _ _ _) k
end
end DD

/-! DD2: operators on data, and why they are the machine's -/
namespace DD
open PySem PySem.Spec PyProof.Rows L2

def M.need (c : Prop) [Decidable c] : M Unit := fun S => if c then .ok () S else .bad
open Classical in
/-- as need, not to be worked out by the kernel -/
noncomputable def M.want (c : Prop) : M Unit := fun S => if c then .ok () S else .bad
def M.get {α : Type} (f : Sto → Option α) : M α := fun S => match f S with | some a => .ok a S | none => .bad
/-- the store is changed -/
def M.put (f : Sto → Sto) : M Unit := fun S => .ok () (f S)
section
variable {α : Type} {g : Gx} {E : XK} {μ : Gh} {S : Sto} {H : Hp}
theorem Wp.need {c : Prop} [Decidable c] {Q : Unit → Gh → Sto → Hp → Prop} (h : Wp g E (M.need c) μ S H Q) (k : StoOk g μ S H) : c ∧ Q () μ S H := by
  unfold Wp M.need at h
  by_cases hc : c
  · rw [if_pos hc] at h
    exact ⟨hc, h μ H (Step.refl _ _ _) k⟩
  · rw [if_neg hc] at h
    exact h.elim
theorem Wp.want {c : Prop} {Q : Unit → Gh → Sto → Hp → Prop} (h : Wp g E (M.want c) μ S H Q) (k : StoOk g μ S H) : c ∧ Q () μ S H := by
  unfold Wp M.want at h
  by_cases hc : c
  · rw [if_pos hc] at h
    exact ⟨hc, h μ H (Step.refl _ _ _) k⟩
  · rw [if_neg hc] at h
    exact h.elim
theorem Wp.get {f : Sto → Option α} {Q : α → Gh → Sto → Hp → Prop} (h : Wp g E (M.get f) μ S H Q) (k : StoOk g μ S H) : ∃ a, f S = some a ∧ Q a μ S H := by
  unfold Wp M.get at h
  cases e : f S with
  | none => rw [e] at h; exact h.elim
  | some a =>
    rw [e] at h
    exact ⟨a, rfl, h μ H (Step.refl _ _ _) k⟩
/-- a new object beside -/
theorem Step.alloc {p : Addr} {o : HO} (h : H p = none) : Step μ S H μ S (upd H p o) := by
  refine ⟨List.prefix_refl _, fun _ h => h, fun e => ?_, fun a u _ e => ?_, fun a l => .inl l, fun a l => .inl l, fun a e => ?_⟩
  · rw [upd_ne (ne_of_none e h)]; exact e
  · rw [upd_ne (ne_of_none e h)]; exact e
  · by_cases z : a = p
    · rw [z, upd_same] at e; cases e
    · rw [upd_ne z] at e; exact e
theorem CellAt.step {S' : Sto} {μ' : Gh} {H' : Hp} (t : Step μ S H μ' S' H') {a : Addr} {c : Cell} (h : CellAt g μ S H a c) (e : H' a = H a) : CellAt g μ' S' H' a c := by
  cases c with
  | lst ds =>
    obtain ⟨xs, q, r⟩ := h
    exact ⟨xs, by rw [e]; exact q, r.step t⟩
  | obj c fs =>
    obtain ⟨dx, vs, q, r⟩ := h
    exact ⟨dx, vs, by rw [e]; exact q, r.step t⟩
  | dct ds =>
    obtain ⟨vs, q, r⟩ := h
    exact ⟨vs, by rw [e]; exact q, r.step t⟩
theorem StoOk.alloc {p : Addr} {o : HO} (k : StoOk g μ S H) (h : H p = none) : StoOk g μ S (upd H p o) := by
  refine ⟨k.len, k.nex, fun a ha => ?_, k.inj, fun n c e => ?_⟩
  · by_cases z : a = p
    · rw [z, upd_same]; exact fun z => nomatch z
    · rw [upd_ne z]; exact k.ext a ha
  obtain ⟨a, e1, q⟩ := k.at_ n c e
  refine ⟨a, e1, q.step (Step.alloc h) (upd_ne fun z => ?_)⟩
  exact k.there ⟨n, c, e, e1⟩ (by rw [z]; exact h)
end

/-- what a two-place operation on data must be worth -/
def OpS (g : Gx) (r : R2) (op : D → D → M D) : Prop := ∀ (E : XK) (μ : Gh) (S : Sto) (H : Hp) (v u : V) (x y : D) (Q : VK), StoOk g μ S H → Rep g μ S H v x → Rep g μ S H u y →
  Wp g E (op x y) μ S H (fun d μ' S' H' => ∀ w, Rep g μ' S' H' w d → Q w H') → r v u H Q
def UnS (g : Gx) (r : V → Hp → VK → Prop) (op : D → M D) : Prop := ∀ (E : XK) (μ : Gh) (S : Sto) (H : Hp) (v : V) (x : D) (Q : VK), StoOk g μ S H → Rep g μ S H v x →
  Wp g E (op x) μ S H (fun d μ' S' H' => ∀ w, Rep g μ' S' H' w d → Q w H') → r v H Q
def CallS (g : Gx) (r : List V → Hp → VK → Prop) (op : List D → M D) : Prop := ∀ (E : XK) (μ : Gh) (S : Sto) (H : Hp) (vs : List V) (xs : List D) (Q : VK), StoOk g μ S H → RepAll g μ S H vs xs →
  Wp g E (op xs) μ S H (fun d μ' S' H' => ∀ w, Rep g μ' S' H' w d → Q w H') → r vs H Q
def MtS (g : Gx) (r : V → List V → Hp → VK → Prop) (op : D → List D → M D) : Prop := ∀ (E : XK) (μ : Gh) (S : Sto) (H : Hp) (v : V) (x : D) (vs : List V) (xs : List D) (Q : VK), StoOk g μ S H → Rep g μ S H v x → RepAll g μ S H vs xs →
  Wp g E (op x xs) μ S H (fun d μ' S' H' => ∀ w, Rep g μ' S' H' w d → Q w H') → r v vs H Q

/-! ### lists, tuples by their items -/
def cellL (n : Nat) (S : Sto) : Option (List D) := match S[n]? with | some (some (.lst xs)) => some xs | _ => none
theorem cellL_some {n : Nat} {S : Sto} {xs : List D} (h : cellL n S = some xs) : S[n]? = some (some (.lst xs)) := by
  unfold cellL at h
  split at h
  · cases h; assumption
  · cases h
/-- a list -/
def seqL : D → M (List D)
  | .lst xs => pure xs
  | .cell n => M.get (cellL n)
  | _ => M.bad
/-- a list or a tuple, read -/
def seqA : D → M (List D)
  | .lst xs => pure xs
  | .rol xs => pure xs
  | .tup xs => pure xs
  | .cell n => M.get (cellL n)
  | _ => M.bad
section
variable {g : Gx} {E : XK} {μ : Gh} {S : Sto} {H : Hp} {v : V} {x : D} {Q : List D → Gh → Sto → Hp → Prop}
theorem cell_rep (k : StoOk g μ S H) {n : Nat} {xs : List D} {a : Addr} (e : cellL n S = some xs) (ha : μ.m[n]? = some a) : ∃ vs, H a = some (.lst vs) ∧ RepAll g μ S H vs xs := by
  obtain ⟨b, e1, q⟩ := k.at_ n _ (cellL_some e)
  rw [ha] at e1
  cases e1
  exact q
theorem Wp.seqL (h : Wp g E (seqL x) μ S H Q) (k : StoOk g μ S H) (r : Rep g μ S H v x) : ∃ xs a vs, v = .ref a ∧ H a = some (.lst vs) ∧ RepAll g μ S H vs xs ∧ Q xs μ S H := by
  cases r with
  | lst f q => exact ⟨_, _, _, rfl, f.1, q, Wp.pure h k⟩
  | cell e =>
    obtain ⟨xs, h1, h2⟩ := Wp.get h k
    obtain ⟨vs, h3, h4⟩ := cell_rep k h1 e
    exact ⟨xs, _, vs, rfl, h3, h4, h2⟩
  | _ => exact (show False from h).elim
theorem Wp.seqA (h : Wp g E (seqA x) μ S H Q) (k : StoOk g μ S H) (r : Rep g μ S H v x) : ∃ xs a vs, v = .ref a ∧ (SqL g.K H a vs ∨ SqT g.K H a vs) ∧ RepAll g μ S H vs xs ∧ Q xs μ S H := by
  cases r with
  | lst f q => exact ⟨_, _, _, rfl, .inl f.sq, q, Wp.pure h k⟩
  | rol f q => exact ⟨_, _, _, rfl, .inl f.sq, q, Wp.pure h k⟩
  | tup f q => exact ⟨_, _, _, rfl, .inr f.sq, q, Wp.pure h k⟩
  | cell e =>
    obtain ⟨xs, h1, h2⟩ := Wp.get h k
    obtain ⟨vs, h3, h4⟩ := cell_rep k h1 e
    exact ⟨xs, _, vs, rfl, .inl (.of h3), h4, h2⟩
  | _ => exact (show False from h).elim
/-- a new list, a new tuple -/
theorem new_lst {p : Addr} {vs : List V} {ds : List D} (k : StoOk g μ S H) (h : H p = none) (r : RepAll g μ S H vs ds) : Step μ S H μ S (upd H p (.lst vs)) ∧ StoOk g μ S (upd H p (.lst vs)) ∧ Rep g μ S (upd H p (.lst vs)) (.ref p) (.lst ds) :=
  ⟨Step.alloc h, k.alloc h, .lst ⟨upd_same, k.new h⟩ (r.step (Step.alloc h))⟩
theorem new_tup {p : Addr} {vs : List V} {ds : List D} (k : StoOk g μ S H) (h : H p = none) (r : RepAll g μ S H vs ds) : Step μ S H μ S (upd H p (.tup vs)) ∧ StoOk g μ S (upd H p (.tup vs)) ∧ Rep g μ S (upd H p (.tup vs)) (.ref p) (.tup ds) :=
  ⟨Step.alloc h, k.alloc h, .tup (.inl ⟨.inl upd_same, k.new h⟩) (r.step (Step.alloc h))⟩
/-- the end of an operation that gives out a -/
theorem Wp.end {α : Type} {a : α} {Q : α → Gh → Sto → Hp → Prop} (h : Wp g E (Pure.pure a : M α) μ S H Q) {μ' : Gh} {H' : Hp} (t : Step μ S H μ' S H') (k : StoOk g μ' S H') : Q a μ' S H' := h μ' H' t k
end

/-! ### + -/
def dAdd : D → D → M D
  | .int i, .int j => pure (.int (i + j))
  | .str a, .str b => do M.need (a.length + b.length ≤ sizeLine); pure (.str (a ++ b))
  | .tup xs, .tup ys => do M.need (xs.length + ys.length ≤ sizeLine); pure (.tup (xs ++ ys))
  | .lst xs, y => do let ys ← seqL y; M.need (xs.length + ys.length ≤ sizeLine); pure (.lst (xs ++ ys))
  | .cell n, y => do let xs ← seqL (.cell n); let ys ← seqL y; M.need (xs.length + ys.length ≤ sizeLine); pure (.lst (xs ++ ys))
  | _, _ => M.bad
def rAddD (K : PySem.W.Frag) : R2 := fun x y H Q => (rI0 fun i j => .int (i + j)) x y H Q ∨ (∃ i j, x = .str i ∧ y = .str j ∧ i.length + j.length ≤ sizeLine ∧ Q (.str (i ++ j)) H) ∨ rCatA K x y H Q ∨ rCat x y H Q
theorem op_addD {X : Cx} : OpR X (binaryOp .Add) (rAddD X.K) := op_add.or (op_add_str.or (op_catA.or op_cat))
theorem add_tail {g : Gx} {E : XK} {μ : Gh} {S : Sto} {H : Hp} {Q : VK} {xs ys : List D} {vs ws : List V} {a b : Addr} (k : StoOk g μ S H) (rx : RepAll g μ S H vs xs) (ry : RepAll g μ S H ws ys)
    (ha : H a = some (.lst vs)) (hb : H b = some (.lst ws)) (h : Wp g E (do M.need (xs.length + ys.length ≤ sizeLine); pure (.lst (xs ++ ys)) : M D) μ S H (fun d μ' S' H' => ∀ w, Rep g μ' S' H' w d → Q w H')) : rCat (.ref a) (.ref b) H Q := by
  obtain ⟨h1, h2⟩ := Wp.need (Wp.bind h) k
  refine ⟨a, b, vs, ws, rfl, rfl, ha, hb, by rw [rx.length, ry.length]; exact h1, fun p hp => ?_⟩
  obtain ⟨t, k', r⟩ := new_lst k hp (rx.append ry)
  exact Wp.end h2 t k' t _ r
theorem add_s {g : Gx} : OpS g (rAddD g.K) dAdd := by
  intro E μ S H v u x y Q k rx ry h
  cases rx with
  | int i =>
    cases ry with
    | int j => exact .inl ⟨i, j, rfl, rfl, Wp.pure h k _ (.int _)⟩
    | _ => exact (show False from h).elim
  | str a =>
    cases ry with
    | str b =>
      obtain ⟨h1, h2⟩ := Wp.need (Wp.bind h) k
      exact .inr (.inl ⟨a, b, rfl, rfl, h1, Wp.pure h2 k (Step.refl _ _ _) _ (.str _)⟩)
    | _ => exact (show False from h).elim
  | tup f p =>
    cases ry with
    | tup f' p' =>
      obtain ⟨h1, h2⟩ := Wp.need (Wp.bind h) k
      refine .inr (.inr (.inl ⟨_, _, _, _, rfl, rfl, f.sq, f'.sq, by rw [p.length, p'.length]; exact h1, fun e => ?_, fun _ e => ?_, fun _ _ q hq => ?_⟩))
      · subst e
        cases p
        exact Wp.pure h2 k (Step.refl _ _ _) _ (.tup f' p')
      · subst e
        cases p'
        rw [List.append_nil] at h2
        exact Wp.pure h2 k (Step.refl _ _ _) _ (.tup f p)
      · obtain ⟨t, k', r⟩ := new_tup k hq (p.append p')
        exact Wp.end h2 t k' t _ r
    | _ => exact (show False from h).elim
  | lst f p =>
    have h' : Wp g E (do let ys ← seqL y; M.need (_ + ys.length ≤ sizeLine); pure (.lst (_ ++ ys)) : M D) μ S H (fun d μ' S' H' => ∀ w, Rep g μ' S' H' w d → Q w H') := h
    obtain ⟨ys, b, ws, rfl, hb, ry', h2⟩ := Wp.seqL (Wp.bind h') k ry
    exact .inr (.inr (.inr (add_tail (Q := Q) k p ry' f.1 hb (h2.mono fun d _ _ _ t _ z => z t))))
  | cell e =>
    have h' : Wp g E (do let xs ← seqL (.cell _); let ys ← seqL y; M.need (xs.length + ys.length ≤ sizeLine); pure (.lst (xs ++ ys)) : M D) μ S H (fun d μ' S' H' => ∀ w, Rep g μ' S' H' w d → Q w H') := h
    obtain ⟨xs, a, vs, ea, ha, rx', h1⟩ := Wp.seqL (Wp.bind h') k (.cell e)
    cases ea
    obtain ⟨ys, b, ws, rfl, hb, ry', h2⟩ := Wp.seqL (Wp.bind h1) k ry
    exact .inr (.inr (.inr (add_tail (Q := Q) k rx' ry' ha hb (h2.mono fun d _ _ _ t _ z => z t (Step.refl _ _ _ |>.trans t)))))
  | _ => exact (show False from h).elim
end DD

/-! DD3: ints, comparisons, ==, in, truth, places and slices -/
namespace DD
open PySem PySem.Spec PyProof.Rows L2

/-! ### ints -/
def int2 (C : Int → Int → Prop) [∀ i j, Decidable (C i j)] (f : Int → Int → D) : D → D → M D
  | .int i, .int j => do M.need (C i j); pure (f i j)
  | _, _ => M.bad
abbrev dSub := int2 (fun _ _ => True) fun i j => .int (i - j)
abbrev dMul := int2 (fun i j => i.natAbs.log2 + j.natAbs.log2 < 1000000) fun i j => .int (i * j)
abbrev dFdiv := int2 (fun _ j => 0 < j ∧ j.natAbs.log2 < 9000) fun i j => .int (i / j)
abbrev dMod := int2 (fun _ j => 0 < j) fun i j => .int (i % j)
def CPowW (i j : Int) : Prop := 0 ≤ j ∧ ((i.natAbs.log2 : Int) + 1) * j ≤ 134217728
noncomputable instance (i j : Int) : Decidable (CPowW i j) := Classical.propDecidable _
noncomputable abbrev dPow := int2 CPowW fun i j => .int (i ^ j.toNat)
abbrev dLt := int2 (fun _ _ => True) fun i j => .bl (decide (i < j))
abbrev dLe := int2 (fun _ _ => True) fun i j => .bl (decide (i ≤ j))
abbrev dGt := int2 (fun _ _ => True) fun i j => .bl (decide (j < i))
abbrev dGe := int2 (fun _ _ => True) fun i j => .bl (decide (j ≤ i))
def dNeg : D → M D
  | .int i => pure (.int (-i))
  | _ => M.bad
section
variable {g : Gx} {E : XK} {μ : Gh} {S : Sto} {H : Hp}
theorem int2_s {C C' : Int → Int → Prop} [∀ i j, Decidable (C i j)] {f : Int → Int → D} {f' : Int → Int → V} (hc : ∀ i j, C i j → C' i j) (hf : ∀ μ S H i j, Rep g μ S H (f' i j) (f i j)) : OpS g (rI C' f') (int2 C f) := by
  intro E μ S H v u x y Q k rx ry h
  cases rx with
  | int i =>
    cases ry with
    | int j =>
      obtain ⟨h1, h2⟩ := Wp.need (Wp.bind h) k
      exact ⟨i, j, rfl, rfl, hc i j h1, Wp.pure h2 k (Step.refl _ _ _) _ (hf _ _ _ i j)⟩
    | _ => exact (show False from h).elim
  | _ => exact (show False from h).elim
theorem int2_s0 {f : Int → Int → D} {f' : Int → Int → V} (hf : ∀ μ S H i j, Rep g μ S H (f' i j) (f i j)) : OpS g (rI0 f') (int2 (fun _ _ => True) f) := by
  intro E μ S H v u x y Q k rx ry h
  obtain ⟨i, j, e1, e2, _, q⟩ := int2_s (C' := fun _ _ => True) (fun _ _ _ => trivial) hf E μ S H v u x y Q k rx ry h
  exact ⟨i, j, e1, e2, q⟩
theorem sub_s : OpS g (rI0 fun i j => .int (i - j)) dSub := int2_s0 fun _ _ _ _ _ => .int _
theorem mul_s : OpS g (rI CMulW fun i j => .int (i * j)) dMul := int2_s (fun _ _ h => h) fun _ _ _ _ _ => .int _
theorem fdiv_s : OpS g (rI CDivW fun i j => .int (i / j)) dFdiv := int2_s (fun _ _ h => h) fun _ _ _ _ _ => .int _
theorem mod_s : OpS g (rI (fun _ j => 0 < j) fun i j => .int (i % j)) dMod := int2_s (fun _ _ h => h) fun _ _ _ _ _ => .int _
theorem op_powD {X : Cx} : OpR X (binaryOp .Pow) (rI CPowW fun i j => .int (i ^ j.toNat)) := opI fun i j _ _ _ _ _ hc q => by
  refine pow_int hc.1 ?_ q
  have b : Builtin.Int.intBits i ≤ i.natAbs.log2 + 1 := by
    unfold Builtin.Int.intBits
    split <;> omega
  have b' : (Builtin.Int.intBits i : Int) ≤ (i.natAbs.log2 : Int) + 1 := by omega
  have := Int.mul_le_mul_of_nonneg_right b' hc.1
  have e : (2 : Int) ^ 27 = 134217728 := by decide
  rw [e]
  exact Int.le_trans this hc.2
theorem pow_s : OpS g (rI CPowW fun i j => .int (i ^ j.toNat)) dPow := int2_s (fun _ _ h => h) fun _ _ _ _ _ => .int _
theorem lt_s : OpS g (rI0 fun i j => .bl (decide (i < j))) dLt := int2_s0 fun _ _ _ _ _ => .bl _
theorem le_s : OpS g (rI0 fun i j => .bl (decide (i ≤ j))) dLe := int2_s0 fun _ _ _ _ _ => .bl _
theorem gt_s : OpS g (rI0 fun i j => .bl (decide (j < i))) dGt := int2_s0 fun _ _ _ _ _ => .bl _
theorem ge_s : OpS g (rI0 fun i j => .bl (decide (j ≤ i))) dGe := int2_s0 fun _ _ _ _ _ => .bl _
theorem neg_s : UnS g (rU fun i => .int (-i)) dNeg := by
  intro E μ S H v x Q k rx h
  cases rx with
  | int i => exact ⟨i, rfl, Wp.pure h k _ (.int _)⟩
  | _ => exact (show False from h).elim
end

/-! ### plain data, for ==, in -/
def toPs (f : D → Option PyData) : List D → Option (List PyData)
  | [] => some []
  | d :: ds => (f d).bind fun p => (toPs f ds).map (p :: ·)
def toP (S : Sto) : Nat → D → Option PyData
  | 0, _ => none
  | _ + 1, .non => some .none
  | _ + 1, .bl b => some (.bool b)
  | _ + 1, .int i => some (.int i)
  | _ + 1, .str x => some (.str x)
  | n + 1, .tup ds => (toPs (toP S n) ds).map .tuple
  | n + 1, .lst ds => (toPs (toP S n) ds).map .list
  | n + 1, .rol ds => (toPs (toP S n) ds).map .list
  | n + 1, .cell c => (cellL c S).bind fun ds => (toPs (toP S n) ds).map .list
  | _ + 1, _ => none
section
variable {g : Gx} {E : XK} {μ : Gh} {S : Sto} {H : Hp}
theorem toPs_dp {f : D → Option PyData} (hf : ∀ v d p, Rep g μ S H v d → f d = some p → Dp g.K H v p) : ∀ {vs : List V} {ds : List D} {ps : List PyData}, RepAll g μ S H vs ds → toPs f ds = some ps → DpAll g.K H vs ps
  | _, _, _, .nil, e => by
    cases e
    exact .nil
  | _, _, _, .cons (d := d) (ds := ds) r q, e => by
    have e' : ((f d).bind fun p => (toPs f ds).map (p :: ·)) = some _ := e
    cases e1 : f d with
    | none => rw [e1] at e'; cases e'
    | some p =>
      rw [e1] at e'
      cases e2 : toPs f ds with
      | none => rw [e2] at e'; cases e'
      | some ps =>
        rw [e2] at e'
        cases e'
        exact .cons (hf _ _ _ r e1) (toPs_dp hf q e2)
theorem map_some {α β : Type} {o : Option α} {f : α → β} {b : β} (h : o.map f = some b) : ∃ a, o = some a ∧ f a = b := by
  cases o with
  | none => cases h
  | some a => exact ⟨a, rfl, Option.some.inj h⟩
theorem toP_dp (k : StoOk g μ S H) : ∀ (n : Nat) (v : V) (d : D) (p : PyData), Rep g μ S H v d → toP S n d = some p → Dp g.K H v p
  | 0, _, _, _, _, e => by cases e
  | n + 1, v, d, p, r, e => by
    have ih := toP_dp k n
    cases r with
    | non => cases e; exact .non
    | bl b => cases e; exact .bl b
    | int i => cases e; exact .int i
    | str x => cases e; exact .str x
    | tup f q =>
      obtain ⟨ps, e1, rfl⟩ := map_some (show (toPs (toP S n) _).map PyData.tuple = some p from e)
      exact .tup f.sq (toPs_dp ih q e1)
    | lst f q =>
      obtain ⟨ps, e1, rfl⟩ := map_some (show (toPs (toP S n) _).map PyData.list = some p from e)
      exact .lst f.sq (toPs_dp ih q e1)
    | rol f q =>
      obtain ⟨ps, e1, rfl⟩ := map_some (show (toPs (toP S n) _).map PyData.list = some p from e)
      exact .lst f.sq (toPs_dp ih q e1)
    | @cell a c em =>
      have e' : ((cellL c S).bind fun ds => (toPs (toP S n) ds).map PyData.list) = some p := e
      cases e0 : cellL c S with
      | none => rw [e0] at e'; cases e'
      | some ds =>
        rw [e0] at e'
        obtain ⟨ps, e1, rfl⟩ := map_some (show (toPs (toP S n) ds).map PyData.list = some p from e')
        obtain ⟨vs, h1, h2⟩ := cell_rep k e0 em
        exact .lst (.of h1) (toPs_dp ih h2 e1)
    | _ => cases e
end
def dEq (neg : Bool) (x y : D) : M D := do
  let p ← M.get fun S => toP S 70 x
  let q ← M.get fun S => toP S 70 y
  M.need (SeqAt.shaped p = true ∧ SeqAt.shaped q = true)
  pure (.bl (if neg then !PyData.eqv p q else PyData.eqv p q))
theorem eq_s {g : Gx} : OpS g (rEqD g.K) (dEq false) := by
  intro E μ S H v u x y Q k rx ry h
  obtain ⟨p, e1, h1⟩ := Wp.get (Wp.bind h) k
  obtain ⟨q, e2, h2⟩ := Wp.get (Wp.bind h1) k
  obtain ⟨⟨s1, s2⟩, h3⟩ := Wp.need (Wp.bind h2) k
  exact ⟨p, q, toP_dp k _ _ _ _ rx e1, toP_dp k _ _ _ _ ry e2, s1, s2, Wp.pure h3 k (Step.refl _ _ _) (Step.refl _ _ _) (Step.refl _ _ _) _ (.bl _)⟩
theorem ne_s {g : Gx} : OpS g (rNeD g.K) (dEq true) := by
  intro E μ S H v u x y Q k rx ry h
  obtain ⟨p, e1, h1⟩ := Wp.get (Wp.bind h) k
  obtain ⟨q, e2, h2⟩ := Wp.get (Wp.bind h1) k
  obtain ⟨⟨s1, s2⟩, h3⟩ := Wp.need (Wp.bind h2) k
  exact ⟨p, q, toP_dp k _ _ _ _ rx e1, toP_dp k _ _ _ _ ry e2, s1, s2, Wp.pure h3 k (Step.refl _ _ _) (Step.refl _ _ _) (Step.refl _ _ _) _ (.bl _)⟩

/-! ### in, not in: of texts, lists, tuples -/
def dIn (neg : Bool) : D → D → M D
  | .str a, .str b => pure (.bl (if neg then !(!(Builtin.Str.occurrences b a 0 b.length 1).isEmpty) else !(Builtin.Str.occurrences b a 0 b.length 1).isEmpty))
  | x, y => do
    let p ← M.get fun S => toP S 70 x
    let ys ← seqA y
    let qs ← M.get fun S => toPs (toP S 70) ys
    M.need (SeqAt.shaped p = true ∧ SeqAt.shaped (.list qs) = true)
    pure (.bl (if neg then !qs.any (fun z => PyData.eqv z p) else qs.any fun z => PyData.eqv z p))
def rInA (K : PySem.W.Frag) (neg : Bool) : R2 := fun x y H Q =>
  (∃ i j, x = .str i ∧ y = .str j ∧ Q (.bl (if neg then !(!(Builtin.Str.occurrences j i 0 j.length 1).isEmpty) else !(Builtin.Str.occurrences j i 0 j.length 1).isEmpty)) H) ∨
  ∃ d ds a vs, y = .ref a ∧ (SqL K H a vs ∨ SqT K H a vs) ∧ DpAll K H vs ds ∧ Dp K H x d ∧ SeqAt.shaped d = true ∧ SeqAt.shaped (.list ds) = true ∧ Q (.bl (if neg then !ds.any (fun z => PyData.eqv z d) else ds.any fun z => PyData.eqv z d)) H
theorem canLayAll_of {ds : List PyData} (h : SeqAt.shaped (.list ds) = true) : PyData.canLayAll0 ds = true := by
  have q := SeqAt.canLay_of_shaped h
  unfold PyData.canLay0 at q
  exact q
theorem op_inA {X : Cx} (hu : X.A.units + 65 < cLine) : OpR X (compareOp .In) (rInA X.K false) := by
  intro pins s σ H x y v u Q I rx ry h
  rcases h with h | ⟨d, ds, a, vs, rfl, hs, hd, he, s1, s2, q⟩
  · obtain ⟨i, j, rfl, rfl, q⟩ := h
    exact op_in_str pins s σ H _ _ v u Q I rx ry ⟨i, j, rfl, rfl, q⟩
  · obtain ⟨as, r1⟩ := Dp.reads I d x v he rx
    rcases hs with hs | hs
    · obtain ⟨bs, r2⟩ := Dp.reads I (.list ds) _ u (.lst hs hd) ry
      exact SeqAt.in_list_reads r2 r1 (canLayAll_of s2) (SeqAt.canLay_of_shaped s1) (room_in_shaped s1 hu) ⟨.bl _, H, I, rfl, q⟩
    · obtain ⟨bs, r2⟩ := Dp.reads I (.tuple ds) _ u (.tup hs hd) ry
      exact SeqAt.in_tuple_reads r2 r1 (canLayAll_of s2) (SeqAt.canLay_of_shaped s1) (room_in_shaped s1 hu) ⟨.bl _, H, I, rfl, q⟩
theorem op_notInA {X : Cx} (hu : X.A.units + 65 < cLine) : OpR X (compareOp .NotIn) (rInA X.K true) := by
  intro pins s σ H x y v u Q I rx ry h
  rcases h with h | ⟨d, ds, a, vs, rfl, hs, hd, he, s1, s2, q⟩
  · obtain ⟨i, j, rfl, rfl, q⟩ := h
    exact op_notin_str pins s σ H _ _ v u Q I rx ry ⟨i, j, rfl, rfl, q⟩
  · obtain ⟨as, r1⟩ := Dp.reads I d x v he rx
    rcases hs with hs | hs
    · obtain ⟨bs, r2⟩ := Dp.reads I (.list ds) _ u (.lst hs hd) ry
      exact SeqAt.notIn_list_reads r2 r1 (canLayAll_of s2) (SeqAt.canLay_of_shaped s1) (room_in_shaped s1 hu) ⟨.bl _, H, I, rfl, q⟩
    · obtain ⟨bs, r2⟩ := Dp.reads I (.tuple ds) _ u (.tup hs hd) ry
      exact SeqAt.notIn_tuple_reads r2 r1 (canLayAll_of s2) (SeqAt.canLay_of_shaped s1) (room_in_shaped s1 hu) ⟨.bl _, H, I, rfl, q⟩
theorem in_s {g : Gx} {neg : Bool} : OpS g (rInA g.K neg) (dIn neg) := by
  intro E μ S H v u x y Q k rx ry h
  have gen : (∀ a b, ¬ (x = .str a ∧ y = .str b)) → rInA g.K neg v u H Q := fun hn => by
    have e : dIn neg x y = (do
      let p ← M.get fun S => toP S 70 x
      let ys ← seqA y
      let qs ← M.get fun S => toPs (toP S 70) ys
      M.need (SeqAt.shaped p = true ∧ SeqAt.shaped (.list qs) = true)
      pure (.bl (if neg then !qs.any (fun z => PyData.eqv z p) else qs.any fun z => PyData.eqv z p))) := by
      unfold dIn
      split
      · exact absurd ⟨rfl, rfl⟩ (hn _ _)
      · rfl
    rw [e] at h
    obtain ⟨p, e1, h1⟩ := Wp.get (Wp.bind h) k
    obtain ⟨ys, a, vs, rfl, hs, ra, h2⟩ := Wp.seqA (Wp.bind h1) k ry
    obtain ⟨qs, e2, h3⟩ := Wp.get (Wp.bind h2) k
    obtain ⟨⟨s1, s2⟩, h4⟩ := Wp.need (Wp.bind h3) k
    exact .inr ⟨p, qs, a, vs, rfl, hs, toPs_dp (toP_dp k 70) ra e2, toP_dp k _ _ _ _ rx e1, s1, s2, Wp.pure h4 k (Step.refl _ _ _) (Step.refl _ _ _) (Step.refl _ _ _) (Step.refl _ _ _) _ (.bl _)⟩
  cases rx with
  | str a =>
    cases ry with
    | str b => exact .inl ⟨a, b, rfl, rfl, Wp.pure h k _ (.bl _)⟩
    | _ => exact gen fun _ _ z => nomatch z.2
  | _ => exact gen fun _ _ z => nomatch z.1

/-! ### is None -/
@[simp] def isNon : D → Bool
  | .non => true
  | _ => false
theorem isNon_rep {g : Gx} {μ : Gh} {S : Sto} {H : Hp} {v : V} {d : D} (r : Rep g μ S H v d) : decide (v = .non) = isNon d := by
  cases r <;> simp [isNon]

/-! ### truth -/
def truD : D → M Bool
  | .non => pure false
  | .bl b => pure b
  | .int i => pure (i != 0)
  | .str y => do M.need (y.length ≤ sizeLine); pure ((y.length : Int) != 0)
  | x => do let xs ← seqA x; pure !xs.isEmpty
theorem RepAll.isEmpty {g : Gx} {μ : Gh} {S : Sto} {H : Hp} {vs : List V} {ds : List D} (r : RepAll g μ S H vs ds) : vs.isEmpty = ds.isEmpty := by cases r <;> rfl
theorem tru_s {g : Gx} {E : XK} {μ : Gh} {S : Sto} {H : Hp} {v : V} {d : D} {Q : Bool → Hp → Prop} (k : StoOk g μ S H) (r : Rep g μ S H v d) (h : Wp g E (truD d) μ S H (fun b _ _ H' => Q b H')) : ∃ b, TruV g.K v H b ∧ Q b H := by
  cases r with
  | non => exact ⟨_, rfl, Wp.pure h k⟩
  | bl b => exact ⟨_, rfl, Wp.pure h k⟩
  | int i => exact ⟨_, rfl, Wp.pure h k⟩
  | str y =>
    obtain ⟨h1, h2⟩ := Wp.need (Wp.bind h) k
    exact ⟨_, ⟨h1, rfl⟩, Wp.pure h2 k (Step.refl _ _ _)⟩
  | tup f q => exact ⟨_, .inr (.inl ⟨_, f.sq, by rw [q.isEmpty]⟩), Wp.pure (Wp.pure (Wp.bind h) k) k (Step.refl _ _ _)⟩
  | lst f q => exact ⟨_, .inl ⟨_, f.sq, by rw [q.isEmpty]⟩, Wp.pure (Wp.pure (Wp.bind h) k) k (Step.refl _ _ _)⟩
  | rol f q => exact ⟨_, .inl ⟨_, f.sq, by rw [q.isEmpty]⟩, Wp.pure (Wp.pure (Wp.bind h) k) k (Step.refl _ _ _)⟩
  | cell e =>
    obtain ⟨xs, a, vs, ea, hs, q, h2⟩ := Wp.seqA (Wp.bind h) k (.cell e)
    cases ea
    refine ⟨!xs.isEmpty, ?_, Wp.pure h2 k (Step.refl _ _ _)⟩
    rcases hs with hs | hs
    · exact .inl ⟨_, hs, by rw [q.isEmpty]⟩
    · exact .inr (.inl ⟨_, hs, by rw [q.isEmpty]⟩)
  | _ => exact (show False from h).elim

/-! ### places, slices -/
def dIxI (i : Int) : D → M D
  | .str z => do M.need (z.length ≤ sizeLine); let c ← M.get fun _ => atI z.cps.toList i; pure (.str ⟨#[c]⟩)
  | x => do let xs ← seqA x; M.get fun _ => atI xs i
def dIx (x y : D) : M D := match y with
  | .int i => dIxI i x
  | _ => M.bad
theorem atI_rep {g : Gx} {μ : Gh} {S : Sto} {H : Hp} {vs : List V} {ds : List D} {i : Int} {d : D} (r : RepAll g μ S H vs ds) (e : atI ds i = some d) : ∃ v, atI vs i = some v ∧ Rep g μ S H v d := by
  unfold atI at e ⊢
  rw [r.length]
  cases q : ixN ds.length i with
  | none => rw [q] at e; cases e
  | some j =>
    rw [q] at e
    exact r.get (show ds[j]? = some d from e)
theorem ix_s {g : Gx} : OpS g (rIx g.K) dIx := by
  intro E μ S H v u x y Q k rx ry h
  cases ry with
  | int i =>
    have gen : (∀ z, x ≠ .str z) → rIx g.K v (.int i) H Q := fun hn => by
      have e : dIx x (.int i) = (do let xs ← seqA x; M.get fun _ => atI xs i) := by
        show dIxI i x = _
        unfold dIxI
        split
        · exact absurd rfl (hn _)
        · rfl
      rw [e] at h
      obtain ⟨xs, a, vs, rfl, hs, ra, h1⟩ := Wp.seqA (Wp.bind h) k rx
      obtain ⟨d, e1, h2⟩ := Wp.get h1 k
      obtain ⟨w, e2, rw_⟩ := atI_rep ra e1
      rcases hs with hs | hs
      · exact .inl ⟨a, vs, i, w, rfl, rfl, hs, e2, h2 (Step.refl _ _ _) _ rw_⟩
      · exact .inr (.inl ⟨a, vs, i, w, rfl, rfl, hs, e2, h2 (Step.refl _ _ _) _ rw_⟩)
    cases rx with
    | str z =>
      obtain ⟨h1, h2⟩ := Wp.need (Wp.bind h) k
      obtain ⟨c, e1, h3⟩ := Wp.get (Wp.bind h2) k
      exact .inr (.inr ⟨z, i, c, rfl, rfl, h1, e1, Wp.pure h3 k (Step.refl _ _ _) (Step.refl _ _ _) _ (.str _)⟩)
    | _ => exact gen fun _ z => nomatch z
  | _ => exact (show False from h).elim
def cutA {α : Type} (xs : List α) (lo hi : Option Int) : List α := (xs.drop (HT.sIx xs.length 0 lo)).take (HT.sIx xs.length xs.length hi - HT.sIx xs.length 0 lo)
theorem RepAll.cut {g : Gx} {μ : Gh} {S : Sto} {H : Hp} {vs : List V} {ds : List D} (r : RepAll g μ S H vs ds) (lo hi : Option Int) : RepAll g μ S H (cutV vs lo hi) (cutA ds lo hi) := by
  unfold cutV cutA
  rw [r.length]
  exact (r.drop _).take _
def dSlice (x : D) (lo hi : Option Int) : M D := match x with
  | .str z => do M.need (z.length ≤ sizeLine); pure (.str (cutS z lo hi))
  | .tup xs => pure (.tup (cutA xs lo hi))
  | x => do let xs ← seqA x; pure (.lst (cutA xs lo hi))
def rSlD (K : PySem.W.Frag) : V → Option Int → Option Int → Hp → VK → Prop := fun x lo hi H Q => rSlS x lo hi H Q ∨ rSlA K x lo hi H Q ∨ rSlL K x lo hi H Q
theorem sl_D {X : Cx} : SlR X (rSlD X.K) := sl_str.or (sl_tupA.or sl_list)
theorem sl_s {g : Gx} {E : XK} {μ : Gh} {S : Sto} {H : Hp} {v : V} {d : D} {Q : VK} {lo hi : Option Int} (k : StoOk g μ S H) (r : Rep g μ S H v d) (h : Wp g E (dSlice d lo hi) μ S H (fun d' μ' S' H' => ∀ w, Rep g μ' S' H' w d' → Q w H')) : rSlD g.K v lo hi H Q := by
  have lists : ∀ {xs : List D} {a : Addr} {vs : List V}, (SqL g.K H a vs) → RepAll g μ S H vs xs → Wp g E (pure (.lst (cutA xs lo hi)) : M D) μ S H (fun d' μ' S' H' => ∀ w, Rep g μ' S' H' w d' → Q w H') → rSlD g.K (.ref a) lo hi H Q := fun {xs a vs} hs q h2 => by
    refine .inr (.inr ⟨a, vs, rfl, hs, fun p hp => ?_⟩)
    obtain ⟨t, k', r⟩ := new_lst k hp (q.cut lo hi)
    exact Wp.end h2 t k' _ r
  cases r with
  | str z =>
    obtain ⟨h1, h2⟩ := Wp.need (Wp.bind h) k
    exact .inl ⟨z, rfl, h1, Wp.pure h2 k (Step.refl _ _ _) _ (.str _)⟩
  | @tup a xs ds f q =>
    refine .inr (.inl ⟨_, _, rfl, f.sq, fun e => ?_, fun _ p hp => ?_⟩)
    · refine Wp.pure h k _ ?_
      have z : cutA ds lo hi = ds := by
        unfold cutA
        rw [q.length] at e
        rw [e.1, e.2, List.drop_zero, Nat.sub_zero]
        exact List.take_length
      show Rep g μ S H (.ref a) (.tup (cutA ds lo hi))
      rw [z]
      exact .tup f q
    · obtain ⟨t, k', r⟩ := new_tup k hp (q.cut lo hi)
      exact Wp.end h t k' _ r
  | lst f q => exact lists f.sq q ((Wp.pure (Wp.bind h) k).mono fun d' _ _ _ t _ z => z t)
  | rol f q => exact lists f.sq q ((Wp.pure (Wp.bind h) k).mono fun d' _ _ _ t _ z => z t)
  | cell e =>
    have h' : Wp g E (do let xs ← seqA (.cell _); pure (.lst (cutA xs lo hi)) : M D) μ S H (fun d' μ' S' H' => ∀ w, Rep g μ' S' H' w d' → Q w H') := h
    have hb := Wp.bind h'
    obtain ⟨xs, h1, h2⟩ := Wp.get hb k
    obtain ⟨vs, h3, h4⟩ := cell_rep k h1 e
    exact lists (.of h3) h4 (h2.mono fun d' _ _ _ t _ z => z t)
  | _ => exact (show False from h).elim
end DD

/-! DD4: the rules of expressions, by data -/
namespace DD
open PySem PySem.Spec PyProof.Rows L2

/-! ### what is changed in the store -/
section
variable {g : Gx} {E : XK} {μ : Gh} {S : Sto} {H : Hp}
/-- how a cell's content lies there, as an object's description -/
inductive CellIs (g : Gx) (μ : Gh) (S : Sto) (H : Hp) : HO → Cell → Prop where
  | lst {vs : List V} {ds : List D} : RepAll g μ S H vs ds → CellIs g μ S H (.lst vs) (.lst ds)
  | obj {c : Nat} {dx : Addr} {vs : List (Str × V)} {fs : List (Str × D)} : RepF g μ S H vs fs → CellIs g μ S H (.ins (g.ca c) dx vs) (.obj c fs)
  | dct {vs : List (Key × V)} {ds : List (Key × D)} : RepK g μ S H vs ds → CellIs g μ S H (.dK vs) (.dct ds)
theorem cellAt_is {a : Addr} {c : Cell} : CellAt g μ S H a c ↔ ∃ o, H a = some o ∧ CellIs g μ S H o c := by
  constructor
  · intro h
    cases c with
    | lst ds => obtain ⟨vs, e, r⟩ := h; exact ⟨_, e, .lst r⟩
    | obj c fs => obtain ⟨dx, vs, e, r⟩ := h; exact ⟨_, e, .obj r⟩
    | dct ds => obtain ⟨vs, e, r⟩ := h; exact ⟨_, e, .dct r⟩
  · rintro ⟨o, e, h⟩
    cases h with
    | lst r => exact ⟨_, e, r⟩
    | obj r => exact ⟨_, _, e, r⟩
    | dct r => exact ⟨_, e, r⟩
theorem CellIs.step {μ' : Gh} {S' : Sto} {H' : Hp} (t : Step μ S H μ' S' H') {o : HO} {c : Cell} (h : CellIs g μ S H o c) : CellIs g μ' S' H' o c := by
  cases h with
  | lst r => exact .lst (r.step t)
  | obj r => exact .obj (r.step t)
  | dct r => exact .dct (r.step t)
theorem CellIs.nofrz {o : HO} {c : Cell} (h : CellIs g μ S H o c) : ∀ ob u, o ≠ .frz ob u := by
  intro ob u e
  cases h <;> cases e
theorem Live.at {n : Nat} {c : Cell} {a : Addr} (e : S[n]? = some (some c)) (ea : μ.m[n]? = some a) : Live μ S a := ⟨n, c, e, ea⟩
theorem set_live {n : Nat} {c c' : Cell} (e : S[n]? = some (some c)) (b : Addr) : Live μ (S.set n (some c')) b → Live μ S b := by
  rintro ⟨m, d, e1, e2⟩
  by_cases z : n = m
  · subst z
    exact ⟨n, c, e, e2⟩
  · rw [List.getElem?_set_ne z] at e1
    exact ⟨m, d, e1, e2⟩
/-- the n-th cell is written -/
theorem sto_write {n : Nat} {c c' : Cell} {a : Addr} {o' : HO} (k : StoOk g μ S H) (e : S[n]? = some (some c)) (ea : μ.m[n]? = some a) (r : CellIs g μ S H o' c') :
    Step μ S H μ (S.set n (some c')) (upd H a o') ∧ StoOk g μ (S.set n (some c')) (upd H a o') := by
  obtain ⟨b, eb, q⟩ := k.at_ n c e
  rw [ea] at eb
  cases eb
  obtain ⟨o, ho, hc⟩ := cellAt_is.mp q
  have t : Step μ S H μ (S.set n (some c')) (upd H a o') := by
    refine ⟨List.prefix_refl _, fun _ h => h, fun {b ob u} h => ?_, fun b ob nl h => ?_, fun b l => .inl (set_live e b l), fun _ l => .inl l, fun b h => ?_⟩
    · rw [upd_ne (fun z => ?_)]
      · exact h
      · subst z
        rw [ho] at h
        exact hc.nofrz _ _ (Option.some.inj h)
    · have nb : b ≠ a := fun z => nl (by rw [z]; exact Live.at e ea)
      rw [upd_ne nb]
      exact h
    · by_cases z : b = a
      · rw [z, upd_same] at h; cases h
      · rw [upd_ne z] at h; exact h
  refine ⟨t, by rw [List.length_set]; exact k.len, fun b l => k.nex b (set_live e b l), fun b hb => ?_, fun m m' d d' x h1 h2 h3 h4 => ?_, fun m d h => ?_⟩
  · by_cases z : b = a
    · rw [z, upd_same]; exact fun z => nomatch z
    · rw [upd_ne z]; exact k.ext b hb
  · have old : ∀ {m : Nat} {d : Cell}, (S.set n (some c'))[m]? = some (some d) → ∃ d0, S[m]? = some (some d0) := fun {m d} h => by
      by_cases z : n = m
      · subst z; exact ⟨c, e⟩
      · rw [List.getElem?_set_ne z] at h; exact ⟨d, h⟩
    obtain ⟨d0, q0⟩ := old h1
    obtain ⟨d1, q1⟩ := old h2
    exact k.inj m m' d0 d1 x q0 q1 h3 h4
  · by_cases z : n = m
    · subst z
      have hl : n < S.length := (List.getElem?_eq_some_iff.mp e).1
      rw [List.getElem?_set_self hl] at h
      cases h
      exact ⟨a, ea, cellAt_is.mpr ⟨o', upd_same, r.step t⟩⟩
    · rw [List.getElem?_set_ne z] at h
      obtain ⟨b, e1, q1⟩ := k.at_ m d h
      refine ⟨b, e1, q1.step t (upd_ne fun z' => z ?_)⟩
      exact k.inj n m c d a e h ea (by rw [e1, z'])
/-- a new cell -/
theorem sto_new {c : Cell} {p : Addr} {o : HO} (k : StoOk g μ S H) (hp : H p = none) (r : CellIs g μ S H o c) (n : Nat) (hn : n = S.length) :
    Step μ S H (Gh.mk (μ.m ++ [p]) μ.ex) (S ++ [some c]) (upd H p o) ∧ StoOk g (Gh.mk (μ.m ++ [p]) μ.ex) (S ++ [some c]) (upd H p o) ∧ Rep g (Gh.mk (μ.m ++ [p]) μ.ex) (S ++ [some c]) (upd H p o) (.ref p) (.cell n) := by
  subst hn
  have get : ∀ {m : Nat} {d : Cell}, (S ++ [some c])[m]? = some (some d) → S[m]? = some (some d) ∨ (m = S.length ∧ d = c) := fun {m d} h => by
    by_cases z : m < S.length
    · rw [List.getElem?_append_left z] at h; exact .inl h
    · rw [List.getElem?_append_right (by omega)] at h
      have z2 : m = S.length := by
        have := (List.getElem?_eq_some_iff.mp h).1
        simp at this
        omega
      subst z2
      simp at h
      exact .inr ⟨rfl, h.symm⟩
  have gm : ∀ {m : Nat} {a : Addr}, m < S.length → (μ.m ++ [p])[m]? = some a → μ.m[m]? = some a := fun {m a} z h => by
    rw [List.getElem?_append_left (by rw [k.len]; exact z)] at h; exact h
  have gl : ∀ {a : Addr}, (μ.m ++ [p])[S.length]? = some a → a = p := fun {a} h => by
    rw [← k.len, List.getElem?_append_right (Nat.le_refl _)] at h
    simp at h
    exact h.symm
  have lt : ∀ {m : Nat} {d : Cell}, S[m]? = some (some d) → m < S.length := fun h => (List.getElem?_eq_some_iff.mp h).1
  have t : Step μ S H (Gh.mk (μ.m ++ [p]) μ.ex) (S ++ [some c]) (upd H p o) := by
    refine ⟨List.prefix_append _ _, fun _ h => h, fun {b ob u} h => ?_, fun b ob _ h => ?_, fun b l => ?_, fun _ l => .inl l, fun b h => ?_⟩
    · rw [upd_ne (ne_of_none h hp)]; exact h
    · rw [upd_ne (ne_of_none h hp)]; exact h
    · obtain ⟨m, d, h1, h2⟩ := l
      rcases get h1 with z | ⟨z, _⟩
      · exact .inl ⟨m, d, z, gm (lt z) h2⟩
      · subst z
        exact .inr (by rw [gl h2]; exact hp)
    · by_cases z : b = p
      · rw [z, upd_same] at h; cases h
      · rw [upd_ne z] at h; exact h
  refine ⟨t, ⟨by simp [k.len], fun b l hb => ?_, fun b hb => ?_, fun m m' d d' x h1 h2 h3 h4 => ?_, fun m d h => ?_⟩, .cell ?_⟩
  · have l' := t.live b l
    rcases l' with z | z
    · exact k.nex b z hb
    · exact k.ext b hb z
  · by_cases z : b = p
    · rw [z, upd_same]; exact fun z => nomatch z
    · rw [upd_ne z]; exact k.ext b hb
  · rcases get h1 with z | ⟨z, _⟩
    · rcases get h2 with z' | ⟨z', _⟩
      · exact k.inj m m' d d' x z z' (gm (lt z) h3) (gm (lt z') h4)
      · subst z'
        have e := gl h4
        subst e
        exact absurd ⟨m, d, z, gm (lt z) h3⟩ (k.newL hp)
    · subst z
      have e := gl h3
      subst e
      rcases get h2 with z' | ⟨z', _⟩
      · exact absurd ⟨m', d', z', gm (lt z') h4⟩ (k.newL hp)
      · exact z'.symm
  · rcases get h with z | ⟨z, e⟩
    · obtain ⟨b, e1, q1⟩ := k.at_ m d z
      refine ⟨b, prefix_get (List.prefix_append _ _) e1, q1.step t (upd_ne fun z' => ?_)⟩
      exact k.there ⟨m, d, z, e1⟩ (by rw [z']; exact hp)
    · subst z; subst e
      refine ⟨p, ?_, cellAt_is.mpr ⟨o, upd_same, r.step t⟩⟩
      rw [← k.len, List.getElem?_append_right (Nat.le_refl _)]
      simp
  · rw [← k.len, List.getElem?_append_right (Nat.le_refl _)]
    simp
end

/-! ### the readings -/
def tD (g : Gx) (W : WX) (f : DEnv → M D) : TE := fun σ H Q => ∃ ρ μ S, EnvOk g μ S H σ ρ ∧ StoOk g μ S H ∧
  Wp g (fun c d H' => W c d σ H') (f ρ) μ S H fun d μ' S' H' => ∀ v, Rep g μ' S' H' v d → Q v H'
def tDA (g : Gx) (W : WX) (f : DEnv → M (List D)) : TA := fun σ H Q => ∃ ρ μ S, EnvOk g μ S H σ ρ ∧ StoOk g μ S H ∧
  Wp g (fun c d H' => W c d σ H') (f ρ) μ S H fun ds μ' S' H' => ∀ vs, RepAll g μ' S' H' vs ds → Q vs H'
def tDT (g : Gx) (W : WX) (f : DEnv → M Bool) : TT := fun σ H Q => ∃ ρ μ S, EnvOk g μ S H σ ρ ∧ StoOk g μ S H ∧
  Wp g (fun c d H' => W c d σ H') (f ρ) μ S H fun b _ _ H' => Q b H'
def tDO (g : Gx) (W : WX) (f : DEnv → M (Option Int)) : TO := fun σ H Q => ∃ ρ μ S, EnvOk g μ S H σ ρ ∧ StoOk g μ S H ∧
  Wp g (fun c d H' => W c d σ H') (f ρ) μ S H fun o _ _ H' => Q o H'

theorem peOf {X : Cx} {e : Expr} {t t' : TE} (h : PE X e t) (k : ∀ σ H Q, t' σ H Q → t σ H Q) : PE X e t' := ⟨fun pins s σ H Q I hq => h.run pins s σ H Q I (k σ H Q hq)⟩
theorem ptOf {X : Cx} {e : Expr} {t t' : TT} (h : PT X e t) (k : ∀ σ H Q, t' σ H Q → t σ H Q) : PT X e t' := ⟨fun pins s σ H Q I hq => h.run pins s σ H Q I (k σ H Q hq)⟩
theorem pwOf {X : Cx} {e : Expr} {t t' : TT} (h : PW X e t) (k : ∀ σ H Q, t' σ H Q → t σ H Q) : PW X e t' := ⟨fun wh pins s σ H Q I hq => h.run wh pins s σ H Q I (k σ H Q hq)⟩
theorem paOf {X : Cx} {e : List Expr} {t t' : TA} (h : PA X e t) (k : ∀ σ H Q, t' σ H Q → t σ H Q) : PA X e t' := ⟨fun pos pins s σ H Q I hq => h.run pos pins s σ H Q I (k σ H Q hq)⟩
theorem poOf {X : Cx} {e : Option Expr} {t t' : TO} (h : PO X e t) (k : ∀ σ H Q, t' σ H Q → t σ H Q) : PO X e t' := ⟨fun pins s σ H Q I hq => h.run pins s σ H Q I (k σ H Q hq)⟩

abbrev gx (X : Cx) (ca : Nat → Addr) : Gx := ⟨X.K, ca⟩
section
variable {g : Gx} {W : WX} {σ : L2.St} {ρ : DEnv} {μ : Gh} {S : Sto} {H : Hp} {β : Type}
/-- a part, then what follows it -/
theorem tD_then {f : DEnv → M D} {k : D → M β} {Qb : β → Gh → Sto → Hp → Prop} {R : VK} (env : EnvOk g μ S H σ ρ) (sto : StoOk g μ S H) (h : Wp g (fun c d H' => W c d σ H') (f ρ >>= k) μ S H Qb)
    (q : ∀ d μ1 S1 H1 v, Step μ S H μ1 S1 H1 → StoOk g μ1 S1 H1 → EnvOk g μ1 S1 H1 σ ρ → Rep g μ1 S1 H1 v d → Wp g (fun c d H' => W c d σ H') (k d) μ1 S1 H1 Qb → R v H1) : tD g W f σ H R :=
  ⟨ρ, μ, S, env, sto, (Wp.bind h).mono fun d μ1 S1 H1 t k1 w v r => q d μ1 S1 H1 v t k1 (env.step t) r (w.mono fun _ _ _ _ t2 _ z => z (t.trans t2))⟩
theorem tDA_then {f : DEnv → M (List D)} {k : List D → M β} {Qb : β → Gh → Sto → Hp → Prop} {R : List V → Hp → Prop} (env : EnvOk g μ S H σ ρ) (sto : StoOk g μ S H) (h : Wp g (fun c d H' => W c d σ H') (f ρ >>= k) μ S H Qb)
    (q : ∀ d μ1 S1 H1 v, Step μ S H μ1 S1 H1 → StoOk g μ1 S1 H1 → EnvOk g μ1 S1 H1 σ ρ → RepAll g μ1 S1 H1 v d → Wp g (fun c d H' => W c d σ H') (k d) μ1 S1 H1 Qb → R v H1) : tDA g W f σ H R :=
  ⟨ρ, μ, S, env, sto, (Wp.bind h).mono fun d μ1 S1 H1 t k1 w v r => q d μ1 S1 H1 v t k1 (env.step t) r (w.mono fun _ _ _ _ t2 _ z => z (t.trans t2))⟩
theorem tDT_then {f : DEnv → M Bool} {k : Bool → M β} {Qb : β → Gh → Sto → Hp → Prop} {R : Bool → Hp → Prop} (env : EnvOk g μ S H σ ρ) (sto : StoOk g μ S H) (h : Wp g (fun c d H' => W c d σ H') (f ρ >>= k) μ S H Qb)
    (q : ∀ d μ1 S1 H1, Step μ S H μ1 S1 H1 → StoOk g μ1 S1 H1 → EnvOk g μ1 S1 H1 σ ρ → Wp g (fun c d H' => W c d σ H') (k d) μ1 S1 H1 Qb → R d H1) : tDT g W f σ H R :=
  ⟨ρ, μ, S, env, sto, (Wp.bind h).mono fun d μ1 S1 H1 t k1 w => q d μ1 S1 H1 t k1 (env.step t) (w.mono fun _ _ _ _ t2 _ z => z (t.trans t2))⟩
theorem tDO_then {f : DEnv → M (Option Int)} {k : Option Int → M β} {Qb : β → Gh → Sto → Hp → Prop} {R : Option Int → Hp → Prop} (env : EnvOk g μ S H σ ρ) (sto : StoOk g μ S H) (h : Wp g (fun c d H' => W c d σ H') (f ρ >>= k) μ S H Qb)
    (q : ∀ d μ1 S1 H1, Step μ S H μ1 S1 H1 → StoOk g μ1 S1 H1 → EnvOk g μ1 S1 H1 σ ρ → Wp g (fun c d H' => W c d σ H') (k d) μ1 S1 H1 Qb → R d H1) : tDO g W f σ H R :=
  ⟨ρ, μ, S, env, sto, (Wp.bind h).mono fun d μ1 S1 H1 t k1 w => q d μ1 S1 H1 t k1 (env.step t) (w.mono fun _ _ _ _ t2 _ z => z (t.trans t2))⟩
end

/-! ### the functions -/
def dVar (i : Nat) : DEnv → M D := fun ρ => M.get fun _ => (ρ[i]?).join
def dC (d : D) : DEnv → M D := fun _ => pure d
def dOp (op : D → D → M D) (fa fb : DEnv → M D) : DEnv → M D := fun ρ => do let x ← fa ρ; let y ← fb ρ; op x y
def dUn (op : D → M D) (fa : DEnv → M D) : DEnv → M D := fun ρ => do let x ← fa ρ; op x
def toB : D → M Bool
  | .bl b => pure b
  | _ => M.bad
/-- a < b < c -/
def dChain (op op' : D → D → M D) (fa fb fc : DEnv → M D) : DEnv → M D := fun ρ => do
  let x ← fa ρ
  let y ← fb ρ
  let r ← op x y
  let b ← toB r
  if b then do
    let z ← fc ρ
    op' y z
  else pure (.bl false)
def dAnd (fa fb : DEnv → M D) : DEnv → M D := fun ρ => do let x ← fa ρ; let b ← toB x; if b then fb ρ else pure (.bl false)
def dOr (fa fb : DEnv → M D) : DEnv → M D := fun ρ => do let x ← fa ρ; let b ← toB x; if b then pure (.bl true) else fb ρ
def dNot (fa : DEnv → M D) : DEnv → M D := fun ρ => do let x ← fa ρ; let b ← toB x; pure (.bl !b)
def dIf (ft : DEnv → M Bool) (fa fb : DEnv → M D) : DEnv → M D := fun ρ => do let b ← ft ρ; if b then fa ρ else fb ρ
def tVal (fa : DEnv → M D) : DEnv → M Bool := fun ρ => do let x ← fa ρ; toB x
def tTru (fa : DEnv → M D) : DEnv → M Bool := fun ρ => do let x ← fa ρ; truD x
def tAndD (a b : DEnv → M Bool) : DEnv → M Bool := fun ρ => do let x ← a ρ; if x then b ρ else pure false
def tOrD (a b : DEnv → M Bool) : DEnv → M Bool := fun ρ => do let x ← a ρ; if x then pure true else b ρ
def tNotD (a : DEnv → M Bool) : DEnv → M Bool := fun ρ => do let x ← a ρ; pure !x
def aNil : DEnv → M (List D) := fun _ => pure []
def aCons (f : DEnv → M D) (r : DEnv → M (List D)) : DEnv → M (List D) := fun ρ => do let x ← f ρ; let xs ← r ρ; pure (x :: xs)
def aStar (f : DEnv → M D) (r : DEnv → M (List D)) : DEnv → M (List D) := fun ρ => do let x ← f ρ; let xs ← seqA x; let ys ← r ρ; pure (xs ++ ys)
def dTup (a : DEnv → M (List D)) : DEnv → M D := fun ρ => do let xs ← a ρ; M.need (xs.length ≤ sizeLine); pure (.tup xs)
def dLst (a : DEnv → M (List D)) : DEnv → M D := fun ρ => do let xs ← a ρ; M.need (xs.length ≤ sizeLine); pure (.lst xs)
/-- a list that may change -/
def newCell (xs : List D) : M D := fun S => .ok (.cell S.length) (S ++ [some (.lst xs)])
def dLstC (a : DEnv → M (List D)) : DEnv → M D := fun ρ => do let xs ← a ρ; M.need (xs.length ≤ sizeLine); newCell xs
def oNone : DEnv → M (Option Int) := fun _ => pure none
def oSome (f : DEnv → M D) : DEnv → M (Option Int) := fun ρ => do
  let x ← f ρ
  match x with
  | .int i => pure (some i)
  | _ => M.bad
def dSl (fe : DEnv → M D) (fl fh : DEnv → M (Option Int)) : DEnv → M D := fun ρ => do let x ← fe ρ; let l ← fl ρ; let h ← fh ρ; dSlice x l h

theorem Wp.toB {g : Gx} {E : XK} {μ : Gh} {S : Sto} {H : Hp} {d : D} {Q : Bool → Gh → Sto → Hp → Prop} {v : V} (h : Wp g E (toB d) μ S H Q) (k : StoOk g μ S H) (r : Rep g μ S H v d) : ∃ b, v = .bl b ∧ Q b μ S H := by
  cases r with
  | bl b => exact ⟨b, rfl, Wp.pure h k⟩
  | _ => exact (show False from h).elim
section
variable {X : Cx} {ca : Nat → Addr} {W : WX} {a b c e : Expr} {fa fb fc f : DEnv → M D} {pos : Pos} {es : List Expr} {fs : DEnv → M (List D)} {t u : DEnv → M Bool}
theorem pd_var (i : Nat) {x : Str} (hN : X.N[i]? = some x := by rfl) (hv : Vis X.env.scope x := by first | exact Or.inl rfl | exact Or.inr (Or.inl rfl) | exact Or.inr (Or.inr rfl))
    (hd : (x == ("__debug__" : Str)) = false := by decide) (hcd : (x == ("__classdict__" : Str)) = false := by decide) : PE X (.Name x pos) (tD (gx X ca) W (dVar i)) :=
  peOf (pe_var hN hv hd hcd) fun σ H Q ⟨ρ, μ, S, env, sto, h⟩ => by
    obtain ⟨d, e, q⟩ := Wp.get h sto
    have e' : ρ[i]? = some (some d) := by
      cases z : ρ[i]? with
      | none => rw [z] at e; cases e
      | some o => rw [z] at e; exact congrArg some e
    obtain ⟨v, e1, r⟩ := env.2 i d e'
    exact ⟨v, e1, q v r⟩
theorem pd_c {d : D} {v : V} (h : PE X e (tC v)) (r : ∀ μ S H, Rep (gx X ca) μ S H v d) : PE X e (tD (gx X ca) W (dC d)) :=
  peOf h fun σ H Q ⟨ρ, μ, S, env, sto, h⟩ => Wp.pure h sto v (r μ S H)
theorem pd_int {i : Int} {j : Nat} : PE X (.Constant (.int i) j pos) (tD (gx X ca) W (dC (.int i))) := pd_c pe_int fun _ _ _ => .int _
theorem pd_bl {i : Bool} {j : Nat} : PE X (.Constant (.bool i) j pos) (tD (gx X ca) W (dC (.bl i))) := pd_c pe_bl fun _ _ _ => .bl _
theorem pd_non {j : Nat} : PE X (.Constant .none j pos) (tD (gx X ca) W (dC .non)) := pd_c pe_non fun _ _ _ => .non
theorem pd_str {x : Str} {j : Nat} : PE X (.Constant (.str x) j pos) (tD (gx X ca) W (dC (.str x))) := pd_c pe_str fun _ _ _ => .str _
theorem pd_op {op : Operator} {r : R2} {o : D → D → M D} (ho : OpR X (binaryOp op) r) (hs : OpS (gx X ca) r o) (ha : PE X a (tD (gx X ca) W fa)) (hb : PE X b (tD (gx X ca) W fb)) : PE X (.BinOp a op b pos) (tD (gx X ca) W (dOp o fa fb)) :=
  peOf (pe_op ho ha hb) fun σ H Q ⟨ρ, μ, S, env, sto, h⟩ => tD_then env sto h fun d μ1 S1 H1 v t1 k1 env1 r1 h1 => tD_then env1 k1 h1 fun d2 μ2 S2 H2 v2 t2 k2 env2 r2 h2 =>
    hs _ μ2 S2 H2 v v2 d d2 Q k2 (r1.step t2) r2 h2
theorem pd_cmp {op : CmpOp} {r : R2} {o : D → D → M D} (ho : OpR X (compareOp op) r) (hs : OpS (gx X ca) r o) (ha : PE X a (tD (gx X ca) W fa)) (hb : PE X b (tD (gx X ca) W fb))
    (hm : behindInMarks op b = false := by first | exact nomark _ | rfl) : PE X (.Compare a [op] [b] pos) (tD (gx X ca) W (dOp o fa fb)) :=
  peOf (pe_cmpR ho ha hb hm) fun σ H Q ⟨ρ, μ, S, env, sto, h⟩ => tD_then env sto h fun d μ1 S1 H1 v t1 k1 env1 r1 h1 => tD_then env1 k1 h1 fun d2 μ2 S2 H2 v2 t2 k2 env2 r2 h2 =>
    hs _ μ2 S2 H2 v v2 d d2 Q k2 (r1.step t2) r2 h2
theorem pd_un {op : UnaryOp} {r : V → Hp → VK → Prop} {o : D → M D} (ho : UnR X (unaryOp op) r) (hs : UnS (gx X ca) r o) (ha : PE X a (tD (gx X ca) W fa)) : PE X (.UnaryOp op a pos) (tD (gx X ca) W (dUn o fa)) :=
  peOf (pe_un ho ha) fun σ H Q ⟨ρ, μ, S, env, sto, h⟩ => tD_then env sto h fun d μ1 S1 H1 v t1 k1 env1 r1 h1 => hs _ μ1 S1 H1 v d Q k1 r1 h1
theorem pd_isN {j : Nat} {pos' : Pos} (ha : PE X a (tD (gx X ca) W fa)) : PE X (.Compare a [.Is] [.Constant .none j pos'] pos) (tD (gx X ca) W (dUn (fun d => pure (.bl (isNon d))) fa)) :=
  peOf (pe_cmp (pc_isN ha) rfl) fun σ H Q ⟨ρ, μ, S, env, sto, h⟩ => tD_then env sto h fun d μ1 S1 H1 v t1 k1 env1 r1 h1 => by
    rw [isNon_rep r1]
    exact Wp.pure h1 k1 _ (.bl _)
theorem pd_notN {j : Nat} {pos' : Pos} (ha : PE X a (tD (gx X ca) W fa)) : PE X (.Compare a [.IsNot] [.Constant .none j pos'] pos) (tD (gx X ca) W (dUn (fun d => pure (.bl !(isNon d))) fa)) :=
  peOf (pe_cmp (pc_notN ha) rfl) fun σ H Q ⟨ρ, μ, S, env, sto, h⟩ => tD_then env sto h fun d μ1 S1 H1 v t1 k1 env1 r1 h1 => by
    rw [isNon_rep r1]
    exact Wp.pure h1 k1 _ (.bl _)
theorem pd_chain {op op' : CmpOp} {r r' : R2} {o o' : D → D → M D} (ho : OpR X (compareOp op) r) (hs : OpS (gx X ca) r o) (ho' : OpR X (compareOp op') r') (hs' : OpS (gx X ca) r' o') (ha : PE X a (tD (gx X ca) W fa)) (hb : PE X b (tD (gx X ca) W fb)) (hc : PE X c (tD (gx X ca) W fc))
    (hm : lastMarks [op, op'] [b, c] = false := by with_unfolding_all rfl) : PE X (.Compare a [op, op'] [b, c] pos) (tD (gx X ca) W (dChain o o' fa fb fc)) :=
  peOf (pe_chain ho ho' ha hb hc hm) fun σ H Q ⟨ρ, μ, S, env, sto, h⟩ => tD_then env sto h fun d μ1 S1 H1 v t1 k1 env1 r1 h1 => tD_then env1 k1 h1 fun d2 μ2 S2 H2 v2 t2 k2 env2 r2 h2 => by
    refine hs _ μ2 S2 H2 v v2 d d2 _ k2 (r1.step t2) r2 ((Wp.bind h2).mono fun d3 μ3 S3 H3 t3 k3 h3 v3 r3 => ?_)
    obtain ⟨q, rfl, h4⟩ := Wp.toB (Wp.bind h3) k3 r3
    refine ⟨q, rfl, ?_⟩
    cases q with
    | false =>
      simp only [Bool.false_eq_true, if_false] at h4 ⊢
      exact Wp.pure h4 k3 (Step.refl _ _ _) t3 _ (.bl _)
    | true =>
      simp only [if_true] at h4 ⊢
      refine tD_then (env2.step t3) k3 h4 fun d4 μ4 S4 H4 v4 t4 k4 env4 r4 h5 => ?_
      exact hs' _ μ4 S4 H4 v2 v4 d2 d4 Q k4 (r2.step (t3.trans t4)) r4 (h5.mono fun d5 μ5 S5 H5 t5 k5 h6 => h6 (t4.trans t5) (t3.trans (t4.trans t5)))
end
end DD

/-! DD5: the rules of expressions, tests, arguments, displays, calls -/
namespace DD
open PySem PySem.Spec PyProof.Rows L2

section
variable {X : Cx} {ca : Nat → Addr} {W : WX} {a b c e : Expr} {fa fb fc f : DEnv → M D} {pos p : Pos} {es rest : List Expr} {fs : DEnv → M (List D)} {t u : DEnv → M Bool}
theorem pd_one {op : BoolOp} (h : PE X a (tD (gx X ca) W fa)) : PE X (.BoolOp op [a] pos) (tD (gx X ca) W fa) := pe_one h
theorem pd_and (ha : PE X a (tD (gx X ca) W fa)) (hb : PE X (.BoolOp .And (b :: rest) pos) (tD (gx X ca) W fb)) : PE X (.BoolOp .And (a :: b :: rest) pos) (tD (gx X ca) W (dAnd fa fb)) :=
  peOf (pe_and ha hb) fun σ H Q ⟨ρ, μ, S, env, sto, h⟩ => tD_then env sto h fun d μ1 S1 H1 v t1 k1 env1 r1 h1 => by
    obtain ⟨q, rfl, h2⟩ := Wp.toB (Wp.bind h1) k1 r1
    refine ⟨q, rfl, ?_⟩
    cases q with
    | true =>
      simp only [if_true] at h2 ⊢
      exact ⟨ρ, μ1, S1, env1, k1, h2.mono fun _ _ _ _ t2 _ z => z t2⟩
    | false =>
      simp only [Bool.false_eq_true, if_false] at h2 ⊢
      exact Wp.pure h2 k1 (Step.refl _ _ _) _ (.bl _)
theorem pd_or (ha : PE X a (tD (gx X ca) W fa)) (hb : PE X (.BoolOp .Or (b :: rest) pos) (tD (gx X ca) W fb)) : PE X (.BoolOp .Or (a :: b :: rest) pos) (tD (gx X ca) W (dOr fa fb)) :=
  peOf (pe_or ha hb) fun σ H Q ⟨ρ, μ, S, env, sto, h⟩ => tD_then env sto h fun d μ1 S1 H1 v t1 k1 env1 r1 h1 => by
    obtain ⟨q, rfl, h2⟩ := Wp.toB (Wp.bind h1) k1 r1
    refine ⟨q, rfl, ?_⟩
    cases q with
    | false =>
      simp only [Bool.false_eq_true, if_false] at h2 ⊢
      exact ⟨ρ, μ1, S1, env1, k1, h2.mono fun _ _ _ _ t2 _ z => z t2⟩
    | true =>
      simp only [if_true] at h2 ⊢
      exact Wp.pure h2 k1 (Step.refl _ _ _) _ (.bl _)
theorem pd_not (ha : PE X a (tD (gx X ca) W fa)) : PE X (.UnaryOp .Not a pos) (tD (gx X ca) W (dNot fa)) :=
  peOf (pe_not ha) fun σ H Q ⟨ρ, μ, S, env, sto, h⟩ => tD_then env sto h fun d μ1 S1 H1 v t1 k1 env1 r1 h1 => by
    obtain ⟨q, rfl, h2⟩ := Wp.toB (Wp.bind h1) k1 r1
    exact ⟨q, rfl, Wp.pure h2 k1 (Step.refl _ _ _) _ (.bl _)⟩
theorem pd_if (hc : PT X c (tDT (gx X ca) W t)) (ha : PE X a (tD (gx X ca) W fa)) (hb : PE X b (tD (gx X ca) W fb)) : PE X (.IfExp c a b pos) (tD (gx X ca) W (dIf t fa fb)) :=
  peOf (pe_ifExp hc ha hb) fun σ H Q ⟨ρ, μ, S, env, sto, h⟩ => tDT_then env sto h fun q μ1 S1 H1 t1 k1 env1 h1 => by
    cases q with
    | true =>
      simp only [if_true] at h1 ⊢
      exact ⟨ρ, μ1, S1, env1, k1, h1⟩
    | false =>
      simp only [Bool.false_eq_true, if_false] at h1 ⊢
      exact ⟨ρ, μ1, S1, env1, k1, h1⟩

/-! ### tests -/
theorem td_cmp {op : CmpOp} {r : R2} {o : D → D → M D} (ho : OpR X (compareOp op) r) (hs : OpS (gx X ca) r o) (ha : PE X a (tD (gx X ca) W fa)) (hb : PE X b (tD (gx X ca) W fb))
    (hm : behindInMarks op b = false := by first | exact nomark _ | rfl) : PT X (.Compare a [op] [b] pos) (tDT (gx X ca) W (tVal (dOp o fa fb))) :=
  ptOf (pt_cmpR ho ha hb hm) fun σ H Q ⟨ρ, μ, S, env, sto, h⟩ => by
    have h' : Wp (gx X ca) (fun c d H' => W c d σ H') (fa ρ >>= fun x => fb ρ >>= fun y => o x y >>= toB) μ S H fun b _ _ H' => Q b H' := by
      have e : tVal (dOp o fa fb) ρ = (fa ρ >>= fun x => fb ρ >>= fun y => o x y >>= toB) := by
        funext S'
        show M.bind (M.bind (fa ρ) fun x => M.bind (fb ρ) fun y => o x y) toB S' = M.bind (fa ρ) (fun x => M.bind (fb ρ) fun y => M.bind (o x y) toB) S'
        unfold M.bind
        cases fa ρ S' with
        | ok x S1 =>
          dsimp only
          cases fb ρ S1 with
          | ok y S2 => rfl
          | _ => rfl
        | _ => rfl
      rw [← e]
      exact h
    refine tD_then env sto h' fun d μ1 S1 H1 v t1 k1 env1 r1 h1 => tD_then env1 k1 h1 fun d2 μ2 S2 H2 v2 t2 k2 env2 r2 h2 => ?_
    refine hs _ μ2 S2 H2 v v2 d d2 _ k2 (r1.step t2) r2 ((Wp.bind h2).mono fun d3 μ3 S3 H3 t3 k3 h3 v3 r3 => ?_)
    obtain ⟨q, rfl, h4⟩ := Wp.toB h3 k3 r3
    exact ⟨q, rfl, h4 t3⟩
theorem td_isN {j : Nat} {pos' : Pos} (ha : PE X a (tD (gx X ca) W fa)) : PT X (.Compare a [.Is] [.Constant .none j pos'] pos) (tDT (gx X ca) W (fun ρ => do let d ← fa ρ; pure (isNon d))) :=
  ptOf (pt_cmp (pc_isN ha) rfl) fun σ H Q ⟨ρ, μ, S, env, sto, h⟩ => tD_then env sto h fun d μ1 S1 H1 v t1 k1 env1 r1 h1 => by
    rw [isNon_rep r1]
    exact ⟨_, rfl, Wp.pure h1 k1⟩
theorem td_notN {j : Nat} {pos' : Pos} (ha : PE X a (tD (gx X ca) W fa)) : PT X (.Compare a [.IsNot] [.Constant .none j pos'] pos) (tDT (gx X ca) W (fun ρ => do let d ← fa ρ; pure !(isNon d))) :=
  ptOf (pt_cmp (pc_notN ha) rfl) fun σ H Q ⟨ρ, μ, S, env, sto, h⟩ => tD_then env sto h fun d μ1 S1 H1 v t1 k1 env1 r1 h1 => by
    rw [isNon_rep r1]
    exact ⟨_, rfl, Wp.pure h1 k1⟩
theorem td_chain {op op' : CmpOp} {r r' : R2} {o o' : D → D → M D} (ho : OpR X (compareOp op) r) (hs : OpS (gx X ca) r o) (ho' : OpR X (compareOp op') r') (hs' : OpS (gx X ca) r' o') (ha : PE X a (tD (gx X ca) W fa)) (hb : PE X b (tD (gx X ca) W fb)) (hc : PE X c (tD (gx X ca) W fc))
    (hm : lastMarks [op, op'] [b, c] = false := by with_unfolding_all rfl) : PT X (.Compare a [op, op'] [b, c] pos) (tDT (gx X ca) W (tVal (dChain o o' fa fb fc))) :=
  ptOf (pt_chain ho ho' ha hb hc hm) fun σ H Q ⟨ρ, μ, S, env, sto, h⟩ => by
    have h0 : tD (gx X ca) W (dChain o o' fa fb fc) σ H fun x H' => ∃ k, x = .bl k ∧ Q k H' := ⟨ρ, μ, S, env, sto, (Wp.bind h).mono fun d μ1 S1 H1 t1 k1 w v r1 => by
      obtain ⟨q, rfl, h4⟩ := Wp.toB w k1 r1
      exact ⟨q, rfl, h4 t1⟩⟩
    obtain ⟨ρ, μ, S, env, sto, h⟩ := h0
    exact tD_then env sto h fun d μ1 S1 H1 v t1 k1 env1 r1 h1 => tD_then env1 k1 h1 fun d2 μ2 S2 H2 v2 t2 k2 env2 r2 h2 => by
      refine hs _ μ2 S2 H2 v v2 d d2 _ k2 (r1.step t2) r2 ((Wp.bind h2).mono fun d3 μ3 S3 H3 t3 k3 h3 v3 r3 => ?_)
      obtain ⟨q, rfl, h4⟩ := Wp.toB (Wp.bind h3) k3 r3
      refine ⟨q, rfl, ?_⟩
      cases q with
      | false =>
        simp only [Bool.false_eq_true, if_false] at h4 ⊢
        exact Wp.pure h4 k3 (Step.refl _ _ _) t3 _ (.bl _)
      | true =>
        simp only [if_true] at h4 ⊢
        refine tD_then (env2.step t3) k3 h4 fun d4 μ4 S4 H4 v4 t4 k4 env4 r4 h5 => ?_
        exact hs' _ μ4 S4 H4 v2 v4 d2 d4 _ k4 (r2.step (t3.trans t4)) r4 (h5.mono fun d5 μ5 S5 H5 t5 k5 h6 => h6 (t4.trans t5) (t3.trans (t4.trans t5)))
theorem td_tru (ha : PE X a (tD (gx X ca) W fa)) (he : ∀ whole, isTrue a X.env whole = (do let v ← whole; standAt a.pos; holding [v] (truthy v)) := by intro _; rfl) : PT X a (tDT (gx X ca) W (tTru fa)) :=
  ptOf (pt_truth ha he) fun σ H Q ⟨ρ, μ, S, env, sto, h⟩ => tD_then env sto h fun d μ1 S1 H1 v t1 k1 env1 r1 h1 => tru_s k1 r1 h1
theorem td_not (ha : PT X a (tDT (gx X ca) W t)) : PT X (.UnaryOp .Not a pos) (tDT (gx X ca) W (tNotD t)) :=
  ptOf (pt_not ha) fun σ H Q ⟨ρ, μ, S, env, sto, h⟩ => tDT_then env sto h fun q μ1 S1 H1 t1 k1 env1 h1 => Wp.pure h1 k1
theorem wd_and1 (ha : PT X a (tDT (gx X ca) W t)) : PW X (.BoolOp .And [a] pos) (tDT (gx X ca) W t) := pw_and1 ha
theorem wd_or1 (ha : PT X a (tDT (gx X ca) W t)) : PW X (.BoolOp .Or [a] pos) (tDT (gx X ca) W t) := pw_or1 ha
theorem wd_and (ha : PT X a (tDT (gx X ca) W t)) (hb : PW X (.BoolOp .And (b :: rest) pos) (tDT (gx X ca) W u)) : PW X (.BoolOp .And (a :: b :: rest) pos) (tDT (gx X ca) W (tAndD t u)) :=
  pwOf (pw_and ha hb) fun σ H Q ⟨ρ, μ, S, env, sto, h⟩ => tDT_then env sto h fun q μ1 S1 H1 t1 k1 env1 h1 => by
    cases q with
    | true =>
      simp only [if_true] at h1 ⊢
      exact ⟨ρ, μ1, S1, env1, k1, h1⟩
    | false =>
      simp only [Bool.false_eq_true, if_false] at h1 ⊢
      exact Wp.pure h1 k1
theorem wd_or (ha : PT X a (tDT (gx X ca) W t)) (hb : PW X (.BoolOp .Or (b :: rest) pos) (tDT (gx X ca) W u)) : PW X (.BoolOp .Or (a :: b :: rest) pos) (tDT (gx X ca) W (tOrD t u)) :=
  pwOf (pw_or ha hb) fun σ H Q ⟨ρ, μ, S, env, sto, h⟩ => tDT_then env sto h fun q μ1 S1 H1 t1 k1 env1 h1 => by
    cases q with
    | true =>
      simp only [if_true] at h1 ⊢
      exact Wp.pure h1 k1
    | false =>
      simp only [Bool.false_eq_true, if_false] at h1 ⊢
      exact ⟨ρ, μ1, S1, env1, k1, h1⟩

/-! ### arguments, displays -/
theorem ad_nil : PA X [] (tDA (gx X ca) W aNil) := paOf pa_nil fun σ H Q ⟨ρ, μ, S, env, sto, h⟩ => Wp.pure h sto _ .nil
theorem ad_cons (ha : PE X e (tD (gx X ca) W f)) (hr : PA X es (tDA (gx X ca) W fs)) (hs : starEach (e :: es) X.env = (false, eval e X.env) :: starEach es X.env := by rfl) : PA X (e :: es) (tDA (gx X ca) W (aCons f fs)) :=
  paOf (pa_cons ha hr hs) fun σ H Q ⟨ρ, μ, S, env, sto, h⟩ => tD_then env sto h fun d μ1 S1 H1 v t1 k1 env1 r1 h1 => tDA_then env1 k1 h1 fun ds μ2 S2 H2 vs t2 k2 env2 r2 h2 =>
    Wp.pure h2 k2 _ (.cons (r1.step t2) r2)
theorem ad_star (ha : PE X e (tD (gx X ca) W f)) (hr : PA X es (tDA (gx X ca) W fs)) (hs : starEach (.Starred e p :: es) X.env = (true, eval e X.env) :: starEach es X.env := by rfl) : PA X (.Starred e p :: es) (tDA (gx X ca) W (aStar f fs)) :=
  paOf (StX.pa_star ha hr hs) fun σ H Q ⟨ρ, μ, S, env, sto, h⟩ => tD_then env sto h fun d μ1 S1 H1 v t1 k1 env1 r1 h1 => by
    obtain ⟨xs, a, vs, rfl, hq, rx, h2⟩ := Wp.seqA (Wp.bind h1) k1 r1
    refine ⟨a, vs, rfl, hq.symm, tDA_then env1 k1 (h2.mono fun _ _ _ _ t z w => w t) fun ds μ2 S2 H2 ws t2 k2 env2 r2 h3 => ?_⟩
    exact Wp.pure h3 k2 _ ((rx.step t2).append r2)
theorem pd_tup {x1 : Nat} (h : PA X es (tDA (gx X ca) W fs)) : PE X (.Tuple es x1 pos) (tD (gx X ca) W (dTup fs)) :=
  peOf (pe_tup h) fun σ H Q ⟨ρ, μ, S, env, sto, h⟩ => tDA_then env sto h fun ds μ1 S1 H1 vs t1 k1 env1 r1 h1 => by
    obtain ⟨h2, h3⟩ := Wp.need (Wp.bind h1) k1
    refine ⟨by rw [r1.length]; exact h2, fun p hp => ?_⟩
    obtain ⟨t, k', r⟩ := new_tup k1 hp r1
    exact Wp.end h3 t k' t _ r
theorem pd_lst (h : PA X es (tDA (gx X ca) W fs)) : PE X (.List es pos) (tD (gx X ca) W (dLst fs)) :=
  peOf (pe_lst h) fun σ H Q ⟨ρ, μ, S, env, sto, h⟩ => tDA_then env sto h fun ds μ1 S1 H1 vs t1 k1 env1 r1 h1 => by
    obtain ⟨h2, h3⟩ := Wp.need (Wp.bind h1) k1
    refine ⟨by rw [r1.length]; exact h2, fun p hp => ?_⟩
    obtain ⟨t, k', r⟩ := new_lst k1 hp r1
    exact Wp.end h3 t k' t _ r
theorem new_cell {g : Gx} {E : XK} {μ : Gh} {S : Sto} {H : Hp} {vs : List V} {ds : List D} {Q : D → Gh → Sto → Hp → Prop} (k : StoOk g μ S H) (r : RepAll g μ S H vs ds) (h : Wp g E (newCell ds) μ S H Q) (pp : Addr) (hp : H pp = none) :
    ∃ μ' S' d, Step μ S H μ' S' (upd H pp (.lst vs)) ∧ StoOk g μ' S' (upd H pp (.lst vs)) ∧ Rep g μ' S' (upd H pp (.lst vs)) (.ref pp) d ∧ Q d μ' S' (upd H pp (.lst vs)) := by
  obtain ⟨t, k', rr⟩ := sto_new k hp (.lst r) S.length rfl
  exact ⟨_, _, _, t, k', rr, h _ _ t k'⟩
theorem pd_lstC (h : PA X es (tDA (gx X ca) W fs)) : PE X (.List es pos) (tD (gx X ca) W (dLstC fs)) :=
  peOf (pe_lst h) fun σ H Q ⟨ρ, μ, S, env, sto, h⟩ => tDA_then env sto h fun ds μ1 S1 H1 vs t1 k1 env1 r1 h1 => by
    obtain ⟨h2, h3⟩ := Wp.need (Wp.bind h1) k1
    refine ⟨by rw [r1.length]; exact h2, fun p hp => ?_⟩
    obtain ⟨μ', S', d, t, k', r, q⟩ := new_cell k1 r1 h3 p hp
    exact q t _ r
theorem pd_ix (ha : PE X a (tD (gx X ca) W fa)) (hb : PE X b (tD (gx X ca) W fb)) (hs : PlainIx b := by exact fun _ _ => rfl) : PE X (.Subscript a b pos) (tD (gx X ca) W (dOp dIx fa fb)) :=
  peOf (pe_ix ix_seq ha hb hs) fun σ H Q ⟨ρ, μ, S, env, sto, h⟩ => tD_then env sto h fun d μ1 S1 H1 v t1 k1 env1 r1 h1 => tD_then env1 k1 h1 fun d2 μ2 S2 H2 v2 t2 k2 env2 r2 h2 =>
    ix_s _ μ2 S2 H2 v v2 d d2 Q k2 (r1.step t2) r2 h2
theorem od_none : PO X none (tDO (gx X ca) W oNone) := poOf po_none fun σ H Q ⟨ρ, μ, S, env, sto, h⟩ => Wp.pure h sto
theorem od_some (ha : PE X e (tD (gx X ca) W f)) : PO X (some e) (tDO (gx X ca) W (oSome f)) := poOf (po_some ha) fun σ H Q ⟨ρ, μ, S, env, sto, h⟩ => tD_then env sto h fun d μ1 S1 H1 v t1 k1 env1 r1 h1 => by
  cases r1 with
  | int i => exact ⟨i, rfl, Wp.pure h1 k1⟩
  | _ => exact (show False from h1).elim
theorem pd_slice {lo hi : Option Expr} {p2 : Pos} {fl fh : DEnv → M (Option Int)} (he : PE X e (tD (gx X ca) W f)) (hl : PO X lo (tDO (gx X ca) W fl)) (hh : PO X hi (tDO (gx X ca) W fh)) : PE X (.Subscript e (.Slice lo hi none p2) pos) (tD (gx X ca) W (dSl f fl fh)) :=
  peOf (pe_slice sl_D he hl hh) fun σ H Q ⟨ρ, μ, S, env, sto, h⟩ => tD_then env sto h fun d μ1 S1 H1 v t1 k1 env1 r1 h1 => tDO_then env1 k1 h1 fun l μ2 S2 H2 t2 k2 env2 h2 => tDO_then env2 k2 h2 fun l2 μ3 S3 H3 t3 k3 env3 h3 =>
    sl_s k3 (r1.step (t2.trans t3)) h3
end

/-! ### calls -/
/-- a def's promise by its function on data -/
def spD (g : Gx) (n : Nat) (F : List D → M D) : Sp := fun vs H Q E => ∃ ds μ S, vs.length = n ∧ RepAll g μ S H vs ds ∧ StoOk g μ S H ∧ Wp g E (F ds) μ S H fun d μ' S' H' => ∀ v, Rep g μ' S' H' v d → Q v H'
def dCall (n : Nat) (F : List D → M D) (fs : DEnv → M (List D)) : DEnv → M D := fun ρ => do let ds ← fs ρ; M.need (ds.length = n); F ds
section
variable {X : Cx} {ca : Nat → Addr} {W : WX} {e o : Expr} {f : DEnv → M D} {pos p apos cpos : Pos} {es : List Expr} {fs : DEnv → M (List D)} {x : Str}
theorem pd_callD {k n m : Nat} {fa : Addr} {fd : FuncData} {ps : List Str} {F : List D → M D} {dvs : List V} {ds : List Value} {dd : List D} (G : FnOk X.prog X.w X.K X.mg X.base (L2.CX X.prog X.w) k fa fd ps (spD (gx X ca) m F)) (hr : Room k X.A) (tk : Takes X W) (hm : X.mg x = some (.ref fa)) (hk : PySem.W.keepIn X.K (.ref fa) = true) (hb : Binds X.K fd ps ds)
    (hd : Vals dvs ds) (rd : ∀ μ S H, RepAll (gx X ca) μ S H dvs dd) (ha : PA X (e :: es) (tDA (gx X ca) W fs)) (hmn : n + dd.length = m) (hg : Gl X x := by rfl) (hdb : (x == ("__debug__" : Str)) = false := by decide) (he : starEach (e :: es) X.env = (false, eval e X.env) :: starEach es X.env := by rfl) (hpl : (backTo pos (starEach es X.env)).any (·.1) = false := by rfl) :
    PE X (.Call (.Name x p) (e :: es) [] pos) (tD (gx X ca) W (dCall n (fun as => F (as ++ dd)) fs)) :=
  peOf (pe_callSD G hr hg hm hk hb hd (fun σ => passAt tk σ) ha hdb he hpl) fun σ H Q ⟨ρ, μ, S, env, sto, h⟩ => tDA_then env sto h fun as μ1 S1 H1 vs t1 k1 env1 r1 h1 => by
    obtain ⟨h2, h3⟩ := Wp.need (Wp.bind h1) k1
    have ra := r1.append (rd μ1 S1 H1)
    refine ⟨as ++ dd, μ1, S1, ?_, ra, k1, h3.mono fun _ _ _ _ t _ z => z t⟩
    rw [ra.length, List.length_append, h2]
    exact hmn
theorem pd_call {k n : Nat} {fa : Addr} {fd : FuncData} {ps : List Str} {F : List D → M D} (G : FnOk X.prog X.w X.K X.mg X.base (L2.CX X.prog X.w) k fa fd ps (spD (gx X ca) n F)) (hr : Room k X.A) (tk : Takes X W) (hm : X.mg x = some (.ref fa)) (hk : PySem.W.keepIn X.K (.ref fa) = true) (hb : Binds X.K fd ps [])
    (ha : PA X (e :: es) (tDA (gx X ca) W fs)) (hg : Gl X x := by rfl) (hdb : (x == ("__debug__" : Str)) = false := by decide) (he : starEach (e :: es) X.env = (false, eval e X.env) :: starEach es X.env := by rfl) (hpl : (backTo pos (starEach es X.env)).any (·.1) = false := by rfl) :
    PE X (.Call (.Name x p) (e :: es) [] pos) (tD (gx X ca) W (dCall n F fs)) :=
  peOf (pe_callSD G hr hg hm hk hb .nil (fun σ => passAt tk σ) ha hdb he hpl) fun σ H Q ⟨ρ, μ, S, env, sto, h⟩ => tDA_then env sto h fun as μ1 S1 H1 vs t1 k1 env1 r1 h1 => by
    obtain ⟨h2, h3⟩ := Wp.need (Wp.bind h1) k1
    rw [List.append_nil]
    refine ⟨as, μ1, S1, ?_, r1, k1, h3.mono fun _ _ _ _ t _ z => z t⟩
    rw [r1.length]
    exact h2
/-- built-in functions and classes, by their rule and its meaning -/
theorem pd_callB {id : String} {r : List V → Hp → VK → Prop} {F : List D → M D} (hc : CallR X (.builtin id) r) (hs : CallS (gx X ca) r F) (hm : X.mg x = none) (hv : bootBuiltins x = some (.builtin id)) (ha : PA X (e :: es) (tDA (gx X ca) W fs)) (hg : Gl X x := by rfl) (hn : x ≠ "__name__" := by decide) (hdb : (x == ("__debug__" : Str)) = false := by decide)
    (he : starEach (e :: es) X.env = (false, eval e X.env) :: starEach es X.env := by rfl) (hpl : (backTo pos (starEach es X.env)).any (·.1) = false := by rfl) : PE X (.Call (.Name x p) (e :: es) [] pos) (tD (gx X ca) W (fun ρ => do let ds ← fs ρ; F ds)) :=
  peOf (pe_callB hc hg hm hv ha hn hdb he hpl) fun σ H Q ⟨ρ, μ, S, env, sto, h⟩ => tDA_then env sto h fun as μ1 S1 H1 vs t1 k1 env1 r1 h1 => hs _ μ1 S1 H1 vs as Q k1 r1 h1
theorem pd_callTy {T : String} {r : List V → Hp → VK → Prop} {F : List D → M D} (hc : CallR X (.type T) r) (hs : CallS (gx X ca) r F) (hm : X.mg x = none) (hv : bootBuiltins x = some (.type T)) (ha : PA X (e :: es) (tDA (gx X ca) W fs)) (hg : Gl X x := by rfl) (hn : x ≠ "__name__" := by decide) (hdb : (x == ("__debug__" : Str)) = false := by decide)
    (he : starEach (e :: es) X.env = (false, eval e X.env) :: starEach es X.env := by rfl) (hpl : (backTo pos (starEach es X.env)).any (·.1) = false := by rfl) : PE X (.Call (.Name x p) (e :: es) [] pos) (tD (gx X ca) W (fun ρ => do let ds ← fs ρ; F ds)) :=
  peOf (pe_callTy hc hg hm hv ha hn hdb he hpl) fun σ H Q ⟨ρ, μ, S, env, sto, h⟩ => tDA_then env sto h fun as μ1 S1 H1 vs t1 k1 env1 r1 h1 => hs _ μ1 S1 H1 vs as Q k1 r1 h1
end
/-- which built-in type a receiver is of -/
def isTy (T : String) : D → M Unit
  | .str _ => M.need (T = "str")
  | .lst _ => M.need (T = "list")
  | .cell n => do let _ ← M.get (cellL n); M.need (T = "list")
  | _ => M.bad
def dMt (T : String) (F : D → List D → M D) (f : DEnv → M D) (fs : DEnv → M (List D)) : DEnv → M D := fun ρ => do let x ← f ρ; isTy T x; let ds ← fs ρ; F x ds
theorem isTy_s {g : Gx} {E : XK} {T : String} {μ : Gh} {S : Sto} {H : Hp} {d : D} {Q : Unit → Gh → Sto → Hp → Prop} {v : V} (h : Wp g E (isTy T d) μ S H Q) (k : StoOk g μ S H) (r : Rep g μ S H v d) : tyV g.K T v H ∧ Q () μ S H := by
  cases r with
  | str x =>
    obtain ⟨h1, h2⟩ := Wp.need h k
    exact ⟨h1, h2⟩
  | lst f q =>
    obtain ⟨h1, h2⟩ := Wp.need h k
    exact ⟨.inl ⟨h1, _, f.sq⟩, h2⟩
  | cell e =>
    obtain ⟨xs, e1, h1⟩ := Wp.get (Wp.bind h) k
    obtain ⟨h2, h3⟩ := Wp.need h1 k
    obtain ⟨vs, h4, _⟩ := cell_rep k e1 e
    exact ⟨.inl ⟨h2, vs, .of h4⟩, h3 (Step.refl _ _ _)⟩
  | _ => exact (show False from h).elim
section
variable {X : Cx} {ca : Nat → Addr} {W : WX} {e o : Expr} {f : DEnv → M D} {pos p apos cpos : Pos} {es : List Expr} {fs : DEnv → M (List D)} {name : Str}
/-- a method of a list, of a text -/
theorem pd_mt {T : String} {id : String} {r : V → List V → Hp → VK → Prop} {F : D → List D → M D} (pa : PlainAttrs T) (slot : Slot T name id) (hty : typeOf (.builtin id) = pure (.type "method_descriptor")) (hm : MtR X id r) (hs : MtS (gx X ca) r F)
    (ho : PE X o (tD (gx X ca) W f)) (ha : PA X (e :: es) (tDA (gx X ca) W fs)) (hbase : attributeBase o name X.env (eval o X.env) = eval o X.env := by rfl)
    (hfew : ((backTo cpos (starEach (e :: es) X.env)).all (fun x => !x.1) && (backToKw cpos (keywordEach [] X.env)).all (fun x => x.1.isSome)
      && decide ((e :: es).length + ([] : List Keyword).length + (if ([] : List Keyword).isEmpty then 0 else 1) < 30)) = true := by rfl)
    (hline : (apos.endLine == cpos.line) = true := by rfl) (hst : starEach (e :: es) X.env = (false, eval e X.env) :: starEach es X.env := by rfl) (hplain : (backTo cpos (starEach es X.env)).any (·.1) = false := by rfl) :
    PE X (.Call (.Attribute o name apos) (e :: es) [] cpos) (tD (gx X ca) W (dMt T F f fs)) :=
  peOf (pe_bm pa slot hty hm ho ha hbase hfew hline hst hplain) fun σ H Q ⟨ρ, μ, S, env, sto, h⟩ => tD_then env sto h fun d μ1 S1 H1 v t1 k1 env1 r1 h1 => by
    obtain ⟨ty, h2⟩ := isTy_s (Wp.bind h1) k1 r1
    refine ⟨ty, tDA_then env1 k1 (h2.mono fun _ _ _ _ t z w => w t) fun as μ2 S2 H2 vs t2 k2 env2 r2 h3 => ?_⟩
    exact hs _ μ2 S2 H2 v d vs as Q k2 (r1.step t2) r2 h3
theorem pd_mt0 {T : String} {id : String} {r : V → List V → Hp → VK → Prop} {F : D → List D → M D} (pa : PlainAttrs T) (slot : Slot T name id) (hty : typeOf (.builtin id) = pure (.type "method_descriptor")) (hm : MtR X id r) (hs : MtS (gx X ca) r F)
    (ho : PE X o (tD (gx X ca) W f)) (hbase : attributeBase o name X.env (eval o X.env) = eval o X.env := by rfl) (hline : (apos.endLine == cpos.line) = true := by rfl) :
    PE X (.Call (.Attribute o name apos) [] [] cpos) (tD (gx X ca) W (dMt T F f aNil)) :=
  peOf (pe_bm0 pa slot hty hm ho hbase hline) fun σ H Q ⟨ρ, μ, S, env, sto, h⟩ => tD_then env sto h fun d μ1 S1 H1 v t1 k1 env1 r1 h1 => by
    obtain ⟨ty, h2⟩ := isTy_s (Wp.bind h1) k1 r1
    exact ⟨ty, hs _ μ1 S1 H1 v d [] [] Q k1 r1 .nil (Wp.mono (Wp.pure (Wp.bind (h2.mono fun _ _ _ _ t z w => w t)) k1) fun _ _ _ _ t _ z => z t)⟩
end
end DD

/-! DD6: built-in functions and methods by data -/
namespace DD
open PySem PySem.Spec PyProof.Rows L2
section
variable {g : Gx} {E : XK} {μ : Gh} {S : Sto} {H : Hp}
theorem rep1 {vs : List V} {d : D} (r : RepAll g μ S H vs [d]) : ∃ v, vs = [v] ∧ Rep g μ S H v d := by
  cases r with
  | cons r q => cases q; exact ⟨_, rfl, r⟩
theorem rep2 {vs : List V} {d e : D} (r : RepAll g μ S H vs [d, e]) : ∃ v u, vs = [v, u] ∧ Rep g μ S H v d ∧ Rep g μ S H u e := by
  cases r with
  | cons r q =>
    obtain ⟨u, rfl, r2⟩ := rep1 q
    exact ⟨_, u, rfl, r, r2⟩
/-- a call with one argument -/
def one (f : D → M D) : List D → M D
  | [x] => f x
  | _ => M.bad
theorem one_s {r : List V → Hp → VK → Prop} {f : D → M D} (w : ∀ (E : XK) (μ : Gh) (S : Sto) (H : Hp) (v : V) (d : D) (Q : VK), StoOk g μ S H → Rep g μ S H v d → Wp g E (f d) μ S H (fun d μ' S' H' => ∀ w, Rep g μ' S' H' w d → Q w H') → r [v] H Q) : CallS g r (one f) := by
  intro E μ S H vs xs Q k ra h
  unfold one at h
  split at h
  · obtain ⟨v, rfl, rr⟩ := rep1 ra
    exact w E μ S H v _ Q k rr h
  · exact (show False from h).elim
/-! ### len -/
def len1 : D → M D
  | .str x => do M.need (x.length ≤ sizeLine); pure (.int x.length)
  | x => do let xs ← seqA x; pure (.int xs.length)
abbrev dLen := one len1
theorem len_s : CallS g (fun xs H Q => ∃ x n, xs = [x] ∧ LenV g.K x H n ∧ Q (.int n) H) dLen := by
  refine one_s fun E μ S H v d Q k r h => ?_
  · skip
    cases r with
    | str x =>
      obtain ⟨h1, h2⟩ := Wp.need (Wp.bind h) k
      exact ⟨_, _, rfl, ⟨h1, rfl⟩, Wp.pure h2 k (Step.refl _ _ _) _ (.int _)⟩
    | tup f q => exact ⟨_, _, rfl, .inr ⟨_, f.sq, rfl⟩, by rw [q.length]; exact Wp.pure (Wp.pure (Wp.bind h) k) k (Step.refl _ _ _) _ (.int _)⟩
    | lst f q => exact ⟨_, _, rfl, .inl ⟨_, f.sq, rfl⟩, by rw [q.length]; exact Wp.pure (Wp.pure (Wp.bind h) k) k (Step.refl _ _ _) _ (.int _)⟩
    | rol f q => exact ⟨_, _, rfl, .inl ⟨_, f.sq, rfl⟩, by rw [q.length]; exact Wp.pure (Wp.pure (Wp.bind h) k) k (Step.refl _ _ _) _ (.int _)⟩
    | cell e =>
      obtain ⟨xs, e1, h1⟩ := Wp.get (Wp.bind h) k
      obtain ⟨vs, h4, q⟩ := cell_rep k e1 e
      exact ⟨_, _, rfl, .inl ⟨vs, .of h4, rfl⟩, by rw [q.length]; exact Wp.pure h1 k (Step.refl _ _ _) _ (.int _)⟩
    | _ => exact (show False from h).elim
/-! ### int, abs, min, max of two -/
def int1 : D → M D
  | .int i => pure (.int i)
  | .bl b => pure (.int (if b then 1 else 0))
  | _ => M.bad
abbrev dInt := one int1
theorem int_s : CallS g (fun xs H Q => (∃ i, xs = [.int i] ∧ Q (.int i) H) ∨ ∃ k, xs = [.bl k] ∧ Q (.int (if k then 1 else 0)) H) dInt := by
  refine one_s fun E μ S H v d Q k r h => ?_
  · skip
    cases r with
    | int i => exact .inl ⟨i, rfl, Wp.pure h k _ (.int _)⟩
    | bl b => exact .inr ⟨b, rfl, Wp.pure h k _ (.int _)⟩
    | _ => exact (show False from h).elim
def abs1 : D → M D
  | .int i => pure (.int (if i < 0 then -i else i))
  | _ => M.bad
abbrev dAbs := one abs1
theorem abs_s : CallS g (fun xs H Q => ∃ i, xs = [.int i] ∧ Q (.int (if i < 0 then -i else i)) H) dAbs := by
  refine one_s fun E μ S H v d Q k r h => ?_
  · skip
    cases r with
    | int i => exact ⟨i, rfl, Wp.pure h k _ (.int _)⟩
    | _ => exact (show False from h).elim
@[simp] def dI2 (f : Int → Int → Int) : List D → M D
  | [.int i, .int j] => pure (.int (f i j))
  | _ => M.bad
theorem i2_s {f : Int → Int → Int} : CallS g (fun xs H Q => ∃ i j, xs = [.int i, .int j] ∧ Q (.int (f i j)) H) (dI2 f) := by
  intro E μ S H vs xs Q k r h
  unfold dI2 at h
  split at h
  · obtain ⟨v, u, rfl, r1, r2⟩ := rep2 r
    cases r1
    cases r2
    exact ⟨_, _, rfl, Wp.pure h k _ (.int _)⟩
  · exact (show False from h).elim
abbrev dMin2 := dI2 fun i j => if j < i then j else i
abbrev dMax2 := dI2 fun i j => if j > i then j else i
/-! ### tuple, list -/
abbrev dTupOf := one fun x => do let xs ← seqA x; pure (.tup xs)
theorem tupOf_s : CallS g (fun xs H Q => ∃ p ys, xs = [.ref p] ∧ ((SqL g.K H p ys ∧ ∀ l, H l = none → Q (.ref l) (upd H l (.tup ys))) ∨ (SqT g.K H p ys ∧ Q (.ref p) H))) dTupOf := by
  refine one_s fun E μ S H v d Q k r h => ?_
  · skip
    cases r with
    | tup f q => exact ⟨_, _, rfl, .inr ⟨f.sq, Wp.pure (Wp.pure (Wp.bind h) k) k (Step.refl _ _ _) _ (.tup f q)⟩⟩
    | lst f q =>
      refine ⟨_, _, rfl, .inl ⟨f.sq, fun l hl => ?_⟩⟩
      obtain ⟨t, k', rr⟩ := new_tup k hl q
      exact Wp.end (Wp.pure (Wp.bind h) k) t k' t _ rr
    | rol f q =>
      refine ⟨_, _, rfl, .inl ⟨f.sq, fun l hl => ?_⟩⟩
      obtain ⟨t, k', rr⟩ := new_tup k hl q
      exact Wp.end (Wp.pure (Wp.bind h) k) t k' t _ rr
    | cell e =>
      obtain ⟨xs, e1, h1⟩ := Wp.get (Wp.bind h) k
      obtain ⟨vs, h4, q⟩ := cell_rep k e1 e
      refine ⟨_, _, rfl, .inl ⟨.of h4, fun l hl => ?_⟩⟩
      obtain ⟨t, k', rr⟩ := new_tup k hl q
      exact Wp.end h1 t k' t _ rr
    | _ => exact (show False from h).elim
abbrev dLstOf := one fun x => do let xs ← seqA x; pure (.lst xs)
/-- a list that may change -/
abbrev dLstOfC := one fun x => do let xs ← seqA x; newCell xs
theorem lstOf_s : CallS g (fun xs H Q => ∃ p ys, xs = [.ref p] ∧ (SqL g.K H p ys ∨ SqT g.K H p ys) ∧ ∀ l, H l = none → Q (.ref l) (upd H l (.lst ys))) dLstOf := by
  refine one_s fun E μ S H v d Q k r h => ?_
  · skip
    obtain ⟨xs, a, vs, rfl, hq, rx, h1⟩ := Wp.seqA (Wp.bind h) k r
    refine ⟨_, _, rfl, hq, fun l hl => ?_⟩
    obtain ⟨t, k', rr⟩ := new_lst k hl rx
    exact Wp.end h1 t k' t _ rr
theorem lstOfC_s : CallS g (fun xs H Q => ∃ p ys, xs = [.ref p] ∧ (SqL g.K H p ys ∨ SqT g.K H p ys) ∧ ∀ l, H l = none → Q (.ref l) (upd H l (.lst ys))) dLstOfC := by
  refine one_s fun E μ S H v d Q k r h => ?_
  · skip
    obtain ⟨xs, a, vs, rfl, hq, rx, h1⟩ := Wp.seqA (Wp.bind h) k r
    refine ⟨_, _, rfl, hq, fun l hl => ?_⟩
    obtain ⟨μ', S', d', t, k', rr, q⟩ := new_cell k rx h1 l hl
    exact q t _ rr
/-! ### sum, any, all of lists -/
def unInts : List D → Option (List Int)
  | [] => some []
  | .int i :: ds => (unInts ds).map (i :: ·)
  | _ => none
def unBls : List D → Option (List Bool)
  | [] => some []
  | .bl i :: ds => (unBls ds).map (i :: ·)
  | _ => none
def unStrs : List D → Option (List Str)
  | [] => some []
  | .str i :: ds => (unStrs ds).map (i :: ·)
  | _ => none
theorem unInts_rep : ∀ {ds : List D} {ns : List Int} {vs : List V}, RepAll g μ S H vs ds → unInts ds = some ns → vs = ns.map V.int
  | _, _, _, .nil, e => by cases e; rfl
  | _, _, _, .cons r q, e => by
    cases r with
    | int i =>
      obtain ⟨ms, e1, rfl⟩ := map_some (show (unInts _).map (i :: ·) = some _ from e)
      rw [unInts_rep q e1]
      rfl
    | _ => cases e
theorem unBls_rep : ∀ {ds : List D} {ns : List Bool} {vs : List V}, RepAll g μ S H vs ds → unBls ds = some ns → vs = ns.map V.bl
  | _, _, _, .nil, e => by cases e; rfl
  | _, _, _, .cons r q, e => by
    cases r with
    | bl i =>
      obtain ⟨ms, e1, rfl⟩ := map_some (show (unBls _).map (i :: ·) = some _ from e)
      rw [unBls_rep q e1]
      rfl
    | _ => cases e
theorem unStrs_rep : ∀ {ds : List D} {ns : List Str} {vs : List V}, RepAll g μ S H vs ds → unStrs ds = some ns → vs = ns.map V.str
  | _, _, _, .nil, e => by cases e; rfl
  | _, _, _, .cons r q, e => by
    cases r with
    | str i =>
      obtain ⟨ms, e1, rfl⟩ := map_some (show (unStrs _).map (i :: ·) = some _ from e)
      rw [unStrs_rep q e1]
      rfl
    | _ => cases e
abbrev dSum := one fun x => do let xs ← seqL x; let ns ← M.get fun _ => unInts xs; pure (.int ns.sum)
theorem sum_s : CallS g (rSum g.K) dSum := by
  refine one_s fun E μ S H v d Q k r h => ?_
  · skip
    obtain ⟨xs, a, vs, rfl, hq, rx, h1⟩ := Wp.seqL (Wp.bind h) k r
    obtain ⟨ns, e, h2⟩ := Wp.get (Wp.bind h1) k
    have ev := unInts_rep rx e
    subst ev
    exact ⟨a, ns, rfl, .of hq, Wp.pure h2 k (Step.refl _ _ _) (Step.refl _ _ _) _ (.int _)⟩
abbrev dBs (f : List Bool → Bool) := one fun x => do let xs ← seqL x; let ns ← M.get fun _ => unBls xs; pure (.bl (f ns))
theorem bs_s {f : List Bool → Bool} : CallS g (fun vs H Q => ∃ (a : Addr) (bs : List Bool), vs = [V.ref a] ∧ SqL g.K H a (bs.map V.bl) ∧ Q (.bl (f bs)) H) (dBs f) := by
  refine one_s fun E μ S H v d Q k r h => ?_
  · skip
    obtain ⟨xs, a, vs, rfl, hq, rx, h1⟩ := Wp.seqL (Wp.bind h) k r
    obtain ⟨ns, e, h2⟩ := Wp.get (Wp.bind h1) k
    have ev := unBls_rep rx e
    subst ev
    exact ⟨a, ns, rfl, .of hq, Wp.pure h2 k (Step.refl _ _ _) (Step.refl _ _ _) _ (.bl _)⟩
abbrev dAny := dBs fun bs => bs.any id
abbrev dAll := dBs fun bs => bs.all id
theorem any_s : CallS g (rAny g.K) dAny := bs_s
theorem all_s : CallS g (rAll g.K) dAll := bs_s
/-! ### isinstance of built-in types -/
def tyOf : D → Option String
  | .non => some "NoneType"
  | .bl _ => some "bool"
  | .int _ => some "int"
  | .str _ => some "str"
  | .tup _ => some "tuple"
  | .lst _ => some "list"
  | _ => none
def tyOfM : D → M String
  | .cell n => do let _ ← M.get (cellL n); pure "list"
  | d => M.get fun _ => tyOf d
def isaT (t u : String) : Bool := t == u || (t == "bool" && u == "int")
/-- isinstance(x, T), T one of these -/
def dIsa : List D → M D
  | [x, .ty u] => do let t ← tyOfM x; M.need (u ∈ ["int", "bool", "str", "list", "tuple"]); pure (.bl (isaT t u))
  | _ => M.bad
theorem tyX_of {vs : V} {d : D} {t : String} {Q : String → Gh → Sto → Hp → Prop} (k : StoOk g μ S H) (r : Rep g μ S H vs d) (h : Wp g E (tyOfM d) μ S H Q) : ∃ t, t ∈ ["NoneType", "bool", "int", "str", "tuple", "list"] ∧ TyX g.K H vs (.type t) ∧ Q t μ S H := by
  cases r with
  | non => exact ⟨_, by decide, .base .non, Wp.pure h k⟩
  | bl b => exact ⟨_, by decide, .base (.bl b), Wp.pure h k⟩
  | int i => exact ⟨_, by decide, .base (.int i), Wp.pure h k⟩
  | str x => exact ⟨_, by decide, .base (.str x), Wp.pure h k⟩
  | tup f q =>
    refine ⟨"tuple", by decide, ?_, Wp.pure h k⟩
    rcases f with ⟨(f | ⟨o, f⟩), _⟩ | ⟨o, its, n, e1, e2, _⟩
    · exact .base (.tup f)
    · exact .fTuple f
    · exact .kTuple e1 e2
  | lst f q => exact ⟨"list", by decide, .base (.lst f.1), Wp.pure h k⟩
  | cell e =>
    obtain ⟨xs, e1, h1⟩ := Wp.get (Wp.bind h) k
    obtain ⟨vs, h4, q⟩ := cell_rep k e1 e
    exact ⟨"list", by decide, .base (.lst h4), Wp.pure h1 k (Step.refl _ _ _)⟩
  | _ => exact (show False from h).elim
theorem isaT_ok {K : PySem.W.Frag} : ∀ t ∈ ["NoneType", "bool", "int", "str", "tuple", "list"], ∀ u ∈ ["int", "bool", "str", "list", "tuple"], PySem.W.kitOne K (.type t) (.type u) = some (isaT t u) := by
  have h : ∀ t ∈ ["NoneType", "bool", "int", "str", "tuple", "list"], ∀ u ∈ ["int", "bool", "str", "list", "tuple"], L2.kitB t u = some (isaT t u) := by decide +kernel
  exact fun t ht u hu => kit_ty (h t ht u hu)
theorem isa_s : CallS g (rIsi g.K) dIsa := by
  intro E μ S H vs xs Q k r h
  unfold dIsa at h
  split at h
  · obtain ⟨v, u, rfl, r1, r2⟩ := rep2 r
    cases r2
    obtain ⟨t, ht, ty, h1⟩ := tyX_of (t := "") k r1 (Wp.bind h)
    obtain ⟨hu, h2⟩ := Wp.need (Wp.bind h1) k
    exact ⟨_, _, _, _, _, rfl, .ty _, ty, isaT_ok t ht _ hu, Wp.pure h2 k (Step.refl _ _ _) (Step.refl _ _ _) _ (.bl _)⟩
  · exact (show False from h).elim
end
/-! ### methods -/
section
variable {g : Gx}
def dAppend : D → List D → M D
  | .cell n, [d] => do let xs ← M.get (cellL n); M.need (xs.length < sizeLine); M.put (fun S => S.set n (some (.lst (xs ++ [d])))); pure .non
  | _, _ => M.bad
theorem Wp.put {E : XK} {μ : Gh} {S : Sto} {H : Hp} {f : Sto → Sto} {Q : Unit → Gh → Sto → Hp → Prop} (h : Wp g E (M.put f) μ S H Q) {μ' : Gh} {H' : Hp} (t : Step μ S H μ' (f S) H') (k : StoOk g μ' (f S) H') : Q () μ' (f S) H' := h μ' H' t k
theorem append_s : MtS g rAppend dAppend := by
  intro E μ S H v x vs xs Q k rx r h
  unfold dAppend at h
  split at h
  · rename_i n d
    obtain ⟨w, rfl, r1⟩ := rep1 r
    cases rx with
    | cell e =>
      obtain ⟨ys, e1, h1⟩ := Wp.get (Wp.bind h) k
      obtain ⟨hn, h2⟩ := Wp.need (Wp.bind h1) k
      obtain ⟨ws, h4, q⟩ := cell_rep k e1 e
      refine ⟨_, ws, w, rfl, rfl, h4, by rw [q.length]; exact hn, ?_⟩
      obtain ⟨t, k'⟩ := sto_write k (cellL_some e1) e (.lst (q.append (.cons r1 .nil)))
      exact Wp.pure (Wp.put (Wp.bind h2) t k') k' t t t _ .non
  · exact (show False from h).elim
def dIndexL : D → List D → M D
  | x, [y] => do
    let ys ← seqL x
    let p ← M.get fun S => toP S 70 y
    let qs ← M.get fun S => toPs (toP S 70) ys
    M.need (SeqAt.shaped p = true ∧ SeqAt.shaped (.list qs) = true)
    let j ← M.get fun _ => qs.findIdx? fun z => PyData.eqv z p
    pure (.int j)
  | _, _ => M.bad
theorem indexL_s : MtS g (rIndexD g.K) dIndexL := by
  intro E μ S H v x vs xs Q k rx r h
  unfold dIndexL at h
  split at h
  · obtain ⟨w, rfl, r1⟩ := rep1 r
    obtain ⟨ys, a, us, rfl, hq, ry, h1⟩ := Wp.seqL (Wp.bind h) k rx
    obtain ⟨p, e1, h2⟩ := Wp.get (Wp.bind h1) k
    obtain ⟨qs, e2, h3⟩ := Wp.get (Wp.bind h2) k
    obtain ⟨⟨s1, s2⟩, h4⟩ := Wp.need (Wp.bind h3) k
    obtain ⟨j, e3, h5⟩ := Wp.get (Wp.bind h4) k
    obtain ⟨hj, e4, e5⟩ := List.findIdx?_eq_some_iff_getElem.mp e3
    refine ⟨a, w, p, qs, j, qs[j], rfl, rfl, .lst (.of hq) (toPs_dp (toP_dp k 70) ry e2), toP_dp k _ _ _ _ r1 e1, s2, s1, by simp [hj], e4, fun m z' hm ez => ?_, ?_⟩
    · obtain ⟨hm', rfl⟩ := List.getElem?_eq_some_iff.mp ez
      have := e5 m hm
      simpa using this
    · exact Wp.pure h5 k (Step.refl _ _ _) (Step.refl _ _ _) (Step.refl _ _ _) (Step.refl _ _ _) (Step.refl _ _ _) _ (.int _)
  · exact (show False from h).elim
def dJoin : D → List D → M D
  | .str a, [x] => do
    let xs ← seqA x
    let ys ← M.get fun _ => unStrs xs
    M.need ((ys.map (·.length)).sum + ys.length * a.length ≤ 16777216)
    pure (.str (Txt.join a ys))
  | _, _ => M.bad
theorem join_s : MtS g (fun x xs H Q => ∃ a p, ∃ ys : List Str, x = .str a ∧ xs = [.ref p] ∧ (SqL g.K H p (ys.map V.str) ∨ SqT g.K H p (ys.map V.str)) ∧ (ys.map (·.length)).sum + ys.length * a.length ≤ 16777216 ∧ Q (.str (Txt.join a ys)) H) dJoin := by
  intro E μ S H v x vs xs Q k rx r h
  unfold dJoin at h
  split at h
  · obtain ⟨w, rfl, r1⟩ := rep1 r
    cases rx
    obtain ⟨ys, a, us, rfl, hq, ry, h1⟩ := Wp.seqA (Wp.bind h) k r1
    obtain ⟨zs, e1, h2⟩ := Wp.get (Wp.bind h1) k
    obtain ⟨s1, h3⟩ := Wp.need (Wp.bind h2) k
    have ev := unStrs_rep ry e1
    subst ev
    exact ⟨_, a, zs, rfl, rfl, hq, s1, Wp.pure h3 k (Step.refl _ _ _) (Step.refl _ _ _) (Step.refl _ _ _) _ (.str _)⟩
  · exact (show False from h).elim
end
end DD

/-! DD7: enumerate of a tuple, as a walk of the hand layer -/
namespace DD
open PySem PySem.Spec PyProof.Rows L2

set_option maxHeartbeats 1000000 in
/-- enumerate(v) with one argument, whatever v is walked by -/
theorem enum_new1 {v : Value} {ob : Obj} {Hh : Heap → Prop} (B : Begins v ob Hh) :
    Meets (Builtin.«enumerate.__new__» ⟨[.type "enumerate", v], []⟩) (fun _ R s => Hh s.heap ∧
      R (.ok (.ret (.ref (s.heap.push ob).objs.size))) { s with heap := (s.heap.push ob).push { cls := .type "enumerate", data := .fields #[.none, .bool false, .ref s.heap.objs.size, rawInt 0, .none, .none] } }) := by
  refine .of_wp fun pr ww A R s hw => ?_
  obtain ⟨h0, g0, d0, t0, o0⟩ := s
  obtain ⟨hs, hr⟩ := hw
  have su := sub_enumerate
  have it : ∀ {A' : Around} {E' : Value → Shared → Prop} {Q' : Value → Shared → Prop}, Q' (.ref h0.objs.size) ⟨h0.push ob, g0, d0, t0, o0⟩ → wpAny (model pr ww) A' (pyIter v) Q' E' ⟨h0, g0, d0, t0, o0⟩ :=
    fun z => B.iter pr ww _ _ ⟨h0, g0, d0, t0, o0⟩ _ hs z
  wp_walk using it
  refine wpAny_stack_any fun stk => wpAny_pure ?_
  split
  · rename_i cc _ _ _ _ _
    cases (cc == Value.type "enumerate") <;> (wp_walk using it; exact ⟨_, rfl, hr⟩)
  · wp_walk using it
    exact ⟨_, rfl, hr⟩
section
variable {prog : Program} {w : World} {A : Around} {E : Value → Shared → Prop} {s : Shared}
theorem call_enum_tuple {a : Addr} {its : Array Value} {Q : Value → Shared → Prop} (ha : s.heap.IsTuple a its)
    (q : ∀ h', IsEnum h' (s.heap.objs.size + 1) s.heap.objs.size 0 .none → h'.IsTupleIter s.heap.objs.size a 0 →
      (∀ b o, s.heap.get? b = some o → h'.get? b = some o) → Q (.ref (s.heap.objs.size + 1)) { s with heap := h' }) :
    wpAny (model prog w) A (call (.type "enumerate") [.ref a]) Q E s := by
  refine callType_new F.called_enumerate (by decide) (F.typeCall_enumerate_1 _) (F.newCall_enumerate_1 _) (fun x => F.args_object_init_2 x _) F.entry_enumerate_new (enum_new1 (begins_tuple a its)) ⟨ha, ?_⟩
  generalize ei : ({ cls := .type "tuple_iterator", data := .fields #[.ref a, .int 0 0] } : Obj) = ob
  have fr : ob.isFreed = false := by rw [← ei]; rfl
  have sz : (s.heap.push ob).objs.size = s.heap.objs.size + 1 := Heap.size_push ..
  have at0 : (s.heap.push ob).get? s.heap.objs.size = some ob := Heap.get?_push_size _ fr
  show _ ∧ _
  rw [sz]
  generalize ee : ({ cls := .type "enumerate", data := .fields #[.none, .bool false, .ref s.heap.objs.size, rawInt 0, .none, .none] } : Obj) = oe
  have fe : oe.isFreed = false := by rw [← ee]; rfl
  have at1 : ((s.heap.push ob).push oe).get? (s.heap.objs.size + 1) = some oe := by
    have z := Heap.get?_push_size (s.heap.push ob) (o := oe) fe
    rwa [sz] at z
  have en : IsEnum ((s.heap.push ob).push oe) (s.heap.objs.size + 1) s.heap.objs.size 0 .none := by
    subst ee
    exact at1
  refine ⟨⟨_, at1, by rw [← ee]⟩, q _ en ⟨ob, Heap.get?_push_of_some _ at0, by rw [← ei], by rw [← ei] <;> rfl⟩ fun b o x => Heap.get?_push_of_some _ (Heap.get?_push_of_some _ x)⟩
end

/-- the tuple at a, each item in a new pair with its number -/
def IteT (K : PySem.W.Frag) (a : Addr) : It where
  go := fun i H => ∃ (xs : List V) (x : V), SqT K H a xs ∧ xs[i]? = some x
  yld := fun i H v H' => ∃ T x, v = .ref T ∧ H T = none ∧ H' = upd H T (.tup [.int (i : Nat), x]) ∧ ∀ xs, SqT K H a xs → xs[i]? = some x
  stop := fun i H => ∃ xs : List V, SqT K H a xs ∧ xs.length = i
theorem turn_enumT {P : Program} {w : World} {K : PySem.W.Frag} {elts : List Expr} {kk : Nat} {tpos : Pos} (a e it : Addr) (ne : e ≠ it) (na : a ≠ it) (nea : e ≠ a) :
    Turn P w K (.Tuple elts kk tpos) (IteT K a) [e, it] e (fun i h => (∃ old, IsEnum h e it (i : Int) old) ∧ h.IsTupleIter it a i) where
  mem := List.mem_cons_self
  obj := by
    rintro i h ⟨⟨old, h1⟩, o2, h2, _, d2⟩ b hb
    rcases List.mem_cons.mp hb with z | z
    · subst z
      exact ⟨_, h1, fun v q => nomatch q⟩
    · have z' := List.mem_singleton.mp z
      subst z'
      exact ⟨o2, h2, fun v q => by rw [d2] at q; cases q⟩
  keep := by
    rintro i h h' ⟨⟨old, h1⟩, h2⟩ k
    exact ⟨⟨old, k e List.mem_cons_self _ h1⟩, h2.at fun o q => k it (List.mem_cons_of_mem _ List.mem_cons_self) o q⟩
  item := by
    rintro X rfl rfl rfl hc i pins s σ H E I hf ⟨⟨old, h1⟩, h2⟩ ⟨xs, x, hq, hx⟩
    obtain ⟨its, rv, p, hz⟩ := I.tuple hq
    obtain ⟨u, hu, ru⟩ := rv.get hx
    have hi : i < its.length := (List.getElem?_eq_some_iff.mp hu).1
    have W := WalksT.enumerateD (Draws.tuple (prog := X.prog) (w := X.w) (A := X.A.in1) (I.ok.hd hc) it a na its.toArray) e ne (by simp [ne, nea]) List.mem_cons_self
    have le : e < s.heap.objs.size := Heap.lt_size h1
    have li : it < s.heap.objs.size := by obtain ⟨_, q, _⟩ := id h2; exact Heap.lt_size q
    refine W.item i s _ _ (by simpa using hi) ⟨⟨old, h1⟩, h2, p⟩ fun T vals h' tk hp hT hTt mid kp => ⟨_, rfl, ?_⟩
    obtain ⟨t, y, hy, rfl⟩ := hp
    have ey : y = u := by
      have q : its.toArray[i]? = some y := hy
      have q' : its[i]? = some y := by simpa using q
      rw [hu] at q'
      exact (Option.some.inj q').symm
    subst ey
    have apart := W.apart i T h' mid
    refine W.go elts kk tpos i T { s with heap := h', toks := tk } _ _ mid fun h'' st kp2 => ?_
    have tup2 : IsTup h'' T #[.int i t, y] := by
      obtain ⟨o, q1, q2, q3⟩ := hTt
      exact ⟨o, kp2 T o apart q1, q2, q3⟩
    have new : ObjOk X.prog X.w (upd H T (.tup [.int (i : Nat), x])) h'' T (.tup [.int (i : Nat), x]) :=
      ⟨by show 2 ≤ sizeLine; decide, [.int i t, y], .cons ⟨_, rfl⟩ (.cons ru .nil), tup2⟩
    have I1 : Inv X pins σ (upd H T (.tup [.int (i : Nat), x])) { s with heap := h'', toks := tk } :=
      I.turnedNew (ch := [e, it]) (fun b ob hb q => kp2 b ob hb (kp b ob hb q)) hf hT new
    refine ⟨.ref T, _, I1, rfl, ⟨T, x, rfl, I.hok.fresh hT, rfl, fun ys hy => by rw [I.tuple_inj hy hq]; exact hx⟩, ⟨st.1, st.2.1⟩, fun b hb => ?_⟩
    have lb : b < s.heap.objs.size := by
      rcases List.mem_cons.mp hb with z | z
      · rw [z]; exact le
      · rw [List.mem_singleton.mp z]; exact li
    rw [upd_ne (Nat.ne_of_lt (Nat.lt_of_lt_of_le lb hT))]
    exact (hf b hb).1
  done := by
    rintro X rfl rfl rfl hc i pins s σ H E I hf ⟨⟨old, h1⟩, h2⟩ ⟨xs, hq, hx⟩
    obtain ⟨its, rv, p, hz⟩ := I.tuple hq
    have W := WalksT.enumerateD (Draws.tuple (prog := X.prog) (w := X.w) (A := X.A.in1) (I.ok.hd hc) it a na its.toArray) e ne (by simp [ne, nea]) List.mem_cons_self
    have ei : i = its.toArray.size := by
      rw [List.size_toArray, ← rv.length]
      exact hx.symm
    subst ei
    exact W.done s _ _ ⟨⟨old, h1⟩, h2, p⟩ fun h' tk kp => ⟨rfl, I.turnedL (t' := tk) (ch := [e, it]) kp hf⟩
  self := fun A i s Q E ⟨⟨_, h1⟩, _⟩ q => wpAny_pyIter_enum h1 q
def iEnumA (K : PySem.W.Frag) (ta : TA) : TI := fun σ H R => ta σ H fun vs H1 => ∃ a xs, vs = [.ref a] ∧ ((SqL K H1 a xs ∧ R (Ite K a) H1) ∨ (SqT K H1 a xs ∧ R (IteT K a) H1))
theorem pi_enumA {X : Cx} {e : Expr} {ta : TA} {p pos tpos : Pos} {elts : List Expr} {kk : Nat} (hg : Gl X "enumerate") (hm : X.mg "enumerate" = none) (ha : PA X [e] ta) (hs : starEach [e] X.env = [(false, eval e X.env)] := by rfl) :
    PI X (.Tuple elts kk tpos) (.Call (.Name "enumerate" p) [e] [] pos) (iEnumA X.K ta) := by
  refine ⟨fun pins s σ H R I h => ?_⟩
  refine Call_ (ld_blt I hg hm boot_enumerate (PyProof.Rows.callWith_type1 (thn (ha.run pos pins s σ H _ I h) ?_) hs rfl))
  rintro us s1 ⟨vs, H1, I1, r1, a, xs, rfl, q⟩
  obtain ⟨u, rfl, r⟩ := vals1 r1
  cases r
  have two : ∀ b, b ∈ [s1.heap.objs.size + 1, s1.heap.objs.size] → FpOk X pins H1 b := fun b hb => by
    have hle : s1.heap.objs.size ≤ b := by
      rcases List.mem_cons.mp hb with z | z
      · omega
      · have := List.mem_singleton.mp z; omega
    exact I1.fpOk hle (I1.hok.fresh hle)
  rcases q with ⟨hq, q⟩ | ⟨hq, q⟩
  · obtain ⟨its, rv, pl, _⟩ := I1.list hq
    refine call_enumerate_list pl.isList fun h' he hit _ kp => wpAny_pyIter_enum he ?_
    exact ⟨_, _, _, _, H1, rfl, I1.kept (t' := s1.toks) kp, turn_enum a (s1.heap.objs.size + 1) s1.heap.objs.size, ⟨⟨.none, he⟩, hit, Nat.succ_ne_self _⟩, two, q⟩
  · obtain ⟨its, rv, pl, _⟩ := I1.tuple hq
    have la : a < s1.heap.objs.size := by
      obtain ⟨o, e1, _⟩ := id pl
      exact Heap.lt_size e1
    refine call_enum_tuple (show s1.heap.IsTuple a its.toArray from pl) fun h' he hit kp => wpAny_pyIter_enum he ?_
    exact ⟨_, _, _, _, H1, rfl, I1.kept (t' := s1.toks) kp, turn_enumT a (s1.heap.objs.size + 1) s1.heap.objs.size (Nat.succ_ne_self _) (Nat.ne_of_lt la) (Nat.ne_of_gt (Nat.lt_succ_of_lt la)), ⟨⟨.none, he⟩, hit⟩, two, q⟩
end DD

/-! DD8: statements, targets, loops, comprehensions by data -/
namespace DD
open PySem PySem.Spec PyProof.Rows L2

/-- how a statement ends -/
inductive Fl where
  | nx (ρ : DEnv) | rt (d : D) | bk (ρ : DEnv) | ct (ρ : DEnv)
  | xc (c : Nat) (fs : List (Str × D)) (ρ : DEnv)
def FlP (g : Gx) (W : WX) (E : Ends) : Fl → Gh → Sto → Hp → Prop
  | .nx ρ, μ, S, H => ∀ σ, EnvOk g μ S H σ ρ → E.nx σ H
  | .rt d, μ, S, H => ∀ v, Rep g μ S H v d → E.rt v H
  | .bk ρ, μ, S, H => ∀ σ, EnvOk g μ S H σ ρ → E.bk σ H
  | .ct ρ, μ, S, H => ∀ σ, EnvOk g μ S H σ ρ → E.ct σ H
  | .xc c fs ρ, μ, S, H => ∀ σ d, EnvOk g μ S H σ ρ → XcP g μ S H d fs → W (.ref (g.ca c)) d σ H
abbrev EF : XK := fun _ _ _ => False
def tS (g : Gx) (W : WX) (f : DEnv → M Fl) : TS := fun E σ H => ∃ ρ μ S, EnvOk g μ S H σ ρ ∧ StoOk g μ S H ∧ Wp g EF (f ρ) μ S H (FlP g W E)
/-- an expression's exception ends the statement -/
def M.cat {α : Type} (m : M α) (ρ : DEnv) (k : α → M Fl) : M Fl := fun S => match m S with
  | .ok a S' => k a S'
  | .exc c fs S' => .ok (.xc c fs ρ) S'
  | .bad => .bad
theorem psOf {X : Cx} {e : Stmt} {t t' : TS} (h : PS X e t) (k : ∀ E σ H, t' E σ H → t E σ H) : PS X e t' := ⟨fun pins s σ H E I hq => h.run pins s σ H E I (k E σ H hq)⟩
theorem pssOf {X : Cx} {e : List Stmt} {t t' : TS} (h : PSs X e t) (k : ∀ E σ H, t' E σ H → t E σ H) : PSs X e t' := ⟨fun pins s σ H E I hq => h.run pins s σ H E I (k E σ H hq)⟩
section
variable {g : Gx} {W : WX} {E : Ends} {σ : L2.St} {ρ : DEnv} {μ : Gh} {S : Sto} {H : Hp}
theorem Wp.cat {α : Type} {m : M α} {k : α → M Fl} (env : EnvOk g μ S H σ ρ) (h : Wp g EF (M.cat m ρ k) μ S H (FlP g W E)) :
    Wp g (fun c d H' => W c d σ H') m μ S H fun a μ1 S1 H1 => Wp g EF (k a) μ1 S1 H1 fun fl μ2 S2 H2 => Step μ S H μ2 S2 H2 → FlP g W E fl μ2 S2 H2 := by
  have ex : ∀ {c : Nat} {fs : List (Str × D)} {S1 : Sto}, m S = .exc c fs S1 → M.cat m ρ k S = .ok (.xc c fs ρ) S1 := fun e => by unfold M.cat; rw [e]
  have go : ∀ {a : α} {S1 : Sto}, m S = .ok a S1 → M.cat m ρ k S = k a S1 := fun e => by unfold M.cat; rw [e]
  cases e : m S with
  | bad =>
    have eb : M.cat m ρ k S = .bad := by unfold M.cat; rw [e]
    unfold Wp at h
    rw [eb] at h
    exact h.elim
  | exc c fs S1 =>
    refine Wp.of_exc e fun μ1 H1 d t k1 q => ?_
    rcases h.run with ⟨fl, S2, e2, w⟩ | ⟨c', fs', S2, e2, _⟩
    · rw [ex e] at e2
      cases e2
      exact w μ1 H1 t k1 σ d (env.step t) q
    · rw [ex e] at e2
      cases e2
  | ok a S1 =>
    refine Wp.of_ok e fun μ1 H1 t1 k1 => ?_
    rcases h.run with ⟨fl, S2, e2, w⟩ | ⟨c', fs', S2, e2, w⟩
    · rw [go e] at e2
      exact Wp.of_ok e2 fun μ2 H2 t2 k2 t => w μ2 H2 t k2
    · rw [go e] at e2
      exact Wp.of_exc e2 fun μ2 H2 d t2 k2 q => w μ2 H2 d (t1.trans t2) k2 q
theorem sD_then {f : DEnv → M D} {k : D → M Fl} {R : VK} (env : EnvOk g μ S H σ ρ) (sto : StoOk g μ S H) (h : Wp g EF (M.cat (f ρ) ρ k) μ S H (FlP g W E))
    (q : ∀ d μ1 S1 H1 v, Step μ S H μ1 S1 H1 → StoOk g μ1 S1 H1 → EnvOk g μ1 S1 H1 σ ρ → Rep g μ1 S1 H1 v d → Wp g EF (k d) μ1 S1 H1 (FlP g W E) → R v H1) : tD g W f σ H R :=
  ⟨ρ, μ, S, env, sto, (Wp.cat env h).mono fun d μ1 S1 H1 t k1 w v r => q d μ1 S1 H1 v t k1 (env.step t) r (w.mono fun _ _ _ _ t2 _ z => z (t.trans t2))⟩
theorem sDT_then {f : DEnv → M Bool} {k : Bool → M Fl} {R : Bool → Hp → Prop} (env : EnvOk g μ S H σ ρ) (sto : StoOk g μ S H) (h : Wp g EF (M.cat (f ρ) ρ k) μ S H (FlP g W E))
    (q : ∀ d μ1 S1 H1, Step μ S H μ1 S1 H1 → StoOk g μ1 S1 H1 → EnvOk g μ1 S1 H1 σ ρ → Wp g EF (k d) μ1 S1 H1 (FlP g W E) → R d H1) : tDT g W f σ H R :=
  ⟨ρ, μ, S, env, sto, (Wp.cat env h).mono fun d μ1 S1 H1 t k1 w => q d μ1 S1 H1 t k1 (env.step t) (w.mono fun _ _ _ _ t2 _ z => z (t.trans t2))⟩
theorem sDA_then {f : DEnv → M (List D)} {k : List D → M Fl} {R : List V → Hp → Prop} (env : EnvOk g μ S H σ ρ) (sto : StoOk g μ S H) (h : Wp g EF (M.cat (f ρ) ρ k) μ S H (FlP g W E))
    (q : ∀ d μ1 S1 H1 v, Step μ S H μ1 S1 H1 → StoOk g μ1 S1 H1 → EnvOk g μ1 S1 H1 σ ρ → RepAll g μ1 S1 H1 v d → Wp g EF (k d) μ1 S1 H1 (FlP g W E) → R v H1) : tDA g W f σ H R :=
  ⟨ρ, μ, S, env, sto, (Wp.cat env h).mono fun d μ1 S1 H1 t k1 w v r => q d μ1 S1 H1 v t k1 (env.step t) r (w.mono fun _ _ _ _ t2 _ z => z (t.trans t2))⟩
end

/-! ### the functions -/
def sNext : DEnv → M Fl := fun ρ => pure (.nx ρ)
def sBreak : DEnv → M Fl := fun ρ => pure (.bk ρ)
def sCont : DEnv → M Fl := fun ρ => pure (.ct ρ)
def thenS (fl : Fl) (k : DEnv → M Fl) : M Fl := match fl with
  | .nx ρ => k ρ
  | x => pure x
def sSeq (f k : DEnv → M Fl) : DEnv → M Fl := fun ρ => do let fl ← f ρ; thenS fl k
def sRet (f : DEnv → M D) : DEnv → M Fl := fun ρ => M.cat (f ρ) ρ fun d => pure (.rt d)
def sRetN : DEnv → M Fl := fun _ => pure (.rt .non)
def sExpr (f : DEnv → M D) : DEnv → M Fl := fun ρ => M.cat (f ρ) ρ fun _ => pure (.nx ρ)
def sIf (t : DEnv → M Bool) (a b : DEnv → M Fl) : DEnv → M Fl := fun ρ => M.cat (t ρ) ρ fun c => if c then a ρ else b ρ
def sSet (i : Nat) (f : DEnv → M D) : DEnv → M Fl := fun ρ => M.cat (f ρ) ρ fun d => pure (.nx (ρ.set i (some d)))
/-- code that is never reached -/
def sNever : DEnv → M Fl := fun _ => M.bad
section
variable {X : Cx} {ca : Nat → Addr} {W : WX} {st : Stmt} {rest as bs : List Stmt} {c e : Expr} {f : DEnv → M D} {fa fb : DEnv → M Fl} {t : DEnv → M Bool} {pos pos' : Pos}
theorem sd_nil : PSs X [] (tS (gx X ca) W sNext) := pssOf pss_nil fun E σ H ⟨ρ, μ, S, env, sto, h⟩ => Wp.pure h sto σ env
theorem sd_seq (h1 : PS X st (tS (gx X ca) W fa)) (h2 : PSs X rest (tS (gx X ca) W fb)) : PSs X (st :: rest) (tS (gx X ca) W (sSeq fa fb)) :=
  pssOf (pss_cons h1 h2) fun E σ H ⟨ρ, μ, S, env, sto, h⟩ => ⟨ρ, μ, S, env, sto, (Wp.bind h).mono fun fl μ1 S1 H1 t1 k1 w => by
    cases fl with
    | nx ρ1 => exact fun σ1 env1 => ⟨ρ1, μ1, S1, env1, k1, w.mono fun _ _ _ _ t2 _ z => z (t1.trans t2)⟩
    | rt d => exact Wp.pure w k1 t1
    | bk ρ1 => exact Wp.pure w k1 t1
    | ct ρ1 => exact Wp.pure w k1 t1
    | xc c fs ρ1 => exact Wp.pure w k1 t1⟩
theorem sd_one (h1 : PS X st (tS (gx X ca) W fa)) : PSs X [st] (tS (gx X ca) W fa) := pss_one h1
theorem sd_pass : PS X (.Pass pos) (tS (gx X ca) W sNext) := psOf ps_pass fun E σ H ⟨ρ, μ, S, env, sto, h⟩ => Wp.pure h sto σ env
theorem sd_break : PS X (.Break pos) (tS (gx X ca) W sBreak) := psOf ps_break fun E σ H ⟨ρ, μ, S, env, sto, h⟩ => Wp.pure h sto σ env
theorem sd_cont : PS X (.Continue pos) (tS (gx X ca) W sCont) := psOf ps_continue fun E σ H ⟨ρ, μ, S, env, sto, h⟩ => Wp.pure h sto σ env
theorem sd_doc {x : Str} {j : Nat} : PS X (.Expr (.Constant (.str x) j pos) pos') (tS (gx X ca) W sNext) := psOf ps_doc fun E σ H ⟨ρ, μ, S, env, sto, h⟩ => Wp.pure h sto σ env
theorem sd_never : PS X st (tS (gx X ca) W sNever) := psOf ps_never fun E σ H ⟨ρ, μ, S, env, sto, h⟩ => h
theorem sd_ret (he : PE X e (tD (gx X ca) W f)) : PS X (.Return (some e) pos) (tS (gx X ca) W (sRet f)) :=
  psOf (ps_ret he) fun E σ H ⟨ρ, μ, S, env, sto, h⟩ => sD_then env sto h fun d μ1 S1 H1 v t1 k1 env1 r1 h1 => Wp.pure h1 k1 v r1
theorem sd_retN : PS X (.Return none pos) (tS (gx X ca) W sRetN) := psOf ps_retN fun E σ H ⟨ρ, μ, S, env, sto, h⟩ => Wp.pure h sto _ .non
theorem sd_expr (he : PE X e (tD (gx X ca) W f)) (hs : swapsWith e none pos.line X.env = pure false := by rfl) : PS X (.Expr e pos) (tS (gx X ca) W (sExpr f)) :=
  psOf (ps_expr he hs) fun E σ H ⟨ρ, μ, S, env, sto, h⟩ => sD_then env sto h fun d μ1 S1 H1 v t1 k1 env1 r1 h1 => Wp.pure h1 k1 σ env1
theorem sd_if (hc : PT X c (tDT (gx X ca) W t)) (ha : PSs X as (tS (gx X ca) W fa)) (hb : PSs X bs (tS (gx X ca) W fb)) : PS X (.If c as bs pos) (tS (gx X ca) W (sIf t fa fb)) :=
  psOf (ps_if hc ha hb) fun E σ H ⟨ρ, μ, S, env, sto, h⟩ => sDT_then env sto h fun q μ1 S1 H1 t1 k1 env1 h1 => by
    cases q with
    | true =>
      simp only [if_true] at h1 ⊢
      exact ⟨ρ, μ1, S1, env1, k1, h1⟩
    | false =>
      simp only [Bool.false_eq_true, if_false] at h1 ⊢
      exact ⟨ρ, μ1, S1, env1, k1, h1⟩
theorem sd_set (i : Nat) {x : Str} (hN : X.N.Nodup) (he : PE X e (tD (gx X ca) W f)) (hi : X.N[i]? = some x := by rfl) (hx : Loc X.env.scope x := by first | exact Or.inl rfl | exact Or.inr rfl) (hs : swapsWith e (some (.Name x pos')) pos.line X.env = pure false := by rfl)
    (hf : X.fn x = true ∨ X.env.scope.names.lookup x = some .local := by first | exact .inl rfl | exact .inr rfl) : PS X (.Assign [.Name x pos'] e pos) (tS (gx X ca) W (sSet i f)) :=
  psOf (ps_set hN hi hx he hs hf) fun E σ H ⟨ρ, μ, S, env, sto, h⟩ => sD_then env sto h fun d μ1 S1 H1 v t1 k1 env1 r1 h1 => Wp.pure h1 k1 _ (env1.set i r1)
end

/-! ### targets -/
theorem wipe_setM {σ : L2.St} {i : Nat} {x : Option V} : ∀ {js : List Nat}, i ∈ js → wipe (σ.set i x) js = wipe σ js := by
  intro js hi
  refine List.ext_getElem? fun j => ?_
  by_cases hj : j ∈ js
  · have z : ∀ τ : L2.St, (wipe τ js)[j]? = if j < τ.length then some none else none := fun τ => by
      by_cases hl : j < τ.length
      · rw [if_pos hl]
        have hl2 : j < (wipe τ js).length := by rw [wipe_length]; exact hl
        rw [List.getElem?_eq_getElem hl2]
        cases e : (wipe τ js)[j] with
        | none => rfl
        | some v =>
          have q : (wipe τ js)[j]? = some (some v) := by rw [List.getElem?_eq_getElem hl2, e]
          exact absurd hj (wipe_some q).2
      · rw [if_neg hl]
        exact List.getElem?_eq_none (by rw [wipe_length]; omega)
    rw [z, z, List.length_set]
  · rw [wipe_out hj, wipe_out hj, List.getElem?_set_ne fun e => hj (by rw [← e]; exact hi)]
/-- but for the slots is, the names are as they were -/
def WipeEq (is : List Nat) (σ σ' : L2.St) : Prop := ∀ js : List Nat, (∀ i ∈ is, i ∈ js) → wipe σ' js = wipe σ js
def tG (g : Gx) (is : List Nat) (f : D → DEnv → M DEnv) : TG := fun v σ H Q => ∃ d ρ μ S, Rep g μ S H v d ∧ EnvOk g μ S H σ ρ ∧ StoOk g μ S H ∧ Wp g EF (f d ρ) μ S H fun ρ' μ' S' H' => ∀ σ', EnvOk g μ' S' H' σ' ρ' → WipeEq is σ σ' → Q σ' H'
def tGs (g : Gx) (is : List Nat) (f : List D → DEnv → M DEnv) : TGs := fun vs σ H Q => ∃ ds ρ μ S, RepAll g μ S H vs ds ∧ EnvOk g μ S H σ ρ ∧ StoOk g μ S H ∧ Wp g EF (f ds ρ) μ S H fun ρ' μ' S' H' => ∀ σ', EnvOk g μ' S' H' σ' ρ' → WipeEq is σ σ' → Q σ' H'
theorem pgOf {X : Cx} {e : Expr} {t t' : TG} (h : PG X e t) (k : ∀ v σ H Q, t' v σ H Q → t v σ H Q) : PG X e t' := ⟨fun pins s σ H v u Q I r hq => h.run pins s σ H v u Q I r (k v σ H Q hq)⟩
theorem pgsOf {X : Cx} {e : List Expr} {t t' : TGs} (h : PGs X e t) (k : ∀ v σ H Q, t' v σ H Q → t v σ H Q) : PGs X e t' := ⟨fun pins s σ H v u Q I r hq => h.run pins s σ H v u Q I r (k v σ H Q hq)⟩
def gSet (i : Nat) : D → DEnv → M DEnv := fun d ρ => pure (ρ.set i (some d))
def gsNil : List D → DEnv → M DEnv
  | [], ρ => pure ρ
  | _, _ => M.bad
def gsCons (f : D → DEnv → M DEnv) (r : List D → DEnv → M DEnv) : List D → DEnv → M DEnv
  | d :: ds, ρ => do let ρ' ← f d ρ; r ds ρ'
  | _, _ => M.bad
def gTupD (n : Nat) (f : List D → DEnv → M DEnv) : D → DEnv → M DEnv
  | .tup ds, ρ => do M.need (ds.length = n); f ds ρ
  | _, _ => M.bad
def sAsg (f : DEnv → M D) (k : D → DEnv → M DEnv) : DEnv → M Fl := fun ρ => M.cat (f ρ) ρ fun d => do let ρ' ← k d ρ; pure (.nx ρ')
section
variable {X : Cx} {ca : Nat → Addr} {W : WX} {e tg : Expr} {es : List Expr} {f : DEnv → M D} {k : D → DEnv → M DEnv} {ks : List D → DEnv → M DEnv} {pos : Pos}
theorem gd_name (i : Nat) {x : Str} (hN : X.N.Nodup) (hi : X.N[i]? = some x := by rfl) (hx : Loc X.env.scope x := by first | exact Or.inl rfl | exact Or.inr rfl) (hf : X.fn x = true ∨ X.env.scope.names.lookup x = some .local := by first | exact .inl rfl | exact .inr rfl) :
    PG X (.Name x pos) (tG (gx X ca) [i] (gSet i)) := pgOf (pg_name hN hi hx hf) fun v σ H Q ⟨d, ρ, μ, S, r, env, sto, h⟩ => Wp.pure h sto _ (env.set i r) fun js hj => wipe_setM (hj i List.mem_cons_self)
theorem gsd_nil : PGs X [] (tGs (gx X ca) [] gsNil) := pgsOf pgs_nil fun vs σ H Q ⟨ds, ρ, μ, S, r, env, sto, h⟩ => by
  cases r with
  | nil => exact ⟨rfl, Wp.pure h sto σ env fun _ _ => rfl⟩
  | cons _ _ => exact (show False from h).elim
theorem gsd_cons {i1 i2 : List Nat} (h1 : PG X e (tG (gx X ca) i1 k)) (h2 : PGs X es (tGs (gx X ca) i2 ks)) (hs : (assignEach (e :: es) X.env).map (·.2) = assign e X.env :: (assignEach es X.env).map (·.2) := by rfl) : PGs X (e :: es) (tGs (gx X ca) (i1 ++ i2) (gsCons k ks)) :=
  pgsOf (pgs_cons h1 h2 hs) fun vs σ H Q ⟨ds, ρ, μ, S, r, env, sto, h⟩ => by
    cases r with
    | nil => exact (show False from h).elim
    | cons r1 rr => exact ⟨_, _, rfl, _, ρ, μ, S, r1, env, sto, (Wp.bind h).mono fun ρ1 μ1 S1 H1 t1 k1 w σ1 env1 we1 => ⟨_, ρ1, μ1, S1, rr.step t1, env1, k1, w.mono fun _ _ _ _ t2 _ z σ2 env2 we2 => z (t1.trans t2) σ2 env2 fun js hj => (we2 js fun i hi => hj i (List.mem_append_right _ hi)).trans (we1 js fun i hi => hj i (List.mem_append_left _ hi))⟩⟩
theorem gd_tup {n kk : Nat} {is : List Nat} (hc : X.calm = true) (h : PGs X es (tGs (gx X ca) is ks)) (hn : (assignEach es X.env).length = n := by rfl) (hst : (assignEach es X.env).findIdx? (·.1) = none := by rfl) : PG X (.Tuple es kk pos) (tG (gx X ca) is (gTupD n ks)) :=
  pgOf (pg_tup hc h hn hst) fun v σ H Q ⟨d, ρ, μ, S, r, env, sto, h⟩ => by
    cases r with
    | tup fz q =>
      obtain ⟨h1, h2⟩ := Wp.need (Wp.bind h) sto
      exact ⟨_, _, rfl, fz.sq, by rw [q.length]; exact h1, _, ρ, μ, S, q, env, sto, h2.mono fun _ _ _ _ t _ z => z t⟩
    | _ => exact (show False from h).elim
/-- o[i] = value, by data -/
def setIx (o i v : D) : M Unit := match i with
  | .int i => match o with
    | .cell n => do
      let xs ← M.get (cellL n)
      let j ← M.get fun _ => ixN xs.length i
      M.put fun S => S.set n (some (.lst (xs.set j v)))
    | _ => M.bad
  | _ => M.bad
def gSubD (fo fi : DEnv → M D) : D → DEnv → M DEnv := fun v ρ => do let o ← fo ρ; let i ← fi ρ; setIx o i v; pure ρ
theorem gd_sub {o i : Expr} {fo fi : DEnv → M D} (ho : PE X o (tD (gx X ca) (fun _ _ _ _ => False) fo)) (hi : PE X i (tD (gx X ca) (fun _ _ _ _ => False) fi))
    (ha : ∀ v, assign (.Subscript o i pos) X.env v = (do
      let ov ← holding [v] (eval o X.env)
      let iv ← holding [v, ov] (eval i X.env)
      standAt pos
      holding [v, ov, iv] (setItem ov iv v)
      release [v, ov, iv] []) := by intro _; rfl) : PG X (.Subscript o i pos) (tG (gx X ca) [] (gSubD fo fi)) :=
  pgOf (pg_sub ho hi set_list ha) fun v σ H Q ⟨d, ρ, μ, S, r, env, sto, h⟩ => tD_then env sto h fun od μ1 S1 H1 ov t1 k1 env1 r1 h1 => tD_then env1 k1 h1 fun id μ2 S2 H2 iv t2 k2 env2 r2 h2 => by
    have h3 := Wp.bind h2
    cases r2 with
    | int j =>
      cases r1 with
      | @cell ao n em =>
        obtain ⟨xs, e1, h4⟩ := Wp.get (Wp.bind h3) k2
        obtain ⟨jj, e2, h5⟩ := Wp.get (Wp.bind h4) k2
        have em2 := prefix_get t2.pre em
        obtain ⟨ws, hw, q⟩ := cell_rep k2 e1 em2
        refine ⟨_, ws, j, jj, rfl, rfl, hw, by rw [q.length]; exact e2, ?_⟩
        obtain ⟨t3, k3⟩ := sto_write k2 (cellL_some e1) em2 (.lst (q.set jj (r.step (t1.trans t2))))
        have h6 := Wp.put h5 t3 k3 t3 t3
        exact Wp.pure h6 k3 t3 _ (env2.step t3) fun _ _ => rfl
      | _ => exact (show False from h3).elim
    | _ => exact (show False from h3).elim
theorem sd_asg {is : List Nat} (he : PE X e (tD (gx X ca) W f)) (hg : PG X tg (tG (gx X ca) is k)) (hs : swapsWithSole [tg] e pos.line X.env = pure false := by rfl) (hw : swappedStores [tg] e X.env = pure none := by rfl)
    (h1 : (assignEach [tg] X.env).map (·.2) = [assign tg X.env] := by rfl) : PS X (.Assign [tg] e pos) (tS (gx X ca) W (sAsg f k)) :=
  psOf (ps_asg he hg hs hw h1) fun E σ H ⟨ρ, μ, S, env, sto, h⟩ => sD_then env sto h fun d μ1 S1 H1 v t1 k1 env1 r1 h1 =>
    ⟨d, ρ, μ1, S1, r1, env1, k1, (Wp.bind h1).mono fun ρ' μ2 S2 H2 t2 k2 w σ' env' _ => Wp.pure w k2 t2 σ' env'⟩
def sPar (i j : Nat) (fs : DEnv → M (List D)) : DEnv → M Fl := fun ρ => M.cat (fs ρ) ρ fun ds => match ds with
  | [a, b] => pure (.nx ((ρ.set i (some a)).set j (some b)))
  | _ => M.bad
/-- a, b = x, y with two plain local names -/
theorem sd_par (i j : Nat) {x y : Str} {a b : Expr} {px py pt pt2 : Pos} {kt k2 : Nat} {fs : DEnv → M (List D)} (hc : X.calm = true) (hN : X.N.Nodup) (ha : PA X [a, b] (tDA (gx X ca) W fs)) (hi : X.N[i]? = some x := by rfl) (hj : X.N[j]? = some y := by rfl) (hij : i ≠ j := by decide)
    (hx : X.env.scope.names.lookup x = some .local := by rfl) (hy : X.env.scope.names.lookup y = some .local := by rfl)
    (hw : swappedStores [.Tuple [.Name x px, .Name y py] kt pt] (.Tuple [a, b] k2 pt2) X.env = pure (some [x, y]) := by rfl)
    (hs : swapsWithSole [.Tuple [.Name x px, .Name y py] kt pt] (.Tuple [a, b] k2 pt2) pos.line X.env = pure false := by rfl) :
    PS X (.Assign [.Tuple [.Name x px, .Name y py] kt pt] (.Tuple [a, b] k2 pt2) pos) (tS (gx X ca) W (sPar i j fs)) :=
  psOf (ps_par hc hN hi hj hij hx hy ha hw hs) fun E σ H ⟨ρ, μ, S, env, sto, h⟩ => sDA_then env sto h fun ds μ1 S1 H1 vs t1 k1 env1 r1 h1 => by
    match ds, r1, h1 with
    | [d1, d2], r1, h1 =>
      obtain ⟨v, u, rfl, q1, q2⟩ := rep2 r1
      exact ⟨v, u, rfl, Wp.pure h1 k1 _ ((env1.set i q1).set j q2)⟩
    | [], _, h1 => exact (show False from h1).elim
    | [_], _, h1 => exact (show False from h1).elim
    | _ :: _ :: _ :: _, _, h1 => exact (show False from h1).elim
end

/-! ### what is walked -/
/-- the walk J yields the data xs; where it stands for a cell (grd), while the cell holds them -/
def Grd (o : Option (Nat × List D)) (S : Sto) : Prop := match o with
  | none => True
  | some (n, xs) => cellL n S = some xs
structure ItD (g : Gx) (J : It) (xs : List D) (o : Option (Nat × List D)) (μ0 : Gh) (S0 : Sto) (H0 : Hp) : Prop where
  go : ∀ (i : Nat) (x : D) (μ : Gh) (S : Sto) (H : Hp), xs[i]? = some x → Step μ0 S0 H0 μ S H → StoOk g μ S H → Grd o S → J.go i H
  stop : ∀ (μ : Gh) (S : Sto) (H : Hp), Step μ0 S0 H0 μ S H → StoOk g μ S H → Grd o S → J.stop xs.length H
  yld : ∀ (i : Nat) (x : D) (μ : Gh) (S : Sto) (H : Hp) (v : V) (H' : Hp), xs[i]? = some x → Step μ0 S0 H0 μ S H → StoOk g μ S H → Grd o S → J.yld i H v H' → Step μ S H μ S H' ∧ StoOk g μ S H' ∧ Rep g μ S H' v x
abbrev Src := List D × Option (Nat × List D)
def tI (g : Gx) (W : WX) (f : DEnv → M Src) : TI := fun σ H R => ∃ ρ μ S, EnvOk g μ S H σ ρ ∧ StoOk g μ S H ∧ Wp g (fun c d H' => W c d σ H') (f ρ) μ S H fun s μ' S' H' => ∀ J, ItD g J s.1 s.2 μ' S' H' → R J H'
theorem piOf {X : Cx} {tg e : Expr} {t t' : TI} (h : PI X tg e t) (k : ∀ σ H Q, t' σ H Q → t σ H Q) : PI X tg e t' := ⟨fun pins s σ H Q I hq => h.run pins s σ H Q I (k σ H Q hq)⟩
theorem piOr {X : Cx} {tg e : Expr} {t t' : TI} (h : PI X tg e t) (h' : PI X tg e t') : PI X tg e fun σ H Q => t σ H Q ∨ t' σ H Q :=
  ⟨fun pins s σ H Q I hq => hq.elim (h.run pins s σ H Q I) (h'.run pins s σ H Q I)⟩
/-- a list or a tuple, walked -/
def srcOf : D → M Src
  | .tup xs => pure (xs, none)
  | .lst xs => pure (xs, none)
  | .rol xs => pure (xs, none)
  | .cell n => do let xs ← M.get (cellL n); pure (xs, some (n, xs))
  | _ => M.bad
def srcSeq (f : DEnv → M D) : DEnv → M Src := fun ρ => do let d ← f ρ; srcOf d
section
variable {g : Gx} {μ : Gh} {S : Sto} {H : Hp} {a : Addr} {vs : List V} {xs : List D}
theorem itd_list (f : FzL μ S H a vs) (q : RepAll g μ S H vs xs) : ItD g (Itl g.K a) xs none μ S H where
  go := fun i x μ' S' H' e t k _ => by
    obtain ⟨v, ev, _⟩ := q.get e
    obtain ⟨h1, h2⟩ := t.rd (.inl f.1) f.2
    exact ⟨vs, v, .inl h1, ev⟩
  stop := fun μ' S' H' t k _ => ⟨vs, .inl (t.rd (.inl f.1) f.2).1, by rw [q.length]; exact Nat.le_refl _⟩
  yld := fun i x μ' S' H' v H2 e t k _ y => by
    obtain ⟨rfl, hy⟩ := y
    obtain ⟨v', ev, r⟩ := q.get e
    have e2 := hy vs (.inl (t.rd (.inl f.1) f.2).1)
    rw [ev] at e2
    cases e2
    exact ⟨Step.refl _ _ _, k, r.step t⟩
theorem itd_rol (f : RoL g H a vs) (q : RepAll g μ S H vs xs) : ItD g (Itl g.K a) xs none μ S H := by
  have keep : ∀ {μ' : Gh} {S' : Sto} {H' : Hp}, Step μ S H μ' S' H' → SqL g.K H' a vs := fun t => by
    rcases f with ⟨o, f⟩ | f
    · exact .inl (.inr ⟨o, t.frz f⟩)
    · exact .inr f
  refine ⟨fun i x μ' S' H' e t k _ => ?_, fun μ' S' H' t k _ => ⟨vs, keep t, by rw [q.length]; exact Nat.le_refl _⟩, fun i x μ' S' H' v H2 e t k _ y => ?_⟩
  · obtain ⟨v, ev, _⟩ := q.get e
    exact ⟨vs, v, keep t, ev⟩
  · obtain ⟨rfl, hy⟩ := y
    obtain ⟨v', ev, r⟩ := q.get e
    have e2 := hy vs (keep t)
    rw [ev] at e2
    cases e2
    exact ⟨Step.refl _ _ _, k, r.step t⟩
theorem itd_tup (f : FzT g μ S H a vs) (q : RepAll g μ S H vs xs) : ItD g (Itt g.K a) xs none μ S H := by
  have keep : ∀ {μ' : Gh} {S' : Sto} {H' : Hp}, Step μ S H μ' S' H' → SqT g.K H' a vs := fun t => by
    rcases f with ⟨f, n⟩ | f
    · exact .inl (t.rd f n).1
    · exact .inr f
  refine ⟨fun i x μ' S' H' e t k _ => ?_, fun μ' S' H' t k _ => ⟨vs, keep t, by rw [q.length]; exact Nat.le_refl _⟩, fun i x μ' S' H' v H2 e t k _ y => ?_⟩
  · obtain ⟨v, ev, _⟩ := q.get e
    exact ⟨vs, v, keep t, ev⟩
  · obtain ⟨rfl, hy⟩ := y
    obtain ⟨v', ev, r⟩ := q.get e
    have e2 := hy vs (keep t)
    rw [ev] at e2
    cases e2
    exact ⟨Step.refl _ _ _, k, r.step t⟩
theorem itd_cell {n : Nat} (e0 : μ.m[n]? = some a) : ItD g (Itl g.K a) xs (some (n, xs)) μ S H := by
  have at_ : ∀ {μ' : Gh} {S' : Sto} {H' : Hp}, Step μ S H μ' S' H' → StoOk g μ' S' H' → Grd (some (n, xs)) S' → ∃ ws, SqL g.K H' a ws ∧ RepAll g μ' S' H' ws xs := fun t k gr => by
    obtain ⟨ws, h1, h2⟩ := cell_rep k gr (prefix_get t.pre e0)
    exact ⟨ws, .of h1, h2⟩
  refine ⟨fun i x μ' S' H' e t k gr => ?_, fun μ' S' H' t k gr => ?_, fun i x μ' S' H' v H2 e t k gr y => ?_⟩
  · obtain ⟨ws, h1, h2⟩ := at_ t k gr
    obtain ⟨v, ev, _⟩ := h2.get e
    exact ⟨ws, v, h1, ev⟩
  · obtain ⟨ws, h1, h2⟩ := at_ t k gr
    exact ⟨ws, h1, by rw [h2.length]; exact Nat.le_refl _⟩
  · obtain ⟨rfl, hy⟩ := y
    obtain ⟨ws, h1, h2⟩ := at_ t k gr
    obtain ⟨v', ev, r⟩ := h2.get e
    have e2 := hy ws h1
    rw [ev] at e2
    cases e2
    exact ⟨Step.refl _ _ _, k, r⟩
end
section
variable {X : Cx} {ca : Nat → Addr} {W : WX} {e tg : Expr} {f : DEnv → M D} {pos p : Pos}
theorem id_seq (he : PE X e (tD (gx X ca) W f)) : PI X tg e (tI (gx X ca) W (srcSeq f)) := by
  refine piOf (piOr (pi_list he) (pi_tup he)) fun σ H R ⟨ρ, μ, S, env, sto, h⟩ => ?_
  have h1 := Wp.bind h
  by_cases hc : ∃ xs S', f ρ S = .ok (.tup xs) S'
  · obtain ⟨xs0, S', ef⟩ := hc
    refine .inr ⟨ρ, μ, S, env, sto, Wp.of_ok ef fun μ1 H1 t1 k1 v r1 => ?_⟩
    rcases h1.run with ⟨d, S2, e2, w⟩ | ⟨_, _, _, e2, _⟩
    · rw [ef] at e2
      cases e2
      cases r1 with
      | tup fz q => exact ⟨_, rfl, ⟨_, fz.sq⟩, Wp.pure (w μ1 H1 t1 k1) k1 t1 _ (itd_tup fz q)⟩
    · rw [ef] at e2
      cases e2
  · refine .inl ⟨ρ, μ, S, env, sto, ?_⟩
    rcases h1.run with ⟨d, S2, ef, w⟩ | ⟨_, _, _, ef, w⟩
    · refine Wp.of_ok ef fun μ1 H1 t1 k1 v r1 => ?_
      have h2 := w μ1 H1 t1 k1
      cases r1 with
      | tup fz q => exact absurd ⟨_, _, ef⟩ hc
      | lst fz q => exact ⟨_, rfl, ⟨_, fz.sq⟩, Wp.pure h2 k1 t1 _ (itd_list fz q)⟩
      | rol fz q => exact ⟨_, rfl, ⟨_, fz.sq⟩, Wp.pure h2 k1 t1 _ (itd_rol fz q)⟩
      | cell em =>
        obtain ⟨xs, e1, h3⟩ := Wp.get (Wp.bind h2) k1
        obtain ⟨ws, h4, h5⟩ := cell_rep k1 e1 em
        exact ⟨_, rfl, ⟨ws, .of h4⟩, Wp.pure h3 k1 (Step.refl _ _ _) t1 _ (itd_cell em)⟩
      | _ => exact (show False from h2).elim
    · exact Wp.of_exc ef w
end
end DD

/-! DD9: for, while, comprehensions; range, enumerate, zip -/
namespace DD
open PySem PySem.Spec PyProof.Rows L2

theorem M.bind_ok {α β : Type} {m : M α} {k : α → M β} {S S2 : Sto} {b : β} (h : (m >>= k) S = .ok b S2) : ∃ a S1, m S = .ok a S1 ∧ k a S1 = .ok b S2 := by
  rw [M.bind_run] at h
  cases e : m S with
  | ok a S1 => rw [e] at h; exact ⟨a, S1, rfl, h⟩
  | exc c fs S1 => rw [e] at h; cases h
  | bad => rw [e] at h; cases h
theorem M.need_ok {c : Prop} [Decidable c] {S S2 : Sto} {u : Unit} (h : M.need c S = .ok u S2) : c ∧ S2 = S := by
  unfold M.need at h
  by_cases hc : c
  · rw [if_pos hc] at h; cases h; exact ⟨hc, rfl⟩
  · rw [if_neg hc] at h; cases h
theorem M.get_ok {α : Type} {f : Sto → Option α} {S S2 : Sto} {a : α} (h : M.get f S = .ok a S2) : f S = some a ∧ S2 = S := by
  unfold M.get at h
  cases e : f S with
  | none => rw [e] at h; cases h
  | some b => rw [e] at h; cases h; exact ⟨rfl, rfl⟩
open Classical in
/-- the cell that is walked still holds what is walked -/
noncomputable def chk (o : Option (Nat × List D)) : M Unit := fun S => if Grd o S then .ok () S else .bad
theorem chk_none {S : Sto} : chk none S = .ok () S := if_pos trivial
theorem chk_some {n : Nat} {xs : List D} {S : Sto} (h : cellL n S = some xs) : chk (some (n, xs)) S = .ok () S := if_pos h
theorem chk_ok {o : Option (Nat × List D)} {S S2 : Sto} {u : Unit} (h : chk o S = .ok u S2) : Grd o S ∧ S2 = S := by
  unfold chk at h
  by_cases hc : Grd o S
  · rw [if_pos hc] at h; cases h; exact ⟨hc, rfl⟩
  · rw [if_neg hc] at h; cases h
theorem Wp.chk {g : Gx} {E : XK} {μ : Gh} {S : Sto} {H : Hp} {o : Option (Nat × List D)} {Q : Unit → Gh → Sto → Hp → Prop} (h : Wp g E (chk o) μ S H Q) (k : StoOk g μ S H) : Grd o S ∧ Q () μ S H := by
  rcases h.run with ⟨u, S', e, w⟩ | ⟨c, fs, S', e, w⟩
  · obtain ⟨h1, rfl⟩ := chk_ok e
    exact ⟨h1, w μ H (Step.refl _ _ _) k⟩
  · unfold DD.chk at e
    split at e <;> cases e
/-- the same store, a later heap -/
theorem Wp.later {α : Type} {g : Gx} {E : XK} {m : M α} {μ μ' : Gh} {S : Sto} {H H' : Hp} {Q : α → Gh → Sto → Hp → Prop} (t : Step μ S H μ' S H') (h : Wp g E m μ S H Q) : Wp g E m μ' S H' Q := by
  rcases h.run with ⟨a, S', e, w⟩ | ⟨c, fs, S', e, w⟩
  · exact Wp.of_ok e fun μ2 H2 t2 k2 => w μ2 H2 (t.trans t2) k2
  · exact Wp.of_exc e fun μ2 H2 d t2 k2 q => w μ2 H2 d (t.trans t2) k2 q

/-! ### for -/
def loopS (fl : Fl) (k : DEnv → M Fl) : M Fl := match fl with
  | .nx ρ => k ρ
  | .ct ρ => k ρ
  | .bk ρ => pure (.nx ρ)
  | x => pure x
noncomputable def dFor (o : Option (Nat × List D)) (tg : D → DEnv → M DEnv) (body : DEnv → M Fl) : List D → DEnv → M Fl
  | [], ρ => do chk o; pure (.nx ρ)
  | x :: xs, ρ => do chk o; let ρ1 ← tg x ρ; let fl ← body ρ1; loopS fl (dFor o tg body xs)
noncomputable def sFor (src : DEnv → M Src) (tg : D → DEnv → M DEnv) (body : DEnv → M Fl) : DEnv → M Fl := fun ρ => M.cat (src ρ) ρ fun s => dFor s.2 tg body s.1 ρ
section
variable {X : Cx} {ca : Nat → Addr} {W : WX} {iter tg : Expr} {bd : List Stmt} {src : DEnv → M Src} {is : List Nat} {k : D → DEnv → M DEnv} {fb : DEnv → M Fl} {pos : Pos}
theorem drop_cons {α : Type} {xs : List α} {i : Nat} (h : i < xs.length) : xs.drop i = xs[i] :: xs.drop (i + 1) := List.drop_eq_getElem_cons h
theorem sd_for (hp : PassesOwn (model X.prog X.w) X.A X.env X.xe) (hc : X.calm = true) (hi : PI X tg iter (tI (gx X ca) W src)) (hg : PG X tg (tG (gx X ca) is k)) (hb : PSs X bd (tS (gx X ca) W fb))
    (hs : ∀ x, foldedSetIterable iter X.env x = pure x := by intro _; rfl) : PS X (.For tg iter bd [] pos) (tS (gx X ca) W (sFor src k fb)) :=
  psOf (ps_for hp hc hi hg hb hs) fun E σ H ⟨ρ, μ, S, env, sto, h⟩ => ⟨ρ, μ, S, env, sto, (Wp.cat env h).mono fun s μ1 S1 H1 t1 k1 w J hJ => by
    have w1 := w.mono fun _ _ _ _ t2 _ z => z (t1.trans t2)
    refine ⟨fun i m σ' H' => ∃ ρ' μ' S', EnvOk (gx X ca) μ' S' H' σ' ρ' ∧ StoOk (gx X ca) μ' S' H' ∧ Step μ1 S1 H1 μ' S' H' ∧ i + m = s.1.length ∧ Wp (gx X ca) EF (dFor s.2 k fb (s.1.drop i) ρ') μ' S' H' (FlP (gx X ca) W E),
      ⟨s.1.length, ρ, μ1, S1, env.step t1, k1, Step.refl _ _ _, Nat.zero_add _, by rw [List.drop_zero]; exact w1⟩, ?_⟩
    rintro i m σ' H' ⟨ρ', μ', S', env', k', t', em, w'⟩
    by_cases hi : i < s.1.length
    · rw [drop_cons hi] at w'
      have w2 : Wp (gx X ca) EF (do chk s.2; let ρ1 ← k s.1[i] ρ'; let fl ← fb ρ1; loopS fl (dFor s.2 k fb (s.1.drop (i + 1)))) μ' S' H' (FlP (gx X ca) W E) := w'
      obtain ⟨gr, w3⟩ := Wp.chk (Wp.bind w2) k'
      have ex : s.1[i]? = some s.1[i] := List.getElem?_eq_getElem hi
      refine .inr ⟨hJ.go i _ μ' S' H' ex t' k' gr, fun σ2 H2 => ∃ ρ2 μ2 S2, EnvOk (gx X ca) μ2 S2 H2 σ2 ρ2 ∧ StoOk (gx X ca) μ2 S2 H2 ∧ Step μ1 S1 H1 μ2 S2 H2 ∧ (i + 1) + (m - 1) = s.1.length ∧ Wp (gx X ca) EF (dFor s.2 k fb (s.1.drop (i + 1)) ρ2) μ2 S2 H2 (FlP (gx X ca) W E),
        fun σ2 H2 q => ⟨m - 1, by omega, q⟩, fun v H2 hy => ?_⟩
      obtain ⟨t2, k2, r2⟩ := hJ.yld i _ μ' S' H' v H2 ex t' k' gr hy
      refine ⟨s.1[i], ρ', μ', S', r2, env'.step t2, k2, (Wp.bind (Wp.later t2 w3)).mono fun ρ3 μ3 S3 H3 t3 k3 w4 σ3 env3 _ => ⟨ρ3, μ3, S3, env3, k3, (Wp.bind w4).mono fun fl μ4 S4 H4 t4 k4 w5 => ?_⟩⟩
      have t04 := t'.trans (t2.trans (t3.trans t4))
      have w6 := w5.mono fun _ _ _ _ t5 _ z => z (t4.trans t5) (t3.trans (t4.trans t5)) (t2.trans (t3.trans (t4.trans t5)))
      cases fl with
      | nx ρ4 => exact fun σ4 env4 => ⟨ρ4, μ4, S4, env4, k4, t04, by omega, w6⟩
      | ct ρ4 => exact fun σ4 env4 => ⟨ρ4, μ4, S4, env4, k4, t04, by omega, w6⟩
      | bk ρ4 => exact fun σ4 env4 => Wp.pure w6 k4 σ4 env4
      | rt d => exact (show FlP (gx X ca) W E (.rt d) μ4 S4 H4 from Wp.pure (E := EF) w6 k4)
      | xc c fs ρ4 => exact (show FlP (gx X ca) W E (.xc c fs ρ4) μ4 S4 H4 from Wp.pure (E := EF) w6 k4)
    · have ed : s.1.drop i = [] := List.drop_eq_nil_of_le (by omega)
      rw [ed] at w'
      have w2 : Wp (gx X ca) EF (do chk s.2; pure (.nx ρ') : M Fl) μ' S' H' (FlP (gx X ca) W E) := w'
      obtain ⟨gr, w3⟩ := Wp.chk (Wp.bind w2) k'
      have el : i = s.1.length := by omega
      subst el
      exact .inl ⟨hJ.stop μ' S' H' t' k' gr, Wp.pure w3 k' (Step.refl _ _ _) σ' env'⟩⟩
end

/-! ### comprehensions -/
def wipeD (ρ : DEnv) : List Nat → DEnv
  | [] => ρ
  | v :: vs => (wipeD ρ vs).set v none
theorem EnvOk.wipe {g : Gx} {μ : Gh} {S : Sto} {H : Hp} {σ : L2.St} {ρ : DEnv} (h : EnvOk g μ S H σ ρ) : ∀ vs : List Nat, EnvOk g μ S H (L2.wipe σ vs) (wipeD ρ vs)
  | [] => h
  | v :: vs => (EnvOk.wipe h vs).unset v
/-- nothing is raised -/
def M.nx {α : Type} (m : M α) : M α := fun S => match m S with
  | .ok a S' => .ok a S'
  | _ => .bad
theorem M.nx_ok {α : Type} {m : M α} {S S' : Sto} {a : α} (h : M.nx m S = .ok a S') : m S = .ok a S' := by
  unfold M.nx at h
  split at h
  · cases h; assumption
  · cases h
theorem Wp.nx {α : Type} {g : Gx} {E : XK} {m : M α} {μ : Gh} {S : Sto} {H : Hp} {Q : α → Gh → Sto → Hp → Prop} (h : Wp g E (M.nx m) μ S H Q) : ∃ a S', m S = .ok a S' ∧ ∀ μ' H', Step μ S H μ' S' H' → StoOk g μ' S' H' → Q a μ' S' H' := by
  rcases h.run with ⟨a, S', e, w⟩ | ⟨c, fs, S', e, w⟩
  · exact ⟨a, S', M.nx_ok e, w⟩
  · unfold M.nx at e
    split at e <;> cases e
noncomputable def dLcGo (o : Option (Nat × List D)) (tg : D → DEnv → M DEnv) (tt : DEnv → M Bool) (te : DEnv → M D) (ρ : DEnv) : List D → List D → M (List D)
  | [], acc => do chk o; pure acc
  | x :: xs, acc => do
    chk o
    let ρ1 ← tg x ρ
    let b ← tt ρ1
    if b then do
      let y ← te ρ1
      M.need (acc.length < sizeLine)
      dLcGo o tg tt te ρ xs (acc ++ [y])
    else dLcGo o tg tt te ρ xs acc
noncomputable def dLc (src : DEnv → M Src) (tg : D → DEnv → M DEnv) (tt : DEnv → M Bool) (te : DEnv → M D) (vs : List Nat) : DEnv → M D := fun ρ => do
  let s ← src ρ
  let ys ← M.nx (dLcGo s.2 tg tt te (wipeD ρ vs) s.1 [])
  pure (.lst ys)
/-- the new list may change -/
noncomputable def dLcC (src : DEnv → M Src) (tg : D → DEnv → M DEnv) (tt : DEnv → M Bool) (te : DEnv → M D) (vs : List Nat) : DEnv → M D := fun ρ => do
  let s ← src ρ
  let ys ← M.nx (dLcGo s.2 tg tt te (wipeD ρ vs) s.1 [])
  newCell ys
def tYesD : DEnv → M Bool := fun _ => pure true
abbrev WF : WX := fun _ _ _ _ => False
section
variable {g : Gx}
/-- a list that is being made may change: what does not hang on it stays -/
structure Making (g : Gx) (D0 : Addr) (μ : Gh) (S : Sto) (H : Hp) (ws : List V) : Prop where
  at_ : H D0 = some (.lst ws)
  ex : D0 ∈ μ.ex
  nl : ¬ Live μ S D0
mutual
theorem Rep.upd {μ : Gh} {S : Sto} {H : Hp} {p : Addr} {o : HO} (hx : p ∈ μ.ex) (hz : ∀ ob u, H p ≠ some (.frz ob u)) : ∀ {v : V} {d : D}, Rep g μ S H v d → Rep g μ S (upd H p o) v d
  | _, _, .non => .non
  | _, _, .bl b => .bl b
  | _, _, .int i => .int i
  | _, _, .str x => .str x
  | _, _, .tup h r => .tup (by
      rcases h with ⟨h, n⟩ | h
      · refine .inl ⟨?_, n⟩
        rcases h with h | ⟨o', h⟩
        · exact .inl (by rw [upd_ne fun z => n (.inr (by rw [z]; exact hx))]; exact h)
        · exact .inr ⟨o', by rw [upd_ne fun z => n (.inr (by rw [z]; exact hx))]; exact h⟩
      · exact .inr h) (RepAll.upd hx hz r)
  | _, _, .lst h r => .lst ⟨by rw [upd_ne fun z => h.2 (.inr (by rw [z]; exact hx))]; exact h.1, h.2⟩ (RepAll.upd hx hz r)
  | _, _, .rol h r => .rol (by
      rcases h with ⟨o', h⟩ | h
      · exact .inl ⟨o', by
          rw [upd_ne fun z => hz o' _ (by rw [← z]; exact h)]
          exact h⟩
      · exact .inr h) (RepAll.upd hx hz r)
  | _, _, .obj h n r => .obj (by rw [upd_ne fun z => n (.inr (by rw [z]; exact hx))]; exact h) n (RepF.upd hx hz r)
  | _, _, .cell e => .cell e
  | _, _, .ty n => .ty n
  | _, _, .cls c => .cls c
  | _, _, .exn0 h n => .exn0 (by rw [upd_ne fun z => n (.inr (by rw [z]; exact hx))]; exact h) n
  | _, _, .exn1 h n h2 n2 r => .exn1 (by rw [upd_ne fun z => n (.inr (by rw [z]; exact hx))]; exact h) n (by rw [upd_ne fun z => n2 (.inr (by rw [z]; exact hx))]; exact h2) n2 (RepF.upd hx hz r)
theorem RepAll.upd {μ : Gh} {S : Sto} {H : Hp} {p : Addr} {o : HO} (hx : p ∈ μ.ex) (hz : ∀ ob u, H p ≠ some (.frz ob u)) : ∀ {vs : List V} {ds : List D}, RepAll g μ S H vs ds → RepAll g μ S (upd H p o) vs ds
  | _, _, .nil => .nil
  | _, _, .cons r q => .cons (Rep.upd hx hz r) (RepAll.upd hx hz q)
theorem RepF.upd {μ : Gh} {S : Sto} {H : Hp} {p : Addr} {o : HO} (hx : p ∈ μ.ex) (hz : ∀ ob u, H p ≠ some (.frz ob u)) : ∀ {vs : List (Str × V)} {ds : List (Str × D)}, RepF g μ S H vs ds → RepF g μ S (upd H p o) vs ds
  | _, _, .nil => .nil
  | _, _, .cons r q => .cons (Rep.upd hx hz r) (RepF.upd hx hz q)
end
theorem RepK.upd {μ : Gh} {S : Sto} {H : Hp} {p : Addr} {o : HO} (hx : p ∈ μ.ex) (hz : ∀ ob u, H p ≠ some (.frz ob u)) {vs : List (Key × V)} {ds : List (Key × D)} (r : RepK g μ S H vs ds) : RepK g μ S (upd H p o) vs ds := by
  induction r with
  | nil => exact .nil
  | cons r _ ih => exact .cons (r.upd hx hz) ih
theorem StoOk.upd {μ : Gh} {S : Sto} {H : Hp} {p : Addr} {o : HO} (k : StoOk g μ S H) (hx : p ∈ μ.ex) (hz : ∀ ob u, H p ≠ some (.frz ob u)) : StoOk g μ S (upd H p o) := by
  refine ⟨k.len, k.nex, fun a ha => ?_, k.inj, fun n c e => ?_⟩
  · by_cases z : a = p
    · rw [z, upd_same]; exact fun z => nomatch z
    · rw [upd_ne z]; exact k.ext a ha
  · obtain ⟨a, e1, q⟩ := k.at_ n c e
    have ne : a ≠ p := fun z => k.nex a ⟨n, c, e, e1⟩ (by rw [z]; exact hx)
    refine ⟨a, e1, ?_⟩
    cases c with
    | lst ds =>
      obtain ⟨xs, q1, q2⟩ := q
      exact ⟨xs, by rw [upd_ne ne]; exact q1, q2.upd hx hz⟩
    | obj c fs =>
      obtain ⟨dx, vs, q1, q2⟩ := q
      exact ⟨dx, vs, by rw [upd_ne ne]; exact q1, q2.upd hx hz⟩
    | dct ds =>
      obtain ⟨vs, q1, q2⟩ := q
      exact ⟨vs, by rw [upd_ne ne]; exact q1, q2.upd hx hz⟩
end
end DD

/-! DD10: comprehensions are what dLc says -/
namespace DD
open PySem PySem.Spec PyProof.Rows L2

/-- the list is made -/
def dropG (μ : Gh) (p : Addr) : Gh := ⟨μ.m, μ.ex.filter fun a => decide (a ≠ p)⟩
section
variable {g : Gx} {μ μ1 : Gh} {S S1 : Sto} {H H1 : Hp} {p : Addr}
theorem dropG_ex {a : Addr} : a ∈ (dropG μ p).ex ↔ a ∈ μ.ex ∧ a ≠ p := by
  unfold dropG
  rw [List.mem_filter]
  simp
theorem live_drop {a : Addr} : Live (dropG μ p) S a ↔ Live μ S a := Iff.rfl
theorem drop_stepR : StepR μ S H (dropG μ p) S H := ⟨List.prefix_refl _, fun h => h, fun _ _ _ h => h, fun a _ l => l.elim (fun l => .inl l) fun l => .inr (dropG_ex.mp l).1⟩
theorem StoOk.dropG (k : StoOk g μ S H) : StoOk g (dropG μ p) S H :=
  ⟨k.len, fun a l h => k.nex a l (dropG_ex.mp h).1, fun a h => k.ext a (dropG_ex.mp h).1, k.inj, fun n c e => by
    obtain ⟨a, e1, q⟩ := k.at_ n c e
    refine ⟨a, e1, ?_⟩
    cases c with
    | lst ds => obtain ⟨xs, q1, q2⟩ := q; exact ⟨xs, q1, q2.stepR drop_stepR⟩
    | obj c fs => obtain ⟨dx, vs, q1, q2⟩ := q; exact ⟨dx, vs, q1, q2.stepR drop_stepR⟩
    | dct ds => obtain ⟨vs, q1, q2⟩ := q; exact ⟨vs, q1, q2.stepR drop_stepR⟩⟩
theorem Step.dropG (t : Step μ1 S1 H1 μ S H) (hp : p ∉ μ1.ex) : Step μ1 S1 H1 (dropG μ p) S H :=
  ⟨t.pre, fun a h => dropG_ex.mpr ⟨t.ex a h, fun z => hp (z ▸ h)⟩, t.frz, t.keep, t.live, fun a h => t.exh a (dropG_ex.mp h).1, t.there⟩
theorem drop_nheld (k : StoOk g μ S H) (h : p ∈ μ.ex) : ¬ Held (DD.dropG μ p) S p := fun l => l.elim (fun l => k.nex p l h) fun l => (dropG_ex.mp l).2 rfl
/-- the list that was made becomes a cell -/
def adoptG (μ : Gh) (p : Addr) : Gh := ⟨μ.m ++ [p], (dropG μ p).ex⟩
theorem adopt_live (k : StoOk g μ S H) {c : Cell} {a : Addr} : Live (adoptG μ p) (S ++ [some c]) a → Live μ S a ∨ a = p := by
  rintro ⟨n, d, e1, e2⟩
  have e2' : (μ.m ++ [p])[n]? = some a := e2
  by_cases z : n < S.length
  · rw [List.getElem?_append_left z] at e1
    rw [List.getElem?_append_left (by rw [k.len]; exact z)] at e2'
    exact .inl ⟨n, d, e1, e2'⟩
  · rw [List.getElem?_append_right (by rw [k.len]; omega)] at e2'
    have hn : n - μ.m.length = 0 := by
      have := (List.getElem?_eq_some_iff.mp e2').1
      simp at this
      omega
    rw [hn] at e2'
    simp at e2'
    exact .inr e2'.symm
theorem adopt_stepR (k : StoOk g μ S H) (hx : p ∈ μ.ex) {c : Cell} : StepR μ S H (adoptG μ p) (S ++ [some c]) H :=
  ⟨List.prefix_append _ _, fun h => h, fun _ _ _ h => h, fun a _ l => l.elim (fun l => (adopt_live k l).elim .inl fun z => .inr (by rw [z]; exact hx)) fun l => .inr (dropG_ex.mp l).1⟩
theorem sto_adopt {ws : List V} {ds : List D} (k : StoOk g μ S H) (hx : p ∈ μ.ex) (hp : H p = some (.lst ws)) (r : RepAll g μ S H ws ds) :
    StoOk g (adoptG μ p) (S ++ [some (.lst ds)]) H ∧ Rep g (adoptG μ p) (S ++ [some (.lst ds)]) H (.ref p) (.cell S.length) := by
  have tr := adopt_stepR k hx (c := .lst ds)
  have gp : (μ.m ++ [p])[S.length]? = some p := by
    rw [← k.len, List.getElem?_append_right (Nat.le_refl _)]
    simp
  have get : ∀ {n : Nat} {d : Cell}, (S ++ [some (Cell.lst ds)])[n]? = some (some d) → (n < S.length ∧ S[n]? = some (some d)) ∨ (n = S.length ∧ d = .lst ds) := fun {n d} h => by
    by_cases z : n < S.length
    · rw [List.getElem?_append_left z] at h; exact .inl ⟨z, h⟩
    · have hn : n = S.length := by
        have := (List.getElem?_eq_some_iff.mp h).1
        simp at this
        omega
      subst hn
      rw [List.getElem?_append_right (Nat.le_refl _)] at h
      simp at h
      exact .inr ⟨rfl, h.symm⟩
  have gm : ∀ {n : Nat} {a : Addr}, n < S.length → (adoptG μ p).m[n]? = some a → μ.m[n]? = some a := fun {n a} z h => by
    have h' : (μ.m ++ [p])[n]? = some a := h
    rw [List.getElem?_append_left (by rw [k.len]; exact z)] at h'
    exact h'
  refine ⟨⟨?_, fun a l h => ?_, fun a h => k.ext a (dropG_ex.mp h).1, fun n m c c' a h1 h2 h3 h4 => ?_, fun n c e => ?_⟩, .cell gp⟩
  · show (μ.m ++ [p]).length = _
    simp [k.len]
  · rcases adopt_live k l with z | z
    · exact k.nex a z (dropG_ex.mp h).1
    · exact (dropG_ex.mp h).2 z
  · rcases get h1 with ⟨z1, q1⟩ | ⟨z1, q1⟩
    · rcases get h2 with ⟨z2, q2⟩ | ⟨z2, q2⟩
      · exact k.inj n m c c' a q1 q2 (gm z1 h3) (gm z2 h4)
      · subst z2
        have e : p = a := Option.some.inj (gp.symm.trans h4)
        exact absurd hx (k.nex p ⟨n, c, q1, by rw [e]; exact gm z1 h3⟩)
    · subst z1
      have e : p = a := Option.some.inj (gp.symm.trans h3)
      rcases get h2 with ⟨z2, q2⟩ | ⟨z2, q2⟩
      · exact absurd hx (k.nex p ⟨m, c', q2, by rw [e]; exact gm z2 h4⟩)
      · exact z2.symm
  · rcases get e with ⟨z1, q1⟩ | ⟨z1, q1⟩
    · obtain ⟨a, e1, q⟩ := k.at_ n c q1
      refine ⟨a, prefix_get (List.prefix_append _ _) e1, ?_⟩
      cases c with
      | lst ds => obtain ⟨xs, q1, q2⟩ := q; exact ⟨xs, q1, q2.stepR tr⟩
      | obj c fs => obtain ⟨dx, vs, q1, q2⟩ := q; exact ⟨dx, vs, q1, q2.stepR tr⟩
      | dct ds => obtain ⟨vs, q1, q2⟩ := q; exact ⟨vs, q1, q2.stepR tr⟩
    · subst z1; subst q1
      exact ⟨p, gp, ws, hp, r.stepR tr⟩
theorem Step.adopt (t : Step μ1 S1 H1 μ S H) (k : StoOk g μ S H) (hp : H1 p = none) (h1 : p ∉ μ1.ex) {c : Cell} : Step μ1 S1 H1 (adoptG μ p) (S ++ [some c]) H :=
  ⟨t.pre.trans (List.prefix_append _ _), fun a h => dropG_ex.mpr ⟨t.ex a h, fun z => h1 (z ▸ h)⟩, t.frz, t.keep, fun a l => (adopt_live k l).elim (t.live a) fun z => .inr (by rw [z]; exact hp), fun a h => t.exh a (dropG_ex.mp h).1, t.there⟩
end

section
variable {X : Cx} {ca : Nat → Addr} {W : WX} {elt tg iter : Expr} {ifs : List Expr} {scope : Scope} {own : List (Str × Nat)} {pos : Pos} {src : DEnv → M Src} {is : List Nat} {k : D → DEnv → M DEnv} {tt : DEnv → M Bool} {te : DEnv → M D}
theorem lc_turns {o : Option (Nat × List D)} {xs ys : List D} {vs : List Nat} {σ : L2.St} {ρ : DEnv} {μ1 : Gh} {S1 S2 : Sto} {H1 : Hp} {J : It} {D0 : Addr} {Q : VK} {g : Gx} (his : ∀ i ∈ is, i ∈ vs) (env : EnvOk g μ1 S1 H1 σ ρ) (k1 : StoOk g μ1 S1 H1) (hJ : ItD g J xs o μ1 S1 H1) (hD : H1 D0 = none)
    (e : dLcGo o k tt te (wipeD ρ vs) xs [] S1 = .ok ys S2)
    (fin : ∀ (μ : Gh) (H : Hp) (ws : List V), Step μ1 S1 H1 μ S2 H → StoOk g μ S2 H → D0 ∈ μ.ex → H D0 = some (.lst ws) → RepAll g μ S2 H ws ys → Q (.ref D0) H) :
    ∃ W : Nat → Nat → Hp → Prop, (∃ m, W 0 m (upd H1 D0 (.lst []))) ∧ ∀ i m H, W i m H →
      (J.stop i H ∧ Q (.ref D0) H) ∨ (J.go i H ∧ ∃ Nx : Hp → Prop, (∀ H', Nx H' → ∃ m', m' < m ∧ W (i + 1) m' H') ∧ ∀ x H', J.yld i H x H' → tG g is k x (wipe σ vs) H' fun σ2 H2 => wipe σ2 vs = wipe σ vs ∧ tDT g WF tt σ2 H2 fun b H3 =>
        if b = true then tD g WF te σ2 H3 fun y H4 => ∃ acc, H4 D0 = some (.lst acc) ∧ acc.length < sizeLine ∧ Nx (upd H4 D0 (.lst (acc ++ [y]))) else Nx H3) := by
  have hD1 : D0 ∉ μ1.ex := fun h => k1.ext D0 h hD
  refine ⟨fun i m H => ∃ μ S acc ws, Step μ1 S1 H1 μ S H ∧ StoOk g μ S H ∧ D0 ∈ μ.ex ∧ H D0 = some (.lst ws) ∧ RepAll g μ S H ws acc ∧ i + m = xs.length ∧ dLcGo o k tt te (wipeD ρ vs) (xs.drop i) acc S = .ok ys S2, ⟨xs.length, ⟨μ1.m, D0 :: μ1.ex⟩, S1, [], [], ?_, ?_, List.mem_cons_self, upd_same, .nil, Nat.zero_add _, by rw [List.drop_zero]; exact e⟩, ?_⟩
  · have t0 : Step μ1 S1 H1 μ1 S1 (upd H1 D0 (.lst [])) := Step.alloc hD
    exact ⟨List.prefix_refl _, fun a h => List.mem_cons_of_mem _ h, t0.frz, t0.keep, t0.live, fun a h => (List.mem_cons.mp h).elim (fun z => .inr (by rw [z]; exact hD)) .inl, t0.there⟩
  · have k0 := k1.alloc hD (o := .lst [])
    refine ⟨k0.len, fun a l h => ?_, fun a h => ?_, k0.inj, fun n c e => ?_⟩
    · rcases List.mem_cons.mp h with z | z
      · rw [z] at l
        exact k1.newL hD l
      · exact k1.nex a l z
    · rcases List.mem_cons.mp h with z | z
      · rw [z, upd_same]; exact fun z => nomatch z
      · exact k0.ext a z
    · obtain ⟨a, e1, q⟩ := k1.at_ n c e
      have na : a ≠ D0 := fun z => k1.newL hD (by rw [← z]; exact ⟨n, c, e, e1⟩)
      have tr : StepR μ1 S1 H1 ⟨μ1.m, D0 :: μ1.ex⟩ S1 (upd H1 D0 (.lst [])) := ⟨List.prefix_refl _, (Step.alloc (μ := μ1) (S := S1) hD).frz, fun b u _ h => by rw [upd_ne (ne_of_none h hD)]; exact h, fun b h l => l.elim .inl fun l => (List.mem_cons.mp l).elim (fun z => absurd (by rw [z]; exact hD) h) .inr⟩
      refine ⟨a, e1, ?_⟩
      cases c with
      | lst ds => obtain ⟨ws, q1, q2⟩ := q; exact ⟨ws, by rw [upd_ne na]; exact q1, q2.stepR tr⟩
      | obj c fs => obtain ⟨dx, ws, q1, q2⟩ := q; exact ⟨dx, ws, by rw [upd_ne na]; exact q1, q2.stepR tr⟩
      | dct ds => obtain ⟨ws, q1, q2⟩ := q; exact ⟨ws, by rw [upd_ne na]; exact q1, q2.stepR tr⟩
  · rintro i m H ⟨μ, S, acc, ws, t, kk, hx, hH, ra, em, e2⟩
    by_cases hi : i < xs.length
    · rw [drop_cons hi] at e2
      have e3 : (do
        chk o
        let ρ1 ← k xs[i] (wipeD ρ vs)
        let b ← tt ρ1
        if b then do
          let y ← te ρ1
          M.need (acc.length < sizeLine)
          dLcGo o k tt te (wipeD ρ vs) (xs.drop (i + 1)) (acc ++ [y])
        else dLcGo o k tt te (wipeD ρ vs) (xs.drop (i + 1)) acc : M (List D)) S = .ok ys S2 := e2
      obtain ⟨u, S3, c1, e4⟩ := M.bind_ok e3
      obtain ⟨gr, rfl⟩ := chk_ok c1
      obtain ⟨ρ1, Sa, c2, e5⟩ := M.bind_ok e4
      obtain ⟨b, Sb, c3, e6⟩ := M.bind_ok e5
      have ex : xs[i]? = some xs[i] := List.getElem?_eq_getElem hi
      refine .inr ⟨hJ.go i _ μ S3 H ex t kk gr, fun H' => ∃ μ S acc ws, Step μ1 S1 H1 μ S H' ∧ StoOk g μ S H' ∧ D0 ∈ μ.ex ∧ H' D0 = some (.lst ws) ∧ RepAll g μ S H' ws acc ∧ (i + 1) + (m - 1) = xs.length ∧ dLcGo o k tt te (wipeD ρ vs) (xs.drop (i + 1)) acc S = .ok ys S2, fun H' q => ⟨m - 1, by omega, q⟩, fun v H' hy => ?_⟩
      obtain ⟨t2, k2, r2⟩ := hJ.yld i _ μ S3 H v H' ex t kk gr hy
      have keepD : ∀ {μ' : Gh} {S' : Sto} {H2 : Hp}, Step μ S3 H μ' S' H2 → StoOk g μ' S' H2 → H2 D0 = some (.lst ws) := fun t' _ => t'.keep _ _ (fun l => kk.nex D0 l hx) hH
      refine ⟨xs[i], wipeD ρ vs, μ, S3, r2, ((env.step (t.trans t2)).wipe vs), k2, Wp.of_ok c2 fun μ3 H3 t3 k3 σ3 env3 we => ⟨we vs his |>.trans ?_, ρ1, μ3, Sa, env3, k3, Wp.of_ok c3 fun μ4 H4 t4 k4 => ?_⟩⟩
      · -- wiped twice
        refine List.ext_getElem? fun j => ?_
        by_cases hj : j ∈ vs
        · have z : ∀ τ : L2.St, τ.length = σ.length → (wipe τ vs)[j]? = if j < σ.length then some none else none := fun τ hτ => by
            by_cases hl : j < σ.length
            · rw [if_pos hl]
              have hl2 : j < (wipe τ vs).length := by rw [wipe_length, hτ]; exact hl
              rw [List.getElem?_eq_getElem hl2]
              cases ez : (wipe τ vs)[j] with
              | none => rfl
              | some v' => exact absurd hj (wipe_some (show (wipe τ vs)[j]? = some (some v') by rw [List.getElem?_eq_getElem hl2, ez])).2
            · rw [if_neg hl]
              exact List.getElem?_eq_none (by rw [wipe_length, hτ]; omega)
          rw [z _ (wipe_length _ _), z _ rfl]
        · rw [wipe_out hj]
      · cases b with
        | false =>
          simp only [Bool.false_eq_true, if_false] at e6 ⊢
          have tt4 := t2.trans (t3.trans t4)
          exact ⟨μ4, Sb, acc, ws, t.trans tt4, k4, tt4.ex _ hx, keepD tt4 k4, ra.step tt4, by omega, e6⟩
        | true =>
          simp only [if_true] at e6 ⊢
          obtain ⟨y, Sc, c4, e7⟩ := M.bind_ok e6
          obtain ⟨_, Sd, c5, e8⟩ := M.bind_ok e7
          obtain ⟨hl, rfl⟩ := M.need_ok c5
          refine ⟨ρ1, μ4, Sb, env3.step t4, k4, Wp.of_ok c4 fun μ5 H5 t5 k5 w rw_ => ?_⟩
          have tt5 := t2.trans (t3.trans (t4.trans t5))
          have hD5 := keepD tt5 k5
          have hx5 := tt5.ex _ hx
          have nz : ∀ ob u, H5 D0 ≠ some (.frz ob u) := fun ob u z => by rw [hD5] at z; cases z
          have ra5 := ra.step tt5
          refine ⟨ws, hD5, by rw [ra.length]; exact hl, μ5, Sd, acc ++ [y], ws ++ [w], ?_, k5.upd hx5 nz, hx5, upd_same, (ra5.append (.cons rw_ .nil)).upd hx5 nz, by omega, e8⟩
          have t15 := t.trans tt5
          refine ⟨t15.pre, t15.ex, fun {a ob u} h => ?_, fun a ob nl h => ?_, t15.live, t15.exh, fun a h => ?_⟩
          · rw [upd_ne (ne_of_none h hD)]; exact t15.frz h
          · rw [upd_ne (ne_of_none h hD)]; exact t15.keep a ob nl h
          · by_cases z : a = D0
            · rw [z, upd_same] at h; cases h
            · rw [upd_ne z] at h; exact t15.there a h
    · have ed : xs.drop i = [] := List.drop_eq_nil_of_le (by omega)
      rw [ed] at e2
      have e3 : (do chk o; pure acc : M (List D)) S = .ok ys S2 := e2
      obtain ⟨u, S3, c1, e4⟩ := M.bind_ok e3
      obtain ⟨gr, rfl⟩ := chk_ok c1
      cases e4
      have el : i = xs.length := by omega
      subst el
      exact .inl ⟨hJ.stop μ S2 H t kk gr, fin μ H ws t kk hx hH ra⟩
theorem pd_lc (hc : X.calm = true) (hN : X.N.Nodup) (hi : PI X tg iter (tI (gx X ca) W src)) (ok : BlkOk X.N X.env.scope scope own)
    (hg : ∀ (s : Shared) (H : Hp) (C : Addr) (cl : List (Str × Addr)) (fp : List Addr), PG (X.blk s H scope (compEnvC scope cl C X.env) fp) tg (tG (gx X ca) is k)) (his : ∀ i ∈ is, i ∈ own.map (·.2))
    (ht : ∀ (s : Shared) (H : Hp) (C : Addr) (cl : List (Str × Addr)) (fp : List Addr), PTs (X.blk s H scope (compEnvC scope cl C X.env) fp) ifs (tDT (gx X ca) WF tt))
    (he : ∀ (s : Shared) (H : Hp) (C : Addr) (cl : List (Str × Addr)) (fp : List Addr), PE (X.blk s H scope (compEnvC scope cl C X.env) fp) elt (tD (gx X ca) WF te)) (hs : ∀ x, foldedSetIterable iter X.env x = pure x := by intro _; rfl) :
    PE X (.ListComp elt [⟨tg, iter, ifs, 0⟩] scope pos) (tD (gx X ca) W (dLc src k tt te (own.map (·.2)))) :=
  peOf (pe_lc hc hN hi ok hg ht he hs) fun σ H Q ⟨ρ, μ, S, env, sto, h⟩ => ⟨ρ, μ, S, env, sto, (Wp.bind h).mono fun s μ1 S1 H1 t1 k1 w J hJ D0 hD => by
    obtain ⟨ys, S2, e, w2⟩ := Wp.nx (Wp.bind w)
    refine lc_turns his (env.step t1) k1 hJ hD e fun μ2 H2 ws t2 k2 hx hD2 ra => ?_
    have t3 := t2.dropG (p := D0) fun h => k1.ext D0 h hD
    have k3 := k2.dropG (p := D0)
    exact Wp.pure (w2 _ _ t3 k3) k3 t3 (t1.trans t3) _ (.lst ⟨hD2, drop_nheld k2 hx⟩ (ra.stepR drop_stepR))⟩
theorem pd_lcC (hc : X.calm = true) (hN : X.N.Nodup) (hi : PI X tg iter (tI (gx X ca) W src)) (ok : BlkOk X.N X.env.scope scope own)
    (hg : ∀ (s : Shared) (H : Hp) (C : Addr) (cl : List (Str × Addr)) (fp : List Addr), PG (X.blk s H scope (compEnvC scope cl C X.env) fp) tg (tG (gx X ca) is k)) (his : ∀ i ∈ is, i ∈ own.map (·.2))
    (ht : ∀ (s : Shared) (H : Hp) (C : Addr) (cl : List (Str × Addr)) (fp : List Addr), PTs (X.blk s H scope (compEnvC scope cl C X.env) fp) ifs (tDT (gx X ca) WF tt))
    (he : ∀ (s : Shared) (H : Hp) (C : Addr) (cl : List (Str × Addr)) (fp : List Addr), PE (X.blk s H scope (compEnvC scope cl C X.env) fp) elt (tD (gx X ca) WF te)) (hs : ∀ x, foldedSetIterable iter X.env x = pure x := by intro _; rfl) :
    PE X (.ListComp elt [⟨tg, iter, ifs, 0⟩] scope pos) (tD (gx X ca) W (dLcC src k tt te (own.map (·.2)))) :=
  peOf (pe_lc hc hN hi ok hg ht he hs) fun σ H Q ⟨ρ, μ, S, env, sto, h⟩ => ⟨ρ, μ, S, env, sto, (Wp.bind h).mono fun s μ1 S1 H1 t1 k1 w J hJ D0 hD => by
    obtain ⟨ys, S2, e, w2⟩ := Wp.nx (Wp.bind w)
    refine lc_turns his (env.step t1) k1 hJ hD e fun μ2 H2 ws t2 k2 hx hD2 ra => ?_
    have hn : D0 ∉ μ1.ex := fun h => k1.ext D0 h hD
    obtain ⟨k4, r4⟩ := sto_adopt k2 hx hD2 ra
    have t4 : Step μ1 S1 H1 (adoptG μ2 D0) (S2 ++ [some (.lst ys)]) H2 := t2.adopt k2 hD hn
    have en : (do let ys ← M.nx (dLcGo s.2 k tt te (wipeD ρ (own.map (·.2))) s.1 []); newCell ys : M D) S1 = .ok (.cell S2.length) (S2 ++ [some (.lst ys)]) := by
      rw [M.bind_run]
      have z : M.nx (dLcGo s.2 k tt te (wipeD ρ (own.map (·.2))) s.1 []) S1 = .ok ys S2 := by
        unfold M.nx
        rw [e]
      rw [z]
      rfl
    rcases w.run with ⟨d, S', e', w'⟩ | ⟨_, _, _, e', _⟩
    · rw [en] at e'
      cases e'
      exact w' _ _ t4 k4 (t1.trans t4) _ r4
    · rw [en] at e'
      cases e'⟩
end
end DD

/-! DD11: what is walked (range, enumerate, zip), while, defs, classes -/
namespace DD
open PySem PySem.Spec PyProof.Rows L2

/-! ### walks -/
def intsD (lo : Int) (n : Nat) : List D := (List.range n).map fun i : Nat => .int (lo + i)
def enumD : Nat → List D → List D
  | _, [] => []
  | n, x :: xs => .tup [.int n, x] :: enumD (n + 1) xs
def zipD : List D → List D → List D
  | x :: xs, y :: ys => .tup [x, y] :: zipD xs ys
  | _, _ => []
theorem intsD_len (lo : Int) (n : Nat) : (intsD lo n).length = n := by simp [intsD]
theorem intsD_get {lo : Int} {n i : Nat} {x : D} (h : (intsD lo n)[i]? = some x) : i < n ∧ x = .int (lo + i) := by
  unfold intsD at h
  rw [List.getElem?_map] at h
  cases e : (List.range n)[i]? with
  | none => rw [e] at h; cases h
  | some j =>
    rw [e] at h
    obtain ⟨h1, h2⟩ := List.getElem?_eq_some_iff.mp e
    simp at h1 h2
    subst h2
    exact ⟨h1, (Option.some.inj h).symm⟩
theorem enumD_len : ∀ (n : Nat) (xs : List D), (enumD n xs).length = xs.length
  | _, [] => rfl
  | n, x :: xs => congrArg Nat.succ (enumD_len (n + 1) xs)
theorem enumD_get : ∀ {n i : Nat} {xs : List D} {z : D}, (enumD n xs)[i]? = some z → ∃ x, xs[i]? = some x ∧ z = .tup [.int ((n + i : Nat) : Int), x]
  | _, _, [], _, h => by simp [enumD] at h
  | n, 0, x :: xs, z, h => by
    simp [enumD] at h
    exact ⟨x, rfl, h.symm⟩
  | n, i + 1, x :: xs, z, h => by
    obtain ⟨y, h1, h2⟩ := enumD_get (n := n + 1) (i := i) (xs := xs) (by simpa [enumD] using h)
    exact ⟨y, by simpa using h1, by rw [h2, show n + 1 + i = n + (i + 1) by omega]⟩
theorem zipD_len : ∀ (xs ys : List D), (zipD xs ys).length = min xs.length ys.length
  | [], ys => by simp [zipD]
  | x :: xs, [] => by simp [zipD]
  | x :: xs, y :: ys => by
    show (zipD xs ys).length + 1 = _
    rw [zipD_len xs ys, List.length_cons, List.length_cons]
    omega
theorem zipD_get : ∀ {i : Nat} {xs ys : List D} {z : D}, (zipD xs ys)[i]? = some z → ∃ x y, xs[i]? = some x ∧ ys[i]? = some y ∧ z = .tup [x, y]
  | _, [], _, _, h => by simp [zipD] at h
  | _, _ :: _, [], _, h => by simp [zipD] at h
  | 0, x :: xs, y :: ys, z, h => by
    simp [zipD] at h
    exact ⟨x, y, rfl, rfl, h.symm⟩
  | i + 1, x :: xs, y :: ys, z, h => by
    obtain ⟨u, v, h1, h2, h3⟩ := zipD_get (i := i) (xs := xs) (ys := ys) (by simpa [zipD] using h)
    exact ⟨u, v, by simpa using h1, by simpa using h2, h3⟩
section
variable {g : Gx} {μ : Gh} {S : Sto} {H : Hp}
theorem itd_range (lo : Int) (n : Nat) : ItD g (Itr lo n) (intsD lo n) none μ S H where
  go := fun i x _ _ _ e _ _ _ => (intsD_get e).1
  stop := fun _ _ _ _ _ _ => by rw [intsD_len]; exact Nat.le_refl _
  yld := fun i x μ' S' H' v H2 e t k _ y => by
    obtain ⟨rfl, rfl⟩ := y
    rw [(intsD_get e).2]
    exact ⟨Step.refl _ _ _, k, .int _⟩
/-- the data xs stand there as long as the cell does -/
def Pers (g : Gx) (xs : List D) (o : Option (Nat × List D)) (μ0 : Gh) (S0 : Sto) (H0 : Hp) (R : Hp → List V → Prop) : Prop :=
  ∀ μ S H, Step μ0 S0 H0 μ S H → StoOk g μ S H → Grd o S → ∃ ws, R H ws ∧ RepAll g μ S H ws xs
theorem pers_list {a : Addr} {vs : List V} {xs : List D} (f : FzL μ S H a vs) (q : RepAll g μ S H vs xs) : Pers g xs none μ S H fun H ws => SqL g.K H a ws :=
  fun _ _ _ t _ _ => ⟨vs, .inl (t.rd (.inl f.1) f.2).1, q.step t⟩
theorem pers_rol {a : Addr} {vs : List V} {xs : List D} (f : RoL g H a vs) (q : RepAll g μ S H vs xs) : Pers g xs none μ S H fun H ws => SqL g.K H a ws :=
  fun _ _ _ t _ _ => ⟨vs, by
    rcases f with ⟨o, f⟩ | f
    · exact .inl (.inr ⟨o, t.frz f⟩)
    · exact .inr f, q.step t⟩
theorem pers_tup {a : Addr} {vs : List V} {xs : List D} (f : FzT g μ S H a vs) (q : RepAll g μ S H vs xs) : Pers g xs none μ S H fun H ws => SqT g.K H a ws :=
  fun _ _ _ t _ _ => ⟨vs, by
    rcases f with ⟨f, n⟩ | f
    · exact .inl (t.rd f n).1
    · exact .inr f, q.step t⟩
theorem pers_cell {a : Addr} {n : Nat} {xs : List D} (e0 : μ.m[n]? = some a) : Pers g xs (some (n, xs)) μ S H fun H ws => SqL g.K H a ws := fun _ _ _ t k gr => by
  obtain ⟨ws, h1, h2⟩ := cell_rep k gr (prefix_get t.pre e0)
  exact ⟨ws, .of h1, h2⟩
theorem enum_yld {μ' : Gh} {S' : Sto} {H' : Hp} {ws : List V} {xs : List D} {i : Nat} {z : D} {T : Addr} {x : V} (k : StoOk g μ' S' H') (r : RepAll g μ' S' H' ws xs) (e : (enumD 0 xs)[i]? = some z) (hx : ws[i]? = some x) (hT : H' T = none) :
    Step μ' S' H' μ' S' (upd H' T (.tup [.int (i : Nat), x])) ∧ StoOk g μ' S' (upd H' T (.tup [.int (i : Nat), x])) ∧ Rep g μ' S' (upd H' T (.tup [.int (i : Nat), x])) (.ref T) z := by
  obtain ⟨d, e1, rfl⟩ := enumD_get e
  obtain ⟨v, e2, rv⟩ := r.get e1
  rw [hx] at e2
  cases e2
  rw [Nat.zero_add]
  exact new_tup k hT (.cons (.int _) (.cons rv .nil))
theorem itd_enumL {a : Addr} {xs : List D} {o : Option (Nat × List D)} (p : Pers g xs o μ S H fun H ws => SqL g.K H a ws) : ItD g (Ite g.K a) (enumD 0 xs) o μ S H where
  go := fun i x μ' S' H' e t k gr => by
    obtain ⟨ws, h1, h2⟩ := p μ' S' H' t k gr
    obtain ⟨d, e1, _⟩ := enumD_get e
    obtain ⟨v, e2, _⟩ := h2.get e1
    exact ⟨ws, v, h1, e2⟩
  stop := fun μ' S' H' t k gr => by
    obtain ⟨ws, h1, h2⟩ := p μ' S' H' t k gr
    exact ⟨ws, h1, by rw [h2.length, enumD_len]; exact Nat.le_refl _⟩
  yld := fun i x μ' S' H' v H2 e t k gr y => by
    obtain ⟨T, u, rfl, hT, rfl, hu⟩ := y
    obtain ⟨ws, h1, h2⟩ := p μ' S' H' t k gr
    exact enum_yld k h2 e (hu ws h1) hT
theorem itd_enumT {a : Addr} {xs : List D} {o : Option (Nat × List D)} (p : Pers g xs o μ S H fun H ws => SqT g.K H a ws) : ItD g (IteT g.K a) (enumD 0 xs) o μ S H where
  go := fun i x μ' S' H' e t k gr => by
    obtain ⟨ws, h1, h2⟩ := p μ' S' H' t k gr
    obtain ⟨d, e1, _⟩ := enumD_get e
    obtain ⟨v, e2, _⟩ := h2.get e1
    exact ⟨ws, v, h1, e2⟩
  stop := fun μ' S' H' t k gr => by
    obtain ⟨ws, h1, h2⟩ := p μ' S' H' t k gr
    exact ⟨ws, h1, by rw [h2.length, enumD_len]⟩
  yld := fun i x μ' S' H' v H2 e t k gr y => by
    obtain ⟨T, u, rfl, hT, rfl, hu⟩ := y
    obtain ⟨ws, h1, h2⟩ := p μ' S' H' t k gr
    exact enum_yld k h2 e (hu ws h1) hT
theorem zip_yld {μ' : Gh} {S' : Sto} {H' : Hp} {ws us : List V} {xs ys : List D} {i : Nat} {z : D} {T : Addr} {x y : V} (k : StoOk g μ' S' H') (r : RepAll g μ' S' H' ws xs) (r' : RepAll g μ' S' H' us ys) (e : (zipD xs ys)[i]? = some z) (hx : ws[i]? = some x) (hy : us[i]? = some y) (hT : H' T = none) :
    Step μ' S' H' μ' S' (upd H' T (.tup [x, y])) ∧ StoOk g μ' S' (upd H' T (.tup [x, y])) ∧ Rep g μ' S' (upd H' T (.tup [x, y])) (.ref T) z := by
  obtain ⟨d, d', e1, e1', rfl⟩ := zipD_get e
  obtain ⟨v, e2, rv⟩ := r.get e1
  obtain ⟨v', e2', rv'⟩ := r'.get e1'
  rw [hx] at e2
  rw [hy] at e2'
  cases e2
  cases e2'
  exact new_tup k hT (.cons rv (.cons rv' .nil))
theorem itd_zipL {a b : Addr} {xs ys : List D} (p : Pers g xs none μ S H fun H ws => SqL g.K H a ws) (q : Pers g ys none μ S H fun H ws => SqL g.K H b ws) : ItD g (Itz g.K a b) (zipD xs ys) none μ S H where
  go := fun i x μ' S' H' e t k gr => by
    obtain ⟨ws, h1, h2⟩ := p μ' S' H' t k gr
    obtain ⟨us, h3, h4⟩ := q μ' S' H' t k gr
    obtain ⟨d, d', e1, e1', _⟩ := zipD_get e
    obtain ⟨v, e2, _⟩ := h2.get e1
    obtain ⟨v', e2', _⟩ := h4.get e1'
    exact ⟨ws, us, v, v', h1, h3, e2, e2'⟩
  stop := fun μ' S' H' t k gr => by
    obtain ⟨ws, h1, h2⟩ := p μ' S' H' t k gr
    obtain ⟨us, h3, h4⟩ := q μ' S' H' t k gr
    refine ⟨ws, us, h1, h3, ?_⟩
    rw [h2.length, h4.length, zipD_len]
    omega
  yld := fun i x μ' S' H' v H2 e t k gr y => by
    obtain ⟨T, u, u', rfl, hT, rfl, hu, hu'⟩ := y
    obtain ⟨ws, h1, h2⟩ := p μ' S' H' t k gr
    obtain ⟨us, h3, h4⟩ := q μ' S' H' t k gr
    exact zip_yld k h2 h4 e (hu ws h1) (hu' us h3) hT
theorem itd_zipT {a b : Addr} {xs ys : List D} (p : Pers g xs none μ S H fun H ws => SqT g.K H a ws) (q : Pers g ys none μ S H fun H ws => SqT g.K H b ws) : ItD g (RZ.ItzT g.K a b) (zipD xs ys) none μ S H where
  go := fun i x μ' S' H' e t k gr => by
    obtain ⟨ws, h1, h2⟩ := p μ' S' H' t k gr
    obtain ⟨us, h3, h4⟩ := q μ' S' H' t k gr
    obtain ⟨d, d', e1, e1', _⟩ := zipD_get e
    obtain ⟨v, e2, _⟩ := h2.get e1
    obtain ⟨v', e2', _⟩ := h4.get e1'
    exact ⟨ws, us, v, v', h1, h3, e2, e2'⟩
  stop := fun μ' S' H' t k gr => by
    obtain ⟨ws, h1, h2⟩ := p μ' S' H' t k gr
    obtain ⟨us, h3, h4⟩ := q μ' S' H' t k gr
    refine ⟨ws, us, h1, h3, ?_⟩
    rw [h2.length, h4.length, zipD_len]
    omega
  yld := fun i x μ' S' H' v H2 e t k gr y => by
    obtain ⟨T, u, u', rfl, hT, rfl, hu, hu'⟩ := y
    obtain ⟨ws, h1, h2⟩ := p μ' S' H' t k gr
    obtain ⟨us, h3, h4⟩ := q μ' S' H' t k gr
    exact zip_yld k h2 h4 e (hu ws h1) (hu' us h3) hT
end
noncomputable def rng1 : List D → M Src
  | [.int j] => do M.want (-4611686018427387904 ≤ j ∧ j < 4611686018427387904); pure (intsD 0 j.toNat, none)
  | _ => M.bad
noncomputable def rng2 : List D → M Src
  | [.int i, .int j] => do M.want (-4611686018427387904 ≤ i ∧ i < 4611686018427387904 ∧ -4611686018427387904 ≤ j ∧ j < 4611686018427387904); pure (intsD i (j - i).toNat, none)
  | _ => M.bad
def enm1 : List D → M Src
  | [x] => do let s ← srcOf x; pure (enumD 0 s.1, s.2)
  | _ => M.bad
def zip2 : List D → M Src
  | [.lst xs, .lst ys] => pure (zipD xs ys, none)
  | [.tup xs, .tup ys] => pure (zipD xs ys, none)
  | _ => M.bad
def srcA (F : List D → M Src) (fs : DEnv → M (List D)) : DEnv → M Src := fun ρ => do let ds ← fs ρ; F ds
section
variable {X : Cx} {ca : Nat → Addr} {W : WX} {e e2 tg : Expr} {fs : DEnv → M (List D)} {pos p tpos : Pos} {elts : List Expr} {kk : Nat}
theorem id_range1 (hm : X.mg "range" = none) (ha : PA X [e] (tDA (gx X ca) W fs)) (hg : Gl X "range" := by rfl) (hs : starEach [e] X.env = [(false, eval e X.env)] := by rfl) : PI X tg (.Call (.Name "range" p) [e] [] pos) (tI (gx X ca) W (srcA rng1 fs)) :=
  piOf (pi_range1 hg hm ha hs) fun σ H R ⟨ρ, μ, S, env, sto, h⟩ => tDA_then env sto h fun ds μ1 S1 H1 vs t1 k1 env1 r1 h1 => by
    unfold rng1 at h1
    split at h1
    · obtain ⟨v, rfl, r⟩ := rep1 r1
      cases r
      obtain ⟨h2, h3⟩ := Wp.want (Wp.bind h1) k1
      exact ⟨_, rfl, h2.1, h2.2, Wp.pure h3 k1 (Step.refl _ _ _) _ (itd_range 0 _)⟩
    · exact (show False from h1).elim
theorem id_range2 (hm : X.mg "range" = none) (ha : PA X [e, e2] (tDA (gx X ca) W fs)) (hg : Gl X "range" := by rfl) (hs : starEach [e, e2] X.env = [(false, eval e X.env), (false, eval e2 X.env)] := by rfl) (hs2 : starEach [e2] X.env = [(false, eval e2 X.env)] := by rfl) :
    PI X tg (.Call (.Name "range" p) [e, e2] [] pos) (tI (gx X ca) W (srcA rng2 fs)) :=
  piOf (pi_range2 hg hm ha hs hs2) fun σ H R ⟨ρ, μ, S, env, sto, h⟩ => tDA_then env sto h fun ds μ1 S1 H1 vs t1 k1 env1 r1 h1 => by
    unfold rng2 at h1
    split at h1
    · obtain ⟨v, u, rfl, r, r'⟩ := rep2 r1
      cases r
      cases r'
      obtain ⟨h2, h3⟩ := Wp.want (Wp.bind h1) k1
      exact ⟨_, _, rfl, h2, Wp.pure h3 k1 (Step.refl _ _ _) _ (itd_range _ _)⟩
    · exact (show False from h1).elim
theorem id_enum (hm : X.mg "enumerate" = none) (ha : PA X [e] (tDA (gx X ca) W fs)) (hg : Gl X "enumerate" := by rfl) (hs : starEach [e] X.env = [(false, eval e X.env)] := by rfl) : PI X (.Tuple elts kk tpos) (.Call (.Name "enumerate" p) [e] [] pos) (tI (gx X ca) W (srcA enm1 fs)) :=
  piOf (pi_enumA hg hm ha hs) fun σ H R ⟨ρ, μ, S, env, sto, h⟩ => tDA_then env sto h fun ds μ1 S1 H1 vs t1 k1 env1 r1 h1 => by
    unfold enm1 at h1
    split at h1
    · obtain ⟨v, rfl, r⟩ := rep1 r1
      have h2 := Wp.bind h1
      cases r with
      | tup fz q => exact ⟨_, _, rfl, .inr ⟨fz.sq, Wp.pure (Wp.pure h2 k1) k1 (Step.refl _ _ _) _ (itd_enumT (pers_tup fz q))⟩⟩
      | lst fz q => exact ⟨_, _, rfl, .inl ⟨fz.sq, Wp.pure (Wp.pure h2 k1) k1 (Step.refl _ _ _) _ (itd_enumL (pers_list fz q))⟩⟩
      | rol fz q => exact ⟨_, _, rfl, .inl ⟨fz.sq, Wp.pure (Wp.pure h2 k1) k1 (Step.refl _ _ _) _ (itd_enumL (pers_rol fz q))⟩⟩
      | cell em =>
        obtain ⟨xs, e1, h3⟩ := Wp.get (Wp.bind h2) k1
        obtain ⟨ws, h4, h5⟩ := cell_rep k1 e1 em
        exact ⟨_, _, rfl, .inl ⟨.of h4, Wp.pure (Wp.pure h3 k1 (Step.refl _ _ _)) k1 (Step.refl _ _ _) _ (itd_enumL (pers_cell em))⟩⟩
      | _ => exact (show False from h2).elim
    · exact (show False from h1).elim
theorem id_zip (hm : X.mg "zip" = none) (ha : PA X [e, e2] (tDA (gx X ca) W fs)) (hg : Gl X "zip" := by rfl) (hs : starEach [e, e2] X.env = (false, eval e X.env) :: starEach [e2] X.env := by rfl) (hpl : (backTo pos (starEach [e2] X.env)).any (·.1) = false := by rfl) :
    PI X (.Tuple elts kk tpos) (.Call (.Name "zip" p) [e, e2] [] pos) (tI (gx X ca) W (srcA zip2 fs)) :=
  piOf (RZ.pi_zipA hg hm ha hs hpl) fun σ H R ⟨ρ, μ, S, env, sto, h⟩ => tDA_then env sto h fun ds μ1 S1 H1 vs t1 k1 env1 r1 h1 => by
    unfold zip2 at h1
    split at h1
    · obtain ⟨v, u, rfl, r, r'⟩ := rep2 r1
      cases r with
      | lst f q =>
        cases r' with
        | lst f' q' => exact ⟨_, _, _, _, rfl, .inl ⟨f.sq, f'.sq, Wp.pure h1 k1 _ (itd_zipL (pers_list f q) (pers_list f' q'))⟩⟩
    · obtain ⟨v, u, rfl, r, r'⟩ := rep2 r1
      cases r with
      | tup f q =>
        cases r' with
        | tup f' q' => exact ⟨_, _, _, _, rfl, .inr ⟨f.sq, f'.sq, Wp.pure h1 k1 _ (itd_zipT (pers_tup f q) (pers_tup f' q'))⟩⟩
    · exact (show False from h1).elim
theorem ptsOf {ifs : List Expr} {t t' : TT} (h : PTs X ifs t) (k : ∀ σ H Q, t' σ H Q → t σ H Q) : PTs X ifs t' := ⟨fun pins s σ H Q I hq => h.run pins s σ H Q I (k σ H Q hq)⟩
theorem tsd_nil : PTs X [] (tDT (gx X ca) W tYesD) := ptsOf pts_nil fun σ H Q ⟨ρ, μ, S, env, sto, h⟩ => Wp.pure h sto
theorem tsd_one {c : Expr} {t : DEnv → M Bool} (h : PT X c (tDT (gx X ca) W t)) : PTs X [c] (tDT (gx X ca) W t) := pts_one h
end

/-! ### while -/
def dWhile (t : DEnv → M Bool) (body : DEnv → M Fl) : Nat → DEnv → M Fl
  | 0, _ => M.bad
  | n + 1, ρ => M.cat (t ρ) ρ fun b => if b then do let fl ← body ρ; loopS fl (dWhile t body n) else pure (.nx ρ)
def sWhile (fuel : DEnv → Nat) (t : DEnv → M Bool) (body : DEnv → M Fl) : DEnv → M Fl := fun ρ => dWhile t body (fuel ρ) ρ
section
variable {X : Cx} {ca : Nat → Addr} {W : WX} {c : Expr} {bd : List Stmt} {t : DEnv → M Bool} {fb : DEnv → M Fl} {pos : Pos}
theorem sd_while (fuel : DEnv → Nat) (hp : PassesOwn (model X.prog X.w) X.A X.env X.xe) (hc : PT X c (tDT (gx X ca) W t)) (hb : PSs X bd (tS (gx X ca) W fb)) : PS X (.While c bd [] pos) (tS (gx X ca) W (sWhile fuel t fb)) :=
  psOf (ps_while hp hc hb) fun E σ H ⟨ρ, μ, S, env, sto, h⟩ => by
    refine ⟨fun m σ' H' => ∃ ρ' μ' S', EnvOk (gx X ca) μ' S' H' σ' ρ' ∧ StoOk (gx X ca) μ' S' H' ∧ Wp (gx X ca) EF (dWhile t fb m ρ') μ' S' H' (FlP (gx X ca) W E), ⟨fuel ρ, ρ, μ, S, env, sto, h⟩, ?_⟩
    rintro m σ' H' ⟨ρ', μ', S', env', k', w⟩
    cases m with
    | zero => exact (show False from w).elim
    | succ m =>
      refine sDT_then env' k' (show Wp (gx X ca) EF (M.cat (t ρ') ρ' fun b => if b then do let fl ← fb ρ'; loopS fl (dWhile t fb m) else pure (.nx ρ')) μ' S' H' (FlP (gx X ca) W E) from w) fun q μ1 S1 H1 t1 k1 env1 h1 => ?_
      cases q with
      | false =>
        simp only [Bool.false_eq_true, if_false] at h1 ⊢
        exact Wp.pure h1 k1 σ' env1
      | true =>
        simp only [if_true] at h1 ⊢
        refine ⟨fun σ2 H2 => ∃ ρ2 μ2 S2, EnvOk (gx X ca) μ2 S2 H2 σ2 ρ2 ∧ StoOk (gx X ca) μ2 S2 H2 ∧ Wp (gx X ca) EF (dWhile t fb m ρ2) μ2 S2 H2 (FlP (gx X ca) W E), fun σ2 H2 q => ⟨m, Nat.lt_succ_self _, q⟩,
          ρ', μ1, S1, env1, k1, (Wp.bind h1).mono fun fl μ4 S4 H4 t4 k4 w5 => ?_⟩
        have w6 := w5.mono fun _ _ _ _ t5 _ z => z (t4.trans t5)
        cases fl with
        | nx ρ4 => exact fun σ4 env4 => ⟨ρ4, μ4, S4, env4, k4, w6⟩
        | ct ρ4 => exact fun σ4 env4 => ⟨ρ4, μ4, S4, env4, k4, w6⟩
        | bk ρ4 => exact fun σ4 env4 => Wp.pure w6 k4 σ4 env4
        | rt d => exact (show FlP (gx X ca) W E (.rt d) μ4 S4 H4 from Wp.pure (E := EF) w6 k4)
        | xc c fs ρ4 => exact (show FlP (gx X ca) W E (.xc c fs ρ4) μ4 S4 H4 from Wp.pure (E := EF) w6 k4)
end

/-! ### defs -/
@[simp] def startD (n : Nat) (ds : List D) : DEnv := ds.map some ++ List.replicate (n - ds.length) none
def finD : Fl → M D
  | .nx _ => pure .non
  | .rt d => pure d
  | .xc c fs _ => M.exc c fs
  | _ => M.bad
/-- a def's function: its body from the parameters' values, n names in all -/
def runF (n : Nat) (fb : DEnv → M Fl) : List D → M D := fun ds => do let fl ← M.nx (fb (startD n ds)); finD fl
theorem startD_ok {g : Gx} {μ : Gh} {S : Sto} {H : Hp} {N : List Str} {vs : List V} {ds : List D} (r : RepAll g μ S H vs ds) : EnvOk g μ S H (L2.start N vs) (startD N.length ds) := by
  have hl := r.length
  refine ⟨by simp [L2.start, startD, hl], fun i d e => ?_⟩
  unfold startD at e
  by_cases hi : i < ds.length
  · rw [List.getElem?_append_left (by simpa using hi), List.getElem?_map] at e
    cases e1 : ds[i]? with
    | none => rw [e1] at e; cases e
    | some x =>
      rw [e1] at e
      cases e
      obtain ⟨v, e2, rv⟩ := r.get e1
      refine ⟨v, ?_, rv⟩
      unfold L2.start
      rw [List.getElem?_append_left (by rw [List.length_map, hl]; exact hi), List.getElem?_map, e2]
      rfl
  · rw [List.getElem?_append_right (by simpa using hi), List.getElem?_replicate] at e
    split at e <;> cases e
section
variable {P : Program} {w : World} {K : PySem.W.Frag} {mg : Str → Option Value} {base : Heap} {ca : Nat → Addr}
abbrev cxD (P : Program) (w : World) (K : PySem.W.Frag) (mg : Str → Option Value) (base : Heap) (N : List Str) (qual : Str) (sc : Scope) (f : Addr) (cdv : Value) (A : Around) (outer : List Env) (s : Shared) (H : Hp) (E : XK) : Cx :=
  cxOf (L2.CX P w) P w K mg base N qual sc f cdv A outer s H E
abbrev wD (E : XK) : WX := fun c d _ H => E c d H
theorem sp_body {g : Gx} {n : Nat} {N : List Str} {fb : DEnv → M Fl} {vs : List V} {H : Hp} {Q : VK} {E : XK} (h : spD g n (runF N.length fb) vs H Q E) : tS g (wD E) fb { nx := fun _ H' => Q .non H', rt := Q } (L2.start N vs) H := by
  obtain ⟨ds, μ, S, hl, ra, sto, w⟩ := h
  refine ⟨startD N.length ds, μ, S, startD_ok ra, sto, ?_⟩
  obtain ⟨fl, S', e, w'⟩ := Wp.nx (Wp.bind w)
  refine Wp.of_ok e fun μ' H' t k => ?_
  have w2 := w' μ' H' t k
  cases fl with
  | nx ρ => exact fun σ _ => Wp.pure w2 k t _ .non
  | rt d => exact fun v r => Wp.pure w2 k t v r
  | bk ρ => exact (show False from w2).elim
  | ct ρ => exact (show False from w2).elim
  | xc c fs ρ => exact fun σ d _ q => w2 μ' H' d (Step.refl _ _ _) k q
theorem fn_D {x qual : Str} {st : Stmt} {f : Addr} {fd : FuncData} {N ps : List Str} {k n : Nat} {fb : DEnv → M Fl} (Fn : Fun K x qual st f fd) (sc : FnScope N ps (defScope st)) (hn : ps.length = n)
    (body : ∀ (cdv : Value) (A : Around) (outer : List Env) (s : Shared) (H : Hp) (E : XK), Room k (cxD P w K mg base N qual (defScope st) f cdv A outer s H E).A → Takes (cxD P w K mg base N qual (defScope st) f cdv A outer s H E) (wD E) →
      PassesOwn (model P w) (cxD P w K mg base N qual (defScope st) f cdv A outer s H E).A (cxD P w K mg base N qual (defScope st) f cdv A outer s H E).env (cxD P w K mg base N qual (defScope st) f cdv A outer s H E).xe →
      PSs (cxD P w K mg base N qual (defScope st) f cdv A outer s H E) (defBody st) (tS ⟨K, ca⟩ (wD E) fb)) : FnOk P w K mg base (L2.CX P w) (k + 1) f fd ps (spD ⟨K, ca⟩ n (runF N.length fb)) := by
  refine Fn.okX sc (fun vs H Q E h => ?_) (fun cdv A outer s H vs Q E hr h => ⟨_, body cdv A outer s H E hr (takes_of rfl rfl rfl rfl) (passes_of rfl), sp_body h⟩)
  obtain ⟨_, _, _, hl, _⟩ := h
  rw [hl, hn]
/-- a def that can be called by its name -/
structure Has (P : Program) (w : World) (K : PySem.W.Frag) (mg : Str → Option Value) (base : Heap) (ca : Nat → Addr) (k : Nat) (x : Str) (n : Nat) (F : List D → M D) : Prop where
  ex : ∃ (f : Addr) (fd : FuncData) (ps : List Str), FnOk P w K mg base (L2.CX P w) k f fd ps (spD ⟨K, ca⟩ n F) ∧ mg x = some (.ref f) ∧ PySem.W.keepIn K (.ref f) = true ∧ Binds K fd ps []
theorem Has.mono {j k n : Nat} {x : Str} {F : List D → M D} (h : Has P w K mg base ca j x n F) (l : j ≤ k) : Has P w K mg base ca k x n F := by
  obtain ⟨f, fd, ps, h1, h2⟩ := h.ex
  exact ⟨f, fd, ps, h1.mono l, h2⟩
end
section
variable {X : Cx} {ca : Nat → Addr} {W : WX} {e : Expr} {pos p : Pos} {es : List Expr} {fs : DEnv → M (List D)} {x : Str}
theorem pd_fn {k n : Nat} {F : List D → M D} (h : Has X.prog X.w X.K X.mg X.base ca k x n F) (hr : Room k X.A) (tk : Takes X W) (ha : PA X (e :: es) (tDA (gx X ca) W fs)) (hg : Gl X x := by rfl) (hdb : (x == ("__debug__" : Str)) = false := by decide)
    (he : starEach (e :: es) X.env = (false, eval e X.env) :: starEach es X.env := by rfl) (hpl : (backTo pos (starEach es X.env)).any (·.1) = false := by rfl) : PE X (.Call (.Name x p) (e :: es) [] pos) (tD (gx X ca) W (dCall n F fs)) := by
  obtain ⟨f, fd, ps, h1, h2, h3, h4⟩ := h.ex
  exact pd_call h1 hr tk h2 h3 h4 ha hg hdb he hpl
/-- a constant of the module -/
def Cst (mg : Str → Option Value) (x : Str) (v : V) : Prop := ∃ u, mg x = some u ∧ RelV v u
theorem pd_cst {v : V} {d : D} (h : Cst X.mg x v) (r : ∀ μ S H, Rep (gx X ca) μ S H v d) (hg : Gl X x := by rfl) (hdb : (x == ("__debug__" : Str)) = false := by decide) : PE X (.Name x p) (tD (gx X ca) W (dC d)) := by
  obtain ⟨u, h1, h2⟩ := h
  exact pd_c (pe_glob hg h1 h2 hdb) r
end
end DD

/-! DD12: own classes: attributes, methods, instances made -/
namespace DD
open PySem PySem.Spec PyProof.Rows L2

/-! ### a def that is called by its address -/
structure Cal (P : Program) (w : World) (K : PySem.W.Frag) (mg : Str → Option Value) (base : Heap) (ca : Nat → Addr) (k : Nat) (f : Addr) (n : Nat) (F : List D → M D) : Prop where
  ex : ∃ (fd : FuncData) (ps : List Str) (us : List Value) (ws : List V) (dd : List D) (m : Nat) (F0 : List D → M D),
    FnOk P w K mg base (L2.CX P w) k f fd ps (spD ⟨K, ca⟩ m F0) ∧ Binds K fd ps us ∧ Vals ws us ∧ (∀ μ S H, RepAll ⟨K, ca⟩ μ S H ws dd) ∧ n + dd.length = m ∧ F = fun as => F0 (as ++ dd)
section
variable {P : Program} {w : World} {K : PySem.W.Frag} {mg : Str → Option Value} {base : Heap} {ca : Nat → Addr} {k n : Nat} {f : Addr} {F : List D → M D}
theorem Cal.mono {j : Nat} (h : Cal P w K mg base ca j f n F) (l : j ≤ k) : Cal P w K mg base ca k f n F := by
  obtain ⟨fd, ps, us, ws, dd, m, F0, h1, h2⟩ := h.ex
  exact ⟨fd, ps, us, ws, dd, m, F0, h1.mono l, h2⟩
theorem Cal.of {fd : FuncData} {ps : List Str} (h : FnOk P w K mg base (L2.CX P w) k f fd ps (spD ⟨K, ca⟩ n F)) (b : Binds K fd ps []) : Cal P w K mg base ca k f n F :=
  ⟨fd, ps, [], [], [], n, F, h, b, .nil, fun _ _ _ => .nil, rfl, by funext as; rw [List.append_nil]⟩
end
section
variable {X : Cx} {ca : Nat → Addr} {W : WX} {k n : Nat} {f : Addr} {F : List D → M D}
abbrev CalX (X : Cx) (ca : Nat → Addr) (k : Nat) (f : Addr) (n : Nat) (F : List D → M D) : Prop := Cal X.prog X.w X.K X.mg X.base ca k f n F
/-- the same exceptions are let out -/
theorem takes_at (tk : Takes X W) (σ : L2.St) {pins : List (Addr × Obj)} {H : Hp} {s s' : Shared} {e : Value} (I : Inv X pins σ H s) (c : L2.CX X.prog X.w X.stack H s (fun cls d H' => W cls d σ H') e s') : X.xe e s' := passAt tk σ pins H s e s' I c
theorem run_cal {B : Around} (G : CalX X ca k f n F) (hr : Room k B) {pins : List (Addr × Obj)} {σ : L2.St} {H : Hp} {s : Shared} {us : List Value} {vs : List V} {ds : List D} {μ : Gh} {S : Sto} {Q : VK} {EE : Value → Shared → Prop} {E0 : XK}
    (e0 : Env0 X.prog X.w X.K X.mg X.base B X.stack s H) (tk : ∀ e s', L2.CX X.prog X.w X.stack H s E0 e s' → EE e s')
    (I : Inv X pins σ H s) (r : Vals vs us) (rd : RepAll (gx X ca) μ S H vs ds) (hl : ds.length = n) (sto : StoOk (gx X ca) μ S H)
    (h : Wp (gx X ca) E0 (F ds) μ S H fun d μ' S' H' => ∀ v, Rep (gx X ca) μ' S' H' v d → Q v H') : wpAny (model X.prog X.w) B (call (.ref f) us) (EP X pins σ Q) EE s := by
  obtain ⟨fd, ps, us', ws, dd, m, F0, G1, hb, hv, hdd, hm, rfl⟩ := G.ex
  have hsp : spD ⟨X.K, ca⟩ m F0 (vs ++ ws) H Q E0 := by
    have ra := rd.append (hdd μ S H)
    exact ⟨ds ++ dd, μ, S, by rw [ra.length, List.length_append, hl, hm], ra, sto, h⟩
  have hn : (us ++ us').length = ps.length := (r.append hv).length.symm.trans (G1.len _ _ _ _ hsp)
  have go := G1.run B X.stack s H ⟨us, []⟩ (us ++ us') (vs ++ ws) Q E0 hr e0 (hb s us I.kIn hn) (r.append hv) hsp
  refine wpAny_call (codeAny_mono go fun res s' hq => ?_)
  match res, hq with
  | .error e, hq => exact tk e s' hq
  | .ok (.ret u), hq => exact I.after hq
  | .ok .next, hq => exact hq.elim
  | .ok .brk, hq => exact hq.elim
  | .ok .cont, hq => exact hq.elim
end

/-! ### an instance's class and attributes -/
def insS (n : Nat) (S : Sto) : Option (Nat × List (Str × D)) := match S[n]? with
  | some (some (.obj c fs)) => some (c, fs)
  | _ => none
def insD : D → M (Nat × List (Str × D))
  | .obj c fs => pure (c, fs)
  | .cell n => M.get (insS n)
  | _ => M.bad
theorem insS_some {n : Nat} {S : Sto} {p : Nat × List (Str × D)} (h : insS n S = some p) : S[n]? = some (some (.obj p.1 p.2)) := by
  unfold insS at h
  split at h
  · cases h; assumption
  · cases h
theorem Wp.insD {g : Gx} {E : XK} {μ : Gh} {S : Sto} {H : Hp} {x : D} {v : V} {Q : Nat × List (Str × D) → Gh → Sto → Hp → Prop} (h : Wp g E (insD x) μ S H Q) (k : StoOk g μ S H) (r : Rep g μ S H v x) :
    ∃ c fs a dx vs, v = .ref a ∧ H a = some (.ins (g.ca c) dx vs) ∧ RepF g μ S H vs fs ∧ Q (c, fs) μ S H := by
  cases r with
  | obj e n rf => exact ⟨_, _, _, _, _, rfl, e, rf, Wp.pure h k⟩
  | cell e =>
    obtain ⟨p, h1, h2⟩ := Wp.get h k
    obtain ⟨a, e1, dx, vs, h3, h4⟩ := k.at_ _ _ (insS_some h1)
    rw [e] at e1
    cases e1
    exact ⟨p.1, p.2, _, dx, vs, rfl, h3, h4, h2⟩
  | _ => exact (show False from h).elim
structure FldOf (K : PySem.W.Frag) (ca : Nat → Addr) (cs : List Nat) (f : Str) : Prop where
  at_ : ∀ c ∈ cs, Cls K (ca c) ∧ NoAttr K (ca c) f
def dFld (cs : List Nat) (f : Str) (x : D) : M D := do
  let p ← insD x
  M.need (p.1 ∈ cs)
  M.get fun _ => p.2.lookup f
theorem RepF.none {g : Gx} {μ : Gh} {S : Sto} {H : Hp} {f : Str} : ∀ {vs : List (Str × V)} {fs : List (Str × D)}, RepF g μ S H vs fs → fs.lookup f = none → vs.lookup f = none
  | _, _, .nil, _ => rfl
  | _, _, .cons (f := h) r q, e => by
    by_cases z : f = h
    · subst z
      rw [List.lookup_cons_self] at e
      cases e
    · have z' : (f == h) = false := beq_eq_false_iff_ne.mpr z
      rw [List.lookup_cons, z'] at e
      rw [List.lookup_cons, z']
      exact RepF.none q e
def setFld (cs : List Nat) (f : Str) (o v : D) : M Unit := match o with
  | .cell n => do
    let p ← M.get (insS n)
    M.need (p.1 ∈ cs ∧ p.2.length < 1000)
    M.put fun S => S.set n (some (.obj p.1 (putD f v p.2)))
  | _ => M.bad
def sFldS (cs : List Nat) (f : Str) (fo fv : DEnv → M D) : DEnv → M Fl := fun ρ => M.cat (do let v ← fv ρ; let o ← fo ρ; setFld cs f o v) ρ fun _ => pure (.nx ρ)
section
variable {X : Cx} {ca : Nat → Addr} {W : WX} {e o value : Expr} {fa fv fo : DEnv → M D} {f : Str} {pos pos' : Pos} {cs : List Nat}
theorem pd_fld (hf : FldOf X.K ca cs f) (ha : PE X e (tD (gx X ca) W fa)) (hb : attributeBase e f X.env (eval e X.env) = eval e X.env := by rfl) : PE X (.Attribute e f pos) (tD (gx X ca) W (dUn (dFld cs f) fa)) :=
  peOf (pe_fld ha hb) fun σ H Q ⟨ρ, μ, S, env, sto, h⟩ => tD_then env sto h fun d μ1 S1 H1 v t1 k1 env1 r1 h1 => by
    obtain ⟨c, fs, a, dx, vs, rfl, e1, rf, h2⟩ := Wp.insD (Wp.bind h1) k1 r1
    obtain ⟨hc, h3⟩ := Wp.need (Wp.bind h2) k1
    obtain ⟨y, e2, h4⟩ := Wp.get h3 k1
    obtain ⟨u, e3, ru⟩ := rf.lookup e2
    exact ⟨a, _, dx, vs, u, rfl, e1, (hf.at_ c hc).1, (hf.at_ c hc).2, e3, h4 (Step.refl _ _ _) (Step.refl _ _ _) _ ru⟩
theorem sd_fld (hf : FldOf X.K ca cs f) (ha : PE X o (tD (gx X ca) W fo)) (hv : PE X value (tD (gx X ca) W fv)) (hs : swapsWith value (some (.Attribute o f pos')) pos.line X.env = pure false := by rfl) : PS X (.Assign [.Attribute o f pos'] value pos) (tS (gx X ca) W (sFldS cs f fo fv)) :=
  psOf (ps_fld ha hv hs) fun E σ H ⟨ρ, μ, S, env, sto, h⟩ => by
    have h0 := Wp.cat env (show Wp (gx X ca) EF (M.cat (do let v ← fv ρ; let o ← fo ρ; setFld cs f o v) ρ fun _ => pure (.nx ρ)) μ S H (FlP (gx X ca) W E) from h)
    refine tD_then env sto h0 fun d μ1 S1 H1 v t1 k1 env1 r1 h1 => tD_then env1 k1 h1 fun d2 μ2 S2 H2 v2 t2 k2 env2 r2 h2 => ?_
    cases r2 with
    | @cell a n em =>
      obtain ⟨p, e1, h3⟩ := Wp.get (Wp.bind h2) k2
      obtain ⟨hc, h4⟩ := Wp.need (Wp.bind h3) k2
      have e2 := insS_some e1
      obtain ⟨b, e3, dx, vs, e4, rf⟩ := k2.at_ _ _ e2
      rw [em] at e3
      cases e3
      obtain ⟨t3, k3⟩ := sto_write (o' := .ins (ca p.1) dx (putF f v vs)) k2 e2 em (.obj (RepF.put (r1.step t2) rf))
      refine ⟨a, _, dx, vs, rfl, e4, (hf.at_ _ hc.1).1, (hf.at_ _ hc.1).2, by rw [rf.length]; exact hc.2, ?_⟩
      have h5 := h4 μ2 _ t3 k3 t3 t3
      exact Wp.pure h5 k3 (t1.trans (t2.trans t3)) σ (env2.step t3)
    | _ => exact (show False from h2).elim
end

/-! ### methods -/
/-- what is to be run of a method, by the class -/
structure MetAt (P : Program) (w : World) (K : PySem.W.Frag) (mg : Str → Option Value) (base : Heap) (ca : Nat → Addr) (k : Nat) (c : Nat) (m : Str) (n : Nat) (F : List D → M D) : Prop where
  ex : ∃ f, Cls K (ca c) ∧ Meth K (ca c) m f ∧ Cal P w K mg base ca k f (n + 1) F
theorem MetAt.mono {P : Program} {w : World} {K : PySem.W.Frag} {mg : Str → Option Value} {base : Heap} {ca : Nat → Addr} {j k c n : Nat} {m : Str} {F : List D → M D} (h : MetAt P w K mg base ca j c m n F) (l : j ≤ k) : MetAt P w K mg base ca k c m n F := by
  obtain ⟨f, h1, h2, h3⟩ := h.ex
  exact ⟨f, h1, h2, h3.mono l⟩
abbrev MTab := List (Nat × (List D → M D))
def mtGet (T : MTab) (c : Nat) : Option (List D → M D) := T.lookup c
theorem mtGet_mem {T : MTab} {c : Nat} {F : List D → M D} (h : mtGet T c = some F) : (c, F) ∈ T := by
  unfold mtGet at h
  induction T with
  | nil => cases h
  | cons p T ih =>
    obtain ⟨c', F'⟩ := p
    rw [List.lookup_cons] at h
    by_cases z : c = c'
    · subst z
      rw [beq_self_eq_true] at h
      cases h
      exact List.mem_cons_self
    · rw [beq_eq_false_iff_ne.mpr z] at h
      exact List.mem_cons_of_mem _ (ih h)
/-- the receiver's method -/
def pickM (T : MTab) (m : Str) (x : D) : M (List D → M D) := do
  let p ← insD x
  M.need (p.2.lookup m = none)
  M.get fun _ => mtGet T p.1
def dMeth (T : MTab) (m : Str) (n : Nat) (fo : DEnv → M D) (fs : DEnv → M (List D)) : DEnv → M D := fun ρ => do
  let x ← fo ρ
  let F ← pickM T m x
  let as ← fs ρ
  M.need (as.length = n)
  F (x :: as)
theorem Wp.pick {g : Gx} {E : XK} {μ : Gh} {S : Sto} {H : Hp} {x : D} {v : V} {T : MTab} {m : Str} {Q : (List D → M D) → Gh → Sto → Hp → Prop} (h : Wp g E (pickM T m x) μ S H Q) (k : StoOk g μ S H) (r : Rep g μ S H v x) :
    ∃ c a dx vs F, v = .ref a ∧ H a = some (.ins (g.ca c) dx vs) ∧ vs.lookup m = none ∧ (c, F) ∈ T ∧ Q F μ S H := by
  obtain ⟨c, fs, a, dx, vs, ev, ea, rf, h2⟩ := Wp.insD (Wp.bind h) k r
  obtain ⟨hn, h3⟩ := Wp.need (Wp.bind h2) k
  obtain ⟨F, e1, h4⟩ := Wp.get h3 k
  exact ⟨c, a, dx, vs, F, ev, ea, rf.none hn, mtGet_mem e1, h4 (Step.refl _ _ _) (Step.refl _ _ _)⟩
section
variable {X : Cx} {ca : Nat → Addr} {W : WX} {e o : Expr} {fo : DEnv → M D} {m : Str} {pos apos p : Pos} {es : List Expr} {fs : DEnv → M (List D)} {T : MTab} {k n : Nat}
abbrev MetX (X : Cx) (ca : Nat → Addr) (k : Nat) (T : MTab) (m : Str) (n : Nat) : Prop := ∀ q ∈ T, MetAt X.prog X.w X.K X.mg X.base ca k q.1 m n q.2
theorem pd_meth {pl : Sem Bool} (hT : MetX X ca k T m n) (hr : Room k X.A) (tk : Takes X W) (ho : PE X o (tD (gx X ca) W fo)) (ha : PA X (e :: es) (tDA (gx X ca) W fs))
    (hst : starEach (e :: es) X.env = (false, eval e X.env) :: starEach es X.env := by rfl) (hpl : (backTo pos (starEach es X.env)).any (·.1) = false := by rfl)
    (ht : eval (.Call (.Attribute o m apos) (e :: es) [] pos) X.env = (do
      let ov ← eval o X.env
      standAt apos.atName
      let (f, first) ← holding [ov] (getMethod ov m pl)
      callWith pos f first (backTo pos (starEach (e :: es) X.env)) (backToKw pos (keywordEach [] X.env))) := by rfl) :
    PE X (.Call (.Attribute o m apos) (e :: es) [] pos) (tD (gx X ca) W (dMeth T m n fo fs)) := by
  refine ⟨fun pins s σ H Q I ⟨ρ, μ, S, env, sto, h⟩ => PySem.W.methodCall_KW (pl := pl) ?_ ht⟩
  have first : tD (gx X ca) W fo σ H fun v H1 => ∃ ρ μ1 S1 d, EnvOk (gx X ca) μ1 S1 H1 σ ρ ∧ StoOk (gx X ca) μ1 S1 H1 ∧ Rep (gx X ca) μ1 S1 H1 v d ∧
      Wp (gx X ca) (fun c d H' => W c d σ H') (do let F ← pickM T m d; let as ← fs ρ; M.need (as.length = n); F (d :: as)) μ1 S1 H1 fun d μ' S' H' => ∀ v, Rep (gx X ca) μ' S' H' v d → Q v H' :=
    tD_then env sto h fun d μ1 S1 H1 v t1 k1 env1 r1 h1 => ⟨ρ, μ1, S1, d, env1, k1, r1, h1⟩
  refine thn (ho.run pins s σ H _ I first) fun u s1 ⟨x, H1, I1, rx, ρ, μ1, S1, d, env1, k1, r1, h1⟩ => ?_
  obtain ⟨c, a, dx, vs, F, rfl, ea, hn, hF, h2⟩ := Wp.pick (Wp.bind h1) k1 r1
  obtain rfl : u = Value.ref a := rx
  obtain ⟨f, cl, mt, G⟩ := (hT _ hF).ex
  refine getmeth_ok I1 ea cl mt hn ?_
  have args : tDA (gx X ca) W fs σ H1 fun vs H2 => ∃ μ2 S2 as, RepAll (gx X ca) μ2 S2 H2 (V.ref a :: vs) (d :: as) ∧ as.length = n ∧ StoOk (gx X ca) μ2 S2 H2 ∧
      Wp (gx X ca) (fun c d H' => W c d σ H') (F (d :: as)) μ2 S2 H2 fun d μ' S' H' => ∀ v, Rep (gx X ca) μ' S' H' v d → Q v H' :=
    tDA_then env1 k1 (h2.mono fun _ _ _ _ t _ z => z t) fun as μ2 S2 H2 vs t2 k2 env2 r2 h3 => by
      obtain ⟨hl, h4⟩ := Wp.need (Wp.bind h3) k2
      exact ⟨μ2, S2, as, .cons (r1.step t2) r2, hl, k2, h4.mono fun _ _ _ _ t _ z => z t⟩
  refine PySem.W.callWith_K (first := [.ref a]) (h₀ := X.base) I.ok.mod.kin mt.kp (thn (ha.run pos pins s1 σ H1 _ I1 args) fun us s2 ⟨vs2, H2, I2, r, μ2, S2, as, ra, hl, k2, h4⟩ => ⟨I2.kIn, ?_⟩) hst hpl
  exact run_cal G hr I2.env0 (fun e s' c => takes_at tk σ I2 c) I2 (us := .ref a :: us) (vs := .ref a :: vs2) (.cons rfl r) ra (congrArg Nat.succ hl) k2 h4
theorem pd_meth0 {pl : Sem Bool} (hT : MetX X ca k T m 0) (hr : Room k X.A) (tk : Takes X W) (ho : PE X o (tD (gx X ca) W fo))
    (ht : eval (.Call (.Attribute o m apos) [] [] pos) X.env = (do
      let ov ← eval o X.env
      standAt apos.atName
      let (f, first) ← holding [ov] (getMethod ov m pl)
      callWith pos f first (backTo pos (starEach [] X.env)) (backToKw pos (keywordEach [] X.env))) := by rfl) :
    PE X (.Call (.Attribute o m apos) [] [] pos) (tD (gx X ca) W (dMeth T m 0 fo aNil)) := by
  refine ⟨fun pins s σ H Q I ⟨ρ, μ, S, env, sto, h⟩ => PySem.W.methodCall_KW (pl := pl) ?_ ht⟩
  have first : tD (gx X ca) W fo σ H fun v H1 => ∃ ρ μ1 S1 d, EnvOk (gx X ca) μ1 S1 H1 σ ρ ∧ StoOk (gx X ca) μ1 S1 H1 ∧ Rep (gx X ca) μ1 S1 H1 v d ∧
      Wp (gx X ca) (fun c d H' => W c d σ H') (do let F ← pickM T m d; let as ← aNil ρ; M.need (as.length = 0); F (d :: as)) μ1 S1 H1 fun d μ' S' H' => ∀ v, Rep (gx X ca) μ' S' H' v d → Q v H' :=
    tD_then env sto h fun d μ1 S1 H1 v t1 k1 env1 r1 h1 => ⟨ρ, μ1, S1, d, env1, k1, r1, h1⟩
  refine thn (ho.run pins s σ H _ I first) fun u s1 ⟨x, H1, I1, rx, ρ, μ1, S1, d, env1, k1, r1, h1⟩ => ?_
  obtain ⟨c, a, dx, vs, F, rfl, ea, hn, hF, h2⟩ := Wp.pick (Wp.bind h1) k1 r1
  obtain rfl : u = Value.ref a := rx
  obtain ⟨f, cl, mt, G⟩ := (hT _ hF).ex
  refine getmeth_ok I1 ea cl mt hn ?_
  have h3 : Wp (gx X ca) (fun c d H' => W c d σ H') (F [d]) μ1 S1 H1 fun d μ' S' H' => ∀ v, Rep (gx X ca) μ' S' H' v d → Q v H' := h2.mono fun _ _ _ _ t _ z => z t
  exact PySem.W.callWith_K0 (first := [.ref a]) I1.kIn mt.kp (run_cal G hr I1.env0 (fun e s' c => takes_at tk σ I1 c) I1 (us := [.ref a]) (vs := [.ref a]) (.cons rfl .nil) (.cons r1 .nil) rfl k1 h3)
/-- e.f, a property (its getter may not raise) -/
structure PropAt (P : Program) (w : World) (K : PySem.W.Frag) (mg : Str → Option Value) (base : Heap) (ca : Nat → Addr) (k : Nat) (c : Nat) (m : Str) (F : List D → M D) : Prop where
  ex : ∃ p f fd, Cls K (ca c) ∧ PropOf K (ca c) m p f ∧ FnOk P w K mg base (L2.CX P w) k f fd ["self"] (spD ⟨K, ca⟩ 1 F) ∧ Binds K fd ["self"] []
theorem PropAt.mono {P : Program} {w : World} {K : PySem.W.Frag} {mg : Str → Option Value} {base : Heap} {j c : Nat} {F : List D → M D} (h : PropAt P w K mg base ca j c m F) (l : j ≤ k) : PropAt P w K mg base ca k c m F := by
  obtain ⟨p, f, fd, h1, h2, h3, h4⟩ := h.ex
  exact ⟨p, f, fd, h1, h2, h3.mono l, h4⟩
def dProp (T : MTab) (fo : DEnv → M D) : DEnv → M D := fun ρ => do
  let x ← fo ρ
  let p ← insD x
  let F ← M.get fun _ => mtGet T p.1
  M.nx (F [x])
theorem pd_prop (hT : ∀ q ∈ T, PropAt X.prog X.w X.K X.mg X.base ca k q.1 m q.2) (hr : Room (k + 1) X.A) (ho : PE X o (tD (gx X ca) W fo)) (hab : attributeBase o m X.env (eval o X.env) = eval o X.env := by rfl) :
    PE X (.Attribute o m pos) (tD (gx X ca) W (dProp T fo)) := by
  refine ⟨fun pins s σ H Q I ⟨ρ, μ, S, env, sto, h⟩ => ?_⟩
  have first : tD (gx X ca) W fo σ H fun v H1 => ∃ μ1 S1 d, StoOk (gx X ca) μ1 S1 H1 ∧ Rep (gx X ca) μ1 S1 H1 v d ∧
      Wp (gx X ca) (fun c d H' => W c d σ H') (do let p ← insD d; let F ← M.get fun _ => mtGet T p.1; M.nx (F [d])) μ1 S1 H1 fun d μ' S' H' => ∀ v, Rep (gx X ca) μ' S' H' v d → Q v H' :=
    tD_then env sto h fun d μ1 S1 H1 v t1 k1 env1 r1 h1 => ⟨μ1, S1, d, k1, r1, h1⟩
  refine attr_of hab (thn (ho.run pins s σ H _ I first) fun u s1 ⟨x, H1, I1, rx, μ1, S1, d, k1, r1, h1⟩ => ?_)
  obtain ⟨c, fs, a, dx, vs, rfl, ea, rf, h2⟩ := Wp.insD (Wp.bind h1) k1 r1
  obtain rfl : u = Value.ref a := rx
  obtain ⟨F, e1, h3⟩ := Wp.get (Wp.bind h2) k1
  obtain ⟨p, f, fd, cl, pr, G, hb⟩ := (hT _ (mtGet_mem e1)).ex
  obtain ⟨dr, S2, er, hq⟩ := Wp.nx h3
  refine getprop_ok I1 ea cl pr G hr hb .nil passL ⟨[d], μ1, S1, rfl, .cons r1 .nil, k1, Wp.of_ok er fun μ2 H2 t2 k2 => ?_⟩
  exact hq μ2 H2 t2 k2 t2 t2
end
end DD

/-! DD13: t[::-1] of a tuple; instances made; own [], in, str; keywords of a method; texts put together -/
namespace DD
open PySem PySem.Spec PyProof.Rows L2

/-! ### t[::-1] -/
section
variable {prog : Program} {w : World} {A : Around} {E : Value → Shared → Prop} {s : Shared}
theorem places_rev (n : Nat) : Builtin.Slice.slicePlaces ((n : Int) - 1) (-1) (-1) = n := by
  unfold Builtin.Slice.slicePlaces
  rw [if_neg (by decide)]
  by_cases h : (n : Int) - 1 > -1
  · rw [if_pos h, show (-(-1) : Int) = 1 by decide, Int.ediv_one]
    omega
  · rw [if_neg h]
    omega
theorem applied_rev {sl : Addr} {vs : Value} {n : Nat} {Q : Int × Int × Nat → Shared → Prop} (hs : s.heap.IsSliceOf sl .none .none vs) (ps : IsPart vs (some (-1))) (h : Q ((n : Int) - 1, -1, n) s) :
    wpAny (model prog w) A (Builtin.Slice.sliceApplied (.ref sl) (pure (n : Int))) Q E s := by
  obtain ⟨os, e1, _, e2⟩ := id hs
  unfold Builtin.Slice.sliceApplied Builtin.Slice.sliceFields
  refine wpAny_bind (wpAny_bind (wpAny_field e1 e2 (x := .none) rfl (wpAny_bind (wpAny_field e1 e2 (x := .none) rfl (wpAny_bind (wpAny_field e1 e2 (x := vs) rfl (wpAny_pure ?_)))))))
  refine wpAny_bind (HT.slicePart_ ps ?_)
  show wpAny _ _ (if ((-1 : Int) == 0) = true then _ else _) _ _ s
  rw [if_neg (by decide)]
  refine wpAny_bind (slicePart_none (wpAny_bind (slicePart_none (wpAny_bind (wpAny_pure ?_)))))
  show wpAny _ _ (pure ((n : Int) - 1, (-1 : Int), Builtin.Slice.slicePlaces ((n : Int) - 1) (-1) (-1))) _ _ s
  rw [places_rev]
  exact wpAny_pure h
theorem fm_congr {α β : Type} {f g : α → Option β} : ∀ {l : List α}, (∀ x ∈ l, f x = g x) → l.filterMap f = l.filterMap g
  | [], _ => rfl
  | x :: l, h => by
    rw [List.filterMap_cons, List.filterMap_cons, h x List.mem_cons_self, fm_congr fun y hy => h y (List.mem_cons_of_mem _ hy)]
theorem pick_rev (xs : Array Value) : ((List.range xs.size).filterMap fun (k : Nat) => xs[(((xs.size : Int) - 1) + (k : Int) * (-1)).toNat]?).toArray = xs.toList.reverse.toArray := by
  congr 1
  have e : (List.range xs.size).filterMap (fun (k : Nat) => xs[(((xs.size : Int) - 1) + (k : Int) * (-1)).toNat]?) = (List.range xs.size).filterMap ((fun k => xs[k]?) ∘ fun k => xs.size - 1 - k) := by
    refine fm_congr fun k hk => ?_
    have := List.mem_range.mp hk
    show _ = xs[xs.size - 1 - k]?
    congr 1
    omega
  rw [e, ← List.filterMap_map, PySem.W.krv_range, List.filterMap_reverse, PySem.W.krv_all]
theorem getItem_tup_rev {t sl : Addr} {items : Array Value} {vs : Value} {Q : Value → Shared → Prop} (ht : IsTup s.heap t items) (hs : s.heap.IsSliceOf sl .none .none vs) (ps : IsPart vs (some (-1))) (hsz : items.size ≤ sizeLine)
    (h : Q (.ref s.heap.objs.size) { s with heap := s.heap.push { cls := .type "tuple", data := .seq items.toList.reverse.toArray } }) : wpAny (model prog w) A (getItem (.ref t) (.ref sl)) Q E s := by
  have hz : sizeOk (.seq items.toList.reverse.toArray) := by
    show items.toList.reverse.toArray.size ≤ sizeLine
    simpa using hsz
  obtain ⟨os, hos, hcs, hds⟩ := id hs
  have hT : s.TypeIs (.ref sl) "slice" := ⟨os, hos, hcs⟩
  unfold getItem
  try with_reducible refine wpAny_holding ?_
  first | refine wpAny_bind (wpAny_pure ?_) | skip
  refine wpAny_bind (wpAny_sequenceKey ht.typeIs (by decide) (wpAny_bind (wpAny_callSpecial?_slot (name := Str.ofString "__getitem__") ht.typeIs PyProof.Rows.slot_tuple_getitem
    (wpAny_call_entry PyProof.Rows.slot_tuple_getitem ht.typeIs entry_tuple_getitem ?_ (args_tuple_getitem _ _)))))
  show wpAny _ _ (Builtin.Tuple.tupleItemsOf (.ref t) >>= _) _ _ s
  refine wpAny_bind (tupleItemsOf_ ht (wpAny_bind (wpAny_typeOf hT ?_)))
  rw [if_pos (by decide)]
  refine wpAny_bind (applied_rev hs ps ?_)
  have hno : ¬ (((((items.size : Int) - 1) == 0) && ((-1 : Int) == 1) && (items.size == items.size)) = true) := by
    rw [show ((-1 : Int) == 1) = false by decide, Bool.and_false, Bool.false_and]
    exact Bool.false_ne_true
  show wpAny _ _ (if ((((items.size : Int) - 1) == 0) && ((-1 : Int) == 1) && (items.size == items.size)) = true then _ else _) _ _ s
  rw [if_neg hno, pick_rev]
  first
    | exact wpAny_bind (m := Builtin.Tuple.tupleExact _) (wpAny_newObj_type (wpAny_pure ⟨_, rfl, wpAny_pure h⟩) hz)
    | exact wpAny_bind (m := Builtin.Tuple.tupleExact _) (wpAny_newObj_type (wpAny_bind (wpAny_pure (wpAny_pure ⟨_, rfl, wpAny_pure h⟩))) hz)
    | exact wpAny_bind (wpAny_bind (m := Builtin.Tuple.tupleExact _) (wpAny_newObj_type (wpAny_pure (wpAny_pure ⟨_, rfl, wpAny_pure h⟩)) hz))
    | exact wpAny_bind (wpAny_bind (m := Builtin.Tuple.tupleExact _) (wpAny_newObj_type (wpAny_pure ⟨_, rfl, wpAny_pure h⟩) hz))
end
def dRevT : D → M D
  | .tup xs => pure (.tup xs.reverse)
  | _ => M.bad
theorem RepAll.small {g : Gx} {μ : Gh} {S : Sto} {H : Hp} {a : Addr} {xs : List V} {X : Cx} {pins : List (Addr × Obj)} {σ : L2.St} {s : Shared} (I : Inv X pins σ H s) (h : SqT X.K H a xs) : xs.length ≤ sizeLine := by
  obtain ⟨its, r, _, hz⟩ := I.tuple h
  exact hz
theorem pd_revT {X : Cx} {ca : Nat → Addr} {W : WX} {e : Expr} {f : DEnv → M D} {k : Nat} {p1 p2 p3 pos : Pos} (he : PE X e (tD (gx X ca) W f)) :
    PE X (.Subscript e (.Slice none none (some (.UnaryOp .USub (.Constant (.int 1) k p1) p2)) p3) pos) (tD (gx X ca) W (dUn dRevT f)) := by
  refine ⟨fun pins s σ H Q I ⟨ρ, μ, S, env, sto, h⟩ => ?_⟩
  have first : tD (gx X ca) W f σ H fun v H1 => ∃ μ1 S1 d, StoOk (gx X ca) μ1 S1 H1 ∧ Rep (gx X ca) μ1 S1 H1 v d ∧
      Wp (gx X ca) (fun c d H' => W c d σ H') (dRevT d) μ1 S1 H1 fun d μ' S' H' => ∀ v, Rep (gx X ca) μ' S' H' v d → Q v H' :=
    tD_then env sto h fun d μ1 S1 H1 v t1 k1 env1 r1 h1 => ⟨μ1, S1, d, k1, r1, h1⟩
  refine Subscript_ (thn (he.run pins s σ H _ I first) fun v s1 ⟨x, H1, I1, rv, μ1, S1, d, k1, r1, h1⟩ => ?_)
  cases r1 with
  | @tup a xs ds fz q =>
    cases rv
    have hp : PO X (some (.UnaryOp .USub (.Constant (.int 1) k p1) p2)) (tPart (tUn (rU fun i => .int (-i)) (tC (.int 1)))) := po_some (pe_un un_neg pe_int)
    refine wpAny_Slice (thn (po_none.run pins s1 σ H1 (fun o H2 => o = none ∧ H2 = H1) I1 ⟨rfl, rfl⟩) fun vl s2 ⟨l, H2, I2, pl, el, e2⟩ => ?_)
    subst el e2
    refine thn (po_none.run pins s2 σ H2 (fun o H3 => o = none ∧ H3 = H2) I2 ⟨rfl, rfl⟩) fun vu s3 ⟨u, H3, I3, pu, eu, e3⟩ => ?_
    subst eu e3
    refine thn (hp.run pins s3 σ H3 (fun o H4 => o = some (-1) ∧ H4 = H3) I3 ⟨1, rfl, -1, rfl, rfl, rfl⟩) fun vs s4 ⟨o, H4, I4, ps, eo, e4⟩ => ?_
    subst eo e4
    cases pl
    cases pu
    have I5 : Inv X pins σ H4 { s4 with heap := s4.heap.push { cls := .type "slice", data := .fields #[.none, .none, vs] } } := I4.kept (t' := s4.toks) fun b ob q => Heap.get?_push_of_some _ q
    obtain ⟨its, r, ht, hz⟩ := I5.tuple fz.sq
    have hl := r.length
    show wpAny (model X.prog X.w) X.A (subscriptTail e (.Slice none none (some (.UnaryOp .USub (.Constant (.int 1) k p1) p2)) p3) (.ref a) (.ref s4.heap.objs.size)) (EP X pins σ Q) X.xe { s4 with heap := s4.heap.push { cls := .type "slice", data := .fields #[.none, .none, vs] } }
    refine tail_any (ops := [.ref a, .ref s4.heap.objs.size]) ht.typeIs (PyProof.Rows.slot_tuple_getitem.lookup) ?_ (by with_unfolding_all rfl)
    refine getItem_tup_rev ht (Heap.IsSliceOf.new _ .none .none vs) ps (by rw [List.size_toArray, ← hl]; exact hz) ?_
    have hf := I5.hok.fresh (Nat.le_refl _)
    obtain ⟨t, k', rr⟩ := new_tup k1 hf q.reverse
    refine ⟨.ref _, _, I5.laid (t' := s4.toks) (o := .tup xs.reverse) (fun b ob q => Heap.get?_push_of_some _ q) (Nat.le_refl _) ?_, rfl, Wp.end h1 t k' _ rr⟩
    exact ⟨by rw [List.length_reverse]; exact hz, _, r.reverse, IsTup.new _ _⟩
  | _ => exact (show False from h1).elim

/-! ### an instance made -/
def newIns (c : Nat) : M D := fun S => .ok (.cell S.length) (S ++ [some (.obj c [])])
def toN : D → M Unit
  | .non => pure ()
  | _ => M.bad
/-- the instance, as it is, does not change any more -/
def freezeD : D → M D
  | .cell n => do
    let p ← M.get (insS n)
    M.put fun S => S.set n none
    pure (.obj p.1 p.2)
  | _ => M.bad
def makeD (c : Nat) (fz : Bool) (F : List D → M D) (as : List D) : M D := do
  let x ← newIns c
  let r ← F (x :: as)
  toN r
  if fz then freezeD x else pure x
def dMake (c : Nat) (fz : Bool) (n : Nat) (F : List D → M D) (fs : DEnv → M (List D)) : DEnv → M D := fun ρ => do
  let as ← fs ρ
  M.need (as.length = n)
  makeD c fz F as
section
variable {g : Gx} {μ : Gh} {S : Sto} {H : Hp}
theorem sto_freeze {n : Nat} {c : Nat} {fs : List (Str × D)} {a : Addr} (k : StoOk g μ S H) (e : S[n]? = some (some (.obj c fs))) (ea : μ.m[n]? = some a) :
    Step μ S H μ (S.set n none) H ∧ StoOk g μ (S.set n none) H ∧ Rep g μ (S.set n none) H (.ref a) (.obj c fs) := by
  have less : ∀ b, Live μ (S.set n none) b → Live μ S b := by
    rintro b ⟨m, d, e1, e2⟩
    by_cases z : n = m
    · subst z
      rw [List.getElem?_set] at e1
      split at e1
      · split at e1 <;> cases e1
      · exact absurd rfl (by assumption)
    · rw [List.getElem?_set_ne z] at e1
      exact ⟨m, d, e1, e2⟩
  have old : ∀ {m : Nat} {d : Cell}, (S.set n none)[m]? = some (some d) → n ≠ m ∧ S[m]? = some (some d) := fun {m d} h => by
    by_cases z : n = m
    · subst z
      rw [List.getElem?_set] at h
      split at h
      · split at h <;> cases h
      · exact absurd rfl (by assumption)
    · rw [List.getElem?_set_ne z] at h
      exact ⟨z, h⟩
  have t : Step μ S H μ (S.set n none) H := ⟨List.prefix_refl _, fun _ h => h, fun h => h, fun _ _ _ h => h, fun b l => .inl (less b l), fun _ l => .inl l, fun _ h => h⟩
  obtain ⟨b, e1, dx, vs, e2, rf⟩ := k.at_ _ _ e
  rw [ea] at e1
  cases e1
  have nl : ¬ Held μ (S.set n none) a := by
    rintro (l | l)
    · obtain ⟨m, d, e3, e4⟩ := l
      obtain ⟨z, e5⟩ := old e3
      exact z (k.inj n m _ _ a e e5 ea e4)
    · exact k.nex a ⟨n, _, e, ea⟩ l
  refine ⟨t, ⟨by rw [List.length_set]; exact k.len, fun b l => k.nex b (less b l), k.ext, fun m m' d d' x h1 h2 h3 h4 => k.inj m m' d d' x (old h1).2 (old h2).2 h3 h4, fun m d h => ?_⟩, .obj e2 nl (rf.step t)⟩
  obtain ⟨b, q1, q2⟩ := k.at_ m d (old h).2
  exact ⟨b, q1, q2.step t rfl⟩
end
structure MakAt (P : Program) (w : World) (K : PySem.W.Frag) (mg : Str → Option Value) (base : Heap) (ca : Nat → Addr) (k : Nat) (x : Str) (c : Nat) (n : Nat) (F : List D → M D) : Prop where
  ex : ∃ f, Mk K (ca c) f ∧ mg x = some (.ref (ca c)) ∧ Cal P w K mg base ca k f (n + 1) F
theorem MakAt.mono {P : Program} {w : World} {K : PySem.W.Frag} {mg : Str → Option Value} {base : Heap} {ca : Nat → Addr} {j k c n : Nat} {x : Str} {F : List D → M D} (h : MakAt P w K mg base ca j x c n F) (l : j ≤ k) : MakAt P w K mg base ca k x c n F := by
  obtain ⟨f, h1, h2, h3⟩ := h.ex
  exact ⟨f, h1, h2, h3.mono l⟩
theorem Wp.toN {g : Gx} {E : XK} {μ : Gh} {S : Sto} {H : Hp} {d : D} {Q : Unit → Gh → Sto → Hp → Prop} {v : V} (h : Wp g E (toN d) μ S H Q) (k : StoOk g μ S H) (r : Rep g μ S H v d) : v = .non ∧ Q () μ S H := by
  cases r with
  | non => exact ⟨rfl, Wp.pure h k⟩
  | _ => exact (show False from h).elim
section
variable {X : Cx} {ca : Nat → Addr} {W : WX} {k n c : Nat} {F : List D → M D} {x : Str} {p pos : Pos} {e : Expr} {es : List Expr} {fs : DEnv → M (List D)}
theorem run_mak {f : Addr} (Mc : Mk X.K (ca c) f) (G : CalX X ca k f (n + 1) F) (hr : Room (k + 1) X.A) (tk : Takes X W) {pins : List (Addr × Obj)} {σ : L2.St} {H : Hp} {s : Shared} {us : List Value} {vs : List V} {as : List D} {μ : Gh} {S : Sto} {Q : VK} {fz : Bool}
    (I : Inv X pins σ H s) (r : Vals vs us) (ra : RepAll (gx X ca) μ S H vs as) (hl : as.length = n) (sto : StoOk (gx X ca) μ S H)
    (h : Wp (gx X ca) (fun c d H' => W c d σ H') (makeD c fz F as) μ S H fun d μ' S' H' => ∀ v, Rep (gx X ca) μ' S' H' v d → Q v H') : wpAny (model X.prog X.w) X.A (call (.ref (ca c)) us) (EP X pins σ Q) X.xe s := by
  let dx := s.heap.objs.size
  let y := s.heap.objs.size + 1
  have ne : dx ≠ y := Nat.ne_of_lt (Nat.lt_succ_self _)
  have I2 := Inv.made (C := ca c) I
  have n1 : H dx = none := I.hok.fresh (Nat.le_refl _)
  have n2 : (upd H dx (.own y)) y = none := by rw [upd_ne ne.symm]; exact I.hok.fresh (Nat.le_succ _)
  obtain ⟨t2, k2, r2⟩ := sto_new (o := .ins (ca c) dx []) (sto.alloc (o := .own y) n1) n2 (.obj (c := c) .nil) S.length rfl
  have t02 := (Step.alloc (μ := μ) (S := S) (o := .own y) n1).trans t2
  have h2 : Wp (gx X ca) (fun c d H' => W c d σ H') (do let r ← F (.cell S.length :: as); toN r; if fz then freezeD (.cell S.length) else pure (.cell S.length)) ⟨μ.m ++ [y], μ.ex⟩ (S ++ [some (.obj c [])]) (upd (upd H dx (.own y)) y (.ins (ca c) dx []))
      fun d μ' S' H' => ∀ v, Rep (gx X ca) μ' S' H' v d → Q v H' :=
    ((Wp.bind (show Wp (gx X ca) (fun c d H' => W c d σ H') (newIns c >>= fun x => do let r ← F (x :: as); toN r; if fz then freezeD x else pure x) μ S H fun d μ' S' H' => ∀ v, Rep (gx X ca) μ' S' H' v d → Q v H' from h)) _ _ t02 k2).mono fun _ _ _ _ t _ z => z (t02.trans t)
  have hc := G.ex
  obtain ⟨fd, ps, us', ws, dd, m, F0, G1, hb, hv, hdd, hm, rfl⟩ := hc
  have rall := (RepAll.cons r2 (ra.step t02)).append (hdd _ _ _)
  have hy : (μ.m ++ [y])[S.length]? = some y := by
    rw [← sto.len, List.getElem?_append_right (Nat.le_refl _)]
    simp
  have hsp : spD ⟨X.K, ca⟩ m F0 ((V.ref y :: vs) ++ ws) (upd (upd H dx (.own y)) y (.ins (ca c) dx [])) (fun v H' => v = .non ∧ Q (.ref y) H') (fun c d H' => W c d σ H') := by
    refine ⟨(.cell S.length :: as) ++ dd, _, _, ?_, rall, k2, (Wp.bind h2).mono fun d μ3 S3 H3 t3 k3 h3 v rv => ?_⟩
    · rw [rall.length, List.length_append, List.length_cons, hl, hm]
    · obtain ⟨ev, h4⟩ := Wp.toN (Wp.bind h3) k3 rv
      have hy3 := prefix_get t3.pre hy
      refine ⟨ev, ?_⟩
      cases fz with
      | false => exact Wp.pure h4 k3 (Step.refl _ _ _) t3 _ (.cell hy3)
      | true =>
        obtain ⟨q, e1, h5⟩ := Wp.get (Wp.bind (show Wp (gx X ca) (fun c d H' => W c d σ H') (freezeD (.cell S.length)) μ3 S3 H3 _ from h4)) k3
        obtain ⟨t4, k4, r4⟩ := sto_freeze k3 (insS_some e1) hy3
        have h6 := (Wp.bind h5) μ3 H3 t4 k4
        exact Wp.pure h6 k4 t4 t4 t4 (t3.trans t4) _ r4
  have hyr : Vals (V.ref y :: vs) (Value.ref y :: us) := .cons rfl r
  have hn : ((Value.ref y :: us) ++ us').length = ps.length := (hyr.append hv).length.symm.trans (G1.len _ _ _ _ hsp)
  have go := G1.run _ X.stack _ _ ⟨Value.ref y :: us, []⟩ ((Value.ref y :: us) ++ us') ((V.ref y :: vs) ++ ws) _ _ (hr.make (ca c) us []) (I2.env0.make (ca c) us []) (hb _ (Value.ref y :: us) I2.kIn hn) (hyr.append hv) hsp
  refine wpAny_call (make_map (f := f) I.kIn Mc.makes Mc.init (beq_iff_eq.mp Mc.fn) (codeAny_mono go fun res s' hq => ?_))
  match res, hq with
  | .error e, hq => exact takes_at tk σ I2 hq
  | .ok (.ret u), hq =>
    obtain ⟨v, H', I3, rv, ev, q3⟩ := I2.after hq
    subst ev
    exact ⟨rv, ⟨V.ref y, H', I3, rfl, q3⟩⟩
  | .ok .next, hq => exact hq.elim
  | .ok .brk, hq => exact hq.elim
  | .ok .cont, hq => exact hq.elim
theorem pd_make {fz : Bool} (hM : MakAt X.prog X.w X.K X.mg X.base ca k x c n F) (hr : Room (k + 1) X.A) (tk : Takes X W) (ha : PA X (e :: es) (tDA (gx X ca) W fs)) (hg : Gl X x := by rfl) (hdb : (x == ("__debug__" : Str)) = false := by decide)
    (he : starEach (e :: es) X.env = (false, eval e X.env) :: starEach es X.env := by rfl) (hpl : (backTo pos (starEach es X.env)).any (·.1) = false := by rfl) : PE X (.Call (.Name x p) (e :: es) [] pos) (tD (gx X ca) W (dMake c fz n F fs)) := by
  obtain ⟨f, Mc, hm, G⟩ := hM.ex
  refine ⟨fun pins s σ H Q I ⟨ρ, μ, S, env, sto, h⟩ => ?_⟩
  have args : tDA (gx X ca) W fs σ H fun vs H2 => ∃ μ2 S2 as, RepAll (gx X ca) μ2 S2 H2 vs as ∧ as.length = n ∧ StoOk (gx X ca) μ2 S2 H2 ∧
      Wp (gx X ca) (fun c d H' => W c d σ H') (makeD c fz F as) μ2 S2 H2 fun d μ' S' H' => ∀ v, Rep (gx X ca) μ' S' H' v d → Q v H' :=
    tDA_then env sto h fun as μ2 S2 H2 vs t2 k2 env2 r2 h3 => by
      obtain ⟨hl, h4⟩ := Wp.need (Wp.bind h3) k2
      exact ⟨μ2, S2, as, r2, hl, k2, h4.mono fun _ _ _ _ t _ z => z t⟩
  refine wpAny_Call_Name_kw (ld_glob I hg hm ?_ hdb)
  exact PySem.W.callWith_K (h₀ := X.base) I.ok.mod.kin Mc.kp (thn (ha.run pos pins s σ H _ I args) fun us s2 ⟨vs2, H2, I2, r, μ2, S2, as, ra, hl, k2, h4⟩ => ⟨I2.kIn, run_mak Mc G hr tk I2 r ra hl k2 h4⟩) he hpl
end
end DD

/-! DD14: own [], in, str(); a method's keywords; f-strings -/
namespace DD
open PySem PySem.Spec PyProof.Rows L2

/-! ### a slot of the class that the language calls -/
structure SltAt (P : Program) (w : World) (K : PySem.W.Frag) (mg : Str → Option Value) (base : Heap) (ca : Nat → Addr) (k : Nat) (c : Nat) (name : Str) (n : Nat) (F : List D → M D) : Prop where
  ex : ∃ f, PySem.W.findIn K (.ref (ca c)) name = some (some (.ref f)) ∧ PySem.W.fnIn K f = true ∧ PySem.W.isFn K (.ref f) = true ∧ Cal P w K mg base ca k f n F
theorem SltAt.mono {P : Program} {w : World} {K : PySem.W.Frag} {mg : Str → Option Value} {base : Heap} {ca : Nat → Addr} {j k c n : Nat} {m : Str} {F : List D → M D} (h : SltAt P w K mg base ca j c m n F) (l : j ≤ k) : SltAt P w K mg base ca k c m n F := by
  obtain ⟨f, h1, h2, h3, h4⟩ := h.ex
  exact ⟨f, h1, h2, h3, h4.mono l⟩
abbrev SltX (X : Cx) (ca : Nat → Addr) (k : Nat) (T : MTab) (m : Str) (n : Nat) : Prop := ∀ q ∈ T, SltAt X.prog X.w X.K X.mg X.base ca k q.1 m n q.2
def pickS (T : MTab) (x : D) : M (List D → M D) := do
  let p ← insD x
  M.get fun _ => mtGet T p.1
theorem Wp.pickS {g : Gx} {E : XK} {μ : Gh} {S : Sto} {H : Hp} {x : D} {v : V} {T : MTab} {Q : (List D → M D) → Gh → Sto → Hp → Prop} (h : Wp g E (pickS T x) μ S H Q) (k : StoOk g μ S H) (r : Rep g μ S H v x) :
    ∃ c a dx vs F, v = .ref a ∧ H a = some (.ins (g.ca c) dx vs) ∧ (c, F) ∈ T ∧ Q F μ S H := by
  obtain ⟨c, fs, a, dx, vs, ev, ea, rf, h2⟩ := Wp.insD (Wp.bind h) k r
  obtain ⟨F, e1, h4⟩ := Wp.get h2 k
  exact ⟨c, a, dx, vs, F, ev, ea, mtGet_mem e1, h4 (Step.refl _ _ _)⟩
theorem ins_at {X : Cx} {pins : List (Addr × Obj)} {σ : L2.St} {H : Hp} {s : Shared} (I : Inv X pins σ H s) {a C dx : Addr} {vs : List (Str × V)} (e : H a = some (.ins C dx vs)) : ∃ od, PySem.W.InstAt s.heap a (PySem.W.instObj C dx) C (some od) := by
  obtain ⟨mA, O, _⟩ := ins_get I.hok e
  obtain ⟨od, J, _⟩ := O.look
  exact ⟨od, J⟩
/-- o[i], the class's own -/
def dGetO (T : MTab) (fo fi : DEnv → M D) : DEnv → M D := fun ρ => do
  let x ← fo ρ
  let i ← fi ρ
  let F ← pickS T x
  F [x, i]
def inTail (neg : Bool) (x y : D) (F : List D → M D) : M D := do
  let r ← M.nx (F [y, x])
  let b ← toB r
  pure (.bl (b != neg))
def dInO (T : MTab) (neg : Bool) (x y : D) : M D := pickS T y >>= inTail neg x y
def rInO (g : Gx) (T : MTab) (neg : Bool) : R2 := fun v u H Q => ∃ x y μ S, StoOk g μ S H ∧ Rep g μ S H v x ∧ Rep g μ S H u y ∧ Wp g EF (dInO T neg x y) μ S H fun d μ' S' H' => ∀ w, Rep g μ' S' H' w d → Q w H'
/-- nothing is raised in it -/
theorem Wp.free {α : Type} {g : Gx} {E : XK} {m : M α} {μ : Gh} {S : Sto} {H : Hp} {Q : α → Gh → Sto → Hp → Prop} (n : ∀ c fs S', m S ≠ .exc c fs S') (h : Wp g E m μ S H Q) : Wp g EF m μ S H Q := by
  rcases h.run with ⟨a, S', e, w⟩ | ⟨c, fs, S', e, _⟩
  · exact Wp.of_ok e w
  · exact absurd e (n _ _ _)
theorem M.bind_exc {α β : Type} {m : M α} {k : α → M β} {S S2 : Sto} {c : Nat} {fs : List (Str × D)} (h : (m >>= k) S = .exc c fs S2) : m S = .exc c fs S2 ∨ ∃ a S1, m S = .ok a S1 ∧ k a S1 = .exc c fs S2 := by
  rw [M.bind_run] at h
  cases e : m S with
  | ok a S1 => rw [e] at h; exact .inr ⟨a, S1, rfl, h⟩
  | exc c' fs' S1 => rw [e] at h; cases h; exact .inl rfl
  | bad => rw [e] at h; cases h
def NoX {α : Type} (m : M α) : Prop := ∀ S c fs S', m S ≠ .exc c fs S'
theorem NoX.bind {α β : Type} {m : M α} {k : α → M β} (h : NoX m) (h' : ∀ a, NoX (k a)) : NoX (m >>= k) := fun S c fs S' e => by
  rcases M.bind_exc e with e | ⟨a, S1, _, e⟩
  · exact h _ _ _ _ e
  · exact h' a _ _ _ _ e
theorem NoX.nx {α : Type} {m : M α} : NoX (M.nx m) := fun S c fs S' e => by
  unfold M.nx at e
  split at e <;> cases e
theorem NoX.get {α : Type} {f : Sto → Option α} : NoX (M.get f) := fun S c fs S' e => by
  unfold M.get at e
  split at e <;> cases e
theorem NoX.pure {α : Type} {a : α} : NoX (Pure.pure a : M α) := fun S c fs S' e => by cases e
theorem NoX.bad {α : Type} : NoX (M.bad : M α) := fun S c fs S' e => by cases e
theorem NoX.toB {d : D} : NoX (toB d) := by
  cases d <;> first | exact NoX.pure | exact NoX.bad
theorem NoX.insD {d : D} : NoX (insD d) := by
  cases d <;> first | exact NoX.pure | exact NoX.get | exact NoX.bad
theorem NoX.pickS {T : MTab} {d : D} : NoX (pickS T d) := NoX.insD.bind fun _ => NoX.get
theorem inO_s {g : Gx} {T : MTab} {neg : Bool} : OpS g (rInO g T neg) (dInO T neg) := fun E μ S H v u x y Q k rx ry h =>
  ⟨x, y, μ, S, k, rx, ry, Wp.free (fun c fs S' => (NoX.pickS.bind fun _ => NoX.nx.bind fun _ => NoX.toB.bind fun _ => NoX.pure) S c fs S') h⟩
section
variable {X : Cx} {ca : Nat → Addr} {W : WX} {k n : Nat} {T : MTab} {a b e : Expr} {fa fb fo : DEnv → M D} {pos apos : Pos}
theorem pd_getO (hT : SltX X ca k T "__getitem__" 2) (hr : Room (k + 1) X.A) (tk : Takes X W) (ha : PE X a (tD (gx X ca) W fa)) (hb : PE X b (tD (gx X ca) W fb))
    (hsl : ∀ o i, subscripted b true o i = runValue (.builtin "lifetime.subscript" ⟨[o, i], []⟩) := by intro o i; with_unfolding_all rfl) : PE X (.Subscript a b pos) (tD (gx X ca) W (dGetO T fa fb)) := by
  refine ⟨fun pins s σ H Q I ⟨ρ, μ, S, env, sto, h⟩ => ?_⟩
  have both : tD (gx X ca) W fa σ H fun v H1 => tD (gx X ca) W fb σ H1 fun u H2 => ∃ μ2 S2 x y, StoOk (gx X ca) μ2 S2 H2 ∧ Rep (gx X ca) μ2 S2 H2 v x ∧ Rep (gx X ca) μ2 S2 H2 u y ∧
      Wp (gx X ca) (fun c d H' => W c d σ H') (do let F ← pickS T x; F [x, y]) μ2 S2 H2 fun d μ' S' H' => ∀ v, Rep (gx X ca) μ' S' H' v d → Q v H' :=
    tD_then env sto h fun d μ1 S1 H1 v t1 k1 env1 r1 h1 => tD_then env1 k1 h1 fun d2 μ2 S2 H2 v2 t2 k2 env2 r2 h2 => ⟨μ2, S2, d, d2, k2, r1.step t2, r2, h2⟩
  refine Subscript_ (binT ha hb I both fun v u s2 x y H2 I2 rx ry ⟨μ2, S2, dx, dy, k2, r1, r2, h2⟩ => ?_)
  obtain ⟨c, o, dd, vs, F, rfl, eo, hF, h3⟩ := Wp.pickS (Wp.bind h2) k2 r1
  obtain rfl : v = Value.ref o := rx
  obtain ⟨f, f1, f2, f3, G⟩ := (hT _ hF).ex
  obtain ⟨m, fr⟩ := I2.fr
  obtain ⟨od, J⟩ := ins_at I2 eo
  refine PySem.W.sub_K fr I.ok.mod.kin J f1 f2 f3 ?_ (hsl _ _)
  exact run_cal G hr.in1 I2.env0.in1 (fun e s' c => takes_at tk σ I2 c) I2 (us := [.ref o, u]) (vs := [.ref o, y]) (.cons rfl (.cons ry .nil)) (.cons r1 (.cons r2 .nil)) rfl k2 (h3.mono fun _ _ _ _ t _ z => z t)
theorem takes_none {e : Value} {s' s : Shared} {H : Hp} {EE : Value → Shared → Prop} (c : L2.CX X.prog X.w X.stack H s EF e s') : EE e s' := by
  obtain ⟨_, _, _, _, _, _, _, _, _, _, _, _, z⟩ := c
  exact z.elim
theorem op_inO (hT : SltX X ca k T "__contains__" 2) (hr : Room k X.A) : OpR X (compareOp .In) (rInO (gx X ca) T false) := by
  rintro pins s σ H v u vv uu Q I rv ru ⟨x, y, μ, S, sto, rx, ry, h⟩
  obtain ⟨c, o, dd, vs, F, rfl, eo, hF, h3⟩ := Wp.pickS (Wp.bind h) sto ry
  obtain rfl : uu = Value.ref o := ru
  obtain ⟨f, f1, f2, f3, G⟩ := (hT _ hF).ex
  obtain ⟨m, fr⟩ := I.fr
  obtain ⟨od, J⟩ := ins_at I eo
  refine PySem.W.in_K fr I.ok.mod.kin J f1 f3 ?_
  obtain ⟨r, S2, er, hq⟩ := Wp.nx (Wp.bind h3)
  refine thn (run_cal (E0 := EF) (Q := fun z H' => ∃ b, z = .bl b ∧ Q (.bl b) H') (EE := X.xe) G hr I.env0 (fun e s' c => takes_none c) I (us := [.ref o, vv]) (vs := [.ref o, v]) (.cons rfl (.cons rv .nil)) (.cons ry (.cons rx .nil)) rfl sto
    (Wp.of_ok er fun μ2 H2 t2 k2 z rz => ?_)) fun r' s' ⟨z, H', I', rz, b, ez, q⟩ => ?_
  · obtain ⟨b, rfl, h4⟩ := Wp.toB (Wp.bind (hq μ2 H2 t2 k2)) k2 rz
    refine ⟨b, rfl, ?_⟩
    have h5 := Wp.pure h4 k2 (Step.refl _ _ _) t2 t2
    rw [Bool.bne_false] at h5
    exact h5 _ (.bl _)
  · subst ez
    cases (show r' = Value.bool b from rz)
    exact wpAny_truthy_bool ⟨.bl b, H', I', rfl, q⟩
theorem op_notinO (hT : SltX X ca k T "__contains__" 2) (hr : Room k X.A) : OpR X (compareOp .NotIn) (rInO (gx X ca) T true) := by
  rintro pins s σ H v u vv uu Q I rv ru ⟨x, y, μ, S, sto, rx, ry, h⟩
  obtain ⟨c, o, dd, vs, F, rfl, eo, hF, h3⟩ := Wp.pickS (Wp.bind h) sto ry
  obtain rfl : uu = Value.ref o := ru
  obtain ⟨f, f1, f2, f3, G⟩ := (hT _ hF).ex
  obtain ⟨m, fr⟩ := I.fr
  obtain ⟨od, J⟩ := ins_at I eo
  refine PySem.W.notIn_K fr I.ok.mod.kin J f1 f3 ?_
  obtain ⟨r, S2, er, hq⟩ := Wp.nx (Wp.bind h3)
  refine thn (run_cal (E0 := EF) (Q := fun z H' => ∃ b, z = .bl b ∧ Q (.bl (!b)) H') (EE := X.xe) G hr I.env0 (fun e s' c => takes_none c) I (us := [.ref o, vv]) (vs := [.ref o, v]) (.cons rfl (.cons rv .nil)) (.cons ry (.cons rx .nil)) rfl sto
    (Wp.of_ok er fun μ2 H2 t2 k2 z rz => ?_)) fun r' s' ⟨z, H', I', rz, b, ez, q⟩ => ?_
  · obtain ⟨b, rfl, h4⟩ := Wp.toB (Wp.bind (hq μ2 H2 t2 k2)) k2 rz
    refine ⟨b, rfl, ?_⟩
    have h5 := Wp.pure h4 k2 (Step.refl _ _ _) t2 t2
    rw [Bool.bne_true] at h5
    exact h5 _ (.bl _)
  · subst ez
    cases (show r' = Value.bool b from rz)
    exact wpAny_truthy_bool ⟨.bl (!b), H', I', rfl, q⟩
/-- str(o), the class's own -/
def toS : D → M Str
  | .str x => pure x
  | _ => M.bad
def strTail (x : D) (F : List D → M D) : M D := do
  let r ← M.nx (F [x])
  let y ← toS r
  pure (.str y)
def dStrO (T : MTab) (x : D) : M D := pickS T x >>= strTail x
theorem NoX.toS {d : D} : NoX (toS d) := by
  cases d <;> first | exact NoX.pure | exact NoX.bad
theorem Wp.toS {g : Gx} {E : XK} {μ : Gh} {S : Sto} {H : Hp} {d : D} {Q : Str → Gh → Sto → Hp → Prop} {v : V} (h : Wp g E (toS d) μ S H Q) (k : StoOk g μ S H) (r : Rep g μ S H v d) : ∃ x, v = .str x ∧ Q x μ S H := by
  cases r with
  | str x => exact ⟨x, rfl, Wp.pure h k⟩
  | _ => exact (show False from h).elim
def rStrO (g : Gx) (T : MTab) : List V → Hp → VK → Prop := fun vs H Q => ∃ v x μ S, vs = [v] ∧ StoOk g μ S H ∧ Rep g μ S H v x ∧ Wp g EF (dStrO T x) μ S H fun d μ' S' H' => ∀ w, Rep g μ' S' H' w d → Q w H'
theorem strO_s {g : Gx} {T : MTab} : CallS g (rStrO g T) (one (dStrO T)) := one_s fun E μ S H v d Q k r h =>
  ⟨v, d, μ, S, rfl, k, r, Wp.free (fun c fs S' => (NoX.pickS.bind fun _ => NoX.nx.bind fun _ => NoX.toS.bind fun _ => NoX.pure) S c fs S') h⟩
theorem call_strO (hT : SltX X ca k T "__str__" 1) (hr : Room (k + 2) X.A) : CallR X (.type "str") (rStrO (gx X ca) T) := by
  rintro pins s σ H vs us Q I rv ⟨v, x, μ, S, rfl, sto, rx, h⟩
  obtain ⟨u, rfl, ru⟩ := vals1 rv
  obtain ⟨c, o, dd, ws, F, rfl, eo, hF, h3⟩ := Wp.pickS (Wp.bind h) sto rx
  obtain rfl : u = Value.ref o := ru
  obtain ⟨f, f1, f2, f3, G⟩ := (hT _ hF).ex
  obtain ⟨od, J⟩ := ins_at I eo
  have hr2 : Room k X.A.in1.in1 := (hr.in1).in1
  refine PySem.W.kso_call hr2.units0 I.kIn J f1 f3 ?_
  obtain ⟨r, S2, er, hq⟩ := Wp.nx (Wp.bind h3)
  refine thn (run_cal (E0 := EF) (Q := fun z H' => ∃ b, z = .str b ∧ Q (.str b) H') (EE := X.xe) G hr2 I.env0.in1.in1 (fun e s' c => takes_none c) I (us := [.ref o]) (vs := [.ref o]) (.cons rfl .nil) (.cons rx .nil) rfl sto
    (Wp.of_ok er fun μ2 H2 t2 k2 z rz => ?_)) fun r' s' ⟨z, H', I', rz, b, ez, q⟩ => ?_
  · obtain ⟨b, rfl, h4⟩ := Wp.toS (Wp.bind (hq μ2 H2 t2 k2)) k2 rz
    exact ⟨b, rfl, Wp.pure h4 k2 (Step.refl _ _ _) t2 t2 _ (.str _)⟩
  · subst ez
    obtain ⟨t, rfl⟩ := (show ∃ t, r' = Value.str b t from rz)
    exact ⟨.str b, H', I', ⟨t, rfl⟩, q⟩
end

/-! ### f-strings -/
def fmt1 : D → M D
  | .str y => do M.need (y.length ≤ sizeLine); pure (.str y)
  | .int i => do M.need (i.natAbs.log2 < 1920); pure (.str (toString i))
  | _ => M.bad
def dFmt (f : DEnv → M D) : DEnv → M D := dUn fmt1 f
def joinGo : List (DEnv → M D) → Str → DEnv → M D
  | [], acc, _ => pure (.str acc)
  | f :: fs, acc, ρ => do
    let x ← f ρ
    let y ← toS x
    M.need ((acc ++ y).length ≤ sizeLine)
    joinGo fs (acc ++ y) ρ
def dJoined (fs : List (DEnv → M D)) : DEnv → M D := joinGo fs Str.empty
section
variable {X : Cx} {ca : Nat → Addr} {W : WX} {e v1 v2 : Expr} {f : DEnv → M D} {fs : List (DEnv → M D)} {es rest : List Expr} {pos : Pos}
theorem pd_fmt (he : PE X e (tD (gx X ca) W f)) : PE X (.FormattedValue e (-1) none pos) (tD (gx X ca) W (dFmt f)) :=
  peOf (pe_fmt he) fun σ H Q ⟨ρ, μ, S, env, sto, h⟩ => tD_then env sto h fun d μ1 S1 H1 v t1 k1 env1 r1 h1 => by
    cases r1 with
    | str y =>
      obtain ⟨h2, h3⟩ := Wp.need (Wp.bind h1) k1
      exact .inl ⟨y, rfl, h2, Wp.pure h3 k1 (Step.refl _ _ _) _ (.str _)⟩
    | int i =>
      obtain ⟨h2, h3⟩ := Wp.need (Wp.bind h1) k1
      exact .inr ⟨i, rfl, h2, Wp.pure h3 k1 (Step.refl _ _ _) _ (.str _)⟩
    | _ => exact (show False from h1).elim
abbrev tsD (g : Gx) (W : WX) (fs : List (DEnv → M D)) : List TE := fs.map (tD g W)
theorem jd_nil : PJ X [] (tsD (gx X ca) W []) := .nil
theorem jd_cons (h : PE X e (tD (gx X ca) W f)) (r : PJ X es (tsD (gx X ca) W fs)) : PJ X (e :: es) (tsD (gx X ca) W (f :: fs)) := .cons h r
theorem tJs_D {g : Gx} {σ : L2.St} {Q : VK} {ρ : DEnv} : ∀ (fs : List (DEnv → M D)) (acc : Str) (μ : Gh) (S : Sto) (H : Hp), EnvOk g μ S H σ ρ → StoOk g μ S H →
    Wp g (fun c d H' => W c d σ H') (joinGo fs acc ρ) μ S H (fun d μ' S' H' => ∀ v, Rep g μ' S' H' v d → Q v H') → tJs (tsD g W fs) acc σ H fun out H1 => Q (.str out) H1
  | [], acc, μ, S, H, env, sto, h => Wp.pure (show Wp g _ (Pure.pure (.str acc) : M D) μ S H _ from h) sto _ (.str _)
  | f :: fs, acc, μ, S, H, env, sto, h => tD_then env sto (show Wp g _ (f ρ >>= fun x => do let y ← toS x; M.need ((acc ++ y).length ≤ sizeLine); joinGo fs (acc ++ y) ρ) μ S H _ from h) fun d μ1 S1 H1 v t1 k1 env1 r1 h1 => by
      obtain ⟨y, rfl, h2⟩ := Wp.toS (Wp.bind h1) k1 r1
      obtain ⟨h3, h4⟩ := Wp.need (Wp.bind h2) k1
      exact ⟨y, rfl, h3, tJs_D fs _ μ1 S1 H1 env1 k1 (h4.mono fun _ _ _ _ t _ z => z t (Step.refl _ _ _ |>.trans t))⟩
theorem pd_joined (h : PJ X (v1 :: v2 :: rest) (tsD (gx X ca) W fs)) : PE X (.JoinedStr (v1 :: v2 :: rest) pos) (tD (gx X ca) W (dJoined fs)) :=
  peOf (pe_joined h) fun σ H Q ⟨ρ, μ, S, env, sto, h⟩ => tJs_D fs _ μ S H env sto h
theorem pd_joined1 (he : PE X e (tD (gx X ca) W f)) : PE X (.JoinedStr [e] pos) (tD (gx X ca) W f) := pe_joined1 he
end

/-! ### keywords of a method -/
def selG {α : Type} (sel : List (Bool × Nat)) (us ws : List α) : List α := sel.filterMap fun p => if p.1 then us[p.2]? else ws[p.2]?
structure CalK (P : Program) (w : World) (K : PySem.W.Frag) (mg : Str → Option Value) (base : Heap) (ca : Nat → Addr) (k : Nat) (f : Addr) (n : Nat) (ks : List Str) (F : List D → List D → M D) : Prop where
  ex : ∃ (fd : FuncData) (ps : List Str) (sel : List (Bool × Nat)) (F0 : List D → M D), FnOk P w K mg base (L2.CX P w) k f fd ps (spD ⟨K, ca⟩ sel.length F0) ∧
    (∀ p ∈ sel, p.2 < if p.1 then n else ks.length) ∧
    (∀ (s : Shared) (us ws : List Value), us.length = n → ws.length = ks.length → BindsTo s fd ⟨us, ks.zip ws⟩ (ps.zip (selG sel us ws))) ∧ F = fun as bs => F0 (selG sel as bs)
theorem CalK.mono {P : Program} {w : World} {K : PySem.W.Frag} {mg : Str → Option Value} {base : Heap} {ca : Nat → Addr} {j k n : Nat} {f : Addr} {ks : List Str} {F : List D → List D → M D} (h : CalK P w K mg base ca j f n ks F) (l : j ≤ k) : CalK P w K mg base ca k f n ks F := by
  obtain ⟨fd, ps, sel, F0, h1, h2⟩ := h.ex
  exact ⟨fd, ps, sel, F0, h1.mono l, h2⟩
theorem selG_all {g : Gx} {μ : Gh} {S : Sto} {H : Hp} {n m : Nat} {us ws : List V} {as bs : List D} (ru : RepAll g μ S H us as) (rw_ : RepAll g μ S H ws bs) (hu : as.length = n) (hw : bs.length = m) : ∀ {sel : List (Bool × Nat)}, (∀ p ∈ sel, p.2 < if p.1 then n else m) →
    RepAll g μ S H (selG sel us ws) (selG sel as bs) ∧ (selG sel as bs).length = sel.length
  | [], _ => ⟨.nil, rfl⟩
  | (true, i) :: sel, h => by
    obtain ⟨h1, h2⟩ := selG_all ru rw_ hu hw (sel := sel) fun p hp => h p (List.mem_cons_of_mem _ hp)
    have hi : i < as.length := by
      have := h _ List.mem_cons_self
      simp only [if_true] at this
      omega
    have e1 : as[i]? = some as[i] := List.getElem?_eq_getElem hi
    obtain ⟨v, e2, r⟩ := ru.get e1
    have g1 : selG ((true, i) :: sel) us ws = v :: selG sel us ws := by
      unfold selG
      rw [List.filterMap_cons]
      simp only [if_true, e2]
    have g2 : selG ((true, i) :: sel) as bs = as[i] :: selG sel as bs := by
      unfold selG
      rw [List.filterMap_cons]
      simp only [if_true, e1]
    rw [g1, g2]
    exact ⟨.cons r h1, congrArg Nat.succ h2⟩
  | (false, i) :: sel, h => by
    obtain ⟨h1, h2⟩ := selG_all ru rw_ hu hw (sel := sel) fun p hp => h p (List.mem_cons_of_mem _ hp)
    have hi : i < bs.length := by
      have := h _ List.mem_cons_self
      simp only [Bool.false_eq_true, if_false] at this
      omega
    have e1 : bs[i]? = some bs[i] := List.getElem?_eq_getElem hi
    obtain ⟨v, e2, r⟩ := rw_.get e1
    have g1 : selG ((false, i) :: sel) us ws = v :: selG sel us ws := by
      unfold selG
      rw [List.filterMap_cons]
      simp only [Bool.false_eq_true, if_false, e2]
    have g2 : selG ((false, i) :: sel) as bs = bs[i] :: selG sel as bs := by
      unfold selG
      rw [List.filterMap_cons]
      simp only [Bool.false_eq_true, if_false, e1]
    rw [g1, g2]
    exact ⟨.cons r h1, congrArg Nat.succ h2⟩
theorem selG_vals {n m : Nat} {us ws : List V} {as bs : List Value} (ru : Vals us as) (rw_ : Vals ws bs) (hu : us.length = n) (hw : ws.length = m) : ∀ {sel : List (Bool × Nat)}, (∀ p ∈ sel, p.2 < if p.1 then n else m) → Vals (selG sel us ws) (selG sel as bs)
  | [], _ => .nil
  | (true, i) :: sel, h => by
    have h1 := selG_vals ru rw_ hu hw (sel := sel) fun p hp => h p (List.mem_cons_of_mem _ hp)
    have hi : i < us.length := by
      have := h _ List.mem_cons_self
      simp only [if_true] at this
      omega
    have e1 : us[i]? = some us[i] := List.getElem?_eq_getElem hi
    obtain ⟨v, e2, r⟩ := ru.get e1
    have g1 : selG ((true, i) :: sel) us ws = us[i] :: selG sel us ws := by
      unfold selG
      rw [List.filterMap_cons]
      simp only [if_true, e1]
    have g2 : selG ((true, i) :: sel) as bs = v :: selG sel as bs := by
      unfold selG
      rw [List.filterMap_cons]
      simp only [if_true, e2]
    rw [g1, g2]
    exact .cons r h1
  | (false, i) :: sel, h => by
    have h1 := selG_vals ru rw_ hu hw (sel := sel) fun p hp => h p (List.mem_cons_of_mem _ hp)
    have hi : i < ws.length := by
      have := h _ List.mem_cons_self
      simp only [Bool.false_eq_true, if_false] at this
      omega
    have e1 : ws[i]? = some ws[i] := List.getElem?_eq_getElem hi
    obtain ⟨v, e2, r⟩ := rw_.get e1
    have g1 : selG ((false, i) :: sel) us ws = ws[i] :: selG sel us ws := by
      unfold selG
      rw [List.filterMap_cons]
      simp only [Bool.false_eq_true, if_false, e1]
    have g2 : selG ((false, i) :: sel) as bs = v :: selG sel as bs := by
      unfold selG
      rw [List.filterMap_cons]
      simp only [Bool.false_eq_true, if_false, e2]
    rw [g1, g2]
    exact .cons r h1
section
variable {X : Cx} {ca : Nat → Addr} {W : WX} {k n : Nat} {ks : List Str} {F : List D → List D → M D}
theorem run_calK {B : Around} {f : Addr} (G : CalK X.prog X.w X.K X.mg X.base ca k f n ks F) (hr : Room k B) {pins : List (Addr × Obj)} {σ : L2.St} {H : Hp} {s : Shared} {us us2 : List Value} {vs vs2 : List V} {ds es : List D} {μ : Gh} {S : Sto} {Q : VK} {EE : Value → Shared → Prop} {E0 : XK}
    (e0 : Env0 X.prog X.w X.K X.mg X.base B X.stack s H) (tk : ∀ e s', L2.CX X.prog X.w X.stack H s E0 e s' → EE e s')
    (I : Inv X pins σ H s) (r : Vals vs us) (r2 : Vals vs2 us2) (rd : RepAll (gx X ca) μ S H vs ds) (rd2 : RepAll (gx X ca) μ S H vs2 es) (hl : ds.length = n) (hl2 : es.length = ks.length) (sto : StoOk (gx X ca) μ S H)
    (h : Wp (gx X ca) E0 (F ds es) μ S H fun d μ' S' H' => ∀ v, Rep (gx X ca) μ' S' H' v d → Q v H') : wpAny (model X.prog X.w) B (call (.ref f) us (ks.zip us2)) (EP X pins σ Q) EE s := by
  obtain ⟨fd, ps, sel, F0, G1, hs, hb, rfl⟩ := G.ex
  obtain ⟨ra, la⟩ := selG_all rd rd2 hl hl2 hs
  have rv := selG_vals r r2 (rd.length.trans hl) (rd2.length.trans hl2) hs
  have hsp : spD ⟨X.K, ca⟩ sel.length F0 (selG sel vs vs2) H Q E0 := ⟨selG sel ds es, μ, S, by rw [ra.length, la], ra, sto, h⟩
  have go := G1.run B X.stack s H ⟨us, ks.zip us2⟩ (selG sel us us2) (selG sel vs vs2) Q E0 hr e0 (hb s us us2 (r.length.symm.trans (rd.length.trans hl)) (r2.length.symm.trans (rd2.length.trans hl2))) rv hsp
  refine wpAny_call (codeAny_mono go fun res s' hq => ?_)
  match res, hq with
  | .error e, hq => exact tk e s' hq
  | .ok (.ret u), hq => exact I.after hq
  | .ok .next, hq => exact hq.elim
  | .ok .brk, hq => exact hq.elim
  | .ok .cont, hq => exact hq.elim
theorem pkOf {kws : List Keyword} {t t' : TA} (h : PK X kws t) (q : ∀ σ H Q, t' σ H Q → t σ H Q) : PK X kws t' := ⟨fun pos pins s σ H Q I hq => h.run pos pins s σ H Q I (q σ H Q hq)⟩
theorem kd_nil : PK X [] (tDA (gx X ca) W aNil) := pkOf pk_nil fun σ H Q ⟨ρ, μ, S, env, sto, h⟩ => Wp.pure h sto _ .nil
theorem kd_cons {e : Expr} {f : DEnv → M D} {kws : List Keyword} {fs : DEnv → M (List D)} {nm : Option Str} {kpos : Pos} (ha : PE X e (tD (gx X ca) W f)) (hr : PK X kws (tDA (gx X ca) W fs)) : PK X (⟨nm, e, kpos⟩ :: kws) (tDA (gx X ca) W (aCons f fs)) :=
  pkOf (pk_cons ha hr) fun σ H Q ⟨ρ, μ, S, env, sto, h⟩ => tD_then env sto h fun d μ1 S1 H1 v t1 k1 env1 r1 h1 => tDA_then env1 k1 h1 fun ds μ2 S2 H2 vs t2 k2 env2 r2 h2 =>
    Wp.pure h2 k2 _ (.cons (r1.step t2) r2)
abbrev KTab := List (Nat × (List D → List D → M D))
structure MetK (P : Program) (w : World) (K : PySem.W.Frag) (mg : Str → Option Value) (base : Heap) (ca : Nat → Addr) (k : Nat) (c : Nat) (m : Str) (n : Nat) (ks : List Str) (F : List D → List D → M D) : Prop where
  ex : ∃ f, Cls K (ca c) ∧ Meth K (ca c) m f ∧ CalK P w K mg base ca k f (n + 1) ks F
theorem MetK.mono {P : Program} {w : World} {K : PySem.W.Frag} {mg : Str → Option Value} {base : Heap} {j c : Nat} {m : Str} (h : MetK P w K mg base ca j c m n ks F) (l : j ≤ k) : MetK P w K mg base ca k c m n ks F := by
  obtain ⟨f, h1, h2, h3⟩ := h.ex
  exact ⟨f, h1, h2, h3.mono l⟩
def pickK (T : KTab) (m : Str) (x : D) : M (List D → List D → M D) := do
  let p ← insD x
  M.need (p.2.lookup m = none)
  M.get fun _ => T.lookup p.1
theorem lookup_mem {α : Type} {T : List (Nat × α)} {c : Nat} {F : α} (h : T.lookup c = some F) : (c, F) ∈ T := by
  induction T with
  | nil => cases h
  | cons p T ih =>
    obtain ⟨c', F'⟩ := p
    rw [List.lookup_cons] at h
    by_cases z : c = c'
    · subst z
      rw [beq_self_eq_true] at h
      cases h
      exact List.mem_cons_self
    · rw [beq_eq_false_iff_ne.mpr z] at h
      exact List.mem_cons_of_mem _ (ih h)
theorem Wp.pickK {g : Gx} {E : XK} {μ : Gh} {S : Sto} {H : Hp} {x : D} {v : V} {T : KTab} {m : Str} {Q : (List D → List D → M D) → Gh → Sto → Hp → Prop} (h : Wp g E (pickK T m x) μ S H Q) (k : StoOk g μ S H) (r : Rep g μ S H v x) :
    ∃ c a dx vs F, v = .ref a ∧ H a = some (.ins (g.ca c) dx vs) ∧ vs.lookup m = none ∧ (c, F) ∈ T ∧ Q F μ S H := by
  obtain ⟨c, fs, a, dx, vs, ev, ea, rf, h2⟩ := Wp.insD (Wp.bind h) k r
  obtain ⟨hn, h3⟩ := Wp.need (Wp.bind h2) k
  obtain ⟨F, e1, h4⟩ := Wp.get h3 k
  exact ⟨c, a, dx, vs, F, ev, ea, rf.none hn, lookup_mem e1, h4 (Step.refl _ _ _) (Step.refl _ _ _)⟩
/-- o.m(k = v, ..) -/
def dMethK0 (T : KTab) (m : Str) (nk : Nat) (fo : DEnv → M D) (fk : DEnv → M (List D)) : DEnv → M D := fun ρ => do
  let x ← fo ρ
  let F ← pickK T m x
  let bs ← fk ρ
  M.need (bs.length = nk)
  F [x] bs
theorem pd_methK0 {pl : Sem Bool} {T : KTab} {m : Str} {o : Expr} {fo : DEnv → M D} {kws : List Keyword} {fk : DEnv → M (List D)} {pos apos : Pos} (hT : ∀ q ∈ T, MetK X.prog X.w X.K X.mg X.base ca k q.1 m 0 ks q.2) (hr : Room k X.A) (tk : Takes X W) (ho : PE X o (tD (gx X ca) W fo))
    (hkw : PK X kws (tDA (gx X ca) W fk)) (hall : (backToKw pos (keywordEach kws X.env)).all (·.1.isSome) = true := by rfl) (hks : (backToKw pos (keywordEach kws X.env)).filterMap (·.1) = ks := by rfl)
    (hpl : ((backTo pos (starEach [] X.env)).any (·.1) || (backToKw pos (keywordEach kws X.env)).any (·.1.isNone)) = false := by rfl)
    (ht : eval (.Call (.Attribute o m apos) [] kws pos) X.env = (do
      let ov ← eval o X.env
      standAt apos.atName
      let (f, first) ← holding [ov] (getMethod ov m pl)
      callWith pos f first (backTo pos (starEach [] X.env)) (backToKw pos (keywordEach kws X.env))) := by rfl) :
    PE X (.Call (.Attribute o m apos) [] kws pos) (tD (gx X ca) W (dMethK0 T m ks.length fo fk)) := by
  refine ⟨fun pins s σ H Q I ⟨ρ, μ, S, env, sto, h⟩ => PySem.W.methodCall_KW (pl := pl) ?_ ht⟩
  have first : tD (gx X ca) W fo σ H fun v H1 => ∃ ρ μ1 S1 d, EnvOk (gx X ca) μ1 S1 H1 σ ρ ∧ StoOk (gx X ca) μ1 S1 H1 ∧ Rep (gx X ca) μ1 S1 H1 v d ∧
      Wp (gx X ca) (fun c d H' => W c d σ H') (do let F ← pickK T m d; let bs ← fk ρ; M.need (bs.length = ks.length); F [d] bs) μ1 S1 H1 fun d μ' S' H' => ∀ v, Rep (gx X ca) μ' S' H' v d → Q v H' :=
    tD_then env sto h fun d μ1 S1 H1 v t1 k1 env1 r1 h1 => ⟨ρ, μ1, S1, d, env1, k1, r1, h1⟩
  refine thn (ho.run pins s σ H _ I first) fun u s1 ⟨x, H1, I1, rx, ρ, μ1, S1, d, env1, k1, r1, h1⟩ => ?_
  obtain ⟨c, a, dx, vs, F, rfl, ea, hn, hF, h2⟩ := Wp.pickK (Wp.bind h1) k1 r1
  obtain rfl : u = Value.ref a := rx
  obtain ⟨f, cl, mt, G⟩ := (hT _ hF).ex
  refine getmeth_ok I1 ea cl mt hn ?_
  have args : tDA (gx X ca) W fk σ H1 fun vs2 H2 => ∃ μ2 S2 bs, Rep (gx X ca) μ2 S2 H2 (V.ref a) d ∧ RepAll (gx X ca) μ2 S2 H2 vs2 bs ∧ bs.length = ks.length ∧ StoOk (gx X ca) μ2 S2 H2 ∧
      Wp (gx X ca) (fun c d H' => W c d σ H') (F [d] bs) μ2 S2 H2 fun d μ' S' H' => ∀ v, Rep (gx X ca) μ' S' H' v d → Q v H' :=
    tDA_then env1 k1 (h2.mono fun _ _ _ _ t _ z => z t) fun as μ2 S2 H2 vs t2 k2 env2 r2 h3 => by
      obtain ⟨hl, h4⟩ := Wp.need (Wp.bind h3) k2
      exact ⟨μ2, S2, as, r1.step t2, r2, hl, k2, h4.mono fun _ _ _ _ t _ z => z t⟩
  refine PySem.W.callWith_KW0 (first := [.ref a]) (h₀ := X.base) I.ok.mod.kin mt.kp hall (thn (hkw.run pos pins s1 σ H1 _ I1 args) fun us s2 ⟨vs2, H2, I2, r, μ2, S2, bs, ra, rb, hl, k2, h4⟩ => ⟨I2.kIn, ?_⟩) hpl
  rw [hks]
  exact run_calK G hr I2.env0 (fun e s' c => takes_at tk σ I2 c) I2 (us := [.ref a]) (vs := [.ref a]) (.cons rfl .nil) r (.cons ra .nil) rb rfl hl k2 h4
end
end DD

/-! DD15: texts walked; a, b, c = x, y, z; defs with defaults; what stands at the top -/
namespace DD
open PySem PySem.Spec PyProof.Rows L2

/-! ### the signs of a text -/
def signsD (x : Str) : List D := x.cps.toList.map fun c => .str ⟨#[c]⟩
theorem itd_str {g : Gx} {μ : Gh} {S : Sto} {H : Hp} (x : Str) : ItD g (Its x) (signsD x) none μ S H where
  go := fun i y μ' S' H' e t k _ => by
    have := (List.getElem?_eq_some_iff.mp e).1
    show i < x.cps.size
    simpa [signsD] using this
  stop := fun μ' S' H' t k _ => by
    show x.cps.size ≤ _
    simp [signsD]
  yld := fun i y μ' S' H' v H2 e t k _ q => by
    obtain ⟨rfl, c, hc, rfl⟩ := q
    have e2 : y = .str ⟨#[c]⟩ := by
      unfold signsD at e
      rw [List.getElem?_map, Array.getElem?_toList, hc] at e
      exact (Option.some.inj e).symm
    subst e2
    exact ⟨Step.refl _ _ _, k, .str _⟩
def srcStr (f : DEnv → M D) : DEnv → M Src := fun ρ => do
  let d ← f ρ
  let x ← toS d
  pure (signsD x, none)
section
variable {X : Cx} {ca : Nat → Addr} {W : WX} {e tg : Expr} {f : DEnv → M D}
theorem id_str (he : PE X e (tD (gx X ca) W f)) : PI X tg e (tI (gx X ca) W (srcStr f)) :=
  piOf (pi_str he) fun σ H R ⟨ρ, μ, S, env, sto, h⟩ => tD_then env sto h fun d μ1 S1 H1 v t1 k1 env1 r1 h1 => by
    obtain ⟨x, rfl, h2⟩ := Wp.toS (Wp.bind h1) k1 r1
    exact ⟨x, rfl, Wp.pure h2 k1 (Step.refl _ _ _) _ (itd_str x)⟩
def sPar3 (i j l : Nat) (fs : DEnv → M (List D)) : DEnv → M Fl := fun ρ => M.cat (fs ρ) ρ fun ds => match ds with
  | [a, b, c] => pure (.nx (((ρ.set i (some a)).set j (some b)).set l (some c)))
  | _ => M.bad
theorem rep3 {g : Gx} {μ : Gh} {S : Sto} {H : Hp} {vs : List V} {d e f : D} (r : RepAll g μ S H vs [d, e, f]) : ∃ v u w, vs = [v, u, w] ∧ Rep g μ S H v d ∧ Rep g μ S H u e ∧ Rep g μ S H w f := by
  cases r with
  | cons r q =>
    obtain ⟨u, w, rfl, r2, r3⟩ := rep2 q
    exact ⟨_, u, w, rfl, r, r2, r3⟩
theorem sd_par3 (i j l : Nat) {x y z : Str} {a b c : Expr} {px py pz pt pt2 pos : Pos} {kt k2 : Nat} {fs : DEnv → M (List D)} (hc : X.calm = true) (hN : X.N.Nodup) (ha : PA X [a, b, c] (tDA (gx X ca) W fs)) (hi : X.N[i]? = some x := by rfl) (hj : X.N[j]? = some y := by rfl) (hl : X.N[l]? = some z := by rfl)
    (hij : i ≠ j := by decide) (hil : i ≠ l := by decide) (hjl : j ≠ l := by decide)
    (hx : X.env.scope.names.lookup x = some .local := by rfl) (hy : X.env.scope.names.lookup y = some .local := by rfl) (hz : X.env.scope.names.lookup z = some .local := by rfl)
    (hw : swappedStores [.Tuple [.Name x px, .Name y py, .Name z pz] kt pt] (.Tuple [a, b, c] k2 pt2) X.env = pure (some [x, y, z]) := by rfl)
    (hs : swapsWithSole [.Tuple [.Name x px, .Name y py, .Name z pz] kt pt] (.Tuple [a, b, c] k2 pt2) pos.line X.env = pure false := by rfl) :
    PS X (.Assign [.Tuple [.Name x px, .Name y py, .Name z pz] kt pt] (.Tuple [a, b, c] k2 pt2) pos) (tS (gx X ca) W (sPar3 i j l fs)) :=
  psOf (ps_par3 hc hN hi hj hl hij hil hjl hx hy hz ha hw hs) fun E σ H ⟨ρ, μ, S, env, sto, h⟩ => sDA_then env sto h fun ds μ1 S1 H1 vs t1 k1 env1 r1 h1 => by
    match ds, r1, h1 with
    | [d1, d2, d3], r1, h1 =>
      obtain ⟨v, u, w, rfl, q1, q2, q3⟩ := rep3 r1
      exact ⟨v, u, w, rfl, Wp.pure h1 k1 _ (((env1.set i q1).set j q2).set l q3)⟩
    | [], _, h1 => exact (show False from h1).elim
    | [_], _, h1 => exact (show False from h1).elim
    | [_, _], _, h1 => exact (show False from h1).elim
    | _ :: _ :: _ :: _ :: _, _, h1 => exact (show False from h1).elim
end

/-! ### what stands at the top -/
section
variable {P : Program} {w : World} {K : PySem.W.Frag} {mg : Str → Option Value} {base : Heap} {ca : Nat → Addr}
/-- a def of the module, no defaults -/
structure Def (K : PySem.W.Frag) (mg : Str → Option Value) (x : Str) (st : Stmt) (ps : List Str) : Prop where
  ex : ∃ f fd, Fun K x x st f fd ∧ mg x = some (.ref f) ∧ Binds K fd ps []
theorem Def.mk' {x : Str} {st : Stmt} {ps : List Str} {h : Heap} {f : Addr} {oc : Value} {od an : Option Addr} {osl : Array (Option Value)} {kV doc pm cdv ct : Value} (X : K.In h) (G : h.Ns mainGlobals mg)
    (b : ∀ (kV doc pm : Value) (an : Option Addr) (cdv ct : Value) (us : List Value), us.length = ps.length → bindArgs (PySem.W.fnOf x x (defArgs st) (defBody st) (defScope st) .none kV doc pm an cdv ct) ⟨us, []⟩ = pure (ps.zip us))
    (a : PySem.W.nsIn K mainGlobals x = some (some (.ref f))) (l : K.lookup f = some ⟨oc, od, .func (PySem.W.fnOf x x (defArgs st) (defBody st) (defScope st) .none kV doc pm an cdv ct), osl⟩)
    (c : PySem.W.codeIn K cdv x = true) (k : PySem.W.keepIn K (.ref f) = true) : Def K mg x st ps := by
  have F := fun_mk (st := st) l c k
  exact ⟨f, _, F, PySem.W.mg_of X G a, F.binds b⟩
theorem Def.has {x : Str} {st : Stmt} {N ps : List Str} {k n : Nat} {fb : DEnv → M Fl} (d : Def K mg x st ps) (sc : FnScope N ps (defScope st)) (hn : ps.length = n)
    (body : ∀ (f : Addr) (cdv : Value) (A : Around) (outer : List Env) (s : Shared) (H : Hp) (E : XK), Room k (cxD P w K mg base N x (defScope st) f cdv A outer s H E).A → Takes (cxD P w K mg base N x (defScope st) f cdv A outer s H E) (wD E) →
      PassesOwn (model P w) (cxD P w K mg base N x (defScope st) f cdv A outer s H E).A (cxD P w K mg base N x (defScope st) f cdv A outer s H E).env (cxD P w K mg base N x (defScope st) f cdv A outer s H E).xe →
      PSs (cxD P w K mg base N x (defScope st) f cdv A outer s H E) (defBody st) (tS ⟨K, ca⟩ (wD E) fb)) : Has P w K mg base ca (k + 1) x n (runF N.length fb) := by
  obtain ⟨f, fd, F, hm, hb⟩ := d.ex
  exact ⟨f, fd, ps, fn_D F sc hn (body f), hm, F.kp, hb⟩
/-- a method, no defaults -/
structure DefM (K : PySem.W.Frag) (ca : Nat → Addr) (c : Nat) (x qual : Str) (st : Stmt) (ps : List Str) : Prop where
  ex : ∃ f fd, Fun K x qual st f fd ∧ Meth K (ca c) x f ∧ PySem.W.fnIn K f = true ∧ Binds K fd ps []
theorem DefM.mk' {c : Nat} {x qual : Str} {st : Stmt} {ps : List Str} {f : Addr} {oc : Value} {od an : Option Addr} {osl : Array (Option Value)} {kV doc pm cdv ct : Value}
    (b : ∀ (kV doc pm : Value) (an : Option Addr) (cdv ct : Value) (us : List Value), us.length = ps.length → bindArgs (PySem.W.fnOf x qual (defArgs st) (defBody st) (defScope st) .none kV doc pm an cdv ct) ⟨us, []⟩ = pure (ps.zip us))
    (a : PySem.W.findIn K (.ref (ca c)) x = some (some (.ref f))) (i : PySem.W.isFn K (.ref f) = true) (l : K.lookup f = some ⟨oc, od, .func (PySem.W.fnOf x qual (defArgs st) (defBody st) (defScope st) .none kV doc pm an cdv ct), osl⟩)
    (cc : PySem.W.codeIn K cdv qual = true) (k : PySem.W.keepIn K (.ref f) = true) : DefM K ca c x qual st ps := by
  have F := fun_mk (st := st) l cc k
  refine ⟨f, _, F, ⟨a, i, k⟩, ?_, F.binds b⟩
  unfold PySem.W.fnIn
  rw [l]
theorem DefM.cal {c : Nat} {x qual : Str} {st : Stmt} {N ps : List Str} {k n : Nat} {fb : DEnv → M Fl} (d : DefM K ca c x qual st ps) (sc : FnScope N ps (defScope st)) (hn : ps.length = n)
    (body : ∀ (f : Addr) (cdv : Value) (A : Around) (outer : List Env) (s : Shared) (H : Hp) (E : XK), Room k (cxD P w K mg base N qual (defScope st) f cdv A outer s H E).A → Takes (cxD P w K mg base N qual (defScope st) f cdv A outer s H E) (wD E) →
      PassesOwn (model P w) (cxD P w K mg base N qual (defScope st) f cdv A outer s H E).A (cxD P w K mg base N qual (defScope st) f cdv A outer s H E).env (cxD P w K mg base N qual (defScope st) f cdv A outer s H E).xe →
      PSs (cxD P w K mg base N qual (defScope st) f cdv A outer s H E) (defBody st) (tS ⟨K, ca⟩ (wD E) fb)) :
    ∃ f, Meth K (ca c) x f ∧ PySem.W.fnIn K f = true ∧ Cal P w K mg base ca (k + 1) f n (runF N.length fb) := by
  obtain ⟨f, fd, F, hm, hi, hb⟩ := d.ex
  exact ⟨f, hm, hi, .of (fn_D F sc hn (body f)) hb⟩
theorem met_of {c k n : Nat} {x : Str} {F : List D → M D} (cl : Cls K (ca c)) (h : ∃ f, Meth K (ca c) x f ∧ PySem.W.fnIn K f = true ∧ Cal P w K mg base ca k f (n + 1) F) : MetAt P w K mg base ca k c x n F := by
  obtain ⟨f, h1, h2, h3⟩ := h
  exact ⟨f, cl, h1, h3⟩
theorem slt_of {c k n : Nat} {x : Str} {F : List D → M D} (h : ∃ f, Meth K (ca c) x f ∧ PySem.W.fnIn K f = true ∧ Cal P w K mg base ca k f n F) : SltAt P w K mg base ca k c x n F := by
  obtain ⟨f, h1, h2, h3⟩ := h
  exact ⟨f, h1.at_, h2, h1.fn, h3⟩
/-- the keywords' order of a method without defaults -/
theorem DefM.kw {c : Nat} {x qual : Str} {st : Stmt} {N ps : List Str} {k : Nat} {fb : DEnv → M Fl} (d : DefM K ca c x qual st ps) (cl : Cls K (ca c)) (sc : FnScope N ps (defScope st)) (m : Nat) (ks : List Str) (sel : List (Bool × Nat)) (hn : ps.length = sel.length) (hs : ∀ p ∈ sel, p.2 < if p.1 then m + 1 else ks.length)
    (hb : ∀ (fd : FuncData), (∃ kV doc pm an cdv ct, fd = PySem.W.fnOf x qual (defArgs st) (defBody st) (defScope st) .none kV doc pm an cdv ct) → ∀ (us ws : List Value), us.length = m + 1 → ws.length = ks.length → bindArgs fd ⟨us, ks.zip ws⟩ = pure (ps.zip (selG sel us ws)))
    (body : ∀ (f : Addr) (cdv : Value) (A : Around) (outer : List Env) (s : Shared) (H : Hp) (E : XK), Room k (cxD P w K mg base N qual (defScope st) f cdv A outer s H E).A → Takes (cxD P w K mg base N qual (defScope st) f cdv A outer s H E) (wD E) →
      PassesOwn (model P w) (cxD P w K mg base N qual (defScope st) f cdv A outer s H E).A (cxD P w K mg base N qual (defScope st) f cdv A outer s H E).env (cxD P w K mg base N qual (defScope st) f cdv A outer s H E).xe →
      PSs (cxD P w K mg base N qual (defScope st) f cdv A outer s H E) (defBody st) (tS ⟨K, ca⟩ (wD E) fb)) : MetK P w K mg base ca (k + 1) c x m ks (fun as bs => runF N.length fb (selG sel as bs)) := by
  obtain ⟨f, fd, F, hm, hi, hb0⟩ := d.ex
  refine ⟨f, cl, hm, fd, ps, sel, _, fn_D F sc hn (body f), hs, fun s us ws h1 h2 => .of_eq (hb fd ?_ us ws h1 h2), rfl⟩
  obtain ⟨oc, od, kV, doc, pm, an, cdv, ct, osl, e, _⟩ := F.ex
  exact ⟨kV, doc, pm, an, cdv, ct, e⟩
/-- a property -/
structure DefP (K : PySem.W.Frag) (ca : Nat → Addr) (c : Nat) (x qual : Str) (st : Stmt) : Prop where
  ex : ∃ p f fd, Fun K x qual st f fd ∧ PropOf K (ca c) x p f ∧ Binds K fd ["self"] []
theorem DefP.mk' {c : Nat} {x qual : Str} {st : Stmt} {p f : Addr} {rest : List Value} {oc : Value} {od an : Option Addr} {osl : Array (Option Value)} {kV doc pm cdv ct : Value}
    (b : ∀ (kV doc pm : Value) (an : Option Addr) (cdv ct : Value) (us : List Value), us.length = 1 → bindArgs (PySem.W.fnOf x qual (defArgs st) (defBody st) (defScope st) .none kV doc pm an cdv ct) ⟨us, []⟩ = pure ((["self"] : List Str).zip us))
    (a : PySem.W.findIn K (.ref (ca c)) x = some (some (.ref p))) (ge : PySem.W.specialIn K (.ref p) "__get__" = some (some (.builtin "property.__get__"))) (ta : PySem.W.takesIn K (.ref p) = some true) (re : PySem.W.recIn K p "property" = some (.ref f :: rest))
    (l : K.lookup f = some ⟨oc, od, .func (PySem.W.fnOf x qual (defArgs st) (defBody st) (defScope st) .none kV doc pm an cdv ct), osl⟩)
    (cc : PySem.W.codeIn K cdv qual = true) (k : PySem.W.keepIn K (.ref f) = true) : DefP K ca c x qual st := by
  have F := fun_mk (st := st) l cc k
  exact ⟨p, f, _, F, ⟨a, ge, ta, rest, re⟩, F.binds (ps := ["self"]) b⟩
theorem DefP.at {c : Nat} {x qual : Str} {st : Stmt} {N : List Str} {k : Nat} {fb : DEnv → M Fl} (d : DefP K ca c x qual st) (cl : Cls K (ca c)) (sc : FnScope N ["self"] (defScope st))
    (body : ∀ (f : Addr) (cdv : Value) (A : Around) (outer : List Env) (s : Shared) (H : Hp) (E : XK), Room k (cxD P w K mg base N qual (defScope st) f cdv A outer s H E).A → Takes (cxD P w K mg base N qual (defScope st) f cdv A outer s H E) (wD E) →
      PassesOwn (model P w) (cxD P w K mg base N qual (defScope st) f cdv A outer s H E).A (cxD P w K mg base N qual (defScope st) f cdv A outer s H E).env (cxD P w K mg base N qual (defScope st) f cdv A outer s H E).xe →
      PSs (cxD P w K mg base N qual (defScope st) f cdv A outer s H E) (defBody st) (tS ⟨K, ca⟩ (wD E) fb)) : PropAt P w K mg base ca (k + 1) c x (runF N.length fb) := by
  obtain ⟨p, f, fd, F, hp, hb⟩ := d.ex
  exact ⟨p, f, fd, cl, hp, fn_D F sc rfl (body f), hb⟩
/-- an __init__: no defaults, or one tuple of them (dvs: as values, dd: as data) -/
structure DefI (K : PySem.W.Frag) (mg : Str → Option Value) (ca : Nat → Addr) (c : Nat) (cn qual : Str) (st : Stmt) (ps : List Str) (dd : List D) : Prop where
  ex : ∃ f fd us ws, (∀ {P : Program} {w : World} {base : Heap} {N : List Str} {k : Nat} {fb : DEnv → M Fl}, FnScope N ps (defScope st) →
      (∀ (f : Addr) (cdv : Value) (A : Around) (outer : List Env) (s : Shared) (H : Hp) (E : XK), Room k (cxD P w K mg base N qual (defScope st) f cdv A outer s H E).A → Takes (cxD P w K mg base N qual (defScope st) f cdv A outer s H E) (wD E) →
        PassesOwn (model P w) (cxD P w K mg base N qual (defScope st) f cdv A outer s H E).A (cxD P w K mg base N qual (defScope st) f cdv A outer s H E).env (cxD P w K mg base N qual (defScope st) f cdv A outer s H E).xe →
        PSs (cxD P w K mg base N qual (defScope st) f cdv A outer s H E) (defBody st) (tS ⟨K, ca⟩ (wD E) fb)) → FnOk P w K mg base (L2.CX P w) (k + 1) f fd ps (spD ⟨K, ca⟩ ps.length (runF N.length fb))) ∧
    Mk K (ca c) f ∧ mg cn = some (.ref (ca c)) ∧ Binds K fd ps us ∧ Vals ws us ∧ ∀ μ S H, RepAll ⟨K, ca⟩ μ S H ws dd
theorem DefI.at {c : Nat} {cn qual : Str} {st : Stmt} {ps N : List Str} {dd : List D} {k n : Nat} {fb : DEnv → M Fl} (d : DefI K mg ca c cn qual st ps dd) (sc : FnScope N ps (defScope st)) (hn : n + 1 + dd.length = ps.length)
    (body : ∀ (f : Addr) (cdv : Value) (A : Around) (outer : List Env) (s : Shared) (H : Hp) (E : XK), Room k (cxD P w K mg base N qual (defScope st) f cdv A outer s H E).A → Takes (cxD P w K mg base N qual (defScope st) f cdv A outer s H E) (wD E) →
      PassesOwn (model P w) (cxD P w K mg base N qual (defScope st) f cdv A outer s H E).A (cxD P w K mg base N qual (defScope st) f cdv A outer s H E).env (cxD P w K mg base N qual (defScope st) f cdv A outer s H E).xe →
      PSs (cxD P w K mg base N qual (defScope st) f cdv A outer s H E) (defBody st) (tS ⟨K, ca⟩ (wD E) fb)) : MakAt P w K mg base ca (k + 1) cn c n (fun as => runF N.length fb (as ++ dd)) := by
  obtain ⟨f, fd, us, ws, h1, h2, h3, h4, h5, h6⟩ := d.ex
  exact ⟨f, h2, h3, fd, ps, us, ws, dd, ps.length, _, h1 sc body, h4, h5, h6, hn, rfl⟩
theorem DefI.mk' {c : Nat} {cn qual : Str} {st : Stmt} {ps : List Str} {f : Addr} {oc : Value} {od an : Option Addr} {osl : Array (Option Value)} {kV doc pm cdv ct : Value}
    (b : ∀ (kV doc pm : Value) (an : Option Addr) (cdv ct : Value) (us : List Value), us.length = ps.length → bindArgs (PySem.W.fnOf "__init__" qual (defArgs st) (defBody st) (defScope st) .none kV doc pm an cdv ct) ⟨us, []⟩ = pure (ps.zip us))
    (hm : mg cn = some (.ref (ca c))) (M : Mk K (ca c) f) (l : K.lookup f = some ⟨oc, od, .func (PySem.W.fnOf "__init__" qual (defArgs st) (defBody st) (defScope st) .none kV doc pm an cdv ct), osl⟩)
    (cc : PySem.W.codeIn K cdv qual = true) (k : PySem.W.keepIn K (.ref f) = true) : DefI K mg ca c cn qual st ps [] := by
  have F := fun_mk (st := st) l cc k
  exact ⟨f, _, [], [], fun sc body => fn_D F sc rfl (body f), M, hm, F.binds b, .nil, fun _ _ _ => .nil⟩
/-- with defaults: n are written, those behind the first j fill up -/
theorem DefI.mkD {c : Nat} {cn qual : Str} {st : Stmt} {ps : List Str} {dvs : List V} {dd : List D} {f : Addr} {fd : FuncData} (n j : Nat) (F : FunD K "__init__" qual (defArgs st) (defBody st) (defScope st) dvs [] f fd) (hd : dvs ≠ []) (hn : n + (dvs.length - j) = ps.length)
    (b : ∀ (T : Addr) (kV doc pm : Value) (an : Option Addr) (cdv ct : Value) (us its : List Value), us.length = n → its.length = dvs.length →
      ∃ k, bindArgs (PySem.W.fnOf "__init__" qual (defArgs st) (defBody st) (defScope st) (.ref T) kV doc pm an cdv ct) ⟨us, []⟩ = seqItems? (.ref T) >>= k ∧ k (some its.toArray) = pure (ps.zip (us ++ its.drop j)))
    (hm : mg cn = some (.ref (ca c))) (M : Mk K (ca c) f) (rd : ∀ μ S H, RepAll ⟨K, ca⟩ μ S H (dvs.drop j) dd) : DefI K mg ca c cn qual st ps dd := by
  obtain ⟨ds, hv, hb⟩ := F.binds1 (ps := ps) n j hd hn b
  refine ⟨f, fd, ds, dvs.drop j, fun sc body => F.ok sc (fun vs H Q E h => ?_) (fun cdv A outer s H vs Q E hr h => ⟨_, body f cdv A outer s H E hr (takes_of rfl rfl rfl rfl) (passes_of rfl), sp_body h⟩), M, hm, hb, hv, rd⟩
  obtain ⟨_, _, _, hl, _⟩ := h
  exact hl
end
end DD

/-! DD16: y = [.. for ..]; names of built-in types -/
namespace DD
open PySem PySem.Spec PyProof.Rows L2
section
variable {X : Cx} {ca : Nat → Addr} {W : WX} {elt tg iter : Expr} {ifs : List Expr} {scope : Scope} {own : List (Str × Nat)} {pos spos py : Pos} {src : DEnv → M Src} {is : List Nat} {k : D → DEnv → M DEnv} {tt : DEnv → M Bool} {te : DEnv → M D}
theorem sd_ofAsg {st : Stmt} {i : Nat} {t : TE} {f : DEnv → M D} (h : PS X st (tAsg t (gName i))) (ht : ∀ σ H Q, tD (gx X ca) W f σ H Q → t σ H Q) : PS X st (tS (gx X ca) W (sSet i f)) :=
  psOf h fun E σ H ⟨ρ, μ, S, env, sto, h⟩ => ht σ H _ (sD_then env sto h fun d μ1 S1 H1 v t1 k1 env1 r1 h1 => Wp.pure h1 k1 _ (env1.set i r1))
theorem dlc_t {σ : L2.St} {H : Hp} {Q : VK} {g : Gx} (his : ∀ i ∈ is, i ∈ own.map (·.2)) (h : tD g W (dLc src k tt te (own.map (·.2))) σ H Q) : tLc (tI g W src) (tG g is k) (tDT g WF tt) (tD g WF te) (own.map (·.2)) σ H Q := by
  obtain ⟨ρ, μ, S, env, sto, h⟩ := h
  exact ⟨ρ, μ, S, env, sto, (Wp.bind h).mono fun s μ1 S1 H1 t1 k1 w J hJ D0 hD => by
    obtain ⟨ys, S2, e, w2⟩ := Wp.nx (Wp.bind w)
    refine lc_turns his (env.step t1) k1 hJ hD e fun μ2 H2 ws t2 k2 hx hD2 ra => ?_
    have t3 := t2.dropG (p := D0) fun h => k1.ext D0 h hD
    have k3 := k2.dropG (p := D0)
    exact Wp.pure (w2 _ _ t3 k3) k3 t3 (t1.trans t3) _ (.lst ⟨hD2, drop_nheld k2 hx⟩ (ra.stepR drop_stepR))⟩
theorem dlcC_t {σ : L2.St} {H : Hp} {Q : VK} {g : Gx} (his : ∀ i ∈ is, i ∈ own.map (·.2)) (h : tD g W (dLcC src k tt te (own.map (·.2))) σ H Q) : tLc (tI g W src) (tG g is k) (tDT g WF tt) (tD g WF te) (own.map (·.2)) σ H Q := by
  obtain ⟨ρ, μ, S, env, sto, h⟩ := h
  exact ⟨ρ, μ, S, env, sto, (Wp.bind h).mono fun s μ1 S1 H1 t1 k1 w J hJ D0 hD => by
    obtain ⟨ys, S2, e, w2⟩ := Wp.nx (Wp.bind w)
    refine lc_turns his (env.step t1) k1 hJ hD e fun μ2 H2 ws t2 k2 hx hD2 ra => ?_
    have hn : D0 ∉ μ1.ex := fun h => k1.ext D0 h hD
    obtain ⟨k4, r4⟩ := sto_adopt k2 hx hD2 ra
    have t4 : Step μ1 S1 H1 (adoptG μ2 D0) (S2 ++ [some (.lst ys)]) H2 := t2.adopt k2 hD hn
    exact (w2 _ _ (Step.dropG t2 hn) k2.dropG |> fun _ => by
      have en : (do let ys ← M.nx (dLcGo s.2 k tt te (wipeD ρ (own.map (·.2))) s.1 []); newCell ys : M D) S1 = .ok (.cell S2.length) (S2 ++ [some (.lst ys)]) := by
        rw [M.bind_run]
        have z : M.nx (dLcGo s.2 k tt te (wipeD ρ (own.map (·.2))) s.1 []) S1 = .ok ys S2 := by
          unfold M.nx
          rw [e]
        rw [z]
        rfl
      rcases w.run with ⟨d, S', e', w'⟩ | ⟨_, _, _, e', _⟩
      · rw [en] at e'
        cases e'
        exact w' _ _ t4 k4 (t1.trans t4) _ r4
      · rw [en] at e'
        cases e')⟩
theorem sd_setLc (i : Nat) {y : Str} (hc : X.calm = true) (hN : X.N.Nodup) (hi : PI X tg iter (tI (gx X ca) W src)) (ok : BlkOk X.N X.env.scope scope own)
    (hg : ∀ (s : Shared) (H : Hp) (C : Addr) (cl : List (Str × Addr)) (fp : List Addr), PG (X.blk s H scope (compEnvC scope cl C X.env) fp) tg (tG (gx X ca) is k)) (his : ∀ i ∈ is, i ∈ own.map (·.2))
    (ht : ∀ (s : Shared) (H : Hp) (C : Addr) (cl : List (Str × Addr)) (fp : List Addr), PTs (X.blk s H scope (compEnvC scope cl C X.env) fp) ifs (tDT (gx X ca) WF tt))
    (he : ∀ (s : Shared) (H : Hp) (C : Addr) (cl : List (Str × Addr)) (fp : List Addr), PE (X.blk s H scope (compEnvC scope cl C X.env) fp) elt (tD (gx X ca) WF te)) (hy : X.N[i]? = some y := by rfl) (hyl : X.env.scope.names.lookup y = some .local := by rfl)
    (hsw : swapsWith (.ListComp elt [⟨tg, iter, ifs, 0⟩] scope pos) (some (.Name y py)) spos.line X.env = pure true := by exact sw_true rfl rfl rfl (by decide +kernel)) (hs : ∀ x, foldedSetIterable iter X.env x = pure x := by intro _; rfl) :
    PS X (.Assign [.Name y py] (.ListComp elt [⟨tg, iter, ifs, 0⟩] scope pos) spos) (tS (gx X ca) W (sSet i (dLc src k tt te (own.map (·.2))))) :=
  sd_ofAsg (ps_setLc hc hN hy hyl hsw hi ok hg ht he hs) fun σ H Q h => dlc_t his h
theorem sd_setLcC (i : Nat) {y : Str} (hc : X.calm = true) (hN : X.N.Nodup) (hi : PI X tg iter (tI (gx X ca) W src)) (ok : BlkOk X.N X.env.scope scope own)
    (hg : ∀ (s : Shared) (H : Hp) (C : Addr) (cl : List (Str × Addr)) (fp : List Addr), PG (X.blk s H scope (compEnvC scope cl C X.env) fp) tg (tG (gx X ca) is k)) (his : ∀ i ∈ is, i ∈ own.map (·.2))
    (ht : ∀ (s : Shared) (H : Hp) (C : Addr) (cl : List (Str × Addr)) (fp : List Addr), PTs (X.blk s H scope (compEnvC scope cl C X.env) fp) ifs (tDT (gx X ca) WF tt))
    (he : ∀ (s : Shared) (H : Hp) (C : Addr) (cl : List (Str × Addr)) (fp : List Addr), PE (X.blk s H scope (compEnvC scope cl C X.env) fp) elt (tD (gx X ca) WF te)) (hy : X.N[i]? = some y := by rfl) (hyl : X.env.scope.names.lookup y = some .local := by rfl)
    (hsw : swapsWith (.ListComp elt [⟨tg, iter, ifs, 0⟩] scope pos) (some (.Name y py)) spos.line X.env = pure true := by exact sw_true rfl rfl rfl (by decide +kernel)) (hs : ∀ x, foldedSetIterable iter X.env x = pure x := by intro _; rfl) :
    PS X (.Assign [.Name y py] (.ListComp elt [⟨tg, iter, ifs, 0⟩] scope pos) spos) (tS (gx X ca) W (sSet i (dLcC src k tt te (own.map (·.2))))) :=
  sd_ofAsg (ps_setLc hc hN hy hyl hsw hi ok hg ht he hs) fun σ H Q h => dlcC_t his h
theorem pd_ty {x : Str} {T : String} (hm : X.mg x = none) (hv : bootBuiltins x = some (.type T)) (hg : Gl X x := by rfl) (hn : x ≠ "__name__" := by decide) (hd : (x == ("__debug__" : Str)) = false := by decide) : PE X (.Name x pos) (tD (gx X ca) W (dC (.ty T))) :=
  pd_c (pe_bltn hg hm hv (v := .ty T) rfl hn hd) fun _ _ _ => .ty T
end
end DD

/-! DD17: tables of one class; a promise that asks for nothing; the law's end -/
namespace DD
open PySem PySem.Spec PyProof.Rows L2
section
variable {P : Program} {w : World} {K : PySem.W.Frag} {mg : Str → Option Value} {base : Heap} {ca : Nat → Addr} {k c n : Nat} {m : Str} {F : List D → M D}
theorem met1 {j : Nat} (h : MetAt P w K mg base ca j c m n F) (l : j ≤ k) : ∀ q ∈ [(c, F)], MetAt P w K mg base ca k q.1 m n q.2 := fun q hq => by
  cases List.mem_singleton.mp hq
  exact h.mono l
theorem slt1 {j : Nat} (h : SltAt P w K mg base ca j c m n F) (l : j ≤ k) : ∀ q ∈ [(c, F)], SltAt P w K mg base ca k q.1 m n q.2 := fun q hq => by
  cases List.mem_singleton.mp hq
  exact h.mono l
theorem prop1 {j : Nat} (h : PropAt P w K mg base ca j c m F) (l : j ≤ k) : ∀ q ∈ [(c, F)], PropAt P w K mg base ca k q.1 m q.2 := fun q hq => by
  cases List.mem_singleton.mp hq
  exact h.mono l
theorem metk1 {j : Nat} {ks : List Str} {G : List D → List D → M D} (h : MetK P w K mg base ca j c m n ks G) (l : j ≤ k) : ∀ q ∈ [(c, G)], MetK P w K mg base ca k q.1 m n ks q.2 := fun q hq => by
  cases List.mem_singleton.mp hq
  exact h.mono l
theorem fld1 {f : Str} (c : Nat) (cl : Cls K (ca c)) (no : NoAttr K (ca c) f) : FldOf K ca [c] f := ⟨fun q hq => by
  cases List.mem_singleton.mp hq
  exact ⟨cl, no⟩⟩
/-- nothing is promised -/
theorem Def.has0 {x : Str} {st : Stmt} {ps : List Str} (d : Def K mg x st ps) (hn : ps.length = n) : Has P w K mg base ca k x n (fun _ => M.bad) := by
  obtain ⟨f, fd, F, hm, hb⟩ := d.ex
  refine ⟨f, fd, ps, ⟨fun vs H Q E h => ?_, fun A outer s H args us vs Q E hr h0 hb hv h => ?_⟩, hm, F.kp, hb⟩
  · obtain ⟨ds, μ, S, _, _, _, h⟩ := h
    exact (show False from h).elim
  · obtain ⟨ds, μ, S, _, _, _, h⟩ := h
    exact (show False from h).elim
end
/-! ### isinstance(x, (T, U)) -/
def tyNames : List D → Option (List String)
  | [] => some []
  | .ty n :: r => (tyNames r).map (n :: ·)
  | _ => none
def dIsaT : List D → M D
  | [x, .tup us] => do
    let t ← tyOfM x
    let ns ← M.get fun _ => tyNames us
    M.need (∀ u ∈ ns, u ∈ ["int", "bool", "str", "list", "tuple"])
    pure (.bl (ns.any (isaT t)))
  | _ => M.bad
def rIsiU (K : PySem.W.Frag) : List V → Hp → VK → Prop := fun xs H Q => ∃ (x : V) (tp : Addr) (cs : List V) (t : Value) (us : List Value) (b : Bool), xs = [x, .ref tp] ∧ SqT K H tp cs ∧ Paired ClsV cs us ∧ TyX K H x t ∧ PySem.W.kitAny K t us = some b ∧ Q (.bl b) H
theorem call_isiU {X : Cx} : CallR X (.builtin "isinstance") (rIsiU X.K) := by
  rintro pins s σ H xs us Q I r ⟨x, tp, cs, t, ws, b, rfl, hT, k, ty, e, q⟩
  obtain ⟨u1, u2, rfl, r1, r2⟩ := vals2 r
  cases (show u2 = Value.ref tp from r2)
  obtain ⟨P, Z, p, hx⟩ := kit_of I r1 ty
  obtain ⟨its, rv, ⟨o, h1, h2, n, h3⟩, _⟩ := I.tuple hT
  cases ClsV.all k rv
  obtain ⟨oc, od, dt, sl⟩ := o
  cases h2
  cases h3
  exact PySem.W.kia_tup Z I.kIn p h1 e hx fun tk => ⟨.bl b, H, I.tok tk, rfl, q⟩
theorem tyNames_rep {g : Gx} {μ : Gh} {S : Sto} {H : Hp} : ∀ {ds : List D} {ns : List String} {vs : List V}, RepAll g μ S H vs ds → tyNames ds = some ns → Paired ClsV vs (ns.map Value.type)
  | [], _, _, .nil, e => by
    cases e
    exact .nil
  | d :: ds, ns, _, .cons r q, e => by
    cases r with
    | ty n =>
      have e' : (tyNames ds).map (n :: ·) = some ns := e
      obtain ⟨m, h1, rfl⟩ := map_some e'
      exact .cons (.ty n) (tyNames_rep q h1)
    | _ => cases e
theorem kitAny_ok {K : PySem.W.Frag} {t : String} (ht : t ∈ ["NoneType", "bool", "int", "str", "tuple", "list"]) : ∀ {ns : List String}, (∀ u ∈ ns, u ∈ ["int", "bool", "str", "list", "tuple"]) → PySem.W.kitAny K (.type t) (ns.map Value.type) = some (ns.any (isaT t))
  | [], _ => rfl
  | u :: ns, h => by
    have h1 := isaT_ok (K := K) t ht u (h u List.mem_cons_self)
    have h2 := kitAny_ok (K := K) ht fun v hv => h v (List.mem_cons_of_mem _ hv)
    show (match PySem.W.kitOne K (.type t) (.type u) with
      | some true => some true
      | some false => PySem.W.kitAny K (.type t) (ns.map Value.type)
      | none => none) = _
    rw [h1, List.any_cons]
    cases isaT t u with
    | true => rfl
    | false => exact h2
theorem isaT_s {g : Gx} : CallS g (rIsiU g.K) dIsaT := by
  intro E μ S H vs xs Q k r h
  unfold dIsaT at h
  split at h
  · obtain ⟨v, u, rfl, r1, r2⟩ := rep2 r
    cases r2 with
    | tup fz q =>
      obtain ⟨t, ht, ty, h1⟩ := tyX_of (t := "") k r1 (Wp.bind h)
      obtain ⟨ns, e1, h2⟩ := Wp.get (Wp.bind h1) k
      obtain ⟨hu, h3⟩ := Wp.need (Wp.bind h2) k
      exact ⟨_, _, _, _, _, _, rfl, fz.sq, tyNames_rep q e1, ty, kitAny_ok ht hu, Wp.pure h3 k (Step.refl _ _ _) (Step.refl _ _ _) (Step.refl _ _ _) _ (.bl _)⟩
  · exact (show False from h).elim
/-- the classes by number -/
def caOf (l : List Addr) (c : Nat) : Addr := l.getD c 0
end DD

/-! DD18: what stands at the top, one by one; the law's end -/
namespace DD
open PySem PySem.Spec PyProof.Rows L2
section
variable {P : Program} {w : World} {K : PySem.W.Frag} {h : Heap} {mg : Str → Option Value} {base : Heap} {ca : Nat → Addr} {c : Nat} {C : Addr}
theorem Cst.int {x : Str} {i : Int} {t : Tok} (X : K.In h) (G : h.Ns mainGlobals mg) (a : PySem.W.nsIn K mainGlobals x = some (some (.int i t))) : Cst mg x (.int i) := ⟨_, PySem.W.mg_of X G a, ⟨t, rfl⟩⟩
theorem Cst.str {x y : Str} {t : Tok} (X : K.In h) (G : h.Ns mainGlobals mg) (a : PySem.W.nsIn K mainGlobals x = some (some (.str y t))) : Cst mg x (.str y) := ⟨_, PySem.W.mg_of X G a, ⟨t, rfl⟩⟩
theorem cls_of (e : ca c = C) (pg : PySem.W.plainGet K C Str.empty = true) (hd : PySem.W.hasDictIn K C = true) (po : PySem.W.plainOver K C = true) (sa : PySem.W.findIn K (.ref C) "__setattr__" = some (some (.builtin "object.__setattr__"))) : Cls K (ca c) := by
  rw [e]
  exact ⟨pg, hd, po, sa⟩
theorem no_of {f : Str} (e : ca c = C) (a : PySem.W.findIn K (.ref C) f = some none) : NoAttr K (ca c) f := by
  rw [e]
  exact a
theorem DefM.of {x qual : Str} {st : Stmt} {ps : List Str} {f : Addr} {oc : Value} {od an : Option Addr} {osl : Array (Option Value)} {kV doc pm cdv ct : Value} (e : ca c = C)
    (b : ∀ (kV doc pm : Value) (an : Option Addr) (cdv ct : Value) (us : List Value), us.length = ps.length → bindArgs (PySem.W.fnOf x qual (defArgs st) (defBody st) (defScope st) .none kV doc pm an cdv ct) ⟨us, []⟩ = pure (ps.zip us))
    (a : PySem.W.findIn K (.ref C) x = some (some (.ref f))) (i : PySem.W.isFn K (.ref f) = true) (l : K.lookup f = some ⟨oc, od, .func (PySem.W.fnOf x qual (defArgs st) (defBody st) (defScope st) .none kV doc pm an cdv ct), osl⟩)
    (cc : PySem.W.codeIn K cdv qual = true) (k : PySem.W.keepIn K (.ref f) = true) : DefM K ca c x qual st ps := .mk' b (by rw [e]; exact a) i l cc k
theorem DefP.of {x qual : Str} {st : Stmt} {p f : Addr} {rest : List Value} {oc : Value} {od an : Option Addr} {osl : Array (Option Value)} {kV doc pm cdv ct : Value} (e : ca c = C)
    (b : ∀ (kV doc pm : Value) (an : Option Addr) (cdv ct : Value) (us : List Value), us.length = 1 → bindArgs (PySem.W.fnOf x qual (defArgs st) (defBody st) (defScope st) .none kV doc pm an cdv ct) ⟨us, []⟩ = pure ((["self"] : List Str).zip us))
    (a : PySem.W.findIn K (.ref C) x = some (some (.ref p))) (ge : PySem.W.specialIn K (.ref p) "__get__" = some (some (.builtin "property.__get__"))) (ta : PySem.W.takesIn K (.ref p) = some true) (re : PySem.W.recIn K p "property" = some (.ref f :: rest))
    (l : K.lookup f = some ⟨oc, od, .func (PySem.W.fnOf x qual (defArgs st) (defBody st) (defScope st) .none kV doc pm an cdv ct), osl⟩)
    (cc : PySem.W.codeIn K cdv qual = true) (k : PySem.W.keepIn K (.ref f) = true) : DefP K ca c x qual st := .mk' b (by rw [e]; exact a) ge ta re l cc k
theorem mak_of {f : Addr} {cn : Str} (e : ca c = C) (X : K.In h) (G : h.Ns mainGlobals mg) (a : PySem.W.nsIn K mainGlobals cn = some (some (.ref C))) (m : PySem.W.makesIn K C = true) (i : PySem.W.findIn K (.ref C) "__init__" = some (some (.ref f))) (fn : PySem.W.isFn K (.ref f) = true) (k : PySem.W.keepIn K (.ref C) = true) :
    Mk K (ca c) f ∧ mg cn = some (.ref (ca c)) := by
  rw [e]
  exact ⟨⟨m, i, fn, k⟩, PySem.W.mg_of X G a⟩
theorem DefI.of {cn qual : Str} {st : Stmt} {ps : List Str} {f : Addr} {oc : Value} {od an : Option Addr} {osl : Array (Option Value)} {kV doc pm cdv ct : Value} (e : ca c = C) (X : K.In h) (G : h.Ns mainGlobals mg)
    (b : ∀ (kV doc pm : Value) (an : Option Addr) (cdv ct : Value) (us : List Value), us.length = ps.length → bindArgs (PySem.W.fnOf "__init__" qual (defArgs st) (defBody st) (defScope st) .none kV doc pm an cdv ct) ⟨us, []⟩ = pure (ps.zip us))
    (a : PySem.W.nsIn K mainGlobals cn = some (some (.ref C))) (m : PySem.W.makesIn K C = true) (i : PySem.W.findIn K (.ref C) "__init__" = some (some (.ref f))) (fn : PySem.W.isFn K (.ref f) = true) (kc : PySem.W.keepIn K (.ref C) = true)
    (l : K.lookup f = some ⟨oc, od, .func (PySem.W.fnOf "__init__" qual (defArgs st) (defBody st) (defScope st) .none kV doc pm an cdv ct), osl⟩)
    (cc : PySem.W.codeIn K cdv qual = true) (k : PySem.W.keepIn K (.ref f) = true) : DefI K mg ca c cn qual st ps [] := by
  obtain ⟨h1, h2⟩ := mak_of (ca := ca) e X G a m i fn kc
  exact .mk' b h2 h1 l cc k
/-- one default: the empty tuple -/
theorem DefI.ofT {cn qual : Str} {st : Stmt} {ps : List Str} {f T0 Te : Addr} {oc : Value} {od an odT odE : Option Addr} {osl slT slE : Array (Option Value)} {kV doc pm cdv ct : Value} {nT nE : Nat} (n : Nat) (e : ca c = C) (X : K.In h) (G : h.Ns mainGlobals mg) (hn1 : n + 1 = ps.length)
    (b : ∀ (T : Addr) (kV doc pm : Value) (an : Option Addr) (cdv ct : Value) (us its : List Value), us.length = n → its.length = 1 →
      ∃ k, bindArgs (PySem.W.fnOf "__init__" qual (defArgs st) (defBody st) (defScope st) (.ref T) kV doc pm an cdv ct) ⟨us, []⟩ = seqItems? (.ref T) >>= k ∧ k (some its.toArray) = pure (ps.zip (us ++ its.drop 0)))
    (b2 : ∀ (T : Addr) (kV doc pm : Value) (an : Option Addr) (cdv ct : Value) (us its : List Value), us.length = n + 1 → its.length = 1 →
      ∃ k, bindArgs (PySem.W.fnOf "__init__" qual (defArgs st) (defBody st) (defScope st) (.ref T) kV doc pm an cdv ct) ⟨us, []⟩ = seqItems? (.ref T) >>= k ∧ k (some its.toArray) = pure (ps.zip (us ++ its.drop 1)))
    (a : PySem.W.nsIn K mainGlobals cn = some (some (.ref C))) (m : PySem.W.makesIn K C = true) (i : PySem.W.findIn K (.ref C) "__init__" = some (some (.ref f))) (fn : PySem.W.isFn K (.ref f) = true) (kc : PySem.W.keepIn K (.ref C) = true)
    (l : K.lookup f = some ⟨oc, od, .func (PySem.W.fnOf "__init__" qual (defArgs st) (defBody st) (defScope st) (.ref T0) kV doc pm an cdv ct), osl⟩)
    (cc : PySem.W.codeIn K cdv qual = true) (k : PySem.W.keepIn K (.ref f) = true) (lT : K.lookup T0 = some ⟨.type "tuple", odT, .seq #[.ref Te] nT, slT⟩) (lE : K.lookup Te = some ⟨.type "tuple", odE, .seq #[] nE, slE⟩) :
    DefI K mg ca c cn qual st ps [.tup []] ∧ DefI K mg ca c cn qual st ps [] := by
  obtain ⟨h1, h2⟩ := mak_of (ca := ca) e X G a m i fn kc
  have F : FunD K "__init__" qual (defArgs st) (defBody st) (defScope st) [.ref Te] [] f (PySem.W.fnOf "__init__" qual (defArgs st) (defBody st) (defScope st) (.ref T0) kV doc pm an cdv ct) :=
    ⟨⟨oc, od, .ref T0, kV, doc, pm, an, cdv, ct, osl, rfl, l, cc, .inr ⟨by simp, T0, _, [.ref Te], nT, rfl, lT, rfl, .cons rfl .nil⟩, .inl rfl⟩, k⟩
  exact ⟨.mkD n 0 F (by simp) (by simpa using hn1) b h2 h1 fun μ S H => .cons (.tup (.inr ⟨_, #[], nE, lE, rfl, rfl, Nat.zero_le _, .nil⟩) .nil) .nil,
    .mkD (n + 1) 1 F (by simp) (by simpa using hn1) b2 h2 h1 fun μ S H => .nil⟩
end

/-! ### short words for the printed text -/
def dB (F : List D → M D) (fs : DEnv → M (List D)) : DEnv → M D := fun ρ => do let ds ← fs ρ; F ds
def tIsN (f : DEnv → M D) : DEnv → M Bool := fun ρ => do let d ← f ρ; pure (isNon d)
def tNotN (f : DEnv → M D) : DEnv → M Bool := fun ρ => do let d ← f ρ; pure !(isNon d)
def isN1 : D → M D := fun d => pure (.bl (isNon d))
def notN1 : D → M D := fun d => pure (.bl !(isNon d))

/-! ### the law's promise -/
def spLaw (K : PySem.W.Frag) : Sp := fun vs H Q _ => ∃ a ns, vs = [.ref a] ∧ List.length ns ≤ 63 ∧ (∀ z ∈ ns, Builtin.Int.intBits z ≤ 1048576) ∧ Only H ∧ SqL K H a (ns.map V.int) ∧ ∀ H', Q (.bl true) H'
theorem ints_rep {g : Gx} {μ : Gh} {S : Sto} {H : Hp} : ∀ ns : List Int, RepAll g μ S H (ns.map V.int) (ns.map D.int)
  | [] => .nil
  | n :: ns => .cons (.int n) (ints_rep ns)
theorem sp_law {K : PySem.W.Frag} {ca : Nat → Addr} {F : List D → M D} (math : ∀ ns : List Int, ns.length ≤ 63 → (∀ z ∈ ns, Builtin.Int.intBits z ≤ 1048576) → ∃ S, F [.rol (ns.map D.int)] [] = .ok (.bl true) S) (vs : List V) (H : Hp) (Q : VK) (E : XK) (h : spLaw K vs H Q E) : spD ⟨K, ca⟩ 1 F vs H Q E := by
  obtain ⟨a, ns, rfl, hl, hb, hO, hS, q⟩ := h
  obtain ⟨S, e⟩ := math ns hl hb
  refine ⟨[.rol (ns.map D.int)], ⟨[], []⟩, [], rfl, .cons (.rol ?_ (ints_rep ns)) .nil, ⟨rfl, fun a l => ?_, fun a h => (by cases h), fun n m c c' a h => (by cases h), fun n c h => (by cases h)⟩, Wp.of_ok e fun μ' H' t k v r => ?_⟩
  · rcases hS with (hS | ⟨o, hS⟩) | hS
    · rcases hO a with z | ⟨o, xs, z⟩
      · rw [hS] at z; cases z
      · rw [hS] at z; cases z
    · exact .inl ⟨o, hS⟩
    · exact .inr hS
  · obtain ⟨n, c, h, _⟩ := l
    cases h
  · cases r
    exact q H'
end DD

/-! EX2: own error classes above an own class: __init__ that calls the class above, raise C(..), raise C() -/
namespace L2
open PySem PySem.Spec PyProof.Rows
section
variable {X : Cx} {e : Expr} {es : List Expr} {ta : TA} {p1 p2 pos : Pos} {x : Str} {B : Addr} {mc : Value}
/-- B.__init__(self, ..), B an own class whose __init__ is ValueError's -/
theorem pe_oinit {pl : Sem Bool} (hg : Gl X x) (hm : X.mg x = some (.ref B)) (rd : PySem.W.readsIn X.K B mc = true) (ga : PySem.W.specialIn X.K (.ref B) "__getattribute__" = some (some (.builtin "type.__getattribute__")))
    (at_ : PySem.W.findCls X.K (.ref B) mc "__init__" = some (.val (.builtin "ValueError.__init__"))) (ha : PA X (e :: es) ta) (hdb : (x == ("__debug__" : Str)) = false := by decide)
    (hc : eval (.Call (.Attribute (.Name x p1) "__init__" p2) (e :: es) [] pos) X.env = (do
      let ov ← eval (.Name x p1) X.env
      standAt p2.atName
      let (f, first) ← holding [ov] (getMethod ov "__init__" pl)
      callWith pos f first (backTo pos (starEach (e :: es) X.env)) (backToKw pos (keywordEach [] X.env))) := by rfl)
    (he : starEach (e :: es) X.env = (false, eval e X.env) :: starEach es X.env := by rfl) (hpl : (backTo pos (starEach es X.env)).any (·.1) = false := by rfl) :
    PE X (.Call (.Attribute (.Name x p1) "__init__" p2) (e :: es) [] pos) (tVeI X.K ta) := by
  refine ⟨fun pins s σ H Q I h => ?_⟩
  refine PySem.W.methodCall_KW (ld_glob I hg hm ?_ hdb) hc
  refine PySem.W.method_cls I.kIn ga (PySem.W.cls_value I.kIn rd at_ (by decide +kernel) ?_)
  show wpAny _ _ (callWith pos (Value.builtin "ValueError.__init__") [] (backTo pos (starEach (e :: es) X.env)) []) _ _ _
  refine PyProof.Rows.callWith_method1 (thn (ha.run pos pins _ σ H _ (I.tok _) h) fun us s1 ⟨vs, H1, I1, r1, a, C, ws, ev, hl, T, ea, q⟩ => ?_) he hpl
  subst ev
  cases r1 with
  | @cons _ u0 _ ur ra rw' =>
    obtain rfl : u0 = Value.ref a := ra
    have hlen : ur.length ≤ sizeLine := by
      rw [← Paired.length rw', sizeLine_eq]
      omega
    exact oinit_ok T I1 ea hlen fun s' J => ⟨.non, H1, J, rfl, q⟩
/-- X(), X an own exception class without own __init__ -/
theorem pmk_own0 {C : Addr} {bmB : List Value} {B newId initId : String} {p : Pos} (F : ExcBaseFacts B newId initId bmB) (q : PySem.W.excIn X.K C bmB newId = true) (gC : X.mg x = some (.ref C))
    (kC : PySem.W.keepIn X.K (.ref C) = true) (r : Raises X (.ref C)) (hg : Gl X x) (hdb : (x == ("__debug__" : Str)) = false := by decide) :
    PMk X (.Call (.Name x p) [] [] pos) (fun _ H Q => Q (.ref C) none H) := by
  intro pins s σ H Q I h
  refine wpAny_Call_Name_kw (ld_glob I hg gC ?_ hdb)
  refine PySem.W.callWith_K0 I.kIn kC ?_
  show wpAny _ _ (call (.ref C) []) _ _ _
  obtain ⟨bm, N, nm, qn, bs, hdct, sn, sub, ab, col, dd, k0, k1, k2, k3, k5, mN, hC, hN, hni, T⟩ := exc_obj I.kIn q
  refine wpAny_call_exc_subT F T hC hN hni (fun h' e hm => ?_) (by show 0 ≤ sizeLine; exact Nat.zero_le _)
  exact mk_of I hm r h (I.hok.gone hm.new)
end

/-! ### what such an __init__ promises: its fields are stored -/
/-- ys: the values, fn: the fields' names in the order in which they are stored -/
def spX (K : PySem.W.Frag) (C : Addr) (fn : List Str) : Sp := fun vs H Q E => ∃ (a : Addr) (ys : List V), vs = .ref a :: ys ∧ ys.length = fn.length ∧ H a = some (exo a C none) ∧ OexC K C ∧
  ∀ dx H', H dx = none → dx ≠ a → H' a = some (exo a C (some dx)) → H' dx = some (exd dx (fn.zip ys).reverse) → (∀ b, b ≠ a → b ≠ dx → H' b = H b) → Q .non H'
theorem spX_len {K : PySem.W.Frag} {C : Addr} {fn : List Str} {ps : List Str} (hp : ps.length = fn.length + 1) (vs : List V) (H : Hp) (Q : VK) (E : XK) (h : spX K C fn vs H Q E) : vs.length = ps.length := by
  obtain ⟨a, ys, rfl, hl, _⟩ := h
  rw [List.length_cons, hl, hp]
/-- one field -/
theorem rd_init1 {K : PySem.W.Frag} {C : Addr} {f s m : Str} {vs : List V} {H : Hp} {Q : VK} {E : XK} (hno : PySem.W.findIn K (.ref C) f = some none) (h : spX K C [f] vs H Q E) :
    tSeq (tDrop (tVeI K (tCons (tVar 0) (tCons (tC (.str m)) tNil)))) (tOst K f (tVar 0) (tVar 1)) { nx := fun _ H' => Q .non H', rt := Q } (L2.start [s, f] vs) H := by
  obtain ⟨a, ys, rfl, hl, ha, T, q⟩ := h
  match ys, hl with
  | [y], _ =>
    refine ⟨.ref a, rfl, a, C, [.str m], rfl, (by show 1 ≤ 1000; omega), T, ha, y, rfl, .ref a, rfl, a, C, rfl, T, hno, .inl ⟨ha, fun dx n ne => ?_⟩⟩
    exact q dx _ n ne upd_same (by rw [upd_ne ne, upd_same]; rfl) fun b h1 h2 => by rw [upd_ne h1, upd_ne h2]
/-- three fields -/
theorem rd_init3 {K : PySem.W.Frag} {C : Addr} {f1 f2 f3 s m : Str} {vs : List V} {H : Hp} {Q : VK} {E : XK} (n1 : PySem.W.findIn K (.ref C) f1 = some none) (n2 : PySem.W.findIn K (.ref C) f2 = some none) (n3 : PySem.W.findIn K (.ref C) f3 = some none) (h : spX K C [f1, f2, f3] vs H Q E) :
    tSeq (tDrop (tVeI K (tCons (tVar 0) (tCons (tC (.str m)) tNil)))) (tSeq (tOst K f1 (tVar 0) (tVar 1)) (tSeq (tOst K f2 (tVar 0) (tVar 2)) (tOst K f3 (tVar 0) (tVar 3)))) { nx := fun _ H' => Q .non H', rt := Q } (L2.start [s, f1, f2, f3] vs) H := by
  obtain ⟨a, ys, rfl, hl, ha, T, q⟩ := h
  match ys, hl with
  | [y1, y2, y3], _ =>
    refine ⟨.ref a, rfl, a, C, [.str m], rfl, (by show 1 ≤ 1000; omega), T, ha, y1, rfl, .ref a, rfl, a, C, rfl, T, n1, .inl ⟨ha, fun dx n ne => ?_⟩⟩
    refine ⟨y2, rfl, .ref a, rfl, a, C, rfl, T, n2, .inr ⟨dx, [(f1, y1)], upd_same, by rw [upd_ne ne, upd_same], (by show 1 ≤ 900; omega), ?_⟩⟩
    refine ⟨y3, rfl, .ref a, rfl, a, C, rfl, T, n3, .inr ⟨dx, [(f2, y2), (f1, y1)], by rw [upd_ne (Ne.symm ne), upd_same], upd_same, (by show 2 ≤ 900; omega), ?_⟩⟩
    exact q dx _ n ne (by rw [upd_ne (Ne.symm ne), upd_ne (Ne.symm ne), upd_same]) (by rw [upd_same]; rfl) fun b h1 h2 => by rw [upd_ne h2, upd_ne h2, upd_ne h1, upd_ne h2]
end L2

/-! DD19: errors of own classes: raise, try, isinstance(e, C), e.f -/
namespace DD
open PySem PySem.Spec PyProof.Rows L2
section
variable {g : Gx} {μ : Gh} {S : Sto} {H : Hp}
theorem RepF.append : ∀ {vs ws : List (Str × V)} {ds es : List (Str × D)}, RepF g μ S H vs ds → RepF g μ S H ws es → RepF g μ S H (vs ++ ws) (ds ++ es)
  | _, _, _, _, .nil, q => q
  | _, _, _, _, .cons r p, q => .cons r (RepF.append p q)
theorem RepF.reverse : ∀ {vs : List (Str × V)} {ds : List (Str × D)}, RepF g μ S H vs ds → RepF g μ S H vs.reverse ds.reverse
  | _, _, .nil => .nil
  | _, _, .cons r q => by
    rw [List.reverse_cons, List.reverse_cons]
    exact RepF.append (RepF.reverse q) (.cons r .nil)
theorem RepAll.zipF : ∀ (fn : List Str) {vs : List V} {ds : List D}, RepAll g μ S H vs ds → RepF g μ S H (fn.zip vs) (fn.zip ds)
  | [], _, _, _ => by simp; exact .nil
  | _ :: _, _, _, .nil => by simp; exact .nil
  | f :: fn, _, _, .cons r q => by
    rw [List.zip_cons_cons, List.zip_cons_cons]
    exact .cons r (RepAll.zipF fn q)
theorem XcP.step {μ' : Gh} {S' : Sto} {H' : Hp} {d : Option Addr} {fs : List (Str × D)} (t : Step μ S H μ' S' H') (h : XcP g μ S H d fs) : XcP g μ' S' H' d fs := by
  rcases h with h | ⟨dx, vs, e, hx, nx, r⟩
  · exact .inl h
  · exact .inr ⟨dx, vs, e, t.toR.keep _ _ nx hx, fun l => nx (t.toR.held _ (by rw [hx]; exact fun z => nomatch z) l), r.step t⟩
end

/-! ### raise C(..) -/
/-- fn: the fields' names in the order in which they are stored -/
def sRaise (c n : Nat) (fn : List Str) (fs : DEnv → M (List D)) : DEnv → M Fl := fun ρ => M.cat (fs ρ) ρ fun ds => do M.need (ds.length = n); pure (.xc c (fn.zip ds).reverse ρ)
/-- raise C() -/
def sRaise0 (c : Nat) : DEnv → M Fl := fun ρ => pure (.xc c [] ρ)
/-- an error's class with an own __init__ -/
structure XMak (P : Program) (w : World) (K : PySem.W.Frag) (mg : Str → Option Value) (base : Heap) (ca : Nat → Addr) (k : Nat) (x : Str) (c : Nat) (fn : List Str) : Prop where
  ex : ∃ (fI : Addr) (fd : FuncData) (ps : List Str), OexC K (ca c) ∧ PySem.W.findIn K (.ref (ca c)) "__init__" = some (some (.ref fI)) ∧ PySem.W.typeIn K (.ref fI) = some (.type "function") ∧
    FnOk P w K mg base (L2.CX P w) k fI fd ps (spX K (ca c) fn) ∧ Binds K fd ps [] ∧ mg x = some (.ref (ca c))
theorem XMak.mono {P : Program} {w : World} {K : PySem.W.Frag} {mg : Str → Option Value} {base : Heap} {ca : Nat → Addr} {j k c : Nat} {x : Str} {fn : List Str} (h : XMak P w K mg base ca j x c fn) (l : j ≤ k) : XMak P w K mg base ca k x c fn := by
  obtain ⟨fI, fd, ps, h1, h2, h3, h4, h5⟩ := h.ex
  exact ⟨fI, fd, ps, h1, h2, h3, h4.mono l, h5⟩
/-- an error's class without one -/
structure XMak0 (K : PySem.W.Frag) (mg : Str → Option Value) (ca : Nat → Addr) (x : Str) (c : Nat) : Prop where
  ex : PySem.W.excIn K (ca c) [.type "ValueError", .type "Exception", .type "BaseException", .type "object"] "ValueError.__new__" = true
  kp : PySem.W.keepIn K (.ref (ca c)) = true
  sb : PySem.W.subIn K (.ref (ca c)) (.type "BaseException") = some true
  ty : PySem.W.typeIn K (.ref (ca c)) = some (.type "type")
  mg : mg x = some (.ref (ca c))
section
variable {X : Cx} {ca : Nat → Addr} {W : WX} {k n c : Nat} {fn : List Str} {x : Str} {p pos pos' : Pos} {e : Expr} {es : List Expr} {fs : DEnv → M (List D)}
theorem sd_raise (hM : XMak X.prog X.w X.K X.mg X.base ca k x c fn) (hr : Room (k + 1) X.A) (hcal : X.calm = true) (tk : Takes X W) (ha : PA X (e :: es) (tDA (gx X ca) W fs)) (hn : fn.length = n := by rfl) (hz : n ≤ 1000 := by decide) (hg : Gl X x := by rfl) (hdb : (x == ("__debug__" : Str)) = false := by decide)
    (he : starEach (e :: es) X.env = (false, eval e X.env) :: starEach es X.env := by rfl) (hpl : (backTo pos (starEach es X.env)).any (·.1) = false := by rfl) : PS X (.Raise (some (.Call (.Name x p) (e :: es) [] pos)) none pos') (tS (gx X ca) W (sRaise c n fn fs)) := by
  obtain ⟨fI, fd, ps, T, iC, tI, F1, hb, hm⟩ := hM.ex
  refine psOf (ps_raise hcal tk (pmk_oex T iC tI F1 hr hb .nil passL hg hm ha hdb he hpl)) fun E σ H ⟨ρ, μ, S, env, sto, h⟩ => ?_
  refine sDA_then env sto h fun ds μ1 S1 H1 vs t1 k1 env1 r1 w => ?_
  obtain ⟨hl, h2⟩ := Wp.need (Wp.bind w) k1
  refine ⟨by rw [r1.length, hl]; exact hz, fun a na => ?_⟩
  refine ⟨a, vs ++ [], rfl, by rw [List.append_nil, r1.length, hl, hn], upd_same, T, fun dx H' n1 ne h3 h4 h5 => ⟨rfl, dx, _, h3, h4, ?_, ?_⟩⟩
  · rw [upd_ne ne] at n1
    exact n1
  · have n0 : H1 dx = none := by
      rw [upd_ne ne] at n1
      exact n1
    rw [List.append_nil]
    have eH : upd (del H' a) dx (.xd (fn.zip vs).reverse) = upd H1 dx (.xd (fn.zip vs).reverse) := by
      funext b
      by_cases hb : b = dx
      · rw [hb, upd_same, upd_same]
      · rw [upd_ne hb, upd_ne hb]
        by_cases ha : b = a
        · rw [ha, del_same, na]
        · rw [del_ne ha, h5 b ha hb, upd_ne ha]
    rw [eH]
    have t2 : Step μ1 S1 H1 μ1 S1 (upd H1 dx (.xd (fn.zip vs).reverse)) := Step.alloc n0
    exact h2 _ _ t2 (k1.alloc n0) t2 σ (some dx) (env1.step t2) (.inr ⟨dx, _, rfl, upd_same, k1.new n0, ((RepAll.zipF fn r1).reverse).step t2⟩)
theorem sd_raise0 (hM : XMak0 X.K X.mg ca x c) (hcal : X.calm = true) (tk : Takes X W) (hg : Gl X x := by rfl) (hdb : (x == ("__debug__" : Str)) = false := by decide) :
    PS X (.Raise (some (.Call (.Name x p) [] [] pos)) none pos') (tS (gx X ca) W (sRaise0 c)) :=
  psOf (ps_raise hcal tk (pmk_own0 PySem.F.excBase_ValueError hM.ex hM.mg hM.kp (raises_own hM.sb hM.ty) hg hdb)) fun E σ H ⟨ρ, μ, S, env, sto, h⟩ =>
    Wp.pure h sto σ none env (.inl ⟨rfl, rfl⟩)
end

/-! ### try -/
/-- an except clause: the classes that it catches, those that it does not; its name's place; its suite -/
structure HdD where
  ys : List Nat
  ns : List Nat
  i : Option Nat
  f : DEnv → M Fl
/-- a suite's end; an error of the suite's own is not told -/
def offD (o : Option Nat) : Fl → M Fl
  | .nx ρ => pure (.nx (match o with | some i => ρ.set i none | none => ρ))
  | .bk ρ => pure (.bk (match o with | some i => ρ.set i none | none => ρ))
  | .ct ρ => pure (.ct (match o with | some i => ρ.set i none | none => ρ))
  | .rt d => pure (.rt d)
  | .xc _ _ _ => M.bad
def tryGo : List HdD → Nat → List (Str × D) → DEnv → M Fl
  | [], c, fs, ρ => pure (.xc c fs ρ)
  | h :: r, c, fs, ρ => if c ∈ h.ys then (do let fl ← h.f (match h.i with | some i => ρ.set i (some (.exn c fs)) | none => ρ); offD h.i fl) else if c ∈ h.ns then tryGo r c fs ρ else M.bad
def tryEnd (hs : List HdD) : Fl → M Fl
  | .xc c fs ρ => tryGo hs c fs ρ
  | fl => pure fl
def sTry (body : DEnv → M Fl) (hs : List HdD) : DEnv → M Fl := fun ρ => do let fl ← body ρ; tryEnd hs fl
inductive HdsD (X : Cx) (ca : Nat → Addr) : List ExceptHandler → List HdD → Prop
  | nil : HdsD X ca [] []
  | only {x : Str} {cv : Value} {ys ns : List Nat} {f : DEnv → M Fl} {b₀ : Stmt} {suite : List Stmt} {np pos' : Pos} {hds : List ExceptHandler} {l : List HdD} (hc : Names X x cv) (hy : ∀ c ∈ ys, PySem.W.exmOne X.K (.ref (ca c)) cv = some true) (hn : ∀ c ∈ ns, PySem.W.exmOne X.K (.ref (ca c)) cv = some false)
      (hsu : ∀ (a : Addr) (pn : List (Addr × Obj)), PSs (X.suite a pn) (b₀ :: suite) (tS (gx X ca) WF f)) (r : HdsD X ca hds l) : HdsD X ca (.ExceptHandler (some (.Name x np)) none (b₀ :: suite) pos' :: hds) (⟨ys, ns, none, f⟩ :: l)
  | as_ {x n : Str} {i : Nat} {cv : Value} {ys ns : List Nat} {f : DEnv → M Fl} {b₀ : Stmt} {suite : List Stmt} {np pos' : Pos} {hds : List ExceptHandler} {l : List HdD} (hc : Names X x cv) (hi : X.N[i]? = some n) (hln : X.env.kindOf n = some .local)
      (hy : ∀ c ∈ ys, PySem.W.exmOne X.K (.ref (ca c)) cv = some true) (hn : ∀ c ∈ ns, PySem.W.exmOne X.K (.ref (ca c)) cv = some false)
      (hsu : ∀ (a : Addr) (pn : List (Addr × Obj)), PSs (X.suite a pn) (b₀ :: suite) (tS (gx X ca) WF f)) (r : HdsD X ca hds l) : HdsD X ca (.ExceptHandler (some (.Name x np)) (some n) (b₀ :: suite) pos' :: hds) (⟨ys, ns, some i, f⟩ :: l)
def hdT (g : Gx) (v : Value) (h : HdD) : Hd := (v, h.i, tS g WF h.f)
/-- the clauses, each with its class -/
theorem HdsD.hds {X : Cx} {ca : Nat → Addr} {hs : List ExceptHandler} {l : List HdD} (h : HdsD X ca hs l) : ∃ vs : List Value, vs.length = l.length ∧ HdsT X hs ((vs.zip l).map fun q => hdT (gx X ca) q.1 q.2) ∧
    ∀ q ∈ vs.zip l, (∀ c ∈ q.2.ys, PySem.W.exmOne X.K (.ref (ca c)) q.1 = some true) ∧ ∀ c ∈ q.2.ns, PySem.W.exmOne X.K (.ref (ca c)) q.1 = some false := by
  induction h with
  | nil => exact ⟨[], rfl, .nil, fun q hq => (by cases hq)⟩
  | @only x cv ys ns f b₀ suite np pos' hds l hc hy hn hsu r ih =>
    obtain ⟨vs, h1, h2, h3⟩ := ih
    refine ⟨cv :: vs, by simp [h1], .only hc hsu h2, fun q hq => ?_⟩
    rw [List.zip_cons_cons] at hq
    rcases List.mem_cons.mp hq with e | e
    · subst e
      exact ⟨hy, hn⟩
    · exact h3 q e
  | @as_ x n i cv ys ns f b₀ suite np pos' hds l hc hi hln hy hn hsu r ih =>
    obtain ⟨vs, h1, h2, h3⟩ := ih
    refine ⟨cv :: vs, by simp [h1], .as_ hc hi hln hsu h2, fun q hq => ?_⟩
    rw [List.zip_cons_cons] at hq
    rcases List.mem_cons.mp hq with e | e
    · subst e
      exact ⟨hy, hn⟩
    · exact h3 q e
section
variable {X : Cx} {ca : Nat → Addr} {W : WX} {E : Ends}
theorem try_go {μ0 : Gh} {S0 : Sto} {H0 : Hp} : ∀ (vs : List Value) (l : List HdD), vs.length = l.length → (∀ q ∈ vs.zip l, (∀ c ∈ q.2.ys, PySem.W.exmOne X.K (.ref (ca c)) q.1 = some true) ∧ ∀ c ∈ q.2.ns, PySem.W.exmOne X.K (.ref (ca c)) q.1 = some false) →
    ∀ {c : Nat} {fs : List (Str × D)} {ρ : DEnv} {μ : Gh} {S : Sto} {H : Hp} {σ : L2.St} {d : Option Addr}, Step μ0 S0 H0 μ S H → StoOk (gx X ca) μ S H → Wp (gx X ca) EF (tryGo l c fs ρ) μ S H (FlP (gx X ca) W E) → EnvOk (gx X ca) μ S H σ ρ → XcP (gx X ca) μ S H d fs →
      wTry X.K W E ((vs.zip l).map fun q => hdT (gx X ca) q.1 q.2) (.ref (ca c)) d σ H
  | [], [], _, _, c, fs, ρ, μ, S, H, σ, d, t, k, w, env, xc => Wp.pure (show Wp (gx X ca) EF (pure (.xc c fs ρ)) μ S H (FlP (gx X ca) W E) from w) k σ d env xc
  | [], _ :: _, h, _, _, _, _, _, _, _, _, _, _, _, _, _, _ => by cases h
  | _ :: _, [], h, _, _, _, _, _, _, _, _, _, _, _, _, _, _ => by cases h
  | v :: vs, h :: l, hl, hq, c, fs, ρ, μ, S, H, σ, d, t, k, w, env, xc => by
    have hl' : vs.length = l.length := by simpa using hl
    have q0 := hq (v, h) (by rw [List.zip_cons_cons]; exact List.mem_cons_self)
    have ih := try_go vs l hl' (fun q hm => hq q (by rw [List.zip_cons_cons]; exact List.mem_cons_of_mem _ hm)) (c := c) (fs := fs) (ρ := ρ) (σ := σ) (d := d) t k
    obtain ⟨ys, ns, o, f⟩ := h
    unfold tryGo at w
    by_cases hy : c ∈ ys
    · rw [if_pos hy] at w
      have en : ∀ a, H a = none → Step μ S H μ S (upd H a (exq a (.ref (ca c)) d)) ∧ StoOk (gx X ca) μ S (upd H a (exq a (.ref (ca c)) d)) ∧ Rep (gx X ca) μ S (upd H a (exq a (.ref (ca c)) d)) (.ref a) (.exn c fs) := fun a na => by
        have t2 : Step μ S H μ S (upd H a (exq a (.ref (ca c)) d)) := Step.alloc na
        refine ⟨t2, k.alloc na, ?_⟩
        rcases xc with ⟨rfl, rfl⟩ | ⟨dx, vs', rfl, hx, nx, r⟩
        · exact .exn0 upd_same (k.new na)
        · exact .exn1 upd_same (k.new na) (by rw [upd_ne (ne_of_none hx na)]; exact hx) nx (r.step t2)
      cases o with
      | none =>
        refine ⟨true, q0.1 c hy, fun _ a na => ?_, fun z => nomatch z⟩
        obtain ⟨t2, k2, r2⟩ := en a na
        refine ⟨ρ, μ, S, env.step t2, k2, (Wp.bind (Wp.later t2 w)).mono fun fl μ3 S3 H3 t3 k3 w3 => ?_⟩
        cases fl with
        | nx ρ3 => exact fun σ3 env3 => Wp.pure w3 k3 t3 σ3 env3
        | bk ρ3 => exact fun σ3 env3 => Wp.pure w3 k3 t3 σ3 env3
        | ct ρ3 => exact fun σ3 env3 => Wp.pure w3 k3 t3 σ3 env3
        | rt d3 => exact fun v3 r3 => Wp.pure w3 k3 t3 v3 r3
        | xc c3 fs3 ρ3 => exact (show False from w3).elim
      | some i =>
        refine ⟨true, q0.1 c hy, fun _ a na => ?_, fun z => nomatch z⟩
        obtain ⟨t2, k2, r2⟩ := en a na
        refine ⟨ρ.set i (some (.exn c fs)), μ, S, (env.step t2).set i r2, k2, (Wp.bind (Wp.later t2 w)).mono fun fl μ3 S3 H3 t3 k3 w3 => ?_⟩
        cases fl with
        | nx ρ3 => exact fun σ3 env3 => Wp.pure w3 k3 t3 (σ3.set i none) (env3.unset i)
        | bk ρ3 => exact fun σ3 env3 => Wp.pure w3 k3 t3 (σ3.set i none) (env3.unset i)
        | ct ρ3 => exact fun σ3 env3 => Wp.pure w3 k3 t3 (σ3.set i none) (env3.unset i)
        | rt d3 => exact fun v3 r3 => Wp.pure w3 k3 t3 v3 r3
        | xc c3 fs3 ρ3 => exact (show False from w3).elim
    · rw [if_neg hy] at w
      by_cases hn : c ∈ ns
      · rw [if_pos hn] at w
        cases o with
        | none => exact ⟨false, q0.2 c hn, fun z => Bool.noConfusion z, fun _ => ih w env xc⟩
        | some i => exact ⟨false, q0.2 c hn, fun z => Bool.noConfusion z, fun _ => ih w env xc⟩
      · rw [if_neg hn] at w
        exact (show False from w).elim
theorem sd_try {body : List Stmt} {h₀ : ExceptHandler} {hds : List ExceptHandler} {l : List HdD} {pos : Pos} {fb : DEnv → M Fl} (hs : X.stack = X.env :: X.outer) (hf : X.env.frame = some X.env.locals) (hex : X.ex = []) (hN : X.N.Nodup) (tk : Takes X W)
    (hb : ∀ (W : WX) (pn : List (Addr × Obj)) (xe : Value → Shared → Prop), Takes (X.tr pn xe) W → PassesOwn (model X.prog X.w) X.A X.env xe → PSs (X.tr pn xe) body (tS (gx X ca) W fb))
    (hh : HdsD X ca (h₀ :: hds) l) : PS X (.Try body (h₀ :: hds) [] [] pos) (tS (gx X ca) W (sTry fb l)) := by
  obtain ⟨vs, hl, hT, hq⟩ := hh.hds
  refine psOf (ps_tryT hs hf hex hN tk hb hT) fun E σ H ⟨ρ, μ, S, env, sto, h⟩ => ?_
  refine ⟨ρ, μ, S, env, sto, (Wp.bind h).mono fun fl μ1 S1 H1 t1 k1 w => ?_⟩
  cases fl with
  | nx ρ1 =>
    have w' : Wp (gx X ca) EF (pure (Fl.nx ρ1) : M Fl) μ1 S1 H1 (fun fl μ2 S2 H2 => Step μ S H μ2 S2 H2 → FlP (gx X ca) W E fl μ2 S2 H2) := w
    exact fun σ1 env1 => Wp.pure w' k1 t1 σ1 env1
  | bk ρ1 =>
    have w' : Wp (gx X ca) EF (pure (Fl.bk ρ1) : M Fl) μ1 S1 H1 (fun fl μ2 S2 H2 => Step μ S H μ2 S2 H2 → FlP (gx X ca) W E fl μ2 S2 H2) := w
    exact fun σ1 env1 => Wp.pure w' k1 t1 σ1 env1
  | ct ρ1 =>
    have w' : Wp (gx X ca) EF (pure (Fl.ct ρ1) : M Fl) μ1 S1 H1 (fun fl μ2 S2 H2 => Step μ S H μ2 S2 H2 → FlP (gx X ca) W E fl μ2 S2 H2) := w
    exact fun σ1 env1 => Wp.pure w' k1 t1 σ1 env1
  | rt d =>
    have w' : Wp (gx X ca) EF (pure (Fl.rt d) : M Fl) μ1 S1 H1 (fun fl μ2 S2 H2 => Step μ S H μ2 S2 H2 → FlP (gx X ca) W E fl μ2 S2 H2) := w
    exact fun v r => Wp.pure w' k1 t1 v r
  | xc c fs ρ1 =>
    have w' : Wp (gx X ca) EF (tryGo l c fs ρ1) μ1 S1 H1 (fun fl μ2 S2 H2 => Step μ S H μ2 S2 H2 → FlP (gx X ca) W E fl μ2 S2 H2) := w
    exact fun σ1 d env1 xc => try_go vs l hl hq t1 k1 (w'.mono fun _ _ _ _ t2 _ z => z (t1.trans t2)) env1 xc
end

/-! ### e.f, isinstance(e, C) -/
def dXFld (cs : List Nat) (f : Str) : D → M D
  | .exn c fs => do M.need (c ∈ cs); M.get fun _ => fs.lookup f
  | _ => M.bad
/-- which classes' errors are of a class (by its number, or a built-in one by its name) -/
abbrev IsTab := List (Nat × Nat × Bool)
def isGet (T : IsTab) (c c' : Nat) : Option Bool := (T.find? fun q => q.1 == c && q.2.1 == c').map (·.2.2)
def dIsX (T : IsTab) (U : List (Nat × String × Bool)) : List D → M D
  | [.exn c _, .cls c'] => do let b ← M.get fun _ => isGet T c c'; pure (.bl b)
  | [.exn c _, .ty u] => do let b ← M.get fun _ => (U.find? fun q => q.1 == c && q.2.1 == u).map (·.2.2); pure (.bl b)
  | _ => M.bad
section
variable {X : Cx} {ca : Nat → Addr} {W : WX} {e : Expr} {pos : Pos} {f : Str} {fe : DEnv → M D}
theorem pd_xfld {cs : List Nat} (hc : ∀ c ∈ cs, ExcT X.K (ca c) ∧ PySem.W.findIn X.K (.ref (ca c)) f = some none) (he : PE X e (tD (gx X ca) W fe)) (hb : attributeBase e f X.env (eval e X.env) = eval e X.env := by rfl) :
    PE X (.Attribute e f pos) (tD (gx X ca) W (dUn (dXFld cs f) fe)) :=
  peOf (pe_xq he hb) fun σ H Q ⟨ρ, μ, S, env, sto, h⟩ => tD_then env sto h fun d μ1 S1 H1 v t1 k1 env1 r1 w => by
    cases r1 with
    | exn0 h1 n1 =>
      obtain ⟨hc1, h2⟩ := Wp.need (Wp.bind (show Wp (gx X ca) _ (do M.need (_ ∈ cs); M.get fun _ => ([] : List (Str × D)).lookup f) μ1 S1 H1 _ from w)) k1
      obtain ⟨a, e, _⟩ := Wp.get h2 k1
      simp at e
    | exn1 h1 n1 hx nx rf =>
      obtain ⟨hc1, h2⟩ := Wp.need (Wp.bind (show Wp (gx X ca) _ (do M.need (_ ∈ cs); M.get fun _ => _) μ1 S1 H1 _ from w)) k1
      obtain ⟨a, e, h3⟩ := Wp.get h2 k1
      obtain ⟨v, e2, rv⟩ := rf.lookup e
      obtain ⟨T, no⟩ := hc _ hc1
      exact ⟨_, _, _, _, v, rfl, T, no, h1, hx, e2, h3 (Step.refl _ _ _) v rv⟩
    | _ => exact (show False from w).elim
theorem isX_s {g : Gx} {T : IsTab} {U : List (Nat × String × Bool)} (hT : ∀ q ∈ T, ExcT g.K (g.ca q.1) ∧ PySem.W.kitOne g.K (.ref (g.ca q.1)) (.ref (g.ca q.2.1)) = some q.2.2) (hU : ∀ q ∈ U, ExcT g.K (g.ca q.1) ∧ PySem.W.kitOne g.K (.ref (g.ca q.1)) (.type q.2.1) = some q.2.2) :
    CallS g (rIsQ g.K) (dIsX T U) := by
  intro E μ S H vs xs Q k r h
  have main : ∀ {a : Addr} {c : Nat} {fs : List (Str × D)} {u : V} {y : D}, Rep g μ S H (.ref a) (.exn c fs) → Rep g μ S H u y → Wp g E (dIsX T U [.exn c fs, y]) μ S H (fun d μ' S' H' => ∀ w, Rep g μ' S' H' w d → Q w H') → rIsQ g.K [.ref a, u] H Q := by
    intro a c fs u y ra ru h
    have exd : ∃ d, H a = some (exq a (.ref (g.ca c)) d) ∧ ∀ dd, d = some dd → ∃ fs, H dd = some (.xd fs) := by
      cases ra with
      | exn0 h1 _ => exact ⟨none, h1, fun dd e => nomatch e⟩
      | exn1 h1 _ hx _ _ => exact ⟨_, h1, fun dd e => by cases e; exact ⟨_, hx⟩⟩
    obtain ⟨d, hd1, hd2⟩ := exd
    cases ru with
    | cls c' =>
      obtain ⟨b, e, h2⟩ := Wp.get (Wp.bind (show Wp g E (do let b ← M.get fun _ => isGet T c c'; pure (D.bl b) : M D) μ S H _ from h)) k
      unfold isGet at e
      obtain ⟨q, e1, e2⟩ := Option.map_eq_some_iff.mp e
      have hm := List.mem_of_find?_eq_some e1
      have hp := List.find?_some e1
      simp only [Bool.and_eq_true, beq_iff_eq] at hp
      obtain ⟨p1, p2⟩ := hp
      have := hT q hm
      rw [p1, p2, e2] at this
      exact ⟨a, g.ca c, d, _, _, b, rfl, this.1, hd1, hd2, fun u hu => by cases hu; rfl, this.2, Wp.pure h2 k (Step.refl _ _ _) _ (.bl _)⟩
    | ty n =>
      obtain ⟨b, e, h2⟩ := Wp.get (Wp.bind (show Wp g E (do let b ← M.get fun _ => (U.find? fun q => q.1 == c && q.2.1 == n).map (·.2.2); pure (D.bl b) : M D) μ S H _ from h)) k
      obtain ⟨q, e1, e2⟩ := Option.map_eq_some_iff.mp e
      have hm := List.mem_of_find?_eq_some e1
      have hp := List.find?_some e1
      simp only [Bool.and_eq_true, beq_iff_eq] at hp
      obtain ⟨p1, p2⟩ := hp
      have := hU q hm
      rw [p1, p2, e2] at this
      exact ⟨a, g.ca c, d, _, _, b, rfl, this.1, hd1, hd2, fun u hu => by cases hu; rfl, this.2, Wp.pure h2 k (Step.refl _ _ _) _ (.bl _)⟩
    | _ => exact (show False from h).elim
  match r with
  | .cons (v := v) (d := x) rx (.cons (v := u) (d := y) ry .nil) =>
    match x, rx with
    | .exn c fs, rx =>
      cases rx with
      | exn0 h1 n1 => exact main (.exn0 h1 n1) ry h
      | exn1 h1 n1 hx nx rf => exact main (.exn1 h1 n1 hx nx rf) ry h
    | .non, _ => exact (show False from h).elim
    | .bl _, _ => exact (show False from h).elim
    | .int _, _ => exact (show False from h).elim
    | .str _, _ => exact (show False from h).elim
    | .tup _, _ => exact (show False from h).elim
    | .lst _, _ => exact (show False from h).elim
    | .rol _, _ => exact (show False from h).elim
    | .obj _ _, _ => exact (show False from h).elim
    | .cell _, _ => exact (show False from h).elim
    | .ty _, _ => exact (show False from h).elim
    | .cls _, _ => exact (show False from h).elim
  | .nil => exact (show False from h).elim
  | .cons rx .nil => exact (show False from by cases rx <;> exact h).elim
  | .cons rx (.cons ry (.cons rz q)) => exact (show False from by cases rx <;> cases ry <;> exact h).elim
end
end DD

/-! DD21: dicts, l.pop(i), while, f(k = v, ..), a list times a number -/
namespace DD
open PySem PySem.Spec PyProof.Rows L2

/-! ### dicts -/
def keyOf : D → Option Key
  | .int i => some (.inl i)
  | .str x => some (.inr x)
  | _ => none
def getK (kvs : List (Key × D)) (k : Key) : Option D := (kvs.find? fun kv => decide (kv.1 = k)).map (·.2)
def putKD (kvs : List (Key × D)) (k : Key) (v : D) : List (Key × D) :=
  if (kvs.any fun kv => decide (kv.1 = k)) = true then kvs.map (fun kv => if kv.1 = k then (kv.1, v) else kv) else kvs ++ [(k, v)]
def cellK (n : Nat) (S : Sto) : Option (List (Key × D)) := match S[n]? with | some (some (.dct kvs)) => some kvs | _ => none
theorem cellK_some {n : Nat} {S : Sto} {xs : List (Key × D)} (h : cellK n S = some xs) : S[n]? = some (some (.dct xs)) := by
  unfold cellK at h
  split at h
  · rename_i e
    cases h
    exact e
  · cases h
section
variable {g : Gx} {μ : Gh} {S : Sto} {H : Hp}
theorem keyOf_rep {v : V} {d : D} {k : Key} (r : Rep g μ S H v d) (e : keyOf d = some k) : v = kV k := by
  cases r with
  | int i => cases e; rfl
  | str x => cases e; rfl
  | _ => cases e
theorem RepK.length {vs : List (Key × V)} {ds : List (Key × D)} (r : RepK g μ S H vs ds) : vs.length = ds.length := by
  induction r with
  | nil => rfl
  | cons _ _ ih => rw [List.length_cons, List.length_cons, ih]
theorem RepK.get {vs : List (Key × V)} {ds : List (Key × D)} (r : RepK g μ S H vs ds) (k : Key) : (getK ds k = none ∧ valV vs k = none) ∨ ∃ d v, getK ds k = some d ∧ valV vs k = some v ∧ Rep g μ S H v d := by
  induction r with
  | nil => exact .inl ⟨rfl, rfl⟩
  | @cons k' v vs d ds r _ ih =>
    by_cases e : k' = k
    · refine .inr ⟨d, v, ?_, valV_pos (p := (k', v)) e, r⟩
      simp [getK, List.find?_cons, e]
    · have e1 : getK ((k', d) :: ds) k = getK ds k := by simp [getK, List.find?_cons, e]
      rw [e1, valV_neg (p := (k', v)) e]
      exact ih
theorem RepK.anyK {vs : List (Key × V)} {ds : List (Key × D)} (r : RepK g μ S H vs ds) (k : Key) : (vs.any fun kv => decide (kv.1 = k)) = ds.any fun kv => decide (kv.1 = k) := by
  induction r with
  | nil => rfl
  | cons _ _ ih => rw [List.any_cons, List.any_cons, ih]
theorem RepK.repl {vs : List (Key × V)} {ds : List (Key × D)} (r : RepK g μ S H vs ds) (k : Key) {v : V} {d : D} (rv : Rep g μ S H v d) : RepK g μ S H (vs.map fun kv => if kv.1 = k then (kv.1, v) else kv) (ds.map fun kv => if kv.1 = k then (kv.1, d) else kv) := by
  induction r with
  | nil => exact .nil
  | @cons k' w vs e ds q _ ih =>
    rw [List.map_cons, List.map_cons]
    by_cases z : k' = k
    · rw [if_pos z, if_pos z]
      exact .cons rv ih
    · rw [if_neg z, if_neg z]
      exact .cons q ih
theorem RepK.snoc {vs : List (Key × V)} {ds : List (Key × D)} (r : RepK g μ S H vs ds) (k : Key) {v : V} {d : D} (rv : Rep g μ S H v d) : RepK g μ S H (vs ++ [(k, v)]) (ds ++ [(k, d)]) := by
  induction r with
  | nil => exact .cons rv .nil
  | cons q _ ih => exact .cons q ih
theorem RepK.put {vs : List (Key × V)} {ds : List (Key × D)} (r : RepK g μ S H vs ds) (k : Key) {v : V} {d : D} (rv : Rep g μ S H v d) : RepK g μ S H (putK vs k v) (putKD ds k d) := by
  unfold putK putKD
  rw [r.anyK k]
  split
  · exact r.repl k rv
  · exact r.snoc k rv
theorem cellK_rep (k : StoOk g μ S H) {n : Nat} {xs : List (Key × D)} {a : Addr} (e : cellK n S = some xs) (ha : μ.m[n]? = some a) : ∃ vs, H a = some (.dK vs) ∧ RepK g μ S H vs xs := by
  obtain ⟨b, e1, q⟩ := k.at_ n _ (cellK_some e)
  rw [ha] at e1
  cases e1
  exact q
end
/-- d[k] -/
def dIxK (x y : D) : M D := match x with
  | .cell n => do
    let kvs ← M.get (cellK n)
    let k ← M.get fun _ => keyOf y
    M.get fun _ => getK kvs k
  | _ => M.bad
/-- k in d, k not in d -/
def dInK (neg : Bool) (x y : D) : M D := match y with
  | .cell n => do
    let kvs ← M.get (cellK n)
    let k ← M.get fun _ => keyOf x
    pure (.bl (if neg then !(getK kvs k).isSome else (getK kvs k).isSome))
  | _ => M.bad
def rInK (neg : Bool) : R2 := fun x y H Q => ∃ a o, y = .ref a ∧ DGet H a x o ∧ Q (.bl (if neg then !o.isSome else o.isSome)) H
theorem op_inK {X : Cx} (hu : X.A.units + 1 < cLine) : OpR X (compareOp .In) (rInK false) := by
  intro pins s σ H x y v u Q I rx ry h
  obtain ⟨a, o, rfl, g, q⟩ := h
  cases (show u = Value.ref a from ry)
  exact d_in hu I g rx fun s' I' => ⟨.bl o.isSome, H, I', rfl, q⟩
theorem op_notinK {X : Cx} (hu : X.A.units + 1 < cLine) : OpR X (compareOp .NotIn) (rInK true) := by
  intro pins s σ H x y v u Q I rx ry h
  obtain ⟨a, o, rfl, g, q⟩ := h
  cases (show u = Value.ref a from ry)
  exact d_notIn hu I g rx fun s' I' => ⟨.bl (!o.isSome), H, I', rfl, q⟩
theorem inK_s {g : Gx} {neg : Bool} : OpS g (rInK neg) (dInK neg) := by
  intro E μ S H v u x y Q k rx ry h
  cases ry with
  | @cell a n e =>
    obtain ⟨kvs, e1, h1⟩ := Wp.get (Wp.bind (show Wp g E (do let kvs ← M.get (cellK n); let k ← M.get fun _ => keyOf x; pure (D.bl (if neg then !(getK kvs k).isSome else (getK kvs k).isSome)) : M D) μ S H _ from h)) k
    obtain ⟨kk, e2, h2⟩ := Wp.get (Wp.bind h1) k
    obtain ⟨vs, h4, q⟩ := cellK_rep k e1 e
    have e3 := keyOf_rep rx e2
    refine ⟨a, valV vs kk, rfl, .inl ⟨vs, kk, .inl h4, e3, rfl⟩, ?_⟩
    have e4 : (valV vs kk).isSome = (getK kvs kk).isSome := by
      rcases q.get kk with ⟨z1, z2⟩ | ⟨d, w, z1, z2, _⟩ <;> rw [z1, z2] <;> rfl
    rw [e4]
    exact Wp.pure h2 k (Step.refl _ _ _) (Step.refl _ _ _) _ (.bl _)
  | _ => exact (show False from h).elim
section
variable {X : Cx} {ca : Nat → Addr} {W : WX} {a b e : Expr} {fa fb : DEnv → M D} {pos p p1 p2 pos' : Pos}
theorem pd_ixK (hu : X.A.units + 1 < cLine) (ha : PE X a (tD (gx X ca) W fa)) (hb : PE X b (tD (gx X ca) W fb)) (hs : NoSl b := by intro _ _; rfl) : PE X (.Subscript a b pos) (tD (gx X ca) W (dOp dIxK fa fb)) :=
  peOf (pe_dget hu ha hb hs) fun σ H Q ⟨ρ, μ, S, env, sto, h⟩ => tD_then env sto h fun d μ1 S1 H1 v t1 k1 env1 r1 h1 => tD_then env1 k1 h1 fun d2 μ2 S2 H2 v2 t2 k2 env2 r2 h2 => by
    cases r1 with
    | @cell ao n em =>
      obtain ⟨kvs, e1, h3⟩ := Wp.get (Wp.bind (show Wp (gx X ca) _ (do let kvs ← M.get (cellK n); let k ← M.get fun _ => keyOf d2; M.get fun _ => getK kvs k : M D) μ2 S2 H2 _ from h2)) k2
      obtain ⟨kk, e2, h4⟩ := Wp.get (Wp.bind h3) k2
      obtain ⟨vs, hh, q⟩ := cellK_rep k2 e1 (prefix_get t2.pre em)
      have e3 := keyOf_rep r2 e2
      obtain ⟨d3, e5, h5⟩ := Wp.get h4 k2
      rcases q.get kk with ⟨z1, _⟩ | ⟨d4, w, z1, z2, rw_⟩
      · rw [z1] at e5
        cases e5
      · rw [z1] at e5
        cases e5
        exact ⟨ao, w, rfl, .inl ⟨vs, kk, .inl hh, e3, z2.symm⟩, h5 (Step.refl _ _ _) (Step.refl _ _ _) _ rw_⟩
    | _ => exact (show False from h2).elim
def setIxK (o i v : D) : M Unit := match o with
  | .cell n => do
    let kvs ← M.get (cellK n)
    let k ← M.get fun _ => keyOf i
    M.need (kvs.length < sizeLine)
    M.put fun S => S.set n (some (.dct (putKD kvs k v)))
  | _ => M.bad
def gSubK (fo fi : DEnv → M D) : D → DEnv → M DEnv := fun v ρ => do let o ← fo ρ; let i ← fi ρ; setIxK o i v; pure ρ
theorem gd_subK (hu : X.A.units + 1 < cLine) {o i : Expr} {fo fi : DEnv → M D} (ho : PE X o (tD (gx X ca) (fun _ _ _ _ => False) fo)) (hi : PE X i (tD (gx X ca) (fun _ _ _ _ => False) fi))
    (ha : ∀ v, assign (.Subscript o i pos) X.env v = (do
      let ov ← holding [v] (eval o X.env)
      let iv ← holding [v, ov] (eval i X.env)
      standAt pos
      holding [v, ov, iv] (setItem ov iv v)
      release [v, ov, iv] []) := by intro _; rfl) : PG X (.Subscript o i pos) (tG (gx X ca) [] (gSubK fo fi)) :=
  pgOf (pg_sub ho hi (set_dict hu) ha) fun v σ H Q ⟨d, ρ, μ, S, r, env, sto, h⟩ => tD_then env sto h fun od μ1 S1 H1 ov t1 k1 env1 r1 h1 => tD_then env1 k1 h1 fun id μ2 S2 H2 iv t2 k2 env2 r2 h2 => by
    cases r1 with
    | @cell ao n em =>
      have h3 := Wp.bind h2
      obtain ⟨kvs, e1, h4⟩ := Wp.get (Wp.bind (show Wp (gx X ca) _ (do let kvs ← M.get (cellK n); let k ← M.get fun _ => keyOf id; M.need (kvs.length < sizeLine); M.put fun S => S.set n (some (.dct (putKD kvs k d))) : M Unit) μ2 S2 H2 _ from h3)) k2
      obtain ⟨kk, e2, h5⟩ := Wp.get (Wp.bind h4) k2
      obtain ⟨hl, h6⟩ := Wp.need (Wp.bind h5) k2
      have em2 := prefix_get t2.pre em
      obtain ⟨vs, hh, q⟩ := cellK_rep k2 e1 em2
      obtain ⟨t3, k3⟩ := sto_write k2 (cellK_some e1) em2 (.dct (q.put kk (r.step (t1.trans t2))))
      refine ⟨ao, _, rfl, .inl ⟨vs, kk, hh, keyOf_rep r2 e2, by rw [q.length]; exact hl, rfl⟩, ?_⟩
      have h7 := Wp.put h6 t3 k3 t3 t3 t3
      exact Wp.pure h7 k3 t3 _ (env2.step t3) fun _ _ => rfl
    | _ => exact (show False from Wp.bind h2).elim
/-- {} -/
def newDict (kvs : List (Key × D)) : M D := fun S => .ok (.cell S.length) (S ++ [some (.dct kvs)])
theorem pd_dict0 : PE X (.Dict [] [] pos) (tD (gx X ca) W (fun _ => newDict [])) :=
  peOf pe_dnewK fun σ H Q ⟨ρ, μ, S, env, sto, h⟩ => fun p hp => by
    obtain ⟨t, k', rr⟩ := sto_new (g := gx X ca) (c := .dct []) (o := .dK []) sto hp (.dct .nil) S.length rfl
    exact h _ _ t k' _ rr
/-- {k: v}, both written -/
theorem pd_dict1 {x : Str} {i : Int} {j j' : Nat} : PE X (.Dict [some (.Constant (.str x) j p1)] [.Constant (.int i) j' p2] pos) (tD (gx X ca) W (fun _ => newDict [(.inr x, .int i)])) :=
  peOf (pe_disp (pps_cons pe_str pe_int pps_nil) rfl rfl (fun z => nomatch z) (Nat.le_add_left 1 14)) fun σ H Q ⟨ρ, μ, S, env, sto, h⟩ => fun p hp => by
    obtain ⟨t, k', rr⟩ := sto_new (g := gx X ca) (c := .dct [(.inr x, .int i)]) (o := .dK [(.inr x, .int i)]) sto hp (.dct (.cons (.int _) .nil)) S.length rfl
    refine ⟨upd_same, [(.inr x, .int i)], rfl, Nat.le_add_left 1 14, ?_⟩
    rw [upd_upd]
    exact h _ _ t k' _ rr
end

/-! ### l.pop(i), list * int, list + list as a cell -/
section
variable {g : Gx} {μ : Gh} {S : Sto} {H : Hp}
theorem RepAll.eraseIdx : ∀ {vs : List V} {ds : List D} (i : Nat), RepAll g μ S H vs ds → RepAll g μ S H (vs.eraseIdx i) (ds.eraseIdx i)
  | _, _, _, .nil => .nil
  | _, _, 0, .cons _ q => q
  | _, _, i + 1, .cons r q => .cons r (RepAll.eraseIdx i q)
theorem RepAll.rep {vs : List V} {ds : List D} (r : RepAll g μ S H vs ds) : ∀ n : Nat, RepAll g μ S H (List.replicate n vs).flatten (List.replicate n ds).flatten
  | 0 => .nil
  | n + 1 => by
    rw [List.replicate_succ, List.replicate_succ, List.flatten_cons, List.flatten_cons]
    exact r.append (RepAll.rep r n)
end
def dPopAt : D → List D → M D
  | .cell n, [.int i] => do
    let xs ← M.get (cellL n)
    M.need (-(2 ^ 63) ≤ i ∧ i < 2 ^ 63)
    let k ← M.get fun _ => seqIndex? i xs.length
    let y ← M.get fun _ => xs[k]?
    M.put fun S => S.set n (some (.lst (xs.eraseIdx k)))
    pure y
  | _, _ => M.bad
theorem popAt_s {g : Gx} : MtS g rPopAt dPopAt := by
  intro E μ S H v x vs xs Q k rx r h
  unfold dPopAt at h
  split at h
  · rename_i n i
    obtain ⟨w, rfl, r1⟩ := rep1 r
    cases r1
    cases rx with
    | cell e =>
      obtain ⟨ys, e1, h1⟩ := Wp.get (Wp.bind h) k
      obtain ⟨⟨hn1, hn2⟩, h2⟩ := Wp.need (Wp.bind h1) k
      obtain ⟨j, e2, h3⟩ := Wp.get (Wp.bind h2) k
      obtain ⟨y, e3, h4⟩ := Wp.get (Wp.bind h3) k
      obtain ⟨ws, h5, q⟩ := cell_rep k e1 e
      obtain ⟨z, e4, rz⟩ := q.get e3
      obtain ⟨t, k'⟩ := sto_write k (cellL_some e1) e (.lst (q.eraseIdx j))
      refine ⟨_, ws, i, j, z, rfl, rfl, h5, hn1, hn2, by rw [q.length]; exact e2, e4, ?_⟩
      exact Wp.pure (Wp.put (Wp.bind h4) t k') k' t t t t t _ (rz.step t)
  · exact (show False from h).elim
def dRepL (x y : D) : M D := match y with
  | .int i => do
    let xs ← seqL x
    M.need (-(2 ^ 63) ≤ i ∧ i < 2 ^ 63 ∧ xs.length * i.toNat ≤ sizeLine)
    pure (.lst (List.replicate i.toNat xs).flatten)
  | _ => M.bad
theorem repL_s {g : Gx} : OpS g rRep dRepL := by
  intro E μ S H v u x y Q k rx ry h
  cases ry with
  | int i =>
    obtain ⟨xs, a, vs, rfl, hs, ra, h1⟩ := Wp.seqL (Wp.bind (show Wp g E (do let xs ← seqL x; M.need (-(2 ^ 63) ≤ i ∧ i < 2 ^ 63 ∧ xs.length * i.toNat ≤ sizeLine); pure (D.lst (List.replicate i.toNat xs).flatten) : M D) μ S H _ from h)) k rx
    obtain ⟨⟨h2, h3, h4⟩, h5⟩ := Wp.need (Wp.bind h1) k
    refine ⟨a, i, vs, rfl, rfl, hs, h2, h3, by rw [ra.length]; exact h4, fun p hp => ?_⟩
    obtain ⟨t, k', r⟩ := new_lst k hp (ra.rep i.toNat)
    exact Wp.end h5 t k' t t _ r
  | _ => exact (show False from h).elim
def dAddC (x y : D) : M D := do
  let xs ← seqL x
  let ys ← seqL y
  M.need (xs.length + ys.length ≤ sizeLine)
  newCell (xs ++ ys)
theorem addC_s {g : Gx} : OpS g rCat dAddC := by
  intro E μ S H v u x y Q k rx ry h
  obtain ⟨xs, a, vs, rfl, hs, ra, h1⟩ := Wp.seqL (Wp.bind h) k rx
  obtain ⟨ys, b, ws, rfl, hs2, rb, h2⟩ := Wp.seqL (Wp.bind h1) k ry
  obtain ⟨h3, h4⟩ := Wp.need (Wp.bind h2) k
  refine ⟨a, b, vs, ws, rfl, rfl, hs, hs2, by rw [ra.length, rb.length]; exact h3, fun p hp => ?_⟩
  obtain ⟨μ', S', d, t, k', r, q⟩ := new_cell k (ra.append rb) h4 p hp
  exact q t t t _ r

/-! ### f(k = v, ..) -/
structure HasK (P : Program) (w : World) (K : PySem.W.Frag) (mg : Str → Option Value) (base : Heap) (ca : Nat → Addr) (k : Nat) (x : Str) (ks : List Str) (F : List D → List D → M D) : Prop where
  ex : ∃ f, mg x = some (.ref f) ∧ PySem.W.keepIn K (.ref f) = true ∧ CalK P w K mg base ca k f 0 ks F
theorem HasK.mono {P : Program} {w : World} {K : PySem.W.Frag} {mg : Str → Option Value} {base : Heap} {ca : Nat → Addr} {j k : Nat} {x : Str} {ks : List Str} {F : List D → List D → M D} (h : HasK P w K mg base ca j x ks F) (l : j ≤ k) : HasK P w K mg base ca k x ks F := by
  obtain ⟨f, h1, h2, h3⟩ := h.ex
  exact ⟨f, h1, h2, h3.mono l⟩
theorem Def.kw0 {P : Program} {w : World} {K : PySem.W.Frag} {mg : Str → Option Value} {base : Heap} {ca : Nat → Addr} {x : Str} {st : Stmt} {N ps : List Str} {k : Nat} {fb : DEnv → M Fl} (d : Def K mg x st ps) (sc : FnScope N ps (defScope st)) (ks : List Str) (sel : List (Bool × Nat)) (hn : ps.length = sel.length) (hs : ∀ p ∈ sel, p.2 < if p.1 then 0 else ks.length)
    (hb : ∀ (fd : FuncData), (∃ kV doc pm an cdv ct, fd = PySem.W.fnOf x x (defArgs st) (defBody st) (defScope st) .none kV doc pm an cdv ct) → ∀ (us ws : List Value), us.length = 0 → ws.length = ks.length → bindArgs fd ⟨us, ks.zip ws⟩ = pure (ps.zip (selG sel us ws)))
    (body : ∀ (f : Addr) (cdv : Value) (A : Around) (outer : List Env) (s : Shared) (H : Hp) (E : XK), Room k (cxD P w K mg base N x (defScope st) f cdv A outer s H E).A → Takes (cxD P w K mg base N x (defScope st) f cdv A outer s H E) (wD E) →
      PassesOwn (model P w) (cxD P w K mg base N x (defScope st) f cdv A outer s H E).A (cxD P w K mg base N x (defScope st) f cdv A outer s H E).env (cxD P w K mg base N x (defScope st) f cdv A outer s H E).xe →
      PSs (cxD P w K mg base N x (defScope st) f cdv A outer s H E) (defBody st) (tS ⟨K, ca⟩ (wD E) fb)) : HasK P w K mg base ca (k + 1) x ks (fun as bs => runF N.length fb (selG sel as bs)) := by
  obtain ⟨f, fd, F, hm, hb0⟩ := d.ex
  refine ⟨f, hm, F.kp, fd, ps, sel, _, fn_D F sc hn (body f), hs, fun s us ws h1 h2 => .of_eq (hb fd ?_ us ws h1 h2), rfl⟩
  obtain ⟨oc, od, kV, doc, pm, an, cdv, ct, osl, e, _⟩ := F.ex
  exact ⟨kV, doc, pm, an, cdv, ct, e⟩
def dCallK0 (F : List D → List D → M D) (nk : Nat) (fk : DEnv → M (List D)) : DEnv → M D := fun ρ => do
  let bs ← fk ρ
  M.need (bs.length = nk)
  F [] bs
section
variable {X : Cx} {ca : Nat → Addr} {W : WX} {k : Nat} {ks : List Str} {F : List D → List D → M D} {x : Str} {p pos : Pos} {kws : List Keyword} {fk : DEnv → M (List D)}
theorem pd_callK0 (hF : HasK X.prog X.w X.K X.mg X.base ca k x ks F) (hr : Room k X.A) (tk : Takes X W) (hkw : PK X kws (tDA (gx X ca) W fk)) (hall : (backToKw pos (keywordEach kws X.env)).all (·.1.isSome) = true := by rfl) (hks : (backToKw pos (keywordEach kws X.env)).filterMap (·.1) = ks := by rfl)
    (hpl : ((backTo pos (starEach [] X.env)).any (·.1) || (backToKw pos (keywordEach kws X.env)).any (·.1.isNone)) = false := by rfl) (hg : Gl X x := by rfl) (hdb : (x == ("__debug__" : Str)) = false := by decide) :
    PE X (.Call (.Name x p) [] kws pos) (tD (gx X ca) W (dCallK0 F ks.length fk)) := by
  obtain ⟨f, hm, kp, G⟩ := hF.ex
  refine ⟨fun pins s σ H Q I ⟨ρ, μ, S, env, sto, h⟩ => ?_⟩
  refine wpAny_Call_Name_kw (ld_glob I hg hm ?_ hdb)
  have args : tDA (gx X ca) W fk σ H fun vs2 H2 => ∃ μ2 S2 bs, RepAll (gx X ca) μ2 S2 H2 vs2 bs ∧ bs.length = ks.length ∧ StoOk (gx X ca) μ2 S2 H2 ∧
      Wp (gx X ca) (fun c d H' => W c d σ H') (F [] bs) μ2 S2 H2 fun d μ' S' H' => ∀ v, Rep (gx X ca) μ' S' H' v d → Q v H' :=
    tDA_then env sto h fun as μ2 S2 H2 vs t2 k2 env2 r2 h3 => by
      obtain ⟨hl, h4⟩ := Wp.need (Wp.bind h3) k2
      exact ⟨μ2, S2, as, r2, hl, k2, h4.mono fun _ _ _ _ t _ z => z t⟩
  refine PySem.W.callWith_KW0 (h₀ := X.base) I.ok.mod.kin kp hall ?_ hpl
  refine thn (hkw.run pos pins s σ H _ I args) fun us s2 ⟨vs2, H2, I2, r, μ2, S2, bs, rb, hl, k2, h4⟩ => ⟨I2.kIn, ?_⟩
  rw [hks]
  exact run_calK G hr I2.env0 (fun e s' c => takes_at tk σ I2 c) I2 (us := []) (vs := []) .nil r .nil rb rfl hl k2 h4
end
end DD

/-! DD22: own error classes as they stand at the top -/
namespace DD
open PySem PySem.Spec PyProof.Rows L2
section
variable {K : PySem.W.Frag} {C : Addr} {ca : Nat → Addr} {c : Nat}
theorem oex_of {nm q : Str} {N : Addr} {bs bm : List Value} {sn : List Str} {sub : List Value} {ab : Bool} {col : Option Bool} {dd : Option Addr} {m0 m1 m2 m3 m5 : Option Value} (e : ca c = C)
    (xL : K.lookup C = some (excClassObj nm q C N bs bm true sn sub ab col dd m0 m1 m2 m3 m5 "ValueError.__new__")) (hr : PySem.HandSPX.refsVE bm = true) (sa : PySem.W.findIn K (.ref C) "__setattr__" = some (some (.builtin "object.__setattr__"))) (exC : PySem.W.subIn K (.ref C) (.type "BaseException") = some true)
    (tyC : PySem.W.typeIn K (.ref C) = some (.type "type")) (kC : PySem.W.keepIn K (.ref C) = true) : OexC K (ca c) := by
  subst e
  exact ⟨⟨nm, q, N, bs, bm, sn, sub, ab, col, dd, m0, m1, m2, m3, m5, xL, hr⟩, sa, exC, tyC, kC⟩
theorem ext_of (e : ca c = C) (ga : PySem.W.findIn K (.ref C) "__getattribute__" = some (some (.builtin "BaseException.__getattribute__"))) (gg : PySem.W.findIn K (.ref C) "__getattr__" = some none)
    (exC : PySem.W.subIn K (.ref C) (.type "BaseException") = some true) (hdC : PySem.W.hasDictIn K C = true) (cls : PySem.W.isClsIn K C = true)
    (cl : PySem.W.findIn K (.ref C) "__class__" = some (some (.builtin "object.__class__"))) (cg : PySem.W.specialIn K (.builtin "object.__class__") "__get__" = some (some (.builtin "getset_descriptor.__get__")))
    (ct : PySem.W.takesIn K (.builtin "object.__class__") = some true) (cm : PySem.W.mroIn K C (.type "object") = some true) : ExcT K (ca c) := by
  subst e
  exact ⟨ga, gg, exC, hdC, cls, cl, cg, ct, cm⟩
theorem exm_of {C' : Addr} {c' : Nat} {b : Bool} (e : ca c = C) (e' : ca c' = C') (h1 : PySem.W.subIn K (.ref C') (.type "BaseException") = some true) (h2 : PySem.W.isClsIn K C' = true) (h3 : PySem.W.typeIn K (.ref C') = some (.type "type"))
    (h4 : PySem.W.subIn K (.ref C) (.ref C') = some b) : PySem.W.exmOne K (.ref (ca c)) (.ref (ca c')) = some b := by
  subst e e'
  have e1 : (PySem.W.subIn K (.ref (ca c')) (.type "BaseException") == some true) = true := by rw [h1] <;> rfl
  have e2 : ((PySem.W.clsIn K (ca c')).isSome && PySem.W.typeIn K (.ref (ca c')) == some (.type "type")) = true := by
    have h2' : (PySem.W.clsIn K (ca c')).isSome = true := h2
    rw [h2', h3] <;> rfl
  show (if (PySem.W.subIn K (.ref (ca c')) (.type "BaseException") == some true) = true then (if ((PySem.W.clsIn K (ca c')).isSome && PySem.W.typeIn K (.ref (ca c')) == some (.type "type")) = true then PySem.W.subIn K (.ref (ca c)) (.ref (ca c')) else none) else none) = some b
  rw [if_pos e1, if_pos e2]
  exact h4
theorem kit_self : PySem.W.kitOne K (.ref (ca c)) (.ref (ca c)) = some true := by
  unfold PySem.W.kitOne
  rw [if_pos (beq_self_eq_true _)]
theorem kit_of {C' : Addr} {c' : Nat} {b : Bool} (e : ca c = C) (e' : ca c' = C') (hne : ((Value.ref C : Value) == .ref C') = false) (h2 : PySem.W.isClsIn K C' = true) (h3 : PySem.W.typeIn K (.ref C') = some (.type "type"))
    (h4 : PySem.W.subIn K (.ref C) (.ref C') = some b) : PySem.W.kitOne K (.ref (ca c)) (.ref (ca c')) = some b := by
  subst e e'
  have e2 : ((PySem.W.clsIn K (ca c')).isSome && PySem.W.typeIn K (.ref (ca c')) == some (.type "type")) = true := by
    have h2' : (PySem.W.clsIn K (ca c')).isSome = true := h2
    rw [h2', h3] <;> rfl
  show (if ((Value.ref (ca c) : Value) == .ref (ca c')) = true then some true else (if ((PySem.W.clsIn K (ca c')).isSome && PySem.W.typeIn K (.ref (ca c')) == some (.type "type")) = true then PySem.W.subIn K (.ref (ca c)) (.ref (ca c')) else none)) = some b
  rw [hne, if_neg Bool.false_ne_true, if_pos e2]
  exact h4
theorem no_of' {f : Str} (e : ca c = C) (a : PySem.W.findIn K (.ref C) f = some none) : PySem.W.findIn K (.ref (ca c)) f = some none := by
  subst e
  exact a
theorem Cst.cls {mg : Str → Option Value} {h : Heap} {x : Str} (e : ca c = C) (X : K.In h) (G : h.Ns mainGlobals mg) (a : PySem.W.nsIn K mainGlobals x = some (some (.ref C))) : Cst mg x (.ref (ca c)) := by
  subst e
  exact ⟨_, PySem.W.mg_of X G a, rfl⟩
theorem Cst.cmg {mg : Str → Option Value} {x : Str} (h : Cst mg x (.ref (ca c))) : mg x = some (.ref (ca c)) := by
  obtain ⟨u, e, r⟩ := h
  cases (show u = Value.ref (ca c) from r)
  exact e
/-- a class above others, without an __init__ of its own -/
structure BaseX (K : PySem.W.Frag) (ca : Nat → Addr) (c : Nat) (mc : Value) : Prop where
  rd : PySem.W.readsIn K (ca c) mc = true
  ga : PySem.W.specialIn K (.ref (ca c)) "__getattribute__" = some (some (.builtin "type.__getattribute__"))
  at_ : PySem.W.findCls K (.ref (ca c)) mc "__init__" = some (.val (.builtin "ValueError.__init__"))
theorem BaseX.of {mc : Value} (e : ca c = C) (rd : PySem.W.readsIn K C mc = true) (ga : PySem.W.specialIn K (.ref C) "__getattribute__" = some (some (.builtin "type.__getattribute__")))
    (at_ : PySem.W.findCls K (.ref C) mc "__init__" = some (.val (.builtin "ValueError.__init__"))) : BaseX K ca c mc := by
  subst e
  exact ⟨rd, ga, at_⟩
/-- an error's class with an __init__ of its own -/
structure DefX (K : PySem.W.Frag) (ca : Nat → Addr) (c : Nat) (qual : Str) (st : Stmt) (ps : List Str) : Prop where
  ex : ∃ f fd, Fun K "__init__" qual st f fd ∧ PySem.W.findIn K (.ref (ca c)) "__init__" = some (some (.ref f)) ∧ PySem.W.typeIn K (.ref f) = some (.type "function") ∧ Binds K fd ps []
theorem DefX.of {qual : Str} {st : Stmt} {ps : List Str} {f : Addr} {oc : Value} {od an : Option Addr} {osl : Array (Option Value)} {kV doc pm cdv ct : Value} (e : ca c = C)
    (b : ∀ (kV doc pm : Value) (an : Option Addr) (cdv ct : Value) (us : List Value), us.length = ps.length → bindArgs (PySem.W.fnOf "__init__" qual (defArgs st) (defBody st) (defScope st) .none kV doc pm an cdv ct) ⟨us, []⟩ = pure (ps.zip us))
    (i : PySem.W.findIn K (.ref C) "__init__" = some (some (.ref f))) (t : PySem.W.typeIn K (.ref f) = some (.type "function")) (l : K.lookup f = some ⟨oc, od, .func (PySem.W.fnOf "__init__" qual (defArgs st) (defBody st) (defScope st) .none kV doc pm an cdv ct), osl⟩)
    (cc : PySem.W.codeIn K cdv qual = true) (k : PySem.W.keepIn K (.ref f) = true) : DefX K ca c qual st ps := by
  subst e
  have F := fun_mk (st := st) l cc k
  exact ⟨f, _, F, i, t, F.binds b⟩
variable {P : Program} {w : World} {mg : Str → Option Value} {base : Heap}
/-- what such an __init__ of one field must show -/
theorem DefX.mak1 {qual s f m x : Str} {st : Stmt} (d : DefX K ca c qual st [s, f]) (T : OexC K (ca c)) (hm : Cst mg x (.ref (ca c))) (no : PySem.W.findIn K (.ref (ca c)) f = some none) (sc : FnScope [s, f] [s, f] (defScope st))
    (body : ∀ (fa : Addr) (cdv : Value) (A : Around) (outer : List Env) (sh : Shared) (H : Hp) (E : XK), PSs (cxOf (L2.CX P w) P w K mg base [s, f] qual (defScope st) fa cdv A outer sh H E) (defBody st) (tSeq (tDrop (tVeI K (tCons (tVar 0) (tCons (tC (.str m)) tNil)))) (tOst K f (tVar 0) (tVar 1)))) :
    XMak P w K mg base ca 1 x c [f] := by
  obtain ⟨fa, fd, F, hi, ht, hb⟩ := d.ex
  refine ⟨fa, fd, [s, f], T, hi, ht, F.okX sc (fun vs H Q E h => spX_len rfl vs H Q E h) (fun cdv A outer sh H vs Q E _ h => ⟨_, body fa cdv A outer sh H E, rd_init1 no h⟩), hb, hm.cmg⟩
theorem xmak0_of {x : Str} (e : ca c = C) (ex : PySem.W.excIn K C [.type "ValueError", .type "Exception", .type "BaseException", .type "object"] "ValueError.__new__" = true) (kp : PySem.W.keepIn K (.ref C) = true)
    (sb : PySem.W.subIn K (.ref C) (.type "BaseException") = some true) (ty : PySem.W.typeIn K (.ref C) = some (.type "type")) (hm : Cst mg x (.ref (ca c))) : XMak0 K mg ca x c := by
  subst e
  exact ⟨ex, kp, sb, ty, hm.cmg⟩
end
theorem all_nil' {α : Type} {p : α → Prop} : ∀ q ∈ ([] : List α), p q := fun _ h => nomatch h
theorem all_cons' {α : Type} {p : α → Prop} {a : α} {l : List α} (h : p a) (r : ∀ q ∈ l, p q) : ∀ q ∈ a :: l, p q := fun q hq => by
  rcases List.mem_cons.mp hq with rfl | z
  · exact h
  · exact r q z
theorem room1 {k : Nat} {A : Around} (r : Room k A) : A.units + 1 < cLine := by
  have := r.un
  omega
end DD

/-! EX3: x != y by the class's own ==, at the library's level -/
namespace PySem.W
open PySem PySem.Calls PyProof.Rows Builtin
section
variable {prog : Program} {w : World} {A : Around} {E : Value → Shared → Prop} {s : Shared} {K : Frag} {x C L f : Addr} {h₀ : Heap} {m : Str → Option Value} {ox : Obj} {od : Option Obj} {b tb : Value}
theorem bound_blt {M : Model} {args : List Value} {name : Str} {id B : String} {Q : Option Value → Shared → Prop} (X : K.In s.heap) (I : InstAt s.heap x ox C od) (hs : findIn K (.ref C) name = some (some (.builtin id))) (S : Slot B name id)
    (h : wpAny M A (call (.builtin id) (.ref x :: args)) (fun v => Q (some v)) E s) : wpAny M A (callSpecialIfBound? (.ref x) name args) Q E s := by
  simp only [callSpecialIfBound?, bindSpecialIfBound?]
  refine wpAny_holding (wpAny_bind (wpAny_bind (wpAny_bind (I.type.here ((looks_findIn X hs).here ?_)))))
  simp only [S.bind]
  refine wpAny_bind (wpAny_askSetting (wpAny_ite ?_))
  have fin : wpAny M A (call (.builtin id) ([.ref x] ++ args) >>= fun v => pure (some v)) Q E s := wpAny_bind (wpAny_mono h (fun v s' h' => wpAny_pure h') fun _ _ h' => h')
  split
  · exact wpAny_bind (wpAny_pure (wpAny_pure fin))
  · exact wpAny_tryCatch (wpAny_bind (wpAny_pure (wpAny_pure fin)))
theorem one_ne {Q : Option Value → Shared → Prop} (hu : A.units + 1 < cLine) (X : K.In s.heap) (I : InstAt s.heap x ox C od) (hne : findIn K (.ref C) "__ne__" = some (some (.builtin "object.__ne__"))) (hm : mroIn K C (.type "object") = some true)
    (hs : findIn K (.ref C) "__eq__" = some (some (.ref f))) (hf : isFn K (.ref f) = true) (h : wpAny (model prog w) A.in1 (call (.ref f) [.ref x, b]) (fun v s' => ∃ r, v = .bool r ∧ Q (some (.bool (!r))) s') E s) :
    wpAny (model prog w) A (tryCompare (.ref x) "__ne__" b) Q E s := by
  have sub : Looks (model prog w) s.heap (isInstance (.ref x) (.type "object")) true := I.type.andThen (looks_mroIn X hm)
  unfold tryCompare
  refine wpAny_bind (bound_blt (B := "object") X I hne F.cmp_object.ne (wpAny_call (codeAny_call_builtin F.cmp_object.ne.plain F.cmpEntry_ne ?_)))
  refine check_slot F.cmpKind_ne F.cmpSplit_ne sub (F.cmpArgs_ne _ _) ?_
  unfold Builtin.«object.__ne__»
  refine wpAny_bind (wpAny_of_eq (a := ((Value.ref x : Value), [b])) (by first | rfl | (simp only [slotArgs]; rfl)) ?_)
  refine wpAny_bind (wpAny_cRoomFor (A := A.in1) hu ?_)
  refine wpAny_bind (ifBound_K X I hs hf (wpAny_mono h (fun v s' hv => ?_) fun _ _ e => e))
  obtain ⟨r, rfl, hq⟩ := hv
  refine wpAny_bind (m := truthy (.bool _)) (wpAny_truthy_bool ?_)
  first
    | exact wpAny_pure (wpAny_pure hq)
    | exact wpAny_pure hq
theorem ne_K {Q : Value → Shared → Prop} (hu : A.units + 1 < cLine) (F0 : Fr h₀ L s.heap m) (X₀ : K.In h₀) (I : InstAt s.heap x ox C od) (hb : Looks (model prog w) s.heap (typeOf b) tb) (hn : notFirst K C tb = true) (hne : findIn K (.ref C) "__ne__" = some (some (.builtin "object.__ne__"))) (hm : mroIn K C (.type "object") = some true)
    (hs : findIn K (.ref C) "__eq__" = some (some (.ref f))) (hf : isFn K (.ref f) = true) (h : wpAny (model prog w) A.in1 (call (.ref f) [.ref x, b]) (fun v s' => ∃ r, v = .bool r ∧ Q (.bool (!r)) s') E s) :
    wpAny (model prog w) A (richCompare .NotEq (.ref x) b) Q E s := by
  have X := X₀.keeps F0.keep
  have one : wpAny (model prog w) A (tryCompare (.ref x) "__ne__" b) (fun r s' => ∃ v, r = some v ∧ Q v s') E s :=
    one_ne hu X I hne hm hs hf (wpAny_mono h (fun v s' hv => by
      obtain ⟨r, e, q⟩ := hv
      exact ⟨r, e, _, rfl, q⟩) fun _ _ e => e)
  unfold richCompare
  simp only [oneThing_ref]
  refine wpAny_holding (wpAny_bind (wpAny_cRoomFor (Nat.lt_of_succ_lt hu) ?_))
  rw [cmpInfo_NotEq]
  dsimp only
  refine wpAny_bind (I.type.here (wpAny_bind (hb.here ?_)))
  split
  · rename_i q
    have e : subIn K tb (.ref C) = some false := by
      rcases Bool.or_eq_true_iff.mp hn with e | e
      · rw [beq_iff_eq.mp e] at q; simp at q
      · exact beq_iff_eq.mp e
    refine wpAny_bind ((looks_subIn X e).here ?_)
    simp only [Bool.false_eq_true, if_false]
    refine wpAny_bind (wpAny_mono one (fun r s' z => ?_) fun _ _ e => e)
    obtain ⟨v, rfl, hq⟩ := z
    exact wpAny_pure hq
  · refine wpAny_bind (wpAny_pure ?_)
    simp only [Bool.false_eq_true, if_false]
    refine wpAny_bind (wpAny_mono one (fun r s' z => ?_) fun _ _ e => e)
    obtain ⟨v, rfl, hq⟩ := z
    exact wpAny_pure hq
end
end PySem.W

/-! DD20: own operators, own == and !=, isinstance with own classes -/
namespace DD
open PySem PySem.Spec PyProof.Rows L2

/-! ### x & y, x | y, x - y of two instances of one class -/
def sameC (x y : D) : M Unit := do
  let p ← insD x
  let q ← insD y
  M.need (p.1 = q.1)
def binTail (T : MTab) (x y : D) : M D := do
  let _ ← sameC x y
  let F ← pickS T x
  F [x, y]
def dBinO (T : MTab) (fa fb : DEnv → M D) : DEnv → M D := fun ρ => do
  let x ← fa ρ
  let y ← fb ρ
  binTail T x y
/-- what an operator asks of the class: first in its own order of classes -/
def FirstC (K : PySem.W.Frag) (ca : Nat → Addr) (T : MTab) : Prop := ∀ q ∈ T, PySem.W.selfFirst K (ca q.1) = true
section
variable {X : Cx} {ca : Nat → Addr} {W : WX} {k : Nat} {T : MTab} {a b : Expr} {fa fb : DEnv → M D} {pos : Pos} {op : Operator} {m : Str}
theorem pd_binO (hT : SltX X ca k T m 2) (hf : FirstC X.K ca T) (hr : Room k X.A) (tk : Takes X W) (ha : PE X a (tD (gx X ca) W fa)) (hb : PE X b (tD (gx X ca) W fb)) (hm : PySem.dunder op.info.2 = m := by decide +kernel) :
    PE X (.BinOp a op b pos) (tD (gx X ca) W (dBinO T fa fb)) := by
  refine ⟨fun pins s σ H Q I ⟨ρ, μ, S, env, sto, h⟩ => ?_⟩
  have both : tD (gx X ca) W fa σ H fun v H1 => tD (gx X ca) W fb σ H1 fun u H2 => ∃ μ2 S2 x y, StoOk (gx X ca) μ2 S2 H2 ∧ Rep (gx X ca) μ2 S2 H2 v x ∧ Rep (gx X ca) μ2 S2 H2 u y ∧
      Wp (gx X ca) (fun c d H' => W c d σ H') (binTail T x y) μ2 S2 H2 fun d μ' S' H' => ∀ v, Rep (gx X ca) μ' S' H' v d → Q v H' :=
    tD_then env sto h fun d μ1 S1 H1 v t1 k1 env1 r1 h1 => tD_then env1 k1 h1 fun d2 μ2 S2 H2 v2 t2 k2 env2 r2 h2 => ⟨μ2, S2, d, d2, k2, r1.step t2, r2, h2⟩
  refine wpAny_BinOp (binT ha hb I both fun v u s2 x y H2 I2 rx ry ⟨μ2, S2, dx, dy, k2, r1, r2, h2⟩ => ?_)
  obtain ⟨c1, fs1, a1, dx1, vs1, e1, ea1, _, h3⟩ := Wp.insD (Wp.bind (Wp.bind h2)) k2 r1
  obtain ⟨c2, fs2, a2, dx2, vs2, e2, ea2, _, h4⟩ := Wp.insD (Wp.bind h3) k2 r2
  obtain ⟨ec, h5⟩ := Wp.need h4 k2
  subst e2
  have h6 := h5 (Step.refl _ _ _) (Step.refl _ _ _)
  obtain ⟨c, o, dd, vs, F, rfl, eo, hF, h7⟩ := Wp.pickS (Wp.bind h6) k2 r1
  cases e1
  rw [eo] at ea1
  have ecc : (gx X ca).ca c = (gx X ca).ca c1 := by injection ea1 with z; injection z
  obtain rfl : v = Value.ref a1 := rx
  obtain rfl : u = Value.ref a2 := ry
  obtain ⟨f, f1, f2, f3, G⟩ := (hT _ hF).ex
  obtain ⟨m', fr⟩ := I2.fr
  obtain ⟨od, J⟩ := ins_at I2 eo
  obtain ⟨od2, J2⟩ := ins_at I2 ea2
  have hb2 : PySem.W.Looks (model X.prog X.w) s2.heap (typeOf (.ref a2)) (.ref ((gx X ca).ca c)) := by
    rw [ecc, show c1 = c2 from ec]
    exact J2.type
  refine PySem.W.binop_K fr I2.ok.mod.kin J hb2 (hf _ hF) (by rw [hm]; exact f1) f3 ?_
  refine wpAny_mono (run_cal G hr I2.env0 (fun e s' c => takes_at tk σ I2 c) I2 (us := [.ref a1, .ref a2]) (vs := [.ref a1, .ref a2]) (.cons rfl (.cons rfl .nil)) (.cons r1 (.cons r2 .nil)) rfl k2 (h7.mono fun _ _ _ _ t _ z => z t t)) (fun w s' z => ?_) fun _ _ z => z
  obtain ⟨z', H', I', rz, qz⟩ := z
  exact SlX.cmpback rz ⟨z', H', I', rz, qz⟩
end

/-! ### x == y, x != y, x an instance -/
/-- y is an instance of the c-th class too, or of no own class -/
def yOk (c : Nat) : D → M Unit
  | .non => pure ()
  | .tup _ => pure ()
  | .lst _ => pure ()
  | .obj c' _ => M.need (c' = c)
  | .cell n => do let p ← M.get (insS n); M.need (p.1 = c)
  | _ => M.bad
def eqTail (neg : Bool) (T : MTab) (x y : D) : M D := do
  let p ← insD x
  let _ ← yOk p.1 y
  let F ← M.get fun _ => mtGet T p.1
  let r ← M.nx (F [x, y])
  let b ← toB r
  pure (.bl (b != neg))
def rEqO (g : Gx) (T : MTab) (neg : Bool) : R2 := fun v u H Q => ∃ x y μ S, StoOk g μ S H ∧ Rep g μ S H v x ∧ Rep g μ S H u y ∧ Wp g EF (eqTail neg T x y) μ S H fun d μ' S' H' => ∀ w, Rep g μ' S' H' w d → Q w H'
theorem NoX.need {c : Prop} [Decidable c] : NoX (M.need c) := fun S d fs S' e => by
  unfold M.need at e
  split at e <;> cases e
theorem NoX.yOk {c : Nat} {d : D} : NoX (yOk c d) := by
  cases d <;> first | exact NoX.pure | exact NoX.need | exact NoX.get.bind fun _ => NoX.need | exact NoX.bad
theorem eqO_s {g : Gx} {T : MTab} {neg : Bool} : OpS g (rEqO g T neg) (eqTail neg T) := fun E μ S H v u x y Q k rx ry h =>
  ⟨x, y, μ, S, k, rx, ry, Wp.free (fun c fs S' => (NoX.insD.bind fun _ => NoX.yOk.bind fun _ => NoX.get.bind fun _ => NoX.nx.bind fun _ => NoX.toB.bind fun _ => NoX.pure) S c fs S') h⟩
/-- what == asks of a class -/
structure EqC (K : PySem.W.Frag) (C : Addr) : Prop where
  nn : PySem.W.subIn K (.type "NoneType") (.ref C) = some false
  nt : PySem.W.subIn K (.type "tuple") (.ref C) = some false
  nl : PySem.W.subIn K (.type "list") (.ref C) = some false
  ne : PySem.W.findIn K (.ref C) "__ne__" = some (some (.builtin "object.__ne__"))
  mo : PySem.W.mroIn K C (.type "object") = some true
section
variable {X : Cx} {ca : Nat → Addr} {k : Nat} {T : MTab}
theorem yOk_ty {E : XK} {c : Nat} {μ : Gh} {S : Sto} {H : Hp} {pins : List (Addr × Obj)} {σ : L2.St} {s : Shared} {u : V} {uu : Value} {y : D} {Q : Unit → Gh → Sto → Hp → Prop} (hc : EqC X.K (ca c)) (I : Inv X pins σ H s) (ru : RelV u uu) (k : StoOk (gx X ca) μ S H) (r : Rep (gx X ca) μ S H u y) (h : Wp (gx X ca) E (yOk c y) μ S H Q) :
    ∃ tb, PySem.W.Looks (model X.prog X.w) s.heap (typeOf uu) tb ∧ PySem.W.notFirst X.K (ca c) tb = true ∧ Q () μ S H := by
  have no : ∀ {t : Value}, PySem.W.subIn X.K t (.ref (ca c)) = some false → PySem.W.notFirst X.K (ca c) t = true := fun {t} e => by
    unfold PySem.W.notFirst
    rw [e]
    simp
  cases r with
  | non =>
    cases (show uu = Value.none from ru)
    exact ⟨.type "NoneType", .now, no hc.nn, Wp.pure h k⟩
  | tup f q =>
    cases (show uu = Value.ref _ from ru)
    rcases f with ⟨(f | ⟨o, f⟩), _⟩ | ⟨o, its, n, e1, e2, _⟩
    · obtain ⟨_, _, _, o, h1, h2, _⟩ := (show ObjOk X.prog X.w H s.heap _ (.tup _) from I.hok _ _ f)
      exact ⟨.type "tuple", fun A Q E s k q => wpAny_typeOf_ref (k _ _ h1) (by rw [h2]; exact q), no hc.nt, Wp.pure h k⟩
    · obtain ⟨_, _, _, _, o, h1, h2, _⟩ := (show ObjOk X.prog X.w H s.heap _ (.frz _ (.tup _)) from I.hok _ _ f)
      exact ⟨.type "tuple", fun A Q E s k q => wpAny_typeOf_ref (k _ _ h1) (by rw [h2]; exact q), no hc.nt, Wp.pure h k⟩
    · exact ⟨.type "tuple", fun A Q E s k q => wpAny_typeOf_ref (k _ _ (I.kIn _ _ e1)) (by rw [e2]; exact q), no hc.nt, Wp.pure h k⟩
  | lst f q =>
    cases (show uu = Value.ref _ from ru)
    obtain ⟨_, _, n, _, h1⟩ := (show ObjOk X.prog X.w H s.heap _ (.lst _) from I.hok _ _ f.1)
    exact ⟨.type "list", fun A Q E s k q => wpAny_typeOf_ref (k _ _ h1) q, no hc.nl, Wp.pure h k⟩
  | obj h1 n1 rf =>
    obtain ⟨e, h2⟩ := Wp.need h k
    cases (show uu = Value.ref _ from ru)
    obtain ⟨od, J⟩ := ins_at I h1
    refine ⟨_, J.type, ?_, h2⟩
    unfold PySem.W.notFirst
    rw [e]
    simp
  | cell e1 =>
    obtain ⟨p, e2, h2⟩ := Wp.get (Wp.bind h) k
    obtain ⟨e3, h3⟩ := Wp.need h2 k
    obtain ⟨b, e4, q⟩ := k.at_ _ _ (insS_some e2)
    rw [e1] at e4
    cases e4
    obtain ⟨dx, vs, h4, _⟩ := q
    cases (show uu = Value.ref _ from ru)
    obtain ⟨od, J⟩ := ins_at I h4
    refine ⟨_, J.type, ?_, h3 (Step.refl _ _ _)⟩
    unfold PySem.W.notFirst
    rw [e3]
    simp
  | _ => exact (show False from h).elim
theorem eq_fx {g : Gx} {neg : Bool} {c : Nat} {μ : Gh} {S : Sto} {H : Hp} {x y : D} {Q : D → Gh → Sto → Hp → Prop} (sto : StoOk g μ S H)
    (h : Wp g EF (do let _ ← yOk c y; let F ← M.get fun _ => mtGet T c; let r ← M.nx (F [x, y]); let b ← toB r; pure (D.bl (b != neg)) : M D) μ S H Q) : ∃ Fx, mtGet T c = some Fx := by
  cases e : mtGet T c with
  | some F => exact ⟨F, rfl⟩
  | none =>
    rcases (Wp.bind h).run with ⟨u', S', e2, w⟩ | ⟨c', fs', S', e2, _⟩
    · exfalso
      have w3 : ∀ μ' H', Step μ S H μ' S' H' → StoOk g μ' S' H' → False := fun μ' H' t k => by
        obtain ⟨F, e3, _⟩ := Wp.get (Wp.bind (w μ' H' t k)) k
        rw [e] at e3
        cases e3
      have : S' = S := by
        cases y with
        | cell n =>
          obtain ⟨p, S1, e4, e5⟩ := M.bind_ok e2
          obtain ⟨_, rfl⟩ := M.get_ok e4
          exact (M.need_ok e5).2
        | obj c' fs' => exact (M.need_ok e2).2
        | non => cases e2; rfl
        | tup _ => cases e2; rfl
        | lst _ => cases e2; rfl
        | _ => cases e2
      subst this
      exact w3 μ H (Step.refl _ _ _) sto
    · exact absurd e2 (NoX.yOk _ _ _ _)
theorem op_eqO (hT : SltX X ca k T "__eq__" 2) (hC : ∀ q ∈ T, EqC X.K (ca q.1)) (hr : Room k X.A) : OpR X (compareOp .Eq) (rEqO (gx X ca) T false) := by
  rintro pins s σ H v u vv uu Q I rv ru ⟨x, y, μ, S, sto, rx, ry, h⟩
  obtain ⟨c, fs, a, dx, vs, rfl, ea, _, h1⟩ := Wp.insD (Wp.bind h) sto rx
  have hc : ∀ F, mtGet T c = some F → EqC X.K (ca c) := fun F e => hC (c, F) (mtGet_mem e)
  obtain ⟨Fx, er⟩ := eq_fx sto h1
  obtain ⟨tb, Lb, nf, h2⟩ := yOk_ty (hc _ er) I ru sto ry (Wp.bind h1)
  obtain ⟨F, e1, h3⟩ := Wp.get (Wp.bind h2) sto
  obtain rfl : vv = Value.ref a := rv
  obtain ⟨f, f1, f2, f3, G⟩ := (hT _ (mtGet_mem e1)).ex
  obtain ⟨m, fr⟩ := I.fr
  obtain ⟨od, J⟩ := ins_at I ea
  show wpAny _ _ (richCompare .Eq (.ref a) uu) _ _ _
  refine PySem.W.cmp_K (op := .Eq) (tb := tb) hr.units0 fr I.ok.mod.kin J Lb nf f1 f3 ?_
  obtain ⟨r, S2, er2, hq⟩ := Wp.nx (Wp.bind h3)
  refine wpAny_mono (run_cal (E0 := EF) (Q := Q) (EE := X.xe) G hr I.env0 (fun e s' c => takes_none c) I (us := [.ref a, uu]) (vs := [.ref a, u]) (.cons rfl (.cons ru .nil)) (.cons rx (.cons ry .nil)) rfl sto
    (Wp.of_ok er2 fun μ2 H2 t2 k2 z rz => ?_)) (fun w s' z => ?_) fun _ _ z => z
  · obtain ⟨b, rfl, h4⟩ := Wp.toB (Wp.bind (hq μ2 H2 t2 k2)) k2 rz
    have h5 := Wp.pure h4 k2 (Step.refl _ _ _) t2 t2
    rw [Bool.bne_false] at h5
    exact h5 t2 t2 _ (.bl _)
  · obtain ⟨z', H', I', rz, qz⟩ := z
    exact SlX.cmpback rz ⟨z', H', I', rz, qz⟩
theorem op_neO (hT : SltX X ca k T "__eq__" 2) (hC : ∀ q ∈ T, EqC X.K (ca q.1)) (hr : Room (k + 1) X.A) : OpR X (compareOp .NotEq) (rEqO (gx X ca) T true) := by
  rintro pins s σ H v u vv uu Q I rv ru ⟨x, y, μ, S, sto, rx, ry, h⟩
  obtain ⟨c, fs, a, dx, vs, rfl, ea, _, h1⟩ := Wp.insD (Wp.bind h) sto rx
  have hc : ∀ F, mtGet T c = some F → EqC X.K (ca c) := fun F e => hC (c, F) (mtGet_mem e)
  obtain ⟨Fx, er⟩ := eq_fx sto h1
  obtain ⟨tb, Lb, nf, h2⟩ := yOk_ty (hc _ er) I ru sto ry (Wp.bind h1)
  obtain ⟨F, e1, h3⟩ := Wp.get (Wp.bind h2) sto
  obtain rfl : vv = Value.ref a := rv
  obtain ⟨f, f1, f2, f3, G⟩ := (hT _ (mtGet_mem e1)).ex
  obtain ⟨m, fr⟩ := I.fr
  obtain ⟨od, J⟩ := ins_at I ea
  show wpAny _ _ (richCompare .NotEq (.ref a) uu) _ _ _
  have hE := hc _ er
  have hun : X.A.units + 1 < cLine := by have := hr.un; omega
  refine PySem.W.ne_K (tb := tb) hun fr I.ok.mod.kin J Lb nf hE.ne hE.mo f1 f3 ?_
  obtain ⟨r, S2, er2, hq⟩ := Wp.nx (Wp.bind h3)
  refine wpAny_mono (run_cal (E0 := EF) (Q := fun z H' => ∃ b, z = .bl b ∧ Q (.bl (!b)) H') (EE := X.xe) G hr.in1 I.env0.in1 (fun e s' c => takes_none c) I (us := [.ref a, uu]) (vs := [.ref a, u]) (.cons rfl (.cons ru .nil)) (.cons rx (.cons ry .nil)) rfl sto
    (Wp.of_ok er2 fun μ2 H2 t2 k2 z rz => ?_)) (fun w s' z => ?_) fun _ _ z => z
  · obtain ⟨b, rfl, h4⟩ := Wp.toB (Wp.bind (hq μ2 H2 t2 k2)) k2 rz
    have h5 := Wp.pure h4 k2 (Step.refl _ _ _) t2 t2
    rw [Bool.bne_true] at h5
    refine ⟨b, ?_, h5 t2 t2 _ (.bl _)⟩
    cases rz
    rfl
  · obtain ⟨z', H', I', rz, b, rfl, qz⟩ := z
    exact ⟨b, rz, .bl (!b), H', I', rfl, qz⟩
end

/-! ### isinstance, own classes and built-in ones -/
inductive TK where
  | blt (t : String) | own (c : Nat)
  deriving DecidableEq
def TK.val (g : Gx) : TK → Value
  | .blt t => .type t
  | .own c => .ref (g.ca c)
def cellTy (n : Nat) (S : Sto) : Option TK := match S[n]? with
  | some (some (.lst _)) => some (.blt "list")
  | some (some (.obj c _)) => some (.own c)
  | _ => none
def tyK : D → M TK
  | .obj c _ => pure (.own c)
  | .cell n => M.get (cellTy n)
  | d => do let t ← tyOfM d; pure (.blt t)
def clsK : D → Option TK
  | .ty u => some (.blt u)
  | .cls c => some (.own c)
  | _ => none
abbrev TKTab := List (TK × TK × Bool)
def tkGet (T : TKTab) (a b : TK) : Option Bool := (T.find? fun q => decide (q.1 = a) && decide (q.2.1 = b)).map (·.2.2)
def dIsK (T : TKTab) : List D → M D
  | [x, y] => do
    let κ ← tyK x
    let u ← M.get fun _ => clsK y
    let b ← M.get fun _ => tkGet T κ u
    pure (.bl b)
  | _ => M.bad
/-- what isinstance asks of an own class -/
structure IsC (K : PySem.W.Frag) (C : Addr) : Prop where
  cl : Cls K C
  ca : PySem.W.findIn K (.ref C) "__class__" = some (some (.builtin "object.__class__"))
  cg : PySem.W.specialIn K (.builtin "object.__class__") "__get__" = some (some (.builtin "getset_descriptor.__get__"))
  ct : PySem.W.takesIn K (.builtin "object.__class__") = some true
  cm : PySem.W.mroIn K C (.type "object") = some true
section
variable {g : Gx} {E : XK} {μ : Gh} {S : Sto} {H : Hp} {d : D} {v : V}
theorem tyK_of {Q : TK → Gh → Sto → Hp → Prop} (k : StoOk g μ S H) (r : Rep g μ S H v d) (h : Wp g E (tyK d) μ S H Q) : ∃ κ, ((∀ c, κ = .own c → IsC g.K (g.ca c)) → TyX g.K H v (κ.val g)) ∧ Q κ μ S H := by
  have low : ∀ {t : String}, TyX g.K H v (.type t) → Q (.blt t) μ S H → ∃ κ, ((∀ c, κ = .own c → IsC g.K (g.ca c)) → TyX g.K H v (κ.val g)) ∧ Q κ μ S H := fun {t} a b => ⟨.blt t, fun _ => a, b⟩
  have own : ∀ {c : Nat} {a dx : Addr} {vs : List (Str × V)}, v = .ref a → H a = some (.ins (g.ca c) dx vs) → Q (.own c) μ S H → ∃ κ, ((∀ c, κ = .own c → IsC g.K (g.ca c)) → TyX g.K H v (κ.val g)) ∧ Q κ μ S H := fun {c a dx vs} e1 e2 b =>
    ⟨.own c, fun f => by
      have i := f c rfl
      rw [e1]
      exact .base (.ins e2 i.cl i.ca i.cg i.ct i.cm), b⟩
  have plain : Wp g E (do let t ← tyOfM d; pure (TK.blt t) : M TK) μ S H Q → ∃ κ, ((∀ c, κ = .own c → IsC g.K (g.ca c)) → TyX g.K H v (κ.val g)) ∧ Q κ μ S H := fun h => by
    obtain ⟨t, _, ty, h1⟩ := tyX_of (t := "") k r (Wp.bind h)
    exact low ty (Wp.pure h1 k (Step.refl _ _ _))
  cases r with
  | obj h1 n1 rf => exact own rfl h1 (Wp.pure h k)
  | cell e =>
    obtain ⟨κ, e1, h1⟩ := Wp.get h k
    unfold cellTy at e1
    split at e1
    · rename_i xs e2
      cases e1
      obtain ⟨b, e4, q⟩ := k.at_ _ _ e2
      rw [e] at e4
      cases e4
      obtain ⟨vs, h4, _⟩ := q
      exact low (.base (.lst h4)) h1
    · rename_i c fs e2
      cases e1
      obtain ⟨b, e4, q⟩ := k.at_ _ _ e2
      rw [e] at e4
      cases e4
      obtain ⟨dx, vs, h4, _⟩ := q
      exact own rfl h4 h1
    · cases e1
  | non => exact plain h
  | bl b => exact plain h
  | int i => exact plain h
  | str x => exact plain h
  | tup f q => exact plain h
  | lst f q => exact plain h
  | rol f q => exact plain h
  | ty n => exact plain h
  | cls c => exact plain h
  | exn0 h1 n1 => exact plain h
  | exn1 h1 n1 h2 n2 rf => exact plain h
theorem isK_s {T : TKTab} (hT : ∀ q ∈ T, PySem.W.kitOne g.K (q.1.val g) (q.2.1.val g) = some q.2.2) (hI : ∀ q ∈ T, ∀ c, q.1 = .own c → IsC g.K (g.ca c)) : CallS g (rIsi g.K) (dIsK T) := by
  intro E μ S H vs xs Q k r h
  unfold dIsK at h
  split at h
  · obtain ⟨v, u, rfl, r1, r2⟩ := rep2 r
    obtain ⟨κ, ty, h1⟩ := tyK_of k r1 (Wp.bind h)
    obtain ⟨w, e1, h2⟩ := Wp.get (Wp.bind h1) k
    obtain ⟨b, e2, h3⟩ := Wp.get (Wp.bind h2) k
    unfold tkGet at e2
    obtain ⟨q, e3, e4⟩ := Option.map_eq_some_iff.mp e2
    have hm := List.mem_of_find?_eq_some e3
    have hp := List.find?_some e3
    simp only [Bool.and_eq_true, decide_eq_true_eq] at hp
    have kt := hT q hm
    rw [hp.1, hp.2, e4] at kt
    have ty' := ty fun c e => hI q hm c (by rw [hp.1, e])
    have fin : Q (.bl b) H := Wp.pure h3 k (Step.refl _ _ _) (Step.refl _ _ _) (Step.refl _ _ _) _ (.bl b)
    cases r2 with
    | ty n =>
      cases e1
      exact ⟨_, _, _, _, b, rfl, .ty _, ty', kt, fin⟩
    | cls c =>
      cases e1
      exact ⟨_, _, _, _, b, rfl, .own _, ty', kt, fin⟩
    | _ => cases e1
  · exact (show False from h).elim
end
end DD

/-! DD23: sum of a tuple, max of a list, (n, row) < (m, other), classes whose __init__ has a star parameter -/
namespace DD
open PySem PySem.Spec PyProof.Rows L2

/-! ### sum of a tuple -/
section
variable {prog : Program} {w : World} {A : Around} {E : Value → Shared → Prop} {s : Shared}
theorem sum_rawT {l : Addr} {its : List Value} {ns : List Int} {Q : Value → Shared → Prop} (hh : A.handled = none) (hl : s.heap.IsTuple l its.toArray) (hi : IntsAre its ns)
    (h : ∀ h' tk t', (∀ b o, s.heap.get? b = some o → h'.get? b = some o) → Q (.int ns.sum t') { s with heap := h', toks := tk }) : wpAny (model prog w) A (call (.builtin "sum") [.ref l]) Q E s := by
  obtain ⟨xs, e⟩ := hi.allInts.items
  have hn : numsOf (intItems xs).toList = ns := by rw [← e]; exact hi.numsOf
  rw [nums_intItems] at hn
  rw [e] at hl
  refine call_sum_walkAnyS (PySem.W.iter_tupleW (A := A.in1) hh hl fun s₂ e₂ W st hfp hw hk => ?_)
  refine ⟨_, _, _, _, _, _, _, numAt xs, rfl, W, st, hfp, fun _ _ => intItems_at, fun s' t' hm => ?_⟩
  obtain ⟨h', tk, rfl, hk'⟩ := PySem.W.moved_old e₂ rfl hm
  have z := h h' tk t' hk'
  have e3 : (intItems xs).size = xs.size := by simp [intItems]
  rw [e3, preSum_eq, List.take_of_length_le (by simp), hn]
  exact z
end
def rSumT (K : PySem.W.Frag) : List V → Hp → VK → Prop := fun vs H Q => ∃ (a : Addr) (ns : List Int), vs = [V.ref a] ∧ SqT K H a (ns.map V.int) ∧ Q (.int ns.sum) H
theorem cr_sumT {X : Cx} (hc : X.calm = true) : CallR X (.builtin "sum") (rSumT X.K) := by
  intro pins s σ H vs us Q I r h
  obtain ⟨a, ns, rfl, hs, q⟩ := h
  obtain ⟨its, rv, hl, _⟩ := I.tuple hs
  rw [Vals.ref1 r]
  exact sum_rawT (I.ok.hd hc) hl rv.ints fun h' tk t' hk => ⟨.int _, H, I.kept hk, ⟨_, rfl⟩, q⟩
abbrev dSumT := one fun x => match x with | .tup xs => do let ns ← M.get fun _ => unInts xs; pure (.int ns.sum) | _ => M.bad
section
variable {g : Gx} {μ : Gh} {S : Sto} {H : Hp}
theorem sumT_s : CallS g (rSumT g.K) dSumT := by
  refine one_s fun E μ S H v d Q k r h => ?_
  · skip
    cases r with
    | tup f q =>
      obtain ⟨ns, e, h2⟩ := Wp.get (Wp.bind h) k
      have ev := unInts_rep q e
      subst ev
      exact ⟨_, ns, rfl, f.sq, Wp.pure h2 k (Step.refl _ _ _) _ (.int _)⟩
    | _ => exact (show False from h).elim
/-! ### max of a list of ints -/
def maxI : List Int → Option Int
  | [] => none
  | n :: ns => some (ns.foldl (fun a b => if a ≤ b then b else a) n)
theorem foldl_max : ∀ (ns : List Int) (n : Int), let m := ns.foldl (fun a b => if a ≤ b then b else a) n; (m = n ∨ m ∈ ns) ∧ n ≤ m ∧ ∀ y ∈ ns, y ≤ m
  | [], n => ⟨.inl rfl, Int.le_refl _, fun _ h => nomatch h⟩
  | x :: ns, n => by
    obtain ⟨h1, h2, h3⟩ := foldl_max ns (if n ≤ x then x else n)
    have a1 : n ≤ if n ≤ x then x else n := by split <;> omega
    have a2 : x ≤ if n ≤ x then x else n := by split <;> omega
    refine ⟨?_, Int.le_trans a1 h2, fun y hy => ?_⟩
    · rcases h1 with h1 | h1
      · by_cases q : n ≤ x
        · rw [if_pos q] at h1
          exact .inr (by rw [List.foldl_cons, if_pos q, h1]; exact List.mem_cons_self)
        · rw [if_neg q] at h1
          exact .inl (by rw [List.foldl_cons, if_neg q, h1])
      · exact .inr (List.mem_cons_of_mem _ h1)
    · rcases List.mem_cons.mp hy with rfl | hy
      · exact Int.le_trans a2 h2
      · exact h3 y hy
theorem maxI_spec {ns : List Int} {m : Int} (h : maxI ns = some m) : m ∈ ns ∧ ∀ y ∈ ns, y ≤ m := by
  cases ns with
  | nil => cases h
  | cons n ns =>
    cases h
    obtain ⟨h1, h2, h3⟩ := foldl_max ns n
    refine ⟨?_, fun y hy => ?_⟩
    · rcases h1 with h1 | h1
      · rw [h1]; exact List.mem_cons_self
      · exact List.mem_cons_of_mem _ h1
    · rcases List.mem_cons.mp hy with rfl | hy
      · exact h2
      · exact h3 y hy
abbrev dMaxL := one fun x => do let xs ← seqL x; let ns ← M.get fun _ => unInts xs; let m ← M.get fun _ => maxI ns; pure (.int m)
theorem maxL_s : CallS g (rMax g.K) dMaxL := by
  refine one_s fun E μ S H v d Q k r h => ?_
  · skip
    obtain ⟨xs, a, vs, rfl, hq, rx, h1⟩ := Wp.seqL (Wp.bind h) k r
    obtain ⟨ns, e, h2⟩ := Wp.get (Wp.bind h1) k
    obtain ⟨m, e2, h3⟩ := Wp.get (Wp.bind h2) k
    have ev := unInts_rep rx e
    subst ev
    obtain ⟨m1, m2⟩ := maxI_spec e2
    refine ⟨a, ns, rfl, .of hq, List.length_pos_of_mem m1, fun m' a1 a2 => ?_⟩
    obtain rfl : m' = m := Int.le_antisymm (m2 _ a1) (a2 _ m1)
    exact Wp.pure h3 k (Step.refl _ _ _) (Step.refl _ _ _) (Step.refl _ _ _) _ (.int _)
end

/-! ### (n, row) < (m, other) -/
def pairR (a : Int) (ns : List Int) : PyData := .tuple [.int a, .tuple (ns.map PyData.int)]
theorem alike_ints : ∀ ns ms : List Int, PySem.W.alikeAll (ns.map PyData.int) (ms.map PyData.int) = true
  | [], [] => rfl
  | [], _ :: _ => by simp [PySem.W.alikeAll]
  | _ :: _, [] => by simp [PySem.W.alikeAll]
  | n :: ns, m :: ms => by simpa [PySem.W.alikeAll, PySem.W.alike] using alike_ints ns ms
theorem toks_ints : ∀ ns ms : List Int, PyProof.Rows.lexLt PyProof.Rows.itemOrd (PySem.W.keyToksAll (ns.map PyData.int)) (PySem.W.keyToksAll (ms.map PyData.int)) = HT.lexLt ns ms
  | [], [] => rfl
  | [], m :: ms => rfl
  | n :: ns, [] => rfl
  | n :: ns, m :: ms => by
    have ha : PySem.W.alike (.int n) (.int m) = true := by simp [PySem.W.alike]
    show PyProof.Rows.lexLt PyProof.Rows.itemOrd (PySem.W.keyToksAll (.int n :: ns.map PyData.int)) (PySem.W.keyToksAll (.int m :: ms.map PyData.int)) = _
    rw [HT.lexLt_cons]
    by_cases e : n = m
    · rw [if_pos e, PySem.W.dataLt_all_yes ha (by simp [PyData.eqv, e])]
      exact toks_ints ns ms
    · rw [if_neg e, PySem.W.dataLt_all_no ha (by simp [PyData.eqv, e]), PySem.W.dataLt_int]
theorem lexLt_self : ∀ ns : List Int, HT.lexLt ns ns = false
  | [] => rfl
  | n :: ns => by rw [HT.lexLt_cons, if_pos rfl]; exact lexLt_self ns
theorem eqv_ints : ∀ ns ms : List Int, PyData.eqvAll (ns.map PyData.int) (ms.map PyData.int) = true → ns = ms
  | [], [], _ => rfl
  | [], _ :: _, h => by simp [PyData.eqvAll] at h
  | _ :: _, [], h => by simp [PyData.eqvAll] at h
  | n :: ns, m :: ms, h => by
    simp only [List.map_cons, PySem.W.eqv_all_cons, Bool.and_eq_true] at h
    have e : n = m := by simpa [PyData.eqv] using h.1
    rw [e, eqv_ints ns ms h.2]
theorem pair_lt (a b : Int) (ns ms : List Int) : PySem.W.dataLt (pairR a ns) (pairR b ms) = if a = b then HT.lexLt ns ms else decide (a < b) := by
  have h1 : PySem.W.alike (.int a) (.int b) = true := by simp [PySem.W.alike]
  have h2 : PySem.W.alike (.tuple (ns.map PyData.int)) (.tuple (ms.map PyData.int)) = true := by simpa [PySem.W.alike] using alike_ints ns ms
  unfold pairR
  rw [PySem.W.dataLt_tuple]
  by_cases e : a = b
  · rw [if_pos e, PySem.W.dataLt_all_yes h1 (by simp [PyData.eqv, e])]
    cases q : PyData.eqv (.tuple (ns.map PyData.int)) (.tuple (ms.map PyData.int)) with
    | true =>
      rw [PySem.W.dataLt_all_yes h2 q]
      have : ns = ms := eqv_ints _ _ (by simpa [PyData.eqv] using q)
      subst this
      rw [lexLt_self]
      rfl
    | false =>
      rw [PySem.W.dataLt_all_no h2 q, PySem.W.dataLt_tuple]
      exact toks_ints ns ms
  · rw [if_neg e, PySem.W.dataLt_all_no h1 (by simp [PyData.eqv, e]), PySem.W.dataLt_int]
def rLtR (K : PySem.W.Frag) : R2 := fun x y H Q => ∃ a b ns ms, Dp K H x (pairR a ns) ∧ Dp K H y (pairR b ms) ∧ Q (.bl (if a = b then HT.lexLt ns ms else decide (a < b))) H
theorem depth_ints : ∀ ns : List Int, PyData.depthAll (ns.map PyData.int) ≤ 1
  | [] => by simp [PyData.depthAll]
  | n :: ns => by
    have := depth_ints ns
    simp only [List.map_cons, PyData.depthAll, PyData.depth]
    omega
theorem depth_pair (a : Int) (ns : List Int) : (pairR a ns).depth ≤ 8 := by
  have := depth_ints ns
  simp only [pairR, PyData.depth, PyData.depthAll]
  omega
theorem op_ltR {X : Cx} (hu : X.A.units + 64 < cLine) : OpR X (compareOp .Lt) (rLtR X.K) := by
  intro pins s σ H x y v u Q I rx ry h
  obtain ⟨a, b, ns, ms, hd, he, q⟩ := h
  obtain ⟨as, r1⟩ := Dp.reads I _ x v hd rx
  obtain ⟨bs, r2⟩ := Dp.reads I _ y u he ry
  have h2 : PySem.W.alike (pairR a ns) (pairR b ms) = true := by
    simpa [pairR, PySem.W.alike, PySem.W.alikeAll] using alike_ints ns ms
  have d1 := depth_pair a ns
  have R := PySem.W.rcLt_alike _ _ X.A s v u as bs r1 r2 h2 (by unfold pairR; exact fun z => nomatch z) (by omega)
  rw [pair_lt] at R
  exact R X.prog X.w X.xe (EP X pins σ Q) ⟨.bl _, H, I, rfl, q⟩
def dLtR (x y : D) : M D := match x, y with
  | .tup [.int a, .tup xs], .tup [.int b, .tup ys] => do
    let ns ← M.get fun _ => unInts xs
    let ms ← M.get fun _ => unInts ys
    pure (.bl (if a = b then HT.lexLt ns ms else decide (a < b)))
  | _, _ => M.bad
theorem toPs_ints {S : Sto} {n : Nat} : ∀ {xs : List D} {ns : List Int}, unInts xs = some ns → toPs (toP S (n + 1)) xs = some (ns.map PyData.int)
  | [], ns, h => by cases h; rfl
  | x :: xs, ns, h => by
    cases x with
    | int i =>
      obtain ⟨ms, e1, rfl⟩ := map_some (show (unInts xs).map (i :: ·) = some ns from h)
      show ((toP S (n + 1) (.int i)).bind fun p => (toPs (toP S (n + 1)) xs).map (p :: ·)) = _
      rw [toPs_ints e1]
      rfl
    | _ => cases h
theorem ltR_s {g : Gx} : OpS g (rLtR g.K) dLtR := by
  intro E μ S H v u x y Q k rx ry h
  unfold dLtR at h
  split at h
  · rename_i a xs b ys
    obtain ⟨ns, e1, h1⟩ := Wp.get (Wp.bind h) k
    obtain ⟨ms, e2, h2⟩ := Wp.get (Wp.bind h1) k
    have p1 : toP S 70 (.tup [.int a, .tup xs]) = some (pairR a ns) := by
      show (toPs (toP S 69) [.int a, .tup xs]).map PyData.tuple = _
      show (((toP S 69 (.int a)).bind fun p => (((toP S 69 (.tup xs)).bind fun p => (some []).map (p :: ·))).map (p :: ·))).map PyData.tuple = _
      have : toP S 69 (.tup xs) = some (.tuple (ns.map PyData.int)) := by
        show (toPs (toP S 68) xs).map PyData.tuple = _
        rw [toPs_ints e1]
        rfl
      rw [this]
      rfl
    have p2 : toP S 70 (.tup [.int b, .tup ys]) = some (pairR b ms) := by
      show (((toP S 69 (.int b)).bind fun p => (((toP S 69 (.tup ys)).bind fun p => (some []).map (p :: ·))).map (p :: ·))).map PyData.tuple = _
      have : toP S 69 (.tup ys) = some (.tuple (ms.map PyData.int)) := by
        show (toPs (toP S 68) ys).map PyData.tuple = _
        rw [toPs_ints e2]
        rfl
      rw [this]
      rfl
    exact ⟨a, b, ns, ms, toP_dp k _ _ _ _ rx p1, toP_dp k _ _ _ _ ry p2, Wp.pure h2 k (Step.refl _ _ _) (Step.refl _ _ _) _ (.bl _)⟩
  · exact (show False from h).elim
end DD

/-! DD24: classes whose __init__ has a star parameter; calls whose first argument is starred -/
namespace DD
open PySem PySem.Spec PyProof.Rows L2

def spS (g : Gx) (F : List D → M D) : Sp := fun vs H Q E => ∃ ws rest, vs = ws ++ rest ∧ ws.length = 1 ∧ rest.length ≤ sizeLine ∧ ∀ p, H p = none → spD g 2 F (ws ++ [V.ref p]) (upd H p (.tup rest)) Q E
structure MakS (P : Program) (w : World) (K : PySem.W.Frag) (mg : Str → Option Value) (base : Heap) (ca : Nat → Addr) (k : Nat) (x : Str) (c : Nat) (F : List D → M D) : Prop where
  ex : ∃ f, Mk K (ca c) f ∧ mg x = some (.ref (ca c)) ∧ FnR P w K mg base (L2.CX P w) k f (spS ⟨K, ca⟩ F)
theorem MakS.mono {P : Program} {w : World} {K : PySem.W.Frag} {mg : Str → Option Value} {base : Heap} {ca : Nat → Addr} {j k c : Nat} {x : Str} {F : List D → M D} (h : MakS P w K mg base ca j x c F) (l : j ≤ k) : MakS P w K mg base ca k x c F := by
  obtain ⟨f, h1, h2, h3⟩ := h.ex
  exact ⟨f, h1, h2, h3.mono l⟩
def starF (F : List D → M D) : List D → M D
  | x :: r => F [x, .tup r]
  | [] => M.bad
def dMakeS (c : Nat) (fz : Bool) (F : List D → M D) (fs : DEnv → M (List D)) : DEnv → M D := fun ρ => do
  let as ← fs ρ
  M.need (as.length ≤ sizeLine)
  makeD c fz (starF F) as
section
variable {X : Cx} {ca : Nat → Addr} {W : WX} {k c : Nat} {F : List D → M D} {x : Str} {p pos sp_ : Pos} {e : Expr} {es : List Expr} {fs : DEnv → M (List D)}
theorem run_makS {f : Addr} (Mc : Mk X.K (ca c) f) (G : FnR X.prog X.w X.K X.mg X.base (L2.CX X.prog X.w) k f (spS ⟨X.K, ca⟩ F)) (hr : Room (k + 1) X.A) (tk : Takes X W) {pins : List (Addr × Obj)} {σ : L2.St} {H : Hp} {s : Shared} {us : List Value} {vs : List V} {as : List D} {μ : Gh} {S : Sto} {Q : VK} {fz : Bool}
    (I : Inv X pins σ H s) (r : Vals vs us) (ra : RepAll (gx X ca) μ S H vs as) (hl : as.length ≤ sizeLine) (sto : StoOk (gx X ca) μ S H)
    (h : Wp (gx X ca) (fun c d H' => W c d σ H') (makeD c fz (starF F) as) μ S H fun d μ' S' H' => ∀ v, Rep (gx X ca) μ' S' H' v d → Q v H') : wpAny (model X.prog X.w) X.A (call (.ref (ca c)) us) (EP X pins σ Q) X.xe s := by
  let dx := s.heap.objs.size
  let y := s.heap.objs.size + 1
  have ne : dx ≠ y := Nat.ne_of_lt (Nat.lt_succ_self _)
  have I2 := Inv.made (C := ca c) I
  have n1 : H dx = none := I.hok.fresh (Nat.le_refl _)
  have n2 : (upd H dx (.own y)) y = none := by rw [upd_ne ne.symm]; exact I.hok.fresh (Nat.le_succ _)
  obtain ⟨t2, k2, r2⟩ := sto_new (o := .ins (ca c) dx []) (sto.alloc (o := .own y) n1) n2 (.obj (c := c) .nil) S.length rfl
  have t02 := (Step.alloc (μ := μ) (S := S) (o := .own y) n1).trans t2
  have h2 : Wp (gx X ca) (fun c d H' => W c d σ H') (do let r ← starF F (.cell S.length :: as); toN r; if fz then freezeD (.cell S.length) else pure (.cell S.length)) ⟨μ.m ++ [y], μ.ex⟩ (S ++ [some (.obj c [])]) (upd (upd H dx (.own y)) y (.ins (ca c) dx []))
      fun d μ' S' H' => ∀ v, Rep (gx X ca) μ' S' H' v d → Q v H' :=
    ((Wp.bind (show Wp (gx X ca) (fun c d H' => W c d σ H') (newIns c >>= fun x => do let r ← starF F (x :: as); toN r; if fz then freezeD x else pure x) μ S H fun d μ' S' H' => ∀ v, Rep (gx X ca) μ' S' H' v d → Q v H' from h)) _ _ t02 k2).mono fun _ _ _ _ t _ z => z (t02.trans t)
  have rall := ra.step t02
  have hy : (μ.m ++ [y])[S.length]? = some y := by
    rw [← sto.len, List.getElem?_append_right (Nat.le_refl _)]
    simp
  have hsp : spS ⟨X.K, ca⟩ F (V.ref y :: vs) (upd (upd H dx (.own y)) y (.ins (ca c) dx [])) (fun v H' => v = .non ∧ Q (.ref y) H') (fun c d H' => W c d σ H') := by
    refine ⟨[V.ref y], vs, rfl, rfl, by rw [ra.length]; exact hl, fun pp hp => ?_⟩
    obtain ⟨t3, k3, r3⟩ := new_tup k2 hp rall
    refine ⟨[.cell S.length, .tup as], _, _, rfl, .cons (r2.step t3) (.cons r3 .nil), k3, (Wp.later t3 (Wp.bind (show Wp (gx X ca) (fun c d H' => W c d σ H') (F [.cell S.length, .tup as] >>= fun r => do toN r; if fz then freezeD (.cell S.length) else pure (.cell S.length)) _ _ _ _ from h2))).mono fun d μ3 S3 H3 t4 k4 h3 v rv => ?_⟩
    obtain ⟨ev, h4⟩ := Wp.toN (Wp.bind h3) k4 rv
    have hy3 := prefix_get (t3.trans t4).pre hy
    refine ⟨ev, ?_⟩
    cases fz with
    | false => exact Wp.pure h4 k4 (Step.refl _ _ _) (t3.trans t4) _ (.cell hy3)
    | true =>
      obtain ⟨q, e1, h5⟩ := Wp.get (Wp.bind (show Wp (gx X ca) (fun c d H' => W c d σ H') (freezeD (.cell S.length)) μ3 S3 H3 _ from h4)) k4
      obtain ⟨t5, k5, r5⟩ := sto_freeze k4 (insS_some e1) hy3
      have h6 := (Wp.bind h5) μ3 H3 t5 k5
      exact Wp.pure h6 k5 t5 t5 t5 ((t3.trans t4).trans t5) _ r5
  have go := G _ X.stack _ _ (Value.ref y :: us) (V.ref y :: vs) _ _ (hr.make (ca c) us []) (I2.env0.make (ca c) us []) (.cons rfl r) hsp
  refine wpAny_call (make_map (f := f) I.kIn Mc.makes Mc.init (beq_iff_eq.mp Mc.fn) (codeAny_mono go fun res s' hq => ?_))
  match res, hq with
  | .error e, hq => exact takes_at tk σ I2 hq
  | .ok (.ret u), hq =>
    obtain ⟨v, H', I3, rv, ev, q3⟩ := I2.after hq
    subst ev
    exact ⟨rv, ⟨V.ref y, H', I3, rfl, q3⟩⟩
  | .ok .next, hq => exact hq.elim
  | .ok .brk, hq => exact hq.elim
  | .ok .cont, hq => exact hq.elim
theorem args_makS {σ : L2.St} {H : Hp} {Q : VK} {fz : Bool} (h : tD (gx X ca) W (dMakeS c fz F fs) σ H Q) : tDA (gx X ca) W fs σ H fun vs H2 => ∃ μ2 S2 as, RepAll (gx X ca) μ2 S2 H2 vs as ∧ as.length ≤ sizeLine ∧ StoOk (gx X ca) μ2 S2 H2 ∧
    Wp (gx X ca) (fun c d H' => W c d σ H') (makeD c fz (starF F) as) μ2 S2 H2 fun d μ' S' H' => ∀ v, Rep (gx X ca) μ' S' H' v d → Q v H' := by
  obtain ⟨ρ, μ, S, env, sto, h⟩ := h
  exact tDA_then env sto h fun as μ2 S2 H2 vs t2 k2 env2 r2 h3 => by
    obtain ⟨hl, h4⟩ := Wp.need (Wp.bind h3) k2
    exact ⟨μ2, S2, as, r2, hl, k2, h4.mono fun _ _ _ _ t _ z => z t⟩
/-- C(e, ..) -/
theorem pd_makeS {fz : Bool} (hM : MakS X.prog X.w X.K X.mg X.base ca k x c F) (hr : Room (k + 1) X.A) (tk : Takes X W) (ha : PA X (e :: es) (tDA (gx X ca) W fs)) (hg : Gl X x := by rfl) (hdb : (x == ("__debug__" : Str)) = false := by decide)
    (he : starEach (e :: es) X.env = (false, eval e X.env) :: starEach es X.env := by rfl) (hpl : (backTo pos (starEach es X.env)).any (·.1) = false := by rfl) : PE X (.Call (.Name x p) (e :: es) [] pos) (tD (gx X ca) W (dMakeS c fz F fs)) := by
  obtain ⟨f, Mc, hm, G⟩ := hM.ex
  refine ⟨fun pins s σ H Q I h => ?_⟩
  refine wpAny_Call_Name_kw (ld_glob I hg hm ?_ hdb)
  exact PySem.W.callWith_K (h₀ := X.base) I.ok.mod.kin Mc.kp (thn (ha.run pos pins s σ H _ I (args_makS h)) fun us s2 ⟨vs2, H2, I2, r, μ2, S2, as, ra, hl, k2, h4⟩ => ⟨I2.kIn, run_makS Mc G hr tk I2 r ra hl k2 h4⟩) he hpl
/-- C() -/
theorem pd_makeS0 {fz : Bool} (hM : MakS X.prog X.w X.K X.mg X.base ca k x c F) (hr : Room (k + 1) X.A) (tk : Takes X W) (hg : Gl X x := by rfl) (hdb : (x == ("__debug__" : Str)) = false := by decide) : PE X (.Call (.Name x p) [] [] pos) (tD (gx X ca) W (dMakeS c fz F aNil)) := by
  obtain ⟨f, Mc, hm, G⟩ := hM.ex
  refine ⟨fun pins s σ H Q I ⟨ρ, μ, S, env, sto, h⟩ => ?_⟩
  refine wpAny_Call_Name_kw (ld_glob I hg hm ?_ hdb)
  have h0 : Wp (gx X ca) (fun c d H' => W c d σ H') (makeD c fz (starF F) []) μ S H fun d μ' S' H' => ∀ v, Rep (gx X ca) μ' S' H' v d → Q v H' := by
    have h1 := Wp.pure (Wp.bind h) sto
    obtain ⟨_, h2⟩ := Wp.need (Wp.bind h1) sto
    exact h2.mono fun _ _ _ _ t _ z => z t t
  exact PySem.W.callWith_K0 I.kIn Mc.kp (run_makS Mc G hr tk I .nil .nil (Nat.zero_le _) sto h0)
theorem star2_any {a b : Expr} (he : starEach [.Starred a p, .Starred b sp_] X.env = [(true, eval a X.env), (true, eval b X.env)] := by rfl) : (backTo pos (starEach [.Starred a p, .Starred b sp_] X.env)).any (·.1) = true := by
  rw [he]
  rfl
end
end DD

/-! DD25: C(*a, *b); a class with a star __init__ as it stands at the top -/
namespace DD
open PySem PySem.Spec PyProof.Rows L2
section
variable {M : Model} {A : Around} {E : Value → Shared → Prop} {s : Shared}
theorem evalArgs_two {f : Value} {x : Sem Value} {q : Bool × Sem Value} {rest : List (Bool × Sem Value)} {Q : Args → Shared → Prop}
    (h : wpAny M A (spliced ((true, x) :: q :: rest)) (fun vs s' => Q ⟨vs, []⟩ s') E s) : wpAny M A (evalArgs f true ((true, x) :: q :: rest) []) Q E s := by
  unfold evalArgs
  show wpAny M A (spliced ((true, x) :: q :: rest) >>= _) Q E s
  refine wpAny_bind (wpAny_mono h (fun vs s' h' => ?_) fun _ _ x => x)
  refine wpAny_holding ?_
  exact wpAny_bind (wpAny_pure (wpAny_bind (wpAny_pure (wpAny_pure h'))))
theorem callWith_SS {K : PySem.W.Frag} {env : Env} {pos p p' : Pos} {f : Value} {first : List Value} {Q : Value → Shared → Prop} {a b : Expr} (hk : PySem.W.keepIn K f = true)
    (h : wpAny M A (spliced (backTo pos (starEach [.Starred a p, .Starred b p'] env))) (fun vs s₁ => K.In s₁.heap ∧ wpAny M A (call f (first ++ vs)) Q E s₁) E s)
    (he : starEach [.Starred a p, .Starred b p'] env = [(true, eval a env), (true, eval b env)] := by rfl) :
    wpAny M A (callWith pos f first (backTo pos (starEach [.Starred a p, .Starred b p'] env)) []) Q E s := by
  rw [he] at h ⊢
  exact PySem.W.ks_call rfl (PySem.W.keeps_K hk) (evalArgs_two h)
end
section
variable {X : Cx} {ca : Nat → Addr} {W : WX} {k c : Nat} {F : List D → M D} {x : Str} {p pos p1 p2 : Pos} {a b : Expr} {fs : DEnv → M (List D)}
/-- C(*a, *b) -/
theorem pd_makeSS {fz : Bool} (hM : MakS X.prog X.w X.K X.mg X.base ca k x c F) (hr : Room (k + 1) X.A) (tk : Takes X W) (ha : PA X [.Starred a p1, .Starred b p2] (tDA (gx X ca) W fs)) (hg : Gl X x := by rfl) (hdb : (x == ("__debug__" : Str)) = false := by decide)
    (he : starEach [.Starred a p1, .Starred b p2] X.env = [(true, eval a X.env), (true, eval b X.env)] := by rfl) : PE X (.Call (.Name x p) [.Starred a p1, .Starred b p2] [] pos) (tD (gx X ca) W (dMakeS c fz F fs)) := by
  obtain ⟨f, Mc, hm, G⟩ := hM.ex
  refine ⟨fun pins s σ H Q I h => ?_⟩
  refine wpAny_Call_Name_kw (ld_glob I hg hm ?_ hdb)
  exact callWith_SS Mc.kp (thn (ha.run pos pins s σ H _ I (args_makS h)) fun us s2 ⟨vs2, H2, I2, r, μ2, S2, as, ra, hl, k2, h4⟩ => ⟨I2.kIn, run_makS Mc G hr tk I2 r ra hl k2 h4⟩) he
end
section
variable {P : Program} {w : World} {K : PySem.W.Frag} {mg : Str → Option Value} {base : Heap} {ca : Nat → Addr} {C : Addr} {c : Nat} {h : Heap}
/-- an __init__ with self and a star parameter -/
structure DefIS (K : PySem.W.Frag) (mg : Str → Option Value) (ca : Nat → Addr) (c : Nat) (cn qual : Str) (st : Stmt) (pv : Str) : Prop where
  ex : ∃ f, (∀ {P : Program} {w : World} {base : Heap} {N : List Str} {k : Nat} {fb : DEnv → M Fl}, FnScope N [("self" : Str), pv] (defScope st) →
      (∀ (f : Addr) (cdv : Value) (A : Around) (outer : List Env) (s : Shared) (H : Hp) (E : XK), Room k (cxD P w K mg base N qual (defScope st) f cdv A outer s H E).A → Takes (cxD P w K mg base N qual (defScope st) f cdv A outer s H E) (wD E) →
        PassesOwn (model P w) (cxD P w K mg base N qual (defScope st) f cdv A outer s H E).A (cxD P w K mg base N qual (defScope st) f cdv A outer s H E).env (cxD P w K mg base N qual (defScope st) f cdv A outer s H E).xe →
        PSs (cxD P w K mg base N qual (defScope st) f cdv A outer s H E) (defBody st) (tS ⟨K, ca⟩ (wD E) fb)) → FnR P w K mg base (L2.CX P w) (k + 1) f (spS ⟨K, ca⟩ (runF N.length fb))) ∧
    Mk K (ca c) f ∧ mg cn = some (.ref (ca c))
theorem DefIS.at {cn qual pv : Str} {st : Stmt} {N : List Str} {k : Nat} {fb : DEnv → M Fl} (d : DefIS K mg ca c cn qual st pv) (sc : FnScope N [("self" : Str), pv] (defScope st))
    (body : ∀ (f : Addr) (cdv : Value) (A : Around) (outer : List Env) (s : Shared) (H : Hp) (E : XK), Room k (cxD P w K mg base N qual (defScope st) f cdv A outer s H E).A → Takes (cxD P w K mg base N qual (defScope st) f cdv A outer s H E) (wD E) →
      PassesOwn (model P w) (cxD P w K mg base N qual (defScope st) f cdv A outer s H E).A (cxD P w K mg base N qual (defScope st) f cdv A outer s H E).env (cxD P w K mg base N qual (defScope st) f cdv A outer s H E).xe →
      PSs (cxD P w K mg base N qual (defScope st) f cdv A outer s H E) (defBody st) (tS ⟨K, ca⟩ (wD E) fb)) : MakS P w K mg base ca (k + 1) cn c (runF N.length fb) := by
  obtain ⟨f, h1, h2, h3⟩ := d.ex
  exact ⟨f, h2, h3, h1 sc body⟩
theorem DefIS.of {cn qual pv : Str} {st : Stmt} {f : Addr} {oc : Value} {od an : Option Addr} {osl : Array (Option Value)} {kV doc pm cdv ct : Value} (e : ca c = C) (X : K.In h) (G : h.Ns mainGlobals mg)
    (b0 : ∀ (kV doc pm : Value) (an : Option Addr) (cdv ct : Value) (v : Value), bindArgs (PySem.W.fnOf "__init__" qual (defArgs st) (defBody st) (defScope st) .none kV doc pm an cdv ct) ⟨[v], []⟩ = (newTuple [] >>= fun t => pure [(("self" : Str), v), (pv, t)]))
    (b1 : ∀ (kV doc pm : Value) (an : Option Addr) (cdv ct : Value) (v r : Value) (rs : List Value), bindArgs (PySem.W.fnOf "__init__" qual (defArgs st) (defBody st) (defScope st) .none kV doc pm an cdv ct) ⟨v :: r :: rs, []⟩ = (newTuple (r :: rs) >>= fun t => pure [(("self" : Str), v), (pv, t)]))
    (a : PySem.W.nsIn K mainGlobals cn = some (some (.ref C))) (m : PySem.W.makesIn K C = true) (i : PySem.W.findIn K (.ref C) "__init__" = some (some (.ref f))) (fn : PySem.W.isFn K (.ref f) = true) (kc : PySem.W.keepIn K (.ref C) = true)
    (l : K.lookup f = some ⟨oc, od, .func (PySem.W.fnOf "__init__" qual (defArgs st) (defBody st) (defScope st) .none kV doc pm an cdv ct), osl⟩)
    (cc : PySem.W.codeIn K cdv qual = true) : DefIS K mg ca c cn qual st pv := by
  obtain ⟨h1, h2⟩ := mak_of (ca := ca) e X G a m i fn kc
  refine ⟨f, fun sc body => ?_, h1, h2⟩
  exact StX.fn_star (ps := [("self" : Str)]) (pv := pv) l cc sc StX.cxUp (StX.bind_star1 (B := fun l => bindArgs (PySem.W.fnOf "__init__" qual (defArgs st) (defBody st) (defScope st) .none kV doc pm an cdv ct) ⟨l, []⟩) (b0 kV doc pm an cdv ct) (b1 kV doc pm an cdv ct)) fun A outer s H vs Q E hr hs => ⟨_, body f cdv A outer s H E hr (takes_of rfl rfl rfl rfl) (passes_of rfl), sp_body hs⟩
end
theorem first1 {K : PySem.W.Frag} {ca : Nat → Addr} {c : Nat} {F : List D → M D} (h : PySem.W.selfFirst K (ca c) = true) : FirstC K ca [(c, F)] := fun q hq => by
  rcases List.mem_singleton.mp hq with rfl
  exact h
theorem sf_of {K : PySem.W.Frag} {ca : Nat → Addr} {c : Nat} {C : Addr} (e : ca c = C) (h : PySem.W.selfFirst K C = true) : PySem.W.selfFirst K (ca c) = true := by
  rw [e]
  exact h

/-! ### t == (), t != (), t any tuple -/
def rEqE (K : PySem.W.Frag) (neg : Bool) : R2 := fun x y H Q => ∃ (a b : Addr) (xs : List V), x = .ref a ∧ y = .ref b ∧ SqT K H a xs ∧ SqT K H b [] ∧ Q (.bl (xs.isEmpty != neg)) H
theorem op_eqE {X : Cx} (hu : X.A.units < cLine) : OpR X (compareOp .Eq) (rEqE X.K false) := by
  intro pins s σ H x y v u Q I rx ry h
  obtain ⟨a, b, xs, rfl, rfl, ha, hb, q⟩ := h
  cases rx
  cases ry
  obtain ⟨its, r1, p1, _⟩ := I.tuple ha
  obtain ⟨its2, r2, p2, _⟩ := I.tuple hb
  cases r2
  have R := SeqAt.RcAt.tuples (A := X.A) (s := s) (e := fun _ => true) p1 p2 hu (fun j j1 j2 => absurd j2 (by simp))
  have e : ((List.range (min its.toArray.size ([] : List Value).toArray.size)).all (fun _ => true) && its.toArray.size == ([] : List Value).toArray.size) = xs.isEmpty := by
    have hl := r1.length
    cases xs with
    | nil => cases r1; rfl
    | cons x xs => cases r1; simp
  rw [e] at R
  rw [Bool.bne_false] at q
  exact R X.prog X.w X.xe (EP X pins σ Q) ⟨.bl _, H, I, rfl, q⟩
theorem op_neE {X : Cx} (hu : X.A.units < cLine) : OpR X (compareOp .NotEq) (rEqE X.K true) := by
  intro pins s σ H x y v u Q I rx ry h
  obtain ⟨a, b, xs, rfl, rfl, ha, hb, q⟩ := h
  cases rx
  cases ry
  obtain ⟨its, r1, p1, _⟩ := I.tuple ha
  obtain ⟨its2, r2, p2, _⟩ := I.tuple hb
  cases r2
  have R := SeqAt.RcNeAt.tuples (A := X.A) (s := s) (e := fun _ => true) p1 p2 hu (fun j j1 j2 => absurd j2 (by simp))
  have e : ((List.range (min its.toArray.size ([] : List Value).toArray.size)).all (fun _ => true) && its.toArray.size == ([] : List Value).toArray.size) = xs.isEmpty := by
    have hl := r1.length
    cases xs with
    | nil => cases r1; rfl
    | cons x xs => cases r1; simp
  rw [e] at R
  rw [Bool.bne_true] at q
  exact R X.prog X.w X.xe (EP X pins σ Q) ⟨.bl _, H, I, rfl, q⟩
def dEqE (neg : Bool) (x y : D) : M D := match x, y with
  | .tup xs, .tup [] => pure (.bl (xs.isEmpty != neg))
  | _, _ => M.bad
theorem eqE_s {g : Gx} {neg : Bool} : OpS g (rEqE g.K neg) (dEqE neg) := by
  intro E μ S H v u x y Q k rx ry h
  unfold dEqE at h
  split at h
  · cases rx with
    | tup f q =>
      cases ry with
      | tup f2 q2 =>
        cases q2
        refine ⟨_, _, _, rfl, rfl, f.sq, f2.sq, ?_⟩
        rw [q.isEmpty]
        exact Wp.pure h k _ (.bl _)
  · exact (show False from h).elim
end DD

/-! EX4: bool(x), x an instance with its own __bool__ -/
namespace DD
open PySem PySem.Spec PyProof.Rows L2
section
variable {prog : Program} {w : World} {A : Around} {E : Value → Shared → Prop} {s : Shared}
theorem call_bool_truthy {x : Value} {Q : Value → Shared → Prop} (h : wpAny (model prog w) A.in1.in1 (truthy x) (fun b s' => Q (.bool b) s') E s) : wpAny (model prog w) A (call (.type "bool") [x]) Q E s := by
  refine callType_codes (T := "bool") (Bi := Builtin.«object.__init__») (Q₁ := fun r s₁ => ∃ b, r = .bool b ∧ Q r s₁) PySem.F.called_bool (PySem.F.typeCall_bool_1 _) PySem.F.entry_object_init ?_ ?_
  · refine codeAny_of_tree ?_
    show wpAny _ A.in1.in1 (do checkBuiltinCall "bool.__new__" ⟨[.type "bool", x], []⟩; again (.builtin "bool.__new__" ⟨[.type "bool", x], []⟩)) _ _ s
    refine wpAny_bind (wpAny_of_eq (PySem.F.newCall_bool_1 _) (wpAny_pure ⟨plainId_quiet (by decide +kernel) _, codeAny_builtin PySem.F.entry_bool_new ?_⟩))
    rw [Around.under_plainId (by decide +kernel) _]
    have f1 := F.conv_sub_bool
    have ht : wpAny (model prog w) A.in1.in1 (truthy x) (fun b s' => Q (.bool b) s') E s := h
    unfold Builtin.«bool.__new__»
    repeat (any_goals (first | assumption | (with_reducible refine wpAny_bind (wpAny_mono ht (fun b s' hb => ?_) fun _ _ y => y)) | wp_step))
    all_goals exact ⟨b, rfl, hb⟩
  · rintro obj s₁ ⟨b, rfl, hq⟩
    exact ⟨PySem.typeIs_bool _ _, PySem.F.args_object_init_2 _ _, object_init_meets PySem.F.called_bool.init.lookup PySem.F.called_bool.made (by decide) prog w A.in1 _ s₁ ⟨PySem.typeIs_bool _ _, rfl, hq⟩⟩
end

/-! bool(o), the class's own -/
def boolTail (x : D) (F : List D → M D) : M D := do
  let r ← M.nx (F [x])
  let y ← toB r
  pure (.bl y)
def dBoolO (T : MTab) (x : D) : M D := pickS T x >>= boolTail x
def rBoolO (g : Gx) (T : MTab) : List V → Hp → VK → Prop := fun vs H Q => ∃ v x μ S, vs = [v] ∧ StoOk g μ S H ∧ Rep g μ S H v x ∧ Wp g EF (dBoolO T x) μ S H fun d μ' S' H' => ∀ w, Rep g μ' S' H' w d → Q w H'
theorem boolO_s {g : Gx} {T : MTab} : CallS g (rBoolO g T) (one (dBoolO T)) := one_s fun E μ S H v d Q k r h =>
  ⟨v, d, μ, S, rfl, k, r, Wp.free (fun c fs S' => (NoX.pickS.bind fun _ => NoX.nx.bind fun _ => NoX.toB.bind fun _ => NoX.pure) S c fs S') h⟩
section
variable {X : Cx} {ca : Nat → Addr} {k : Nat} {T : MTab}
theorem call_boolO (hT : SltX X ca k T "__bool__" 1) (hr : Room (k + 2) X.A) : CallR X (.type "bool") (rBoolO (gx X ca) T) := by
  rintro pins s σ H vs us Q I rv ⟨v, x, μ, S, rfl, sto, rx, h⟩
  obtain ⟨u, rfl, ru⟩ := vals1 rv
  obtain ⟨c, o, dd, ws, F, rfl, eo, hF, h3⟩ := Wp.pickS (Wp.bind h) sto rx
  obtain rfl : u = Value.ref o := ru
  obtain ⟨f, f1, f2, f3, G⟩ := (hT _ hF).ex
  obtain ⟨od, J⟩ := ins_at I eo
  have hr2 : Room k X.A.in1.in1 := (hr.in1).in1
  obtain ⟨m, fr⟩ := I.fr
  refine call_bool_truthy (PySem.W.truthy_K fr I.ok.mod.kin J f1 f3 ?_)
  obtain ⟨r, S2, er, hq⟩ := Wp.nx (Wp.bind h3)
  refine thn (run_cal (E0 := EF) (Q := fun z H' => ∃ b, z = .bl b ∧ Q (.bl b) H') (EE := X.xe) G hr2 I.env0.in1.in1 (fun e s' c => takes_none c) I (us := [.ref o]) (vs := [.ref o]) (.cons rfl .nil) (.cons rx .nil) rfl sto
    (Wp.of_ok er fun μ2 H2 t2 k2 z rz => ?_)) fun r' s' ⟨z, H', I', rz, b, ez, q⟩ => ?_
  · obtain ⟨b, rfl, h4⟩ := Wp.toB (Wp.bind (hq μ2 H2 t2 k2)) k2 rz
    exact ⟨b, rfl, Wp.pure h4 k2 (Step.refl _ _ _) t2 t2 _ (.bl _)⟩
  · subst ez
    cases (show r' = Value.bool b from rz)
    exact ⟨.bl b, H', I', rfl, q⟩
/-- bool(b), b a truth value -/
abbrev dBoolB := one fun x => do let b ← toB x; pure (.bl b)
theorem boolB_s {g : Gx} : CallS g (fun xs H Q => (∃ i, xs = [.int i] ∧ Q (.bl (i != 0)) H) ∨ ∃ k, xs = [.bl k] ∧ Q (.bl k) H) dBoolB := by
  refine one_s fun E μ S H v d Q k r h => ?_
  · skip
    obtain ⟨b, rfl, h1⟩ := Wp.toB (Wp.bind h) k r
    exact .inr ⟨b, rfl, Wp.pure h1 k (Step.refl _ _ _) _ (.bl b)⟩
end
end DD

/-! DD26: range(i, j, -1) -/
namespace DD
open PySem PySem.Spec PyProof.Rows L2
/-- lo, lo - 1, .. (n of them) -/
def downD (lo : Int) (n : Nat) : List D := (List.range n).map fun i : Nat => .int (lo + (i : Int) * (-1))
theorem downD_len (lo : Int) (n : Nat) : (downD lo n).length = n := by simp [downD]
theorem downD_get {lo : Int} {n i : Nat} {x : D} (h : (downD lo n)[i]? = some x) : i < n ∧ x = .int (lo + (i : Int) * (-1)) := by
  unfold downD at h
  rw [List.getElem?_map] at h
  cases e : (List.range n)[i]? with
  | none => rw [e] at h; cases h
  | some j =>
    rw [e] at h
    obtain ⟨h1, h2⟩ := List.getElem?_eq_some_iff.mp e
    simp at h1 h2
    subst h2
    exact ⟨h1, (Option.some.inj h).symm⟩
section
variable {g : Gx} {μ : Gh} {S : Sto} {H : Hp}
theorem itd_down (lo : Int) (n : Nat) : ItD g (Itc lo (-1) n) (downD lo n) none μ S H where
  go := fun i x _ _ _ e _ _ _ => (downD_get e).1
  stop := fun _ _ _ _ _ _ => by rw [downD_len]; exact Nat.le_refl _
  yld := fun i x μ' S' H' v H2 e t k _ y => by
    obtain ⟨rfl, rfl⟩ := y
    rw [(downD_get e).2]
    exact ⟨Step.refl _ _ _, k, .int _⟩
end
noncomputable def rng3 : List D → M Src
  | [.int i, .int j, .int c] => do M.want (c = -1 ∧ -4611686018427387904 ≤ i ∧ i < 4611686018427387904 ∧ -4611686018427387904 ≤ j ∧ j < 4611686018427387904); pure (downD i (i - j).toNat, none)
  | _ => M.bad
section
variable {X : Cx} {ca : Nat → Addr} {W : WX} {e e2 e3 tg : Expr} {fs : DEnv → M (List D)} {pos p : Pos}
theorem id_range3 (hm : X.mg "range" = none) (ha : PA X [e, e2, e3] (tDA (gx X ca) W fs)) (hg : Gl X "range" := by rfl) (hs : starEach [e, e2, e3] X.env = (false, eval e X.env) :: starEach [e2, e3] X.env := by rfl) (hpl : (backTo pos (starEach [e2, e3] X.env)).any (·.1) = false := by rfl) :
    PI X tg (.Call (.Name "range" p) [e, e2, e3] [] pos) (tI (gx X ca) W (srcA rng3 fs)) :=
  piOf (pi_range3 hg hm ha hs hpl) fun σ H R ⟨ρ, μ, S, env, sto, h⟩ => tDA_then env sto h fun ds μ1 S1 H1 vs t1 k1 env1 r1 h1 => by
    unfold rng3 at h1
    split at h1
    · obtain ⟨v, u, x, rfl, r, r', r''⟩ := rep3 r1
      cases r
      cases r'
      cases r''
      obtain ⟨⟨rfl, a1, a2, a3, a4⟩, h3⟩ := Wp.want (Wp.bind h1) k1
      exact ⟨_, _, _, _, rfl, RgC.neg (by omega) (by omega) (by omega) (by omega), Wp.pure h3 k1 (Step.refl _ _ _) _ (itd_down _ _)⟩
    · exact (show False from h1).elim
end
end DD

/-! EX5: l.count(True) of truth values; C(k = v, ..) of an own class, all by keywords -/
namespace L2
open PySem PySem.Spec PyProof.Rows
def rCountB (K : PySem.W.Frag) : V → List V → Hp → VK → Prop := fun x xs H Q => ∃ (a : Addr) (bs : List Bool) (k : Bool), x = .ref a ∧ xs = [.bl k] ∧ SqL K H a (bs.map V.bl) ∧ Q (.int ((bs.countP (· == k) : Nat) : Int)) H
theorem vals_bools : ∀ {bs : List Bool} {its : List Value}, Vals (bs.map V.bl) its → its = bs.map Value.bool
  | [], _, h => by cases h; rfl
  | b :: bs, _, h => by
    cases h with
    | cons r q =>
      rw [vals_bools q]
      cases r
      rfl
theorem countP_bools (k : Bool) : ∀ bs : List Bool, (bs.map Value.bool).countP (PyProof.Rows.isBoolOf k) = bs.countP (· == k)
  | [] => rfl
  | b :: bs => by
    rw [List.map_cons, List.countP_cons, List.countP_cons, countP_bools k bs]
    rfl
theorem mt_countB {X : Cx} : MtR X "list.count" (rCountB X.K) := by
  intro pins s σ H x xs v us Q I rx rxs h
  obtain ⟨a, bs, k, rfl, rfl, hs, q⟩ := h
  cases rx
  cases rxs with
  | cons ry rt =>
    cases rt
    cases ry
    obtain ⟨its, rv, ⟨⟨cls, dd, data, sls⟩, n, ho, hc, hdn, hdt⟩, hlen⟩ := I.list hs
    simp only at hc hdt
    subst hc hdt
    have e := vals_bools rv
    refine call_meets PySem.F.slot_list_count ⟨_, ho, rfl⟩ PySem.F.entry_list_count (PySem.F.args_list_count_2 _ _) (SeqAt.list_countAt a its.toArray n dd sls (.bool k) (PyProof.Rows.isBoolOf k)) ⟨ho, fun y hy => ?_, ?_⟩
    · have hy' : y ∈ its := by simpa using hy
      rw [e] at hy'
      obtain ⟨b, _, rfl⟩ := List.mem_map.mp hy'
      exact SeqAt.EqAt.bool_bool b k
    · rw [show its.toArray.toList = its from rfl, e, countP_bools]
      exact ⟨.int ((bs.countP (· == k) : Nat) : Int), H, I.tok _, ⟨_, rfl⟩, q⟩
end L2
namespace DD
open PySem PySem.Spec PyProof.Rows L2
def unBools : List D → Option (List Bool)
  | [] => some []
  | .bl b :: xs => (unBools xs).map (b :: ·)
  | _ => none
theorem unBools_rep {g : Gx} {μ : Gh} {S : Sto} {H : Hp} : ∀ {ds : List D} {vs : List V} {bs : List Bool}, RepAll g μ S H vs ds → unBools ds = some bs → vs = bs.map V.bl
  | [], _, _, r, e => by
    cases r
    cases e
    rfl
  | d :: ds, _, bs, r, e => by
    cases r with
    | cons r q =>
      cases d with
      | bl b =>
        obtain ⟨bs', e', rfl⟩ := Option.map_eq_some_iff.mp (show (unBools ds).map (b :: ·) = some bs from e)
        rw [unBools_rep q e']
        cases r
        rfl
      | _ => cases e
def dCountB : D → List D → M D
  | x, [.bl k] => do
    let ys ← seqL x
    let bs ← M.get fun _ => unBools ys
    pure (.int ((bs.countP (· == k) : Nat) : Int))
  | _, _ => M.bad
theorem countB_s {g : Gx} : MtS g (rCountB g.K) dCountB := by
  intro E μ S H v x vs xs Q k rx r h
  unfold dCountB at h
  split at h
  · rename_i kk
    obtain ⟨w, rfl, r1⟩ := rep1 r
    cases r1
    obtain ⟨ys, a, us, rfl, hq, ry, h1⟩ := Wp.seqL (Wp.bind h) k rx
    obtain ⟨bs, e1, h2⟩ := Wp.get (Wp.bind h1) k
    have ev := unBools_rep ry e1
    subst ev
    exact ⟨a, bs, kk, rfl, rfl, .of hq, Wp.pure h2 k (Step.refl _ _ _) (Step.refl _ _ _) _ (.int _)⟩
  · exact (show False from h).elim
/-! ### C(k = v, ..) -/
structure MakK (P : Program) (w : World) (K : PySem.W.Frag) (mg : Str → Option Value) (base : Heap) (ca : Nat → Addr) (k : Nat) (x : Str) (c : Nat) (ks : List Str) (F : List D → List D → M D) : Prop where
  ex : ∃ (f : Addr) (fd : FuncData) (ps : List Str) (sel : List (Bool × Nat)) (F0 : List D → M D), Mk K (ca c) f ∧ mg x = some (.ref (ca c)) ∧ FnOk P w K mg base (L2.CX P w) k f fd ps (spD ⟨K, ca⟩ sel.length F0) ∧
    (∀ p ∈ sel, p.2 < if p.1 then 1 else ks.length) ∧
    (∀ (s : Shared) (us ws : List Value), K.In s.heap → us.length = 1 → ws.length = ks.length → BindsTo s fd ⟨us, ks.zip ws⟩ (ps.zip (selG sel us ws))) ∧ F = fun as bs => F0 (selG sel as bs)
theorem MakK.mono {P : Program} {w : World} {K : PySem.W.Frag} {mg : Str → Option Value} {base : Heap} {ca : Nat → Addr} {j k c : Nat} {x : Str} {ks : List Str} {F : List D → List D → M D} (h : MakK P w K mg base ca j x c ks F) (l : j ≤ k) : MakK P w K mg base ca k x c ks F := by
  obtain ⟨f, fd, ps, sel, F0, h1, h2, h3, h4⟩ := h.ex
  exact ⟨f, fd, ps, sel, F0, h1, h2, h3.mono l, h4⟩
def dMakeK0 (c : Nat) (fz : Bool) (n : Nat) (F : List D → List D → M D) (fs : DEnv → M (List D)) : DEnv → M D := fun ρ => do
  let bs ← fs ρ
  M.need (bs.length = n)
  makeD c fz (fun as => F as bs) []
section
variable {X : Cx} {ca : Nat → Addr} {W : WX} {k c : Nat} {ks : List Str} {F : List D → List D → M D} {x : Str} {p pos : Pos} {kws : List Keyword} {fs : DEnv → M (List D)}
theorem pd_makeK0 {fz : Bool} (hM : MakK X.prog X.w X.K X.mg X.base ca k x c ks F) (hr : Room (k + 1) X.A) (tk : Takes X W) (hkw : PK X kws (tDA (gx X ca) W fs)) (hall : (backToKw pos (keywordEach kws X.env)).all (·.1.isSome) = true := by rfl) (hks : (backToKw pos (keywordEach kws X.env)).filterMap (·.1) = ks := by rfl)
    (hpl : ((backTo pos (starEach [] X.env)).any (·.1) || (backToKw pos (keywordEach kws X.env)).any (·.1.isNone)) = false := by rfl) (hg : Gl X x := by rfl) (hdb : (x == ("__debug__" : Str)) = false := by decide) :
    PE X (.Call (.Name x p) [] kws pos) (tD (gx X ca) W (dMakeK0 c fz ks.length F fs)) := by
  obtain ⟨f, fd, ps, sel, F0, Mc, hm, G1, hs, hb, rfl⟩ := hM.ex
  refine ⟨fun pins s σ H Q I ⟨ρ, μ, S, env, sto, h⟩ => ?_⟩
  refine wpAny_Call_Name_kw (ld_glob I hg hm ?_ hdb)
  have args : tDA (gx X ca) W fs σ H fun vs2 H2 => ∃ μ2 S2 bs, RepAll (gx X ca) μ2 S2 H2 vs2 bs ∧ bs.length = ks.length ∧ StoOk (gx X ca) μ2 S2 H2 ∧
      Wp (gx X ca) (fun c d H' => W c d σ H') (makeD c fz (fun as => F0 (selG sel as bs)) []) μ2 S2 H2 fun d μ' S' H' => ∀ v, Rep (gx X ca) μ' S' H' v d → Q v H' :=
    tDA_then env sto h fun as μ2 S2 H2 vs t2 k2 env2 r2 h3 => by
      obtain ⟨hl, h4⟩ := Wp.need (Wp.bind h3) k2
      exact ⟨μ2, S2, as, r2, hl, k2, h4.mono fun _ _ _ _ t _ z => z t⟩
  refine PySem.W.callWith_KW0 (h₀ := X.base) I.ok.mod.kin Mc.kp hall ?_ hpl
  refine thn (hkw.run pos pins s σ H _ I args) fun ws s2 ⟨vs2, H2, I1, r, μ2, S2, bs, rb, hl, sto2, h4⟩ => ⟨I1.kIn, ?_⟩
  rw [hks]
  let dx := s2.heap.objs.size
  let y := s2.heap.objs.size + 1
  have ne : dx ≠ y := Nat.ne_of_lt (Nat.lt_succ_self _)
  have I2 := Inv.made (C := ca c) I1
  have n1 : H2 dx = none := I1.hok.fresh (Nat.le_refl _)
  have n2 : (upd H2 dx (.own y)) y = none := by rw [upd_ne ne.symm]; exact I1.hok.fresh (Nat.le_succ _)
  obtain ⟨t2, k2, r2⟩ := sto_new (o := .ins (ca c) dx []) (sto2.alloc (o := .own y) n1) n2 (.obj (c := c) .nil) S2.length rfl
  have t02 := (Step.alloc (μ := μ2) (S := S2) (o := .own y) n1).trans t2
  have h2 : Wp (gx X ca) (fun c d H' => W c d σ H') (do let r ← F0 (selG sel [.cell S2.length] bs); toN r; if fz then freezeD (.cell S2.length) else pure (.cell S2.length)) ⟨μ2.m ++ [y], μ2.ex⟩ (S2 ++ [some (.obj c [])]) (upd (upd H2 dx (.own y)) y (.ins (ca c) dx []))
      fun d μ' S' H' => ∀ v, Rep (gx X ca) μ' S' H' v d → Q v H' :=
    ((Wp.bind (show Wp (gx X ca) (fun c d H' => W c d σ H') (newIns c >>= fun x => do let r ← F0 (selG sel [x] bs); toN r; if fz then freezeD x else pure x) μ2 S2 H2 fun d μ' S' H' => ∀ v, Rep (gx X ca) μ' S' H' v d → Q v H' from h4)) _ _ t02 k2).mono fun _ _ _ _ t _ z => z (t02.trans t)
  obtain ⟨ra, la⟩ := selG_all (n := 1) (m := ks.length) (sel := sel) (.cons r2 .nil) (rb.step t02) rfl hl hs
  have hy : (μ2.m ++ [y])[S2.length]? = some y := by
    rw [← sto2.len, List.getElem?_append_right (Nat.le_refl _)]
    simp
  have hsp : spD ⟨X.K, ca⟩ sel.length F0 (selG sel [V.ref y] vs2) (upd (upd H2 dx (.own y)) y (.ins (ca c) dx [])) (fun v H' => v = .non ∧ Q (.ref y) H') (fun c d H' => W c d σ H') := by
    refine ⟨selG sel [.cell S2.length] bs, _, _, by rw [ra.length, la], ra, k2, (Wp.bind h2).mono fun d μ3 S3 H3 t3 k3 h3 v rv => ?_⟩
    obtain ⟨ev, h4⟩ := Wp.toN (Wp.bind h3) k3 rv
    have hy3 := prefix_get t3.pre hy
    refine ⟨ev, ?_⟩
    cases fz with
    | false => exact Wp.pure h4 k3 (Step.refl _ _ _) t3 _ (.cell hy3)
    | true =>
      obtain ⟨q, e1, h5⟩ := Wp.get (Wp.bind (show Wp (gx X ca) (fun c d H' => W c d σ H') (freezeD (.cell S2.length)) μ3 S3 H3 _ from h4)) k3
      obtain ⟨t4, k4, r4⟩ := sto_freeze k3 (insS_some e1) hy3
      have h6 := (Wp.bind h5) μ3 H3 t4 k4
      exact Wp.pure h6 k4 t4 t4 t4 (t3.trans t4) _ r4
  have hyr : Vals [V.ref y] [Value.ref y] := .cons rfl .nil
  have hlw : ws.length = ks.length := r.length.symm.trans (rb.length.trans hl)
  have rv := selG_vals (n := 1) (m := ks.length) hyr r rfl (rb.length.trans hl) hs
  have go := G1.run _ X.stack _ _ ⟨[Value.ref y], ks.zip ws⟩ (selG sel [Value.ref y] ws) (selG sel [V.ref y] vs2) _ _ (hr.make (ca c) [] (ks.zip ws)) (I2.env0.make (ca c) [] (ks.zip ws)) (hb _ [Value.ref y] ws I2.kIn rfl hlw) rv hsp
  refine wpAny_call (make_map (f := f) I1.kIn Mc.makes Mc.init (beq_iff_eq.mp Mc.fn) (codeAny_mono go fun res s' hq => ?_))
  match res, hq with
  | .error e, hq => exact takes_at tk σ I2 hq
  | .ok (.ret u), hq =>
    obtain ⟨v, H', I3, rv, ev, q3⟩ := I2.after hq
    subst ev
    exact ⟨rv, ⟨V.ref y, H', I3, rfl, q3⟩⟩
  | .ok .next, hq => exact hq.elim
  | .ok .brk, hq => exact hq.elim
  | .ok .cont, hq => exact hq.elim
end
/-- such an __init__ -/
structure DefIK (K : PySem.W.Frag) (mg : Str → Option Value) (ca : Nat → Addr) (c : Nat) (cn qual : Str) (st : Stmt) (ps ks : List Str) (sel : List (Bool × Nat)) : Prop where
  ex : ∃ f fd, (∀ {P : Program} {w : World} {base : Heap} {N : List Str} {k : Nat} {fb : DEnv → M Fl}, FnScope N ps (defScope st) →
      (∀ (f : Addr) (cdv : Value) (A : Around) (outer : List Env) (s : Shared) (H : Hp) (E : XK), Room k (cxD P w K mg base N qual (defScope st) f cdv A outer s H E).A → Takes (cxD P w K mg base N qual (defScope st) f cdv A outer s H E) (wD E) →
        PassesOwn (model P w) (cxD P w K mg base N qual (defScope st) f cdv A outer s H E).A (cxD P w K mg base N qual (defScope st) f cdv A outer s H E).env (cxD P w K mg base N qual (defScope st) f cdv A outer s H E).xe →
        PSs (cxD P w K mg base N qual (defScope st) f cdv A outer s H E) (defBody st) (tS ⟨K, ca⟩ (wD E) fb)) → FnOk P w K mg base (L2.CX P w) (k + 1) f fd ps (spD ⟨K, ca⟩ ps.length (runF N.length fb))) ∧
    Mk K (ca c) f ∧ mg cn = some (.ref (ca c)) ∧ ps.length = sel.length ∧ (∀ p ∈ sel, p.2 < if p.1 then 1 else ks.length) ∧
    (∀ (s : Shared) (us ws : List Value), K.In s.heap → us.length = 1 → ws.length = ks.length → BindsTo s fd ⟨us, ks.zip ws⟩ (ps.zip (selG sel us ws)))
section
variable {P : Program} {w : World} {K : PySem.W.Frag} {h : Heap} {mg : Str → Option Value} {base : Heap} {ca : Nat → Addr} {c : Nat} {C : Addr}
theorem DefIK.at {cn qual : Str} {st : Stmt} {ps ks N : List Str} {sel : List (Bool × Nat)} {k : Nat} {fb : DEnv → M Fl} (d : DefIK K mg ca c cn qual st ps ks sel) (sc : FnScope N ps (defScope st))
    (body : ∀ (f : Addr) (cdv : Value) (A : Around) (outer : List Env) (s : Shared) (H : Hp) (E : XK), Room k (cxD P w K mg base N qual (defScope st) f cdv A outer s H E).A → Takes (cxD P w K mg base N qual (defScope st) f cdv A outer s H E) (wD E) →
      PassesOwn (model P w) (cxD P w K mg base N qual (defScope st) f cdv A outer s H E).A (cxD P w K mg base N qual (defScope st) f cdv A outer s H E).env (cxD P w K mg base N qual (defScope st) f cdv A outer s H E).xe →
      PSs (cxD P w K mg base N qual (defScope st) f cdv A outer s H E) (defBody st) (tS ⟨K, ca⟩ (wD E) fb)) : MakK P w K mg base ca (k + 1) cn c ks (fun as bs => runF N.length fb (selG sel as bs)) := by
  obtain ⟨f, fd, h1, h2, h3, h4, h5, h6⟩ := d.ex
  have g := h1 sc body
  rw [h4] at g
  exact ⟨f, fd, ps, sel, _, h2, h3, g, h5, h6, rfl⟩
/-- one default: the empty tuple; all are written by keywords -/
theorem DefIK.ofT {cn qual : Str} {st : Stmt} {ps ks : List Str} {sel : List (Bool × Nat)} {f T0 Te : Addr} {oc : Value} {od an odT odE : Option Addr} {osl slT slE : Array (Option Value)} {kV doc pm cdv ct : Value} {nT nE : Nat} (e : ca c = C) (X : K.In h) (G : h.Ns mainGlobals mg) (hn1 : ps.length = sel.length) (hs : ∀ p ∈ sel, p.2 < if p.1 then 1 else ks.length)
    (b : ∀ (T : Addr) (kV doc pm : Value) (an : Option Addr) (cdv ct : Value) (us its ws : List Value), us.length = 1 → its.length = 1 → ws.length = ks.length →
      ∃ k, bindArgs (PySem.W.fnOf "__init__" qual (defArgs st) (defBody st) (defScope st) (.ref T) kV doc pm an cdv ct) ⟨us, ks.zip ws⟩ = seqItems? (.ref T) >>= k ∧ k (some its.toArray) = pure (ps.zip (selG sel us ws)))
    (a : PySem.W.nsIn K mainGlobals cn = some (some (.ref C))) (m : PySem.W.makesIn K C = true) (i : PySem.W.findIn K (.ref C) "__init__" = some (some (.ref f))) (fn : PySem.W.isFn K (.ref f) = true) (kc : PySem.W.keepIn K (.ref C) = true)
    (l : K.lookup f = some ⟨oc, od, .func (PySem.W.fnOf "__init__" qual (defArgs st) (defBody st) (defScope st) (.ref T0) kV doc pm an cdv ct), osl⟩)
    (cc : PySem.W.codeIn K cdv qual = true) (k : PySem.W.keepIn K (.ref f) = true) (lT : K.lookup T0 = some ⟨.type "tuple", odT, .seq #[.ref Te] nT, slT⟩) (lE : K.lookup Te = some ⟨.type "tuple", odE, .seq #[] nE, slE⟩) :
    DefIK K mg ca c cn qual st ps ks sel := by
  obtain ⟨h1, h2⟩ := mak_of (ca := ca) e X G a m i fn kc
  have F : FunD K "__init__" qual (defArgs st) (defBody st) (defScope st) [.ref Te] [] f (PySem.W.fnOf "__init__" qual (defArgs st) (defBody st) (defScope st) (.ref T0) kV doc pm an cdv ct) :=
    ⟨⟨oc, od, .ref T0, kV, doc, pm, an, cdv, ct, osl, rfl, l, cc, .inr ⟨by simp, T0, _, [.ref Te], nT, rfl, lT, rfl, .cons rfl .nil⟩, .inl rfl⟩, k⟩
  refine ⟨f, _, fun sc body => F.ok sc (fun vs H Q E h => ?_) (fun cdv A outer s H vs Q E hr h => ⟨_, body f cdv A outer s H E hr (takes_of rfl rfl rfl rfl) (passes_of rfl), sp_body h⟩), h1, h2, hn1, hs, fun s us ws Xs l1 l2 => ?_⟩
  · obtain ⟨_, _, _, hl, _⟩ := h
    exact hl
  · obtain ⟨kk, e1, e2⟩ := b T0 kV doc pm an cdv ct us [.ref Te] ws l1 rfl l2
    refine BindsTo.of_looks fun M => ?_
    rw [e1]
    exact looks_items Xs lT rfl (.of_pure e2)
end
end DD
namespace DD
open PySem PySem.Spec PyProof.Rows L2
theorem kit_ofB {K : PySem.W.Frag} {ca : Nat → Addr} {c : Nat} {C : Addr} {T : String} {b : Bool} (e : ca c = C) (h4 : PySem.W.subIn K (.ref C) (.type T) = some b) (hm : PySem.W.kitMeta T = true := by decide +kernel) : PySem.W.kitOne K (.ref (ca c)) (.type T) = some b := by
  subst e
  have hne : ((Value.ref (ca c) : Value) == .type T) = false := rfl
  show (if ((Value.ref (ca c) : Value) == .type T) = true then some true else (if PySem.W.kitMeta T = true then PySem.W.subIn K (.ref (ca c)) (.type T) else none)) = some b
  rw [hne, if_neg Bool.false_ne_true, if_pos hm]
  exact h4
end DD

/-! EX6: C(*a); a method with keyword-only defaults; a, b, .. = a list -/
namespace DD
open PySem PySem.Spec PyProof.Rows L2
section
variable {X : Cx} {ca : Nat → Addr} {W : WX} {k c : Nat} {F : List D → M D} {x : Str} {p pos p1 : Pos} {e : Expr} {fe : DEnv → M D}
/-- C(*e) -/
theorem pd_makeS1 {fz : Bool} (hM : MakS X.prog X.w X.K X.mg X.base ca k x c F) (hr : Room (k + 1) X.A) (tk : Takes X W) (he : PE X e (tD (gx X ca) W fe)) (hg : Gl X x := by rfl) (hdb : (x == ("__debug__" : Str)) = false := by decide)
    (hst : starEach [.Starred e p1] X.env = [(true, eval e X.env)] := by rfl) : PE X (.Call (.Name x p) [.Starred e p1] [] pos) (tD (gx X ca) W (dMakeS c fz F (aStar fe aNil))) := by
  obtain ⟨f, Mc, hm, G⟩ := hM.ex
  refine ⟨fun pins s σ H Q I ⟨ρ, μ, S, env, sto, h⟩ => ?_⟩
  refine wpAny_Call_Name_kw (ld_glob I hg hm ?_ hdb)
  have q : tD (gx X ca) W fe σ H fun y H1 => ∃ a vs, y = V.ref a ∧ (SqT X.K H1 a vs ∨ SqL X.K H1 a vs) ∧ ∃ μ2 S2 as, RepAll (gx X ca) μ2 S2 H1 vs as ∧ as.length ≤ sizeLine ∧ StoOk (gx X ca) μ2 S2 H1 ∧
      Wp (gx X ca) (fun c d H' => W c d σ H') (makeD c fz (starF F) as) μ2 S2 H1 fun d μ' S' H' => ∀ v, Rep (gx X ca) μ' S' H' v d → Q v H' :=
    tD_then env sto (show Wp (gx X ca) (fun c d H' => W c d σ H') (fe ρ >>= fun d => (seqA d >>= fun xs => (pure (xs ++ []) : M (List D))) >>= fun as => M.need (as.length ≤ sizeLine) >>= fun _ => makeD c fz (starF F) as) μ S H _ from by
      have : (dMakeS c fz F (aStar fe aNil)) ρ = (fe ρ >>= fun d => (seqA d >>= fun xs => (pure (xs ++ []) : M (List D))) >>= fun as => M.need (as.length ≤ sizeLine) >>= fun _ => makeD c fz (starF F) as) := by
        funext S
        unfold dMakeS aStar aNil
        simp only [M.bind_run]
        cases fe ρ S with
        | ok d S1 =>
          simp only []
          cases seqA d S1 <;> rfl
        | exc _ _ _ => rfl
        | bad => rfl
      rw [← this]
      exact h) fun d μ1 S1 H1 v t1 k1 env1 r1 h1 => by
      obtain ⟨ys, a, us, rfl, hq, ry, h2⟩ := Wp.seqA (Wp.bind (Wp.bind h1)) k1 r1
      have h3 := Wp.pure h2 k1 (Step.refl _ _ _)
      rw [List.append_nil] at h3
      obtain ⟨hl, h4⟩ := Wp.need (Wp.bind h3) k1
      exact ⟨a, us, rfl, hq.symm, μ1, S1, ys, ry, hl, k1, h4.mono fun _ _ _ _ t _ z => z t t⟩
  refine PySem.W.callWith_S (h₀ := X.base) I.ok.mod.kin Mc.kp (thn (he.run pins s σ H _ I q) fun v s1 ⟨y, H1, I1, ry, a, vs, ey, hxs, μ2, S2, as, ra, hl, k2, h4⟩ => ?_) hst
  subst ey
  obtain rfl : v = Value.ref a := ry
  exact StX.star_any I1 hxs fun us s2 I2 rv => ⟨I2.kIn, run_makS Mc G hr tk I2 rv ra hl k2 h4⟩
end
/-! ### a method with keyword-only defaults -/
structure DefMN (K : PySem.W.Frag) (ca : Nat → Addr) (c : Nat) (x qual : Str) (st : Stmt) (ps : List Str) (dd : List D) : Prop where
  ex : ∃ f fd us ws, Fun K x qual st f fd ∧ Meth K (ca c) x f ∧ PySem.W.fnIn K f = true ∧ Binds K fd ps us ∧ Vals ws us ∧ ∀ μ S H, RepAll ⟨K, ca⟩ μ S H ws dd
section
variable {P : Program} {w : World} {K : PySem.W.Frag} {mg : Str → Option Value} {base : Heap} {ca : Nat → Addr}
theorem DefMN.cal {c : Nat} {x qual : Str} {st : Stmt} {N ps : List Str} {dd : List D} {k n : Nat} {fb : DEnv → M Fl} (d : DefMN K ca c x qual st ps dd) (sc : FnScope N ps (defScope st)) (hn : n + dd.length = ps.length)
    (body : ∀ (f : Addr) (cdv : Value) (A : Around) (outer : List Env) (s : Shared) (H : Hp) (E : XK), Room k (cxD P w K mg base N qual (defScope st) f cdv A outer s H E).A → Takes (cxD P w K mg base N qual (defScope st) f cdv A outer s H E) (wD E) →
      PassesOwn (model P w) (cxD P w K mg base N qual (defScope st) f cdv A outer s H E).A (cxD P w K mg base N qual (defScope st) f cdv A outer s H E).env (cxD P w K mg base N qual (defScope st) f cdv A outer s H E).xe →
      PSs (cxD P w K mg base N qual (defScope st) f cdv A outer s H E) (defBody st) (tS ⟨K, ca⟩ (wD E) fb)) :
    ∃ f, Meth K (ca c) x f ∧ PySem.W.fnIn K f = true ∧ Cal P w K mg base ca (k + 1) f n (fun as => runF N.length fb (as ++ dd)) := by
  obtain ⟨f, fd, us, ws, F, hm, hi, hb, hv, hd⟩ := d.ex
  exact ⟨f, hm, hi, fd, ps, us, ws, dd, ps.length, _, fn_D F sc rfl (body f), hb, hv, hd, hn, rfl⟩
theorem DefMN.kw {c : Nat} {x qual : Str} {st : Stmt} {N ps : List Str} {dd : List D} {k : Nat} {fb : DEnv → M Fl} (d : DefMN K ca c x qual st ps dd) (cl : Cls K (ca c)) (sc : FnScope N ps (defScope st)) (m : Nat) (ks : List Str) (sel : List (Bool × Nat)) (hn : ps.length = sel.length) (hs : ∀ p ∈ sel, p.2 < if p.1 then m + 1 else ks.length)
    (hb : ∀ (fd : FuncData), (∃ kV doc pm an cdv ct, fd = PySem.W.fnOf x qual (defArgs st) (defBody st) (defScope st) .none kV doc pm an cdv ct) → ∀ (us ws : List Value), us.length = m + 1 → ws.length = ks.length → bindArgs fd ⟨us, ks.zip ws⟩ = pure (ps.zip (selG sel us ws)))
    (body : ∀ (f : Addr) (cdv : Value) (A : Around) (outer : List Env) (s : Shared) (H : Hp) (E : XK), Room k (cxD P w K mg base N qual (defScope st) f cdv A outer s H E).A → Takes (cxD P w K mg base N qual (defScope st) f cdv A outer s H E) (wD E) →
      PassesOwn (model P w) (cxD P w K mg base N qual (defScope st) f cdv A outer s H E).A (cxD P w K mg base N qual (defScope st) f cdv A outer s H E).env (cxD P w K mg base N qual (defScope st) f cdv A outer s H E).xe →
      PSs (cxD P w K mg base N qual (defScope st) f cdv A outer s H E) (defBody st) (tS ⟨K, ca⟩ (wD E) fb)) : MetK P w K mg base ca (k + 1) c x m ks (fun as bs => runF N.length fb (selG sel as bs)) := by
  obtain ⟨f, fd, us, ws, F, hm, hi, _, _, _⟩ := d.ex
  refine ⟨f, cl, hm, fd, ps, sel, _, fn_D F sc hn (body f), hs, fun s us ws h1 h2 => .of_eq (hb fd ?_ us ws h1 h2), rfl⟩
  obtain ⟨oc, od, kV, doc, pm, an, cdv, ct, osl, e, _⟩ := F.ex
  exact ⟨kV, doc, pm, an, cdv, ct, e⟩
/-- one keyword-only parameter, its default the empty tuple -/
theorem DefMN.ofT {c : Nat} {C : Addr} {x qual nm : Str} {st : Stmt} {ps : List Str} {f D0 Te : Addr} {oc : Value} {od an odE : Option Addr} {osl slE : Array (Option Value)} {doc pm cdv ct : Value} {nE : Nat} (n : Nat) (e : ca c = C) (hn : n + 1 = ps.length)
    (b : ∀ (D : Addr) (doc pm : Value) (an : Option Addr) (cdv ct : Value) (us ks : List Value), us.length = n → ks.length = 1 →
      KwChain D ([nm].zip ks) (bindArgs (PySem.W.fnOf x qual (defArgs st) (defBody st) (defScope st) .none (.ref D) doc pm an cdv ct) ⟨us, []⟩) (ps.zip (us ++ ks)))
    (a : PySem.W.findIn K (.ref C) x = some (some (.ref f))) (i : PySem.W.isFn K (.ref f) = true) (l : K.lookup f = some ⟨oc, od, .func (PySem.W.fnOf x qual (defArgs st) (defBody st) (defScope st) .none (.ref D0) doc pm an cdv ct), osl⟩)
    (cc : PySem.W.codeIn K cdv qual = true) (k : PySem.W.keepIn K (.ref f) = true) (lD : PySem.W.nsIn K D0 nm = some (some (.ref Te))) (lE : K.lookup Te = some ⟨.type "tuple", odE, .seq #[] nE, slE⟩) : DefMN K ca c x qual st ps [.tup []] := by
  have F := fun_mk (st := st) l cc k
  have FD : FunD K x qual (defArgs st) (defBody st) (defScope st) [] [(nm, V.ref Te)] f (PySem.W.fnOf x qual (defArgs st) (defBody st) (defScope st) .none (.ref D0) doc pm an cdv ct) :=
    ⟨⟨oc, od, .none, .ref D0, doc, pm, an, cdv, ct, osl, rfl, l, cc, .inl ⟨rfl, rfl⟩, .inr ⟨D0, rfl, fun q hq => by
      rw [List.mem_singleton.mp hq]
      exact ⟨.ref Te, lD, rfl⟩⟩⟩, k⟩
  obtain ⟨ds, hv, hb⟩ := FD.binds0 (ps := ps) n (by simp) (by simpa using hn) fun D doc pm an cdv ct us ks l1 l2 => b D doc pm an cdv ct us ks l1 l2
  refine ⟨f, _, ds, [V.ref Te], F, ⟨by rw [e]; exact a, i, k⟩, ?_, hb, hv, fun μ S H => .cons (.tup (.inr ⟨_, #[], nE, lE, rfl, rfl, Nat.zero_le _, .nil⟩) .nil) .nil⟩
  unfold PySem.W.fnIn
  rw [l]
end
/-! ### a, b, .. = a list -/
def gUnlD (n : Nat) (ks : List D → DEnv → M DEnv) : D → DEnv → M DEnv := fun d ρ => do let xs ← seqL d; M.need (xs.length = n); ks xs ρ
theorem gd_unl {X : Cx} {ca : Nat → Addr} {es : List Expr} {ks : List D → DEnv → M DEnv} {pos : Pos} {n kk : Nat} {is : List Nat} (hc : X.calm = true) (h : PGs X es (tGs (gx X ca) is ks)) (hn : (assignEach es X.env).length = n := by rfl) (hst : (assignEach es X.env).findIdx? (·.1) = none := by rfl) : PG X (.Tuple es kk pos) (tG (gx X ca) is (gUnlD n ks)) :=
  pgOf (pg_unl hc h hn hst) fun v σ H Q ⟨d, ρ, μ, S, r, env, sto, h⟩ => by
    obtain ⟨ys, a, us, rfl, hq, ry, h1⟩ := Wp.seqL (Wp.bind h) sto r
    obtain ⟨h2, h3⟩ := Wp.need (Wp.bind h1) sto
    exact ⟨a, us, rfl, .of hq, by rw [ry.length]; exact h2, _, ρ, μ, S, ry, env, sto, h3.mono fun _ _ _ _ t _ z => z t t⟩
end DD
/-! ### as it stands at the top -/
namespace DD
open PySem PySem.Spec PyProof.Rows L2
section
variable {K : PySem.W.Frag} {ca : Nat → Addr} {c : Nat} {C : Addr}
theorem eqc1 {F : List D → M D} (h : EqC K (ca c)) : ∀ q ∈ [(c, F)], EqC K (ca q.1) := fun q hq => by
  rw [List.mem_singleton.mp hq]
  exact h
theorem eqc_of (e : ca c = C) (nn : PySem.W.subIn K (.type "NoneType") (.ref C) = some false) (nt : PySem.W.subIn K (.type "tuple") (.ref C) = some false) (nl : PySem.W.subIn K (.type "list") (.ref C) = some false)
    (ne : PySem.W.findIn K (.ref C) "__ne__" = some (some (.builtin "object.__ne__"))) (mo : PySem.W.mroIn K C (.type "object") = some true) : EqC K (ca c) := by
  subst e
  exact ⟨nn, nt, nl, ne, mo⟩
theorem isc_of (e : ca c = C) (cl : Cls K (ca c)) (xa : PySem.W.findIn K (.ref C) "__class__" = some (some (.builtin "object.__class__"))) (cg : PySem.W.specialIn K (.builtin "object.__class__") "__get__" = some (some (.builtin "getset_descriptor.__get__")))
    (ct : PySem.W.takesIn K (.builtin "object.__class__") = some true) (cm : PySem.W.mroIn K C (.type "object") = some true) : IsC K (ca c) := by
  subst e
  exact ⟨cl, xa, cg, ct, cm⟩
theorem kit_ofN {T : String} {b : Bool} (e : ca c = C) (h2 : PySem.W.isClsIn K C = true) (h3 : PySem.W.typeIn K (.ref C) = some (.type "type")) (h4 : PySem.W.subIn K (.type T) (.ref C) = some b) : PySem.W.kitOne K (.type T) (.ref (ca c)) = some b := by
  subst e
  have hne : ((Value.type T : Value) == .ref (ca c)) = false := rfl
  have e2 : ((PySem.W.clsIn K (ca c)).isSome && PySem.W.typeIn K (.ref (ca c)) == some (.type "type")) = true := by
    have h2' : (PySem.W.clsIn K (ca c)).isSome = true := h2
    rw [h2', h3] <;> rfl
  show (if ((Value.type T : Value) == .ref (ca c)) = true then some true else (if ((PySem.W.clsIn K (ca c)).isSome && PySem.W.typeIn K (.ref (ca c)) == some (.type "type")) = true then PySem.W.subIn K (.type T) (.ref (ca c)) else none)) = some b
  rw [hne, if_neg Bool.false_ne_true, if_pos e2]
  exact h4
end
end DD

/-! EX7: bool of a tuple; a tuple times a number; a list == []; l[::-1] of a list -/
namespace L2
open PySem PySem.Spec PyProof.Rows
theorem call_boolT {X : Cx} : CallR X (.type "bool") (fun xs H Q => ∃ (a : Addr) (zs : List V), xs = [.ref a] ∧ SqT X.K H a zs ∧ Q (.bl (!zs.isEmpty)) H) := by
  intro pins s σ H xs us Q I r h
  obtain ⟨a, zs, rfl, hq, q⟩ := h
  obtain rfl := Vals.ref1 r
  obtain ⟨its, rv, pl, hz⟩ := I.tuple hq
  have hl := line63
  have hlen := rv.length
  refine DD.call_bool_truthy (truthy_tuple pl (by simp only [List.size_toArray]; omega) ?_)
  exact ⟨.bl (!zs.isEmpty), H, I.tok _, by rw [isEmpty_of rv]; rfl, q⟩
def rEqL (K : PySem.W.Frag) (neg : Bool) : R2 := fun x y H Q => ∃ (a b : Addr) (xs : List V), x = .ref a ∧ y = .ref b ∧ SqL K H a xs ∧ SqL K H b [] ∧ Q (.bl (xs.isEmpty != neg)) H
theorem op_eqL {X : Cx} (hu : X.A.units < cLine) : OpR X (compareOp .Eq) (rEqL X.K false) := by
  intro pins s σ H x y v u Q I rx ry h
  obtain ⟨a, b, xs, rfl, rfl, ha, hb, q⟩ := h
  cases rx
  cases ry
  obtain ⟨its, r1, p1, _⟩ := I.list ha
  obtain ⟨its2, r2, p2, _⟩ := I.list hb
  cases r2
  cases xs with
  | nil =>
    cases r1
    have R := SeqAt.RcAt.lists (A := X.A) (s := s) (e := fun _ => true) p1.isList p2.isList rfl hu (fun j j1 j2 => absurd j2 (by simp))
    exact R X.prog X.w X.xe (EP X pins σ Q) ⟨.bl true, H, I, rfl, q⟩
  | cons x xs =>
    cases r1
    have R := SeqAt.RcAt.lists_lengths (A := X.A) (s := s) p1.isList p2.isList (by simp) hu
    exact R X.prog X.w X.xe (EP X pins σ Q) ⟨.bl false, H, I, rfl, q⟩
theorem op_neL {X : Cx} (hu : X.A.units < cLine) : OpR X (compareOp .NotEq) (rEqL X.K true) := by
  intro pins s σ H x y v u Q I rx ry h
  obtain ⟨a, b, xs, rfl, rfl, ha, hb, q⟩ := h
  cases rx
  cases ry
  obtain ⟨its, r1, p1, _⟩ := I.list ha
  obtain ⟨its2, r2, p2, _⟩ := I.list hb
  cases r2
  cases xs with
  | nil =>
    cases r1
    have R := SeqAt.RcNeAt.lists (A := X.A) (s := s) (e := fun _ => true) p1.isList p2.isList rfl hu (fun j j1 j2 => absurd j2 (by simp))
    exact R X.prog X.w X.xe (EP X pins σ Q) ⟨.bl false, H, I, rfl, q⟩
  | cons x xs =>
    cases r1
    have R := SeqAt.RcNeAt.lists_lengths (A := X.A) (s := s) p1.isList p2.isList (by simp) hu
    exact R X.prog X.w X.xe (EP X pins σ Q) ⟨.bl true, H, I, rfl, q⟩
end L2
namespace DD
open PySem PySem.Spec PyProof.Rows L2
abbrev dBoolT := one fun x => match x with
  | .tup xs => (pure (.bl (!xs.isEmpty)) : M D)
  | _ => M.bad
theorem boolT_s {g : Gx} : CallS g (fun xs H Q => ∃ (a : Addr) (zs : List V), xs = [.ref a] ∧ SqT g.K H a zs ∧ Q (.bl (!zs.isEmpty)) H) dBoolT := by
  refine one_s fun E μ S H v d Q k r h => ?_
  cases r with
  | tup f q =>
    refine ⟨_, _, rfl, f.sq, ?_⟩
    rw [q.isEmpty]
    exact Wp.pure h k _ (.bl _)
  | _ => exact (show False from h).elim
def dEqL (neg : Bool) (x y : D) : M D := match y with
  | .lst [] => do let xs ← seqL x; pure (.bl (xs.isEmpty != neg))
  | _ => M.bad
theorem eqL_s {g : Gx} {neg : Bool} : OpS g (rEqL g.K neg) (dEqL neg) := by
  intro E μ S H v u x y Q k rx ry h
  unfold dEqL at h
  split at h
  · cases ry with
    | lst f2 q2 =>
      cases q2
      obtain ⟨xs, a, vs, rfl, hs, ra, h1⟩ := Wp.seqL (Wp.bind h) k rx
      refine ⟨a, _, vs, rfl, rfl, .of hs, f2.sq, ?_⟩
      rw [ra.isEmpty]
      exact Wp.pure h1 k (Step.refl _ _ _) _ (.bl _)
  · exact (show False from h).elim
def dRepT (x y : D) : M D := match x, y with
  | .tup xs, .int i => do
    M.need (0 < xs.length ∧ 2 ≤ i ∧ i ≤ 1000 ∧ xs.length ≤ 1000)
    pure (.tup (List.replicate i.toNat xs).flatten)
  | _, _ => M.bad
end DD
namespace DD
open PySem PySem.Spec PyProof.Rows L2
theorem repT_s {g : Gx} : OpS g (rRepT g.K) dRepT := by
  intro E μ S H v u x y Q k rx ry h
  unfold dRepT at h
  split at h
  · rename_i xs0 i0
    cases rx with
    | tup f q =>
      cases ry with
      | int =>
        obtain ⟨⟨h1, h2, h3, h4⟩, h5⟩ := Wp.need (Wp.bind h) k
        refine ⟨_, i0, _, rfl, rfl, f.sq, fun e => by subst e; cases q; exact absurd h1 (by simp), h2, h3, by rw [q.length]; exact h4, fun p hp => ?_⟩
        obtain ⟨t, k', r⟩ := new_tup k hp (q.rep i0.toNat)
        exact Wp.end h5 t k' t _ r
  · exact (show False from h).elim
def dRevL (d : D) : M D := do let xs ← seqL d; pure (.lst xs.reverse)
theorem pd_revL {X : Cx} {ca : Nat → Addr} {W : WX} {e : Expr} {f : DEnv → M D} {k : Nat} {p1 p2 p3 pos : Pos} (he : PE X e (tD (gx X ca) W f)) :
    PE X (.Subscript e (.Slice none none (some (.UnaryOp .USub (.Constant (.int 1) k p1) p2)) p3) pos) (tD (gx X ca) W (dUn dRevL f)) :=
  peOf (pe_revL he) fun σ H Q ⟨ρ, μ, S, env, sto, h⟩ => tD_then env sto h fun d μ1 S1 H1 v t1 k1 env1 r1 h1 => by
    obtain ⟨xs, a, vs, rfl, hs, rl, h2⟩ := Wp.seqL (Wp.bind h1) k1 r1
    refine ⟨a, vs, rfl, .of hs, fun p hp => ?_⟩
    obtain ⟨t, k', rr⟩ := new_lst k1 hp rl.reverse
    exact Wp.end h2 t k' t _ rr
end DD

/-! EX8: k & n of whole numbers; o.m(a, .., k = v, ..) -/
namespace DD
open PySem PySem.Spec PyProof.Rows L2
abbrev dAndI := int2 (fun _ _ => True) fun i j => .int (Builtin.bitAnd i j)
section
variable {g : Gx}
theorem andi_s : OpS g (rI0 fun i j => .int (Builtin.bitAnd i j)) dAndI := int2_s0 fun _ _ _ _ _ => .int _
end
/-- o.m(a, .., k = v, ..) -/
def dMethK (T : KTab) (m : Str) (n nk : Nat) (fo : DEnv → M D) (fs fk : DEnv → M (List D)) : DEnv → M D := fun ρ => do
  let x ← fo ρ
  let F ← pickK T m x
  let as ← fs ρ
  M.need (as.length = n)
  let bs ← fk ρ
  M.need (bs.length = nk)
  F (x :: as) bs
section
variable {X : Cx} {ca : Nat → Addr} {W : WX} {k n : Nat} {ks : List Str}
theorem pd_methK {pl : Sem Bool} {T : KTab} {m : Str} {o e : Expr} {es : List Expr} {fo : DEnv → M D} {kws : List Keyword} {fs fk : DEnv → M (List D)} {pos apos : Pos} (hT : ∀ q ∈ T, MetK X.prog X.w X.K X.mg X.base ca k q.1 m n ks q.2) (hr : Room k X.A) (tk : Takes X W) (ho : PE X o (tD (gx X ca) W fo))
    (ha : PA X (e :: es) (tDA (gx X ca) W fs)) (hkw : PK X kws (tDA (gx X ca) W fk)) (hall : (backToKw pos (keywordEach kws X.env)).all (·.1.isSome) = true := by rfl) (hks : (backToKw pos (keywordEach kws X.env)).filterMap (·.1) = ks := by rfl)
    (hpl : ((backTo pos (starEach (e :: es) X.env)).any (·.1) || (backToKw pos (keywordEach kws X.env)).any (·.1.isNone)) = false := by rfl)
    (hst : starEach (e :: es) X.env = (false, eval e X.env) :: starEach es X.env := by rfl)
    (ht : eval (.Call (.Attribute o m apos) (e :: es) kws pos) X.env = (do
      let ov ← eval o X.env
      standAt apos.atName
      let (f, first) ← holding [ov] (getMethod ov m pl)
      callWith pos f first (backTo pos (starEach (e :: es) X.env)) (backToKw pos (keywordEach kws X.env))) := by rfl) :
    PE X (.Call (.Attribute o m apos) (e :: es) kws pos) (tD (gx X ca) W (dMethK T m n ks.length fo fs fk)) := by
  refine ⟨fun pins s σ H Q I ⟨ρ, μ, S, env, sto, h⟩ => PySem.W.methodCall_KW (pl := pl) ?_ ht⟩
  have first : tD (gx X ca) W fo σ H fun v H1 => ∃ ρ μ1 S1 d, EnvOk (gx X ca) μ1 S1 H1 σ ρ ∧ StoOk (gx X ca) μ1 S1 H1 ∧ Rep (gx X ca) μ1 S1 H1 v d ∧
      Wp (gx X ca) (fun c d H' => W c d σ H') (do let F ← pickK T m d; let as ← fs ρ; M.need (as.length = n); let bs ← fk ρ; M.need (bs.length = ks.length); F (d :: as) bs) μ1 S1 H1 fun d μ' S' H' => ∀ v, Rep (gx X ca) μ' S' H' v d → Q v H' :=
    tD_then env sto h fun d μ1 S1 H1 v t1 k1 env1 r1 h1 => ⟨ρ, μ1, S1, d, env1, k1, r1, h1⟩
  refine thn (ho.run pins s σ H _ I first) fun u s1 ⟨x, H1, I1, rx, ρ, μ1, S1, d, env1, k1, r1, h1⟩ => ?_
  obtain ⟨c, a, dx, vs, F, rfl, ea, hn, hF, h2⟩ := Wp.pickK (Wp.bind h1) k1 r1
  obtain rfl : u = Value.ref a := rx
  obtain ⟨f, cl, mt, G⟩ := (hT _ hF).ex
  refine getmeth_ok I1 ea cl mt hn ?_
  have args : tDA (gx X ca) W fs σ H1 fun vs2 H2 => ∃ ρ μ2 S2 as, EnvOk (gx X ca) μ2 S2 H2 σ ρ ∧ Rep (gx X ca) μ2 S2 H2 (V.ref a) d ∧ RepAll (gx X ca) μ2 S2 H2 vs2 as ∧ as.length = n ∧ StoOk (gx X ca) μ2 S2 H2 ∧
      Wp (gx X ca) (fun c d H' => W c d σ H') (do let bs ← fk ρ; M.need (bs.length = ks.length); F (d :: as) bs) μ2 S2 H2 fun d μ' S' H' => ∀ v, Rep (gx X ca) μ' S' H' v d → Q v H' :=
    tDA_then env1 k1 (h2.mono fun _ _ _ _ t _ z => z t) fun as μ2 S2 H2 vs t2 k2 env2 r2 h3 => by
      obtain ⟨hl, h4⟩ := Wp.need (Wp.bind h3) k2
      exact ⟨ρ, μ2, S2, as, env2, r1.step t2, r2, hl, k2, h4.mono fun _ _ _ _ t _ z => z t⟩
  refine PySem.W.callWith_KW (first := [.ref a]) (h₀ := X.base) I.ok.mod.kin mt.kp hall (thn (ha.run pos pins s1 σ H1 _ I1 args) fun us s2 ⟨vs2, H2, I2, r, ρ2, μ2, S2, as, env2, rx2, ra, hl, k2, h4⟩ => ?_) hpl hst
  have args2 : tDA (gx X ca) W fk σ H2 fun vs3 H3 => ∃ μ3 S3 bs, RepAll (gx X ca) μ3 S3 H3 (V.ref a :: vs2) (d :: as) ∧ RepAll (gx X ca) μ3 S3 H3 vs3 bs ∧ bs.length = ks.length ∧ StoOk (gx X ca) μ3 S3 H3 ∧
      Wp (gx X ca) (fun c d H' => W c d σ H') (F (d :: as) bs) μ3 S3 H3 fun d μ' S' H' => ∀ v, Rep (gx X ca) μ' S' H' v d → Q v H' :=
    tDA_then env2 k2 h4 fun bs μ3 S3 H3 vs t3 k3 env3 r3 h5 => by
      obtain ⟨hl3, h6⟩ := Wp.need (Wp.bind h5) k3
      exact ⟨μ3, S3, bs, .cons (rx2.step t3) (ra.step t3), r3, hl3, k3, h6.mono fun _ _ _ _ t _ z => z t⟩
  refine thn (hkw.run pos pins s2 σ H2 _ I2 args2) fun us3 s3 ⟨vs3, H3, I3, r3, μ3, S3, bs, rab, rb, hl3, k3, h6⟩ => ⟨I3.kIn, ?_⟩
  rw [hks]
  exact run_calK G hr I3.env0 (fun e s' c => takes_at tk σ I3 c) I3 (us := .ref a :: us) (vs := .ref a :: vs2) (.cons rfl r) r3 rab rb (congrArg Nat.succ hl) hl3 k3 h6
end
end DD

/-! EX9: a def that is called within an except suite (nothing is raised, walked or taken apart within it) -/
namespace L2
open PySem PySem.Spec PyProof.Rows L2H
section
variable {P : Program} {w : World} {K : PySem.W.Frag} {mg : Str → Option Value} {base : Heap}
/-- what a def promises wherever it is called: an error may be looked after there -/
structure FnW (P : Program) (w : World) (K : PySem.W.Frag) (mg : Str → Option Value) (base : Heap) (k : Nat) (fa : Addr) (fd : FuncData) (pars : List Str) (sp : Sp) : Prop where
  len : ∀ ys Hq Qq Eq, sp ys Hq Qq Eq → ys.length = pars.length
  run : ∀ (B : Around) (envs : List Env) (sh : Shared) (Hq : Hp) (given : Args) (us : List Value) (ys : List V) (Qq : VK) (Eq : XK), RoomH k B → Env0 P w K mg base B envs sh Hq → BindsTo sh fd given (pars.zip us) → Vals ys us → sp ys Hq Qq Eq →
    codeAny (model P w) B (.call (.ref fa) given) (CR (L2.CX P w) envs P w Hq sh Qq Eq) sh
theorem FnW.mono {j k : Nat} {fa : Addr} {fd : FuncData} {pars : List Str} {sp : Sp} (F : FnW P w K mg base j fa fd pars sp) (l : j ≤ k) : FnW P w K mg base k fa fd pars sp :=
  ⟨F.len, fun B envs sh Hq given us ys Qq Eq hr => F.run B envs sh Hq given us ys Qq Eq (hr.mono l)⟩
/-- the context of its body -/
abbrev cxW (P : Program) (w : World) (K : PySem.W.Frag) (mg : Str → Option Value) (base : Heap) (N : List Str) (qual : Str) (sc : Scope) (fa : Addr) (cdv : Value) (B : Around) (envs : List Env) (sh : Shared) (Hq : Hp) (Eq : XK) : Cx :=
  { cxOf (L2.CX P w) P w K mg base N qual sc fa cdv B envs sh Hq Eq with calm := false }
theorem inv_W {N pars : List Str} {qual : Str} {sc : Scope} {fa : Addr} {cdv : Value} {B : Around} {envs : List Env} {sh s1 : Shared} {Hq : Hp} {Eq : XK} {us : List Value} {ys : List V} (sco : FnScope N pars sc) (e0 : Env0 P w K mg base B envs sh Hq) (hl : ys.length = pars.length) (r : Vals ys us)
    (x : InCallC sh sh.heap.objs.size (bindL (envOfC qual sc sh.heap.objs.size fa cdv).kindOf (pars.zip us) fun _ => none) (cellsFrom (sh.heap.objs.size + 1) sc.names []) (bindC (envOfC qual sc sh.heap.objs.size fa cdv).kindOf (pars.zip us) fun _ => none) s1) :
    Inv (cxW P w K mg base N qual sc fa cdv B envs sh Hq Eq) [] (L2.start N ys) Hq s1 := by
  have J := inv_start (CX := L2.CX P w) (E := Eq) (A := { B with handled := none }) (cd := cdv) (f := fa) sco rfl ⟨e0.frames, e0.mod, e0.bs, e0.bsz, e0.funs, e0.frf, e0.hok, e0.bare⟩ hl r x
  exact ⟨⟨J.ok.mod, J.ok.kind, J.ok.glob, J.ok.blt, J.ok.above, J.ok.inj, J.ok.has, J.ok.cab, fun z => Bool.noConfusion z, J.ok.frames, J.ok.stk, J.ok.exf, J.ok.bs, J.ok.bsz, J.ok.noex, J.ok.exfs, J.ok.funs, J.ok.frf⟩, J.os, J.bare, J.base, J.loc, J.cell, J.free, J.freeC, J.pin, J.hok, J.len⟩
theorem fn_W {k : Nat} {fa : Addr} {nm qual : Str} {pms : Arguments} {bd : List Stmt} {sc : Scope} {dV kV doc pm cdv ct oc : Value} {an od : Option Addr} {osl : Array (Option Value)} {N pars : List Str} {sp : Sp}
    (look : K.lookup fa = some ⟨oc, od, .func (PySem.W.fnOf nm qual pms bd sc dV kV doc pm an cdv ct), osl⟩) (code : PySem.W.codeIn K cdv qual = true) (sco : FnScope N pars sc) (len : ∀ ys Hq Qq Eq, sp ys Hq Qq Eq → ys.length = pars.length)
    (body : ∀ (B : Around) (envs : List Env) (sh : Shared) (Hq : Hp) (ys : List V) (Qq : VK) (Eq : XK), RoomH k (B.deeper (envOfC qual sc sh.heap.objs.size fa cdv)) → sp ys Hq Qq Eq →
      ∃ t, PSs (cxW P w K mg base N qual sc fa cdv B envs sh Hq Eq) bd t ∧ t { nx := fun _ H' => Qq .non H', rt := Qq } (L2.start N ys) Hq) :
    FnW P w K mg base (k + 1) fa (PySem.W.fnOf nm qual pms bd sc dV kV doc pm an cdv ct) pars sp := by
  refine ⟨len, fun B envs sh Hq given us ys Qq Eq room e0 bind r hsp => ?_⟩
  have hlen := len _ _ _ _ hsp
  have there : K.In sh.heap := e0.mod.kin.keeps fun b o z => (e0.bs b o z).1
  have free : sh.heap.NoLimit := e0.mod.nolimit.keeps fun b o z => (e0.bs b o z).1
  refine codeAny_call_function room.depth (there _ _ look) rfl sco.co sco.gen rfl (PySem.W.codeRec_of there code) (bind _ _ _ _ ?_)
  refine wpAny_newFunctionEnv_cells sco.kind (fun ⟨n, v⟩ hy => ?_) fun env ee s1 x => ?_
  · rcases sco.par n (List.of_mem_zip hy).1 with q | q
    · exact .inl q
    · exact .inr ⟨q, PySem.W.cellsFrom_some _ _ _ (.inl q)⟩
  cases ee
  refine ⟨free.keeps x.toInCall.keep, codeAny_func ?_⟩
  obtain ⟨t, ht, q⟩ := body B envs sh Hq ys Qq Eq (room.deeper _) hsp
  refine wpAny_mono (ht.run [] s1 (L2.start N ys) Hq _ (inv_W sco e0 hlen r x) q) (fun fl s2 z => ?_) fun _ _ z => z
  match fl, z with
  | .ret u, ⟨v, σ2, H2, J, rv, q2⟩ => exact ⟨v, H2, J.os, J.bare, J.base, J.hok, rv, q2⟩
  | .next, ⟨σ2, H2, J, q2⟩ => exact ⟨V.non, H2, J.os, J.bare, J.base, J.hok, rfl, q2⟩
  | .brk, ⟨_, _, _, q2⟩ => exact q2.elim
  | .cont, ⟨_, _, _, q2⟩ => exact q2.elim
end
section
variable {X : Cx} {k : Nat} {fa : Addr} {fd : FuncData} {pars : List Str} {sp : Sp} {Es : St → XK} {x : Str} {q pos : Pos} {e : Expr} {es : List Expr} {t : TA}
theorem pe_callW (F : FnW X.prog X.w X.K X.mg X.base k fa fd pars sp) (room : RoomH k X.A) (hg : Gl X x) (hm : X.mg x = some (.ref fa)) (hk : PySem.W.keepIn X.K (.ref fa) = true) (hb : Binds X.K fd pars []) (pass : ∀ σ, PassesAt (L2.CX X.prog X.w) X σ (Es σ)) (ha : PA X (e :: es) t)
    (hdb : (x == ("__debug__" : Str)) = false := by decide) (he : starEach (e :: es) X.env = (false, eval e X.env) :: starEach es X.env := by rfl) (hpl : (backTo pos (starEach es X.env)).any (·.1) = false := by rfl) : PE X (.Call (.Name x q) (e :: es) [] pos) (tCallS sp Es t) := by
  refine ⟨fun pins sh σ Hq Qq I h => wpAny_Call_Name_kw (ld_glob I hg hm ?_ hdb)⟩
  refine PySem.W.callWith_K (h₀ := X.base) I.ok.mod.kin hk (thn (ha.run pos pins sh σ Hq _ I h) fun us s1 ⟨ys, H1, I1, r, z⟩ => ⟨I1.kIn, ?_⟩) he hpl
  have n1 : us.length = pars.length := r.length.symm.trans (F.len _ _ _ _ z)
  have b1 := hb s1 us I1.kIn (by rw [List.append_nil]; exact n1)
  rw [List.append_nil] at b1
  refine wpAny_call (codeAny_mono (F.run X.A X.stack s1 H1 ⟨us, []⟩ us ys Qq (Es σ) room I1.env0 b1 r z) fun res s2 out => ?_)
  match res, out with
  | .error er, out => exact pass σ pins H1 s1 er s2 I1 out
  | .ok (.ret u), out => exact I1.after out
  | .ok .next, out => exact out.elim
  | .ok .brk, out => exact out.elim
  | .ok .cont, out => exact out.elim
end
end L2
namespace DD
open PySem PySem.Spec PyProof.Rows L2 L2H
section
variable {P : Program} {w : World} {K : PySem.W.Frag} {mg : Str → Option Value} {base : Heap} {ca : Nat → Addr}
structure HasW (P : Program) (w : World) (K : PySem.W.Frag) (mg : Str → Option Value) (base : Heap) (ca : Nat → Addr) (k : Nat) (x : Str) (n : Nat) (F : List D → M D) : Prop where
  ex : ∃ (fa : Addr) (fd : FuncData) (pars : List Str), FnW P w K mg base k fa fd pars (spD ⟨K, ca⟩ n F) ∧ mg x = some (.ref fa) ∧ PySem.W.keepIn K (.ref fa) = true ∧ Binds K fd pars []
theorem HasW.mono {j k n : Nat} {x : Str} {F : List D → M D} (h : HasW P w K mg base ca j x n F) (l : j ≤ k) : HasW P w K mg base ca k x n F := by
  obtain ⟨fa, fd, pars, h1, h2⟩ := h.ex
  exact ⟨fa, fd, pars, h1.mono l, h2⟩
end
section
variable {X : Cx} {ca : Nat → Addr} {W : WX} {e : Expr} {pos p : Pos} {es : List Expr} {fs : DEnv → M (List D)} {x : Str}
theorem roomW {k : Nat} {a : Addr} {pn : List (Addr × Obj)} (h : Room k X.A) : RoomH k (X.suite a pn).A := ⟨h.dp, h.un⟩
theorem pd_fnW {k n : Nat} {F : List D → M D} (h : HasW X.prog X.w X.K X.mg X.base ca k x n F) (room : RoomH k X.A) (tk : Takes X W) (ha : PA X (e :: es) (tDA (gx X ca) W fs)) (hg : Gl X x := by rfl) (hdb : (x == ("__debug__" : Str)) = false := by decide)
    (he : starEach (e :: es) X.env = (false, eval e X.env) :: starEach es X.env := by rfl) (hpl : (backTo pos (starEach es X.env)).any (·.1) = false := by rfl) : PE X (.Call (.Name x p) (e :: es) [] pos) (tD (gx X ca) W (dCall n F fs)) := by
  obtain ⟨fa, fd, pars, h1, h2, h3, h4⟩ := h.ex
  refine peOf (pe_callW h1 room hg h2 h3 h4 (fun σ => passAt tk σ) ha hdb he hpl) fun σ H Q ⟨ρ, μ, S, env, sto, z⟩ => tDA_then env sto z fun as μ1 S1 H1 vs t1 k1 env1 r1 z1 => ?_
  obtain ⟨z2, z3⟩ := Wp.need (Wp.bind z1) k1
  exact ⟨as, μ1, S1, by rw [r1.length]; exact z2, r1, k1, z3.mono fun _ _ _ _ t _ y => y t⟩
end
end DD

/-! EX10: errors made and kept as values -/
namespace L2
open PySem PySem.Spec PyProof.Rows
/-- what is made for a raise can be kept as well -/
theorem pe_mk {X : Cx} {e : Expr} {t : St → Hp → XK → Prop} (hex : X.ex = []) (m : PMk X e t) : PE X e (fun σ H Q => t σ H fun cls d H' => ∀ a, H' a = none → Q (.ref a) (upd H' a (exq a cls d))) := by
  refine ⟨fun pins s σ H Q I h => wpAny_mono (m pins s σ H _ I h) (fun u s1 out => ?_) fun _ _ z => z⟩
  obtain ⟨a, oe, vs, sg, H', cls, d, rfl, J, k, new, here, hz, hd, _, na, os, bar, _, q⟩ := out
  have J1 := J.kept (t' := 0) k
  have J2 : Inv X pins σ H' s1 := ⟨J1.ok, os.trans J.os, bar, J1.base, J1.loc, J1.cell, J1.free, J1.freeC, J1.pin, J1.hok, J1.len⟩
  refine ⟨.ref a, _, J2.track here hz hd na ?_ (fun z => ?_) (fun p hp z => ?_), rfl, q a na⟩
  · cases e0 : X.s_0.heap.get? a with
    | none => rfl
    | some o =>
      obtain ⟨o', e1⟩ := J.base.there a o e0 (by rw [hex]; simp)
      rw [new] at e1
      cases e1
  · obtain ⟨mm, hns, _⟩ := J.loc
    obtain ⟨o, es, ep, e1, _⟩ := hns
    rw [z] at new
    rw [new] at e1
    cases e1
  · have := (J.pin p hp).1
    rw [z, new] at this
    cases this
end L2
namespace DD
open PySem PySem.Spec PyProof.Rows L2 L2H
theorem Def.hasW {P : Program} {w : World} {K : PySem.W.Frag} {mg : Str → Option Value} {base : Heap} {ca : Nat → Addr} {x : Str} {st : Stmt} {N ps : List Str} {k n : Nat} {fb : DEnv → M Fl} (d : Def K mg x st ps) (sc : FnScope N ps (defScope st)) (hn : ps.length = n)
    (body : ∀ (f : Addr) (cdv : Value) (A : Around) (outer : List Env) (s : Shared) (H : Hp) (E : XK), RoomH k (cxW P w K mg base N x (defScope st) f cdv A outer s H E).A → Takes (cxW P w K mg base N x (defScope st) f cdv A outer s H E) (wD E) →
      PSs (cxW P w K mg base N x (defScope st) f cdv A outer s H E) (defBody st) (tS ⟨K, ca⟩ (wD E) fb)) : HasW P w K mg base ca (k + 1) x n (runF N.length fb) := by
  obtain ⟨f, fd, F, hm, hb⟩ := d.ex
  have kp := F.kp
  obtain ⟨oc, od, kV, doc, pm, an, cdv, ct, osl, rfl, lk, hcd⟩ := F.ex
  refine ⟨f, _, ps, fn_W lk hcd sc (fun vs H Q E h => ?_) (fun A outer s H vs Q E hr h => ⟨_, body f cdv A outer s H E hr (takes_of rfl rfl rfl rfl), sp_body h⟩), hm, kp, hb⟩
  obtain ⟨_, _, _, hl, _⟩ := h
  rw [hl, hn]
/-- C(..), an error -/
def dXNew (c n : Nat) (fn : List Str) (fs : DEnv → M (List D)) : DEnv → M D := fun ρ => do
  let ds ← fs ρ
  M.need (ds.length = n)
  pure (.exn c (fn.zip ds).reverse)
/-- an error's data, laid -/
theorem exn_laid {g : Gx} {μ : Gh} {S : Sto} {H1 : Hp} {vs : List V} {ds : List D} {c : Nat} {fn : List Str} {dx b : Addr} (k1 : StoOk g μ S H1) (r1 : RepAll g μ S H1 vs ds) (n0 : H1 dx = none) (nb : (upd H1 dx (.xd (fn.zip vs).reverse)) b = none) :
    Step μ S H1 μ S (upd (upd H1 dx (.xd (fn.zip vs).reverse)) b (exq b (.ref (g.ca c)) (some dx))) ∧ StoOk g μ S (upd (upd H1 dx (.xd (fn.zip vs).reverse)) b (exq b (.ref (g.ca c)) (some dx))) ∧
    Rep g μ S (upd (upd H1 dx (.xd (fn.zip vs).reverse)) b (exq b (.ref (g.ca c)) (some dx))) (.ref b) (.exn c (fn.zip ds).reverse) := by
  have t1 : Step μ S H1 μ S (upd H1 dx (.xd (fn.zip vs).reverse)) := Step.alloc n0
  have k2 := k1.alloc (o := .xd (fn.zip vs).reverse) n0
  have nx := k1.new n0
  have t2 : Step μ S (upd H1 dx (.xd (fn.zip vs).reverse)) μ S (upd (upd H1 dx (.xd (fn.zip vs).reverse)) b (exq b (.ref (g.ca c)) (some dx))) := Step.alloc nb
  have hx : (upd H1 dx (.xd (fn.zip vs).reverse)) dx = some (.xd (fn.zip vs).reverse) := upd_same
  refine ⟨t1.trans t2, k2.alloc nb, .exn1 upd_same (k2.new nb) (by rw [upd_ne (ne_of_none hx nb)]; exact hx) (fun l => nx ?_) (((RepAll.zipF fn r1).reverse).step (t1.trans t2))⟩
  exact t2.toR.held _ (by rw [hx]; exact fun z => nomatch z) l
section
variable {X : Cx} {ca : Nat → Addr} {W : WX} {k n c : Nat} {fn : List Str} {x : Str} {p pos pos' : Pos} {e : Expr} {es : List Expr} {fs : DEnv → M (List D)}
theorem pd_xnew (hM : XMak X.prog X.w X.K X.mg X.base ca k x c fn) (hr : Room (k + 1) X.A) (tk : Takes X W) (hex : X.ex = []) (ha : PA X (e :: es) (tDA (gx X ca) W fs)) (hn : fn.length = n := by rfl) (hz : n ≤ 1000 := by decide) (hg : Gl X x := by rfl) (hdb : (x == ("__debug__" : Str)) = false := by decide)
    (he : starEach (e :: es) X.env = (false, eval e X.env) :: starEach es X.env := by rfl) (hpl : (backTo pos (starEach es X.env)).any (·.1) = false := by rfl) : PE X (.Call (.Name x p) (e :: es) [] pos) (tD (gx X ca) W (dXNew c n fn fs)) := by
  obtain ⟨fI, fd, ps, T, iC, tI, F1, hb, hm⟩ := hM.ex
  refine peOf (pe_mk hex (pmk_oex T iC tI F1 hr hb .nil passL hg hm ha hdb he hpl)) fun σ H Q ⟨ρ, μ, S, env, sto, h⟩ => ?_
  refine tDA_then env sto h fun ds μ1 S1 H1 vs t1 k1 env1 r1 w => ?_
  obtain ⟨hl, h2⟩ := Wp.need (Wp.bind w) k1
  refine ⟨by rw [r1.length, hl]; exact hz, fun a na => ?_⟩
  refine ⟨a, vs ++ [], rfl, by rw [List.append_nil, r1.length, hl, hn], upd_same, T, fun dx H' n1 ne h3 h4 h5 => ⟨rfl, dx, _, h3, h4, ?_, ?_⟩⟩
  · rw [upd_ne ne] at n1
    exact n1
  · have n0 : H1 dx = none := by
      rw [upd_ne ne] at n1
      exact n1
    rw [List.append_nil]
    have eH : upd (del H' a) dx (.xd (fn.zip vs).reverse) = upd H1 dx (.xd (fn.zip vs).reverse) := by
      funext b
      by_cases hb : b = dx
      · rw [hb, upd_same, upd_same]
      · rw [upd_ne hb, upd_ne hb]
        by_cases ha : b = a
        · rw [ha, del_same, na]
        · rw [del_ne ha, h5 b ha hb, upd_ne ha]
    rw [eH]
    intro b nb
    obtain ⟨t2, k2, r2⟩ := exn_laid (g := gx X ca) (c := c) (fn := fn) k1 r1 n0 nb
    exact Wp.end h2 t2 k2 t2 _ r2
end
end DD

/-! EX11: an own error class called by keywords -/
namespace PySem
namespace HandSPX
open Builtin Builtin.ObjectAttr PySem.Spec
section
variable {M : Model} {A : Around} {E : Value → Shared → Prop} {hp : Heap} {gs : Array GenState} {dr : Drawn} {tk : Nat} {os : OsState}
variable {nm qn : Str} {C N : Addr} {bs bm bmB : List Value} {hdct : Bool} {sn : List Str} {sub : List Value} {ab : Bool} {col : Option Bool} {dd : Option Addr} {k0 k1 k2 k3 k5 : Option Value} {B newId initId : String}
theorem check_newK (F : ExcBaseFacts B newId initId bmB) (hT : ∀ Y : String, bm.contains (.type Y) = bmB.contains (.type Y)) {given : List Value} {kw : List (Str × Value)} {Q : Unit → Shared → Prop}
    (cls : hp.get? C = some (excClassObj nm qn C N bs bm hdct sn sub ab col dd k0 k1 k2 k3 k5 newId)) (q : Q () ⟨hp, gs, dr, tk, os⟩) : wpAny M A (checkBuiltinCall newId ⟨.ref C :: given, kw⟩) Q E ⟨hp, gs, dr, tk, os⟩ := by
  have isB : (Value.ref C :: bm).contains (.type B) = true := by rw [List.contains_cons, hT, F.hasB, Bool.or_true]
  have short := F.noStar
  simp only [checkBuiltinCall, F.newKind, F.newSplit, F.newRow]
  repeat (first | (refine wpAny_isSubtype_exc cls ?_; rw [isB]) | refine wpAny_loadPart_at cls ?_ | refine wpAny_staticBase_exc cls ?_ | refine wpAny_madeBy_exc cls ?_ | simp only [bne_self_eq_false, Bool.false_eq_true, if_false] | wp_step)
  exact q
end
section
variable {prog : Program} {w : World} {A : Around} {E : Value → Shared → Prop} {R : Result → Shared → Prop} {hp : Heap} {gs : Array GenState} {dr : Drawn} {tk : Nat} {os : OsState}
variable {nm qn : Str} {C N : Addr} {bs bm bmB : List Value} {hdct : Bool} {sn : List Str} {sub : List Value} {ab : Bool} {col : Option Bool} {dd : Option Addr} {k0 k1 k2 k3 k5 : Option Value} {B newId initId : String}
theorem newK (F : ExcBaseFacts B newId initId bmB) (hT : ∀ Y : String, bm.contains (.type Y) = bmB.contains (.type Y)) {given : List Value} {kw : List (Str × Value)}
    (cls : hp.get? C = some (excClassObj nm qn C N bs bm hdct sn sub ab col dd k0 k1 k2 k3 k5 newId))
    (q : R (.ok (.ret (.ref (hp.objs.size + 1)))) ⟨(hp.push (W.kdv_tup given)).push (excO C hp.objs.size), gs, dr, tk, os⟩) (few : given.length ≤ sizeLine) :
    codeAny (model prog w) A (.builtin newId ⟨.ref C :: given, kw⟩) R ⟨hp, gs, dr, tk, os⟩ := by
  have theEnds := F.ends
  have isB : (Value.ref C :: bm).contains (.type B) = true := by rw [List.contains_cons, hT, F.hasB, Bool.or_true]
  have noA : (Value.ref C :: bm).contains (.type "AttributeError") = false := by rw [List.contains_cons, hT, F.noAttr]; rfl
  have noN : (Value.ref C :: bm).contains (.type "NameError") = false := by rw [List.contains_cons, hT, F.noName]; rfl
  refine codeAny_builtinAt F.entry (wpAt_bind ?_)
  show wpAt _ _ _ (stack >>= _) _ _ _
  refine wpAt_bind (wpAt_stack fun pp bb => wpAt_of_wpAny ?_)
  wp_walk
  refine wpAt_of_wpAny ?_
  rw [F.owner]
  repeat (first | with_reducible refine wpAny_loadPart_at cls ?_ | with_reducible refine wpAny_madeHere_exc F.canon cls ?_ | (with_reducible refine wpAny_isSubtype_exc cls ?_; first | rw [isB] | rw [noA] | rw [noN]) | wp_step)
  show R _ _
  rw [Heap.size_push]
  exact q
theorem type_callK (F : ExcBaseFacts B newId initId bmB) (hT : ∀ Y : String, bm.contains (.type Y) = bmB.contains (.type Y)) {given : List Value} {kw : List (Str × Value)} {fI : Addr} {Q : Fin → Shared → Prop}
    (cls : hp.get? C = some (excClassObj nm qn C N bs bm hdct sn sub ab col dd k0 k1 k2 k3 k5 newId))
    (li : W.Looks (model prog w) hp (typeLookup (.ref C) "__init__") (some (.ref fI))) (lb : ∀ z, W.Looks (model prog w) hp (bindSpecial (.ref fI) z) (.ref fI, [z])) (few : given.length ≤ sizeLine)
    (q : codeAny (model prog w) A (.call (.ref fI) ⟨.ref (hp.objs.size + 1) :: given, kw⟩)
      (fun res s2 => match res with | .ok (.ret v) => v = .none ∧ Q (.done (.ret (.ref (hp.objs.size + 1)))) s2 | .ok _ => False | .error er => E er s2)
      ⟨(hp.push (W.kdv_tup given)).push (excO C hp.objs.size), gs, dr, tk, os⟩) :
    wpAny (model prog w) A (Builtin.«type.__call__» ⟨.ref C :: given, kw⟩) Q E ⟨hp, gs, dr, tk, os⟩ := by
  repeat (first | with_reducible refine wpAny_madeBy_exc cls ?_ | with_reducible refine wpAny_loadPart_at cls ?_ | wp_step)
  refine codeAny_call_builtin_code (Code.quiet_builtin _ F.quiet) (check_newK F hT cls ?_)
  refine newK F hT cls ?_ few
  show wpAny _ _ _ _ _ _
  have kk : ∀ b o, hp.get? b = some o → ((hp.push (W.kdv_tup given)).push (excO C hp.objs.size)).get? b = some o := fun b o z => Heap.get?_push_of_some _ (Heap.get?_push_of_some _ z)
  have cls2 := kk _ _ cls
  have here : ((hp.push (W.kdv_tup given)).push (excO C hp.objs.size)).get? (hp.objs.size + 1) = some (excO C hp.objs.size) := by heap_get
  have own : (Value.ref C :: bm).contains (.ref C) = true := by simp
  have li2 := li.keeps kk
  have lb2 := (lb (.ref (hp.objs.size + 1))).keeps kk
  unfold isInstance
  repeat (first | (with_reducible refine wpAny_isSubtype_exc cls2 ?_; rw [own]) | with_reducible refine wpAny_loadPart_at here ?_ | wp_step)
  show wpAny _ _ (typeLookup (.ref C) _) _ _ _
  refine li2.at (wpAny_holding (wpAny_bind (lb2.at ?_)))
  refine wpAny_bind (wpAny_call (codeAny_mono q fun res s2 z => ?_))
  match res, z with
  | .error _, z => exact z
  | .ok (.ret _), ⟨rfl, z⟩ =>
    first
      | exact wpAny_pure (wpAny_pure z)
      | (wp_walk; exact z)
  | .ok .next, z => exact z.elim
  | .ok .brk, z => exact z.elim
  | .ok .cont, z => exact z.elim
theorem call_ownK (F : ExcBaseFacts B newId initId bmB) (hT : ∀ Y : String, bm.contains (.type Y) = bmB.contains (.type Y)) {given : List Value} {kw : List (Str × Value)} {fI : Addr}
    (cls : hp.get? C = some (excClassObj nm qn C N bs bm hdct sn sub ab col dd k0 k1 k2 k3 k5 newId))
    (li : W.Looks (model prog w) hp (typeLookup (.ref C) "__init__") (some (.ref fI))) (lb : ∀ z, W.Looks (model prog w) hp (bindSpecial (.ref fI) z) (.ref fI, [z])) (few : given.length ≤ sizeLine)
    (q : codeAny (model prog w) (A.under (.builtin "type.__call__" ⟨.ref C :: given, kw⟩)) (.call (.ref fI) ⟨.ref (hp.objs.size + 1) :: given, kw⟩) (W.InitBack (hp.objs.size + 1) R)
      ⟨(hp.push (W.kdv_tup given)).push (excO C hp.objs.size), gs, dr, tk, os⟩) : codeAny (model prog w) A (.call (.ref C) ⟨given, kw⟩) R ⟨hp, gs, dr, tk, os⟩ := by
  have g1 := tc_lookup
  have g2 := tc_bind (.ref C)
  have isT : (⟨hp, gs, dr, tk, os⟩ : Shared).TypeIs (.ref C) "type" := ⟨_, cls, rfl⟩
  refine codeAny_of_tree ?_
  show wpAny _ _ (callAny (.ref C) _) _ _ _
  repeat (any_goals (first | assumption | with_reducible refine wpAny_loadPart_at cls ?_ | wp_step))
  refine ⟨rfl, codeAny_call_builtin_at (Code.quiet_builtin _ (by decide +kernel)) entry_typeCall (wpAny_check_type_call_sub cls (type_callK F hT cls li lb few ?_))⟩
  refine codeAny_mono q fun res s2 z => ?_
  match res, z with
  | .error _, z => exact z
  | .ok (.ret _), z => exact z
  | .ok .next, z => exact z
  | .ok .brk, z => exact z
  | .ok .cont, z => exact z
end
end HandSPX
end PySem

/-! EX12: errors made by keywords, kept as values -/
namespace L2
open PySem PySem.Spec PyProof.Rows DD
theorem valsG {vs ys : List V} {us ws : List Value} (r : Vals vs us) (r2 : Vals ys ws) {n m : Nat} (h1 : us.length = n) (h2 : ws.length = m) : ∀ {sel : List (Bool × Nat)}, (∀ p ∈ sel, p.2 < if p.1 then n else m) → Vals (selG sel vs ys) (selG sel us ws)
  | [], _ => .nil
  | (true, i) :: sel, h => by
    have hi : i < n := h _ List.mem_cons_self
    have lv := r.length
    obtain ⟨u, e1, e2⟩ := r.get (i := i) (x := vs[i]'(by omega)) (List.getElem?_eq_getElem (by omega))
    have ih := valsG r r2 h1 h2 (sel := sel) fun p hp => h p (List.mem_cons_of_mem _ hp)
    have a : selG ((true, i) :: sel) vs ys = vs[i]'(by omega) :: selG sel vs ys := by
      simp [selG, List.filterMap_cons, show i < vs.length by omega]
    have b : selG ((true, i) :: sel) us ws = u :: selG sel us ws := by
      simp [selG, List.filterMap_cons, e1]
    rw [a, b]
    exact .cons e2 ih
  | (false, i) :: sel, h => by
    have hi : i < m := h _ List.mem_cons_self
    have lv := r2.length
    obtain ⟨u, e1, e2⟩ := r2.get (i := i) (x := ys[i]'(by omega)) (List.getElem?_eq_getElem (by omega))
    have ih := valsG r r2 h1 h2 (sel := sel) fun p hp => h p (List.mem_cons_of_mem _ hp)
    have a : selG ((false, i) :: sel) vs ys = ys[i]'(by omega) :: selG sel vs ys := by
      simp [selG, List.filterMap_cons, show i < ys.length by omega]
    have b : selG ((false, i) :: sel) us ws = u :: selG sel us ws := by
      simp [selG, List.filterMap_cons, e1]
    rw [a, b]
    exact .cons e2 ih
section
variable {X : Cx} {C fI : Addr} {k : Nat} {fd : FuncData} {ps : List Str} {sp : Sp}
/-- the error is made -/
theorem mk_errK (T : OexC X.K C) (iC : PySem.W.findIn X.K (.ref C) "__init__" = some (some (.ref fI))) (tI : PySem.W.typeIn X.K (.ref fI) = some (.type "function")) (F1 : FnOk X.prog X.w X.K X.mg X.base (L2.CX X.prog X.w) k fI fd ps sp) (hr : Room (k + 1) X.A)
    {pins : List (Addr × Obj)} {σ : St} {H1 : Hp} {s1 : Shared} {Q : XK} {us ws : List Value} {vs ys : List V} {names : List Str} {sel : List (Bool × Nat)} (I1 : Inv X pins σ H1 s1) (r1 : Vals vs us) (r2 : Vals ys ws) (hz : us.length ≤ sizeLine) {n m : Nat} (h1 : us.length = n) (h2 : ws.length = m) (hs : ∀ p ∈ sel, p.2 < if p.1 then n else m)
    (bind : ∀ (s : Shared) (z : Value), BindsTo s fd ⟨z :: us, names.zip ws⟩ (ps.zip (z :: selG sel us ws)))
    (q1 : ∀ a, H1 a = none → sp (V.ref a :: selG sel vs ys) (upd H1 a (exo a C none)) (fun v H2 => v = .non ∧ ∃ d fs, H2 a = some (exo a C (some d)) ∧ H2 d = some (exd d fs) ∧ H1 d = none ∧ Q (.ref C) (some d) (upd (del H2 a) d (.xd fs))) fun _ _ _ => False) :
    wpAny (model X.prog X.w) X.A (call (.ref C) us (names.zip ws)) (MkP X pins σ Q) X.xe s1 := by
  obtain ⟨nm, qn, N, bs, bm, sn, sub, ab, col, dd, k0, k1, k2, k3, k5, cl, mro⟩ := T.cls
  obtain ⟨hp, g, dr, tk, os⟩ := s1
  have up1 : hp.objs.size ≤ hp.objs.size + 1 := Nat.le_succ _
  have free := I1.hok.fresh up1
  have hq := q1 (hp.objs.size + 1) free
  have kk : ∀ b o, hp.get? b = some o → ((hp.push (PySem.W.kdv_tup us)).push (PySem.HandSPX.excO C hp.objs.size)).get? b = some o := fun b o z => Heap.get?_push_of_some _ (Heap.get?_push_of_some _ z)
  have here : ((hp.push (PySem.W.kdv_tup us)).push (PySem.HandSPX.excO C hp.objs.size)).get? (hp.objs.size + 1) = some (PySem.HandSPX.excO C hp.objs.size) := by heap_get
  have I2 := I1.laid (t' := tk) (a := hp.objs.size + 1) (o := exo (hp.objs.size + 1) C none) (h' := (hp.push (PySem.W.kdv_tup us)).push (PySem.HandSPX.excO C hp.objs.size)) kk up1 (exo_ok here)
  have rr : Vals (V.ref (hp.objs.size + 1) :: selG sel vs ys) (Value.ref (hp.objs.size + 1) :: selG sel us ws) := .cons (show RelV (V.ref (hp.objs.size + 1)) (Value.ref (hp.objs.size + 1)) from rfl) (valsG r1 r2 (n := n) (m := m) h1 h2 hs)
  refine wpAny_call (PySem.HandSPX.call_ownK F.excBase_ValueError (fun Y => PySem.HandSPX.refsVE_contains Y bm mro) (I1.kIn _ _ cl) (PySem.W.looks_findIn I1.kIn iC) (fun z => PySem.W.bind_fn I1.kIn z tI) hz
    (codeAny_mono (F1.run _ X.stack _ _ ⟨Value.ref (hp.objs.size + 1) :: us, names.zip ws⟩ (Value.ref (hp.objs.size + 1) :: selG sel us ws) _ _ (fun _ _ _ => False) (hr.make C us (names.zip ws)) (I2.env0.make C us (names.zip ws)) (bind _ _) rr hq) fun res s2 z => ?_))
  match res, z with
  | .error er, z => exact passL pins σ _ _ er s2 I2 z
  | .ok (.ret u), ⟨v, H2, os2, bare2, un2, hok2, rv, ev, d, fs, ea, ed, hd1, q2⟩ =>
    subst ev
    obtain ⟨h2', g2, d2, t2, os'⟩ := s2
    exact ⟨rv, mk_end (raises_own T.exC T.tyC) I1 up1 kk un2 hok2 os2 bare2 ea ed hd1 q2⟩
  | .ok .next, z => exact z.elim
  | .ok .brk, z => exact z.elim
  | .ok .cont, z => exact z.elim
variable {x : Str} {p pos : Pos} {e : Expr} {es : List Expr} {kws : List Keyword} {ta tb : TA} {ks : List Str} {sel : List (Bool × Nat)} {n : Nat}
def tMkK (C : Addr) (sp : Sp) (sel : List (Bool × Nat)) (n m : Nat) (vs ys : List V) (H2 : Hp) (Q : XK) : Prop := vs.length = n ∧ vs.length ≤ 1000 ∧ ys.length = m ∧
  ∀ a, H2 a = none → sp (V.ref a :: selG sel vs ys) (upd H2 a (exo a C none)) (fun v H3 => v = .non ∧ ∃ d fs, H3 a = some (exo a C (some d)) ∧ H3 d = some (exd d fs) ∧ H2 d = none ∧ Q (.ref C) (some d) (upd (del H3 a) d (.xd fs))) fun _ _ _ => False
theorem pmk_K0 (T : OexC X.K C) (iC : PySem.W.findIn X.K (.ref C) "__init__" = some (some (.ref fI))) (tI : PySem.W.typeIn X.K (.ref fI) = some (.type "function")) (F1 : FnOk X.prog X.w X.K X.mg X.base (L2.CX X.prog X.w) k fI fd ps sp) (hr : Room (k + 1) X.A)
    (hs : ∀ p ∈ sel, p.2 < if p.1 then 0 else ks.length) (bind : ∀ (s : Shared) (z : Value) (us ws : List Value), us.length = 0 → ws.length = ks.length → BindsTo s fd ⟨z :: us, ks.zip ws⟩ (ps.zip (z :: selG sel us ws)))
    (hg : Gl X x) (hm : X.mg x = some (.ref C)) (hkw : PK X kws tb) (hdb : (x == ("__debug__" : Str)) = false := by decide) (hall : (backToKw pos (keywordEach kws X.env)).all (·.1.isSome) = true := by rfl) (hks : (backToKw pos (keywordEach kws X.env)).filterMap (·.1) = ks := by rfl)
    (hpl : ((backTo pos (starEach [] X.env)).any (·.1) || (backToKw pos (keywordEach kws X.env)).any (·.1.isNone)) = false := by rfl) :
    PMk X (.Call (.Name x p) [] kws pos) (fun σ H Q => tb σ H fun ys H2 => tMkK C sp sel 0 ks.length [] ys H2 Q) := by
  intro pins s σ H Q I h
  refine wpAny_Call_Name_kw (ld_glob I hg hm ?_ hdb)
  refine PySem.W.callWith_KW0 (h₀ := X.base) I.ok.mod.kin T.kC hall (thn (hkw.run pos pins s σ H _ I h) fun ws s2 ⟨ys, H2, I2, r2, h1, h2, h3, q⟩ => ⟨I2.kIn, ?_⟩) hpl
  rw [hks]
  have lw : ws.length = ks.length := r2.length.symm.trans h3
  exact mk_errK T iC tI F1 hr I2 (us := []) (vs := []) .nil r2 (Nat.zero_le _) (n := 0) (m := ks.length) rfl lw hs (fun s z => bind s z [] ws rfl lw) q
theorem pmk_K (T : OexC X.K C) (iC : PySem.W.findIn X.K (.ref C) "__init__" = some (some (.ref fI))) (tI : PySem.W.typeIn X.K (.ref fI) = some (.type "function")) (F1 : FnOk X.prog X.w X.K X.mg X.base (L2.CX X.prog X.w) k fI fd ps sp) (hr : Room (k + 1) X.A)
    (hs : ∀ p ∈ sel, p.2 < if p.1 then n else ks.length) (bind : ∀ (s : Shared) (z : Value) (us ws : List Value), us.length = n → ws.length = ks.length → BindsTo s fd ⟨z :: us, ks.zip ws⟩ (ps.zip (z :: selG sel us ws)))
    (hg : Gl X x) (hm : X.mg x = some (.ref C)) (ha : PA X (e :: es) ta) (hkw : PK X kws tb) (hdb : (x == ("__debug__" : Str)) = false := by decide) (hall : (backToKw pos (keywordEach kws X.env)).all (·.1.isSome) = true := by rfl) (hks : (backToKw pos (keywordEach kws X.env)).filterMap (·.1) = ks := by rfl)
    (hpl : ((backTo pos (starEach (e :: es) X.env)).any (·.1) || (backToKw pos (keywordEach kws X.env)).any (·.1.isNone)) = false := by rfl) (hst : starEach (e :: es) X.env = (false, eval e X.env) :: starEach es X.env := by rfl) :
    PMk X (.Call (.Name x p) (e :: es) kws pos) (fun σ H Q => ta σ H fun vs H1 => tb σ H1 fun ys H2 => tMkK C sp sel n ks.length vs ys H2 Q) := by
  intro pins s σ H Q I h
  refine wpAny_Call_Name_kw (ld_glob I hg hm ?_ hdb)
  refine PySem.W.callWith_KW (first := []) (h₀ := X.base) I.ok.mod.kin T.kC hall (thn (ha.run pos pins s σ H _ I h) fun us s1 ⟨vs, H1, I1, r1, h'⟩ => ?_) hpl hst
  refine thn (hkw.run pos pins s1 σ H1 _ I1 h') fun ws s2 ⟨ys, H2, I2, r2, h1, hz, h3, q⟩ => ⟨I2.kIn, ?_⟩
  rw [hks]
  have lu : us.length = n := r1.length.symm.trans h1
  have lw : ws.length = ks.length := r2.length.symm.trans h3
  refine mk_errK T iC tI F1 hr I2 r1 r2 ?_ (n := n) (m := ks.length) lu lw hs (fun s z => bind s z us ws lu lw) q
  rw [List.nil_append, ← r1.length, sizeLine_eq]
  omega
end
end L2
namespace DD
open PySem PySem.Spec PyProof.Rows L2
/-- an error's class with an own __init__, called by keywords (behind n positions) -/
structure XMakK (P : Program) (w : World) (K : PySem.W.Frag) (mg : Str → Option Value) (base : Heap) (ca : Nat → Addr) (k : Nat) (x : Str) (c : Nat) (fn : List Str) (n : Nat) (ks : List Str) (sel : List (Bool × Nat)) : Prop where
  ex : ∃ (fI : Addr) (fd : FuncData) (ps : List Str), OexC K (ca c) ∧ PySem.W.findIn K (.ref (ca c)) "__init__" = some (some (.ref fI)) ∧ PySem.W.typeIn K (.ref fI) = some (.type "function") ∧
    FnOk P w K mg base (L2.CX P w) k fI fd ps (spX K (ca c) fn) ∧ mg x = some (.ref (ca c)) ∧ (∀ p ∈ sel, p.2 < if p.1 then n else ks.length) ∧
    ∀ (s : Shared) (z : Value) (us ws : List Value), us.length = n → ws.length = ks.length → BindsTo s fd ⟨z :: us, ks.zip ws⟩ (ps.zip (z :: selG sel us ws))
def dXNewK (c n nk : Nat) (fn : List Str) (sel : List (Bool × Nat)) (fs fk : DEnv → M (List D)) : DEnv → M D := fun ρ => do
  let ds ← fs ρ
  M.need (ds.length = n)
  let es ← fk ρ
  M.need (es.length = nk)
  pure (.exn c (fn.zip (selG sel ds es)).reverse)
section
variable {X : Cx} {ca : Nat → Addr} {W : WX} {k n c : Nat} {fn ks : List Str} {sel : List (Bool × Nat)} {x : Str} {p pos : Pos} {e : Expr} {es : List Expr} {kws : List Keyword} {fs fk : DEnv → M (List D)}
/-- what is made, from its data on -/
theorem made_K (T : OexC X.K (ca c)) {σ : L2.St} {μ1 : Gh} {S1 : Sto} {H1 : Hp} {vs ys : List V} {ds es : List D} {Q : VK} (k1 : StoOk (gx X ca) μ1 S1 H1) (r1 : RepAll (gx X ca) μ1 S1 H1 vs ds) (r2 : RepAll (gx X ca) μ1 S1 H1 ys es) (hd : ds.length = n) (he : es.length = ks.length)
    (hs : ∀ p ∈ sel, p.2 < if p.1 then n else ks.length) (hn : fn.length = sel.length) (hz : n ≤ 1000)
    (h2 : Wp (gx X ca) (fun cl d H' => W cl d σ H') (pure (.exn c (fn.zip (selG sel ds es)).reverse) : M D) μ1 S1 H1 fun d μ' S' H' => ∀ v, Rep (gx X ca) μ' S' H' v d → Q v H') :
    tMkK (ca c) (spX X.K (ca c) fn) sel n ks.length vs ys H1 (fun cls d H' => ∀ a, H' a = none → Q (.ref a) (upd H' a (exq a cls d))) := by
  obtain ⟨rs, ls⟩ := selG_all r1 r2 hd he hs
  have lv : (selG sel vs ys).length = sel.length := rs.length.trans ls
  refine ⟨by rw [r1.length, hd], by rw [r1.length, hd]; exact hz, by rw [r2.length, he], fun a na => ?_⟩
  refine ⟨a, _, rfl, by rw [lv, hn], upd_same, T, fun dx H' n1 ne h3 h4 h5 => ⟨rfl, dx, _, h3, h4, ?_, ?_⟩⟩
  · rw [upd_ne ne] at n1
    exact n1
  · have n0 : H1 dx = none := by
      rw [upd_ne ne] at n1
      exact n1
    have eH : upd (del H' a) dx (.xd (fn.zip (selG sel vs ys)).reverse) = upd H1 dx (.xd (fn.zip (selG sel vs ys)).reverse) := by
      funext b
      by_cases hb : b = dx
      · rw [hb, upd_same, upd_same]
      · rw [upd_ne hb, upd_ne hb]
        by_cases ha : b = a
        · rw [ha, del_same, na]
        · rw [del_ne ha, h5 b ha hb, upd_ne ha]
    rw [eH]
    intro b nb
    obtain ⟨t2, k2, r3⟩ := exn_laid (g := gx X ca) (c := c) (fn := fn) k1 rs n0 nb
    exact Wp.end h2 t2 k2 _ r3
theorem pd_xnewK0 (hM : XMakK X.prog X.w X.K X.mg X.base ca k x c fn 0 ks sel) (hr : Room (k + 1) X.A) (tk : Takes X W) (hex : X.ex = []) (hkw : PK X kws (tDA (gx X ca) W fk)) (hn : fn.length = sel.length := by rfl) (hg : Gl X x := by rfl) (hdb : (x == ("__debug__" : Str)) = false := by decide)
    (hall : (backToKw pos (keywordEach kws X.env)).all (·.1.isSome) = true := by rfl) (hks : (backToKw pos (keywordEach kws X.env)).filterMap (·.1) = ks := by rfl) (hpl : ((backTo pos (starEach [] X.env)).any (·.1) || (backToKw pos (keywordEach kws X.env)).any (·.1.isNone)) = false := by rfl) :
    PE X (.Call (.Name x p) [] kws pos) (tD (gx X ca) W (dXNewK c 0 ks.length fn sel aNil fk)) := by
  obtain ⟨fI, fd, ps, T, iC, tI, F1, hm, hs, hb⟩ := hM.ex
  refine peOf (pe_mk hex (pmk_K0 T iC tI F1 hr hs hb hg hm hkw hdb hall hks hpl)) fun σ H Q ⟨ρ, μ, S, env, sto, h⟩ => ?_
  have h' : Wp (gx X ca) (fun cl d H' => W cl d σ H') (do let es ← fk ρ; M.need (es.length = ks.length); pure (.exn c (fn.zip (selG sel [] es)).reverse) : M D) μ S H _ := h
  refine tDA_then env sto h' fun es μ1 S1 H1 ys t1 k1 env1 r1 w => ?_
  obtain ⟨hl, h2⟩ := Wp.need (Wp.bind w) k1
  exact made_K (ds := []) T k1 .nil r1 rfl hl hs hn (by omega) (h2.mono fun _ _ _ _ t _ z => by first | exact z t | exact z t t)
theorem pd_xnewK (hM : XMakK X.prog X.w X.K X.mg X.base ca k x c fn n ks sel) (hr : Room (k + 1) X.A) (tk : Takes X W) (hex : X.ex = []) (ha : PA X (e :: es) (tDA (gx X ca) W fs)) (hkw : PK X kws (tDA (gx X ca) W fk)) (hn : fn.length = sel.length := by rfl) (hz : n ≤ 1000 := by decide) (hg : Gl X x := by rfl) (hdb : (x == ("__debug__" : Str)) = false := by decide)
    (hall : (backToKw pos (keywordEach kws X.env)).all (·.1.isSome) = true := by rfl) (hks : (backToKw pos (keywordEach kws X.env)).filterMap (·.1) = ks := by rfl) (hpl : ((backTo pos (starEach (e :: es) X.env)).any (·.1) || (backToKw pos (keywordEach kws X.env)).any (·.1.isNone)) = false := by rfl) (hst : starEach (e :: es) X.env = (false, eval e X.env) :: starEach es X.env := by rfl) :
    PE X (.Call (.Name x p) (e :: es) kws pos) (tD (gx X ca) W (dXNewK c n ks.length fn sel fs fk)) := by
  obtain ⟨fI, fd, ps, T, iC, tI, F1, hm, hs, hb⟩ := hM.ex
  refine peOf (pe_mk hex (pmk_K T iC tI F1 hr hs hb hg hm ha hkw hdb hall hks hpl hst)) fun σ H Q ⟨ρ, μ, S, env, sto, h⟩ => ?_
  refine tDA_then env sto h fun ds μ1 S1 H1 vs t1 k1 env1 r1 w => ?_
  obtain ⟨hl, h2⟩ := Wp.need (Wp.bind w) k1
  refine tDA_then env1 k1 h2 fun ees μ2 S2 H2 ys t2 k2 env2 r2 w2 => ?_
  obtain ⟨hl2, h3⟩ := Wp.need (Wp.bind w2) k2
  exact made_K T k2 (r1.step t2) r2 hl hl2 hs hn hz (h3.mono fun _ _ _ _ t _ z => by first | exact z t | exact z t t | exact z (t2.trans t) t | exact z t (t2.trans t))
end
end DD

/-! EX13: error classes of three fields, by keywords; unlike classes -/
namespace DD
open PySem PySem.Spec PyProof.Rows L2
section
variable {K : PySem.W.Frag} {ca : Nat → Addr} {c c' : Nat} {C C' : Addr}
structure TyC (K : PySem.W.Frag) (ca : Nat → Addr) (c : Nat) : Prop where
  cl : PySem.W.isClsIn K (ca c) = true
  ty : PySem.W.typeIn K (.ref (ca c)) = some (.type "type")
theorem TyC.of (e : ca c = C) (h1 : PySem.W.isClsIn K C = true) (h2 : PySem.W.typeIn K (.ref C) = some (.type "type")) : TyC K ca c := by
  subst e
  exact ⟨h1, h2⟩
/-- two classes, none below the other -/
structure SubF (K : PySem.W.Frag) (ca : Nat → Addr) (c c' : Nat) : Prop where
  ne : ((Value.ref (ca c) : Value) == .ref (ca c')) = false
  sb : PySem.W.subIn K (.ref (ca c)) (.ref (ca c')) = some false
theorem SubF.of (e : ca c = C) (e' : ca c' = C') (h1 : ((Value.ref C : Value) == .ref C') = false) (h2 : PySem.W.subIn K (.ref C) (.ref C') = some false) : SubF K ca c c' := by
  subst e e'
  exact ⟨h1, h2⟩
theorem kitF (t : TyC K ca c') (s : SubF K ca c c') : PySem.W.kitOne K (.ref (ca c)) (.ref (ca c')) = some false := kit_of rfl rfl s.ne t.cl t.ty s.sb
variable {P : Program} {w : World} {mg : Str → Option Value} {base : Heap} {fn : List Str}
theorem DefX.mak3 {qual s f1 f2 f3 m x : Str} {st : Stmt} (d : DefX K ca c qual st [s, f1, f2, f3]) (T : OexC K (ca c)) (hm : Cst mg x (.ref (ca c))) (n1 : PySem.W.findIn K (.ref (ca c)) f1 = some none) (n2 : PySem.W.findIn K (.ref (ca c)) f2 = some none) (n3 : PySem.W.findIn K (.ref (ca c)) f3 = some none) (sc : FnScope [s, f1, f2, f3] [s, f1, f2, f3] (defScope st))
    (body : ∀ (fa : Addr) (cdv : Value) (A : Around) (outer : List Env) (sh : Shared) (H : Hp) (E : XK), PSs (cxOf (L2.CX P w) P w K mg base [s, f1, f2, f3] qual (defScope st) fa cdv A outer sh H E) (defBody st)
      (tSeq (tDrop (tVeI K (tCons (tVar 0) (tCons (tC (.str m)) tNil)))) (tSeq (tOst K f1 (tVar 0) (tVar 1)) (tSeq (tOst K f2 (tVar 0) (tVar 2)) (tOst K f3 (tVar 0) (tVar 3)))))) :
    XMak P w K mg base ca 1 x c [f1, f2, f3] := by
  obtain ⟨fa, fd, F, hi, ht, hb⟩ := d.ex
  exact ⟨fa, fd, [s, f1, f2, f3], T, hi, ht, F.okX sc (fun vs H Q E h => spX_len rfl vs H Q E h) (fun cdv A outer sh H vs Q E _ h => ⟨_, body fa cdv A outer sh H E, rd_init3 n1 n2 n3 h⟩), hb, hm.cmg⟩
theorem DefX.mak1K {qual s f m x : Str} {st : Stmt} (d : DefX K ca c qual st [s, f]) (T : OexC K (ca c)) (hm : Cst mg x (.ref (ca c))) (no : PySem.W.findIn K (.ref (ca c)) f = some none) (sc : FnScope [s, f] [s, f] (defScope st))
    (body : ∀ (fa : Addr) (cdv : Value) (A : Around) (outer : List Env) (sh : Shared) (H : Hp) (E : XK), PSs (cxOf (L2.CX P w) P w K mg base [s, f] qual (defScope st) fa cdv A outer sh H E) (defBody st) (tSeq (tDrop (tVeI K (tCons (tVar 0) (tCons (tC (.str m)) tNil)))) (tOst K f (tVar 0) (tVar 1))))
    (n : Nat) (ks : List Str) (sel : List (Bool × Nat)) (hs : ∀ p ∈ sel, p.2 < if p.1 then n else ks.length)
    (hb : ∀ (fd : FuncData), (∃ kV doc pm an cdv ct, fd = PySem.W.fnOf "__init__" qual (defArgs st) (defBody st) (defScope st) .none kV doc pm an cdv ct) → ∀ (z : Value) (us ws : List Value), us.length = n → ws.length = ks.length → bindArgs fd ⟨z :: us, ks.zip ws⟩ = pure ([s, f].zip (z :: selG sel us ws))) :
    XMakK P w K mg base ca 1 x c [f] n ks sel := by
  obtain ⟨fa, fd, F, hi, ht, _⟩ := d.ex
  refine ⟨fa, fd, [s, f], T, hi, ht, F.okX sc (fun vs H Q E h => spX_len rfl vs H Q E h) (fun cdv A outer sh H vs Q E _ h => ⟨_, body fa cdv A outer sh H E, rd_init1 no h⟩), hm.cmg, hs, fun s z us ws h1 h2 => .of_eq (hb fd ?_ z us ws h1 h2)⟩
  obtain ⟨oc, od, kV, doc, pm, an, cdv, ct, osl, e, _⟩ := F.ex
  exact ⟨kV, doc, pm, an, cdv, ct, e⟩
theorem DefX.mak3K {qual s f1 f2 f3 m x : Str} {st : Stmt} (d : DefX K ca c qual st [s, f1, f2, f3]) (T : OexC K (ca c)) (hm : Cst mg x (.ref (ca c))) (n1 : PySem.W.findIn K (.ref (ca c)) f1 = some none) (n2 : PySem.W.findIn K (.ref (ca c)) f2 = some none) (n3 : PySem.W.findIn K (.ref (ca c)) f3 = some none) (sc : FnScope [s, f1, f2, f3] [s, f1, f2, f3] (defScope st))
    (body : ∀ (fa : Addr) (cdv : Value) (A : Around) (outer : List Env) (sh : Shared) (H : Hp) (E : XK), PSs (cxOf (L2.CX P w) P w K mg base [s, f1, f2, f3] qual (defScope st) fa cdv A outer sh H E) (defBody st)
      (tSeq (tDrop (tVeI K (tCons (tVar 0) (tCons (tC (.str m)) tNil)))) (tSeq (tOst K f1 (tVar 0) (tVar 1)) (tSeq (tOst K f2 (tVar 0) (tVar 2)) (tOst K f3 (tVar 0) (tVar 3))))))
    (n : Nat) (ks : List Str) (sel : List (Bool × Nat)) (hs : ∀ p ∈ sel, p.2 < if p.1 then n else ks.length)
    (hb : ∀ (fd : FuncData), (∃ kV doc pm an cdv ct, fd = PySem.W.fnOf "__init__" qual (defArgs st) (defBody st) (defScope st) .none kV doc pm an cdv ct) → ∀ (z : Value) (us ws : List Value), us.length = n → ws.length = ks.length → bindArgs fd ⟨z :: us, ks.zip ws⟩ = pure ([s, f1, f2, f3].zip (z :: selG sel us ws))) :
    XMakK P w K mg base ca 1 x c [f1, f2, f3] n ks sel := by
  obtain ⟨fa, fd, F, hi, ht, _⟩ := d.ex
  refine ⟨fa, fd, [s, f1, f2, f3], T, hi, ht, F.okX sc (fun vs H Q E h => spX_len rfl vs H Q E h) (fun cdv A outer sh H vs Q E _ h => ⟨_, body fa cdv A outer sh H E, rd_init3 n1 n2 n3 h⟩), hm.cmg, hs, fun s z us ws h1 h2 => .of_eq (hb fd ?_ z us ws h1 h2)⟩
  obtain ⟨oc, od, kV, doc, pm, an, cdv, ct, osl, e, _⟩ := F.ex
  exact ⟨kV, doc, pm, an, cdv, ct, e⟩
end
end DD

/-! EX14: an own def that takes nothing -/
namespace DD
open PySem PySem.Spec PyProof.Rows L2 L2H
section
variable {X : Cx} {ca : Nat → Addr} {W : WX} {pos p : Pos} {x : Str}
theorem pd_fn0 {k : Nat} {F : List D → M D} (h : Has X.prog X.w X.K X.mg X.base ca k x 0 F) (hr : Room k X.A) (tk : Takes X W) (hg : Gl X x := by rfl) (hdb : (x == ("__debug__" : Str)) = false := by decide) :
    PE X (.Call (.Name x p) [] [] pos) (tD (gx X ca) W (dCall 0 F aNil)) := by
  obtain ⟨f, fd, ps, h1, h2, h3, h4⟩ := h.ex
  refine ⟨fun pins s σ H Q I ⟨ρ, μ, S, env, sto, z⟩ => ?_⟩
  refine wpAny_Call_Name_kw (ld_glob I hg h2 ?_ hdb)
  refine PySem.W.callWith_K0 I.kIn h3 ?_
  have z1 := Wp.pure (Wp.bind z) sto
  obtain ⟨_, z2⟩ := Wp.need (Wp.bind z1) sto
  exact run_fnSD h1 hr h4 .nil (passAt tk σ) I .nil ⟨[], μ, S, rfl, .nil, sto, z2.mono fun _ _ _ _ t _ y => y t t⟩
end
end DD

namespace K00
open PySem PySem.Spec PyProof.Rows L2 DD
noncomputable def B__law_raised_more : DEnv → M Fl := (sSeq (sIf (tVal (dOp (dEq false) (dVar 0) (dC (.int 12))))
  (sRaise 14 1 [("index" : Str)] (aCons (dC (.int 6)) aNil))
  sNext)
  (sSeq (sIf (tVal (dOp (dEq false) (dVar 0) (dC (.int 13))))
  (sRaise 15 1 [("ring" : Str)] (aCons (dTup (aCons (dTup (aCons (dC (.str ("a" : Str))) (aCons (dC (.str ("b" : Str))) (aCons (dC (.int 1)) aNil)))) (aCons (dTup (aCons (dC (.str ("b" : Str))) (aCons (dC (.str ("a" : Str))) (aCons (dUn dNeg (dC (.int 2))) aNil)))) aNil))) aNil))
  sNext)
  (sSeq (sIf (tVal (dOp (dEq false) (dVar 0) (dC (.int 14))))
  (sRaise 16 3 [("step" : Str), ("kind" : Str), ("recording" : Str)] (aCons (dC (.int 2)) (aCons (dC (.str ("late" : Str))) (aCons (dTup (aCons (dC (.int 1)) (aCons (dC (.int 1)) aNil))) aNil))))
  sNext)
  (sSeq (sIf (tVal (dOp (dEq false) (dVar 0) (dC (.int 15))))
  (sRaise 17 1 [("name" : Str)] (aCons (dC (.str ("main" : Str))) aNil))
  sNext)
  (sSeq (sIf (tVal (dOp (dEq false) (dVar 0) (dC (.int 16))))
  (sRaise 18 1 [("name" : Str)] (aCons (dC (.str ("x" : Str))) aNil))
  sNext)
  (sSeq (sIf (tVal (dOp (dEq false) (dVar 0) (dC (.int 17))))
  (sRaise0 19)
  sNext)
  (sSeq (sIf (tVal (dOp (dEq false) (dVar 0) (dC (.int 18))))
  (sRaise 20 1 [("name" : Str)] (aCons (dC (.str ("w" : Str))) aNil))
  sNext)
  (sSeq (sIf (tVal (dOp (dEq false) (dVar 0) (dC (.int 19))))
  (sRaise0 21)
  sNext)
  (sSeq (sIf (tVal (dOp (dEq false) (dVar 0) (dC (.int 20))))
  (sRaise 22 1 [("recording" : Str)] (aCons (dTup (aCons (dC (.int 0)) (aCons (dC (.int 3)) aNil))) aNil))
  sNext)
  (sSeq (sIf (tVal (dOp (dEq false) (dVar 0) (dC (.int 21))))
  (sRaise0 23)
  sNext)
  (sSeq (sIf (tVal (dOp (dEq false) (dVar 0) (dC (.int 22))))
  (sRaise 24 1 [("name" : Str)] (aCons (dC (.str ("m" : Str))) aNil))
  sNext)
  (sSeq (sIf (tVal (dOp (dEq false) (dVar 0) (dC (.int 23))))
  (sRaise0 25)
  sNext)
  (sIf (tVal (dOp (dEq false) (dVar 0) (dC (.int 24))))
  (sRaise0 26)
  sNext)))))))))))))
noncomputable def F__law_raised_more : List D → M D := runF 1 B__law_raised_more
noncomputable def B__law_raised_one : DEnv → M Fl := (sSeq (sIf (tVal (dOp (dEq false) (dVar 0) (dC (.int 0))))
  (sRaise 2 1 [("index" : Str)] (aCons (dC (.int 0)) aNil))
  sNext)
  (sSeq (sIf (tVal (dOp (dEq false) (dVar 0) (dC (.int 1))))
  (sRaise 3 1 [("step" : Str)] (aCons (dC (.int 3)) aNil))
  sNext)
  (sSeq (sIf (tVal (dOp (dEq false) (dVar 0) (dC (.int 2))))
  (sRaise 4 1 [("index" : Str)] (aCons (dC (.int 4)) aNil))
  sNext)
  (sSeq (sIf (tVal (dOp (dEq false) (dVar 0) (dC (.int 3))))
  (sRaise 5 1 [("index" : Str)] (aCons (dC (.int 1)) aNil))
  sNext)
  (sSeq (sIf (tVal (dOp (dEq false) (dVar 0) (dC (.int 4))))
  (sRaise 6 1 [("index" : Str)] (aCons (dC (.int 2)) aNil))
  sNext)
  (sSeq (sIf (tVal (dOp (dEq false) (dVar 0) (dC (.int 5))))
  (sRaise0 7)
  sNext)
  (sSeq (sIf (tVal (dOp (dEq false) (dVar 0) (dC (.int 6))))
  (sRaise0 8)
  sNext)
  (sSeq (sIf (tVal (dOp (dEq false) (dVar 0) (dC (.int 7))))
  (sRaise 9 1 [("index" : Str)] (aCons (dC (.int 2)) aNil))
  sNext)
  (sSeq (sIf (tVal (dOp (dEq false) (dVar 0) (dC (.int 8))))
  (sRaise 10 1 [("step" : Str)] (aCons (dC (.int 7)) aNil))
  sNext)
  (sSeq (sIf (tVal (dOp (dEq false) (dVar 0) (dC (.int 9))))
  (sRaise 11 1 [("index" : Str)] (aCons (dC (.int 0)) aNil))
  sNext)
  (sSeq (sIf (tVal (dOp (dEq false) (dVar 0) (dC (.int 10))))
  (sRaise 12 1 [("line" : Str)] (aCons (dC (.int 5)) aNil))
  sNext)
  (sSeq (sIf (tVal (dOp (dEq false) (dVar 0) (dC (.int 11))))
  (sRaise 13 1 [("index" : Str)] (aCons (dC (.int 1)) aNil))
  sNext)
  (sExpr (dCall 1 F__law_raised_more (aCons (dVar 0) aNil)))))))))))))))
noncomputable def F__law_raised_one : List D → M D := runF 1 B__law_raised_one
noncomputable def B__law_marks : DEnv → M Fl := (sSeq (sSet 1 (dLst (aCons (dB (dIsX [(1, 2, false), (2, 2, true), (3, 2, false), (4, 2, false), (5, 2, false), (6, 2, false), (7, 2, false), (8, 2, false), (9, 2, false), (10, 2, false), (11, 2, false), (12, 2, false), (13, 2, false), (14, 2, false), (15, 2, false), (16, 2, false), (17, 2, false), (18, 2, false), (19, 2, false), (20, 2, false), (21, 2, false), (22, 2, false), (23, 2, false), (24, 2, false), (25, 2, false), (26, 2, false)] []) (aCons (dVar 0) (aCons (dC (.cls 2)) aNil))) (aCons (dB (dIsX [(1, 3, false), (2, 3, false), (3, 3, true), (4, 3, false), (5, 3, false), (6, 3, false), (7, 3, false), (8, 3, false), (9, 3, false), (10, 3, false), (11, 3, false), (12, 3, false), (13, 3, false), (14, 3, false), (15, 3, false), (16, 3, false), (17, 3, false), (18, 3, false), (19, 3, false), (20, 3, false), (21, 3, false), (22, 3, false), (23, 3, false), (24, 3, false), (25, 3, false), (26, 3, false)] []) (aCons (dVar 0) (aCons (dC (.cls 3)) aNil))) (aCons (dB (dIsX [(1, 4, false), (2, 4, false), (3, 4, false), (4, 4, true), (5, 4, false), (6, 4, false), (7, 4, false), (8, 4, false), (9, 4, false), (10, 4, false), (11, 4, false), (12, 4, false), (13, 4, false), (14, 4, false), (15, 4, false), (16, 4, false), (17, 4, false), (18, 4, false), (19, 4, false), (20, 4, false), (21, 4, false), (22, 4, false), (23, 4, false), (24, 4, false), (25, 4, false), (26, 4, false)] []) (aCons (dVar 0) (aCons (dC (.cls 4)) aNil))) aNil)))))
  (sSeq (sSet 1 (dOp dAdd (dVar 1) (dLst (aCons (dB (dIsX [(1, 5, false), (2, 5, false), (3, 5, false), (4, 5, false), (5, 5, true), (6, 5, false), (7, 5, false), (8, 5, false), (9, 5, false), (10, 5, false), (11, 5, false), (12, 5, false), (13, 5, false), (14, 5, false), (15, 5, false), (16, 5, false), (17, 5, false), (18, 5, false), (19, 5, false), (20, 5, false), (21, 5, false), (22, 5, false), (23, 5, false), (24, 5, false), (25, 5, false), (26, 5, false)] []) (aCons (dVar 0) (aCons (dC (.cls 5)) aNil))) (aCons (dB (dIsX [(1, 6, false), (2, 6, false), (3, 6, false), (4, 6, false), (5, 6, false), (6, 6, true), (7, 6, false), (8, 6, false), (9, 6, false), (10, 6, false), (11, 6, false), (12, 6, false), (13, 6, false), (14, 6, false), (15, 6, false), (16, 6, false), (17, 6, false), (18, 6, false), (19, 6, false), (20, 6, false), (21, 6, false), (22, 6, false), (23, 6, false), (24, 6, false), (25, 6, false), (26, 6, false)] []) (aCons (dVar 0) (aCons (dC (.cls 6)) aNil))) (aCons (dB (dIsX [(1, 7, false), (2, 7, false), (3, 7, false), (4, 7, false), (5, 7, false), (6, 7, false), (7, 7, true), (8, 7, false), (9, 7, false), (10, 7, false), (11, 7, false), (12, 7, false), (13, 7, false), (14, 7, false), (15, 7, false), (16, 7, false), (17, 7, false), (18, 7, false), (19, 7, false), (20, 7, false), (21, 7, false), (22, 7, false), (23, 7, false), (24, 7, false), (25, 7, false), (26, 7, false)] []) (aCons (dVar 0) (aCons (dC (.cls 7)) aNil))) aNil))))))
  (sSeq (sSet 1 (dOp dAdd (dVar 1) (dLst (aCons (dB (dIsX [(1, 8, false), (2, 8, false), (3, 8, false), (4, 8, false), (5, 8, false), (6, 8, false), (7, 8, false), (8, 8, true), (9, 8, false), (10, 8, false), (11, 8, false), (12, 8, false), (13, 8, false), (14, 8, false), (15, 8, false), (16, 8, false), (17, 8, false), (18, 8, false), (19, 8, false), (20, 8, false), (21, 8, false), (22, 8, false), (23, 8, false), (24, 8, false), (25, 8, false), (26, 8, false)] []) (aCons (dVar 0) (aCons (dC (.cls 8)) aNil))) (aCons (dB (dIsX [(1, 9, false), (2, 9, false), (3, 9, false), (4, 9, false), (5, 9, false), (6, 9, false), (7, 9, false), (8, 9, false), (9, 9, true), (10, 9, false), (11, 9, false), (12, 9, false), (13, 9, false), (14, 9, false), (15, 9, false), (16, 9, false), (17, 9, false), (18, 9, false), (19, 9, false), (20, 9, false), (21, 9, false), (22, 9, false), (23, 9, false), (24, 9, false), (25, 9, false), (26, 9, false)] []) (aCons (dVar 0) (aCons (dC (.cls 9)) aNil))) (aCons (dB (dIsX [(1, 10, false), (2, 10, false), (3, 10, false), (4, 10, false), (5, 10, false), (6, 10, false), (7, 10, false), (8, 10, false), (9, 10, false), (10, 10, true), (11, 10, false), (12, 10, false), (13, 10, false), (14, 10, false), (15, 10, false), (16, 10, false), (17, 10, false), (18, 10, false), (19, 10, false), (20, 10, false), (21, 10, false), (22, 10, false), (23, 10, false), (24, 10, false), (25, 10, false), (26, 10, false)] []) (aCons (dVar 0) (aCons (dC (.cls 10)) aNil))) aNil))))))
  (sSeq (sSet 1 (dOp dAdd (dVar 1) (dLst (aCons (dB (dIsX [(1, 11, false), (2, 11, false), (3, 11, false), (4, 11, false), (5, 11, false), (6, 11, false), (7, 11, false), (8, 11, false), (9, 11, false), (10, 11, false), (11, 11, true), (12, 11, false), (13, 11, false), (14, 11, false), (15, 11, false), (16, 11, false), (17, 11, false), (18, 11, false), (19, 11, false), (20, 11, false), (21, 11, false), (22, 11, false), (23, 11, false), (24, 11, false), (25, 11, false), (26, 11, false)] []) (aCons (dVar 0) (aCons (dC (.cls 11)) aNil))) (aCons (dB (dIsX [(1, 12, false), (2, 12, false), (3, 12, false), (4, 12, false), (5, 12, false), (6, 12, false), (7, 12, false), (8, 12, false), (9, 12, false), (10, 12, false), (11, 12, false), (12, 12, true), (13, 12, false), (14, 12, false), (15, 12, false), (16, 12, false), (17, 12, false), (18, 12, false), (19, 12, false), (20, 12, false), (21, 12, false), (22, 12, false), (23, 12, false), (24, 12, false), (25, 12, false), (26, 12, false)] []) (aCons (dVar 0) (aCons (dC (.cls 12)) aNil))) (aCons (dB (dIsX [(1, 13, false), (2, 13, false), (3, 13, false), (4, 13, false), (5, 13, false), (6, 13, false), (7, 13, false), (8, 13, false), (9, 13, false), (10, 13, false), (11, 13, false), (12, 13, false), (13, 13, true), (14, 13, false), (15, 13, false), (16, 13, false), (17, 13, false), (18, 13, false), (19, 13, false), (20, 13, false), (21, 13, false), (22, 13, false), (23, 13, false), (24, 13, false), (25, 13, false), (26, 13, false)] []) (aCons (dVar 0) (aCons (dC (.cls 13)) aNil))) aNil))))))
  (sSeq (sSet 1 (dOp dAdd (dVar 1) (dLst (aCons (dB (dIsX [(1, 14, false), (2, 14, false), (3, 14, false), (4, 14, false), (5, 14, false), (6, 14, false), (7, 14, false), (8, 14, false), (9, 14, false), (10, 14, false), (11, 14, false), (12, 14, false), (13, 14, false), (14, 14, true), (15, 14, false), (16, 14, false), (17, 14, false), (18, 14, false), (19, 14, false), (20, 14, false), (21, 14, false), (22, 14, false), (23, 14, false), (24, 14, false), (25, 14, false), (26, 14, false)] []) (aCons (dVar 0) (aCons (dC (.cls 14)) aNil))) (aCons (dB (dIsX [(1, 15, false), (2, 15, false), (3, 15, false), (4, 15, false), (5, 15, false), (6, 15, false), (7, 15, false), (8, 15, false), (9, 15, false), (10, 15, false), (11, 15, false), (12, 15, false), (13, 15, false), (14, 15, false), (15, 15, true), (16, 15, false), (17, 15, false), (18, 15, false), (19, 15, false), (20, 15, false), (21, 15, false), (22, 15, false), (23, 15, false), (24, 15, false), (25, 15, false), (26, 15, false)] []) (aCons (dVar 0) (aCons (dC (.cls 15)) aNil))) (aCons (dB (dIsX [(1, 16, false), (2, 16, false), (3, 16, false), (4, 16, false), (5, 16, false), (6, 16, false), (7, 16, false), (8, 16, false), (9, 16, false), (10, 16, false), (11, 16, false), (12, 16, false), (13, 16, false), (14, 16, false), (15, 16, false), (16, 16, true), (17, 16, false), (18, 16, false), (19, 16, false), (20, 16, false), (21, 16, false), (22, 16, false), (23, 16, false), (24, 16, false), (25, 16, false), (26, 16, false)] []) (aCons (dVar 0) (aCons (dC (.cls 16)) aNil))) aNil))))))
  (sSeq (sSet 1 (dOp dAdd (dVar 1) (dLst (aCons (dB (dIsX [(1, 17, false), (2, 17, false), (3, 17, false), (4, 17, false), (5, 17, false), (6, 17, false), (7, 17, false), (8, 17, false), (9, 17, false), (10, 17, false), (11, 17, false), (12, 17, false), (13, 17, false), (14, 17, false), (15, 17, false), (16, 17, false), (17, 17, true), (18, 17, false), (19, 17, false), (20, 17, false), (21, 17, false), (22, 17, false), (23, 17, false), (24, 17, false), (25, 17, false), (26, 17, false)] []) (aCons (dVar 0) (aCons (dC (.cls 17)) aNil))) (aCons (dB (dIsX [(1, 18, false), (2, 18, false), (3, 18, false), (4, 18, false), (5, 18, false), (6, 18, false), (7, 18, false), (8, 18, false), (9, 18, false), (10, 18, false), (11, 18, false), (12, 18, false), (13, 18, false), (14, 18, false), (15, 18, false), (16, 18, false), (17, 18, false), (18, 18, true), (19, 18, false), (20, 18, false), (21, 18, false), (22, 18, false), (23, 18, false), (24, 18, false), (25, 18, false), (26, 18, false)] []) (aCons (dVar 0) (aCons (dC (.cls 18)) aNil))) (aCons (dB (dIsX [(1, 19, false), (2, 19, false), (3, 19, false), (4, 19, false), (5, 19, false), (6, 19, false), (7, 19, false), (8, 19, false), (9, 19, false), (10, 19, false), (11, 19, false), (12, 19, false), (13, 19, false), (14, 19, false), (15, 19, false), (16, 19, false), (17, 19, false), (18, 19, false), (19, 19, true), (20, 19, false), (21, 19, false), (22, 19, false), (23, 19, false), (24, 19, false), (25, 19, false), (26, 19, false)] []) (aCons (dVar 0) (aCons (dC (.cls 19)) aNil))) aNil))))))
  (sSeq (sSet 1 (dOp dAdd (dVar 1) (dLst (aCons (dB (dIsX [(1, 20, false), (2, 20, false), (3, 20, false), (4, 20, false), (5, 20, false), (6, 20, false), (7, 20, false), (8, 20, false), (9, 20, false), (10, 20, false), (11, 20, false), (12, 20, false), (13, 20, false), (14, 20, false), (15, 20, false), (16, 20, false), (17, 20, false), (18, 20, false), (19, 20, false), (20, 20, true), (21, 20, false), (22, 20, false), (23, 20, false), (24, 20, false), (25, 20, false), (26, 20, false)] []) (aCons (dVar 0) (aCons (dC (.cls 20)) aNil))) (aCons (dB (dIsX [(1, 21, false), (2, 21, false), (3, 21, false), (4, 21, false), (5, 21, false), (6, 21, false), (7, 21, false), (8, 21, false), (9, 21, false), (10, 21, false), (11, 21, false), (12, 21, false), (13, 21, false), (14, 21, false), (15, 21, false), (16, 21, false), (17, 21, false), (18, 21, false), (19, 21, false), (20, 21, false), (21, 21, true), (22, 21, false), (23, 21, false), (24, 21, false), (25, 21, false), (26, 21, false)] []) (aCons (dVar 0) (aCons (dC (.cls 21)) aNil))) (aCons (dB (dIsX [(1, 22, false), (2, 22, false), (3, 22, false), (4, 22, false), (5, 22, false), (6, 22, false), (7, 22, false), (8, 22, false), (9, 22, false), (10, 22, false), (11, 22, false), (12, 22, false), (13, 22, false), (14, 22, false), (15, 22, false), (16, 22, false), (17, 22, false), (18, 22, false), (19, 22, false), (20, 22, false), (21, 22, false), (22, 22, true), (23, 22, false), (24, 22, false), (25, 22, false), (26, 22, false)] []) (aCons (dVar 0) (aCons (dC (.cls 22)) aNil))) aNil))))))
  (sSeq (sSet 1 (dOp dAdd (dVar 1) (dLst (aCons (dB (dIsX [(1, 23, false), (2, 23, false), (3, 23, false), (4, 23, false), (5, 23, false), (6, 23, false), (7, 23, false), (8, 23, false), (9, 23, false), (10, 23, false), (11, 23, false), (12, 23, false), (13, 23, false), (14, 23, false), (15, 23, false), (16, 23, false), (17, 23, false), (18, 23, false), (19, 23, false), (20, 23, false), (21, 23, false), (22, 23, false), (23, 23, true), (24, 23, false), (25, 23, false), (26, 23, false)] []) (aCons (dVar 0) (aCons (dC (.cls 23)) aNil))) (aCons (dB (dIsX [(1, 24, false), (2, 24, false), (3, 24, false), (4, 24, false), (5, 24, false), (6, 24, false), (7, 24, false), (8, 24, false), (9, 24, false), (10, 24, false), (11, 24, false), (12, 24, false), (13, 24, false), (14, 24, false), (15, 24, false), (16, 24, false), (17, 24, false), (18, 24, false), (19, 24, false), (20, 24, false), (21, 24, false), (22, 24, false), (23, 24, false), (24, 24, true), (25, 24, false), (26, 24, false)] []) (aCons (dVar 0) (aCons (dC (.cls 24)) aNil))) (aCons (dB (dIsX [(1, 25, false), (2, 25, false), (3, 25, false), (4, 25, false), (5, 25, false), (6, 25, false), (7, 25, false), (8, 25, false), (9, 25, false), (10, 25, false), (11, 25, false), (12, 25, false), (13, 25, false), (14, 25, false), (15, 25, false), (16, 25, false), (17, 25, false), (18, 25, false), (19, 25, false), (20, 25, false), (21, 25, false), (22, 25, false), (23, 25, false), (24, 25, false), (25, 25, true), (26, 25, false)] []) (aCons (dVar 0) (aCons (dC (.cls 25)) aNil))) aNil))))))
  (sSeq (sSet 1 (dOp dAdd (dVar 1) (dLst (aCons (dB (dIsX [(1, 26, false), (2, 26, false), (3, 26, false), (4, 26, false), (5, 26, false), (6, 26, false), (7, 26, false), (8, 26, false), (9, 26, false), (10, 26, false), (11, 26, false), (12, 26, false), (13, 26, false), (14, 26, false), (15, 26, false), (16, 26, false), (17, 26, false), (18, 26, false), (19, 26, false), (20, 26, false), (21, 26, false), (22, 26, false), (23, 26, false), (24, 26, false), (25, 26, false), (26, 26, true)] []) (aCons (dVar 0) (aCons (dC (.cls 26)) aNil))) aNil))))
  (sRet (dVar 1)))))))))))
noncomputable def F__law_marks : List D → M D := runF 2 B__law_marks
noncomputable def B__law_way_right : DEnv → M Fl := (sSeq (sPar 2 3 (aCons (dLst aNil) (aCons (dC (.bl false)) aNil)))
  (sSeq (sTry (sExpr (dCall 1 F__law_raised_one (aCons (dVar 0) aNil))) (⟨[1, 2, 3, 4, 5, 6, 7, 8, 9, 10, 11, 12, 13, 14, 15, 16, 17, 18, 19, 20, 21, 22, 23, 24, 25, 26], [], some 4, (sSeq (sSet 2 (dCall 1 F__law_marks (aCons (dVar 4) aNil)))
  (sSet 3 (dB (dIsX [] [(1, "ValueError", true), (2, "ValueError", true), (3, "ValueError", true), (4, "ValueError", true), (5, "ValueError", true), (6, "ValueError", true), (7, "ValueError", true), (8, "ValueError", true), (9, "ValueError", true), (10, "ValueError", true), (11, "ValueError", true), (12, "ValueError", true), (13, "ValueError", true), (14, "ValueError", true), (15, "ValueError", true), (16, "ValueError", true), (17, "ValueError", true), (18, "ValueError", true), (19, "ValueError", true), (20, "ValueError", true), (21, "ValueError", true), (22, "ValueError", true), (23, "ValueError", true), (24, "ValueError", true), (25, "ValueError", true), (26, "ValueError", true)]) (aCons (dVar 4) (aCons (dC (.ty "ValueError")) aNil)))))⟩ :: []))
  (sRet (dAnd (dVar 3) (dAnd (dOp (dEq false) (dMt "list" dCountB (dVar 2) (aCons (dC (.bl true)) aNil)) (dC (.int 1))) (dAnd (dOp (dEq false) (dB dLen (aCons (dVar 2) aNil)) (dVar 1)) (dOp dIx (dVar 2) (dVar 0))))))))
noncomputable def F__law_way_right : List D → M D := runF 5 B__law_way_right
noncomputable def E_is_name_1 : DEnv → M D := (dOp (dIn false) (dVar 1) (dC (.str ("abcdefghijklmnopqrstuvwxyzABCDEFGHIJKLMNOPQRSTUVWXYZ" : Str))))
noncomputable def B_is_name : DEnv → M Fl := (sRet (dAnd (dB dIsa (aCons (dVar 0) (aCons (dC (.ty "str")) aNil))) (dAnd (dChain dLt dLe (dC (.int 0)) (dB dLen (aCons (dVar 0) aNil)) (dC (.int (8)))) (dB dAll (aCons (dLc (srcStr (dVar 0)) (gSet 1) tYesD E_is_name_1 [1]) aNil)))))
noncomputable def F_is_name : List D → M D := runF 2 B_is_name
noncomputable def B_is_mark_at : DEnv → M Fl := (sRet (dAnd (dCall 1 F_is_name (aCons (dOp dIx (dVar 0) (dVar 1)) aNil)) (dAnd (dOp (dEq true) (dOp dIx (dVar 0) (dVar 1)) (dC (.str ("zero" : Str)))) (dOp (dIn true) (dOp dIx (dVar 0) (dVar 1)) (dSl (dVar 0) oNone (oSome (dVar 1)))))))
noncomputable def F_is_mark_at : List D → M D := runF 2 B_is_mark_at
noncomputable def B_is_integer : DEnv → M Fl := (sRet (dAnd (dB dIsa (aCons (dVar 0) (aCons (dC (.ty "int")) aNil))) (dNot (dB dIsa (aCons (dVar 0) (aCons (dC (.ty "bool")) aNil))))))
noncomputable def F_is_integer : List D → M D := runF 1 B_is_integer
noncomputable def B_is_fact : DEnv → M Fl := (sSeq (sIf (tOrD (tVal (dOp (dEq true) (dB dLen (aCons (dVar 1) aNil)) (dC (.int 3)))) (tNotD (tTru (dCall 1 F_is_integer (aCons (dOp dIx (dVar 1) (dC (.int 2))) aNil)))))
  (sRet (dC (.bl false)))
  sNext)
  (sRet (dAnd (dOp (dIn false) (dOp dIx (dVar 1) (dC (.int 0))) (dVar 0)) (dAnd (dOp (dIn false) (dOp dIx (dVar 1) (dC (.int 1))) (dVar 0)) (dOp (dEq true) (dOp dIx (dVar 1) (dC (.int 0))) (dOp dIx (dVar 1) (dC (.int 1))))))))
noncomputable def F_is_fact : List D → M D := runF 2 B_is_fact
noncomputable def L_check_sheet_1 : DEnv → M Fl := (sIf (tNotD (tTru (dCall 2 F_is_mark_at (aCons (dVar 0) (aCons (dVar 3) aNil)))))
  (sRaise 6 1 [("index" : Str)] (aCons (dVar 3) aNil))
  sNext)
noncomputable def L_check_sheet_2 : DEnv → M Fl := (sIf (tOrD (tVal (dOp (dIn true) (dVar 4) (dVar 0))) (tVal (dOp (dIn false) (dVar 4) (dSl (dVar 1) oNone (oSome (dVar 3))))))
  (sRaise 11 1 [("index" : Str)] (aCons (dVar 3) aNil))
  sNext)
noncomputable def L_check_sheet_3 : DEnv → M Fl := (sIf (tNotD (tTru (dCall 2 F_is_fact (aCons (dTup (aCons (dC (.str ("zero" : Str))) (aStar (dVar 0) aNil))) (aCons (dVar 5) aNil)))))
  (sRaise 4 1 [("index" : Str)] (aCons (dVar 3) aNil))
  sNext)
noncomputable def B_check_sheet : DEnv → M Fl := (sSeq (sFor (srcA rng1 (aCons (dB dLen (aCons (dVar 0) aNil)) aNil)) (gSet 3) L_check_sheet_1)
  (sSeq (sFor (srcA enm1 (aCons (dVar 1) aNil)) (gTupD 2 (gsCons (gSet 3) (gsCons (gSet 4) gsNil))) L_check_sheet_2)
  (sFor (srcA enm1 (aCons (dVar 2) aNil)) (gTupD 2 (gsCons (gSet 3) (gsCons (gSet 5) gsNil))) L_check_sheet_3)))
noncomputable def F_check_sheet : List D → M D := runF 6 B_check_sheet
noncomputable def B_is_less : DEnv → M Fl := (sRet (dAnd (dUn notN1 (dVar 0)) (dOr (dUn isN1 (dVar 1)) (dOp dLt (dVar 0) (dVar 1)))))
noncomputable def F_is_less : List D → M D := runF 2 B_is_less
noncomputable def B_summed : DEnv → M Fl := (sRet (dIf (tOrD (tIsN (dVar 0)) (tIsN (dVar 1))) (dC .non) (dOp dAdd (dVar 0) (dVar 1))))
noncomputable def F_summed : List D → M D := runF 2 B_summed
noncomputable def B_lesser : DEnv → M Fl := (sSeq (sIf (tOrD (tIsN (dVar 0)) (tIsN (dVar 1)))
  (sRet (dIf (tIsN (dVar 0)) (dVar 1) (dVar 0)))
  sNext)
  (sRet (dB dMin2 (aCons (dVar 0) (aCons (dVar 1) aNil)))))
noncomputable def F_lesser : List D → M D := runF 2 B_lesser
noncomputable def E_narrowed_1 : DEnv → M D := (dCall 2 F_lesser (aCons (dVar 8) (aCons (dCall 2 F_summed (aCons (dVar 7) (aCons (dVar 9) aNil))) aNil)))
noncomputable def L_narrowed_2 : DEnv → M Fl := (sSeq (sSet 7 (dCall 2 F_summed (aCons (dOp dIx (dVar 6) (dVar 1)) (aCons (dVar 3) aNil))))
  (sSet 5 (dOp dAdd (dVar 5) (dLst (aCons (dB dTupOf (aCons (dLc (srcA zip2 (aCons (dVar 6) (aCons (dOp dIx (dVar 0) (dVar 2)) aNil))) (gTupD 2 (gsCons (gSet 8) (gsCons (gSet 9) gsNil))) tYesD E_narrowed_1 [8, 9]) aNil)) aNil)))))
noncomputable def B_narrowed : DEnv → M Fl := (sSeq (sSet 4 (dOp dIx (dOp dIx (dVar 0) (dVar 2)) (dVar 1)))
  (sSeq (sIf (tAndD (tNotN (dVar 4)) (tVal (dOp dLt (dOp dAdd (dVar 4) (dVar 3)) (dC (.int 0)))))
  (sRet (dC .non))
  sNext)
  (sSeq (sIf (tNotD (tTru (dCall 2 F_is_less (aCons (dVar 3) (aCons (dOp dIx (dOp dIx (dVar 0) (dVar 1)) (dVar 2)) aNil)))))
  (sRet (dVar 0))
  sNext)
  (sSeq (sSet 5 (dLst aNil))
  (sSeq (sFor (srcSeq (dVar 0)) (gSet 6) L_narrowed_2)
  (sRet (dB dTupOf (aCons (dVar 5) aNil))))))))
noncomputable def F_narrowed : List D → M D := runF 10 B_narrowed
noncomputable def L_narrowed_by_1 : DEnv → M Fl := (sSeq (sSet 0 (dCall 4 F_narrowed (aCons (dVar 0) (aCons (dVar 2) (aCons (dVar 3) (aCons (dVar 4) aNil))))))
  (sIf (tIsN (dVar 0))
  (sRet (dC .non))
  sNext))
noncomputable def B_narrowed_by : DEnv → M Fl := (sSeq (sFor (srcSeq (dVar 1)) (gTupD 3 (gsCons (gSet 2) (gsCons (gSet 3) (gsCons (gSet 4) gsNil)))) L_narrowed_by_1)
  (sRet (dVar 0)))
noncomputable def F_narrowed_by : List D → M D := runF 5 B_narrowed_by
noncomputable def E_open_bounds_1 : DEnv → M D := (dIf (tVal (dOp (dIn false) (dVar 2) (dTup (aCons (dC (.int (0))) (aCons (dVar 3) aNil))))) (dC (.int 0)) (dC .non))
noncomputable def L_open_bounds_2 : DEnv → M Fl := (sSet 1 (dOp dAdd (dVar 1) (dLst (aCons (dB dTupOf (aCons (dLc (srcA rng1 (aCons (dOp dAdd (dVar 0) (dC (.int 1))) aNil)) (gSet 3) tYesD E_open_bounds_1 [3]) aNil)) aNil))))
noncomputable def B_open_bounds : DEnv → M Fl := (sSeq (sSet 1 (dLst aNil))
  (sSeq (sFor (srcA rng1 (aCons (dOp dAdd (dVar 0) (dC (.int 1))) aNil)) (gSet 2) L_open_bounds_2)
  (sRet (dB dTupOf (aCons (dVar 1) aNil)))))
noncomputable def F_open_bounds : List D → M D := runF 4 B_open_bounds
noncomputable def L_number_of_1 : DEnv → M Fl := (sIf (tVal (dOp (dEq false) (dVar 4) (dVar 1)))
  (sSet 2 (dVar 3))
  sNext)
noncomputable def B_number_of : DEnv → M Fl := (sSeq (sSet 2 (dC (.int 0)))
  (sSeq (sFor (srcA enm1 (aCons (dVar 0) aNil)) (gTupD 2 (gsCons (gSet 3) (gsCons (gSet 4) gsNil))) L_number_of_1)
  (sRet (dVar 2))))
noncomputable def F_number_of : List D → M D := runF 5 B_number_of
noncomputable def E_numbered_1 : DEnv → M D := (dTup (aCons (dCall 2 F_number_of (aCons (dVar 0) (aCons (dVar 2) aNil))) (aCons (dCall 2 F_number_of (aCons (dVar 0) (aCons (dVar 3) aNil))) (aCons (dVar 4) aNil))))
noncomputable def B_numbered : DEnv → M Fl := (sRet (dB dTupOf (aCons (dLc (srcSeq (dVar 1)) (gTupD 3 (gsCons (gSet 2) (gsCons (gSet 3) (gsCons (gSet 4) gsNil)))) tYesD E_numbered_1 [2, 3, 4]) aNil)))
noncomputable def F_numbered : List D → M D := runF 5 B_numbered
noncomputable def L_first_ways_1 : DEnv → M Fl := (sSet 3 (dOp dAdd (dVar 3) (dLst (aCons (dIf (tVal (dOp (dEq false) (dVar 2) (dVar 4))) (dTup aNil) (dIf (tVal (dOp (dEq false) (dVar 2) (dC (.str ("zero" : Str))))) (dTup (aCons (dTup (aCons (dVar 2) (aCons (dVar 4) (aCons (dC (.int 0)) aNil)))) aNil)) (dC .non))) aNil))))
noncomputable def L_first_ways_2 : DEnv → M Fl := (sSeq (sSet 3 (dLst aNil))
  (sSeq (sFor (srcSeq (dVar 0)) (gSet 4) L_first_ways_1)
  (sSet 1 (dOp dAdd (dVar 1) (dLst (aCons (dVar 3) aNil))))))
noncomputable def B_first_ways : DEnv → M Fl := (sSeq (sSet 1 (dLst aNil))
  (sSeq (sFor (srcSeq (dVar 0)) (gSet 2) L_first_ways_2)
  (sRet (dVar 1))))
noncomputable def F_first_ways : List D → M D := runF 5 B_first_ways
noncomputable def E_way_sum_1 : DEnv → M D := (dVar 3)
noncomputable def B_way_sum : DEnv → M Fl := (sRet (dIf (tIsN (dVar 0)) (dC .non) (dB dSum (aCons (dLc (srcSeq (dVar 0)) (gTupD 3 (gsCons (gSet 1) (gsCons (gSet 2) (gsCons (gSet 3) gsNil)))) tYesD E_way_sum_1 [1, 2, 3]) aNil))))
noncomputable def F_way_sum : List D → M D := runF 4 B_way_sum
noncomputable def B_better_way : DEnv → M Fl := (sSeq (sIf (tOrD (tIsN (dVar 1)) (tAndD (tNotN (dVar 0)) (tVal (dOp dLe (dCall 1 F_way_sum (aCons (dVar 0) aNil)) (dCall 1 F_way_sum (aCons (dVar 1) aNil))))))
  (sRet (dVar 0))
  sNext)
  (sRet (dVar 1)))
noncomputable def F_better_way : List D → M D := runF 2 B_better_way
noncomputable def B_joined_way : DEnv → M Fl := (sRet (dIf (tOrD (tIsN (dVar 0)) (tIsN (dVar 2))) (dC .non) (dTup (aStar (dVar 0) (aCons (dVar 1) (aStar (dVar 2) aNil))))))
noncomputable def F_joined_way : List D → M D := runF 3 B_joined_way
noncomputable def E_ways_by_1 : DEnv → M D := (dCall 2 F_better_way (aCons (dVar 9) (aCons (dCall 3 F_joined_way (aCons (dOp dIx (dVar 8) (dVar 4)) (aCons (dVar 3) (aCons (dVar 10) aNil)))) aNil)))
noncomputable def L_ways_by_2 : DEnv → M Fl := (sSet 7 (dOp dAdd (dVar 7) (dLst (aCons (dLc (srcA zip2 (aCons (dVar 8) (aCons (dOp dIx (dVar 2) (dVar 5)) aNil))) (gTupD 2 (gsCons (gSet 9) (gsCons (gSet 10) gsNil))) tYesD E_ways_by_1 [9, 10]) aNil))))
noncomputable def L_ways_by_3 : DEnv → M Fl := (sSeq (sAsg (dTup (aCons (dCall 2 F_number_of (aCons (dVar 0) (aCons (dOp dIx (dVar 3) (dC (.int 0))) aNil))) (aCons (dCall 2 F_number_of (aCons (dVar 0) (aCons (dOp dIx (dVar 3) (dC (.int 1))) aNil))) aNil))) (gTupD 2 (gsCons (gSet 4) (gsCons (gSet 5) gsNil))))
  (sSeq (sSet 6 (dOp dIx (dOp dIx (dVar 2) (dVar 5)) (dVar 4)))
  (sSeq (sIf (tAndD (tNotN (dVar 6)) (tVal (dOp dLt (dOp dAdd (dCall 1 F_way_sum (aCons (dVar 6) aNil)) (dOp dIx (dVar 3) (dC (.int 2)))) (dC (.int 0)))))
  (sRet (dTup (aCons (dC .non) (aCons (dTup (aStar (dVar 6) (aCons (dVar 3) aNil))) aNil))))
  sNext)
  (sSeq (sSet 7 (dLst aNil))
  (sSeq (sFor (srcSeq (dVar 2)) (gSet 8) L_ways_by_2)
  (sSet 2 (dVar 7)))))))
noncomputable def B_ways_by : DEnv → M Fl := (sSeq (sSet 2 (dCall 1 F_first_ways (aCons (dVar 0) aNil)))
  (sSeq (sFor (srcSeq (dVar 1)) (gSet 3) L_ways_by_3)
  (sRet (dTup (aCons (dVar 2) (aCons (dC .non) aNil))))))
noncomputable def F_ways_by : List D → M D := runF 11 B_ways_by
noncomputable def B_Sheet___init__ : DEnv → M Fl := (sSeq (sExpr (dCall 3 F_check_sheet (aCons (dVar 1) (aCons (dVar 2) (aCons (dVar 3) aNil)))))
  (sSeq (sSet 4 (dTup (aCons (dC (.str ("zero" : Str))) (aStar (dVar 1) aNil))))
  (sSeq (sSet 5 (dCall 2 F_narrowed_by (aCons (dCall 1 F_open_bounds (aCons (dB dLen (aCons (dVar 1) aNil)) aNil)) (aCons (dCall 2 F_numbered (aCons (dVar 4) (aCons (dVar 3) aNil))) aNil))))
  (sSeq (sIf (tIsN (dVar 5))
  (sSeq (sAsg (dCall 2 F_ways_by (aCons (dVar 4) (aCons (dVar 3) aNil))) (gTupD 2 (gsCons (gSet 6) (gsCons (gSet 7) gsNil))))
  (sRaise 15 1 [("ring" : Str)] (aCons (dVar 7) aNil)))
  sNext)
  (sSeq (sFldS [0] ("marks" : Str) (dVar 0) (dVar 1))
  (sSeq (sFldS [0] ("takes" : Str) (dVar 0) (dVar 2))
  (sSeq (sFldS [0] ("facts" : Str) (dVar 0) (dVar 3))
  (sSeq (sFldS [0] ("nodes" : Str) (dVar 0) (dVar 4))
  (sFldS [0] ("bounds" : Str) (dVar 0) (dVar 5))))))))))
noncomputable def F_Sheet___init__ : List D → M D := runF 8 B_Sheet___init__
noncomputable def MF_Sheet_3 : List D → M D := fun as => F_Sheet___init__ (as ++ [])
noncomputable def MF_Sheet_2 : List D → M D := fun as => F_Sheet___init__ (as ++ [.tup []])
noncomputable def B__law_fields_right : DEnv → M Fl := (sSeq (sSet 0 (dLst (aCons (dUn (dXFld [2, 4, 5, 6, 9, 11, 13, 14] ("index" : Str)) (dXNew 6 1 [("index" : Str)] (aCons (dC (.int 2)) aNil))) (aCons (dUn (dXFld [2, 4, 5, 6, 9, 11, 13, 14] ("index" : Str)) (dXNewK 6 0 1 [("index" : Str)] [(false, 0)] aNil (aCons (dC (.int 0)) aNil))) (aCons (dUn (dXFld [2, 4, 5, 6, 9, 11, 13, 14] ("index" : Str)) (dXNew 11 1 [("index" : Str)] (aCons (dC (.int 1)) aNil))) aNil)))))
  (sSeq (sSet 0 (dOp dAdd (dVar 0) (dLst (aCons (dUn (dXFld [2, 4, 5, 6, 9, 11, 13, 14] ("index" : Str)) (dXNewK 11 0 1 [("index" : Str)] [(false, 0)] aNil (aCons (dC (.int 3)) aNil))) (aCons (dUn (dXFld [2, 4, 5, 6, 9, 11, 13, 14] ("index" : Str)) (dXNew 4 1 [("index" : Str)] (aCons (dC (.int 4)) aNil))) aNil)))))
  (sSeq (sSet 0 (dOp dAdd (dVar 0) (dLst (aCons (dUn (dXFld [2, 4, 5, 6, 9, 11, 13, 14] ("index" : Str)) (dXNewK 4 0 1 [("index" : Str)] [(false, 0)] aNil (aCons (dC (.int 5)) aNil))) (aCons (dUn (dXFld [2, 4, 5, 6, 9, 11, 13, 14] ("index" : Str)) (dXNew 13 1 [("index" : Str)] (aCons (dC (.int 1)) aNil))) (aCons (dUn (dXFld [2, 4, 5, 6, 9, 11, 13, 14] ("index" : Str)) (dXNewK 13 0 1 [("index" : Str)] [(false, 0)] aNil (aCons (dC (.int 0)) aNil))) (aCons (dUn (dXFld [2, 4, 5, 6, 9, 11, 13, 14] ("index" : Str)) (dXNew 5 1 [("index" : Str)] (aCons (dC (.int 2)) aNil))) aNil)))))))
  (sSeq (sSet 0 (dOp dAdd (dVar 0) (dLst (aCons (dUn (dXFld [2, 4, 5, 6, 9, 11, 13, 14] ("index" : Str)) (dXNewK 5 0 1 [("index" : Str)] [(false, 0)] aNil (aCons (dC (.int 1)) aNil))) (aCons (dUn (dXFld [2, 4, 5, 6, 9, 11, 13, 14] ("index" : Str)) (dXNew 14 1 [("index" : Str)] (aCons (dC (.int 6)) aNil))) (aCons (dUn (dXFld [2, 4, 5, 6, 9, 11, 13, 14] ("index" : Str)) (dXNewK 14 0 1 [("index" : Str)] [(false, 0)] aNil (aCons (dC (.int 7)) aNil))) (aCons (dUn (dXFld [2, 4, 5, 6, 9, 11, 13, 14] ("index" : Str)) (dXNew 2 1 [("index" : Str)] (aCons (dC (.int 0)) aNil))) aNil)))))))
  (sSeq (sSet 0 (dOp dAdd (dVar 0) (dLst (aCons (dUn (dXFld [2, 4, 5, 6, 9, 11, 13, 14] ("index" : Str)) (dXNewK 2 0 1 [("index" : Str)] [(false, 0)] aNil (aCons (dC (.int 9)) aNil))) (aCons (dUn (dXFld [2, 4, 5, 6, 9, 11, 13, 14] ("index" : Str)) (dXNew 9 1 [("index" : Str)] (aCons (dC (.int 1)) aNil))) (aCons (dUn (dXFld [2, 4, 5, 6, 9, 11, 13, 14] ("index" : Str)) (dXNewK 9 0 1 [("index" : Str)] [(false, 0)] aNil (aCons (dC (.int 2)) aNil))) (aCons (dUn (dXFld [3, 10, 16] ("step" : Str)) (dXNew 3 1 [("step" : Str)] (aCons (dC (.int 3)) aNil))) aNil)))))))
  (sSeq (sSet 0 (dOp dAdd (dVar 0) (dLst (aCons (dUn (dXFld [3, 10, 16] ("step" : Str)) (dXNewK 3 0 1 [("step" : Str)] [(false, 0)] aNil (aCons (dC (.int 4)) aNil))) (aCons (dUn (dXFld [3, 10, 16] ("step" : Str)) (dXNew 10 1 [("step" : Str)] (aCons (dC (.int 5)) aNil))) (aCons (dUn (dXFld [3, 10, 16] ("step" : Str)) (dXNewK 10 0 1 [("step" : Str)] [(false, 0)] aNil (aCons (dUn dNeg (dC (.int 1))) aNil))) (aCons (dUn (dXFld [12] ("line" : Str)) (dXNew 12 1 [("line" : Str)] (aCons (dC (.int 6)) aNil))) aNil)))))))
  (sSeq (sSet 0 (dOp dAdd (dVar 0) (dLst (aCons (dUn (dXFld [12] ("line" : Str)) (dXNewK 12 0 1 [("line" : Str)] [(false, 0)] aNil (aCons (dC (.int 1)) aNil))) aNil))))
  (sSeq (sSet 1 (dLst (aCons (dC (.int 2)) (aCons (dC (.int 0)) (aCons (dC (.int 1)) (aCons (dC (.int 3)) (aCons (dC (.int 4)) (aCons (dC (.int 5)) (aCons (dC (.int 1)) (aCons (dC (.int 0)) (aCons (dC (.int 2)) (aCons (dC (.int 1)) (aCons (dC (.int 6)) (aCons (dC (.int 7)) (aCons (dC (.int 0)) (aCons (dC (.int 9)) (aCons (dC (.int 1)) (aCons (dC (.int 2)) (aCons (dC (.int 3)) (aCons (dC (.int 4)) (aCons (dC (.int 5)) (aCons (dUn dNeg (dC (.int 1))) (aCons (dC (.int 6)) (aCons (dC (.int 1)) aNil))))))))))))))))))))))))
  (sSeq (sSet 2 (dLst (aCons (dUn (dXFld [17, 18, 20, 24] ("name" : Str)) (dXNew 24 1 [("name" : Str)] (aCons (dC (.str ("m" : Str))) aNil))) (aCons (dUn (dXFld [17, 18, 20, 24] ("name" : Str)) (dXNewK 24 0 1 [("name" : Str)] [(false, 0)] aNil (aCons (dC (.str ("A" : Str))) aNil))) (aCons (dUn (dXFld [17, 18, 20, 24] ("name" : Str)) (dXNew 17 1 [("name" : Str)] (aCons (dC (.str ("x" : Str))) aNil))) (aCons (dUn (dXFld [17, 18, 20, 24] ("name" : Str)) (dXNewK 17 0 1 [("name" : Str)] [(false, 0)] aNil (aCons (dC (.str ("" : Str))) aNil))) aNil))))))
  (sSeq (sSet 2 (dOp dAdd (dVar 2) (dLst (aCons (dUn (dXFld [17, 18, 20, 24] ("name" : Str)) (dXNew 18 1 [("name" : Str)] (aCons (dC (.str ("b" : Str))) aNil))) (aCons (dUn (dXFld [17, 18, 20, 24] ("name" : Str)) (dXNewK 18 0 1 [("name" : Str)] [(false, 0)] aNil (aCons (dC (.str ("c" : Str))) aNil))) (aCons (dUn (dXFld [17, 18, 20, 24] ("name" : Str)) (dXNew 20 1 [("name" : Str)] (aCons (dC (.str ("w" : Str))) aNil))) (aCons (dUn (dXFld [17, 18, 20, 24] ("name" : Str)) (dXNewK 20 0 1 [("name" : Str)] [(false, 0)] aNil (aCons (dC (.str ("v" : Str))) aNil))) aNil)))))))
  (sSeq (sSet 3 (dTup (aCons (dTup (aCons (dC (.str ("a" : Str))) (aCons (dC (.str ("zero" : Str))) (aCons (dUn dNeg (dC (.int 1))) aNil)))) aNil)))
  (sSeq (sPar 4 5 (aCons (dXNew 16 3 [("step" : Str), ("kind" : Str), ("recording" : Str)] (aCons (dC (.int 2)) (aCons (dC (.str ("late" : Str))) (aCons (dTup (aCons (dC (.int 1)) aNil)) aNil)))) (aCons (dXNewK 16 1 2 [("step" : Str), ("kind" : Str), ("recording" : Str)] [(true, 0), (false, 1), (false, 0)] (aCons (dC (.int 0)) aNil) (aCons (dTup aNil) (aCons (dC (.str ("x" : Str))) aNil))) aNil)))
  (sSeq (sSet 6 (dLst (aCons (dUn (dXFld [15] ("ring" : Str)) (dXNew 15 1 [("ring" : Str)] (aCons (dVar 3) aNil))) (aCons (dUn (dXFld [15] ("ring" : Str)) (dXNewK 15 0 1 [("ring" : Str)] [(false, 0)] aNil (aCons (dTup aNil) aNil))) (aCons (dUn (dXFld [16, 22] ("recording" : Str)) (dXNew 22 1 [("recording" : Str)] (aCons (dTup (aCons (dC (.int 3)) aNil)) aNil))) aNil)))))
  (sSeq (sSet 6 (dOp dAdd (dVar 6) (dLst (aCons (dUn (dXFld [16, 22] ("recording" : Str)) (dXNewK 22 0 1 [("recording" : Str)] [(false, 0)] aNil (aCons (dTup (aCons (dC (.int 4)) (aCons (dC (.int 5)) aNil))) aNil))) (aCons (dUn (dXFld [3, 10, 16] ("step" : Str)) (dVar 4)) (aCons (dUn (dXFld [16] ("kind" : Str)) (dVar 4)) (aCons (dUn (dXFld [16, 22] ("recording" : Str)) (dVar 4)) aNil)))))))
  (sSeq (sSet 6 (dOp dAdd (dVar 6) (dLst (aCons (dUn (dXFld [3, 10, 16] ("step" : Str)) (dVar 5)) (aCons (dUn (dXFld [16] ("kind" : Str)) (dVar 5)) (aCons (dUn (dXFld [16, 22] ("recording" : Str)) (dVar 5)) aNil))))))
  (sSeq (sIf (tOrD (tVal (dOp (dEq true) (dVar 2) (dLst (aCons (dC (.str ("m" : Str))) (aCons (dC (.str ("A" : Str))) (aCons (dC (.str ("x" : Str))) (aCons (dC (.str ("" : Str))) (aCons (dC (.str ("b" : Str))) (aCons (dC (.str ("c" : Str))) (aCons (dC (.str ("w" : Str))) (aCons (dC (.str ("v" : Str))) aNil))))))))))) (tVal (dOp (dEq true) (dVar 0) (dVar 1))))
  (sRet (dC (.bl false)))
  sNext)
  (sRet (dOp (dEq false) (dVar 6) (dLst (aCons (dVar 3) (aCons (dTup aNil) (aCons (dTup (aCons (dC (.int 3)) aNil)) (aCons (dTup (aCons (dC (.int 4)) (aCons (dC (.int 5)) aNil))) (aCons (dC (.int 2)) (aCons (dC (.str ("late" : Str))) (aCons (dTup (aCons (dC (.int 1)) aNil)) (aCons (dC (.int 0)) (aCons (dC (.str ("x" : Str))) (aCons (dTup aNil) aNil)))))))))))))))))))))))))))))
noncomputable def F__law_fields_right : List D → M D := runF 7 B__law_fields_right
noncomputable def B__law_kept_right : DEnv → M Fl := (sSeq (sPar 0 1 (aCons (dLst (aCons (dC (.bl true)) aNil)) (aCons (dLst aNil) aNil)))
  (sSeq (sTry (sRaise0 1) (⟨[1, 2, 3, 4, 5, 6, 7, 8, 9, 10, 11, 12, 13, 14, 15, 16, 17, 18, 19, 20, 21, 22, 23, 24, 25, 26], [], some 2, (sSet 0 (dCall 1 F__law_marks (aCons (dVar 2) aNil)))⟩ :: []))
  (sSeq (sTry (sExpr (dMake 0 true 2 (MF_Sheet_2) (aCons (dTup (aCons (dC (.str ("a" : Str))) (aCons (dC (.str ("zero" : Str))) aNil))) (aCons (dTup aNil) aNil)))) (⟨[1, 2, 3, 4, 5, 6, 7, 8, 9, 10, 11, 12, 13, 14, 15, 16, 17, 18, 19, 20, 21, 22, 23, 24, 25, 26], [], some 2, (sSet 1 (dCall 1 F__law_marks (aCons (dVar 2) aNil)))⟩ :: []))
  (sRet (dAnd (dNot (dOp (dIn false) (dC (.bl true)) (dVar 0))) (dAnd (dCall 0 F__law_fields_right aNil) (dAnd (dOp (dEq false) (dMt "list" dCountB (dVar 1) (aCons (dC (.bl true)) aNil)) (dC (.int 1))) (dOp dIx (dVar 1) (dC (.int 4))))))))))
noncomputable def F__law_kept_right : List D → M D := runF 3 B__law_kept_right
noncomputable def P_law_1 : DEnv → M Bool := (tNotD (tTru (dCall 2 F__law_way_right (aCons (dVar 3) (aCons (dVar 1) aNil)))))
noncomputable def E_law_2 : DEnv → M D := (dVar 3)
noncomputable def B_law : DEnv → M Fl := (sSeq (sSet 1 (dC (.int 25)))
  (sSeq (sSet 2 (dIf (tVal (dOp (dEq true) (dVar 0) (dLst aNil))) (dOp dMod (dB dInt (aCons (dOp dIx (dVar 0) (dC (.int 0))) aNil)) (dVar 1)) (dC (.int 0))))
  (sSeq (sIf (tOrD (tNotD (tTru (dCall 2 F__law_way_right (aCons (dVar 2) (aCons (dVar 1) aNil))))) (tNotD (tTru (dCall 0 F__law_kept_right aNil))))
  (sRet (dC (.bl false)))
  sNext)
  (sRet (dOp (dEq false) (dLc (srcA rng1 (aCons (dVar 1) aNil)) (gSet 3) P_law_1 E_law_2 [3]) (dLst aNil))))))
noncomputable def F_law : List D → M D := runF 4 B_law
end K00

namespace DD
open PySem PySem.Spec PyProof.Rows L2
def oi : Option Int → D
  | none => .non
  | some i => .int i
theorem nr {α : Type} {a b : α} (h : a = b) : a = b := h
@[simp] theorem bind_r {α β : Type} {m : M α} {k : α → M β} {S : Sto} : (m >>= k) S = (match m S with
  | .ok a S' => k a S'
  | .exc c fs S' => .exc c fs S'
  | .bad => .bad) := nr (M.bind_run m k S)
@[simp] theorem pure_r {α : Type} {a : α} {S : Sto} : (Pure.pure a : M α) S = .ok a S := nr rfl
@[simp] theorem get_some {α : Type} {f : Sto → Option α} {S : Sto} {a : α} (h : f S = some a) : M.get f S = .ok a S := by
  unfold M.get
  rw [h]
@[simp] theorem dVar_run {i : Nat} {ρ : DEnv} {S : Sto} : dVar i ρ S = M.get (fun _ => (ρ[i]?).join) S := nr rfl
theorem getc_some {α : Type} {o : Option α} {S : Sto} {a : α} (h : o = some a) : M.get (fun _ => o) S = .ok a S := get_some h
@[simp] theorem getc {α : Type} {S : Sto} {a : α} : M.get (fun _ => some a) S = .ok a S := nr rfl
@[simp] theorem dC_run {d : D} {ρ : DEnv} {S : Sto} : dC d ρ S = .ok d S := nr rfl
@[simp] theorem need_run {c : Prop} [Decidable c] {S : Sto} : M.need c S = if c then .ok () S else .bad := nr rfl
section
variable {ρ : DEnv} {S : Sto} {fa fb fc f : DEnv → M D} {t u : DEnv → M Bool} {fs r : DEnv → M (List D)} {op op' : D → D → M D} {o : D → M D} {sa sb : DEnv → M Fl} {F : List D → M D}
@[simp] theorem dOp_run : dOp op fa fb ρ S = (fa ρ >>= fun x => fb ρ >>= fun y => op x y) S := nr rfl
@[simp] theorem dUn_run : dUn o fa ρ S = (fa ρ >>= o) S := nr rfl
@[simp] theorem dChain_run : dChain op op' fa fb fc ρ S = (fa ρ >>= fun x => fb ρ >>= fun y => op x y >>= fun r => toB r >>= fun b => if b then (fc ρ >>= fun z => op' y z) else pure (.bl false)) S := nr rfl
@[simp] theorem dAnd_run : dAnd fa fb ρ S = (fa ρ >>= fun x => toB x >>= fun b => if b then fb ρ else pure (.bl false)) S := nr rfl
@[simp] theorem dOr_run : dOr fa fb ρ S = (fa ρ >>= fun x => toB x >>= fun b => if b then pure (.bl true) else fb ρ) S := nr rfl
@[simp] theorem dNot_run : dNot fa ρ S = (fa ρ >>= fun x => toB x >>= fun b => pure (.bl !b)) S := nr rfl
@[simp] theorem dIf_run : dIf t fa fb ρ S = (t ρ >>= fun b => if b then fa ρ else fb ρ) S := nr rfl
@[simp] theorem tVal_run : tVal fa ρ S = (fa ρ >>= toB) S := nr rfl
@[simp] theorem tTru_run : tTru fa ρ S = (fa ρ >>= truD) S := nr rfl
@[simp] theorem tAndD_run : tAndD t u ρ S = (t ρ >>= fun x => if x then u ρ else pure false) S := nr rfl
@[simp] theorem tOrD_run : tOrD t u ρ S = (t ρ >>= fun x => if x then pure true else u ρ) S := nr rfl
@[simp] theorem tNotD_run : tNotD t ρ S = (t ρ >>= fun x => pure !x) S := nr rfl
@[simp] theorem tIsN_run : tIsN f ρ S = (f ρ >>= fun d => pure (isNon d)) S := nr rfl
@[simp] theorem tNotN_run : tNotN f ρ S = (f ρ >>= fun d => pure !(isNon d)) S := nr rfl
@[simp] theorem tYes_run : tYesD ρ S = .ok true S := nr rfl
@[simp] theorem isN1_run {d : D} : isN1 d S = .ok (.bl (isNon d)) S := nr rfl
@[simp] theorem notN1_run {d : D} : notN1 d S = .ok (.bl !(isNon d)) S := nr rfl
@[simp] theorem aNil_run : aNil ρ S = .ok [] S := nr rfl
@[simp] theorem aCons_run : aCons f r ρ S = (f ρ >>= fun x => r ρ >>= fun xs => pure (x :: xs)) S := nr rfl
@[simp] theorem aStar_run : aStar f r ρ S = (f ρ >>= fun x => seqA x >>= fun xs => r ρ >>= fun ys => pure (xs ++ ys)) S := nr rfl
@[simp] theorem dTup_run : dTup fs ρ S = (fs ρ >>= fun xs => M.need (xs.length ≤ sizeLine) >>= fun _ => pure (.tup xs)) S := nr rfl
@[simp] theorem dLst_run : dLst fs ρ S = (fs ρ >>= fun xs => M.need (xs.length ≤ sizeLine) >>= fun _ => pure (.lst xs)) S := nr rfl
@[simp] theorem dLstC_run : dLstC fs ρ S = (fs ρ >>= fun xs => M.need (xs.length ≤ sizeLine) >>= fun _ => newCell xs) S := nr rfl
@[simp] theorem newCell_run {xs : List D} : newCell xs S = .ok (.cell S.length) (S ++ [some (.lst xs)]) := nr rfl
@[simp] theorem dB_run : dB F fs ρ S = (fs ρ >>= F) S := nr rfl
@[simp] theorem dCall_run {n : Nat} : dCall n F fs ρ S = (fs ρ >>= fun ds => M.need (ds.length = n) >>= fun _ => F ds) S := nr rfl
@[simp] theorem sNext_run : sNext ρ S = .ok (.nx ρ) S := nr rfl
@[simp] theorem sBreak_run : sBreak ρ S = .ok (.bk ρ) S := nr rfl
@[simp] theorem sCont_run : sCont ρ S = .ok (.ct ρ) S := nr rfl
@[simp] theorem sRetN_run : sRetN ρ S = .ok (.rt .non) S := nr rfl
@[simp] theorem sSeq_run : sSeq sa sb ρ S = (sa ρ >>= fun fl => thenS fl sb) S := nr rfl
@[simp] theorem thenS_nx {ρ' : DEnv} : thenS (.nx ρ') sb S = sb ρ' S := nr rfl
@[simp] theorem thenS_rt {d : D} : thenS (.rt d) sb S = .ok (.rt d) S := nr rfl
@[simp] theorem cat_run {α : Type} {m : M α} {k : α → M Fl} : M.cat m ρ k S = (match m S with | .ok a S' => k a S' | .exc c fs S' => .ok (.xc c fs ρ) S' | .bad => .bad) := nr rfl
@[simp] theorem sRet_run : sRet f ρ S = M.cat (f ρ) ρ (fun d => pure (.rt d)) S := nr rfl
@[simp] theorem sExpr_run : sExpr f ρ S = M.cat (f ρ) ρ (fun _ => pure (.nx ρ)) S := nr rfl
@[simp] theorem sIf_run : sIf t sa sb ρ S = M.cat (t ρ) ρ (fun c => if c then sa ρ else sb ρ) S := nr rfl
@[simp] theorem sSet_run {i : Nat} : sSet i f ρ S = M.cat (f ρ) ρ (fun d => pure (.nx (ρ.set i (some d)))) S := nr rfl
@[simp] theorem sAsg_run {k : D → DEnv → M DEnv} : sAsg f k ρ S = M.cat (f ρ) ρ (fun d => k d ρ >>= fun ρ' => pure (.nx ρ')) S := nr rfl
@[simp] theorem sPar_run {i j : Nat} : sPar i j fs ρ S = M.cat (fs ρ) ρ (fun ds => match ds with
  | [a, b] => pure (.nx ((ρ.set i (some a)).set j (some b)))
  | _ => M.bad) S := nr rfl
@[simp] theorem sPar3_run {i j l : Nat} : sPar3 i j l fs ρ S = M.cat (fs ρ) ρ (fun ds => match ds with
  | [a, b, c] => pure (.nx (((ρ.set i (some a)).set j (some b)).set l (some c)))
  | _ => M.bad) S := nr rfl
@[simp] theorem gSet_run {i : Nat} {d : D} : gSet i d ρ S = .ok (ρ.set i (some d)) S := nr rfl
@[simp] theorem gsNil_run : gsNil [] ρ S = .ok ρ S := nr rfl
@[simp] theorem gsCons_run {g : D → DEnv → M DEnv} {gs : List D → DEnv → M DEnv} {d : D} {ds : List D} : gsCons g gs (d :: ds) ρ S = (g d ρ >>= fun ρ' => gs ds ρ') S := nr rfl
@[simp] theorem gTup_run {n : Nat} {gs : List D → DEnv → M DEnv} {ds : List D} : gTupD n gs (.tup ds) ρ S = (M.need (ds.length = n) >>= fun _ => gs ds ρ) S := nr rfl
@[simp] theorem gSub_run {v : D} : gSubD fa fb v ρ S = (fa ρ >>= fun o => fb ρ >>= fun i => setIx o i v >>= fun _ => pure ρ) S := nr rfl
@[simp] theorem sFor_run {src : DEnv → M Src} {tg : D → DEnv → M DEnv} {body : DEnv → M Fl} : sFor src tg body ρ S = M.cat (src ρ) ρ (fun s => dFor s.2 tg body s.1 ρ) S := nr rfl
@[simp] theorem srcA_run {G : List D → M Src} : srcA G fs ρ S = (fs ρ >>= G) S := nr rfl
@[simp] theorem srcSeq_run : srcSeq f ρ S = (f ρ >>= srcOf) S := nr rfl
@[simp] theorem srcStr_run : srcStr f ρ S = (f ρ >>= fun d => toS d >>= fun x => pure (signsD x, none)) S := nr rfl
@[simp] theorem dLc_run {src : DEnv → M Src} {tg : D → DEnv → M DEnv} {vs : List Nat} : dLc src tg t f vs ρ S = (src ρ >>= fun s => M.nx (dLcGo s.2 tg t f (wipeD ρ vs) s.1 []) >>= fun ys => pure (.lst ys)) S := nr rfl
@[simp] theorem dLcC_run {src : DEnv → M Src} {tg : D → DEnv → M DEnv} {vs : List Nat} : dLcC src tg t f vs ρ S = (src ρ >>= fun s => M.nx (dLcGo s.2 tg t f (wipeD ρ vs) s.1 []) >>= fun ys => newCell ys) S := nr rfl
@[simp] theorem nx_run {α : Type} {m : M α} : M.nx m S = (match m S with | .ok a S' => .ok a S' | _ => .bad) := nr rfl
@[simp] theorem oNone_run : oNone ρ S = .ok none S := nr rfl
@[simp] theorem oSome_int {i : Int} (h : f ρ S = .ok (.int i) S) : oSome f ρ S = .ok (some i) S := by
  unfold oSome
  rw [M.bind_run, h]
  rfl
@[simp] theorem dSl_run {l h : DEnv → M (Option Int)} : dSl f l h ρ S = (f ρ >>= fun x => l ρ >>= fun a => h ρ >>= fun b => dSlice x a b) S := nr rfl
@[simp] theorem one_run {x : D} : one o [x] S = o x S := nr rfl
theorem runF_run {n : Nat} {fb : DEnv → M Fl} {ds : List D} {S' : Sto} {fl : Fl} (h : fb (startD n ds) S = .ok fl S') : runF n fb ds S = finD fl S' := by
  unfold runF
  rw [M.bind_run, nx_run, h]
@[simp] theorem runF_run' {n : Nat} {fb : DEnv → M Fl} {ds : List D} : runF n fb ds S = (M.nx (fb (startD n ds)) >>= finD) S := nr rfl
@[simp] theorem finD_nx {ρ' : DEnv} : finD (.nx ρ') S = .ok .non S := nr rfl
@[simp] theorem finD_rt {d : D} : finD (.rt d) S = .ok d S := nr rfl
@[simp] theorem toB_bl {b : Bool} : toB (.bl b) S = .ok b S := nr rfl
@[simp] theorem toS_str {x : Str} : toS (.str x) S = .ok x S := nr rfl
@[simp] theorem seqA_lst {xs : List D} : seqA (.lst xs) S = .ok xs S := nr rfl
@[simp] theorem seqA_tup {xs : List D} : seqA (.tup xs) S = .ok xs S := nr rfl
@[simp] theorem seqA_rol {xs : List D} : seqA (.rol xs) S = .ok xs S := nr rfl
@[simp] theorem seqL_lst {xs : List D} : seqL (.lst xs) S = .ok xs S := nr rfl
theorem seqA_cell {n : Nat} {xs : List D} (h : cellL n S = some xs) : seqA (.cell n) S = .ok xs S := get_some h
@[simp] theorem srcOf_lst {xs : List D} : srcOf (.lst xs) S = .ok (xs, none) S := nr rfl
@[simp] theorem srcOf_tup {xs : List D} : srcOf (.tup xs) S = .ok (xs, none) S := nr rfl
@[simp] theorem srcOf_rol {xs : List D} : srcOf (.rol xs) S = .ok (xs, none) S := nr rfl
@[simp] theorem add_int {i j : Int} : dAdd (.int i) (.int j) S = .ok (.int (i + j)) S := nr rfl
theorem add_lst {xs ys : List D} (h : xs.length + ys.length ≤ sizeLine) : dAdd (.lst xs) (.lst ys) S = .ok (.lst (xs ++ ys)) S := by
  show (M.need (xs.length + ys.length ≤ sizeLine) >>= fun _ => pure (.lst (xs ++ ys)) : M D) S = _
  rw [M.bind_run, need_run, if_pos h]
  rfl
theorem add_tup {xs ys : List D} (h : xs.length + ys.length ≤ sizeLine) : dAdd (.tup xs) (.tup ys) S = .ok (.tup (xs ++ ys)) S := by
  show (M.need (xs.length + ys.length ≤ sizeLine) >>= fun _ => pure (.tup (xs ++ ys)) : M D) S = _
  rw [M.bind_run, need_run, if_pos h]
  rfl
@[simp] theorem sub_int {i j : Int} : dSub (.int i) (.int j) S = .ok (.int (i - j)) S := nr rfl
@[simp] theorem lt_int {i j : Int} : dLt (.int i) (.int j) S = .ok (.bl (decide (i < j))) S := nr rfl
@[simp] theorem le_int {i j : Int} : dLe (.int i) (.int j) S = .ok (.bl (decide (i ≤ j))) S := nr rfl
@[simp] theorem gt_int {i j : Int} : dGt (.int i) (.int j) S = .ok (.bl (decide (j < i))) S := nr rfl
@[simp] theorem ge_int {i j : Int} : dGe (.int i) (.int j) S = .ok (.bl (decide (j ≤ i))) S := nr rfl
@[simp] theorem neg_int {i : Int} : dNeg (.int i) S = .ok (.int (-i)) S := nr rfl
@[simp] theorem tru_bl {b : Bool} : truD (.bl b) S = .ok b S := nr rfl
theorem rng1_eq (j : Int) : rng1 [.int j] = (M.want (-4611686018427387904 ≤ j ∧ j < 4611686018427387904) >>= fun _ => pure (intsD 0 j.toNat, none)) := rfl
theorem rng2_eq (i j : Int) : rng2 [.int i, .int j] = (M.want (-4611686018427387904 ≤ i ∧ i < 4611686018427387904 ∧ -4611686018427387904 ≤ j ∧ j < 4611686018427387904) >>= fun _ => pure (intsD i (j - i).toNat, none)) := rfl
theorem want_ok {c : Prop} {α : Type} {k : Unit → M α} (h : c) : (M.want c >>= k) S = k () S := by
  rw [M.bind_run]
  unfold M.want
  rw [if_pos h]
theorem need_ok {c : Prop} [Decidable c] {α : Type} {k : Unit → M α} (h : c) : (M.need c >>= k) S = k () S := by
  rw [M.bind_run, need_run, if_pos h]
theorem rng1_run {n : Nat} (h : n ≤ 1000) : rng1 [.int (n : Int)] S = .ok ((List.range n).map fun i : Nat => D.int (i : Int), none) S := by
  rw [rng1_eq, want_ok (by omega), Int.toNat_natCast]
  show Out.ok (intsD 0 n, none) S = _
  unfold intsD
  simp
end
end DD
namespace K00
open PySem PySem.Spec PyProof.Rows L2 DD
def osum : Option Int → Option Int → Option Int
  | some a, some b => some (a + b)
  | _, _ => none
def olt : Option Int → Option Int → Bool
  | some a, some b => decide (a < b)
  | some _, none => true
  | none, _ => false
def omin : Option Int → Option Int → Option Int
  | none, b => b
  | a, none => a
  | some a, some b => some (if b < a then b else a)
theorem f_summed (a b : Option Int) (S : Sto) : F_summed [oi a, oi b] S = .ok (oi (osum a b)) S := by
  cases a <;> cases b <;> simp [F_summed, B_summed, oi, osum, dAdd]
theorem f_lesser (a b : Option Int) (S : Sto) : F_lesser [oi a, oi b] S = .ok (oi (omin a b)) S := by
  cases a <;> cases b <;> simp [F_lesser, B_lesser, oi, omin]
theorem f_is_less (a b : Option Int) (S : Sto) : F_is_less [oi a, oi b] S = .ok (.bl (olt a b)) S := by
  cases a <;> cases b <;> simp [F_is_less, B_is_less, oi, olt]
end K00
namespace DD
open PySem PySem.Spec PyProof.Rows L2
theorem atI_nat {α : Type} {xs : List α} {i : Nat} {a : α} (h : xs[i]? = some a) : atI xs (i : Int) = some a := by
  have hl := (List.getElem?_eq_some_iff.mp h).1
  unfold atI ixN
  rw [if_pos (Int.natCast_nonneg i), if_pos (by omega)]
  simpa using h
theorem ix_tup {xs : List D} {i : Nat} {d : D} {S : Sto} (h : xs[i]? = some d) : dIx (.tup xs) (.int (i : Int)) S = .ok d S := by
  simp [dIx, dIxI, seqA, atI_nat h]
theorem ix_lst {xs : List D} {i : Nat} {d : D} {S : Sto} (h : xs[i]? = some d) : dIx (.lst xs) (.int (i : Int)) S = .ok d S := by
  simp [dIx, dIxI, seqA, atI_nat h]

theorem cell_put {p : Nat} {c : Cell} {S : Sto} (h : p < S.length) : (S.set p (some c))[p]? = some (some c) := List.getElem?_set_self h
/-! ### loops -/
theorem for_ev {tg : D → DEnv → M DEnv} {body : DEnv → M Fl} (I : Nat → DEnv → Sto → Prop) : ∀ (xs : List D) (k : Nat) (ρ : DEnv) (S : Sto), I k ρ S →
    (∀ i x ρ S, xs[i]? = some x → I (k + i) ρ S → ∃ ρ1 S1 ρ2 S2, tg x ρ S = .ok ρ1 S1 ∧ body ρ1 S1 = .ok (.nx ρ2) S2 ∧ I (k + i + 1) ρ2 S2) →
    ∃ ρ' S', dFor none tg body xs ρ S = .ok (.nx ρ') S' ∧ I (k + xs.length) ρ' S'
  | [], k, ρ, S, h, _ => ⟨ρ, S, by simp [dFor, chk_none], h⟩
  | x :: xs, k, ρ, S, h, step => by
    obtain ⟨ρ1, S1, ρ2, S2, e1, e2, h2⟩ := step 0 x ρ S rfl h
    obtain ⟨ρ', S', e3, h3⟩ := for_ev I xs (k + 1) ρ2 S2 h2 (fun i y ρ S hy hI => by
      have := step (i + 1) y ρ S (by simpa using hy) (by rw [show k + (i + 1) = k + 1 + i by omega]; exact hI)
      rw [show k + (i + 1) + 1 = k + 1 + i + 1 by omega] at this
      exact this)
    refine ⟨ρ', S', ?_, by rw [List.length_cons, show k + (xs.length + 1) = k + 1 + xs.length by omega]; exact h3⟩
    simp [dFor, chk_none, e1, e2, loopS, e3]
theorem lc_ev {tg : D → DEnv → M DEnv} {tt : DEnv → M Bool} {te : DEnv → M D} {ρ : DEnv} (I : Nat → List D → Sto → Prop) : ∀ (xs : List D) (k : Nat) (acc : List D) (S : Sto), I k acc S → acc.length ≤ k → k + xs.length ≤ sizeLine →
    (∀ i x acc S, xs[i]? = some x → I (k + i) acc S → ∃ ρ1 S1 b S2, tg x ρ S = .ok ρ1 S1 ∧ tt ρ1 S1 = .ok b S2 ∧ (if b = true then ∃ y S3, te ρ1 S2 = .ok y S3 ∧ I (k + i + 1) (acc ++ [y]) S3 else I (k + i + 1) acc S2)) →
    ∃ ys S', dLcGo none tg tt te ρ xs acc S = .ok ys S' ∧ I (k + xs.length) ys S'
  | [], k, acc, S, h, _, _, _ => ⟨acc, S, by simp [dLcGo, chk_none], h⟩
  | x :: xs, k, acc, S, h, hl, hz, step => by
    obtain ⟨ρ1, S1, b, S2, e1, e2, h2⟩ := step 0 x acc S rfl h
    rw [List.length_cons] at hz
    have step' : ∀ i y acc S, xs[i]? = some y → I (k + 1 + i) acc S → ∃ ρ1 S1 b S2, tg y ρ S = .ok ρ1 S1 ∧ tt ρ1 S1 = .ok b S2 ∧ (if b = true then ∃ y S3, te ρ1 S2 = .ok y S3 ∧ I (k + 1 + i + 1) (acc ++ [y]) S3 else I (k + 1 + i + 1) acc S2) := fun i y acc S hy hI => by
      have := step (i + 1) y acc S (by simpa using hy) (by rw [show k + (i + 1) = k + 1 + i by omega]; exact hI)
      rw [show k + (i + 1) + 1 = k + 1 + i + 1 by omega] at this
      exact this
    cases b with
    | true =>
      simp only [if_true] at h2
      obtain ⟨y, S3, e3, h3⟩ := h2
      obtain ⟨ys, S', e4, h4⟩ := lc_ev I xs (k + 1) (acc ++ [y]) S3 h3 (by simp; omega) (by omega) step'
      refine ⟨ys, S', ?_, by rw [List.length_cons, show k + (xs.length + 1) = k + 1 + xs.length by omega]; exact h4⟩
      have hn : acc.length < sizeLine := by omega
      simp [dLcGo, chk_none, e1, e2, e3, hn, e4]
    | false =>
      simp only [Bool.false_eq_true, if_false] at h2
      obtain ⟨ys, S', e4, h4⟩ := lc_ev I xs (k + 1) acc S2 h2 (by omega) (by omega) step'
      refine ⟨ys, S', ?_, by rw [List.length_cons, show k + (xs.length + 1) = k + 1 + xs.length by omega]; exact h4⟩
      simp [dLcGo, chk_none, e1, e2, e4]
/-- nothing changes, each item is taken -/
theorem lc_map {tg : D → DEnv → M DEnv} {te : DEnv → M D} {ρ : DEnv} {S : Sto} (f : D → D) : ∀ (xs acc : List D), acc.length + xs.length ≤ sizeLine → (∀ x ∈ xs, ∃ ρ1, tg x ρ S = .ok ρ1 S ∧ te ρ1 S = .ok (f x) S) →
    dLcGo none tg tYesD te ρ xs acc S = .ok (acc ++ xs.map f) S
  | [], acc, _, _ => by simp [dLcGo, chk_none]
  | x :: xs, acc, hz, h => by
    obtain ⟨ρ1, e1, e2⟩ := h x List.mem_cons_self
    rw [List.length_cons] at hz
    have ih := lc_map f xs (acc ++ [f x]) (by simp; omega) fun y hy => h y (List.mem_cons_of_mem _ hy)
    have hn : acc.length < sizeLine := by omega
    simp [dLcGo, chk_none, e1, e2, tYesD, hn, ih]
/-- nothing changes, some items are taken -/
theorem lc_filter {tg : D → DEnv → M DEnv} {tt : DEnv → M Bool} {te : DEnv → M D} {ρ : DEnv} {S : Sto} (f : D → D) (p : D → Bool) : ∀ (xs acc : List D), acc.length + xs.length ≤ sizeLine → (∀ x ∈ xs, ∃ ρ1, tg x ρ S = .ok ρ1 S ∧ tt ρ1 S = .ok (p x) S ∧ (p x = true → te ρ1 S = .ok (f x) S)) →
    dLcGo none tg tt te ρ xs acc S = .ok (acc ++ (xs.filter p).map f) S
  | [], acc, _, _ => by simp [dLcGo, chk_none]
  | x :: xs, acc, hz, h => by
    obtain ⟨ρ1, e1, e2, e3⟩ := h x List.mem_cons_self
    rw [List.length_cons] at hz
    have hn : acc.length < sizeLine := by omega
    cases hp : p x with
    | true =>
      have ih := lc_filter f p xs (acc ++ [f x]) (by simp; omega) fun y hy => h y (List.mem_cons_of_mem _ hy)
      rw [hp] at e2
      simp [dLcGo, chk_none, e1, e2, e3 hp, hn, ih, hp]
    | false =>
      have ih := lc_filter f p xs acc (by omega) fun y hy => h y (List.mem_cons_of_mem _ hy)
      rw [hp] at e2
      simp [dLcGo, chk_none, e1, e2, ih, hp]
theorem intsD_eq (n : Nat) : intsD 0 n = (List.range n).map fun i : Nat => D.int (i : Int) := by
  unfold intsD
  simp
theorem for_ev0 {tg : D → DEnv → M DEnv} {body : DEnv → M Fl} (I : Nat → DEnv → Sto → Prop) (xs : List D) (ρ : DEnv) (S : Sto) (h : I 0 ρ S)
    (step : ∀ i x ρ S, xs[i]? = some x → I i ρ S → ∃ ρ1 S1 ρ2 S2, tg x ρ S = .ok ρ1 S1 ∧ body ρ1 S1 = .ok (.nx ρ2) S2 ∧ I (i + 1) ρ2 S2) : ∃ ρ' S', dFor none tg body xs ρ S = .ok (.nx ρ') S' ∧ I xs.length ρ' S' := by
  have := for_ev (tg := tg) (body := body) I xs 0 ρ S h (fun i x ρ S hx hI => by
    rw [Nat.zero_add] at hI ⊢
    exact step i x ρ S hx hI)
  rwa [Nat.zero_add] at this
theorem lc_ev0 {tg : D → DEnv → M DEnv} {tt : DEnv → M Bool} {te : DEnv → M D} {ρ : DEnv} (I : Nat → List D → Sto → Prop) (xs : List D) (S : Sto) (h : I 0 [] S) (hz : xs.length ≤ sizeLine)
    (step : ∀ i x acc S, xs[i]? = some x → I i acc S → ∃ ρ1 S1 b S2, tg x ρ S = .ok ρ1 S1 ∧ tt ρ1 S1 = .ok b S2 ∧ (if b = true then ∃ y S3, te ρ1 S2 = .ok y S3 ∧ I (i + 1) (acc ++ [y]) S3 else I (i + 1) acc S2)) :
    ∃ ys S', dLcGo none tg tt te ρ xs [] S = .ok ys S' ∧ I xs.length ys S' := by
  have := lc_ev (tg := tg) (tt := tt) (te := te) (ρ := ρ) I xs 0 [] S h (Nat.le_refl _) (by omega) (fun i x acc S hx hI => by
    rw [Nat.zero_add] at hI ⊢
    exact step i x acc S hx hI)
  rwa [Nat.zero_add] at this
/-- the i-th of a range -/
theorem range_at {α : Type} {f : Nat → α} {n i : Nat} {x : α} (h : ((List.range n).map f)[i]? = some x) : i < n ∧ x = f i := by
  rw [List.getElem?_map] at h
  by_cases hi : i < n
  · simp [hi] at h
    exact ⟨hi, h.symm⟩
  · simp [hi] at h
theorem map_at {α β : Type} {f : α → β} {l : List α} {i : Nat} {x : β} (h : (l.map f)[i]? = some x) : ∃ a, l[i]? = some a ∧ x = f a := by
  rw [List.getElem?_map] at h
  cases e : l[i]? with
  | none => rw [e] at h; cases h
  | some a => rw [e] at h; exact ⟨a, rfl, (Option.some.inj h).symm⟩
theorem zip_map {α : Type} (f g : α → D) : ∀ l : List α, zipD (l.map f) (l.map g) = l.map fun a => .tup [f a, g a]
  | [] => rfl
  | a :: l => by
    show D.tup [f a, g a] :: zipD (l.map f) (l.map g) = _
    rw [zip_map f g l]
    rfl
/-- as lc_map, lc_filter, by what stands behind the data -/
theorem lc_mapi {ι : Type} {tg : D → DEnv → M DEnv} {te : DEnv → M D} {ρ : DEnv} {S : Sto} (s f : ι → D) : ∀ (l : List ι) (acc : List D), acc.length + l.length ≤ sizeLine → (∀ a ∈ l, ∃ ρ1, tg (s a) ρ S = .ok ρ1 S ∧ te ρ1 S = .ok (f a) S) →
    dLcGo none tg tYesD te ρ (l.map s) acc S = .ok (acc ++ l.map f) S
  | [], acc, _, _ => by simp [dLcGo, chk_none]
  | x :: xs, acc, hz, h => by
    obtain ⟨ρ1, e1, e2⟩ := h x List.mem_cons_self
    rw [List.length_cons] at hz
    have ih := lc_mapi s f xs (acc ++ [f x]) (by simp; omega) fun y hy => h y (List.mem_cons_of_mem _ hy)
    have hn : acc.length < sizeLine := by omega
    simp [dLcGo, chk_none, e1, e2, hn, ih]
theorem lc_filteri {ι : Type} {tg : D → DEnv → M DEnv} {tt : DEnv → M Bool} {te : DEnv → M D} {ρ : DEnv} {S : Sto} (s f : ι → D) (p : ι → Bool) : ∀ (l : List ι) (acc : List D), acc.length + l.length ≤ sizeLine → (∀ x ∈ l, ∃ ρ1, tg (s x) ρ S = .ok ρ1 S ∧ tt ρ1 S = .ok (p x) S ∧ (p x = true → te ρ1 S = .ok (f x) S)) →
    dLcGo none tg tt te ρ (l.map s) acc S = .ok (acc ++ (l.filter p).map f) S
  | [], acc, _, _ => by simp [dLcGo, chk_none]
  | x :: xs, acc, hz, h => by
    obtain ⟨ρ1, e1, e2, e3⟩ := h x List.mem_cons_self
    rw [List.length_cons] at hz
    have hn : acc.length < sizeLine := by omega
    cases hp : p x with
    | true =>
      have ih := lc_filteri s f p xs (acc ++ [f x]) (by simp; omega) fun y hy => h y (List.mem_cons_of_mem _ hy)
      rw [hp] at e2
      simp [dLcGo, chk_none, e1, e2, e3 hp, hn, ih, hp]
    | false =>
      have ih := lc_filteri s f p xs acc (by omega) fun y hy => h y (List.mem_cons_of_mem _ hy)
      rw [hp] at e2
      simp [dLcGo, chk_none, e1, e2, ih, hp]
theorem for_evi {ι : Type} {tg : D → DEnv → M DEnv} {body : DEnv → M Fl} (s : ι → D) (I : Nat → DEnv → Sto → Prop) (l : List ι) (ρ : DEnv) (S : Sto) (h : I 0 ρ S)
    (step : ∀ i a ρ S, l[i]? = some a → I i ρ S → ∃ ρ1 S1 ρ2 S2, tg (s a) ρ S = .ok ρ1 S1 ∧ body ρ1 S1 = .ok (.nx ρ2) S2 ∧ I (i + 1) ρ2 S2) : ∃ ρ' S', dFor none tg body (l.map s) ρ S = .ok (.nx ρ') S' ∧ I l.length ρ' S' := by
  have := for_ev0 (tg := tg) (body := body) I (l.map s) ρ S h (fun i x ρ S hx hI => by
    obtain ⟨a, ha, rfl⟩ := map_at hx
    exact step i a ρ S ha hI)
  rwa [List.length_map] at this
theorem lc_evi {ι : Type} {tg : D → DEnv → M DEnv} {tt : DEnv → M Bool} {te : DEnv → M D} {ρ : DEnv} (s : ι → D) (I : Nat → List D → Sto → Prop) (l : List ι) (S : Sto) (h : I 0 [] S) (hz : l.length ≤ sizeLine)
    (step : ∀ i a acc S, l[i]? = some a → I i acc S → ∃ ρ1 S1 b S2, tg (s a) ρ S = .ok ρ1 S1 ∧ tt ρ1 S1 = .ok b S2 ∧ (if b = true then ∃ y S3, te ρ1 S2 = .ok y S3 ∧ I (i + 1) (acc ++ [y]) S3 else I (i + 1) acc S2)) :
    ∃ ys S', dLcGo none tg tt te ρ (l.map s) [] S = .ok ys S' ∧ I l.length ys S' := by
  have := lc_ev0 (tg := tg) (tt := tt) (te := te) (ρ := ρ) I (l.map s) S h (by simpa using hz) (fun i x acc S hx hI => by
    obtain ⟨a, ha, rfl⟩ := map_at hx
    exact step i a acc S ha hI)
  rwa [List.length_map] at this
theorem range_get {n i a : Nat} (h : (List.range n)[i]? = some a) : i < n ∧ a = i := by
  obtain ⟨h1, h2⟩ := List.getElem?_eq_some_iff.mp h
  simp at h1 h2
  exact ⟨h1, h2.symm⟩
end DD

/-! M1b: pln data is equal as it is -/
namespace DD
open PySem PySem.Spec PyProof.Rows L2
mutual
def pd : D → PyData
  | .non => .none
  | .bl b => .bool b
  | .int i => .int i
  | .str x => .str x
  | .tup xs => .tuple (pds xs)
  | .lst xs => .list (pds xs)
  | .rol xs => .list (pds xs)
  | .obj _ _ => .none
  | .cell _ => .none
  | .ty _ => .none
  | .cls _ => .none
  | .exn _ _ => .none
def pds : List D → List PyData
  | [] => []
  | x :: xs => pd x :: pds xs
end
def pln : Nat → D → Bool
  | 0, _ => false
  | _ + 1, .non => true
  | _ + 1, .int _ => true
  | _ + 1, .str x => x.cps.all (· < 0x110000)
  | n + 1, .tup xs => xs.all (pln n)
  | n + 1, .lst xs => xs.all (pln n)
  | _ + 1, _ => false
theorem toPs_all {f : D → Option PyData} : ∀ {xs : List D}, (∀ x ∈ xs, f x = some (pd x)) → toPs f xs = some (pds xs)
  | [], _ => rfl
  | x :: xs, h => by
    show (f x).bind (fun p => (toPs f xs).map (p :: ·)) = _
    rw [h x List.mem_cons_self, toPs_all fun y hy => h y (List.mem_cons_of_mem _ hy)]
    rfl
theorem toP_plain {S : Sto} : ∀ (n : Nat) (d : D), pln n d = true → toP S n d = some (pd d)
  | 0, _, h => by simp [pln] at h
  | n + 1, d, h => by
    cases d with
    | tup xs =>
      simp only [pln, List.all_eq_true] at h
      show (toPs (toP S n) xs).map PyData.tuple = _
      rw [toPs_all fun x hx => toP_plain n x (h x hx)]
      rfl
    | lst xs =>
      simp only [pln, List.all_eq_true] at h
      show (toPs (toP S n) xs).map PyData.list = _
      rw [toPs_all fun x hx => toP_plain n x (h x hx)]
      rfl
    | non => rfl
    | int i => rfl
    | str x => rfl
    | _ => simp [pln] at h
theorem lay_all : ∀ {xs : List D}, (∀ x ∈ xs, PyData.canLay0 (pd x) = true) → PyData.canLayAll0 (pds xs) = true
  | [], _ => by simp [pds, PyData.canLayAll0]
  | x :: xs, h => by
    rw [pds, PyData.canLayAll0, h x List.mem_cons_self, lay_all fun y hy => h y (List.mem_cons_of_mem _ hy)]
    rfl
theorem lay_plain : ∀ (n : Nat) (d : D), pln n d = true → PyData.canLay0 (pd d) = true
  | 0, _, h => by simp [pln] at h
  | n + 1, d, h => by
    cases d with
    | tup xs =>
      simp only [pln, List.all_eq_true] at h
      simpa [pd, PyData.canLay0] using lay_all fun x hx => lay_plain n x (h x hx)
    | lst xs =>
      simp only [pln, List.all_eq_true] at h
      simpa [pd, PyData.canLay0] using lay_all fun x hx => lay_plain n x (h x hx)
    | non => simp [pd, PyData.canLay0]
    | int i => simp [pd, PyData.canLay0]
    | str x => simpa [pd, PyData.canLay0, PyData.strOk, pln] using h
    | _ => simp [pln] at h
theorem depth_all {n : Nat} : ∀ {xs : List D}, (∀ x ∈ xs, PyData.depth (pd x) ≤ n) → PyData.depthAll (pds xs) ≤ n
  | [], _ => by simp [pds, PyData.depthAll]
  | x :: xs, h => by
    have h1 := h x List.mem_cons_self
    have h2 := depth_all (n := n) fun y hy => h y (List.mem_cons_of_mem _ hy)
    simp only [pds, PyData.depthAll]
    omega
theorem depth_plain : ∀ (n : Nat) (d : D), pln n d = true → PyData.depth (pd d) ≤ n
  | 0, _, h => by simp [pln] at h
  | n + 1, d, h => by
    cases d with
    | tup xs =>
      simp only [pln, List.all_eq_true] at h
      have := depth_all fun x hx => depth_plain n x (h x hx)
      simp only [pd, PyData.depth]
      omega
    | lst xs =>
      simp only [pln, List.all_eq_true] at h
      have := depth_all fun x hx => depth_plain n x (h x hx)
      simp only [pd, PyData.depth]
      omega
    | non => simp [pd, PyData.depth]
    | int i => simp [pd, PyData.depth]
    | str x => simp [pd, PyData.depth]
    | _ => simp [pln] at h
theorem shaped_plain {n : Nat} {d : D} (hn : n ≤ 64) (h : pln n d = true) : SeqAt.shaped (pd d) = true := by
  unfold SeqAt.shaped
  rw [lay_plain n d h, decide_eq_true (Nat.le_trans (depth_plain n d h) hn)]
  rfl
theorem eqv_all : ∀ {xs ys : List D}, (∀ x ∈ xs, ∀ y ∈ ys, (PyData.eqv (pd x) (pd y) = true ↔ x = y)) → (PyData.eqvAll (pds xs) (pds ys) = true ↔ xs = ys)
  | [], [], _ => by simp [pds, PyData.eqvAll]
  | [], y :: ys, _ => by simp [pds, PyData.eqvAll]
  | x :: xs, [], _ => by simp [pds, PyData.eqvAll]
  | x :: xs, y :: ys, h => by
    have h1 := h x List.mem_cons_self y List.mem_cons_self
    have h2 := eqv_all (xs := xs) (ys := ys) fun a ha b hb => h a (List.mem_cons_of_mem _ ha) b (List.mem_cons_of_mem _ hb)
    simp only [pds, PyData.eqvAll, Bool.and_eq_true, h1, h2, List.cons.injEq]
theorem eqv_plain : ∀ (n : Nat) (d e : D), pln n d = true → pln n e = true → (PyData.eqv (pd d) (pd e) = true ↔ d = e)
  | 0, _, _, h, _ => by simp [pln] at h
  | n + 1, d, e, h, h' => by
    cases d <;> cases e <;> first
      | (simp [pln] at h; done)
      | (simp [pln] at h'; done)
      | (simp only [pln, List.all_eq_true] at h h'
         have := eqv_all fun x hx y hy => eqv_plain n x y (h x hx) (h' y hy)
         simpa [pd, PyData.eqv] using this)
      | simp [pd, PyData.eqv]
theorem eq_plain {n : Nat} {neg : Bool} {x y : D} {S : Sto} (hn : n ≤ 64) (hx : pln n x = true) (hy : pln n y = true) : dEq neg x y S = .ok (.bl (if neg then !PyData.eqv (pd x) (pd y) else PyData.eqv (pd x) (pd y))) S := by
  have mono : ∀ (n : Nat) (d : D), pln n d = true → ∀ m, n ≤ m → pln m d = true := fun n => by
    induction n with
    | zero => intro d h; simp [pln] at h
    | succ n ih =>
      intro d h m hm
      obtain ⟨m, rfl⟩ : ∃ k, m = k + 1 := ⟨m - 1, by omega⟩
      cases d <;> first
        | (simp [pln] at h; done)
        | (simp only [pln, List.all_eq_true] at h ⊢
           exact fun x hx => ih x (h x hx) m (by omega))
        | simpa [pln] using h
  have h1 := toP_plain (S := S) 70 x (mono n x hx 70 (by omega))
  have h2 := toP_plain (S := S) 70 y (mono n y hy 70 (by omega))
  simp [dEq, h1, h2, shaped_plain hn hx, shaped_plain hn hy]
theorem eq_t {n : Nat} {neg : Bool} {x y : D} {S : Sto} (hn : n ≤ 64) (hx : pln n x = true) (hy : pln n y = true) (e : x = y) : dEq neg x y S = .ok (.bl !neg) S := by
  rw [eq_plain hn hx hy, (eqv_plain n x y hx hy).mpr e]
  cases neg <;> rfl
theorem eq_f {n : Nat} {neg : Bool} {x y : D} {S : Sto} (hn : n ≤ 64) (hx : pln n x = true) (hy : pln n y = true) (e : x ≠ y) : dEq neg x y S = .ok (.bl neg) S := by
  have : PyData.eqv (pd x) (pd y) = false := Bool.eq_false_iff.mpr fun h => e ((eqv_plain n x y hx hy).mp h)
  rw [eq_plain hn hx hy, this]
  cases neg <;> rfl
@[simp] theorem eq_int {neg : Bool} {i j : Int} {S : Sto} : dEq neg (.int i) (.int j) S = .ok (.bl (decide (i = j) != neg)) S := by
  by_cases h : i = j
  · rw [eq_t (n := 1) (by decide) rfl rfl (by rw [h])]
    simp [h]
  · rw [eq_f (n := 1) (by decide) rfl rfl (by simpa using h)]
    simp [h]
theorem eq_str {neg : Bool} {x y : Str} {S : Sto} (hx : x.cps.all (· < 0x110000) = true) (hy : y.cps.all (· < 0x110000) = true) : dEq neg (.str x) (.str y) S = .ok (.bl (decide (x = y) != neg)) S := by
  by_cases h : x = y
  · rw [eq_t (n := 1) (x := .str x) (y := .str y) (by decide) hx hy (by rw [h])]
    simp [h]
  · rw [eq_f (n := 1) (x := .str x) (y := .str y) (by decide) hx hy (by simpa using h)]
    simp [h]
/-! ### in -/
theorem pds_any : ∀ {xs : List D} {p : PyData}, (pds xs).any (fun z => PyData.eqv z p) = xs.any fun z => PyData.eqv (pd z) p
  | [], _ => rfl
  | x :: xs, p => by rw [pds, List.any_cons, List.any_cons, pds_any]
theorem plain_mono : ∀ (n : Nat) (d : D), pln n d = true → ∀ m, n ≤ m → pln m d = true := fun n => by
    induction n with
    | zero => intro d h; simp [pln] at h
    | succ n ih =>
      intro d h m hm
      obtain ⟨m, rfl⟩ : ∃ k, m = k + 1 := ⟨m - 1, by omega⟩
      cases d <;> first
        | (simp [pln] at h; done)
        | (simp only [pln, List.all_eq_true] at h ⊢
           exact fun x hx => ih x (h x hx) m (by omega))
        | simpa [pln] using h
theorem any_plain {n : Nat} {x : D} (hx : pln n x = true) : ∀ {ys : List D}, (∀ y ∈ ys, pln n y = true) → ((pds ys).any (fun z => PyData.eqv z (pd x)) = true ↔ x ∈ ys)
  | [], _ => by simp [pds]
  | y :: ys, h => by
    rw [pds, List.any_cons, Bool.or_eq_true, eqv_plain n y x (h y List.mem_cons_self) hx, any_plain hx fun z hz => h z (List.mem_cons_of_mem _ hz), List.mem_cons, eq_comm]
/-- x in ys (ys a tuple, a list, not a text) -/
theorem in_plain {n : Nat} {neg : Bool} {x c : D} {ys : List D} {S : Sto} (hn : n ≤ 63) (hx : pln n x = true) (hy : ∀ y ∈ ys, pln n y = true) (hc : seqA c S = .ok ys S) [Decidable (x ∈ ys)] : dIn neg x c S = .ok (.bl (decide (x ∈ ys) != neg)) S := by
  have h1 := toP_plain (S := S) 70 x (plain_mono n x hx 70 (by omega))
  have h2 : toPs (toP S 70) ys = some (pds ys) := toPs_all fun y hy' => toP_plain 70 y (plain_mono n y (hy y hy') 70 (by omega))
  have h3 : SeqAt.shaped (.list (pds ys)) = true := by
    have h : pln (n + 1) (.lst ys) = true := by simpa [pln] using hy
    exact shaped_plain (n := n + 1) (by omega) h
  have e : (pds ys).any (fun z => PyData.eqv z (pd x)) = decide (x ∈ ys) := by
    by_cases h : x ∈ ys
    · rw [(any_plain hx hy).mpr h, decide_eq_true h]
    · rw [Bool.eq_false_iff.mpr fun q => h ((any_plain hx hy).mp q), decide_eq_false h]
  have gen : (do
    let p ← M.get fun S => toP S 70 x
    let ys ← seqA c
    let qs ← M.get fun S => toPs (toP S 70) ys
    M.need (SeqAt.shaped p = true ∧ SeqAt.shaped (.list qs) = true)
    pure (.bl (if neg then !qs.any (fun z => PyData.eqv z p) else qs.any fun z => PyData.eqv z p)) : M D) S = .ok (.bl (decide (x ∈ ys) != neg)) S := by
    have g1 : M.get (fun S => toP S 70 x) S = .ok (pd x) S := get_some h1
    have g2 : M.get (fun S => toPs (toP S 70) ys) S = .ok (pds ys) S := get_some h2
    simp only [M.bind_run, g1, hc, g2, need_run, shaped_plain (by omega) hx, h3, and_self, if_true, e, M.pure_run]
    cases neg <;> simp
  have nostr : ∀ z, c ≠ .str z := fun z e => by
    rw [e] at hc
    cases hc
  unfold dIn
  split
  · exact absurd rfl (nostr _)
  · exact gen
end DD

namespace DD
open PySem PySem.Spec PyProof.Rows L2
theorem sTry_run {fb : DEnv → M Fl} {hs : List HdD} {ρ : DEnv} {S : Sto} : sTry fb hs ρ S = (fb ρ >>= fun fl => tryEnd hs fl) S := nr rfl
@[simp] theorem sRaise_run {c n : Nat} {fn : List Str} {fs : DEnv → M (List D)} {ρ : DEnv} {S : Sto} : sRaise c n fn fs ρ S = M.cat (fs ρ) ρ (fun ds => M.need (ds.length = n) >>= fun _ => pure (.xc c (fn.zip ds).reverse ρ)) S := nr rfl
@[simp] theorem sRaise0_run {c : Nat} {ρ : DEnv} {S : Sto} : sRaise0 c ρ S = .ok (.xc c [] ρ) S := nr rfl
@[simp] theorem finD_xc {c : Nat} {fs : List (Str × D)} {ρ : DEnv} {S : Sto} : finD (.xc c fs ρ) S = .exc c fs S := nr rfl
@[simp] theorem thenS_xc {c : Nat} {fs : List (Str × D)} {ρ : DEnv} {sb : DEnv → M Fl} {S : Sto} : thenS (.xc c fs ρ) sb S = .ok (.xc c fs ρ) S := nr rfl
@[simp] theorem dXNew_run {c n : Nat} {fn : List Str} {fs : DEnv → M (List D)} {ρ : DEnv} {S : Sto} : dXNew c n fn fs ρ S = (fs ρ >>= fun ds => M.need (ds.length = n) >>= fun _ => pure (.exn c (fn.zip ds).reverse)) S := nr rfl
@[simp] theorem dXNewK_run {c n nk : Nat} {fn : List Str} {sel : List (Bool × Nat)} {fs fk : DEnv → M (List D)} {ρ : DEnv} {S : Sto} : dXNewK c n nk fn sel fs fk ρ S = (fs ρ >>= fun ds => M.need (ds.length = n) >>= fun _ => fk ρ >>= fun es => M.need (es.length = nk) >>= fun _ => pure (.exn c (fn.zip (selG sel ds es)).reverse)) S := nr rfl
theorem xfld_run {c : Nat} {cs : List Nat} {f : Str} {fs : List (Str × D)} {d : D} {S : Sto} (h : c ∈ cs) (e : fs.lookup f = some d) : dXFld cs f (.exn c fs) S = .ok d S := by
  show (M.need (c ∈ cs) >>= fun _ => M.get fun _ => fs.lookup f : M D) S = _
  rw [need_ok h, e, getc]
theorem isx_run {T : IsTab} {U : List (Nat × String × Bool)} {c c' : Nat} {fs : List (Str × D)} {S : Sto} {b : Bool} (h : isGet T c c' = some b) : dIsX T U [.exn c fs, .cls c'] S = .ok (.bl b) S := by
  show (M.get (fun _ => isGet T c c') >>= fun b => pure (.bl b) : M D) S = _
  rw [h, bind_r, getc]
  rfl
theorem isv_run {T : IsTab} {U : List (Nat × String × Bool)} {c : Nat} {u : String} {fs : List (Str × D)} {S : Sto} {b : Bool} (h : (U.find? fun q => q.1 == c && q.2.1 == u).map (·.2.2) = some b) : dIsX T U [.exn c fs, .ty u] S = .ok (.bl b) S := by
  show (M.get (fun _ => (U.find? fun q => q.1 == c && q.2.1 == u).map (·.2.2)) >>= fun b => pure (.bl b) : M D) S = _
  rw [h, bind_r, getc]
  rfl
end DD
namespace K00
open PySem PySem.Spec PyProof.Rows L2 DD
/-- the 25 marks of an error of class c -/
def marksL (c : Nat) : List D := (List.range 25).map fun i => D.bl (decide (c = i + 2))
theorem f_marks1 {fs : List (Str × D)} {S : Sto} : F__law_marks [.exn 1 fs] S = .ok (.lst (marksL 1)) S := rfl
theorem f_marks2 {fs : List (Str × D)} {S : Sto} : F__law_marks [.exn 2 fs] S = .ok (.lst (marksL 2)) S := rfl
theorem f_marks3 {fs : List (Str × D)} {S : Sto} : F__law_marks [.exn 3 fs] S = .ok (.lst (marksL 3)) S := rfl
theorem f_marks4 {fs : List (Str × D)} {S : Sto} : F__law_marks [.exn 4 fs] S = .ok (.lst (marksL 4)) S := rfl
theorem f_marks5 {fs : List (Str × D)} {S : Sto} : F__law_marks [.exn 5 fs] S = .ok (.lst (marksL 5)) S := rfl
theorem f_marks6 {fs : List (Str × D)} {S : Sto} : F__law_marks [.exn 6 fs] S = .ok (.lst (marksL 6)) S := rfl
theorem f_marks7 {fs : List (Str × D)} {S : Sto} : F__law_marks [.exn 7 fs] S = .ok (.lst (marksL 7)) S := rfl
theorem f_marks8 {fs : List (Str × D)} {S : Sto} : F__law_marks [.exn 8 fs] S = .ok (.lst (marksL 8)) S := rfl
theorem f_marks9 {fs : List (Str × D)} {S : Sto} : F__law_marks [.exn 9 fs] S = .ok (.lst (marksL 9)) S := rfl
theorem f_marks10 {fs : List (Str × D)} {S : Sto} : F__law_marks [.exn 10 fs] S = .ok (.lst (marksL 10)) S := rfl
theorem f_marks11 {fs : List (Str × D)} {S : Sto} : F__law_marks [.exn 11 fs] S = .ok (.lst (marksL 11)) S := rfl
theorem f_marks12 {fs : List (Str × D)} {S : Sto} : F__law_marks [.exn 12 fs] S = .ok (.lst (marksL 12)) S := rfl
theorem f_marks13 {fs : List (Str × D)} {S : Sto} : F__law_marks [.exn 13 fs] S = .ok (.lst (marksL 13)) S := rfl
theorem f_marks14 {fs : List (Str × D)} {S : Sto} : F__law_marks [.exn 14 fs] S = .ok (.lst (marksL 14)) S := rfl
theorem f_marks15 {fs : List (Str × D)} {S : Sto} : F__law_marks [.exn 15 fs] S = .ok (.lst (marksL 15)) S := rfl
theorem f_marks16 {fs : List (Str × D)} {S : Sto} : F__law_marks [.exn 16 fs] S = .ok (.lst (marksL 16)) S := rfl
theorem f_marks17 {fs : List (Str × D)} {S : Sto} : F__law_marks [.exn 17 fs] S = .ok (.lst (marksL 17)) S := rfl
theorem f_marks18 {fs : List (Str × D)} {S : Sto} : F__law_marks [.exn 18 fs] S = .ok (.lst (marksL 18)) S := rfl
theorem f_marks19 {fs : List (Str × D)} {S : Sto} : F__law_marks [.exn 19 fs] S = .ok (.lst (marksL 19)) S := rfl
theorem f_marks20 {fs : List (Str × D)} {S : Sto} : F__law_marks [.exn 20 fs] S = .ok (.lst (marksL 20)) S := rfl
theorem f_marks21 {fs : List (Str × D)} {S : Sto} : F__law_marks [.exn 21 fs] S = .ok (.lst (marksL 21)) S := rfl
theorem f_marks22 {fs : List (Str × D)} {S : Sto} : F__law_marks [.exn 22 fs] S = .ok (.lst (marksL 22)) S := rfl
theorem f_marks23 {fs : List (Str × D)} {S : Sto} : F__law_marks [.exn 23 fs] S = .ok (.lst (marksL 23)) S := rfl
theorem f_marks24 {fs : List (Str × D)} {S : Sto} : F__law_marks [.exn 24 fs] S = .ok (.lst (marksL 24)) S := rfl
theorem f_marks25 {fs : List (Str × D)} {S : Sto} : F__law_marks [.exn 25 fs] S = .ok (.lst (marksL 25)) S := rfl
theorem f_marks26 {fs : List (Str × D)} {S : Sto} : F__law_marks [.exn 26 fs] S = .ok (.lst (marksL 26)) S := rfl
theorem f_marks {c : Nat} (h1 : 1 ≤ c) (h2 : c ≤ 26) {fs : List (Str × D)} {S : Sto} : F__law_marks [.exn c fs] S = .ok (.lst (marksL c)) S := by
  match c, h1, h2 with
  | 1, _, _ => exact f_marks1
  | 2, _, _ => exact f_marks2
  | 3, _, _ => exact f_marks3
  | 4, _, _ => exact f_marks4
  | 5, _, _ => exact f_marks5
  | 6, _, _ => exact f_marks6
  | 7, _, _ => exact f_marks7
  | 8, _, _ => exact f_marks8
  | 9, _, _ => exact f_marks9
  | 10, _, _ => exact f_marks10
  | 11, _, _ => exact f_marks11
  | 12, _, _ => exact f_marks12
  | 13, _, _ => exact f_marks13
  | 14, _, _ => exact f_marks14
  | 15, _, _ => exact f_marks15
  | 16, _, _ => exact f_marks16
  | 17, _, _ => exact f_marks17
  | 18, _, _ => exact f_marks18
  | 19, _, _ => exact f_marks19
  | 20, _, _ => exact f_marks20
  | 21, _, _ => exact f_marks21
  | 22, _, _ => exact f_marks22
  | 23, _, _ => exact f_marks23
  | 24, _, _ => exact f_marks24
  | 25, _, _ => exact f_marks25
  | 26, _, _ => exact f_marks26
  | n + 27, _, h => omega
end K00

namespace K00
open PySem PySem.Spec PyProof.Rows L2 DD
def wordsL : List D := [.str ("m" : Str), .str ("A" : Str), .str ("x" : Str), .str ("" : Str), .str ("b" : Str), .str ("c" : Str), .str ("w" : Str), .str ("v" : Str)]
def keptL : List D := [.int (2), .int (0), .int (1), .int (3), .int (4), .int (5), .int (1), .int (0), .int (2), .int (1), .int (6), .int (7), .int (0), .int (9), .int (1), .int (2), .int (3), .int (4), .int (5), .int (-1), .int (6), .int (1)]
def restL : List D := [.tup [.tup [.str ("a" : Str), .str ("zero" : Str), .int (-1)]], .tup [], .tup [.int 3], .tup [.int 4, .int 5], .int 2, .str ("late" : Str), .tup [.int 1], .int 0, .str ("x" : Str), .tup []]
def ringD : D := .tup [.tup [.str ("a" : Str), .str ("zero" : Str), .int (-1)]]
noncomputable def tailF : DEnv → M Fl := (sSeq (sIf (tOrD (tVal (dOp (dEq true) (dVar 2) (dLst (aCons (dC (.str ("m" : Str))) (aCons (dC (.str ("A" : Str))) (aCons (dC (.str ("x" : Str))) (aCons (dC (.str ("" : Str))) (aCons (dC (.str ("b" : Str))) (aCons (dC (.str ("c" : Str))) (aCons (dC (.str ("w" : Str))) (aCons (dC (.str ("v" : Str))) aNil))))))))))) (tVal (dOp (dEq true) (dVar 0) (dVar 1))))
  (sRet (dC (.bl false)))
  sNext)
  (sRet (dOp (dEq false) (dVar 6) (dLst (aCons (dVar 3) (aCons (dTup aNil) (aCons (dTup (aCons (dC (.int 3)) aNil)) (aCons (dTup (aCons (dC (.int 4)) (aCons (dC (.int 5)) aNil))) (aCons (dC (.int 2)) (aCons (dC (.str ("late" : Str))) (aCons (dTup (aCons (dC (.int 1)) aNil)) (aCons (dC (.int 0)) (aCons (dC (.str ("x" : Str))) (aCons (dTup aNil) aNil))))))))))))))
theorem fields_sets {S : Sto} : ∃ e4 e5 : D, B__law_fields_right (startD 7 []) S = tailF [some (.lst keptL), some (.lst keptL), some (.lst wordsL), some ringD, some e4, some e5, some (.lst restL)] S := ⟨_, _, rfl⟩
theorem hw {S : Sto} : dEq true (.lst wordsL) (.lst wordsL) S = .ok (.bl false) S := eq_t (n := 10) (by omega) (by decide +kernel) (by decide +kernel) rfl
theorem hk {S : Sto} : dEq true (.lst keptL) (.lst keptL) S = .ok (.bl false) S := eq_t (n := 10) (by omega) (by decide +kernel) (by decide +kernel) rfl
theorem hr {S : Sto} : dEq false (.lst restL) (.lst restL) S = .ok (.bl true) S := eq_t (n := 10) (by omega) (by decide +kernel) (by decide +kernel) rfl
theorem tail_run {e4 e5 : D} {S : Sto} : tailF [some (.lst keptL), some (.lst keptL), some (.lst wordsL), some ringD, some e4, some e5, some (.lst restL)] S = .ok (.rt (.bl true)) S := by
  have l8 : (8 : Nat) ≤ sizeLine := by decide
  have l10 : (10 : Nat) ≤ sizeLine := by decide
  have l1 : (1 : Nat) ≤ sizeLine := by decide
  have l2 : (2 : Nat) ≤ sizeLine := by decide
  have l0 : (0 : Nat) ≤ sizeLine := by decide
  have w : dLst (aCons (dC (.str ("m" : Str))) (aCons (dC (.str ("A" : Str))) (aCons (dC (.str ("x" : Str))) (aCons (dC (.str ("" : Str))) (aCons (dC (.str ("b" : Str))) (aCons (dC (.str ("c" : Str))) (aCons (dC (.str ("w" : Str))) (aCons (dC (.str ("v" : Str))) aNil)))))))) [some (.lst keptL), some (.lst keptL), some (.lst wordsL), some ringD, some e4, some e5, some (.lst restL)] S = .ok (.lst wordsL) S := rfl
  have hr' := hr (S := S)
  unfold restL at hr'
  simp [tailF, -dLst_run, w, hw, hk]
  simp [l1, l2, l0, l10, restL, ringD, hr']
theorem f_fields {S : Sto} : F__law_fields_right [] S = .ok (.bl true) S := by
  obtain ⟨e4, e5, h⟩ := fields_sets (S := S)
  exact runF_run (h.trans tail_run)
end K00

namespace K00
open PySem PySem.Spec PyProof.Rows L2 DD
theorem sl1000' : (1000 : Nat) ≤ sizeLine := by decide
theorem le_line' {n : Nat} (h : n ≤ 1000) : n ≤ sizeLine := Nat.le_trans h sl1000'
theorem isa_str {x : Str} {S : Sto} : dIsa [.str x, .ty "str"] S = .ok (.bl true) S := by simp [dIsa, tyOfM, tyOf, isaT]
theorem unBls_true {α : Type} : ∀ l : List α, unBls (l.map fun _ => D.bl true) = some (l.map fun _ => true)
  | [] => rfl
  | a :: l => by
    show (unBls (l.map fun _ => D.bl true)).map (true :: ·) = _
    rw [unBls_true l]
    rfl
def sA : Str := ("a" : Str)
def sZ : Str := ("zero" : Str)
theorem a_list : sA.cps.toList = [97] := by decide +kernel
theorem z_list : sZ.cps.toList = [122, 101, 114, 111] := by decide +kernel
theorem occ_let : ∀ c ∈ [97, 122, 101, 114, 111], (Builtin.Str.occurrences ("abcdefghijklmnopqrstuvwxyzABCDEFGHIJKLMNOPQRSTUVWXYZ" : Str) ⟨#[c]⟩ 0 ("abcdefghijklmnopqrstuvwxyzABCDEFGHIJKLMNOPQRSTUVWXYZ" : Str).length 1).isEmpty = false := by decide +kernel
theorem in_let {c : Nat} (h : c ∈ [97, 122, 101, 114, 111]) (S : Sto) : dIn false (.str ⟨#[c]⟩) (.str ("abcdefghijklmnopqrstuvwxyzABCDEFGHIJKLMNOPQRSTUVWXYZ" : Str)) S = .ok (.bl true) S := by
  show Out.ok (D.bl (if false = true then !(!(Builtin.Str.occurrences _ ⟨#[c]⟩ 0 _ 1).isEmpty) else !(Builtin.Str.occurrences _ ⟨#[c]⟩ 0 _ 1).isEmpty)) S = _
  rw [occ_let c h]
  rfl
theorem f_is_name {s : Str} (hc : ∀ c ∈ s.cps.toList, c ∈ [97, 122, 101, 114, 111]) (h1 : 1 ≤ s.length) (h8 : s.length ≤ 8) (S : Sto) : F_is_name [.str s] S = .ok (.bl true) S := by
  have ln : len1 (.str s) S = .ok (.int (s.length : Int)) S := by
    show (M.need (s.length ≤ sizeLine) >>= fun _ => pure (.int s.length) : M D) S = _
    rw [need_ok (le_line' (by omega))]
    rfl
  have lc := lc_mapi (tg := gSet 1) (te := E_is_name_1) (ρ := [some (.str s), none]) (S := S) (fun c : Nat => D.str ⟨#[c]⟩) (fun _ => D.bl true) s.cps.toList [] (le_line' (by
      show 0 + s.cps.toList.length ≤ 1000
      have : s.cps.toList.length = s.length := by simp [Str.length]
      omega)) (by
    intro c hcc
    exact ⟨_, rfl, by simp [E_is_name_1, in_let (hc c hcc) S]⟩)
  rw [List.nil_append] at lc
  have c1 : 0 < s.length := by omega
  have c2 : (s.length : Int) ≤ 8 := by omega
  have gt : M.get (fun _ => unBls (s.cps.toList.map fun _ => D.bl true)) S = .ok (s.cps.toList.map fun _ => true) S := get_some (unBls_true _)
  have at' : dAll [.lst (s.cps.toList.map fun _ => D.bl true)] S = .ok (.bl true) S := by
    show (M.get (fun _ => unBls (s.cps.toList.map fun _ => D.bl true)) >>= fun ns => pure (.bl (ns.all id)) : M D) S = _
    rw [M.bind_run, gt]
    simp
  have sg : signsD s = s.cps.toList.map fun c : Nat => D.str ⟨#[c]⟩ := rfl
  simp [F_is_name, B_is_name, isa_str, ln, c1, c2, sg, lc, at', wipeD]
theorem name_a (S : Sto) : F_is_name [.str sA] S = .ok (.bl true) S := f_is_name (by rw [a_list]; decide) (by decide +kernel) (by decide +kernel) S
theorem nmZ (S : Sto) : F_is_name [.str sZ] S = .ok (.bl true) S := f_is_name (by rw [z_list]; decide) (by decide +kernel) (by decide +kernel) S
def badS : D := .tup [.str sA, .str sZ]
theorem okA : sA.cps.all (· < 0x110000) = true := by decide +kernel
theorem okZ : sZ.cps.all (· < 0x110000) = true := by decide +kernel
theorem neAZ : sA ≠ sZ := fun h => by
  have := congrArg (fun s : Str => s.cps.toList) h
  simp only [a_list, z_list] at this
  cases this
theorem mark0 (S : Sto) : F_is_mark_at [badS, .int 0] S = .ok (.bl true) S := by
  classical
  have ix : dIx badS (.int 0) S = .ok (.str sA) S := ix_tup (i := 0) rfl
  have ez : dEq true (.str sA) (.str ("zero" : Str)) S = .ok (.bl true) S := by
    have := eq_str (neg := true) (S := S) okA okZ
    rw [decide_eq_false neAZ] at this
    exact this
  have sl : dSlice badS none (some (0 : Int)) S = .ok (.tup []) S := rfl
  have di : dIn true (.str sA) (.tup []) S = .ok (.bl true) S := by
    rw [in_plain (n := 1) (x := .str sA) (ys := []) (by decide) okA (fun y hy => by cases hy) rfl]
    simp
  have os : ∀ (ρ : DEnv), ρ[1]? = some (some (.int 0)) → oSome (dVar 1) ρ S = .ok (some (0 : Int)) S := fun ρ hρ => oSome_int (by simp [hρ])
  simp [F_is_mark_at, B_is_mark_at, ix, name_a, ez, os, sl, di]
theorem mark1 (S : Sto) : F_is_mark_at [badS, .int 1] S = .ok (.bl false) S := by
  have ix : dIx badS (.int 1) S = .ok (.str sZ) S := ix_tup (i := 1) rfl
  have ez : dEq true (.str sZ) (.str ("zero" : Str)) S = .ok (.bl false) S := by
    have := eq_str (neg := true) (S := S) okZ okZ
    rw [decide_eq_true rfl] at this
    exact this
  simp [F_is_mark_at, B_is_mark_at, ix, nmZ, ez]
theorem check_bad (S : Sto) : F_check_sheet [badS, .tup [], .tup []] S = .exc 6 [("index", .int 1)] S := by
  have ln : len1 badS S = .ok (.int 2) S := rfl
  have rn := rng1_run (n := 2) (S := S) (by omega)
  have rn' : rng1 [.int 2] S = .ok ([.int 0, .int 1], none) S := rn
  have m0 := mark0 S
  have m1 := mark1 S
  simp [F_check_sheet, B_check_sheet, ln, rn', dFor, chk_none, L_check_sheet_1, m0, m1, loopS]
theorem make_bad (S : Sto) : dMake 0 true 2 MF_Sheet_2 (aCons (dTup (aCons (dC (.str ("a" : Str))) (aCons (dC (.str ("zero" : Str))) aNil))) (aCons (dTup aNil) aNil)) = dMake 0 true 2 MF_Sheet_2 (aCons (dTup (aCons (dC (.str ("a" : Str))) (aCons (dC (.str ("zero" : Str))) aNil))) (aCons (dTup aNil) aNil)) := rfl
theorem init_bad (x : D) (S : Sto) : MF_Sheet_2 [x, badS, .tup []] S = .exc 6 [("index", .int 1)] S := by
  have ck := check_bad S
  simp [MF_Sheet_2, F_Sheet___init__, B_Sheet___init__, ck]
theorem kept_make (ρ : DEnv) (S : Sto) : ∃ S', dMake 0 true 2 MF_Sheet_2 (aCons (dTup (aCons (dC (.str ("a" : Str))) (aCons (dC (.str ("zero" : Str))) aNil))) (aCons (dTup aNil) aNil)) ρ S = .exc 6 [("index", .int 1)] S' := by
  have l2 : (2 : Nat) ≤ sizeLine := le_line' (by omega)
  have l0 : (0 : Nat) ≤ sizeLine := le_line' (by omega)
  have ib := init_bad (.cell S.length) (S ++ [some (.obj 0 [])])
  unfold badS sA sZ at ib
  refine ⟨S ++ [some (.obj 0 [])], ?_⟩
  unfold dMake
  simp [l2, l0, makeD, newIns, ib]
end K00

namespace K00
open PySem PySem.Spec PyProof.Rows L2 DD
theorem f_way0 {S : Sto} : F__law_way_right [.int 0, .int 25] S = .ok (.bl true) S := rfl
theorem f_way1 {S : Sto} : F__law_way_right [.int 1, .int 25] S = .ok (.bl true) S := rfl
theorem f_way2 {S : Sto} : F__law_way_right [.int 2, .int 25] S = .ok (.bl true) S := rfl
theorem f_way3 {S : Sto} : F__law_way_right [.int 3, .int 25] S = .ok (.bl true) S := rfl
theorem f_way4 {S : Sto} : F__law_way_right [.int 4, .int 25] S = .ok (.bl true) S := rfl
theorem f_way5 {S : Sto} : F__law_way_right [.int 5, .int 25] S = .ok (.bl true) S := rfl
theorem f_way6 {S : Sto} : F__law_way_right [.int 6, .int 25] S = .ok (.bl true) S := rfl
theorem f_way7 {S : Sto} : F__law_way_right [.int 7, .int 25] S = .ok (.bl true) S := rfl
theorem f_way8 {S : Sto} : F__law_way_right [.int 8, .int 25] S = .ok (.bl true) S := rfl
theorem f_way9 {S : Sto} : F__law_way_right [.int 9, .int 25] S = .ok (.bl true) S := rfl
theorem f_way10 {S : Sto} : F__law_way_right [.int 10, .int 25] S = .ok (.bl true) S := rfl
theorem f_way11 {S : Sto} : F__law_way_right [.int 11, .int 25] S = .ok (.bl true) S := rfl
theorem f_way12 {S : Sto} : F__law_way_right [.int 12, .int 25] S = .ok (.bl true) S := rfl
theorem f_way13 {S : Sto} : F__law_way_right [.int 13, .int 25] S = .ok (.bl true) S := rfl
theorem f_way14 {S : Sto} : F__law_way_right [.int 14, .int 25] S = .ok (.bl true) S := rfl
theorem f_way15 {S : Sto} : F__law_way_right [.int 15, .int 25] S = .ok (.bl true) S := rfl
theorem f_way16 {S : Sto} : F__law_way_right [.int 16, .int 25] S = .ok (.bl true) S := rfl
theorem f_way17 {S : Sto} : F__law_way_right [.int 17, .int 25] S = .ok (.bl true) S := rfl
theorem f_way18 {S : Sto} : F__law_way_right [.int 18, .int 25] S = .ok (.bl true) S := rfl
theorem f_way19 {S : Sto} : F__law_way_right [.int 19, .int 25] S = .ok (.bl true) S := rfl
theorem f_way20 {S : Sto} : F__law_way_right [.int 20, .int 25] S = .ok (.bl true) S := rfl
theorem f_way21 {S : Sto} : F__law_way_right [.int 21, .int 25] S = .ok (.bl true) S := rfl
theorem f_way22 {S : Sto} : F__law_way_right [.int 22, .int 25] S = .ok (.bl true) S := rfl
theorem f_way23 {S : Sto} : F__law_way_right [.int 23, .int 25] S = .ok (.bl true) S := rfl
theorem f_way24 {S : Sto} : F__law_way_right [.int 24, .int 25] S = .ok (.bl true) S := rfl
theorem f_way {w : Nat} (h : w < 25) {S : Sto} : F__law_way_right [.int (w : Int), .int 25] S = .ok (.bl true) S := by
  match w, h with
  | 0, _ => exact f_way0
  | 1, _ => exact f_way1
  | 2, _ => exact f_way2
  | 3, _ => exact f_way3
  | 4, _ => exact f_way4
  | 5, _ => exact f_way5
  | 6, _ => exact f_way6
  | 7, _ => exact f_way7
  | 8, _ => exact f_way8
  | 9, _ => exact f_way9
  | 10, _ => exact f_way10
  | 11, _ => exact f_way11
  | 12, _ => exact f_way12
  | 13, _ => exact f_way13
  | 14, _ => exact f_way14
  | 15, _ => exact f_way15
  | 16, _ => exact f_way16
  | 17, _ => exact f_way17
  | 18, _ => exact f_way18
  | 19, _ => exact f_way19
  | 20, _ => exact f_way20
  | 21, _ => exact f_way21
  | 22, _ => exact f_way22
  | 23, _ => exact f_way23
  | 24, _ => exact f_way24
  | n + 25, h => omega
end K00

namespace K00
open PySem PySem.Spec PyProof.Rows L2 DD
theorem eq_rol {neg : Bool} {xs : List D} {y : D} {S : Sto} : dEq neg (.rol xs) y S = dEq neg (.lst xs) y S := rfl
theorem toPs_bls {S : Sto} : ∀ bs : List Bool, toPs (toP S 69) (bs.map D.bl) = some (bs.map PyData.bool)
  | [] => rfl
  | b :: bs => by
    show (toP S 69 (.bl b)).bind (fun p => (toPs (toP S 69) (bs.map D.bl)).map (p :: ·)) = _
    rw [toPs_bls bs]
    rfl
theorem in_marks1 {S : Sto} : dIn false (.bl true) (.lst (marksL 1)) S = .ok (.bl false) S := rfl
theorem count_marks6 {S : Sto} : dCountB (.lst (marksL 6)) [.bl true] S = .ok (.int 1) S := rfl
theorem ix_marks6 {S : Sto} : dIx (.lst (marksL 6)) (.int 4) S = .ok (.bl true) S := rfl
theorem f_kept (S : Sto) : ∃ S', F__law_kept_right [] S = .ok (.bl true) S' := by
  obtain ⟨S', hm⟩ := kept_make [some (.lst (marksL 1)), some (.lst []), none] S
  refine ⟨S', ?_⟩
  have s0 : startD 3 [] = [none, none, none] := rfl
  have l1 : (1 : Nat) ≤ sizeLine := le_line' (by omega)
  have l0 : (0 : Nat) ≤ sizeLine := le_line' (by omega)
  have f1 : ∀ fs, F__law_marks [.exn 1 fs] S = .ok (.lst (marksL 1)) S := fun fs => f_marks1
  have f6 : ∀ fs, F__law_marks [.exn 6 fs] S' = .ok (.lst (marksL 6)) S' := fun fs => f_marks6
  have ff := f_fields (S := S')
  have g1 := in_marks1 (S := S')
  have g2 := count_marks6 (S := S')
  have g3 := ix_marks6 (S := S')
  have ty : ∀ xs S, isTy "list" (.lst xs) S = .ok () S := fun xs S => rfl
  simp [F__law_kept_right, B__law_kept_right, s0, l1, l0, sTry_run, tryEnd, tryGo, offD, f1, -dMake]
  rw [hm]
  simp [tryEnd, tryGo, offD, f6, g1, ff, dMt, ty, g2, g3]
theorem way_ok (w : Nat) (h : w < 25) (S : Sto) : F__law_way_right [.int (w : Int), .int 25] S = .ok (.bl true) S := f_way h
theorem math (zs : List Int) (hz : zs.length ≤ 63) (_ : ∀ z ∈ zs, Builtin.Int.intBits z ≤ 1048576) : ∃ S, F_law [.rol (zs.map D.int)] [] = .ok (.bl true) S := by
  obtain ⟨S', hk⟩ := f_kept []
  refine ⟨S', ?_⟩
  have l0 : (0 : Nat) ≤ sizeLine := le_line' (by omega)
  have s0 : startD 4 [D.rol (zs.map D.int)] = [some (.rol (zs.map D.int)), none, none, none] := rfl
  have rn := rng1_run (n := 25) (S := S') (by omega)
  have rn' : rng1 [.int 25] S' = .ok ((List.range 25).map fun i : Nat => D.int (i : Int), none) S' := rn
  have lc : ∀ w : D, dLcGo none (gSet 3) P_law_1 E_law_2 [some (.rol (zs.map D.int)), some (.int 25), some w, none] ((List.range 25).map fun i : Nat => D.int (i : Int)) [] S' = .ok (.nil) S' := fun w => by
    have := lc_filteri (tg := gSet 3) (tt := P_law_1) (te := E_law_2) (ρ := [some (.rol (zs.map D.int)), some (.int 25), some w, none]) (S := S') (fun i : Nat => D.int (i : Int)) (fun i : Nat => D.int (i : Int)) (fun _ => false) (List.range 25) [] (le_line' (by simp)) (by
      intro x hx
      have hx' : x < 25 := List.mem_range.mp hx
      have wo := way_ok x hx' S'
      exact ⟨_, rfl, by simp [P_law_1, wo], fun h => Bool.noConfusion h⟩)
    rw [this]
    simp
  have en : dEq false (.lst []) (.lst []) S' = .ok (.bl true) S' := eq_t (n := 1) (by omega) rfl rfl rfl
  have key : ∀ w : Nat, w < 25 → (dIf (tVal (dOp (dEq true) (dVar 0) (dLst aNil))) (dOp dMod (dB dInt (aCons (dOp dIx (dVar 0) (dC (.int 0))) aNil)) (dVar 1)) (dC (.int 0))) [some (.rol (zs.map D.int)), some (.int 25), none, none] [] = .ok (.int (w : Int)) [] → F_law [.rol (zs.map D.int)] [] = .ok (.bl true) S' := fun w hw h => by
    have w1 := way_ok w hw []
    unfold F_law
    rw [runF_run', bind_r, nx_run, s0]
    unfold B_law
    simp only [sSeq_run, sSet_run, bind_r, cat_run, dC_run, thenS_nx, pure_r, List.set]
    rw [h]
    simp [w1, hk, rn', lc, en, l0, wipeD]
  cases zs with
  | nil =>
    refine key 0 (by omega) ?_
    have e0 : dEq true (.rol (List.map D.int [])) (.lst []) [] = .ok (.bl false) [] := eq_rol.trans (eq_t (n := 1) (by omega) rfl rfl rfl)
    simp at e0
    simp [e0, l0]
  | cons z r =>
    have hp : ∀ x ∈ r.map D.int, pln 1 x = true := fun x hx => by
      obtain ⟨y, _, rfl⟩ := List.mem_map.mp hx
      rfl
    have e0 : dEq true (.rol ((z :: r).map D.int)) (.lst []) [] = .ok (.bl true) [] := eq_rol.trans (eq_f (n := 2) (by omega) (by
      show ((z :: r).map D.int).all (pln 1) = true
      rw [List.all_eq_true]
      intro x hx
      rw [List.map_cons] at hx
      rcases List.mem_cons.mp hx with e | e
      · rw [e]
        rfl
      · exact hp x e) rfl (fun h => by
        rw [List.map_cons] at h
        injection h with h
        cases h))
    have ix : dIx (.rol ((z :: r).map D.int)) (.int 0) [] = .ok (.int z) [] := by
      show M.get (fun _ => atI ((z :: r).map D.int) ((0 : Nat) : Int)) [] = _
      exact get_some (atI_nat (i := 0) rfl)
    have md : dMod (.int z) (.int 25) [] = .ok (.int (z % 25)) [] := rfl
    have h0 := Int.emod_nonneg z (show (25 : Int) ≠ 0 by decide)
    have h1 := Int.emod_lt_of_pos z (show (0 : Int) < 25 by decide)
    have hn : (((z % 25).toNat : Nat) : Int) = z % 25 := Int.toNat_of_nonneg h0
    refine key (z % 25).toNat (by omega) ?_
    rw [hn]
    rw [List.map_cons] at e0 ix ⊢
    have it : int1 (.int z) ([] : Sto) = .ok (.int z) [] := rfl
    simp [e0, ix, l0, it, md]
end K00

namespace K00
open PySem PySem.Spec PyProof.Rows L2 DD
theorem room65 {k : Nat} {A : Around} (r : Room k A) : A.units + 65 < cLine := by
  have := r.un
  omega
def top (i : Nat) : Stmt := PySem.Challenge.pw_unknowntakes_k00_error_classes.main.body.getD i (.Pass ⟨0, 0, 0, 0⟩)
def st_BadDeed___init__ : Stmt := (inClass (top 35) 0)
def st_BadEdit___init__ : Stmt := (inClass (top 20) 0)
def st_BadFact___init__ : Stmt := (inClass (top 14) 0)
def st_BadFault___init__ : Stmt := (inClass (top 27) 0)
def st_BadMarks___init__ : Stmt := (inClass (top 12) 0)
def st_BadPlace___init__ : Stmt := (inClass (top 22) 0)
def st_BadStep___init__ : Stmt := (inClass (top 21) 0)
def st_BadTakes___init__ : Stmt := (inClass (top 13) 0)
def st_BadText___init__ : Stmt := (inClass (top 23) 0)
def st_BadTracks___init__ : Stmt := (inClass (top 19) 0)
def st_BadTree___init__ : Stmt := (inClass (top 30) 0)
def st_Contradiction___init__ : Stmt := (inClass (top 15) 0)
def st_CouldGoWrong___init__ : Stmt := (inClass (top 36) 0)
def st_NameTaken___init__ : Stmt := (inClass (top 31) 0)
def st_NoBranch___init__ : Stmt := (inClass (top 32) 0)
def st_NoWatch___init__ : Stmt := (inClass (top 33) 0)
def st_NotSure___init__ : Stmt := (inClass (top 29) 0)
def st_UnknownName___init__ : Stmt := (inClass (top 16) 0)
def st__law_raised_more : Stmt := (top 73)
def st__law_raised_one : Stmt := (top 72)
def st__law_marks : Stmt := (top 74)
def st__law_way_right : Stmt := (top 75)
def st_is_name : Stmt := (top 48)
def st_is_mark_at : Stmt := (top 49)
def st_is_integer : Stmt := (top 47)
def st_is_fact : Stmt := (top 50)
def st_check_sheet : Stmt := (top 58)
def st_is_less : Stmt := (top 5)
def st_summed : Stmt := (top 3)
def st_lesser : Stmt := (top 4)
def st_narrowed : Stmt := (top 7)
def st_narrowed_by : Stmt := (top 8)
def st_open_bounds : Stmt := (top 6)
def st_number_of : Stmt := (top 51)
def st_numbered : Stmt := (top 52)
def st_first_ways : Stmt := (top 53)
def st_way_sum : Stmt := (top 54)
def st_better_way : Stmt := (top 55)
def st_joined_way : Stmt := (top 56)
def st_ways_by : Stmt := (top 57)
def st_Sheet___init__ : Stmt := (inClass (top 68) 0)
def st__law_fields_right : Stmt := (top 77)
def st__law_kept_right : Stmt := (top 76)
def st_law : Stmt := (top 78)
structure Txt (K : PySem.W.Frag) (mg : Str → Option Value) (ca : Nat → Addr) : Prop where
  z_ValueError : mg ("ValueError" : Str) = none
  z_all : mg ("all" : Str) = none
  z_bool : mg ("bool" : Str) = none
  z_enumerate : mg ("enumerate" : Str) = none
  z_int : mg ("int" : Str) = none
  z_isinstance : mg ("isinstance" : Str) = none
  z_len : mg ("len" : Str) = none
  z_min : mg ("min" : Str) = none
  z_range : mg ("range" : Str) = none
  z_str : mg ("str" : Str) = none
  z_sum : mg ("sum" : Str) = none
  z_tuple : mg ("tuple" : Str) = none
  z_zip : mg ("zip" : Str) = none
  c_LETTERS : Cst mg ("LETTERS" : Str) (.str ("abcdefghijklmnopqrstuvwxyzABCDEFGHIJKLMNOPQRSTUVWXYZ" : Str))
  c_LONGEST : Cst mg ("LONGEST" : Str) (.int (8))
  c_NOUGHT : Cst mg ("NOUGHT" : Str) (.str ("zero" : Str))
  c_ZERO : Cst mg ("ZERO" : Str) (.int (0))
  d__law_raised_more : Def K mg ("_law_raised_more" : Str) st__law_raised_more [("way" : Str)]
  d__law_raised_one : Def K mg ("_law_raised_one" : Str) st__law_raised_one [("way" : Str)]
  d__law_marks : Def K mg ("_law_marks" : Str) st__law_marks [("e" : Str)]
  d__law_way_right : Def K mg ("_law_way_right" : Str) st__law_way_right [("way" : Str), ("many" : Str)]
  d_is_name : Def K mg ("is_name" : Str) st_is_name [("value" : Str)]
  d_is_mark_at : Def K mg ("is_mark_at" : Str) st_is_mark_at [("marks" : Str), ("index" : Str)]
  d_is_integer : Def K mg ("is_integer" : Str) st_is_integer [("value" : Str)]
  d_is_fact : Def K mg ("is_fact" : Str) st_is_fact [("nodes" : Str), ("value" : Str)]
  d_check_sheet : Def K mg ("check_sheet" : Str) st_check_sheet [("marks" : Str), ("takes" : Str), ("facts" : Str)]
  d_is_less : Def K mg ("is_less" : Str) st_is_less [("first" : Str), ("second" : Str)]
  d_summed : Def K mg ("summed" : Str) st_summed [("first" : Str), ("second" : Str)]
  d_lesser : Def K mg ("lesser" : Str) st_lesser [("first" : Str), ("second" : Str)]
  d_narrowed : Def K mg ("narrowed" : Str) st_narrowed [("bounds" : Str), ("x" : Str), ("y" : Str), ("number" : Str)]
  d_narrowed_by : Def K mg ("narrowed_by" : Str) st_narrowed_by [("bounds" : Str), ("facts" : Str)]
  d_open_bounds : Def K mg ("open_bounds" : Str) st_open_bounds [("many" : Str)]
  d_number_of : Def K mg ("number_of" : Str) st_number_of [("nodes" : Str), ("name" : Str)]
  d_numbered : Def K mg ("numbered" : Str) st_numbered [("nodes" : Str), ("facts" : Str)]
  d_first_ways : Def K mg ("first_ways" : Str) st_first_ways [("nodes" : Str)]
  d_way_sum : Def K mg ("way_sum" : Str) st_way_sum [("way" : Str)]
  d_better_way : Def K mg ("better_way" : Str) st_better_way [("old" : Str), ("new" : Str)]
  d_joined_way : Def K mg ("joined_way" : Str) st_joined_way [("ahead" : Str), ("fact" : Str), ("behind" : Str)]
  d_ways_by : Def K mg ("ways_by" : Str) st_ways_by [("nodes" : Str), ("facts" : Str)]
  i_Sheet_3 : DefI K mg ca 0 ("Sheet" : Str) ("Sheet.__init__" : Str) st_Sheet___init__ [("self" : Str), ("marks" : Str), ("takes" : Str), ("facts" : Str)] []
  i_Sheet_2 : DefI K mg ca 0 ("Sheet" : Str) ("Sheet.__init__" : Str) st_Sheet___init__ [("self" : Str), ("marks" : Str), ("takes" : Str), ("facts" : Str)] [.tup []]
  d__law_fields_right : Def K mg ("_law_fields_right" : Str) st__law_fields_right []
  d__law_kept_right : Def K mg ("_law_kept_right" : Str) st__law_kept_right []
  d_law : Def K mg ("law" : Str) st_law [("script" : Str)]
  c_BadDeed : Cst mg ("BadDeed" : Str) (.ref (ca 2))
  c_BadEdit : Cst mg ("BadEdit" : Str) (.ref (ca 3))
  c_BadFact : Cst mg ("BadFact" : Str) (.ref (ca 4))
  c_BadFault : Cst mg ("BadFault" : Str) (.ref (ca 5))
  c_BadMarks : Cst mg ("BadMarks" : Str) (.ref (ca 6))
  c_BadNumbers : Cst mg ("BadNumbers" : Str) (.ref (ca 7))
  c_BadPairs : Cst mg ("BadPairs" : Str) (.ref (ca 8))
  c_BadPlace : Cst mg ("BadPlace" : Str) (.ref (ca 9))
  c_BadStep : Cst mg ("BadStep" : Str) (.ref (ca 10))
  c_BadTakes : Cst mg ("BadTakes" : Str) (.ref (ca 11))
  c_BadText : Cst mg ("BadText" : Str) (.ref (ca 12))
  c_BadTracks : Cst mg ("BadTracks" : Str) (.ref (ca 13))
  c_BadTree : Cst mg ("BadTree" : Str) (.ref (ca 14))
  c_Contradiction : Cst mg ("Contradiction" : Str) (.ref (ca 15))
  c_CouldGoWrong : Cst mg ("CouldGoWrong" : Str) (.ref (ca 16))
  c_NameTaken : Cst mg ("NameTaken" : Str) (.ref (ca 17))
  c_NoBranch : Cst mg ("NoBranch" : Str) (.ref (ca 18))
  c_NoShape : Cst mg ("NoShape" : Str) (.ref (ca 19))
  c_NoWatch : Cst mg ("NoWatch" : Str) (.ref (ca 20))
  c_NotRecording : Cst mg ("NotRecording" : Str) (.ref (ca 21))
  c_NotSure : Cst mg ("NotSure" : Str) (.ref (ca 22))
  c_NothingToUndo : Cst mg ("NothingToUndo" : Str) (.ref (ca 23))
  c_TakesError : Cst mg ("TakesError" : Str) (.ref (ca 1))
  c_UnknownName : Cst mg ("UnknownName" : Str) (.ref (ca 24))
  c_UnlikeMarks : Cst mg ("UnlikeMarks" : Str) (.ref (ca 25))
  c_UnlikeTracks : Cst mg ("UnlikeTracks" : Str) (.ref (ca 26))
  m0_BadNumbers : XMak0 K mg ca ("BadNumbers" : Str) 7
  m0_BadPairs : XMak0 K mg ca ("BadPairs" : Str) 8
  m0_NoShape : XMak0 K mg ca ("NoShape" : Str) 19
  m0_NotRecording : XMak0 K mg ca ("NotRecording" : Str) 21
  m0_NothingToUndo : XMak0 K mg ca ("NothingToUndo" : Str) 23
  m0_TakesError : XMak0 K mg ca ("TakesError" : Str) 1
  m0_UnlikeMarks : XMak0 K mg ca ("UnlikeMarks" : Str) 25
  m0_UnlikeTracks : XMak0 K mg ca ("UnlikeTracks" : Str) 26
  i_BadDeed : DefX K ca 2 ("BadDeed.__init__" : Str) st_BadDeed___init__ [("self" : Str), ("index" : Str)]
  i_BadEdit : DefX K ca 3 ("BadEdit.__init__" : Str) st_BadEdit___init__ [("self" : Str), ("step" : Str)]
  i_BadFact : DefX K ca 4 ("BadFact.__init__" : Str) st_BadFact___init__ [("self" : Str), ("index" : Str)]
  i_BadFault : DefX K ca 5 ("BadFault.__init__" : Str) st_BadFault___init__ [("self" : Str), ("index" : Str)]
  i_BadMarks : DefX K ca 6 ("BadMarks.__init__" : Str) st_BadMarks___init__ [("self" : Str), ("index" : Str)]
  i_BadPlace : DefX K ca 9 ("BadPlace.__init__" : Str) st_BadPlace___init__ [("self" : Str), ("index" : Str)]
  i_BadStep : DefX K ca 10 ("BadStep.__init__" : Str) st_BadStep___init__ [("self" : Str), ("step" : Str)]
  i_BadTakes : DefX K ca 11 ("BadTakes.__init__" : Str) st_BadTakes___init__ [("self" : Str), ("index" : Str)]
  i_BadText : DefX K ca 12 ("BadText.__init__" : Str) st_BadText___init__ [("self" : Str), ("line" : Str)]
  i_BadTracks : DefX K ca 13 ("BadTracks.__init__" : Str) st_BadTracks___init__ [("self" : Str), ("index" : Str)]
  i_BadTree : DefX K ca 14 ("BadTree.__init__" : Str) st_BadTree___init__ [("self" : Str), ("index" : Str)]
  i_Contradiction : DefX K ca 15 ("Contradiction.__init__" : Str) st_Contradiction___init__ [("self" : Str), ("ring" : Str)]
  i_CouldGoWrong : DefX K ca 16 ("CouldGoWrong.__init__" : Str) st_CouldGoWrong___init__ [("self" : Str), ("step" : Str), ("kind" : Str), ("recording" : Str)]
  i_NameTaken : DefX K ca 17 ("NameTaken.__init__" : Str) st_NameTaken___init__ [("self" : Str), ("name" : Str)]
  i_NoBranch : DefX K ca 18 ("NoBranch.__init__" : Str) st_NoBranch___init__ [("self" : Str), ("name" : Str)]
  i_NoWatch : DefX K ca 20 ("NoWatch.__init__" : Str) st_NoWatch___init__ [("self" : Str), ("name" : Str)]
  i_NotSure : DefX K ca 22 ("NotSure.__init__" : Str) st_NotSure___init__ [("self" : Str), ("recording" : Str)]
  i_UnknownName : DefX K ca 24 ("UnknownName.__init__" : Str) st_UnknownName___init__ [("self" : Str), ("name" : Str)]
  ox2 : OexC K (ca 2)
  ox3 : OexC K (ca 3)
  ox4 : OexC K (ca 4)
  ox5 : OexC K (ca 5)
  ox6 : OexC K (ca 6)
  ox9 : OexC K (ca 9)
  ox10 : OexC K (ca 10)
  ox11 : OexC K (ca 11)
  ox12 : OexC K (ca 12)
  ox13 : OexC K (ca 13)
  ox14 : OexC K (ca 14)
  ox15 : OexC K (ca 15)
  ox16 : OexC K (ca 16)
  ox17 : OexC K (ca 17)
  ox18 : OexC K (ca 18)
  ox20 : OexC K (ca 20)
  ox22 : OexC K (ca 22)
  ox24 : OexC K (ca 24)
  xt1 : ExcT K (ca 1)
  xt2 : ExcT K (ca 2)
  xt3 : ExcT K (ca 3)
  xt4 : ExcT K (ca 4)
  xt5 : ExcT K (ca 5)
  xt6 : ExcT K (ca 6)
  xt7 : ExcT K (ca 7)
  xt8 : ExcT K (ca 8)
  xt9 : ExcT K (ca 9)
  xt10 : ExcT K (ca 10)
  xt11 : ExcT K (ca 11)
  xt12 : ExcT K (ca 12)
  xt13 : ExcT K (ca 13)
  xt14 : ExcT K (ca 14)
  xt15 : ExcT K (ca 15)
  xt16 : ExcT K (ca 16)
  xt17 : ExcT K (ca 17)
  xt18 : ExcT K (ca 18)
  xt19 : ExcT K (ca 19)
  xt20 : ExcT K (ca 20)
  xt21 : ExcT K (ca 21)
  xt22 : ExcT K (ca 22)
  xt23 : ExcT K (ca 23)
  xt24 : ExcT K (ca 24)
  xt25 : ExcT K (ca 25)
  xt26 : ExcT K (ca 26)
  bx1 : BaseX K ca 1 (.type "type")
  xn2_index : PySem.W.findIn K (.ref (ca 2)) ("index" : Str) = some none
  xn3_step : PySem.W.findIn K (.ref (ca 3)) ("step" : Str) = some none
  xn4_index : PySem.W.findIn K (.ref (ca 4)) ("index" : Str) = some none
  xn5_index : PySem.W.findIn K (.ref (ca 5)) ("index" : Str) = some none
  xn6_index : PySem.W.findIn K (.ref (ca 6)) ("index" : Str) = some none
  xn9_index : PySem.W.findIn K (.ref (ca 9)) ("index" : Str) = some none
  xn10_step : PySem.W.findIn K (.ref (ca 10)) ("step" : Str) = some none
  xn11_index : PySem.W.findIn K (.ref (ca 11)) ("index" : Str) = some none
  xn12_line : PySem.W.findIn K (.ref (ca 12)) ("line" : Str) = some none
  xn13_index : PySem.W.findIn K (.ref (ca 13)) ("index" : Str) = some none
  xn14_index : PySem.W.findIn K (.ref (ca 14)) ("index" : Str) = some none
  xn15_ring : PySem.W.findIn K (.ref (ca 15)) ("ring" : Str) = some none
  xn16_kind : PySem.W.findIn K (.ref (ca 16)) ("kind" : Str) = some none
  xn16_recording : PySem.W.findIn K (.ref (ca 16)) ("recording" : Str) = some none
  xn16_step : PySem.W.findIn K (.ref (ca 16)) ("step" : Str) = some none
  xn17_name : PySem.W.findIn K (.ref (ca 17)) ("name" : Str) = some none
  xn18_name : PySem.W.findIn K (.ref (ca 18)) ("name" : Str) = some none
  xn20_name : PySem.W.findIn K (.ref (ca 20)) ("name" : Str) = some none
  xn22_recording : PySem.W.findIn K (.ref (ca 22)) ("recording" : Str) = some none
  xn24_name : PySem.W.findIn K (.ref (ca 24)) ("name" : Str) = some none
  xm1_1 : PySem.W.exmOne K (.ref (ca 1)) (.ref (ca 1)) = some true
  xm2_1 : PySem.W.exmOne K (.ref (ca 2)) (.ref (ca 1)) = some true
  xm3_1 : PySem.W.exmOne K (.ref (ca 3)) (.ref (ca 1)) = some true
  xm4_1 : PySem.W.exmOne K (.ref (ca 4)) (.ref (ca 1)) = some true
  xm5_1 : PySem.W.exmOne K (.ref (ca 5)) (.ref (ca 1)) = some true
  xm6_1 : PySem.W.exmOne K (.ref (ca 6)) (.ref (ca 1)) = some true
  xm7_1 : PySem.W.exmOne K (.ref (ca 7)) (.ref (ca 1)) = some true
  xm8_1 : PySem.W.exmOne K (.ref (ca 8)) (.ref (ca 1)) = some true
  xm9_1 : PySem.W.exmOne K (.ref (ca 9)) (.ref (ca 1)) = some true
  xm10_1 : PySem.W.exmOne K (.ref (ca 10)) (.ref (ca 1)) = some true
  xm11_1 : PySem.W.exmOne K (.ref (ca 11)) (.ref (ca 1)) = some true
  xm12_1 : PySem.W.exmOne K (.ref (ca 12)) (.ref (ca 1)) = some true
  xm13_1 : PySem.W.exmOne K (.ref (ca 13)) (.ref (ca 1)) = some true
  xm14_1 : PySem.W.exmOne K (.ref (ca 14)) (.ref (ca 1)) = some true
  xm15_1 : PySem.W.exmOne K (.ref (ca 15)) (.ref (ca 1)) = some true
  xm16_1 : PySem.W.exmOne K (.ref (ca 16)) (.ref (ca 1)) = some true
  xm17_1 : PySem.W.exmOne K (.ref (ca 17)) (.ref (ca 1)) = some true
  xm18_1 : PySem.W.exmOne K (.ref (ca 18)) (.ref (ca 1)) = some true
  xm19_1 : PySem.W.exmOne K (.ref (ca 19)) (.ref (ca 1)) = some true
  xm20_1 : PySem.W.exmOne K (.ref (ca 20)) (.ref (ca 1)) = some true
  xm21_1 : PySem.W.exmOne K (.ref (ca 21)) (.ref (ca 1)) = some true
  xm22_1 : PySem.W.exmOne K (.ref (ca 22)) (.ref (ca 1)) = some true
  xm23_1 : PySem.W.exmOne K (.ref (ca 23)) (.ref (ca 1)) = some true
  xm24_1 : PySem.W.exmOne K (.ref (ca 24)) (.ref (ca 1)) = some true
  xm25_1 : PySem.W.exmOne K (.ref (ca 25)) (.ref (ca 1)) = some true
  xm26_1 : PySem.W.exmOne K (.ref (ca 26)) (.ref (ca 1)) = some true
  tc2 : TyC K ca 2
  tc3 : TyC K ca 3
  tc4 : TyC K ca 4
  tc5 : TyC K ca 5
  tc6 : TyC K ca 6
  tc7 : TyC K ca 7
  tc8 : TyC K ca 8
  tc9 : TyC K ca 9
  tc10 : TyC K ca 10
  tc11 : TyC K ca 11
  tc12 : TyC K ca 12
  tc13 : TyC K ca 13
  tc14 : TyC K ca 14
  tc15 : TyC K ca 15
  tc16 : TyC K ca 16
  tc17 : TyC K ca 17
  tc18 : TyC K ca 18
  tc19 : TyC K ca 19
  tc20 : TyC K ca 20
  tc21 : TyC K ca 21
  tc22 : TyC K ca 22
  tc23 : TyC K ca 23
  tc24 : TyC K ca 24
  tc25 : TyC K ca 25
  tc26 : TyC K ca 26
  kb1_ValueError : PySem.W.kitOne K (.ref (ca 1)) (.type "ValueError") = some true
  kb2_ValueError : PySem.W.kitOne K (.ref (ca 2)) (.type "ValueError") = some true
  kb3_ValueError : PySem.W.kitOne K (.ref (ca 3)) (.type "ValueError") = some true
  kb4_ValueError : PySem.W.kitOne K (.ref (ca 4)) (.type "ValueError") = some true
  kb5_ValueError : PySem.W.kitOne K (.ref (ca 5)) (.type "ValueError") = some true
  kb6_ValueError : PySem.W.kitOne K (.ref (ca 6)) (.type "ValueError") = some true
  kb7_ValueError : PySem.W.kitOne K (.ref (ca 7)) (.type "ValueError") = some true
  kb8_ValueError : PySem.W.kitOne K (.ref (ca 8)) (.type "ValueError") = some true
  kb9_ValueError : PySem.W.kitOne K (.ref (ca 9)) (.type "ValueError") = some true
  kb10_ValueError : PySem.W.kitOne K (.ref (ca 10)) (.type "ValueError") = some true
  kb11_ValueError : PySem.W.kitOne K (.ref (ca 11)) (.type "ValueError") = some true
  kb12_ValueError : PySem.W.kitOne K (.ref (ca 12)) (.type "ValueError") = some true
  kb13_ValueError : PySem.W.kitOne K (.ref (ca 13)) (.type "ValueError") = some true
  kb14_ValueError : PySem.W.kitOne K (.ref (ca 14)) (.type "ValueError") = some true
  kb15_ValueError : PySem.W.kitOne K (.ref (ca 15)) (.type "ValueError") = some true
  kb16_ValueError : PySem.W.kitOne K (.ref (ca 16)) (.type "ValueError") = some true
  kb17_ValueError : PySem.W.kitOne K (.ref (ca 17)) (.type "ValueError") = some true
  kb18_ValueError : PySem.W.kitOne K (.ref (ca 18)) (.type "ValueError") = some true
  kb19_ValueError : PySem.W.kitOne K (.ref (ca 19)) (.type "ValueError") = some true
  kb20_ValueError : PySem.W.kitOne K (.ref (ca 20)) (.type "ValueError") = some true
  kb21_ValueError : PySem.W.kitOne K (.ref (ca 21)) (.type "ValueError") = some true
  kb22_ValueError : PySem.W.kitOne K (.ref (ca 22)) (.type "ValueError") = some true
  kb23_ValueError : PySem.W.kitOne K (.ref (ca 23)) (.type "ValueError") = some true
  kb24_ValueError : PySem.W.kitOne K (.ref (ca 24)) (.type "ValueError") = some true
  kb25_ValueError : PySem.W.kitOne K (.ref (ca 25)) (.type "ValueError") = some true
  kb26_ValueError : PySem.W.kitOne K (.ref (ca 26)) (.type "ValueError") = some true
  sb1 : ∀ z ∈ [2, 3, 4, 5, 6, 7, 8, 9, 10, 11, 12, 13, 14, 15, 16, 17, 18, 19, 20, 21, 22, 23, 24, 25, 26], SubF K ca 1 z
  sb2 : ∀ z ∈ [3, 4, 5, 6, 7, 8, 9, 10, 11, 12, 13, 14, 15, 16, 17, 18, 19, 20, 21, 22, 23, 24, 25, 26], SubF K ca 2 z
  sb3 : ∀ z ∈ [2, 4, 5, 6, 7, 8, 9, 10, 11, 12, 13, 14, 15, 16, 17, 18, 19, 20, 21, 22, 23, 24, 25, 26], SubF K ca 3 z
  sb4 : ∀ z ∈ [2, 3, 5, 6, 7, 8, 9, 10, 11, 12, 13, 14, 15, 16, 17, 18, 19, 20, 21, 22, 23, 24, 25, 26], SubF K ca 4 z
  sb5 : ∀ z ∈ [2, 3, 4, 6, 7, 8, 9, 10, 11, 12, 13, 14, 15, 16, 17, 18, 19, 20, 21, 22, 23, 24, 25, 26], SubF K ca 5 z
  sb6 : ∀ z ∈ [2, 3, 4, 5, 7, 8, 9, 10, 11, 12, 13, 14, 15, 16, 17, 18, 19, 20, 21, 22, 23, 24, 25, 26], SubF K ca 6 z
  sb7 : ∀ z ∈ [2, 3, 4, 5, 6, 8, 9, 10, 11, 12, 13, 14, 15, 16, 17, 18, 19, 20, 21, 22, 23, 24, 25, 26], SubF K ca 7 z
  sb8 : ∀ z ∈ [2, 3, 4, 5, 6, 7, 9, 10, 11, 12, 13, 14, 15, 16, 17, 18, 19, 20, 21, 22, 23, 24, 25, 26], SubF K ca 8 z
  sb9 : ∀ z ∈ [2, 3, 4, 5, 6, 7, 8, 10, 11, 12, 13, 14, 15, 16, 17, 18, 19, 20, 21, 22, 23, 24, 25, 26], SubF K ca 9 z
  sb10 : ∀ z ∈ [2, 3, 4, 5, 6, 7, 8, 9, 11, 12, 13, 14, 15, 16, 17, 18, 19, 20, 21, 22, 23, 24, 25, 26], SubF K ca 10 z
  sb11 : ∀ z ∈ [2, 3, 4, 5, 6, 7, 8, 9, 10, 12, 13, 14, 15, 16, 17, 18, 19, 20, 21, 22, 23, 24, 25, 26], SubF K ca 11 z
  sb12 : ∀ z ∈ [2, 3, 4, 5, 6, 7, 8, 9, 10, 11, 13, 14, 15, 16, 17, 18, 19, 20, 21, 22, 23, 24, 25, 26], SubF K ca 12 z
  sb13 : ∀ z ∈ [2, 3, 4, 5, 6, 7, 8, 9, 10, 11, 12, 14, 15, 16, 17, 18, 19, 20, 21, 22, 23, 24, 25, 26], SubF K ca 13 z
  sb14 : ∀ z ∈ [2, 3, 4, 5, 6, 7, 8, 9, 10, 11, 12, 13, 15, 16, 17, 18, 19, 20, 21, 22, 23, 24, 25, 26], SubF K ca 14 z
  sb15 : ∀ z ∈ [2, 3, 4, 5, 6, 7, 8, 9, 10, 11, 12, 13, 14, 16, 17, 18, 19, 20, 21, 22, 23, 24, 25, 26], SubF K ca 15 z
  sb16 : ∀ z ∈ [2, 3, 4, 5, 6, 7, 8, 9, 10, 11, 12, 13, 14, 15, 17, 18, 19, 20, 21, 22, 23, 24, 25, 26], SubF K ca 16 z
  sb17 : ∀ z ∈ [2, 3, 4, 5, 6, 7, 8, 9, 10, 11, 12, 13, 14, 15, 16, 18, 19, 20, 21, 22, 23, 24, 25, 26], SubF K ca 17 z
  sb18 : ∀ z ∈ [2, 3, 4, 5, 6, 7, 8, 9, 10, 11, 12, 13, 14, 15, 16, 17, 19, 20, 21, 22, 23, 24, 25, 26], SubF K ca 18 z
  sb19 : ∀ z ∈ [2, 3, 4, 5, 6, 7, 8, 9, 10, 11, 12, 13, 14, 15, 16, 17, 18, 20, 21, 22, 23, 24, 25, 26], SubF K ca 19 z
  sb20 : ∀ z ∈ [2, 3, 4, 5, 6, 7, 8, 9, 10, 11, 12, 13, 14, 15, 16, 17, 18, 19, 21, 22, 23, 24, 25, 26], SubF K ca 20 z
  sb21 : ∀ z ∈ [2, 3, 4, 5, 6, 7, 8, 9, 10, 11, 12, 13, 14, 15, 16, 17, 18, 19, 20, 22, 23, 24, 25, 26], SubF K ca 21 z
  sb22 : ∀ z ∈ [2, 3, 4, 5, 6, 7, 8, 9, 10, 11, 12, 13, 14, 15, 16, 17, 18, 19, 20, 21, 23, 24, 25, 26], SubF K ca 22 z
  sb23 : ∀ z ∈ [2, 3, 4, 5, 6, 7, 8, 9, 10, 11, 12, 13, 14, 15, 16, 17, 18, 19, 20, 21, 22, 24, 25, 26], SubF K ca 23 z
  sb24 : ∀ z ∈ [2, 3, 4, 5, 6, 7, 8, 9, 10, 11, 12, 13, 14, 15, 16, 17, 18, 19, 20, 21, 22, 23, 25, 26], SubF K ca 24 z
  sb25 : ∀ z ∈ [2, 3, 4, 5, 6, 7, 8, 9, 10, 11, 12, 13, 14, 15, 16, 17, 18, 19, 20, 21, 22, 23, 24, 26], SubF K ca 25 z
  sb26 : ∀ z ∈ [2, 3, 4, 5, 6, 7, 8, 9, 10, 11, 12, 13, 14, 15, 16, 17, 18, 19, 20, 21, 22, 23, 24, 25], SubF K ca 26 z
  cls0 : Cls K (ca 0)
  no0_bounds : NoAttr K (ca 0) ("bounds" : Str)
  no0_facts : NoAttr K (ca 0) ("facts" : Str)
  no0_marks : NoAttr K (ca 0) ("marks" : Str)
  no0_nodes : NoAttr K (ca 0) ("nodes" : Str)
  no0_takes : NoAttr K (ca 0) ("takes" : Str)
section
variable {P : Program} {w : World} {K : PySem.W.Frag} {mg : Str → Option Value} {base : Heap} {ca : Nat → Addr}
theorem isp_BadDeed (T : Txt K mg ca) : ∀ q ∈ ([(1, 2, false), (2, 2, true), (3, 2, false), (4, 2, false), (5, 2, false), (6, 2, false), (7, 2, false), (8, 2, false), (9, 2, false), (10, 2, false), (11, 2, false), (12, 2, false), (13, 2, false), (14, 2, false), (15, 2, false), (16, 2, false), (17, 2, false), (18, 2, false), (19, 2, false), (20, 2, false), (21, 2, false), (22, 2, false), (23, 2, false), (24, 2, false), (25, 2, false), (26, 2, false)] : IsTab), ExcT K (ca q.1) ∧ PySem.W.kitOne K (.ref (ca q.1)) (.ref (ca q.2.1)) = some q.2.2 := (all_cons' ⟨T.xt1, (kitF T.tc2 (T.sb1 2 (by decide)))⟩ (all_cons' ⟨T.xt2, kit_self⟩ (all_cons' ⟨T.xt3, (kitF T.tc2 (T.sb3 2 (by decide)))⟩ (all_cons' ⟨T.xt4, (kitF T.tc2 (T.sb4 2 (by decide)))⟩ (all_cons' ⟨T.xt5, (kitF T.tc2 (T.sb5 2 (by decide)))⟩ (all_cons' ⟨T.xt6, (kitF T.tc2 (T.sb6 2 (by decide)))⟩ (all_cons' ⟨T.xt7, (kitF T.tc2 (T.sb7 2 (by decide)))⟩ (all_cons' ⟨T.xt8, (kitF T.tc2 (T.sb8 2 (by decide)))⟩ (all_cons' ⟨T.xt9, (kitF T.tc2 (T.sb9 2 (by decide)))⟩ (all_cons' ⟨T.xt10, (kitF T.tc2 (T.sb10 2 (by decide)))⟩ (all_cons' ⟨T.xt11, (kitF T.tc2 (T.sb11 2 (by decide)))⟩ (all_cons' ⟨T.xt12, (kitF T.tc2 (T.sb12 2 (by decide)))⟩ (all_cons' ⟨T.xt13, (kitF T.tc2 (T.sb13 2 (by decide)))⟩ (all_cons' ⟨T.xt14, (kitF T.tc2 (T.sb14 2 (by decide)))⟩ (all_cons' ⟨T.xt15, (kitF T.tc2 (T.sb15 2 (by decide)))⟩ (all_cons' ⟨T.xt16, (kitF T.tc2 (T.sb16 2 (by decide)))⟩ (all_cons' ⟨T.xt17, (kitF T.tc2 (T.sb17 2 (by decide)))⟩ (all_cons' ⟨T.xt18, (kitF T.tc2 (T.sb18 2 (by decide)))⟩ (all_cons' ⟨T.xt19, (kitF T.tc2 (T.sb19 2 (by decide)))⟩ (all_cons' ⟨T.xt20, (kitF T.tc2 (T.sb20 2 (by decide)))⟩ (all_cons' ⟨T.xt21, (kitF T.tc2 (T.sb21 2 (by decide)))⟩ (all_cons' ⟨T.xt22, (kitF T.tc2 (T.sb22 2 (by decide)))⟩ (all_cons' ⟨T.xt23, (kitF T.tc2 (T.sb23 2 (by decide)))⟩ (all_cons' ⟨T.xt24, (kitF T.tc2 (T.sb24 2 (by decide)))⟩ (all_cons' ⟨T.xt25, (kitF T.tc2 (T.sb25 2 (by decide)))⟩ (all_cons' ⟨T.xt26, (kitF T.tc2 (T.sb26 2 (by decide)))⟩ all_nil'))))))))))))))))))))))))))
theorem isp_BadEdit (T : Txt K mg ca) : ∀ q ∈ ([(1, 3, false), (2, 3, false), (3, 3, true), (4, 3, false), (5, 3, false), (6, 3, false), (7, 3, false), (8, 3, false), (9, 3, false), (10, 3, false), (11, 3, false), (12, 3, false), (13, 3, false), (14, 3, false), (15, 3, false), (16, 3, false), (17, 3, false), (18, 3, false), (19, 3, false), (20, 3, false), (21, 3, false), (22, 3, false), (23, 3, false), (24, 3, false), (25, 3, false), (26, 3, false)] : IsTab), ExcT K (ca q.1) ∧ PySem.W.kitOne K (.ref (ca q.1)) (.ref (ca q.2.1)) = some q.2.2 := (all_cons' ⟨T.xt1, (kitF T.tc3 (T.sb1 3 (by decide)))⟩ (all_cons' ⟨T.xt2, (kitF T.tc3 (T.sb2 3 (by decide)))⟩ (all_cons' ⟨T.xt3, kit_self⟩ (all_cons' ⟨T.xt4, (kitF T.tc3 (T.sb4 3 (by decide)))⟩ (all_cons' ⟨T.xt5, (kitF T.tc3 (T.sb5 3 (by decide)))⟩ (all_cons' ⟨T.xt6, (kitF T.tc3 (T.sb6 3 (by decide)))⟩ (all_cons' ⟨T.xt7, (kitF T.tc3 (T.sb7 3 (by decide)))⟩ (all_cons' ⟨T.xt8, (kitF T.tc3 (T.sb8 3 (by decide)))⟩ (all_cons' ⟨T.xt9, (kitF T.tc3 (T.sb9 3 (by decide)))⟩ (all_cons' ⟨T.xt10, (kitF T.tc3 (T.sb10 3 (by decide)))⟩ (all_cons' ⟨T.xt11, (kitF T.tc3 (T.sb11 3 (by decide)))⟩ (all_cons' ⟨T.xt12, (kitF T.tc3 (T.sb12 3 (by decide)))⟩ (all_cons' ⟨T.xt13, (kitF T.tc3 (T.sb13 3 (by decide)))⟩ (all_cons' ⟨T.xt14, (kitF T.tc3 (T.sb14 3 (by decide)))⟩ (all_cons' ⟨T.xt15, (kitF T.tc3 (T.sb15 3 (by decide)))⟩ (all_cons' ⟨T.xt16, (kitF T.tc3 (T.sb16 3 (by decide)))⟩ (all_cons' ⟨T.xt17, (kitF T.tc3 (T.sb17 3 (by decide)))⟩ (all_cons' ⟨T.xt18, (kitF T.tc3 (T.sb18 3 (by decide)))⟩ (all_cons' ⟨T.xt19, (kitF T.tc3 (T.sb19 3 (by decide)))⟩ (all_cons' ⟨T.xt20, (kitF T.tc3 (T.sb20 3 (by decide)))⟩ (all_cons' ⟨T.xt21, (kitF T.tc3 (T.sb21 3 (by decide)))⟩ (all_cons' ⟨T.xt22, (kitF T.tc3 (T.sb22 3 (by decide)))⟩ (all_cons' ⟨T.xt23, (kitF T.tc3 (T.sb23 3 (by decide)))⟩ (all_cons' ⟨T.xt24, (kitF T.tc3 (T.sb24 3 (by decide)))⟩ (all_cons' ⟨T.xt25, (kitF T.tc3 (T.sb25 3 (by decide)))⟩ (all_cons' ⟨T.xt26, (kitF T.tc3 (T.sb26 3 (by decide)))⟩ all_nil'))))))))))))))))))))))))))
theorem isp_BadFact (T : Txt K mg ca) : ∀ q ∈ ([(1, 4, false), (2, 4, false), (3, 4, false), (4, 4, true), (5, 4, false), (6, 4, false), (7, 4, false), (8, 4, false), (9, 4, false), (10, 4, false), (11, 4, false), (12, 4, false), (13, 4, false), (14, 4, false), (15, 4, false), (16, 4, false), (17, 4, false), (18, 4, false), (19, 4, false), (20, 4, false), (21, 4, false), (22, 4, false), (23, 4, false), (24, 4, false), (25, 4, false), (26, 4, false)] : IsTab), ExcT K (ca q.1) ∧ PySem.W.kitOne K (.ref (ca q.1)) (.ref (ca q.2.1)) = some q.2.2 := (all_cons' ⟨T.xt1, (kitF T.tc4 (T.sb1 4 (by decide)))⟩ (all_cons' ⟨T.xt2, (kitF T.tc4 (T.sb2 4 (by decide)))⟩ (all_cons' ⟨T.xt3, (kitF T.tc4 (T.sb3 4 (by decide)))⟩ (all_cons' ⟨T.xt4, kit_self⟩ (all_cons' ⟨T.xt5, (kitF T.tc4 (T.sb5 4 (by decide)))⟩ (all_cons' ⟨T.xt6, (kitF T.tc4 (T.sb6 4 (by decide)))⟩ (all_cons' ⟨T.xt7, (kitF T.tc4 (T.sb7 4 (by decide)))⟩ (all_cons' ⟨T.xt8, (kitF T.tc4 (T.sb8 4 (by decide)))⟩ (all_cons' ⟨T.xt9, (kitF T.tc4 (T.sb9 4 (by decide)))⟩ (all_cons' ⟨T.xt10, (kitF T.tc4 (T.sb10 4 (by decide)))⟩ (all_cons' ⟨T.xt11, (kitF T.tc4 (T.sb11 4 (by decide)))⟩ (all_cons' ⟨T.xt12, (kitF T.tc4 (T.sb12 4 (by decide)))⟩ (all_cons' ⟨T.xt13, (kitF T.tc4 (T.sb13 4 (by decide)))⟩ (all_cons' ⟨T.xt14, (kitF T.tc4 (T.sb14 4 (by decide)))⟩ (all_cons' ⟨T.xt15, (kitF T.tc4 (T.sb15 4 (by decide)))⟩ (all_cons' ⟨T.xt16, (kitF T.tc4 (T.sb16 4 (by decide)))⟩ (all_cons' ⟨T.xt17, (kitF T.tc4 (T.sb17 4 (by decide)))⟩ (all_cons' ⟨T.xt18, (kitF T.tc4 (T.sb18 4 (by decide)))⟩ (all_cons' ⟨T.xt19, (kitF T.tc4 (T.sb19 4 (by decide)))⟩ (all_cons' ⟨T.xt20, (kitF T.tc4 (T.sb20 4 (by decide)))⟩ (all_cons' ⟨T.xt21, (kitF T.tc4 (T.sb21 4 (by decide)))⟩ (all_cons' ⟨T.xt22, (kitF T.tc4 (T.sb22 4 (by decide)))⟩ (all_cons' ⟨T.xt23, (kitF T.tc4 (T.sb23 4 (by decide)))⟩ (all_cons' ⟨T.xt24, (kitF T.tc4 (T.sb24 4 (by decide)))⟩ (all_cons' ⟨T.xt25, (kitF T.tc4 (T.sb25 4 (by decide)))⟩ (all_cons' ⟨T.xt26, (kitF T.tc4 (T.sb26 4 (by decide)))⟩ all_nil'))))))))))))))))))))))))))
theorem isp_BadFault (T : Txt K mg ca) : ∀ q ∈ ([(1, 5, false), (2, 5, false), (3, 5, false), (4, 5, false), (5, 5, true), (6, 5, false), (7, 5, false), (8, 5, false), (9, 5, false), (10, 5, false), (11, 5, false), (12, 5, false), (13, 5, false), (14, 5, false), (15, 5, false), (16, 5, false), (17, 5, false), (18, 5, false), (19, 5, false), (20, 5, false), (21, 5, false), (22, 5, false), (23, 5, false), (24, 5, false), (25, 5, false), (26, 5, false)] : IsTab), ExcT K (ca q.1) ∧ PySem.W.kitOne K (.ref (ca q.1)) (.ref (ca q.2.1)) = some q.2.2 := (all_cons' ⟨T.xt1, (kitF T.tc5 (T.sb1 5 (by decide)))⟩ (all_cons' ⟨T.xt2, (kitF T.tc5 (T.sb2 5 (by decide)))⟩ (all_cons' ⟨T.xt3, (kitF T.tc5 (T.sb3 5 (by decide)))⟩ (all_cons' ⟨T.xt4, (kitF T.tc5 (T.sb4 5 (by decide)))⟩ (all_cons' ⟨T.xt5, kit_self⟩ (all_cons' ⟨T.xt6, (kitF T.tc5 (T.sb6 5 (by decide)))⟩ (all_cons' ⟨T.xt7, (kitF T.tc5 (T.sb7 5 (by decide)))⟩ (all_cons' ⟨T.xt8, (kitF T.tc5 (T.sb8 5 (by decide)))⟩ (all_cons' ⟨T.xt9, (kitF T.tc5 (T.sb9 5 (by decide)))⟩ (all_cons' ⟨T.xt10, (kitF T.tc5 (T.sb10 5 (by decide)))⟩ (all_cons' ⟨T.xt11, (kitF T.tc5 (T.sb11 5 (by decide)))⟩ (all_cons' ⟨T.xt12, (kitF T.tc5 (T.sb12 5 (by decide)))⟩ (all_cons' ⟨T.xt13, (kitF T.tc5 (T.sb13 5 (by decide)))⟩ (all_cons' ⟨T.xt14, (kitF T.tc5 (T.sb14 5 (by decide)))⟩ (all_cons' ⟨T.xt15, (kitF T.tc5 (T.sb15 5 (by decide)))⟩ (all_cons' ⟨T.xt16, (kitF T.tc5 (T.sb16 5 (by decide)))⟩ (all_cons' ⟨T.xt17, (kitF T.tc5 (T.sb17 5 (by decide)))⟩ (all_cons' ⟨T.xt18, (kitF T.tc5 (T.sb18 5 (by decide)))⟩ (all_cons' ⟨T.xt19, (kitF T.tc5 (T.sb19 5 (by decide)))⟩ (all_cons' ⟨T.xt20, (kitF T.tc5 (T.sb20 5 (by decide)))⟩ (all_cons' ⟨T.xt21, (kitF T.tc5 (T.sb21 5 (by decide)))⟩ (all_cons' ⟨T.xt22, (kitF T.tc5 (T.sb22 5 (by decide)))⟩ (all_cons' ⟨T.xt23, (kitF T.tc5 (T.sb23 5 (by decide)))⟩ (all_cons' ⟨T.xt24, (kitF T.tc5 (T.sb24 5 (by decide)))⟩ (all_cons' ⟨T.xt25, (kitF T.tc5 (T.sb25 5 (by decide)))⟩ (all_cons' ⟨T.xt26, (kitF T.tc5 (T.sb26 5 (by decide)))⟩ all_nil'))))))))))))))))))))))))))
theorem isp_BadMarks (T : Txt K mg ca) : ∀ q ∈ ([(1, 6, false), (2, 6, false), (3, 6, false), (4, 6, false), (5, 6, false), (6, 6, true), (7, 6, false), (8, 6, false), (9, 6, false), (10, 6, false), (11, 6, false), (12, 6, false), (13, 6, false), (14, 6, false), (15, 6, false), (16, 6, false), (17, 6, false), (18, 6, false), (19, 6, false), (20, 6, false), (21, 6, false), (22, 6, false), (23, 6, false), (24, 6, false), (25, 6, false), (26, 6, false)] : IsTab), ExcT K (ca q.1) ∧ PySem.W.kitOne K (.ref (ca q.1)) (.ref (ca q.2.1)) = some q.2.2 := (all_cons' ⟨T.xt1, (kitF T.tc6 (T.sb1 6 (by decide)))⟩ (all_cons' ⟨T.xt2, (kitF T.tc6 (T.sb2 6 (by decide)))⟩ (all_cons' ⟨T.xt3, (kitF T.tc6 (T.sb3 6 (by decide)))⟩ (all_cons' ⟨T.xt4, (kitF T.tc6 (T.sb4 6 (by decide)))⟩ (all_cons' ⟨T.xt5, (kitF T.tc6 (T.sb5 6 (by decide)))⟩ (all_cons' ⟨T.xt6, kit_self⟩ (all_cons' ⟨T.xt7, (kitF T.tc6 (T.sb7 6 (by decide)))⟩ (all_cons' ⟨T.xt8, (kitF T.tc6 (T.sb8 6 (by decide)))⟩ (all_cons' ⟨T.xt9, (kitF T.tc6 (T.sb9 6 (by decide)))⟩ (all_cons' ⟨T.xt10, (kitF T.tc6 (T.sb10 6 (by decide)))⟩ (all_cons' ⟨T.xt11, (kitF T.tc6 (T.sb11 6 (by decide)))⟩ (all_cons' ⟨T.xt12, (kitF T.tc6 (T.sb12 6 (by decide)))⟩ (all_cons' ⟨T.xt13, (kitF T.tc6 (T.sb13 6 (by decide)))⟩ (all_cons' ⟨T.xt14, (kitF T.tc6 (T.sb14 6 (by decide)))⟩ (all_cons' ⟨T.xt15, (kitF T.tc6 (T.sb15 6 (by decide)))⟩ (all_cons' ⟨T.xt16, (kitF T.tc6 (T.sb16 6 (by decide)))⟩ (all_cons' ⟨T.xt17, (kitF T.tc6 (T.sb17 6 (by decide)))⟩ (all_cons' ⟨T.xt18, (kitF T.tc6 (T.sb18 6 (by decide)))⟩ (all_cons' ⟨T.xt19, (kitF T.tc6 (T.sb19 6 (by decide)))⟩ (all_cons' ⟨T.xt20, (kitF T.tc6 (T.sb20 6 (by decide)))⟩ (all_cons' ⟨T.xt21, (kitF T.tc6 (T.sb21 6 (by decide)))⟩ (all_cons' ⟨T.xt22, (kitF T.tc6 (T.sb22 6 (by decide)))⟩ (all_cons' ⟨T.xt23, (kitF T.tc6 (T.sb23 6 (by decide)))⟩ (all_cons' ⟨T.xt24, (kitF T.tc6 (T.sb24 6 (by decide)))⟩ (all_cons' ⟨T.xt25, (kitF T.tc6 (T.sb25 6 (by decide)))⟩ (all_cons' ⟨T.xt26, (kitF T.tc6 (T.sb26 6 (by decide)))⟩ all_nil'))))))))))))))))))))))))))
theorem isp_BadNumbers (T : Txt K mg ca) : ∀ q ∈ ([(1, 7, false), (2, 7, false), (3, 7, false), (4, 7, false), (5, 7, false), (6, 7, false), (7, 7, true), (8, 7, false), (9, 7, false), (10, 7, false), (11, 7, false), (12, 7, false), (13, 7, false), (14, 7, false), (15, 7, false), (16, 7, false), (17, 7, false), (18, 7, false), (19, 7, false), (20, 7, false), (21, 7, false), (22, 7, false), (23, 7, false), (24, 7, false), (25, 7, false), (26, 7, false)] : IsTab), ExcT K (ca q.1) ∧ PySem.W.kitOne K (.ref (ca q.1)) (.ref (ca q.2.1)) = some q.2.2 := (all_cons' ⟨T.xt1, (kitF T.tc7 (T.sb1 7 (by decide)))⟩ (all_cons' ⟨T.xt2, (kitF T.tc7 (T.sb2 7 (by decide)))⟩ (all_cons' ⟨T.xt3, (kitF T.tc7 (T.sb3 7 (by decide)))⟩ (all_cons' ⟨T.xt4, (kitF T.tc7 (T.sb4 7 (by decide)))⟩ (all_cons' ⟨T.xt5, (kitF T.tc7 (T.sb5 7 (by decide)))⟩ (all_cons' ⟨T.xt6, (kitF T.tc7 (T.sb6 7 (by decide)))⟩ (all_cons' ⟨T.xt7, kit_self⟩ (all_cons' ⟨T.xt8, (kitF T.tc7 (T.sb8 7 (by decide)))⟩ (all_cons' ⟨T.xt9, (kitF T.tc7 (T.sb9 7 (by decide)))⟩ (all_cons' ⟨T.xt10, (kitF T.tc7 (T.sb10 7 (by decide)))⟩ (all_cons' ⟨T.xt11, (kitF T.tc7 (T.sb11 7 (by decide)))⟩ (all_cons' ⟨T.xt12, (kitF T.tc7 (T.sb12 7 (by decide)))⟩ (all_cons' ⟨T.xt13, (kitF T.tc7 (T.sb13 7 (by decide)))⟩ (all_cons' ⟨T.xt14, (kitF T.tc7 (T.sb14 7 (by decide)))⟩ (all_cons' ⟨T.xt15, (kitF T.tc7 (T.sb15 7 (by decide)))⟩ (all_cons' ⟨T.xt16, (kitF T.tc7 (T.sb16 7 (by decide)))⟩ (all_cons' ⟨T.xt17, (kitF T.tc7 (T.sb17 7 (by decide)))⟩ (all_cons' ⟨T.xt18, (kitF T.tc7 (T.sb18 7 (by decide)))⟩ (all_cons' ⟨T.xt19, (kitF T.tc7 (T.sb19 7 (by decide)))⟩ (all_cons' ⟨T.xt20, (kitF T.tc7 (T.sb20 7 (by decide)))⟩ (all_cons' ⟨T.xt21, (kitF T.tc7 (T.sb21 7 (by decide)))⟩ (all_cons' ⟨T.xt22, (kitF T.tc7 (T.sb22 7 (by decide)))⟩ (all_cons' ⟨T.xt23, (kitF T.tc7 (T.sb23 7 (by decide)))⟩ (all_cons' ⟨T.xt24, (kitF T.tc7 (T.sb24 7 (by decide)))⟩ (all_cons' ⟨T.xt25, (kitF T.tc7 (T.sb25 7 (by decide)))⟩ (all_cons' ⟨T.xt26, (kitF T.tc7 (T.sb26 7 (by decide)))⟩ all_nil'))))))))))))))))))))))))))
theorem isp_BadPairs (T : Txt K mg ca) : ∀ q ∈ ([(1, 8, false), (2, 8, false), (3, 8, false), (4, 8, false), (5, 8, false), (6, 8, false), (7, 8, false), (8, 8, true), (9, 8, false), (10, 8, false), (11, 8, false), (12, 8, false), (13, 8, false), (14, 8, false), (15, 8, false), (16, 8, false), (17, 8, false), (18, 8, false), (19, 8, false), (20, 8, false), (21, 8, false), (22, 8, false), (23, 8, false), (24, 8, false), (25, 8, false), (26, 8, false)] : IsTab), ExcT K (ca q.1) ∧ PySem.W.kitOne K (.ref (ca q.1)) (.ref (ca q.2.1)) = some q.2.2 := (all_cons' ⟨T.xt1, (kitF T.tc8 (T.sb1 8 (by decide)))⟩ (all_cons' ⟨T.xt2, (kitF T.tc8 (T.sb2 8 (by decide)))⟩ (all_cons' ⟨T.xt3, (kitF T.tc8 (T.sb3 8 (by decide)))⟩ (all_cons' ⟨T.xt4, (kitF T.tc8 (T.sb4 8 (by decide)))⟩ (all_cons' ⟨T.xt5, (kitF T.tc8 (T.sb5 8 (by decide)))⟩ (all_cons' ⟨T.xt6, (kitF T.tc8 (T.sb6 8 (by decide)))⟩ (all_cons' ⟨T.xt7, (kitF T.tc8 (T.sb7 8 (by decide)))⟩ (all_cons' ⟨T.xt8, kit_self⟩ (all_cons' ⟨T.xt9, (kitF T.tc8 (T.sb9 8 (by decide)))⟩ (all_cons' ⟨T.xt10, (kitF T.tc8 (T.sb10 8 (by decide)))⟩ (all_cons' ⟨T.xt11, (kitF T.tc8 (T.sb11 8 (by decide)))⟩ (all_cons' ⟨T.xt12, (kitF T.tc8 (T.sb12 8 (by decide)))⟩ (all_cons' ⟨T.xt13, (kitF T.tc8 (T.sb13 8 (by decide)))⟩ (all_cons' ⟨T.xt14, (kitF T.tc8 (T.sb14 8 (by decide)))⟩ (all_cons' ⟨T.xt15, (kitF T.tc8 (T.sb15 8 (by decide)))⟩ (all_cons' ⟨T.xt16, (kitF T.tc8 (T.sb16 8 (by decide)))⟩ (all_cons' ⟨T.xt17, (kitF T.tc8 (T.sb17 8 (by decide)))⟩ (all_cons' ⟨T.xt18, (kitF T.tc8 (T.sb18 8 (by decide)))⟩ (all_cons' ⟨T.xt19, (kitF T.tc8 (T.sb19 8 (by decide)))⟩ (all_cons' ⟨T.xt20, (kitF T.tc8 (T.sb20 8 (by decide)))⟩ (all_cons' ⟨T.xt21, (kitF T.tc8 (T.sb21 8 (by decide)))⟩ (all_cons' ⟨T.xt22, (kitF T.tc8 (T.sb22 8 (by decide)))⟩ (all_cons' ⟨T.xt23, (kitF T.tc8 (T.sb23 8 (by decide)))⟩ (all_cons' ⟨T.xt24, (kitF T.tc8 (T.sb24 8 (by decide)))⟩ (all_cons' ⟨T.xt25, (kitF T.tc8 (T.sb25 8 (by decide)))⟩ (all_cons' ⟨T.xt26, (kitF T.tc8 (T.sb26 8 (by decide)))⟩ all_nil'))))))))))))))))))))))))))
theorem isp_BadPlace (T : Txt K mg ca) : ∀ q ∈ ([(1, 9, false), (2, 9, false), (3, 9, false), (4, 9, false), (5, 9, false), (6, 9, false), (7, 9, false), (8, 9, false), (9, 9, true), (10, 9, false), (11, 9, false), (12, 9, false), (13, 9, false), (14, 9, false), (15, 9, false), (16, 9, false), (17, 9, false), (18, 9, false), (19, 9, false), (20, 9, false), (21, 9, false), (22, 9, false), (23, 9, false), (24, 9, false), (25, 9, false), (26, 9, false)] : IsTab), ExcT K (ca q.1) ∧ PySem.W.kitOne K (.ref (ca q.1)) (.ref (ca q.2.1)) = some q.2.2 := (all_cons' ⟨T.xt1, (kitF T.tc9 (T.sb1 9 (by decide)))⟩ (all_cons' ⟨T.xt2, (kitF T.tc9 (T.sb2 9 (by decide)))⟩ (all_cons' ⟨T.xt3, (kitF T.tc9 (T.sb3 9 (by decide)))⟩ (all_cons' ⟨T.xt4, (kitF T.tc9 (T.sb4 9 (by decide)))⟩ (all_cons' ⟨T.xt5, (kitF T.tc9 (T.sb5 9 (by decide)))⟩ (all_cons' ⟨T.xt6, (kitF T.tc9 (T.sb6 9 (by decide)))⟩ (all_cons' ⟨T.xt7, (kitF T.tc9 (T.sb7 9 (by decide)))⟩ (all_cons' ⟨T.xt8, (kitF T.tc9 (T.sb8 9 (by decide)))⟩ (all_cons' ⟨T.xt9, kit_self⟩ (all_cons' ⟨T.xt10, (kitF T.tc9 (T.sb10 9 (by decide)))⟩ (all_cons' ⟨T.xt11, (kitF T.tc9 (T.sb11 9 (by decide)))⟩ (all_cons' ⟨T.xt12, (kitF T.tc9 (T.sb12 9 (by decide)))⟩ (all_cons' ⟨T.xt13, (kitF T.tc9 (T.sb13 9 (by decide)))⟩ (all_cons' ⟨T.xt14, (kitF T.tc9 (T.sb14 9 (by decide)))⟩ (all_cons' ⟨T.xt15, (kitF T.tc9 (T.sb15 9 (by decide)))⟩ (all_cons' ⟨T.xt16, (kitF T.tc9 (T.sb16 9 (by decide)))⟩ (all_cons' ⟨T.xt17, (kitF T.tc9 (T.sb17 9 (by decide)))⟩ (all_cons' ⟨T.xt18, (kitF T.tc9 (T.sb18 9 (by decide)))⟩ (all_cons' ⟨T.xt19, (kitF T.tc9 (T.sb19 9 (by decide)))⟩ (all_cons' ⟨T.xt20, (kitF T.tc9 (T.sb20 9 (by decide)))⟩ (all_cons' ⟨T.xt21, (kitF T.tc9 (T.sb21 9 (by decide)))⟩ (all_cons' ⟨T.xt22, (kitF T.tc9 (T.sb22 9 (by decide)))⟩ (all_cons' ⟨T.xt23, (kitF T.tc9 (T.sb23 9 (by decide)))⟩ (all_cons' ⟨T.xt24, (kitF T.tc9 (T.sb24 9 (by decide)))⟩ (all_cons' ⟨T.xt25, (kitF T.tc9 (T.sb25 9 (by decide)))⟩ (all_cons' ⟨T.xt26, (kitF T.tc9 (T.sb26 9 (by decide)))⟩ all_nil'))))))))))))))))))))))))))
theorem isp_BadStep (T : Txt K mg ca) : ∀ q ∈ ([(1, 10, false), (2, 10, false), (3, 10, false), (4, 10, false), (5, 10, false), (6, 10, false), (7, 10, false), (8, 10, false), (9, 10, false), (10, 10, true), (11, 10, false), (12, 10, false), (13, 10, false), (14, 10, false), (15, 10, false), (16, 10, false), (17, 10, false), (18, 10, false), (19, 10, false), (20, 10, false), (21, 10, false), (22, 10, false), (23, 10, false), (24, 10, false), (25, 10, false), (26, 10, false)] : IsTab), ExcT K (ca q.1) ∧ PySem.W.kitOne K (.ref (ca q.1)) (.ref (ca q.2.1)) = some q.2.2 := (all_cons' ⟨T.xt1, (kitF T.tc10 (T.sb1 10 (by decide)))⟩ (all_cons' ⟨T.xt2, (kitF T.tc10 (T.sb2 10 (by decide)))⟩ (all_cons' ⟨T.xt3, (kitF T.tc10 (T.sb3 10 (by decide)))⟩ (all_cons' ⟨T.xt4, (kitF T.tc10 (T.sb4 10 (by decide)))⟩ (all_cons' ⟨T.xt5, (kitF T.tc10 (T.sb5 10 (by decide)))⟩ (all_cons' ⟨T.xt6, (kitF T.tc10 (T.sb6 10 (by decide)))⟩ (all_cons' ⟨T.xt7, (kitF T.tc10 (T.sb7 10 (by decide)))⟩ (all_cons' ⟨T.xt8, (kitF T.tc10 (T.sb8 10 (by decide)))⟩ (all_cons' ⟨T.xt9, (kitF T.tc10 (T.sb9 10 (by decide)))⟩ (all_cons' ⟨T.xt10, kit_self⟩ (all_cons' ⟨T.xt11, (kitF T.tc10 (T.sb11 10 (by decide)))⟩ (all_cons' ⟨T.xt12, (kitF T.tc10 (T.sb12 10 (by decide)))⟩ (all_cons' ⟨T.xt13, (kitF T.tc10 (T.sb13 10 (by decide)))⟩ (all_cons' ⟨T.xt14, (kitF T.tc10 (T.sb14 10 (by decide)))⟩ (all_cons' ⟨T.xt15, (kitF T.tc10 (T.sb15 10 (by decide)))⟩ (all_cons' ⟨T.xt16, (kitF T.tc10 (T.sb16 10 (by decide)))⟩ (all_cons' ⟨T.xt17, (kitF T.tc10 (T.sb17 10 (by decide)))⟩ (all_cons' ⟨T.xt18, (kitF T.tc10 (T.sb18 10 (by decide)))⟩ (all_cons' ⟨T.xt19, (kitF T.tc10 (T.sb19 10 (by decide)))⟩ (all_cons' ⟨T.xt20, (kitF T.tc10 (T.sb20 10 (by decide)))⟩ (all_cons' ⟨T.xt21, (kitF T.tc10 (T.sb21 10 (by decide)))⟩ (all_cons' ⟨T.xt22, (kitF T.tc10 (T.sb22 10 (by decide)))⟩ (all_cons' ⟨T.xt23, (kitF T.tc10 (T.sb23 10 (by decide)))⟩ (all_cons' ⟨T.xt24, (kitF T.tc10 (T.sb24 10 (by decide)))⟩ (all_cons' ⟨T.xt25, (kitF T.tc10 (T.sb25 10 (by decide)))⟩ (all_cons' ⟨T.xt26, (kitF T.tc10 (T.sb26 10 (by decide)))⟩ all_nil'))))))))))))))))))))))))))
theorem isp_BadTakes (T : Txt K mg ca) : ∀ q ∈ ([(1, 11, false), (2, 11, false), (3, 11, false), (4, 11, false), (5, 11, false), (6, 11, false), (7, 11, false), (8, 11, false), (9, 11, false), (10, 11, false), (11, 11, true), (12, 11, false), (13, 11, false), (14, 11, false), (15, 11, false), (16, 11, false), (17, 11, false), (18, 11, false), (19, 11, false), (20, 11, false), (21, 11, false), (22, 11, false), (23, 11, false), (24, 11, false), (25, 11, false), (26, 11, false)] : IsTab), ExcT K (ca q.1) ∧ PySem.W.kitOne K (.ref (ca q.1)) (.ref (ca q.2.1)) = some q.2.2 := (all_cons' ⟨T.xt1, (kitF T.tc11 (T.sb1 11 (by decide)))⟩ (all_cons' ⟨T.xt2, (kitF T.tc11 (T.sb2 11 (by decide)))⟩ (all_cons' ⟨T.xt3, (kitF T.tc11 (T.sb3 11 (by decide)))⟩ (all_cons' ⟨T.xt4, (kitF T.tc11 (T.sb4 11 (by decide)))⟩ (all_cons' ⟨T.xt5, (kitF T.tc11 (T.sb5 11 (by decide)))⟩ (all_cons' ⟨T.xt6, (kitF T.tc11 (T.sb6 11 (by decide)))⟩ (all_cons' ⟨T.xt7, (kitF T.tc11 (T.sb7 11 (by decide)))⟩ (all_cons' ⟨T.xt8, (kitF T.tc11 (T.sb8 11 (by decide)))⟩ (all_cons' ⟨T.xt9, (kitF T.tc11 (T.sb9 11 (by decide)))⟩ (all_cons' ⟨T.xt10, (kitF T.tc11 (T.sb10 11 (by decide)))⟩ (all_cons' ⟨T.xt11, kit_self⟩ (all_cons' ⟨T.xt12, (kitF T.tc11 (T.sb12 11 (by decide)))⟩ (all_cons' ⟨T.xt13, (kitF T.tc11 (T.sb13 11 (by decide)))⟩ (all_cons' ⟨T.xt14, (kitF T.tc11 (T.sb14 11 (by decide)))⟩ (all_cons' ⟨T.xt15, (kitF T.tc11 (T.sb15 11 (by decide)))⟩ (all_cons' ⟨T.xt16, (kitF T.tc11 (T.sb16 11 (by decide)))⟩ (all_cons' ⟨T.xt17, (kitF T.tc11 (T.sb17 11 (by decide)))⟩ (all_cons' ⟨T.xt18, (kitF T.tc11 (T.sb18 11 (by decide)))⟩ (all_cons' ⟨T.xt19, (kitF T.tc11 (T.sb19 11 (by decide)))⟩ (all_cons' ⟨T.xt20, (kitF T.tc11 (T.sb20 11 (by decide)))⟩ (all_cons' ⟨T.xt21, (kitF T.tc11 (T.sb21 11 (by decide)))⟩ (all_cons' ⟨T.xt22, (kitF T.tc11 (T.sb22 11 (by decide)))⟩ (all_cons' ⟨T.xt23, (kitF T.tc11 (T.sb23 11 (by decide)))⟩ (all_cons' ⟨T.xt24, (kitF T.tc11 (T.sb24 11 (by decide)))⟩ (all_cons' ⟨T.xt25, (kitF T.tc11 (T.sb25 11 (by decide)))⟩ (all_cons' ⟨T.xt26, (kitF T.tc11 (T.sb26 11 (by decide)))⟩ all_nil'))))))))))))))))))))))))))
theorem isp_BadText (T : Txt K mg ca) : ∀ q ∈ ([(1, 12, false), (2, 12, false), (3, 12, false), (4, 12, false), (5, 12, false), (6, 12, false), (7, 12, false), (8, 12, false), (9, 12, false), (10, 12, false), (11, 12, false), (12, 12, true), (13, 12, false), (14, 12, false), (15, 12, false), (16, 12, false), (17, 12, false), (18, 12, false), (19, 12, false), (20, 12, false), (21, 12, false), (22, 12, false), (23, 12, false), (24, 12, false), (25, 12, false), (26, 12, false)] : IsTab), ExcT K (ca q.1) ∧ PySem.W.kitOne K (.ref (ca q.1)) (.ref (ca q.2.1)) = some q.2.2 := (all_cons' ⟨T.xt1, (kitF T.tc12 (T.sb1 12 (by decide)))⟩ (all_cons' ⟨T.xt2, (kitF T.tc12 (T.sb2 12 (by decide)))⟩ (all_cons' ⟨T.xt3, (kitF T.tc12 (T.sb3 12 (by decide)))⟩ (all_cons' ⟨T.xt4, (kitF T.tc12 (T.sb4 12 (by decide)))⟩ (all_cons' ⟨T.xt5, (kitF T.tc12 (T.sb5 12 (by decide)))⟩ (all_cons' ⟨T.xt6, (kitF T.tc12 (T.sb6 12 (by decide)))⟩ (all_cons' ⟨T.xt7, (kitF T.tc12 (T.sb7 12 (by decide)))⟩ (all_cons' ⟨T.xt8, (kitF T.tc12 (T.sb8 12 (by decide)))⟩ (all_cons' ⟨T.xt9, (kitF T.tc12 (T.sb9 12 (by decide)))⟩ (all_cons' ⟨T.xt10, (kitF T.tc12 (T.sb10 12 (by decide)))⟩ (all_cons' ⟨T.xt11, (kitF T.tc12 (T.sb11 12 (by decide)))⟩ (all_cons' ⟨T.xt12, kit_self⟩ (all_cons' ⟨T.xt13, (kitF T.tc12 (T.sb13 12 (by decide)))⟩ (all_cons' ⟨T.xt14, (kitF T.tc12 (T.sb14 12 (by decide)))⟩ (all_cons' ⟨T.xt15, (kitF T.tc12 (T.sb15 12 (by decide)))⟩ (all_cons' ⟨T.xt16, (kitF T.tc12 (T.sb16 12 (by decide)))⟩ (all_cons' ⟨T.xt17, (kitF T.tc12 (T.sb17 12 (by decide)))⟩ (all_cons' ⟨T.xt18, (kitF T.tc12 (T.sb18 12 (by decide)))⟩ (all_cons' ⟨T.xt19, (kitF T.tc12 (T.sb19 12 (by decide)))⟩ (all_cons' ⟨T.xt20, (kitF T.tc12 (T.sb20 12 (by decide)))⟩ (all_cons' ⟨T.xt21, (kitF T.tc12 (T.sb21 12 (by decide)))⟩ (all_cons' ⟨T.xt22, (kitF T.tc12 (T.sb22 12 (by decide)))⟩ (all_cons' ⟨T.xt23, (kitF T.tc12 (T.sb23 12 (by decide)))⟩ (all_cons' ⟨T.xt24, (kitF T.tc12 (T.sb24 12 (by decide)))⟩ (all_cons' ⟨T.xt25, (kitF T.tc12 (T.sb25 12 (by decide)))⟩ (all_cons' ⟨T.xt26, (kitF T.tc12 (T.sb26 12 (by decide)))⟩ all_nil'))))))))))))))))))))))))))
theorem isp_BadTracks (T : Txt K mg ca) : ∀ q ∈ ([(1, 13, false), (2, 13, false), (3, 13, false), (4, 13, false), (5, 13, false), (6, 13, false), (7, 13, false), (8, 13, false), (9, 13, false), (10, 13, false), (11, 13, false), (12, 13, false), (13, 13, true), (14, 13, false), (15, 13, false), (16, 13, false), (17, 13, false), (18, 13, false), (19, 13, false), (20, 13, false), (21, 13, false), (22, 13, false), (23, 13, false), (24, 13, false), (25, 13, false), (26, 13, false)] : IsTab), ExcT K (ca q.1) ∧ PySem.W.kitOne K (.ref (ca q.1)) (.ref (ca q.2.1)) = some q.2.2 := (all_cons' ⟨T.xt1, (kitF T.tc13 (T.sb1 13 (by decide)))⟩ (all_cons' ⟨T.xt2, (kitF T.tc13 (T.sb2 13 (by decide)))⟩ (all_cons' ⟨T.xt3, (kitF T.tc13 (T.sb3 13 (by decide)))⟩ (all_cons' ⟨T.xt4, (kitF T.tc13 (T.sb4 13 (by decide)))⟩ (all_cons' ⟨T.xt5, (kitF T.tc13 (T.sb5 13 (by decide)))⟩ (all_cons' ⟨T.xt6, (kitF T.tc13 (T.sb6 13 (by decide)))⟩ (all_cons' ⟨T.xt7, (kitF T.tc13 (T.sb7 13 (by decide)))⟩ (all_cons' ⟨T.xt8, (kitF T.tc13 (T.sb8 13 (by decide)))⟩ (all_cons' ⟨T.xt9, (kitF T.tc13 (T.sb9 13 (by decide)))⟩ (all_cons' ⟨T.xt10, (kitF T.tc13 (T.sb10 13 (by decide)))⟩ (all_cons' ⟨T.xt11, (kitF T.tc13 (T.sb11 13 (by decide)))⟩ (all_cons' ⟨T.xt12, (kitF T.tc13 (T.sb12 13 (by decide)))⟩ (all_cons' ⟨T.xt13, kit_self⟩ (all_cons' ⟨T.xt14, (kitF T.tc13 (T.sb14 13 (by decide)))⟩ (all_cons' ⟨T.xt15, (kitF T.tc13 (T.sb15 13 (by decide)))⟩ (all_cons' ⟨T.xt16, (kitF T.tc13 (T.sb16 13 (by decide)))⟩ (all_cons' ⟨T.xt17, (kitF T.tc13 (T.sb17 13 (by decide)))⟩ (all_cons' ⟨T.xt18, (kitF T.tc13 (T.sb18 13 (by decide)))⟩ (all_cons' ⟨T.xt19, (kitF T.tc13 (T.sb19 13 (by decide)))⟩ (all_cons' ⟨T.xt20, (kitF T.tc13 (T.sb20 13 (by decide)))⟩ (all_cons' ⟨T.xt21, (kitF T.tc13 (T.sb21 13 (by decide)))⟩ (all_cons' ⟨T.xt22, (kitF T.tc13 (T.sb22 13 (by decide)))⟩ (all_cons' ⟨T.xt23, (kitF T.tc13 (T.sb23 13 (by decide)))⟩ (all_cons' ⟨T.xt24, (kitF T.tc13 (T.sb24 13 (by decide)))⟩ (all_cons' ⟨T.xt25, (kitF T.tc13 (T.sb25 13 (by decide)))⟩ (all_cons' ⟨T.xt26, (kitF T.tc13 (T.sb26 13 (by decide)))⟩ all_nil'))))))))))))))))))))))))))
theorem isp_BadTree (T : Txt K mg ca) : ∀ q ∈ ([(1, 14, false), (2, 14, false), (3, 14, false), (4, 14, false), (5, 14, false), (6, 14, false), (7, 14, false), (8, 14, false), (9, 14, false), (10, 14, false), (11, 14, false), (12, 14, false), (13, 14, false), (14, 14, true), (15, 14, false), (16, 14, false), (17, 14, false), (18, 14, false), (19, 14, false), (20, 14, false), (21, 14, false), (22, 14, false), (23, 14, false), (24, 14, false), (25, 14, false), (26, 14, false)] : IsTab), ExcT K (ca q.1) ∧ PySem.W.kitOne K (.ref (ca q.1)) (.ref (ca q.2.1)) = some q.2.2 := (all_cons' ⟨T.xt1, (kitF T.tc14 (T.sb1 14 (by decide)))⟩ (all_cons' ⟨T.xt2, (kitF T.tc14 (T.sb2 14 (by decide)))⟩ (all_cons' ⟨T.xt3, (kitF T.tc14 (T.sb3 14 (by decide)))⟩ (all_cons' ⟨T.xt4, (kitF T.tc14 (T.sb4 14 (by decide)))⟩ (all_cons' ⟨T.xt5, (kitF T.tc14 (T.sb5 14 (by decide)))⟩ (all_cons' ⟨T.xt6, (kitF T.tc14 (T.sb6 14 (by decide)))⟩ (all_cons' ⟨T.xt7, (kitF T.tc14 (T.sb7 14 (by decide)))⟩ (all_cons' ⟨T.xt8, (kitF T.tc14 (T.sb8 14 (by decide)))⟩ (all_cons' ⟨T.xt9, (kitF T.tc14 (T.sb9 14 (by decide)))⟩ (all_cons' ⟨T.xt10, (kitF T.tc14 (T.sb10 14 (by decide)))⟩ (all_cons' ⟨T.xt11, (kitF T.tc14 (T.sb11 14 (by decide)))⟩ (all_cons' ⟨T.xt12, (kitF T.tc14 (T.sb12 14 (by decide)))⟩ (all_cons' ⟨T.xt13, (kitF T.tc14 (T.sb13 14 (by decide)))⟩ (all_cons' ⟨T.xt14, kit_self⟩ (all_cons' ⟨T.xt15, (kitF T.tc14 (T.sb15 14 (by decide)))⟩ (all_cons' ⟨T.xt16, (kitF T.tc14 (T.sb16 14 (by decide)))⟩ (all_cons' ⟨T.xt17, (kitF T.tc14 (T.sb17 14 (by decide)))⟩ (all_cons' ⟨T.xt18, (kitF T.tc14 (T.sb18 14 (by decide)))⟩ (all_cons' ⟨T.xt19, (kitF T.tc14 (T.sb19 14 (by decide)))⟩ (all_cons' ⟨T.xt20, (kitF T.tc14 (T.sb20 14 (by decide)))⟩ (all_cons' ⟨T.xt21, (kitF T.tc14 (T.sb21 14 (by decide)))⟩ (all_cons' ⟨T.xt22, (kitF T.tc14 (T.sb22 14 (by decide)))⟩ (all_cons' ⟨T.xt23, (kitF T.tc14 (T.sb23 14 (by decide)))⟩ (all_cons' ⟨T.xt24, (kitF T.tc14 (T.sb24 14 (by decide)))⟩ (all_cons' ⟨T.xt25, (kitF T.tc14 (T.sb25 14 (by decide)))⟩ (all_cons' ⟨T.xt26, (kitF T.tc14 (T.sb26 14 (by decide)))⟩ all_nil'))))))))))))))))))))))))))
theorem isp_Contradiction (T : Txt K mg ca) : ∀ q ∈ ([(1, 15, false), (2, 15, false), (3, 15, false), (4, 15, false), (5, 15, false), (6, 15, false), (7, 15, false), (8, 15, false), (9, 15, false), (10, 15, false), (11, 15, false), (12, 15, false), (13, 15, false), (14, 15, false), (15, 15, true), (16, 15, false), (17, 15, false), (18, 15, false), (19, 15, false), (20, 15, false), (21, 15, false), (22, 15, false), (23, 15, false), (24, 15, false), (25, 15, false), (26, 15, false)] : IsTab), ExcT K (ca q.1) ∧ PySem.W.kitOne K (.ref (ca q.1)) (.ref (ca q.2.1)) = some q.2.2 := (all_cons' ⟨T.xt1, (kitF T.tc15 (T.sb1 15 (by decide)))⟩ (all_cons' ⟨T.xt2, (kitF T.tc15 (T.sb2 15 (by decide)))⟩ (all_cons' ⟨T.xt3, (kitF T.tc15 (T.sb3 15 (by decide)))⟩ (all_cons' ⟨T.xt4, (kitF T.tc15 (T.sb4 15 (by decide)))⟩ (all_cons' ⟨T.xt5, (kitF T.tc15 (T.sb5 15 (by decide)))⟩ (all_cons' ⟨T.xt6, (kitF T.tc15 (T.sb6 15 (by decide)))⟩ (all_cons' ⟨T.xt7, (kitF T.tc15 (T.sb7 15 (by decide)))⟩ (all_cons' ⟨T.xt8, (kitF T.tc15 (T.sb8 15 (by decide)))⟩ (all_cons' ⟨T.xt9, (kitF T.tc15 (T.sb9 15 (by decide)))⟩ (all_cons' ⟨T.xt10, (kitF T.tc15 (T.sb10 15 (by decide)))⟩ (all_cons' ⟨T.xt11, (kitF T.tc15 (T.sb11 15 (by decide)))⟩ (all_cons' ⟨T.xt12, (kitF T.tc15 (T.sb12 15 (by decide)))⟩ (all_cons' ⟨T.xt13, (kitF T.tc15 (T.sb13 15 (by decide)))⟩ (all_cons' ⟨T.xt14, (kitF T.tc15 (T.sb14 15 (by decide)))⟩ (all_cons' ⟨T.xt15, kit_self⟩ (all_cons' ⟨T.xt16, (kitF T.tc15 (T.sb16 15 (by decide)))⟩ (all_cons' ⟨T.xt17, (kitF T.tc15 (T.sb17 15 (by decide)))⟩ (all_cons' ⟨T.xt18, (kitF T.tc15 (T.sb18 15 (by decide)))⟩ (all_cons' ⟨T.xt19, (kitF T.tc15 (T.sb19 15 (by decide)))⟩ (all_cons' ⟨T.xt20, (kitF T.tc15 (T.sb20 15 (by decide)))⟩ (all_cons' ⟨T.xt21, (kitF T.tc15 (T.sb21 15 (by decide)))⟩ (all_cons' ⟨T.xt22, (kitF T.tc15 (T.sb22 15 (by decide)))⟩ (all_cons' ⟨T.xt23, (kitF T.tc15 (T.sb23 15 (by decide)))⟩ (all_cons' ⟨T.xt24, (kitF T.tc15 (T.sb24 15 (by decide)))⟩ (all_cons' ⟨T.xt25, (kitF T.tc15 (T.sb25 15 (by decide)))⟩ (all_cons' ⟨T.xt26, (kitF T.tc15 (T.sb26 15 (by decide)))⟩ all_nil'))))))))))))))))))))))))))
theorem isp_CouldGoWrong (T : Txt K mg ca) : ∀ q ∈ ([(1, 16, false), (2, 16, false), (3, 16, false), (4, 16, false), (5, 16, false), (6, 16, false), (7, 16, false), (8, 16, false), (9, 16, false), (10, 16, false), (11, 16, false), (12, 16, false), (13, 16, false), (14, 16, false), (15, 16, false), (16, 16, true), (17, 16, false), (18, 16, false), (19, 16, false), (20, 16, false), (21, 16, false), (22, 16, false), (23, 16, false), (24, 16, false), (25, 16, false), (26, 16, false)] : IsTab), ExcT K (ca q.1) ∧ PySem.W.kitOne K (.ref (ca q.1)) (.ref (ca q.2.1)) = some q.2.2 := (all_cons' ⟨T.xt1, (kitF T.tc16 (T.sb1 16 (by decide)))⟩ (all_cons' ⟨T.xt2, (kitF T.tc16 (T.sb2 16 (by decide)))⟩ (all_cons' ⟨T.xt3, (kitF T.tc16 (T.sb3 16 (by decide)))⟩ (all_cons' ⟨T.xt4, (kitF T.tc16 (T.sb4 16 (by decide)))⟩ (all_cons' ⟨T.xt5, (kitF T.tc16 (T.sb5 16 (by decide)))⟩ (all_cons' ⟨T.xt6, (kitF T.tc16 (T.sb6 16 (by decide)))⟩ (all_cons' ⟨T.xt7, (kitF T.tc16 (T.sb7 16 (by decide)))⟩ (all_cons' ⟨T.xt8, (kitF T.tc16 (T.sb8 16 (by decide)))⟩ (all_cons' ⟨T.xt9, (kitF T.tc16 (T.sb9 16 (by decide)))⟩ (all_cons' ⟨T.xt10, (kitF T.tc16 (T.sb10 16 (by decide)))⟩ (all_cons' ⟨T.xt11, (kitF T.tc16 (T.sb11 16 (by decide)))⟩ (all_cons' ⟨T.xt12, (kitF T.tc16 (T.sb12 16 (by decide)))⟩ (all_cons' ⟨T.xt13, (kitF T.tc16 (T.sb13 16 (by decide)))⟩ (all_cons' ⟨T.xt14, (kitF T.tc16 (T.sb14 16 (by decide)))⟩ (all_cons' ⟨T.xt15, (kitF T.tc16 (T.sb15 16 (by decide)))⟩ (all_cons' ⟨T.xt16, kit_self⟩ (all_cons' ⟨T.xt17, (kitF T.tc16 (T.sb17 16 (by decide)))⟩ (all_cons' ⟨T.xt18, (kitF T.tc16 (T.sb18 16 (by decide)))⟩ (all_cons' ⟨T.xt19, (kitF T.tc16 (T.sb19 16 (by decide)))⟩ (all_cons' ⟨T.xt20, (kitF T.tc16 (T.sb20 16 (by decide)))⟩ (all_cons' ⟨T.xt21, (kitF T.tc16 (T.sb21 16 (by decide)))⟩ (all_cons' ⟨T.xt22, (kitF T.tc16 (T.sb22 16 (by decide)))⟩ (all_cons' ⟨T.xt23, (kitF T.tc16 (T.sb23 16 (by decide)))⟩ (all_cons' ⟨T.xt24, (kitF T.tc16 (T.sb24 16 (by decide)))⟩ (all_cons' ⟨T.xt25, (kitF T.tc16 (T.sb25 16 (by decide)))⟩ (all_cons' ⟨T.xt26, (kitF T.tc16 (T.sb26 16 (by decide)))⟩ all_nil'))))))))))))))))))))))))))
theorem isp_NameTaken (T : Txt K mg ca) : ∀ q ∈ ([(1, 17, false), (2, 17, false), (3, 17, false), (4, 17, false), (5, 17, false), (6, 17, false), (7, 17, false), (8, 17, false), (9, 17, false), (10, 17, false), (11, 17, false), (12, 17, false), (13, 17, false), (14, 17, false), (15, 17, false), (16, 17, false), (17, 17, true), (18, 17, false), (19, 17, false), (20, 17, false), (21, 17, false), (22, 17, false), (23, 17, false), (24, 17, false), (25, 17, false), (26, 17, false)] : IsTab), ExcT K (ca q.1) ∧ PySem.W.kitOne K (.ref (ca q.1)) (.ref (ca q.2.1)) = some q.2.2 := (all_cons' ⟨T.xt1, (kitF T.tc17 (T.sb1 17 (by decide)))⟩ (all_cons' ⟨T.xt2, (kitF T.tc17 (T.sb2 17 (by decide)))⟩ (all_cons' ⟨T.xt3, (kitF T.tc17 (T.sb3 17 (by decide)))⟩ (all_cons' ⟨T.xt4, (kitF T.tc17 (T.sb4 17 (by decide)))⟩ (all_cons' ⟨T.xt5, (kitF T.tc17 (T.sb5 17 (by decide)))⟩ (all_cons' ⟨T.xt6, (kitF T.tc17 (T.sb6 17 (by decide)))⟩ (all_cons' ⟨T.xt7, (kitF T.tc17 (T.sb7 17 (by decide)))⟩ (all_cons' ⟨T.xt8, (kitF T.tc17 (T.sb8 17 (by decide)))⟩ (all_cons' ⟨T.xt9, (kitF T.tc17 (T.sb9 17 (by decide)))⟩ (all_cons' ⟨T.xt10, (kitF T.tc17 (T.sb10 17 (by decide)))⟩ (all_cons' ⟨T.xt11, (kitF T.tc17 (T.sb11 17 (by decide)))⟩ (all_cons' ⟨T.xt12, (kitF T.tc17 (T.sb12 17 (by decide)))⟩ (all_cons' ⟨T.xt13, (kitF T.tc17 (T.sb13 17 (by decide)))⟩ (all_cons' ⟨T.xt14, (kitF T.tc17 (T.sb14 17 (by decide)))⟩ (all_cons' ⟨T.xt15, (kitF T.tc17 (T.sb15 17 (by decide)))⟩ (all_cons' ⟨T.xt16, (kitF T.tc17 (T.sb16 17 (by decide)))⟩ (all_cons' ⟨T.xt17, kit_self⟩ (all_cons' ⟨T.xt18, (kitF T.tc17 (T.sb18 17 (by decide)))⟩ (all_cons' ⟨T.xt19, (kitF T.tc17 (T.sb19 17 (by decide)))⟩ (all_cons' ⟨T.xt20, (kitF T.tc17 (T.sb20 17 (by decide)))⟩ (all_cons' ⟨T.xt21, (kitF T.tc17 (T.sb21 17 (by decide)))⟩ (all_cons' ⟨T.xt22, (kitF T.tc17 (T.sb22 17 (by decide)))⟩ (all_cons' ⟨T.xt23, (kitF T.tc17 (T.sb23 17 (by decide)))⟩ (all_cons' ⟨T.xt24, (kitF T.tc17 (T.sb24 17 (by decide)))⟩ (all_cons' ⟨T.xt25, (kitF T.tc17 (T.sb25 17 (by decide)))⟩ (all_cons' ⟨T.xt26, (kitF T.tc17 (T.sb26 17 (by decide)))⟩ all_nil'))))))))))))))))))))))))))
theorem isp_NoBranch (T : Txt K mg ca) : ∀ q ∈ ([(1, 18, false), (2, 18, false), (3, 18, false), (4, 18, false), (5, 18, false), (6, 18, false), (7, 18, false), (8, 18, false), (9, 18, false), (10, 18, false), (11, 18, false), (12, 18, false), (13, 18, false), (14, 18, false), (15, 18, false), (16, 18, false), (17, 18, false), (18, 18, true), (19, 18, false), (20, 18, false), (21, 18, false), (22, 18, false), (23, 18, false), (24, 18, false), (25, 18, false), (26, 18, false)] : IsTab), ExcT K (ca q.1) ∧ PySem.W.kitOne K (.ref (ca q.1)) (.ref (ca q.2.1)) = some q.2.2 := (all_cons' ⟨T.xt1, (kitF T.tc18 (T.sb1 18 (by decide)))⟩ (all_cons' ⟨T.xt2, (kitF T.tc18 (T.sb2 18 (by decide)))⟩ (all_cons' ⟨T.xt3, (kitF T.tc18 (T.sb3 18 (by decide)))⟩ (all_cons' ⟨T.xt4, (kitF T.tc18 (T.sb4 18 (by decide)))⟩ (all_cons' ⟨T.xt5, (kitF T.tc18 (T.sb5 18 (by decide)))⟩ (all_cons' ⟨T.xt6, (kitF T.tc18 (T.sb6 18 (by decide)))⟩ (all_cons' ⟨T.xt7, (kitF T.tc18 (T.sb7 18 (by decide)))⟩ (all_cons' ⟨T.xt8, (kitF T.tc18 (T.sb8 18 (by decide)))⟩ (all_cons' ⟨T.xt9, (kitF T.tc18 (T.sb9 18 (by decide)))⟩ (all_cons' ⟨T.xt10, (kitF T.tc18 (T.sb10 18 (by decide)))⟩ (all_cons' ⟨T.xt11, (kitF T.tc18 (T.sb11 18 (by decide)))⟩ (all_cons' ⟨T.xt12, (kitF T.tc18 (T.sb12 18 (by decide)))⟩ (all_cons' ⟨T.xt13, (kitF T.tc18 (T.sb13 18 (by decide)))⟩ (all_cons' ⟨T.xt14, (kitF T.tc18 (T.sb14 18 (by decide)))⟩ (all_cons' ⟨T.xt15, (kitF T.tc18 (T.sb15 18 (by decide)))⟩ (all_cons' ⟨T.xt16, (kitF T.tc18 (T.sb16 18 (by decide)))⟩ (all_cons' ⟨T.xt17, (kitF T.tc18 (T.sb17 18 (by decide)))⟩ (all_cons' ⟨T.xt18, kit_self⟩ (all_cons' ⟨T.xt19, (kitF T.tc18 (T.sb19 18 (by decide)))⟩ (all_cons' ⟨T.xt20, (kitF T.tc18 (T.sb20 18 (by decide)))⟩ (all_cons' ⟨T.xt21, (kitF T.tc18 (T.sb21 18 (by decide)))⟩ (all_cons' ⟨T.xt22, (kitF T.tc18 (T.sb22 18 (by decide)))⟩ (all_cons' ⟨T.xt23, (kitF T.tc18 (T.sb23 18 (by decide)))⟩ (all_cons' ⟨T.xt24, (kitF T.tc18 (T.sb24 18 (by decide)))⟩ (all_cons' ⟨T.xt25, (kitF T.tc18 (T.sb25 18 (by decide)))⟩ (all_cons' ⟨T.xt26, (kitF T.tc18 (T.sb26 18 (by decide)))⟩ all_nil'))))))))))))))))))))))))))
theorem isp_NoShape (T : Txt K mg ca) : ∀ q ∈ ([(1, 19, false), (2, 19, false), (3, 19, false), (4, 19, false), (5, 19, false), (6, 19, false), (7, 19, false), (8, 19, false), (9, 19, false), (10, 19, false), (11, 19, false), (12, 19, false), (13, 19, false), (14, 19, false), (15, 19, false), (16, 19, false), (17, 19, false), (18, 19, false), (19, 19, true), (20, 19, false), (21, 19, false), (22, 19, false), (23, 19, false), (24, 19, false), (25, 19, false), (26, 19, false)] : IsTab), ExcT K (ca q.1) ∧ PySem.W.kitOne K (.ref (ca q.1)) (.ref (ca q.2.1)) = some q.2.2 := (all_cons' ⟨T.xt1, (kitF T.tc19 (T.sb1 19 (by decide)))⟩ (all_cons' ⟨T.xt2, (kitF T.tc19 (T.sb2 19 (by decide)))⟩ (all_cons' ⟨T.xt3, (kitF T.tc19 (T.sb3 19 (by decide)))⟩ (all_cons' ⟨T.xt4, (kitF T.tc19 (T.sb4 19 (by decide)))⟩ (all_cons' ⟨T.xt5, (kitF T.tc19 (T.sb5 19 (by decide)))⟩ (all_cons' ⟨T.xt6, (kitF T.tc19 (T.sb6 19 (by decide)))⟩ (all_cons' ⟨T.xt7, (kitF T.tc19 (T.sb7 19 (by decide)))⟩ (all_cons' ⟨T.xt8, (kitF T.tc19 (T.sb8 19 (by decide)))⟩ (all_cons' ⟨T.xt9, (kitF T.tc19 (T.sb9 19 (by decide)))⟩ (all_cons' ⟨T.xt10, (kitF T.tc19 (T.sb10 19 (by decide)))⟩ (all_cons' ⟨T.xt11, (kitF T.tc19 (T.sb11 19 (by decide)))⟩ (all_cons' ⟨T.xt12, (kitF T.tc19 (T.sb12 19 (by decide)))⟩ (all_cons' ⟨T.xt13, (kitF T.tc19 (T.sb13 19 (by decide)))⟩ (all_cons' ⟨T.xt14, (kitF T.tc19 (T.sb14 19 (by decide)))⟩ (all_cons' ⟨T.xt15, (kitF T.tc19 (T.sb15 19 (by decide)))⟩ (all_cons' ⟨T.xt16, (kitF T.tc19 (T.sb16 19 (by decide)))⟩ (all_cons' ⟨T.xt17, (kitF T.tc19 (T.sb17 19 (by decide)))⟩ (all_cons' ⟨T.xt18, (kitF T.tc19 (T.sb18 19 (by decide)))⟩ (all_cons' ⟨T.xt19, kit_self⟩ (all_cons' ⟨T.xt20, (kitF T.tc19 (T.sb20 19 (by decide)))⟩ (all_cons' ⟨T.xt21, (kitF T.tc19 (T.sb21 19 (by decide)))⟩ (all_cons' ⟨T.xt22, (kitF T.tc19 (T.sb22 19 (by decide)))⟩ (all_cons' ⟨T.xt23, (kitF T.tc19 (T.sb23 19 (by decide)))⟩ (all_cons' ⟨T.xt24, (kitF T.tc19 (T.sb24 19 (by decide)))⟩ (all_cons' ⟨T.xt25, (kitF T.tc19 (T.sb25 19 (by decide)))⟩ (all_cons' ⟨T.xt26, (kitF T.tc19 (T.sb26 19 (by decide)))⟩ all_nil'))))))))))))))))))))))))))
theorem isp_NoWatch (T : Txt K mg ca) : ∀ q ∈ ([(1, 20, false), (2, 20, false), (3, 20, false), (4, 20, false), (5, 20, false), (6, 20, false), (7, 20, false), (8, 20, false), (9, 20, false), (10, 20, false), (11, 20, false), (12, 20, false), (13, 20, false), (14, 20, false), (15, 20, false), (16, 20, false), (17, 20, false), (18, 20, false), (19, 20, false), (20, 20, true), (21, 20, false), (22, 20, false), (23, 20, false), (24, 20, false), (25, 20, false), (26, 20, false)] : IsTab), ExcT K (ca q.1) ∧ PySem.W.kitOne K (.ref (ca q.1)) (.ref (ca q.2.1)) = some q.2.2 := (all_cons' ⟨T.xt1, (kitF T.tc20 (T.sb1 20 (by decide)))⟩ (all_cons' ⟨T.xt2, (kitF T.tc20 (T.sb2 20 (by decide)))⟩ (all_cons' ⟨T.xt3, (kitF T.tc20 (T.sb3 20 (by decide)))⟩ (all_cons' ⟨T.xt4, (kitF T.tc20 (T.sb4 20 (by decide)))⟩ (all_cons' ⟨T.xt5, (kitF T.tc20 (T.sb5 20 (by decide)))⟩ (all_cons' ⟨T.xt6, (kitF T.tc20 (T.sb6 20 (by decide)))⟩ (all_cons' ⟨T.xt7, (kitF T.tc20 (T.sb7 20 (by decide)))⟩ (all_cons' ⟨T.xt8, (kitF T.tc20 (T.sb8 20 (by decide)))⟩ (all_cons' ⟨T.xt9, (kitF T.tc20 (T.sb9 20 (by decide)))⟩ (all_cons' ⟨T.xt10, (kitF T.tc20 (T.sb10 20 (by decide)))⟩ (all_cons' ⟨T.xt11, (kitF T.tc20 (T.sb11 20 (by decide)))⟩ (all_cons' ⟨T.xt12, (kitF T.tc20 (T.sb12 20 (by decide)))⟩ (all_cons' ⟨T.xt13, (kitF T.tc20 (T.sb13 20 (by decide)))⟩ (all_cons' ⟨T.xt14, (kitF T.tc20 (T.sb14 20 (by decide)))⟩ (all_cons' ⟨T.xt15, (kitF T.tc20 (T.sb15 20 (by decide)))⟩ (all_cons' ⟨T.xt16, (kitF T.tc20 (T.sb16 20 (by decide)))⟩ (all_cons' ⟨T.xt17, (kitF T.tc20 (T.sb17 20 (by decide)))⟩ (all_cons' ⟨T.xt18, (kitF T.tc20 (T.sb18 20 (by decide)))⟩ (all_cons' ⟨T.xt19, (kitF T.tc20 (T.sb19 20 (by decide)))⟩ (all_cons' ⟨T.xt20, kit_self⟩ (all_cons' ⟨T.xt21, (kitF T.tc20 (T.sb21 20 (by decide)))⟩ (all_cons' ⟨T.xt22, (kitF T.tc20 (T.sb22 20 (by decide)))⟩ (all_cons' ⟨T.xt23, (kitF T.tc20 (T.sb23 20 (by decide)))⟩ (all_cons' ⟨T.xt24, (kitF T.tc20 (T.sb24 20 (by decide)))⟩ (all_cons' ⟨T.xt25, (kitF T.tc20 (T.sb25 20 (by decide)))⟩ (all_cons' ⟨T.xt26, (kitF T.tc20 (T.sb26 20 (by decide)))⟩ all_nil'))))))))))))))))))))))))))
theorem isp_NotRecording (T : Txt K mg ca) : ∀ q ∈ ([(1, 21, false), (2, 21, false), (3, 21, false), (4, 21, false), (5, 21, false), (6, 21, false), (7, 21, false), (8, 21, false), (9, 21, false), (10, 21, false), (11, 21, false), (12, 21, false), (13, 21, false), (14, 21, false), (15, 21, false), (16, 21, false), (17, 21, false), (18, 21, false), (19, 21, false), (20, 21, false), (21, 21, true), (22, 21, false), (23, 21, false), (24, 21, false), (25, 21, false), (26, 21, false)] : IsTab), ExcT K (ca q.1) ∧ PySem.W.kitOne K (.ref (ca q.1)) (.ref (ca q.2.1)) = some q.2.2 := (all_cons' ⟨T.xt1, (kitF T.tc21 (T.sb1 21 (by decide)))⟩ (all_cons' ⟨T.xt2, (kitF T.tc21 (T.sb2 21 (by decide)))⟩ (all_cons' ⟨T.xt3, (kitF T.tc21 (T.sb3 21 (by decide)))⟩ (all_cons' ⟨T.xt4, (kitF T.tc21 (T.sb4 21 (by decide)))⟩ (all_cons' ⟨T.xt5, (kitF T.tc21 (T.sb5 21 (by decide)))⟩ (all_cons' ⟨T.xt6, (kitF T.tc21 (T.sb6 21 (by decide)))⟩ (all_cons' ⟨T.xt7, (kitF T.tc21 (T.sb7 21 (by decide)))⟩ (all_cons' ⟨T.xt8, (kitF T.tc21 (T.sb8 21 (by decide)))⟩ (all_cons' ⟨T.xt9, (kitF T.tc21 (T.sb9 21 (by decide)))⟩ (all_cons' ⟨T.xt10, (kitF T.tc21 (T.sb10 21 (by decide)))⟩ (all_cons' ⟨T.xt11, (kitF T.tc21 (T.sb11 21 (by decide)))⟩ (all_cons' ⟨T.xt12, (kitF T.tc21 (T.sb12 21 (by decide)))⟩ (all_cons' ⟨T.xt13, (kitF T.tc21 (T.sb13 21 (by decide)))⟩ (all_cons' ⟨T.xt14, (kitF T.tc21 (T.sb14 21 (by decide)))⟩ (all_cons' ⟨T.xt15, (kitF T.tc21 (T.sb15 21 (by decide)))⟩ (all_cons' ⟨T.xt16, (kitF T.tc21 (T.sb16 21 (by decide)))⟩ (all_cons' ⟨T.xt17, (kitF T.tc21 (T.sb17 21 (by decide)))⟩ (all_cons' ⟨T.xt18, (kitF T.tc21 (T.sb18 21 (by decide)))⟩ (all_cons' ⟨T.xt19, (kitF T.tc21 (T.sb19 21 (by decide)))⟩ (all_cons' ⟨T.xt20, (kitF T.tc21 (T.sb20 21 (by decide)))⟩ (all_cons' ⟨T.xt21, kit_self⟩ (all_cons' ⟨T.xt22, (kitF T.tc21 (T.sb22 21 (by decide)))⟩ (all_cons' ⟨T.xt23, (kitF T.tc21 (T.sb23 21 (by decide)))⟩ (all_cons' ⟨T.xt24, (kitF T.tc21 (T.sb24 21 (by decide)))⟩ (all_cons' ⟨T.xt25, (kitF T.tc21 (T.sb25 21 (by decide)))⟩ (all_cons' ⟨T.xt26, (kitF T.tc21 (T.sb26 21 (by decide)))⟩ all_nil'))))))))))))))))))))))))))
theorem isp_NotSure (T : Txt K mg ca) : ∀ q ∈ ([(1, 22, false), (2, 22, false), (3, 22, false), (4, 22, false), (5, 22, false), (6, 22, false), (7, 22, false), (8, 22, false), (9, 22, false), (10, 22, false), (11, 22, false), (12, 22, false), (13, 22, false), (14, 22, false), (15, 22, false), (16, 22, false), (17, 22, false), (18, 22, false), (19, 22, false), (20, 22, false), (21, 22, false), (22, 22, true), (23, 22, false), (24, 22, false), (25, 22, false), (26, 22, false)] : IsTab), ExcT K (ca q.1) ∧ PySem.W.kitOne K (.ref (ca q.1)) (.ref (ca q.2.1)) = some q.2.2 := (all_cons' ⟨T.xt1, (kitF T.tc22 (T.sb1 22 (by decide)))⟩ (all_cons' ⟨T.xt2, (kitF T.tc22 (T.sb2 22 (by decide)))⟩ (all_cons' ⟨T.xt3, (kitF T.tc22 (T.sb3 22 (by decide)))⟩ (all_cons' ⟨T.xt4, (kitF T.tc22 (T.sb4 22 (by decide)))⟩ (all_cons' ⟨T.xt5, (kitF T.tc22 (T.sb5 22 (by decide)))⟩ (all_cons' ⟨T.xt6, (kitF T.tc22 (T.sb6 22 (by decide)))⟩ (all_cons' ⟨T.xt7, (kitF T.tc22 (T.sb7 22 (by decide)))⟩ (all_cons' ⟨T.xt8, (kitF T.tc22 (T.sb8 22 (by decide)))⟩ (all_cons' ⟨T.xt9, (kitF T.tc22 (T.sb9 22 (by decide)))⟩ (all_cons' ⟨T.xt10, (kitF T.tc22 (T.sb10 22 (by decide)))⟩ (all_cons' ⟨T.xt11, (kitF T.tc22 (T.sb11 22 (by decide)))⟩ (all_cons' ⟨T.xt12, (kitF T.tc22 (T.sb12 22 (by decide)))⟩ (all_cons' ⟨T.xt13, (kitF T.tc22 (T.sb13 22 (by decide)))⟩ (all_cons' ⟨T.xt14, (kitF T.tc22 (T.sb14 22 (by decide)))⟩ (all_cons' ⟨T.xt15, (kitF T.tc22 (T.sb15 22 (by decide)))⟩ (all_cons' ⟨T.xt16, (kitF T.tc22 (T.sb16 22 (by decide)))⟩ (all_cons' ⟨T.xt17, (kitF T.tc22 (T.sb17 22 (by decide)))⟩ (all_cons' ⟨T.xt18, (kitF T.tc22 (T.sb18 22 (by decide)))⟩ (all_cons' ⟨T.xt19, (kitF T.tc22 (T.sb19 22 (by decide)))⟩ (all_cons' ⟨T.xt20, (kitF T.tc22 (T.sb20 22 (by decide)))⟩ (all_cons' ⟨T.xt21, (kitF T.tc22 (T.sb21 22 (by decide)))⟩ (all_cons' ⟨T.xt22, kit_self⟩ (all_cons' ⟨T.xt23, (kitF T.tc22 (T.sb23 22 (by decide)))⟩ (all_cons' ⟨T.xt24, (kitF T.tc22 (T.sb24 22 (by decide)))⟩ (all_cons' ⟨T.xt25, (kitF T.tc22 (T.sb25 22 (by decide)))⟩ (all_cons' ⟨T.xt26, (kitF T.tc22 (T.sb26 22 (by decide)))⟩ all_nil'))))))))))))))))))))))))))
theorem isp_NothingToUndo (T : Txt K mg ca) : ∀ q ∈ ([(1, 23, false), (2, 23, false), (3, 23, false), (4, 23, false), (5, 23, false), (6, 23, false), (7, 23, false), (8, 23, false), (9, 23, false), (10, 23, false), (11, 23, false), (12, 23, false), (13, 23, false), (14, 23, false), (15, 23, false), (16, 23, false), (17, 23, false), (18, 23, false), (19, 23, false), (20, 23, false), (21, 23, false), (22, 23, false), (23, 23, true), (24, 23, false), (25, 23, false), (26, 23, false)] : IsTab), ExcT K (ca q.1) ∧ PySem.W.kitOne K (.ref (ca q.1)) (.ref (ca q.2.1)) = some q.2.2 := (all_cons' ⟨T.xt1, (kitF T.tc23 (T.sb1 23 (by decide)))⟩ (all_cons' ⟨T.xt2, (kitF T.tc23 (T.sb2 23 (by decide)))⟩ (all_cons' ⟨T.xt3, (kitF T.tc23 (T.sb3 23 (by decide)))⟩ (all_cons' ⟨T.xt4, (kitF T.tc23 (T.sb4 23 (by decide)))⟩ (all_cons' ⟨T.xt5, (kitF T.tc23 (T.sb5 23 (by decide)))⟩ (all_cons' ⟨T.xt6, (kitF T.tc23 (T.sb6 23 (by decide)))⟩ (all_cons' ⟨T.xt7, (kitF T.tc23 (T.sb7 23 (by decide)))⟩ (all_cons' ⟨T.xt8, (kitF T.tc23 (T.sb8 23 (by decide)))⟩ (all_cons' ⟨T.xt9, (kitF T.tc23 (T.sb9 23 (by decide)))⟩ (all_cons' ⟨T.xt10, (kitF T.tc23 (T.sb10 23 (by decide)))⟩ (all_cons' ⟨T.xt11, (kitF T.tc23 (T.sb11 23 (by decide)))⟩ (all_cons' ⟨T.xt12, (kitF T.tc23 (T.sb12 23 (by decide)))⟩ (all_cons' ⟨T.xt13, (kitF T.tc23 (T.sb13 23 (by decide)))⟩ (all_cons' ⟨T.xt14, (kitF T.tc23 (T.sb14 23 (by decide)))⟩ (all_cons' ⟨T.xt15, (kitF T.tc23 (T.sb15 23 (by decide)))⟩ (all_cons' ⟨T.xt16, (kitF T.tc23 (T.sb16 23 (by decide)))⟩ (all_cons' ⟨T.xt17, (kitF T.tc23 (T.sb17 23 (by decide)))⟩ (all_cons' ⟨T.xt18, (kitF T.tc23 (T.sb18 23 (by decide)))⟩ (all_cons' ⟨T.xt19, (kitF T.tc23 (T.sb19 23 (by decide)))⟩ (all_cons' ⟨T.xt20, (kitF T.tc23 (T.sb20 23 (by decide)))⟩ (all_cons' ⟨T.xt21, (kitF T.tc23 (T.sb21 23 (by decide)))⟩ (all_cons' ⟨T.xt22, (kitF T.tc23 (T.sb22 23 (by decide)))⟩ (all_cons' ⟨T.xt23, kit_self⟩ (all_cons' ⟨T.xt24, (kitF T.tc23 (T.sb24 23 (by decide)))⟩ (all_cons' ⟨T.xt25, (kitF T.tc23 (T.sb25 23 (by decide)))⟩ (all_cons' ⟨T.xt26, (kitF T.tc23 (T.sb26 23 (by decide)))⟩ all_nil'))))))))))))))))))))))))))
theorem isp_UnknownName (T : Txt K mg ca) : ∀ q ∈ ([(1, 24, false), (2, 24, false), (3, 24, false), (4, 24, false), (5, 24, false), (6, 24, false), (7, 24, false), (8, 24, false), (9, 24, false), (10, 24, false), (11, 24, false), (12, 24, false), (13, 24, false), (14, 24, false), (15, 24, false), (16, 24, false), (17, 24, false), (18, 24, false), (19, 24, false), (20, 24, false), (21, 24, false), (22, 24, false), (23, 24, false), (24, 24, true), (25, 24, false), (26, 24, false)] : IsTab), ExcT K (ca q.1) ∧ PySem.W.kitOne K (.ref (ca q.1)) (.ref (ca q.2.1)) = some q.2.2 := (all_cons' ⟨T.xt1, (kitF T.tc24 (T.sb1 24 (by decide)))⟩ (all_cons' ⟨T.xt2, (kitF T.tc24 (T.sb2 24 (by decide)))⟩ (all_cons' ⟨T.xt3, (kitF T.tc24 (T.sb3 24 (by decide)))⟩ (all_cons' ⟨T.xt4, (kitF T.tc24 (T.sb4 24 (by decide)))⟩ (all_cons' ⟨T.xt5, (kitF T.tc24 (T.sb5 24 (by decide)))⟩ (all_cons' ⟨T.xt6, (kitF T.tc24 (T.sb6 24 (by decide)))⟩ (all_cons' ⟨T.xt7, (kitF T.tc24 (T.sb7 24 (by decide)))⟩ (all_cons' ⟨T.xt8, (kitF T.tc24 (T.sb8 24 (by decide)))⟩ (all_cons' ⟨T.xt9, (kitF T.tc24 (T.sb9 24 (by decide)))⟩ (all_cons' ⟨T.xt10, (kitF T.tc24 (T.sb10 24 (by decide)))⟩ (all_cons' ⟨T.xt11, (kitF T.tc24 (T.sb11 24 (by decide)))⟩ (all_cons' ⟨T.xt12, (kitF T.tc24 (T.sb12 24 (by decide)))⟩ (all_cons' ⟨T.xt13, (kitF T.tc24 (T.sb13 24 (by decide)))⟩ (all_cons' ⟨T.xt14, (kitF T.tc24 (T.sb14 24 (by decide)))⟩ (all_cons' ⟨T.xt15, (kitF T.tc24 (T.sb15 24 (by decide)))⟩ (all_cons' ⟨T.xt16, (kitF T.tc24 (T.sb16 24 (by decide)))⟩ (all_cons' ⟨T.xt17, (kitF T.tc24 (T.sb17 24 (by decide)))⟩ (all_cons' ⟨T.xt18, (kitF T.tc24 (T.sb18 24 (by decide)))⟩ (all_cons' ⟨T.xt19, (kitF T.tc24 (T.sb19 24 (by decide)))⟩ (all_cons' ⟨T.xt20, (kitF T.tc24 (T.sb20 24 (by decide)))⟩ (all_cons' ⟨T.xt21, (kitF T.tc24 (T.sb21 24 (by decide)))⟩ (all_cons' ⟨T.xt22, (kitF T.tc24 (T.sb22 24 (by decide)))⟩ (all_cons' ⟨T.xt23, (kitF T.tc24 (T.sb23 24 (by decide)))⟩ (all_cons' ⟨T.xt24, kit_self⟩ (all_cons' ⟨T.xt25, (kitF T.tc24 (T.sb25 24 (by decide)))⟩ (all_cons' ⟨T.xt26, (kitF T.tc24 (T.sb26 24 (by decide)))⟩ all_nil'))))))))))))))))))))))))))
theorem isp_UnlikeMarks (T : Txt K mg ca) : ∀ q ∈ ([(1, 25, false), (2, 25, false), (3, 25, false), (4, 25, false), (5, 25, false), (6, 25, false), (7, 25, false), (8, 25, false), (9, 25, false), (10, 25, false), (11, 25, false), (12, 25, false), (13, 25, false), (14, 25, false), (15, 25, false), (16, 25, false), (17, 25, false), (18, 25, false), (19, 25, false), (20, 25, false), (21, 25, false), (22, 25, false), (23, 25, false), (24, 25, false), (25, 25, true), (26, 25, false)] : IsTab), ExcT K (ca q.1) ∧ PySem.W.kitOne K (.ref (ca q.1)) (.ref (ca q.2.1)) = some q.2.2 := (all_cons' ⟨T.xt1, (kitF T.tc25 (T.sb1 25 (by decide)))⟩ (all_cons' ⟨T.xt2, (kitF T.tc25 (T.sb2 25 (by decide)))⟩ (all_cons' ⟨T.xt3, (kitF T.tc25 (T.sb3 25 (by decide)))⟩ (all_cons' ⟨T.xt4, (kitF T.tc25 (T.sb4 25 (by decide)))⟩ (all_cons' ⟨T.xt5, (kitF T.tc25 (T.sb5 25 (by decide)))⟩ (all_cons' ⟨T.xt6, (kitF T.tc25 (T.sb6 25 (by decide)))⟩ (all_cons' ⟨T.xt7, (kitF T.tc25 (T.sb7 25 (by decide)))⟩ (all_cons' ⟨T.xt8, (kitF T.tc25 (T.sb8 25 (by decide)))⟩ (all_cons' ⟨T.xt9, (kitF T.tc25 (T.sb9 25 (by decide)))⟩ (all_cons' ⟨T.xt10, (kitF T.tc25 (T.sb10 25 (by decide)))⟩ (all_cons' ⟨T.xt11, (kitF T.tc25 (T.sb11 25 (by decide)))⟩ (all_cons' ⟨T.xt12, (kitF T.tc25 (T.sb12 25 (by decide)))⟩ (all_cons' ⟨T.xt13, (kitF T.tc25 (T.sb13 25 (by decide)))⟩ (all_cons' ⟨T.xt14, (kitF T.tc25 (T.sb14 25 (by decide)))⟩ (all_cons' ⟨T.xt15, (kitF T.tc25 (T.sb15 25 (by decide)))⟩ (all_cons' ⟨T.xt16, (kitF T.tc25 (T.sb16 25 (by decide)))⟩ (all_cons' ⟨T.xt17, (kitF T.tc25 (T.sb17 25 (by decide)))⟩ (all_cons' ⟨T.xt18, (kitF T.tc25 (T.sb18 25 (by decide)))⟩ (all_cons' ⟨T.xt19, (kitF T.tc25 (T.sb19 25 (by decide)))⟩ (all_cons' ⟨T.xt20, (kitF T.tc25 (T.sb20 25 (by decide)))⟩ (all_cons' ⟨T.xt21, (kitF T.tc25 (T.sb21 25 (by decide)))⟩ (all_cons' ⟨T.xt22, (kitF T.tc25 (T.sb22 25 (by decide)))⟩ (all_cons' ⟨T.xt23, (kitF T.tc25 (T.sb23 25 (by decide)))⟩ (all_cons' ⟨T.xt24, (kitF T.tc25 (T.sb24 25 (by decide)))⟩ (all_cons' ⟨T.xt25, kit_self⟩ (all_cons' ⟨T.xt26, (kitF T.tc25 (T.sb26 25 (by decide)))⟩ all_nil'))))))))))))))))))))))))))
theorem isp_UnlikeTracks (T : Txt K mg ca) : ∀ q ∈ ([(1, 26, false), (2, 26, false), (3, 26, false), (4, 26, false), (5, 26, false), (6, 26, false), (7, 26, false), (8, 26, false), (9, 26, false), (10, 26, false), (11, 26, false), (12, 26, false), (13, 26, false), (14, 26, false), (15, 26, false), (16, 26, false), (17, 26, false), (18, 26, false), (19, 26, false), (20, 26, false), (21, 26, false), (22, 26, false), (23, 26, false), (24, 26, false), (25, 26, false), (26, 26, true)] : IsTab), ExcT K (ca q.1) ∧ PySem.W.kitOne K (.ref (ca q.1)) (.ref (ca q.2.1)) = some q.2.2 := (all_cons' ⟨T.xt1, (kitF T.tc26 (T.sb1 26 (by decide)))⟩ (all_cons' ⟨T.xt2, (kitF T.tc26 (T.sb2 26 (by decide)))⟩ (all_cons' ⟨T.xt3, (kitF T.tc26 (T.sb3 26 (by decide)))⟩ (all_cons' ⟨T.xt4, (kitF T.tc26 (T.sb4 26 (by decide)))⟩ (all_cons' ⟨T.xt5, (kitF T.tc26 (T.sb5 26 (by decide)))⟩ (all_cons' ⟨T.xt6, (kitF T.tc26 (T.sb6 26 (by decide)))⟩ (all_cons' ⟨T.xt7, (kitF T.tc26 (T.sb7 26 (by decide)))⟩ (all_cons' ⟨T.xt8, (kitF T.tc26 (T.sb8 26 (by decide)))⟩ (all_cons' ⟨T.xt9, (kitF T.tc26 (T.sb9 26 (by decide)))⟩ (all_cons' ⟨T.xt10, (kitF T.tc26 (T.sb10 26 (by decide)))⟩ (all_cons' ⟨T.xt11, (kitF T.tc26 (T.sb11 26 (by decide)))⟩ (all_cons' ⟨T.xt12, (kitF T.tc26 (T.sb12 26 (by decide)))⟩ (all_cons' ⟨T.xt13, (kitF T.tc26 (T.sb13 26 (by decide)))⟩ (all_cons' ⟨T.xt14, (kitF T.tc26 (T.sb14 26 (by decide)))⟩ (all_cons' ⟨T.xt15, (kitF T.tc26 (T.sb15 26 (by decide)))⟩ (all_cons' ⟨T.xt16, (kitF T.tc26 (T.sb16 26 (by decide)))⟩ (all_cons' ⟨T.xt17, (kitF T.tc26 (T.sb17 26 (by decide)))⟩ (all_cons' ⟨T.xt18, (kitF T.tc26 (T.sb18 26 (by decide)))⟩ (all_cons' ⟨T.xt19, (kitF T.tc26 (T.sb19 26 (by decide)))⟩ (all_cons' ⟨T.xt20, (kitF T.tc26 (T.sb20 26 (by decide)))⟩ (all_cons' ⟨T.xt21, (kitF T.tc26 (T.sb21 26 (by decide)))⟩ (all_cons' ⟨T.xt22, (kitF T.tc26 (T.sb22 26 (by decide)))⟩ (all_cons' ⟨T.xt23, (kitF T.tc26 (T.sb23 26 (by decide)))⟩ (all_cons' ⟨T.xt24, (kitF T.tc26 (T.sb24 26 (by decide)))⟩ (all_cons' ⟨T.xt25, (kitF T.tc26 (T.sb25 26 (by decide)))⟩ (all_cons' ⟨T.xt26, kit_self⟩ all_nil'))))))))))))))))))))))))))
theorem isp_ValueError (T : Txt K mg ca) : ∀ q ∈ ([(1, "ValueError", true), (2, "ValueError", true), (3, "ValueError", true), (4, "ValueError", true), (5, "ValueError", true), (6, "ValueError", true), (7, "ValueError", true), (8, "ValueError", true), (9, "ValueError", true), (10, "ValueError", true), (11, "ValueError", true), (12, "ValueError", true), (13, "ValueError", true), (14, "ValueError", true), (15, "ValueError", true), (16, "ValueError", true), (17, "ValueError", true), (18, "ValueError", true), (19, "ValueError", true), (20, "ValueError", true), (21, "ValueError", true), (22, "ValueError", true), (23, "ValueError", true), (24, "ValueError", true), (25, "ValueError", true), (26, "ValueError", true)] : List (Nat × String × Bool)), ExcT K (ca q.1) ∧ PySem.W.kitOne K (.ref (ca q.1)) (.type q.2.1) = some q.2.2 := (all_cons' ⟨T.xt1, T.kb1_ValueError⟩ (all_cons' ⟨T.xt2, T.kb2_ValueError⟩ (all_cons' ⟨T.xt3, T.kb3_ValueError⟩ (all_cons' ⟨T.xt4, T.kb4_ValueError⟩ (all_cons' ⟨T.xt5, T.kb5_ValueError⟩ (all_cons' ⟨T.xt6, T.kb6_ValueError⟩ (all_cons' ⟨T.xt7, T.kb7_ValueError⟩ (all_cons' ⟨T.xt8, T.kb8_ValueError⟩ (all_cons' ⟨T.xt9, T.kb9_ValueError⟩ (all_cons' ⟨T.xt10, T.kb10_ValueError⟩ (all_cons' ⟨T.xt11, T.kb11_ValueError⟩ (all_cons' ⟨T.xt12, T.kb12_ValueError⟩ (all_cons' ⟨T.xt13, T.kb13_ValueError⟩ (all_cons' ⟨T.xt14, T.kb14_ValueError⟩ (all_cons' ⟨T.xt15, T.kb15_ValueError⟩ (all_cons' ⟨T.xt16, T.kb16_ValueError⟩ (all_cons' ⟨T.xt17, T.kb17_ValueError⟩ (all_cons' ⟨T.xt18, T.kb18_ValueError⟩ (all_cons' ⟨T.xt19, T.kb19_ValueError⟩ (all_cons' ⟨T.xt20, T.kb20_ValueError⟩ (all_cons' ⟨T.xt21, T.kb21_ValueError⟩ (all_cons' ⟨T.xt22, T.kb22_ValueError⟩ (all_cons' ⟨T.xt23, T.kb23_ValueError⟩ (all_cons' ⟨T.xt24, T.kb24_ValueError⟩ (all_cons' ⟨T.xt25, T.kb25_ValueError⟩ (all_cons' ⟨T.xt26, T.kb26_ValueError⟩ all_nil'))))))))))))))))))))))))))
theorem sc_BadDeed___init__ : FnScope [("self" : Str), ("index" : Str)] [("self" : Str), ("index" : Str)] (defScope st_BadDeed___init__) := ⟨rfl, rfl, rfl, by decide +kernel, rfl, by decide +kernel, by decide +kernel⟩
theorem xmak_BadDeed (T : Txt K mg ca) : XMak P w K mg base ca 1 ("BadDeed" : Str) 2 [("index" : Str)] := T.i_BadDeed.mak1 T.ox2 T.c_BadDeed T.xn2_index sc_BadDeed___init__ (fun fa cdv A outer sh H E => pss_cons (ps_expr (pe_oinit rfl T.c_TakesError.cmg T.bx1.rd T.bx1.ga T.bx1.at_ (pa_cons (pe_var (i := 0) rfl (.inl rfl)) (pa_cons pe_str pa_nil)))) (pss_one (ps_ost (pe_var (i := 0) rfl (.inl rfl)) (pe_var (i := 1) rfl (.inl rfl)))))
theorem sc_BadEdit___init__ : FnScope [("self" : Str), ("step" : Str)] [("self" : Str), ("step" : Str)] (defScope st_BadEdit___init__) := ⟨rfl, rfl, rfl, by decide +kernel, rfl, by decide +kernel, by decide +kernel⟩
theorem xmak_BadEdit (T : Txt K mg ca) : XMak P w K mg base ca 1 ("BadEdit" : Str) 3 [("step" : Str)] := T.i_BadEdit.mak1 T.ox3 T.c_BadEdit T.xn3_step sc_BadEdit___init__ (fun fa cdv A outer sh H E => pss_cons (ps_expr (pe_oinit rfl T.c_TakesError.cmg T.bx1.rd T.bx1.ga T.bx1.at_ (pa_cons (pe_var (i := 0) rfl (.inl rfl)) (pa_cons pe_str pa_nil)))) (pss_one (ps_ost (pe_var (i := 0) rfl (.inl rfl)) (pe_var (i := 1) rfl (.inl rfl)))))
theorem sc_BadFact___init__ : FnScope [("self" : Str), ("index" : Str)] [("self" : Str), ("index" : Str)] (defScope st_BadFact___init__) := ⟨rfl, rfl, rfl, by decide +kernel, rfl, by decide +kernel, by decide +kernel⟩
theorem xmak_BadFact (T : Txt K mg ca) : XMak P w K mg base ca 1 ("BadFact" : Str) 4 [("index" : Str)] := T.i_BadFact.mak1 T.ox4 T.c_BadFact T.xn4_index sc_BadFact___init__ (fun fa cdv A outer sh H E => pss_cons (ps_expr (pe_oinit rfl T.c_TakesError.cmg T.bx1.rd T.bx1.ga T.bx1.at_ (pa_cons (pe_var (i := 0) rfl (.inl rfl)) (pa_cons pe_str pa_nil)))) (pss_one (ps_ost (pe_var (i := 0) rfl (.inl rfl)) (pe_var (i := 1) rfl (.inl rfl)))))
theorem sc_BadFault___init__ : FnScope [("self" : Str), ("index" : Str)] [("self" : Str), ("index" : Str)] (defScope st_BadFault___init__) := ⟨rfl, rfl, rfl, by decide +kernel, rfl, by decide +kernel, by decide +kernel⟩
theorem xmak_BadFault (T : Txt K mg ca) : XMak P w K mg base ca 1 ("BadFault" : Str) 5 [("index" : Str)] := T.i_BadFault.mak1 T.ox5 T.c_BadFault T.xn5_index sc_BadFault___init__ (fun fa cdv A outer sh H E => pss_cons (ps_expr (pe_oinit rfl T.c_TakesError.cmg T.bx1.rd T.bx1.ga T.bx1.at_ (pa_cons (pe_var (i := 0) rfl (.inl rfl)) (pa_cons pe_str pa_nil)))) (pss_one (ps_ost (pe_var (i := 0) rfl (.inl rfl)) (pe_var (i := 1) rfl (.inl rfl)))))
theorem sc_BadMarks___init__ : FnScope [("self" : Str), ("index" : Str)] [("self" : Str), ("index" : Str)] (defScope st_BadMarks___init__) := ⟨rfl, rfl, rfl, by decide +kernel, rfl, by decide +kernel, by decide +kernel⟩
theorem xmak_BadMarks (T : Txt K mg ca) : XMak P w K mg base ca 1 ("BadMarks" : Str) 6 [("index" : Str)] := T.i_BadMarks.mak1 T.ox6 T.c_BadMarks T.xn6_index sc_BadMarks___init__ (fun fa cdv A outer sh H E => pss_cons (ps_expr (pe_oinit rfl T.c_TakesError.cmg T.bx1.rd T.bx1.ga T.bx1.at_ (pa_cons (pe_var (i := 0) rfl (.inl rfl)) (pa_cons pe_str pa_nil)))) (pss_one (ps_ost (pe_var (i := 0) rfl (.inl rfl)) (pe_var (i := 1) rfl (.inl rfl)))))
theorem sc_BadPlace___init__ : FnScope [("self" : Str), ("index" : Str)] [("self" : Str), ("index" : Str)] (defScope st_BadPlace___init__) := ⟨rfl, rfl, rfl, by decide +kernel, rfl, by decide +kernel, by decide +kernel⟩
theorem xmak_BadPlace (T : Txt K mg ca) : XMak P w K mg base ca 1 ("BadPlace" : Str) 9 [("index" : Str)] := T.i_BadPlace.mak1 T.ox9 T.c_BadPlace T.xn9_index sc_BadPlace___init__ (fun fa cdv A outer sh H E => pss_cons (ps_expr (pe_oinit rfl T.c_TakesError.cmg T.bx1.rd T.bx1.ga T.bx1.at_ (pa_cons (pe_var (i := 0) rfl (.inl rfl)) (pa_cons pe_str pa_nil)))) (pss_one (ps_ost (pe_var (i := 0) rfl (.inl rfl)) (pe_var (i := 1) rfl (.inl rfl)))))
theorem sc_BadStep___init__ : FnScope [("self" : Str), ("step" : Str)] [("self" : Str), ("step" : Str)] (defScope st_BadStep___init__) := ⟨rfl, rfl, rfl, by decide +kernel, rfl, by decide +kernel, by decide +kernel⟩
theorem xmak_BadStep (T : Txt K mg ca) : XMak P w K mg base ca 1 ("BadStep" : Str) 10 [("step" : Str)] := T.i_BadStep.mak1 T.ox10 T.c_BadStep T.xn10_step sc_BadStep___init__ (fun fa cdv A outer sh H E => pss_cons (ps_expr (pe_oinit rfl T.c_TakesError.cmg T.bx1.rd T.bx1.ga T.bx1.at_ (pa_cons (pe_var (i := 0) rfl (.inl rfl)) (pa_cons pe_str pa_nil)))) (pss_one (ps_ost (pe_var (i := 0) rfl (.inl rfl)) (pe_var (i := 1) rfl (.inl rfl)))))
theorem sc_BadTakes___init__ : FnScope [("self" : Str), ("index" : Str)] [("self" : Str), ("index" : Str)] (defScope st_BadTakes___init__) := ⟨rfl, rfl, rfl, by decide +kernel, rfl, by decide +kernel, by decide +kernel⟩
theorem xmak_BadTakes (T : Txt K mg ca) : XMak P w K mg base ca 1 ("BadTakes" : Str) 11 [("index" : Str)] := T.i_BadTakes.mak1 T.ox11 T.c_BadTakes T.xn11_index sc_BadTakes___init__ (fun fa cdv A outer sh H E => pss_cons (ps_expr (pe_oinit rfl T.c_TakesError.cmg T.bx1.rd T.bx1.ga T.bx1.at_ (pa_cons (pe_var (i := 0) rfl (.inl rfl)) (pa_cons pe_str pa_nil)))) (pss_one (ps_ost (pe_var (i := 0) rfl (.inl rfl)) (pe_var (i := 1) rfl (.inl rfl)))))
theorem sc_BadText___init__ : FnScope [("self" : Str), ("line" : Str)] [("self" : Str), ("line" : Str)] (defScope st_BadText___init__) := ⟨rfl, rfl, rfl, by decide +kernel, rfl, by decide +kernel, by decide +kernel⟩
theorem xmak_BadText (T : Txt K mg ca) : XMak P w K mg base ca 1 ("BadText" : Str) 12 [("line" : Str)] := T.i_BadText.mak1 T.ox12 T.c_BadText T.xn12_line sc_BadText___init__ (fun fa cdv A outer sh H E => pss_cons (ps_expr (pe_oinit rfl T.c_TakesError.cmg T.bx1.rd T.bx1.ga T.bx1.at_ (pa_cons (pe_var (i := 0) rfl (.inl rfl)) (pa_cons pe_str pa_nil)))) (pss_one (ps_ost (pe_var (i := 0) rfl (.inl rfl)) (pe_var (i := 1) rfl (.inl rfl)))))
theorem sc_BadTracks___init__ : FnScope [("self" : Str), ("index" : Str)] [("self" : Str), ("index" : Str)] (defScope st_BadTracks___init__) := ⟨rfl, rfl, rfl, by decide +kernel, rfl, by decide +kernel, by decide +kernel⟩
theorem xmak_BadTracks (T : Txt K mg ca) : XMak P w K mg base ca 1 ("BadTracks" : Str) 13 [("index" : Str)] := T.i_BadTracks.mak1 T.ox13 T.c_BadTracks T.xn13_index sc_BadTracks___init__ (fun fa cdv A outer sh H E => pss_cons (ps_expr (pe_oinit rfl T.c_TakesError.cmg T.bx1.rd T.bx1.ga T.bx1.at_ (pa_cons (pe_var (i := 0) rfl (.inl rfl)) (pa_cons pe_str pa_nil)))) (pss_one (ps_ost (pe_var (i := 0) rfl (.inl rfl)) (pe_var (i := 1) rfl (.inl rfl)))))
theorem sc_BadTree___init__ : FnScope [("self" : Str), ("index" : Str)] [("self" : Str), ("index" : Str)] (defScope st_BadTree___init__) := ⟨rfl, rfl, rfl, by decide +kernel, rfl, by decide +kernel, by decide +kernel⟩
theorem xmak_BadTree (T : Txt K mg ca) : XMak P w K mg base ca 1 ("BadTree" : Str) 14 [("index" : Str)] := T.i_BadTree.mak1 T.ox14 T.c_BadTree T.xn14_index sc_BadTree___init__ (fun fa cdv A outer sh H E => pss_cons (ps_expr (pe_oinit rfl T.c_TakesError.cmg T.bx1.rd T.bx1.ga T.bx1.at_ (pa_cons (pe_var (i := 0) rfl (.inl rfl)) (pa_cons pe_str pa_nil)))) (pss_one (ps_ost (pe_var (i := 0) rfl (.inl rfl)) (pe_var (i := 1) rfl (.inl rfl)))))
theorem sc_Contradiction___init__ : FnScope [("self" : Str), ("ring" : Str)] [("self" : Str), ("ring" : Str)] (defScope st_Contradiction___init__) := ⟨rfl, rfl, rfl, by decide +kernel, rfl, by decide +kernel, by decide +kernel⟩
theorem xmak_Contradiction (T : Txt K mg ca) : XMak P w K mg base ca 1 ("Contradiction" : Str) 15 [("ring" : Str)] := T.i_Contradiction.mak1 T.ox15 T.c_Contradiction T.xn15_ring sc_Contradiction___init__ (fun fa cdv A outer sh H E => pss_cons (ps_expr (pe_oinit rfl T.c_TakesError.cmg T.bx1.rd T.bx1.ga T.bx1.at_ (pa_cons (pe_var (i := 0) rfl (.inl rfl)) (pa_cons pe_str pa_nil)))) (pss_one (ps_ost (pe_var (i := 0) rfl (.inl rfl)) (pe_var (i := 1) rfl (.inl rfl)))))
theorem sc_CouldGoWrong___init__ : FnScope [("self" : Str), ("step" : Str), ("kind" : Str), ("recording" : Str)] [("self" : Str), ("step" : Str), ("kind" : Str), ("recording" : Str)] (defScope st_CouldGoWrong___init__) := ⟨rfl, rfl, rfl, by decide +kernel, rfl, by decide +kernel, by decide +kernel⟩
theorem xmak_CouldGoWrong (T : Txt K mg ca) : XMak P w K mg base ca 1 ("CouldGoWrong" : Str) 16 [("step" : Str), ("kind" : Str), ("recording" : Str)] := T.i_CouldGoWrong.mak3 T.ox16 T.c_CouldGoWrong T.xn16_step T.xn16_kind T.xn16_recording sc_CouldGoWrong___init__ (fun fa cdv A outer sh H E => pss_cons (ps_expr (pe_oinit rfl T.c_TakesError.cmg T.bx1.rd T.bx1.ga T.bx1.at_ (pa_cons (pe_var (i := 0) rfl (.inl rfl)) (pa_cons pe_str pa_nil)))) (pss_cons (ps_ost (pe_var (i := 0) rfl (.inl rfl)) (pe_var (i := 1) rfl (.inl rfl))) (pss_cons (ps_ost (pe_var (i := 0) rfl (.inl rfl)) (pe_var (i := 2) rfl (.inl rfl))) (pss_one (ps_ost (pe_var (i := 0) rfl (.inl rfl)) (pe_var (i := 3) rfl (.inl rfl)))))))
theorem sc_NameTaken___init__ : FnScope [("self" : Str), ("name" : Str)] [("self" : Str), ("name" : Str)] (defScope st_NameTaken___init__) := ⟨rfl, rfl, rfl, by decide +kernel, rfl, by decide +kernel, by decide +kernel⟩
theorem xmak_NameTaken (T : Txt K mg ca) : XMak P w K mg base ca 1 ("NameTaken" : Str) 17 [("name" : Str)] := T.i_NameTaken.mak1 T.ox17 T.c_NameTaken T.xn17_name sc_NameTaken___init__ (fun fa cdv A outer sh H E => pss_cons (ps_expr (pe_oinit rfl T.c_TakesError.cmg T.bx1.rd T.bx1.ga T.bx1.at_ (pa_cons (pe_var (i := 0) rfl (.inl rfl)) (pa_cons pe_str pa_nil)))) (pss_one (ps_ost (pe_var (i := 0) rfl (.inl rfl)) (pe_var (i := 1) rfl (.inl rfl)))))
theorem sc_NoBranch___init__ : FnScope [("self" : Str), ("name" : Str)] [("self" : Str), ("name" : Str)] (defScope st_NoBranch___init__) := ⟨rfl, rfl, rfl, by decide +kernel, rfl, by decide +kernel, by decide +kernel⟩
theorem xmak_NoBranch (T : Txt K mg ca) : XMak P w K mg base ca 1 ("NoBranch" : Str) 18 [("name" : Str)] := T.i_NoBranch.mak1 T.ox18 T.c_NoBranch T.xn18_name sc_NoBranch___init__ (fun fa cdv A outer sh H E => pss_cons (ps_expr (pe_oinit rfl T.c_TakesError.cmg T.bx1.rd T.bx1.ga T.bx1.at_ (pa_cons (pe_var (i := 0) rfl (.inl rfl)) (pa_cons pe_str pa_nil)))) (pss_one (ps_ost (pe_var (i := 0) rfl (.inl rfl)) (pe_var (i := 1) rfl (.inl rfl)))))
theorem sc_NoWatch___init__ : FnScope [("self" : Str), ("name" : Str)] [("self" : Str), ("name" : Str)] (defScope st_NoWatch___init__) := ⟨rfl, rfl, rfl, by decide +kernel, rfl, by decide +kernel, by decide +kernel⟩
theorem xmak_NoWatch (T : Txt K mg ca) : XMak P w K mg base ca 1 ("NoWatch" : Str) 20 [("name" : Str)] := T.i_NoWatch.mak1 T.ox20 T.c_NoWatch T.xn20_name sc_NoWatch___init__ (fun fa cdv A outer sh H E => pss_cons (ps_expr (pe_oinit rfl T.c_TakesError.cmg T.bx1.rd T.bx1.ga T.bx1.at_ (pa_cons (pe_var (i := 0) rfl (.inl rfl)) (pa_cons pe_str pa_nil)))) (pss_one (ps_ost (pe_var (i := 0) rfl (.inl rfl)) (pe_var (i := 1) rfl (.inl rfl)))))
theorem sc_NotSure___init__ : FnScope [("self" : Str), ("recording" : Str)] [("self" : Str), ("recording" : Str)] (defScope st_NotSure___init__) := ⟨rfl, rfl, rfl, by decide +kernel, rfl, by decide +kernel, by decide +kernel⟩
theorem xmak_NotSure (T : Txt K mg ca) : XMak P w K mg base ca 1 ("NotSure" : Str) 22 [("recording" : Str)] := T.i_NotSure.mak1 T.ox22 T.c_NotSure T.xn22_recording sc_NotSure___init__ (fun fa cdv A outer sh H E => pss_cons (ps_expr (pe_oinit rfl T.c_TakesError.cmg T.bx1.rd T.bx1.ga T.bx1.at_ (pa_cons (pe_var (i := 0) rfl (.inl rfl)) (pa_cons pe_str pa_nil)))) (pss_one (ps_ost (pe_var (i := 0) rfl (.inl rfl)) (pe_var (i := 1) rfl (.inl rfl)))))
theorem sc_UnknownName___init__ : FnScope [("self" : Str), ("name" : Str)] [("self" : Str), ("name" : Str)] (defScope st_UnknownName___init__) := ⟨rfl, rfl, rfl, by decide +kernel, rfl, by decide +kernel, by decide +kernel⟩
theorem xmak_UnknownName (T : Txt K mg ca) : XMak P w K mg base ca 1 ("UnknownName" : Str) 24 [("name" : Str)] := T.i_UnknownName.mak1 T.ox24 T.c_UnknownName T.xn24_name sc_UnknownName___init__ (fun fa cdv A outer sh H E => pss_cons (ps_expr (pe_oinit rfl T.c_TakesError.cmg T.bx1.rd T.bx1.ga T.bx1.at_ (pa_cons (pe_var (i := 0) rfl (.inl rfl)) (pa_cons pe_str pa_nil)))) (pss_one (ps_ost (pe_var (i := 0) rfl (.inl rfl)) (pe_var (i := 1) rfl (.inl rfl)))))
/-! ### _law_raised_more -/
abbrev N__law_raised_more : List Str := [("way" : Str)]
theorem sc__law_raised_more : FnScope N__law_raised_more [("way" : Str)] (defScope st__law_raised_more) := ⟨rfl, rfl, rfl, by decide +kernel, rfl, by decide +kernel, by decide +kernel⟩
theorem body__law_raised_more (T : Txt K mg ca) (f : Addr) (cdv : Value) (A : Around) (outer : List Env) (s : Shared) (H : Hp) (E : XK) (hr : Room 2 (cxD P w K mg base N__law_raised_more ("_law_raised_more" : Str) (defScope st__law_raised_more) f cdv A outer s H E).A) (tk : Takes (cxD P w K mg base N__law_raised_more ("_law_raised_more" : Str) (defScope st__law_raised_more) f cdv A outer s H E) (wD E))
    (hp : PassesOwn (model P w) (cxD P w K mg base N__law_raised_more ("_law_raised_more" : Str) (defScope st__law_raised_more) f cdv A outer s H E).A (cxD P w K mg base N__law_raised_more ("_law_raised_more" : Str) (defScope st__law_raised_more) f cdv A outer s H E).env (cxD P w K mg base N__law_raised_more ("_law_raised_more" : Str) (defScope st__law_raised_more) f cdv A outer s H E).xe) :
    PSs (cxD P w K mg base N__law_raised_more ("_law_raised_more" : Str) (defScope st__law_raised_more) f cdv A outer s H E) (defBody st__law_raised_more) (tS ⟨K, ca⟩ (wD E) (B__law_raised_more)) := by
  have nd := (sc__law_raised_more).nd
  exact (sd_seq (sd_if (td_cmp (op_eqD hr.units) eq_s (pd_var 0) pd_int)
  (sd_one (sd_raise (xmak_BadTree T) (hr.mono (by decide)) rfl tk (ad_cons pd_int ad_nil)))
  sd_nil)
  (sd_seq (sd_if (td_cmp (op_eqD hr.units) eq_s (pd_var 0) pd_int)
  (sd_one (sd_raise (xmak_Contradiction T) (hr.mono (by decide)) rfl tk (ad_cons (pd_tup (ad_cons (pd_tup (ad_cons pd_str (ad_cons pd_str (ad_cons pd_int ad_nil)))) (ad_cons (pd_tup (ad_cons pd_str (ad_cons pd_str (ad_cons (pd_un un_neg neg_s pd_int) ad_nil)))) ad_nil))) ad_nil)))
  sd_nil)
  (sd_seq (sd_if (td_cmp (op_eqD hr.units) eq_s (pd_var 0) pd_int)
  (sd_one (sd_raise (xmak_CouldGoWrong T) (hr.mono (by decide)) rfl tk (ad_cons pd_int (ad_cons pd_str (ad_cons (pd_tup (ad_cons pd_int (ad_cons pd_int ad_nil))) ad_nil)))))
  sd_nil)
  (sd_seq (sd_if (td_cmp (op_eqD hr.units) eq_s (pd_var 0) pd_int)
  (sd_one (sd_raise (xmak_NameTaken T) (hr.mono (by decide)) rfl tk (ad_cons pd_str ad_nil)))
  sd_nil)
  (sd_seq (sd_if (td_cmp (op_eqD hr.units) eq_s (pd_var 0) pd_int)
  (sd_one (sd_raise (xmak_NoBranch T) (hr.mono (by decide)) rfl tk (ad_cons pd_str ad_nil)))
  sd_nil)
  (sd_seq (sd_if (td_cmp (op_eqD hr.units) eq_s (pd_var 0) pd_int)
  (sd_one (sd_raise0 T.m0_NoShape rfl tk))
  sd_nil)
  (sd_seq (sd_if (td_cmp (op_eqD hr.units) eq_s (pd_var 0) pd_int)
  (sd_one (sd_raise (xmak_NoWatch T) (hr.mono (by decide)) rfl tk (ad_cons pd_str ad_nil)))
  sd_nil)
  (sd_seq (sd_if (td_cmp (op_eqD hr.units) eq_s (pd_var 0) pd_int)
  (sd_one (sd_raise0 T.m0_NotRecording rfl tk))
  sd_nil)
  (sd_seq (sd_if (td_cmp (op_eqD hr.units) eq_s (pd_var 0) pd_int)
  (sd_one (sd_raise (xmak_NotSure T) (hr.mono (by decide)) rfl tk (ad_cons (pd_tup (ad_cons pd_int (ad_cons pd_int ad_nil))) ad_nil)))
  sd_nil)
  (sd_seq (sd_if (td_cmp (op_eqD hr.units) eq_s (pd_var 0) pd_int)
  (sd_one (sd_raise0 T.m0_NothingToUndo rfl tk))
  sd_nil)
  (sd_seq (sd_if (td_cmp (op_eqD hr.units) eq_s (pd_var 0) pd_int)
  (sd_one (sd_raise (xmak_UnknownName T) (hr.mono (by decide)) rfl tk (ad_cons pd_str ad_nil)))
  sd_nil)
  (sd_seq (sd_if (td_cmp (op_eqD hr.units) eq_s (pd_var 0) pd_int)
  (sd_one (sd_raise0 T.m0_UnlikeMarks rfl tk))
  sd_nil)
  (sd_one (sd_if (td_cmp (op_eqD hr.units) eq_s (pd_var 0) pd_int)
  (sd_one (sd_raise0 T.m0_UnlikeTracks rfl tk))
  sd_nil))))))))))))))
theorem has__law_raised_more (T : Txt K mg ca) : Has P w K mg base ca 3 ("_law_raised_more" : Str) 1 F__law_raised_more := T.d__law_raised_more.has sc__law_raised_more rfl (body__law_raised_more T)
/-! ### _law_raised_one -/
abbrev N__law_raised_one : List Str := [("way" : Str)]
theorem sc__law_raised_one : FnScope N__law_raised_one [("way" : Str)] (defScope st__law_raised_one) := ⟨rfl, rfl, rfl, by decide +kernel, rfl, by decide +kernel, by decide +kernel⟩
theorem body__law_raised_one (T : Txt K mg ca) (f : Addr) (cdv : Value) (A : Around) (outer : List Env) (s : Shared) (H : Hp) (E : XK) (hr : Room 3 (cxD P w K mg base N__law_raised_one ("_law_raised_one" : Str) (defScope st__law_raised_one) f cdv A outer s H E).A) (tk : Takes (cxD P w K mg base N__law_raised_one ("_law_raised_one" : Str) (defScope st__law_raised_one) f cdv A outer s H E) (wD E))
    (hp : PassesOwn (model P w) (cxD P w K mg base N__law_raised_one ("_law_raised_one" : Str) (defScope st__law_raised_one) f cdv A outer s H E).A (cxD P w K mg base N__law_raised_one ("_law_raised_one" : Str) (defScope st__law_raised_one) f cdv A outer s H E).env (cxD P w K mg base N__law_raised_one ("_law_raised_one" : Str) (defScope st__law_raised_one) f cdv A outer s H E).xe) :
    PSs (cxD P w K mg base N__law_raised_one ("_law_raised_one" : Str) (defScope st__law_raised_one) f cdv A outer s H E) (defBody st__law_raised_one) (tS ⟨K, ca⟩ (wD E) (B__law_raised_one)) := by
  have nd := (sc__law_raised_one).nd
  exact (sd_seq (sd_if (td_cmp (op_eqD hr.units) eq_s (pd_var 0) pd_int)
  (sd_one (sd_raise (xmak_BadDeed T) (hr.mono (by decide)) rfl tk (ad_cons pd_int ad_nil)))
  sd_nil)
  (sd_seq (sd_if (td_cmp (op_eqD hr.units) eq_s (pd_var 0) pd_int)
  (sd_one (sd_raise (xmak_BadEdit T) (hr.mono (by decide)) rfl tk (ad_cons pd_int ad_nil)))
  sd_nil)
  (sd_seq (sd_if (td_cmp (op_eqD hr.units) eq_s (pd_var 0) pd_int)
  (sd_one (sd_raise (xmak_BadFact T) (hr.mono (by decide)) rfl tk (ad_cons pd_int ad_nil)))
  sd_nil)
  (sd_seq (sd_if (td_cmp (op_eqD hr.units) eq_s (pd_var 0) pd_int)
  (sd_one (sd_raise (xmak_BadFault T) (hr.mono (by decide)) rfl tk (ad_cons pd_int ad_nil)))
  sd_nil)
  (sd_seq (sd_if (td_cmp (op_eqD hr.units) eq_s (pd_var 0) pd_int)
  (sd_one (sd_raise (xmak_BadMarks T) (hr.mono (by decide)) rfl tk (ad_cons pd_int ad_nil)))
  sd_nil)
  (sd_seq (sd_if (td_cmp (op_eqD hr.units) eq_s (pd_var 0) pd_int)
  (sd_one (sd_raise0 T.m0_BadNumbers rfl tk))
  sd_nil)
  (sd_seq (sd_if (td_cmp (op_eqD hr.units) eq_s (pd_var 0) pd_int)
  (sd_one (sd_raise0 T.m0_BadPairs rfl tk))
  sd_nil)
  (sd_seq (sd_if (td_cmp (op_eqD hr.units) eq_s (pd_var 0) pd_int)
  (sd_one (sd_raise (xmak_BadPlace T) (hr.mono (by decide)) rfl tk (ad_cons pd_int ad_nil)))
  sd_nil)
  (sd_seq (sd_if (td_cmp (op_eqD hr.units) eq_s (pd_var 0) pd_int)
  (sd_one (sd_raise (xmak_BadStep T) (hr.mono (by decide)) rfl tk (ad_cons pd_int ad_nil)))
  sd_nil)
  (sd_seq (sd_if (td_cmp (op_eqD hr.units) eq_s (pd_var 0) pd_int)
  (sd_one (sd_raise (xmak_BadTakes T) (hr.mono (by decide)) rfl tk (ad_cons pd_int ad_nil)))
  sd_nil)
  (sd_seq (sd_if (td_cmp (op_eqD hr.units) eq_s (pd_var 0) pd_int)
  (sd_one (sd_raise (xmak_BadText T) (hr.mono (by decide)) rfl tk (ad_cons pd_int ad_nil)))
  sd_nil)
  (sd_seq (sd_if (td_cmp (op_eqD hr.units) eq_s (pd_var 0) pd_int)
  (sd_one (sd_raise (xmak_BadTracks T) (hr.mono (by decide)) rfl tk (ad_cons pd_int ad_nil)))
  sd_nil)
  (sd_one (sd_expr (pd_fn (Has.mono (has__law_raised_more T) (by first | decide | exact Nat.le_refl _)) hr tk (ad_cons (pd_var 0) ad_nil))))))))))))))))
theorem has__law_raised_one (T : Txt K mg ca) : Has P w K mg base ca 4 ("_law_raised_one" : Str) 1 F__law_raised_one := T.d__law_raised_one.has sc__law_raised_one rfl (body__law_raised_one T)
/-! ### _law_marks -/
abbrev N__law_marks : List Str := [("e" : Str), ("marks" : Str)]
theorem sc__law_marks : FnScope N__law_marks [("e" : Str)] (defScope st__law_marks) := ⟨rfl, rfl, rfl, by decide +kernel, rfl, by decide +kernel, by decide +kernel⟩
theorem bodyW__law_marks (T : Txt K mg ca) (f : Addr) (cdv : Value) (A : Around) (outer : List Env) (s : Shared) (H : Hp) (E : XK) (hr : L2H.RoomH 0 (cxW P w K mg base N__law_marks ("_law_marks" : Str) (defScope st__law_marks) f cdv A outer s H E).A) (tk : Takes (cxW P w K mg base N__law_marks ("_law_marks" : Str) (defScope st__law_marks) f cdv A outer s H E) (wD E)) :
    PSs (cxW P w K mg base N__law_marks ("_law_marks" : Str) (defScope st__law_marks) f cdv A outer s H E) (defBody st__law_marks) (tS ⟨K, ca⟩ (wD E) (B__law_marks)) := by
  have nd := (sc__law_marks).nd
  exact (sd_seq (sd_set 1 nd (pd_lst (ad_cons (pd_callB call_isQ (isX_s (T := [(1, 2, false), (2, 2, true), (3, 2, false), (4, 2, false), (5, 2, false), (6, 2, false), (7, 2, false), (8, 2, false), (9, 2, false), (10, 2, false), (11, 2, false), (12, 2, false), (13, 2, false), (14, 2, false), (15, 2, false), (16, 2, false), (17, 2, false), (18, 2, false), (19, 2, false), (20, 2, false), (21, 2, false), (22, 2, false), (23, 2, false), (24, 2, false), (25, 2, false), (26, 2, false)]) (U := []) (isp_BadDeed T) all_nil') T.z_isinstance rfl (ad_cons (pd_var 0) (ad_cons (pd_cst T.c_BadDeed (fun _ _ _ => .cls _)) ad_nil))) (ad_cons (pd_callB call_isQ (isX_s (T := [(1, 3, false), (2, 3, false), (3, 3, true), (4, 3, false), (5, 3, false), (6, 3, false), (7, 3, false), (8, 3, false), (9, 3, false), (10, 3, false), (11, 3, false), (12, 3, false), (13, 3, false), (14, 3, false), (15, 3, false), (16, 3, false), (17, 3, false), (18, 3, false), (19, 3, false), (20, 3, false), (21, 3, false), (22, 3, false), (23, 3, false), (24, 3, false), (25, 3, false), (26, 3, false)]) (U := []) (isp_BadEdit T) all_nil') T.z_isinstance rfl (ad_cons (pd_var 0) (ad_cons (pd_cst T.c_BadEdit (fun _ _ _ => .cls _)) ad_nil))) (ad_cons (pd_callB call_isQ (isX_s (T := [(1, 4, false), (2, 4, false), (3, 4, false), (4, 4, true), (5, 4, false), (6, 4, false), (7, 4, false), (8, 4, false), (9, 4, false), (10, 4, false), (11, 4, false), (12, 4, false), (13, 4, false), (14, 4, false), (15, 4, false), (16, 4, false), (17, 4, false), (18, 4, false), (19, 4, false), (20, 4, false), (21, 4, false), (22, 4, false), (23, 4, false), (24, 4, false), (25, 4, false), (26, 4, false)]) (U := []) (isp_BadFact T) all_nil') T.z_isinstance rfl (ad_cons (pd_var 0) (ad_cons (pd_cst T.c_BadFact (fun _ _ _ => .cls _)) ad_nil))) ad_nil)))))
  (sd_seq (sd_set 1 nd (pd_op op_addD add_s (pd_var 1) (pd_lst (ad_cons (pd_callB call_isQ (isX_s (T := [(1, 5, false), (2, 5, false), (3, 5, false), (4, 5, false), (5, 5, true), (6, 5, false), (7, 5, false), (8, 5, false), (9, 5, false), (10, 5, false), (11, 5, false), (12, 5, false), (13, 5, false), (14, 5, false), (15, 5, false), (16, 5, false), (17, 5, false), (18, 5, false), (19, 5, false), (20, 5, false), (21, 5, false), (22, 5, false), (23, 5, false), (24, 5, false), (25, 5, false), (26, 5, false)]) (U := []) (isp_BadFault T) all_nil') T.z_isinstance rfl (ad_cons (pd_var 0) (ad_cons (pd_cst T.c_BadFault (fun _ _ _ => .cls _)) ad_nil))) (ad_cons (pd_callB call_isQ (isX_s (T := [(1, 6, false), (2, 6, false), (3, 6, false), (4, 6, false), (5, 6, false), (6, 6, true), (7, 6, false), (8, 6, false), (9, 6, false), (10, 6, false), (11, 6, false), (12, 6, false), (13, 6, false), (14, 6, false), (15, 6, false), (16, 6, false), (17, 6, false), (18, 6, false), (19, 6, false), (20, 6, false), (21, 6, false), (22, 6, false), (23, 6, false), (24, 6, false), (25, 6, false), (26, 6, false)]) (U := []) (isp_BadMarks T) all_nil') T.z_isinstance rfl (ad_cons (pd_var 0) (ad_cons (pd_cst T.c_BadMarks (fun _ _ _ => .cls _)) ad_nil))) (ad_cons (pd_callB call_isQ (isX_s (T := [(1, 7, false), (2, 7, false), (3, 7, false), (4, 7, false), (5, 7, false), (6, 7, false), (7, 7, true), (8, 7, false), (9, 7, false), (10, 7, false), (11, 7, false), (12, 7, false), (13, 7, false), (14, 7, false), (15, 7, false), (16, 7, false), (17, 7, false), (18, 7, false), (19, 7, false), (20, 7, false), (21, 7, false), (22, 7, false), (23, 7, false), (24, 7, false), (25, 7, false), (26, 7, false)]) (U := []) (isp_BadNumbers T) all_nil') T.z_isinstance rfl (ad_cons (pd_var 0) (ad_cons (pd_cst T.c_BadNumbers (fun _ _ _ => .cls _)) ad_nil))) ad_nil))))))
  (sd_seq (sd_set 1 nd (pd_op op_addD add_s (pd_var 1) (pd_lst (ad_cons (pd_callB call_isQ (isX_s (T := [(1, 8, false), (2, 8, false), (3, 8, false), (4, 8, false), (5, 8, false), (6, 8, false), (7, 8, false), (8, 8, true), (9, 8, false), (10, 8, false), (11, 8, false), (12, 8, false), (13, 8, false), (14, 8, false), (15, 8, false), (16, 8, false), (17, 8, false), (18, 8, false), (19, 8, false), (20, 8, false), (21, 8, false), (22, 8, false), (23, 8, false), (24, 8, false), (25, 8, false), (26, 8, false)]) (U := []) (isp_BadPairs T) all_nil') T.z_isinstance rfl (ad_cons (pd_var 0) (ad_cons (pd_cst T.c_BadPairs (fun _ _ _ => .cls _)) ad_nil))) (ad_cons (pd_callB call_isQ (isX_s (T := [(1, 9, false), (2, 9, false), (3, 9, false), (4, 9, false), (5, 9, false), (6, 9, false), (7, 9, false), (8, 9, false), (9, 9, true), (10, 9, false), (11, 9, false), (12, 9, false), (13, 9, false), (14, 9, false), (15, 9, false), (16, 9, false), (17, 9, false), (18, 9, false), (19, 9, false), (20, 9, false), (21, 9, false), (22, 9, false), (23, 9, false), (24, 9, false), (25, 9, false), (26, 9, false)]) (U := []) (isp_BadPlace T) all_nil') T.z_isinstance rfl (ad_cons (pd_var 0) (ad_cons (pd_cst T.c_BadPlace (fun _ _ _ => .cls _)) ad_nil))) (ad_cons (pd_callB call_isQ (isX_s (T := [(1, 10, false), (2, 10, false), (3, 10, false), (4, 10, false), (5, 10, false), (6, 10, false), (7, 10, false), (8, 10, false), (9, 10, false), (10, 10, true), (11, 10, false), (12, 10, false), (13, 10, false), (14, 10, false), (15, 10, false), (16, 10, false), (17, 10, false), (18, 10, false), (19, 10, false), (20, 10, false), (21, 10, false), (22, 10, false), (23, 10, false), (24, 10, false), (25, 10, false), (26, 10, false)]) (U := []) (isp_BadStep T) all_nil') T.z_isinstance rfl (ad_cons (pd_var 0) (ad_cons (pd_cst T.c_BadStep (fun _ _ _ => .cls _)) ad_nil))) ad_nil))))))
  (sd_seq (sd_set 1 nd (pd_op op_addD add_s (pd_var 1) (pd_lst (ad_cons (pd_callB call_isQ (isX_s (T := [(1, 11, false), (2, 11, false), (3, 11, false), (4, 11, false), (5, 11, false), (6, 11, false), (7, 11, false), (8, 11, false), (9, 11, false), (10, 11, false), (11, 11, true), (12, 11, false), (13, 11, false), (14, 11, false), (15, 11, false), (16, 11, false), (17, 11, false), (18, 11, false), (19, 11, false), (20, 11, false), (21, 11, false), (22, 11, false), (23, 11, false), (24, 11, false), (25, 11, false), (26, 11, false)]) (U := []) (isp_BadTakes T) all_nil') T.z_isinstance rfl (ad_cons (pd_var 0) (ad_cons (pd_cst T.c_BadTakes (fun _ _ _ => .cls _)) ad_nil))) (ad_cons (pd_callB call_isQ (isX_s (T := [(1, 12, false), (2, 12, false), (3, 12, false), (4, 12, false), (5, 12, false), (6, 12, false), (7, 12, false), (8, 12, false), (9, 12, false), (10, 12, false), (11, 12, false), (12, 12, true), (13, 12, false), (14, 12, false), (15, 12, false), (16, 12, false), (17, 12, false), (18, 12, false), (19, 12, false), (20, 12, false), (21, 12, false), (22, 12, false), (23, 12, false), (24, 12, false), (25, 12, false), (26, 12, false)]) (U := []) (isp_BadText T) all_nil') T.z_isinstance rfl (ad_cons (pd_var 0) (ad_cons (pd_cst T.c_BadText (fun _ _ _ => .cls _)) ad_nil))) (ad_cons (pd_callB call_isQ (isX_s (T := [(1, 13, false), (2, 13, false), (3, 13, false), (4, 13, false), (5, 13, false), (6, 13, false), (7, 13, false), (8, 13, false), (9, 13, false), (10, 13, false), (11, 13, false), (12, 13, false), (13, 13, true), (14, 13, false), (15, 13, false), (16, 13, false), (17, 13, false), (18, 13, false), (19, 13, false), (20, 13, false), (21, 13, false), (22, 13, false), (23, 13, false), (24, 13, false), (25, 13, false), (26, 13, false)]) (U := []) (isp_BadTracks T) all_nil') T.z_isinstance rfl (ad_cons (pd_var 0) (ad_cons (pd_cst T.c_BadTracks (fun _ _ _ => .cls _)) ad_nil))) ad_nil))))))
  (sd_seq (sd_set 1 nd (pd_op op_addD add_s (pd_var 1) (pd_lst (ad_cons (pd_callB call_isQ (isX_s (T := [(1, 14, false), (2, 14, false), (3, 14, false), (4, 14, false), (5, 14, false), (6, 14, false), (7, 14, false), (8, 14, false), (9, 14, false), (10, 14, false), (11, 14, false), (12, 14, false), (13, 14, false), (14, 14, true), (15, 14, false), (16, 14, false), (17, 14, false), (18, 14, false), (19, 14, false), (20, 14, false), (21, 14, false), (22, 14, false), (23, 14, false), (24, 14, false), (25, 14, false), (26, 14, false)]) (U := []) (isp_BadTree T) all_nil') T.z_isinstance rfl (ad_cons (pd_var 0) (ad_cons (pd_cst T.c_BadTree (fun _ _ _ => .cls _)) ad_nil))) (ad_cons (pd_callB call_isQ (isX_s (T := [(1, 15, false), (2, 15, false), (3, 15, false), (4, 15, false), (5, 15, false), (6, 15, false), (7, 15, false), (8, 15, false), (9, 15, false), (10, 15, false), (11, 15, false), (12, 15, false), (13, 15, false), (14, 15, false), (15, 15, true), (16, 15, false), (17, 15, false), (18, 15, false), (19, 15, false), (20, 15, false), (21, 15, false), (22, 15, false), (23, 15, false), (24, 15, false), (25, 15, false), (26, 15, false)]) (U := []) (isp_Contradiction T) all_nil') T.z_isinstance rfl (ad_cons (pd_var 0) (ad_cons (pd_cst T.c_Contradiction (fun _ _ _ => .cls _)) ad_nil))) (ad_cons (pd_callB call_isQ (isX_s (T := [(1, 16, false), (2, 16, false), (3, 16, false), (4, 16, false), (5, 16, false), (6, 16, false), (7, 16, false), (8, 16, false), (9, 16, false), (10, 16, false), (11, 16, false), (12, 16, false), (13, 16, false), (14, 16, false), (15, 16, false), (16, 16, true), (17, 16, false), (18, 16, false), (19, 16, false), (20, 16, false), (21, 16, false), (22, 16, false), (23, 16, false), (24, 16, false), (25, 16, false), (26, 16, false)]) (U := []) (isp_CouldGoWrong T) all_nil') T.z_isinstance rfl (ad_cons (pd_var 0) (ad_cons (pd_cst T.c_CouldGoWrong (fun _ _ _ => .cls _)) ad_nil))) ad_nil))))))
  (sd_seq (sd_set 1 nd (pd_op op_addD add_s (pd_var 1) (pd_lst (ad_cons (pd_callB call_isQ (isX_s (T := [(1, 17, false), (2, 17, false), (3, 17, false), (4, 17, false), (5, 17, false), (6, 17, false), (7, 17, false), (8, 17, false), (9, 17, false), (10, 17, false), (11, 17, false), (12, 17, false), (13, 17, false), (14, 17, false), (15, 17, false), (16, 17, false), (17, 17, true), (18, 17, false), (19, 17, false), (20, 17, false), (21, 17, false), (22, 17, false), (23, 17, false), (24, 17, false), (25, 17, false), (26, 17, false)]) (U := []) (isp_NameTaken T) all_nil') T.z_isinstance rfl (ad_cons (pd_var 0) (ad_cons (pd_cst T.c_NameTaken (fun _ _ _ => .cls _)) ad_nil))) (ad_cons (pd_callB call_isQ (isX_s (T := [(1, 18, false), (2, 18, false), (3, 18, false), (4, 18, false), (5, 18, false), (6, 18, false), (7, 18, false), (8, 18, false), (9, 18, false), (10, 18, false), (11, 18, false), (12, 18, false), (13, 18, false), (14, 18, false), (15, 18, false), (16, 18, false), (17, 18, false), (18, 18, true), (19, 18, false), (20, 18, false), (21, 18, false), (22, 18, false), (23, 18, false), (24, 18, false), (25, 18, false), (26, 18, false)]) (U := []) (isp_NoBranch T) all_nil') T.z_isinstance rfl (ad_cons (pd_var 0) (ad_cons (pd_cst T.c_NoBranch (fun _ _ _ => .cls _)) ad_nil))) (ad_cons (pd_callB call_isQ (isX_s (T := [(1, 19, false), (2, 19, false), (3, 19, false), (4, 19, false), (5, 19, false), (6, 19, false), (7, 19, false), (8, 19, false), (9, 19, false), (10, 19, false), (11, 19, false), (12, 19, false), (13, 19, false), (14, 19, false), (15, 19, false), (16, 19, false), (17, 19, false), (18, 19, false), (19, 19, true), (20, 19, false), (21, 19, false), (22, 19, false), (23, 19, false), (24, 19, false), (25, 19, false), (26, 19, false)]) (U := []) (isp_NoShape T) all_nil') T.z_isinstance rfl (ad_cons (pd_var 0) (ad_cons (pd_cst T.c_NoShape (fun _ _ _ => .cls _)) ad_nil))) ad_nil))))))
  (sd_seq (sd_set 1 nd (pd_op op_addD add_s (pd_var 1) (pd_lst (ad_cons (pd_callB call_isQ (isX_s (T := [(1, 20, false), (2, 20, false), (3, 20, false), (4, 20, false), (5, 20, false), (6, 20, false), (7, 20, false), (8, 20, false), (9, 20, false), (10, 20, false), (11, 20, false), (12, 20, false), (13, 20, false), (14, 20, false), (15, 20, false), (16, 20, false), (17, 20, false), (18, 20, false), (19, 20, false), (20, 20, true), (21, 20, false), (22, 20, false), (23, 20, false), (24, 20, false), (25, 20, false), (26, 20, false)]) (U := []) (isp_NoWatch T) all_nil') T.z_isinstance rfl (ad_cons (pd_var 0) (ad_cons (pd_cst T.c_NoWatch (fun _ _ _ => .cls _)) ad_nil))) (ad_cons (pd_callB call_isQ (isX_s (T := [(1, 21, false), (2, 21, false), (3, 21, false), (4, 21, false), (5, 21, false), (6, 21, false), (7, 21, false), (8, 21, false), (9, 21, false), (10, 21, false), (11, 21, false), (12, 21, false), (13, 21, false), (14, 21, false), (15, 21, false), (16, 21, false), (17, 21, false), (18, 21, false), (19, 21, false), (20, 21, false), (21, 21, true), (22, 21, false), (23, 21, false), (24, 21, false), (25, 21, false), (26, 21, false)]) (U := []) (isp_NotRecording T) all_nil') T.z_isinstance rfl (ad_cons (pd_var 0) (ad_cons (pd_cst T.c_NotRecording (fun _ _ _ => .cls _)) ad_nil))) (ad_cons (pd_callB call_isQ (isX_s (T := [(1, 22, false), (2, 22, false), (3, 22, false), (4, 22, false), (5, 22, false), (6, 22, false), (7, 22, false), (8, 22, false), (9, 22, false), (10, 22, false), (11, 22, false), (12, 22, false), (13, 22, false), (14, 22, false), (15, 22, false), (16, 22, false), (17, 22, false), (18, 22, false), (19, 22, false), (20, 22, false), (21, 22, false), (22, 22, true), (23, 22, false), (24, 22, false), (25, 22, false), (26, 22, false)]) (U := []) (isp_NotSure T) all_nil') T.z_isinstance rfl (ad_cons (pd_var 0) (ad_cons (pd_cst T.c_NotSure (fun _ _ _ => .cls _)) ad_nil))) ad_nil))))))
  (sd_seq (sd_set 1 nd (pd_op op_addD add_s (pd_var 1) (pd_lst (ad_cons (pd_callB call_isQ (isX_s (T := [(1, 23, false), (2, 23, false), (3, 23, false), (4, 23, false), (5, 23, false), (6, 23, false), (7, 23, false), (8, 23, false), (9, 23, false), (10, 23, false), (11, 23, false), (12, 23, false), (13, 23, false), (14, 23, false), (15, 23, false), (16, 23, false), (17, 23, false), (18, 23, false), (19, 23, false), (20, 23, false), (21, 23, false), (22, 23, false), (23, 23, true), (24, 23, false), (25, 23, false), (26, 23, false)]) (U := []) (isp_NothingToUndo T) all_nil') T.z_isinstance rfl (ad_cons (pd_var 0) (ad_cons (pd_cst T.c_NothingToUndo (fun _ _ _ => .cls _)) ad_nil))) (ad_cons (pd_callB call_isQ (isX_s (T := [(1, 24, false), (2, 24, false), (3, 24, false), (4, 24, false), (5, 24, false), (6, 24, false), (7, 24, false), (8, 24, false), (9, 24, false), (10, 24, false), (11, 24, false), (12, 24, false), (13, 24, false), (14, 24, false), (15, 24, false), (16, 24, false), (17, 24, false), (18, 24, false), (19, 24, false), (20, 24, false), (21, 24, false), (22, 24, false), (23, 24, false), (24, 24, true), (25, 24, false), (26, 24, false)]) (U := []) (isp_UnknownName T) all_nil') T.z_isinstance rfl (ad_cons (pd_var 0) (ad_cons (pd_cst T.c_UnknownName (fun _ _ _ => .cls _)) ad_nil))) (ad_cons (pd_callB call_isQ (isX_s (T := [(1, 25, false), (2, 25, false), (3, 25, false), (4, 25, false), (5, 25, false), (6, 25, false), (7, 25, false), (8, 25, false), (9, 25, false), (10, 25, false), (11, 25, false), (12, 25, false), (13, 25, false), (14, 25, false), (15, 25, false), (16, 25, false), (17, 25, false), (18, 25, false), (19, 25, false), (20, 25, false), (21, 25, false), (22, 25, false), (23, 25, false), (24, 25, false), (25, 25, true), (26, 25, false)]) (U := []) (isp_UnlikeMarks T) all_nil') T.z_isinstance rfl (ad_cons (pd_var 0) (ad_cons (pd_cst T.c_UnlikeMarks (fun _ _ _ => .cls _)) ad_nil))) ad_nil))))))
  (sd_seq (sd_set 1 nd (pd_op op_addD add_s (pd_var 1) (pd_lst (ad_cons (pd_callB call_isQ (isX_s (T := [(1, 26, false), (2, 26, false), (3, 26, false), (4, 26, false), (5, 26, false), (6, 26, false), (7, 26, false), (8, 26, false), (9, 26, false), (10, 26, false), (11, 26, false), (12, 26, false), (13, 26, false), (14, 26, false), (15, 26, false), (16, 26, false), (17, 26, false), (18, 26, false), (19, 26, false), (20, 26, false), (21, 26, false), (22, 26, false), (23, 26, false), (24, 26, false), (25, 26, false), (26, 26, true)]) (U := []) (isp_UnlikeTracks T) all_nil') T.z_isinstance rfl (ad_cons (pd_var 0) (ad_cons (pd_cst T.c_UnlikeTracks (fun _ _ _ => .cls _)) ad_nil))) ad_nil))))
  (sd_one (sd_ret (pd_var 1))))))))))))
theorem hasW__law_marks (T : Txt K mg ca) : HasW P w K mg base ca 1 ("_law_marks" : Str) 1 F__law_marks := T.d__law_marks.hasW sc__law_marks rfl (bodyW__law_marks T)
/-! ### _law_way_right -/
abbrev N__law_way_right : List Str := [("way" : Str), ("many" : Str), ("marks" : Str), ("under" : Str), ("e" : Str)]
theorem sc__law_way_right : FnScope N__law_way_right [("way" : Str), ("many" : Str)] (defScope st__law_way_right) := ⟨rfl, rfl, rfl, by decide +kernel, rfl, by decide +kernel, by decide +kernel⟩
theorem body__law_way_right (T : Txt K mg ca) (f : Addr) (cdv : Value) (A : Around) (outer : List Env) (s : Shared) (H : Hp) (E : XK) (hr : Room 4 (cxD P w K mg base N__law_way_right ("_law_way_right" : Str) (defScope st__law_way_right) f cdv A outer s H E).A) (tk : Takes (cxD P w K mg base N__law_way_right ("_law_way_right" : Str) (defScope st__law_way_right) f cdv A outer s H E) (wD E))
    (hp : PassesOwn (model P w) (cxD P w K mg base N__law_way_right ("_law_way_right" : Str) (defScope st__law_way_right) f cdv A outer s H E).A (cxD P w K mg base N__law_way_right ("_law_way_right" : Str) (defScope st__law_way_right) f cdv A outer s H E).env (cxD P w K mg base N__law_way_right ("_law_way_right" : Str) (defScope st__law_way_right) f cdv A outer s H E).xe) :
    PSs (cxD P w K mg base N__law_way_right ("_law_way_right" : Str) (defScope st__law_way_right) f cdv A outer s H E) (defBody st__law_way_right) (tS ⟨K, ca⟩ (wD E) (B__law_way_right)) := by
  have nd := (sc__law_way_right).nd
  exact (sd_seq (sd_par 2 3 rfl nd (ad_cons (pd_lst ad_nil) (ad_cons pd_bl ad_nil)))
  (sd_seq (sd_try rfl rfl rfl nd tk (fun W pn xe tk hp => (sd_one (sd_expr (pd_fn (Has.mono (has__law_raised_one T) (by first | decide | exact Nat.le_refl _)) hr tk (ad_cons (pd_var 0) ad_nil))))) (.as_ (i := 4) ⟨rfl, by decide, .inl T.c_TakesError.cmg⟩ rfl rfl (all_cons' T.xm1_1 (all_cons' T.xm2_1 (all_cons' T.xm3_1 (all_cons' T.xm4_1 (all_cons' T.xm5_1 (all_cons' T.xm6_1 (all_cons' T.xm7_1 (all_cons' T.xm8_1 (all_cons' T.xm9_1 (all_cons' T.xm10_1 (all_cons' T.xm11_1 (all_cons' T.xm12_1 (all_cons' T.xm13_1 (all_cons' T.xm14_1 (all_cons' T.xm15_1 (all_cons' T.xm16_1 (all_cons' T.xm17_1 (all_cons' T.xm18_1 (all_cons' T.xm19_1 (all_cons' T.xm20_1 (all_cons' T.xm21_1 (all_cons' T.xm22_1 (all_cons' T.xm23_1 (all_cons' T.xm24_1 (all_cons' T.xm25_1 (all_cons' T.xm26_1 all_nil')))))))))))))))))))))))))) all_nil' (fun _ _ => (sd_seq (sd_set 2 nd (pd_fnW (HasW.mono (hasW__law_marks T) (by first | decide | exact Nat.le_refl _)) (roomW hr) takes0 (ad_cons (pd_var 4) ad_nil)))
  (sd_one (sd_set 3 nd (pd_callB call_isQ (isX_s (T := []) (U := [(1, "ValueError", true), (2, "ValueError", true), (3, "ValueError", true), (4, "ValueError", true), (5, "ValueError", true), (6, "ValueError", true), (7, "ValueError", true), (8, "ValueError", true), (9, "ValueError", true), (10, "ValueError", true), (11, "ValueError", true), (12, "ValueError", true), (13, "ValueError", true), (14, "ValueError", true), (15, "ValueError", true), (16, "ValueError", true), (17, "ValueError", true), (18, "ValueError", true), (19, "ValueError", true), (20, "ValueError", true), (21, "ValueError", true), (22, "ValueError", true), (23, "ValueError", true), (24, "ValueError", true), (25, "ValueError", true), (26, "ValueError", true)]) all_nil' (isp_ValueError T)) T.z_isinstance rfl (ad_cons (pd_var 4) (ad_cons (pd_ty T.z_ValueError rfl) ad_nil))))))) .nil))
  (sd_one (sd_ret (pd_and (pd_var 3) (pd_and (pd_cmp (op_eqD hr.units) eq_s (pd_mt PySem.F.plainAttrs_list PySem.F.slot_list_count PySem.F.type_list_count mt_countB countB_s (pd_var 2) (ad_cons pd_bl ad_nil)) pd_int) (pd_and (pd_cmp (op_eqD hr.units) eq_s (pd_callB call_len len_s T.z_len rfl (ad_cons (pd_var 2) ad_nil)) (pd_var 1)) (pd_one (pd_ix (pd_var 2) (pd_var 0))))))))))
theorem has__law_way_right (T : Txt K mg ca) : Has P w K mg base ca 5 ("_law_way_right" : Str) 2 F__law_way_right := T.d__law_way_right.has sc__law_way_right rfl (body__law_way_right T)
/-! ### is_name -/
abbrev N_is_name : List Str := [("value" : Str), ("letter" : Str)]
theorem sc_is_name : FnScope N_is_name [("value" : Str)] (defScope st_is_name) := ⟨rfl, rfl, rfl, by decide +kernel, rfl, by decide +kernel, by decide +kernel⟩
theorem body_is_name (T : Txt K mg ca) (f : Addr) (cdv : Value) (A : Around) (outer : List Env) (s : Shared) (H : Hp) (E : XK) (hr : Room 0 (cxD P w K mg base N_is_name ("is_name" : Str) (defScope st_is_name) f cdv A outer s H E).A) (tk : Takes (cxD P w K mg base N_is_name ("is_name" : Str) (defScope st_is_name) f cdv A outer s H E) (wD E))
    (hp : PassesOwn (model P w) (cxD P w K mg base N_is_name ("is_name" : Str) (defScope st_is_name) f cdv A outer s H E).A (cxD P w K mg base N_is_name ("is_name" : Str) (defScope st_is_name) f cdv A outer s H E).env (cxD P w K mg base N_is_name ("is_name" : Str) (defScope st_is_name) f cdv A outer s H E).xe) :
    PSs (cxD P w K mg base N_is_name ("is_name" : Str) (defScope st_is_name) f cdv A outer s H E) (defBody st_is_name) (tS ⟨K, ca⟩ (wD E) (B_is_name)) := by
  have nd := (sc_is_name).nd
  exact (sd_one (sd_ret (pd_and (pd_callB call_isi isa_s T.z_isinstance rfl (ad_cons (pd_var 0) (ad_cons (pd_ty T.z_str rfl) ad_nil))) (pd_and (pd_chain op_lt lt_s op_le le_s pd_int (pd_callB call_len len_s T.z_len rfl (ad_cons (pd_var 0) ad_nil)) (pd_cst T.c_LONGEST (fun _ _ _ => .int _))) (pd_one (pd_callB (cr_all rfl) all_s T.z_all rfl (ad_cons (pd_lc rfl nd (id_str (pd_var 0)) (blkOk_by (own := [(("letter" : Str), 1)]) (by kernel_rfl)) (fun _ _ _ _ _ => (gd_name 1 nd)) (by decide) (fun _ _ _ _ _ => tsd_nil) (fun _ _ _ _ _ => (pd_cmp (op_inA (room65 hr)) in_s (pd_var 1) (pd_cst T.c_LETTERS (fun _ _ _ => .str _))))) ad_nil)))))))
theorem has_is_name (T : Txt K mg ca) : Has P w K mg base ca 1 ("is_name" : Str) 1 F_is_name := T.d_is_name.has sc_is_name rfl (body_is_name T)
/-! ### is_mark_at -/
abbrev N_is_mark_at : List Str := [("marks" : Str), ("index" : Str)]
theorem sc_is_mark_at : FnScope N_is_mark_at [("marks" : Str), ("index" : Str)] (defScope st_is_mark_at) := ⟨rfl, rfl, rfl, by decide +kernel, rfl, by decide +kernel, by decide +kernel⟩
theorem body_is_mark_at (T : Txt K mg ca) (f : Addr) (cdv : Value) (A : Around) (outer : List Env) (s : Shared) (H : Hp) (E : XK) (hr : Room 1 (cxD P w K mg base N_is_mark_at ("is_mark_at" : Str) (defScope st_is_mark_at) f cdv A outer s H E).A) (tk : Takes (cxD P w K mg base N_is_mark_at ("is_mark_at" : Str) (defScope st_is_mark_at) f cdv A outer s H E) (wD E))
    (hp : PassesOwn (model P w) (cxD P w K mg base N_is_mark_at ("is_mark_at" : Str) (defScope st_is_mark_at) f cdv A outer s H E).A (cxD P w K mg base N_is_mark_at ("is_mark_at" : Str) (defScope st_is_mark_at) f cdv A outer s H E).env (cxD P w K mg base N_is_mark_at ("is_mark_at" : Str) (defScope st_is_mark_at) f cdv A outer s H E).xe) :
    PSs (cxD P w K mg base N_is_mark_at ("is_mark_at" : Str) (defScope st_is_mark_at) f cdv A outer s H E) (defBody st_is_mark_at) (tS ⟨K, ca⟩ (wD E) (B_is_mark_at)) := by
  have nd := (sc_is_mark_at).nd
  exact (sd_one (sd_ret (pd_and (pd_fn (Has.mono (has_is_name T) (by first | decide | exact Nat.le_refl _)) hr tk (ad_cons (pd_ix (pd_var 0) (pd_var 1)) ad_nil)) (pd_and (pd_cmp (op_neD hr.units) ne_s (pd_ix (pd_var 0) (pd_var 1)) (pd_cst T.c_NOUGHT (fun _ _ _ => .str _))) (pd_one (pd_cmp (op_notInA (room65 hr)) in_s (pd_ix (pd_var 0) (pd_var 1)) (pd_slice (pd_var 0) od_none (od_some (pd_var 1)))))))))
theorem has_is_mark_at (T : Txt K mg ca) : Has P w K mg base ca 2 ("is_mark_at" : Str) 2 F_is_mark_at := T.d_is_mark_at.has sc_is_mark_at rfl (body_is_mark_at T)
/-! ### is_integer -/
abbrev N_is_integer : List Str := [("value" : Str)]
theorem sc_is_integer : FnScope N_is_integer [("value" : Str)] (defScope st_is_integer) := ⟨rfl, rfl, rfl, by decide +kernel, rfl, by decide +kernel, by decide +kernel⟩
theorem body_is_integer (T : Txt K mg ca) (f : Addr) (cdv : Value) (A : Around) (outer : List Env) (s : Shared) (H : Hp) (E : XK) (hr : Room 0 (cxD P w K mg base N_is_integer ("is_integer" : Str) (defScope st_is_integer) f cdv A outer s H E).A) (tk : Takes (cxD P w K mg base N_is_integer ("is_integer" : Str) (defScope st_is_integer) f cdv A outer s H E) (wD E))
    (hp : PassesOwn (model P w) (cxD P w K mg base N_is_integer ("is_integer" : Str) (defScope st_is_integer) f cdv A outer s H E).A (cxD P w K mg base N_is_integer ("is_integer" : Str) (defScope st_is_integer) f cdv A outer s H E).env (cxD P w K mg base N_is_integer ("is_integer" : Str) (defScope st_is_integer) f cdv A outer s H E).xe) :
    PSs (cxD P w K mg base N_is_integer ("is_integer" : Str) (defScope st_is_integer) f cdv A outer s H E) (defBody st_is_integer) (tS ⟨K, ca⟩ (wD E) (B_is_integer)) := by
  have nd := (sc_is_integer).nd
  exact (sd_one (sd_ret (pd_and (pd_callB call_isi isa_s T.z_isinstance rfl (ad_cons (pd_var 0) (ad_cons (pd_ty T.z_int rfl) ad_nil))) (pd_one (pd_not (pd_callB call_isi isa_s T.z_isinstance rfl (ad_cons (pd_var 0) (ad_cons (pd_ty T.z_bool rfl) ad_nil))))))))
theorem has_is_integer (T : Txt K mg ca) : Has P w K mg base ca 1 ("is_integer" : Str) 1 F_is_integer := T.d_is_integer.has sc_is_integer rfl (body_is_integer T)
/-! ### is_fact -/
abbrev N_is_fact : List Str := [("nodes" : Str), ("value" : Str)]
theorem sc_is_fact : FnScope N_is_fact [("nodes" : Str), ("value" : Str)] (defScope st_is_fact) := ⟨rfl, rfl, rfl, by decide +kernel, rfl, by decide +kernel, by decide +kernel⟩
theorem body_is_fact (T : Txt K mg ca) (f : Addr) (cdv : Value) (A : Around) (outer : List Env) (s : Shared) (H : Hp) (E : XK) (hr : Room 1 (cxD P w K mg base N_is_fact ("is_fact" : Str) (defScope st_is_fact) f cdv A outer s H E).A) (tk : Takes (cxD P w K mg base N_is_fact ("is_fact" : Str) (defScope st_is_fact) f cdv A outer s H E) (wD E))
    (hp : PassesOwn (model P w) (cxD P w K mg base N_is_fact ("is_fact" : Str) (defScope st_is_fact) f cdv A outer s H E).A (cxD P w K mg base N_is_fact ("is_fact" : Str) (defScope st_is_fact) f cdv A outer s H E).env (cxD P w K mg base N_is_fact ("is_fact" : Str) (defScope st_is_fact) f cdv A outer s H E).xe) :
    PSs (cxD P w K mg base N_is_fact ("is_fact" : Str) (defScope st_is_fact) f cdv A outer s H E) (defBody st_is_fact) (tS ⟨K, ca⟩ (wD E) (B_is_fact)) := by
  have nd := (sc_is_fact).nd
  exact (sd_seq (sd_if (PW.pt (wd_or (td_cmp (op_neD hr.units) ne_s (pd_callB call_len len_s T.z_len rfl (ad_cons (pd_var 1) ad_nil)) pd_int) (wd_or1 (td_not (td_tru (pd_fn (Has.mono (has_is_integer T) (by first | decide | exact Nat.le_refl _)) hr tk (ad_cons (pd_ix (pd_var 1) pd_int) ad_nil)))))))
  (sd_one (sd_ret pd_bl))
  sd_nil)
  (sd_one (sd_ret (pd_and (pd_cmp (op_inA (room65 hr)) in_s (pd_ix (pd_var 1) pd_int) (pd_var 0)) (pd_and (pd_cmp (op_inA (room65 hr)) in_s (pd_ix (pd_var 1) pd_int) (pd_var 0)) (pd_one (pd_cmp (op_neD hr.units) ne_s (pd_ix (pd_var 1) pd_int) (pd_ix (pd_var 1) pd_int))))))))
theorem has_is_fact (T : Txt K mg ca) : Has P w K mg base ca 2 ("is_fact" : Str) 2 F_is_fact := T.d_is_fact.has sc_is_fact rfl (body_is_fact T)
/-! ### check_sheet -/
abbrev N_check_sheet : List Str := [("marks" : Str), ("takes" : Str), ("facts" : Str), ("index" : Str), ("name" : Str), ("fact" : Str)]
theorem sc_check_sheet : FnScope N_check_sheet [("marks" : Str), ("takes" : Str), ("facts" : Str)] (defScope st_check_sheet) := ⟨rfl, rfl, rfl, by decide +kernel, rfl, by decide +kernel, by decide +kernel⟩
theorem body_check_sheet (T : Txt K mg ca) (f : Addr) (cdv : Value) (A : Around) (outer : List Env) (s : Shared) (H : Hp) (E : XK) (hr : Room 2 (cxD P w K mg base N_check_sheet ("check_sheet" : Str) (defScope st_check_sheet) f cdv A outer s H E).A) (tk : Takes (cxD P w K mg base N_check_sheet ("check_sheet" : Str) (defScope st_check_sheet) f cdv A outer s H E) (wD E))
    (hp : PassesOwn (model P w) (cxD P w K mg base N_check_sheet ("check_sheet" : Str) (defScope st_check_sheet) f cdv A outer s H E).A (cxD P w K mg base N_check_sheet ("check_sheet" : Str) (defScope st_check_sheet) f cdv A outer s H E).env (cxD P w K mg base N_check_sheet ("check_sheet" : Str) (defScope st_check_sheet) f cdv A outer s H E).xe) :
    PSs (cxD P w K mg base N_check_sheet ("check_sheet" : Str) (defScope st_check_sheet) f cdv A outer s H E) (defBody st_check_sheet) (tS ⟨K, ca⟩ (wD E) (B_check_sheet)) := by
  have nd := (sc_check_sheet).nd
  exact (sd_seq (sd_for hp rfl (id_range1 T.z_range (ad_cons (pd_callB call_len len_s T.z_len rfl (ad_cons (pd_var 0) ad_nil)) ad_nil)) (gd_name 3 nd)
  (sd_one (sd_if (td_not (td_tru (pd_fn (Has.mono (has_is_mark_at T) (by first | decide | exact Nat.le_refl _)) hr tk (ad_cons (pd_var 0) (ad_cons (pd_var 3) ad_nil)))))
  (sd_one (sd_raise (xmak_BadMarks T) (hr.mono (by decide)) rfl tk (ad_cons (pd_var 3) ad_nil)))
  sd_nil)))
  (sd_seq (sd_for hp rfl (id_enum T.z_enumerate (ad_cons (pd_var 1) ad_nil)) (gd_tup rfl (gsd_cons (gd_name 3 nd) (gsd_cons (gd_name 4 nd) gsd_nil)))
  (sd_one (sd_if (PW.pt (wd_or (td_cmp (op_notInA (room65 hr)) in_s (pd_var 4) (pd_var 0)) (wd_or1 (td_cmp (op_inA (room65 hr)) in_s (pd_var 4) (pd_slice (pd_var 1) od_none (od_some (pd_var 3)))))))
  (sd_one (sd_raise (xmak_BadTakes T) (hr.mono (by decide)) rfl tk (ad_cons (pd_var 3) ad_nil)))
  sd_nil)))
  (sd_one (sd_for hp rfl (id_enum T.z_enumerate (ad_cons (pd_var 2) ad_nil)) (gd_tup rfl (gsd_cons (gd_name 3 nd) (gsd_cons (gd_name 5 nd) gsd_nil)))
  (sd_one (sd_if (td_not (td_tru (pd_fn (Has.mono (has_is_fact T) (by first | decide | exact Nat.le_refl _)) hr tk (ad_cons (pd_tup (ad_cons (pd_cst T.c_NOUGHT (fun _ _ _ => .str _)) (ad_star (pd_var 0) ad_nil))) (ad_cons (pd_var 5) ad_nil)))))
  (sd_one (sd_raise (xmak_BadFact T) (hr.mono (by decide)) rfl tk (ad_cons (pd_var 3) ad_nil)))
  sd_nil))))))
theorem has_check_sheet (T : Txt K mg ca) : Has P w K mg base ca 3 ("check_sheet" : Str) 3 F_check_sheet := T.d_check_sheet.has sc_check_sheet rfl (body_check_sheet T)
/-! ### is_less -/
abbrev N_is_less : List Str := [("first" : Str), ("second" : Str)]
theorem sc_is_less : FnScope N_is_less [("first" : Str), ("second" : Str)] (defScope st_is_less) := ⟨rfl, rfl, rfl, by decide +kernel, rfl, by decide +kernel, by decide +kernel⟩
theorem body_is_less (T : Txt K mg ca) (f : Addr) (cdv : Value) (A : Around) (outer : List Env) (s : Shared) (H : Hp) (E : XK) (hr : Room 0 (cxD P w K mg base N_is_less ("is_less" : Str) (defScope st_is_less) f cdv A outer s H E).A) (tk : Takes (cxD P w K mg base N_is_less ("is_less" : Str) (defScope st_is_less) f cdv A outer s H E) (wD E))
    (hp : PassesOwn (model P w) (cxD P w K mg base N_is_less ("is_less" : Str) (defScope st_is_less) f cdv A outer s H E).A (cxD P w K mg base N_is_less ("is_less" : Str) (defScope st_is_less) f cdv A outer s H E).env (cxD P w K mg base N_is_less ("is_less" : Str) (defScope st_is_less) f cdv A outer s H E).xe) :
    PSs (cxD P w K mg base N_is_less ("is_less" : Str) (defScope st_is_less) f cdv A outer s H E) (defBody st_is_less) (tS ⟨K, ca⟩ (wD E) (B_is_less)) := by
  have nd := (sc_is_less).nd
  exact (sd_one (sd_ret (pd_and (pd_notN (pd_var 0)) (pd_one (pd_or (pd_isN (pd_var 1)) (pd_one (pd_cmp op_lt lt_s (pd_var 0) (pd_var 1))))))))
theorem has_is_less (T : Txt K mg ca) : Has P w K mg base ca 1 ("is_less" : Str) 2 F_is_less := T.d_is_less.has sc_is_less rfl (body_is_less T)
/-! ### summed -/
abbrev N_summed : List Str := [("first" : Str), ("second" : Str)]
theorem sc_summed : FnScope N_summed [("first" : Str), ("second" : Str)] (defScope st_summed) := ⟨rfl, rfl, rfl, by decide +kernel, rfl, by decide +kernel, by decide +kernel⟩
theorem body_summed (T : Txt K mg ca) (f : Addr) (cdv : Value) (A : Around) (outer : List Env) (s : Shared) (H : Hp) (E : XK) (hr : Room 0 (cxD P w K mg base N_summed ("summed" : Str) (defScope st_summed) f cdv A outer s H E).A) (tk : Takes (cxD P w K mg base N_summed ("summed" : Str) (defScope st_summed) f cdv A outer s H E) (wD E))
    (hp : PassesOwn (model P w) (cxD P w K mg base N_summed ("summed" : Str) (defScope st_summed) f cdv A outer s H E).A (cxD P w K mg base N_summed ("summed" : Str) (defScope st_summed) f cdv A outer s H E).env (cxD P w K mg base N_summed ("summed" : Str) (defScope st_summed) f cdv A outer s H E).xe) :
    PSs (cxD P w K mg base N_summed ("summed" : Str) (defScope st_summed) f cdv A outer s H E) (defBody st_summed) (tS ⟨K, ca⟩ (wD E) (B_summed)) := by
  have nd := (sc_summed).nd
  exact (sd_one (sd_ret (pd_if (PW.pt (wd_or (td_isN (pd_var 0)) (wd_or1 (td_isN (pd_var 1))))) pd_non (pd_op op_addD add_s (pd_var 0) (pd_var 1)))))
theorem has_summed (T : Txt K mg ca) : Has P w K mg base ca 1 ("summed" : Str) 2 F_summed := T.d_summed.has sc_summed rfl (body_summed T)
/-! ### lesser -/
abbrev N_lesser : List Str := [("first" : Str), ("second" : Str)]
theorem sc_lesser : FnScope N_lesser [("first" : Str), ("second" : Str)] (defScope st_lesser) := ⟨rfl, rfl, rfl, by decide +kernel, rfl, by decide +kernel, by decide +kernel⟩
theorem body_lesser (T : Txt K mg ca) (f : Addr) (cdv : Value) (A : Around) (outer : List Env) (s : Shared) (H : Hp) (E : XK) (hr : Room 0 (cxD P w K mg base N_lesser ("lesser" : Str) (defScope st_lesser) f cdv A outer s H E).A) (tk : Takes (cxD P w K mg base N_lesser ("lesser" : Str) (defScope st_lesser) f cdv A outer s H E) (wD E))
    (hp : PassesOwn (model P w) (cxD P w K mg base N_lesser ("lesser" : Str) (defScope st_lesser) f cdv A outer s H E).A (cxD P w K mg base N_lesser ("lesser" : Str) (defScope st_lesser) f cdv A outer s H E).env (cxD P w K mg base N_lesser ("lesser" : Str) (defScope st_lesser) f cdv A outer s H E).xe) :
    PSs (cxD P w K mg base N_lesser ("lesser" : Str) (defScope st_lesser) f cdv A outer s H E) (defBody st_lesser) (tS ⟨K, ca⟩ (wD E) (B_lesser)) := by
  have nd := (sc_lesser).nd
  exact (sd_seq (sd_if (PW.pt (wd_or (td_isN (pd_var 0)) (wd_or1 (td_isN (pd_var 1)))))
  (sd_one (sd_ret (pd_if (td_isN (pd_var 0)) (pd_var 1) (pd_var 0))))
  sd_nil)
  (sd_one (sd_ret (pd_callB (call_min2 rfl) i2_s T.z_min rfl (ad_cons (pd_var 0) (ad_cons (pd_var 1) ad_nil))))))
theorem has_lesser (T : Txt K mg ca) : Has P w K mg base ca 1 ("lesser" : Str) 2 F_lesser := T.d_lesser.has sc_lesser rfl (body_lesser T)
/-! ### narrowed -/
abbrev N_narrowed : List Str := [("bounds" : Str), ("x" : Str), ("y" : Str), ("number" : Str), ("back" : Str), ("found" : Str), ("row" : Str), ("ahead" : Str), ("old" : Str), ("far" : Str)]
theorem sc_narrowed : FnScope N_narrowed [("bounds" : Str), ("x" : Str), ("y" : Str), ("number" : Str)] (defScope st_narrowed) := ⟨rfl, rfl, rfl, by decide +kernel, rfl, by decide +kernel, by decide +kernel⟩
theorem body_narrowed (T : Txt K mg ca) (f : Addr) (cdv : Value) (A : Around) (outer : List Env) (s : Shared) (H : Hp) (E : XK) (hr : Room 1 (cxD P w K mg base N_narrowed ("narrowed" : Str) (defScope st_narrowed) f cdv A outer s H E).A) (tk : Takes (cxD P w K mg base N_narrowed ("narrowed" : Str) (defScope st_narrowed) f cdv A outer s H E) (wD E))
    (hp : PassesOwn (model P w) (cxD P w K mg base N_narrowed ("narrowed" : Str) (defScope st_narrowed) f cdv A outer s H E).A (cxD P w K mg base N_narrowed ("narrowed" : Str) (defScope st_narrowed) f cdv A outer s H E).env (cxD P w K mg base N_narrowed ("narrowed" : Str) (defScope st_narrowed) f cdv A outer s H E).xe) :
    PSs (cxD P w K mg base N_narrowed ("narrowed" : Str) (defScope st_narrowed) f cdv A outer s H E) (defBody st_narrowed) (tS ⟨K, ca⟩ (wD E) (B_narrowed)) := by
  have nd := (sc_narrowed).nd
  exact (sd_seq (sd_set 4 nd (pd_ix (pd_ix (pd_var 0) (pd_var 2)) (pd_var 1)))
  (sd_seq (sd_if (PW.pt (wd_and (td_notN (pd_var 4)) (wd_and1 (td_cmp op_lt lt_s (pd_op op_addD add_s (pd_var 4) (pd_var 3)) pd_int))))
  (sd_one (sd_ret pd_non))
  sd_nil)
  (sd_seq (sd_if (td_not (td_tru (pd_fn (Has.mono (has_is_less T) (by first | decide | exact Nat.le_refl _)) hr tk (ad_cons (pd_var 3) (ad_cons (pd_ix (pd_ix (pd_var 0) (pd_var 1)) (pd_var 2)) ad_nil)))))
  (sd_one (sd_ret (pd_var 0)))
  sd_nil)
  (sd_seq (sd_set 5 nd (pd_lst ad_nil))
  (sd_seq (sd_for hp rfl (id_seq (pd_var 0)) (gd_name 6 nd)
  (sd_seq (sd_set 7 nd (pd_fn (Has.mono (has_summed T) (by first | decide | exact Nat.le_refl _)) hr tk (ad_cons (pd_ix (pd_var 6) (pd_var 1)) (ad_cons (pd_var 3) ad_nil))))
  (sd_one (sd_set 5 nd (pd_op op_addD add_s (pd_var 5) (pd_lst (ad_cons (pd_callTy call_tuple_of tupOf_s T.z_tuple rfl (ad_cons (pd_lc rfl nd (id_zip T.z_zip (ad_cons (pd_var 6) (ad_cons (pd_ix (pd_var 0) (pd_var 2)) ad_nil))) (blkOk_by (own := [(("old" : Str), 8), (("far" : Str), 9)]) (by kernel_rfl)) (fun _ _ _ _ _ => (gd_tup rfl (gsd_cons (gd_name 8 nd) (gsd_cons (gd_name 9 nd) gsd_nil)))) (by decide) (fun _ _ _ _ _ => tsd_nil) (fun _ _ _ _ _ => (pd_fn (Has.mono (has_lesser T) (by first | decide | exact Nat.le_refl _)) hr takes0 (ad_cons (pd_var 8) (ad_cons (pd_fn (Has.mono (has_summed T) (by first | decide | exact Nat.le_refl _)) hr takes0 (ad_cons (pd_var 7) (ad_cons (pd_var 9) ad_nil))) ad_nil))))) ad_nil)) ad_nil)))))))
  (sd_one (sd_ret (pd_callTy call_tuple_of tupOf_s T.z_tuple rfl (ad_cons (pd_var 5) ad_nil)))))))))
theorem has_narrowed (T : Txt K mg ca) : Has P w K mg base ca 2 ("narrowed" : Str) 4 F_narrowed := T.d_narrowed.has sc_narrowed rfl (body_narrowed T)
/-! ### narrowed_by -/
abbrev N_narrowed_by : List Str := [("bounds" : Str), ("facts" : Str), ("x" : Str), ("y" : Str), ("number" : Str)]
theorem sc_narrowed_by : FnScope N_narrowed_by [("bounds" : Str), ("facts" : Str)] (defScope st_narrowed_by) := ⟨rfl, rfl, rfl, by decide +kernel, rfl, by decide +kernel, by decide +kernel⟩
theorem body_narrowed_by (T : Txt K mg ca) (f : Addr) (cdv : Value) (A : Around) (outer : List Env) (s : Shared) (H : Hp) (E : XK) (hr : Room 2 (cxD P w K mg base N_narrowed_by ("narrowed_by" : Str) (defScope st_narrowed_by) f cdv A outer s H E).A) (tk : Takes (cxD P w K mg base N_narrowed_by ("narrowed_by" : Str) (defScope st_narrowed_by) f cdv A outer s H E) (wD E))
    (hp : PassesOwn (model P w) (cxD P w K mg base N_narrowed_by ("narrowed_by" : Str) (defScope st_narrowed_by) f cdv A outer s H E).A (cxD P w K mg base N_narrowed_by ("narrowed_by" : Str) (defScope st_narrowed_by) f cdv A outer s H E).env (cxD P w K mg base N_narrowed_by ("narrowed_by" : Str) (defScope st_narrowed_by) f cdv A outer s H E).xe) :
    PSs (cxD P w K mg base N_narrowed_by ("narrowed_by" : Str) (defScope st_narrowed_by) f cdv A outer s H E) (defBody st_narrowed_by) (tS ⟨K, ca⟩ (wD E) (B_narrowed_by)) := by
  have nd := (sc_narrowed_by).nd
  exact (sd_seq (sd_for hp rfl (id_seq (pd_var 1)) (gd_tup rfl (gsd_cons (gd_name 2 nd) (gsd_cons (gd_name 3 nd) (gsd_cons (gd_name 4 nd) gsd_nil))))
  (sd_seq (sd_set 0 nd (pd_fn (Has.mono (has_narrowed T) (by first | decide | exact Nat.le_refl _)) hr tk (ad_cons (pd_var 0) (ad_cons (pd_var 2) (ad_cons (pd_var 3) (ad_cons (pd_var 4) ad_nil))))))
  (sd_one (sd_if (td_isN (pd_var 0))
  (sd_one (sd_ret pd_non))
  sd_nil))))
  (sd_one (sd_ret (pd_var 0))))
theorem has_narrowed_by (T : Txt K mg ca) : Has P w K mg base ca 3 ("narrowed_by" : Str) 2 F_narrowed_by := T.d_narrowed_by.has sc_narrowed_by rfl (body_narrowed_by T)
/-! ### open_bounds -/
abbrev N_open_bounds : List Str := [("many" : Str), ("found" : Str), ("x" : Str), ("y" : Str)]
theorem sc_open_bounds : FnScope N_open_bounds [("many" : Str)] (defScope st_open_bounds) := ⟨rfl, rfl, rfl, by decide +kernel, rfl, by decide +kernel, by decide +kernel⟩
theorem body_open_bounds (T : Txt K mg ca) (f : Addr) (cdv : Value) (A : Around) (outer : List Env) (s : Shared) (H : Hp) (E : XK) (hr : Room 0 (cxD P w K mg base N_open_bounds ("open_bounds" : Str) (defScope st_open_bounds) f cdv A outer s H E).A) (tk : Takes (cxD P w K mg base N_open_bounds ("open_bounds" : Str) (defScope st_open_bounds) f cdv A outer s H E) (wD E))
    (hp : PassesOwn (model P w) (cxD P w K mg base N_open_bounds ("open_bounds" : Str) (defScope st_open_bounds) f cdv A outer s H E).A (cxD P w K mg base N_open_bounds ("open_bounds" : Str) (defScope st_open_bounds) f cdv A outer s H E).env (cxD P w K mg base N_open_bounds ("open_bounds" : Str) (defScope st_open_bounds) f cdv A outer s H E).xe) :
    PSs (cxD P w K mg base N_open_bounds ("open_bounds" : Str) (defScope st_open_bounds) f cdv A outer s H E) (defBody st_open_bounds) (tS ⟨K, ca⟩ (wD E) (B_open_bounds)) := by
  have nd := (sc_open_bounds).nd
  exact (sd_seq (sd_set 1 nd (pd_lst ad_nil))
  (sd_seq (sd_for hp rfl (id_range1 T.z_range (ad_cons (pd_op op_addD add_s (pd_var 0) pd_int) ad_nil)) (gd_name 2 nd)
  (sd_one (sd_set 1 nd (pd_op op_addD add_s (pd_var 1) (pd_lst (ad_cons (pd_callTy call_tuple_of tupOf_s T.z_tuple rfl (ad_cons (pd_lc rfl nd (id_range1 T.z_range (ad_cons (pd_op op_addD add_s (pd_var 0) pd_int) ad_nil)) (blkOk_by (own := [(("y" : Str), 3)]) (by kernel_rfl)) (fun _ _ _ _ _ => (gd_name 3 nd)) (by decide) (fun _ _ _ _ _ => tsd_nil) (fun _ _ _ _ _ => (pd_if (td_cmp (op_inA (room65 hr)) in_s (pd_var 2) (pd_tup (ad_cons (pd_cst T.c_ZERO (fun _ _ _ => .int _)) (ad_cons (pd_var 3) ad_nil)))) pd_int pd_non))) ad_nil)) ad_nil))))))
  (sd_one (sd_ret (pd_callTy call_tuple_of tupOf_s T.z_tuple rfl (ad_cons (pd_var 1) ad_nil))))))
theorem has_open_bounds (T : Txt K mg ca) : Has P w K mg base ca 1 ("open_bounds" : Str) 1 F_open_bounds := T.d_open_bounds.has sc_open_bounds rfl (body_open_bounds T)
/-! ### number_of -/
abbrev N_number_of : List Str := [("nodes" : Str), ("name" : Str), ("found" : Str), ("index" : Str), ("node" : Str)]
theorem sc_number_of : FnScope N_number_of [("nodes" : Str), ("name" : Str)] (defScope st_number_of) := ⟨rfl, rfl, rfl, by decide +kernel, rfl, by decide +kernel, by decide +kernel⟩
theorem body_number_of (T : Txt K mg ca) (f : Addr) (cdv : Value) (A : Around) (outer : List Env) (s : Shared) (H : Hp) (E : XK) (hr : Room 0 (cxD P w K mg base N_number_of ("number_of" : Str) (defScope st_number_of) f cdv A outer s H E).A) (tk : Takes (cxD P w K mg base N_number_of ("number_of" : Str) (defScope st_number_of) f cdv A outer s H E) (wD E))
    (hp : PassesOwn (model P w) (cxD P w K mg base N_number_of ("number_of" : Str) (defScope st_number_of) f cdv A outer s H E).A (cxD P w K mg base N_number_of ("number_of" : Str) (defScope st_number_of) f cdv A outer s H E).env (cxD P w K mg base N_number_of ("number_of" : Str) (defScope st_number_of) f cdv A outer s H E).xe) :
    PSs (cxD P w K mg base N_number_of ("number_of" : Str) (defScope st_number_of) f cdv A outer s H E) (defBody st_number_of) (tS ⟨K, ca⟩ (wD E) (B_number_of)) := by
  have nd := (sc_number_of).nd
  exact (sd_seq (sd_set 2 nd pd_int)
  (sd_seq (sd_for hp rfl (id_enum T.z_enumerate (ad_cons (pd_var 0) ad_nil)) (gd_tup rfl (gsd_cons (gd_name 3 nd) (gsd_cons (gd_name 4 nd) gsd_nil)))
  (sd_one (sd_if (td_cmp (op_eqD hr.units) eq_s (pd_var 4) (pd_var 1))
  (sd_one (sd_set 2 nd (pd_var 3)))
  sd_nil)))
  (sd_one (sd_ret (pd_var 2)))))
theorem has_number_of (T : Txt K mg ca) : Has P w K mg base ca 1 ("number_of" : Str) 2 F_number_of := T.d_number_of.has sc_number_of rfl (body_number_of T)
/-! ### numbered -/
abbrev N_numbered : List Str := [("nodes" : Str), ("facts" : Str), ("x" : Str), ("y" : Str), ("number" : Str)]
theorem sc_numbered : FnScope N_numbered [("nodes" : Str), ("facts" : Str)] (defScope st_numbered) := ⟨rfl, rfl, rfl, by decide +kernel, rfl, by decide +kernel, by decide +kernel⟩
theorem body_numbered (T : Txt K mg ca) (f : Addr) (cdv : Value) (A : Around) (outer : List Env) (s : Shared) (H : Hp) (E : XK) (hr : Room 1 (cxD P w K mg base N_numbered ("numbered" : Str) (defScope st_numbered) f cdv A outer s H E).A) (tk : Takes (cxD P w K mg base N_numbered ("numbered" : Str) (defScope st_numbered) f cdv A outer s H E) (wD E))
    (hp : PassesOwn (model P w) (cxD P w K mg base N_numbered ("numbered" : Str) (defScope st_numbered) f cdv A outer s H E).A (cxD P w K mg base N_numbered ("numbered" : Str) (defScope st_numbered) f cdv A outer s H E).env (cxD P w K mg base N_numbered ("numbered" : Str) (defScope st_numbered) f cdv A outer s H E).xe) :
    PSs (cxD P w K mg base N_numbered ("numbered" : Str) (defScope st_numbered) f cdv A outer s H E) (defBody st_numbered) (tS ⟨K, ca⟩ (wD E) (B_numbered)) := by
  have nd := (sc_numbered).nd
  exact (sd_one (sd_ret (pd_callTy call_tuple_of tupOf_s T.z_tuple rfl (ad_cons (pd_lc rfl nd (id_seq (pd_var 1)) (blkOk_by (own := [(("x" : Str), 2), (("y" : Str), 3), (("number" : Str), 4)]) (by kernel_rfl)) (fun _ _ _ _ _ => (gd_tup rfl (gsd_cons (gd_name 2 nd) (gsd_cons (gd_name 3 nd) (gsd_cons (gd_name 4 nd) gsd_nil))))) (by decide) (fun _ _ _ _ _ => tsd_nil) (fun _ _ _ _ _ => (pd_tup (ad_cons (pd_fn (Has.mono (has_number_of T) (by first | decide | exact Nat.le_refl _)) hr takes0 (ad_cons (pd_var 0) (ad_cons (pd_var 2) ad_nil))) (ad_cons (pd_fn (Has.mono (has_number_of T) (by first | decide | exact Nat.le_refl _)) hr takes0 (ad_cons (pd_var 0) (ad_cons (pd_var 3) ad_nil))) (ad_cons (pd_var 4) ad_nil)))))) ad_nil))))
theorem has_numbered (T : Txt K mg ca) : Has P w K mg base ca 2 ("numbered" : Str) 2 F_numbered := T.d_numbered.has sc_numbered rfl (body_numbered T)
/-! ### first_ways -/
abbrev N_first_ways : List Str := [("nodes" : Str), ("found" : Str), ("x" : Str), ("row" : Str), ("y" : Str)]
theorem sc_first_ways : FnScope N_first_ways [("nodes" : Str)] (defScope st_first_ways) := ⟨rfl, rfl, rfl, by decide +kernel, rfl, by decide +kernel, by decide +kernel⟩
theorem body_first_ways (T : Txt K mg ca) (f : Addr) (cdv : Value) (A : Around) (outer : List Env) (s : Shared) (H : Hp) (E : XK) (hr : Room 0 (cxD P w K mg base N_first_ways ("first_ways" : Str) (defScope st_first_ways) f cdv A outer s H E).A) (tk : Takes (cxD P w K mg base N_first_ways ("first_ways" : Str) (defScope st_first_ways) f cdv A outer s H E) (wD E))
    (hp : PassesOwn (model P w) (cxD P w K mg base N_first_ways ("first_ways" : Str) (defScope st_first_ways) f cdv A outer s H E).A (cxD P w K mg base N_first_ways ("first_ways" : Str) (defScope st_first_ways) f cdv A outer s H E).env (cxD P w K mg base N_first_ways ("first_ways" : Str) (defScope st_first_ways) f cdv A outer s H E).xe) :
    PSs (cxD P w K mg base N_first_ways ("first_ways" : Str) (defScope st_first_ways) f cdv A outer s H E) (defBody st_first_ways) (tS ⟨K, ca⟩ (wD E) (B_first_ways)) := by
  have nd := (sc_first_ways).nd
  exact (sd_seq (sd_set 1 nd (pd_lst ad_nil))
  (sd_seq (sd_for hp rfl (id_seq (pd_var 0)) (gd_name 2 nd)
  (sd_seq (sd_set 3 nd (pd_lst ad_nil))
  (sd_seq (sd_for hp rfl (id_seq (pd_var 0)) (gd_name 4 nd)
  (sd_one (sd_set 3 nd (pd_op op_addD add_s (pd_var 3) (pd_lst (ad_cons (pd_if (td_cmp (op_eqD hr.units) eq_s (pd_var 2) (pd_var 4)) (pd_tup ad_nil) (pd_if (td_cmp (op_eqD hr.units) eq_s (pd_var 2) (pd_cst T.c_NOUGHT (fun _ _ _ => .str _))) (pd_tup (ad_cons (pd_tup (ad_cons (pd_var 2) (ad_cons (pd_var 4) (ad_cons pd_int ad_nil)))) ad_nil)) pd_non)) ad_nil))))))
  (sd_one (sd_set 1 nd (pd_op op_addD add_s (pd_var 1) (pd_lst (ad_cons (pd_var 3) ad_nil))))))))
  (sd_one (sd_ret (pd_var 1)))))
theorem has_first_ways (T : Txt K mg ca) : Has P w K mg base ca 1 ("first_ways" : Str) 1 F_first_ways := T.d_first_ways.has sc_first_ways rfl (body_first_ways T)
/-! ### way_sum -/
abbrev N_way_sum : List Str := [("way" : Str), ("x" : Str), ("y" : Str), ("number" : Str)]
theorem sc_way_sum : FnScope N_way_sum [("way" : Str)] (defScope st_way_sum) := ⟨rfl, rfl, rfl, by decide +kernel, rfl, by decide +kernel, by decide +kernel⟩
theorem body_way_sum (T : Txt K mg ca) (f : Addr) (cdv : Value) (A : Around) (outer : List Env) (s : Shared) (H : Hp) (E : XK) (hr : Room 0 (cxD P w K mg base N_way_sum ("way_sum" : Str) (defScope st_way_sum) f cdv A outer s H E).A) (tk : Takes (cxD P w K mg base N_way_sum ("way_sum" : Str) (defScope st_way_sum) f cdv A outer s H E) (wD E))
    (hp : PassesOwn (model P w) (cxD P w K mg base N_way_sum ("way_sum" : Str) (defScope st_way_sum) f cdv A outer s H E).A (cxD P w K mg base N_way_sum ("way_sum" : Str) (defScope st_way_sum) f cdv A outer s H E).env (cxD P w K mg base N_way_sum ("way_sum" : Str) (defScope st_way_sum) f cdv A outer s H E).xe) :
    PSs (cxD P w K mg base N_way_sum ("way_sum" : Str) (defScope st_way_sum) f cdv A outer s H E) (defBody st_way_sum) (tS ⟨K, ca⟩ (wD E) (B_way_sum)) := by
  have nd := (sc_way_sum).nd
  exact (sd_one (sd_ret (pd_if (td_isN (pd_var 0)) pd_non (pd_callB (cr_sum rfl) sum_s T.z_sum rfl (ad_cons (pd_lc rfl nd (id_seq (pd_var 0)) (blkOk_by (own := [(("x" : Str), 1), (("y" : Str), 2), (("number" : Str), 3)]) (by kernel_rfl)) (fun _ _ _ _ _ => (gd_tup rfl (gsd_cons (gd_name 1 nd) (gsd_cons (gd_name 2 nd) (gsd_cons (gd_name 3 nd) gsd_nil))))) (by decide) (fun _ _ _ _ _ => tsd_nil) (fun _ _ _ _ _ => (pd_var 3))) ad_nil)))))
theorem has_way_sum (T : Txt K mg ca) : Has P w K mg base ca 1 ("way_sum" : Str) 1 F_way_sum := T.d_way_sum.has sc_way_sum rfl (body_way_sum T)
/-! ### better_way -/
abbrev N_better_way : List Str := [("old" : Str), ("new" : Str)]
theorem sc_better_way : FnScope N_better_way [("old" : Str), ("new" : Str)] (defScope st_better_way) := ⟨rfl, rfl, rfl, by decide +kernel, rfl, by decide +kernel, by decide +kernel⟩
theorem body_better_way (T : Txt K mg ca) (f : Addr) (cdv : Value) (A : Around) (outer : List Env) (s : Shared) (H : Hp) (E : XK) (hr : Room 1 (cxD P w K mg base N_better_way ("better_way" : Str) (defScope st_better_way) f cdv A outer s H E).A) (tk : Takes (cxD P w K mg base N_better_way ("better_way" : Str) (defScope st_better_way) f cdv A outer s H E) (wD E))
    (hp : PassesOwn (model P w) (cxD P w K mg base N_better_way ("better_way" : Str) (defScope st_better_way) f cdv A outer s H E).A (cxD P w K mg base N_better_way ("better_way" : Str) (defScope st_better_way) f cdv A outer s H E).env (cxD P w K mg base N_better_way ("better_way" : Str) (defScope st_better_way) f cdv A outer s H E).xe) :
    PSs (cxD P w K mg base N_better_way ("better_way" : Str) (defScope st_better_way) f cdv A outer s H E) (defBody st_better_way) (tS ⟨K, ca⟩ (wD E) (B_better_way)) := by
  have nd := (sc_better_way).nd
  exact (sd_seq (sd_if (PW.pt (wd_or (td_isN (pd_var 1)) (wd_or1 (PW.pt (wd_and (td_notN (pd_var 0)) (wd_and1 (td_cmp op_le le_s (pd_fn (Has.mono (has_way_sum T) (by first | decide | exact Nat.le_refl _)) hr tk (ad_cons (pd_var 0) ad_nil)) (pd_fn (Has.mono (has_way_sum T) (by first | decide | exact Nat.le_refl _)) hr tk (ad_cons (pd_var 1) ad_nil)))))))))
  (sd_one (sd_ret (pd_var 0)))
  sd_nil)
  (sd_one (sd_ret (pd_var 1))))
theorem has_better_way (T : Txt K mg ca) : Has P w K mg base ca 2 ("better_way" : Str) 2 F_better_way := T.d_better_way.has sc_better_way rfl (body_better_way T)
/-! ### joined_way -/
abbrev N_joined_way : List Str := [("ahead" : Str), ("fact" : Str), ("behind" : Str)]
theorem sc_joined_way : FnScope N_joined_way [("ahead" : Str), ("fact" : Str), ("behind" : Str)] (defScope st_joined_way) := ⟨rfl, rfl, rfl, by decide +kernel, rfl, by decide +kernel, by decide +kernel⟩
theorem body_joined_way (T : Txt K mg ca) (f : Addr) (cdv : Value) (A : Around) (outer : List Env) (s : Shared) (H : Hp) (E : XK) (hr : Room 0 (cxD P w K mg base N_joined_way ("joined_way" : Str) (defScope st_joined_way) f cdv A outer s H E).A) (tk : Takes (cxD P w K mg base N_joined_way ("joined_way" : Str) (defScope st_joined_way) f cdv A outer s H E) (wD E))
    (hp : PassesOwn (model P w) (cxD P w K mg base N_joined_way ("joined_way" : Str) (defScope st_joined_way) f cdv A outer s H E).A (cxD P w K mg base N_joined_way ("joined_way" : Str) (defScope st_joined_way) f cdv A outer s H E).env (cxD P w K mg base N_joined_way ("joined_way" : Str) (defScope st_joined_way) f cdv A outer s H E).xe) :
    PSs (cxD P w K mg base N_joined_way ("joined_way" : Str) (defScope st_joined_way) f cdv A outer s H E) (defBody st_joined_way) (tS ⟨K, ca⟩ (wD E) (B_joined_way)) := by
  have nd := (sc_joined_way).nd
  exact (sd_one (sd_ret (pd_if (PW.pt (wd_or (td_isN (pd_var 0)) (wd_or1 (td_isN (pd_var 2))))) pd_non (pd_tup (ad_star (pd_var 0) (ad_cons (pd_var 1) (ad_star (pd_var 2) ad_nil)))))))
theorem has_joined_way (T : Txt K mg ca) : Has P w K mg base ca 1 ("joined_way" : Str) 3 F_joined_way := T.d_joined_way.has sc_joined_way rfl (body_joined_way T)
/-! ### ways_by -/
abbrev N_ways_by : List Str := [("nodes" : Str), ("facts" : Str), ("ways" : Str), ("fact" : Str), ("x" : Str), ("y" : Str), ("back" : Str), ("later" : Str), ("row" : Str), ("old" : Str), ("far" : Str)]
theorem sc_ways_by : FnScope N_ways_by [("nodes" : Str), ("facts" : Str)] (defScope st_ways_by) := ⟨rfl, rfl, rfl, by decide +kernel, rfl, by decide +kernel, by decide +kernel⟩
theorem body_ways_by (T : Txt K mg ca) (f : Addr) (cdv : Value) (A : Around) (outer : List Env) (s : Shared) (H : Hp) (E : XK) (hr : Room 2 (cxD P w K mg base N_ways_by ("ways_by" : Str) (defScope st_ways_by) f cdv A outer s H E).A) (tk : Takes (cxD P w K mg base N_ways_by ("ways_by" : Str) (defScope st_ways_by) f cdv A outer s H E) (wD E))
    (hp : PassesOwn (model P w) (cxD P w K mg base N_ways_by ("ways_by" : Str) (defScope st_ways_by) f cdv A outer s H E).A (cxD P w K mg base N_ways_by ("ways_by" : Str) (defScope st_ways_by) f cdv A outer s H E).env (cxD P w K mg base N_ways_by ("ways_by" : Str) (defScope st_ways_by) f cdv A outer s H E).xe) :
    PSs (cxD P w K mg base N_ways_by ("ways_by" : Str) (defScope st_ways_by) f cdv A outer s H E) (defBody st_ways_by) (tS ⟨K, ca⟩ (wD E) (B_ways_by)) := by
  have nd := (sc_ways_by).nd
  exact (sd_seq (sd_set 2 nd (pd_fn (Has.mono (has_first_ways T) (by first | decide | exact Nat.le_refl _)) hr tk (ad_cons (pd_var 0) ad_nil)))
  (sd_seq (sd_for hp rfl (id_seq (pd_var 1)) (gd_name 3 nd)
  (sd_seq (sd_asg (pd_tup (ad_cons (pd_fn (Has.mono (has_number_of T) (by first | decide | exact Nat.le_refl _)) hr tk (ad_cons (pd_var 0) (ad_cons (pd_ix (pd_var 3) pd_int) ad_nil))) (ad_cons (pd_fn (Has.mono (has_number_of T) (by first | decide | exact Nat.le_refl _)) hr tk (ad_cons (pd_var 0) (ad_cons (pd_ix (pd_var 3) pd_int) ad_nil))) ad_nil))) (gd_tup rfl (gsd_cons (gd_name 4 nd) (gsd_cons (gd_name 5 nd) gsd_nil))))
  (sd_seq (sd_set 6 nd (pd_ix (pd_ix (pd_var 2) (pd_var 5)) (pd_var 4)))
  (sd_seq (sd_if (PW.pt (wd_and (td_notN (pd_var 6)) (wd_and1 (td_cmp op_lt lt_s (pd_op op_addD add_s (pd_fn (Has.mono (has_way_sum T) (by first | decide | exact Nat.le_refl _)) hr tk (ad_cons (pd_var 6) ad_nil)) (pd_ix (pd_var 3) pd_int)) pd_int))))
  (sd_one (sd_ret (pd_tup (ad_cons pd_non (ad_cons (pd_tup (ad_star (pd_var 6) (ad_cons (pd_var 3) ad_nil))) ad_nil)))))
  sd_nil)
  (sd_seq (sd_set 7 nd (pd_lst ad_nil))
  (sd_seq (sd_for hp rfl (id_seq (pd_var 2)) (gd_name 8 nd)
  (sd_one (sd_set 7 nd (pd_op op_addD add_s (pd_var 7) (pd_lst (ad_cons (pd_lc rfl nd (id_zip T.z_zip (ad_cons (pd_var 8) (ad_cons (pd_ix (pd_var 2) (pd_var 5)) ad_nil))) (blkOk_by (own := [(("old" : Str), 9), (("far" : Str), 10)]) (by kernel_rfl)) (fun _ _ _ _ _ => (gd_tup rfl (gsd_cons (gd_name 9 nd) (gsd_cons (gd_name 10 nd) gsd_nil)))) (by decide) (fun _ _ _ _ _ => tsd_nil) (fun _ _ _ _ _ => (pd_fn (Has.mono (has_better_way T) (by first | decide | exact Nat.le_refl _)) hr takes0 (ad_cons (pd_var 9) (ad_cons (pd_fn (Has.mono (has_joined_way T) (by first | decide | exact Nat.le_refl _)) hr takes0 (ad_cons (pd_ix (pd_var 8) (pd_var 4)) (ad_cons (pd_var 3) (ad_cons (pd_var 10) ad_nil)))) ad_nil))))) ad_nil))))))
  (sd_one (sd_set 2 nd (pd_var 7)))))))))
  (sd_one (sd_ret (pd_tup (ad_cons (pd_var 2) (ad_cons pd_non ad_nil)))))))
theorem has_ways_by (T : Txt K mg ca) : Has P w K mg base ca 3 ("ways_by" : Str) 2 F_ways_by := T.d_ways_by.has sc_ways_by rfl (body_ways_by T)
/-! ### Sheet.__init__ -/
abbrev N_Sheet___init__ : List Str := [("self" : Str), ("marks" : Str), ("takes" : Str), ("facts" : Str), ("nodes" : Str), ("bounds" : Str), ("ways" : Str), ("ring" : Str)]
theorem sc_Sheet___init__ : FnScope N_Sheet___init__ [("self" : Str), ("marks" : Str), ("takes" : Str), ("facts" : Str)] (defScope st_Sheet___init__) := ⟨rfl, rfl, rfl, by decide +kernel, rfl, by decide +kernel, by decide +kernel⟩
theorem body_Sheet___init__ (T : Txt K mg ca) (f : Addr) (cdv : Value) (A : Around) (outer : List Env) (s : Shared) (H : Hp) (E : XK) (hr : Room 3 (cxD P w K mg base N_Sheet___init__ ("Sheet.__init__" : Str) (defScope st_Sheet___init__) f cdv A outer s H E).A) (tk : Takes (cxD P w K mg base N_Sheet___init__ ("Sheet.__init__" : Str) (defScope st_Sheet___init__) f cdv A outer s H E) (wD E))
    (hp : PassesOwn (model P w) (cxD P w K mg base N_Sheet___init__ ("Sheet.__init__" : Str) (defScope st_Sheet___init__) f cdv A outer s H E).A (cxD P w K mg base N_Sheet___init__ ("Sheet.__init__" : Str) (defScope st_Sheet___init__) f cdv A outer s H E).env (cxD P w K mg base N_Sheet___init__ ("Sheet.__init__" : Str) (defScope st_Sheet___init__) f cdv A outer s H E).xe) :
    PSs (cxD P w K mg base N_Sheet___init__ ("Sheet.__init__" : Str) (defScope st_Sheet___init__) f cdv A outer s H E) (defBody st_Sheet___init__) (tS ⟨K, ca⟩ (wD E) (B_Sheet___init__)) := by
  have nd := (sc_Sheet___init__).nd
  exact (sd_seq (sd_expr (pd_fn (Has.mono (has_check_sheet T) (by first | decide | exact Nat.le_refl _)) hr tk (ad_cons (pd_var 1) (ad_cons (pd_var 2) (ad_cons (pd_var 3) ad_nil)))))
  (sd_seq (sd_set 4 nd (pd_tup (ad_cons (pd_cst T.c_NOUGHT (fun _ _ _ => .str _)) (ad_star (pd_var 1) ad_nil))))
  (sd_seq (sd_set 5 nd (pd_fn (Has.mono (has_narrowed_by T) (by first | decide | exact Nat.le_refl _)) hr tk (ad_cons (pd_fn (Has.mono (has_open_bounds T) (by first | decide | exact Nat.le_refl _)) hr tk (ad_cons (pd_callB call_len len_s T.z_len rfl (ad_cons (pd_var 1) ad_nil)) ad_nil)) (ad_cons (pd_fn (Has.mono (has_numbered T) (by first | decide | exact Nat.le_refl _)) hr tk (ad_cons (pd_var 4) (ad_cons (pd_var 3) ad_nil))) ad_nil))))
  (sd_seq (sd_if (td_isN (pd_var 5))
  (sd_seq (sd_asg (pd_fn (Has.mono (has_ways_by T) (by first | decide | exact Nat.le_refl _)) hr tk (ad_cons (pd_var 4) (ad_cons (pd_var 3) ad_nil))) (gd_tup rfl (gsd_cons (gd_name 6 nd) (gsd_cons (gd_name 7 nd) gsd_nil))))
  (sd_one (sd_raise (xmak_Contradiction T) (hr.mono (by decide)) rfl tk (ad_cons (pd_var 7) ad_nil))))
  sd_nil)
  (sd_seq (sd_fld (fld1 0 T.cls0 T.no0_marks) (pd_var 0) (pd_var 1))
  (sd_seq (sd_fld (fld1 0 T.cls0 T.no0_takes) (pd_var 0) (pd_var 2))
  (sd_seq (sd_fld (fld1 0 T.cls0 T.no0_facts) (pd_var 0) (pd_var 3))
  (sd_seq (sd_fld (fld1 0 T.cls0 T.no0_nodes) (pd_var 0) (pd_var 4))
  (sd_one (sd_fld (fld1 0 T.cls0 T.no0_bounds) (pd_var 0) (pd_var 5)))))))))))
theorem mak_Sheet_3 (T : Txt K mg ca) : MakAt P w K mg base ca 4 ("Sheet" : Str) 0 3 MF_Sheet_3 := T.i_Sheet_3.at sc_Sheet___init__ rfl (body_Sheet___init__ T)
theorem mak_Sheet_2 (T : Txt K mg ca) : MakAt P w K mg base ca 4 ("Sheet" : Str) 0 2 MF_Sheet_2 := T.i_Sheet_2.at sc_Sheet___init__ rfl (body_Sheet___init__ T)
theorem xmakK_BadMarks_0_index (T : Txt K mg ca) : XMakK P w K mg base ca 1 ("BadMarks" : Str) 6 [("index" : Str)] 0 [("index" : Str)] [(false, 0)] := T.i_BadMarks.mak1K T.ox6 T.c_BadMarks T.xn6_index sc_BadMarks___init__ (fun fa cdv A outer sh H E => pss_cons (ps_expr (pe_oinit rfl T.c_TakesError.cmg T.bx1.rd T.bx1.ga T.bx1.at_ (pa_cons (pe_var (i := 0) rfl (.inl rfl)) (pa_cons pe_str pa_nil)))) (pss_one (ps_ost (pe_var (i := 0) rfl (.inl rfl)) (pe_var (i := 1) rfl (.inl rfl))))) 0 [("index" : Str)] [(false, 0)] (by decide) (fun fd e z us ws h1 h2 => by
  obtain ⟨kV, doc, pm, an, cdv, ct, rfl⟩ := e
  match us, ws, h1, h2 with
  | [], [_], _, _ => rfl)
theorem xmakK_BadTakes_0_index (T : Txt K mg ca) : XMakK P w K mg base ca 1 ("BadTakes" : Str) 11 [("index" : Str)] 0 [("index" : Str)] [(false, 0)] := T.i_BadTakes.mak1K T.ox11 T.c_BadTakes T.xn11_index sc_BadTakes___init__ (fun fa cdv A outer sh H E => pss_cons (ps_expr (pe_oinit rfl T.c_TakesError.cmg T.bx1.rd T.bx1.ga T.bx1.at_ (pa_cons (pe_var (i := 0) rfl (.inl rfl)) (pa_cons pe_str pa_nil)))) (pss_one (ps_ost (pe_var (i := 0) rfl (.inl rfl)) (pe_var (i := 1) rfl (.inl rfl))))) 0 [("index" : Str)] [(false, 0)] (by decide) (fun fd e z us ws h1 h2 => by
  obtain ⟨kV, doc, pm, an, cdv, ct, rfl⟩ := e
  match us, ws, h1, h2 with
  | [], [_], _, _ => rfl)
theorem xmakK_BadFact_0_index (T : Txt K mg ca) : XMakK P w K mg base ca 1 ("BadFact" : Str) 4 [("index" : Str)] 0 [("index" : Str)] [(false, 0)] := T.i_BadFact.mak1K T.ox4 T.c_BadFact T.xn4_index sc_BadFact___init__ (fun fa cdv A outer sh H E => pss_cons (ps_expr (pe_oinit rfl T.c_TakesError.cmg T.bx1.rd T.bx1.ga T.bx1.at_ (pa_cons (pe_var (i := 0) rfl (.inl rfl)) (pa_cons pe_str pa_nil)))) (pss_one (ps_ost (pe_var (i := 0) rfl (.inl rfl)) (pe_var (i := 1) rfl (.inl rfl))))) 0 [("index" : Str)] [(false, 0)] (by decide) (fun fd e z us ws h1 h2 => by
  obtain ⟨kV, doc, pm, an, cdv, ct, rfl⟩ := e
  match us, ws, h1, h2 with
  | [], [_], _, _ => rfl)
theorem xmakK_BadTracks_0_index (T : Txt K mg ca) : XMakK P w K mg base ca 1 ("BadTracks" : Str) 13 [("index" : Str)] 0 [("index" : Str)] [(false, 0)] := T.i_BadTracks.mak1K T.ox13 T.c_BadTracks T.xn13_index sc_BadTracks___init__ (fun fa cdv A outer sh H E => pss_cons (ps_expr (pe_oinit rfl T.c_TakesError.cmg T.bx1.rd T.bx1.ga T.bx1.at_ (pa_cons (pe_var (i := 0) rfl (.inl rfl)) (pa_cons pe_str pa_nil)))) (pss_one (ps_ost (pe_var (i := 0) rfl (.inl rfl)) (pe_var (i := 1) rfl (.inl rfl))))) 0 [("index" : Str)] [(false, 0)] (by decide) (fun fd e z us ws h1 h2 => by
  obtain ⟨kV, doc, pm, an, cdv, ct, rfl⟩ := e
  match us, ws, h1, h2 with
  | [], [_], _, _ => rfl)
theorem xmakK_BadFault_0_index (T : Txt K mg ca) : XMakK P w K mg base ca 1 ("BadFault" : Str) 5 [("index" : Str)] 0 [("index" : Str)] [(false, 0)] := T.i_BadFault.mak1K T.ox5 T.c_BadFault T.xn5_index sc_BadFault___init__ (fun fa cdv A outer sh H E => pss_cons (ps_expr (pe_oinit rfl T.c_TakesError.cmg T.bx1.rd T.bx1.ga T.bx1.at_ (pa_cons (pe_var (i := 0) rfl (.inl rfl)) (pa_cons pe_str pa_nil)))) (pss_one (ps_ost (pe_var (i := 0) rfl (.inl rfl)) (pe_var (i := 1) rfl (.inl rfl))))) 0 [("index" : Str)] [(false, 0)] (by decide) (fun fd e z us ws h1 h2 => by
  obtain ⟨kV, doc, pm, an, cdv, ct, rfl⟩ := e
  match us, ws, h1, h2 with
  | [], [_], _, _ => rfl)
theorem xmakK_BadTree_0_index (T : Txt K mg ca) : XMakK P w K mg base ca 1 ("BadTree" : Str) 14 [("index" : Str)] 0 [("index" : Str)] [(false, 0)] := T.i_BadTree.mak1K T.ox14 T.c_BadTree T.xn14_index sc_BadTree___init__ (fun fa cdv A outer sh H E => pss_cons (ps_expr (pe_oinit rfl T.c_TakesError.cmg T.bx1.rd T.bx1.ga T.bx1.at_ (pa_cons (pe_var (i := 0) rfl (.inl rfl)) (pa_cons pe_str pa_nil)))) (pss_one (ps_ost (pe_var (i := 0) rfl (.inl rfl)) (pe_var (i := 1) rfl (.inl rfl))))) 0 [("index" : Str)] [(false, 0)] (by decide) (fun fd e z us ws h1 h2 => by
  obtain ⟨kV, doc, pm, an, cdv, ct, rfl⟩ := e
  match us, ws, h1, h2 with
  | [], [_], _, _ => rfl)
theorem xmakK_BadDeed_0_index (T : Txt K mg ca) : XMakK P w K mg base ca 1 ("BadDeed" : Str) 2 [("index" : Str)] 0 [("index" : Str)] [(false, 0)] := T.i_BadDeed.mak1K T.ox2 T.c_BadDeed T.xn2_index sc_BadDeed___init__ (fun fa cdv A outer sh H E => pss_cons (ps_expr (pe_oinit rfl T.c_TakesError.cmg T.bx1.rd T.bx1.ga T.bx1.at_ (pa_cons (pe_var (i := 0) rfl (.inl rfl)) (pa_cons pe_str pa_nil)))) (pss_one (ps_ost (pe_var (i := 0) rfl (.inl rfl)) (pe_var (i := 1) rfl (.inl rfl))))) 0 [("index" : Str)] [(false, 0)] (by decide) (fun fd e z us ws h1 h2 => by
  obtain ⟨kV, doc, pm, an, cdv, ct, rfl⟩ := e
  match us, ws, h1, h2 with
  | [], [_], _, _ => rfl)
theorem xmakK_BadPlace_0_index (T : Txt K mg ca) : XMakK P w K mg base ca 1 ("BadPlace" : Str) 9 [("index" : Str)] 0 [("index" : Str)] [(false, 0)] := T.i_BadPlace.mak1K T.ox9 T.c_BadPlace T.xn9_index sc_BadPlace___init__ (fun fa cdv A outer sh H E => pss_cons (ps_expr (pe_oinit rfl T.c_TakesError.cmg T.bx1.rd T.bx1.ga T.bx1.at_ (pa_cons (pe_var (i := 0) rfl (.inl rfl)) (pa_cons pe_str pa_nil)))) (pss_one (ps_ost (pe_var (i := 0) rfl (.inl rfl)) (pe_var (i := 1) rfl (.inl rfl))))) 0 [("index" : Str)] [(false, 0)] (by decide) (fun fd e z us ws h1 h2 => by
  obtain ⟨kV, doc, pm, an, cdv, ct, rfl⟩ := e
  match us, ws, h1, h2 with
  | [], [_], _, _ => rfl)
theorem xmakK_BadEdit_0_step (T : Txt K mg ca) : XMakK P w K mg base ca 1 ("BadEdit" : Str) 3 [("step" : Str)] 0 [("step" : Str)] [(false, 0)] := T.i_BadEdit.mak1K T.ox3 T.c_BadEdit T.xn3_step sc_BadEdit___init__ (fun fa cdv A outer sh H E => pss_cons (ps_expr (pe_oinit rfl T.c_TakesError.cmg T.bx1.rd T.bx1.ga T.bx1.at_ (pa_cons (pe_var (i := 0) rfl (.inl rfl)) (pa_cons pe_str pa_nil)))) (pss_one (ps_ost (pe_var (i := 0) rfl (.inl rfl)) (pe_var (i := 1) rfl (.inl rfl))))) 0 [("step" : Str)] [(false, 0)] (by decide) (fun fd e z us ws h1 h2 => by
  obtain ⟨kV, doc, pm, an, cdv, ct, rfl⟩ := e
  match us, ws, h1, h2 with
  | [], [_], _, _ => rfl)
theorem xmakK_BadStep_0_step (T : Txt K mg ca) : XMakK P w K mg base ca 1 ("BadStep" : Str) 10 [("step" : Str)] 0 [("step" : Str)] [(false, 0)] := T.i_BadStep.mak1K T.ox10 T.c_BadStep T.xn10_step sc_BadStep___init__ (fun fa cdv A outer sh H E => pss_cons (ps_expr (pe_oinit rfl T.c_TakesError.cmg T.bx1.rd T.bx1.ga T.bx1.at_ (pa_cons (pe_var (i := 0) rfl (.inl rfl)) (pa_cons pe_str pa_nil)))) (pss_one (ps_ost (pe_var (i := 0) rfl (.inl rfl)) (pe_var (i := 1) rfl (.inl rfl))))) 0 [("step" : Str)] [(false, 0)] (by decide) (fun fd e z us ws h1 h2 => by
  obtain ⟨kV, doc, pm, an, cdv, ct, rfl⟩ := e
  match us, ws, h1, h2 with
  | [], [_], _, _ => rfl)
theorem xmakK_BadText_0_line (T : Txt K mg ca) : XMakK P w K mg base ca 1 ("BadText" : Str) 12 [("line" : Str)] 0 [("line" : Str)] [(false, 0)] := T.i_BadText.mak1K T.ox12 T.c_BadText T.xn12_line sc_BadText___init__ (fun fa cdv A outer sh H E => pss_cons (ps_expr (pe_oinit rfl T.c_TakesError.cmg T.bx1.rd T.bx1.ga T.bx1.at_ (pa_cons (pe_var (i := 0) rfl (.inl rfl)) (pa_cons pe_str pa_nil)))) (pss_one (ps_ost (pe_var (i := 0) rfl (.inl rfl)) (pe_var (i := 1) rfl (.inl rfl))))) 0 [("line" : Str)] [(false, 0)] (by decide) (fun fd e z us ws h1 h2 => by
  obtain ⟨kV, doc, pm, an, cdv, ct, rfl⟩ := e
  match us, ws, h1, h2 with
  | [], [_], _, _ => rfl)
theorem xmakK_UnknownName_0_name (T : Txt K mg ca) : XMakK P w K mg base ca 1 ("UnknownName" : Str) 24 [("name" : Str)] 0 [("name" : Str)] [(false, 0)] := T.i_UnknownName.mak1K T.ox24 T.c_UnknownName T.xn24_name sc_UnknownName___init__ (fun fa cdv A outer sh H E => pss_cons (ps_expr (pe_oinit rfl T.c_TakesError.cmg T.bx1.rd T.bx1.ga T.bx1.at_ (pa_cons (pe_var (i := 0) rfl (.inl rfl)) (pa_cons pe_str pa_nil)))) (pss_one (ps_ost (pe_var (i := 0) rfl (.inl rfl)) (pe_var (i := 1) rfl (.inl rfl))))) 0 [("name" : Str)] [(false, 0)] (by decide) (fun fd e z us ws h1 h2 => by
  obtain ⟨kV, doc, pm, an, cdv, ct, rfl⟩ := e
  match us, ws, h1, h2 with
  | [], [_], _, _ => rfl)
theorem xmakK_NameTaken_0_name (T : Txt K mg ca) : XMakK P w K mg base ca 1 ("NameTaken" : Str) 17 [("name" : Str)] 0 [("name" : Str)] [(false, 0)] := T.i_NameTaken.mak1K T.ox17 T.c_NameTaken T.xn17_name sc_NameTaken___init__ (fun fa cdv A outer sh H E => pss_cons (ps_expr (pe_oinit rfl T.c_TakesError.cmg T.bx1.rd T.bx1.ga T.bx1.at_ (pa_cons (pe_var (i := 0) rfl (.inl rfl)) (pa_cons pe_str pa_nil)))) (pss_one (ps_ost (pe_var (i := 0) rfl (.inl rfl)) (pe_var (i := 1) rfl (.inl rfl))))) 0 [("name" : Str)] [(false, 0)] (by decide) (fun fd e z us ws h1 h2 => by
  obtain ⟨kV, doc, pm, an, cdv, ct, rfl⟩ := e
  match us, ws, h1, h2 with
  | [], [_], _, _ => rfl)
theorem xmakK_NoBranch_0_name (T : Txt K mg ca) : XMakK P w K mg base ca 1 ("NoBranch" : Str) 18 [("name" : Str)] 0 [("name" : Str)] [(false, 0)] := T.i_NoBranch.mak1K T.ox18 T.c_NoBranch T.xn18_name sc_NoBranch___init__ (fun fa cdv A outer sh H E => pss_cons (ps_expr (pe_oinit rfl T.c_TakesError.cmg T.bx1.rd T.bx1.ga T.bx1.at_ (pa_cons (pe_var (i := 0) rfl (.inl rfl)) (pa_cons pe_str pa_nil)))) (pss_one (ps_ost (pe_var (i := 0) rfl (.inl rfl)) (pe_var (i := 1) rfl (.inl rfl))))) 0 [("name" : Str)] [(false, 0)] (by decide) (fun fd e z us ws h1 h2 => by
  obtain ⟨kV, doc, pm, an, cdv, ct, rfl⟩ := e
  match us, ws, h1, h2 with
  | [], [_], _, _ => rfl)
theorem xmakK_NoWatch_0_name (T : Txt K mg ca) : XMakK P w K mg base ca 1 ("NoWatch" : Str) 20 [("name" : Str)] 0 [("name" : Str)] [(false, 0)] := T.i_NoWatch.mak1K T.ox20 T.c_NoWatch T.xn20_name sc_NoWatch___init__ (fun fa cdv A outer sh H E => pss_cons (ps_expr (pe_oinit rfl T.c_TakesError.cmg T.bx1.rd T.bx1.ga T.bx1.at_ (pa_cons (pe_var (i := 0) rfl (.inl rfl)) (pa_cons pe_str pa_nil)))) (pss_one (ps_ost (pe_var (i := 0) rfl (.inl rfl)) (pe_var (i := 1) rfl (.inl rfl))))) 0 [("name" : Str)] [(false, 0)] (by decide) (fun fd e z us ws h1 h2 => by
  obtain ⟨kV, doc, pm, an, cdv, ct, rfl⟩ := e
  match us, ws, h1, h2 with
  | [], [_], _, _ => rfl)
theorem xmakK_CouldGoWrong_1_recording_kind (T : Txt K mg ca) : XMakK P w K mg base ca 1 ("CouldGoWrong" : Str) 16 [("step" : Str), ("kind" : Str), ("recording" : Str)] 1 [("recording" : Str), ("kind" : Str)] [(true, 0), (false, 1), (false, 0)] := T.i_CouldGoWrong.mak3K T.ox16 T.c_CouldGoWrong T.xn16_step T.xn16_kind T.xn16_recording sc_CouldGoWrong___init__ (fun fa cdv A outer sh H E => pss_cons (ps_expr (pe_oinit rfl T.c_TakesError.cmg T.bx1.rd T.bx1.ga T.bx1.at_ (pa_cons (pe_var (i := 0) rfl (.inl rfl)) (pa_cons pe_str pa_nil)))) (pss_cons (ps_ost (pe_var (i := 0) rfl (.inl rfl)) (pe_var (i := 1) rfl (.inl rfl))) (pss_cons (ps_ost (pe_var (i := 0) rfl (.inl rfl)) (pe_var (i := 2) rfl (.inl rfl))) (pss_one (ps_ost (pe_var (i := 0) rfl (.inl rfl)) (pe_var (i := 3) rfl (.inl rfl))))))) 1 [("recording" : Str), ("kind" : Str)] [(true, 0), (false, 1), (false, 0)] (by decide) (fun fd e z us ws h1 h2 => by
  obtain ⟨kV, doc, pm, an, cdv, ct, rfl⟩ := e
  match us, ws, h1, h2 with
  | [_], [_, _], _, _ => rfl)
theorem xmakK_Contradiction_0_ring (T : Txt K mg ca) : XMakK P w K mg base ca 1 ("Contradiction" : Str) 15 [("ring" : Str)] 0 [("ring" : Str)] [(false, 0)] := T.i_Contradiction.mak1K T.ox15 T.c_Contradiction T.xn15_ring sc_Contradiction___init__ (fun fa cdv A outer sh H E => pss_cons (ps_expr (pe_oinit rfl T.c_TakesError.cmg T.bx1.rd T.bx1.ga T.bx1.at_ (pa_cons (pe_var (i := 0) rfl (.inl rfl)) (pa_cons pe_str pa_nil)))) (pss_one (ps_ost (pe_var (i := 0) rfl (.inl rfl)) (pe_var (i := 1) rfl (.inl rfl))))) 0 [("ring" : Str)] [(false, 0)] (by decide) (fun fd e z us ws h1 h2 => by
  obtain ⟨kV, doc, pm, an, cdv, ct, rfl⟩ := e
  match us, ws, h1, h2 with
  | [], [_], _, _ => rfl)
theorem xmakK_NotSure_0_recording (T : Txt K mg ca) : XMakK P w K mg base ca 1 ("NotSure" : Str) 22 [("recording" : Str)] 0 [("recording" : Str)] [(false, 0)] := T.i_NotSure.mak1K T.ox22 T.c_NotSure T.xn22_recording sc_NotSure___init__ (fun fa cdv A outer sh H E => pss_cons (ps_expr (pe_oinit rfl T.c_TakesError.cmg T.bx1.rd T.bx1.ga T.bx1.at_ (pa_cons (pe_var (i := 0) rfl (.inl rfl)) (pa_cons pe_str pa_nil)))) (pss_one (ps_ost (pe_var (i := 0) rfl (.inl rfl)) (pe_var (i := 1) rfl (.inl rfl))))) 0 [("recording" : Str)] [(false, 0)] (by decide) (fun fd e z us ws h1 h2 => by
  obtain ⟨kV, doc, pm, an, cdv, ct, rfl⟩ := e
  match us, ws, h1, h2 with
  | [], [_], _, _ => rfl)
/-! ### _law_fields_right -/
abbrev N__law_fields_right : List Str := [("kept" : Str), ("due" : Str), ("words" : Str), ("ring_here" : Str), ("first" : Str), ("second" : Str), ("rest" : Str)]
theorem sc__law_fields_right : FnScope N__law_fields_right [] (defScope st__law_fields_right) := ⟨rfl, rfl, rfl, by decide +kernel, rfl, by decide +kernel, by decide +kernel⟩
theorem body__law_fields_right (T : Txt K mg ca) (f : Addr) (cdv : Value) (A : Around) (outer : List Env) (s : Shared) (H : Hp) (E : XK) (hr : Room 2 (cxD P w K mg base N__law_fields_right ("_law_fields_right" : Str) (defScope st__law_fields_right) f cdv A outer s H E).A) (tk : Takes (cxD P w K mg base N__law_fields_right ("_law_fields_right" : Str) (defScope st__law_fields_right) f cdv A outer s H E) (wD E))
    (hp : PassesOwn (model P w) (cxD P w K mg base N__law_fields_right ("_law_fields_right" : Str) (defScope st__law_fields_right) f cdv A outer s H E).A (cxD P w K mg base N__law_fields_right ("_law_fields_right" : Str) (defScope st__law_fields_right) f cdv A outer s H E).env (cxD P w K mg base N__law_fields_right ("_law_fields_right" : Str) (defScope st__law_fields_right) f cdv A outer s H E).xe) :
    PSs (cxD P w K mg base N__law_fields_right ("_law_fields_right" : Str) (defScope st__law_fields_right) f cdv A outer s H E) (defBody st__law_fields_right) (tS ⟨K, ca⟩ (wD E) (B__law_fields_right)) := by
  have nd := (sc__law_fields_right).nd
  exact (sd_seq (sd_set 0 nd (pd_lst (ad_cons (pd_xfld (all_cons' ⟨T.xt2, T.xn2_index⟩ (all_cons' ⟨T.xt4, T.xn4_index⟩ (all_cons' ⟨T.xt5, T.xn5_index⟩ (all_cons' ⟨T.xt6, T.xn6_index⟩ (all_cons' ⟨T.xt9, T.xn9_index⟩ (all_cons' ⟨T.xt11, T.xn11_index⟩ (all_cons' ⟨T.xt13, T.xn13_index⟩ (all_cons' ⟨T.xt14, T.xn14_index⟩ all_nil')))))))) (pd_xnew (xmak_BadMarks T) (hr.mono (by decide)) tk rfl (ad_cons pd_int ad_nil))) (ad_cons (pd_xfld (all_cons' ⟨T.xt2, T.xn2_index⟩ (all_cons' ⟨T.xt4, T.xn4_index⟩ (all_cons' ⟨T.xt5, T.xn5_index⟩ (all_cons' ⟨T.xt6, T.xn6_index⟩ (all_cons' ⟨T.xt9, T.xn9_index⟩ (all_cons' ⟨T.xt11, T.xn11_index⟩ (all_cons' ⟨T.xt13, T.xn13_index⟩ (all_cons' ⟨T.xt14, T.xn14_index⟩ all_nil')))))))) (pd_xnewK0 (ks := [("index" : Str)]) (xmakK_BadMarks_0_index T) (hr.mono (by decide)) tk rfl (kd_cons pd_int kd_nil))) (ad_cons (pd_xfld (all_cons' ⟨T.xt2, T.xn2_index⟩ (all_cons' ⟨T.xt4, T.xn4_index⟩ (all_cons' ⟨T.xt5, T.xn5_index⟩ (all_cons' ⟨T.xt6, T.xn6_index⟩ (all_cons' ⟨T.xt9, T.xn9_index⟩ (all_cons' ⟨T.xt11, T.xn11_index⟩ (all_cons' ⟨T.xt13, T.xn13_index⟩ (all_cons' ⟨T.xt14, T.xn14_index⟩ all_nil')))))))) (pd_xnew (xmak_BadTakes T) (hr.mono (by decide)) tk rfl (ad_cons pd_int ad_nil))) ad_nil)))))
  (sd_seq (sd_set 0 nd (pd_op op_addD add_s (pd_var 0) (pd_lst (ad_cons (pd_xfld (all_cons' ⟨T.xt2, T.xn2_index⟩ (all_cons' ⟨T.xt4, T.xn4_index⟩ (all_cons' ⟨T.xt5, T.xn5_index⟩ (all_cons' ⟨T.xt6, T.xn6_index⟩ (all_cons' ⟨T.xt9, T.xn9_index⟩ (all_cons' ⟨T.xt11, T.xn11_index⟩ (all_cons' ⟨T.xt13, T.xn13_index⟩ (all_cons' ⟨T.xt14, T.xn14_index⟩ all_nil')))))))) (pd_xnewK0 (ks := [("index" : Str)]) (xmakK_BadTakes_0_index T) (hr.mono (by decide)) tk rfl (kd_cons pd_int kd_nil))) (ad_cons (pd_xfld (all_cons' ⟨T.xt2, T.xn2_index⟩ (all_cons' ⟨T.xt4, T.xn4_index⟩ (all_cons' ⟨T.xt5, T.xn5_index⟩ (all_cons' ⟨T.xt6, T.xn6_index⟩ (all_cons' ⟨T.xt9, T.xn9_index⟩ (all_cons' ⟨T.xt11, T.xn11_index⟩ (all_cons' ⟨T.xt13, T.xn13_index⟩ (all_cons' ⟨T.xt14, T.xn14_index⟩ all_nil')))))))) (pd_xnew (xmak_BadFact T) (hr.mono (by decide)) tk rfl (ad_cons pd_int ad_nil))) ad_nil)))))
  (sd_seq (sd_set 0 nd (pd_op op_addD add_s (pd_var 0) (pd_lst (ad_cons (pd_xfld (all_cons' ⟨T.xt2, T.xn2_index⟩ (all_cons' ⟨T.xt4, T.xn4_index⟩ (all_cons' ⟨T.xt5, T.xn5_index⟩ (all_cons' ⟨T.xt6, T.xn6_index⟩ (all_cons' ⟨T.xt9, T.xn9_index⟩ (all_cons' ⟨T.xt11, T.xn11_index⟩ (all_cons' ⟨T.xt13, T.xn13_index⟩ (all_cons' ⟨T.xt14, T.xn14_index⟩ all_nil')))))))) (pd_xnewK0 (ks := [("index" : Str)]) (xmakK_BadFact_0_index T) (hr.mono (by decide)) tk rfl (kd_cons pd_int kd_nil))) (ad_cons (pd_xfld (all_cons' ⟨T.xt2, T.xn2_index⟩ (all_cons' ⟨T.xt4, T.xn4_index⟩ (all_cons' ⟨T.xt5, T.xn5_index⟩ (all_cons' ⟨T.xt6, T.xn6_index⟩ (all_cons' ⟨T.xt9, T.xn9_index⟩ (all_cons' ⟨T.xt11, T.xn11_index⟩ (all_cons' ⟨T.xt13, T.xn13_index⟩ (all_cons' ⟨T.xt14, T.xn14_index⟩ all_nil')))))))) (pd_xnew (xmak_BadTracks T) (hr.mono (by decide)) tk rfl (ad_cons pd_int ad_nil))) (ad_cons (pd_xfld (all_cons' ⟨T.xt2, T.xn2_index⟩ (all_cons' ⟨T.xt4, T.xn4_index⟩ (all_cons' ⟨T.xt5, T.xn5_index⟩ (all_cons' ⟨T.xt6, T.xn6_index⟩ (all_cons' ⟨T.xt9, T.xn9_index⟩ (all_cons' ⟨T.xt11, T.xn11_index⟩ (all_cons' ⟨T.xt13, T.xn13_index⟩ (all_cons' ⟨T.xt14, T.xn14_index⟩ all_nil')))))))) (pd_xnewK0 (ks := [("index" : Str)]) (xmakK_BadTracks_0_index T) (hr.mono (by decide)) tk rfl (kd_cons pd_int kd_nil))) (ad_cons (pd_xfld (all_cons' ⟨T.xt2, T.xn2_index⟩ (all_cons' ⟨T.xt4, T.xn4_index⟩ (all_cons' ⟨T.xt5, T.xn5_index⟩ (all_cons' ⟨T.xt6, T.xn6_index⟩ (all_cons' ⟨T.xt9, T.xn9_index⟩ (all_cons' ⟨T.xt11, T.xn11_index⟩ (all_cons' ⟨T.xt13, T.xn13_index⟩ (all_cons' ⟨T.xt14, T.xn14_index⟩ all_nil')))))))) (pd_xnew (xmak_BadFault T) (hr.mono (by decide)) tk rfl (ad_cons pd_int ad_nil))) ad_nil)))))))
  (sd_seq (sd_set 0 nd (pd_op op_addD add_s (pd_var 0) (pd_lst (ad_cons (pd_xfld (all_cons' ⟨T.xt2, T.xn2_index⟩ (all_cons' ⟨T.xt4, T.xn4_index⟩ (all_cons' ⟨T.xt5, T.xn5_index⟩ (all_cons' ⟨T.xt6, T.xn6_index⟩ (all_cons' ⟨T.xt9, T.xn9_index⟩ (all_cons' ⟨T.xt11, T.xn11_index⟩ (all_cons' ⟨T.xt13, T.xn13_index⟩ (all_cons' ⟨T.xt14, T.xn14_index⟩ all_nil')))))))) (pd_xnewK0 (ks := [("index" : Str)]) (xmakK_BadFault_0_index T) (hr.mono (by decide)) tk rfl (kd_cons pd_int kd_nil))) (ad_cons (pd_xfld (all_cons' ⟨T.xt2, T.xn2_index⟩ (all_cons' ⟨T.xt4, T.xn4_index⟩ (all_cons' ⟨T.xt5, T.xn5_index⟩ (all_cons' ⟨T.xt6, T.xn6_index⟩ (all_cons' ⟨T.xt9, T.xn9_index⟩ (all_cons' ⟨T.xt11, T.xn11_index⟩ (all_cons' ⟨T.xt13, T.xn13_index⟩ (all_cons' ⟨T.xt14, T.xn14_index⟩ all_nil')))))))) (pd_xnew (xmak_BadTree T) (hr.mono (by decide)) tk rfl (ad_cons pd_int ad_nil))) (ad_cons (pd_xfld (all_cons' ⟨T.xt2, T.xn2_index⟩ (all_cons' ⟨T.xt4, T.xn4_index⟩ (all_cons' ⟨T.xt5, T.xn5_index⟩ (all_cons' ⟨T.xt6, T.xn6_index⟩ (all_cons' ⟨T.xt9, T.xn9_index⟩ (all_cons' ⟨T.xt11, T.xn11_index⟩ (all_cons' ⟨T.xt13, T.xn13_index⟩ (all_cons' ⟨T.xt14, T.xn14_index⟩ all_nil')))))))) (pd_xnewK0 (ks := [("index" : Str)]) (xmakK_BadTree_0_index T) (hr.mono (by decide)) tk rfl (kd_cons pd_int kd_nil))) (ad_cons (pd_xfld (all_cons' ⟨T.xt2, T.xn2_index⟩ (all_cons' ⟨T.xt4, T.xn4_index⟩ (all_cons' ⟨T.xt5, T.xn5_index⟩ (all_cons' ⟨T.xt6, T.xn6_index⟩ (all_cons' ⟨T.xt9, T.xn9_index⟩ (all_cons' ⟨T.xt11, T.xn11_index⟩ (all_cons' ⟨T.xt13, T.xn13_index⟩ (all_cons' ⟨T.xt14, T.xn14_index⟩ all_nil')))))))) (pd_xnew (xmak_BadDeed T) (hr.mono (by decide)) tk rfl (ad_cons pd_int ad_nil))) ad_nil)))))))
  (sd_seq (sd_set 0 nd (pd_op op_addD add_s (pd_var 0) (pd_lst (ad_cons (pd_xfld (all_cons' ⟨T.xt2, T.xn2_index⟩ (all_cons' ⟨T.xt4, T.xn4_index⟩ (all_cons' ⟨T.xt5, T.xn5_index⟩ (all_cons' ⟨T.xt6, T.xn6_index⟩ (all_cons' ⟨T.xt9, T.xn9_index⟩ (all_cons' ⟨T.xt11, T.xn11_index⟩ (all_cons' ⟨T.xt13, T.xn13_index⟩ (all_cons' ⟨T.xt14, T.xn14_index⟩ all_nil')))))))) (pd_xnewK0 (ks := [("index" : Str)]) (xmakK_BadDeed_0_index T) (hr.mono (by decide)) tk rfl (kd_cons pd_int kd_nil))) (ad_cons (pd_xfld (all_cons' ⟨T.xt2, T.xn2_index⟩ (all_cons' ⟨T.xt4, T.xn4_index⟩ (all_cons' ⟨T.xt5, T.xn5_index⟩ (all_cons' ⟨T.xt6, T.xn6_index⟩ (all_cons' ⟨T.xt9, T.xn9_index⟩ (all_cons' ⟨T.xt11, T.xn11_index⟩ (all_cons' ⟨T.xt13, T.xn13_index⟩ (all_cons' ⟨T.xt14, T.xn14_index⟩ all_nil')))))))) (pd_xnew (xmak_BadPlace T) (hr.mono (by decide)) tk rfl (ad_cons pd_int ad_nil))) (ad_cons (pd_xfld (all_cons' ⟨T.xt2, T.xn2_index⟩ (all_cons' ⟨T.xt4, T.xn4_index⟩ (all_cons' ⟨T.xt5, T.xn5_index⟩ (all_cons' ⟨T.xt6, T.xn6_index⟩ (all_cons' ⟨T.xt9, T.xn9_index⟩ (all_cons' ⟨T.xt11, T.xn11_index⟩ (all_cons' ⟨T.xt13, T.xn13_index⟩ (all_cons' ⟨T.xt14, T.xn14_index⟩ all_nil')))))))) (pd_xnewK0 (ks := [("index" : Str)]) (xmakK_BadPlace_0_index T) (hr.mono (by decide)) tk rfl (kd_cons pd_int kd_nil))) (ad_cons (pd_xfld (all_cons' ⟨T.xt3, T.xn3_step⟩ (all_cons' ⟨T.xt10, T.xn10_step⟩ (all_cons' ⟨T.xt16, T.xn16_step⟩ all_nil'))) (pd_xnew (xmak_BadEdit T) (hr.mono (by decide)) tk rfl (ad_cons pd_int ad_nil))) ad_nil)))))))
  (sd_seq (sd_set 0 nd (pd_op op_addD add_s (pd_var 0) (pd_lst (ad_cons (pd_xfld (all_cons' ⟨T.xt3, T.xn3_step⟩ (all_cons' ⟨T.xt10, T.xn10_step⟩ (all_cons' ⟨T.xt16, T.xn16_step⟩ all_nil'))) (pd_xnewK0 (ks := [("step" : Str)]) (xmakK_BadEdit_0_step T) (hr.mono (by decide)) tk rfl (kd_cons pd_int kd_nil))) (ad_cons (pd_xfld (all_cons' ⟨T.xt3, T.xn3_step⟩ (all_cons' ⟨T.xt10, T.xn10_step⟩ (all_cons' ⟨T.xt16, T.xn16_step⟩ all_nil'))) (pd_xnew (xmak_BadStep T) (hr.mono (by decide)) tk rfl (ad_cons pd_int ad_nil))) (ad_cons (pd_xfld (all_cons' ⟨T.xt3, T.xn3_step⟩ (all_cons' ⟨T.xt10, T.xn10_step⟩ (all_cons' ⟨T.xt16, T.xn16_step⟩ all_nil'))) (pd_xnewK0 (ks := [("step" : Str)]) (xmakK_BadStep_0_step T) (hr.mono (by decide)) tk rfl (kd_cons (pd_un un_neg neg_s pd_int) kd_nil))) (ad_cons (pd_xfld (all_cons' ⟨T.xt12, T.xn12_line⟩ all_nil') (pd_xnew (xmak_BadText T) (hr.mono (by decide)) tk rfl (ad_cons pd_int ad_nil))) ad_nil)))))))
  (sd_seq (sd_set 0 nd (pd_op op_addD add_s (pd_var 0) (pd_lst (ad_cons (pd_xfld (all_cons' ⟨T.xt12, T.xn12_line⟩ all_nil') (pd_xnewK0 (ks := [("line" : Str)]) (xmakK_BadText_0_line T) (hr.mono (by decide)) tk rfl (kd_cons pd_int kd_nil))) ad_nil))))
  (sd_seq (sd_set 1 nd (pd_lst (ad_cons pd_int (ad_cons pd_int (ad_cons pd_int (ad_cons pd_int (ad_cons pd_int (ad_cons pd_int (ad_cons pd_int (ad_cons pd_int (ad_cons pd_int (ad_cons pd_int (ad_cons pd_int (ad_cons pd_int (ad_cons pd_int (ad_cons pd_int (ad_cons pd_int (ad_cons pd_int (ad_cons pd_int (ad_cons pd_int (ad_cons pd_int (ad_cons (pd_un un_neg neg_s pd_int) (ad_cons pd_int (ad_cons pd_int ad_nil))))))))))))))))))))))))
  (sd_seq (sd_set 2 nd (pd_lst (ad_cons (pd_xfld (all_cons' ⟨T.xt17, T.xn17_name⟩ (all_cons' ⟨T.xt18, T.xn18_name⟩ (all_cons' ⟨T.xt20, T.xn20_name⟩ (all_cons' ⟨T.xt24, T.xn24_name⟩ all_nil')))) (pd_xnew (xmak_UnknownName T) (hr.mono (by decide)) tk rfl (ad_cons pd_str ad_nil))) (ad_cons (pd_xfld (all_cons' ⟨T.xt17, T.xn17_name⟩ (all_cons' ⟨T.xt18, T.xn18_name⟩ (all_cons' ⟨T.xt20, T.xn20_name⟩ (all_cons' ⟨T.xt24, T.xn24_name⟩ all_nil')))) (pd_xnewK0 (ks := [("name" : Str)]) (xmakK_UnknownName_0_name T) (hr.mono (by decide)) tk rfl (kd_cons pd_str kd_nil))) (ad_cons (pd_xfld (all_cons' ⟨T.xt17, T.xn17_name⟩ (all_cons' ⟨T.xt18, T.xn18_name⟩ (all_cons' ⟨T.xt20, T.xn20_name⟩ (all_cons' ⟨T.xt24, T.xn24_name⟩ all_nil')))) (pd_xnew (xmak_NameTaken T) (hr.mono (by decide)) tk rfl (ad_cons pd_str ad_nil))) (ad_cons (pd_xfld (all_cons' ⟨T.xt17, T.xn17_name⟩ (all_cons' ⟨T.xt18, T.xn18_name⟩ (all_cons' ⟨T.xt20, T.xn20_name⟩ (all_cons' ⟨T.xt24, T.xn24_name⟩ all_nil')))) (pd_xnewK0 (ks := [("name" : Str)]) (xmakK_NameTaken_0_name T) (hr.mono (by decide)) tk rfl (kd_cons pd_str kd_nil))) ad_nil))))))
  (sd_seq (sd_set 2 nd (pd_op op_addD add_s (pd_var 2) (pd_lst (ad_cons (pd_xfld (all_cons' ⟨T.xt17, T.xn17_name⟩ (all_cons' ⟨T.xt18, T.xn18_name⟩ (all_cons' ⟨T.xt20, T.xn20_name⟩ (all_cons' ⟨T.xt24, T.xn24_name⟩ all_nil')))) (pd_xnew (xmak_NoBranch T) (hr.mono (by decide)) tk rfl (ad_cons pd_str ad_nil))) (ad_cons (pd_xfld (all_cons' ⟨T.xt17, T.xn17_name⟩ (all_cons' ⟨T.xt18, T.xn18_name⟩ (all_cons' ⟨T.xt20, T.xn20_name⟩ (all_cons' ⟨T.xt24, T.xn24_name⟩ all_nil')))) (pd_xnewK0 (ks := [("name" : Str)]) (xmakK_NoBranch_0_name T) (hr.mono (by decide)) tk rfl (kd_cons pd_str kd_nil))) (ad_cons (pd_xfld (all_cons' ⟨T.xt17, T.xn17_name⟩ (all_cons' ⟨T.xt18, T.xn18_name⟩ (all_cons' ⟨T.xt20, T.xn20_name⟩ (all_cons' ⟨T.xt24, T.xn24_name⟩ all_nil')))) (pd_xnew (xmak_NoWatch T) (hr.mono (by decide)) tk rfl (ad_cons pd_str ad_nil))) (ad_cons (pd_xfld (all_cons' ⟨T.xt17, T.xn17_name⟩ (all_cons' ⟨T.xt18, T.xn18_name⟩ (all_cons' ⟨T.xt20, T.xn20_name⟩ (all_cons' ⟨T.xt24, T.xn24_name⟩ all_nil')))) (pd_xnewK0 (ks := [("name" : Str)]) (xmakK_NoWatch_0_name T) (hr.mono (by decide)) tk rfl (kd_cons pd_str kd_nil))) ad_nil)))))))
  (sd_seq (sd_set 3 nd (pd_tup (ad_cons (pd_tup (ad_cons pd_str (ad_cons pd_str (ad_cons (pd_un un_neg neg_s pd_int) ad_nil)))) ad_nil)))
  (sd_seq (sd_par 4 5 rfl nd (ad_cons (pd_xnew (xmak_CouldGoWrong T) (hr.mono (by decide)) tk rfl (ad_cons pd_int (ad_cons pd_str (ad_cons (pd_tup (ad_cons pd_int ad_nil)) ad_nil)))) (ad_cons (pd_xnewK (ks := [("recording" : Str), ("kind" : Str)]) (xmakK_CouldGoWrong_1_recording_kind T) (hr.mono (by decide)) tk rfl (ad_cons pd_int ad_nil) (kd_cons (pd_tup ad_nil) (kd_cons pd_str kd_nil))) ad_nil)))
  (sd_seq (sd_set 6 nd (pd_lst (ad_cons (pd_xfld (all_cons' ⟨T.xt15, T.xn15_ring⟩ all_nil') (pd_xnew (xmak_Contradiction T) (hr.mono (by decide)) tk rfl (ad_cons (pd_var 3) ad_nil))) (ad_cons (pd_xfld (all_cons' ⟨T.xt15, T.xn15_ring⟩ all_nil') (pd_xnewK0 (ks := [("ring" : Str)]) (xmakK_Contradiction_0_ring T) (hr.mono (by decide)) tk rfl (kd_cons (pd_tup ad_nil) kd_nil))) (ad_cons (pd_xfld (all_cons' ⟨T.xt16, T.xn16_recording⟩ (all_cons' ⟨T.xt22, T.xn22_recording⟩ all_nil')) (pd_xnew (xmak_NotSure T) (hr.mono (by decide)) tk rfl (ad_cons (pd_tup (ad_cons pd_int ad_nil)) ad_nil))) ad_nil)))))
  (sd_seq (sd_set 6 nd (pd_op op_addD add_s (pd_var 6) (pd_lst (ad_cons (pd_xfld (all_cons' ⟨T.xt16, T.xn16_recording⟩ (all_cons' ⟨T.xt22, T.xn22_recording⟩ all_nil')) (pd_xnewK0 (ks := [("recording" : Str)]) (xmakK_NotSure_0_recording T) (hr.mono (by decide)) tk rfl (kd_cons (pd_tup (ad_cons pd_int (ad_cons pd_int ad_nil))) kd_nil))) (ad_cons (pd_xfld (all_cons' ⟨T.xt3, T.xn3_step⟩ (all_cons' ⟨T.xt10, T.xn10_step⟩ (all_cons' ⟨T.xt16, T.xn16_step⟩ all_nil'))) (pd_var 4)) (ad_cons (pd_xfld (all_cons' ⟨T.xt16, T.xn16_kind⟩ all_nil') (pd_var 4)) (ad_cons (pd_xfld (all_cons' ⟨T.xt16, T.xn16_recording⟩ (all_cons' ⟨T.xt22, T.xn22_recording⟩ all_nil')) (pd_var 4)) ad_nil)))))))
  (sd_seq (sd_set 6 nd (pd_op op_addD add_s (pd_var 6) (pd_lst (ad_cons (pd_xfld (all_cons' ⟨T.xt3, T.xn3_step⟩ (all_cons' ⟨T.xt10, T.xn10_step⟩ (all_cons' ⟨T.xt16, T.xn16_step⟩ all_nil'))) (pd_var 5)) (ad_cons (pd_xfld (all_cons' ⟨T.xt16, T.xn16_kind⟩ all_nil') (pd_var 5)) (ad_cons (pd_xfld (all_cons' ⟨T.xt16, T.xn16_recording⟩ (all_cons' ⟨T.xt22, T.xn22_recording⟩ all_nil')) (pd_var 5)) ad_nil))))))
  (sd_seq (sd_if (PW.pt (wd_or (td_cmp (op_neD hr.units) ne_s (pd_var 2) (pd_lst (ad_cons pd_str (ad_cons pd_str (ad_cons pd_str (ad_cons pd_str (ad_cons pd_str (ad_cons pd_str (ad_cons pd_str (ad_cons pd_str ad_nil)))))))))) (wd_or1 (td_cmp (op_neD hr.units) ne_s (pd_var 0) (pd_var 1)))))
  (sd_one (sd_ret pd_bl))
  sd_nil)
  (sd_one (sd_ret (pd_cmp (op_eqD hr.units) eq_s (pd_var 6) (pd_lst (ad_cons (pd_var 3) (ad_cons (pd_tup ad_nil) (ad_cons (pd_tup (ad_cons pd_int ad_nil)) (ad_cons (pd_tup (ad_cons pd_int (ad_cons pd_int ad_nil))) (ad_cons pd_int (ad_cons pd_str (ad_cons (pd_tup (ad_cons pd_int ad_nil)) (ad_cons pd_int (ad_cons pd_str (ad_cons (pd_tup ad_nil) ad_nil))))))))))))))))))))))))))))))
theorem has__law_fields_right (T : Txt K mg ca) : Has P w K mg base ca 3 ("_law_fields_right" : Str) 0 F__law_fields_right := T.d__law_fields_right.has sc__law_fields_right rfl (body__law_fields_right T)
/-! ### _law_kept_right -/
abbrev N__law_kept_right : List Str := [("marks" : Str), ("kinds_here" : Str), ("e" : Str)]
theorem sc__law_kept_right : FnScope N__law_kept_right [] (defScope st__law_kept_right) := ⟨rfl, rfl, rfl, by decide +kernel, rfl, by decide +kernel, by decide +kernel⟩
theorem body__law_kept_right (T : Txt K mg ca) (f : Addr) (cdv : Value) (A : Around) (outer : List Env) (s : Shared) (H : Hp) (E : XK) (hr : Room 5 (cxD P w K mg base N__law_kept_right ("_law_kept_right" : Str) (defScope st__law_kept_right) f cdv A outer s H E).A) (tk : Takes (cxD P w K mg base N__law_kept_right ("_law_kept_right" : Str) (defScope st__law_kept_right) f cdv A outer s H E) (wD E))
    (hp : PassesOwn (model P w) (cxD P w K mg base N__law_kept_right ("_law_kept_right" : Str) (defScope st__law_kept_right) f cdv A outer s H E).A (cxD P w K mg base N__law_kept_right ("_law_kept_right" : Str) (defScope st__law_kept_right) f cdv A outer s H E).env (cxD P w K mg base N__law_kept_right ("_law_kept_right" : Str) (defScope st__law_kept_right) f cdv A outer s H E).xe) :
    PSs (cxD P w K mg base N__law_kept_right ("_law_kept_right" : Str) (defScope st__law_kept_right) f cdv A outer s H E) (defBody st__law_kept_right) (tS ⟨K, ca⟩ (wD E) (B__law_kept_right)) := by
  have nd := (sc__law_kept_right).nd
  exact (sd_seq (sd_par 0 1 rfl nd (ad_cons (pd_lst (ad_cons pd_bl ad_nil)) (ad_cons (pd_lst ad_nil) ad_nil)))
  (sd_seq (sd_try rfl rfl rfl nd tk (fun W pn xe tk hp => (sd_one (sd_raise0 T.m0_TakesError rfl tk))) (.as_ (i := 2) ⟨rfl, by decide, .inl T.c_TakesError.cmg⟩ rfl rfl (all_cons' T.xm1_1 (all_cons' T.xm2_1 (all_cons' T.xm3_1 (all_cons' T.xm4_1 (all_cons' T.xm5_1 (all_cons' T.xm6_1 (all_cons' T.xm7_1 (all_cons' T.xm8_1 (all_cons' T.xm9_1 (all_cons' T.xm10_1 (all_cons' T.xm11_1 (all_cons' T.xm12_1 (all_cons' T.xm13_1 (all_cons' T.xm14_1 (all_cons' T.xm15_1 (all_cons' T.xm16_1 (all_cons' T.xm17_1 (all_cons' T.xm18_1 (all_cons' T.xm19_1 (all_cons' T.xm20_1 (all_cons' T.xm21_1 (all_cons' T.xm22_1 (all_cons' T.xm23_1 (all_cons' T.xm24_1 (all_cons' T.xm25_1 (all_cons' T.xm26_1 all_nil')))))))))))))))))))))))))) all_nil' (fun _ _ => (sd_one (sd_set 0 nd (pd_fnW (HasW.mono (hasW__law_marks T) (by first | decide | exact Nat.le_refl _)) (roomW hr) takes0 (ad_cons (pd_var 2) ad_nil))))) .nil))
  (sd_seq (sd_try rfl rfl rfl nd tk (fun W pn xe tk hp => (sd_one (sd_expr (pd_make (MakAt.mono (mak_Sheet_2 T) (Nat.le_refl _)) (hr.mono (by decide)) tk (ad_cons (pd_tup (ad_cons pd_str (ad_cons pd_str ad_nil))) (ad_cons (pd_tup ad_nil) ad_nil)))))) (.as_ (i := 2) ⟨rfl, by decide, .inl T.c_TakesError.cmg⟩ rfl rfl (all_cons' T.xm1_1 (all_cons' T.xm2_1 (all_cons' T.xm3_1 (all_cons' T.xm4_1 (all_cons' T.xm5_1 (all_cons' T.xm6_1 (all_cons' T.xm7_1 (all_cons' T.xm8_1 (all_cons' T.xm9_1 (all_cons' T.xm10_1 (all_cons' T.xm11_1 (all_cons' T.xm12_1 (all_cons' T.xm13_1 (all_cons' T.xm14_1 (all_cons' T.xm15_1 (all_cons' T.xm16_1 (all_cons' T.xm17_1 (all_cons' T.xm18_1 (all_cons' T.xm19_1 (all_cons' T.xm20_1 (all_cons' T.xm21_1 (all_cons' T.xm22_1 (all_cons' T.xm23_1 (all_cons' T.xm24_1 (all_cons' T.xm25_1 (all_cons' T.xm26_1 all_nil')))))))))))))))))))))))))) all_nil' (fun _ _ => (sd_one (sd_set 1 nd (pd_fnW (HasW.mono (hasW__law_marks T) (by first | decide | exact Nat.le_refl _)) (roomW hr) takes0 (ad_cons (pd_var 2) ad_nil))))) .nil))
  (sd_one (sd_ret (pd_and (pd_not (pd_cmp (op_inA (room65 hr)) in_s pd_bl (pd_var 0))) (pd_and (pd_fn0 (Has.mono (has__law_fields_right T) (by first | decide | exact Nat.le_refl _)) hr tk) (pd_and (pd_cmp (op_eqD hr.units) eq_s (pd_mt PySem.F.plainAttrs_list PySem.F.slot_list_count PySem.F.type_list_count mt_countB countB_s (pd_var 1) (ad_cons pd_bl ad_nil)) pd_int) (pd_one (pd_ix (pd_var 1) pd_int))))))))))
theorem has__law_kept_right (T : Txt K mg ca) : Has P w K mg base ca 6 ("_law_kept_right" : Str) 0 F__law_kept_right := T.d__law_kept_right.has sc__law_kept_right rfl (body__law_kept_right T)
/-! ### law -/
abbrev N_law : List Str := [("script" : Str), ("many" : Str), ("spot" : Str), ("way" : Str)]
theorem sc_law : FnScope N_law [("script" : Str)] (defScope st_law) := ⟨rfl, rfl, rfl, by decide +kernel, rfl, by decide +kernel, by decide +kernel⟩
theorem body_law (T : Txt K mg ca) (f : Addr) (cdv : Value) (A : Around) (outer : List Env) (s : Shared) (H : Hp) (E : XK) (hr : Room 6 (cxD P w K mg base N_law ("law" : Str) (defScope st_law) f cdv A outer s H E).A) (tk : Takes (cxD P w K mg base N_law ("law" : Str) (defScope st_law) f cdv A outer s H E) (wD E))
    (hp : PassesOwn (model P w) (cxD P w K mg base N_law ("law" : Str) (defScope st_law) f cdv A outer s H E).A (cxD P w K mg base N_law ("law" : Str) (defScope st_law) f cdv A outer s H E).env (cxD P w K mg base N_law ("law" : Str) (defScope st_law) f cdv A outer s H E).xe) :
    PSs (cxD P w K mg base N_law ("law" : Str) (defScope st_law) f cdv A outer s H E) (defBody st_law) (tS ⟨K, ca⟩ (wD E) (B_law)) := by
  have nd := (sc_law).nd
  exact (sd_seq (sd_set 1 nd pd_int)
  (sd_seq (sd_set 2 nd (pd_if (td_cmp (op_neD hr.units) ne_s (pd_var 0) (pd_lst ad_nil)) (pd_op op_mod mod_s (pd_callTy call_int1 int_s T.z_int rfl (ad_cons (pd_ix (pd_var 0) pd_int) ad_nil)) (pd_var 1)) pd_int))
  (sd_seq (sd_if (PW.pt (wd_or (td_not (td_tru (pd_fn (Has.mono (has__law_way_right T) (by first | decide | exact Nat.le_refl _)) hr tk (ad_cons (pd_var 2) (ad_cons (pd_var 1) ad_nil))))) (wd_or1 (td_not (td_tru (pd_fn0 (Has.mono (has__law_kept_right T) (by first | decide | exact Nat.le_refl _)) hr tk))))))
  (sd_one (sd_ret pd_bl))
  sd_nil)
  (sd_one (sd_ret (pd_cmp (op_eqD hr.units) eq_s (pd_lc rfl nd (id_range1 T.z_range (ad_cons (pd_var 1) ad_nil)) (blkOk_by (own := [(("way" : Str), 3)]) (by kernel_rfl)) (fun _ _ _ _ _ => (gd_name 3 nd)) (by decide) (fun _ _ _ _ _ => (tsd_one (td_not (td_tru (pd_fn (Has.mono (has__law_way_right T) (by first | decide | exact Nat.le_refl _)) hr takes0 (ad_cons (pd_var 3) (ad_cons (pd_var 1) ad_nil))))))) (fun _ _ _ _ _ => (pd_var 3))) (pd_lst ad_nil)))))))
theorem has_law (T : Txt K mg ca) : Has P w K mg base ca 7 ("law" : Str) 1 F_law := T.d_law.has sc_law rfl (body_law T)
end
end K00

namespace K00
open PySem PySem.Spec PyProof.Rows L2 DD
theorem fin {P : Program} {w : World} {K : PySem.W.Frag} {h : Heap} {mg : Str → Option Value} {fa fl C0 C1 C2 C3 C4 C5 C6 C7 C8 C9 C10 C11 C12 C13 C14 C15 C16 C17 C18 C19 C20 C21 C22 C23 C24 C25 C26 : Addr} {od an : Option Addr} {sl : Array (Option Value)} {oc kV dc pm cd ct : Value} (X : K.In h) (G : h.Ns mainGlobals mg) (hfa : mg "law" = some (.ref fa))
    (aC0 : PySem.W.nsIn K mainGlobals ("Sheet" : Str) = some (some (.ref C0)))
    (aC1 : PySem.W.nsIn K mainGlobals ("TakesError" : Str) = some (some (.ref C1)))
    (aC2 : PySem.W.nsIn K mainGlobals ("BadDeed" : Str) = some (some (.ref C2)))
    (aC3 : PySem.W.nsIn K mainGlobals ("BadEdit" : Str) = some (some (.ref C3)))
    (aC4 : PySem.W.nsIn K mainGlobals ("BadFact" : Str) = some (some (.ref C4)))
    (aC5 : PySem.W.nsIn K mainGlobals ("BadFault" : Str) = some (some (.ref C5)))
    (aC6 : PySem.W.nsIn K mainGlobals ("BadMarks" : Str) = some (some (.ref C6)))
    (aC7 : PySem.W.nsIn K mainGlobals ("BadNumbers" : Str) = some (some (.ref C7)))
    (aC8 : PySem.W.nsIn K mainGlobals ("BadPairs" : Str) = some (some (.ref C8)))
    (aC9 : PySem.W.nsIn K mainGlobals ("BadPlace" : Str) = some (some (.ref C9)))
    (aC10 : PySem.W.nsIn K mainGlobals ("BadStep" : Str) = some (some (.ref C10)))
    (aC11 : PySem.W.nsIn K mainGlobals ("BadTakes" : Str) = some (some (.ref C11)))
    (aC12 : PySem.W.nsIn K mainGlobals ("BadText" : Str) = some (some (.ref C12)))
    (aC13 : PySem.W.nsIn K mainGlobals ("BadTracks" : Str) = some (some (.ref C13)))
    (aC14 : PySem.W.nsIn K mainGlobals ("BadTree" : Str) = some (some (.ref C14)))
    (aC15 : PySem.W.nsIn K mainGlobals ("Contradiction" : Str) = some (some (.ref C15)))
    (aC16 : PySem.W.nsIn K mainGlobals ("CouldGoWrong" : Str) = some (some (.ref C16)))
    (aC17 : PySem.W.nsIn K mainGlobals ("NameTaken" : Str) = some (some (.ref C17)))
    (aC18 : PySem.W.nsIn K mainGlobals ("NoBranch" : Str) = some (some (.ref C18)))
    (aC19 : PySem.W.nsIn K mainGlobals ("NoShape" : Str) = some (some (.ref C19)))
    (aC20 : PySem.W.nsIn K mainGlobals ("NoWatch" : Str) = some (some (.ref C20)))
    (aC21 : PySem.W.nsIn K mainGlobals ("NotRecording" : Str) = some (some (.ref C21)))
    (aC22 : PySem.W.nsIn K mainGlobals ("NotSure" : Str) = some (some (.ref C22)))
    (aC23 : PySem.W.nsIn K mainGlobals ("NothingToUndo" : Str) = some (some (.ref C23)))
    (aC24 : PySem.W.nsIn K mainGlobals ("UnknownName" : Str) = some (some (.ref C24)))
    (aC25 : PySem.W.nsIn K mainGlobals ("UnlikeMarks" : Str) = some (some (.ref C25)))
    (aC26 : PySem.W.nsIn K mainGlobals ("UnlikeTracks" : Str) = some (some (.ref C26)))
    (a : PySem.W.nsIn K mainGlobals "law" = some (some (.ref fl))) (l : K.lookup fl = some ⟨oc, od, .func (PySem.W.fnOf "law" "law" (defArgs st_law) (defBody st_law) (defScope st_law) .none kV dc pm an cd ct), sl⟩) (c : PySem.W.codeIn K cd "law" = true) (k : PySem.W.keepIn K (.ref fl) = true)
    (T : Txt K mg (caOf [C0, C1, C2, C3, C4, C5, C6, C7, C8, C9, C10, C11, C12, C13, C14, C15, C16, C17, C18, C19, C20, C21, C22, C23, C24, C25, C26])) (math : ∀ ns : List Int, ns.length ≤ 63 → (∀ z ∈ ns, Builtin.Int.intBits z ≤ 1048576) → ∃ S, F_law [.rol (ns.map D.int)] [] = .ok (.bl true) S) :
    ∃ fd : FuncData, (∀ (s : Shared) (u : Value), BindsTo s fd ⟨[u], []⟩ [("script", u)]) ∧ ∀ base : Heap, K.In base → base.Ns mainGlobals mg → FnOk P w K mg base (L2.CX P w) 7 fa fd ["script"] (spLaw K) := by
  have e := hfa.symm.trans (PySem.W.mg_of X G a)
  cases e
  have F := fun_mk (st := st_law) l c k
  exact ⟨_, fun s u => .of_eq rfl, fun base _ _ => (fn_D F sc_law rfl (body_law T fa)).imp (sp_law math)⟩
theorem walk (math : ∀ ns : List Int, ns.length ≤ 63 → (∀ z ∈ ns, Builtin.Int.intBits z ≤ 1048576) → ∃ S, F_law [.rol (ns.map D.int)] [] = .ok (.bl true) S) {l : PySem.W.OpenLaw} {q : Program} {loose : List Str} {XP : (Str → Option Value) → Heap → Prop} {YP : World → Heap → Prop} {d : DefRec} {K : Params → PySem.W.Frag} (hn : l.most = some 63) (hdf : d.params.defaults = [])
    (hY : ∀ (w : World) (h : Heap), YP w h → (K w.params).In h)
    (F : ∀ (w : World) (mg : Str → Option Value) (fa : Addr) (h : Heap), (K w.params).In h → h.Ns mainGlobals mg → mg d.name = some (.ref fa) →
      ∃ fd : FuncData, (∀ (s : Shared) (u : Value), BindsTo s fd ⟨[u], []⟩ [("script", u)]) ∧ ∀ base : Heap, (K w.params).In base → base.Ns mainGlobals mg → FnOk l.prog w (K w.params) mg base (L2.CX l.prog w) 7 fa fd ["script"] (spLaw (K w.params))) :
    PySem.W.WalkO q loose XP YP l.row.toRowW d [] (fun f vs => PySem.call f vs) :=
  L2.walk_ofB (n := 63) (k := 7) (x := "script") (CX := fun w => L2.CX l.prog w) (sp := fun w => spLaw (K w.params)) hn (by decide) hdf ⟨rfl, by decide, by decide⟩ hY F (fun _ H a ns hl hb hO hS => ⟨a, ns, rfl, hl, hb, hO, hS, fun _ => rfl⟩) fun w H s e s' z => by
    obtain ⟨_, _, _, _, _, _, _, _, _, _, _, _, z⟩ := z
    exact z.elim
end K00
section
local macro_rules | `(tactic| kernel_rfl) => `(tactic| ((with_reducible refine' HeadCut.join3 ?jA ?jB ?jC) <;> exact False.elim (by assumption)))
open PySem PySem.W PyProof.Rows in
theorem HeadCut.mk (hf : False) : PySem.Challenge.rw_unknowntakes_k00_error_classes.Holds := by
  w_on; o_law; k_headL; (case hw => w_witness2)
  k_fill
  refine K00.walk K00.math (l := PySem.Challenge.rw_unknowntakes_k00_error_classes) rfl rfl (fun w h Y => PySem.W.kIn_of Y) ?F
  case F =>
    intro w mg fa h KX G hmg
    refine' K00.fin KX G hmg ?aC0 ?aC1 ?aC2 ?aC3 ?aC4 ?aC5 ?aC6 ?aC7 ?aC8 ?aC9 ?aC10 ?aC11 ?aC12 ?aC13 ?aC14 ?aC15 ?aC16 ?aC17 ?aC18 ?aC19 ?aC20 ?aC21 ?aC22 ?aC23 ?aC24 ?aC25 ?aC26 ?a ?l ?c ?k ?T K00.math
    (case aC0 => k_is)
    (case aC1 => k_is)
    (case aC2 => k_is)
    (case aC3 => k_is)
    (case aC4 => k_is)
    (case aC5 => k_is)
    (case aC6 => k_is)
    (case aC7 => k_is)
    (case aC8 => k_is)
    (case aC9 => k_is)
    (case aC10 => k_is)
    (case aC11 => k_is)
    (case aC12 => k_is)
    (case aC13 => k_is)
    (case aC14 => k_is)
    (case aC15 => k_is)
    (case aC16 => k_is)
    (case aC17 => k_is)
    (case aC18 => k_is)
    (case aC19 => k_is)
    (case aC20 => k_is)
    (case aC21 => k_is)
    (case aC22 => k_is)
    (case aC23 => k_is)
    (case aC24 => k_is)
    (case aC25 => k_is)
    (case aC26 => k_is)
    (case a => k_is); (case l => k_is); (case c => k_is); (case k => k_is)
    (case T =>
      refine' K00.Txt.mk ?z_ValueError ?z_all ?z_bool ?z_enumerate ?z_int ?z_isinstance ?z_len ?z_min ?z_range ?z_str ?z_sum ?z_tuple ?z_zip ?c_LETTERS ?c_LONGEST ?c_NOUGHT ?c_ZERO ?d__law_raised_more ?d__law_raised_one ?d__law_marks ?d__law_way_right ?d_is_name ?d_is_mark_at ?d_is_integer ?d_is_fact ?d_check_sheet ?d_is_less ?d_summed ?d_lesser ?d_narrowed ?d_narrowed_by ?d_open_bounds ?d_number_of ?d_numbered ?d_first_ways ?d_way_sum ?d_better_way ?d_joined_way ?d_ways_by ?i_Sheet_3 ?i_Sheet_2 ?d__law_fields_right ?d__law_kept_right ?d_law ?c_BadDeed ?c_BadEdit ?c_BadFact ?c_BadFault ?c_BadMarks ?c_BadNumbers ?c_BadPairs ?c_BadPlace ?c_BadStep ?c_BadTakes ?c_BadText ?c_BadTracks ?c_BadTree ?c_Contradiction ?c_CouldGoWrong ?c_NameTaken ?c_NoBranch ?c_NoShape ?c_NoWatch ?c_NotRecording ?c_NotSure ?c_NothingToUndo ?c_TakesError ?c_UnknownName ?c_UnlikeMarks ?c_UnlikeTracks ?m0_BadNumbers ?m0_BadPairs ?m0_NoShape ?m0_NotRecording ?m0_NothingToUndo ?m0_TakesError ?m0_UnlikeMarks ?m0_UnlikeTracks ?i_BadDeed ?i_BadEdit ?i_BadFact ?i_BadFault ?i_BadMarks ?i_BadPlace ?i_BadStep ?i_BadTakes ?i_BadText ?i_BadTracks ?i_BadTree ?i_Contradiction ?i_CouldGoWrong ?i_NameTaken ?i_NoBranch ?i_NoWatch ?i_NotSure ?i_UnknownName ?ox2 ?ox3 ?ox4 ?ox5 ?ox6 ?ox9 ?ox10 ?ox11 ?ox12 ?ox13 ?ox14 ?ox15 ?ox16 ?ox17 ?ox18 ?ox20 ?ox22 ?ox24 ?xt1 ?xt2 ?xt3 ?xt4 ?xt5 ?xt6 ?xt7 ?xt8 ?xt9 ?xt10 ?xt11 ?xt12 ?xt13 ?xt14 ?xt15 ?xt16 ?xt17 ?xt18 ?xt19 ?xt20 ?xt21 ?xt22 ?xt23 ?xt24 ?xt25 ?xt26 ?bx1 ?xn2_index ?xn3_step ?xn4_index ?xn5_index ?xn6_index ?xn9_index ?xn10_step ?xn11_index ?xn12_line ?xn13_index ?xn14_index ?xn15_ring ?xn16_kind ?xn16_recording ?xn16_step ?xn17_name ?xn18_name ?xn20_name ?xn22_recording ?xn24_name ?xm1_1 ?xm2_1 ?xm3_1 ?xm4_1 ?xm5_1 ?xm6_1 ?xm7_1 ?xm8_1 ?xm9_1 ?xm10_1 ?xm11_1 ?xm12_1 ?xm13_1 ?xm14_1 ?xm15_1 ?xm16_1 ?xm17_1 ?xm18_1 ?xm19_1 ?xm20_1 ?xm21_1 ?xm22_1 ?xm23_1 ?xm24_1 ?xm25_1 ?xm26_1 ?tc2 ?tc3 ?tc4 ?tc5 ?tc6 ?tc7 ?tc8 ?tc9 ?tc10 ?tc11 ?tc12 ?tc13 ?tc14 ?tc15 ?tc16 ?tc17 ?tc18 ?tc19 ?tc20 ?tc21 ?tc22 ?tc23 ?tc24 ?tc25 ?tc26 ?kb1_ValueError ?kb2_ValueError ?kb3_ValueError ?kb4_ValueError ?kb5_ValueError ?kb6_ValueError ?kb7_ValueError ?kb8_ValueError ?kb9_ValueError ?kb10_ValueError ?kb11_ValueError ?kb12_ValueError ?kb13_ValueError ?kb14_ValueError ?kb15_ValueError ?kb16_ValueError ?kb17_ValueError ?kb18_ValueError ?kb19_ValueError ?kb20_ValueError ?kb21_ValueError ?kb22_ValueError ?kb23_ValueError ?kb24_ValueError ?kb25_ValueError ?kb26_ValueError ?sb1 ?sb2 ?sb3 ?sb4 ?sb5 ?sb6 ?sb7 ?sb8 ?sb9 ?sb10 ?sb11 ?sb12 ?sb13 ?sb14 ?sb15 ?sb16 ?sb17 ?sb18 ?sb19 ?sb20 ?sb21 ?sb22 ?sb23 ?sb24 ?sb25 ?sb26 ?cls0 ?no0_bounds ?no0_facts ?no0_marks ?no0_nodes ?no0_takes
      (case z_ValueError => (refine' PySem.W.mg_none_of KX G ?z; (case z => k_is)))
      (case z_all => (refine' PySem.W.mg_none_of KX G ?z; (case z => k_is)))
      (case z_bool => (refine' PySem.W.mg_none_of KX G ?z; (case z => k_is)))
      (case z_enumerate => (refine' PySem.W.mg_none_of KX G ?z; (case z => k_is)))
      (case z_int => (refine' PySem.W.mg_none_of KX G ?z; (case z => k_is)))
      (case z_isinstance => (refine' PySem.W.mg_none_of KX G ?z; (case z => k_is)))
      (case z_len => (refine' PySem.W.mg_none_of KX G ?z; (case z => k_is)))
      (case z_min => (refine' PySem.W.mg_none_of KX G ?z; (case z => k_is)))
      (case z_range => (refine' PySem.W.mg_none_of KX G ?z; (case z => k_is)))
      (case z_str => (refine' PySem.W.mg_none_of KX G ?z; (case z => k_is)))
      (case z_sum => (refine' PySem.W.mg_none_of KX G ?z; (case z => k_is)))
      (case z_tuple => (refine' PySem.W.mg_none_of KX G ?z; (case z => k_is)))
      (case z_zip => (refine' PySem.W.mg_none_of KX G ?z; (case z => k_is)))
      (case c_LETTERS => (refine' DD.Cst.str KX G ?z; (case z => k_is)))
      (case c_LONGEST => (refine' DD.Cst.int KX G ?z; (case z => k_is)))
      (case c_NOUGHT => (refine' DD.Cst.str KX G ?z; (case z => k_is)))
      (case c_ZERO => (refine' DD.Cst.int KX G ?z; (case z => k_is)))
      (case d__law_raised_more => (refine' DD.Def.mk' KX G (fun _ _ _ _ _ _ us hl => match us, hl with | [_], _ => rfl) ?a ?l ?c ?k; (case a => k_is); (case l => k_is); (case c => k_is); (case k => k_is)))
      (case d__law_raised_one => (refine' DD.Def.mk' KX G (fun _ _ _ _ _ _ us hl => match us, hl with | [_], _ => rfl) ?a ?l ?c ?k; (case a => k_is); (case l => k_is); (case c => k_is); (case k => k_is)))
      (case d__law_marks => (refine' DD.Def.mk' KX G (fun _ _ _ _ _ _ us hl => match us, hl with | [_], _ => rfl) ?a ?l ?c ?k; (case a => k_is); (case l => k_is); (case c => k_is); (case k => k_is)))
      (case d__law_way_right => (refine' DD.Def.mk' KX G (fun _ _ _ _ _ _ us hl => match us, hl with | [_, _], _ => rfl) ?a ?l ?c ?k; (case a => k_is); (case l => k_is); (case c => k_is); (case k => k_is)))
      (case d_is_name => (refine' DD.Def.mk' KX G (fun _ _ _ _ _ _ us hl => match us, hl with | [_], _ => rfl) ?a ?l ?c ?k; (case a => k_is); (case l => k_is); (case c => k_is); (case k => k_is)))
      (case d_is_mark_at => (refine' DD.Def.mk' KX G (fun _ _ _ _ _ _ us hl => match us, hl with | [_, _], _ => rfl) ?a ?l ?c ?k; (case a => k_is); (case l => k_is); (case c => k_is); (case k => k_is)))
      (case d_is_integer => (refine' DD.Def.mk' KX G (fun _ _ _ _ _ _ us hl => match us, hl with | [_], _ => rfl) ?a ?l ?c ?k; (case a => k_is); (case l => k_is); (case c => k_is); (case k => k_is)))
      (case d_is_fact => (refine' DD.Def.mk' KX G (fun _ _ _ _ _ _ us hl => match us, hl with | [_, _], _ => rfl) ?a ?l ?c ?k; (case a => k_is); (case l => k_is); (case c => k_is); (case k => k_is)))
      (case d_check_sheet => (refine' DD.Def.mk' KX G (fun _ _ _ _ _ _ us hl => match us, hl with | [_, _, _], _ => rfl) ?a ?l ?c ?k; (case a => k_is); (case l => k_is); (case c => k_is); (case k => k_is)))
      (case d_is_less => (refine' DD.Def.mk' KX G (fun _ _ _ _ _ _ us hl => match us, hl with | [_, _], _ => rfl) ?a ?l ?c ?k; (case a => k_is); (case l => k_is); (case c => k_is); (case k => k_is)))
      (case d_summed => (refine' DD.Def.mk' KX G (fun _ _ _ _ _ _ us hl => match us, hl with | [_, _], _ => rfl) ?a ?l ?c ?k; (case a => k_is); (case l => k_is); (case c => k_is); (case k => k_is)))
      (case d_lesser => (refine' DD.Def.mk' KX G (fun _ _ _ _ _ _ us hl => match us, hl with | [_, _], _ => rfl) ?a ?l ?c ?k; (case a => k_is); (case l => k_is); (case c => k_is); (case k => k_is)))
      (case d_narrowed => (refine' DD.Def.mk' KX G (fun _ _ _ _ _ _ us hl => match us, hl with | [_, _, _, _], _ => rfl) ?a ?l ?c ?k; (case a => k_is); (case l => k_is); (case c => k_is); (case k => k_is)))
      (case d_narrowed_by => (refine' DD.Def.mk' KX G (fun _ _ _ _ _ _ us hl => match us, hl with | [_, _], _ => rfl) ?a ?l ?c ?k; (case a => k_is); (case l => k_is); (case c => k_is); (case k => k_is)))
      (case d_open_bounds => (refine' DD.Def.mk' KX G (fun _ _ _ _ _ _ us hl => match us, hl with | [_], _ => rfl) ?a ?l ?c ?k; (case a => k_is); (case l => k_is); (case c => k_is); (case k => k_is)))
      (case d_number_of => (refine' DD.Def.mk' KX G (fun _ _ _ _ _ _ us hl => match us, hl with | [_, _], _ => rfl) ?a ?l ?c ?k; (case a => k_is); (case l => k_is); (case c => k_is); (case k => k_is)))
      (case d_numbered => (refine' DD.Def.mk' KX G (fun _ _ _ _ _ _ us hl => match us, hl with | [_, _], _ => rfl) ?a ?l ?c ?k; (case a => k_is); (case l => k_is); (case c => k_is); (case k => k_is)))
      (case d_first_ways => (refine' DD.Def.mk' KX G (fun _ _ _ _ _ _ us hl => match us, hl with | [_], _ => rfl) ?a ?l ?c ?k; (case a => k_is); (case l => k_is); (case c => k_is); (case k => k_is)))
      (case d_way_sum => (refine' DD.Def.mk' KX G (fun _ _ _ _ _ _ us hl => match us, hl with | [_], _ => rfl) ?a ?l ?c ?k; (case a => k_is); (case l => k_is); (case c => k_is); (case k => k_is)))
      (case d_better_way => (refine' DD.Def.mk' KX G (fun _ _ _ _ _ _ us hl => match us, hl with | [_, _], _ => rfl) ?a ?l ?c ?k; (case a => k_is); (case l => k_is); (case c => k_is); (case k => k_is)))
      (case d_joined_way => (refine' DD.Def.mk' KX G (fun _ _ _ _ _ _ us hl => match us, hl with | [_, _, _], _ => rfl) ?a ?l ?c ?k; (case a => k_is); (case l => k_is); (case c => k_is); (case k => k_is)))
      (case d_ways_by => (refine' DD.Def.mk' KX G (fun _ _ _ _ _ _ us hl => match us, hl with | [_, _], _ => rfl) ?a ?l ?c ?k; (case a => k_is); (case l => k_is); (case c => k_is); (case k => k_is)))
      (case i_Sheet_3 => (refine' And.right ?both; (case both => (refine' DD.DefI.ofT 3 rfl KX G rfl (fun _ _ _ _ _ _ _ us its h1 h2 => match us, its, h1, h2 with | [_, _, _], [_], _, _ => ⟨_, rfl, rfl⟩) (fun _ _ _ _ _ _ _ us its h1 h2 => match us, its, h1, h2 with | [_, _, _, _], [_], _, _ => ⟨_, rfl, rfl⟩) ?a ?m ?i ?fn ?kc ?l ?cc ?k ?lT ?lE; (case a => k_is); (case m => k_is); (case i => k_is); (case fn => k_is); (case kc => k_is); (case l => k_is); (case cc => k_is); (case k => k_is); (case lT => k_is); (case lE => k_is)))))
      (case i_Sheet_2 => (refine' And.left ?both; (case both => (refine' DD.DefI.ofT 3 rfl KX G rfl (fun _ _ _ _ _ _ _ us its h1 h2 => match us, its, h1, h2 with | [_, _, _], [_], _, _ => ⟨_, rfl, rfl⟩) (fun _ _ _ _ _ _ _ us its h1 h2 => match us, its, h1, h2 with | [_, _, _, _], [_], _, _ => ⟨_, rfl, rfl⟩) ?a ?m ?i ?fn ?kc ?l ?cc ?k ?lT ?lE; (case a => k_is); (case m => k_is); (case i => k_is); (case fn => k_is); (case kc => k_is); (case l => k_is); (case cc => k_is); (case k => k_is); (case lT => k_is); (case lE => k_is)))))
      (case d__law_fields_right => (refine' DD.Def.mk' KX G (fun _ _ _ _ _ _ us hl => match us, hl with | [], _ => rfl) ?a ?l ?c ?k; (case a => k_is); (case l => k_is); (case c => k_is); (case k => k_is)))
      (case d__law_kept_right => (refine' DD.Def.mk' KX G (fun _ _ _ _ _ _ us hl => match us, hl with | [], _ => rfl) ?a ?l ?c ?k; (case a => k_is); (case l => k_is); (case c => k_is); (case k => k_is)))
      (case d_law => (refine' DD.Def.mk' KX G (fun _ _ _ _ _ _ us hl => match us, hl with | [_], _ => rfl) ?a ?l ?c ?k; (case a => k_is); (case l => k_is); (case c => k_is); (case k => k_is)))
      (case c_BadDeed => (refine' DD.Cst.cls rfl KX G ?c_BadDeed_z; (case c_BadDeed_z => k_is)))
      (case c_BadEdit => (refine' DD.Cst.cls rfl KX G ?c_BadEdit_z; (case c_BadEdit_z => k_is)))
      (case c_BadFact => (refine' DD.Cst.cls rfl KX G ?c_BadFact_z; (case c_BadFact_z => k_is)))
      (case c_BadFault => (refine' DD.Cst.cls rfl KX G ?c_BadFault_z; (case c_BadFault_z => k_is)))
      (case c_BadMarks => (refine' DD.Cst.cls rfl KX G ?c_BadMarks_z; (case c_BadMarks_z => k_is)))
      (case c_BadNumbers => (refine' DD.Cst.cls rfl KX G ?c_BadNumbers_z; (case c_BadNumbers_z => k_is)))
      (case c_BadPairs => (refine' DD.Cst.cls rfl KX G ?c_BadPairs_z; (case c_BadPairs_z => k_is)))
      (case c_BadPlace => (refine' DD.Cst.cls rfl KX G ?c_BadPlace_z; (case c_BadPlace_z => k_is)))
      (case c_BadStep => (refine' DD.Cst.cls rfl KX G ?c_BadStep_z; (case c_BadStep_z => k_is)))
      (case c_BadTakes => (refine' DD.Cst.cls rfl KX G ?c_BadTakes_z; (case c_BadTakes_z => k_is)))
      (case c_BadText => (refine' DD.Cst.cls rfl KX G ?c_BadText_z; (case c_BadText_z => k_is)))
      (case c_BadTracks => (refine' DD.Cst.cls rfl KX G ?c_BadTracks_z; (case c_BadTracks_z => k_is)))
      (case c_BadTree => (refine' DD.Cst.cls rfl KX G ?c_BadTree_z; (case c_BadTree_z => k_is)))
      (case c_Contradiction => (refine' DD.Cst.cls rfl KX G ?c_Contradiction_z; (case c_Contradiction_z => k_is)))
      (case c_CouldGoWrong => (refine' DD.Cst.cls rfl KX G ?c_CouldGoWrong_z; (case c_CouldGoWrong_z => k_is)))
      (case c_NameTaken => (refine' DD.Cst.cls rfl KX G ?c_NameTaken_z; (case c_NameTaken_z => k_is)))
      (case c_NoBranch => (refine' DD.Cst.cls rfl KX G ?c_NoBranch_z; (case c_NoBranch_z => k_is)))
      (case c_NoShape => (refine' DD.Cst.cls rfl KX G ?c_NoShape_z; (case c_NoShape_z => k_is)))
      (case c_NoWatch => (refine' DD.Cst.cls rfl KX G ?c_NoWatch_z; (case c_NoWatch_z => k_is)))
      (case c_NotRecording => (refine' DD.Cst.cls rfl KX G ?c_NotRecording_z; (case c_NotRecording_z => k_is)))
      (case c_NotSure => (refine' DD.Cst.cls rfl KX G ?c_NotSure_z; (case c_NotSure_z => k_is)))
      (case c_NothingToUndo => (refine' DD.Cst.cls rfl KX G ?c_NothingToUndo_z; (case c_NothingToUndo_z => k_is)))
      (case c_TakesError => (refine' DD.Cst.cls rfl KX G ?c_TakesError_z; (case c_TakesError_z => k_is)))
      (case c_UnknownName => (refine' DD.Cst.cls rfl KX G ?c_UnknownName_z; (case c_UnknownName_z => k_is)))
      (case c_UnlikeMarks => (refine' DD.Cst.cls rfl KX G ?c_UnlikeMarks_z; (case c_UnlikeMarks_z => k_is)))
      (case c_UnlikeTracks => (refine' DD.Cst.cls rfl KX G ?c_UnlikeTracks_z; (case c_UnlikeTracks_z => k_is)))
      (case m0_BadNumbers => (refine' DD.xmak0_of rfl ?m0_BadNumbers_ex ?m0_BadNumbers_kp ?m0_BadNumbers_sb ?m0_BadNumbers_ty (DD.Cst.cls rfl KX G ?m0_BadNumbers_z); (case m0_BadNumbers_ex => k_exc); (case m0_BadNumbers_kp => k_is); (case m0_BadNumbers_sb => k_is); (case m0_BadNumbers_ty => k_is); (case m0_BadNumbers_z => k_is)))
      (case m0_BadPairs => (refine' DD.xmak0_of rfl ?m0_BadPairs_ex ?m0_BadPairs_kp ?m0_BadPairs_sb ?m0_BadPairs_ty (DD.Cst.cls rfl KX G ?m0_BadPairs_z); (case m0_BadPairs_ex => k_exc); (case m0_BadPairs_kp => k_is); (case m0_BadPairs_sb => k_is); (case m0_BadPairs_ty => k_is); (case m0_BadPairs_z => k_is)))
      (case m0_NoShape => (refine' DD.xmak0_of rfl ?m0_NoShape_ex ?m0_NoShape_kp ?m0_NoShape_sb ?m0_NoShape_ty (DD.Cst.cls rfl KX G ?m0_NoShape_z); (case m0_NoShape_ex => k_exc); (case m0_NoShape_kp => k_is); (case m0_NoShape_sb => k_is); (case m0_NoShape_ty => k_is); (case m0_NoShape_z => k_is)))
      (case m0_NotRecording => (refine' DD.xmak0_of rfl ?m0_NotRecording_ex ?m0_NotRecording_kp ?m0_NotRecording_sb ?m0_NotRecording_ty (DD.Cst.cls rfl KX G ?m0_NotRecording_z); (case m0_NotRecording_ex => k_exc); (case m0_NotRecording_kp => k_is); (case m0_NotRecording_sb => k_is); (case m0_NotRecording_ty => k_is); (case m0_NotRecording_z => k_is)))
      (case m0_NothingToUndo => (refine' DD.xmak0_of rfl ?m0_NothingToUndo_ex ?m0_NothingToUndo_kp ?m0_NothingToUndo_sb ?m0_NothingToUndo_ty (DD.Cst.cls rfl KX G ?m0_NothingToUndo_z); (case m0_NothingToUndo_ex => k_exc); (case m0_NothingToUndo_kp => k_is); (case m0_NothingToUndo_sb => k_is); (case m0_NothingToUndo_ty => k_is); (case m0_NothingToUndo_z => k_is)))
      (case m0_TakesError => (refine' DD.xmak0_of rfl ?m0_TakesError_ex ?m0_TakesError_kp ?m0_TakesError_sb ?m0_TakesError_ty (DD.Cst.cls rfl KX G ?m0_TakesError_z); (case m0_TakesError_ex => k_exc); (case m0_TakesError_kp => k_is); (case m0_TakesError_sb => k_is); (case m0_TakesError_ty => k_is); (case m0_TakesError_z => k_is)))
      (case m0_UnlikeMarks => (refine' DD.xmak0_of rfl ?m0_UnlikeMarks_ex ?m0_UnlikeMarks_kp ?m0_UnlikeMarks_sb ?m0_UnlikeMarks_ty (DD.Cst.cls rfl KX G ?m0_UnlikeMarks_z); (case m0_UnlikeMarks_ex => k_exc); (case m0_UnlikeMarks_kp => k_is); (case m0_UnlikeMarks_sb => k_is); (case m0_UnlikeMarks_ty => k_is); (case m0_UnlikeMarks_z => k_is)))
      (case m0_UnlikeTracks => (refine' DD.xmak0_of rfl ?m0_UnlikeTracks_ex ?m0_UnlikeTracks_kp ?m0_UnlikeTracks_sb ?m0_UnlikeTracks_ty (DD.Cst.cls rfl KX G ?m0_UnlikeTracks_z); (case m0_UnlikeTracks_ex => k_exc); (case m0_UnlikeTracks_kp => k_is); (case m0_UnlikeTracks_sb => k_is); (case m0_UnlikeTracks_ty => k_is); (case m0_UnlikeTracks_z => k_is)))
      (case i_BadDeed => (refine' DD.DefX.of rfl (fun _ _ _ _ _ _ us hl => match us, hl with | [_, _], _ => rfl) ?i_BadDeed_i ?i_BadDeed_t ?i_BadDeed_l ?i_BadDeed_cc ?i_BadDeed_k; (case i_BadDeed_i => k_is); (case i_BadDeed_t => k_is); (case i_BadDeed_l => k_is); (case i_BadDeed_cc => k_is); (case i_BadDeed_k => k_is)))
      (case i_BadEdit => (refine' DD.DefX.of rfl (fun _ _ _ _ _ _ us hl => match us, hl with | [_, _], _ => rfl) ?i_BadEdit_i ?i_BadEdit_t ?i_BadEdit_l ?i_BadEdit_cc ?i_BadEdit_k; (case i_BadEdit_i => k_is); (case i_BadEdit_t => k_is); (case i_BadEdit_l => k_is); (case i_BadEdit_cc => k_is); (case i_BadEdit_k => k_is)))
      (case i_BadFact => (refine' DD.DefX.of rfl (fun _ _ _ _ _ _ us hl => match us, hl with | [_, _], _ => rfl) ?i_BadFact_i ?i_BadFact_t ?i_BadFact_l ?i_BadFact_cc ?i_BadFact_k; (case i_BadFact_i => k_is); (case i_BadFact_t => k_is); (case i_BadFact_l => k_is); (case i_BadFact_cc => k_is); (case i_BadFact_k => k_is)))
      (case i_BadFault => (refine' DD.DefX.of rfl (fun _ _ _ _ _ _ us hl => match us, hl with | [_, _], _ => rfl) ?i_BadFault_i ?i_BadFault_t ?i_BadFault_l ?i_BadFault_cc ?i_BadFault_k; (case i_BadFault_i => k_is); (case i_BadFault_t => k_is); (case i_BadFault_l => k_is); (case i_BadFault_cc => k_is); (case i_BadFault_k => k_is)))
      (case i_BadMarks => (refine' DD.DefX.of rfl (fun _ _ _ _ _ _ us hl => match us, hl with | [_, _], _ => rfl) ?i_BadMarks_i ?i_BadMarks_t ?i_BadMarks_l ?i_BadMarks_cc ?i_BadMarks_k; (case i_BadMarks_i => k_is); (case i_BadMarks_t => k_is); (case i_BadMarks_l => k_is); (case i_BadMarks_cc => k_is); (case i_BadMarks_k => k_is)))
      (case i_BadPlace => (refine' DD.DefX.of rfl (fun _ _ _ _ _ _ us hl => match us, hl with | [_, _], _ => rfl) ?i_BadPlace_i ?i_BadPlace_t ?i_BadPlace_l ?i_BadPlace_cc ?i_BadPlace_k; (case i_BadPlace_i => k_is); (case i_BadPlace_t => k_is); (case i_BadPlace_l => k_is); (case i_BadPlace_cc => k_is); (case i_BadPlace_k => k_is)))
      (case i_BadStep => (refine' DD.DefX.of rfl (fun _ _ _ _ _ _ us hl => match us, hl with | [_, _], _ => rfl) ?i_BadStep_i ?i_BadStep_t ?i_BadStep_l ?i_BadStep_cc ?i_BadStep_k; (case i_BadStep_i => k_is); (case i_BadStep_t => k_is); (case i_BadStep_l => k_is); (case i_BadStep_cc => k_is); (case i_BadStep_k => k_is)))
      (case i_BadTakes => (refine' DD.DefX.of rfl (fun _ _ _ _ _ _ us hl => match us, hl with | [_, _], _ => rfl) ?i_BadTakes_i ?i_BadTakes_t ?i_BadTakes_l ?i_BadTakes_cc ?i_BadTakes_k; (case i_BadTakes_i => k_is); (case i_BadTakes_t => k_is); (case i_BadTakes_l => k_is); (case i_BadTakes_cc => k_is); (case i_BadTakes_k => k_is)))
      (case i_BadText => (refine' DD.DefX.of rfl (fun _ _ _ _ _ _ us hl => match us, hl with | [_, _], _ => rfl) ?i_BadText_i ?i_BadText_t ?i_BadText_l ?i_BadText_cc ?i_BadText_k; (case i_BadText_i => k_is); (case i_BadText_t => k_is); (case i_BadText_l => k_is); (case i_BadText_cc => k_is); (case i_BadText_k => k_is)))
      (case i_BadTracks => (refine' DD.DefX.of rfl (fun _ _ _ _ _ _ us hl => match us, hl with | [_, _], _ => rfl) ?i_BadTracks_i ?i_BadTracks_t ?i_BadTracks_l ?i_BadTracks_cc ?i_BadTracks_k; (case i_BadTracks_i => k_is); (case i_BadTracks_t => k_is); (case i_BadTracks_l => k_is); (case i_BadTracks_cc => k_is); (case i_BadTracks_k => k_is)))
      (case i_BadTree => (refine' DD.DefX.of rfl (fun _ _ _ _ _ _ us hl => match us, hl with | [_, _], _ => rfl) ?i_BadTree_i ?i_BadTree_t ?i_BadTree_l ?i_BadTree_cc ?i_BadTree_k; (case i_BadTree_i => k_is); (case i_BadTree_t => k_is); (case i_BadTree_l => k_is); (case i_BadTree_cc => k_is); (case i_BadTree_k => k_is)))
      (case i_Contradiction => (refine' DD.DefX.of rfl (fun _ _ _ _ _ _ us hl => match us, hl with | [_, _], _ => rfl) ?i_Contradiction_i ?i_Contradiction_t ?i_Contradiction_l ?i_Contradiction_cc ?i_Contradiction_k; (case i_Contradiction_i => k_is); (case i_Contradiction_t => k_is); (case i_Contradiction_l => k_is); (case i_Contradiction_cc => k_is); (case i_Contradiction_k => k_is)))
      (case i_CouldGoWrong => (refine' DD.DefX.of rfl (fun _ _ _ _ _ _ us hl => match us, hl with | [_, _, _, _], _ => rfl) ?i_CouldGoWrong_i ?i_CouldGoWrong_t ?i_CouldGoWrong_l ?i_CouldGoWrong_cc ?i_CouldGoWrong_k; (case i_CouldGoWrong_i => k_is); (case i_CouldGoWrong_t => k_is); (case i_CouldGoWrong_l => k_is); (case i_CouldGoWrong_cc => k_is); (case i_CouldGoWrong_k => k_is)))
      (case i_NameTaken => (refine' DD.DefX.of rfl (fun _ _ _ _ _ _ us hl => match us, hl with | [_, _], _ => rfl) ?i_NameTaken_i ?i_NameTaken_t ?i_NameTaken_l ?i_NameTaken_cc ?i_NameTaken_k; (case i_NameTaken_i => k_is); (case i_NameTaken_t => k_is); (case i_NameTaken_l => k_is); (case i_NameTaken_cc => k_is); (case i_NameTaken_k => k_is)))
      (case i_NoBranch => (refine' DD.DefX.of rfl (fun _ _ _ _ _ _ us hl => match us, hl with | [_, _], _ => rfl) ?i_NoBranch_i ?i_NoBranch_t ?i_NoBranch_l ?i_NoBranch_cc ?i_NoBranch_k; (case i_NoBranch_i => k_is); (case i_NoBranch_t => k_is); (case i_NoBranch_l => k_is); (case i_NoBranch_cc => k_is); (case i_NoBranch_k => k_is)))
      (case i_NoWatch => (refine' DD.DefX.of rfl (fun _ _ _ _ _ _ us hl => match us, hl with | [_, _], _ => rfl) ?i_NoWatch_i ?i_NoWatch_t ?i_NoWatch_l ?i_NoWatch_cc ?i_NoWatch_k; (case i_NoWatch_i => k_is); (case i_NoWatch_t => k_is); (case i_NoWatch_l => k_is); (case i_NoWatch_cc => k_is); (case i_NoWatch_k => k_is)))
      (case i_NotSure => (refine' DD.DefX.of rfl (fun _ _ _ _ _ _ us hl => match us, hl with | [_, _], _ => rfl) ?i_NotSure_i ?i_NotSure_t ?i_NotSure_l ?i_NotSure_cc ?i_NotSure_k; (case i_NotSure_i => k_is); (case i_NotSure_t => k_is); (case i_NotSure_l => k_is); (case i_NotSure_cc => k_is); (case i_NotSure_k => k_is)))
      (case i_UnknownName => (refine' DD.DefX.of rfl (fun _ _ _ _ _ _ us hl => match us, hl with | [_, _], _ => rfl) ?i_UnknownName_i ?i_UnknownName_t ?i_UnknownName_l ?i_UnknownName_cc ?i_UnknownName_k; (case i_UnknownName_i => k_is); (case i_UnknownName_t => k_is); (case i_UnknownName_l => k_is); (case i_UnknownName_cc => k_is); (case i_UnknownName_k => k_is)))
      (case ox2 => (refine' DD.oex_of rfl ?ox2_xl ?ox2_hr ?ox2_sa ?ox2_ex ?ox2_ty ?ox2_kc; (case ox2_xl => k_is); (case ox2_hr => decide +kernel); (case ox2_sa => k_is); (case ox2_ex => k_is); (case ox2_ty => k_is); (case ox2_kc => k_is)))
      (case ox3 => (refine' DD.oex_of rfl ?ox3_xl ?ox3_hr ?ox3_sa ?ox3_ex ?ox3_ty ?ox3_kc; (case ox3_xl => k_is); (case ox3_hr => decide +kernel); (case ox3_sa => k_is); (case ox3_ex => k_is); (case ox3_ty => k_is); (case ox3_kc => k_is)))
      (case ox4 => (refine' DD.oex_of rfl ?ox4_xl ?ox4_hr ?ox4_sa ?ox4_ex ?ox4_ty ?ox4_kc; (case ox4_xl => k_is); (case ox4_hr => decide +kernel); (case ox4_sa => k_is); (case ox4_ex => k_is); (case ox4_ty => k_is); (case ox4_kc => k_is)))
      (case ox5 => (refine' DD.oex_of rfl ?ox5_xl ?ox5_hr ?ox5_sa ?ox5_ex ?ox5_ty ?ox5_kc; (case ox5_xl => k_is); (case ox5_hr => decide +kernel); (case ox5_sa => k_is); (case ox5_ex => k_is); (case ox5_ty => k_is); (case ox5_kc => k_is)))
      (case ox6 => (refine' DD.oex_of rfl ?ox6_xl ?ox6_hr ?ox6_sa ?ox6_ex ?ox6_ty ?ox6_kc; (case ox6_xl => k_is); (case ox6_hr => decide +kernel); (case ox6_sa => k_is); (case ox6_ex => k_is); (case ox6_ty => k_is); (case ox6_kc => k_is)))
      (case ox9 => (refine' DD.oex_of rfl ?ox9_xl ?ox9_hr ?ox9_sa ?ox9_ex ?ox9_ty ?ox9_kc; (case ox9_xl => k_is); (case ox9_hr => decide +kernel); (case ox9_sa => k_is); (case ox9_ex => k_is); (case ox9_ty => k_is); (case ox9_kc => k_is)))
      (case ox10 => (refine' DD.oex_of rfl ?ox10_xl ?ox10_hr ?ox10_sa ?ox10_ex ?ox10_ty ?ox10_kc; (case ox10_xl => k_is); (case ox10_hr => decide +kernel); (case ox10_sa => k_is); (case ox10_ex => k_is); (case ox10_ty => k_is); (case ox10_kc => k_is)))
      (case ox11 => (refine' DD.oex_of rfl ?ox11_xl ?ox11_hr ?ox11_sa ?ox11_ex ?ox11_ty ?ox11_kc; (case ox11_xl => k_is); (case ox11_hr => decide +kernel); (case ox11_sa => k_is); (case ox11_ex => k_is); (case ox11_ty => k_is); (case ox11_kc => k_is)))
      (case ox12 => (refine' DD.oex_of rfl ?ox12_xl ?ox12_hr ?ox12_sa ?ox12_ex ?ox12_ty ?ox12_kc; (case ox12_xl => k_is); (case ox12_hr => decide +kernel); (case ox12_sa => k_is); (case ox12_ex => k_is); (case ox12_ty => k_is); (case ox12_kc => k_is)))
      (case ox13 => (refine' DD.oex_of rfl ?ox13_xl ?ox13_hr ?ox13_sa ?ox13_ex ?ox13_ty ?ox13_kc; (case ox13_xl => k_is); (case ox13_hr => decide +kernel); (case ox13_sa => k_is); (case ox13_ex => k_is); (case ox13_ty => k_is); (case ox13_kc => k_is)))
      (case ox14 => (refine' DD.oex_of rfl ?ox14_xl ?ox14_hr ?ox14_sa ?ox14_ex ?ox14_ty ?ox14_kc; (case ox14_xl => k_is); (case ox14_hr => decide +kernel); (case ox14_sa => k_is); (case ox14_ex => k_is); (case ox14_ty => k_is); (case ox14_kc => k_is)))
      (case ox15 => (refine' DD.oex_of rfl ?ox15_xl ?ox15_hr ?ox15_sa ?ox15_ex ?ox15_ty ?ox15_kc; (case ox15_xl => k_is); (case ox15_hr => decide +kernel); (case ox15_sa => k_is); (case ox15_ex => k_is); (case ox15_ty => k_is); (case ox15_kc => k_is)))
      (case ox16 => (refine' DD.oex_of rfl ?ox16_xl ?ox16_hr ?ox16_sa ?ox16_ex ?ox16_ty ?ox16_kc; (case ox16_xl => k_is); (case ox16_hr => decide +kernel); (case ox16_sa => k_is); (case ox16_ex => k_is); (case ox16_ty => k_is); (case ox16_kc => k_is)))
      (case ox17 => (refine' DD.oex_of rfl ?ox17_xl ?ox17_hr ?ox17_sa ?ox17_ex ?ox17_ty ?ox17_kc; (case ox17_xl => k_is); (case ox17_hr => decide +kernel); (case ox17_sa => k_is); (case ox17_ex => k_is); (case ox17_ty => k_is); (case ox17_kc => k_is)))
      (case ox18 => (refine' DD.oex_of rfl ?ox18_xl ?ox18_hr ?ox18_sa ?ox18_ex ?ox18_ty ?ox18_kc; (case ox18_xl => k_is); (case ox18_hr => decide +kernel); (case ox18_sa => k_is); (case ox18_ex => k_is); (case ox18_ty => k_is); (case ox18_kc => k_is)))
      (case ox20 => (refine' DD.oex_of rfl ?ox20_xl ?ox20_hr ?ox20_sa ?ox20_ex ?ox20_ty ?ox20_kc; (case ox20_xl => k_is); (case ox20_hr => decide +kernel); (case ox20_sa => k_is); (case ox20_ex => k_is); (case ox20_ty => k_is); (case ox20_kc => k_is)))
      (case ox22 => (refine' DD.oex_of rfl ?ox22_xl ?ox22_hr ?ox22_sa ?ox22_ex ?ox22_ty ?ox22_kc; (case ox22_xl => k_is); (case ox22_hr => decide +kernel); (case ox22_sa => k_is); (case ox22_ex => k_is); (case ox22_ty => k_is); (case ox22_kc => k_is)))
      (case ox24 => (refine' DD.oex_of rfl ?ox24_xl ?ox24_hr ?ox24_sa ?ox24_ex ?ox24_ty ?ox24_kc; (case ox24_xl => k_is); (case ox24_hr => decide +kernel); (case ox24_sa => k_is); (case ox24_ex => k_is); (case ox24_ty => k_is); (case ox24_kc => k_is)))
      (case xt1 => (refine' DD.ext_of rfl ?xt1_ga ?xt1_gg ?xt1_ex ?xt1_hd ?xt1_cl ?xt1_cx ?xt1_cg ?xt1_ct ?xt1_cm; (case xt1_ga => k_is); (case xt1_gg => k_is); (case xt1_ex => k_is); (case xt1_hd => k_is); (case xt1_cl => k_is); (case xt1_cx => k_is); (case xt1_cg => k_is); (case xt1_ct => k_is); (case xt1_cm => k_is)))
      (case xt2 => (refine' DD.ext_of rfl ?xt2_ga ?xt2_gg ?xt2_ex ?xt2_hd ?xt2_cl ?xt2_cx ?xt2_cg ?xt2_ct ?xt2_cm; (case xt2_ga => k_is); (case xt2_gg => k_is); (case xt2_ex => k_is); (case xt2_hd => k_is); (case xt2_cl => k_is); (case xt2_cx => k_is); (case xt2_cg => k_is); (case xt2_ct => k_is); (case xt2_cm => k_is)))
      (case xt3 => (refine' DD.ext_of rfl ?xt3_ga ?xt3_gg ?xt3_ex ?xt3_hd ?xt3_cl ?xt3_cx ?xt3_cg ?xt3_ct ?xt3_cm; (case xt3_ga => k_is); (case xt3_gg => k_is); (case xt3_ex => k_is); (case xt3_hd => k_is); (case xt3_cl => k_is); (case xt3_cx => k_is); (case xt3_cg => k_is); (case xt3_ct => k_is); (case xt3_cm => k_is)))
      (case xt4 => (refine' DD.ext_of rfl ?xt4_ga ?xt4_gg ?xt4_ex ?xt4_hd ?xt4_cl ?xt4_cx ?xt4_cg ?xt4_ct ?xt4_cm; (case xt4_ga => k_is); (case xt4_gg => k_is); (case xt4_ex => k_is); (case xt4_hd => k_is); (case xt4_cl => k_is); (case xt4_cx => k_is); (case xt4_cg => k_is); (case xt4_ct => k_is); (case xt4_cm => k_is)))
      (case xt5 => (refine' DD.ext_of rfl ?xt5_ga ?xt5_gg ?xt5_ex ?xt5_hd ?xt5_cl ?xt5_cx ?xt5_cg ?xt5_ct ?xt5_cm; (case xt5_ga => k_is); (case xt5_gg => k_is); (case xt5_ex => k_is); (case xt5_hd => k_is); (case xt5_cl => k_is); (case xt5_cx => k_is); (case xt5_cg => k_is); (case xt5_ct => k_is); (case xt5_cm => k_is)))
      (case xt6 => (refine' DD.ext_of rfl ?xt6_ga ?xt6_gg ?xt6_ex ?xt6_hd ?xt6_cl ?xt6_cx ?xt6_cg ?xt6_ct ?xt6_cm; (case xt6_ga => k_is); (case xt6_gg => k_is); (case xt6_ex => k_is); (case xt6_hd => k_is); (case xt6_cl => k_is); (case xt6_cx => k_is); (case xt6_cg => k_is); (case xt6_ct => k_is); (case xt6_cm => k_is)))
      (case xt7 => (refine' DD.ext_of rfl ?xt7_ga ?xt7_gg ?xt7_ex ?xt7_hd ?xt7_cl ?xt7_cx ?xt7_cg ?xt7_ct ?xt7_cm; (case xt7_ga => k_is); (case xt7_gg => k_is); (case xt7_ex => k_is); (case xt7_hd => k_is); (case xt7_cl => k_is); (case xt7_cx => k_is); (case xt7_cg => k_is); (case xt7_ct => k_is); (case xt7_cm => k_is)))
      (case xt8 => (refine' DD.ext_of rfl ?xt8_ga ?xt8_gg ?xt8_ex ?xt8_hd ?xt8_cl ?xt8_cx ?xt8_cg ?xt8_ct ?xt8_cm; (case xt8_ga => k_is); (case xt8_gg => k_is); (case xt8_ex => k_is); (case xt8_hd => k_is); (case xt8_cl => k_is); (case xt8_cx => k_is); (case xt8_cg => k_is); (case xt8_ct => k_is); (case xt8_cm => k_is)))
      (case xt9 => (refine' DD.ext_of rfl ?xt9_ga ?xt9_gg ?xt9_ex ?xt9_hd ?xt9_cl ?xt9_cx ?xt9_cg ?xt9_ct ?xt9_cm; (case xt9_ga => k_is); (case xt9_gg => k_is); (case xt9_ex => k_is); (case xt9_hd => k_is); (case xt9_cl => k_is); (case xt9_cx => k_is); (case xt9_cg => k_is); (case xt9_ct => k_is); (case xt9_cm => k_is)))
      (case xt10 => (refine' DD.ext_of rfl ?xt10_ga ?xt10_gg ?xt10_ex ?xt10_hd ?xt10_cl ?xt10_cx ?xt10_cg ?xt10_ct ?xt10_cm; (case xt10_ga => k_is); (case xt10_gg => k_is); (case xt10_ex => k_is); (case xt10_hd => k_is); (case xt10_cl => k_is); (case xt10_cx => k_is); (case xt10_cg => k_is); (case xt10_ct => k_is); (case xt10_cm => k_is)))
      (case xt11 => (refine' DD.ext_of rfl ?xt11_ga ?xt11_gg ?xt11_ex ?xt11_hd ?xt11_cl ?xt11_cx ?xt11_cg ?xt11_ct ?xt11_cm; (case xt11_ga => k_is); (case xt11_gg => k_is); (case xt11_ex => k_is); (case xt11_hd => k_is); (case xt11_cl => k_is); (case xt11_cx => k_is); (case xt11_cg => k_is); (case xt11_ct => k_is); (case xt11_cm => k_is)))
      (case xt12 => (refine' DD.ext_of rfl ?xt12_ga ?xt12_gg ?xt12_ex ?xt12_hd ?xt12_cl ?xt12_cx ?xt12_cg ?xt12_ct ?xt12_cm; (case xt12_ga => k_is); (case xt12_gg => k_is); (case xt12_ex => k_is); (case xt12_hd => k_is); (case xt12_cl => k_is); (case xt12_cx => k_is); (case xt12_cg => k_is); (case xt12_ct => k_is); (case xt12_cm => k_is)))
      (case xt13 => (refine' DD.ext_of rfl ?xt13_ga ?xt13_gg ?xt13_ex ?xt13_hd ?xt13_cl ?xt13_cx ?xt13_cg ?xt13_ct ?xt13_cm; (case xt13_ga => k_is); (case xt13_gg => k_is); (case xt13_ex => k_is); (case xt13_hd => k_is); (case xt13_cl => k_is); (case xt13_cx => k_is); (case xt13_cg => k_is); (case xt13_ct => k_is); (case xt13_cm => k_is)))
      (case xt14 => (refine' DD.ext_of rfl ?xt14_ga ?xt14_gg ?xt14_ex ?xt14_hd ?xt14_cl ?xt14_cx ?xt14_cg ?xt14_ct ?xt14_cm; (case xt14_ga => k_is); (case xt14_gg => k_is); (case xt14_ex => k_is); (case xt14_hd => k_is); (case xt14_cl => k_is); (case xt14_cx => k_is); (case xt14_cg => k_is); (case xt14_ct => k_is); (case xt14_cm => k_is)))
      (case xt15 => (refine' DD.ext_of rfl ?xt15_ga ?xt15_gg ?xt15_ex ?xt15_hd ?xt15_cl ?xt15_cx ?xt15_cg ?xt15_ct ?xt15_cm; (case xt15_ga => k_is); (case xt15_gg => k_is); (case xt15_ex => k_is); (case xt15_hd => k_is); (case xt15_cl => k_is); (case xt15_cx => k_is); (case xt15_cg => k_is); (case xt15_ct => k_is); (case xt15_cm => k_is)))
      (case xt16 => (refine' DD.ext_of rfl ?xt16_ga ?xt16_gg ?xt16_ex ?xt16_hd ?xt16_cl ?xt16_cx ?xt16_cg ?xt16_ct ?xt16_cm; (case xt16_ga => k_is); (case xt16_gg => k_is); (case xt16_ex => k_is); (case xt16_hd => k_is); (case xt16_cl => k_is); (case xt16_cx => k_is); (case xt16_cg => k_is); (case xt16_ct => k_is); (case xt16_cm => k_is)))
      (case xt17 => (refine' DD.ext_of rfl ?xt17_ga ?xt17_gg ?xt17_ex ?xt17_hd ?xt17_cl ?xt17_cx ?xt17_cg ?xt17_ct ?xt17_cm; (case xt17_ga => k_is); (case xt17_gg => k_is); (case xt17_ex => k_is); (case xt17_hd => k_is); (case xt17_cl => k_is); (case xt17_cx => k_is); (case xt17_cg => k_is); (case xt17_ct => k_is); (case xt17_cm => k_is)))
      (case xt18 => (refine' DD.ext_of rfl ?xt18_ga ?xt18_gg ?xt18_ex ?xt18_hd ?xt18_cl ?xt18_cx ?xt18_cg ?xt18_ct ?xt18_cm; (case xt18_ga => k_is); (case xt18_gg => k_is); (case xt18_ex => k_is); (case xt18_hd => k_is); (case xt18_cl => k_is); (case xt18_cx => k_is); (case xt18_cg => k_is); (case xt18_ct => k_is); (case xt18_cm => k_is)))
      (case xt19 => (refine' DD.ext_of rfl ?xt19_ga ?xt19_gg ?xt19_ex ?xt19_hd ?xt19_cl ?xt19_cx ?xt19_cg ?xt19_ct ?xt19_cm; (case xt19_ga => k_is); (case xt19_gg => k_is); (case xt19_ex => k_is); (case xt19_hd => k_is); (case xt19_cl => k_is); (case xt19_cx => k_is); (case xt19_cg => k_is); (case xt19_ct => k_is); (case xt19_cm => k_is)))
      (case xt20 => (refine' DD.ext_of rfl ?xt20_ga ?xt20_gg ?xt20_ex ?xt20_hd ?xt20_cl ?xt20_cx ?xt20_cg ?xt20_ct ?xt20_cm; (case xt20_ga => k_is); (case xt20_gg => k_is); (case xt20_ex => k_is); (case xt20_hd => k_is); (case xt20_cl => k_is); (case xt20_cx => k_is); (case xt20_cg => k_is); (case xt20_ct => k_is); (case xt20_cm => k_is)))
      (case xt21 => (refine' DD.ext_of rfl ?xt21_ga ?xt21_gg ?xt21_ex ?xt21_hd ?xt21_cl ?xt21_cx ?xt21_cg ?xt21_ct ?xt21_cm; (case xt21_ga => k_is); (case xt21_gg => k_is); (case xt21_ex => k_is); (case xt21_hd => k_is); (case xt21_cl => k_is); (case xt21_cx => k_is); (case xt21_cg => k_is); (case xt21_ct => k_is); (case xt21_cm => k_is)))
      (case xt22 => (refine' DD.ext_of rfl ?xt22_ga ?xt22_gg ?xt22_ex ?xt22_hd ?xt22_cl ?xt22_cx ?xt22_cg ?xt22_ct ?xt22_cm; (case xt22_ga => k_is); (case xt22_gg => k_is); (case xt22_ex => k_is); (case xt22_hd => k_is); (case xt22_cl => k_is); (case xt22_cx => k_is); (case xt22_cg => k_is); (case xt22_ct => k_is); (case xt22_cm => k_is)))
      (case xt23 => (refine' DD.ext_of rfl ?xt23_ga ?xt23_gg ?xt23_ex ?xt23_hd ?xt23_cl ?xt23_cx ?xt23_cg ?xt23_ct ?xt23_cm; (case xt23_ga => k_is); (case xt23_gg => k_is); (case xt23_ex => k_is); (case xt23_hd => k_is); (case xt23_cl => k_is); (case xt23_cx => k_is); (case xt23_cg => k_is); (case xt23_ct => k_is); (case xt23_cm => k_is)))
      (case xt24 => (refine' DD.ext_of rfl ?xt24_ga ?xt24_gg ?xt24_ex ?xt24_hd ?xt24_cl ?xt24_cx ?xt24_cg ?xt24_ct ?xt24_cm; (case xt24_ga => k_is); (case xt24_gg => k_is); (case xt24_ex => k_is); (case xt24_hd => k_is); (case xt24_cl => k_is); (case xt24_cx => k_is); (case xt24_cg => k_is); (case xt24_ct => k_is); (case xt24_cm => k_is)))
      (case xt25 => (refine' DD.ext_of rfl ?xt25_ga ?xt25_gg ?xt25_ex ?xt25_hd ?xt25_cl ?xt25_cx ?xt25_cg ?xt25_ct ?xt25_cm; (case xt25_ga => k_is); (case xt25_gg => k_is); (case xt25_ex => k_is); (case xt25_hd => k_is); (case xt25_cl => k_is); (case xt25_cx => k_is); (case xt25_cg => k_is); (case xt25_ct => k_is); (case xt25_cm => k_is)))
      (case xt26 => (refine' DD.ext_of rfl ?xt26_ga ?xt26_gg ?xt26_ex ?xt26_hd ?xt26_cl ?xt26_cx ?xt26_cg ?xt26_ct ?xt26_cm; (case xt26_ga => k_is); (case xt26_gg => k_is); (case xt26_ex => k_is); (case xt26_hd => k_is); (case xt26_cl => k_is); (case xt26_cx => k_is); (case xt26_cg => k_is); (case xt26_ct => k_is); (case xt26_cm => k_is)))
      (case bx1 => (refine' DD.BaseX.of rfl ?bx1_rd ?bx1_ga ?bx1_fc; (case bx1_rd => k_is); (case bx1_ga => k_is); (case bx1_fc => k_is)))
      (case xn2_index => (refine' DD.no_of' rfl ?xn2_index_na; (case xn2_index_na => k_is)))
      (case xn3_step => (refine' DD.no_of' rfl ?xn3_step_na; (case xn3_step_na => k_is)))
      (case xn4_index => (refine' DD.no_of' rfl ?xn4_index_na; (case xn4_index_na => k_is)))
      (case xn5_index => (refine' DD.no_of' rfl ?xn5_index_na; (case xn5_index_na => k_is)))
      (case xn6_index => (refine' DD.no_of' rfl ?xn6_index_na; (case xn6_index_na => k_is)))
      (case xn9_index => (refine' DD.no_of' rfl ?xn9_index_na; (case xn9_index_na => k_is)))
      (case xn10_step => (refine' DD.no_of' rfl ?xn10_step_na; (case xn10_step_na => k_is)))
      (case xn11_index => (refine' DD.no_of' rfl ?xn11_index_na; (case xn11_index_na => k_is)))
      (case xn12_line => (refine' DD.no_of' rfl ?xn12_line_na; (case xn12_line_na => k_is)))
      (case xn13_index => (refine' DD.no_of' rfl ?xn13_index_na; (case xn13_index_na => k_is)))
      (case xn14_index => (refine' DD.no_of' rfl ?xn14_index_na; (case xn14_index_na => k_is)))
      (case xn15_ring => (refine' DD.no_of' rfl ?xn15_ring_na; (case xn15_ring_na => k_is)))
      (case xn16_kind => (refine' DD.no_of' rfl ?xn16_kind_na; (case xn16_kind_na => k_is)))
      (case xn16_recording => (refine' DD.no_of' rfl ?xn16_recording_na; (case xn16_recording_na => k_is)))
      (case xn16_step => (refine' DD.no_of' rfl ?xn16_step_na; (case xn16_step_na => k_is)))
      (case xn17_name => (refine' DD.no_of' rfl ?xn17_name_na; (case xn17_name_na => k_is)))
      (case xn18_name => (refine' DD.no_of' rfl ?xn18_name_na; (case xn18_name_na => k_is)))
      (case xn20_name => (refine' DD.no_of' rfl ?xn20_name_na; (case xn20_name_na => k_is)))
      (case xn22_recording => (refine' DD.no_of' rfl ?xn22_recording_na; (case xn22_recording_na => k_is)))
      (case xn24_name => (refine' DD.no_of' rfl ?xn24_name_na; (case xn24_name_na => k_is)))
      (case xm1_1 => (refine' DD.exm_of rfl rfl ?xm1_1_h1 ?xm1_1_h2 ?xm1_1_h3 ?xm1_1_h4; (case xm1_1_h1 => k_is); (case xm1_1_h2 => k_is); (case xm1_1_h3 => k_is); (case xm1_1_h4 => first | rfl | k_is)))
      (case xm2_1 => (refine' DD.exm_of rfl rfl ?xm2_1_h1 ?xm2_1_h2 ?xm2_1_h3 ?xm2_1_h4; (case xm2_1_h1 => k_is); (case xm2_1_h2 => k_is); (case xm2_1_h3 => k_is); (case xm2_1_h4 => first | rfl | k_is)))
      (case xm3_1 => (refine' DD.exm_of rfl rfl ?xm3_1_h1 ?xm3_1_h2 ?xm3_1_h3 ?xm3_1_h4; (case xm3_1_h1 => k_is); (case xm3_1_h2 => k_is); (case xm3_1_h3 => k_is); (case xm3_1_h4 => first | rfl | k_is)))
      (case xm4_1 => (refine' DD.exm_of rfl rfl ?xm4_1_h1 ?xm4_1_h2 ?xm4_1_h3 ?xm4_1_h4; (case xm4_1_h1 => k_is); (case xm4_1_h2 => k_is); (case xm4_1_h3 => k_is); (case xm4_1_h4 => first | rfl | k_is)))
      (case xm5_1 => (refine' DD.exm_of rfl rfl ?xm5_1_h1 ?xm5_1_h2 ?xm5_1_h3 ?xm5_1_h4; (case xm5_1_h1 => k_is); (case xm5_1_h2 => k_is); (case xm5_1_h3 => k_is); (case xm5_1_h4 => first | rfl | k_is)))
      (case xm6_1 => (refine' DD.exm_of rfl rfl ?xm6_1_h1 ?xm6_1_h2 ?xm6_1_h3 ?xm6_1_h4; (case xm6_1_h1 => k_is); (case xm6_1_h2 => k_is); (case xm6_1_h3 => k_is); (case xm6_1_h4 => first | rfl | k_is)))
      (case xm7_1 => (refine' DD.exm_of rfl rfl ?xm7_1_h1 ?xm7_1_h2 ?xm7_1_h3 ?xm7_1_h4; (case xm7_1_h1 => k_is); (case xm7_1_h2 => k_is); (case xm7_1_h3 => k_is); (case xm7_1_h4 => first | rfl | k_is)))
      (case xm8_1 => (refine' DD.exm_of rfl rfl ?xm8_1_h1 ?xm8_1_h2 ?xm8_1_h3 ?xm8_1_h4; (case xm8_1_h1 => k_is); (case xm8_1_h2 => k_is); (case xm8_1_h3 => k_is); (case xm8_1_h4 => first | rfl | k_is)))
      (case xm9_1 => (refine' DD.exm_of rfl rfl ?xm9_1_h1 ?xm9_1_h2 ?xm9_1_h3 ?xm9_1_h4; (case xm9_1_h1 => k_is); (case xm9_1_h2 => k_is); (case xm9_1_h3 => k_is); (case xm9_1_h4 => first | rfl | k_is)))
      (case xm10_1 => (refine' DD.exm_of rfl rfl ?xm10_1_h1 ?xm10_1_h2 ?xm10_1_h3 ?xm10_1_h4; (case xm10_1_h1 => k_is); (case xm10_1_h2 => k_is); (case xm10_1_h3 => k_is); (case xm10_1_h4 => first | rfl | k_is)))
      (case xm11_1 => (refine' DD.exm_of rfl rfl ?xm11_1_h1 ?xm11_1_h2 ?xm11_1_h3 ?xm11_1_h4; (case xm11_1_h1 => k_is); (case xm11_1_h2 => k_is); (case xm11_1_h3 => k_is); (case xm11_1_h4 => first | rfl | k_is)))
      (case xm12_1 => (refine' DD.exm_of rfl rfl ?xm12_1_h1 ?xm12_1_h2 ?xm12_1_h3 ?xm12_1_h4; (case xm12_1_h1 => k_is); (case xm12_1_h2 => k_is); (case xm12_1_h3 => k_is); (case xm12_1_h4 => first | rfl | k_is)))
      (case xm13_1 => (refine' DD.exm_of rfl rfl ?xm13_1_h1 ?xm13_1_h2 ?xm13_1_h3 ?xm13_1_h4; (case xm13_1_h1 => k_is); (case xm13_1_h2 => k_is); (case xm13_1_h3 => k_is); (case xm13_1_h4 => first | rfl | k_is)))
      (case xm14_1 => (refine' DD.exm_of rfl rfl ?xm14_1_h1 ?xm14_1_h2 ?xm14_1_h3 ?xm14_1_h4; (case xm14_1_h1 => k_is); (case xm14_1_h2 => k_is); (case xm14_1_h3 => k_is); (case xm14_1_h4 => first | rfl | k_is)))
      (case xm15_1 => (refine' DD.exm_of rfl rfl ?xm15_1_h1 ?xm15_1_h2 ?xm15_1_h3 ?xm15_1_h4; (case xm15_1_h1 => k_is); (case xm15_1_h2 => k_is); (case xm15_1_h3 => k_is); (case xm15_1_h4 => first | rfl | k_is)))
      (case xm16_1 => (refine' DD.exm_of rfl rfl ?xm16_1_h1 ?xm16_1_h2 ?xm16_1_h3 ?xm16_1_h4; (case xm16_1_h1 => k_is); (case xm16_1_h2 => k_is); (case xm16_1_h3 => k_is); (case xm16_1_h4 => first | rfl | k_is)))
      (case xm17_1 => (refine' DD.exm_of rfl rfl ?xm17_1_h1 ?xm17_1_h2 ?xm17_1_h3 ?xm17_1_h4; (case xm17_1_h1 => k_is); (case xm17_1_h2 => k_is); (case xm17_1_h3 => k_is); (case xm17_1_h4 => first | rfl | k_is)))
      (case xm18_1 => (refine' DD.exm_of rfl rfl ?xm18_1_h1 ?xm18_1_h2 ?xm18_1_h3 ?xm18_1_h4; (case xm18_1_h1 => k_is); (case xm18_1_h2 => k_is); (case xm18_1_h3 => k_is); (case xm18_1_h4 => first | rfl | k_is)))
      (case xm19_1 => (refine' DD.exm_of rfl rfl ?xm19_1_h1 ?xm19_1_h2 ?xm19_1_h3 ?xm19_1_h4; (case xm19_1_h1 => k_is); (case xm19_1_h2 => k_is); (case xm19_1_h3 => k_is); (case xm19_1_h4 => first | rfl | k_is)))
      (case xm20_1 => (refine' DD.exm_of rfl rfl ?xm20_1_h1 ?xm20_1_h2 ?xm20_1_h3 ?xm20_1_h4; (case xm20_1_h1 => k_is); (case xm20_1_h2 => k_is); (case xm20_1_h3 => k_is); (case xm20_1_h4 => first | rfl | k_is)))
      (case xm21_1 => (refine' DD.exm_of rfl rfl ?xm21_1_h1 ?xm21_1_h2 ?xm21_1_h3 ?xm21_1_h4; (case xm21_1_h1 => k_is); (case xm21_1_h2 => k_is); (case xm21_1_h3 => k_is); (case xm21_1_h4 => first | rfl | k_is)))
      (case xm22_1 => (refine' DD.exm_of rfl rfl ?xm22_1_h1 ?xm22_1_h2 ?xm22_1_h3 ?xm22_1_h4; (case xm22_1_h1 => k_is); (case xm22_1_h2 => k_is); (case xm22_1_h3 => k_is); (case xm22_1_h4 => first | rfl | k_is)))
      (case xm23_1 => (refine' DD.exm_of rfl rfl ?xm23_1_h1 ?xm23_1_h2 ?xm23_1_h3 ?xm23_1_h4; (case xm23_1_h1 => k_is); (case xm23_1_h2 => k_is); (case xm23_1_h3 => k_is); (case xm23_1_h4 => first | rfl | k_is)))
      (case xm24_1 => (refine' DD.exm_of rfl rfl ?xm24_1_h1 ?xm24_1_h2 ?xm24_1_h3 ?xm24_1_h4; (case xm24_1_h1 => k_is); (case xm24_1_h2 => k_is); (case xm24_1_h3 => k_is); (case xm24_1_h4 => first | rfl | k_is)))
      (case xm25_1 => (refine' DD.exm_of rfl rfl ?xm25_1_h1 ?xm25_1_h2 ?xm25_1_h3 ?xm25_1_h4; (case xm25_1_h1 => k_is); (case xm25_1_h2 => k_is); (case xm25_1_h3 => k_is); (case xm25_1_h4 => first | rfl | k_is)))
      (case xm26_1 => (refine' DD.exm_of rfl rfl ?xm26_1_h1 ?xm26_1_h2 ?xm26_1_h3 ?xm26_1_h4; (case xm26_1_h1 => k_is); (case xm26_1_h2 => k_is); (case xm26_1_h3 => k_is); (case xm26_1_h4 => first | rfl | k_is)))
      (case tc2 => (refine' DD.TyC.of rfl ?tc2_h2 ?tc2_h3; (case tc2_h2 => k_is); (case tc2_h3 => k_is)))
      (case tc3 => (refine' DD.TyC.of rfl ?tc3_h2 ?tc3_h3; (case tc3_h2 => k_is); (case tc3_h3 => k_is)))
      (case tc4 => (refine' DD.TyC.of rfl ?tc4_h2 ?tc4_h3; (case tc4_h2 => k_is); (case tc4_h3 => k_is)))
      (case tc5 => (refine' DD.TyC.of rfl ?tc5_h2 ?tc5_h3; (case tc5_h2 => k_is); (case tc5_h3 => k_is)))
      (case tc6 => (refine' DD.TyC.of rfl ?tc6_h2 ?tc6_h3; (case tc6_h2 => k_is); (case tc6_h3 => k_is)))
      (case tc7 => (refine' DD.TyC.of rfl ?tc7_h2 ?tc7_h3; (case tc7_h2 => k_is); (case tc7_h3 => k_is)))
      (case tc8 => (refine' DD.TyC.of rfl ?tc8_h2 ?tc8_h3; (case tc8_h2 => k_is); (case tc8_h3 => k_is)))
      (case tc9 => (refine' DD.TyC.of rfl ?tc9_h2 ?tc9_h3; (case tc9_h2 => k_is); (case tc9_h3 => k_is)))
      (case tc10 => (refine' DD.TyC.of rfl ?tc10_h2 ?tc10_h3; (case tc10_h2 => k_is); (case tc10_h3 => k_is)))
      (case tc11 => (refine' DD.TyC.of rfl ?tc11_h2 ?tc11_h3; (case tc11_h2 => k_is); (case tc11_h3 => k_is)))
      (case tc12 => (refine' DD.TyC.of rfl ?tc12_h2 ?tc12_h3; (case tc12_h2 => k_is); (case tc12_h3 => k_is)))
      (case tc13 => (refine' DD.TyC.of rfl ?tc13_h2 ?tc13_h3; (case tc13_h2 => k_is); (case tc13_h3 => k_is)))
      (case tc14 => (refine' DD.TyC.of rfl ?tc14_h2 ?tc14_h3; (case tc14_h2 => k_is); (case tc14_h3 => k_is)))
      (case tc15 => (refine' DD.TyC.of rfl ?tc15_h2 ?tc15_h3; (case tc15_h2 => k_is); (case tc15_h3 => k_is)))
      (case tc16 => (refine' DD.TyC.of rfl ?tc16_h2 ?tc16_h3; (case tc16_h2 => k_is); (case tc16_h3 => k_is)))
      (case tc17 => (refine' DD.TyC.of rfl ?tc17_h2 ?tc17_h3; (case tc17_h2 => k_is); (case tc17_h3 => k_is)))
      (case tc18 => (refine' DD.TyC.of rfl ?tc18_h2 ?tc18_h3; (case tc18_h2 => k_is); (case tc18_h3 => k_is)))
      (case tc19 => (refine' DD.TyC.of rfl ?tc19_h2 ?tc19_h3; (case tc19_h2 => k_is); (case tc19_h3 => k_is)))
      (case tc20 => (refine' DD.TyC.of rfl ?tc20_h2 ?tc20_h3; (case tc20_h2 => k_is); (case tc20_h3 => k_is)))
      (case tc21 => (refine' DD.TyC.of rfl ?tc21_h2 ?tc21_h3; (case tc21_h2 => k_is); (case tc21_h3 => k_is)))
      (case tc22 => (refine' DD.TyC.of rfl ?tc22_h2 ?tc22_h3; (case tc22_h2 => k_is); (case tc22_h3 => k_is)))
      (case tc23 => (refine' DD.TyC.of rfl ?tc23_h2 ?tc23_h3; (case tc23_h2 => k_is); (case tc23_h3 => k_is)))
      (case tc24 => (refine' DD.TyC.of rfl ?tc24_h2 ?tc24_h3; (case tc24_h2 => k_is); (case tc24_h3 => k_is)))
      (case tc25 => (refine' DD.TyC.of rfl ?tc25_h2 ?tc25_h3; (case tc25_h2 => k_is); (case tc25_h3 => k_is)))
      (case tc26 => (refine' DD.TyC.of rfl ?tc26_h2 ?tc26_h3; (case tc26_h2 => k_is); (case tc26_h3 => k_is)))
      (case kb1_ValueError => (refine' DD.kit_ofB rfl ?h4; (case h4 => first | rfl | k_is)))
      (case kb2_ValueError => (refine' DD.kit_ofB rfl ?h4; (case h4 => first | rfl | k_is)))
      (case kb3_ValueError => (refine' DD.kit_ofB rfl ?h4; (case h4 => first | rfl | k_is)))
      (case kb4_ValueError => (refine' DD.kit_ofB rfl ?h4; (case h4 => first | rfl | k_is)))
      (case kb5_ValueError => (refine' DD.kit_ofB rfl ?h4; (case h4 => first | rfl | k_is)))
      (case kb6_ValueError => (refine' DD.kit_ofB rfl ?h4; (case h4 => first | rfl | k_is)))
      (case kb7_ValueError => (refine' DD.kit_ofB rfl ?h4; (case h4 => first | rfl | k_is)))
      (case kb8_ValueError => (refine' DD.kit_ofB rfl ?h4; (case h4 => first | rfl | k_is)))
      (case kb9_ValueError => (refine' DD.kit_ofB rfl ?h4; (case h4 => first | rfl | k_is)))
      (case kb10_ValueError => (refine' DD.kit_ofB rfl ?h4; (case h4 => first | rfl | k_is)))
      (case kb11_ValueError => (refine' DD.kit_ofB rfl ?h4; (case h4 => first | rfl | k_is)))
      (case kb12_ValueError => (refine' DD.kit_ofB rfl ?h4; (case h4 => first | rfl | k_is)))
      (case kb13_ValueError => (refine' DD.kit_ofB rfl ?h4; (case h4 => first | rfl | k_is)))
      (case kb14_ValueError => (refine' DD.kit_ofB rfl ?h4; (case h4 => first | rfl | k_is)))
      (case kb15_ValueError => (refine' DD.kit_ofB rfl ?h4; (case h4 => first | rfl | k_is)))
      (case kb16_ValueError => (refine' DD.kit_ofB rfl ?h4; (case h4 => first | rfl | k_is)))
      (case kb17_ValueError => (refine' DD.kit_ofB rfl ?h4; (case h4 => first | rfl | k_is)))
      (case kb18_ValueError => (refine' DD.kit_ofB rfl ?h4; (case h4 => first | rfl | k_is)))
      (case kb19_ValueError => (refine' DD.kit_ofB rfl ?h4; (case h4 => first | rfl | k_is)))
      (case kb20_ValueError => (refine' DD.kit_ofB rfl ?h4; (case h4 => first | rfl | k_is)))
      (case kb21_ValueError => (refine' DD.kit_ofB rfl ?h4; (case h4 => first | rfl | k_is)))
      (case kb22_ValueError => (refine' DD.kit_ofB rfl ?h4; (case h4 => first | rfl | k_is)))
      (case kb23_ValueError => (refine' DD.kit_ofB rfl ?h4; (case h4 => first | rfl | k_is)))
      (case kb24_ValueError => (refine' DD.kit_ofB rfl ?h4; (case h4 => first | rfl | k_is)))
      (case kb25_ValueError => (refine' DD.kit_ofB rfl ?h4; (case h4 => first | rfl | k_is)))
      (case kb26_ValueError => (refine' DD.kit_ofB rfl ?h4; (case h4 => first | rfl | k_is)))
      (case sb1 => (refine' (DD.all_cons' (DD.SubF.of rfl rfl (by decide +kernel) ?s1_2) (DD.all_cons' (DD.SubF.of rfl rfl (by decide +kernel) ?s1_3) (DD.all_cons' (DD.SubF.of rfl rfl (by decide +kernel) ?s1_4) (DD.all_cons' (DD.SubF.of rfl rfl (by decide +kernel) ?s1_5) (DD.all_cons' (DD.SubF.of rfl rfl (by decide +kernel) ?s1_6) (DD.all_cons' (DD.SubF.of rfl rfl (by decide +kernel) ?s1_7) (DD.all_cons' (DD.SubF.of rfl rfl (by decide +kernel) ?s1_8) (DD.all_cons' (DD.SubF.of rfl rfl (by decide +kernel) ?s1_9) (DD.all_cons' (DD.SubF.of rfl rfl (by decide +kernel) ?s1_10) (DD.all_cons' (DD.SubF.of rfl rfl (by decide +kernel) ?s1_11) (DD.all_cons' (DD.SubF.of rfl rfl (by decide +kernel) ?s1_12) (DD.all_cons' (DD.SubF.of rfl rfl (by decide +kernel) ?s1_13) (DD.all_cons' (DD.SubF.of rfl rfl (by decide +kernel) ?s1_14) (DD.all_cons' (DD.SubF.of rfl rfl (by decide +kernel) ?s1_15) (DD.all_cons' (DD.SubF.of rfl rfl (by decide +kernel) ?s1_16) (DD.all_cons' (DD.SubF.of rfl rfl (by decide +kernel) ?s1_17) (DD.all_cons' (DD.SubF.of rfl rfl (by decide +kernel) ?s1_18) (DD.all_cons' (DD.SubF.of rfl rfl (by decide +kernel) ?s1_19) (DD.all_cons' (DD.SubF.of rfl rfl (by decide +kernel) ?s1_20) (DD.all_cons' (DD.SubF.of rfl rfl (by decide +kernel) ?s1_21) (DD.all_cons' (DD.SubF.of rfl rfl (by decide +kernel) ?s1_22) (DD.all_cons' (DD.SubF.of rfl rfl (by decide +kernel) ?s1_23) (DD.all_cons' (DD.SubF.of rfl rfl (by decide +kernel) ?s1_24) (DD.all_cons' (DD.SubF.of rfl rfl (by decide +kernel) ?s1_25) (DD.all_cons' (DD.SubF.of rfl rfl (by decide +kernel) ?s1_26) DD.all_nil'))))))))))))))))))))))))); (case s1_2 => k_is); (case s1_3 => k_is); (case s1_4 => k_is); (case s1_5 => k_is); (case s1_6 => k_is); (case s1_7 => k_is); (case s1_8 => k_is); (case s1_9 => k_is); (case s1_10 => k_is); (case s1_11 => k_is); (case s1_12 => k_is); (case s1_13 => k_is); (case s1_14 => k_is); (case s1_15 => k_is); (case s1_16 => k_is); (case s1_17 => k_is); (case s1_18 => k_is); (case s1_19 => k_is); (case s1_20 => k_is); (case s1_21 => k_is); (case s1_22 => k_is); (case s1_23 => k_is); (case s1_24 => k_is); (case s1_25 => k_is); (case s1_26 => k_is)))
      (case sb2 => (refine' (DD.all_cons' (DD.SubF.of rfl rfl (by decide +kernel) ?s2_3) (DD.all_cons' (DD.SubF.of rfl rfl (by decide +kernel) ?s2_4) (DD.all_cons' (DD.SubF.of rfl rfl (by decide +kernel) ?s2_5) (DD.all_cons' (DD.SubF.of rfl rfl (by decide +kernel) ?s2_6) (DD.all_cons' (DD.SubF.of rfl rfl (by decide +kernel) ?s2_7) (DD.all_cons' (DD.SubF.of rfl rfl (by decide +kernel) ?s2_8) (DD.all_cons' (DD.SubF.of rfl rfl (by decide +kernel) ?s2_9) (DD.all_cons' (DD.SubF.of rfl rfl (by decide +kernel) ?s2_10) (DD.all_cons' (DD.SubF.of rfl rfl (by decide +kernel) ?s2_11) (DD.all_cons' (DD.SubF.of rfl rfl (by decide +kernel) ?s2_12) (DD.all_cons' (DD.SubF.of rfl rfl (by decide +kernel) ?s2_13) (DD.all_cons' (DD.SubF.of rfl rfl (by decide +kernel) ?s2_14) (DD.all_cons' (DD.SubF.of rfl rfl (by decide +kernel) ?s2_15) (DD.all_cons' (DD.SubF.of rfl rfl (by decide +kernel) ?s2_16) (DD.all_cons' (DD.SubF.of rfl rfl (by decide +kernel) ?s2_17) (DD.all_cons' (DD.SubF.of rfl rfl (by decide +kernel) ?s2_18) (DD.all_cons' (DD.SubF.of rfl rfl (by decide +kernel) ?s2_19) (DD.all_cons' (DD.SubF.of rfl rfl (by decide +kernel) ?s2_20) (DD.all_cons' (DD.SubF.of rfl rfl (by decide +kernel) ?s2_21) (DD.all_cons' (DD.SubF.of rfl rfl (by decide +kernel) ?s2_22) (DD.all_cons' (DD.SubF.of rfl rfl (by decide +kernel) ?s2_23) (DD.all_cons' (DD.SubF.of rfl rfl (by decide +kernel) ?s2_24) (DD.all_cons' (DD.SubF.of rfl rfl (by decide +kernel) ?s2_25) (DD.all_cons' (DD.SubF.of rfl rfl (by decide +kernel) ?s2_26) DD.all_nil')))))))))))))))))))))))); (case s2_3 => k_is); (case s2_4 => k_is); (case s2_5 => k_is); (case s2_6 => k_is); (case s2_7 => k_is); (case s2_8 => k_is); (case s2_9 => k_is); (case s2_10 => k_is); (case s2_11 => k_is); (case s2_12 => k_is); (case s2_13 => k_is); (case s2_14 => k_is); (case s2_15 => k_is); (case s2_16 => k_is); (case s2_17 => k_is); (case s2_18 => k_is); (case s2_19 => k_is); (case s2_20 => k_is); (case s2_21 => k_is); (case s2_22 => k_is); (case s2_23 => k_is); (case s2_24 => k_is); (case s2_25 => k_is); (case s2_26 => k_is)))
      (case sb3 => (refine' (DD.all_cons' (DD.SubF.of rfl rfl (by decide +kernel) ?s3_2) (DD.all_cons' (DD.SubF.of rfl rfl (by decide +kernel) ?s3_4) (DD.all_cons' (DD.SubF.of rfl rfl (by decide +kernel) ?s3_5) (DD.all_cons' (DD.SubF.of rfl rfl (by decide +kernel) ?s3_6) (DD.all_cons' (DD.SubF.of rfl rfl (by decide +kernel) ?s3_7) (DD.all_cons' (DD.SubF.of rfl rfl (by decide +kernel) ?s3_8) (DD.all_cons' (DD.SubF.of rfl rfl (by decide +kernel) ?s3_9) (DD.all_cons' (DD.SubF.of rfl rfl (by decide +kernel) ?s3_10) (DD.all_cons' (DD.SubF.of rfl rfl (by decide +kernel) ?s3_11) (DD.all_cons' (DD.SubF.of rfl rfl (by decide +kernel) ?s3_12) (DD.all_cons' (DD.SubF.of rfl rfl (by decide +kernel) ?s3_13) (DD.all_cons' (DD.SubF.of rfl rfl (by decide +kernel) ?s3_14) (DD.all_cons' (DD.SubF.of rfl rfl (by decide +kernel) ?s3_15) (DD.all_cons' (DD.SubF.of rfl rfl (by decide +kernel) ?s3_16) (DD.all_cons' (DD.SubF.of rfl rfl (by decide +kernel) ?s3_17) (DD.all_cons' (DD.SubF.of rfl rfl (by decide +kernel) ?s3_18) (DD.all_cons' (DD.SubF.of rfl rfl (by decide +kernel) ?s3_19) (DD.all_cons' (DD.SubF.of rfl rfl (by decide +kernel) ?s3_20) (DD.all_cons' (DD.SubF.of rfl rfl (by decide +kernel) ?s3_21) (DD.all_cons' (DD.SubF.of rfl rfl (by decide +kernel) ?s3_22) (DD.all_cons' (DD.SubF.of rfl rfl (by decide +kernel) ?s3_23) (DD.all_cons' (DD.SubF.of rfl rfl (by decide +kernel) ?s3_24) (DD.all_cons' (DD.SubF.of rfl rfl (by decide +kernel) ?s3_25) (DD.all_cons' (DD.SubF.of rfl rfl (by decide +kernel) ?s3_26) DD.all_nil')))))))))))))))))))))))); (case s3_2 => k_is); (case s3_4 => k_is); (case s3_5 => k_is); (case s3_6 => k_is); (case s3_7 => k_is); (case s3_8 => k_is); (case s3_9 => k_is); (case s3_10 => k_is); (case s3_11 => k_is); (case s3_12 => k_is); (case s3_13 => k_is); (case s3_14 => k_is); (case s3_15 => k_is); (case s3_16 => k_is); (case s3_17 => k_is); (case s3_18 => k_is); (case s3_19 => k_is); (case s3_20 => k_is); (case s3_21 => k_is); (case s3_22 => k_is); (case s3_23 => k_is); (case s3_24 => k_is); (case s3_25 => k_is); (case s3_26 => k_is)))
      (case sb4 => (refine' (DD.all_cons' (DD.SubF.of rfl rfl (by decide +kernel) ?s4_2) (DD.all_cons' (DD.SubF.of rfl rfl (by decide +kernel) ?s4_3) (DD.all_cons' (DD.SubF.of rfl rfl (by decide +kernel) ?s4_5) (DD.all_cons' (DD.SubF.of rfl rfl (by decide +kernel) ?s4_6) (DD.all_cons' (DD.SubF.of rfl rfl (by decide +kernel) ?s4_7) (DD.all_cons' (DD.SubF.of rfl rfl (by decide +kernel) ?s4_8) (DD.all_cons' (DD.SubF.of rfl rfl (by decide +kernel) ?s4_9) (DD.all_cons' (DD.SubF.of rfl rfl (by decide +kernel) ?s4_10) (DD.all_cons' (DD.SubF.of rfl rfl (by decide +kernel) ?s4_11) (DD.all_cons' (DD.SubF.of rfl rfl (by decide +kernel) ?s4_12) (DD.all_cons' (DD.SubF.of rfl rfl (by decide +kernel) ?s4_13) (DD.all_cons' (DD.SubF.of rfl rfl (by decide +kernel) ?s4_14) (DD.all_cons' (DD.SubF.of rfl rfl (by decide +kernel) ?s4_15) (DD.all_cons' (DD.SubF.of rfl rfl (by decide +kernel) ?s4_16) (DD.all_cons' (DD.SubF.of rfl rfl (by decide +kernel) ?s4_17) (DD.all_cons' (DD.SubF.of rfl rfl (by decide +kernel) ?s4_18) (DD.all_cons' (DD.SubF.of rfl rfl (by decide +kernel) ?s4_19) (DD.all_cons' (DD.SubF.of rfl rfl (by decide +kernel) ?s4_20) (DD.all_cons' (DD.SubF.of rfl rfl (by decide +kernel) ?s4_21) (DD.all_cons' (DD.SubF.of rfl rfl (by decide +kernel) ?s4_22) (DD.all_cons' (DD.SubF.of rfl rfl (by decide +kernel) ?s4_23) (DD.all_cons' (DD.SubF.of rfl rfl (by decide +kernel) ?s4_24) (DD.all_cons' (DD.SubF.of rfl rfl (by decide +kernel) ?s4_25) (DD.all_cons' (DD.SubF.of rfl rfl (by decide +kernel) ?s4_26) DD.all_nil')))))))))))))))))))))))); (case s4_2 => k_is); (case s4_3 => k_is); (case s4_5 => k_is); (case s4_6 => k_is); (case s4_7 => k_is); (case s4_8 => k_is); (case s4_9 => k_is); (case s4_10 => k_is); (case s4_11 => k_is); (case s4_12 => k_is); (case s4_13 => k_is); (case s4_14 => k_is); (case s4_15 => k_is); (case s4_16 => k_is); (case s4_17 => k_is); (case s4_18 => k_is); (case s4_19 => k_is); (case s4_20 => k_is); (case s4_21 => k_is); (case s4_22 => k_is); (case s4_23 => k_is); (case s4_24 => k_is); (case s4_25 => k_is); (case s4_26 => k_is)))
      (case sb5 => (refine' (DD.all_cons' (DD.SubF.of rfl rfl (by decide +kernel) ?s5_2) (DD.all_cons' (DD.SubF.of rfl rfl (by decide +kernel) ?s5_3) (DD.all_cons' (DD.SubF.of rfl rfl (by decide +kernel) ?s5_4) (DD.all_cons' (DD.SubF.of rfl rfl (by decide +kernel) ?s5_6) (DD.all_cons' (DD.SubF.of rfl rfl (by decide +kernel) ?s5_7) (DD.all_cons' (DD.SubF.of rfl rfl (by decide +kernel) ?s5_8) (DD.all_cons' (DD.SubF.of rfl rfl (by decide +kernel) ?s5_9) (DD.all_cons' (DD.SubF.of rfl rfl (by decide +kernel) ?s5_10) (DD.all_cons' (DD.SubF.of rfl rfl (by decide +kernel) ?s5_11) (DD.all_cons' (DD.SubF.of rfl rfl (by decide +kernel) ?s5_12) (DD.all_cons' (DD.SubF.of rfl rfl (by decide +kernel) ?s5_13) (DD.all_cons' (DD.SubF.of rfl rfl (by decide +kernel) ?s5_14) (DD.all_cons' (DD.SubF.of rfl rfl (by decide +kernel) ?s5_15) (DD.all_cons' (DD.SubF.of rfl rfl (by decide +kernel) ?s5_16) (DD.all_cons' (DD.SubF.of rfl rfl (by decide +kernel) ?s5_17) (DD.all_cons' (DD.SubF.of rfl rfl (by decide +kernel) ?s5_18) (DD.all_cons' (DD.SubF.of rfl rfl (by decide +kernel) ?s5_19) (DD.all_cons' (DD.SubF.of rfl rfl (by decide +kernel) ?s5_20) (DD.all_cons' (DD.SubF.of rfl rfl (by decide +kernel) ?s5_21) (DD.all_cons' (DD.SubF.of rfl rfl (by decide +kernel) ?s5_22) (DD.all_cons' (DD.SubF.of rfl rfl (by decide +kernel) ?s5_23) (DD.all_cons' (DD.SubF.of rfl rfl (by decide +kernel) ?s5_24) (DD.all_cons' (DD.SubF.of rfl rfl (by decide +kernel) ?s5_25) (DD.all_cons' (DD.SubF.of rfl rfl (by decide +kernel) ?s5_26) DD.all_nil')))))))))))))))))))))))); (case s5_2 => k_is); (case s5_3 => k_is); (case s5_4 => k_is); (case s5_6 => k_is); (case s5_7 => k_is); (case s5_8 => k_is); (case s5_9 => k_is); (case s5_10 => k_is); (case s5_11 => k_is); (case s5_12 => k_is); (case s5_13 => k_is); (case s5_14 => k_is); (case s5_15 => k_is); (case s5_16 => k_is); (case s5_17 => k_is); (case s5_18 => k_is); (case s5_19 => k_is); (case s5_20 => k_is); (case s5_21 => k_is); (case s5_22 => k_is); (case s5_23 => k_is); (case s5_24 => k_is); (case s5_25 => k_is); (case s5_26 => k_is)))
      (case sb6 => (refine' (DD.all_cons' (DD.SubF.of rfl rfl (by decide +kernel) ?s6_2) (DD.all_cons' (DD.SubF.of rfl rfl (by decide +kernel) ?s6_3) (DD.all_cons' (DD.SubF.of rfl rfl (by decide +kernel) ?s6_4) (DD.all_cons' (DD.SubF.of rfl rfl (by decide +kernel) ?s6_5) (DD.all_cons' (DD.SubF.of rfl rfl (by decide +kernel) ?s6_7) (DD.all_cons' (DD.SubF.of rfl rfl (by decide +kernel) ?s6_8) (DD.all_cons' (DD.SubF.of rfl rfl (by decide +kernel) ?s6_9) (DD.all_cons' (DD.SubF.of rfl rfl (by decide +kernel) ?s6_10) (DD.all_cons' (DD.SubF.of rfl rfl (by decide +kernel) ?s6_11) (DD.all_cons' (DD.SubF.of rfl rfl (by decide +kernel) ?s6_12) (DD.all_cons' (DD.SubF.of rfl rfl (by decide +kernel) ?s6_13) (DD.all_cons' (DD.SubF.of rfl rfl (by decide +kernel) ?s6_14) (DD.all_cons' (DD.SubF.of rfl rfl (by decide +kernel) ?s6_15) (DD.all_cons' (DD.SubF.of rfl rfl (by decide +kernel) ?s6_16) (DD.all_cons' (DD.SubF.of rfl rfl (by decide +kernel) ?s6_17) (DD.all_cons' (DD.SubF.of rfl rfl (by decide +kernel) ?s6_18) (DD.all_cons' (DD.SubF.of rfl rfl (by decide +kernel) ?s6_19) (DD.all_cons' (DD.SubF.of rfl rfl (by decide +kernel) ?s6_20) (DD.all_cons' (DD.SubF.of rfl rfl (by decide +kernel) ?s6_21) (DD.all_cons' (DD.SubF.of rfl rfl (by decide +kernel) ?s6_22) (DD.all_cons' (DD.SubF.of rfl rfl (by decide +kernel) ?s6_23) (DD.all_cons' (DD.SubF.of rfl rfl (by decide +kernel) ?s6_24) (DD.all_cons' (DD.SubF.of rfl rfl (by decide +kernel) ?s6_25) (DD.all_cons' (DD.SubF.of rfl rfl (by decide +kernel) ?s6_26) DD.all_nil')))))))))))))))))))))))); (case s6_2 => k_is); (case s6_3 => k_is); (case s6_4 => k_is); (case s6_5 => k_is); (case s6_7 => k_is); (case s6_8 => k_is); (case s6_9 => k_is); (case s6_10 => k_is); (case s6_11 => k_is); (case s6_12 => k_is); (case s6_13 => k_is); (case s6_14 => k_is); (case s6_15 => k_is); (case s6_16 => k_is); (case s6_17 => k_is); (case s6_18 => k_is); (case s6_19 => k_is); (case s6_20 => k_is); (case s6_21 => k_is); (case s6_22 => k_is); (case s6_23 => k_is); (case s6_24 => k_is); (case s6_25 => k_is); (case s6_26 => k_is)))
      (case sb7 => (refine' (DD.all_cons' (DD.SubF.of rfl rfl (by decide +kernel) ?s7_2) (DD.all_cons' (DD.SubF.of rfl rfl (by decide +kernel) ?s7_3) (DD.all_cons' (DD.SubF.of rfl rfl (by decide +kernel) ?s7_4) (DD.all_cons' (DD.SubF.of rfl rfl (by decide +kernel) ?s7_5) (DD.all_cons' (DD.SubF.of rfl rfl (by decide +kernel) ?s7_6) (DD.all_cons' (DD.SubF.of rfl rfl (by decide +kernel) ?s7_8) (DD.all_cons' (DD.SubF.of rfl rfl (by decide +kernel) ?s7_9) (DD.all_cons' (DD.SubF.of rfl rfl (by decide +kernel) ?s7_10) (DD.all_cons' (DD.SubF.of rfl rfl (by decide +kernel) ?s7_11) (DD.all_cons' (DD.SubF.of rfl rfl (by decide +kernel) ?s7_12) (DD.all_cons' (DD.SubF.of rfl rfl (by decide +kernel) ?s7_13) (DD.all_cons' (DD.SubF.of rfl rfl (by decide +kernel) ?s7_14) (DD.all_cons' (DD.SubF.of rfl rfl (by decide +kernel) ?s7_15) (DD.all_cons' (DD.SubF.of rfl rfl (by decide +kernel) ?s7_16) (DD.all_cons' (DD.SubF.of rfl rfl (by decide +kernel) ?s7_17) (DD.all_cons' (DD.SubF.of rfl rfl (by decide +kernel) ?s7_18) (DD.all_cons' (DD.SubF.of rfl rfl (by decide +kernel) ?s7_19) (DD.all_cons' (DD.SubF.of rfl rfl (by decide +kernel) ?s7_20) (DD.all_cons' (DD.SubF.of rfl rfl (by decide +kernel) ?s7_21) (DD.all_cons' (DD.SubF.of rfl rfl (by decide +kernel) ?s7_22) (DD.all_cons' (DD.SubF.of rfl rfl (by decide +kernel) ?s7_23) (DD.all_cons' (DD.SubF.of rfl rfl (by decide +kernel) ?s7_24) (DD.all_cons' (DD.SubF.of rfl rfl (by decide +kernel) ?s7_25) (DD.all_cons' (DD.SubF.of rfl rfl (by decide +kernel) ?s7_26) DD.all_nil')))))))))))))))))))))))); (case s7_2 => k_is); (case s7_3 => k_is); (case s7_4 => k_is); (case s7_5 => k_is); (case s7_6 => k_is); (case s7_8 => k_is); (case s7_9 => k_is); (case s7_10 => k_is); (case s7_11 => k_is); (case s7_12 => k_is); (case s7_13 => k_is); (case s7_14 => k_is); (case s7_15 => k_is); (case s7_16 => k_is); (case s7_17 => k_is); (case s7_18 => k_is); (case s7_19 => k_is); (case s7_20 => k_is); (case s7_21 => k_is); (case s7_22 => k_is); (case s7_23 => k_is); (case s7_24 => k_is); (case s7_25 => k_is); (case s7_26 => k_is)))
      (case sb8 => (refine' (DD.all_cons' (DD.SubF.of rfl rfl (by decide +kernel) ?s8_2) (DD.all_cons' (DD.SubF.of rfl rfl (by decide +kernel) ?s8_3) (DD.all_cons' (DD.SubF.of rfl rfl (by decide +kernel) ?s8_4) (DD.all_cons' (DD.SubF.of rfl rfl (by decide +kernel) ?s8_5) (DD.all_cons' (DD.SubF.of rfl rfl (by decide +kernel) ?s8_6) (DD.all_cons' (DD.SubF.of rfl rfl (by decide +kernel) ?s8_7) (DD.all_cons' (DD.SubF.of rfl rfl (by decide +kernel) ?s8_9) (DD.all_cons' (DD.SubF.of rfl rfl (by decide +kernel) ?s8_10) (DD.all_cons' (DD.SubF.of rfl rfl (by decide +kernel) ?s8_11) (DD.all_cons' (DD.SubF.of rfl rfl (by decide +kernel) ?s8_12) (DD.all_cons' (DD.SubF.of rfl rfl (by decide +kernel) ?s8_13) (DD.all_cons' (DD.SubF.of rfl rfl (by decide +kernel) ?s8_14) (DD.all_cons' (DD.SubF.of rfl rfl (by decide +kernel) ?s8_15) (DD.all_cons' (DD.SubF.of rfl rfl (by decide +kernel) ?s8_16) (DD.all_cons' (DD.SubF.of rfl rfl (by decide +kernel) ?s8_17) (DD.all_cons' (DD.SubF.of rfl rfl (by decide +kernel) ?s8_18) (DD.all_cons' (DD.SubF.of rfl rfl (by decide +kernel) ?s8_19) (DD.all_cons' (DD.SubF.of rfl rfl (by decide +kernel) ?s8_20) (DD.all_cons' (DD.SubF.of rfl rfl (by decide +kernel) ?s8_21) (DD.all_cons' (DD.SubF.of rfl rfl (by decide +kernel) ?s8_22) (DD.all_cons' (DD.SubF.of rfl rfl (by decide +kernel) ?s8_23) (DD.all_cons' (DD.SubF.of rfl rfl (by decide +kernel) ?s8_24) (DD.all_cons' (DD.SubF.of rfl rfl (by decide +kernel) ?s8_25) (DD.all_cons' (DD.SubF.of rfl rfl (by decide +kernel) ?s8_26) DD.all_nil')))))))))))))))))))))))); (case s8_2 => k_is); (case s8_3 => k_is); (case s8_4 => k_is); (case s8_5 => k_is); (case s8_6 => k_is); (case s8_7 => k_is); (case s8_9 => k_is); (case s8_10 => k_is); (case s8_11 => k_is); (case s8_12 => k_is); (case s8_13 => k_is); (case s8_14 => k_is); (case s8_15 => k_is); (case s8_16 => k_is); (case s8_17 => k_is); (case s8_18 => k_is); (case s8_19 => k_is); (case s8_20 => k_is); (case s8_21 => k_is); (case s8_22 => k_is); (case s8_23 => k_is); (case s8_24 => k_is); (case s8_25 => k_is); (case s8_26 => k_is)))
      (case sb9 => (refine' (DD.all_cons' (DD.SubF.of rfl rfl (by decide +kernel) ?s9_2) (DD.all_cons' (DD.SubF.of rfl rfl (by decide +kernel) ?s9_3) (DD.all_cons' (DD.SubF.of rfl rfl (by decide +kernel) ?s9_4) (DD.all_cons' (DD.SubF.of rfl rfl (by decide +kernel) ?s9_5) (DD.all_cons' (DD.SubF.of rfl rfl (by decide +kernel) ?s9_6) (DD.all_cons' (DD.SubF.of rfl rfl (by decide +kernel) ?s9_7) (DD.all_cons' (DD.SubF.of rfl rfl (by decide +kernel) ?s9_8) (DD.all_cons' (DD.SubF.of rfl rfl (by decide +kernel) ?s9_10) (DD.all_cons' (DD.SubF.of rfl rfl (by decide +kernel) ?s9_11) (DD.all_cons' (DD.SubF.of rfl rfl (by decide +kernel) ?s9_12) (DD.all_cons' (DD.SubF.of rfl rfl (by decide +kernel) ?s9_13) (DD.all_cons' (DD.SubF.of rfl rfl (by decide +kernel) ?s9_14) (DD.all_cons' (DD.SubF.of rfl rfl (by decide +kernel) ?s9_15) (DD.all_cons' (DD.SubF.of rfl rfl (by decide +kernel) ?s9_16) (DD.all_cons' (DD.SubF.of rfl rfl (by decide +kernel) ?s9_17) (DD.all_cons' (DD.SubF.of rfl rfl (by decide +kernel) ?s9_18) (DD.all_cons' (DD.SubF.of rfl rfl (by decide +kernel) ?s9_19) (DD.all_cons' (DD.SubF.of rfl rfl (by decide +kernel) ?s9_20) (DD.all_cons' (DD.SubF.of rfl rfl (by decide +kernel) ?s9_21) (DD.all_cons' (DD.SubF.of rfl rfl (by decide +kernel) ?s9_22) (DD.all_cons' (DD.SubF.of rfl rfl (by decide +kernel) ?s9_23) (DD.all_cons' (DD.SubF.of rfl rfl (by decide +kernel) ?s9_24) (DD.all_cons' (DD.SubF.of rfl rfl (by decide +kernel) ?s9_25) (DD.all_cons' (DD.SubF.of rfl rfl (by decide +kernel) ?s9_26) DD.all_nil')))))))))))))))))))))))); (case s9_2 => k_is); (case s9_3 => k_is); (case s9_4 => k_is); (case s9_5 => k_is); (case s9_6 => k_is); (case s9_7 => k_is); (case s9_8 => k_is); (case s9_10 => k_is); (case s9_11 => k_is); (case s9_12 => k_is); (case s9_13 => k_is); (case s9_14 => k_is); (case s9_15 => k_is); (case s9_16 => k_is); (case s9_17 => k_is); (case s9_18 => k_is); (case s9_19 => k_is); (case s9_20 => k_is); (case s9_21 => k_is); (case s9_22 => k_is); (case s9_23 => k_is); (case s9_24 => k_is); (case s9_25 => k_is); (case s9_26 => k_is)))
      (case sb10 => (refine' (DD.all_cons' (DD.SubF.of rfl rfl (by decide +kernel) ?s10_2) (DD.all_cons' (DD.SubF.of rfl rfl (by decide +kernel) ?s10_3) (DD.all_cons' (DD.SubF.of rfl rfl (by decide +kernel) ?s10_4) (DD.all_cons' (DD.SubF.of rfl rfl (by decide +kernel) ?s10_5) (DD.all_cons' (DD.SubF.of rfl rfl (by decide +kernel) ?s10_6) (DD.all_cons' (DD.SubF.of rfl rfl (by decide +kernel) ?s10_7) (DD.all_cons' (DD.SubF.of rfl rfl (by decide +kernel) ?s10_8) (DD.all_cons' (DD.SubF.of rfl rfl (by decide +kernel) ?s10_9) (DD.all_cons' (DD.SubF.of rfl rfl (by decide +kernel) ?s10_11) (DD.all_cons' (DD.SubF.of rfl rfl (by decide +kernel) ?s10_12) (DD.all_cons' (DD.SubF.of rfl rfl (by decide +kernel) ?s10_13) (DD.all_cons' (DD.SubF.of rfl rfl (by decide +kernel) ?s10_14) (DD.all_cons' (DD.SubF.of rfl rfl (by decide +kernel) ?s10_15) (DD.all_cons' (DD.SubF.of rfl rfl (by decide +kernel) ?s10_16) (DD.all_cons' (DD.SubF.of rfl rfl (by decide +kernel) ?s10_17) (DD.all_cons' (DD.SubF.of rfl rfl (by decide +kernel) ?s10_18) (DD.all_cons' (DD.SubF.of rfl rfl (by decide +kernel) ?s10_19) (DD.all_cons' (DD.SubF.of rfl rfl (by decide +kernel) ?s10_20) (DD.all_cons' (DD.SubF.of rfl rfl (by decide +kernel) ?s10_21) (DD.all_cons' (DD.SubF.of rfl rfl (by decide +kernel) ?s10_22) (DD.all_cons' (DD.SubF.of rfl rfl (by decide +kernel) ?s10_23) (DD.all_cons' (DD.SubF.of rfl rfl (by decide +kernel) ?s10_24) (DD.all_cons' (DD.SubF.of rfl rfl (by decide +kernel) ?s10_25) (DD.all_cons' (DD.SubF.of rfl rfl (by decide +kernel) ?s10_26) DD.all_nil')))))))))))))))))))))))); (case s10_2 => k_is); (case s10_3 => k_is); (case s10_4 => k_is); (case s10_5 => k_is); (case s10_6 => k_is); (case s10_7 => k_is); (case s10_8 => k_is); (case s10_9 => k_is); (case s10_11 => k_is); (case s10_12 => k_is); (case s10_13 => k_is); (case s10_14 => k_is); (case s10_15 => k_is); (case s10_16 => k_is); (case s10_17 => k_is); (case s10_18 => k_is); (case s10_19 => k_is); (case s10_20 => k_is); (case s10_21 => k_is); (case s10_22 => k_is); (case s10_23 => k_is); (case s10_24 => k_is); (case s10_25 => k_is); (case s10_26 => k_is)))
      (case sb11 => (refine' (DD.all_cons' (DD.SubF.of rfl rfl (by decide +kernel) ?s11_2) (DD.all_cons' (DD.SubF.of rfl rfl (by decide +kernel) ?s11_3) (DD.all_cons' (DD.SubF.of rfl rfl (by decide +kernel) ?s11_4) (DD.all_cons' (DD.SubF.of rfl rfl (by decide +kernel) ?s11_5) (DD.all_cons' (DD.SubF.of rfl rfl (by decide +kernel) ?s11_6) (DD.all_cons' (DD.SubF.of rfl rfl (by decide +kernel) ?s11_7) (DD.all_cons' (DD.SubF.of rfl rfl (by decide +kernel) ?s11_8) (DD.all_cons' (DD.SubF.of rfl rfl (by decide +kernel) ?s11_9) (DD.all_cons' (DD.SubF.of rfl rfl (by decide +kernel) ?s11_10) (DD.all_cons' (DD.SubF.of rfl rfl (by decide +kernel) ?s11_12) (DD.all_cons' (DD.SubF.of rfl rfl (by decide +kernel) ?s11_13) (DD.all_cons' (DD.SubF.of rfl rfl (by decide +kernel) ?s11_14) (DD.all_cons' (DD.SubF.of rfl rfl (by decide +kernel) ?s11_15) (DD.all_cons' (DD.SubF.of rfl rfl (by decide +kernel) ?s11_16) (DD.all_cons' (DD.SubF.of rfl rfl (by decide +kernel) ?s11_17) (DD.all_cons' (DD.SubF.of rfl rfl (by decide +kernel) ?s11_18) (DD.all_cons' (DD.SubF.of rfl rfl (by decide +kernel) ?s11_19) (DD.all_cons' (DD.SubF.of rfl rfl (by decide +kernel) ?s11_20) (DD.all_cons' (DD.SubF.of rfl rfl (by decide +kernel) ?s11_21) (DD.all_cons' (DD.SubF.of rfl rfl (by decide +kernel) ?s11_22) (DD.all_cons' (DD.SubF.of rfl rfl (by decide +kernel) ?s11_23) (DD.all_cons' (DD.SubF.of rfl rfl (by decide +kernel) ?s11_24) (DD.all_cons' (DD.SubF.of rfl rfl (by decide +kernel) ?s11_25) (DD.all_cons' (DD.SubF.of rfl rfl (by decide +kernel) ?s11_26) DD.all_nil')))))))))))))))))))))))); (case s11_2 => k_is); (case s11_3 => k_is); (case s11_4 => k_is); (case s11_5 => k_is); (case s11_6 => k_is); (case s11_7 => k_is); (case s11_8 => k_is); (case s11_9 => k_is); (case s11_10 => k_is); (case s11_12 => k_is); (case s11_13 => k_is); (case s11_14 => k_is); (case s11_15 => k_is); (case s11_16 => k_is); (case s11_17 => k_is); (case s11_18 => k_is); (case s11_19 => k_is); (case s11_20 => k_is); (case s11_21 => k_is); (case s11_22 => k_is); (case s11_23 => k_is); (case s11_24 => k_is); (case s11_25 => k_is); (case s11_26 => k_is)))
      (case sb12 => (refine' (DD.all_cons' (DD.SubF.of rfl rfl (by decide +kernel) ?s12_2) (DD.all_cons' (DD.SubF.of rfl rfl (by decide +kernel) ?s12_3) (DD.all_cons' (DD.SubF.of rfl rfl (by decide +kernel) ?s12_4) (DD.all_cons' (DD.SubF.of rfl rfl (by decide +kernel) ?s12_5) (DD.all_cons' (DD.SubF.of rfl rfl (by decide +kernel) ?s12_6) (DD.all_cons' (DD.SubF.of rfl rfl (by decide +kernel) ?s12_7) (DD.all_cons' (DD.SubF.of rfl rfl (by decide +kernel) ?s12_8) (DD.all_cons' (DD.SubF.of rfl rfl (by decide +kernel) ?s12_9) (DD.all_cons' (DD.SubF.of rfl rfl (by decide +kernel) ?s12_10) (DD.all_cons' (DD.SubF.of rfl rfl (by decide +kernel) ?s12_11) (DD.all_cons' (DD.SubF.of rfl rfl (by decide +kernel) ?s12_13) (DD.all_cons' (DD.SubF.of rfl rfl (by decide +kernel) ?s12_14) (DD.all_cons' (DD.SubF.of rfl rfl (by decide +kernel) ?s12_15) (DD.all_cons' (DD.SubF.of rfl rfl (by decide +kernel) ?s12_16) (DD.all_cons' (DD.SubF.of rfl rfl (by decide +kernel) ?s12_17) (DD.all_cons' (DD.SubF.of rfl rfl (by decide +kernel) ?s12_18) (DD.all_cons' (DD.SubF.of rfl rfl (by decide +kernel) ?s12_19) (DD.all_cons' (DD.SubF.of rfl rfl (by decide +kernel) ?s12_20) (DD.all_cons' (DD.SubF.of rfl rfl (by decide +kernel) ?s12_21) (DD.all_cons' (DD.SubF.of rfl rfl (by decide +kernel) ?s12_22) (DD.all_cons' (DD.SubF.of rfl rfl (by decide +kernel) ?s12_23) (DD.all_cons' (DD.SubF.of rfl rfl (by decide +kernel) ?s12_24) (DD.all_cons' (DD.SubF.of rfl rfl (by decide +kernel) ?s12_25) (DD.all_cons' (DD.SubF.of rfl rfl (by decide +kernel) ?s12_26) DD.all_nil')))))))))))))))))))))))); (case s12_2 => k_is); (case s12_3 => k_is); (case s12_4 => k_is); (case s12_5 => k_is); (case s12_6 => k_is); (case s12_7 => k_is); (case s12_8 => k_is); (case s12_9 => k_is); (case s12_10 => k_is); (case s12_11 => k_is); (case s12_13 => k_is); (case s12_14 => k_is); (case s12_15 => k_is); (case s12_16 => k_is); (case s12_17 => k_is); (case s12_18 => k_is); (case s12_19 => k_is); (case s12_20 => k_is); (case s12_21 => k_is); (case s12_22 => k_is); (case s12_23 => k_is); (case s12_24 => k_is); (case s12_25 => k_is); (case s12_26 => k_is)))
      (case sb13 => (refine' (DD.all_cons' (DD.SubF.of rfl rfl (by decide +kernel) ?s13_2) (DD.all_cons' (DD.SubF.of rfl rfl (by decide +kernel) ?s13_3) (DD.all_cons' (DD.SubF.of rfl rfl (by decide +kernel) ?s13_4) (DD.all_cons' (DD.SubF.of rfl rfl (by decide +kernel) ?s13_5) (DD.all_cons' (DD.SubF.of rfl rfl (by decide +kernel) ?s13_6) (DD.all_cons' (DD.SubF.of rfl rfl (by decide +kernel) ?s13_7) (DD.all_cons' (DD.SubF.of rfl rfl (by decide +kernel) ?s13_8) (DD.all_cons' (DD.SubF.of rfl rfl (by decide +kernel) ?s13_9) (DD.all_cons' (DD.SubF.of rfl rfl (by decide +kernel) ?s13_10) (DD.all_cons' (DD.SubF.of rfl rfl (by decide +kernel) ?s13_11) (DD.all_cons' (DD.SubF.of rfl rfl (by decide +kernel) ?s13_12) (DD.all_cons' (DD.SubF.of rfl rfl (by decide +kernel) ?s13_14) (DD.all_cons' (DD.SubF.of rfl rfl (by decide +kernel) ?s13_15) (DD.all_cons' (DD.SubF.of rfl rfl (by decide +kernel) ?s13_16) (DD.all_cons' (DD.SubF.of rfl rfl (by decide +kernel) ?s13_17) (DD.all_cons' (DD.SubF.of rfl rfl (by decide +kernel) ?s13_18) (DD.all_cons' (DD.SubF.of rfl rfl (by decide +kernel) ?s13_19) (DD.all_cons' (DD.SubF.of rfl rfl (by decide +kernel) ?s13_20) (DD.all_cons' (DD.SubF.of rfl rfl (by decide +kernel) ?s13_21) (DD.all_cons' (DD.SubF.of rfl rfl (by decide +kernel) ?s13_22) (DD.all_cons' (DD.SubF.of rfl rfl (by decide +kernel) ?s13_23) (DD.all_cons' (DD.SubF.of rfl rfl (by decide +kernel) ?s13_24) (DD.all_cons' (DD.SubF.of rfl rfl (by decide +kernel) ?s13_25) (DD.all_cons' (DD.SubF.of rfl rfl (by decide +kernel) ?s13_26) DD.all_nil')))))))))))))))))))))))); (case s13_2 => k_is); (case s13_3 => k_is); (case s13_4 => k_is); (case s13_5 => k_is); (case s13_6 => k_is); (case s13_7 => k_is); (case s13_8 => k_is); (case s13_9 => k_is); (case s13_10 => k_is); (case s13_11 => k_is); (case s13_12 => k_is); (case s13_14 => k_is); (case s13_15 => k_is); (case s13_16 => k_is); (case s13_17 => k_is); (case s13_18 => k_is); (case s13_19 => k_is); (case s13_20 => k_is); (case s13_21 => k_is); (case s13_22 => k_is); (case s13_23 => k_is); (case s13_24 => k_is); (case s13_25 => k_is); (case s13_26 => k_is)))
      (case sb14 => (refine' (DD.all_cons' (DD.SubF.of rfl rfl (by decide +kernel) ?s14_2) (DD.all_cons' (DD.SubF.of rfl rfl (by decide +kernel) ?s14_3) (DD.all_cons' (DD.SubF.of rfl rfl (by decide +kernel) ?s14_4) (DD.all_cons' (DD.SubF.of rfl rfl (by decide +kernel) ?s14_5) (DD.all_cons' (DD.SubF.of rfl rfl (by decide +kernel) ?s14_6) (DD.all_cons' (DD.SubF.of rfl rfl (by decide +kernel) ?s14_7) (DD.all_cons' (DD.SubF.of rfl rfl (by decide +kernel) ?s14_8) (DD.all_cons' (DD.SubF.of rfl rfl (by decide +kernel) ?s14_9) (DD.all_cons' (DD.SubF.of rfl rfl (by decide +kernel) ?s14_10) (DD.all_cons' (DD.SubF.of rfl rfl (by decide +kernel) ?s14_11) (DD.all_cons' (DD.SubF.of rfl rfl (by decide +kernel) ?s14_12) (DD.all_cons' (DD.SubF.of rfl rfl (by decide +kernel) ?s14_13) (DD.all_cons' (DD.SubF.of rfl rfl (by decide +kernel) ?s14_15) (DD.all_cons' (DD.SubF.of rfl rfl (by decide +kernel) ?s14_16) (DD.all_cons' (DD.SubF.of rfl rfl (by decide +kernel) ?s14_17) (DD.all_cons' (DD.SubF.of rfl rfl (by decide +kernel) ?s14_18) (DD.all_cons' (DD.SubF.of rfl rfl (by decide +kernel) ?s14_19) (DD.all_cons' (DD.SubF.of rfl rfl (by decide +kernel) ?s14_20) (DD.all_cons' (DD.SubF.of rfl rfl (by decide +kernel) ?s14_21) (DD.all_cons' (DD.SubF.of rfl rfl (by decide +kernel) ?s14_22) (DD.all_cons' (DD.SubF.of rfl rfl (by decide +kernel) ?s14_23) (DD.all_cons' (DD.SubF.of rfl rfl (by decide +kernel) ?s14_24) (DD.all_cons' (DD.SubF.of rfl rfl (by decide +kernel) ?s14_25) (DD.all_cons' (DD.SubF.of rfl rfl (by decide +kernel) ?s14_26) DD.all_nil')))))))))))))))))))))))); (case s14_2 => k_is); (case s14_3 => k_is); (case s14_4 => k_is); (case s14_5 => k_is); (case s14_6 => k_is); (case s14_7 => k_is); (case s14_8 => k_is); (case s14_9 => k_is); (case s14_10 => k_is); (case s14_11 => k_is); (case s14_12 => k_is); (case s14_13 => k_is); (case s14_15 => k_is); (case s14_16 => k_is); (case s14_17 => k_is); (case s14_18 => k_is); (case s14_19 => k_is); (case s14_20 => k_is); (case s14_21 => k_is); (case s14_22 => k_is); (case s14_23 => k_is); (case s14_24 => k_is); (case s14_25 => k_is); (case s14_26 => k_is)))
      (case sb15 => (refine' (DD.all_cons' (DD.SubF.of rfl rfl (by decide +kernel) ?s15_2) (DD.all_cons' (DD.SubF.of rfl rfl (by decide +kernel) ?s15_3) (DD.all_cons' (DD.SubF.of rfl rfl (by decide +kernel) ?s15_4) (DD.all_cons' (DD.SubF.of rfl rfl (by decide +kernel) ?s15_5) (DD.all_cons' (DD.SubF.of rfl rfl (by decide +kernel) ?s15_6) (DD.all_cons' (DD.SubF.of rfl rfl (by decide +kernel) ?s15_7) (DD.all_cons' (DD.SubF.of rfl rfl (by decide +kernel) ?s15_8) (DD.all_cons' (DD.SubF.of rfl rfl (by decide +kernel) ?s15_9) (DD.all_cons' (DD.SubF.of rfl rfl (by decide +kernel) ?s15_10) (DD.all_cons' (DD.SubF.of rfl rfl (by decide +kernel) ?s15_11) (DD.all_cons' (DD.SubF.of rfl rfl (by decide +kernel) ?s15_12) (DD.all_cons' (DD.SubF.of rfl rfl (by decide +kernel) ?s15_13) (DD.all_cons' (DD.SubF.of rfl rfl (by decide +kernel) ?s15_14) (DD.all_cons' (DD.SubF.of rfl rfl (by decide +kernel) ?s15_16) (DD.all_cons' (DD.SubF.of rfl rfl (by decide +kernel) ?s15_17) (DD.all_cons' (DD.SubF.of rfl rfl (by decide +kernel) ?s15_18) (DD.all_cons' (DD.SubF.of rfl rfl (by decide +kernel) ?s15_19) (DD.all_cons' (DD.SubF.of rfl rfl (by decide +kernel) ?s15_20) (DD.all_cons' (DD.SubF.of rfl rfl (by decide +kernel) ?s15_21) (DD.all_cons' (DD.SubF.of rfl rfl (by decide +kernel) ?s15_22) (DD.all_cons' (DD.SubF.of rfl rfl (by decide +kernel) ?s15_23) (DD.all_cons' (DD.SubF.of rfl rfl (by decide +kernel) ?s15_24) (DD.all_cons' (DD.SubF.of rfl rfl (by decide +kernel) ?s15_25) (DD.all_cons' (DD.SubF.of rfl rfl (by decide +kernel) ?s15_26) DD.all_nil')))))))))))))))))))))))); (case s15_2 => k_is); (case s15_3 => k_is); (case s15_4 => k_is); (case s15_5 => k_is); (case s15_6 => k_is); (case s15_7 => k_is); (case s15_8 => k_is); (case s15_9 => k_is); (case s15_10 => k_is); (case s15_11 => k_is); (case s15_12 => k_is); (case s15_13 => k_is); (case s15_14 => k_is); (case s15_16 => k_is); (case s15_17 => k_is); (case s15_18 => k_is); (case s15_19 => k_is); (case s15_20 => k_is); (case s15_21 => k_is); (case s15_22 => k_is); (case s15_23 => k_is); (case s15_24 => k_is); (case s15_25 => k_is); (case s15_26 => k_is)))
      (case sb16 => (refine' (DD.all_cons' (DD.SubF.of rfl rfl (by decide +kernel) ?s16_2) (DD.all_cons' (DD.SubF.of rfl rfl (by decide +kernel) ?s16_3) (DD.all_cons' (DD.SubF.of rfl rfl (by decide +kernel) ?s16_4) (DD.all_cons' (DD.SubF.of rfl rfl (by decide +kernel) ?s16_5) (DD.all_cons' (DD.SubF.of rfl rfl (by decide +kernel) ?s16_6) (DD.all_cons' (DD.SubF.of rfl rfl (by decide +kernel) ?s16_7) (DD.all_cons' (DD.SubF.of rfl rfl (by decide +kernel) ?s16_8) (DD.all_cons' (DD.SubF.of rfl rfl (by decide +kernel) ?s16_9) (DD.all_cons' (DD.SubF.of rfl rfl (by decide +kernel) ?s16_10) (DD.all_cons' (DD.SubF.of rfl rfl (by decide +kernel) ?s16_11) (DD.all_cons' (DD.SubF.of rfl rfl (by decide +kernel) ?s16_12) (DD.all_cons' (DD.SubF.of rfl rfl (by decide +kernel) ?s16_13) (DD.all_cons' (DD.SubF.of rfl rfl (by decide +kernel) ?s16_14) (DD.all_cons' (DD.SubF.of rfl rfl (by decide +kernel) ?s16_15) (DD.all_cons' (DD.SubF.of rfl rfl (by decide +kernel) ?s16_17) (DD.all_cons' (DD.SubF.of rfl rfl (by decide +kernel) ?s16_18) (DD.all_cons' (DD.SubF.of rfl rfl (by decide +kernel) ?s16_19) (DD.all_cons' (DD.SubF.of rfl rfl (by decide +kernel) ?s16_20) (DD.all_cons' (DD.SubF.of rfl rfl (by decide +kernel) ?s16_21) (DD.all_cons' (DD.SubF.of rfl rfl (by decide +kernel) ?s16_22) (DD.all_cons' (DD.SubF.of rfl rfl (by decide +kernel) ?s16_23) (DD.all_cons' (DD.SubF.of rfl rfl (by decide +kernel) ?s16_24) (DD.all_cons' (DD.SubF.of rfl rfl (by decide +kernel) ?s16_25) (DD.all_cons' (DD.SubF.of rfl rfl (by decide +kernel) ?s16_26) DD.all_nil')))))))))))))))))))))))); (case s16_2 => k_is); (case s16_3 => k_is); (case s16_4 => k_is); (case s16_5 => k_is); (case s16_6 => k_is); (case s16_7 => k_is); (case s16_8 => k_is); (case s16_9 => k_is); (case s16_10 => k_is); (case s16_11 => k_is); (case s16_12 => k_is); (case s16_13 => k_is); (case s16_14 => k_is); (case s16_15 => k_is); (case s16_17 => k_is); (case s16_18 => k_is); (case s16_19 => k_is); (case s16_20 => k_is); (case s16_21 => k_is); (case s16_22 => k_is); (case s16_23 => k_is); (case s16_24 => k_is); (case s16_25 => k_is); (case s16_26 => k_is)))
      (case sb17 => (refine' (DD.all_cons' (DD.SubF.of rfl rfl (by decide +kernel) ?s17_2) (DD.all_cons' (DD.SubF.of rfl rfl (by decide +kernel) ?s17_3) (DD.all_cons' (DD.SubF.of rfl rfl (by decide +kernel) ?s17_4) (DD.all_cons' (DD.SubF.of rfl rfl (by decide +kernel) ?s17_5) (DD.all_cons' (DD.SubF.of rfl rfl (by decide +kernel) ?s17_6) (DD.all_cons' (DD.SubF.of rfl rfl (by decide +kernel) ?s17_7) (DD.all_cons' (DD.SubF.of rfl rfl (by decide +kernel) ?s17_8) (DD.all_cons' (DD.SubF.of rfl rfl (by decide +kernel) ?s17_9) (DD.all_cons' (DD.SubF.of rfl rfl (by decide +kernel) ?s17_10) (DD.all_cons' (DD.SubF.of rfl rfl (by decide +kernel) ?s17_11) (DD.all_cons' (DD.SubF.of rfl rfl (by decide +kernel) ?s17_12) (DD.all_cons' (DD.SubF.of rfl rfl (by decide +kernel) ?s17_13) (DD.all_cons' (DD.SubF.of rfl rfl (by decide +kernel) ?s17_14) (DD.all_cons' (DD.SubF.of rfl rfl (by decide +kernel) ?s17_15) (DD.all_cons' (DD.SubF.of rfl rfl (by decide +kernel) ?s17_16) (DD.all_cons' (DD.SubF.of rfl rfl (by decide +kernel) ?s17_18) (DD.all_cons' (DD.SubF.of rfl rfl (by decide +kernel) ?s17_19) (DD.all_cons' (DD.SubF.of rfl rfl (by decide +kernel) ?s17_20) (DD.all_cons' (DD.SubF.of rfl rfl (by decide +kernel) ?s17_21) (DD.all_cons' (DD.SubF.of rfl rfl (by decide +kernel) ?s17_22) (DD.all_cons' (DD.SubF.of rfl rfl (by decide +kernel) ?s17_23) (DD.all_cons' (DD.SubF.of rfl rfl (by decide +kernel) ?s17_24) (DD.all_cons' (DD.SubF.of rfl rfl (by decide +kernel) ?s17_25) (DD.all_cons' (DD.SubF.of rfl rfl (by decide +kernel) ?s17_26) DD.all_nil')))))))))))))))))))))))); (case s17_2 => k_is); (case s17_3 => k_is); (case s17_4 => k_is); (case s17_5 => k_is); (case s17_6 => k_is); (case s17_7 => k_is); (case s17_8 => k_is); (case s17_9 => k_is); (case s17_10 => k_is); (case s17_11 => k_is); (case s17_12 => k_is); (case s17_13 => k_is); (case s17_14 => k_is); (case s17_15 => k_is); (case s17_16 => k_is); (case s17_18 => k_is); (case s17_19 => k_is); (case s17_20 => k_is); (case s17_21 => k_is); (case s17_22 => k_is); (case s17_23 => k_is); (case s17_24 => k_is); (case s17_25 => k_is); (case s17_26 => k_is)))
      (case sb18 => (refine' (DD.all_cons' (DD.SubF.of rfl rfl (by decide +kernel) ?s18_2) (DD.all_cons' (DD.SubF.of rfl rfl (by decide +kernel) ?s18_3) (DD.all_cons' (DD.SubF.of rfl rfl (by decide +kernel) ?s18_4) (DD.all_cons' (DD.SubF.of rfl rfl (by decide +kernel) ?s18_5) (DD.all_cons' (DD.SubF.of rfl rfl (by decide +kernel) ?s18_6) (DD.all_cons' (DD.SubF.of rfl rfl (by decide +kernel) ?s18_7) (DD.all_cons' (DD.SubF.of rfl rfl (by decide +kernel) ?s18_8) (DD.all_cons' (DD.SubF.of rfl rfl (by decide +kernel) ?s18_9) (DD.all_cons' (DD.SubF.of rfl rfl (by decide +kernel) ?s18_10) (DD.all_cons' (DD.SubF.of rfl rfl (by decide +kernel) ?s18_11) (DD.all_cons' (DD.SubF.of rfl rfl (by decide +kernel) ?s18_12) (DD.all_cons' (DD.SubF.of rfl rfl (by decide +kernel) ?s18_13) (DD.all_cons' (DD.SubF.of rfl rfl (by decide +kernel) ?s18_14) (DD.all_cons' (DD.SubF.of rfl rfl (by decide +kernel) ?s18_15) (DD.all_cons' (DD.SubF.of rfl rfl (by decide +kernel) ?s18_16) (DD.all_cons' (DD.SubF.of rfl rfl (by decide +kernel) ?s18_17) (DD.all_cons' (DD.SubF.of rfl rfl (by decide +kernel) ?s18_19) (DD.all_cons' (DD.SubF.of rfl rfl (by decide +kernel) ?s18_20) (DD.all_cons' (DD.SubF.of rfl rfl (by decide +kernel) ?s18_21) (DD.all_cons' (DD.SubF.of rfl rfl (by decide +kernel) ?s18_22) (DD.all_cons' (DD.SubF.of rfl rfl (by decide +kernel) ?s18_23) (DD.all_cons' (DD.SubF.of rfl rfl (by decide +kernel) ?s18_24) (DD.all_cons' (DD.SubF.of rfl rfl (by decide +kernel) ?s18_25) (DD.all_cons' (DD.SubF.of rfl rfl (by decide +kernel) ?s18_26) DD.all_nil')))))))))))))))))))))))); (case s18_2 => k_is); (case s18_3 => k_is); (case s18_4 => k_is); (case s18_5 => k_is); (case s18_6 => k_is); (case s18_7 => k_is); (case s18_8 => k_is); (case s18_9 => k_is); (case s18_10 => k_is); (case s18_11 => k_is); (case s18_12 => k_is); (case s18_13 => k_is); (case s18_14 => k_is); (case s18_15 => k_is); (case s18_16 => k_is); (case s18_17 => k_is); (case s18_19 => k_is); (case s18_20 => k_is); (case s18_21 => k_is); (case s18_22 => k_is); (case s18_23 => k_is); (case s18_24 => k_is); (case s18_25 => k_is); (case s18_26 => k_is)))
      (case sb19 => (refine' (DD.all_cons' (DD.SubF.of rfl rfl (by decide +kernel) ?s19_2) (DD.all_cons' (DD.SubF.of rfl rfl (by decide +kernel) ?s19_3) (DD.all_cons' (DD.SubF.of rfl rfl (by decide +kernel) ?s19_4) (DD.all_cons' (DD.SubF.of rfl rfl (by decide +kernel) ?s19_5) (DD.all_cons' (DD.SubF.of rfl rfl (by decide +kernel) ?s19_6) (DD.all_cons' (DD.SubF.of rfl rfl (by decide +kernel) ?s19_7) (DD.all_cons' (DD.SubF.of rfl rfl (by decide +kernel) ?s19_8) (DD.all_cons' (DD.SubF.of rfl rfl (by decide +kernel) ?s19_9) (DD.all_cons' (DD.SubF.of rfl rfl (by decide +kernel) ?s19_10) (DD.all_cons' (DD.SubF.of rfl rfl (by decide +kernel) ?s19_11) (DD.all_cons' (DD.SubF.of rfl rfl (by decide +kernel) ?s19_12) (DD.all_cons' (DD.SubF.of rfl rfl (by decide +kernel) ?s19_13) (DD.all_cons' (DD.SubF.of rfl rfl (by decide +kernel) ?s19_14) (DD.all_cons' (DD.SubF.of rfl rfl (by decide +kernel) ?s19_15) (DD.all_cons' (DD.SubF.of rfl rfl (by decide +kernel) ?s19_16) (DD.all_cons' (DD.SubF.of rfl rfl (by decide +kernel) ?s19_17) (DD.all_cons' (DD.SubF.of rfl rfl (by decide +kernel) ?s19_18) (DD.all_cons' (DD.SubF.of rfl rfl (by decide +kernel) ?s19_20) (DD.all_cons' (DD.SubF.of rfl rfl (by decide +kernel) ?s19_21) (DD.all_cons' (DD.SubF.of rfl rfl (by decide +kernel) ?s19_22) (DD.all_cons' (DD.SubF.of rfl rfl (by decide +kernel) ?s19_23) (DD.all_cons' (DD.SubF.of rfl rfl (by decide +kernel) ?s19_24) (DD.all_cons' (DD.SubF.of rfl rfl (by decide +kernel) ?s19_25) (DD.all_cons' (DD.SubF.of rfl rfl (by decide +kernel) ?s19_26) DD.all_nil')))))))))))))))))))))))); (case s19_2 => k_is); (case s19_3 => k_is); (case s19_4 => k_is); (case s19_5 => k_is); (case s19_6 => k_is); (case s19_7 => k_is); (case s19_8 => k_is); (case s19_9 => k_is); (case s19_10 => k_is); (case s19_11 => k_is); (case s19_12 => k_is); (case s19_13 => k_is); (case s19_14 => k_is); (case s19_15 => k_is); (case s19_16 => k_is); (case s19_17 => k_is); (case s19_18 => k_is); (case s19_20 => k_is); (case s19_21 => k_is); (case s19_22 => k_is); (case s19_23 => k_is); (case s19_24 => k_is); (case s19_25 => k_is); (case s19_26 => k_is)))
      (case sb20 => (refine' (DD.all_cons' (DD.SubF.of rfl rfl (by decide +kernel) ?s20_2) (DD.all_cons' (DD.SubF.of rfl rfl (by decide +kernel) ?s20_3) (DD.all_cons' (DD.SubF.of rfl rfl (by decide +kernel) ?s20_4) (DD.all_cons' (DD.SubF.of rfl rfl (by decide +kernel) ?s20_5) (DD.all_cons' (DD.SubF.of rfl rfl (by decide +kernel) ?s20_6) (DD.all_cons' (DD.SubF.of rfl rfl (by decide +kernel) ?s20_7) (DD.all_cons' (DD.SubF.of rfl rfl (by decide +kernel) ?s20_8) (DD.all_cons' (DD.SubF.of rfl rfl (by decide +kernel) ?s20_9) (DD.all_cons' (DD.SubF.of rfl rfl (by decide +kernel) ?s20_10) (DD.all_cons' (DD.SubF.of rfl rfl (by decide +kernel) ?s20_11) (DD.all_cons' (DD.SubF.of rfl rfl (by decide +kernel) ?s20_12) (DD.all_cons' (DD.SubF.of rfl rfl (by decide +kernel) ?s20_13) (DD.all_cons' (DD.SubF.of rfl rfl (by decide +kernel) ?s20_14) (DD.all_cons' (DD.SubF.of rfl rfl (by decide +kernel) ?s20_15) (DD.all_cons' (DD.SubF.of rfl rfl (by decide +kernel) ?s20_16) (DD.all_cons' (DD.SubF.of rfl rfl (by decide +kernel) ?s20_17) (DD.all_cons' (DD.SubF.of rfl rfl (by decide +kernel) ?s20_18) (DD.all_cons' (DD.SubF.of rfl rfl (by decide +kernel) ?s20_19) (DD.all_cons' (DD.SubF.of rfl rfl (by decide +kernel) ?s20_21) (DD.all_cons' (DD.SubF.of rfl rfl (by decide +kernel) ?s20_22) (DD.all_cons' (DD.SubF.of rfl rfl (by decide +kernel) ?s20_23) (DD.all_cons' (DD.SubF.of rfl rfl (by decide +kernel) ?s20_24) (DD.all_cons' (DD.SubF.of rfl rfl (by decide +kernel) ?s20_25) (DD.all_cons' (DD.SubF.of rfl rfl (by decide +kernel) ?s20_26) DD.all_nil')))))))))))))))))))))))); (case s20_2 => k_is); (case s20_3 => k_is); (case s20_4 => k_is); (case s20_5 => k_is); (case s20_6 => k_is); (case s20_7 => k_is); (case s20_8 => k_is); (case s20_9 => k_is); (case s20_10 => k_is); (case s20_11 => k_is); (case s20_12 => k_is); (case s20_13 => k_is); (case s20_14 => k_is); (case s20_15 => k_is); (case s20_16 => k_is); (case s20_17 => k_is); (case s20_18 => k_is); (case s20_19 => k_is); (case s20_21 => k_is); (case s20_22 => k_is); (case s20_23 => k_is); (case s20_24 => k_is); (case s20_25 => k_is); (case s20_26 => k_is)))
      (case sb21 => (refine' (DD.all_cons' (DD.SubF.of rfl rfl (by decide +kernel) ?s21_2) (DD.all_cons' (DD.SubF.of rfl rfl (by decide +kernel) ?s21_3) (DD.all_cons' (DD.SubF.of rfl rfl (by decide +kernel) ?s21_4) (DD.all_cons' (DD.SubF.of rfl rfl (by decide +kernel) ?s21_5) (DD.all_cons' (DD.SubF.of rfl rfl (by decide +kernel) ?s21_6) (DD.all_cons' (DD.SubF.of rfl rfl (by decide +kernel) ?s21_7) (DD.all_cons' (DD.SubF.of rfl rfl (by decide +kernel) ?s21_8) (DD.all_cons' (DD.SubF.of rfl rfl (by decide +kernel) ?s21_9) (DD.all_cons' (DD.SubF.of rfl rfl (by decide +kernel) ?s21_10) (DD.all_cons' (DD.SubF.of rfl rfl (by decide +kernel) ?s21_11) (DD.all_cons' (DD.SubF.of rfl rfl (by decide +kernel) ?s21_12) (DD.all_cons' (DD.SubF.of rfl rfl (by decide +kernel) ?s21_13) (DD.all_cons' (DD.SubF.of rfl rfl (by decide +kernel) ?s21_14) (DD.all_cons' (DD.SubF.of rfl rfl (by decide +kernel) ?s21_15) (DD.all_cons' (DD.SubF.of rfl rfl (by decide +kernel) ?s21_16) (DD.all_cons' (DD.SubF.of rfl rfl (by decide +kernel) ?s21_17) (DD.all_cons' (DD.SubF.of rfl rfl (by decide +kernel) ?s21_18) (DD.all_cons' (DD.SubF.of rfl rfl (by decide +kernel) ?s21_19) (DD.all_cons' (DD.SubF.of rfl rfl (by decide +kernel) ?s21_20) (DD.all_cons' (DD.SubF.of rfl rfl (by decide +kernel) ?s21_22) (DD.all_cons' (DD.SubF.of rfl rfl (by decide +kernel) ?s21_23) (DD.all_cons' (DD.SubF.of rfl rfl (by decide +kernel) ?s21_24) (DD.all_cons' (DD.SubF.of rfl rfl (by decide +kernel) ?s21_25) (DD.all_cons' (DD.SubF.of rfl rfl (by decide +kernel) ?s21_26) DD.all_nil')))))))))))))))))))))))); (case s21_2 => k_is); (case s21_3 => k_is); (case s21_4 => k_is); (case s21_5 => k_is); (case s21_6 => k_is); (case s21_7 => k_is); (case s21_8 => k_is); (case s21_9 => k_is); (case s21_10 => k_is); (case s21_11 => k_is); (case s21_12 => k_is); (case s21_13 => k_is); (case s21_14 => k_is); (case s21_15 => k_is); (case s21_16 => k_is); (case s21_17 => k_is); (case s21_18 => k_is); (case s21_19 => k_is); (case s21_20 => k_is); (case s21_22 => k_is); (case s21_23 => k_is); (case s21_24 => k_is); (case s21_25 => k_is); (case s21_26 => k_is)))
      (case sb22 => (refine' (DD.all_cons' (DD.SubF.of rfl rfl (by decide +kernel) ?s22_2) (DD.all_cons' (DD.SubF.of rfl rfl (by decide +kernel) ?s22_3) (DD.all_cons' (DD.SubF.of rfl rfl (by decide +kernel) ?s22_4) (DD.all_cons' (DD.SubF.of rfl rfl (by decide +kernel) ?s22_5) (DD.all_cons' (DD.SubF.of rfl rfl (by decide +kernel) ?s22_6) (DD.all_cons' (DD.SubF.of rfl rfl (by decide +kernel) ?s22_7) (DD.all_cons' (DD.SubF.of rfl rfl (by decide +kernel) ?s22_8) (DD.all_cons' (DD.SubF.of rfl rfl (by decide +kernel) ?s22_9) (DD.all_cons' (DD.SubF.of rfl rfl (by decide +kernel) ?s22_10) (DD.all_cons' (DD.SubF.of rfl rfl (by decide +kernel) ?s22_11) (DD.all_cons' (DD.SubF.of rfl rfl (by decide +kernel) ?s22_12) (DD.all_cons' (DD.SubF.of rfl rfl (by decide +kernel) ?s22_13) (DD.all_cons' (DD.SubF.of rfl rfl (by decide +kernel) ?s22_14) (DD.all_cons' (DD.SubF.of rfl rfl (by decide +kernel) ?s22_15) (DD.all_cons' (DD.SubF.of rfl rfl (by decide +kernel) ?s22_16) (DD.all_cons' (DD.SubF.of rfl rfl (by decide +kernel) ?s22_17) (DD.all_cons' (DD.SubF.of rfl rfl (by decide +kernel) ?s22_18) (DD.all_cons' (DD.SubF.of rfl rfl (by decide +kernel) ?s22_19) (DD.all_cons' (DD.SubF.of rfl rfl (by decide +kernel) ?s22_20) (DD.all_cons' (DD.SubF.of rfl rfl (by decide +kernel) ?s22_21) (DD.all_cons' (DD.SubF.of rfl rfl (by decide +kernel) ?s22_23) (DD.all_cons' (DD.SubF.of rfl rfl (by decide +kernel) ?s22_24) (DD.all_cons' (DD.SubF.of rfl rfl (by decide +kernel) ?s22_25) (DD.all_cons' (DD.SubF.of rfl rfl (by decide +kernel) ?s22_26) DD.all_nil')))))))))))))))))))))))); (case s22_2 => k_is); (case s22_3 => k_is); (case s22_4 => k_is); (case s22_5 => k_is); (case s22_6 => k_is); (case s22_7 => k_is); (case s22_8 => k_is); (case s22_9 => k_is); (case s22_10 => k_is); (case s22_11 => k_is); (case s22_12 => k_is); (case s22_13 => k_is); (case s22_14 => k_is); (case s22_15 => k_is); (case s22_16 => k_is); (case s22_17 => k_is); (case s22_18 => k_is); (case s22_19 => k_is); (case s22_20 => k_is); (case s22_21 => k_is); (case s22_23 => k_is); (case s22_24 => k_is); (case s22_25 => k_is); (case s22_26 => k_is)))
      (case sb23 => (refine' (DD.all_cons' (DD.SubF.of rfl rfl (by decide +kernel) ?s23_2) (DD.all_cons' (DD.SubF.of rfl rfl (by decide +kernel) ?s23_3) (DD.all_cons' (DD.SubF.of rfl rfl (by decide +kernel) ?s23_4) (DD.all_cons' (DD.SubF.of rfl rfl (by decide +kernel) ?s23_5) (DD.all_cons' (DD.SubF.of rfl rfl (by decide +kernel) ?s23_6) (DD.all_cons' (DD.SubF.of rfl rfl (by decide +kernel) ?s23_7) (DD.all_cons' (DD.SubF.of rfl rfl (by decide +kernel) ?s23_8) (DD.all_cons' (DD.SubF.of rfl rfl (by decide +kernel) ?s23_9) (DD.all_cons' (DD.SubF.of rfl rfl (by decide +kernel) ?s23_10) (DD.all_cons' (DD.SubF.of rfl rfl (by decide +kernel) ?s23_11) (DD.all_cons' (DD.SubF.of rfl rfl (by decide +kernel) ?s23_12) (DD.all_cons' (DD.SubF.of rfl rfl (by decide +kernel) ?s23_13) (DD.all_cons' (DD.SubF.of rfl rfl (by decide +kernel) ?s23_14) (DD.all_cons' (DD.SubF.of rfl rfl (by decide +kernel) ?s23_15) (DD.all_cons' (DD.SubF.of rfl rfl (by decide +kernel) ?s23_16) (DD.all_cons' (DD.SubF.of rfl rfl (by decide +kernel) ?s23_17) (DD.all_cons' (DD.SubF.of rfl rfl (by decide +kernel) ?s23_18) (DD.all_cons' (DD.SubF.of rfl rfl (by decide +kernel) ?s23_19) (DD.all_cons' (DD.SubF.of rfl rfl (by decide +kernel) ?s23_20) (DD.all_cons' (DD.SubF.of rfl rfl (by decide +kernel) ?s23_21) (DD.all_cons' (DD.SubF.of rfl rfl (by decide +kernel) ?s23_22) (DD.all_cons' (DD.SubF.of rfl rfl (by decide +kernel) ?s23_24) (DD.all_cons' (DD.SubF.of rfl rfl (by decide +kernel) ?s23_25) (DD.all_cons' (DD.SubF.of rfl rfl (by decide +kernel) ?s23_26) DD.all_nil')))))))))))))))))))))))); (case s23_2 => k_is); (case s23_3 => k_is); (case s23_4 => k_is); (case s23_5 => k_is); (case s23_6 => k_is); (case s23_7 => k_is); (case s23_8 => k_is); (case s23_9 => k_is); (case s23_10 => k_is); (case s23_11 => k_is); (case s23_12 => k_is); (case s23_13 => k_is); (case s23_14 => k_is); (case s23_15 => k_is); (case s23_16 => k_is); (case s23_17 => k_is); (case s23_18 => k_is); (case s23_19 => k_is); (case s23_20 => k_is); (case s23_21 => k_is); (case s23_22 => k_is); (case s23_24 => k_is); (case s23_25 => k_is); (case s23_26 => k_is)))
      (case sb24 => (refine' (DD.all_cons' (DD.SubF.of rfl rfl (by decide +kernel) ?s24_2) (DD.all_cons' (DD.SubF.of rfl rfl (by decide +kernel) ?s24_3) (DD.all_cons' (DD.SubF.of rfl rfl (by decide +kernel) ?s24_4) (DD.all_cons' (DD.SubF.of rfl rfl (by decide +kernel) ?s24_5) (DD.all_cons' (DD.SubF.of rfl rfl (by decide +kernel) ?s24_6) (DD.all_cons' (DD.SubF.of rfl rfl (by decide +kernel) ?s24_7) (DD.all_cons' (DD.SubF.of rfl rfl (by decide +kernel) ?s24_8) (DD.all_cons' (DD.SubF.of rfl rfl (by decide +kernel) ?s24_9) (DD.all_cons' (DD.SubF.of rfl rfl (by decide +kernel) ?s24_10) (DD.all_cons' (DD.SubF.of rfl rfl (by decide +kernel) ?s24_11) (DD.all_cons' (DD.SubF.of rfl rfl (by decide +kernel) ?s24_12) (DD.all_cons' (DD.SubF.of rfl rfl (by decide +kernel) ?s24_13) (DD.all_cons' (DD.SubF.of rfl rfl (by decide +kernel) ?s24_14) (DD.all_cons' (DD.SubF.of rfl rfl (by decide +kernel) ?s24_15) (DD.all_cons' (DD.SubF.of rfl rfl (by decide +kernel) ?s24_16) (DD.all_cons' (DD.SubF.of rfl rfl (by decide +kernel) ?s24_17) (DD.all_cons' (DD.SubF.of rfl rfl (by decide +kernel) ?s24_18) (DD.all_cons' (DD.SubF.of rfl rfl (by decide +kernel) ?s24_19) (DD.all_cons' (DD.SubF.of rfl rfl (by decide +kernel) ?s24_20) (DD.all_cons' (DD.SubF.of rfl rfl (by decide +kernel) ?s24_21) (DD.all_cons' (DD.SubF.of rfl rfl (by decide +kernel) ?s24_22) (DD.all_cons' (DD.SubF.of rfl rfl (by decide +kernel) ?s24_23) (DD.all_cons' (DD.SubF.of rfl rfl (by decide +kernel) ?s24_25) (DD.all_cons' (DD.SubF.of rfl rfl (by decide +kernel) ?s24_26) DD.all_nil')))))))))))))))))))))))); (case s24_2 => k_is); (case s24_3 => k_is); (case s24_4 => k_is); (case s24_5 => k_is); (case s24_6 => k_is); (case s24_7 => k_is); (case s24_8 => k_is); (case s24_9 => k_is); (case s24_10 => k_is); (case s24_11 => k_is); (case s24_12 => k_is); (case s24_13 => k_is); (case s24_14 => k_is); (case s24_15 => k_is); (case s24_16 => k_is); (case s24_17 => k_is); (case s24_18 => k_is); (case s24_19 => k_is); (case s24_20 => k_is); (case s24_21 => k_is); (case s24_22 => k_is); (case s24_23 => k_is); (case s24_25 => k_is); (case s24_26 => k_is)))
      (case sb25 => (refine' (DD.all_cons' (DD.SubF.of rfl rfl (by decide +kernel) ?s25_2) (DD.all_cons' (DD.SubF.of rfl rfl (by decide +kernel) ?s25_3) (DD.all_cons' (DD.SubF.of rfl rfl (by decide +kernel) ?s25_4) (DD.all_cons' (DD.SubF.of rfl rfl (by decide +kernel) ?s25_5) (DD.all_cons' (DD.SubF.of rfl rfl (by decide +kernel) ?s25_6) (DD.all_cons' (DD.SubF.of rfl rfl (by decide +kernel) ?s25_7) (DD.all_cons' (DD.SubF.of rfl rfl (by decide +kernel) ?s25_8) (DD.all_cons' (DD.SubF.of rfl rfl (by decide +kernel) ?s25_9) (DD.all_cons' (DD.SubF.of rfl rfl (by decide +kernel) ?s25_10) (DD.all_cons' (DD.SubF.of rfl rfl (by decide +kernel) ?s25_11) (DD.all_cons' (DD.SubF.of rfl rfl (by decide +kernel) ?s25_12) (DD.all_cons' (DD.SubF.of rfl rfl (by decide +kernel) ?s25_13) (DD.all_cons' (DD.SubF.of rfl rfl (by decide +kernel) ?s25_14) (DD.all_cons' (DD.SubF.of rfl rfl (by decide +kernel) ?s25_15) (DD.all_cons' (DD.SubF.of rfl rfl (by decide +kernel) ?s25_16) (DD.all_cons' (DD.SubF.of rfl rfl (by decide +kernel) ?s25_17) (DD.all_cons' (DD.SubF.of rfl rfl (by decide +kernel) ?s25_18) (DD.all_cons' (DD.SubF.of rfl rfl (by decide +kernel) ?s25_19) (DD.all_cons' (DD.SubF.of rfl rfl (by decide +kernel) ?s25_20) (DD.all_cons' (DD.SubF.of rfl rfl (by decide +kernel) ?s25_21) (DD.all_cons' (DD.SubF.of rfl rfl (by decide +kernel) ?s25_22) (DD.all_cons' (DD.SubF.of rfl rfl (by decide +kernel) ?s25_23) (DD.all_cons' (DD.SubF.of rfl rfl (by decide +kernel) ?s25_24) (DD.all_cons' (DD.SubF.of rfl rfl (by decide +kernel) ?s25_26) DD.all_nil')))))))))))))))))))))))); (case s25_2 => k_is); (case s25_3 => k_is); (case s25_4 => k_is); (case s25_5 => k_is); (case s25_6 => k_is); (case s25_7 => k_is); (case s25_8 => k_is); (case s25_9 => k_is); (case s25_10 => k_is); (case s25_11 => k_is); (case s25_12 => k_is); (case s25_13 => k_is); (case s25_14 => k_is); (case s25_15 => k_is); (case s25_16 => k_is); (case s25_17 => k_is); (case s25_18 => k_is); (case s25_19 => k_is); (case s25_20 => k_is); (case s25_21 => k_is); (case s25_22 => k_is); (case s25_23 => k_is); (case s25_24 => k_is); (case s25_26 => k_is)))
      (case sb26 => (refine' (DD.all_cons' (DD.SubF.of rfl rfl (by decide +kernel) ?s26_2) (DD.all_cons' (DD.SubF.of rfl rfl (by decide +kernel) ?s26_3) (DD.all_cons' (DD.SubF.of rfl rfl (by decide +kernel) ?s26_4) (DD.all_cons' (DD.SubF.of rfl rfl (by decide +kernel) ?s26_5) (DD.all_cons' (DD.SubF.of rfl rfl (by decide +kernel) ?s26_6) (DD.all_cons' (DD.SubF.of rfl rfl (by decide +kernel) ?s26_7) (DD.all_cons' (DD.SubF.of rfl rfl (by decide +kernel) ?s26_8) (DD.all_cons' (DD.SubF.of rfl rfl (by decide +kernel) ?s26_9) (DD.all_cons' (DD.SubF.of rfl rfl (by decide +kernel) ?s26_10) (DD.all_cons' (DD.SubF.of rfl rfl (by decide +kernel) ?s26_11) (DD.all_cons' (DD.SubF.of rfl rfl (by decide +kernel) ?s26_12) (DD.all_cons' (DD.SubF.of rfl rfl (by decide +kernel) ?s26_13) (DD.all_cons' (DD.SubF.of rfl rfl (by decide +kernel) ?s26_14) (DD.all_cons' (DD.SubF.of rfl rfl (by decide +kernel) ?s26_15) (DD.all_cons' (DD.SubF.of rfl rfl (by decide +kernel) ?s26_16) (DD.all_cons' (DD.SubF.of rfl rfl (by decide +kernel) ?s26_17) (DD.all_cons' (DD.SubF.of rfl rfl (by decide +kernel) ?s26_18) (DD.all_cons' (DD.SubF.of rfl rfl (by decide +kernel) ?s26_19) (DD.all_cons' (DD.SubF.of rfl rfl (by decide +kernel) ?s26_20) (DD.all_cons' (DD.SubF.of rfl rfl (by decide +kernel) ?s26_21) (DD.all_cons' (DD.SubF.of rfl rfl (by decide +kernel) ?s26_22) (DD.all_cons' (DD.SubF.of rfl rfl (by decide +kernel) ?s26_23) (DD.all_cons' (DD.SubF.of rfl rfl (by decide +kernel) ?s26_24) (DD.all_cons' (DD.SubF.of rfl rfl (by decide +kernel) ?s26_25) DD.all_nil')))))))))))))))))))))))); (case s26_2 => k_is); (case s26_3 => k_is); (case s26_4 => k_is); (case s26_5 => k_is); (case s26_6 => k_is); (case s26_7 => k_is); (case s26_8 => k_is); (case s26_9 => k_is); (case s26_10 => k_is); (case s26_11 => k_is); (case s26_12 => k_is); (case s26_13 => k_is); (case s26_14 => k_is); (case s26_15 => k_is); (case s26_16 => k_is); (case s26_17 => k_is); (case s26_18 => k_is); (case s26_19 => k_is); (case s26_20 => k_is); (case s26_21 => k_is); (case s26_22 => k_is); (case s26_23 => k_is); (case s26_24 => k_is); (case s26_25 => k_is)))
      (case cls0 => (refine' DD.cls_of rfl ?pg ?hd ?po ?sa; (case pg => k_is); (case hd => k_is); (case po => k_is); (case sa => k_is)))
      (case no0_bounds => (refine' DD.no_of rfl ?a; (case a => k_is)))
      (case no0_facts => (refine' DD.no_of rfl ?a; (case a => k_is)))
      (case no0_marks => (refine' DD.no_of rfl ?a; (case a => k_is)))
      (case no0_nodes => (refine' DD.no_of rfl ?a; (case a => k_is)))
      (case no0_takes => (refine' DD.no_of rfl ?a; (case a => k_is)))
    )
end
namespace HeadCut
open PySem PySem.W PyProof.Rows HeadRun
def as0 : List Nat := [2, 3, 15, 17, 18, 20, 21, 22, 24, 25, 27, 28, 29, 31, 32, 34, 35, 36, 38, 39, 41, 42, 43, 46, 47, 48, 51, 52, 53, 55, 56, 58, 59, 60, 62, 63, 65, 66, 67, 74, 75, 76, 77, 80, 87, 89, 90, 92, 93, 94, 95, 96, 99, 106, 108, 109, 111, 112, 113, 114, 115, 118, 125, 127, 128, 130, 131, 132, 133, 134, 137, 144, 146, 147, 149, 150, 151, 152, 153, 156, 163, 165, 166, 168, 169, 170, 171, 172, 175, 182, 183, 184, 187, 194, 195, 196, 199, 206, 208, 209, 211, 212, 213, 214, 215, 218, 225, 227, 228, 230, 231, 232, 233, 234, 237, 244, 246, 247, 249, 250, 251, 252, 253, 256, 263, 265, 266, 268, 269, 270, 271, 272, 275, 282, 284, 285, 287, 288, 289, 290, 291, 294, 301, 302, 303, 306, 313, 314, 315, 318, 325, 326, 327, 330, 337, 339, 340, 342, 343, 344, 345, 346, 349, 356, 357, 358, 361, 368, 370, 371, 373, 374, 375, 376, 377, 380, 387, 389, 390, 392, 393, 394, 395, 396, 399, 406, 408, 409, 411, 412, 413, 414, 415, 418, 425, 427, 428, 430, 431, 432, 433, 434, 437, 444, 446, 447, 449, 450, 451, 452, 453, 456, 463, 464, 465, 468, 475, 477, 478, 480, 481, 482, 483, 484, 487, 494, 496, 497, 499, 500, 501, 502, 503, 506, 508, 509, 511, 512, 513, 516, 517, 518, 520, 521, 523, 524, 525, 527, 528, 530, 531, 532, 534, 535, 537, 538, 539, 542, 543, 544, 546, 547, 549, 550, 551, 554, 555, 556, 558, 559, 561, 562, 563, 565, 566, 568, 569, 570, 573, 574, 575, 577, 578, 580, 581, 582, 584, 585, 587, 588, 589, 591, 592, 594, 595, 596, 599, 600, 601, 604, 605, 606, 608, 609, 611, 612, 613, 615, 616, 618, 619, 620, 623, 624, 625, 628, 629, 630, 632, 633, 635, 636, 644, 645, 646, 648, 649, 651, 652, 653, 655, 656, 658, 659, 660, 661, 662, 663, 665, 666, 668, 669, 670, 671, 673, 674, 676, 677, 678, 680, 681, 683, 684, 685, 687, 688, 690, 691, 692, 694, 695, 697, 698, 699, 701, 702, 704, 705, 706, 709, 710, 711, 713, 714, 716, 717, 718, 720, 721, 723, 724, 725, 727, 728, 730, 731, 732, 734, 735, 737, 738, 739, 741, 742, 744, 745, 746, 748, 749, 751, 752, 753, 754, 755, 756, 757, 760, 762, 763, 765, 766, 767, 769, 770, 772, 773, 774, 776, 777, 779, 780, 781, 783, 784, 786, 787, 788, 790, 791, 793, 794, 795, 797, 798, 800, 801, 802, 804, 805, 807, 808, 809, 811, 812, 814, 815, 816, 819, 820]
theorem lookC (w : World) (os : OsState) : (end0 w os).map (fun s => as0.map (getT s)) = some ((HeadCut.mk.heap_39 w.params).map fun x => some x.2) := by kernel_rfl
end HeadCut
local macro_rules | `(tactic| kernel_rfl) => `(tactic| ((with_reducible refine' HeadCut.join3 ?jA ?jB ?jC); (case jA => exact HeadCut.lookA _ _); (case jB => exact HeadCut.run _ _); (case jC => exact HeadCut.lookC _ _)))
open PySem PySem.W PyProof.Rows in
theorem PySem.Challenge.cw_unknowntakes_k00_error_classes_holds : PySem.Challenge.rw_unknowntakes_k00_error_classes.Holds := by
  w_on; o_law; o_headL (kHook HeadCut.mk.heap_39 HeadCut.as0 (fun _ => by kernel_rfl)); (case hw => w_witness2)
  k_fill
  refine K00.walk K00.math (l := PySem.Challenge.rw_unknowntakes_k00_error_classes) rfl rfl (fun w h Y => PySem.W.kIn_of Y) ?F
  case F =>
    intro w mg fa h KX G hmg
    refine' K00.fin KX G hmg ?aC0 ?aC1 ?aC2 ?aC3 ?aC4 ?aC5 ?aC6 ?aC7 ?aC8 ?aC9 ?aC10 ?aC11 ?aC12 ?aC13 ?aC14 ?aC15 ?aC16 ?aC17 ?aC18 ?aC19 ?aC20 ?aC21 ?aC22 ?aC23 ?aC24 ?aC25 ?aC26 ?a ?l ?c ?k ?T K00.math
    (case aC0 => k_is)
    (case aC1 => k_is)
    (case aC2 => k_is)
    (case aC3 => k_is)
    (case aC4 => k_is)
    (case aC5 => k_is)
    (case aC6 => k_is)
    (case aC7 => k_is)
    (case aC8 => k_is)
    (case aC9 => k_is)
    (case aC10 => k_is)
    (case aC11 => k_is)
    (case aC12 => k_is)
    (case aC13 => k_is)
    (case aC14 => k_is)
    (case aC15 => k_is)
    (case aC16 => k_is)
    (case aC17 => k_is)
    (case aC18 => k_is)
    (case aC19 => k_is)
    (case aC20 => k_is)
    (case aC21 => k_is)
    (case aC22 => k_is)
    (case aC23 => k_is)
    (case aC24 => k_is)
    (case aC25 => k_is)
    (case aC26 => k_is)
    (case a => k_is); (case l => k_is); (case c => k_is); (case k => k_is)
    (case T =>
      refine' K00.Txt.mk ?z_ValueError ?z_all ?z_bool ?z_enumerate ?z_int ?z_isinstance ?z_len ?z_min ?z_range ?z_str ?z_sum ?z_tuple ?z_zip ?c_LETTERS ?c_LONGEST ?c_NOUGHT ?c_ZERO ?d__law_raised_more ?d__law_raised_one ?d__law_marks ?d__law_way_right ?d_is_name ?d_is_mark_at ?d_is_integer ?d_is_fact ?d_check_sheet ?d_is_less ?d_summed ?d_lesser ?d_narrowed ?d_narrowed_by ?d_open_bounds ?d_number_of ?d_numbered ?d_first_ways ?d_way_sum ?d_better_way ?d_joined_way ?d_ways_by ?i_Sheet_3 ?i_Sheet_2 ?d__law_fields_right ?d__law_kept_right ?d_law ?c_BadDeed ?c_BadEdit ?c_BadFact ?c_BadFault ?c_BadMarks ?c_BadNumbers ?c_BadPairs ?c_BadPlace ?c_BadStep ?c_BadTakes ?c_BadText ?c_BadTracks ?c_BadTree ?c_Contradiction ?c_CouldGoWrong ?c_NameTaken ?c_NoBranch ?c_NoShape ?c_NoWatch ?c_NotRecording ?c_NotSure ?c_NothingToUndo ?c_TakesError ?c_UnknownName ?c_UnlikeMarks ?c_UnlikeTracks ?m0_BadNumbers ?m0_BadPairs ?m0_NoShape ?m0_NotRecording ?m0_NothingToUndo ?m0_TakesError ?m0_UnlikeMarks ?m0_UnlikeTracks ?i_BadDeed ?i_BadEdit ?i_BadFact ?i_BadFault ?i_BadMarks ?i_BadPlace ?i_BadStep ?i_BadTakes ?i_BadText ?i_BadTracks ?i_BadTree ?i_Contradiction ?i_CouldGoWrong ?i_NameTaken ?i_NoBranch ?i_NoWatch ?i_NotSure ?i_UnknownName ?ox2 ?ox3 ?ox4 ?ox5 ?ox6 ?ox9 ?ox10 ?ox11 ?ox12 ?ox13 ?ox14 ?ox15 ?ox16 ?ox17 ?ox18 ?ox20 ?ox22 ?ox24 ?xt1 ?xt2 ?xt3 ?xt4 ?xt5 ?xt6 ?xt7 ?xt8 ?xt9 ?xt10 ?xt11 ?xt12 ?xt13 ?xt14 ?xt15 ?xt16 ?xt17 ?xt18 ?xt19 ?xt20 ?xt21 ?xt22 ?xt23 ?xt24 ?xt25 ?xt26 ?bx1 ?xn2_index ?xn3_step ?xn4_index ?xn5_index ?xn6_index ?xn9_index ?xn10_step ?xn11_index ?xn12_line ?xn13_index ?xn14_index ?xn15_ring ?xn16_kind ?xn16_recording ?xn16_step ?xn17_name ?xn18_name ?xn20_name ?xn22_recording ?xn24_name ?xm1_1 ?xm2_1 ?xm3_1 ?xm4_1 ?xm5_1 ?xm6_1 ?xm7_1 ?xm8_1 ?xm9_1 ?xm10_1 ?xm11_1 ?xm12_1 ?xm13_1 ?xm14_1 ?xm15_1 ?xm16_1 ?xm17_1 ?xm18_1 ?xm19_1 ?xm20_1 ?xm21_1 ?xm22_1 ?xm23_1 ?xm24_1 ?xm25_1 ?xm26_1 ?tc2 ?tc3 ?tc4 ?tc5 ?tc6 ?tc7 ?tc8 ?tc9 ?tc10 ?tc11 ?tc12 ?tc13 ?tc14 ?tc15 ?tc16 ?tc17 ?tc18 ?tc19 ?tc20 ?tc21 ?tc22 ?tc23 ?tc24 ?tc25 ?tc26 ?kb1_ValueError ?kb2_ValueError ?kb3_ValueError ?kb4_ValueError ?kb5_ValueError ?kb6_ValueError ?kb7_ValueError ?kb8_ValueError ?kb9_ValueError ?kb10_ValueError ?kb11_ValueError ?kb12_ValueError ?kb13_ValueError ?kb14_ValueError ?kb15_ValueError ?kb16_ValueError ?kb17_ValueError ?kb18_ValueError ?kb19_ValueError ?kb20_ValueError ?kb21_ValueError ?kb22_ValueError ?kb23_ValueError ?kb24_ValueError ?kb25_ValueError ?kb26_ValueError ?sb1 ?sb2 ?sb3 ?sb4 ?sb5 ?sb6 ?sb7 ?sb8 ?sb9 ?sb10 ?sb11 ?sb12 ?sb13 ?sb14 ?sb15 ?sb16 ?sb17 ?sb18 ?sb19 ?sb20 ?sb21 ?sb22 ?sb23 ?sb24 ?sb25 ?sb26 ?cls0 ?no0_bounds ?no0_facts ?no0_marks ?no0_nodes ?no0_takes
      (case z_ValueError => (refine' PySem.W.mg_none_of KX G ?z; (case z => k_is)))
      (case z_all => (refine' PySem.W.mg_none_of KX G ?z; (case z => k_is)))
      (case z_bool => (refine' PySem.W.mg_none_of KX G ?z; (case z => k_is)))
      (case z_enumerate => (refine' PySem.W.mg_none_of KX G ?z; (case z => k_is)))
      (case z_int => (refine' PySem.W.mg_none_of KX G ?z; (case z => k_is)))
      (case z_isinstance => (refine' PySem.W.mg_none_of KX G ?z; (case z => k_is)))
      (case z_len => (refine' PySem.W.mg_none_of KX G ?z; (case z => k_is)))
      (case z_min => (refine' PySem.W.mg_none_of KX G ?z; (case z => k_is)))
      (case z_range => (refine' PySem.W.mg_none_of KX G ?z; (case z => k_is)))
      (case z_str => (refine' PySem.W.mg_none_of KX G ?z; (case z => k_is)))
      (case z_sum => (refine' PySem.W.mg_none_of KX G ?z; (case z => k_is)))
      (case z_tuple => (refine' PySem.W.mg_none_of KX G ?z; (case z => k_is)))
      (case z_zip => (refine' PySem.W.mg_none_of KX G ?z; (case z => k_is)))
      (case c_LETTERS => (refine' DD.Cst.str KX G ?z; (case z => k_is)))
      (case c_LONGEST => (refine' DD.Cst.int KX G ?z; (case z => k_is)))
      (case c_NOUGHT => (refine' DD.Cst.str KX G ?z; (case z => k_is)))
      (case c_ZERO => (refine' DD.Cst.int KX G ?z; (case z => k_is)))
      (case d__law_raised_more => (refine' DD.Def.mk' KX G (fun _ _ _ _ _ _ us hl => match us, hl with | [_], _ => rfl) ?a ?l ?c ?k; (case a => k_is); (case l => k_is); (case c => k_is); (case k => k_is)))
      (case d__law_raised_one => (refine' DD.Def.mk' KX G (fun _ _ _ _ _ _ us hl => match us, hl with | [_], _ => rfl) ?a ?l ?c ?k; (case a => k_is); (case l => k_is); (case c => k_is); (case k => k_is)))
      (case d__law_marks => (refine' DD.Def.mk' KX G (fun _ _ _ _ _ _ us hl => match us, hl with | [_], _ => rfl) ?a ?l ?c ?k; (case a => k_is); (case l => k_is); (case c => k_is); (case k => k_is)))
      (case d__law_way_right => (refine' DD.Def.mk' KX G (fun _ _ _ _ _ _ us hl => match us, hl with | [_, _], _ => rfl) ?a ?l ?c ?k; (case a => k_is); (case l => k_is); (case c => k_is); (case k => k_is)))
      (case d_is_name => (refine' DD.Def.mk' KX G (fun _ _ _ _ _ _ us hl => match us, hl with | [_], _ => rfl) ?a ?l ?c ?k; (case a => k_is); (case l => k_is); (case c => k_is); (case k => k_is)))
      (case d_is_mark_at => (refine' DD.Def.mk' KX G (fun _ _ _ _ _ _ us hl => match us, hl with | [_, _], _ => rfl) ?a ?l ?c ?k; (case a => k_is); (case l => k_is); (case c => k_is); (case k => k_is)))
      (case d_is_integer => (refine' DD.Def.mk' KX G (fun _ _ _ _ _ _ us hl => match us, hl with | [_], _ => rfl) ?a ?l ?c ?k; (case a => k_is); (case l => k_is); (case c => k_is); (case k => k_is)))
      (case d_is_fact => (refine' DD.Def.mk' KX G (fun _ _ _ _ _ _ us hl => match us, hl with | [_, _], _ => rfl) ?a ?l ?c ?k; (case a => k_is); (case l => k_is); (case c => k_is); (case k => k_is)))
      (case d_check_sheet => (refine' DD.Def.mk' KX G (fun _ _ _ _ _ _ us hl => match us, hl with | [_, _, _], _ => rfl) ?a ?l ?c ?k; (case a => k_is); (case l => k_is); (case c => k_is); (case k => k_is)))
      (case d_is_less => (refine' DD.Def.mk' KX G (fun _ _ _ _ _ _ us hl => match us, hl with | [_, _], _ => rfl) ?a ?l ?c ?k; (case a => k_is); (case l => k_is); (case c => k_is); (case k => k_is)))
      (case d_summed => (refine' DD.Def.mk' KX G (fun _ _ _ _ _ _ us hl => match us, hl with | [_, _], _ => rfl) ?a ?l ?c ?k; (case a => k_is); (case l => k_is); (case c => k_is); (case k => k_is)))
      (case d_lesser => (refine' DD.Def.mk' KX G (fun _ _ _ _ _ _ us hl => match us, hl with | [_, _], _ => rfl) ?a ?l ?c ?k; (case a => k_is); (case l => k_is); (case c => k_is); (case k => k_is)))
      (case d_narrowed => (refine' DD.Def.mk' KX G (fun _ _ _ _ _ _ us hl => match us, hl with | [_, _, _, _], _ => rfl) ?a ?l ?c ?k; (case a => k_is); (case l => k_is); (case c => k_is); (case k => k_is)))
      (case d_narrowed_by => (refine' DD.Def.mk' KX G (fun _ _ _ _ _ _ us hl => match us, hl with | [_, _], _ => rfl) ?a ?l ?c ?k; (case a => k_is); (case l => k_is); (case c => k_is); (case k => k_is)))
      (case d_open_bounds => (refine' DD.Def.mk' KX G (fun _ _ _ _ _ _ us hl => match us, hl with | [_], _ => rfl) ?a ?l ?c ?k; (case a => k_is); (case l => k_is); (case c => k_is); (case k => k_is)))
      (case d_number_of => (refine' DD.Def.mk' KX G (fun _ _ _ _ _ _ us hl => match us, hl with | [_, _], _ => rfl) ?a ?l ?c ?k; (case a => k_is); (case l => k_is); (case c => k_is); (case k => k_is)))
      (case d_numbered => (refine' DD.Def.mk' KX G (fun _ _ _ _ _ _ us hl => match us, hl with | [_, _], _ => rfl) ?a ?l ?c ?k; (case a => k_is); (case l => k_is); (case c => k_is); (case k => k_is)))
      (case d_first_ways => (refine' DD.Def.mk' KX G (fun _ _ _ _ _ _ us hl => match us, hl with | [_], _ => rfl) ?a ?l ?c ?k; (case a => k_is); (case l => k_is); (case c => k_is); (case k => k_is)))
      (case d_way_sum => (refine' DD.Def.mk' KX G (fun _ _ _ _ _ _ us hl => match us, hl with | [_], _ => rfl) ?a ?l ?c ?k; (case a => k_is); (case l => k_is); (case c => k_is); (case k => k_is)))
      (case d_better_way => (refine' DD.Def.mk' KX G (fun _ _ _ _ _ _ us hl => match us, hl with | [_, _], _ => rfl) ?a ?l ?c ?k; (case a => k_is); (case l => k_is); (case c => k_is); (case k => k_is)))
      (case d_joined_way => (refine' DD.Def.mk' KX G (fun _ _ _ _ _ _ us hl => match us, hl with | [_, _, _], _ => rfl) ?a ?l ?c ?k; (case a => k_is); (case l => k_is); (case c => k_is); (case k => k_is)))
      (case d_ways_by => (refine' DD.Def.mk' KX G (fun _ _ _ _ _ _ us hl => match us, hl with | [_, _], _ => rfl) ?a ?l ?c ?k; (case a => k_is); (case l => k_is); (case c => k_is); (case k => k_is)))
      (case i_Sheet_3 => (refine' And.right ?both; (case both => (refine' DD.DefI.ofT 3 rfl KX G rfl (fun _ _ _ _ _ _ _ us its h1 h2 => match us, its, h1, h2 with | [_, _, _], [_], _, _ => ⟨_, rfl, rfl⟩) (fun _ _ _ _ _ _ _ us its h1 h2 => match us, its, h1, h2 with | [_, _, _, _], [_], _, _ => ⟨_, rfl, rfl⟩) ?a ?m ?i ?fn ?kc ?l ?cc ?k ?lT ?lE; (case a => k_is); (case m => k_is); (case i => k_is); (case fn => k_is); (case kc => k_is); (case l => k_is); (case cc => k_is); (case k => k_is); (case lT => k_is); (case lE => k_is)))))
      (case i_Sheet_2 => (refine' And.left ?both; (case both => (refine' DD.DefI.ofT 3 rfl KX G rfl (fun _ _ _ _ _ _ _ us its h1 h2 => match us, its, h1, h2 with | [_, _, _], [_], _, _ => ⟨_, rfl, rfl⟩) (fun _ _ _ _ _ _ _ us its h1 h2 => match us, its, h1, h2 with | [_, _, _, _], [_], _, _ => ⟨_, rfl, rfl⟩) ?a ?m ?i ?fn ?kc ?l ?cc ?k ?lT ?lE; (case a => k_is); (case m => k_is); (case i => k_is); (case fn => k_is); (case kc => k_is); (case l => k_is); (case cc => k_is); (case k => k_is); (case lT => k_is); (case lE => k_is)))))
      (case d__law_fields_right => (refine' DD.Def.mk' KX G (fun _ _ _ _ _ _ us hl => match us, hl with | [], _ => rfl) ?a ?l ?c ?k; (case a => k_is); (case l => k_is); (case c => k_is); (case k => k_is)))
      (case d__law_kept_right => (refine' DD.Def.mk' KX G (fun _ _ _ _ _ _ us hl => match us, hl with | [], _ => rfl) ?a ?l ?c ?k; (case a => k_is); (case l => k_is); (case c => k_is); (case k => k_is)))
      (case d_law => (refine' DD.Def.mk' KX G (fun _ _ _ _ _ _ us hl => match us, hl with | [_], _ => rfl) ?a ?l ?c ?k; (case a => k_is); (case l => k_is); (case c => k_is); (case k => k_is)))
      (case c_BadDeed => (refine' DD.Cst.cls rfl KX G ?c_BadDeed_z; (case c_BadDeed_z => k_is)))
      (case c_BadEdit => (refine' DD.Cst.cls rfl KX G ?c_BadEdit_z; (case c_BadEdit_z => k_is)))
      (case c_BadFact => (refine' DD.Cst.cls rfl KX G ?c_BadFact_z; (case c_BadFact_z => k_is)))
      (case c_BadFault => (refine' DD.Cst.cls rfl KX G ?c_BadFault_z; (case c_BadFault_z => k_is)))
      (case c_BadMarks => (refine' DD.Cst.cls rfl KX G ?c_BadMarks_z; (case c_BadMarks_z => k_is)))
      (case c_BadNumbers => (refine' DD.Cst.cls rfl KX G ?c_BadNumbers_z; (case c_BadNumbers_z => k_is)))
      (case c_BadPairs => (refine' DD.Cst.cls rfl KX G ?c_BadPairs_z; (case c_BadPairs_z => k_is)))
      (case c_BadPlace => (refine' DD.Cst.cls rfl KX G ?c_BadPlace_z; (case c_BadPlace_z => k_is)))
      (case c_BadStep => (refine' DD.Cst.cls rfl KX G ?c_BadStep_z; (case c_BadStep_z => k_is)))
      (case c_BadTakes => (refine' DD.Cst.cls rfl KX G ?c_BadTakes_z; (case c_BadTakes_z => k_is)))
      (case c_BadText => (refine' DD.Cst.cls rfl KX G ?c_BadText_z; (case c_BadText_z => k_is)))
      (case c_BadTracks => (refine' DD.Cst.cls rfl KX G ?c_BadTracks_z; (case c_BadTracks_z => k_is)))
      (case c_BadTree => (refine' DD.Cst.cls rfl KX G ?c_BadTree_z; (case c_BadTree_z => k_is)))
      (case c_Contradiction => (refine' DD.Cst.cls rfl KX G ?c_Contradiction_z; (case c_Contradiction_z => k_is)))
      (case c_CouldGoWrong => (refine' DD.Cst.cls rfl KX G ?c_CouldGoWrong_z; (case c_CouldGoWrong_z => k_is)))
      (case c_NameTaken => (refine' DD.Cst.cls rfl KX G ?c_NameTaken_z; (case c_NameTaken_z => k_is)))
      (case c_NoBranch => (refine' DD.Cst.cls rfl KX G ?c_NoBranch_z; (case c_NoBranch_z => k_is)))
      (case c_NoShape => (refine' DD.Cst.cls rfl KX G ?c_NoShape_z; (case c_NoShape_z => k_is)))
      (case c_NoWatch => (refine' DD.Cst.cls rfl KX G ?c_NoWatch_z; (case c_NoWatch_z => k_is)))
      (case c_NotRecording => (refine' DD.Cst.cls rfl KX G ?c_NotRecording_z; (case c_NotRecording_z => k_is)))
      (case c_NotSure => (refine' DD.Cst.cls rfl KX G ?c_NotSure_z; (case c_NotSure_z => k_is)))
      (case c_NothingToUndo => (refine' DD.Cst.cls rfl KX G ?c_NothingToUndo_z; (case c_NothingToUndo_z => k_is)))
      (case c_TakesError => (refine' DD.Cst.cls rfl KX G ?c_TakesError_z; (case c_TakesError_z => k_is)))
      (case c_UnknownName => (refine' DD.Cst.cls rfl KX G ?c_UnknownName_z; (case c_UnknownName_z => k_is)))
      (case c_UnlikeMarks => (refine' DD.Cst.cls rfl KX G ?c_UnlikeMarks_z; (case c_UnlikeMarks_z => k_is)))
      (case c_UnlikeTracks => (refine' DD.Cst.cls rfl KX G ?c_UnlikeTracks_z; (case c_UnlikeTracks_z => k_is)))
      (case m0_BadNumbers => (refine' DD.xmak0_of rfl ?m0_BadNumbers_ex ?m0_BadNumbers_kp ?m0_BadNumbers_sb ?m0_BadNumbers_ty (DD.Cst.cls rfl KX G ?m0_BadNumbers_z); (case m0_BadNumbers_ex => k_exc); (case m0_BadNumbers_kp => k_is); (case m0_BadNumbers_sb => k_is); (case m0_BadNumbers_ty => k_is); (case m0_BadNumbers_z => k_is)))
      (case m0_BadPairs => (refine' DD.xmak0_of rfl ?m0_BadPairs_ex ?m0_BadPairs_kp ?m0_BadPairs_sb ?m0_BadPairs_ty (DD.Cst.cls rfl KX G ?m0_BadPairs_z); (case m0_BadPairs_ex => k_exc); (case m0_BadPairs_kp => k_is); (case m0_BadPairs_sb => k_is); (case m0_BadPairs_ty => k_is); (case m0_BadPairs_z => k_is)))
      (case m0_NoShape => (refine' DD.xmak0_of rfl ?m0_NoShape_ex ?m0_NoShape_kp ?m0_NoShape_sb ?m0_NoShape_ty (DD.Cst.cls rfl KX G ?m0_NoShape_z); (case m0_NoShape_ex => k_exc); (case m0_NoShape_kp => k_is); (case m0_NoShape_sb => k_is); (case m0_NoShape_ty => k_is); (case m0_NoShape_z => k_is)))
      (case m0_NotRecording => (refine' DD.xmak0_of rfl ?m0_NotRecording_ex ?m0_NotRecording_kp ?m0_NotRecording_sb ?m0_NotRecording_ty (DD.Cst.cls rfl KX G ?m0_NotRecording_z); (case m0_NotRecording_ex => k_exc); (case m0_NotRecording_kp => k_is); (case m0_NotRecording_sb => k_is); (case m0_NotRecording_ty => k_is); (case m0_NotRecording_z => k_is)))
      (case m0_NothingToUndo => (refine' DD.xmak0_of rfl ?m0_NothingToUndo_ex ?m0_NothingToUndo_kp ?m0_NothingToUndo_sb ?m0_NothingToUndo_ty (DD.Cst.cls rfl KX G ?m0_NothingToUndo_z); (case m0_NothingToUndo_ex => k_exc); (case m0_NothingToUndo_kp => k_is); (case m0_NothingToUndo_sb => k_is); (case m0_NothingToUndo_ty => k_is); (case m0_NothingToUndo_z => k_is)))
      (case m0_TakesError => (refine' DD.xmak0_of rfl ?m0_TakesError_ex ?m0_TakesError_kp ?m0_TakesError_sb ?m0_TakesError_ty (DD.Cst.cls rfl KX G ?m0_TakesError_z); (case m0_TakesError_ex => k_exc); (case m0_TakesError_kp => k_is); (case m0_TakesError_sb => k_is); (case m0_TakesError_ty => k_is); (case m0_TakesError_z => k_is)))
      (case m0_UnlikeMarks => (refine' DD.xmak0_of rfl ?m0_UnlikeMarks_ex ?m0_UnlikeMarks_kp ?m0_UnlikeMarks_sb ?m0_UnlikeMarks_ty (DD.Cst.cls rfl KX G ?m0_UnlikeMarks_z); (case m0_UnlikeMarks_ex => k_exc); (case m0_UnlikeMarks_kp => k_is); (case m0_UnlikeMarks_sb => k_is); (case m0_UnlikeMarks_ty => k_is); (case m0_UnlikeMarks_z => k_is)))
      (case m0_UnlikeTracks => (refine' DD.xmak0_of rfl ?m0_UnlikeTracks_ex ?m0_UnlikeTracks_kp ?m0_UnlikeTracks_sb ?m0_UnlikeTracks_ty (DD.Cst.cls rfl KX G ?m0_UnlikeTracks_z); (case m0_UnlikeTracks_ex => k_exc); (case m0_UnlikeTracks_kp => k_is); (case m0_UnlikeTracks_sb => k_is); (case m0_UnlikeTracks_ty => k_is); (case m0_UnlikeTracks_z => k_is)))
      (case i_BadDeed => (refine' DD.DefX.of rfl (fun _ _ _ _ _ _ us hl => match us, hl with | [_, _], _ => rfl) ?i_BadDeed_i ?i_BadDeed_t ?i_BadDeed_l ?i_BadDeed_cc ?i_BadDeed_k; (case i_BadDeed_i => k_is); (case i_BadDeed_t => k_is); (case i_BadDeed_l => k_is); (case i_BadDeed_cc => k_is); (case i_BadDeed_k => k_is)))
      (case i_BadEdit => (refine' DD.DefX.of rfl (fun _ _ _ _ _ _ us hl => match us, hl with | [_, _], _ => rfl) ?i_BadEdit_i ?i_BadEdit_t ?i_BadEdit_l ?i_BadEdit_cc ?i_BadEdit_k; (case i_BadEdit_i => k_is); (case i_BadEdit_t => k_is); (case i_BadEdit_l => k_is); (case i_BadEdit_cc => k_is); (case i_BadEdit_k => k_is)))
      (case i_BadFact => (refine' DD.DefX.of rfl (fun _ _ _ _ _ _ us hl => match us, hl with | [_, _], _ => rfl) ?i_BadFact_i ?i_BadFact_t ?i_BadFact_l ?i_BadFact_cc ?i_BadFact_k; (case i_BadFact_i => k_is); (case i_BadFact_t => k_is); (case i_BadFact_l => k_is); (case i_BadFact_cc => k_is); (case i_BadFact_k => k_is)))
      (case i_BadFault => (refine' DD.DefX.of rfl (fun _ _ _ _ _ _ us hl => match us, hl with | [_, _], _ => rfl) ?i_BadFault_i ?i_BadFault_t ?i_BadFault_l ?i_BadFault_cc ?i_BadFault_k; (case i_BadFault_i => k_is); (case i_BadFault_t => k_is); (case i_BadFault_l => k_is); (case i_BadFault_cc => k_is); (case i_BadFault_k => k_is)))
      (case i_BadMarks => (refine' DD.DefX.of rfl (fun _ _ _ _ _ _ us hl => match us, hl with | [_, _], _ => rfl) ?i_BadMarks_i ?i_BadMarks_t ?i_BadMarks_l ?i_BadMarks_cc ?i_BadMarks_k; (case i_BadMarks_i => k_is); (case i_BadMarks_t => k_is); (case i_BadMarks_l => k_is); (case i_BadMarks_cc => k_is); (case i_BadMarks_k => k_is)))
      (case i_BadPlace => (refine' DD.DefX.of rfl (fun _ _ _ _ _ _ us hl => match us, hl with | [_, _], _ => rfl) ?i_BadPlace_i ?i_BadPlace_t ?i_BadPlace_l ?i_BadPlace_cc ?i_BadPlace_k; (case i_BadPlace_i => k_is); (case i_BadPlace_t => k_is); (case i_BadPlace_l => k_is); (case i_BadPlace_cc => k_is); (case i_BadPlace_k => k_is)))
      (case i_BadStep => (refine' DD.DefX.of rfl (fun _ _ _ _ _ _ us hl => match us, hl with | [_, _], _ => rfl) ?i_BadStep_i ?i_BadStep_t ?i_BadStep_l ?i_BadStep_cc ?i_BadStep_k; (case i_BadStep_i => k_is); (case i_BadStep_t => k_is); (case i_BadStep_l => k_is); (case i_BadStep_cc => k_is); (case i_BadStep_k => k_is)))
      (case i_BadTakes => (refine' DD.DefX.of rfl (fun _ _ _ _ _ _ us hl => match us, hl with | [_, _], _ => rfl) ?i_BadTakes_i ?i_BadTakes_t ?i_BadTakes_l ?i_BadTakes_cc ?i_BadTakes_k; (case i_BadTakes_i => k_is); (case i_BadTakes_t => k_is); (case i_BadTakes_l => k_is); (case i_BadTakes_cc => k_is); (case i_BadTakes_k => k_is)))
      (case i_BadText => (refine' DD.DefX.of rfl (fun _ _ _ _ _ _ us hl => match us, hl with | [_, _], _ => rfl) ?i_BadText_i ?i_BadText_t ?i_BadText_l ?i_BadText_cc ?i_BadText_k; (case i_BadText_i => k_is); (case i_BadText_t => k_is); (case i_BadText_l => k_is); (case i_BadText_cc => k_is); (case i_BadText_k => k_is)))
      (case i_BadTracks => (refine' DD.DefX.of rfl (fun _ _ _ _ _ _ us hl => match us, hl with | [_, _], _ => rfl) ?i_BadTracks_i ?i_BadTracks_t ?i_BadTracks_l ?i_BadTracks_cc ?i_BadTracks_k; (case i_BadTracks_i => k_is); (case i_BadTracks_t => k_is); (case i_BadTracks_l => k_is); (case i_BadTracks_cc => k_is); (case i_BadTracks_k => k_is)))
      (case i_BadTree => (refine' DD.DefX.of rfl (fun _ _ _ _ _ _ us hl => match us, hl with | [_, _], _ => rfl) ?i_BadTree_i ?i_BadTree_t ?i_BadTree_l ?i_BadTree_cc ?i_BadTree_k; (case i_BadTree_i => k_is); (case i_BadTree_t => k_is); (case i_BadTree_l => k_is); (case i_BadTree_cc => k_is); (case i_BadTree_k => k_is)))
      (case i_Contradiction => (refine' DD.DefX.of rfl (fun _ _ _ _ _ _ us hl => match us, hl with | [_, _], _ => rfl) ?i_Contradiction_i ?i_Contradiction_t ?i_Contradiction_l ?i_Contradiction_cc ?i_Contradiction_k; (case i_Contradiction_i => k_is); (case i_Contradiction_t => k_is); (case i_Contradiction_l => k_is); (case i_Contradiction_cc => k_is); (case i_Contradiction_k => k_is)))
      (case i_CouldGoWrong => (refine' DD.DefX.of rfl (fun _ _ _ _ _ _ us hl => match us, hl with | [_, _, _, _], _ => rfl) ?i_CouldGoWrong_i ?i_CouldGoWrong_t ?i_CouldGoWrong_l ?i_CouldGoWrong_cc ?i_CouldGoWrong_k; (case i_CouldGoWrong_i => k_is); (case i_CouldGoWrong_t => k_is); (case i_CouldGoWrong_l => k_is); (case i_CouldGoWrong_cc => k_is); (case i_CouldGoWrong_k => k_is)))
      (case i_NameTaken => (refine' DD.DefX.of rfl (fun _ _ _ _ _ _ us hl => match us, hl with | [_, _], _ => rfl) ?i_NameTaken_i ?i_NameTaken_t ?i_NameTaken_l ?i_NameTaken_cc ?i_NameTaken_k; (case i_NameTaken_i => k_is); (case i_NameTaken_t => k_is); (case i_NameTaken_l => k_is); (case i_NameTaken_cc => k_is); (case i_NameTaken_k => k_is)))
      (case i_NoBranch => (refine' DD.DefX.of rfl (fun _ _ _ _ _ _ us hl => match us, hl with | [_, _], _ => rfl) ?i_NoBranch_i ?i_NoBranch_t ?i_NoBranch_l ?i_NoBranch_cc ?i_NoBranch_k; (case i_NoBranch_i => k_is); (case i_NoBranch_t => k_is); (case i_NoBranch_l => k_is); (case i_NoBranch_cc => k_is); (case i_NoBranch_k => k_is)))
      (case i_NoWatch => (refine' DD.DefX.of rfl (fun _ _ _ _ _ _ us hl => match us, hl with | [_, _], _ => rfl) ?i_NoWatch_i ?i_NoWatch_t ?i_NoWatch_l ?i_NoWatch_cc ?i_NoWatch_k; (case i_NoWatch_i => k_is); (case i_NoWatch_t => k_is); (case i_NoWatch_l => k_is); (case i_NoWatch_cc => k_is); (case i_NoWatch_k => k_is)))
      (case i_NotSure => (refine' DD.DefX.of rfl (fun _ _ _ _ _ _ us hl => match us, hl with | [_, _], _ => rfl) ?i_NotSure_i ?i_NotSure_t ?i_NotSure_l ?i_NotSure_cc ?i_NotSure_k; (case i_NotSure_i => k_is); (case i_NotSure_t => k_is); (case i_NotSure_l => k_is); (case i_NotSure_cc => k_is); (case i_NotSure_k => k_is)))
      (case i_UnknownName => (refine' DD.DefX.of rfl (fun _ _ _ _ _ _ us hl => match us, hl with | [_, _], _ => rfl) ?i_UnknownName_i ?i_UnknownName_t ?i_UnknownName_l ?i_UnknownName_cc ?i_UnknownName_k; (case i_UnknownName_i => k_is); (case i_UnknownName_t => k_is); (case i_UnknownName_l => k_is); (case i_UnknownName_cc => k_is); (case i_UnknownName_k => k_is)))
      (case ox2 => (refine' DD.oex_of rfl ?ox2_xl ?ox2_hr ?ox2_sa ?ox2_ex ?ox2_ty ?ox2_kc; (case ox2_xl => k_is); (case ox2_hr => decide +kernel); (case ox2_sa => k_is); (case ox2_ex => k_is); (case ox2_ty => k_is); (case ox2_kc => k_is)))
      (case ox3 => (refine' DD.oex_of rfl ?ox3_xl ?ox3_hr ?ox3_sa ?ox3_ex ?ox3_ty ?ox3_kc; (case ox3_xl => k_is); (case ox3_hr => decide +kernel); (case ox3_sa => k_is); (case ox3_ex => k_is); (case ox3_ty => k_is); (case ox3_kc => k_is)))
      (case ox4 => (refine' DD.oex_of rfl ?ox4_xl ?ox4_hr ?ox4_sa ?ox4_ex ?ox4_ty ?ox4_kc; (case ox4_xl => k_is); (case ox4_hr => decide +kernel); (case ox4_sa => k_is); (case ox4_ex => k_is); (case ox4_ty => k_is); (case ox4_kc => k_is)))
      (case ox5 => (refine' DD.oex_of rfl ?ox5_xl ?ox5_hr ?ox5_sa ?ox5_ex ?ox5_ty ?ox5_kc; (case ox5_xl => k_is); (case ox5_hr => decide +kernel); (case ox5_sa => k_is); (case ox5_ex => k_is); (case ox5_ty => k_is); (case ox5_kc => k_is)))
      (case ox6 => (refine' DD.oex_of rfl ?ox6_xl ?ox6_hr ?ox6_sa ?ox6_ex ?ox6_ty ?ox6_kc; (case ox6_xl => k_is); (case ox6_hr => decide +kernel); (case ox6_sa => k_is); (case ox6_ex => k_is); (case ox6_ty => k_is); (case ox6_kc => k_is)))
      (case ox9 => (refine' DD.oex_of rfl ?ox9_xl ?ox9_hr ?ox9_sa ?ox9_ex ?ox9_ty ?ox9_kc; (case ox9_xl => k_is); (case ox9_hr => decide +kernel); (case ox9_sa => k_is); (case ox9_ex => k_is); (case ox9_ty => k_is); (case ox9_kc => k_is)))
      (case ox10 => (refine' DD.oex_of rfl ?ox10_xl ?ox10_hr ?ox10_sa ?ox10_ex ?ox10_ty ?ox10_kc; (case ox10_xl => k_is); (case ox10_hr => decide +kernel); (case ox10_sa => k_is); (case ox10_ex => k_is); (case ox10_ty => k_is); (case ox10_kc => k_is)))
      (case ox11 => (refine' DD.oex_of rfl ?ox11_xl ?ox11_hr ?ox11_sa ?ox11_ex ?ox11_ty ?ox11_kc; (case ox11_xl => k_is); (case ox11_hr => decide +kernel); (case ox11_sa => k_is); (case ox11_ex => k_is); (case ox11_ty => k_is); (case ox11_kc => k_is)))
      (case ox12 => (refine' DD.oex_of rfl ?ox12_xl ?ox12_hr ?ox12_sa ?ox12_ex ?ox12_ty ?ox12_kc; (case ox12_xl => k_is); (case ox12_hr => decide +kernel); (case ox12_sa => k_is); (case ox12_ex => k_is); (case ox12_ty => k_is); (case ox12_kc => k_is)))
      (case ox13 => (refine' DD.oex_of rfl ?ox13_xl ?ox13_hr ?ox13_sa ?ox13_ex ?ox13_ty ?ox13_kc; (case ox13_xl => k_is); (case ox13_hr => decide +kernel); (case ox13_sa => k_is); (case ox13_ex => k_is); (case ox13_ty => k_is); (case ox13_kc => k_is)))
      (case ox14 => (refine' DD.oex_of rfl ?ox14_xl ?ox14_hr ?ox14_sa ?ox14_ex ?ox14_ty ?ox14_kc; (case ox14_xl => k_is); (case ox14_hr => decide +kernel); (case ox14_sa => k_is); (case ox14_ex => k_is); (case ox14_ty => k_is); (case ox14_kc => k_is)))
      (case ox15 => (refine' DD.oex_of rfl ?ox15_xl ?ox15_hr ?ox15_sa ?ox15_ex ?ox15_ty ?ox15_kc; (case ox15_xl => k_is); (case ox15_hr => decide +kernel); (case ox15_sa => k_is); (case ox15_ex => k_is); (case ox15_ty => k_is); (case ox15_kc => k_is)))
      (case ox16 => (refine' DD.oex_of rfl ?ox16_xl ?ox16_hr ?ox16_sa ?ox16_ex ?ox16_ty ?ox16_kc; (case ox16_xl => k_is); (case ox16_hr => decide +kernel); (case ox16_sa => k_is); (case ox16_ex => k_is); (case ox16_ty => k_is); (case ox16_kc => k_is)))
      (case ox17 => (refine' DD.oex_of rfl ?ox17_xl ?ox17_hr ?ox17_sa ?ox17_ex ?ox17_ty ?ox17_kc; (case ox17_xl => k_is); (case ox17_hr => decide +kernel); (case ox17_sa => k_is); (case ox17_ex => k_is); (case ox17_ty => k_is); (case ox17_kc => k_is)))
      (case ox18 => (refine' DD.oex_of rfl ?ox18_xl ?ox18_hr ?ox18_sa ?ox18_ex ?ox18_ty ?ox18_kc; (case ox18_xl => k_is); (case ox18_hr => decide +kernel); (case ox18_sa => k_is); (case ox18_ex => k_is); (case ox18_ty => k_is); (case ox18_kc => k_is)))
      (case ox20 => (refine' DD.oex_of rfl ?ox20_xl ?ox20_hr ?ox20_sa ?ox20_ex ?ox20_ty ?ox20_kc; (case ox20_xl => k_is); (case ox20_hr => decide +kernel); (case ox20_sa => k_is); (case ox20_ex => k_is); (case ox20_ty => k_is); (case ox20_kc => k_is)))
      (case ox22 => (refine' DD.oex_of rfl ?ox22_xl ?ox22_hr ?ox22_sa ?ox22_ex ?ox22_ty ?ox22_kc; (case ox22_xl => k_is); (case ox22_hr => decide +kernel); (case ox22_sa => k_is); (case ox22_ex => k_is); (case ox22_ty => k_is); (case ox22_kc => k_is)))
      (case ox24 => (refine' DD.oex_of rfl ?ox24_xl ?ox24_hr ?ox24_sa ?ox24_ex ?ox24_ty ?ox24_kc; (case ox24_xl => k_is); (case ox24_hr => decide +kernel); (case ox24_sa => k_is); (case ox24_ex => k_is); (case ox24_ty => k_is); (case ox24_kc => k_is)))
      (case xt1 => (refine' DD.ext_of rfl ?xt1_ga ?xt1_gg ?xt1_ex ?xt1_hd ?xt1_cl ?xt1_cx ?xt1_cg ?xt1_ct ?xt1_cm; (case xt1_ga => k_is); (case xt1_gg => k_is); (case xt1_ex => k_is); (case xt1_hd => k_is); (case xt1_cl => k_is); (case xt1_cx => k_is); (case xt1_cg => k_is); (case xt1_ct => k_is); (case xt1_cm => k_is)))
      (case xt2 => (refine' DD.ext_of rfl ?xt2_ga ?xt2_gg ?xt2_ex ?xt2_hd ?xt2_cl ?xt2_cx ?xt2_cg ?xt2_ct ?xt2_cm; (case xt2_ga => k_is); (case xt2_gg => k_is); (case xt2_ex => k_is); (case xt2_hd => k_is); (case xt2_cl => k_is); (case xt2_cx => k_is); (case xt2_cg => k_is); (case xt2_ct => k_is); (case xt2_cm => k_is)))
      (case xt3 => (refine' DD.ext_of rfl ?xt3_ga ?xt3_gg ?xt3_ex ?xt3_hd ?xt3_cl ?xt3_cx ?xt3_cg ?xt3_ct ?xt3_cm; (case xt3_ga => k_is); (case xt3_gg => k_is); (case xt3_ex => k_is); (case xt3_hd => k_is); (case xt3_cl => k_is); (case xt3_cx => k_is); (case xt3_cg => k_is); (case xt3_ct => k_is); (case xt3_cm => k_is)))
      (case xt4 => (refine' DD.ext_of rfl ?xt4_ga ?xt4_gg ?xt4_ex ?xt4_hd ?xt4_cl ?xt4_cx ?xt4_cg ?xt4_ct ?xt4_cm; (case xt4_ga => k_is); (case xt4_gg => k_is); (case xt4_ex => k_is); (case xt4_hd => k_is); (case xt4_cl => k_is); (case xt4_cx => k_is); (case xt4_cg => k_is); (case xt4_ct => k_is); (case xt4_cm => k_is)))
      (case xt5 => (refine' DD.ext_of rfl ?xt5_ga ?xt5_gg ?xt5_ex ?xt5_hd ?xt5_cl ?xt5_cx ?xt5_cg ?xt5_ct ?xt5_cm; (case xt5_ga => k_is); (case xt5_gg => k_is); (case xt5_ex => k_is); (case xt5_hd => k_is); (case xt5_cl => k_is); (case xt5_cx => k_is); (case xt5_cg => k_is); (case xt5_ct => k_is); (case xt5_cm => k_is)))
      (case xt6 => (refine' DD.ext_of rfl ?xt6_ga ?xt6_gg ?xt6_ex ?xt6_hd ?xt6_cl ?xt6_cx ?xt6_cg ?xt6_ct ?xt6_cm; (case xt6_ga => k_is); (case xt6_gg => k_is); (case xt6_ex => k_is); (case xt6_hd => k_is); (case xt6_cl => k_is); (case xt6_cx => k_is); (case xt6_cg => k_is); (case xt6_ct => k_is); (case xt6_cm => k_is)))
      (case xt7 => (refine' DD.ext_of rfl ?xt7_ga ?xt7_gg ?xt7_ex ?xt7_hd ?xt7_cl ?xt7_cx ?xt7_cg ?xt7_ct ?xt7_cm; (case xt7_ga => k_is); (case xt7_gg => k_is); (case xt7_ex => k_is); (case xt7_hd => k_is); (case xt7_cl => k_is); (case xt7_cx => k_is); (case xt7_cg => k_is); (case xt7_ct => k_is); (case xt7_cm => k_is)))
      (case xt8 => (refine' DD.ext_of rfl ?xt8_ga ?xt8_gg ?xt8_ex ?xt8_hd ?xt8_cl ?xt8_cx ?xt8_cg ?xt8_ct ?xt8_cm; (case xt8_ga => k_is); (case xt8_gg => k_is); (case xt8_ex => k_is); (case xt8_hd => k_is); (case xt8_cl => k_is); (case xt8_cx => k_is); (case xt8_cg => k_is); (case xt8_ct => k_is); (case xt8_cm => k_is)))
      (case xt9 => (refine' DD.ext_of rfl ?xt9_ga ?xt9_gg ?xt9_ex ?xt9_hd ?xt9_cl ?xt9_cx ?xt9_cg ?xt9_ct ?xt9_cm; (case xt9_ga => k_is); (case xt9_gg => k_is); (case xt9_ex => k_is); (case xt9_hd => k_is); (case xt9_cl => k_is); (case xt9_cx => k_is); (case xt9_cg => k_is); (case xt9_ct => k_is); (case xt9_cm => k_is)))
      (case xt10 => (refine' DD.ext_of rfl ?xt10_ga ?xt10_gg ?xt10_ex ?xt10_hd ?xt10_cl ?xt10_cx ?xt10_cg ?xt10_ct ?xt10_cm; (case xt10_ga => k_is); (case xt10_gg => k_is); (case xt10_ex => k_is); (case xt10_hd => k_is); (case xt10_cl => k_is); (case xt10_cx => k_is); (case xt10_cg => k_is); (case xt10_ct => k_is); (case xt10_cm => k_is)))
      (case xt11 => (refine' DD.ext_of rfl ?xt11_ga ?xt11_gg ?xt11_ex ?xt11_hd ?xt11_cl ?xt11_cx ?xt11_cg ?xt11_ct ?xt11_cm; (case xt11_ga => k_is); (case xt11_gg => k_is); (case xt11_ex => k_is); (case xt11_hd => k_is); (case xt11_cl => k_is); (case xt11_cx => k_is); (case xt11_cg => k_is); (case xt11_ct => k_is); (case xt11_cm => k_is)))
      (case xt12 => (refine' DD.ext_of rfl ?xt12_ga ?xt12_gg ?xt12_ex ?xt12_hd ?xt12_cl ?xt12_cx ?xt12_cg ?xt12_ct ?xt12_cm; (case xt12_ga => k_is); (case xt12_gg => k_is); (case xt12_ex => k_is); (case xt12_hd => k_is); (case xt12_cl => k_is); (case xt12_cx => k_is); (case xt12_cg => k_is); (case xt12_ct => k_is); (case xt12_cm => k_is)))
      (case xt13 => (refine' DD.ext_of rfl ?xt13_ga ?xt13_gg ?xt13_ex ?xt13_hd ?xt13_cl ?xt13_cx ?xt13_cg ?xt13_ct ?xt13_cm; (case xt13_ga => k_is); (case xt13_gg => k_is); (case xt13_ex => k_is); (case xt13_hd => k_is); (case xt13_cl => k_is); (case xt13_cx => k_is); (case xt13_cg => k_is); (case xt13_ct => k_is); (case xt13_cm => k_is)))
      (case xt14 => (refine' DD.ext_of rfl ?xt14_ga ?xt14_gg ?xt14_ex ?xt14_hd ?xt14_cl ?xt14_cx ?xt14_cg ?xt14_ct ?xt14_cm; (case xt14_ga => k_is); (case xt14_gg => k_is); (case xt14_ex => k_is); (case xt14_hd => k_is); (case xt14_cl => k_is); (case xt14_cx => k_is); (case xt14_cg => k_is); (case xt14_ct => k_is); (case xt14_cm => k_is)))
      (case xt15 => (refine' DD.ext_of rfl ?xt15_ga ?xt15_gg ?xt15_ex ?xt15_hd ?xt15_cl ?xt15_cx ?xt15_cg ?xt15_ct ?xt15_cm; (case xt15_ga => k_is); (case xt15_gg => k_is); (case xt15_ex => k_is); (case xt15_hd => k_is); (case xt15_cl => k_is); (case xt15_cx => k_is); (case xt15_cg => k_is); (case xt15_ct => k_is); (case xt15_cm => k_is)))
      (case xt16 => (refine' DD.ext_of rfl ?xt16_ga ?xt16_gg ?xt16_ex ?xt16_hd ?xt16_cl ?xt16_cx ?xt16_cg ?xt16_ct ?xt16_cm; (case xt16_ga => k_is); (case xt16_gg => k_is); (case xt16_ex => k_is); (case xt16_hd => k_is); (case xt16_cl => k_is); (case xt16_cx => k_is); (case xt16_cg => k_is); (case xt16_ct => k_is); (case xt16_cm => k_is)))
      (case xt17 => (refine' DD.ext_of rfl ?xt17_ga ?xt17_gg ?xt17_ex ?xt17_hd ?xt17_cl ?xt17_cx ?xt17_cg ?xt17_ct ?xt17_cm; (case xt17_ga => k_is); (case xt17_gg => k_is); (case xt17_ex => k_is); (case xt17_hd => k_is); (case xt17_cl => k_is); (case xt17_cx => k_is); (case xt17_cg => k_is); (case xt17_ct => k_is); (case xt17_cm => k_is)))
      (case xt18 => (refine' DD.ext_of rfl ?xt18_ga ?xt18_gg ?xt18_ex ?xt18_hd ?xt18_cl ?xt18_cx ?xt18_cg ?xt18_ct ?xt18_cm; (case xt18_ga => k_is); (case xt18_gg => k_is); (case xt18_ex => k_is); (case xt18_hd => k_is); (case xt18_cl => k_is); (case xt18_cx => k_is); (case xt18_cg => k_is); (case xt18_ct => k_is); (case xt18_cm => k_is)))
      (case xt19 => (refine' DD.ext_of rfl ?xt19_ga ?xt19_gg ?xt19_ex ?xt19_hd ?xt19_cl ?xt19_cx ?xt19_cg ?xt19_ct ?xt19_cm; (case xt19_ga => k_is); (case xt19_gg => k_is); (case xt19_ex => k_is); (case xt19_hd => k_is); (case xt19_cl => k_is); (case xt19_cx => k_is); (case xt19_cg => k_is); (case xt19_ct => k_is); (case xt19_cm => k_is)))
      (case xt20 => (refine' DD.ext_of rfl ?xt20_ga ?xt20_gg ?xt20_ex ?xt20_hd ?xt20_cl ?xt20_cx ?xt20_cg ?xt20_ct ?xt20_cm; (case xt20_ga => k_is); (case xt20_gg => k_is); (case xt20_ex => k_is); (case xt20_hd => k_is); (case xt20_cl => k_is); (case xt20_cx => k_is); (case xt20_cg => k_is); (case xt20_ct => k_is); (case xt20_cm => k_is)))
      (case xt21 => (refine' DD.ext_of rfl ?xt21_ga ?xt21_gg ?xt21_ex ?xt21_hd ?xt21_cl ?xt21_cx ?xt21_cg ?xt21_ct ?xt21_cm; (case xt21_ga => k_is); (case xt21_gg => k_is); (case xt21_ex => k_is); (case xt21_hd => k_is); (case xt21_cl => k_is); (case xt21_cx => k_is); (case xt21_cg => k_is); (case xt21_ct => k_is); (case xt21_cm => k_is)))
      (case xt22 => (refine' DD.ext_of rfl ?xt22_ga ?xt22_gg ?xt22_ex ?xt22_hd ?xt22_cl ?xt22_cx ?xt22_cg ?xt22_ct ?xt22_cm; (case xt22_ga => k_is); (case xt22_gg => k_is); (case xt22_ex => k_is); (case xt22_hd => k_is); (case xt22_cl => k_is); (case xt22_cx => k_is); (case xt22_cg => k_is); (case xt22_ct => k_is); (case xt22_cm => k_is)))
      (case xt23 => (refine' DD.ext_of rfl ?xt23_ga ?xt23_gg ?xt23_ex ?xt23_hd ?xt23_cl ?xt23_cx ?xt23_cg ?xt23_ct ?xt23_cm; (case xt23_ga => k_is); (case xt23_gg => k_is); (case xt23_ex => k_is); (case xt23_hd => k_is); (case xt23_cl => k_is); (case xt23_cx => k_is); (case xt23_cg => k_is); (case xt23_ct => k_is); (case xt23_cm => k_is)))
      (case xt24 => (refine' DD.ext_of rfl ?xt24_ga ?xt24_gg ?xt24_ex ?xt24_hd ?xt24_cl ?xt24_cx ?xt24_cg ?xt24_ct ?xt24_cm; (case xt24_ga => k_is); (case xt24_gg => k_is); (case xt24_ex => k_is); (case xt24_hd => k_is); (case xt24_cl => k_is); (case xt24_cx => k_is); (case xt24_cg => k_is); (case xt24_ct => k_is); (case xt24_cm => k_is)))
      (case xt25 => (refine' DD.ext_of rfl ?xt25_ga ?xt25_gg ?xt25_ex ?xt25_hd ?xt25_cl ?xt25_cx ?xt25_cg ?xt25_ct ?xt25_cm; (case xt25_ga => k_is); (case xt25_gg => k_is); (case xt25_ex => k_is); (case xt25_hd => k_is); (case xt25_cl => k_is); (case xt25_cx => k_is); (case xt25_cg => k_is); (case xt25_ct => k_is); (case xt25_cm => k_is)))
      (case xt26 => (refine' DD.ext_of rfl ?xt26_ga ?xt26_gg ?xt26_ex ?xt26_hd ?xt26_cl ?xt26_cx ?xt26_cg ?xt26_ct ?xt26_cm; (case xt26_ga => k_is); (case xt26_gg => k_is); (case xt26_ex => k_is); (case xt26_hd => k_is); (case xt26_cl => k_is); (case xt26_cx => k_is); (case xt26_cg => k_is); (case xt26_ct => k_is); (case xt26_cm => k_is)))
      (case bx1 => (refine' DD.BaseX.of rfl ?bx1_rd ?bx1_ga ?bx1_fc; (case bx1_rd => k_is); (case bx1_ga => k_is); (case bx1_fc => k_is)))
      (case xn2_index => (refine' DD.no_of' rfl ?xn2_index_na; (case xn2_index_na => k_is)))
      (case xn3_step => (refine' DD.no_of' rfl ?xn3_step_na; (case xn3_step_na => k_is)))
      (case xn4_index => (refine' DD.no_of' rfl ?xn4_index_na; (case xn4_index_na => k_is)))
      (case xn5_index => (refine' DD.no_of' rfl ?xn5_index_na; (case xn5_index_na => k_is)))
      (case xn6_index => (refine' DD.no_of' rfl ?xn6_index_na; (case xn6_index_na => k_is)))
      (case xn9_index => (refine' DD.no_of' rfl ?xn9_index_na; (case xn9_index_na => k_is)))
      (case xn10_step => (refine' DD.no_of' rfl ?xn10_step_na; (case xn10_step_na => k_is)))
      (case xn11_index => (refine' DD.no_of' rfl ?xn11_index_na; (case xn11_index_na => k_is)))
      (case xn12_line => (refine' DD.no_of' rfl ?xn12_line_na; (case xn12_line_na => k_is)))
      (case xn13_index => (refine' DD.no_of' rfl ?xn13_index_na; (case xn13_index_na => k_is)))
      (case xn14_index => (refine' DD.no_of' rfl ?xn14_index_na; (case xn14_index_na => k_is)))
      (case xn15_ring => (refine' DD.no_of' rfl ?xn15_ring_na; (case xn15_ring_na => k_is)))
      (case xn16_kind => (refine' DD.no_of' rfl ?xn16_kind_na; (case xn16_kind_na => k_is)))
      (case xn16_recording => (refine' DD.no_of' rfl ?xn16_recording_na; (case xn16_recording_na => k_is)))
      (case xn16_step => (refine' DD.no_of' rfl ?xn16_step_na; (case xn16_step_na => k_is)))
      (case xn17_name => (refine' DD.no_of' rfl ?xn17_name_na; (case xn17_name_na => k_is)))
      (case xn18_name => (refine' DD.no_of' rfl ?xn18_name_na; (case xn18_name_na => k_is)))
      (case xn20_name => (refine' DD.no_of' rfl ?xn20_name_na; (case xn20_name_na => k_is)))
      (case xn22_recording => (refine' DD.no_of' rfl ?xn22_recording_na; (case xn22_recording_na => k_is)))
      (case xn24_name => (refine' DD.no_of' rfl ?xn24_name_na; (case xn24_name_na => k_is)))
      (case xm1_1 => (refine' DD.exm_of rfl rfl ?xm1_1_h1 ?xm1_1_h2 ?xm1_1_h3 ?xm1_1_h4; (case xm1_1_h1 => k_is); (case xm1_1_h2 => k_is); (case xm1_1_h3 => k_is); (case xm1_1_h4 => first | rfl | k_is)))
      (case xm2_1 => (refine' DD.exm_of rfl rfl ?xm2_1_h1 ?xm2_1_h2 ?xm2_1_h3 ?xm2_1_h4; (case xm2_1_h1 => k_is); (case xm2_1_h2 => k_is); (case xm2_1_h3 => k_is); (case xm2_1_h4 => first | rfl | k_is)))
      (case xm3_1 => (refine' DD.exm_of rfl rfl ?xm3_1_h1 ?xm3_1_h2 ?xm3_1_h3 ?xm3_1_h4; (case xm3_1_h1 => k_is); (case xm3_1_h2 => k_is); (case xm3_1_h3 => k_is); (case xm3_1_h4 => first | rfl | k_is)))
      (case xm4_1 => (refine' DD.exm_of rfl rfl ?xm4_1_h1 ?xm4_1_h2 ?xm4_1_h3 ?xm4_1_h4; (case xm4_1_h1 => k_is); (case xm4_1_h2 => k_is); (case xm4_1_h3 => k_is); (case xm4_1_h4 => first | rfl | k_is)))
      (case xm5_1 => (refine' DD.exm_of rfl rfl ?xm5_1_h1 ?xm5_1_h2 ?xm5_1_h3 ?xm5_1_h4; (case xm5_1_h1 => k_is); (case xm5_1_h2 => k_is); (case xm5_1_h3 => k_is); (case xm5_1_h4 => first | rfl | k_is)))
      (case xm6_1 => (refine' DD.exm_of rfl rfl ?xm6_1_h1 ?xm6_1_h2 ?xm6_1_h3 ?xm6_1_h4; (case xm6_1_h1 => k_is); (case xm6_1_h2 => k_is); (case xm6_1_h3 => k_is); (case xm6_1_h4 => first | rfl | k_is)))
      (case xm7_1 => (refine' DD.exm_of rfl rfl ?xm7_1_h1 ?xm7_1_h2 ?xm7_1_h3 ?xm7_1_h4; (case xm7_1_h1 => k_is); (case xm7_1_h2 => k_is); (case xm7_1_h3 => k_is); (case xm7_1_h4 => first | rfl | k_is)))
      (case xm8_1 => (refine' DD.exm_of rfl rfl ?xm8_1_h1 ?xm8_1_h2 ?xm8_1_h3 ?xm8_1_h4; (case xm8_1_h1 => k_is); (case xm8_1_h2 => k_is); (case xm8_1_h3 => k_is); (case xm8_1_h4 => first | rfl | k_is)))
      (case xm9_1 => (refine' DD.exm_of rfl rfl ?xm9_1_h1 ?xm9_1_h2 ?xm9_1_h3 ?xm9_1_h4; (case xm9_1_h1 => k_is); (case xm9_1_h2 => k_is); (case xm9_1_h3 => k_is); (case xm9_1_h4 => first | rfl | k_is)))
      (case xm10_1 => (refine' DD.exm_of rfl rfl ?xm10_1_h1 ?xm10_1_h2 ?xm10_1_h3 ?xm10_1_h4; (case xm10_1_h1 => k_is); (case xm10_1_h2 => k_is); (case xm10_1_h3 => k_is); (case xm10_1_h4 => first | rfl | k_is)))
      (case xm11_1 => (refine' DD.exm_of rfl rfl ?xm11_1_h1 ?xm11_1_h2 ?xm11_1_h3 ?xm11_1_h4; (case xm11_1_h1 => k_is); (case xm11_1_h2 => k_is); (case xm11_1_h3 => k_is); (case xm11_1_h4 => first | rfl | k_is)))
      (case xm12_1 => (refine' DD.exm_of rfl rfl ?xm12_1_h1 ?xm12_1_h2 ?xm12_1_h3 ?xm12_1_h4; (case xm12_1_h1 => k_is); (case xm12_1_h2 => k_is); (case xm12_1_h3 => k_is); (case xm12_1_h4 => first | rfl | k_is)))
      (case xm13_1 => (refine' DD.exm_of rfl rfl ?xm13_1_h1 ?xm13_1_h2 ?xm13_1_h3 ?xm13_1_h4; (case xm13_1_h1 => k_is); (case xm13_1_h2 => k_is); (case xm13_1_h3 => k_is); (case xm13_1_h4 => first | rfl | k_is)))
      (case xm14_1 => (refine' DD.exm_of rfl rfl ?xm14_1_h1 ?xm14_1_h2 ?xm14_1_h3 ?xm14_1_h4; (case xm14_1_h1 => k_is); (case xm14_1_h2 => k_is); (case xm14_1_h3 => k_is); (case xm14_1_h4 => first | rfl | k_is)))
      (case xm15_1 => (refine' DD.exm_of rfl rfl ?xm15_1_h1 ?xm15_1_h2 ?xm15_1_h3 ?xm15_1_h4; (case xm15_1_h1 => k_is); (case xm15_1_h2 => k_is); (case xm15_1_h3 => k_is); (case xm15_1_h4 => first | rfl | k_is)))
      (case xm16_1 => (refine' DD.exm_of rfl rfl ?xm16_1_h1 ?xm16_1_h2 ?xm16_1_h3 ?xm16_1_h4; (case xm16_1_h1 => k_is); (case xm16_1_h2 => k_is); (case xm16_1_h3 => k_is); (case xm16_1_h4 => first | rfl | k_is)))
      (case xm17_1 => (refine' DD.exm_of rfl rfl ?xm17_1_h1 ?xm17_1_h2 ?xm17_1_h3 ?xm17_1_h4; (case xm17_1_h1 => k_is); (case xm17_1_h2 => k_is); (case xm17_1_h3 => k_is); (case xm17_1_h4 => first | rfl | k_is)))
      (case xm18_1 => (refine' DD.exm_of rfl rfl ?xm18_1_h1 ?xm18_1_h2 ?xm18_1_h3 ?xm18_1_h4; (case xm18_1_h1 => k_is); (case xm18_1_h2 => k_is); (case xm18_1_h3 => k_is); (case xm18_1_h4 => first | rfl | k_is)))
      (case xm19_1 => (refine' DD.exm_of rfl rfl ?xm19_1_h1 ?xm19_1_h2 ?xm19_1_h3 ?xm19_1_h4; (case xm19_1_h1 => k_is); (case xm19_1_h2 => k_is); (case xm19_1_h3 => k_is); (case xm19_1_h4 => first | rfl | k_is)))
      (case xm20_1 => (refine' DD.exm_of rfl rfl ?xm20_1_h1 ?xm20_1_h2 ?xm20_1_h3 ?xm20_1_h4; (case xm20_1_h1 => k_is); (case xm20_1_h2 => k_is); (case xm20_1_h3 => k_is); (case xm20_1_h4 => first | rfl | k_is)))
      (case xm21_1 => (refine' DD.exm_of rfl rfl ?xm21_1_h1 ?xm21_1_h2 ?xm21_1_h3 ?xm21_1_h4; (case xm21_1_h1 => k_is); (case xm21_1_h2 => k_is); (case xm21_1_h3 => k_is); (case xm21_1_h4 => first | rfl | k_is)))
      (case xm22_1 => (refine' DD.exm_of rfl rfl ?xm22_1_h1 ?xm22_1_h2 ?xm22_1_h3 ?xm22_1_h4; (case xm22_1_h1 => k_is); (case xm22_1_h2 => k_is); (case xm22_1_h3 => k_is); (case xm22_1_h4 => first | rfl | k_is)))
      (case xm23_1 => (refine' DD.exm_of rfl rfl ?xm23_1_h1 ?xm23_1_h2 ?xm23_1_h3 ?xm23_1_h4; (case xm23_1_h1 => k_is); (case xm23_1_h2 => k_is); (case xm23_1_h3 => k_is); (case xm23_1_h4 => first | rfl | k_is)))
      (case xm24_1 => (refine' DD.exm_of rfl rfl ?xm24_1_h1 ?xm24_1_h2 ?xm24_1_h3 ?xm24_1_h4; (case xm24_1_h1 => k_is); (case xm24_1_h2 => k_is); (case xm24_1_h3 => k_is); (case xm24_1_h4 => first | rfl | k_is)))
      (case xm25_1 => (refine' DD.exm_of rfl rfl ?xm25_1_h1 ?xm25_1_h2 ?xm25_1_h3 ?xm25_1_h4; (case xm25_1_h1 => k_is); (case xm25_1_h2 => k_is); (case xm25_1_h3 => k_is); (case xm25_1_h4 => first | rfl | k_is)))
      (case xm26_1 => (refine' DD.exm_of rfl rfl ?xm26_1_h1 ?xm26_1_h2 ?xm26_1_h3 ?xm26_1_h4; (case xm26_1_h1 => k_is); (case xm26_1_h2 => k_is); (case xm26_1_h3 => k_is); (case xm26_1_h4 => first | rfl | k_is)))
      (case tc2 => (refine' DD.TyC.of rfl ?tc2_h2 ?tc2_h3; (case tc2_h2 => k_is); (case tc2_h3 => k_is)))
      (case tc3 => (refine' DD.TyC.of rfl ?tc3_h2 ?tc3_h3; (case tc3_h2 => k_is); (case tc3_h3 => k_is)))
      (case tc4 => (refine' DD.TyC.of rfl ?tc4_h2 ?tc4_h3; (case tc4_h2 => k_is); (case tc4_h3 => k_is)))
      (case tc5 => (refine' DD.TyC.of rfl ?tc5_h2 ?tc5_h3; (case tc5_h2 => k_is); (case tc5_h3 => k_is)))
      (case tc6 => (refine' DD.TyC.of rfl ?tc6_h2 ?tc6_h3; (case tc6_h2 => k_is); (case tc6_h3 => k_is)))
      (case tc7 => (refine' DD.TyC.of rfl ?tc7_h2 ?tc7_h3; (case tc7_h2 => k_is); (case tc7_h3 => k_is)))
      (case tc8 => (refine' DD.TyC.of rfl ?tc8_h2 ?tc8_h3; (case tc8_h2 => k_is); (case tc8_h3 => k_is)))
      (case tc9 => (refine' DD.TyC.of rfl ?tc9_h2 ?tc9_h3; (case tc9_h2 => k_is); (case tc9_h3 => k_is)))
      (case tc10 => (refine' DD.TyC.of rfl ?tc10_h2 ?tc10_h3; (case tc10_h2 => k_is); (case tc10_h3 => k_is)))
      (case tc11 => (refine' DD.TyC.of rfl ?tc11_h2 ?tc11_h3; (case tc11_h2 => k_is); (case tc11_h3 => k_is)))
      (case tc12 => (refine' DD.TyC.of rfl ?tc12_h2 ?tc12_h3; (case tc12_h2 => k_is); (case tc12_h3 => k_is)))
      (case tc13 => (refine' DD.TyC.of rfl ?tc13_h2 ?tc13_h3; (case tc13_h2 => k_is); (case tc13_h3 => k_is)))
      (case tc14 => (refine' DD.TyC.of rfl ?tc14_h2 ?tc14_h3; (case tc14_h2 => k_is); (case tc14_h3 => k_is)))
      (case tc15 => (refine' DD.TyC.of rfl ?tc15_h2 ?tc15_h3; (case tc15_h2 => k_is); (case tc15_h3 => k_is)))
      (case tc16 => (refine' DD.TyC.of rfl ?tc16_h2 ?tc16_h3; (case tc16_h2 => k_is); (case tc16_h3 => k_is)))
      (case tc17 => (refine' DD.TyC.of rfl ?tc17_h2 ?tc17_h3; (case tc17_h2 => k_is); (case tc17_h3 => k_is)))
      (case tc18 => (refine' DD.TyC.of rfl ?tc18_h2 ?tc18_h3; (case tc18_h2 => k_is); (case tc18_h3 => k_is)))
      (case tc19 => (refine' DD.TyC.of rfl ?tc19_h2 ?tc19_h3; (case tc19_h2 => k_is); (case tc19_h3 => k_is)))
      (case tc20 => (refine' DD.TyC.of rfl ?tc20_h2 ?tc20_h3; (case tc20_h2 => k_is); (case tc20_h3 => k_is)))
      (case tc21 => (refine' DD.TyC.of rfl ?tc21_h2 ?tc21_h3; (case tc21_h2 => k_is); (case tc21_h3 => k_is)))
      (case tc22 => (refine' DD.TyC.of rfl ?tc22_h2 ?tc22_h3; (case tc22_h2 => k_is); (case tc22_h3 => k_is)))
      (case tc23 => (refine' DD.TyC.of rfl ?tc23_h2 ?tc23_h3; (case tc23_h2 => k_is); (case tc23_h3 => k_is)))
      (case tc24 => (refine' DD.TyC.of rfl ?tc24_h2 ?tc24_h3; (case tc24_h2 => k_is); (case tc24_h3 => k_is)))
      (case tc25 => (refine' DD.TyC.of rfl ?tc25_h2 ?tc25_h3; (case tc25_h2 => k_is); (case tc25_h3 => k_is)))
      (case tc26 => (refine' DD.TyC.of rfl ?tc26_h2 ?tc26_h3; (case tc26_h2 => k_is); (case tc26_h3 => k_is)))
      (case kb1_ValueError => (refine' DD.kit_ofB rfl ?h4; (case h4 => first | rfl | k_is)))
      (case kb2_ValueError => (refine' DD.kit_ofB rfl ?h4; (case h4 => first | rfl | k_is)))
      (case kb3_ValueError => (refine' DD.kit_ofB rfl ?h4; (case h4 => first | rfl | k_is)))
      (case kb4_ValueError => (refine' DD.kit_ofB rfl ?h4; (case h4 => first | rfl | k_is)))
      (case kb5_ValueError => (refine' DD.kit_ofB rfl ?h4; (case h4 => first | rfl | k_is)))
      (case kb6_ValueError => (refine' DD.kit_ofB rfl ?h4; (case h4 => first | rfl | k_is)))
      (case kb7_ValueError => (refine' DD.kit_ofB rfl ?h4; (case h4 => first | rfl | k_is)))
      (case kb8_ValueError => (refine' DD.kit_ofB rfl ?h4; (case h4 => first | rfl | k_is)))
      (case kb9_ValueError => (refine' DD.kit_ofB rfl ?h4; (case h4 => first | rfl | k_is)))
      (case kb10_ValueError => (refine' DD.kit_ofB rfl ?h4; (case h4 => first | rfl | k_is)))
      (case kb11_ValueError => (refine' DD.kit_ofB rfl ?h4; (case h4 => first | rfl | k_is)))
      (case kb12_ValueError => (refine' DD.kit_ofB rfl ?h4; (case h4 => first | rfl | k_is)))
      (case kb13_ValueError => (refine' DD.kit_ofB rfl ?h4; (case h4 => first | rfl | k_is)))
      (case kb14_ValueError => (refine' DD.kit_ofB rfl ?h4; (case h4 => first | rfl | k_is)))
      (case kb15_ValueError => (refine' DD.kit_ofB rfl ?h4; (case h4 => first | rfl | k_is)))
      (case kb16_ValueError => (refine' DD.kit_ofB rfl ?h4; (case h4 => first | rfl | k_is)))
      (case kb17_ValueError => (refine' DD.kit_ofB rfl ?h4; (case h4 => first | rfl | k_is)))
      (case kb18_ValueError => (refine' DD.kit_ofB rfl ?h4; (case h4 => first | rfl | k_is)))
      (case kb19_ValueError => (refine' DD.kit_ofB rfl ?h4; (case h4 => first | rfl | k_is)))
      (case kb20_ValueError => (refine' DD.kit_ofB rfl ?h4; (case h4 => first | rfl | k_is)))
      (case kb21_ValueError => (refine' DD.kit_ofB rfl ?h4; (case h4 => first | rfl | k_is)))
      (case kb22_ValueError => (refine' DD.kit_ofB rfl ?h4; (case h4 => first | rfl | k_is)))
      (case kb23_ValueError => (refine' DD.kit_ofB rfl ?h4; (case h4 => first | rfl | k_is)))
      (case kb24_ValueError => (refine' DD.kit_ofB rfl ?h4; (case h4 => first | rfl | k_is)))
      (case kb25_ValueError => (refine' DD.kit_ofB rfl ?h4; (case h4 => first | rfl | k_is)))
      (case kb26_ValueError => (refine' DD.kit_ofB rfl ?h4; (case h4 => first | rfl | k_is)))
      (case sb1 => (refine' (DD.all_cons' (DD.SubF.of rfl rfl (by decide +kernel) ?s1_2) (DD.all_cons' (DD.SubF.of rfl rfl (by decide +kernel) ?s1_3) (DD.all_cons' (DD.SubF.of rfl rfl (by decide +kernel) ?s1_4) (DD.all_cons' (DD.SubF.of rfl rfl (by decide +kernel) ?s1_5) (DD.all_cons' (DD.SubF.of rfl rfl (by decide +kernel) ?s1_6) (DD.all_cons' (DD.SubF.of rfl rfl (by decide +kernel) ?s1_7) (DD.all_cons' (DD.SubF.of rfl rfl (by decide +kernel) ?s1_8) (DD.all_cons' (DD.SubF.of rfl rfl (by decide +kernel) ?s1_9) (DD.all_cons' (DD.SubF.of rfl rfl (by decide +kernel) ?s1_10) (DD.all_cons' (DD.SubF.of rfl rfl (by decide +kernel) ?s1_11) (DD.all_cons' (DD.SubF.of rfl rfl (by decide +kernel) ?s1_12) (DD.all_cons' (DD.SubF.of rfl rfl (by decide +kernel) ?s1_13) (DD.all_cons' (DD.SubF.of rfl rfl (by decide +kernel) ?s1_14) (DD.all_cons' (DD.SubF.of rfl rfl (by decide +kernel) ?s1_15) (DD.all_cons' (DD.SubF.of rfl rfl (by decide +kernel) ?s1_16) (DD.all_cons' (DD.SubF.of rfl rfl (by decide +kernel) ?s1_17) (DD.all_cons' (DD.SubF.of rfl rfl (by decide +kernel) ?s1_18) (DD.all_cons' (DD.SubF.of rfl rfl (by decide +kernel) ?s1_19) (DD.all_cons' (DD.SubF.of rfl rfl (by decide +kernel) ?s1_20) (DD.all_cons' (DD.SubF.of rfl rfl (by decide +kernel) ?s1_21) (DD.all_cons' (DD.SubF.of rfl rfl (by decide +kernel) ?s1_22) (DD.all_cons' (DD.SubF.of rfl rfl (by decide +kernel) ?s1_23) (DD.all_cons' (DD.SubF.of rfl rfl (by decide +kernel) ?s1_24) (DD.all_cons' (DD.SubF.of rfl rfl (by decide +kernel) ?s1_25) (DD.all_cons' (DD.SubF.of rfl rfl (by decide +kernel) ?s1_26) DD.all_nil'))))))))))))))))))))))))); (case s1_2 => k_is); (case s1_3 => k_is); (case s1_4 => k_is); (case s1_5 => k_is); (case s1_6 => k_is); (case s1_7 => k_is); (case s1_8 => k_is); (case s1_9 => k_is); (case s1_10 => k_is); (case s1_11 => k_is); (case s1_12 => k_is); (case s1_13 => k_is); (case s1_14 => k_is); (case s1_15 => k_is); (case s1_16 => k_is); (case s1_17 => k_is); (case s1_18 => k_is); (case s1_19 => k_is); (case s1_20 => k_is); (case s1_21 => k_is); (case s1_22 => k_is); (case s1_23 => k_is); (case s1_24 => k_is); (case s1_25 => k_is); (case s1_26 => k_is)))
      (case sb2 => (refine' (DD.all_cons' (DD.SubF.of rfl rfl (by decide +kernel) ?s2_3) (DD.all_cons' (DD.SubF.of rfl rfl (by decide +kernel) ?s2_4) (DD.all_cons' (DD.SubF.of rfl rfl (by decide +kernel) ?s2_5) (DD.all_cons' (DD.SubF.of rfl rfl (by decide +kernel) ?s2_6) (DD.all_cons' (DD.SubF.of rfl rfl (by decide +kernel) ?s2_7) (DD.all_cons' (DD.SubF.of rfl rfl (by decide +kernel) ?s2_8) (DD.all_cons' (DD.SubF.of rfl rfl (by decide +kernel) ?s2_9) (DD.all_cons' (DD.SubF.of rfl rfl (by decide +kernel) ?s2_10) (DD.all_cons' (DD.SubF.of rfl rfl (by decide +kernel) ?s2_11) (DD.all_cons' (DD.SubF.of rfl rfl (by decide +kernel) ?s2_12) (DD.all_cons' (DD.SubF.of rfl rfl (by decide +kernel) ?s2_13) (DD.all_cons' (DD.SubF.of rfl rfl (by decide +kernel) ?s2_14) (DD.all_cons' (DD.SubF.of rfl rfl (by decide +kernel) ?s2_15) (DD.all_cons' (DD.SubF.of rfl rfl (by decide +kernel) ?s2_16) (DD.all_cons' (DD.SubF.of rfl rfl (by decide +kernel) ?s2_17) (DD.all_cons' (DD.SubF.of rfl rfl (by decide +kernel) ?s2_18) (DD.all_cons' (DD.SubF.of rfl rfl (by decide +kernel) ?s2_19) (DD.all_cons' (DD.SubF.of rfl rfl (by decide +kernel) ?s2_20) (DD.all_cons' (DD.SubF.of rfl rfl (by decide +kernel) ?s2_21) (DD.all_cons' (DD.SubF.of rfl rfl (by decide +kernel) ?s2_22) (DD.all_cons' (DD.SubF.of rfl rfl (by decide +kernel) ?s2_23) (DD.all_cons' (DD.SubF.of rfl rfl (by decide +kernel) ?s2_24) (DD.all_cons' (DD.SubF.of rfl rfl (by decide +kernel) ?s2_25) (DD.all_cons' (DD.SubF.of rfl rfl (by decide +kernel) ?s2_26) DD.all_nil')))))))))))))))))))))))); (case s2_3 => k_is); (case s2_4 => k_is); (case s2_5 => k_is); (case s2_6 => k_is); (case s2_7 => k_is); (case s2_8 => k_is); (case s2_9 => k_is); (case s2_10 => k_is); (case s2_11 => k_is); (case s2_12 => k_is); (case s2_13 => k_is); (case s2_14 => k_is); (case s2_15 => k_is); (case s2_16 => k_is); (case s2_17 => k_is); (case s2_18 => k_is); (case s2_19 => k_is); (case s2_20 => k_is); (case s2_21 => k_is); (case s2_22 => k_is); (case s2_23 => k_is); (case s2_24 => k_is); (case s2_25 => k_is); (case s2_26 => k_is)))
      (case sb3 => (refine' (DD.all_cons' (DD.SubF.of rfl rfl (by decide +kernel) ?s3_2) (DD.all_cons' (DD.SubF.of rfl rfl (by decide +kernel) ?s3_4) (DD.all_cons' (DD.SubF.of rfl rfl (by decide +kernel) ?s3_5) (DD.all_cons' (DD.SubF.of rfl rfl (by decide +kernel) ?s3_6) (DD.all_cons' (DD.SubF.of rfl rfl (by decide +kernel) ?s3_7) (DD.all_cons' (DD.SubF.of rfl rfl (by decide +kernel) ?s3_8) (DD.all_cons' (DD.SubF.of rfl rfl (by decide +kernel) ?s3_9) (DD.all_cons' (DD.SubF.of rfl rfl (by decide +kernel) ?s3_10) (DD.all_cons' (DD.SubF.of rfl rfl (by decide +kernel) ?s3_11) (DD.all_cons' (DD.SubF.of rfl rfl (by decide +kernel) ?s3_12) (DD.all_cons' (DD.SubF.of rfl rfl (by decide +kernel) ?s3_13) (DD.all_cons' (DD.SubF.of rfl rfl (by decide +kernel) ?s3_14) (DD.all_cons' (DD.SubF.of rfl rfl (by decide +kernel) ?s3_15) (DD.all_cons' (DD.SubF.of rfl rfl (by decide +kernel) ?s3_16) (DD.all_cons' (DD.SubF.of rfl rfl (by decide +kernel) ?s3_17) (DD.all_cons' (DD.SubF.of rfl rfl (by decide +kernel) ?s3_18) (DD.all_cons' (DD.SubF.of rfl rfl (by decide +kernel) ?s3_19) (DD.all_cons' (DD.SubF.of rfl rfl (by decide +kernel) ?s3_20) (DD.all_cons' (DD.SubF.of rfl rfl (by decide +kernel) ?s3_21) (DD.all_cons' (DD.SubF.of rfl rfl (by decide +kernel) ?s3_22) (DD.all_cons' (DD.SubF.of rfl rfl (by decide +kernel) ?s3_23) (DD.all_cons' (DD.SubF.of rfl rfl (by decide +kernel) ?s3_24) (DD.all_cons' (DD.SubF.of rfl rfl (by decide +kernel) ?s3_25) (DD.all_cons' (DD.SubF.of rfl rfl (by decide +kernel) ?s3_26) DD.all_nil')))))))))))))))))))))))); (case s3_2 => k_is); (case s3_4 => k_is); (case s3_5 => k_is); (case s3_6 => k_is); (case s3_7 => k_is); (case s3_8 => k_is); (case s3_9 => k_is); (case s3_10 => k_is); (case s3_11 => k_is); (case s3_12 => k_is); (case s3_13 => k_is); (case s3_14 => k_is); (case s3_15 => k_is); (case s3_16 => k_is); (case s3_17 => k_is); (case s3_18 => k_is); (case s3_19 => k_is); (case s3_20 => k_is); (case s3_21 => k_is); (case s3_22 => k_is); (case s3_23 => k_is); (case s3_24 => k_is); (case s3_25 => k_is); (case s3_26 => k_is)))
      (case sb4 => (refine' (DD.all_cons' (DD.SubF.of rfl rfl (by decide +kernel) ?s4_2) (DD.all_cons' (DD.SubF.of rfl rfl (by decide +kernel) ?s4_3) (DD.all_cons' (DD.SubF.of rfl rfl (by decide +kernel) ?s4_5) (DD.all_cons' (DD.SubF.of rfl rfl (by decide +kernel) ?s4_6) (DD.all_cons' (DD.SubF.of rfl rfl (by decide +kernel) ?s4_7) (DD.all_cons' (DD.SubF.of rfl rfl (by decide +kernel) ?s4_8) (DD.all_cons' (DD.SubF.of rfl rfl (by decide +kernel) ?s4_9) (DD.all_cons' (DD.SubF.of rfl rfl (by decide +kernel) ?s4_10) (DD.all_cons' (DD.SubF.of rfl rfl (by decide +kernel) ?s4_11) (DD.all_cons' (DD.SubF.of rfl rfl (by decide +kernel) ?s4_12) (DD.all_cons' (DD.SubF.of rfl rfl (by decide +kernel) ?s4_13) (DD.all_cons' (DD.SubF.of rfl rfl (by decide +kernel) ?s4_14) (DD.all_cons' (DD.SubF.of rfl rfl (by decide +kernel) ?s4_15) (DD.all_cons' (DD.SubF.of rfl rfl (by decide +kernel) ?s4_16) (DD.all_cons' (DD.SubF.of rfl rfl (by decide +kernel) ?s4_17) (DD.all_cons' (DD.SubF.of rfl rfl (by decide +kernel) ?s4_18) (DD.all_cons' (DD.SubF.of rfl rfl (by decide +kernel) ?s4_19) (DD.all_cons' (DD.SubF.of rfl rfl (by decide +kernel) ?s4_20) (DD.all_cons' (DD.SubF.of rfl rfl (by decide +kernel) ?s4_21) (DD.all_cons' (DD.SubF.of rfl rfl (by decide +kernel) ?s4_22) (DD.all_cons' (DD.SubF.of rfl rfl (by decide +kernel) ?s4_23) (DD.all_cons' (DD.SubF.of rfl rfl (by decide +kernel) ?s4_24) (DD.all_cons' (DD.SubF.of rfl rfl (by decide +kernel) ?s4_25) (DD.all_cons' (DD.SubF.of rfl rfl (by decide +kernel) ?s4_26) DD.all_nil')))))))))))))))))))))))); (case s4_2 => k_is); (case s4_3 => k_is); (case s4_5 => k_is); (case s4_6 => k_is); (case s4_7 => k_is); (case s4_8 => k_is); (case s4_9 => k_is); (case s4_10 => k_is); (case s4_11 => k_is); (case s4_12 => k_is); (case s4_13 => k_is); (case s4_14 => k_is); (case s4_15 => k_is); (case s4_16 => k_is); (case s4_17 => k_is); (case s4_18 => k_is); (case s4_19 => k_is); (case s4_20 => k_is); (case s4_21 => k_is); (case s4_22 => k_is); (case s4_23 => k_is); (case s4_24 => k_is); (case s4_25 => k_is); (case s4_26 => k_is)))
      (case sb5 => (refine' (DD.all_cons' (DD.SubF.of rfl rfl (by decide +kernel) ?s5_2) (DD.all_cons' (DD.SubF.of rfl rfl (by decide +kernel) ?s5_3) (DD.all_cons' (DD.SubF.of rfl rfl (by decide +kernel) ?s5_4) (DD.all_cons' (DD.SubF.of rfl rfl (by decide +kernel) ?s5_6) (DD.all_cons' (DD.SubF.of rfl rfl (by decide +kernel) ?s5_7) (DD.all_cons' (DD.SubF.of rfl rfl (by decide +kernel) ?s5_8) (DD.all_cons' (DD.SubF.of rfl rfl (by decide +kernel) ?s5_9) (DD.all_cons' (DD.SubF.of rfl rfl (by decide +kernel) ?s5_10) (DD.all_cons' (DD.SubF.of rfl rfl (by decide +kernel) ?s5_11) (DD.all_cons' (DD.SubF.of rfl rfl (by decide +kernel) ?s5_12) (DD.all_cons' (DD.SubF.of rfl rfl (by decide +kernel) ?s5_13) (DD.all_cons' (DD.SubF.of rfl rfl (by decide +kernel) ?s5_14) (DD.all_cons' (DD.SubF.of rfl rfl (by decide +kernel) ?s5_15) (DD.all_cons' (DD.SubF.of rfl rfl (by decide +kernel) ?s5_16) (DD.all_cons' (DD.SubF.of rfl rfl (by decide +kernel) ?s5_17) (DD.all_cons' (DD.SubF.of rfl rfl (by decide +kernel) ?s5_18) (DD.all_cons' (DD.SubF.of rfl rfl (by decide +kernel) ?s5_19) (DD.all_cons' (DD.SubF.of rfl rfl (by decide +kernel) ?s5_20) (DD.all_cons' (DD.SubF.of rfl rfl (by decide +kernel) ?s5_21) (DD.all_cons' (DD.SubF.of rfl rfl (by decide +kernel) ?s5_22) (DD.all_cons' (DD.SubF.of rfl rfl (by decide +kernel) ?s5_23) (DD.all_cons' (DD.SubF.of rfl rfl (by decide +kernel) ?s5_24) (DD.all_cons' (DD.SubF.of rfl rfl (by decide +kernel) ?s5_25) (DD.all_cons' (DD.SubF.of rfl rfl (by decide +kernel) ?s5_26) DD.all_nil')))))))))))))))))))))))); (case s5_2 => k_is); (case s5_3 => k_is); (case s5_4 => k_is); (case s5_6 => k_is); (case s5_7 => k_is); (case s5_8 => k_is); (case s5_9 => k_is); (case s5_10 => k_is); (case s5_11 => k_is); (case s5_12 => k_is); (case s5_13 => k_is); (case s5_14 => k_is); (case s5_15 => k_is); (case s5_16 => k_is); (case s5_17 => k_is); (case s5_18 => k_is); (case s5_19 => k_is); (case s5_20 => k_is); (case s5_21 => k_is); (case s5_22 => k_is); (case s5_23 => k_is); (case s5_24 => k_is); (case s5_25 => k_is); (case s5_26 => k_is)))
      (case sb6 => (refine' (DD.all_cons' (DD.SubF.of rfl rfl (by decide +kernel) ?s6_2) (DD.all_cons' (DD.SubF.of rfl rfl (by decide +kernel) ?s6_3) (DD.all_cons' (DD.SubF.of rfl rfl (by decide +kernel) ?s6_4) (DD.all_cons' (DD.SubF.of rfl rfl (by decide +kernel) ?s6_5) (DD.all_cons' (DD.SubF.of rfl rfl (by decide +kernel) ?s6_7) (DD.all_cons' (DD.SubF.of rfl rfl (by decide +kernel) ?s6_8) (DD.all_cons' (DD.SubF.of rfl rfl (by decide +kernel) ?s6_9) (DD.all_cons' (DD.SubF.of rfl rfl (by decide +kernel) ?s6_10) (DD.all_cons' (DD.SubF.of rfl rfl (by decide +kernel) ?s6_11) (DD.all_cons' (DD.SubF.of rfl rfl (by decide +kernel) ?s6_12) (DD.all_cons' (DD.SubF.of rfl rfl (by decide +kernel) ?s6_13) (DD.all_cons' (DD.SubF.of rfl rfl (by decide +kernel) ?s6_14) (DD.all_cons' (DD.SubF.of rfl rfl (by decide +kernel) ?s6_15) (DD.all_cons' (DD.SubF.of rfl rfl (by decide +kernel) ?s6_16) (DD.all_cons' (DD.SubF.of rfl rfl (by decide +kernel) ?s6_17) (DD.all_cons' (DD.SubF.of rfl rfl (by decide +kernel) ?s6_18) (DD.all_cons' (DD.SubF.of rfl rfl (by decide +kernel) ?s6_19) (DD.all_cons' (DD.SubF.of rfl rfl (by decide +kernel) ?s6_20) (DD.all_cons' (DD.SubF.of rfl rfl (by decide +kernel) ?s6_21) (DD.all_cons' (DD.SubF.of rfl rfl (by decide +kernel) ?s6_22) (DD.all_cons' (DD.SubF.of rfl rfl (by decide +kernel) ?s6_23) (DD.all_cons' (DD.SubF.of rfl rfl (by decide +kernel) ?s6_24) (DD.all_cons' (DD.SubF.of rfl rfl (by decide +kernel) ?s6_25) (DD.all_cons' (DD.SubF.of rfl rfl (by decide +kernel) ?s6_26) DD.all_nil')))))))))))))))))))))))); (case s6_2 => k_is); (case s6_3 => k_is); (case s6_4 => k_is); (case s6_5 => k_is); (case s6_7 => k_is); (case s6_8 => k_is); (case s6_9 => k_is); (case s6_10 => k_is); (case s6_11 => k_is); (case s6_12 => k_is); (case s6_13 => k_is); (case s6_14 => k_is); (case s6_15 => k_is); (case s6_16 => k_is); (case s6_17 => k_is); (case s6_18 => k_is); (case s6_19 => k_is); (case s6_20 => k_is); (case s6_21 => k_is); (case s6_22 => k_is); (case s6_23 => k_is); (case s6_24 => k_is); (case s6_25 => k_is); (case s6_26 => k_is)))
      (case sb7 => (refine' (DD.all_cons' (DD.SubF.of rfl rfl (by decide +kernel) ?s7_2) (DD.all_cons' (DD.SubF.of rfl rfl (by decide +kernel) ?s7_3) (DD.all_cons' (DD.SubF.of rfl rfl (by decide +kernel) ?s7_4) (DD.all_cons' (DD.SubF.of rfl rfl (by decide +kernel) ?s7_5) (DD.all_cons' (DD.SubF.of rfl rfl (by decide +kernel) ?s7_6) (DD.all_cons' (DD.SubF.of rfl rfl (by decide +kernel) ?s7_8) (DD.all_cons' (DD.SubF.of rfl rfl (by decide +kernel) ?s7_9) (DD.all_cons' (DD.SubF.of rfl rfl (by decide +kernel) ?s7_10) (DD.all_cons' (DD.SubF.of rfl rfl (by decide +kernel) ?s7_11) (DD.all_cons' (DD.SubF.of rfl rfl (by decide +kernel) ?s7_12) (DD.all_cons' (DD.SubF.of rfl rfl (by decide +kernel) ?s7_13) (DD.all_cons' (DD.SubF.of rfl rfl (by decide +kernel) ?s7_14) (DD.all_cons' (DD.SubF.of rfl rfl (by decide +kernel) ?s7_15) (DD.all_cons' (DD.SubF.of rfl rfl (by decide +kernel) ?s7_16) (DD.all_cons' (DD.SubF.of rfl rfl (by decide +kernel) ?s7_17) (DD.all_cons' (DD.SubF.of rfl rfl (by decide +kernel) ?s7_18) (DD.all_cons' (DD.SubF.of rfl rfl (by decide +kernel) ?s7_19) (DD.all_cons' (DD.SubF.of rfl rfl (by decide +kernel) ?s7_20) (DD.all_cons' (DD.SubF.of rfl rfl (by decide +kernel) ?s7_21) (DD.all_cons' (DD.SubF.of rfl rfl (by decide +kernel) ?s7_22) (DD.all_cons' (DD.SubF.of rfl rfl (by decide +kernel) ?s7_23) (DD.all_cons' (DD.SubF.of rfl rfl (by decide +kernel) ?s7_24) (DD.all_cons' (DD.SubF.of rfl rfl (by decide +kernel) ?s7_25) (DD.all_cons' (DD.SubF.of rfl rfl (by decide +kernel) ?s7_26) DD.all_nil')))))))))))))))))))))))); (case s7_2 => k_is); (case s7_3 => k_is); (case s7_4 => k_is); (case s7_5 => k_is); (case s7_6 => k_is); (case s7_8 => k_is); (case s7_9 => k_is); (case s7_10 => k_is); (case s7_11 => k_is); (case s7_12 => k_is); (case s7_13 => k_is); (case s7_14 => k_is); (case s7_15 => k_is); (case s7_16 => k_is); (case s7_17 => k_is); (case s7_18 => k_is); (case s7_19 => k_is); (case s7_20 => k_is); (case s7_21 => k_is); (case s7_22 => k_is); (case s7_23 => k_is); (case s7_24 => k_is); (case s7_25 => k_is); (case s7_26 => k_is)))
      (case sb8 => (refine' (DD.all_cons' (DD.SubF.of rfl rfl (by decide +kernel) ?s8_2) (DD.all_cons' (DD.SubF.of rfl rfl (by decide +kernel) ?s8_3) (DD.all_cons' (DD.SubF.of rfl rfl (by decide +kernel) ?s8_4) (DD.all_cons' (DD.SubF.of rfl rfl (by decide +kernel) ?s8_5) (DD.all_cons' (DD.SubF.of rfl rfl (by decide +kernel) ?s8_6) (DD.all_cons' (DD.SubF.of rfl rfl (by decide +kernel) ?s8_7) (DD.all_cons' (DD.SubF.of rfl rfl (by decide +kernel) ?s8_9) (DD.all_cons' (DD.SubF.of rfl rfl (by decide +kernel) ?s8_10) (DD.all_cons' (DD.SubF.of rfl rfl (by decide +kernel) ?s8_11) (DD.all_cons' (DD.SubF.of rfl rfl (by decide +kernel) ?s8_12) (DD.all_cons' (DD.SubF.of rfl rfl (by decide +kernel) ?s8_13) (DD.all_cons' (DD.SubF.of rfl rfl (by decide +kernel) ?s8_14) (DD.all_cons' (DD.SubF.of rfl rfl (by decide +kernel) ?s8_15) (DD.all_cons' (DD.SubF.of rfl rfl (by decide +kernel) ?s8_16) (DD.all_cons' (DD.SubF.of rfl rfl (by decide +kernel) ?s8_17) (DD.all_cons' (DD.SubF.of rfl rfl (by decide +kernel) ?s8_18) (DD.all_cons' (DD.SubF.of rfl rfl (by decide +kernel) ?s8_19) (DD.all_cons' (DD.SubF.of rfl rfl (by decide +kernel) ?s8_20) (DD.all_cons' (DD.SubF.of rfl rfl (by decide +kernel) ?s8_21) (DD.all_cons' (DD.SubF.of rfl rfl (by decide +kernel) ?s8_22) (DD.all_cons' (DD.SubF.of rfl rfl (by decide +kernel) ?s8_23) (DD.all_cons' (DD.SubF.of rfl rfl (by decide +kernel) ?s8_24) (DD.all_cons' (DD.SubF.of rfl rfl (by decide +kernel) ?s8_25) (DD.all_cons' (DD.SubF.of rfl rfl (by decide +kernel) ?s8_26) DD.all_nil')))))))))))))))))))))))); (case s8_2 => k_is); (case s8_3 => k_is); (case s8_4 => k_is); (case s8_5 => k_is); (case s8_6 => k_is); (case s8_7 => k_is); (case s8_9 => k_is); (case s8_10 => k_is); (case s8_11 => k_is); (case s8_12 => k_is); (case s8_13 => k_is); (case s8_14 => k_is); (case s8_15 => k_is); (case s8_16 => k_is); (case s8_17 => k_is); (case s8_18 => k_is); (case s8_19 => k_is); (case s8_20 => k_is); (case s8_21 => k_is); (case s8_22 => k_is); (case s8_23 => k_is); (case s8_24 => k_is); (case s8_25 => k_is); (case s8_26 => k_is)))
      (case sb9 => (refine' (DD.all_cons' (DD.SubF.of rfl rfl (by decide +kernel) ?s9_2) (DD.all_cons' (DD.SubF.of rfl rfl (by decide +kernel) ?s9_3) (DD.all_cons' (DD.SubF.of rfl rfl (by decide +kernel) ?s9_4) (DD.all_cons' (DD.SubF.of rfl rfl (by decide +kernel) ?s9_5) (DD.all_cons' (DD.SubF.of rfl rfl (by decide +kernel) ?s9_6) (DD.all_cons' (DD.SubF.of rfl rfl (by decide +kernel) ?s9_7) (DD.all_cons' (DD.SubF.of rfl rfl (by decide +kernel) ?s9_8) (DD.all_cons' (DD.SubF.of rfl rfl (by decide +kernel) ?s9_10) (DD.all_cons' (DD.SubF.of rfl rfl (by decide +kernel) ?s9_11) (DD.all_cons' (DD.SubF.of rfl rfl (by decide +kernel) ?s9_12) (DD.all_cons' (DD.SubF.of rfl rfl (by decide +kernel) ?s9_13) (DD.all_cons' (DD.SubF.of rfl rfl (by decide +kernel) ?s9_14) (DD.all_cons' (DD.SubF.of rfl rfl (by decide +kernel) ?s9_15) (DD.all_cons' (DD.SubF.of rfl rfl (by decide +kernel) ?s9_16) (DD.all_cons' (DD.SubF.of rfl rfl (by decide +kernel) ?s9_17) (DD.all_cons' (DD.SubF.of rfl rfl (by decide +kernel) ?s9_18) (DD.all_cons' (DD.SubF.of rfl rfl (by decide +kernel) ?s9_19) (DD.all_cons' (DD.SubF.of rfl rfl (by decide +kernel) ?s9_20) (DD.all_cons' (DD.SubF.of rfl rfl (by decide +kernel) ?s9_21) (DD.all_cons' (DD.SubF.of rfl rfl (by decide +kernel) ?s9_22) (DD.all_cons' (DD.SubF.of rfl rfl (by decide +kernel) ?s9_23) (DD.all_cons' (DD.SubF.of rfl rfl (by decide +kernel) ?s9_24) (DD.all_cons' (DD.SubF.of rfl rfl (by decide +kernel) ?s9_25) (DD.all_cons' (DD.SubF.of rfl rfl (by decide +kernel) ?s9_26) DD.all_nil')))))))))))))))))))))))); (case s9_2 => k_is); (case s9_3 => k_is); (case s9_4 => k_is); (case s9_5 => k_is); (case s9_6 => k_is); (case s9_7 => k_is); (case s9_8 => k_is); (case s9_10 => k_is); (case s9_11 => k_is); (case s9_12 => k_is); (case s9_13 => k_is); (case s9_14 => k_is); (case s9_15 => k_is); (case s9_16 => k_is); (case s9_17 => k_is); (case s9_18 => k_is); (case s9_19 => k_is); (case s9_20 => k_is); (case s9_21 => k_is); (case s9_22 => k_is); (case s9_23 => k_is); (case s9_24 => k_is); (case s9_25 => k_is); (case s9_26 => k_is)))
      (case sb10 => (refine' (DD.all_cons' (DD.SubF.of rfl rfl (by decide +kernel) ?s10_2) (DD.all_cons' (DD.SubF.of rfl rfl (by decide +kernel) ?s10_3) (DD.all_cons' (DD.SubF.of rfl rfl (by decide +kernel) ?s10_4) (DD.all_cons' (DD.SubF.of rfl rfl (by decide +kernel) ?s10_5) (DD.all_cons' (DD.SubF.of rfl rfl (by decide +kernel) ?s10_6) (DD.all_cons' (DD.SubF.of rfl rfl (by decide +kernel) ?s10_7) (DD.all_cons' (DD.SubF.of rfl rfl (by decide +kernel) ?s10_8) (DD.all_cons' (DD.SubF.of rfl rfl (by decide +kernel) ?s10_9) (DD.all_cons' (DD.SubF.of rfl rfl (by decide +kernel) ?s10_11) (DD.all_cons' (DD.SubF.of rfl rfl (by decide +kernel) ?s10_12) (DD.all_cons' (DD.SubF.of rfl rfl (by decide +kernel) ?s10_13) (DD.all_cons' (DD.SubF.of rfl rfl (by decide +kernel) ?s10_14) (DD.all_cons' (DD.SubF.of rfl rfl (by decide +kernel) ?s10_15) (DD.all_cons' (DD.SubF.of rfl rfl (by decide +kernel) ?s10_16) (DD.all_cons' (DD.SubF.of rfl rfl (by decide +kernel) ?s10_17) (DD.all_cons' (DD.SubF.of rfl rfl (by decide +kernel) ?s10_18) (DD.all_cons' (DD.SubF.of rfl rfl (by decide +kernel) ?s10_19) (DD.all_cons' (DD.SubF.of rfl rfl (by decide +kernel) ?s10_20) (DD.all_cons' (DD.SubF.of rfl rfl (by decide +kernel) ?s10_21) (DD.all_cons' (DD.SubF.of rfl rfl (by decide +kernel) ?s10_22) (DD.all_cons' (DD.SubF.of rfl rfl (by decide +kernel) ?s10_23) (DD.all_cons' (DD.SubF.of rfl rfl (by decide +kernel) ?s10_24) (DD.all_cons' (DD.SubF.of rfl rfl (by decide +kernel) ?s10_25) (DD.all_cons' (DD.SubF.of rfl rfl (by decide +kernel) ?s10_26) DD.all_nil')))))))))))))))))))))))); (case s10_2 => k_is); (case s10_3 => k_is); (case s10_4 => k_is); (case s10_5 => k_is); (case s10_6 => k_is); (case s10_7 => k_is); (case s10_8 => k_is); (case s10_9 => k_is); (case s10_11 => k_is); (case s10_12 => k_is); (case s10_13 => k_is); (case s10_14 => k_is); (case s10_15 => k_is); (case s10_16 => k_is); (case s10_17 => k_is); (case s10_18 => k_is); (case s10_19 => k_is); (case s10_20 => k_is); (case s10_21 => k_is); (case s10_22 => k_is); (case s10_23 => k_is); (case s10_24 => k_is); (case s10_25 => k_is); (case s10_26 => k_is)))
      (case sb11 => (refine' (DD.all_cons' (DD.SubF.of rfl rfl (by decide +kernel) ?s11_2) (DD.all_cons' (DD.SubF.of rfl rfl (by decide +kernel) ?s11_3) (DD.all_cons' (DD.SubF.of rfl rfl (by decide +kernel) ?s11_4) (DD.all_cons' (DD.SubF.of rfl rfl (by decide +kernel) ?s11_5) (DD.all_cons' (DD.SubF.of rfl rfl (by decide +kernel) ?s11_6) (DD.all_cons' (DD.SubF.of rfl rfl (by decide +kernel) ?s11_7) (DD.all_cons' (DD.SubF.of rfl rfl (by decide +kernel) ?s11_8) (DD.all_cons' (DD.SubF.of rfl rfl (by decide +kernel) ?s11_9) (DD.all_cons' (DD.SubF.of rfl rfl (by decide +kernel) ?s11_10) (DD.all_cons' (DD.SubF.of rfl rfl (by decide +kernel) ?s11_12) (DD.all_cons' (DD.SubF.of rfl rfl (by decide +kernel) ?s11_13) (DD.all_cons' (DD.SubF.of rfl rfl (by decide +kernel) ?s11_14) (DD.all_cons' (DD.SubF.of rfl rfl (by decide +kernel) ?s11_15) (DD.all_cons' (DD.SubF.of rfl rfl (by decide +kernel) ?s11_16) (DD.all_cons' (DD.SubF.of rfl rfl (by decide +kernel) ?s11_17) (DD.all_cons' (DD.SubF.of rfl rfl (by decide +kernel) ?s11_18) (DD.all_cons' (DD.SubF.of rfl rfl (by decide +kernel) ?s11_19) (DD.all_cons' (DD.SubF.of rfl rfl (by decide +kernel) ?s11_20) (DD.all_cons' (DD.SubF.of rfl rfl (by decide +kernel) ?s11_21) (DD.all_cons' (DD.SubF.of rfl rfl (by decide +kernel) ?s11_22) (DD.all_cons' (DD.SubF.of rfl rfl (by decide +kernel) ?s11_23) (DD.all_cons' (DD.SubF.of rfl rfl (by decide +kernel) ?s11_24) (DD.all_cons' (DD.SubF.of rfl rfl (by decide +kernel) ?s11_25) (DD.all_cons' (DD.SubF.of rfl rfl (by decide +kernel) ?s11_26) DD.all_nil')))))))))))))))))))))))); (case s11_2 => k_is); (case s11_3 => k_is); (case s11_4 => k_is); (case s11_5 => k_is); (case s11_6 => k_is); (case s11_7 => k_is); (case s11_8 => k_is); (case s11_9 => k_is); (case s11_10 => k_is); (case s11_12 => k_is); (case s11_13 => k_is); (case s11_14 => k_is); (case s11_15 => k_is); (case s11_16 => k_is); (case s11_17 => k_is); (case s11_18 => k_is); (case s11_19 => k_is); (case s11_20 => k_is); (case s11_21 => k_is); (case s11_22 => k_is); (case s11_23 => k_is); (case s11_24 => k_is); (case s11_25 => k_is); (case s11_26 => k_is)))
      (case sb12 => (refine' (DD.all_cons' (DD.SubF.of rfl rfl (by decide +kernel) ?s12_2) (DD.all_cons' (DD.SubF.of rfl rfl (by decide +kernel) ?s12_3) (DD.all_cons' (DD.SubF.of rfl rfl (by decide +kernel) ?s12_4) (DD.all_cons' (DD.SubF.of rfl rfl (by decide +kernel) ?s12_5) (DD.all_cons' (DD.SubF.of rfl rfl (by decide +kernel) ?s12_6) (DD.all_cons' (DD.SubF.of rfl rfl (by decide +kernel) ?s12_7) (DD.all_cons' (DD.SubF.of rfl rfl (by decide +kernel) ?s12_8) (DD.all_cons' (DD.SubF.of rfl rfl (by decide +kernel) ?s12_9) (DD.all_cons' (DD.SubF.of rfl rfl (by decide +kernel) ?s12_10) (DD.all_cons' (DD.SubF.of rfl rfl (by decide +kernel) ?s12_11) (DD.all_cons' (DD.SubF.of rfl rfl (by decide +kernel) ?s12_13) (DD.all_cons' (DD.SubF.of rfl rfl (by decide +kernel) ?s12_14) (DD.all_cons' (DD.SubF.of rfl rfl (by decide +kernel) ?s12_15) (DD.all_cons' (DD.SubF.of rfl rfl (by decide +kernel) ?s12_16) (DD.all_cons' (DD.SubF.of rfl rfl (by decide +kernel) ?s12_17) (DD.all_cons' (DD.SubF.of rfl rfl (by decide +kernel) ?s12_18) (DD.all_cons' (DD.SubF.of rfl rfl (by decide +kernel) ?s12_19) (DD.all_cons' (DD.SubF.of rfl rfl (by decide +kernel) ?s12_20) (DD.all_cons' (DD.SubF.of rfl rfl (by decide +kernel) ?s12_21) (DD.all_cons' (DD.SubF.of rfl rfl (by decide +kernel) ?s12_22) (DD.all_cons' (DD.SubF.of rfl rfl (by decide +kernel) ?s12_23) (DD.all_cons' (DD.SubF.of rfl rfl (by decide +kernel) ?s12_24) (DD.all_cons' (DD.SubF.of rfl rfl (by decide +kernel) ?s12_25) (DD.all_cons' (DD.SubF.of rfl rfl (by decide +kernel) ?s12_26) DD.all_nil')))))))))))))))))))))))); (case s12_2 => k_is); (case s12_3 => k_is); (case s12_4 => k_is); (case s12_5 => k_is); (case s12_6 => k_is); (case s12_7 => k_is); (case s12_8 => k_is); (case s12_9 => k_is); (case s12_10 => k_is); (case s12_11 => k_is); (case s12_13 => k_is); (case s12_14 => k_is); (case s12_15 => k_is); (case s12_16 => k_is); (case s12_17 => k_is); (case s12_18 => k_is); (case s12_19 => k_is); (case s12_20 => k_is); (case s12_21 => k_is); (case s12_22 => k_is); (case s12_23 => k_is); (case s12_24 => k_is); (case s12_25 => k_is); (case s12_26 => k_is)))
      (case sb13 => (refine' (DD.all_cons' (DD.SubF.of rfl rfl (by decide +kernel) ?s13_2) (DD.all_cons' (DD.SubF.of rfl rfl (by decide +kernel) ?s13_3) (DD.all_cons' (DD.SubF.of rfl rfl (by decide +kernel) ?s13_4) (DD.all_cons' (DD.SubF.of rfl rfl (by decide +kernel) ?s13_5) (DD.all_cons' (DD.SubF.of rfl rfl (by decide +kernel) ?s13_6) (DD.all_cons' (DD.SubF.of rfl rfl (by decide +kernel) ?s13_7) (DD.all_cons' (DD.SubF.of rfl rfl (by decide +kernel) ?s13_8) (DD.all_cons' (DD.SubF.of rfl rfl (by decide +kernel) ?s13_9) (DD.all_cons' (DD.SubF.of rfl rfl (by decide +kernel) ?s13_10) (DD.all_cons' (DD.SubF.of rfl rfl (by decide +kernel) ?s13_11) (DD.all_cons' (DD.SubF.of rfl rfl (by decide +kernel) ?s13_12) (DD.all_cons' (DD.SubF.of rfl rfl (by decide +kernel) ?s13_14) (DD.all_cons' (DD.SubF.of rfl rfl (by decide +kernel) ?s13_15) (DD.all_cons' (DD.SubF.of rfl rfl (by decide +kernel) ?s13_16) (DD.all_cons' (DD.SubF.of rfl rfl (by decide +kernel) ?s13_17) (DD.all_cons' (DD.SubF.of rfl rfl (by decide +kernel) ?s13_18) (DD.all_cons' (DD.SubF.of rfl rfl (by decide +kernel) ?s13_19) (DD.all_cons' (DD.SubF.of rfl rfl (by decide +kernel) ?s13_20) (DD.all_cons' (DD.SubF.of rfl rfl (by decide +kernel) ?s13_21) (DD.all_cons' (DD.SubF.of rfl rfl (by decide +kernel) ?s13_22) (DD.all_cons' (DD.SubF.of rfl rfl (by decide +kernel) ?s13_23) (DD.all_cons' (DD.SubF.of rfl rfl (by decide +kernel) ?s13_24) (DD.all_cons' (DD.SubF.of rfl rfl (by decide +kernel) ?s13_25) (DD.all_cons' (DD.SubF.of rfl rfl (by decide +kernel) ?s13_26) DD.all_nil')))))))))))))))))))))))); (case s13_2 => k_is); (case s13_3 => k_is); (case s13_4 => k_is); (case s13_5 => k_is); (case s13_6 => k_is); (case s13_7 => k_is); (case s13_8 => k_is); (case s13_9 => k_is); (case s13_10 => k_is); (case s13_11 => k_is); (case s13_12 => k_is); (case s13_14 => k_is); (case s13_15 => k_is); (case s13_16 => k_is); (case s13_17 => k_is); (case s13_18 => k_is); (case s13_19 => k_is); (case s13_20 => k_is); (case s13_21 => k_is); (case s13_22 => k_is); (case s13_23 => k_is); (case s13_24 => k_is); (case s13_25 => k_is); (case s13_26 => k_is)))
      (case sb14 => (refine' (DD.all_cons' (DD.SubF.of rfl rfl (by decide +kernel) ?s14_2) (DD.all_cons' (DD.SubF.of rfl rfl (by decide +kernel) ?s14_3) (DD.all_cons' (DD.SubF.of rfl rfl (by decide +kernel) ?s14_4) (DD.all_cons' (DD.SubF.of rfl rfl (by decide +kernel) ?s14_5) (DD.all_cons' (DD.SubF.of rfl rfl (by decide +kernel) ?s14_6) (DD.all_cons' (DD.SubF.of rfl rfl (by decide +kernel) ?s14_7) (DD.all_cons' (DD.SubF.of rfl rfl (by decide +kernel) ?s14_8) (DD.all_cons' (DD.SubF.of rfl rfl (by decide +kernel) ?s14_9) (DD.all_cons' (DD.SubF.of rfl rfl (by decide +kernel) ?s14_10) (DD.all_cons' (DD.SubF.of rfl rfl (by decide +kernel) ?s14_11) (DD.all_cons' (DD.SubF.of rfl rfl (by decide +kernel) ?s14_12) (DD.all_cons' (DD.SubF.of rfl rfl (by decide +kernel) ?s14_13) (DD.all_cons' (DD.SubF.of rfl rfl (by decide +kernel) ?s14_15) (DD.all_cons' (DD.SubF.of rfl rfl (by decide +kernel) ?s14_16) (DD.all_cons' (DD.SubF.of rfl rfl (by decide +kernel) ?s14_17) (DD.all_cons' (DD.SubF.of rfl rfl (by decide +kernel) ?s14_18) (DD.all_cons' (DD.SubF.of rfl rfl (by decide +kernel) ?s14_19) (DD.all_cons' (DD.SubF.of rfl rfl (by decide +kernel) ?s14_20) (DD.all_cons' (DD.SubF.of rfl rfl (by decide +kernel) ?s14_21) (DD.all_cons' (DD.SubF.of rfl rfl (by decide +kernel) ?s14_22) (DD.all_cons' (DD.SubF.of rfl rfl (by decide +kernel) ?s14_23) (DD.all_cons' (DD.SubF.of rfl rfl (by decide +kernel) ?s14_24) (DD.all_cons' (DD.SubF.of rfl rfl (by decide +kernel) ?s14_25) (DD.all_cons' (DD.SubF.of rfl rfl (by decide +kernel) ?s14_26) DD.all_nil')))))))))))))))))))))))); (case s14_2 => k_is); (case s14_3 => k_is); (case s14_4 => k_is); (case s14_5 => k_is); (case s14_6 => k_is); (case s14_7 => k_is); (case s14_8 => k_is); (case s14_9 => k_is); (case s14_10 => k_is); (case s14_11 => k_is); (case s14_12 => k_is); (case s14_13 => k_is); (case s14_15 => k_is); (case s14_16 => k_is); (case s14_17 => k_is); (case s14_18 => k_is); (case s14_19 => k_is); (case s14_20 => k_is); (case s14_21 => k_is); (case s14_22 => k_is); (case s14_23 => k_is); (case s14_24 => k_is); (case s14_25 => k_is); (case s14_26 => k_is)))
      (case sb15 => (refine' (DD.all_cons' (DD.SubF.of rfl rfl (by decide +kernel) ?s15_2) (DD.all_cons' (DD.SubF.of rfl rfl (by decide +kernel) ?s15_3) (DD.all_cons' (DD.SubF.of rfl rfl (by decide +kernel) ?s15_4) (DD.all_cons' (DD.SubF.of rfl rfl (by decide +kernel) ?s15_5) (DD.all_cons' (DD.SubF.of rfl rfl (by decide +kernel) ?s15_6) (DD.all_cons' (DD.SubF.of rfl rfl (by decide +kernel) ?s15_7) (DD.all_cons' (DD.SubF.of rfl rfl (by decide +kernel) ?s15_8) (DD.all_cons' (DD.SubF.of rfl rfl (by decide +kernel) ?s15_9) (DD.all_cons' (DD.SubF.of rfl rfl (by decide +kernel) ?s15_10) (DD.all_cons' (DD.SubF.of rfl rfl (by decide +kernel) ?s15_11) (DD.all_cons' (DD.SubF.of rfl rfl (by decide +kernel) ?s15_12) (DD.all_cons' (DD.SubF.of rfl rfl (by decide +kernel) ?s15_13) (DD.all_cons' (DD.SubF.of rfl rfl (by decide +kernel) ?s15_14) (DD.all_cons' (DD.SubF.of rfl rfl (by decide +kernel) ?s15_16) (DD.all_cons' (DD.SubF.of rfl rfl (by decide +kernel) ?s15_17) (DD.all_cons' (DD.SubF.of rfl rfl (by decide +kernel) ?s15_18) (DD.all_cons' (DD.SubF.of rfl rfl (by decide +kernel) ?s15_19) (DD.all_cons' (DD.SubF.of rfl rfl (by decide +kernel) ?s15_20) (DD.all_cons' (DD.SubF.of rfl rfl (by decide +kernel) ?s15_21) (DD.all_cons' (DD.SubF.of rfl rfl (by decide +kernel) ?s15_22) (DD.all_cons' (DD.SubF.of rfl rfl (by decide +kernel) ?s15_23) (DD.all_cons' (DD.SubF.of rfl rfl (by decide +kernel) ?s15_24) (DD.all_cons' (DD.SubF.of rfl rfl (by decide +kernel) ?s15_25) (DD.all_cons' (DD.SubF.of rfl rfl (by decide +kernel) ?s15_26) DD.all_nil')))))))))))))))))))))))); (case s15_2 => k_is); (case s15_3 => k_is); (case s15_4 => k_is); (case s15_5 => k_is); (case s15_6 => k_is); (case s15_7 => k_is); (case s15_8 => k_is); (case s15_9 => k_is); (case s15_10 => k_is); (case s15_11 => k_is); (case s15_12 => k_is); (case s15_13 => k_is); (case s15_14 => k_is); (case s15_16 => k_is); (case s15_17 => k_is); (case s15_18 => k_is); (case s15_19 => k_is); (case s15_20 => k_is); (case s15_21 => k_is); (case s15_22 => k_is); (case s15_23 => k_is); (case s15_24 => k_is); (case s15_25 => k_is); (case s15_26 => k_is)))
      (case sb16 => (refine' (DD.all_cons' (DD.SubF.of rfl rfl (by decide +kernel) ?s16_2) (DD.all_cons' (DD.SubF.of rfl rfl (by decide +kernel) ?s16_3) (DD.all_cons' (DD.SubF.of rfl rfl (by decide +kernel) ?s16_4) (DD.all_cons' (DD.SubF.of rfl rfl (by decide +kernel) ?s16_5) (DD.all_cons' (DD.SubF.of rfl rfl (by decide +kernel) ?s16_6) (DD.all_cons' (DD.SubF.of rfl rfl (by decide +kernel) ?s16_7) (DD.all_cons' (DD.SubF.of rfl rfl (by decide +kernel) ?s16_8) (DD.all_cons' (DD.SubF.of rfl rfl (by decide +kernel) ?s16_9) (DD.all_cons' (DD.SubF.of rfl rfl (by decide +kernel) ?s16_10) (DD.all_cons' (DD.SubF.of rfl rfl (by decide +kernel) ?s16_11) (DD.all_cons' (DD.SubF.of rfl rfl (by decide +kernel) ?s16_12) (DD.all_cons' (DD.SubF.of rfl rfl (by decide +kernel) ?s16_13) (DD.all_cons' (DD.SubF.of rfl rfl (by decide +kernel) ?s16_14) (DD.all_cons' (DD.SubF.of rfl rfl (by decide +kernel) ?s16_15) (DD.all_cons' (DD.SubF.of rfl rfl (by decide +kernel) ?s16_17) (DD.all_cons' (DD.SubF.of rfl rfl (by decide +kernel) ?s16_18) (DD.all_cons' (DD.SubF.of rfl rfl (by decide +kernel) ?s16_19) (DD.all_cons' (DD.SubF.of rfl rfl (by decide +kernel) ?s16_20) (DD.all_cons' (DD.SubF.of rfl rfl (by decide +kernel) ?s16_21) (DD.all_cons' (DD.SubF.of rfl rfl (by decide +kernel) ?s16_22) (DD.all_cons' (DD.SubF.of rfl rfl (by decide +kernel) ?s16_23) (DD.all_cons' (DD.SubF.of rfl rfl (by decide +kernel) ?s16_24) (DD.all_cons' (DD.SubF.of rfl rfl (by decide +kernel) ?s16_25) (DD.all_cons' (DD.SubF.of rfl rfl (by decide +kernel) ?s16_26) DD.all_nil')))))))))))))))))))))))); (case s16_2 => k_is); (case s16_3 => k_is); (case s16_4 => k_is); (case s16_5 => k_is); (case s16_6 => k_is); (case s16_7 => k_is); (case s16_8 => k_is); (case s16_9 => k_is); (case s16_10 => k_is); (case s16_11 => k_is); (case s16_12 => k_is); (case s16_13 => k_is); (case s16_14 => k_is); (case s16_15 => k_is); (case s16_17 => k_is); (case s16_18 => k_is); (case s16_19 => k_is); (case s16_20 => k_is); (case s16_21 => k_is); (case s16_22 => k_is); (case s16_23 => k_is); (case s16_24 => k_is); (case s16_25 => k_is); (case s16_26 => k_is)))
      (case sb17 => (refine' (DD.all_cons' (DD.SubF.of rfl rfl (by decide +kernel) ?s17_2) (DD.all_cons' (DD.SubF.of rfl rfl (by decide +kernel) ?s17_3) (DD.all_cons' (DD.SubF.of rfl rfl (by decide +kernel) ?s17_4) (DD.all_cons' (DD.SubF.of rfl rfl (by decide +kernel) ?s17_5) (DD.all_cons' (DD.SubF.of rfl rfl (by decide +kernel) ?s17_6) (DD.all_cons' (DD.SubF.of rfl rfl (by decide +kernel) ?s17_7) (DD.all_cons' (DD.SubF.of rfl rfl (by decide +kernel) ?s17_8) (DD.all_cons' (DD.SubF.of rfl rfl (by decide +kernel) ?s17_9) (DD.all_cons' (DD.SubF.of rfl rfl (by decide +kernel) ?s17_10) (DD.all_cons' (DD.SubF.of rfl rfl (by decide +kernel) ?s17_11) (DD.all_cons' (DD.SubF.of rfl rfl (by decide +kernel) ?s17_12) (DD.all_cons' (DD.SubF.of rfl rfl (by decide +kernel) ?s17_13) (DD.all_cons' (DD.SubF.of rfl rfl (by decide +kernel) ?s17_14) (DD.all_cons' (DD.SubF.of rfl rfl (by decide +kernel) ?s17_15) (DD.all_cons' (DD.SubF.of rfl rfl (by decide +kernel) ?s17_16) (DD.all_cons' (DD.SubF.of rfl rfl (by decide +kernel) ?s17_18) (DD.all_cons' (DD.SubF.of rfl rfl (by decide +kernel) ?s17_19) (DD.all_cons' (DD.SubF.of rfl rfl (by decide +kernel) ?s17_20) (DD.all_cons' (DD.SubF.of rfl rfl (by decide +kernel) ?s17_21) (DD.all_cons' (DD.SubF.of rfl rfl (by decide +kernel) ?s17_22) (DD.all_cons' (DD.SubF.of rfl rfl (by decide +kernel) ?s17_23) (DD.all_cons' (DD.SubF.of rfl rfl (by decide +kernel) ?s17_24) (DD.all_cons' (DD.SubF.of rfl rfl (by decide +kernel) ?s17_25) (DD.all_cons' (DD.SubF.of rfl rfl (by decide +kernel) ?s17_26) DD.all_nil')))))))))))))))))))))))); (case s17_2 => k_is); (case s17_3 => k_is); (case s17_4 => k_is); (case s17_5 => k_is); (case s17_6 => k_is); (case s17_7 => k_is); (case s17_8 => k_is); (case s17_9 => k_is); (case s17_10 => k_is); (case s17_11 => k_is); (case s17_12 => k_is); (case s17_13 => k_is); (case s17_14 => k_is); (case s17_15 => k_is); (case s17_16 => k_is); (case s17_18 => k_is); (case s17_19 => k_is); (case s17_20 => k_is); (case s17_21 => k_is); (case s17_22 => k_is); (case s17_23 => k_is); (case s17_24 => k_is); (case s17_25 => k_is); (case s17_26 => k_is)))
      (case sb18 => (refine' (DD.all_cons' (DD.SubF.of rfl rfl (by decide +kernel) ?s18_2) (DD.all_cons' (DD.SubF.of rfl rfl (by decide +kernel) ?s18_3) (DD.all_cons' (DD.SubF.of rfl rfl (by decide +kernel) ?s18_4) (DD.all_cons' (DD.SubF.of rfl rfl (by decide +kernel) ?s18_5) (DD.all_cons' (DD.SubF.of rfl rfl (by decide +kernel) ?s18_6) (DD.all_cons' (DD.SubF.of rfl rfl (by decide +kernel) ?s18_7) (DD.all_cons' (DD.SubF.of rfl rfl (by decide +kernel) ?s18_8) (DD.all_cons' (DD.SubF.of rfl rfl (by decide +kernel) ?s18_9) (DD.all_cons' (DD.SubF.of rfl rfl (by decide +kernel) ?s18_10) (DD.all_cons' (DD.SubF.of rfl rfl (by decide +kernel) ?s18_11) (DD.all_cons' (DD.SubF.of rfl rfl (by decide +kernel) ?s18_12) (DD.all_cons' (DD.SubF.of rfl rfl (by decide +kernel) ?s18_13) (DD.all_cons' (DD.SubF.of rfl rfl (by decide +kernel) ?s18_14) (DD.all_cons' (DD.SubF.of rfl rfl (by decide +kernel) ?s18_15) (DD.all_cons' (DD.SubF.of rfl rfl (by decide +kernel) ?s18_16) (DD.all_cons' (DD.SubF.of rfl rfl (by decide +kernel) ?s18_17) (DD.all_cons' (DD.SubF.of rfl rfl (by decide +kernel) ?s18_19) (DD.all_cons' (DD.SubF.of rfl rfl (by decide +kernel) ?s18_20) (DD.all_cons' (DD.SubF.of rfl rfl (by decide +kernel) ?s18_21) (DD.all_cons' (DD.SubF.of rfl rfl (by decide +kernel) ?s18_22) (DD.all_cons' (DD.SubF.of rfl rfl (by decide +kernel) ?s18_23) (DD.all_cons' (DD.SubF.of rfl rfl (by decide +kernel) ?s18_24) (DD.all_cons' (DD.SubF.of rfl rfl (by decide +kernel) ?s18_25) (DD.all_cons' (DD.SubF.of rfl rfl (by decide +kernel) ?s18_26) DD.all_nil')))))))))))))))))))))))); (case s18_2 => k_is); (case s18_3 => k_is); (case s18_4 => k_is); (case s18_5 => k_is); (case s18_6 => k_is); (case s18_7 => k_is); (case s18_8 => k_is); (case s18_9 => k_is); (case s18_10 => k_is); (case s18_11 => k_is); (case s18_12 => k_is); (case s18_13 => k_is); (case s18_14 => k_is); (case s18_15 => k_is); (case s18_16 => k_is); (case s18_17 => k_is); (case s18_19 => k_is); (case s18_20 => k_is); (case s18_21 => k_is); (case s18_22 => k_is); (case s18_23 => k_is); (case s18_24 => k_is); (case s18_25 => k_is); (case s18_26 => k_is)))
      (case sb19 => (refine' (DD.all_cons' (DD.SubF.of rfl rfl (by decide +kernel) ?s19_2) (DD.all_cons' (DD.SubF.of rfl rfl (by decide +kernel) ?s19_3) (DD.all_cons' (DD.SubF.of rfl rfl (by decide +kernel) ?s19_4) (DD.all_cons' (DD.SubF.of rfl rfl (by decide +kernel) ?s19_5) (DD.all_cons' (DD.SubF.of rfl rfl (by decide +kernel) ?s19_6) (DD.all_cons' (DD.SubF.of rfl rfl (by decide +kernel) ?s19_7) (DD.all_cons' (DD.SubF.of rfl rfl (by decide +kernel) ?s19_8) (DD.all_cons' (DD.SubF.of rfl rfl (by decide +kernel) ?s19_9) (DD.all_cons' (DD.SubF.of rfl rfl (by decide +kernel) ?s19_10) (DD.all_cons' (DD.SubF.of rfl rfl (by decide +kernel) ?s19_11) (DD.all_cons' (DD.SubF.of rfl rfl (by decide +kernel) ?s19_12) (DD.all_cons' (DD.SubF.of rfl rfl (by decide +kernel) ?s19_13) (DD.all_cons' (DD.SubF.of rfl rfl (by decide +kernel) ?s19_14) (DD.all_cons' (DD.SubF.of rfl rfl (by decide +kernel) ?s19_15) (DD.all_cons' (DD.SubF.of rfl rfl (by decide +kernel) ?s19_16) (DD.all_cons' (DD.SubF.of rfl rfl (by decide +kernel) ?s19_17) (DD.all_cons' (DD.SubF.of rfl rfl (by decide +kernel) ?s19_18) (DD.all_cons' (DD.SubF.of rfl rfl (by decide +kernel) ?s19_20) (DD.all_cons' (DD.SubF.of rfl rfl (by decide +kernel) ?s19_21) (DD.all_cons' (DD.SubF.of rfl rfl (by decide +kernel) ?s19_22) (DD.all_cons' (DD.SubF.of rfl rfl (by decide +kernel) ?s19_23) (DD.all_cons' (DD.SubF.of rfl rfl (by decide +kernel) ?s19_24) (DD.all_cons' (DD.SubF.of rfl rfl (by decide +kernel) ?s19_25) (DD.all_cons' (DD.SubF.of rfl rfl (by decide +kernel) ?s19_26) DD.all_nil')))))))))))))))))))))))); (case s19_2 => k_is); (case s19_3 => k_is); (case s19_4 => k_is); (case s19_5 => k_is); (case s19_6 => k_is); (case s19_7 => k_is); (case s19_8 => k_is); (case s19_9 => k_is); (case s19_10 => k_is); (case s19_11 => k_is); (case s19_12 => k_is); (case s19_13 => k_is); (case s19_14 => k_is); (case s19_15 => k_is); (case s19_16 => k_is); (case s19_17 => k_is); (case s19_18 => k_is); (case s19_20 => k_is); (case s19_21 => k_is); (case s19_22 => k_is); (case s19_23 => k_is); (case s19_24 => k_is); (case s19_25 => k_is); (case s19_26 => k_is)))
      (case sb20 => (refine' (DD.all_cons' (DD.SubF.of rfl rfl (by decide +kernel) ?s20_2) (DD.all_cons' (DD.SubF.of rfl rfl (by decide +kernel) ?s20_3) (DD.all_cons' (DD.SubF.of rfl rfl (by decide +kernel) ?s20_4) (DD.all_cons' (DD.SubF.of rfl rfl (by decide +kernel) ?s20_5) (DD.all_cons' (DD.SubF.of rfl rfl (by decide +kernel) ?s20_6) (DD.all_cons' (DD.SubF.of rfl rfl (by decide +kernel) ?s20_7) (DD.all_cons' (DD.SubF.of rfl rfl (by decide +kernel) ?s20_8) (DD.all_cons' (DD.SubF.of rfl rfl (by decide +kernel) ?s20_9) (DD.all_cons' (DD.SubF.of rfl rfl (by decide +kernel) ?s20_10) (DD.all_cons' (DD.SubF.of rfl rfl (by decide +kernel) ?s20_11) (DD.all_cons' (DD.SubF.of rfl rfl (by decide +kernel) ?s20_12) (DD.all_cons' (DD.SubF.of rfl rfl (by decide +kernel) ?s20_13) (DD.all_cons' (DD.SubF.of rfl rfl (by decide +kernel) ?s20_14) (DD.all_cons' (DD.SubF.of rfl rfl (by decide +kernel) ?s20_15) (DD.all_cons' (DD.SubF.of rfl rfl (by decide +kernel) ?s20_16) (DD.all_cons' (DD.SubF.of rfl rfl (by decide +kernel) ?s20_17) (DD.all_cons' (DD.SubF.of rfl rfl (by decide +kernel) ?s20_18) (DD.all_cons' (DD.SubF.of rfl rfl (by decide +kernel) ?s20_19) (DD.all_cons' (DD.SubF.of rfl rfl (by decide +kernel) ?s20_21) (DD.all_cons' (DD.SubF.of rfl rfl (by decide +kernel) ?s20_22) (DD.all_cons' (DD.SubF.of rfl rfl (by decide +kernel) ?s20_23) (DD.all_cons' (DD.SubF.of rfl rfl (by decide +kernel) ?s20_24) (DD.all_cons' (DD.SubF.of rfl rfl (by decide +kernel) ?s20_25) (DD.all_cons' (DD.SubF.of rfl rfl (by decide +kernel) ?s20_26) DD.all_nil')))))))))))))))))))))))); (case s20_2 => k_is); (case s20_3 => k_is); (case s20_4 => k_is); (case s20_5 => k_is); (case s20_6 => k_is); (case s20_7 => k_is); (case s20_8 => k_is); (case s20_9 => k_is); (case s20_10 => k_is); (case s20_11 => k_is); (case s20_12 => k_is); (case s20_13 => k_is); (case s20_14 => k_is); (case s20_15 => k_is); (case s20_16 => k_is); (case s20_17 => k_is); (case s20_18 => k_is); (case s20_19 => k_is); (case s20_21 => k_is); (case s20_22 => k_is); (case s20_23 => k_is); (case s20_24 => k_is); (case s20_25 => k_is); (case s20_26 => k_is)))
      (case sb21 => (refine' (DD.all_cons' (DD.SubF.of rfl rfl (by decide +kernel) ?s21_2) (DD.all_cons' (DD.SubF.of rfl rfl (by decide +kernel) ?s21_3) (DD.all_cons' (DD.SubF.of rfl rfl (by decide +kernel) ?s21_4) (DD.all_cons' (DD.SubF.of rfl rfl (by decide +kernel) ?s21_5) (DD.all_cons' (DD.SubF.of rfl rfl (by decide +kernel) ?s21_6) (DD.all_cons' (DD.SubF.of rfl rfl (by decide +kernel) ?s21_7) (DD.all_cons' (DD.SubF.of rfl rfl (by decide +kernel) ?s21_8) (DD.all_cons' (DD.SubF.of rfl rfl (by decide +kernel) ?s21_9) (DD.all_cons' (DD.SubF.of rfl rfl (by decide +kernel) ?s21_10) (DD.all_cons' (DD.SubF.of rfl rfl (by decide +kernel) ?s21_11) (DD.all_cons' (DD.SubF.of rfl rfl (by decide +kernel) ?s21_12) (DD.all_cons' (DD.SubF.of rfl rfl (by decide +kernel) ?s21_13) (DD.all_cons' (DD.SubF.of rfl rfl (by decide +kernel) ?s21_14) (DD.all_cons' (DD.SubF.of rfl rfl (by decide +kernel) ?s21_15) (DD.all_cons' (DD.SubF.of rfl rfl (by decide +kernel) ?s21_16) (DD.all_cons' (DD.SubF.of rfl rfl (by decide +kernel) ?s21_17) (DD.all_cons' (DD.SubF.of rfl rfl (by decide +kernel) ?s21_18) (DD.all_cons' (DD.SubF.of rfl rfl (by decide +kernel) ?s21_19) (DD.all_cons' (DD.SubF.of rfl rfl (by decide +kernel) ?s21_20) (DD.all_cons' (DD.SubF.of rfl rfl (by decide +kernel) ?s21_22) (DD.all_cons' (DD.SubF.of rfl rfl (by decide +kernel) ?s21_23) (DD.all_cons' (DD.SubF.of rfl rfl (by decide +kernel) ?s21_24) (DD.all_cons' (DD.SubF.of rfl rfl (by decide +kernel) ?s21_25) (DD.all_cons' (DD.SubF.of rfl rfl (by decide +kernel) ?s21_26) DD.all_nil')))))))))))))))))))))))); (case s21_2 => k_is); (case s21_3 => k_is); (case s21_4 => k_is); (case s21_5 => k_is); (case s21_6 => k_is); (case s21_7 => k_is); (case s21_8 => k_is); (case s21_9 => k_is); (case s21_10 => k_is); (case s21_11 => k_is); (case s21_12 => k_is); (case s21_13 => k_is); (case s21_14 => k_is); (case s21_15 => k_is); (case s21_16 => k_is); (case s21_17 => k_is); (case s21_18 => k_is); (case s21_19 => k_is); (case s21_20 => k_is); (case s21_22 => k_is); (case s21_23 => k_is); (case s21_24 => k_is); (case s21_25 => k_is); (case s21_26 => k_is)))
      (case sb22 => (refine' (DD.all_cons' (DD.SubF.of rfl rfl (by decide +kernel) ?s22_2) (DD.all_cons' (DD.SubF.of rfl rfl (by decide +kernel) ?s22_3) (DD.all_cons' (DD.SubF.of rfl rfl (by decide +kernel) ?s22_4) (DD.all_cons' (DD.SubF.of rfl rfl (by decide +kernel) ?s22_5) (DD.all_cons' (DD.SubF.of rfl rfl (by decide +kernel) ?s22_6) (DD.all_cons' (DD.SubF.of rfl rfl (by decide +kernel) ?s22_7) (DD.all_cons' (DD.SubF.of rfl rfl (by decide +kernel) ?s22_8) (DD.all_cons' (DD.SubF.of rfl rfl (by decide +kernel) ?s22_9) (DD.all_cons' (DD.SubF.of rfl rfl (by decide +kernel) ?s22_10) (DD.all_cons' (DD.SubF.of rfl rfl (by decide +kernel) ?s22_11) (DD.all_cons' (DD.SubF.of rfl rfl (by decide +kernel) ?s22_12) (DD.all_cons' (DD.SubF.of rfl rfl (by decide +kernel) ?s22_13) (DD.all_cons' (DD.SubF.of rfl rfl (by decide +kernel) ?s22_14) (DD.all_cons' (DD.SubF.of rfl rfl (by decide +kernel) ?s22_15) (DD.all_cons' (DD.SubF.of rfl rfl (by decide +kernel) ?s22_16) (DD.all_cons' (DD.SubF.of rfl rfl (by decide +kernel) ?s22_17) (DD.all_cons' (DD.SubF.of rfl rfl (by decide +kernel) ?s22_18) (DD.all_cons' (DD.SubF.of rfl rfl (by decide +kernel) ?s22_19) (DD.all_cons' (DD.SubF.of rfl rfl (by decide +kernel) ?s22_20) (DD.all_cons' (DD.SubF.of rfl rfl (by decide +kernel) ?s22_21) (DD.all_cons' (DD.SubF.of rfl rfl (by decide +kernel) ?s22_23) (DD.all_cons' (DD.SubF.of rfl rfl (by decide +kernel) ?s22_24) (DD.all_cons' (DD.SubF.of rfl rfl (by decide +kernel) ?s22_25) (DD.all_cons' (DD.SubF.of rfl rfl (by decide +kernel) ?s22_26) DD.all_nil')))))))))))))))))))))))); (case s22_2 => k_is); (case s22_3 => k_is); (case s22_4 => k_is); (case s22_5 => k_is); (case s22_6 => k_is); (case s22_7 => k_is); (case s22_8 => k_is); (case s22_9 => k_is); (case s22_10 => k_is); (case s22_11 => k_is); (case s22_12 => k_is); (case s22_13 => k_is); (case s22_14 => k_is); (case s22_15 => k_is); (case s22_16 => k_is); (case s22_17 => k_is); (case s22_18 => k_is); (case s22_19 => k_is); (case s22_20 => k_is); (case s22_21 => k_is); (case s22_23 => k_is); (case s22_24 => k_is); (case s22_25 => k_is); (case s22_26 => k_is)))
      (case sb23 => (refine' (DD.all_cons' (DD.SubF.of rfl rfl (by decide +kernel) ?s23_2) (DD.all_cons' (DD.SubF.of rfl rfl (by decide +kernel) ?s23_3) (DD.all_cons' (DD.SubF.of rfl rfl (by decide +kernel) ?s23_4) (DD.all_cons' (DD.SubF.of rfl rfl (by decide +kernel) ?s23_5) (DD.all_cons' (DD.SubF.of rfl rfl (by decide +kernel) ?s23_6) (DD.all_cons' (DD.SubF.of rfl rfl (by decide +kernel) ?s23_7) (DD.all_cons' (DD.SubF.of rfl rfl (by decide +kernel) ?s23_8) (DD.all_cons' (DD.SubF.of rfl rfl (by decide +kernel) ?s23_9) (DD.all_cons' (DD.SubF.of rfl rfl (by decide +kernel) ?s23_10) (DD.all_cons' (DD.SubF.of rfl rfl (by decide +kernel) ?s23_11) (DD.all_cons' (DD.SubF.of rfl rfl (by decide +kernel) ?s23_12) (DD.all_cons' (DD.SubF.of rfl rfl (by decide +kernel) ?s23_13) (DD.all_cons' (DD.SubF.of rfl rfl (by decide +kernel) ?s23_14) (DD.all_cons' (DD.SubF.of rfl rfl (by decide +kernel) ?s23_15) (DD.all_cons' (DD.SubF.of rfl rfl (by decide +kernel) ?s23_16) (DD.all_cons' (DD.SubF.of rfl rfl (by decide +kernel) ?s23_17) (DD.all_cons' (DD.SubF.of rfl rfl (by decide +kernel) ?s23_18) (DD.all_cons' (DD.SubF.of rfl rfl (by decide +kernel) ?s23_19) (DD.all_cons' (DD.SubF.of rfl rfl (by decide +kernel) ?s23_20) (DD.all_cons' (DD.SubF.of rfl rfl (by decide +kernel) ?s23_21) (DD.all_cons' (DD.SubF.of rfl rfl (by decide +kernel) ?s23_22) (DD.all_cons' (DD.SubF.of rfl rfl (by decide +kernel) ?s23_24) (DD.all_cons' (DD.SubF.of rfl rfl (by decide +kernel) ?s23_25) (DD.all_cons' (DD.SubF.of rfl rfl (by decide +kernel) ?s23_26) DD.all_nil')))))))))))))))))))))))); (case s23_2 => k_is); (case s23_3 => k_is); (case s23_4 => k_is); (case s23_5 => k_is); (case s23_6 => k_is); (case s23_7 => k_is); (case s23_8 => k_is); (case s23_9 => k_is); (case s23_10 => k_is); (case s23_11 => k_is); (case s23_12 => k_is); (case s23_13 => k_is); (case s23_14 => k_is); (case s23_15 => k_is); (case s23_16 => k_is); (case s23_17 => k_is); (case s23_18 => k_is); (case s23_19 => k_is); (case s23_20 => k_is); (case s23_21 => k_is); (case s23_22 => k_is); (case s23_24 => k_is); (case s23_25 => k_is); (case s23_26 => k_is)))
      (case sb24 => (refine' (DD.all_cons' (DD.SubF.of rfl rfl (by decide +kernel) ?s24_2) (DD.all_cons' (DD.SubF.of rfl rfl (by decide +kernel) ?s24_3) (DD.all_cons' (DD.SubF.of rfl rfl (by decide +kernel) ?s24_4) (DD.all_cons' (DD.SubF.of rfl rfl (by decide +kernel) ?s24_5) (DD.all_cons' (DD.SubF.of rfl rfl (by decide +kernel) ?s24_6) (DD.all_cons' (DD.SubF.of rfl rfl (by decide +kernel) ?s24_7) (DD.all_cons' (DD.SubF.of rfl rfl (by decide +kernel) ?s24_8) (DD.all_cons' (DD.SubF.of rfl rfl (by decide +kernel) ?s24_9) (DD.all_cons' (DD.SubF.of rfl rfl (by decide +kernel) ?s24_10) (DD.all_cons' (DD.SubF.of rfl rfl (by decide +kernel) ?s24_11) (DD.all_cons' (DD.SubF.of rfl rfl (by decide +kernel) ?s24_12) (DD.all_cons' (DD.SubF.of rfl rfl (by decide +kernel) ?s24_13) (DD.all_cons' (DD.SubF.of rfl rfl (by decide +kernel) ?s24_14) (DD.all_cons' (DD.SubF.of rfl rfl (by decide +kernel) ?s24_15) (DD.all_cons' (DD.SubF.of rfl rfl (by decide +kernel) ?s24_16) (DD.all_cons' (DD.SubF.of rfl rfl (by decide +kernel) ?s24_17) (DD.all_cons' (DD.SubF.of rfl rfl (by decide +kernel) ?s24_18) (DD.all_cons' (DD.SubF.of rfl rfl (by decide +kernel) ?s24_19) (DD.all_cons' (DD.SubF.of rfl rfl (by decide +kernel) ?s24_20) (DD.all_cons' (DD.SubF.of rfl rfl (by decide +kernel) ?s24_21) (DD.all_cons' (DD.SubF.of rfl rfl (by decide +kernel) ?s24_22) (DD.all_cons' (DD.SubF.of rfl rfl (by decide +kernel) ?s24_23) (DD.all_cons' (DD.SubF.of rfl rfl (by decide +kernel) ?s24_25) (DD.all_cons' (DD.SubF.of rfl rfl (by decide +kernel) ?s24_26) DD.all_nil')))))))))))))))))))))))); (case s24_2 => k_is); (case s24_3 => k_is); (case s24_4 => k_is); (case s24_5 => k_is); (case s24_6 => k_is); (case s24_7 => k_is); (case s24_8 => k_is); (case s24_9 => k_is); (case s24_10 => k_is); (case s24_11 => k_is); (case s24_12 => k_is); (case s24_13 => k_is); (case s24_14 => k_is); (case s24_15 => k_is); (case s24_16 => k_is); (case s24_17 => k_is); (case s24_18 => k_is); (case s24_19 => k_is); (case s24_20 => k_is); (case s24_21 => k_is); (case s24_22 => k_is); (case s24_23 => k_is); (case s24_25 => k_is); (case s24_26 => k_is)))
      (case sb25 => (refine' (DD.all_cons' (DD.SubF.of rfl rfl (by decide +kernel) ?s25_2) (DD.all_cons' (DD.SubF.of rfl rfl (by decide +kernel) ?s25_3) (DD.all_cons' (DD.SubF.of rfl rfl (by decide +kernel) ?s25_4) (DD.all_cons' (DD.SubF.of rfl rfl (by decide +kernel) ?s25_5) (DD.all_cons' (DD.SubF.of rfl rfl (by decide +kernel) ?s25_6) (DD.all_cons' (DD.SubF.of rfl rfl (by decide +kernel) ?s25_7) (DD.all_cons' (DD.SubF.of rfl rfl (by decide +kernel) ?s25_8) (DD.all_cons' (DD.SubF.of rfl rfl (by decide +kernel) ?s25_9) (DD.all_cons' (DD.SubF.of rfl rfl (by decide +kernel) ?s25_10) (DD.all_cons' (DD.SubF.of rfl rfl (by decide +kernel) ?s25_11) (DD.all_cons' (DD.SubF.of rfl rfl (by decide +kernel) ?s25_12) (DD.all_cons' (DD.SubF.of rfl rfl (by decide +kernel) ?s25_13) (DD.all_cons' (DD.SubF.of rfl rfl (by decide +kernel) ?s25_14) (DD.all_cons' (DD.SubF.of rfl rfl (by decide +kernel) ?s25_15) (DD.all_cons' (DD.SubF.of rfl rfl (by decide +kernel) ?s25_16) (DD.all_cons' (DD.SubF.of rfl rfl (by decide +kernel) ?s25_17) (DD.all_cons' (DD.SubF.of rfl rfl (by decide +kernel) ?s25_18) (DD.all_cons' (DD.SubF.of rfl rfl (by decide +kernel) ?s25_19) (DD.all_cons' (DD.SubF.of rfl rfl (by decide +kernel) ?s25_20) (DD.all_cons' (DD.SubF.of rfl rfl (by decide +kernel) ?s25_21) (DD.all_cons' (DD.SubF.of rfl rfl (by decide +kernel) ?s25_22) (DD.all_cons' (DD.SubF.of rfl rfl (by decide +kernel) ?s25_23) (DD.all_cons' (DD.SubF.of rfl rfl (by decide +kernel) ?s25_24) (DD.all_cons' (DD.SubF.of rfl rfl (by decide +kernel) ?s25_26) DD.all_nil')))))))))))))))))))))))); (case s25_2 => k_is); (case s25_3 => k_is); (case s25_4 => k_is); (case s25_5 => k_is); (case s25_6 => k_is); (case s25_7 => k_is); (case s25_8 => k_is); (case s25_9 => k_is); (case s25_10 => k_is); (case s25_11 => k_is); (case s25_12 => k_is); (case s25_13 => k_is); (case s25_14 => k_is); (case s25_15 => k_is); (case s25_16 => k_is); (case s25_17 => k_is); (case s25_18 => k_is); (case s25_19 => k_is); (case s25_20 => k_is); (case s25_21 => k_is); (case s25_22 => k_is); (case s25_23 => k_is); (case s25_24 => k_is); (case s25_26 => k_is)))
      (case sb26 => (refine' (DD.all_cons' (DD.SubF.of rfl rfl (by decide +kernel) ?s26_2) (DD.all_cons' (DD.SubF.of rfl rfl (by decide +kernel) ?s26_3) (DD.all_cons' (DD.SubF.of rfl rfl (by decide +kernel) ?s26_4) (DD.all_cons' (DD.SubF.of rfl rfl (by decide +kernel) ?s26_5) (DD.all_cons' (DD.SubF.of rfl rfl (by decide +kernel) ?s26_6) (DD.all_cons' (DD.SubF.of rfl rfl (by decide +kernel) ?s26_7) (DD.all_cons' (DD.SubF.of rfl rfl (by decide +kernel) ?s26_8) (DD.all_cons' (DD.SubF.of rfl rfl (by decide +kernel) ?s26_9) (DD.all_cons' (DD.SubF.of rfl rfl (by decide +kernel) ?s26_10) (DD.all_cons' (DD.SubF.of rfl rfl (by decide +kernel) ?s26_11) (DD.all_cons' (DD.SubF.of rfl rfl (by decide +kernel) ?s26_12) (DD.all_cons' (DD.SubF.of rfl rfl (by decide +kernel) ?s26_13) (DD.all_cons' (DD.SubF.of rfl rfl (by decide +kernel) ?s26_14) (DD.all_cons' (DD.SubF.of rfl rfl (by decide +kernel) ?s26_15) (DD.all_cons' (DD.SubF.of rfl rfl (by decide +kernel) ?s26_16) (DD.all_cons' (DD.SubF.of rfl rfl (by decide +kernel) ?s26_17) (DD.all_cons' (DD.SubF.of rfl rfl (by decide +kernel) ?s26_18) (DD.all_cons' (DD.SubF.of rfl rfl (by decide +kernel) ?s26_19) (DD.all_cons' (DD.SubF.of rfl rfl (by decide +kernel) ?s26_20) (DD.all_cons' (DD.SubF.of rfl rfl (by decide +kernel) ?s26_21) (DD.all_cons' (DD.SubF.of rfl rfl (by decide +kernel) ?s26_22) (DD.all_cons' (DD.SubF.of rfl rfl (by decide +kernel) ?s26_23) (DD.all_cons' (DD.SubF.of rfl rfl (by decide +kernel) ?s26_24) (DD.all_cons' (DD.SubF.of rfl rfl (by decide +kernel) ?s26_25) DD.all_nil')))))))))))))))))))))))); (case s26_2 => k_is); (case s26_3 => k_is); (case s26_4 => k_is); (case s26_5 => k_is); (case s26_6 => k_is); (case s26_7 => k_is); (case s26_8 => k_is); (case s26_9 => k_is); (case s26_10 => k_is); (case s26_11 => k_is); (case s26_12 => k_is); (case s26_13 => k_is); (case s26_14 => k_is); (case s26_15 => k_is); (case s26_16 => k_is); (case s26_17 => k_is); (case s26_18 => k_is); (case s26_19 => k_is); (case s26_20 => k_is); (case s26_21 => k_is); (case s26_22 => k_is); (case s26_23 => k_is); (case s26_24 => k_is); (case s26_25 => k_is)))
      (case cls0 => (refine' DD.cls_of rfl ?pg ?hd ?po ?sa; (case pg => k_is); (case hd => k_is); (case po => k_is); (case sa => k_is)))
      (case no0_bounds => (refine' DD.no_of rfl ?a; (case a => k_is)))
      (case no0_facts => (refine' DD.no_of rfl ?a; (case a => k_is)))
      (case no0_marks => (refine' DD.no_of rfl ?a; (case a => k_is)))
      (case no0_nodes => (refine' DD.no_of rfl ?a; (case a => k_is)))
      (case no0_takes => (refine' DD.no_of rfl ?a; (case a => k_is)))
    )
#print axioms PySem.Challenge.cw_unknowntakes_k00_error_classes_holds

