import PyProof.Rows.All
import PySem.Challenge.RW_unknowntakes_k36_loosest_facts_of_small
import KE.OsRunLaw
import HandS.SlotsOwn
import PyProof.InstNe
import PyProof.InstEq
import OpenK.KMeth
import HandS.Exc
import HandS.ExcInit
import HandS.TryMany
import HandS.IsInst
import KE.KExcIs
import KE.KIsAll
import HandS.ForMost
import HandS.Star
import HandS.CallSlots
import HandS.WordsExc
import HandS.Wide
import HandS.Deep
import HandS.TupAny
import HandS.FStr
import HandS.Conv
import KE.GoesEnum
import HandS.Zip
import HandS.Property
import HandS.MapJoin
import HandS.Style
import KE.KCallOwn
import HandS.Iter
import HandS.Defaults
import HandS.Codes
import HandS.EndBits
import HandS.ExcOwn
import HandS.Words
import HandS.Dict
import HandS.Small
import KE.DataMinMax
import KE.LtData
set_option Elab.async false
set_option linter.all false
set_option maxRecDepth 100000
set_option autoImplicit false
set_option maxHeartbeats 0
/-! the head: what stands at the top, look by look -/
namespace HeadCut
open PySem PySem.W PyProof.Rows HeadRun
theorem join3 {σ α β γ : Type} {o : Option σ} {f : σ → α} {g : σ → β} {h : σ → γ} {x : α} {y : β} {z : γ} (a : o.map f = some x) (b : o.map g = some y) (c : o.map h = some z) : o.map (fun s => (f s, g s, h s)) = some (x, y, z) := by
  cases o with
  | none => cases a
  | some s =>
    cases a
    cases b
    cases c
    rfl
theorem join2 {σ α β : Type} {o : Option σ} {f : σ → α × β} {x : α × β} (a : o.map (fun s => (f s).1) = some x.1) (b : o.map (fun s => (f s).2) = some x.2) : o.map f = some x := by
  cases o with
  | none => cases a
  | some s =>
    have a' : (f s).1 = x.1 := Option.some.inj a
    have b' : (f s).2 = x.2 := Option.some.inj b
    exact congrArg some (Prod.ext a' b')
def dropAt (ix : List Nat) (l : List Stmt) : List Stmt := (l.zipIdx.filter (fun x => !ix.contains x.2)).map (·.1)
abbrev rw := PySem.Challenge.rw_unknowntakes_k36_loosest_facts_of_small
noncomputable def q0 : Program := { rw.row.prog with main := { rw.row.prog.main with body := dropAt [1, 14, 23, 59, 67, 73, 77] rw.row.prog.main.body } }
def ls0 : List Str := [Str.ofString "Sheet", Str.ofString "Family", Str.ofString "Finding"]
noncomputable def end0 (w : World) (os : OsState) : Option SharedT := endF (stepQ (denQ tabQ) rw.row.prog w) 12340 rw.row.prog w os
noncomputable def sn (s : SharedT) := seenQ q0 ls0 (importedModules rw.row.prog.main.body) (fun s => xlAt q0 [] s && recOk rw.row.records s) s.abs
theorem lookA (w : World) (os : OsState) : (end0 w os).map (fun s => looksF rw.row.prog (boot_heap w.params) s.abs) = some true := by kernel_rfl
theorem look1 (w : World) (os : OsState) : (end0 w os).map (fun s => (sn s).1) = some (expectedOf q0) := by kernel_rfl
theorem look2 (w : World) (os : OsState) : (end0 w os).map (fun s => (sn s).2.1) = some bltViewBooted := by kernel_rfl
theorem look3 (w : World) (os : OsState) : (end0 w os).map (fun s => (sn s).2.2.1) = some true := by kernel_rfl
theorem look4 (w : World) (os : OsState) : (end0 w os).map (fun s => (sn s).2.2.2.1) = some true := by kernel_rfl
theorem look5 (w : World) (os : OsState) : (end0 w os).map (fun s => (sn s).2.2.2.2.1) = some (pinGoodD (drecsOf q0)) := by kernel_rfl
theorem look6 (w : World) (os : OsState) : (end0 w os).map (fun s => (sn s).2.2.2.2.2.1) = some (plainGoodE q0 (looseW q0 ls0)) := by kernel_rfl
theorem look7 (w : World) (os : OsState) : (end0 w os).map (fun s => (sn s).2.2.2.2.2.2.1) = some (plainGoodD q0 ls0) := by kernel_rfl
theorem look8 (w : World) (os : OsState) : (end0 w os).map (fun s => (sn s).2.2.2.2.2.2.2.1) = some (wideGood q0) := by kernel_rfl
theorem look9 (w : World) (os : OsState) : (end0 w os).map (fun s => (sn s).2.2.2.2.2.2.2.2) = some (clsGoodW q0 ls0) := by kernel_rfl
theorem run (w : World) (os : OsState) : (end0 w os).map sn = some (openGood q0 ls0) := join2 (look1 w os) (join2 (look2 w os) (join2 (look3 w os) (join2 (look4 w os) (join2 (look5 w os) (join2 (look6 w os) (join2 (look7 w os) (join2 (look8 w os) (look9 w os))))))))
end HeadCut

/-! EX3: x != y by the class's own ==, at the library's level -/
namespace PySem.W
open PySem PySem.Calls PyProof.Rows Builtin
section
variable {prog : Program} {w : World} {A : Around} {E : Value → Shared → Prop} {s : Shared} {K : Frag} {x C L f : Addr} {h₀ : Heap} {m : Str → Option Value} {ox : Obj} {od : Option Obj} {b tb : Value}
theorem bound_blt {M : Model} {args : List Value} {name : Str} {id B : String} {Q : Option Value → Shared → Prop} (X : K.In s.heap) (I : InstAt s.heap x ox C od) (hs : findIn K (.ref C) name = some (some (.builtin id))) (S : Slot B name id)
    (h : wpAny M A (call (.builtin id) (.ref x :: args)) (fun v => Q (some v)) E s) : wpAny M A (callSpecialIfBound? (.ref x) name args) Q E s := by
  simp only [callSpecialIfBound?, bindSpecialIfBound?]
  refine wpAny_holding (wpAny_bind (wpAny_bind (wpAny_bind (I.type.here ((looks_findIn X hs).here ?_)))))
  simp only [S.bind]
  refine wpAny_bind (wpAny_askSetting (wpAny_ite ?_))
  have fin : wpAny M A (call (.builtin id) ([.ref x] ++ args) >>= fun v => pure (some v)) Q E s := wpAny_bind (wpAny_mono h (fun v s' h' => wpAny_pure h') fun _ _ h' => h')
  split
  · exact wpAny_bind (wpAny_pure (wpAny_pure fin))
  · exact wpAny_tryCatch (wpAny_bind (wpAny_pure (wpAny_pure fin)))
theorem one_ne {Q : Option Value → Shared → Prop} (hu : A.units + 1 < cLine) (X : K.In s.heap) (I : InstAt s.heap x ox C od) (hne : findIn K (.ref C) "__ne__" = some (some (.builtin "object.__ne__"))) (hm : mroIn K C (.type "object") = some true)
    (hs : findIn K (.ref C) "__eq__" = some (some (.ref f))) (hf : isFn K (.ref f) = true) (h : wpAny (model prog w) A.in1 (call (.ref f) [.ref x, b]) (fun v s' => ∃ r, v = .bool r ∧ Q (some (.bool (!r))) s') E s) :
    wpAny (model prog w) A (tryCompare (.ref x) "__ne__" b) Q E s := by
  have sub : Looks (model prog w) s.heap (isInstance (.ref x) (.type "object")) true := I.type.andThen (looks_mroIn X hm)
  unfold tryCompare
  refine wpAny_bind (bound_blt (B := "object") X I hne F.cmp_object.ne (wpAny_call (codeAny_call_builtin F.cmp_object.ne.plain F.cmpEntry_ne ?_)))
  refine check_slot F.cmpKind_ne F.cmpSplit_ne sub (F.cmpArgs_ne _ _) ?_
  unfold Builtin.«object.__ne__»
  refine wpAny_bind (wpAny_of_eq (a := ((Value.ref x : Value), [b])) (by first | rfl | (simp only [slotArgs]; rfl)) ?_)
  refine wpAny_bind (wpAny_cRoomFor (A := A.in1) hu ?_)
  refine wpAny_bind (ifBound_K X I hs hf (wpAny_mono h (fun v s' hv => ?_) fun _ _ e => e))
  obtain ⟨r, rfl, hq⟩ := hv
  refine wpAny_bind (m := truthy (.bool _)) (wpAny_truthy_bool ?_)
  first
    | exact wpAny_pure (wpAny_pure hq)
    | exact wpAny_pure hq
theorem ne_K {Q : Value → Shared → Prop} (hu : A.units + 1 < cLine) (F0 : Fr h₀ L s.heap m) (X₀ : K.In h₀) (I : InstAt s.heap x ox C od) (hb : Looks (model prog w) s.heap (typeOf b) tb) (hn : notFirst K C tb = true) (hne : findIn K (.ref C) "__ne__" = some (some (.builtin "object.__ne__"))) (hm : mroIn K C (.type "object") = some true)
    (hs : findIn K (.ref C) "__eq__" = some (some (.ref f))) (hf : isFn K (.ref f) = true) (h : wpAny (model prog w) A.in1 (call (.ref f) [.ref x, b]) (fun v s' => ∃ r, v = .bool r ∧ Q (.bool (!r)) s') E s) :
    wpAny (model prog w) A (richCompare .NotEq (.ref x) b) Q E s := by
  have X := X₀.keeps F0.keep
  have one : wpAny (model prog w) A (tryCompare (.ref x) "__ne__" b) (fun r s' => ∃ v, r = some v ∧ Q v s') E s :=
    one_ne hu X I hne hm hs hf (wpAny_mono h (fun v s' hv => by
      obtain ⟨r, e, q⟩ := hv
      exact ⟨r, e, _, rfl, q⟩) fun _ _ e => e)
  unfold richCompare
  simp only [oneThing_ref]
  refine wpAny_holding (wpAny_bind (wpAny_cRoomFor (Nat.lt_of_succ_lt hu) ?_))
  rw [cmpInfo_NotEq]
  dsimp only
  refine wpAny_bind (I.type.here (wpAny_bind (hb.here ?_)))
  split
  · rename_i q
    have e : subIn K tb (.ref C) = some false := by
      rcases Bool.or_eq_true_iff.mp hn with e | e
      · rw [beq_iff_eq.mp e] at q; simp at q
      · exact beq_iff_eq.mp e
    refine wpAny_bind ((looks_subIn X e).here ?_)
    simp only [Bool.false_eq_true, if_false]
    refine wpAny_bind (wpAny_mono one (fun r s' z => ?_) fun _ _ e => e)
    obtain ⟨v, rfl, hq⟩ := z
    exact wpAny_pure hq
  · refine wpAny_bind (wpAny_pure ?_)
    simp only [Bool.false_eq_true, if_false]
    refine wpAny_bind (wpAny_mono one (fun r s' z => ?_) fun _ _ e => e)
    obtain ⟨v, rfl, hq⟩ := z
    exact wpAny_pure hq
end
end PySem.W

/-! EX1: a caught exception is kept in the abstract heap; try with several clauses, with names or without -/
namespace L2
open PySem PySem.Spec PyProof.Rows

/-- at a: an exception that was raised, of the class cls, its dict at d -/
def exq (a : Addr) (cls : Value) (d : Option Addr) : HO := .ext fun h => ∃ (oe : Obj) (vs : Array Value), h.get? a = some oe ∧ Zc cls d oe ∧ oe.data = .fields vs
theorem exq_ok {P : Program} {w : World} {H : Hp} {h : Heap} {a : Addr} {cls : Value} {d : Option Addr} {oe : Obj} {vs : Array Value} (e : h.get? a = some oe) (z : Zc cls d oe) (dd : oe.data = .fields vs) : ObjOk P w H h a (exq a cls d) :=
  ⟨⟨oe, vs, e, z, dd⟩, ⟨oe, e⟩, fun _ _ ⟨o, v, q, r⟩ k => ⟨o, v, k o q, r⟩⟩
theorem exq_at {P : Program} {w : World} {H : Hp} {h : Heap} {a : Addr} {cls : Value} {d : Option Addr} (hok : HOk P w H h) (he : H a = some (exq a cls d)) : ∃ (oe : Obj) (vs : Array Value), h.get? a = some oe ∧ Zc cls d oe ∧ oe.data = .fields vs := by
  have x : ObjOk P w H h a (.ext fun h => ∃ (oe : Obj) (vs : Array Value), h.get? a = some oe ∧ Zc cls d oe ∧ oe.data = .fields vs) := hok a _ he
  exact x.1
section
variable {X : Cx} {pins : List (Addr × Obj)} {σ : St} {H : Hp} {s : Shared} {a : Addr} {oe : Obj} {vs : Array Value} {cls : Value} {d : Option Addr}
/-- an object that was not there at the entry, tracked from now on -/
theorem Inv.track (I : Inv X pins σ H s) (ha : s.heap.get? a = some oe) (hz : Zc cls d oe) (hd : oe.data = .fields vs) (na : H a = none) (n0 : X.s_0.heap.get? a = none) (nL : a ≠ X.env.locals) (np : ∀ p ∈ X.pn ++ pins, p.1 ≠ a) :
    Inv X pins σ (upd H a (exq a cls d)) s := by
  have nc : ∀ x c, X.env.cells.lookup x = some c → c ≠ a := fun x c e z => by
    obtain ⟨v, o, h1, h2⟩ := I.cell x c e
    rw [z, ha] at h1
    cases h1
    rw [hd] at h2
    cases h2
  refine ⟨I.ok, I.os, I.bare, ⟨I.base.keep, I.base.slot, fun b o e n hx => ?_, I.base.there, fun b xs e => ?_, fun b o u e => ?_, fun b ps e => ?_⟩, I.loc, I.cell, ?_, fun x c e => ?_, fun p hp => ?_, fun b u e => ?_, I.len⟩
  · rw [upd_ne (fun z => by rw [z, n0] at e; cases e)]
    exact I.base.free b o e n hx
  · have q := I.base.tups b xs e
    rw [upd_ne (ne_of_none q na)]
    exact q
  · have q := I.base.frzs b o u e
    rw [upd_ne (ne_of_none q na)]
    exact q
  · obtain ⟨m, q⟩ := I.base.tbls b ps e
    exact ⟨m, by rw [upd_ne (ne_of_none q na)]; exact q⟩
  · rw [upd_ne (Ne.symm nL)]
    exact I.free
  · rw [upd_ne (nc x c e)]
    exact I.freeC x c e
  · obtain ⟨e1, e2, e3, e4, e5⟩ := I.pin p hp
    exact ⟨e1, by rw [upd_ne (np p hp)]; exact e2, e3, e4, e5⟩
  · by_cases hb : b = a
    · subst hb
      rw [upd_same] at e
      cases e
      exact exq_ok ha hz hd
    · rw [upd_ne hb] at e
      exact (I.hok b u e).stay (fun _ _ _ q => q) (fun c q => by rw [upd_ne (ne_of_none q na)]; exact q) fun c xs q => by rw [upd_ne (ne_of_none q na)]; exact q
/-- the suite's context bears no pin of the exception -/
theorem Inv.suiteT (I : Inv X pins σ H s) (a : Addr) : Inv (X.suite a (X.pn ++ pins)) [] σ H s :=
  ⟨I.ok.suite _ _, I.os, I.bare, I.base, I.loc, I.cell, I.free, I.freeC, fun p hp => I.pin p (by rw [List.append_nil] at hp; exact hp), I.hok, I.len⟩
theorem Inv.unsuiteT {pn' : List (Addr × Obj)} (I : Inv (X.suite a (X.pn ++ pins)) pn' σ H s) (ok : X.Ok) : Inv X pins σ H s :=
  ⟨ok, I.os, I.bare, I.base, I.loc, I.cell, I.free, I.freeC, fun p hp => I.pin p (List.mem_append_left _ hp), I.hok, I.len⟩
end

/-- the ends of a suite whose name stands at i -/
def endsAt (D : Ends) (i : Nat) : Ends := { nx := fun σ' H' => D.nx (σ'.set i none) H', rt := D.rt, bk := fun σ' H' => D.bk (σ'.set i none) H', ct := fun σ' H' => D.ct (σ'.set i none) H' }
abbrev Hd := Value × Option Nat × TS
/-- what the clauses wish of an exception of the body -/
def wTry (K : PySem.W.Frag) (Wout : WX) (D : Ends) : List Hd → WX
  | [] => Wout
  | (c, none, ts) :: r => fun cls d σ H => ∃ b, PySem.W.exmOne K cls c = some b ∧ (b = true → ∀ a, H a = none → ts D σ (upd H a (exq a cls d))) ∧ (b = false → wTry K Wout D r cls d σ H)
  | (c, some i, ts) :: r => fun cls d σ H => ∃ b, PySem.W.exmOne K cls c = some b ∧ (b = true → ∀ a, H a = none → ts (endsAt D i) (σ.set i (some (.ref a))) (upd H a (exq a cls d))) ∧ (b = false → wTry K Wout D r cls d σ H)
inductive HdsT (X : Cx) : List ExceptHandler → List Hd → Prop
  | nil : HdsT X [] []
  | only {x : Str} {c : Value} {ts : TS} {b₀ : Stmt} {suite : List Stmt} {np pos' : Pos} {hds : List ExceptHandler} {l : List Hd} (hc : Names X x c)
      (hsu : ∀ (a : Addr) (pn : List (Addr × Obj)), PSs (X.suite a pn) (b₀ :: suite) ts) (r : HdsT X hds l) : HdsT X (.ExceptHandler (some (.Name x np)) none (b₀ :: suite) pos' :: hds) ((c, none, ts) :: l)
  | as_ {x n : Str} {i : Nat} {c : Value} {ts : TS} {b₀ : Stmt} {suite : List Stmt} {np pos' : Pos} {hds : List ExceptHandler} {l : List Hd} (hc : Names X x c) (hi : X.N[i]? = some n) (hln : X.env.kindOf n = some .local)
      (hsu : ∀ (a : Addr) (pn : List (Addr × Obj)), PSs (X.suite a pn) (b₀ :: suite) ts) (r : HdsT X hds l) : HdsT X (.ExceptHandler (some (.Name x np)) (some n) (b₀ :: suite) pos' :: hds) ((c, some i, ts) :: l)
section
variable {X : Cx} {body : List Stmt} {h₀ : ExceptHandler} {hds : List ExceptHandler} {l : List Hd} {pos : Pos} {tb : WX → TS} {Wout : WX}
theorem ps_tryT (hs : X.stack = X.env :: X.outer) (hf : X.env.frame = some X.env.locals) (hex : X.ex = []) (hN : X.N.Nodup) (tk : Takes X Wout)
    (hb : ∀ (W : WX) (pn : List (Addr × Obj)) (xe : Value → Shared → Prop), Takes (X.tr pn xe) W → PassesOwn (model X.prog X.w) X.A X.env xe → PSs (X.tr pn xe) body (tb W))
    (hh : HdsT X (h₀ :: hds) l) : PS X (.Try body (h₀ :: hds) [] [] pos) (fun D σ H => tb (wTry X.K Wout D l) D σ H) := by
  refine ⟨fun pins s σ H D I h => ?_⟩
  have ok := I.ok
  have hfr : X.A.frames = some (X.env :: X.outer) := by rw [ok.frames, hs]
  refine wpAny_Try_except ?_
  refine wpAny_mono ((hb (wTry X.K Wout D l) (X.pn ++ pins) (fun e s₁ => wpAny (model X.prog X.w) X.A (noteFrame e X.env) (fun _ s₂ => wpAny (model X.prog X.w) X.A (setFlight e none) (fun _ s₃ =>
    wpAny (model X.prog X.w) X.A (handleBy e X.env (h₀ :: hds)) (SP X pins D) X.xe s₃) X.xe s₂) X.xe s₁) (fun u s' xx => ?_) PassesOwn.looking).run [] s σ H D (I.toTry _) h) (fun f s1 hsp => ?_) (fun e s1 he => he)
  · -- the catch
    obtain ⟨a, B, sI, pins', σ', H', cls, d, rfl, J', nb, up, sky, na, os, ag, w⟩ := xx
    have J : Inv X pins σ' H' sI := J'.ofTry ok
    have sky' : Sky B (X.env :: X.outer) a (Zc cls d) X.env.locals s'.heap := by rw [← hs]; exact sky
    show wpAny (model X.prog X.w) X.A (noteFrame (.ref a) X.env) _ _ _
    refine Sky.land Zc.steady hfr hf sky' fun h3 fl3 up3 => ?_
    have J3 : Inv X pins σ' H' { s' with heap := h3 } := J.landed nb fl3.1 (up.trans up3) os ag
    obtain ⟨oe3, vs3, he3, hz3, hd3⟩ := fl3.there
    have notFr : ∀ {h : Heap} {o : Obj} {vs : Array Value}, h.FunFrames B (X.env :: X.outer) → h.get? a = some o → o.data = .fields vs → a ∉ frs (X.env :: X.outer) := fun {h o vs} ff e dd hm => by
      obtain ⟨_, o', e', hnf⟩ := ff.mem hm
      rw [e] at e'; cases e'
      exact hnf _ dd
    have nfr := notFr fl3.2.2.1 he3 hd3
    have nL : a ≠ X.env.locals := fun z => nfr (List.mem_filterMap.mpr ⟨X.env, List.mem_cons_self, by rw [hf, z]⟩)
    have nF : a ∉ X.fs := fun hm => by
      obtain ⟨e, he, q⟩ := List.mem_filterMap.mp hm
      exact nfr (List.mem_filterMap.mpr ⟨e, List.mem_cons_of_mem _ he, q⟩)
    have nB : B.get? a = none := fl3.2.1
    have inB : ∀ b o, sI.heap.get? b = some o → b ∉ frs X.stack → b ≠ a := fun b o e hb z => by
      have q := nb b o e hb
      rw [z, nB] at q
      cases q
    have nSt : a ∉ frs X.stack := by rw [hs]; exact nfr
    have n0 : X.s_0.heap.get? a = none := by
      cases q : X.s_0.heap.get? a with
      | none => rfl
      | some o =>
        obtain ⟨o', e⟩ := J.base.there a o q (by rw [hex]; exact fun z => nomatch z)
        exact absurd rfl (inB a o' e nSt)
    have np : ∀ p ∈ X.pn ++ pins, p.1 ≠ a := fun p hp => by
      obtain ⟨e1, _, e3, e4, _⟩ := J.pin p hp
      refine inB p.1 p.2 e1 fun hm => ?_
      rw [hs] at hm
      obtain ⟨e, he, q⟩ := List.mem_filterMap.mp hm
      rcases List.mem_cons.mp he with z | z
      · rw [z, hf] at q
        exact e3 (Option.some.inj q).symm
      · exact e4 (List.mem_filterMap.mpr ⟨e, z, q⟩)
    have S3 := J3.suite he3 hd3 na nL nF
    have go : ∀ {hds' : List ExceptHandler} {l' : List Hd}, HdsT X hds' l' → wTry X.K Wout D l' cls d σ' H' →
        wpAny (model X.prog X.w) X.A (handleBy (.ref a) X.env hds') (SP X pins D) X.xe { s' with heap := h3 } := by
      intro hds' l' hk
      have test : ∀ {x : Str} {c : Value} {np : Pos}, Names X x c → ∀ {Q : Value → Shared → Prop} {E : Value → Shared → Prop}, Q c { s' with heap := h3 } → wpAny (model X.prog X.w) (X.A.mark (some (.ref a))) (eval (.Name x np) X.env) Q E { s' with heap := h3 } := fun {x c np} hc {Q E} q => by
        obtain ⟨hg, hdbg, hm | ⟨hm, hv, hnn⟩⟩ := hc
        · exact ld_glob (X := X.suite a ((a, oe3) :: (X.pn ++ pins))) S3 hg hm q hdbg
        · exact ld_blt (X := X.suite a ((a, oe3) :: (X.pn ++ pins))) S3 hg hm hv q hnn hdbg
      have LT : PySem.W.Looks (model X.prog X.w) h3 (typeOf (.ref a)) cls := fun A Q E s k q => wpAny_typeOf_ref (k _ _ he3) (by rw [hz3.1]; exact q)
      induction hk with
      | nil =>
        intro w
        refine wpAny_handleBy_nil ?_
        obtain ⟨k1, k2, k3, oe, vs, T, oT, ts', he, hz, hd, h1, hr⟩ := id fl3
        unfold PySem.passOn
        refine wpAny_bind (wpAny_field he hd h1 ?_)
        rw [if_neg (show ¬ ((Value.ref T == Value.none) = true) from by simp)]
        have fin : wpAny (model X.prog X.w) X.A (setFlight (.ref a) X.env.frame) (fun _ s4 => wpAny (model X.prog X.w) X.A (throw (.ref a) : Sem Flow) (SP X pins D) X.xe s4) X.xe { s' with heap := h3 } := by
          rw [hf]
          refine HandSPX.setFlight_upZ fl3 fun h4 hh4 up4 => wpAny_throw (tk _ _ ?_)
          exact ⟨a, B, sI, pins, σ', H', cls, d, rfl, J, nb, (up.trans up3).trans up4, .inr (.inr (by rw [hs]; exact hh4)), na, os, ag, w⟩
        first
          | exact wpAny_bind (wpAny_pure (wpAny_bind fin))
          | exact wpAny_bind fin
      | @only x c ts b₀ suite np' pos' hds2 l2 hc hsu r ih =>
        intro w
        obtain ⟨b, hb1, hyes, hno⟩ := w
        refine wpAny_handleBy_cons (codeAny_handlers_test ?_) (by intro q; cases q)
        have LM := PySem.W.exm_one (M := model X.prog X.w) (J3.kIn) LT hb1
        refine test hc (LM.here ?_)
        cases b with
        | true =>
          refine codeAny_handlers_suite ?_
          refine HandSPX.lands_againZ fl3 fun h4 fl4 up4 => ?_
          have J4 : Inv X pins σ' H' { s' with heap := h4 } := J.landed nb fl4.1 ((up.trans up3).trans up4) os ag
          obtain ⟨oe4, vs4, he4, hz4, hd4⟩ := fl4.there
          have S4 := (J4.track he4 hz4 hd4 na n0 nL np).suiteT a
          refine wpAny_mono ((hsu a (X.pn ++ pins)).run [] _ _ _ _ S4 (hyes rfl a na)) (fun f s6 hsp => ?_) (fun _ _ z => False.elim z)
          cases f with
          | next =>
            obtain ⟨σ6, H6, S6, q6⟩ := hsp
            exact ⟨_, _, S6.unsuiteT ok, q6⟩
          | brk =>
            obtain ⟨σ6, H6, S6, q6⟩ := hsp
            exact ⟨_, _, S6.unsuiteT ok, q6⟩
          | cont =>
            obtain ⟨σ6, H6, S6, q6⟩ := hsp
            exact ⟨_, _, S6.unsuiteT ok, q6⟩
          | ret u =>
            obtain ⟨v6, σ6, H6, S6, r6, q6⟩ := hsp
            exact ⟨_, _, _, S6.unsuiteT ok, r6, q6⟩
        | false =>
          show wpAny _ X.A (handleBy (.ref a) X.env hds2) _ _ _
          exact ih (hno rfl)
      | @as_ x n i c ts b₀ suite np' pos' hds2 l2 hc hi hln hsu r ih =>
        intro w
        obtain ⟨b, hb1, hyes, hno⟩ := w
        refine wpAny_handleBy_cons (codeAny_handlers_test ?_) (by intro q; cases q)
        have LM := PySem.W.exm_one (M := model X.prog X.w) (J3.kIn) LT hb1
        refine test hc (LM.here ?_)
        cases b with
        | true =>
          refine codeAny_handlers_suite_as ?_
          refine HandSPX.lands_againZ fl3 fun h4 fl4 up4 => ?_
          have J4 : Inv X pins σ' H' { s' with heap := h4 } := J.landed nb fl4.1 ((up.trans up3).trans up4) os ag
          obtain ⟨oe4, vs4, he4, hz4, hd4⟩ := fl4.there
          have S4 := (J4.track he4 hz4 hd4 na n0 nL np).suiteT a
          refine store_ok (X := X.suite a (X.pn ++ pins)) (v := .ref a) S4 hN hi (.inl hln) rfl (fun s5 S5 => ?_) (.inr hln)
          refine wpAny_mono ((hsu a (X.pn ++ pins)).run [] s5 _ _ _ S5 (hyes rfl a na)) (fun f s6 hsp => ?_) (fun _ _ z => False.elim z)
          have end_ : ∀ {σ6 : St} {H6 : Hp} {Q : Shared → Prop}, Inv (X.suite a (X.pn ++ pins)) [] σ6 H6 s6 → (∀ s7, Inv X pins (σ6.set i none) H6 s7 → Q s7) →
              wpAny (model X.prog X.w) X.A (do bindName X.env n .none; unbindBehindTheSuite X.env n pos') (fun _ s7 => Q s7) X.xe s6 := fun {σ6 H6 Q} S6 hq => gone_ok (S6.unsuiteT ok) hN hi hln hq
          cases f with
          | next =>
            obtain ⟨σ6, H6, S6, q6⟩ := hsp
            exact end_ S6 fun s7 J7 => ⟨_, _, J7, q6⟩
          | brk =>
            obtain ⟨σ6, H6, S6, q6⟩ := hsp
            exact end_ S6 fun s7 J7 => ⟨_, _, J7, q6⟩
          | cont =>
            obtain ⟨σ6, H6, S6, q6⟩ := hsp
            exact end_ S6 fun s7 J7 => ⟨_, _, J7, q6⟩
          | ret u =>
            obtain ⟨v6, σ6, H6, S6, r6, q6⟩ := hsp
            exact end_ S6 fun s7 J7 => ⟨_, _, _, J7, r6, q6⟩
        | false =>
          show wpAny _ X.A (handleBy (.ref a) X.env hds2) _ _ _
          exact ih (hno rfl)
    exact go hh w
  · cases f with
    | next =>
      obtain ⟨σ', H', J', q⟩ := hsp
      exact wpAny_execs_nil ⟨σ', H', J'.ofTry ok, q⟩
    | brk =>
      obtain ⟨σ', H', J', q⟩ := hsp
      exact ⟨σ', H', J'.ofTry ok, q⟩
    | cont =>
      obtain ⟨σ', H', J', q⟩ := hsp
      exact ⟨σ', H', J'.ofTry ok, q⟩
    | ret u =>
      obtain ⟨v, σ', H', J', r, q⟩ := hsp
      exact ⟨v, σ', H', J'.ofTry ok, r, q⟩
end

/-! ### isinstance(e, C), e.f -/
/-- what the class must say -/
structure ExcT (K : PySem.W.Frag) (C : Addr) : Prop where
  ga : PySem.W.findIn K (.ref C) "__getattribute__" = some (some (.builtin "BaseException.__getattribute__"))
  gg : PySem.W.findIn K (.ref C) "__getattr__" = some none
  exC : PySem.W.subIn K (.ref C) (.type "BaseException") = some true
  hdC : PySem.W.hasDictIn K C = true
  cls : (PySem.W.clsIn K C).isSome = true
  ca : PySem.W.findIn K (.ref C) "__class__" = some (some (.builtin "object.__class__"))
  cg : PySem.W.specialIn K (.builtin "object.__class__") "__get__" = some (some (.builtin "getset_descriptor.__get__"))
  ct : PySem.W.takesIn K (.builtin "object.__class__") = some true
  cm : PySem.W.mroIn K C (.type "object") = some true
def rIsQ (K : PySem.W.Frag) : List V → Hp → VK → Prop := fun xs H Q => ∃ (a C : Addr) (d : Option Addr) (c : V) (cv : Value) (b : Bool), xs = [.ref a, c] ∧ ExcT K C ∧ H a = some (exq a (.ref C) d) ∧ (∀ dd, d = some dd → ∃ fs, H dd = some (.xd fs)) ∧ (∀ u, RelV c u → u = cv) ∧ PySem.W.kitOne K (.ref C) cv = some b ∧ Q (.bl b) H
theorem inst_exq {X : Cx} {pins : List (Addr × Obj)} {σ : St} {H : Hp} {s : Shared} {a C : Addr} {d : Option Addr} (I : Inv X pins σ H s) (ha : H a = some (exq a (.ref C) d)) (hd : ∀ dd, d = some dd → ∃ fs, H dd = some (.xd fs)) :
    ∃ oe od, PySem.W.InstAt s.heap a oe C od ∧ ∀ dd fs, d = some dd → H dd = some (.xd fs) → ∃ mA o, od = some o ∧ s.heap.Ns1 dd mA ∧ (∀ f, RelO (fs.lookup f) (mA f)) ∧ s.heap.get? dd = some o := by
  obtain ⟨oe, vs, he, hz, hdt⟩ := exq_at I.hok ha
  cases d with
  | none =>
    exact ⟨oe, none, ⟨he, hz.1, by unfold PySem.W.notCls; rw [hdt] <;> rfl, by rw [hz.2]; trivial⟩, fun dd fs e => nomatch e⟩
  | some dd =>
    obtain ⟨fs, hx⟩ := hd dd rfl
    have hx' : ObjOk X.prog X.w H s.heap dd (.xd fs) := I.hok dd _ hx
    obtain ⟨mA, hns, hr⟩ := hx'
    obtain ⟨od, ho, hl⟩ := lookIn_ns hns
    refine ⟨oe, some od, ⟨he, hz.1, by unfold PySem.W.notCls; rw [hdt] <;> rfl, by rw [hz.2]; exact ho⟩, fun dd' fs' e e' => ?_⟩
    cases e
    rw [hx] at e'
    cases e'
    exact ⟨mA, od, rfl, hns, hr, ho⟩
theorem call_isQ {X : Cx} : CallR X (.builtin "isinstance") (rIsQ X.K) := by
  intro pins s σ H xs us Q I r h
  obtain ⟨a, C, d, c, cv, b, rfl, T, ha, hd, hcv, e, q⟩ := h
  cases r with
  | cons rx rr =>
    cases rr with
    | cons rt rr =>
      cases rr
      cases rx
      have ec := hcv _ rt
      subst ec
      obtain ⟨oe, od, J, _⟩ := inst_exq I ha hd
      exact PySem.W.kia_one (PySem.W.kitx_exc T.cls T.ga T.gg T.exC T.ca T.cg T.ct T.cm) I.kIn J e (fun z => nomatch z) fun tk => ⟨.bl b, H, I.kept (t' := tk) fun _ _ z => z, rfl, q⟩
/-- e.f -/
def tXq (K : PySem.W.Frag) (f : Str) (te : TE) : TE := fun σ H Q => te σ H fun x H1 => ∃ (a C dd : Addr) (fs : List (Str × V)) (v : V), x = .ref a ∧ ExcT K C ∧ PySem.W.findIn K (.ref C) f = some none ∧ H1 a = some (exq a (.ref C) (some dd)) ∧ H1 dd = some (.xd fs) ∧ fs.lookup f = some v ∧ Q v H1
theorem pe_xq {X : Cx} {e : Expr} {te : TE} {pos : Pos} {n : Str} (he : PE X e te) (hb : attributeBase e n X.env (eval e X.env) = eval e X.env := by rfl) : PE X (.Attribute e n pos) (tXq X.K n te) := by
  refine ⟨fun pins s σ H Q I h => ?_⟩
  refine attr_of hb (thn (he.run pins s σ H _ I h) fun u s1 hh => ?_)
  obtain ⟨x, H1, I1, rx, a, C, dd, fs, v, ex, T, hno, ha, hx, l, q⟩ := hh
  subst ex
  obtain rfl : u = Value.ref a := rx
  obtain ⟨oe, od, J, hJ⟩ := inst_exq I1 ha fun d' e => by cases e; exact ⟨fs, hx⟩
  obtain ⟨mA, o, rfl, hns, hr, ho⟩ := hJ dd fs rfl hx
  obtain ⟨u, hu, ru⟩ := RelO.some_of (v := v) (o := mA n) (by rw [← l]; exact hr n)
  obtain ⟨o', ho', hl⟩ := lookIn_ns hns
  rw [ho] at ho'
  cases ho'
  exact HandSPX.exc_get I1.kIn J T.ga T.gg T.exC (PySem.W.findObj_own T.hdC hno rfl (by rw [hl, hu])) (handed_of ru) ⟨v, H1, I1.tok _, ru, q⟩
end L2

/-! DD1: values as data, the store of what may change, how they stand in the abstract heap -/
namespace DD
open PySem PySem.Spec PyProof.Rows L2

/-- a value as data; cell n: the n-th thing of the store (it may change) -/
inductive D where
  | non | bl (b : Bool) | int (i : Int) | str (x : Str)
  | tup (xs : List D) | lst (xs : List D) | rol (xs : List D)
  | obj (c : Nat) (fs : List (Str × D))
  | cell (n : Nat)
  | ty (n : String) | cls (c : Nat)
  | exn (c : Nat) (fs : List (Str × D))

/-- what may change: a list, an instance of the c-th class -/
inductive Cell where
  | lst (xs : List D)
  | obj (c : Nat) (fs : List (Str × D))
  | dct (kvs : List (Key × D))

abbrev Sto := List (Option Cell)
abbrev DEnv := List (Option D)
/-- how a piece of code ends: a value; an exception of the c-th class with its fields; not told -/
inductive Out (α : Type) where
  | ok (a : α) (S : Sto)
  | exc (c : Nat) (fs : List (Str × D)) (S : Sto)
  | bad
def M (α : Type) := Sto → Out α
def M.pure {α : Type} (a : α) : M α := fun S => .ok a S
def M.bind {α β : Type} (m : M α) (k : α → M β) : M β := fun S => match m S with
  | .ok a S' => k a S'
  | .exc c fs S' => .exc c fs S'
  | .bad => .bad
instance : Monad M where
  pure := M.pure
  bind := M.bind
def M.bad {α : Type} : M α := fun _ => .bad
def M.exc {α : Type} (c : Nat) (fs : List (Str × D)) : M α := fun S => .exc c fs S
theorem M.pure_run {α : Type} (a : α) (S : Sto) : (Pure.pure a : M α) S = .ok a S := rfl
theorem M.bind_run {α β : Type} (m : M α) (k : α → M β) (S : Sto) : (m >>= k) S = (match m S with
  | .ok a S' => k a S'
  | .exc c fs S' => .exc c fs S'
  | .bad => .bad) := rfl

/-- the written part, where the own classes stand -/
structure Gx where
  K : PySem.W.Frag
  ca : Nat → Addr

/-- what is told of the run: where the cells stand, which lists are being made -/
structure Gh where
  m : List Addr
  ex : List Addr
def Live (μ : Gh) (S : Sto) (a : Addr) : Prop := ∃ (n : Nat) (c : Cell), S[n]? = some (some c) ∧ μ.m[n]? = some a
/-- a list, a tuple, that stays as it is -/
def Held (μ : Gh) (S : Sto) (a : Addr) : Prop := Live μ S a ∨ a ∈ μ.ex
def FzL (μ : Gh) (S : Sto) (H : Hp) (a : Addr) (xs : List V) : Prop := H a = some (.lst xs) ∧ ¬ Held μ S a
/-- a list that is read alone (the script) -/
def RoL (g : Gx) (H : Hp) (a : Addr) (xs : List V) : Prop :=
  (∃ o, H a = some (.frz o (.lst xs))) ∨
    ∃ (o : Obj) (its : Array Value) (n : Nat), g.K.lookup a = some o ∧ o.cls = .type "list" ∧ o.dict = none ∧ o.data = .seq its n ∧ its.size ≤ sizeLine ∧ Vals xs its.toList
def FzT (g : Gx) (μ : Gh) (S : Sto) (H : Hp) (a : Addr) (xs : List V) : Prop :=
  (Rd H a (.tup xs) ∧ ¬ Held μ S a) ∨
    ∃ (o : Obj) (its : Array Value) (n : Nat), g.K.lookup a = some o ∧ o.cls = .type "tuple" ∧ o.data = .seq its n ∧ its.size ≤ sizeLine ∧ Vals xs its.toList
theorem FzL.sq {K : PySem.W.Frag} {μ : Gh} {S : Sto} {H : Hp} {a : Addr} {xs : List V} (h : FzL μ S H a xs) : SqL K H a xs := .inl (.inl h.1)
theorem RoL.sq {g : Gx} {H : Hp} {a : Addr} {xs : List V} (h : RoL g H a xs) : SqL g.K H a xs := by
  rcases h with h | h
  · exact .inl (.inr h)
  · exact .inr h
theorem FzT.sq {g : Gx} {μ : Gh} {S : Sto} {H : Hp} {a : Addr} {xs : List V} (h : FzT g μ S H a xs) : SqT g.K H a xs := by
  rcases h with h | h
  · exact .inl h.1
  · exact .inr h

mutual
inductive Rep (g : Gx) (μ : Gh) (S : Sto) (H : Hp) : V → D → Prop where
  | non : Rep g μ S H .non .non
  | bl (b : Bool) : Rep g μ S H (.bl b) (.bl b)
  | int (i : Int) : Rep g μ S H (.int i) (.int i)
  | str (x : Str) : Rep g μ S H (.str x) (.str x)
  | tup {a : Addr} {xs : List V} {ds : List D} : FzT g μ S H a xs → RepAll g μ S H xs ds → Rep g μ S H (.ref a) (.tup ds)
  | lst {a : Addr} {xs : List V} {ds : List D} : FzL μ S H a xs → RepAll g μ S H xs ds → Rep g μ S H (.ref a) (.lst ds)
  | obj {a dx : Addr} {c : Nat} {vs : List (Str × V)} {fs : List (Str × D)} : H a = some (.ins (g.ca c) dx vs) → ¬ Held μ S a → RepF g μ S H vs fs → Rep g μ S H (.ref a) (.obj c fs)
  | rol {a : Addr} {xs : List V} {ds : List D} : RoL g H a xs → RepAll g μ S H xs ds → Rep g μ S H (.ref a) (.rol ds)
  | cell {a : Addr} {n : Nat} : μ.m[n]? = some a → Rep g μ S H (.ref a) (.cell n)
  | ty (n : String) : Rep g μ S H (.ty n) (.ty n)
  | cls (c : Nat) : Rep g μ S H (.ref (g.ca c)) (.cls c)
  | exn0 {a : Addr} {c : Nat} : H a = some (exq a (.ref (g.ca c)) none) → ¬ Held μ S a → Rep g μ S H (.ref a) (.exn c [])
  | exn1 {a dx : Addr} {c : Nat} {vs : List (Str × V)} {fs : List (Str × D)} : H a = some (exq a (.ref (g.ca c)) (some dx)) → ¬ Held μ S a → H dx = some (.xd vs) → ¬ Held μ S dx → RepF g μ S H vs fs → Rep g μ S H (.ref a) (.exn c fs)
inductive RepAll (g : Gx) (μ : Gh) (S : Sto) (H : Hp) : List V → List D → Prop where
  | nil : RepAll g μ S H [] []
  | cons {v : V} {vs : List V} {d : D} {ds : List D} : Rep g μ S H v d → RepAll g μ S H vs ds → RepAll g μ S H (v :: vs) (d :: ds)
inductive RepF (g : Gx) (μ : Gh) (S : Sto) (H : Hp) : List (Str × V) → List (Str × D) → Prop where
  | nil : RepF g μ S H [] []
  | cons {f : Str} {v : V} {vs : List (Str × V)} {d : D} {ds : List (Str × D)} : Rep g μ S H v d → RepF g μ S H vs ds → RepF g μ S H ((f, v) :: vs) ((f, d) :: ds)
end

/-- a dict's pairs: the same keys -/
inductive RepK (g : Gx) (μ : Gh) (S : Sto) (H : Hp) : List (Key × V) → List (Key × D) → Prop where
  | nil : RepK g μ S H [] []
  | cons {k : Key} {v : V} {vs : List (Key × V)} {d : D} {ds : List (Key × D)} : Rep g μ S H v d → RepK g μ S H vs ds → RepK g μ S H ((k, v) :: vs) ((k, d) :: ds)
def CellAt (g : Gx) (μ : Gh) (S : Sto) (H : Hp) (a : Addr) : Cell → Prop
  | .dct ds => ∃ vs, H a = some (.dK vs) ∧ RepK g μ S H vs ds
  | .lst ds => ∃ xs, H a = some (.lst xs) ∧ RepAll g μ S H xs ds
  | .obj c fs => ∃ dx vs, H a = some (.ins (g.ca c) dx vs) ∧ RepF g μ S H vs fs
structure StoOk (g : Gx) (μ : Gh) (S : Sto) (H : Hp) : Prop where
  len : μ.m.length = S.length
  nex : ∀ a, Live μ S a → a ∉ μ.ex
  ext : ∀ a, a ∈ μ.ex → H a ≠ none
  inj : ∀ (n m : Nat) (c c' : Cell) (a : Addr), S[n]? = some (some c) → S[m]? = some (some c') → μ.m[n]? = some a → μ.m[m]? = some a → n = m
  at_ : ∀ (n : Nat) (c : Cell), S[n]? = some (some c) → ∃ a, μ.m[n]? = some a ∧ CellAt g μ S H a c
theorem StoOk.there {g : Gx} {μ : Gh} {S : Sto} {H : Hp} (k : StoOk g μ S H) {a : Addr} (l : Live μ S a) : H a ≠ none := by
  obtain ⟨n, c, e1, e2⟩ := l
  obtain ⟨b, e3, q⟩ := k.at_ n c e1
  rw [e2] at e3
  cases e3
  cases c with
  | lst ds =>
    obtain ⟨xs, h, _⟩ := q
    rw [h]
    exact fun z => nomatch z
  | obj c fs =>
    obtain ⟨dx, vs, h, _⟩ := q
    rw [h]
    exact fun z => nomatch z
  | dct ds =>
    obtain ⟨vs, h, _⟩ := q
    rw [h]
    exact fun z => nomatch z
theorem StoOk.newL {g : Gx} {μ : Gh} {S : Sto} {H : Hp} (k : StoOk g μ S H) {p : Addr} (h : H p = none) : ¬ Live μ S p := fun l => k.there l h
theorem StoOk.new {g : Gx} {μ : Gh} {S : Sto} {H : Hp} (k : StoOk g μ S H) {p : Addr} (h : H p = none) : ¬ Held μ S p := fun l => l.elim (fun l => k.there l h) fun l => k.ext p l h

/-- from one state to a later one -/
structure Step (μ : Gh) (S : Sto) (H : Hp) (μ' : Gh) (S' : Sto) (H' : Hp) : Prop where
  pre : μ.m <+: μ'.m
  ex : ∀ a, a ∈ μ.ex → a ∈ μ'.ex
  frz : ∀ {a : Addr} {o : Obj} {u : HO}, H a = some (.frz o u) → H' a = some (.frz o u)
  keep : ∀ a o, ¬ Live μ S a → H a = some o → H' a = some o
  live : ∀ a, Live μ' S' a → Live μ S a ∨ H a = none
  exh : ∀ a, a ∈ μ'.ex → a ∈ μ.ex ∨ H a = none
  there : ∀ a, H' a = none → H a = none
theorem Step.refl (μ : Gh) (S : Sto) (H : Hp) : Step μ S H μ S H := ⟨List.prefix_refl _, fun _ h => h, fun h => h, fun _ _ _ h => h, fun _ h => .inl h, fun _ h => .inl h, fun _ h => h⟩
theorem Step.trans {μ μ1 μ2 : Gh} {S S1 S2 : Sto} {H H1 H2 : Hp} (a : Step μ S H μ1 S1 H1) (b : Step μ1 S1 H1 μ2 S2 H2) : Step μ S H μ2 S2 H2 := by
  refine ⟨a.pre.trans b.pre, fun x h => b.ex x (a.ex x h), fun h => b.frz (a.frz h), fun x o n h => b.keep x o (fun l => ?_) (a.keep x o n h), fun x l => ?_, fun x l => ?_, fun x h => a.there x (b.there x h)⟩
  · rcases a.live x l with z | z
    · exact n z
    · rw [h] at z; cases z
  · rcases b.live x l with z | z
    · exact a.live x z
    · exact .inr (a.there x z)
  · rcases b.exh x l with z | z
    · exact a.exh x z
    · exact .inr (a.there x z)
section
variable {g : Gx} {μ μ' : Gh} {S S' : Sto} {H H' : Hp}
/-- what is told of data needs of a step -/
structure StepR (μ : Gh) (S : Sto) (H : Hp) (μ' : Gh) (S' : Sto) (H' : Hp) : Prop where
  pre : μ.m <+: μ'.m
  frz : ∀ {a : Addr} {o : Obj} {u : HO}, H a = some (.frz o u) → H' a = some (.frz o u)
  keep : ∀ a o, ¬ Held μ S a → H a = some o → H' a = some o
  held : ∀ a, H a ≠ none → Held μ' S' a → Held μ S a
theorem Step.held (t : Step μ S H μ' S' H') {a : Addr} (h : H a ≠ none) (n : ¬ Held μ S a) : ¬ Held μ' S' a := fun l => by
  rcases l with l | l
  · rcases t.live a l with z | z
    · exact n (.inl z)
    · exact h z
  · rcases t.exh a l with z | z
    · exact n (.inr z)
    · exact h z
theorem Step.toR (t : Step μ S H μ' S' H') : StepR μ S H μ' S' H' := ⟨t.pre, t.frz, fun a o n h => t.keep a o (fun l => n (.inl l)) h, fun a h l => by
  by_cases q : Held μ S a
  · exact q
  · exact absurd l (t.held h q)⟩
theorem StepR.rd (t : StepR μ S H μ' S' H') {a : Addr} {u : HO} (h : Rd H a u) (n : ¬ Held μ S a) : Rd H' a u ∧ ¬ Held μ' S' a := by
  have ne : H a ≠ none := by
    rcases h with h | ⟨o, h⟩ <;> rw [h] <;> exact fun z => nomatch z
  refine ⟨?_, fun l => n (t.held a ne l)⟩
  rcases h with h | ⟨o, h⟩
  · exact .inl (t.keep a _ n h)
  · exact .inr ⟨o, t.frz h⟩
theorem Step.rd (t : Step μ S H μ' S' H') {a : Addr} {u : HO} (h : Rd H a u) (n : ¬ Held μ S a) : Rd H' a u ∧ ¬ Held μ' S' a := by
  have ne : H a ≠ none := by
    rcases h with h | ⟨o, h⟩ <;> rw [h] <;> exact fun z => nomatch z
  refine ⟨?_, t.held ne n⟩
  rcases h with h | ⟨o, h⟩
  · exact .inl (t.keep a _ (fun l => n (.inl l)) h)
  · exact .inr ⟨o, t.frz h⟩
theorem prefix_get {α : Type} {l l' : List α} (h : l <+: l') {n : Nat} {a : α} (e : l[n]? = some a) : l'[n]? = some a := by
  obtain ⟨t, rfl⟩ := h
  rw [List.getElem?_append_left (List.getElem?_eq_some_iff.mp e).1]
  exact e
mutual
theorem Rep.stepR (t : StepR μ S H μ' S' H') : ∀ {v : V} {d : D}, Rep g μ S H v d → Rep g μ' S' H' v d
  | _, _, .non => .non
  | _, _, .bl b => .bl b
  | _, _, .int i => .int i
  | _, _, .str x => .str x
  | _, _, .tup h r => .tup (by
      rcases h with ⟨h, n⟩ | h
      · exact .inl (t.rd h n)
      · exact .inr h) (RepAll.stepR t r)
  | _, _, .lst h r => .lst (by
      obtain ⟨q, n⟩ := t.rd (.inl h.1) h.2
      exact ⟨t.keep _ _ h.2 h.1, n⟩) (RepAll.stepR t r)
  | _, _, .rol h r => .rol (by
      rcases h with ⟨o, h⟩ | h
      · exact .inl ⟨o, t.frz h⟩
      · exact .inr h) (RepAll.stepR t r)
  | _, _, .obj h n r => .obj (t.keep _ _ n h) (fun l => n (t.held _ (by rw [h]; exact fun z => nomatch z) l)) (RepF.stepR t r)
  | _, _, .cell e => .cell (prefix_get t.pre e)
  | _, _, .ty n => .ty n
  | _, _, .cls c => .cls c
  | _, _, .exn0 h n => .exn0 (t.keep _ _ n h) (fun l => n (t.held _ (by rw [h]; exact fun z => nomatch z) l))
  | _, _, .exn1 h n hx nx r => .exn1 (t.keep _ _ n h) (fun l => n (t.held _ (by rw [h]; exact fun z => nomatch z) l)) (t.keep _ _ nx hx) (fun l => nx (t.held _ (by rw [hx]; exact fun z => nomatch z) l)) (RepF.stepR t r)
theorem RepAll.stepR (t : StepR μ S H μ' S' H') : ∀ {vs : List V} {ds : List D}, RepAll g μ S H vs ds → RepAll g μ' S' H' vs ds
  | _, _, .nil => .nil
  | _, _, .cons r q => .cons (Rep.stepR t r) (RepAll.stepR t q)
theorem RepF.stepR (t : StepR μ S H μ' S' H') : ∀ {vs : List (Str × V)} {ds : List (Str × D)}, RepF g μ S H vs ds → RepF g μ' S' H' vs ds
  | _, _, .nil => .nil
  | _, _, .cons r q => .cons (Rep.stepR t r) (RepF.stepR t q)
end
theorem Rep.step (t : Step μ S H μ' S' H') {v : V} {d : D} (r : Rep g μ S H v d) : Rep g μ' S' H' v d := r.stepR t.toR
theorem RepAll.step (t : Step μ S H μ' S' H') {vs : List V} {ds : List D} (r : RepAll g μ S H vs ds) : RepAll g μ' S' H' vs ds := r.stepR t.toR
theorem RepF.step (t : Step μ S H μ' S' H') {vs : List (Str × V)} {ds : List (Str × D)} (r : RepF g μ S H vs ds) : RepF g μ' S' H' vs ds := r.stepR t.toR
theorem RepK.stepR (t : StepR μ S H μ' S' H') {vs : List (Key × V)} {ds : List (Key × D)} (r : RepK g μ S H vs ds) : RepK g μ' S' H' vs ds := by
  induction r with
  | nil => exact .nil
  | cons r _ ih => exact .cons (r.stepR t) ih
theorem RepK.step (t : Step μ S H μ' S' H') {vs : List (Key × V)} {ds : List (Key × D)} (r : RepK g μ S H vs ds) : RepK g μ' S' H' vs ds := by
  induction r with
  | nil => exact .nil
  | cons r _ ih => exact .cons (r.step t) ih
theorem RepAll.length : ∀ {vs : List V} {ds : List D}, RepAll g μ S H vs ds → vs.length = ds.length
  | _, _, .nil => rfl
  | _, _, .cons _ q => congrArg Nat.succ (RepAll.length q)
theorem RepAll.append : ∀ {vs ws : List V} {ds es : List D}, RepAll g μ S H vs ds → RepAll g μ S H ws es → RepAll g μ S H (vs ++ ws) (ds ++ es)
  | _, _, _, _, .nil, q => q
  | _, _, _, _, .cons r p, q => .cons r (RepAll.append p q)
theorem RepAll.get : ∀ {vs : List V} {ds : List D} {i : Nat} {d : D}, RepAll g μ S H vs ds → ds[i]? = some d → ∃ v, vs[i]? = some v ∧ Rep g μ S H v d
  | _, _, _, _, .nil, e => by simp at e
  | _, _, 0, _, .cons r _, e => by simp at e; subst e; exact ⟨_, rfl, r⟩
  | _, _, i + 1, _, .cons _ q, e => by
    obtain ⟨v, h1, h2⟩ := RepAll.get (i := i) q (by simpa using e)
    exact ⟨v, by simpa using h1, h2⟩
theorem RepAll.getV : ∀ {vs : List V} {ds : List D} {i : Nat} {v : V}, RepAll g μ S H vs ds → vs[i]? = some v → ∃ d, ds[i]? = some d ∧ Rep g μ S H v d
  | _, _, _, _, .nil, e => by simp at e
  | _, _, 0, _, .cons r _, e => by simp at e; subst e; exact ⟨_, rfl, r⟩
  | _, _, i + 1, _, .cons _ q, e => by
    obtain ⟨v, h1, h2⟩ := RepAll.getV (i := i) q (by simpa using e)
    exact ⟨v, by simpa using h1, h2⟩
theorem RepAll.take : ∀ {vs : List V} {ds : List D} (n : Nat), RepAll g μ S H vs ds → RepAll g μ S H (vs.take n) (ds.take n)
  | _, _, 0, _ => .nil
  | _, _, _ + 1, .nil => .nil
  | _, _, n + 1, .cons r q => .cons r (RepAll.take n q)
theorem RepAll.drop : ∀ {vs : List V} {ds : List D} (n : Nat), RepAll g μ S H vs ds → RepAll g μ S H (vs.drop n) (ds.drop n)
  | _, _, 0, q => q
  | _, _, _ + 1, .nil => .nil
  | _, _, n + 1, .cons _ q => RepAll.drop n q
theorem RepAll.set : ∀ {vs : List V} {ds : List D} (i : Nat) {v : V} {d : D}, RepAll g μ S H vs ds → Rep g μ S H v d → RepAll g μ S H (vs.set i v) (ds.set i d)
  | _, _, _, _, _, .nil, _ => .nil
  | _, _, 0, _, _, .cons _ q, r => .cons r q
  | _, _, i + 1, _, _, .cons p q, r => .cons p (RepAll.set i q r)
theorem RepAll.reverse : ∀ {vs : List V} {ds : List D}, RepAll g μ S H vs ds → RepAll g μ S H vs.reverse ds.reverse
  | _, _, .nil => .nil
  | _, _, .cons r q => by
    rw [List.reverse_cons, List.reverse_cons]
    exact RepAll.append (RepAll.reverse q) (.cons r .nil)
theorem RepF.lookup {f : Str} : ∀ {vs : List (Str × V)} {fs : List (Str × D)} {d : D}, RepF g μ S H vs fs → fs.lookup f = some d → ∃ v, vs.lookup f = some v ∧ Rep g μ S H v d
  | _, _, _, .nil, e => by simp at e
  | _, _, _, .cons (f := h) r q, e => by
    by_cases z : f = h
    · subst z
      rw [List.lookup_cons_self] at e ⊢
      cases e
      exact ⟨_, rfl, r⟩
    · have z' : (f == h) = false := beq_eq_false_iff_ne.mpr z
      rw [List.lookup_cons, z'] at e
      rw [List.lookup_cons, z']
      exact RepF.lookup q e
theorem RepF.length : ∀ {vs : List (Str × V)} {fs : List (Str × D)}, RepF g μ S H vs fs → vs.length = fs.length
  | _, _, .nil => rfl
  | _, _, .cons _ q => congrArg Nat.succ (RepF.length q)
/-- an attribute stored -/
def putD (f : Str) (d : D) : List (Str × D) → List (Str × D)
  | [] => [(f, d)]
  | (h, x) :: r => if h = f then (h, d) :: r else (h, x) :: putD f d r
theorem RepF.put {f : Str} {v : V} {d : D} (r : Rep g μ S H v d) : ∀ {vs : List (Str × V)} {fs : List (Str × D)}, RepF g μ S H vs fs → RepF g μ S H (putF f v vs) (putD f d fs)
  | _, _, .nil => .cons r .nil
  | _, _, .cons (f := h) (v := x) (vs := vs) (d := y) (ds := fs) p q => by
    show RepF g μ S H (if h = f then (h, v) :: vs else (h, x) :: putF f v vs) (if h = f then (h, d) :: fs else (h, y) :: putD f d fs)
    by_cases z : h = f
    · rw [if_pos z, if_pos z]
      exact .cons r q
    · rw [if_neg z, if_neg z]
      exact .cons p (RepF.put r q)
end

/-- the names' values -/
def EnvOk (g : Gx) (μ : Gh) (S : Sto) (H : Hp) (σ : L2.St) (ρ : DEnv) : Prop := σ.length = ρ.length ∧ ∀ (i : Nat) (d : D), ρ[i]? = some (some d) → ∃ v, σ[i]? = some (some v) ∧ Rep g μ S H v d
section
variable {g : Gx} {μ μ' : Gh} {S S' : Sto} {H H' : Hp} {σ : L2.St} {ρ : DEnv}
theorem EnvOk.step (t : Step μ S H μ' S' H') (h : EnvOk g μ S H σ ρ) : EnvOk g μ' S' H' σ ρ := ⟨h.1, fun i d e => by
  obtain ⟨v, e1, r⟩ := h.2 i d e
  exact ⟨v, e1, r.step t⟩⟩
theorem EnvOk.set (h : EnvOk g μ S H σ ρ) (i : Nat) {v : V} {d : D} (r : Rep g μ S H v d) : EnvOk g μ S H (σ.set i (some v)) (ρ.set i (some d)) := by
  refine ⟨by rw [List.length_set, List.length_set]; exact h.1, fun j e hj => ?_⟩
  by_cases z : i = j
  · subst z
    have hl : i < ρ.length := by
      have q := (List.getElem?_eq_some_iff.mp hj).1
      rw [List.length_set] at q
      exact q
    rw [List.getElem?_set_self hl] at hj
    cases hj
    rw [List.getElem?_set_self (by rw [h.1]; exact hl)]
    exact ⟨v, rfl, r⟩
  · rw [List.getElem?_set_ne z] at hj
    rw [List.getElem?_set_ne z]
    exact h.2 j e hj
/-- a name is gone -/
theorem EnvOk.unset (h : EnvOk g μ S H σ ρ) (i : Nat) {x : Option V} : EnvOk g μ S H (σ.set i x) (ρ.set i none) := by
  refine ⟨by rw [List.length_set, List.length_set]; exact h.1, fun j e hj => ?_⟩
  by_cases z : i = j
  · subst z
    have hl : i < ρ.length := by
      have q := (List.getElem?_eq_some_iff.mp hj).1
      rw [List.length_set] at q
      exact q
    rw [List.getElem?_set_self hl] at hj
    cases hj
  · rw [List.getElem?_set_ne z] at hj
    rw [List.getElem?_set_ne z]
    exact h.2 j e hj
end

/-- an error's dict (d: where) has its fields -/
def XcP (g : Gx) (μ : Gh) (S : Sto) (H : Hp) (d : Option Addr) (fs : List (Str × D)) : Prop := (d = none ∧ fs = []) ∨ ∃ dx vs, d = some dx ∧ H dx = some (.xd vs) ∧ ¬ Held μ S dx ∧ RepF g μ S H vs fs
/-- what is wanted of a piece of code that starts at (μ, S, H): Q of each value and later state, E of each exception -/
def Wp {α : Type} (g : Gx) (E : XK) (m : M α) (μ : Gh) (S : Sto) (H : Hp) (Q : α → Gh → Sto → Hp → Prop) : Prop :=
  match m S with
  | .ok a S' => ∀ μ' H', Step μ S H μ' S' H' → StoOk g μ' S' H' → Q a μ' S' H'
  | .exc c fs S' => ∀ μ' H' (d : Option Addr), Step μ S H μ' S' H' → StoOk g μ' S' H' → XcP g μ' S' H' d fs → E (.ref (g.ca c)) d H'
  | .bad => False
section
variable {α β : Type} {g : Gx} {E : XK} {μ : Gh} {S : Sto} {H : Hp}
theorem Wp.bind {m : M α} {k : α → M β} {Q : β → Gh → Sto → Hp → Prop} (h : Wp g E (m >>= k) μ S H Q) : Wp g E m μ S H fun a μ1 S1 H1 => Wp g E (k a) μ1 S1 H1 fun b μ2 S2 H2 => Step μ S H μ2 S2 H2 → Q b μ2 S2 H2 := by
  unfold Wp at h ⊢
  rw [M.bind_run] at h
  cases e : m S with
  | bad => rw [e] at h; exact h
  | exc c fs S1 => rw [e] at h; exact h
  | ok a S1 =>
    rw [e] at h
    intro μ1 H1 t1 k1
    dsimp only at h
    show match k a S1 with | .ok a S' => _ | .exc c fs S' => _ | .bad => _
    cases e2 : k a S1 with
    | bad => rw [e2] at h; exact h
    | exc c fs S2 =>
      rw [e2] at h
      exact fun μ2 H2 d t2 k2 q => h μ2 H2 d (t1.trans t2) k2 q
    | ok b S2 =>
      rw [e2] at h
      exact fun μ2 H2 t2 k2 t => h μ2 H2 t k2
theorem Wp.mono {m : M α} {Q Q' : α → Gh → Sto → Hp → Prop} (h : Wp g E m μ S H Q) (f : ∀ a μ' S' H', Step μ S H μ' S' H' → StoOk g μ' S' H' → Q a μ' S' H' → Q' a μ' S' H') : Wp g E m μ S H Q' := by
  unfold Wp at h ⊢
  cases e : m S with
  | bad => rw [e] at h; exact h
  | exc c fs S1 => rw [e] at h; exact h
  | ok a S1 =>
    rw [e] at h
    exact fun μ' H' t k => f _ _ _ _ t k (h μ' H' t k)
theorem Wp.of_ok {m : M α} {a : α} {S' : Sto} {Q : α → Gh → Sto → Hp → Prop} (e : m S = .ok a S') (h : ∀ μ' H', Step μ S H μ' S' H' → StoOk g μ' S' H' → Q a μ' S' H') : Wp g E m μ S H Q := by
  unfold Wp
  rw [e]
  exact h
theorem Wp.run {m : M α} {Q : α → Gh → Sto → Hp → Prop} (h : Wp g E m μ S H Q) : (∃ a S', m S = .ok a S' ∧ ∀ μ' H', Step μ S H μ' S' H' → StoOk g μ' S' H' → Q a μ' S' H') ∨
    ∃ c fs S', m S = .exc c fs S' ∧ ∀ μ' H' (d : Option Addr), Step μ S H μ' S' H' → StoOk g μ' S' H' → XcP g μ' S' H' d fs → E (.ref (g.ca c)) d H' := by
  unfold Wp at h
  cases e : m S with
  | bad => rw [e] at h; exact h.elim
  | exc c fs S1 =>
    rw [e] at h
    exact .inr ⟨c, fs, S1, rfl, h⟩
  | ok a S1 =>
    rw [e] at h
    exact .inl ⟨a, S1, rfl, h⟩
theorem Wp.of_exc {m : M α} {c : Nat} {fs : List (Str × D)} {S' : Sto} {Q : α → Gh → Sto → Hp → Prop} (e : m S = .exc c fs S')
    (h : ∀ μ' H' (d : Option Addr), Step μ S H μ' S' H' → StoOk g μ' S' H' → XcP g μ' S' H' d fs → E (.ref (g.ca c)) d H') : Wp g E m μ S H Q := by
  unfold Wp
  rw [e]
  exact h
theorem Wp.pure {a : α} {Q : α → Gh → Sto → Hp → Prop} (h : Wp g E (Pure.pure a : M α) μ S H Q) (k : StoOk g μ S H) : Q a μ S H := h μ H (Step.refl _ _ _) k
end
end DD

/-! DD2: operators on data, and why they are the machine's -/
namespace DD
open PySem PySem.Spec PyProof.Rows L2

def M.need (c : Prop) [Decidable c] : M Unit := fun S => if c then .ok () S else .bad
open Classical in
/-- as need, not to be worked out by the kernel -/
noncomputable def M.want (c : Prop) : M Unit := fun S => if c then .ok () S else .bad
def M.get {α : Type} (f : Sto → Option α) : M α := fun S => match f S with | some a => .ok a S | none => .bad
/-- the store is changed -/
def M.put (f : Sto → Sto) : M Unit := fun S => .ok () (f S)
section
variable {α : Type} {g : Gx} {E : XK} {μ : Gh} {S : Sto} {H : Hp}
theorem Wp.need {c : Prop} [Decidable c] {Q : Unit → Gh → Sto → Hp → Prop} (h : Wp g E (M.need c) μ S H Q) (k : StoOk g μ S H) : c ∧ Q () μ S H := by
  unfold Wp M.need at h
  by_cases hc : c
  · rw [if_pos hc] at h
    exact ⟨hc, h μ H (Step.refl _ _ _) k⟩
  · rw [if_neg hc] at h
    exact h.elim
theorem Wp.want {c : Prop} {Q : Unit → Gh → Sto → Hp → Prop} (h : Wp g E (M.want c) μ S H Q) (k : StoOk g μ S H) : c ∧ Q () μ S H := by
  unfold Wp M.want at h
  by_cases hc : c
  · rw [if_pos hc] at h
    exact ⟨hc, h μ H (Step.refl _ _ _) k⟩
  · rw [if_neg hc] at h
    exact h.elim
theorem Wp.get {f : Sto → Option α} {Q : α → Gh → Sto → Hp → Prop} (h : Wp g E (M.get f) μ S H Q) (k : StoOk g μ S H) : ∃ a, f S = some a ∧ Q a μ S H := by
  unfold Wp M.get at h
  cases e : f S with
  | none => rw [e] at h; exact h.elim
  | some a =>
    rw [e] at h
    exact ⟨a, rfl, h μ H (Step.refl _ _ _) k⟩
/-- a new object beside -/
theorem Step.alloc {p : Addr} {o : HO} (h : H p = none) : Step μ S H μ S (upd H p o) := by
  refine ⟨List.prefix_refl _, fun _ h => h, fun e => ?_, fun a u _ e => ?_, fun a l => .inl l, fun a l => .inl l, fun a e => ?_⟩
  · rw [upd_ne (ne_of_none e h)]; exact e
  · rw [upd_ne (ne_of_none e h)]; exact e
  · by_cases z : a = p
    · rw [z, upd_same] at e; cases e
    · rw [upd_ne z] at e; exact e
theorem CellAt.step {S' : Sto} {μ' : Gh} {H' : Hp} (t : Step μ S H μ' S' H') {a : Addr} {c : Cell} (h : CellAt g μ S H a c) (e : H' a = H a) : CellAt g μ' S' H' a c := by
  cases c with
  | lst ds =>
    obtain ⟨xs, q, r⟩ := h
    exact ⟨xs, by rw [e]; exact q, r.step t⟩
  | obj c fs =>
    obtain ⟨dx, vs, q, r⟩ := h
    exact ⟨dx, vs, by rw [e]; exact q, r.step t⟩
  | dct ds =>
    obtain ⟨vs, q, r⟩ := h
    exact ⟨vs, by rw [e]; exact q, r.step t⟩
theorem StoOk.alloc {p : Addr} {o : HO} (k : StoOk g μ S H) (h : H p = none) : StoOk g μ S (upd H p o) := by
  refine ⟨k.len, k.nex, fun a ha => ?_, k.inj, fun n c e => ?_⟩
  · by_cases z : a = p
    · rw [z, upd_same]; exact fun z => nomatch z
    · rw [upd_ne z]; exact k.ext a ha
  obtain ⟨a, e1, q⟩ := k.at_ n c e
  refine ⟨a, e1, q.step (Step.alloc h) (upd_ne fun z => ?_)⟩
  exact k.there ⟨n, c, e, e1⟩ (by rw [z]; exact h)
end

/-- what a two-place operation on data must be worth -/
def OpS (g : Gx) (r : R2) (op : D → D → M D) : Prop := ∀ (E : XK) (μ : Gh) (S : Sto) (H : Hp) (v u : V) (x y : D) (Q : VK), StoOk g μ S H → Rep g μ S H v x → Rep g μ S H u y →
  Wp g E (op x y) μ S H (fun d μ' S' H' => ∀ w, Rep g μ' S' H' w d → Q w H') → r v u H Q
def UnS (g : Gx) (r : V → Hp → VK → Prop) (op : D → M D) : Prop := ∀ (E : XK) (μ : Gh) (S : Sto) (H : Hp) (v : V) (x : D) (Q : VK), StoOk g μ S H → Rep g μ S H v x →
  Wp g E (op x) μ S H (fun d μ' S' H' => ∀ w, Rep g μ' S' H' w d → Q w H') → r v H Q
def CallS (g : Gx) (r : List V → Hp → VK → Prop) (op : List D → M D) : Prop := ∀ (E : XK) (μ : Gh) (S : Sto) (H : Hp) (vs : List V) (xs : List D) (Q : VK), StoOk g μ S H → RepAll g μ S H vs xs →
  Wp g E (op xs) μ S H (fun d μ' S' H' => ∀ w, Rep g μ' S' H' w d → Q w H') → r vs H Q
def MtS (g : Gx) (r : V → List V → Hp → VK → Prop) (op : D → List D → M D) : Prop := ∀ (E : XK) (μ : Gh) (S : Sto) (H : Hp) (v : V) (x : D) (vs : List V) (xs : List D) (Q : VK), StoOk g μ S H → Rep g μ S H v x → RepAll g μ S H vs xs →
  Wp g E (op x xs) μ S H (fun d μ' S' H' => ∀ w, Rep g μ' S' H' w d → Q w H') → r v vs H Q

/-! ### lists, tuples by their items -/
def cellL (n : Nat) (S : Sto) : Option (List D) := match S[n]? with | some (some (.lst xs)) => some xs | _ => none
theorem cellL_some {n : Nat} {S : Sto} {xs : List D} (h : cellL n S = some xs) : S[n]? = some (some (.lst xs)) := by
  unfold cellL at h
  split at h
  · cases h; assumption
  · cases h
/-- a list -/
def seqL : D → M (List D)
  | .lst xs => pure xs
  | .cell n => M.get (cellL n)
  | _ => M.bad
/-- a list or a tuple, read -/
def seqA : D → M (List D)
  | .lst xs => pure xs
  | .rol xs => pure xs
  | .tup xs => pure xs
  | .cell n => M.get (cellL n)
  | _ => M.bad
section
variable {g : Gx} {E : XK} {μ : Gh} {S : Sto} {H : Hp} {v : V} {x : D} {Q : List D → Gh → Sto → Hp → Prop}
theorem cell_rep (k : StoOk g μ S H) {n : Nat} {xs : List D} {a : Addr} (e : cellL n S = some xs) (ha : μ.m[n]? = some a) : ∃ vs, H a = some (.lst vs) ∧ RepAll g μ S H vs xs := by
  obtain ⟨b, e1, q⟩ := k.at_ n _ (cellL_some e)
  rw [ha] at e1
  cases e1
  exact q
theorem Wp.seqL (h : Wp g E (seqL x) μ S H Q) (k : StoOk g μ S H) (r : Rep g μ S H v x) : ∃ xs a vs, v = .ref a ∧ H a = some (.lst vs) ∧ RepAll g μ S H vs xs ∧ Q xs μ S H := by
  cases r with
  | lst f q => exact ⟨_, _, _, rfl, f.1, q, Wp.pure h k⟩
  | cell e =>
    obtain ⟨xs, h1, h2⟩ := Wp.get h k
    obtain ⟨vs, h3, h4⟩ := cell_rep k h1 e
    exact ⟨xs, _, vs, rfl, h3, h4, h2⟩
  | _ => exact (show False from h).elim
theorem Wp.seqA (h : Wp g E (seqA x) μ S H Q) (k : StoOk g μ S H) (r : Rep g μ S H v x) : ∃ xs a vs, v = .ref a ∧ (SqL g.K H a vs ∨ SqT g.K H a vs) ∧ RepAll g μ S H vs xs ∧ Q xs μ S H := by
  cases r with
  | lst f q => exact ⟨_, _, _, rfl, .inl f.sq, q, Wp.pure h k⟩
  | rol f q => exact ⟨_, _, _, rfl, .inl f.sq, q, Wp.pure h k⟩
  | tup f q => exact ⟨_, _, _, rfl, .inr f.sq, q, Wp.pure h k⟩
  | cell e =>
    obtain ⟨xs, h1, h2⟩ := Wp.get h k
    obtain ⟨vs, h3, h4⟩ := cell_rep k h1 e
    exact ⟨xs, _, vs, rfl, .inl (.of h3), h4, h2⟩
  | _ => exact (show False from h).elim
/-- a new list, a new tuple -/
theorem new_lst {p : Addr} {vs : List V} {ds : List D} (k : StoOk g μ S H) (h : H p = none) (r : RepAll g μ S H vs ds) : Step μ S H μ S (upd H p (.lst vs)) ∧ StoOk g μ S (upd H p (.lst vs)) ∧ Rep g μ S (upd H p (.lst vs)) (.ref p) (.lst ds) :=
  ⟨Step.alloc h, k.alloc h, .lst ⟨upd_same, k.new h⟩ (r.step (Step.alloc h))⟩
theorem new_tup {p : Addr} {vs : List V} {ds : List D} (k : StoOk g μ S H) (h : H p = none) (r : RepAll g μ S H vs ds) : Step μ S H μ S (upd H p (.tup vs)) ∧ StoOk g μ S (upd H p (.tup vs)) ∧ Rep g μ S (upd H p (.tup vs)) (.ref p) (.tup ds) :=
  ⟨Step.alloc h, k.alloc h, .tup (.inl ⟨.inl upd_same, k.new h⟩) (r.step (Step.alloc h))⟩
/-- the end of an operation that gives out a -/
theorem Wp.end {α : Type} {a : α} {Q : α → Gh → Sto → Hp → Prop} (h : Wp g E (Pure.pure a : M α) μ S H Q) {μ' : Gh} {H' : Hp} (t : Step μ S H μ' S H') (k : StoOk g μ' S H') : Q a μ' S H' := h μ' H' t k
end

/-! ### + -/
def dAdd : D → D → M D
  | .int i, .int j => pure (.int (i + j))
  | .str a, .str b => do M.need (a.length + b.length ≤ sizeLine); pure (.str (a ++ b))
  | .tup xs, .tup ys => do M.need (xs.length + ys.length ≤ sizeLine); pure (.tup (xs ++ ys))
  | .lst xs, y => do let ys ← seqL y; M.need (xs.length + ys.length ≤ sizeLine); pure (.lst (xs ++ ys))
  | .cell n, y => do let xs ← seqL (.cell n); let ys ← seqL y; M.need (xs.length + ys.length ≤ sizeLine); pure (.lst (xs ++ ys))
  | _, _ => M.bad
def rAddD (K : PySem.W.Frag) : R2 := fun x y H Q => (rI0 fun i j => .int (i + j)) x y H Q ∨ (∃ i j, x = .str i ∧ y = .str j ∧ i.length + j.length ≤ sizeLine ∧ Q (.str (i ++ j)) H) ∨ rCatA K x y H Q ∨ rCat x y H Q
theorem op_addD {X : Cx} : OpR X (binaryOp .Add) (rAddD X.K) := op_add.or (op_add_str.or (op_catA.or op_cat))
theorem add_tail {g : Gx} {E : XK} {μ : Gh} {S : Sto} {H : Hp} {Q : VK} {xs ys : List D} {vs ws : List V} {a b : Addr} (k : StoOk g μ S H) (rx : RepAll g μ S H vs xs) (ry : RepAll g μ S H ws ys)
    (ha : H a = some (.lst vs)) (hb : H b = some (.lst ws)) (h : Wp g E (do M.need (xs.length + ys.length ≤ sizeLine); pure (.lst (xs ++ ys)) : M D) μ S H (fun d μ' S' H' => ∀ w, Rep g μ' S' H' w d → Q w H')) : rCat (.ref a) (.ref b) H Q := by
  obtain ⟨h1, h2⟩ := Wp.need (Wp.bind h) k
  refine ⟨a, b, vs, ws, rfl, rfl, ha, hb, by rw [rx.length, ry.length]; exact h1, fun p hp => ?_⟩
  obtain ⟨t, k', r⟩ := new_lst k hp (rx.append ry)
  exact Wp.end h2 t k' t _ r
theorem add_s {g : Gx} : OpS g (rAddD g.K) dAdd := by
  intro E μ S H v u x y Q k rx ry h
  cases rx with
  | int i =>
    cases ry with
    | int j => exact .inl ⟨i, j, rfl, rfl, Wp.pure h k _ (.int _)⟩
    | _ => exact (show False from h).elim
  | str a =>
    cases ry with
    | str b =>
      obtain ⟨h1, h2⟩ := Wp.need (Wp.bind h) k
      exact .inr (.inl ⟨a, b, rfl, rfl, h1, Wp.pure h2 k (Step.refl _ _ _) _ (.str _)⟩)
    | _ => exact (show False from h).elim
  | tup f p =>
    cases ry with
    | tup f' p' =>
      obtain ⟨h1, h2⟩ := Wp.need (Wp.bind h) k
      refine .inr (.inr (.inl ⟨_, _, _, _, rfl, rfl, f.sq, f'.sq, by rw [p.length, p'.length]; exact h1, fun e => ?_, fun _ e => ?_, fun _ _ q hq => ?_⟩))
      · subst e
        cases p
        exact Wp.pure h2 k (Step.refl _ _ _) _ (.tup f' p')
      · subst e
        cases p'
        rw [List.append_nil] at h2
        exact Wp.pure h2 k (Step.refl _ _ _) _ (.tup f p)
      · obtain ⟨t, k', r⟩ := new_tup k hq (p.append p')
        exact Wp.end h2 t k' t _ r
    | _ => exact (show False from h).elim
  | lst f p =>
    have h' : Wp g E (do let ys ← seqL y; M.need (_ + ys.length ≤ sizeLine); pure (.lst (_ ++ ys)) : M D) μ S H (fun d μ' S' H' => ∀ w, Rep g μ' S' H' w d → Q w H') := h
    obtain ⟨ys, b, ws, rfl, hb, ry', h2⟩ := Wp.seqL (Wp.bind h') k ry
    exact .inr (.inr (.inr (add_tail (Q := Q) k p ry' f.1 hb (h2.mono fun d _ _ _ t _ z => z t))))
  | cell e =>
    have h' : Wp g E (do let xs ← seqL (.cell _); let ys ← seqL y; M.need (xs.length + ys.length ≤ sizeLine); pure (.lst (xs ++ ys)) : M D) μ S H (fun d μ' S' H' => ∀ w, Rep g μ' S' H' w d → Q w H') := h
    obtain ⟨xs, a, vs, ea, ha, rx', h1⟩ := Wp.seqL (Wp.bind h') k (.cell e)
    cases ea
    obtain ⟨ys, b, ws, rfl, hb, ry', h2⟩ := Wp.seqL (Wp.bind h1) k ry
    exact .inr (.inr (.inr (add_tail (Q := Q) k rx' ry' ha hb (h2.mono fun d _ _ _ t _ z => z t (Step.refl _ _ _ |>.trans t)))))
  | _ => exact (show False from h).elim
end DD

/-! DD3: ints, comparisons, ==, in, truth, places and slices -/
namespace DD
open PySem PySem.Spec PyProof.Rows L2

/-! ### ints -/
def int2 (C : Int → Int → Prop) [∀ i j, Decidable (C i j)] (f : Int → Int → D) : D → D → M D
  | .int i, .int j => do M.need (C i j); pure (f i j)
  | _, _ => M.bad
abbrev dSub := int2 (fun _ _ => True) fun i j => .int (i - j)
abbrev dMul := int2 (fun i j => i.natAbs.log2 + j.natAbs.log2 < 1000000) fun i j => .int (i * j)
abbrev dFdiv := int2 (fun _ j => 0 < j ∧ j.natAbs.log2 < 9000) fun i j => .int (i / j)
abbrev dMod := int2 (fun _ j => 0 < j) fun i j => .int (i % j)
def CPowW (i j : Int) : Prop := 0 ≤ j ∧ ((i.natAbs.log2 : Int) + 1) * j ≤ 134217728
noncomputable instance (i j : Int) : Decidable (CPowW i j) := Classical.propDecidable _
noncomputable abbrev dPow := int2 CPowW fun i j => .int (i ^ j.toNat)
abbrev dLt := int2 (fun _ _ => True) fun i j => .bl (decide (i < j))
abbrev dLe := int2 (fun _ _ => True) fun i j => .bl (decide (i ≤ j))
abbrev dGt := int2 (fun _ _ => True) fun i j => .bl (decide (j < i))
abbrev dGe := int2 (fun _ _ => True) fun i j => .bl (decide (j ≤ i))
def dNeg : D → M D
  | .int i => pure (.int (-i))
  | _ => M.bad
section
variable {g : Gx} {E : XK} {μ : Gh} {S : Sto} {H : Hp}
theorem int2_s {C C' : Int → Int → Prop} [∀ i j, Decidable (C i j)] {f : Int → Int → D} {f' : Int → Int → V} (hc : ∀ i j, C i j → C' i j) (hf : ∀ μ S H i j, Rep g μ S H (f' i j) (f i j)) : OpS g (rI C' f') (int2 C f) := by
  intro E μ S H v u x y Q k rx ry h
  cases rx with
  | int i =>
    cases ry with
    | int j =>
      obtain ⟨h1, h2⟩ := Wp.need (Wp.bind h) k
      exact ⟨i, j, rfl, rfl, hc i j h1, Wp.pure h2 k (Step.refl _ _ _) _ (hf _ _ _ i j)⟩
    | _ => exact (show False from h).elim
  | _ => exact (show False from h).elim
theorem int2_s0 {f : Int → Int → D} {f' : Int → Int → V} (hf : ∀ μ S H i j, Rep g μ S H (f' i j) (f i j)) : OpS g (rI0 f') (int2 (fun _ _ => True) f) := by
  intro E μ S H v u x y Q k rx ry h
  obtain ⟨i, j, e1, e2, _, q⟩ := int2_s (C' := fun _ _ => True) (fun _ _ _ => trivial) hf E μ S H v u x y Q k rx ry h
  exact ⟨i, j, e1, e2, q⟩
theorem sub_s : OpS g (rI0 fun i j => .int (i - j)) dSub := int2_s0 fun _ _ _ _ _ => .int _
theorem mul_s : OpS g (rI CMulW fun i j => .int (i * j)) dMul := int2_s (fun _ _ h => h) fun _ _ _ _ _ => .int _
theorem fdiv_s : OpS g (rI CDivW fun i j => .int (i / j)) dFdiv := int2_s (fun _ _ h => h) fun _ _ _ _ _ => .int _
theorem mod_s : OpS g (rI (fun _ j => 0 < j) fun i j => .int (i % j)) dMod := int2_s (fun _ _ h => h) fun _ _ _ _ _ => .int _
theorem op_powD {X : Cx} : OpR X (binaryOp .Pow) (rI CPowW fun i j => .int (i ^ j.toNat)) := opI fun i j _ _ _ _ _ hc q => by
  refine pow_int hc.1 ?_ q
  have b : Builtin.Int.intBits i ≤ i.natAbs.log2 + 1 := by
    unfold Builtin.Int.intBits
    split <;> omega
  have b' : (Builtin.Int.intBits i : Int) ≤ (i.natAbs.log2 : Int) + 1 := by omega
  have := Int.mul_le_mul_of_nonneg_right b' hc.1
  have e : (2 : Int) ^ 27 = 134217728 := by decide
  rw [e]
  exact Int.le_trans this hc.2
theorem pow_s : OpS g (rI CPowW fun i j => .int (i ^ j.toNat)) dPow := int2_s (fun _ _ h => h) fun _ _ _ _ _ => .int _
theorem lt_s : OpS g (rI0 fun i j => .bl (decide (i < j))) dLt := int2_s0 fun _ _ _ _ _ => .bl _
theorem le_s : OpS g (rI0 fun i j => .bl (decide (i ≤ j))) dLe := int2_s0 fun _ _ _ _ _ => .bl _
theorem gt_s : OpS g (rI0 fun i j => .bl (decide (j < i))) dGt := int2_s0 fun _ _ _ _ _ => .bl _
theorem ge_s : OpS g (rI0 fun i j => .bl (decide (j ≤ i))) dGe := int2_s0 fun _ _ _ _ _ => .bl _
theorem neg_s : UnS g (rU fun i => .int (-i)) dNeg := by
  intro E μ S H v x Q k rx h
  cases rx with
  | int i => exact ⟨i, rfl, Wp.pure h k _ (.int _)⟩
  | _ => exact (show False from h).elim
end

/-! ### plain data, for ==, in -/
def toPs (f : D → Option PyData) : List D → Option (List PyData)
  | [] => some []
  | d :: ds => (f d).bind fun p => (toPs f ds).map (p :: ·)
def toP (S : Sto) : Nat → D → Option PyData
  | 0, _ => none
  | _ + 1, .non => some .none
  | _ + 1, .bl b => some (.bool b)
  | _ + 1, .int i => some (.int i)
  | _ + 1, .str x => some (.str x)
  | n + 1, .tup ds => (toPs (toP S n) ds).map .tuple
  | n + 1, .lst ds => (toPs (toP S n) ds).map .list
  | n + 1, .rol ds => (toPs (toP S n) ds).map .list
  | n + 1, .cell c => (cellL c S).bind fun ds => (toPs (toP S n) ds).map .list
  | _ + 1, _ => none
section
variable {g : Gx} {E : XK} {μ : Gh} {S : Sto} {H : Hp}
theorem toPs_dp {f : D → Option PyData} (hf : ∀ v d p, Rep g μ S H v d → f d = some p → Dp g.K H v p) : ∀ {vs : List V} {ds : List D} {ps : List PyData}, RepAll g μ S H vs ds → toPs f ds = some ps → DpAll g.K H vs ps
  | _, _, _, .nil, e => by
    cases e
    exact .nil
  | _, _, _, .cons (d := d) (ds := ds) r q, e => by
    have e' : ((f d).bind fun p => (toPs f ds).map (p :: ·)) = some _ := e
    cases e1 : f d with
    | none => rw [e1] at e'; cases e'
    | some p =>
      rw [e1] at e'
      cases e2 : toPs f ds with
      | none => rw [e2] at e'; cases e'
      | some ps =>
        rw [e2] at e'
        cases e'
        exact .cons (hf _ _ _ r e1) (toPs_dp hf q e2)
theorem map_some {α β : Type} {o : Option α} {f : α → β} {b : β} (h : o.map f = some b) : ∃ a, o = some a ∧ f a = b := by
  cases o with
  | none => cases h
  | some a => exact ⟨a, rfl, Option.some.inj h⟩
theorem toP_dp (k : StoOk g μ S H) : ∀ (n : Nat) (v : V) (d : D) (p : PyData), Rep g μ S H v d → toP S n d = some p → Dp g.K H v p
  | 0, _, _, _, _, e => by cases e
  | n + 1, v, d, p, r, e => by
    have ih := toP_dp k n
    cases r with
    | non => cases e; exact .non
    | bl b => cases e; exact .bl b
    | int i => cases e; exact .int i
    | str x => cases e; exact .str x
    | tup f q =>
      obtain ⟨ps, e1, rfl⟩ := map_some (show (toPs (toP S n) _).map PyData.tuple = some p from e)
      exact .tup f.sq (toPs_dp ih q e1)
    | lst f q =>
      obtain ⟨ps, e1, rfl⟩ := map_some (show (toPs (toP S n) _).map PyData.list = some p from e)
      exact .lst f.sq (toPs_dp ih q e1)
    | rol f q =>
      obtain ⟨ps, e1, rfl⟩ := map_some (show (toPs (toP S n) _).map PyData.list = some p from e)
      exact .lst f.sq (toPs_dp ih q e1)
    | @cell a c em =>
      have e' : ((cellL c S).bind fun ds => (toPs (toP S n) ds).map PyData.list) = some p := e
      cases e0 : cellL c S with
      | none => rw [e0] at e'; cases e'
      | some ds =>
        rw [e0] at e'
        obtain ⟨ps, e1, rfl⟩ := map_some (show (toPs (toP S n) ds).map PyData.list = some p from e')
        obtain ⟨vs, h1, h2⟩ := cell_rep k e0 em
        exact .lst (.of h1) (toPs_dp ih h2 e1)
    | _ => cases e
end
def dEq (neg : Bool) (x y : D) : M D := do
  let p ← M.get fun S => toP S 70 x
  let q ← M.get fun S => toP S 70 y
  M.need (SeqAt.shaped p = true ∧ SeqAt.shaped q = true)
  pure (.bl (if neg then !PyData.eqv p q else PyData.eqv p q))
theorem eq_s {g : Gx} : OpS g (rEqD g.K) (dEq false) := by
  intro E μ S H v u x y Q k rx ry h
  obtain ⟨p, e1, h1⟩ := Wp.get (Wp.bind h) k
  obtain ⟨q, e2, h2⟩ := Wp.get (Wp.bind h1) k
  obtain ⟨⟨s1, s2⟩, h3⟩ := Wp.need (Wp.bind h2) k
  exact ⟨p, q, toP_dp k _ _ _ _ rx e1, toP_dp k _ _ _ _ ry e2, s1, s2, Wp.pure h3 k (Step.refl _ _ _) (Step.refl _ _ _) (Step.refl _ _ _) _ (.bl _)⟩
theorem ne_s {g : Gx} : OpS g (rNeD g.K) (dEq true) := by
  intro E μ S H v u x y Q k rx ry h
  obtain ⟨p, e1, h1⟩ := Wp.get (Wp.bind h) k
  obtain ⟨q, e2, h2⟩ := Wp.get (Wp.bind h1) k
  obtain ⟨⟨s1, s2⟩, h3⟩ := Wp.need (Wp.bind h2) k
  exact ⟨p, q, toP_dp k _ _ _ _ rx e1, toP_dp k _ _ _ _ ry e2, s1, s2, Wp.pure h3 k (Step.refl _ _ _) (Step.refl _ _ _) (Step.refl _ _ _) _ (.bl _)⟩

/-! ### in, not in: of texts, lists, tuples -/
def dIn (neg : Bool) : D → D → M D
  | .str a, .str b => pure (.bl (if neg then !(!(Builtin.Str.occurrences b a 0 b.length 1).isEmpty) else !(Builtin.Str.occurrences b a 0 b.length 1).isEmpty))
  | x, y => do
    let p ← M.get fun S => toP S 70 x
    let ys ← seqA y
    let qs ← M.get fun S => toPs (toP S 70) ys
    M.need (SeqAt.shaped p = true ∧ SeqAt.shaped (.list qs) = true)
    pure (.bl (if neg then !qs.any (fun z => PyData.eqv z p) else qs.any fun z => PyData.eqv z p))
def rInA (K : PySem.W.Frag) (neg : Bool) : R2 := fun x y H Q =>
  (∃ i j, x = .str i ∧ y = .str j ∧ Q (.bl (if neg then !(!(Builtin.Str.occurrences j i 0 j.length 1).isEmpty) else !(Builtin.Str.occurrences j i 0 j.length 1).isEmpty)) H) ∨
  ∃ d ds a vs, y = .ref a ∧ (SqL K H a vs ∨ SqT K H a vs) ∧ DpAll K H vs ds ∧ Dp K H x d ∧ SeqAt.shaped d = true ∧ SeqAt.shaped (.list ds) = true ∧ Q (.bl (if neg then !ds.any (fun z => PyData.eqv z d) else ds.any fun z => PyData.eqv z d)) H
theorem canLayAll_of {ds : List PyData} (h : SeqAt.shaped (.list ds) = true) : PyData.canLayAll0 ds = true := by
  have q := SeqAt.canLay_of_shaped h
  unfold PyData.canLay0 at q
  exact q
theorem op_inA {X : Cx} (hu : X.A.units + 65 < cLine) : OpR X (compareOp .In) (rInA X.K false) := by
  intro pins s σ H x y v u Q I rx ry h
  rcases h with h | ⟨d, ds, a, vs, rfl, hs, hd, he, s1, s2, q⟩
  · obtain ⟨i, j, rfl, rfl, q⟩ := h
    exact op_in_str pins s σ H _ _ v u Q I rx ry ⟨i, j, rfl, rfl, q⟩
  · obtain ⟨as, r1⟩ := Dp.reads I d x v he rx
    rcases hs with hs | hs
    · obtain ⟨bs, r2⟩ := Dp.reads I (.list ds) _ u (.lst hs hd) ry
      exact SeqAt.in_list_reads r2 r1 (canLayAll_of s2) (SeqAt.canLay_of_shaped s1) (room_in_shaped s1 hu) ⟨.bl _, H, I, rfl, q⟩
    · obtain ⟨bs, r2⟩ := Dp.reads I (.tuple ds) _ u (.tup hs hd) ry
      exact SeqAt.in_tuple_reads r2 r1 (canLayAll_of s2) (SeqAt.canLay_of_shaped s1) (room_in_shaped s1 hu) ⟨.bl _, H, I, rfl, q⟩
theorem op_notInA {X : Cx} (hu : X.A.units + 65 < cLine) : OpR X (compareOp .NotIn) (rInA X.K true) := by
  intro pins s σ H x y v u Q I rx ry h
  rcases h with h | ⟨d, ds, a, vs, rfl, hs, hd, he, s1, s2, q⟩
  · obtain ⟨i, j, rfl, rfl, q⟩ := h
    exact op_notin_str pins s σ H _ _ v u Q I rx ry ⟨i, j, rfl, rfl, q⟩
  · obtain ⟨as, r1⟩ := Dp.reads I d x v he rx
    rcases hs with hs | hs
    · obtain ⟨bs, r2⟩ := Dp.reads I (.list ds) _ u (.lst hs hd) ry
      exact SeqAt.notIn_list_reads r2 r1 (canLayAll_of s2) (SeqAt.canLay_of_shaped s1) (room_in_shaped s1 hu) ⟨.bl _, H, I, rfl, q⟩
    · obtain ⟨bs, r2⟩ := Dp.reads I (.tuple ds) _ u (.tup hs hd) ry
      exact SeqAt.notIn_tuple_reads r2 r1 (canLayAll_of s2) (SeqAt.canLay_of_shaped s1) (room_in_shaped s1 hu) ⟨.bl _, H, I, rfl, q⟩
theorem in_s {g : Gx} {neg : Bool} : OpS g (rInA g.K neg) (dIn neg) := by
  intro E μ S H v u x y Q k rx ry h
  have gen : (∀ a b, ¬ (x = .str a ∧ y = .str b)) → rInA g.K neg v u H Q := fun hn => by
    have e : dIn neg x y = (do
      let p ← M.get fun S => toP S 70 x
      let ys ← seqA y
      let qs ← M.get fun S => toPs (toP S 70) ys
      M.need (SeqAt.shaped p = true ∧ SeqAt.shaped (.list qs) = true)
      pure (.bl (if neg then !qs.any (fun z => PyData.eqv z p) else qs.any fun z => PyData.eqv z p))) := by
      unfold dIn
      split
      · exact absurd ⟨rfl, rfl⟩ (hn _ _)
      · rfl
    rw [e] at h
    obtain ⟨p, e1, h1⟩ := Wp.get (Wp.bind h) k
    obtain ⟨ys, a, vs, rfl, hs, ra, h2⟩ := Wp.seqA (Wp.bind h1) k ry
    obtain ⟨qs, e2, h3⟩ := Wp.get (Wp.bind h2) k
    obtain ⟨⟨s1, s2⟩, h4⟩ := Wp.need (Wp.bind h3) k
    exact .inr ⟨p, qs, a, vs, rfl, hs, toPs_dp (toP_dp k 70) ra e2, toP_dp k _ _ _ _ rx e1, s1, s2, Wp.pure h4 k (Step.refl _ _ _) (Step.refl _ _ _) (Step.refl _ _ _) (Step.refl _ _ _) _ (.bl _)⟩
  cases rx with
  | str a =>
    cases ry with
    | str b => exact .inl ⟨a, b, rfl, rfl, Wp.pure h k _ (.bl _)⟩
    | _ => exact gen fun _ _ z => nomatch z.2
  | _ => exact gen fun _ _ z => nomatch z.1

/-! ### is None -/
@[simp] def isNon : D → Bool
  | .non => true
  | _ => false
theorem isNon_rep {g : Gx} {μ : Gh} {S : Sto} {H : Hp} {v : V} {d : D} (r : Rep g μ S H v d) : decide (v = .non) = isNon d := by
  cases r <;> simp [isNon]

/-! ### truth -/
def truD : D → M Bool
  | .non => pure false
  | .bl b => pure b
  | .int i => pure (i != 0)
  | .str y => do M.need (y.length ≤ sizeLine); pure ((y.length : Int) != 0)
  | x => do let xs ← seqA x; pure !xs.isEmpty
theorem RepAll.isEmpty {g : Gx} {μ : Gh} {S : Sto} {H : Hp} {vs : List V} {ds : List D} (r : RepAll g μ S H vs ds) : vs.isEmpty = ds.isEmpty := by cases r <;> rfl
theorem tru_s {g : Gx} {E : XK} {μ : Gh} {S : Sto} {H : Hp} {v : V} {d : D} {Q : Bool → Hp → Prop} (k : StoOk g μ S H) (r : Rep g μ S H v d) (h : Wp g E (truD d) μ S H (fun b _ _ H' => Q b H')) : ∃ b, TruV g.K v H b ∧ Q b H := by
  cases r with
  | non => exact ⟨_, rfl, Wp.pure h k⟩
  | bl b => exact ⟨_, rfl, Wp.pure h k⟩
  | int i => exact ⟨_, rfl, Wp.pure h k⟩
  | str y =>
    obtain ⟨h1, h2⟩ := Wp.need (Wp.bind h) k
    exact ⟨_, ⟨h1, rfl⟩, Wp.pure h2 k (Step.refl _ _ _)⟩
  | tup f q => exact ⟨_, .inr (.inl ⟨_, f.sq, by rw [q.isEmpty]⟩), Wp.pure (Wp.pure (Wp.bind h) k) k (Step.refl _ _ _)⟩
  | lst f q => exact ⟨_, .inl ⟨_, f.sq, by rw [q.isEmpty]⟩, Wp.pure (Wp.pure (Wp.bind h) k) k (Step.refl _ _ _)⟩
  | rol f q => exact ⟨_, .inl ⟨_, f.sq, by rw [q.isEmpty]⟩, Wp.pure (Wp.pure (Wp.bind h) k) k (Step.refl _ _ _)⟩
  | cell e =>
    obtain ⟨xs, a, vs, ea, hs, q, h2⟩ := Wp.seqA (Wp.bind h) k (.cell e)
    cases ea
    refine ⟨!xs.isEmpty, ?_, Wp.pure h2 k (Step.refl _ _ _)⟩
    rcases hs with hs | hs
    · exact .inl ⟨_, hs, by rw [q.isEmpty]⟩
    · exact .inr (.inl ⟨_, hs, by rw [q.isEmpty]⟩)
  | _ => exact (show False from h).elim

/-! ### places, slices -/
def dIxI (i : Int) : D → M D
  | .str z => do M.need (z.length ≤ sizeLine); let c ← M.get fun _ => atI z.cps.toList i; pure (.str ⟨#[c]⟩)
  | x => do let xs ← seqA x; M.get fun _ => atI xs i
def dIx (x y : D) : M D := match y with
  | .int i => dIxI i x
  | _ => M.bad
theorem atI_rep {g : Gx} {μ : Gh} {S : Sto} {H : Hp} {vs : List V} {ds : List D} {i : Int} {d : D} (r : RepAll g μ S H vs ds) (e : atI ds i = some d) : ∃ v, atI vs i = some v ∧ Rep g μ S H v d := by
  unfold atI at e ⊢
  rw [r.length]
  cases q : ixN ds.length i with
  | none => rw [q] at e; cases e
  | some j =>
    rw [q] at e
    exact r.get (show ds[j]? = some d from e)
theorem ix_s {g : Gx} : OpS g (rIx g.K) dIx := by
  intro E μ S H v u x y Q k rx ry h
  cases ry with
  | int i =>
    have gen : (∀ z, x ≠ .str z) → rIx g.K v (.int i) H Q := fun hn => by
      have e : dIx x (.int i) = (do let xs ← seqA x; M.get fun _ => atI xs i) := by
        show dIxI i x = _
        unfold dIxI
        split
        · exact absurd rfl (hn _)
        · rfl
      rw [e] at h
      obtain ⟨xs, a, vs, rfl, hs, ra, h1⟩ := Wp.seqA (Wp.bind h) k rx
      obtain ⟨d, e1, h2⟩ := Wp.get h1 k
      obtain ⟨w, e2, rw_⟩ := atI_rep ra e1
      rcases hs with hs | hs
      · exact .inl ⟨a, vs, i, w, rfl, rfl, hs, e2, h2 (Step.refl _ _ _) _ rw_⟩
      · exact .inr (.inl ⟨a, vs, i, w, rfl, rfl, hs, e2, h2 (Step.refl _ _ _) _ rw_⟩)
    cases rx with
    | str z =>
      obtain ⟨h1, h2⟩ := Wp.need (Wp.bind h) k
      obtain ⟨c, e1, h3⟩ := Wp.get (Wp.bind h2) k
      exact .inr (.inr ⟨z, i, c, rfl, rfl, h1, e1, Wp.pure h3 k (Step.refl _ _ _) (Step.refl _ _ _) _ (.str _)⟩)
    | _ => exact gen fun _ z => nomatch z
  | _ => exact (show False from h).elim
def cutA {α : Type} (xs : List α) (lo hi : Option Int) : List α := (xs.drop (HT.sIx xs.length 0 lo)).take (HT.sIx xs.length xs.length hi - HT.sIx xs.length 0 lo)
theorem RepAll.cut {g : Gx} {μ : Gh} {S : Sto} {H : Hp} {vs : List V} {ds : List D} (r : RepAll g μ S H vs ds) (lo hi : Option Int) : RepAll g μ S H (cutV vs lo hi) (cutA ds lo hi) := by
  unfold cutV cutA
  rw [r.length]
  exact (r.drop _).take _
def dSlice (x : D) (lo hi : Option Int) : M D := match x with
  | .str z => do M.need (z.length ≤ sizeLine); pure (.str (cutS z lo hi))
  | .tup xs => pure (.tup (cutA xs lo hi))
  | x => do let xs ← seqA x; pure (.lst (cutA xs lo hi))
def rSlD (K : PySem.W.Frag) : V → Option Int → Option Int → Hp → VK → Prop := fun x lo hi H Q => rSlS x lo hi H Q ∨ rSlA K x lo hi H Q ∨ rSlL K x lo hi H Q
theorem sl_D {X : Cx} : SlR X (rSlD X.K) := sl_str.or (sl_tupA.or sl_list)
theorem sl_s {g : Gx} {E : XK} {μ : Gh} {S : Sto} {H : Hp} {v : V} {d : D} {Q : VK} {lo hi : Option Int} (k : StoOk g μ S H) (r : Rep g μ S H v d) (h : Wp g E (dSlice d lo hi) μ S H (fun d' μ' S' H' => ∀ w, Rep g μ' S' H' w d' → Q w H')) : rSlD g.K v lo hi H Q := by
  have lists : ∀ {xs : List D} {a : Addr} {vs : List V}, (SqL g.K H a vs) → RepAll g μ S H vs xs → Wp g E (pure (.lst (cutA xs lo hi)) : M D) μ S H (fun d' μ' S' H' => ∀ w, Rep g μ' S' H' w d' → Q w H') → rSlD g.K (.ref a) lo hi H Q := fun {xs a vs} hs q h2 => by
    refine .inr (.inr ⟨a, vs, rfl, hs, fun p hp => ?_⟩)
    obtain ⟨t, k', r⟩ := new_lst k hp (q.cut lo hi)
    exact Wp.end h2 t k' _ r
  cases r with
  | str z =>
    obtain ⟨h1, h2⟩ := Wp.need (Wp.bind h) k
    exact .inl ⟨z, rfl, h1, Wp.pure h2 k (Step.refl _ _ _) _ (.str _)⟩
  | @tup a xs ds f q =>
    refine .inr (.inl ⟨_, _, rfl, f.sq, fun e => ?_, fun _ p hp => ?_⟩)
    · refine Wp.pure h k _ ?_
      have z : cutA ds lo hi = ds := by
        unfold cutA
        rw [q.length] at e
        rw [e.1, e.2, List.drop_zero, Nat.sub_zero]
        exact List.take_length
      show Rep g μ S H (.ref a) (.tup (cutA ds lo hi))
      rw [z]
      exact .tup f q
    · obtain ⟨t, k', r⟩ := new_tup k hp (q.cut lo hi)
      exact Wp.end h t k' _ r
  | lst f q => exact lists f.sq q ((Wp.pure (Wp.bind h) k).mono fun d' _ _ _ t _ z => z t)
  | rol f q => exact lists f.sq q ((Wp.pure (Wp.bind h) k).mono fun d' _ _ _ t _ z => z t)
  | cell e =>
    have h' : Wp g E (do let xs ← seqA (.cell _); pure (.lst (cutA xs lo hi)) : M D) μ S H (fun d' μ' S' H' => ∀ w, Rep g μ' S' H' w d' → Q w H') := h
    have hb := Wp.bind h'
    obtain ⟨xs, h1, h2⟩ := Wp.get hb k
    obtain ⟨vs, h3, h4⟩ := cell_rep k h1 e
    exact lists (.of h3) h4 (h2.mono fun d' _ _ _ t _ z => z t)
  | _ => exact (show False from h).elim
end DD

/-! DD4: the rules of expressions, by data -/
namespace DD
open PySem PySem.Spec PyProof.Rows L2

/-! ### what is changed in the store -/
section
variable {g : Gx} {E : XK} {μ : Gh} {S : Sto} {H : Hp}
/-- how a cell's content lies there, as an object's description -/
inductive CellIs (g : Gx) (μ : Gh) (S : Sto) (H : Hp) : HO → Cell → Prop where
  | lst {vs : List V} {ds : List D} : RepAll g μ S H vs ds → CellIs g μ S H (.lst vs) (.lst ds)
  | obj {c : Nat} {dx : Addr} {vs : List (Str × V)} {fs : List (Str × D)} : RepF g μ S H vs fs → CellIs g μ S H (.ins (g.ca c) dx vs) (.obj c fs)
  | dct {vs : List (Key × V)} {ds : List (Key × D)} : RepK g μ S H vs ds → CellIs g μ S H (.dK vs) (.dct ds)
theorem cellAt_is {a : Addr} {c : Cell} : CellAt g μ S H a c ↔ ∃ o, H a = some o ∧ CellIs g μ S H o c := by
  constructor
  · intro h
    cases c with
    | lst ds => obtain ⟨vs, e, r⟩ := h; exact ⟨_, e, .lst r⟩
    | obj c fs => obtain ⟨dx, vs, e, r⟩ := h; exact ⟨_, e, .obj r⟩
    | dct ds => obtain ⟨vs, e, r⟩ := h; exact ⟨_, e, .dct r⟩
  · rintro ⟨o, e, h⟩
    cases h with
    | lst r => exact ⟨_, e, r⟩
    | obj r => exact ⟨_, _, e, r⟩
    | dct r => exact ⟨_, e, r⟩
theorem CellIs.step {μ' : Gh} {S' : Sto} {H' : Hp} (t : Step μ S H μ' S' H') {o : HO} {c : Cell} (h : CellIs g μ S H o c) : CellIs g μ' S' H' o c := by
  cases h with
  | lst r => exact .lst (r.step t)
  | obj r => exact .obj (r.step t)
  | dct r => exact .dct (r.step t)
theorem CellIs.nofrz {o : HO} {c : Cell} (h : CellIs g μ S H o c) : ∀ ob u, o ≠ .frz ob u := by
  intro ob u e
  cases h <;> cases e
theorem Live.at {n : Nat} {c : Cell} {a : Addr} (e : S[n]? = some (some c)) (ea : μ.m[n]? = some a) : Live μ S a := ⟨n, c, e, ea⟩
theorem set_live {n : Nat} {c c' : Cell} (e : S[n]? = some (some c)) (b : Addr) : Live μ (S.set n (some c')) b → Live μ S b := by
  rintro ⟨m, d, e1, e2⟩
  by_cases z : n = m
  · subst z
    exact ⟨n, c, e, e2⟩
  · rw [List.getElem?_set_ne z] at e1
    exact ⟨m, d, e1, e2⟩
/-- the n-th cell is written -/
theorem sto_write {n : Nat} {c c' : Cell} {a : Addr} {o' : HO} (k : StoOk g μ S H) (e : S[n]? = some (some c)) (ea : μ.m[n]? = some a) (r : CellIs g μ S H o' c') :
    Step μ S H μ (S.set n (some c')) (upd H a o') ∧ StoOk g μ (S.set n (some c')) (upd H a o') := by
  obtain ⟨b, eb, q⟩ := k.at_ n c e
  rw [ea] at eb
  cases eb
  obtain ⟨o, ho, hc⟩ := cellAt_is.mp q
  have t : Step μ S H μ (S.set n (some c')) (upd H a o') := by
    refine ⟨List.prefix_refl _, fun _ h => h, fun {b ob u} h => ?_, fun b ob nl h => ?_, fun b l => .inl (set_live e b l), fun _ l => .inl l, fun b h => ?_⟩
    · rw [upd_ne (fun z => ?_)]
      · exact h
      · subst z
        rw [ho] at h
        exact hc.nofrz _ _ (Option.some.inj h)
    · have nb : b ≠ a := fun z => nl (by rw [z]; exact Live.at e ea)
      rw [upd_ne nb]
      exact h
    · by_cases z : b = a
      · rw [z, upd_same] at h; cases h
      · rw [upd_ne z] at h; exact h
  refine ⟨t, by rw [List.length_set]; exact k.len, fun b l => k.nex b (set_live e b l), fun b hb => ?_, fun m m' d d' x h1 h2 h3 h4 => ?_, fun m d h => ?_⟩
  · by_cases z : b = a
    · rw [z, upd_same]; exact fun z => nomatch z
    · rw [upd_ne z]; exact k.ext b hb
  · have old : ∀ {m : Nat} {d : Cell}, (S.set n (some c'))[m]? = some (some d) → ∃ d0, S[m]? = some (some d0) := fun {m d} h => by
      by_cases z : n = m
      · subst z; exact ⟨c, e⟩
      · rw [List.getElem?_set_ne z] at h; exact ⟨d, h⟩
    obtain ⟨d0, q0⟩ := old h1
    obtain ⟨d1, q1⟩ := old h2
    exact k.inj m m' d0 d1 x q0 q1 h3 h4
  · by_cases z : n = m
    · subst z
      have hl : n < S.length := (List.getElem?_eq_some_iff.mp e).1
      rw [List.getElem?_set_self hl] at h
      cases h
      exact ⟨a, ea, cellAt_is.mpr ⟨o', upd_same, r.step t⟩⟩
    · rw [List.getElem?_set_ne z] at h
      obtain ⟨b, e1, q1⟩ := k.at_ m d h
      refine ⟨b, e1, q1.step t (upd_ne fun z' => z ?_)⟩
      exact k.inj n m c d a e h ea (by rw [e1, z'])
/-- a new cell -/
theorem sto_new {c : Cell} {p : Addr} {o : HO} (k : StoOk g μ S H) (hp : H p = none) (r : CellIs g μ S H o c) (n : Nat) (hn : n = S.length) :
    Step μ S H (Gh.mk (μ.m ++ [p]) μ.ex) (S ++ [some c]) (upd H p o) ∧ StoOk g (Gh.mk (μ.m ++ [p]) μ.ex) (S ++ [some c]) (upd H p o) ∧ Rep g (Gh.mk (μ.m ++ [p]) μ.ex) (S ++ [some c]) (upd H p o) (.ref p) (.cell n) := by
  subst hn
  have get : ∀ {m : Nat} {d : Cell}, (S ++ [some c])[m]? = some (some d) → S[m]? = some (some d) ∨ (m = S.length ∧ d = c) := fun {m d} h => by
    by_cases z : m < S.length
    · rw [List.getElem?_append_left z] at h; exact .inl h
    · rw [List.getElem?_append_right (by omega)] at h
      have z2 : m = S.length := by
        have := (List.getElem?_eq_some_iff.mp h).1
        simp at this
        omega
      subst z2
      simp at h
      exact .inr ⟨rfl, h.symm⟩
  have gm : ∀ {m : Nat} {a : Addr}, m < S.length → (μ.m ++ [p])[m]? = some a → μ.m[m]? = some a := fun {m a} z h => by
    rw [List.getElem?_append_left (by rw [k.len]; exact z)] at h; exact h
  have gl : ∀ {a : Addr}, (μ.m ++ [p])[S.length]? = some a → a = p := fun {a} h => by
    rw [← k.len, List.getElem?_append_right (Nat.le_refl _)] at h
    simp at h
    exact h.symm
  have lt : ∀ {m : Nat} {d : Cell}, S[m]? = some (some d) → m < S.length := fun h => (List.getElem?_eq_some_iff.mp h).1
  have t : Step μ S H (Gh.mk (μ.m ++ [p]) μ.ex) (S ++ [some c]) (upd H p o) := by
    refine ⟨List.prefix_append _ _, fun _ h => h, fun {b ob u} h => ?_, fun b ob _ h => ?_, fun b l => ?_, fun _ l => .inl l, fun b h => ?_⟩
    · rw [upd_ne (ne_of_none h hp)]; exact h
    · rw [upd_ne (ne_of_none h hp)]; exact h
    · obtain ⟨m, d, h1, h2⟩ := l
      rcases get h1 with z | ⟨z, _⟩
      · exact .inl ⟨m, d, z, gm (lt z) h2⟩
      · subst z
        exact .inr (by rw [gl h2]; exact hp)
    · by_cases z : b = p
      · rw [z, upd_same] at h; cases h
      · rw [upd_ne z] at h; exact h
  refine ⟨t, ⟨by simp [k.len], fun b l hb => ?_, fun b hb => ?_, fun m m' d d' x h1 h2 h3 h4 => ?_, fun m d h => ?_⟩, .cell ?_⟩
  · have l' := t.live b l
    rcases l' with z | z
    · exact k.nex b z hb
    · exact k.ext b hb z
  · by_cases z : b = p
    · rw [z, upd_same]; exact fun z => nomatch z
    · rw [upd_ne z]; exact k.ext b hb
  · rcases get h1 with z | ⟨z, _⟩
    · rcases get h2 with z' | ⟨z', _⟩
      · exact k.inj m m' d d' x z z' (gm (lt z) h3) (gm (lt z') h4)
      · subst z'
        have e := gl h4
        subst e
        exact absurd ⟨m, d, z, gm (lt z) h3⟩ (k.newL hp)
    · subst z
      have e := gl h3
      subst e
      rcases get h2 with z' | ⟨z', _⟩
      · exact absurd ⟨m', d', z', gm (lt z') h4⟩ (k.newL hp)
      · exact z'.symm
  · rcases get h with z | ⟨z, e⟩
    · obtain ⟨b, e1, q1⟩ := k.at_ m d z
      refine ⟨b, prefix_get (List.prefix_append _ _) e1, q1.step t (upd_ne fun z' => ?_)⟩
      exact k.there ⟨m, d, z, e1⟩ (by rw [z']; exact hp)
    · subst z; subst e
      refine ⟨p, ?_, cellAt_is.mpr ⟨o, upd_same, r.step t⟩⟩
      rw [← k.len, List.getElem?_append_right (Nat.le_refl _)]
      simp
  · rw [← k.len, List.getElem?_append_right (Nat.le_refl _)]
    simp
end

/-! ### the readings -/
def tD (g : Gx) (W : WX) (f : DEnv → M D) : TE := fun σ H Q => ∃ ρ μ S, EnvOk g μ S H σ ρ ∧ StoOk g μ S H ∧
  Wp g (fun c d H' => W c d σ H') (f ρ) μ S H fun d μ' S' H' => ∀ v, Rep g μ' S' H' v d → Q v H'
def tDA (g : Gx) (W : WX) (f : DEnv → M (List D)) : TA := fun σ H Q => ∃ ρ μ S, EnvOk g μ S H σ ρ ∧ StoOk g μ S H ∧
  Wp g (fun c d H' => W c d σ H') (f ρ) μ S H fun ds μ' S' H' => ∀ vs, RepAll g μ' S' H' vs ds → Q vs H'
def tDT (g : Gx) (W : WX) (f : DEnv → M Bool) : TT := fun σ H Q => ∃ ρ μ S, EnvOk g μ S H σ ρ ∧ StoOk g μ S H ∧
  Wp g (fun c d H' => W c d σ H') (f ρ) μ S H fun b _ _ H' => Q b H'
def tDO (g : Gx) (W : WX) (f : DEnv → M (Option Int)) : TO := fun σ H Q => ∃ ρ μ S, EnvOk g μ S H σ ρ ∧ StoOk g μ S H ∧
  Wp g (fun c d H' => W c d σ H') (f ρ) μ S H fun o _ _ H' => Q o H'

theorem peOf {X : Cx} {e : Expr} {t t' : TE} (h : PE X e t) (k : ∀ σ H Q, t' σ H Q → t σ H Q) : PE X e t' := ⟨fun pins s σ H Q I hq => h.run pins s σ H Q I (k σ H Q hq)⟩
theorem ptOf {X : Cx} {e : Expr} {t t' : TT} (h : PT X e t) (k : ∀ σ H Q, t' σ H Q → t σ H Q) : PT X e t' := ⟨fun pins s σ H Q I hq => h.run pins s σ H Q I (k σ H Q hq)⟩
theorem pwOf {X : Cx} {e : Expr} {t t' : TT} (h : PW X e t) (k : ∀ σ H Q, t' σ H Q → t σ H Q) : PW X e t' := ⟨fun wh pins s σ H Q I hq => h.run wh pins s σ H Q I (k σ H Q hq)⟩
theorem paOf {X : Cx} {e : List Expr} {t t' : TA} (h : PA X e t) (k : ∀ σ H Q, t' σ H Q → t σ H Q) : PA X e t' := ⟨fun pos pins s σ H Q I hq => h.run pos pins s σ H Q I (k σ H Q hq)⟩
theorem poOf {X : Cx} {e : Option Expr} {t t' : TO} (h : PO X e t) (k : ∀ σ H Q, t' σ H Q → t σ H Q) : PO X e t' := ⟨fun pins s σ H Q I hq => h.run pins s σ H Q I (k σ H Q hq)⟩

abbrev gx (X : Cx) (ca : Nat → Addr) : Gx := ⟨X.K, ca⟩
section
variable {g : Gx} {W : WX} {σ : L2.St} {ρ : DEnv} {μ : Gh} {S : Sto} {H : Hp} {β : Type}
/-- a part, then what follows it -/
theorem tD_then {f : DEnv → M D} {k : D → M β} {Qb : β → Gh → Sto → Hp → Prop} {R : VK} (env : EnvOk g μ S H σ ρ) (sto : StoOk g μ S H) (h : Wp g (fun c d H' => W c d σ H') (f ρ >>= k) μ S H Qb)
    (q : ∀ d μ1 S1 H1 v, Step μ S H μ1 S1 H1 → StoOk g μ1 S1 H1 → EnvOk g μ1 S1 H1 σ ρ → Rep g μ1 S1 H1 v d → Wp g (fun c d H' => W c d σ H') (k d) μ1 S1 H1 Qb → R v H1) : tD g W f σ H R :=
  ⟨ρ, μ, S, env, sto, (Wp.bind h).mono fun d μ1 S1 H1 t k1 w v r => q d μ1 S1 H1 v t k1 (env.step t) r (w.mono fun _ _ _ _ t2 _ z => z (t.trans t2))⟩
theorem tDA_then {f : DEnv → M (List D)} {k : List D → M β} {Qb : β → Gh → Sto → Hp → Prop} {R : List V → Hp → Prop} (env : EnvOk g μ S H σ ρ) (sto : StoOk g μ S H) (h : Wp g (fun c d H' => W c d σ H') (f ρ >>= k) μ S H Qb)
    (q : ∀ d μ1 S1 H1 v, Step μ S H μ1 S1 H1 → StoOk g μ1 S1 H1 → EnvOk g μ1 S1 H1 σ ρ → RepAll g μ1 S1 H1 v d → Wp g (fun c d H' => W c d σ H') (k d) μ1 S1 H1 Qb → R v H1) : tDA g W f σ H R :=
  ⟨ρ, μ, S, env, sto, (Wp.bind h).mono fun d μ1 S1 H1 t k1 w v r => q d μ1 S1 H1 v t k1 (env.step t) r (w.mono fun _ _ _ _ t2 _ z => z (t.trans t2))⟩
theorem tDT_then {f : DEnv → M Bool} {k : Bool → M β} {Qb : β → Gh → Sto → Hp → Prop} {R : Bool → Hp → Prop} (env : EnvOk g μ S H σ ρ) (sto : StoOk g μ S H) (h : Wp g (fun c d H' => W c d σ H') (f ρ >>= k) μ S H Qb)
    (q : ∀ d μ1 S1 H1, Step μ S H μ1 S1 H1 → StoOk g μ1 S1 H1 → EnvOk g μ1 S1 H1 σ ρ → Wp g (fun c d H' => W c d σ H') (k d) μ1 S1 H1 Qb → R d H1) : tDT g W f σ H R :=
  ⟨ρ, μ, S, env, sto, (Wp.bind h).mono fun d μ1 S1 H1 t k1 w => q d μ1 S1 H1 t k1 (env.step t) (w.mono fun _ _ _ _ t2 _ z => z (t.trans t2))⟩
theorem tDO_then {f : DEnv → M (Option Int)} {k : Option Int → M β} {Qb : β → Gh → Sto → Hp → Prop} {R : Option Int → Hp → Prop} (env : EnvOk g μ S H σ ρ) (sto : StoOk g μ S H) (h : Wp g (fun c d H' => W c d σ H') (f ρ >>= k) μ S H Qb)
    (q : ∀ d μ1 S1 H1, Step μ S H μ1 S1 H1 → StoOk g μ1 S1 H1 → EnvOk g μ1 S1 H1 σ ρ → Wp g (fun c d H' => W c d σ H') (k d) μ1 S1 H1 Qb → R d H1) : tDO g W f σ H R :=
  ⟨ρ, μ, S, env, sto, (Wp.bind h).mono fun d μ1 S1 H1 t k1 w => q d μ1 S1 H1 t k1 (env.step t) (w.mono fun _ _ _ _ t2 _ z => z (t.trans t2))⟩
end

/-! ### the functions -/
def dVar (i : Nat) : DEnv → M D := fun ρ => M.get fun _ => (ρ[i]?).join
def dC (d : D) : DEnv → M D := fun _ => pure d
def dOp (op : D → D → M D) (fa fb : DEnv → M D) : DEnv → M D := fun ρ => do let x ← fa ρ; let y ← fb ρ; op x y
def dUn (op : D → M D) (fa : DEnv → M D) : DEnv → M D := fun ρ => do let x ← fa ρ; op x
def toB : D → M Bool
  | .bl b => pure b
  | _ => M.bad
/-- a < b < c -/
def dChain (op op' : D → D → M D) (fa fb fc : DEnv → M D) : DEnv → M D := fun ρ => do
  let x ← fa ρ
  let y ← fb ρ
  let r ← op x y
  let b ← toB r
  if b then do
    let z ← fc ρ
    op' y z
  else pure (.bl false)
def dAnd (fa fb : DEnv → M D) : DEnv → M D := fun ρ => do let x ← fa ρ; let b ← toB x; if b then fb ρ else pure (.bl false)
def dOr (fa fb : DEnv → M D) : DEnv → M D := fun ρ => do let x ← fa ρ; let b ← toB x; if b then pure (.bl true) else fb ρ
def dNot (fa : DEnv → M D) : DEnv → M D := fun ρ => do let x ← fa ρ; let b ← toB x; pure (.bl !b)
def dIf (ft : DEnv → M Bool) (fa fb : DEnv → M D) : DEnv → M D := fun ρ => do let b ← ft ρ; if b then fa ρ else fb ρ
def tVal (fa : DEnv → M D) : DEnv → M Bool := fun ρ => do let x ← fa ρ; toB x
def tTru (fa : DEnv → M D) : DEnv → M Bool := fun ρ => do let x ← fa ρ; truD x
def tAndD (a b : DEnv → M Bool) : DEnv → M Bool := fun ρ => do let x ← a ρ; if x then b ρ else pure false
def tOrD (a b : DEnv → M Bool) : DEnv → M Bool := fun ρ => do let x ← a ρ; if x then pure true else b ρ
def tNotD (a : DEnv → M Bool) : DEnv → M Bool := fun ρ => do let x ← a ρ; pure !x
def aNil : DEnv → M (List D) := fun _ => pure []
def aCons (f : DEnv → M D) (r : DEnv → M (List D)) : DEnv → M (List D) := fun ρ => do let x ← f ρ; let xs ← r ρ; pure (x :: xs)
def aStar (f : DEnv → M D) (r : DEnv → M (List D)) : DEnv → M (List D) := fun ρ => do let x ← f ρ; let xs ← seqA x; let ys ← r ρ; pure (xs ++ ys)
def dTup (a : DEnv → M (List D)) : DEnv → M D := fun ρ => do let xs ← a ρ; M.need (xs.length ≤ sizeLine); pure (.tup xs)
def dLst (a : DEnv → M (List D)) : DEnv → M D := fun ρ => do let xs ← a ρ; M.need (xs.length ≤ sizeLine); pure (.lst xs)
/-- a list that may change -/
def newCell (xs : List D) : M D := fun S => .ok (.cell S.length) (S ++ [some (.lst xs)])
def dLstC (a : DEnv → M (List D)) : DEnv → M D := fun ρ => do let xs ← a ρ; M.need (xs.length ≤ sizeLine); newCell xs
def oNone : DEnv → M (Option Int) := fun _ => pure none
def oSome (f : DEnv → M D) : DEnv → M (Option Int) := fun ρ => do
  let x ← f ρ
  match x with
  | .int i => pure (some i)
  | _ => M.bad
def dSl (fe : DEnv → M D) (fl fh : DEnv → M (Option Int)) : DEnv → M D := fun ρ => do let x ← fe ρ; let l ← fl ρ; let h ← fh ρ; dSlice x l h

theorem Wp.toB {g : Gx} {E : XK} {μ : Gh} {S : Sto} {H : Hp} {d : D} {Q : Bool → Gh → Sto → Hp → Prop} {v : V} (h : Wp g E (toB d) μ S H Q) (k : StoOk g μ S H) (r : Rep g μ S H v d) : ∃ b, v = .bl b ∧ Q b μ S H := by
  cases r with
  | bl b => exact ⟨b, rfl, Wp.pure h k⟩
  | _ => exact (show False from h).elim
section
variable {X : Cx} {ca : Nat → Addr} {W : WX} {a b c e : Expr} {fa fb fc f : DEnv → M D} {pos : Pos} {es : List Expr} {fs : DEnv → M (List D)} {t u : DEnv → M Bool}
theorem pd_var (i : Nat) {x : Str} (hN : X.N[i]? = some x := by rfl) (hv : Vis X.env.scope x := by first | exact Or.inl rfl | exact Or.inr (Or.inl rfl) | exact Or.inr (Or.inr rfl))
    (hd : (x == ("__debug__" : Str)) = false := by decide) (hcd : (x == ("__classdict__" : Str)) = false := by decide) : PE X (.Name x pos) (tD (gx X ca) W (dVar i)) :=
  peOf (pe_var hN hv hd hcd) fun σ H Q ⟨ρ, μ, S, env, sto, h⟩ => by
    obtain ⟨d, e, q⟩ := Wp.get h sto
    have e' : ρ[i]? = some (some d) := by
      cases z : ρ[i]? with
      | none => rw [z] at e; cases e
      | some o => rw [z] at e; exact congrArg some e
    obtain ⟨v, e1, r⟩ := env.2 i d e'
    exact ⟨v, e1, q v r⟩
theorem pd_c {d : D} {v : V} (h : PE X e (tC v)) (r : ∀ μ S H, Rep (gx X ca) μ S H v d) : PE X e (tD (gx X ca) W (dC d)) :=
  peOf h fun σ H Q ⟨ρ, μ, S, env, sto, h⟩ => Wp.pure h sto v (r μ S H)
theorem pd_int {i : Int} {j : Nat} : PE X (.Constant (.int i) j pos) (tD (gx X ca) W (dC (.int i))) := pd_c pe_int fun _ _ _ => .int _
theorem pd_bl {i : Bool} {j : Nat} : PE X (.Constant (.bool i) j pos) (tD (gx X ca) W (dC (.bl i))) := pd_c pe_bl fun _ _ _ => .bl _
theorem pd_non {j : Nat} : PE X (.Constant .none j pos) (tD (gx X ca) W (dC .non)) := pd_c pe_non fun _ _ _ => .non
theorem pd_str {x : Str} {j : Nat} : PE X (.Constant (.str x) j pos) (tD (gx X ca) W (dC (.str x))) := pd_c pe_str fun _ _ _ => .str _
theorem pd_op {op : Operator} {r : R2} {o : D → D → M D} (ho : OpR X (binaryOp op) r) (hs : OpS (gx X ca) r o) (ha : PE X a (tD (gx X ca) W fa)) (hb : PE X b (tD (gx X ca) W fb)) : PE X (.BinOp a op b pos) (tD (gx X ca) W (dOp o fa fb)) :=
  peOf (pe_op ho ha hb) fun σ H Q ⟨ρ, μ, S, env, sto, h⟩ => tD_then env sto h fun d μ1 S1 H1 v t1 k1 env1 r1 h1 => tD_then env1 k1 h1 fun d2 μ2 S2 H2 v2 t2 k2 env2 r2 h2 =>
    hs _ μ2 S2 H2 v v2 d d2 Q k2 (r1.step t2) r2 h2
theorem pd_cmp {op : CmpOp} {r : R2} {o : D → D → M D} (ho : OpR X (compareOp op) r) (hs : OpS (gx X ca) r o) (ha : PE X a (tD (gx X ca) W fa)) (hb : PE X b (tD (gx X ca) W fb))
    (hm : behindInMarks op b = false := by first | exact nomark _ | rfl) : PE X (.Compare a [op] [b] pos) (tD (gx X ca) W (dOp o fa fb)) :=
  peOf (pe_cmpR ho ha hb hm) fun σ H Q ⟨ρ, μ, S, env, sto, h⟩ => tD_then env sto h fun d μ1 S1 H1 v t1 k1 env1 r1 h1 => tD_then env1 k1 h1 fun d2 μ2 S2 H2 v2 t2 k2 env2 r2 h2 =>
    hs _ μ2 S2 H2 v v2 d d2 Q k2 (r1.step t2) r2 h2
theorem pd_un {op : UnaryOp} {r : V → Hp → VK → Prop} {o : D → M D} (ho : UnR X (unaryOp op) r) (hs : UnS (gx X ca) r o) (ha : PE X a (tD (gx X ca) W fa)) : PE X (.UnaryOp op a pos) (tD (gx X ca) W (dUn o fa)) :=
  peOf (pe_un ho ha) fun σ H Q ⟨ρ, μ, S, env, sto, h⟩ => tD_then env sto h fun d μ1 S1 H1 v t1 k1 env1 r1 h1 => hs _ μ1 S1 H1 v d Q k1 r1 h1
theorem pd_isN {j : Nat} {pos' : Pos} (ha : PE X a (tD (gx X ca) W fa)) : PE X (.Compare a [.Is] [.Constant .none j pos'] pos) (tD (gx X ca) W (dUn (fun d => pure (.bl (isNon d))) fa)) :=
  peOf (pe_cmp (pc_isN ha) rfl) fun σ H Q ⟨ρ, μ, S, env, sto, h⟩ => tD_then env sto h fun d μ1 S1 H1 v t1 k1 env1 r1 h1 => by
    rw [isNon_rep r1]
    exact Wp.pure h1 k1 _ (.bl _)
theorem pd_notN {j : Nat} {pos' : Pos} (ha : PE X a (tD (gx X ca) W fa)) : PE X (.Compare a [.IsNot] [.Constant .none j pos'] pos) (tD (gx X ca) W (dUn (fun d => pure (.bl !(isNon d))) fa)) :=
  peOf (pe_cmp (pc_notN ha) rfl) fun σ H Q ⟨ρ, μ, S, env, sto, h⟩ => tD_then env sto h fun d μ1 S1 H1 v t1 k1 env1 r1 h1 => by
    rw [isNon_rep r1]
    exact Wp.pure h1 k1 _ (.bl _)
theorem pd_chain {op op' : CmpOp} {r r' : R2} {o o' : D → D → M D} (ho : OpR X (compareOp op) r) (hs : OpS (gx X ca) r o) (ho' : OpR X (compareOp op') r') (hs' : OpS (gx X ca) r' o') (ha : PE X a (tD (gx X ca) W fa)) (hb : PE X b (tD (gx X ca) W fb)) (hc : PE X c (tD (gx X ca) W fc))
    (hm : lastMarks [op, op'] [b, c] = false := by with_unfolding_all rfl) : PE X (.Compare a [op, op'] [b, c] pos) (tD (gx X ca) W (dChain o o' fa fb fc)) :=
  peOf (pe_chain ho ho' ha hb hc hm) fun σ H Q ⟨ρ, μ, S, env, sto, h⟩ => tD_then env sto h fun d μ1 S1 H1 v t1 k1 env1 r1 h1 => tD_then env1 k1 h1 fun d2 μ2 S2 H2 v2 t2 k2 env2 r2 h2 => by
    refine hs _ μ2 S2 H2 v v2 d d2 _ k2 (r1.step t2) r2 ((Wp.bind h2).mono fun d3 μ3 S3 H3 t3 k3 h3 v3 r3 => ?_)
    obtain ⟨q, rfl, h4⟩ := Wp.toB (Wp.bind h3) k3 r3
    refine ⟨q, rfl, ?_⟩
    cases q with
    | false =>
      simp only [Bool.false_eq_true, if_false] at h4 ⊢
      exact Wp.pure h4 k3 (Step.refl _ _ _) t3 _ (.bl _)
    | true =>
      simp only [if_true] at h4 ⊢
      refine tD_then (env2.step t3) k3 h4 fun d4 μ4 S4 H4 v4 t4 k4 env4 r4 h5 => ?_
      exact hs' _ μ4 S4 H4 v2 v4 d2 d4 Q k4 (r2.step (t3.trans t4)) r4 (h5.mono fun d5 μ5 S5 H5 t5 k5 h6 => h6 (t4.trans t5) (t3.trans (t4.trans t5)))
end
end DD

/-! DD5: the rules of expressions, tests, arguments, displays, calls -/
namespace DD
open PySem PySem.Spec PyProof.Rows L2

section
variable {X : Cx} {ca : Nat → Addr} {W : WX} {a b c e : Expr} {fa fb fc f : DEnv → M D} {pos p : Pos} {es rest : List Expr} {fs : DEnv → M (List D)} {t u : DEnv → M Bool}
theorem pd_one {op : BoolOp} (h : PE X a (tD (gx X ca) W fa)) : PE X (.BoolOp op [a] pos) (tD (gx X ca) W fa) := pe_one h
theorem pd_and (ha : PE X a (tD (gx X ca) W fa)) (hb : PE X (.BoolOp .And (b :: rest) pos) (tD (gx X ca) W fb)) : PE X (.BoolOp .And (a :: b :: rest) pos) (tD (gx X ca) W (dAnd fa fb)) :=
  peOf (pe_and ha hb) fun σ H Q ⟨ρ, μ, S, env, sto, h⟩ => tD_then env sto h fun d μ1 S1 H1 v t1 k1 env1 r1 h1 => by
    obtain ⟨q, rfl, h2⟩ := Wp.toB (Wp.bind h1) k1 r1
    refine ⟨q, rfl, ?_⟩
    cases q with
    | true =>
      simp only [if_true] at h2 ⊢
      exact ⟨ρ, μ1, S1, env1, k1, h2.mono fun _ _ _ _ t2 _ z => z t2⟩
    | false =>
      simp only [Bool.false_eq_true, if_false] at h2 ⊢
      exact Wp.pure h2 k1 (Step.refl _ _ _) _ (.bl _)
theorem pd_or (ha : PE X a (tD (gx X ca) W fa)) (hb : PE X (.BoolOp .Or (b :: rest) pos) (tD (gx X ca) W fb)) : PE X (.BoolOp .Or (a :: b :: rest) pos) (tD (gx X ca) W (dOr fa fb)) :=
  peOf (pe_or ha hb) fun σ H Q ⟨ρ, μ, S, env, sto, h⟩ => tD_then env sto h fun d μ1 S1 H1 v t1 k1 env1 r1 h1 => by
    obtain ⟨q, rfl, h2⟩ := Wp.toB (Wp.bind h1) k1 r1
    refine ⟨q, rfl, ?_⟩
    cases q with
    | false =>
      simp only [Bool.false_eq_true, if_false] at h2 ⊢
      exact ⟨ρ, μ1, S1, env1, k1, h2.mono fun _ _ _ _ t2 _ z => z t2⟩
    | true =>
      simp only [if_true] at h2 ⊢
      exact Wp.pure h2 k1 (Step.refl _ _ _) _ (.bl _)
theorem pd_not (ha : PE X a (tD (gx X ca) W fa)) : PE X (.UnaryOp .Not a pos) (tD (gx X ca) W (dNot fa)) :=
  peOf (pe_not ha) fun σ H Q ⟨ρ, μ, S, env, sto, h⟩ => tD_then env sto h fun d μ1 S1 H1 v t1 k1 env1 r1 h1 => by
    obtain ⟨q, rfl, h2⟩ := Wp.toB (Wp.bind h1) k1 r1
    exact ⟨q, rfl, Wp.pure h2 k1 (Step.refl _ _ _) _ (.bl _)⟩
theorem pd_if (hc : PT X c (tDT (gx X ca) W t)) (ha : PE X a (tD (gx X ca) W fa)) (hb : PE X b (tD (gx X ca) W fb)) : PE X (.IfExp c a b pos) (tD (gx X ca) W (dIf t fa fb)) :=
  peOf (pe_ifExp hc ha hb) fun σ H Q ⟨ρ, μ, S, env, sto, h⟩ => tDT_then env sto h fun q μ1 S1 H1 t1 k1 env1 h1 => by
    cases q with
    | true =>
      simp only [if_true] at h1 ⊢
      exact ⟨ρ, μ1, S1, env1, k1, h1⟩
    | false =>
      simp only [Bool.false_eq_true, if_false] at h1 ⊢
      exact ⟨ρ, μ1, S1, env1, k1, h1⟩

/-! ### tests -/
theorem td_cmp {op : CmpOp} {r : R2} {o : D → D → M D} (ho : OpR X (compareOp op) r) (hs : OpS (gx X ca) r o) (ha : PE X a (tD (gx X ca) W fa)) (hb : PE X b (tD (gx X ca) W fb))
    (hm : behindInMarks op b = false := by first | exact nomark _ | rfl) : PT X (.Compare a [op] [b] pos) (tDT (gx X ca) W (tVal (dOp o fa fb))) :=
  ptOf (pt_cmpR ho ha hb hm) fun σ H Q ⟨ρ, μ, S, env, sto, h⟩ => by
    have h' : Wp (gx X ca) (fun c d H' => W c d σ H') (fa ρ >>= fun x => fb ρ >>= fun y => o x y >>= toB) μ S H fun b _ _ H' => Q b H' := by
      have e : tVal (dOp o fa fb) ρ = (fa ρ >>= fun x => fb ρ >>= fun y => o x y >>= toB) := by
        funext S'
        show M.bind (M.bind (fa ρ) fun x => M.bind (fb ρ) fun y => o x y) toB S' = M.bind (fa ρ) (fun x => M.bind (fb ρ) fun y => M.bind (o x y) toB) S'
        unfold M.bind
        cases fa ρ S' with
        | ok x S1 =>
          dsimp only
          cases fb ρ S1 with
          | ok y S2 => rfl
          | _ => rfl
        | _ => rfl
      rw [← e]
      exact h
    refine tD_then env sto h' fun d μ1 S1 H1 v t1 k1 env1 r1 h1 => tD_then env1 k1 h1 fun d2 μ2 S2 H2 v2 t2 k2 env2 r2 h2 => ?_
    refine hs _ μ2 S2 H2 v v2 d d2 _ k2 (r1.step t2) r2 ((Wp.bind h2).mono fun d3 μ3 S3 H3 t3 k3 h3 v3 r3 => ?_)
    obtain ⟨q, rfl, h4⟩ := Wp.toB h3 k3 r3
    exact ⟨q, rfl, h4 t3⟩
theorem td_isN {j : Nat} {pos' : Pos} (ha : PE X a (tD (gx X ca) W fa)) : PT X (.Compare a [.Is] [.Constant .none j pos'] pos) (tDT (gx X ca) W (fun ρ => do let d ← fa ρ; pure (isNon d))) :=
  ptOf (pt_cmp (pc_isN ha) rfl) fun σ H Q ⟨ρ, μ, S, env, sto, h⟩ => tD_then env sto h fun d μ1 S1 H1 v t1 k1 env1 r1 h1 => by
    rw [isNon_rep r1]
    exact ⟨_, rfl, Wp.pure h1 k1⟩
theorem td_notN {j : Nat} {pos' : Pos} (ha : PE X a (tD (gx X ca) W fa)) : PT X (.Compare a [.IsNot] [.Constant .none j pos'] pos) (tDT (gx X ca) W (fun ρ => do let d ← fa ρ; pure !(isNon d))) :=
  ptOf (pt_cmp (pc_notN ha) rfl) fun σ H Q ⟨ρ, μ, S, env, sto, h⟩ => tD_then env sto h fun d μ1 S1 H1 v t1 k1 env1 r1 h1 => by
    rw [isNon_rep r1]
    exact ⟨_, rfl, Wp.pure h1 k1⟩
theorem td_chain {op op' : CmpOp} {r r' : R2} {o o' : D → D → M D} (ho : OpR X (compareOp op) r) (hs : OpS (gx X ca) r o) (ho' : OpR X (compareOp op') r') (hs' : OpS (gx X ca) r' o') (ha : PE X a (tD (gx X ca) W fa)) (hb : PE X b (tD (gx X ca) W fb)) (hc : PE X c (tD (gx X ca) W fc))
    (hm : lastMarks [op, op'] [b, c] = false := by with_unfolding_all rfl) : PT X (.Compare a [op, op'] [b, c] pos) (tDT (gx X ca) W (tVal (dChain o o' fa fb fc))) :=
  ptOf (pt_chain ho ho' ha hb hc hm) fun σ H Q ⟨ρ, μ, S, env, sto, h⟩ => by
    have h0 : tD (gx X ca) W (dChain o o' fa fb fc) σ H fun x H' => ∃ k, x = .bl k ∧ Q k H' := ⟨ρ, μ, S, env, sto, (Wp.bind h).mono fun d μ1 S1 H1 t1 k1 w v r1 => by
      obtain ⟨q, rfl, h4⟩ := Wp.toB w k1 r1
      exact ⟨q, rfl, h4 t1⟩⟩
    obtain ⟨ρ, μ, S, env, sto, h⟩ := h0
    exact tD_then env sto h fun d μ1 S1 H1 v t1 k1 env1 r1 h1 => tD_then env1 k1 h1 fun d2 μ2 S2 H2 v2 t2 k2 env2 r2 h2 => by
      refine hs _ μ2 S2 H2 v v2 d d2 _ k2 (r1.step t2) r2 ((Wp.bind h2).mono fun d3 μ3 S3 H3 t3 k3 h3 v3 r3 => ?_)
      obtain ⟨q, rfl, h4⟩ := Wp.toB (Wp.bind h3) k3 r3
      refine ⟨q, rfl, ?_⟩
      cases q with
      | false =>
        simp only [Bool.false_eq_true, if_false] at h4 ⊢
        exact Wp.pure h4 k3 (Step.refl _ _ _) t3 _ (.bl _)
      | true =>
        simp only [if_true] at h4 ⊢
        refine tD_then (env2.step t3) k3 h4 fun d4 μ4 S4 H4 v4 t4 k4 env4 r4 h5 => ?_
        exact hs' _ μ4 S4 H4 v2 v4 d2 d4 _ k4 (r2.step (t3.trans t4)) r4 (h5.mono fun d5 μ5 S5 H5 t5 k5 h6 => h6 (t4.trans t5) (t3.trans (t4.trans t5)))
theorem td_tru (ha : PE X a (tD (gx X ca) W fa)) (he : ∀ whole, isTrue a X.env whole = (do let v ← whole; standAt a.pos; holding [v] (truthy v)) := by intro _; rfl) : PT X a (tDT (gx X ca) W (tTru fa)) :=
  ptOf (pt_truth ha he) fun σ H Q ⟨ρ, μ, S, env, sto, h⟩ => tD_then env sto h fun d μ1 S1 H1 v t1 k1 env1 r1 h1 => tru_s k1 r1 h1
theorem td_not (ha : PT X a (tDT (gx X ca) W t)) : PT X (.UnaryOp .Not a pos) (tDT (gx X ca) W (tNotD t)) :=
  ptOf (pt_not ha) fun σ H Q ⟨ρ, μ, S, env, sto, h⟩ => tDT_then env sto h fun q μ1 S1 H1 t1 k1 env1 h1 => Wp.pure h1 k1
theorem wd_and1 (ha : PT X a (tDT (gx X ca) W t)) : PW X (.BoolOp .And [a] pos) (tDT (gx X ca) W t) := pw_and1 ha
theorem wd_or1 (ha : PT X a (tDT (gx X ca) W t)) : PW X (.BoolOp .Or [a] pos) (tDT (gx X ca) W t) := pw_or1 ha
theorem wd_and (ha : PT X a (tDT (gx X ca) W t)) (hb : PW X (.BoolOp .And (b :: rest) pos) (tDT (gx X ca) W u)) : PW X (.BoolOp .And (a :: b :: rest) pos) (tDT (gx X ca) W (tAndD t u)) :=
  pwOf (pw_and ha hb) fun σ H Q ⟨ρ, μ, S, env, sto, h⟩ => tDT_then env sto h fun q μ1 S1 H1 t1 k1 env1 h1 => by
    cases q with
    | true =>
      simp only [if_true] at h1 ⊢
      exact ⟨ρ, μ1, S1, env1, k1, h1⟩
    | false =>
      simp only [Bool.false_eq_true, if_false] at h1 ⊢
      exact Wp.pure h1 k1
theorem wd_or (ha : PT X a (tDT (gx X ca) W t)) (hb : PW X (.BoolOp .Or (b :: rest) pos) (tDT (gx X ca) W u)) : PW X (.BoolOp .Or (a :: b :: rest) pos) (tDT (gx X ca) W (tOrD t u)) :=
  pwOf (pw_or ha hb) fun σ H Q ⟨ρ, μ, S, env, sto, h⟩ => tDT_then env sto h fun q μ1 S1 H1 t1 k1 env1 h1 => by
    cases q with
    | true =>
      simp only [if_true] at h1 ⊢
      exact Wp.pure h1 k1
    | false =>
      simp only [Bool.false_eq_true, if_false] at h1 ⊢
      exact ⟨ρ, μ1, S1, env1, k1, h1⟩

/-! ### arguments, displays -/
theorem ad_nil : PA X [] (tDA (gx X ca) W aNil) := paOf pa_nil fun σ H Q ⟨ρ, μ, S, env, sto, h⟩ => Wp.pure h sto _ .nil
theorem ad_cons (ha : PE X e (tD (gx X ca) W f)) (hr : PA X es (tDA (gx X ca) W fs)) (hs : starEach (e :: es) X.env = (false, eval e X.env) :: starEach es X.env := by rfl) : PA X (e :: es) (tDA (gx X ca) W (aCons f fs)) :=
  paOf (pa_cons ha hr hs) fun σ H Q ⟨ρ, μ, S, env, sto, h⟩ => tD_then env sto h fun d μ1 S1 H1 v t1 k1 env1 r1 h1 => tDA_then env1 k1 h1 fun ds μ2 S2 H2 vs t2 k2 env2 r2 h2 =>
    Wp.pure h2 k2 _ (.cons (r1.step t2) r2)
theorem ad_star (ha : PE X e (tD (gx X ca) W f)) (hr : PA X es (tDA (gx X ca) W fs)) (hs : starEach (.Starred e p :: es) X.env = (true, eval e X.env) :: starEach es X.env := by rfl) : PA X (.Starred e p :: es) (tDA (gx X ca) W (aStar f fs)) :=
  paOf (StX.pa_star ha hr hs) fun σ H Q ⟨ρ, μ, S, env, sto, h⟩ => tD_then env sto h fun d μ1 S1 H1 v t1 k1 env1 r1 h1 => by
    obtain ⟨xs, a, vs, rfl, hq, rx, h2⟩ := Wp.seqA (Wp.bind h1) k1 r1
    refine ⟨a, vs, rfl, hq.symm, tDA_then env1 k1 (h2.mono fun _ _ _ _ t z w => w t) fun ds μ2 S2 H2 ws t2 k2 env2 r2 h3 => ?_⟩
    exact Wp.pure h3 k2 _ ((rx.step t2).append r2)
theorem pd_tup {x1 : Nat} (h : PA X es (tDA (gx X ca) W fs)) : PE X (.Tuple es x1 pos) (tD (gx X ca) W (dTup fs)) :=
  peOf (pe_tup h) fun σ H Q ⟨ρ, μ, S, env, sto, h⟩ => tDA_then env sto h fun ds μ1 S1 H1 vs t1 k1 env1 r1 h1 => by
    obtain ⟨h2, h3⟩ := Wp.need (Wp.bind h1) k1
    refine ⟨by rw [r1.length]; exact h2, fun p hp => ?_⟩
    obtain ⟨t, k', r⟩ := new_tup k1 hp r1
    exact Wp.end h3 t k' t _ r
theorem pd_lst (h : PA X es (tDA (gx X ca) W fs)) : PE X (.List es pos) (tD (gx X ca) W (dLst fs)) :=
  peOf (pe_lst h) fun σ H Q ⟨ρ, μ, S, env, sto, h⟩ => tDA_then env sto h fun ds μ1 S1 H1 vs t1 k1 env1 r1 h1 => by
    obtain ⟨h2, h3⟩ := Wp.need (Wp.bind h1) k1
    refine ⟨by rw [r1.length]; exact h2, fun p hp => ?_⟩
    obtain ⟨t, k', r⟩ := new_lst k1 hp r1
    exact Wp.end h3 t k' t _ r
theorem new_cell {g : Gx} {E : XK} {μ : Gh} {S : Sto} {H : Hp} {vs : List V} {ds : List D} {Q : D → Gh → Sto → Hp → Prop} (k : StoOk g μ S H) (r : RepAll g μ S H vs ds) (h : Wp g E (newCell ds) μ S H Q) (pp : Addr) (hp : H pp = none) :
    ∃ μ' S' d, Step μ S H μ' S' (upd H pp (.lst vs)) ∧ StoOk g μ' S' (upd H pp (.lst vs)) ∧ Rep g μ' S' (upd H pp (.lst vs)) (.ref pp) d ∧ Q d μ' S' (upd H pp (.lst vs)) := by
  obtain ⟨t, k', rr⟩ := sto_new k hp (.lst r) S.length rfl
  exact ⟨_, _, _, t, k', rr, h _ _ t k'⟩
theorem pd_lstC (h : PA X es (tDA (gx X ca) W fs)) : PE X (.List es pos) (tD (gx X ca) W (dLstC fs)) :=
  peOf (pe_lst h) fun σ H Q ⟨ρ, μ, S, env, sto, h⟩ => tDA_then env sto h fun ds μ1 S1 H1 vs t1 k1 env1 r1 h1 => by
    obtain ⟨h2, h3⟩ := Wp.need (Wp.bind h1) k1
    refine ⟨by rw [r1.length]; exact h2, fun p hp => ?_⟩
    obtain ⟨μ', S', d, t, k', r, q⟩ := new_cell k1 r1 h3 p hp
    exact q t _ r
theorem pd_ix (ha : PE X a (tD (gx X ca) W fa)) (hb : PE X b (tD (gx X ca) W fb)) (hs : PlainIx b := by exact fun _ _ => rfl) : PE X (.Subscript a b pos) (tD (gx X ca) W (dOp dIx fa fb)) :=
  peOf (pe_ix ix_seq ha hb hs) fun σ H Q ⟨ρ, μ, S, env, sto, h⟩ => tD_then env sto h fun d μ1 S1 H1 v t1 k1 env1 r1 h1 => tD_then env1 k1 h1 fun d2 μ2 S2 H2 v2 t2 k2 env2 r2 h2 =>
    ix_s _ μ2 S2 H2 v v2 d d2 Q k2 (r1.step t2) r2 h2
theorem od_none : PO X none (tDO (gx X ca) W oNone) := poOf po_none fun σ H Q ⟨ρ, μ, S, env, sto, h⟩ => Wp.pure h sto
theorem od_some (ha : PE X e (tD (gx X ca) W f)) : PO X (some e) (tDO (gx X ca) W (oSome f)) := poOf (po_some ha) fun σ H Q ⟨ρ, μ, S, env, sto, h⟩ => tD_then env sto h fun d μ1 S1 H1 v t1 k1 env1 r1 h1 => by
  cases r1 with
  | int i => exact ⟨i, rfl, Wp.pure h1 k1⟩
  | _ => exact (show False from h1).elim
theorem pd_slice {lo hi : Option Expr} {p2 : Pos} {fl fh : DEnv → M (Option Int)} (he : PE X e (tD (gx X ca) W f)) (hl : PO X lo (tDO (gx X ca) W fl)) (hh : PO X hi (tDO (gx X ca) W fh)) : PE X (.Subscript e (.Slice lo hi none p2) pos) (tD (gx X ca) W (dSl f fl fh)) :=
  peOf (pe_slice sl_D he hl hh) fun σ H Q ⟨ρ, μ, S, env, sto, h⟩ => tD_then env sto h fun d μ1 S1 H1 v t1 k1 env1 r1 h1 => tDO_then env1 k1 h1 fun l μ2 S2 H2 t2 k2 env2 h2 => tDO_then env2 k2 h2 fun l2 μ3 S3 H3 t3 k3 env3 h3 =>
    sl_s k3 (r1.step (t2.trans t3)) h3
end

/-! ### calls -/
/-- a def's promise by its function on data -/
def spD (g : Gx) (n : Nat) (F : List D → M D) : Sp := fun vs H Q E => ∃ ds μ S, vs.length = n ∧ RepAll g μ S H vs ds ∧ StoOk g μ S H ∧ Wp g E (F ds) μ S H fun d μ' S' H' => ∀ v, Rep g μ' S' H' v d → Q v H'
def dCall (n : Nat) (F : List D → M D) (fs : DEnv → M (List D)) : DEnv → M D := fun ρ => do let ds ← fs ρ; M.need (ds.length = n); F ds
section
variable {X : Cx} {ca : Nat → Addr} {W : WX} {e o : Expr} {f : DEnv → M D} {pos p apos cpos : Pos} {es : List Expr} {fs : DEnv → M (List D)} {x : Str}
theorem pd_callD {k n m : Nat} {fa : Addr} {fd : FuncData} {ps : List Str} {F : List D → M D} {dvs : List V} {ds : List Value} {dd : List D} (G : FnOk X.prog X.w X.K X.mg X.base (L2.CX X.prog X.w) k fa fd ps (spD (gx X ca) m F)) (hr : Room k X.A) (tk : Takes X W) (hm : X.mg x = some (.ref fa)) (hk : PySem.W.keepIn X.K (.ref fa) = true) (hb : Binds X.K fd ps ds)
    (hd : Vals dvs ds) (rd : ∀ μ S H, RepAll (gx X ca) μ S H dvs dd) (ha : PA X (e :: es) (tDA (gx X ca) W fs)) (hmn : n + dd.length = m) (hg : Gl X x := by rfl) (hdb : (x == ("__debug__" : Str)) = false := by decide) (he : starEach (e :: es) X.env = (false, eval e X.env) :: starEach es X.env := by rfl) (hpl : (backTo pos (starEach es X.env)).any (·.1) = false := by rfl) :
    PE X (.Call (.Name x p) (e :: es) [] pos) (tD (gx X ca) W (dCall n (fun as => F (as ++ dd)) fs)) :=
  peOf (pe_callSD G hr hg hm hk hb hd (fun σ => passAt tk σ) ha hdb he hpl) fun σ H Q ⟨ρ, μ, S, env, sto, h⟩ => tDA_then env sto h fun as μ1 S1 H1 vs t1 k1 env1 r1 h1 => by
    obtain ⟨h2, h3⟩ := Wp.need (Wp.bind h1) k1
    have ra := r1.append (rd μ1 S1 H1)
    refine ⟨as ++ dd, μ1, S1, ?_, ra, k1, h3.mono fun _ _ _ _ t _ z => z t⟩
    rw [ra.length, List.length_append, h2]
    exact hmn
theorem pd_call {k n : Nat} {fa : Addr} {fd : FuncData} {ps : List Str} {F : List D → M D} (G : FnOk X.prog X.w X.K X.mg X.base (L2.CX X.prog X.w) k fa fd ps (spD (gx X ca) n F)) (hr : Room k X.A) (tk : Takes X W) (hm : X.mg x = some (.ref fa)) (hk : PySem.W.keepIn X.K (.ref fa) = true) (hb : Binds X.K fd ps [])
    (ha : PA X (e :: es) (tDA (gx X ca) W fs)) (hg : Gl X x := by rfl) (hdb : (x == ("__debug__" : Str)) = false := by decide) (he : starEach (e :: es) X.env = (false, eval e X.env) :: starEach es X.env := by rfl) (hpl : (backTo pos (starEach es X.env)).any (·.1) = false := by rfl) :
    PE X (.Call (.Name x p) (e :: es) [] pos) (tD (gx X ca) W (dCall n F fs)) :=
  peOf (pe_callSD G hr hg hm hk hb .nil (fun σ => passAt tk σ) ha hdb he hpl) fun σ H Q ⟨ρ, μ, S, env, sto, h⟩ => tDA_then env sto h fun as μ1 S1 H1 vs t1 k1 env1 r1 h1 => by
    obtain ⟨h2, h3⟩ := Wp.need (Wp.bind h1) k1
    rw [List.append_nil]
    refine ⟨as, μ1, S1, ?_, r1, k1, h3.mono fun _ _ _ _ t _ z => z t⟩
    rw [r1.length]
    exact h2
/-- built-in functions and classes, by their rule and its meaning -/
theorem pd_callB {id : String} {r : List V → Hp → VK → Prop} {F : List D → M D} (hc : CallR X (.builtin id) r) (hs : CallS (gx X ca) r F) (hm : X.mg x = none) (hv : bootBuiltins x = some (.builtin id)) (ha : PA X (e :: es) (tDA (gx X ca) W fs)) (hg : Gl X x := by rfl) (hn : x ≠ "__name__" := by decide) (hdb : (x == ("__debug__" : Str)) = false := by decide)
    (he : starEach (e :: es) X.env = (false, eval e X.env) :: starEach es X.env := by rfl) (hpl : (backTo pos (starEach es X.env)).any (·.1) = false := by rfl) : PE X (.Call (.Name x p) (e :: es) [] pos) (tD (gx X ca) W (fun ρ => do let ds ← fs ρ; F ds)) :=
  peOf (pe_callB hc hg hm hv ha hn hdb he hpl) fun σ H Q ⟨ρ, μ, S, env, sto, h⟩ => tDA_then env sto h fun as μ1 S1 H1 vs t1 k1 env1 r1 h1 => hs _ μ1 S1 H1 vs as Q k1 r1 h1
theorem pd_callTy {T : String} {r : List V → Hp → VK → Prop} {F : List D → M D} (hc : CallR X (.type T) r) (hs : CallS (gx X ca) r F) (hm : X.mg x = none) (hv : bootBuiltins x = some (.type T)) (ha : PA X (e :: es) (tDA (gx X ca) W fs)) (hg : Gl X x := by rfl) (hn : x ≠ "__name__" := by decide) (hdb : (x == ("__debug__" : Str)) = false := by decide)
    (he : starEach (e :: es) X.env = (false, eval e X.env) :: starEach es X.env := by rfl) (hpl : (backTo pos (starEach es X.env)).any (·.1) = false := by rfl) : PE X (.Call (.Name x p) (e :: es) [] pos) (tD (gx X ca) W (fun ρ => do let ds ← fs ρ; F ds)) :=
  peOf (pe_callTy hc hg hm hv ha hn hdb he hpl) fun σ H Q ⟨ρ, μ, S, env, sto, h⟩ => tDA_then env sto h fun as μ1 S1 H1 vs t1 k1 env1 r1 h1 => hs _ μ1 S1 H1 vs as Q k1 r1 h1
end
/-- which built-in type a receiver is of -/
def isTy (T : String) : D → M Unit
  | .str _ => M.need (T = "str")
  | .lst _ => M.need (T = "list")
  | .cell n => do let _ ← M.get (cellL n); M.need (T = "list")
  | _ => M.bad
def dMt (T : String) (F : D → List D → M D) (f : DEnv → M D) (fs : DEnv → M (List D)) : DEnv → M D := fun ρ => do let x ← f ρ; isTy T x; let ds ← fs ρ; F x ds
theorem isTy_s {g : Gx} {E : XK} {T : String} {μ : Gh} {S : Sto} {H : Hp} {d : D} {Q : Unit → Gh → Sto → Hp → Prop} {v : V} (h : Wp g E (isTy T d) μ S H Q) (k : StoOk g μ S H) (r : Rep g μ S H v d) : tyV g.K T v H ∧ Q () μ S H := by
  cases r with
  | str x =>
    obtain ⟨h1, h2⟩ := Wp.need h k
    exact ⟨h1, h2⟩
  | lst f q =>
    obtain ⟨h1, h2⟩ := Wp.need h k
    exact ⟨.inl ⟨h1, _, f.sq⟩, h2⟩
  | cell e =>
    obtain ⟨xs, e1, h1⟩ := Wp.get (Wp.bind h) k
    obtain ⟨h2, h3⟩ := Wp.need h1 k
    obtain ⟨vs, h4, _⟩ := cell_rep k e1 e
    exact ⟨.inl ⟨h2, vs, .of h4⟩, h3 (Step.refl _ _ _)⟩
  | _ => exact (show False from h).elim
section
variable {X : Cx} {ca : Nat → Addr} {W : WX} {e o : Expr} {f : DEnv → M D} {pos p apos cpos : Pos} {es : List Expr} {fs : DEnv → M (List D)} {name : Str}
/-- a method of a list, of a text -/
theorem pd_mt {T : String} {id : String} {r : V → List V → Hp → VK → Prop} {F : D → List D → M D} (pa : PlainAttrs T) (slot : Slot T name id) (hty : typeOf (.builtin id) = pure (.type "method_descriptor")) (hm : MtR X id r) (hs : MtS (gx X ca) r F)
    (ho : PE X o (tD (gx X ca) W f)) (ha : PA X (e :: es) (tDA (gx X ca) W fs)) (hbase : attributeBase o name X.env (eval o X.env) = eval o X.env := by rfl)
    (hfew : ((backTo cpos (starEach (e :: es) X.env)).all (fun x => !x.1) && (backToKw cpos (keywordEach [] X.env)).all (fun x => x.1.isSome)
      && decide ((e :: es).length + ([] : List Keyword).length + (if ([] : List Keyword).isEmpty then 0 else 1) < 30)) = true := by rfl)
    (hline : (apos.endLine == cpos.line) = true := by rfl) (hst : starEach (e :: es) X.env = (false, eval e X.env) :: starEach es X.env := by rfl) (hplain : (backTo cpos (starEach es X.env)).any (·.1) = false := by rfl) :
    PE X (.Call (.Attribute o name apos) (e :: es) [] cpos) (tD (gx X ca) W (dMt T F f fs)) :=
  peOf (pe_bm pa slot hty hm ho ha hbase hfew hline hst hplain) fun σ H Q ⟨ρ, μ, S, env, sto, h⟩ => tD_then env sto h fun d μ1 S1 H1 v t1 k1 env1 r1 h1 => by
    obtain ⟨ty, h2⟩ := isTy_s (Wp.bind h1) k1 r1
    refine ⟨ty, tDA_then env1 k1 (h2.mono fun _ _ _ _ t z w => w t) fun as μ2 S2 H2 vs t2 k2 env2 r2 h3 => ?_⟩
    exact hs _ μ2 S2 H2 v d vs as Q k2 (r1.step t2) r2 h3
theorem pd_mt0 {T : String} {id : String} {r : V → List V → Hp → VK → Prop} {F : D → List D → M D} (pa : PlainAttrs T) (slot : Slot T name id) (hty : typeOf (.builtin id) = pure (.type "method_descriptor")) (hm : MtR X id r) (hs : MtS (gx X ca) r F)
    (ho : PE X o (tD (gx X ca) W f)) (hbase : attributeBase o name X.env (eval o X.env) = eval o X.env := by rfl) (hline : (apos.endLine == cpos.line) = true := by rfl) :
    PE X (.Call (.Attribute o name apos) [] [] cpos) (tD (gx X ca) W (dMt T F f aNil)) :=
  peOf (pe_bm0 pa slot hty hm ho hbase hline) fun σ H Q ⟨ρ, μ, S, env, sto, h⟩ => tD_then env sto h fun d μ1 S1 H1 v t1 k1 env1 r1 h1 => by
    obtain ⟨ty, h2⟩ := isTy_s (Wp.bind h1) k1 r1
    exact ⟨ty, hs _ μ1 S1 H1 v d [] [] Q k1 r1 .nil (Wp.mono (Wp.pure (Wp.bind (h2.mono fun _ _ _ _ t z w => w t)) k1) fun _ _ _ _ t _ z => z t)⟩
end
end DD

/-! DD6: built-in functions and methods by data -/
namespace DD
open PySem PySem.Spec PyProof.Rows L2
section
variable {g : Gx} {E : XK} {μ : Gh} {S : Sto} {H : Hp}
theorem rep1 {vs : List V} {d : D} (r : RepAll g μ S H vs [d]) : ∃ v, vs = [v] ∧ Rep g μ S H v d := by
  cases r with
  | cons r q => cases q; exact ⟨_, rfl, r⟩
theorem rep2 {vs : List V} {d e : D} (r : RepAll g μ S H vs [d, e]) : ∃ v u, vs = [v, u] ∧ Rep g μ S H v d ∧ Rep g μ S H u e := by
  cases r with
  | cons r q =>
    obtain ⟨u, rfl, r2⟩ := rep1 q
    exact ⟨_, u, rfl, r, r2⟩
/-- a call with one argument -/
def one (f : D → M D) : List D → M D
  | [x] => f x
  | _ => M.bad
theorem one_s {r : List V → Hp → VK → Prop} {f : D → M D} (w : ∀ (E : XK) (μ : Gh) (S : Sto) (H : Hp) (v : V) (d : D) (Q : VK), StoOk g μ S H → Rep g μ S H v d → Wp g E (f d) μ S H (fun d μ' S' H' => ∀ w, Rep g μ' S' H' w d → Q w H') → r [v] H Q) : CallS g r (one f) := by
  intro E μ S H vs xs Q k ra h
  unfold one at h
  split at h
  · obtain ⟨v, rfl, rr⟩ := rep1 ra
    exact w E μ S H v _ Q k rr h
  · exact (show False from h).elim
/-! ### len -/
def len1 : D → M D
  | .str x => do M.need (x.length ≤ sizeLine); pure (.int x.length)
  | x => do let xs ← seqA x; pure (.int xs.length)
abbrev dLen := one len1
theorem len_s : CallS g (fun xs H Q => ∃ x n, xs = [x] ∧ LenV g.K x H n ∧ Q (.int n) H) dLen := by
  refine one_s fun E μ S H v d Q k r h => ?_
  · skip
    cases r with
    | str x =>
      obtain ⟨h1, h2⟩ := Wp.need (Wp.bind h) k
      exact ⟨_, _, rfl, ⟨h1, rfl⟩, Wp.pure h2 k (Step.refl _ _ _) _ (.int _)⟩
    | tup f q => exact ⟨_, _, rfl, .inr ⟨_, f.sq, rfl⟩, by rw [q.length]; exact Wp.pure (Wp.pure (Wp.bind h) k) k (Step.refl _ _ _) _ (.int _)⟩
    | lst f q => exact ⟨_, _, rfl, .inl ⟨_, f.sq, rfl⟩, by rw [q.length]; exact Wp.pure (Wp.pure (Wp.bind h) k) k (Step.refl _ _ _) _ (.int _)⟩
    | rol f q => exact ⟨_, _, rfl, .inl ⟨_, f.sq, rfl⟩, by rw [q.length]; exact Wp.pure (Wp.pure (Wp.bind h) k) k (Step.refl _ _ _) _ (.int _)⟩
    | cell e =>
      obtain ⟨xs, e1, h1⟩ := Wp.get (Wp.bind h) k
      obtain ⟨vs, h4, q⟩ := cell_rep k e1 e
      exact ⟨_, _, rfl, .inl ⟨vs, .of h4, rfl⟩, by rw [q.length]; exact Wp.pure h1 k (Step.refl _ _ _) _ (.int _)⟩
    | _ => exact (show False from h).elim
/-! ### int, abs, min, max of two -/
def int1 : D → M D
  | .int i => pure (.int i)
  | .bl b => pure (.int (if b then 1 else 0))
  | _ => M.bad
abbrev dInt := one int1
theorem int_s : CallS g (fun xs H Q => (∃ i, xs = [.int i] ∧ Q (.int i) H) ∨ ∃ k, xs = [.bl k] ∧ Q (.int (if k then 1 else 0)) H) dInt := by
  refine one_s fun E μ S H v d Q k r h => ?_
  · skip
    cases r with
    | int i => exact .inl ⟨i, rfl, Wp.pure h k _ (.int _)⟩
    | bl b => exact .inr ⟨b, rfl, Wp.pure h k _ (.int _)⟩
    | _ => exact (show False from h).elim
def abs1 : D → M D
  | .int i => pure (.int (if i < 0 then -i else i))
  | _ => M.bad
abbrev dAbs := one abs1
theorem abs_s : CallS g (fun xs H Q => ∃ i, xs = [.int i] ∧ Q (.int (if i < 0 then -i else i)) H) dAbs := by
  refine one_s fun E μ S H v d Q k r h => ?_
  · skip
    cases r with
    | int i => exact ⟨i, rfl, Wp.pure h k _ (.int _)⟩
    | _ => exact (show False from h).elim
@[simp] def dI2 (f : Int → Int → Int) : List D → M D
  | [.int i, .int j] => pure (.int (f i j))
  | _ => M.bad
theorem i2_s {f : Int → Int → Int} : CallS g (fun xs H Q => ∃ i j, xs = [.int i, .int j] ∧ Q (.int (f i j)) H) (dI2 f) := by
  intro E μ S H vs xs Q k r h
  unfold dI2 at h
  split at h
  · obtain ⟨v, u, rfl, r1, r2⟩ := rep2 r
    cases r1
    cases r2
    exact ⟨_, _, rfl, Wp.pure h k _ (.int _)⟩
  · exact (show False from h).elim
abbrev dMin2 := dI2 fun i j => if j < i then j else i
abbrev dMax2 := dI2 fun i j => if j > i then j else i
/-! ### tuple, list -/
abbrev dTupOf := one fun x => do let xs ← seqA x; pure (.tup xs)
theorem tupOf_s : CallS g (fun xs H Q => ∃ p ys, xs = [.ref p] ∧ ((SqL g.K H p ys ∧ ∀ l, H l = none → Q (.ref l) (upd H l (.tup ys))) ∨ (SqT g.K H p ys ∧ Q (.ref p) H))) dTupOf := by
  refine one_s fun E μ S H v d Q k r h => ?_
  · skip
    cases r with
    | tup f q => exact ⟨_, _, rfl, .inr ⟨f.sq, Wp.pure (Wp.pure (Wp.bind h) k) k (Step.refl _ _ _) _ (.tup f q)⟩⟩
    | lst f q =>
      refine ⟨_, _, rfl, .inl ⟨f.sq, fun l hl => ?_⟩⟩
      obtain ⟨t, k', rr⟩ := new_tup k hl q
      exact Wp.end (Wp.pure (Wp.bind h) k) t k' t _ rr
    | rol f q =>
      refine ⟨_, _, rfl, .inl ⟨f.sq, fun l hl => ?_⟩⟩
      obtain ⟨t, k', rr⟩ := new_tup k hl q
      exact Wp.end (Wp.pure (Wp.bind h) k) t k' t _ rr
    | cell e =>
      obtain ⟨xs, e1, h1⟩ := Wp.get (Wp.bind h) k
      obtain ⟨vs, h4, q⟩ := cell_rep k e1 e
      refine ⟨_, _, rfl, .inl ⟨.of h4, fun l hl => ?_⟩⟩
      obtain ⟨t, k', rr⟩ := new_tup k hl q
      exact Wp.end h1 t k' t _ rr
    | _ => exact (show False from h).elim
abbrev dLstOf := one fun x => do let xs ← seqA x; pure (.lst xs)
/-- a list that may change -/
abbrev dLstOfC := one fun x => do let xs ← seqA x; newCell xs
theorem lstOf_s : CallS g (fun xs H Q => ∃ p ys, xs = [.ref p] ∧ (SqL g.K H p ys ∨ SqT g.K H p ys) ∧ ∀ l, H l = none → Q (.ref l) (upd H l (.lst ys))) dLstOf := by
  refine one_s fun E μ S H v d Q k r h => ?_
  · skip
    obtain ⟨xs, a, vs, rfl, hq, rx, h1⟩ := Wp.seqA (Wp.bind h) k r
    refine ⟨_, _, rfl, hq, fun l hl => ?_⟩
    obtain ⟨t, k', rr⟩ := new_lst k hl rx
    exact Wp.end h1 t k' t _ rr
theorem lstOfC_s : CallS g (fun xs H Q => ∃ p ys, xs = [.ref p] ∧ (SqL g.K H p ys ∨ SqT g.K H p ys) ∧ ∀ l, H l = none → Q (.ref l) (upd H l (.lst ys))) dLstOfC := by
  refine one_s fun E μ S H v d Q k r h => ?_
  · skip
    obtain ⟨xs, a, vs, rfl, hq, rx, h1⟩ := Wp.seqA (Wp.bind h) k r
    refine ⟨_, _, rfl, hq, fun l hl => ?_⟩
    obtain ⟨μ', S', d', t, k', rr, q⟩ := new_cell k rx h1 l hl
    exact q t _ rr
/-! ### sum, any, all of lists -/
def unInts : List D → Option (List Int)
  | [] => some []
  | .int i :: ds => (unInts ds).map (i :: ·)
  | _ => none
def unBls : List D → Option (List Bool)
  | [] => some []
  | .bl i :: ds => (unBls ds).map (i :: ·)
  | _ => none
def unStrs : List D → Option (List Str)
  | [] => some []
  | .str i :: ds => (unStrs ds).map (i :: ·)
  | _ => none
theorem unInts_rep : ∀ {ds : List D} {ns : List Int} {vs : List V}, RepAll g μ S H vs ds → unInts ds = some ns → vs = ns.map V.int
  | _, _, _, .nil, e => by cases e; rfl
  | _, _, _, .cons r q, e => by
    cases r with
    | int i =>
      obtain ⟨ms, e1, rfl⟩ := map_some (show (unInts _).map (i :: ·) = some _ from e)
      rw [unInts_rep q e1]
      rfl
    | _ => cases e
theorem unBls_rep : ∀ {ds : List D} {ns : List Bool} {vs : List V}, RepAll g μ S H vs ds → unBls ds = some ns → vs = ns.map V.bl
  | _, _, _, .nil, e => by cases e; rfl
  | _, _, _, .cons r q, e => by
    cases r with
    | bl i =>
      obtain ⟨ms, e1, rfl⟩ := map_some (show (unBls _).map (i :: ·) = some _ from e)
      rw [unBls_rep q e1]
      rfl
    | _ => cases e
theorem unStrs_rep : ∀ {ds : List D} {ns : List Str} {vs : List V}, RepAll g μ S H vs ds → unStrs ds = some ns → vs = ns.map V.str
  | _, _, _, .nil, e => by cases e; rfl
  | _, _, _, .cons r q, e => by
    cases r with
    | str i =>
      obtain ⟨ms, e1, rfl⟩ := map_some (show (unStrs _).map (i :: ·) = some _ from e)
      rw [unStrs_rep q e1]
      rfl
    | _ => cases e
abbrev dSum := one fun x => do let xs ← seqL x; let ns ← M.get fun _ => unInts xs; pure (.int ns.sum)
theorem sum_s : CallS g (rSum g.K) dSum := by
  refine one_s fun E μ S H v d Q k r h => ?_
  · skip
    obtain ⟨xs, a, vs, rfl, hq, rx, h1⟩ := Wp.seqL (Wp.bind h) k r
    obtain ⟨ns, e, h2⟩ := Wp.get (Wp.bind h1) k
    have ev := unInts_rep rx e
    subst ev
    exact ⟨a, ns, rfl, .of hq, Wp.pure h2 k (Step.refl _ _ _) (Step.refl _ _ _) _ (.int _)⟩
abbrev dBs (f : List Bool → Bool) := one fun x => do let xs ← seqL x; let ns ← M.get fun _ => unBls xs; pure (.bl (f ns))
theorem bs_s {f : List Bool → Bool} : CallS g (fun vs H Q => ∃ (a : Addr) (bs : List Bool), vs = [V.ref a] ∧ SqL g.K H a (bs.map V.bl) ∧ Q (.bl (f bs)) H) (dBs f) := by
  refine one_s fun E μ S H v d Q k r h => ?_
  · skip
    obtain ⟨xs, a, vs, rfl, hq, rx, h1⟩ := Wp.seqL (Wp.bind h) k r
    obtain ⟨ns, e, h2⟩ := Wp.get (Wp.bind h1) k
    have ev := unBls_rep rx e
    subst ev
    exact ⟨a, ns, rfl, .of hq, Wp.pure h2 k (Step.refl _ _ _) (Step.refl _ _ _) _ (.bl _)⟩
abbrev dAny := dBs fun bs => bs.any id
abbrev dAll := dBs fun bs => bs.all id
theorem any_s : CallS g (rAny g.K) dAny := bs_s
theorem all_s : CallS g (rAll g.K) dAll := bs_s
/-! ### isinstance of built-in types -/
def tyOf : D → Option String
  | .non => some "NoneType"
  | .bl _ => some "bool"
  | .int _ => some "int"
  | .str _ => some "str"
  | .tup _ => some "tuple"
  | .lst _ => some "list"
  | _ => none
def tyOfM : D → M String
  | .cell n => do let _ ← M.get (cellL n); pure "list"
  | d => M.get fun _ => tyOf d
def isaT (t u : String) : Bool := t == u || (t == "bool" && u == "int")
/-- isinstance(x, T), T one of these -/
def dIsa : List D → M D
  | [x, .ty u] => do let t ← tyOfM x; M.need (u ∈ ["int", "bool", "str", "list", "tuple"]); pure (.bl (isaT t u))
  | _ => M.bad
theorem tyX_of {vs : V} {d : D} {t : String} {Q : String → Gh → Sto → Hp → Prop} (k : StoOk g μ S H) (r : Rep g μ S H vs d) (h : Wp g E (tyOfM d) μ S H Q) : ∃ t, t ∈ ["NoneType", "bool", "int", "str", "tuple", "list"] ∧ TyX g.K H vs (.type t) ∧ Q t μ S H := by
  cases r with
  | non => exact ⟨_, by decide, .base .non, Wp.pure h k⟩
  | bl b => exact ⟨_, by decide, .base (.bl b), Wp.pure h k⟩
  | int i => exact ⟨_, by decide, .base (.int i), Wp.pure h k⟩
  | str x => exact ⟨_, by decide, .base (.str x), Wp.pure h k⟩
  | tup f q =>
    refine ⟨"tuple", by decide, ?_, Wp.pure h k⟩
    rcases f with ⟨(f | ⟨o, f⟩), _⟩ | ⟨o, its, n, e1, e2, _⟩
    · exact .base (.tup f)
    · exact .fTuple f
    · exact .kTuple e1 e2
  | lst f q => exact ⟨"list", by decide, .base (.lst f.1), Wp.pure h k⟩
  | cell e =>
    obtain ⟨xs, e1, h1⟩ := Wp.get (Wp.bind h) k
    obtain ⟨vs, h4, q⟩ := cell_rep k e1 e
    exact ⟨"list", by decide, .base (.lst h4), Wp.pure h1 k (Step.refl _ _ _)⟩
  | _ => exact (show False from h).elim
theorem isaT_ok {K : PySem.W.Frag} : ∀ t ∈ ["NoneType", "bool", "int", "str", "tuple", "list"], ∀ u ∈ ["int", "bool", "str", "list", "tuple"], PySem.W.kitOne K (.type t) (.type u) = some (isaT t u) := by
  have h : ∀ t ∈ ["NoneType", "bool", "int", "str", "tuple", "list"], ∀ u ∈ ["int", "bool", "str", "list", "tuple"], L2.kitB t u = some (isaT t u) := by decide +kernel
  exact fun t ht u hu => kit_ty (h t ht u hu)
theorem isa_s : CallS g (rIsi g.K) dIsa := by
  intro E μ S H vs xs Q k r h
  unfold dIsa at h
  split at h
  · obtain ⟨v, u, rfl, r1, r2⟩ := rep2 r
    cases r2
    obtain ⟨t, ht, ty, h1⟩ := tyX_of (t := "") k r1 (Wp.bind h)
    obtain ⟨hu, h2⟩ := Wp.need (Wp.bind h1) k
    exact ⟨_, _, _, _, _, rfl, .ty _, ty, isaT_ok t ht _ hu, Wp.pure h2 k (Step.refl _ _ _) (Step.refl _ _ _) _ (.bl _)⟩
  · exact (show False from h).elim
end
/-! ### methods -/
section
variable {g : Gx}
def dAppend : D → List D → M D
  | .cell n, [d] => do let xs ← M.get (cellL n); M.need (xs.length < sizeLine); M.put (fun S => S.set n (some (.lst (xs ++ [d])))); pure .non
  | _, _ => M.bad
theorem Wp.put {E : XK} {μ : Gh} {S : Sto} {H : Hp} {f : Sto → Sto} {Q : Unit → Gh → Sto → Hp → Prop} (h : Wp g E (M.put f) μ S H Q) {μ' : Gh} {H' : Hp} (t : Step μ S H μ' (f S) H') (k : StoOk g μ' (f S) H') : Q () μ' (f S) H' := h μ' H' t k
theorem append_s : MtS g rAppend dAppend := by
  intro E μ S H v x vs xs Q k rx r h
  unfold dAppend at h
  split at h
  · rename_i n d
    obtain ⟨w, rfl, r1⟩ := rep1 r
    cases rx with
    | cell e =>
      obtain ⟨ys, e1, h1⟩ := Wp.get (Wp.bind h) k
      obtain ⟨hn, h2⟩ := Wp.need (Wp.bind h1) k
      obtain ⟨ws, h4, q⟩ := cell_rep k e1 e
      refine ⟨_, ws, w, rfl, rfl, h4, by rw [q.length]; exact hn, ?_⟩
      obtain ⟨t, k'⟩ := sto_write k (cellL_some e1) e (.lst (q.append (.cons r1 .nil)))
      exact Wp.pure (Wp.put (Wp.bind h2) t k') k' t t t _ .non
  · exact (show False from h).elim
def dIndexL : D → List D → M D
  | x, [y] => do
    let ys ← seqL x
    let p ← M.get fun S => toP S 70 y
    let qs ← M.get fun S => toPs (toP S 70) ys
    M.need (SeqAt.shaped p = true ∧ SeqAt.shaped (.list qs) = true)
    let j ← M.get fun _ => qs.findIdx? fun z => PyData.eqv z p
    pure (.int j)
  | _, _ => M.bad
theorem indexL_s : MtS g (rIndexD g.K) dIndexL := by
  intro E μ S H v x vs xs Q k rx r h
  unfold dIndexL at h
  split at h
  · obtain ⟨w, rfl, r1⟩ := rep1 r
    obtain ⟨ys, a, us, rfl, hq, ry, h1⟩ := Wp.seqL (Wp.bind h) k rx
    obtain ⟨p, e1, h2⟩ := Wp.get (Wp.bind h1) k
    obtain ⟨qs, e2, h3⟩ := Wp.get (Wp.bind h2) k
    obtain ⟨⟨s1, s2⟩, h4⟩ := Wp.need (Wp.bind h3) k
    obtain ⟨j, e3, h5⟩ := Wp.get (Wp.bind h4) k
    obtain ⟨hj, e4, e5⟩ := List.findIdx?_eq_some_iff_getElem.mp e3
    refine ⟨a, w, p, qs, j, qs[j], rfl, rfl, .lst (.of hq) (toPs_dp (toP_dp k 70) ry e2), toP_dp k _ _ _ _ r1 e1, s2, s1, by simp [hj], e4, fun m z' hm ez => ?_, ?_⟩
    · obtain ⟨hm', rfl⟩ := List.getElem?_eq_some_iff.mp ez
      have := e5 m hm
      simpa using this
    · exact Wp.pure h5 k (Step.refl _ _ _) (Step.refl _ _ _) (Step.refl _ _ _) (Step.refl _ _ _) (Step.refl _ _ _) _ (.int _)
  · exact (show False from h).elim
def dJoin : D → List D → M D
  | .str a, [x] => do
    let xs ← seqA x
    let ys ← M.get fun _ => unStrs xs
    M.need ((ys.map (·.length)).sum + ys.length * a.length ≤ 16777216)
    pure (.str (Txt.join a ys))
  | _, _ => M.bad
theorem join_s : MtS g (fun x xs H Q => ∃ a p, ∃ ys : List Str, x = .str a ∧ xs = [.ref p] ∧ (SqL g.K H p (ys.map V.str) ∨ SqT g.K H p (ys.map V.str)) ∧ (ys.map (·.length)).sum + ys.length * a.length ≤ 16777216 ∧ Q (.str (Txt.join a ys)) H) dJoin := by
  intro E μ S H v x vs xs Q k rx r h
  unfold dJoin at h
  split at h
  · obtain ⟨w, rfl, r1⟩ := rep1 r
    cases rx
    obtain ⟨ys, a, us, rfl, hq, ry, h1⟩ := Wp.seqA (Wp.bind h) k r1
    obtain ⟨zs, e1, h2⟩ := Wp.get (Wp.bind h1) k
    obtain ⟨s1, h3⟩ := Wp.need (Wp.bind h2) k
    have ev := unStrs_rep ry e1
    subst ev
    exact ⟨_, a, zs, rfl, rfl, hq, s1, Wp.pure h3 k (Step.refl _ _ _) (Step.refl _ _ _) (Step.refl _ _ _) _ (.str _)⟩
  · exact (show False from h).elim
end
end DD

/-! DD7: enumerate of a tuple, as a walk of the hand layer -/
namespace DD
open PySem PySem.Spec PyProof.Rows L2

set_option maxHeartbeats 1000000 in
/-- enumerate(v) with one argument, whatever v is walked by -/
theorem enum_new1 {v : Value} {ob : Obj} {Hh : Heap → Prop} (B : Begins v ob Hh) :
    Meets (Builtin.«enumerate.__new__» ⟨[.type "enumerate", v], []⟩) (fun _ R s => Hh s.heap ∧
      R (.ok (.ret (.ref (s.heap.push ob).objs.size))) { s with heap := (s.heap.push ob).push { cls := .type "enumerate", data := .fields #[.none, .bool false, .ref s.heap.objs.size, rawInt 0, .none, .none] } }) := by
  refine .of_wp fun pr ww A R s hw => ?_
  obtain ⟨h0, g0, d0, t0, o0⟩ := s
  obtain ⟨hs, hr⟩ := hw
  have su := sub_enumerate
  have it : ∀ {A' : Around} {E' : Value → Shared → Prop} {Q' : Value → Shared → Prop}, Q' (.ref h0.objs.size) ⟨h0.push ob, g0, d0, t0, o0⟩ → wpAny (model pr ww) A' (pyIter v) Q' E' ⟨h0, g0, d0, t0, o0⟩ :=
    fun z => B.iter pr ww _ _ ⟨h0, g0, d0, t0, o0⟩ _ hs z
  wp_walk using it
  refine wpAny_stack_any fun stk => wpAny_pure ?_
  split
  · rename_i cc _ _ _ _ _
    cases (cc == Value.type "enumerate") <;> (wp_walk using it; exact ⟨_, rfl, hr⟩)
  · wp_walk using it
    exact ⟨_, rfl, hr⟩
section
variable {prog : Program} {w : World} {A : Around} {E : Value → Shared → Prop} {s : Shared}
theorem call_enum_tuple {a : Addr} {its : Array Value} {Q : Value → Shared → Prop} (ha : s.heap.IsTuple a its)
    (q : ∀ h', IsEnum h' (s.heap.objs.size + 1) s.heap.objs.size 0 .none → h'.IsTupleIter s.heap.objs.size a 0 →
      (∀ b o, s.heap.get? b = some o → h'.get? b = some o) → Q (.ref (s.heap.objs.size + 1)) { s with heap := h' }) :
    wpAny (model prog w) A (call (.type "enumerate") [.ref a]) Q E s := by
  refine callType_new F.called_enumerate (by decide) (F.typeCall_enumerate_1 _) (F.newCall_enumerate_1 _) (fun x => F.args_object_init_2 x _) F.entry_enumerate_new (enum_new1 (begins_tuple a its)) ⟨ha, ?_⟩
  generalize ei : ({ cls := .type "tuple_iterator", data := .fields #[.ref a, .int 0 0] } : Obj) = ob
  have fr : ob.isFreed = false := by rw [← ei]; rfl
  have sz : (s.heap.push ob).objs.size = s.heap.objs.size + 1 := Heap.size_push ..
  have at0 : (s.heap.push ob).get? s.heap.objs.size = some ob := Heap.get?_push_size _ fr
  show _ ∧ _
  rw [sz]
  generalize ee : ({ cls := .type "enumerate", data := .fields #[.none, .bool false, .ref s.heap.objs.size, rawInt 0, .none, .none] } : Obj) = oe
  have fe : oe.isFreed = false := by rw [← ee]; rfl
  have at1 : ((s.heap.push ob).push oe).get? (s.heap.objs.size + 1) = some oe := by
    have z := Heap.get?_push_size (s.heap.push ob) (o := oe) fe
    rwa [sz] at z
  have en : IsEnum ((s.heap.push ob).push oe) (s.heap.objs.size + 1) s.heap.objs.size 0 .none := by
    subst ee
    exact at1
  refine ⟨⟨_, at1, by rw [← ee]⟩, q _ en ⟨ob, Heap.get?_push_of_some _ at0, by rw [← ei], by rw [← ei] <;> rfl⟩ fun b o x => Heap.get?_push_of_some _ (Heap.get?_push_of_some _ x)⟩
end

/-- the tuple at a, each item in a new pair with its number -/
def IteT (K : PySem.W.Frag) (a : Addr) : It where
  go := fun i H => ∃ (xs : List V) (x : V), SqT K H a xs ∧ xs[i]? = some x
  yld := fun i H v H' => ∃ T x, v = .ref T ∧ H T = none ∧ H' = upd H T (.tup [.int (i : Nat), x]) ∧ ∀ xs, SqT K H a xs → xs[i]? = some x
  stop := fun i H => ∃ xs : List V, SqT K H a xs ∧ xs.length = i
theorem turn_enumT {P : Program} {w : World} {K : PySem.W.Frag} {elts : List Expr} {kk : Nat} {tpos : Pos} (a e it : Addr) (ne : e ≠ it) (na : a ≠ it) (nea : e ≠ a) :
    Turn P w K (.Tuple elts kk tpos) (IteT K a) [e, it] e (fun i h => (∃ old, IsEnum h e it (i : Int) old) ∧ h.IsTupleIter it a i) where
  mem := List.mem_cons_self
  obj := by
    rintro i h ⟨⟨old, h1⟩, o2, h2, _, d2⟩ b hb
    rcases List.mem_cons.mp hb with z | z
    · subst z
      exact ⟨_, h1, fun v q => nomatch q⟩
    · have z' := List.mem_singleton.mp z
      subst z'
      exact ⟨o2, h2, fun v q => by rw [d2] at q; cases q⟩
  keep := by
    rintro i h h' ⟨⟨old, h1⟩, h2⟩ k
    exact ⟨⟨old, k e List.mem_cons_self _ h1⟩, h2.at fun o q => k it (List.mem_cons_of_mem _ List.mem_cons_self) o q⟩
  item := by
    rintro X rfl rfl rfl hc i pins s σ H E I hf ⟨⟨old, h1⟩, h2⟩ ⟨xs, x, hq, hx⟩
    obtain ⟨its, rv, p, hz⟩ := I.tuple hq
    obtain ⟨u, hu, ru⟩ := rv.get hx
    have hi : i < its.length := (List.getElem?_eq_some_iff.mp hu).1
    have W := WalksT.enumerateD (Draws.tuple (prog := X.prog) (w := X.w) (A := X.A.in1) (I.ok.hd hc) it a na its.toArray) e ne (by simp [ne, nea]) List.mem_cons_self
    have le : e < s.heap.objs.size := Heap.lt_size h1
    have li : it < s.heap.objs.size := by obtain ⟨_, q, _⟩ := id h2; exact Heap.lt_size q
    refine W.item i s _ _ (by simpa using hi) ⟨⟨old, h1⟩, h2, p⟩ fun T vals h' tk hp hT hTt mid kp => ⟨_, rfl, ?_⟩
    obtain ⟨t, y, hy, rfl⟩ := hp
    have ey : y = u := by
      have q : its.toArray[i]? = some y := hy
      have q' : its[i]? = some y := by simpa using q
      rw [hu] at q'
      exact (Option.some.inj q').symm
    subst ey
    have apart := W.apart i T h' mid
    refine W.go elts kk tpos i T { s with heap := h', toks := tk } _ _ mid fun h'' st kp2 => ?_
    have tup2 : IsTup h'' T #[.int i t, y] := by
      obtain ⟨o, q1, q2, q3⟩ := hTt
      exact ⟨o, kp2 T o apart q1, q2, q3⟩
    have new : ObjOk X.prog X.w (upd H T (.tup [.int (i : Nat), x])) h'' T (.tup [.int (i : Nat), x]) :=
      ⟨by show 2 ≤ sizeLine; decide, [.int i t, y], .cons ⟨_, rfl⟩ (.cons ru .nil), tup2⟩
    have I1 : Inv X pins σ (upd H T (.tup [.int (i : Nat), x])) { s with heap := h'', toks := tk } :=
      I.turnedNew (ch := [e, it]) (fun b ob hb q => kp2 b ob hb (kp b ob hb q)) hf hT new
    refine ⟨.ref T, _, I1, rfl, ⟨T, x, rfl, I.hok.fresh hT, rfl, fun ys hy => by rw [I.tuple_inj hy hq]; exact hx⟩, ⟨st.1, st.2.1⟩, fun b hb => ?_⟩
    have lb : b < s.heap.objs.size := by
      rcases List.mem_cons.mp hb with z | z
      · rw [z]; exact le
      · rw [List.mem_singleton.mp z]; exact li
    rw [upd_ne (Nat.ne_of_lt (Nat.lt_of_lt_of_le lb hT))]
    exact (hf b hb).1
  done := by
    rintro X rfl rfl rfl hc i pins s σ H E I hf ⟨⟨old, h1⟩, h2⟩ ⟨xs, hq, hx⟩
    obtain ⟨its, rv, p, hz⟩ := I.tuple hq
    have W := WalksT.enumerateD (Draws.tuple (prog := X.prog) (w := X.w) (A := X.A.in1) (I.ok.hd hc) it a na its.toArray) e ne (by simp [ne, nea]) List.mem_cons_self
    have ei : i = its.toArray.size := by
      rw [List.size_toArray, ← rv.length]
      exact hx.symm
    subst ei
    exact W.done s _ _ ⟨⟨old, h1⟩, h2, p⟩ fun h' tk kp => ⟨rfl, I.turnedL (t' := tk) (ch := [e, it]) kp hf⟩
  self := fun A i s Q E ⟨⟨_, h1⟩, _⟩ q => wpAny_pyIter_enum h1 q
def iEnumA (K : PySem.W.Frag) (ta : TA) : TI := fun σ H R => ta σ H fun vs H1 => ∃ a xs, vs = [.ref a] ∧ ((SqL K H1 a xs ∧ R (Ite K a) H1) ∨ (SqT K H1 a xs ∧ R (IteT K a) H1))
theorem pi_enumA {X : Cx} {e : Expr} {ta : TA} {p pos tpos : Pos} {elts : List Expr} {kk : Nat} (hg : Gl X "enumerate") (hm : X.mg "enumerate" = none) (ha : PA X [e] ta) (hs : starEach [e] X.env = [(false, eval e X.env)] := by rfl) :
    PI X (.Tuple elts kk tpos) (.Call (.Name "enumerate" p) [e] [] pos) (iEnumA X.K ta) := by
  refine ⟨fun pins s σ H R I h => ?_⟩
  refine Call_ (ld_blt I hg hm boot_enumerate (PyProof.Rows.callWith_type1 (thn (ha.run pos pins s σ H _ I h) ?_) hs rfl))
  rintro us s1 ⟨vs, H1, I1, r1, a, xs, rfl, q⟩
  obtain ⟨u, rfl, r⟩ := vals1 r1
  cases r
  have two : ∀ b, b ∈ [s1.heap.objs.size + 1, s1.heap.objs.size] → FpOk X pins H1 b := fun b hb => by
    have hle : s1.heap.objs.size ≤ b := by
      rcases List.mem_cons.mp hb with z | z
      · omega
      · have := List.mem_singleton.mp z; omega
    exact I1.fpOk hle (I1.hok.fresh hle)
  rcases q with ⟨hq, q⟩ | ⟨hq, q⟩
  · obtain ⟨its, rv, pl, _⟩ := I1.list hq
    refine call_enumerate_list pl.isList fun h' he hit _ kp => wpAny_pyIter_enum he ?_
    exact ⟨_, _, _, _, H1, rfl, I1.kept (t' := s1.toks) kp, turn_enum a (s1.heap.objs.size + 1) s1.heap.objs.size, ⟨⟨.none, he⟩, hit, Nat.succ_ne_self _⟩, two, q⟩
  · obtain ⟨its, rv, pl, _⟩ := I1.tuple hq
    have la : a < s1.heap.objs.size := by
      obtain ⟨o, e1, _⟩ := id pl
      exact Heap.lt_size e1
    refine call_enum_tuple (show s1.heap.IsTuple a its.toArray from pl) fun h' he hit kp => wpAny_pyIter_enum he ?_
    exact ⟨_, _, _, _, H1, rfl, I1.kept (t' := s1.toks) kp, turn_enumT a (s1.heap.objs.size + 1) s1.heap.objs.size (Nat.succ_ne_self _) (Nat.ne_of_lt la) (Nat.ne_of_gt (Nat.lt_succ_of_lt la)), ⟨⟨.none, he⟩, hit⟩, two, q⟩
end DD

/-! DD8: statements, targets, loops, comprehensions by data -/
namespace DD
open PySem PySem.Spec PyProof.Rows L2

/-- how a statement ends -/
inductive Fl where
  | nx (ρ : DEnv) | rt (d : D) | bk (ρ : DEnv) | ct (ρ : DEnv)
  | xc (c : Nat) (fs : List (Str × D)) (ρ : DEnv)
def FlP (g : Gx) (W : WX) (E : Ends) : Fl → Gh → Sto → Hp → Prop
  | .nx ρ, μ, S, H => ∀ σ, EnvOk g μ S H σ ρ → E.nx σ H
  | .rt d, μ, S, H => ∀ v, Rep g μ S H v d → E.rt v H
  | .bk ρ, μ, S, H => ∀ σ, EnvOk g μ S H σ ρ → E.bk σ H
  | .ct ρ, μ, S, H => ∀ σ, EnvOk g μ S H σ ρ → E.ct σ H
  | .xc c fs ρ, μ, S, H => ∀ σ d, EnvOk g μ S H σ ρ → XcP g μ S H d fs → W (.ref (g.ca c)) d σ H
abbrev EF : XK := fun _ _ _ => False
def tS (g : Gx) (W : WX) (f : DEnv → M Fl) : TS := fun E σ H => ∃ ρ μ S, EnvOk g μ S H σ ρ ∧ StoOk g μ S H ∧ Wp g EF (f ρ) μ S H (FlP g W E)
/-- an expression's exception ends the statement -/
def M.cat {α : Type} (m : M α) (ρ : DEnv) (k : α → M Fl) : M Fl := fun S => match m S with
  | .ok a S' => k a S'
  | .exc c fs S' => .ok (.xc c fs ρ) S'
  | .bad => .bad
theorem psOf {X : Cx} {e : Stmt} {t t' : TS} (h : PS X e t) (k : ∀ E σ H, t' E σ H → t E σ H) : PS X e t' := ⟨fun pins s σ H E I hq => h.run pins s σ H E I (k E σ H hq)⟩
theorem pssOf {X : Cx} {e : List Stmt} {t t' : TS} (h : PSs X e t) (k : ∀ E σ H, t' E σ H → t E σ H) : PSs X e t' := ⟨fun pins s σ H E I hq => h.run pins s σ H E I (k E σ H hq)⟩
section
variable {g : Gx} {W : WX} {E : Ends} {σ : L2.St} {ρ : DEnv} {μ : Gh} {S : Sto} {H : Hp}
theorem Wp.cat {α : Type} {m : M α} {k : α → M Fl} (env : EnvOk g μ S H σ ρ) (h : Wp g EF (M.cat m ρ k) μ S H (FlP g W E)) :
    Wp g (fun c d H' => W c d σ H') m μ S H fun a μ1 S1 H1 => Wp g EF (k a) μ1 S1 H1 fun fl μ2 S2 H2 => Step μ S H μ2 S2 H2 → FlP g W E fl μ2 S2 H2 := by
  have ex : ∀ {c : Nat} {fs : List (Str × D)} {S1 : Sto}, m S = .exc c fs S1 → M.cat m ρ k S = .ok (.xc c fs ρ) S1 := fun e => by unfold M.cat; rw [e]
  have go : ∀ {a : α} {S1 : Sto}, m S = .ok a S1 → M.cat m ρ k S = k a S1 := fun e => by unfold M.cat; rw [e]
  cases e : m S with
  | bad =>
    have eb : M.cat m ρ k S = .bad := by unfold M.cat; rw [e]
    unfold Wp at h
    rw [eb] at h
    exact h.elim
  | exc c fs S1 =>
    refine Wp.of_exc e fun μ1 H1 d t k1 q => ?_
    rcases h.run with ⟨fl, S2, e2, w⟩ | ⟨c', fs', S2, e2, _⟩
    · rw [ex e] at e2
      cases e2
      exact w μ1 H1 t k1 σ d (env.step t) q
    · rw [ex e] at e2
      cases e2
  | ok a S1 =>
    refine Wp.of_ok e fun μ1 H1 t1 k1 => ?_
    rcases h.run with ⟨fl, S2, e2, w⟩ | ⟨c', fs', S2, e2, w⟩
    · rw [go e] at e2
      exact Wp.of_ok e2 fun μ2 H2 t2 k2 t => w μ2 H2 t k2
    · rw [go e] at e2
      exact Wp.of_exc e2 fun μ2 H2 d t2 k2 q => w μ2 H2 d (t1.trans t2) k2 q
theorem sD_then {f : DEnv → M D} {k : D → M Fl} {R : VK} (env : EnvOk g μ S H σ ρ) (sto : StoOk g μ S H) (h : Wp g EF (M.cat (f ρ) ρ k) μ S H (FlP g W E))
    (q : ∀ d μ1 S1 H1 v, Step μ S H μ1 S1 H1 → StoOk g μ1 S1 H1 → EnvOk g μ1 S1 H1 σ ρ → Rep g μ1 S1 H1 v d → Wp g EF (k d) μ1 S1 H1 (FlP g W E) → R v H1) : tD g W f σ H R :=
  ⟨ρ, μ, S, env, sto, (Wp.cat env h).mono fun d μ1 S1 H1 t k1 w v r => q d μ1 S1 H1 v t k1 (env.step t) r (w.mono fun _ _ _ _ t2 _ z => z (t.trans t2))⟩
theorem sDT_then {f : DEnv → M Bool} {k : Bool → M Fl} {R : Bool → Hp → Prop} (env : EnvOk g μ S H σ ρ) (sto : StoOk g μ S H) (h : Wp g EF (M.cat (f ρ) ρ k) μ S H (FlP g W E))
    (q : ∀ d μ1 S1 H1, Step μ S H μ1 S1 H1 → StoOk g μ1 S1 H1 → EnvOk g μ1 S1 H1 σ ρ → Wp g EF (k d) μ1 S1 H1 (FlP g W E) → R d H1) : tDT g W f σ H R :=
  ⟨ρ, μ, S, env, sto, (Wp.cat env h).mono fun d μ1 S1 H1 t k1 w => q d μ1 S1 H1 t k1 (env.step t) (w.mono fun _ _ _ _ t2 _ z => z (t.trans t2))⟩
theorem sDA_then {f : DEnv → M (List D)} {k : List D → M Fl} {R : List V → Hp → Prop} (env : EnvOk g μ S H σ ρ) (sto : StoOk g μ S H) (h : Wp g EF (M.cat (f ρ) ρ k) μ S H (FlP g W E))
    (q : ∀ d μ1 S1 H1 v, Step μ S H μ1 S1 H1 → StoOk g μ1 S1 H1 → EnvOk g μ1 S1 H1 σ ρ → RepAll g μ1 S1 H1 v d → Wp g EF (k d) μ1 S1 H1 (FlP g W E) → R v H1) : tDA g W f σ H R :=
  ⟨ρ, μ, S, env, sto, (Wp.cat env h).mono fun d μ1 S1 H1 t k1 w v r => q d μ1 S1 H1 v t k1 (env.step t) r (w.mono fun _ _ _ _ t2 _ z => z (t.trans t2))⟩
end

/-! ### the functions -/
def sNext : DEnv → M Fl := fun ρ => pure (.nx ρ)
def sBreak : DEnv → M Fl := fun ρ => pure (.bk ρ)
def sCont : DEnv → M Fl := fun ρ => pure (.ct ρ)
def thenS (fl : Fl) (k : DEnv → M Fl) : M Fl := match fl with
  | .nx ρ => k ρ
  | x => pure x
def sSeq (f k : DEnv → M Fl) : DEnv → M Fl := fun ρ => do let fl ← f ρ; thenS fl k
def sRet (f : DEnv → M D) : DEnv → M Fl := fun ρ => M.cat (f ρ) ρ fun d => pure (.rt d)
def sRetN : DEnv → M Fl := fun _ => pure (.rt .non)
def sExpr (f : DEnv → M D) : DEnv → M Fl := fun ρ => M.cat (f ρ) ρ fun _ => pure (.nx ρ)
def sIf (t : DEnv → M Bool) (a b : DEnv → M Fl) : DEnv → M Fl := fun ρ => M.cat (t ρ) ρ fun c => if c then a ρ else b ρ
def sSet (i : Nat) (f : DEnv → M D) : DEnv → M Fl := fun ρ => M.cat (f ρ) ρ fun d => pure (.nx (ρ.set i (some d)))
/-- code that is never reached -/
def sNever : DEnv → M Fl := fun _ => M.bad
section
variable {X : Cx} {ca : Nat → Addr} {W : WX} {st : Stmt} {rest as bs : List Stmt} {c e : Expr} {f : DEnv → M D} {fa fb : DEnv → M Fl} {t : DEnv → M Bool} {pos pos' : Pos}
theorem sd_nil : PSs X [] (tS (gx X ca) W sNext) := pssOf pss_nil fun E σ H ⟨ρ, μ, S, env, sto, h⟩ => Wp.pure h sto σ env
theorem sd_seq (h1 : PS X st (tS (gx X ca) W fa)) (h2 : PSs X rest (tS (gx X ca) W fb)) : PSs X (st :: rest) (tS (gx X ca) W (sSeq fa fb)) :=
  pssOf (pss_cons h1 h2) fun E σ H ⟨ρ, μ, S, env, sto, h⟩ => ⟨ρ, μ, S, env, sto, (Wp.bind h).mono fun fl μ1 S1 H1 t1 k1 w => by
    cases fl with
    | nx ρ1 => exact fun σ1 env1 => ⟨ρ1, μ1, S1, env1, k1, w.mono fun _ _ _ _ t2 _ z => z (t1.trans t2)⟩
    | rt d => exact Wp.pure w k1 t1
    | bk ρ1 => exact Wp.pure w k1 t1
    | ct ρ1 => exact Wp.pure w k1 t1
    | xc c fs ρ1 => exact Wp.pure w k1 t1⟩
theorem sd_one (h1 : PS X st (tS (gx X ca) W fa)) : PSs X [st] (tS (gx X ca) W fa) := pss_one h1
theorem sd_pass : PS X (.Pass pos) (tS (gx X ca) W sNext) := psOf ps_pass fun E σ H ⟨ρ, μ, S, env, sto, h⟩ => Wp.pure h sto σ env
theorem sd_break : PS X (.Break pos) (tS (gx X ca) W sBreak) := psOf ps_break fun E σ H ⟨ρ, μ, S, env, sto, h⟩ => Wp.pure h sto σ env
theorem sd_cont : PS X (.Continue pos) (tS (gx X ca) W sCont) := psOf ps_continue fun E σ H ⟨ρ, μ, S, env, sto, h⟩ => Wp.pure h sto σ env
theorem sd_doc {x : Str} {j : Nat} : PS X (.Expr (.Constant (.str x) j pos) pos') (tS (gx X ca) W sNext) := psOf ps_doc fun E σ H ⟨ρ, μ, S, env, sto, h⟩ => Wp.pure h sto σ env
theorem sd_never : PS X st (tS (gx X ca) W sNever) := psOf ps_never fun E σ H ⟨ρ, μ, S, env, sto, h⟩ => h
theorem sd_ret (he : PE X e (tD (gx X ca) W f)) : PS X (.Return (some e) pos) (tS (gx X ca) W (sRet f)) :=
  psOf (ps_ret he) fun E σ H ⟨ρ, μ, S, env, sto, h⟩ => sD_then env sto h fun d μ1 S1 H1 v t1 k1 env1 r1 h1 => Wp.pure h1 k1 v r1
theorem sd_retN : PS X (.Return none pos) (tS (gx X ca) W sRetN) := psOf ps_retN fun E σ H ⟨ρ, μ, S, env, sto, h⟩ => Wp.pure h sto _ .non
theorem sd_expr (he : PE X e (tD (gx X ca) W f)) (hs : swapsWith e none pos.line X.env = pure false := by rfl) : PS X (.Expr e pos) (tS (gx X ca) W (sExpr f)) :=
  psOf (ps_expr he hs) fun E σ H ⟨ρ, μ, S, env, sto, h⟩ => sD_then env sto h fun d μ1 S1 H1 v t1 k1 env1 r1 h1 => Wp.pure h1 k1 σ env1
theorem sd_if (hc : PT X c (tDT (gx X ca) W t)) (ha : PSs X as (tS (gx X ca) W fa)) (hb : PSs X bs (tS (gx X ca) W fb)) : PS X (.If c as bs pos) (tS (gx X ca) W (sIf t fa fb)) :=
  psOf (ps_if hc ha hb) fun E σ H ⟨ρ, μ, S, env, sto, h⟩ => sDT_then env sto h fun q μ1 S1 H1 t1 k1 env1 h1 => by
    cases q with
    | true =>
      simp only [if_true] at h1 ⊢
      exact ⟨ρ, μ1, S1, env1, k1, h1⟩
    | false =>
      simp only [Bool.false_eq_true, if_false] at h1 ⊢
      exact ⟨ρ, μ1, S1, env1, k1, h1⟩
theorem sd_set (i : Nat) {x : Str} (hN : X.N.Nodup) (he : PE X e (tD (gx X ca) W f)) (hi : X.N[i]? = some x := by rfl) (hx : Loc X.env.scope x := by first | exact Or.inl rfl | exact Or.inr rfl) (hs : swapsWith e (some (.Name x pos')) pos.line X.env = pure false := by rfl)
    (hf : X.fn x = true ∨ X.env.scope.names.lookup x = some .local := by first | exact .inl rfl | exact .inr rfl) : PS X (.Assign [.Name x pos'] e pos) (tS (gx X ca) W (sSet i f)) :=
  psOf (ps_set hN hi hx he hs hf) fun E σ H ⟨ρ, μ, S, env, sto, h⟩ => sD_then env sto h fun d μ1 S1 H1 v t1 k1 env1 r1 h1 => Wp.pure h1 k1 _ (env1.set i r1)
end

/-! ### targets -/
theorem wipe_setM {σ : L2.St} {i : Nat} {x : Option V} : ∀ {js : List Nat}, i ∈ js → wipe (σ.set i x) js = wipe σ js := by
  intro js hi
  refine List.ext_getElem? fun j => ?_
  by_cases hj : j ∈ js
  · have z : ∀ τ : L2.St, (wipe τ js)[j]? = if j < τ.length then some none else none := fun τ => by
      by_cases hl : j < τ.length
      · rw [if_pos hl]
        have hl2 : j < (wipe τ js).length := by rw [wipe_length]; exact hl
        rw [List.getElem?_eq_getElem hl2]
        cases e : (wipe τ js)[j] with
        | none => rfl
        | some v =>
          have q : (wipe τ js)[j]? = some (some v) := by rw [List.getElem?_eq_getElem hl2, e]
          exact absurd hj (wipe_some q).2
      · rw [if_neg hl]
        exact List.getElem?_eq_none (by rw [wipe_length]; omega)
    rw [z, z, List.length_set]
  · rw [wipe_out hj, wipe_out hj, List.getElem?_set_ne fun e => hj (by rw [← e]; exact hi)]
/-- but for the slots is, the names are as they were -/
def WipeEq (is : List Nat) (σ σ' : L2.St) : Prop := ∀ js : List Nat, (∀ i ∈ is, i ∈ js) → wipe σ' js = wipe σ js
def tG (g : Gx) (is : List Nat) (f : D → DEnv → M DEnv) : TG := fun v σ H Q => ∃ d ρ μ S, Rep g μ S H v d ∧ EnvOk g μ S H σ ρ ∧ StoOk g μ S H ∧ Wp g EF (f d ρ) μ S H fun ρ' μ' S' H' => ∀ σ', EnvOk g μ' S' H' σ' ρ' → WipeEq is σ σ' → Q σ' H'
def tGs (g : Gx) (is : List Nat) (f : List D → DEnv → M DEnv) : TGs := fun vs σ H Q => ∃ ds ρ μ S, RepAll g μ S H vs ds ∧ EnvOk g μ S H σ ρ ∧ StoOk g μ S H ∧ Wp g EF (f ds ρ) μ S H fun ρ' μ' S' H' => ∀ σ', EnvOk g μ' S' H' σ' ρ' → WipeEq is σ σ' → Q σ' H'
theorem pgOf {X : Cx} {e : Expr} {t t' : TG} (h : PG X e t) (k : ∀ v σ H Q, t' v σ H Q → t v σ H Q) : PG X e t' := ⟨fun pins s σ H v u Q I r hq => h.run pins s σ H v u Q I r (k v σ H Q hq)⟩
theorem pgsOf {X : Cx} {e : List Expr} {t t' : TGs} (h : PGs X e t) (k : ∀ v σ H Q, t' v σ H Q → t v σ H Q) : PGs X e t' := ⟨fun pins s σ H v u Q I r hq => h.run pins s σ H v u Q I r (k v σ H Q hq)⟩
def gSet (i : Nat) : D → DEnv → M DEnv := fun d ρ => pure (ρ.set i (some d))
def gsNil : List D → DEnv → M DEnv
  | [], ρ => pure ρ
  | _, _ => M.bad
def gsCons (f : D → DEnv → M DEnv) (r : List D → DEnv → M DEnv) : List D → DEnv → M DEnv
  | d :: ds, ρ => do let ρ' ← f d ρ; r ds ρ'
  | _, _ => M.bad
def gTupD (n : Nat) (f : List D → DEnv → M DEnv) : D → DEnv → M DEnv
  | .tup ds, ρ => do M.need (ds.length = n); f ds ρ
  | _, _ => M.bad
def sAsg (f : DEnv → M D) (k : D → DEnv → M DEnv) : DEnv → M Fl := fun ρ => M.cat (f ρ) ρ fun d => do let ρ' ← k d ρ; pure (.nx ρ')
section
variable {X : Cx} {ca : Nat → Addr} {W : WX} {e tg : Expr} {es : List Expr} {f : DEnv → M D} {k : D → DEnv → M DEnv} {ks : List D → DEnv → M DEnv} {pos : Pos}
theorem gd_name (i : Nat) {x : Str} (hN : X.N.Nodup) (hi : X.N[i]? = some x := by rfl) (hx : Loc X.env.scope x := by first | exact Or.inl rfl | exact Or.inr rfl) (hf : X.fn x = true ∨ X.env.scope.names.lookup x = some .local := by first | exact .inl rfl | exact .inr rfl) :
    PG X (.Name x pos) (tG (gx X ca) [i] (gSet i)) := pgOf (pg_name hN hi hx hf) fun v σ H Q ⟨d, ρ, μ, S, r, env, sto, h⟩ => Wp.pure h sto _ (env.set i r) fun js hj => wipe_setM (hj i List.mem_cons_self)
theorem gsd_nil : PGs X [] (tGs (gx X ca) [] gsNil) := pgsOf pgs_nil fun vs σ H Q ⟨ds, ρ, μ, S, r, env, sto, h⟩ => by
  cases r with
  | nil => exact ⟨rfl, Wp.pure h sto σ env fun _ _ => rfl⟩
  | cons _ _ => exact (show False from h).elim
theorem gsd_cons {i1 i2 : List Nat} (h1 : PG X e (tG (gx X ca) i1 k)) (h2 : PGs X es (tGs (gx X ca) i2 ks)) (hs : (assignEach (e :: es) X.env).map (·.2) = assign e X.env :: (assignEach es X.env).map (·.2) := by rfl) : PGs X (e :: es) (tGs (gx X ca) (i1 ++ i2) (gsCons k ks)) :=
  pgsOf (pgs_cons h1 h2 hs) fun vs σ H Q ⟨ds, ρ, μ, S, r, env, sto, h⟩ => by
    cases r with
    | nil => exact (show False from h).elim
    | cons r1 rr => exact ⟨_, _, rfl, _, ρ, μ, S, r1, env, sto, (Wp.bind h).mono fun ρ1 μ1 S1 H1 t1 k1 w σ1 env1 we1 => ⟨_, ρ1, μ1, S1, rr.step t1, env1, k1, w.mono fun _ _ _ _ t2 _ z σ2 env2 we2 => z (t1.trans t2) σ2 env2 fun js hj => (we2 js fun i hi => hj i (List.mem_append_right _ hi)).trans (we1 js fun i hi => hj i (List.mem_append_left _ hi))⟩⟩
theorem gd_tup {n kk : Nat} {is : List Nat} (hc : X.calm = true) (h : PGs X es (tGs (gx X ca) is ks)) (hn : (assignEach es X.env).length = n := by rfl) (hst : (assignEach es X.env).findIdx? (·.1) = none := by rfl) : PG X (.Tuple es kk pos) (tG (gx X ca) is (gTupD n ks)) :=
  pgOf (pg_tup hc h hn hst) fun v σ H Q ⟨d, ρ, μ, S, r, env, sto, h⟩ => by
    cases r with
    | tup fz q =>
      obtain ⟨h1, h2⟩ := Wp.need (Wp.bind h) sto
      exact ⟨_, _, rfl, fz.sq, by rw [q.length]; exact h1, _, ρ, μ, S, q, env, sto, h2.mono fun _ _ _ _ t _ z => z t⟩
    | _ => exact (show False from h).elim
/-- o[i] = value, by data -/
def setIx (o i v : D) : M Unit := match i with
  | .int i => match o with
    | .cell n => do
      let xs ← M.get (cellL n)
      let j ← M.get fun _ => ixN xs.length i
      M.put fun S => S.set n (some (.lst (xs.set j v)))
    | _ => M.bad
  | _ => M.bad
def gSubD (fo fi : DEnv → M D) : D → DEnv → M DEnv := fun v ρ => do let o ← fo ρ; let i ← fi ρ; setIx o i v; pure ρ
theorem gd_sub {o i : Expr} {fo fi : DEnv → M D} (ho : PE X o (tD (gx X ca) (fun _ _ _ _ => False) fo)) (hi : PE X i (tD (gx X ca) (fun _ _ _ _ => False) fi))
    (ha : ∀ v, assign (.Subscript o i pos) X.env v = (do
      let ov ← holding [v] (eval o X.env)
      let iv ← holding [v, ov] (eval i X.env)
      standAt pos
      holding [v, ov, iv] (setItem ov iv v)
      release [v, ov, iv] []) := by intro _; rfl) : PG X (.Subscript o i pos) (tG (gx X ca) [] (gSubD fo fi)) :=
  pgOf (pg_sub ho hi set_list ha) fun v σ H Q ⟨d, ρ, μ, S, r, env, sto, h⟩ => tD_then env sto h fun od μ1 S1 H1 ov t1 k1 env1 r1 h1 => tD_then env1 k1 h1 fun id μ2 S2 H2 iv t2 k2 env2 r2 h2 => by
    have h3 := Wp.bind h2
    cases r2 with
    | int j =>
      cases r1 with
      | @cell ao n em =>
        obtain ⟨xs, e1, h4⟩ := Wp.get (Wp.bind h3) k2
        obtain ⟨jj, e2, h5⟩ := Wp.get (Wp.bind h4) k2
        have em2 := prefix_get t2.pre em
        obtain ⟨ws, hw, q⟩ := cell_rep k2 e1 em2
        refine ⟨_, ws, j, jj, rfl, rfl, hw, by rw [q.length]; exact e2, ?_⟩
        obtain ⟨t3, k3⟩ := sto_write k2 (cellL_some e1) em2 (.lst (q.set jj (r.step (t1.trans t2))))
        have h6 := Wp.put h5 t3 k3 t3 t3
        exact Wp.pure h6 k3 t3 _ (env2.step t3) fun _ _ => rfl
      | _ => exact (show False from h3).elim
    | _ => exact (show False from h3).elim
theorem sd_asg {is : List Nat} (he : PE X e (tD (gx X ca) W f)) (hg : PG X tg (tG (gx X ca) is k)) (hs : swapsWithSole [tg] e pos.line X.env = pure false := by rfl) (hw : swappedStores [tg] e X.env = pure none := by rfl)
    (h1 : (assignEach [tg] X.env).map (·.2) = [assign tg X.env] := by rfl) : PS X (.Assign [tg] e pos) (tS (gx X ca) W (sAsg f k)) :=
  psOf (ps_asg he hg hs hw h1) fun E σ H ⟨ρ, μ, S, env, sto, h⟩ => sD_then env sto h fun d μ1 S1 H1 v t1 k1 env1 r1 h1 =>
    ⟨d, ρ, μ1, S1, r1, env1, k1, (Wp.bind h1).mono fun ρ' μ2 S2 H2 t2 k2 w σ' env' _ => Wp.pure w k2 t2 σ' env'⟩
def sPar (i j : Nat) (fs : DEnv → M (List D)) : DEnv → M Fl := fun ρ => M.cat (fs ρ) ρ fun ds => match ds with
  | [a, b] => pure (.nx ((ρ.set i (some a)).set j (some b)))
  | _ => M.bad
/-- a, b = x, y with two plain local names -/
theorem sd_par (i j : Nat) {x y : Str} {a b : Expr} {px py pt pt2 : Pos} {kt k2 : Nat} {fs : DEnv → M (List D)} (hc : X.calm = true) (hN : X.N.Nodup) (ha : PA X [a, b] (tDA (gx X ca) W fs)) (hi : X.N[i]? = some x := by rfl) (hj : X.N[j]? = some y := by rfl) (hij : i ≠ j := by decide)
    (hx : X.env.scope.names.lookup x = some .local := by rfl) (hy : X.env.scope.names.lookup y = some .local := by rfl)
    (hw : swappedStores [.Tuple [.Name x px, .Name y py] kt pt] (.Tuple [a, b] k2 pt2) X.env = pure (some [x, y]) := by rfl)
    (hs : swapsWithSole [.Tuple [.Name x px, .Name y py] kt pt] (.Tuple [a, b] k2 pt2) pos.line X.env = pure false := by rfl) :
    PS X (.Assign [.Tuple [.Name x px, .Name y py] kt pt] (.Tuple [a, b] k2 pt2) pos) (tS (gx X ca) W (sPar i j fs)) :=
  psOf (ps_par hc hN hi hj hij hx hy ha hw hs) fun E σ H ⟨ρ, μ, S, env, sto, h⟩ => sDA_then env sto h fun ds μ1 S1 H1 vs t1 k1 env1 r1 h1 => by
    match ds, r1, h1 with
    | [d1, d2], r1, h1 =>
      obtain ⟨v, u, rfl, q1, q2⟩ := rep2 r1
      exact ⟨v, u, rfl, Wp.pure h1 k1 _ ((env1.set i q1).set j q2)⟩
    | [], _, h1 => exact (show False from h1).elim
    | [_], _, h1 => exact (show False from h1).elim
    | _ :: _ :: _ :: _, _, h1 => exact (show False from h1).elim
end

/-! ### what is walked -/
/-- the walk J yields the data xs; where it stands for a cell (grd), while the cell holds them -/
def Grd (o : Option (Nat × List D)) (S : Sto) : Prop := match o with
  | none => True
  | some (n, xs) => cellL n S = some xs
structure ItD (g : Gx) (J : It) (xs : List D) (o : Option (Nat × List D)) (μ0 : Gh) (S0 : Sto) (H0 : Hp) : Prop where
  go : ∀ (i : Nat) (x : D) (μ : Gh) (S : Sto) (H : Hp), xs[i]? = some x → Step μ0 S0 H0 μ S H → StoOk g μ S H → Grd o S → J.go i H
  stop : ∀ (μ : Gh) (S : Sto) (H : Hp), Step μ0 S0 H0 μ S H → StoOk g μ S H → Grd o S → J.stop xs.length H
  yld : ∀ (i : Nat) (x : D) (μ : Gh) (S : Sto) (H : Hp) (v : V) (H' : Hp), xs[i]? = some x → Step μ0 S0 H0 μ S H → StoOk g μ S H → Grd o S → J.yld i H v H' → Step μ S H μ S H' ∧ StoOk g μ S H' ∧ Rep g μ S H' v x
abbrev Src := List D × Option (Nat × List D)
def tI (g : Gx) (W : WX) (f : DEnv → M Src) : TI := fun σ H R => ∃ ρ μ S, EnvOk g μ S H σ ρ ∧ StoOk g μ S H ∧ Wp g (fun c d H' => W c d σ H') (f ρ) μ S H fun s μ' S' H' => ∀ J, ItD g J s.1 s.2 μ' S' H' → R J H'
theorem piOf {X : Cx} {tg e : Expr} {t t' : TI} (h : PI X tg e t) (k : ∀ σ H Q, t' σ H Q → t σ H Q) : PI X tg e t' := ⟨fun pins s σ H Q I hq => h.run pins s σ H Q I (k σ H Q hq)⟩
theorem piOr {X : Cx} {tg e : Expr} {t t' : TI} (h : PI X tg e t) (h' : PI X tg e t') : PI X tg e fun σ H Q => t σ H Q ∨ t' σ H Q :=
  ⟨fun pins s σ H Q I hq => hq.elim (h.run pins s σ H Q I) (h'.run pins s σ H Q I)⟩
/-- a list or a tuple, walked -/
def srcOf : D → M Src
  | .tup xs => pure (xs, none)
  | .lst xs => pure (xs, none)
  | .rol xs => pure (xs, none)
  | .cell n => do let xs ← M.get (cellL n); pure (xs, some (n, xs))
  | _ => M.bad
def srcSeq (f : DEnv → M D) : DEnv → M Src := fun ρ => do let d ← f ρ; srcOf d
section
variable {g : Gx} {μ : Gh} {S : Sto} {H : Hp} {a : Addr} {vs : List V} {xs : List D}
theorem itd_list (f : FzL μ S H a vs) (q : RepAll g μ S H vs xs) : ItD g (Itl g.K a) xs none μ S H where
  go := fun i x μ' S' H' e t k _ => by
    obtain ⟨v, ev, _⟩ := q.get e
    obtain ⟨h1, h2⟩ := t.rd (.inl f.1) f.2
    exact ⟨vs, v, .inl h1, ev⟩
  stop := fun μ' S' H' t k _ => ⟨vs, .inl (t.rd (.inl f.1) f.2).1, by rw [q.length]; exact Nat.le_refl _⟩
  yld := fun i x μ' S' H' v H2 e t k _ y => by
    obtain ⟨rfl, hy⟩ := y
    obtain ⟨v', ev, r⟩ := q.get e
    have e2 := hy vs (.inl (t.rd (.inl f.1) f.2).1)
    rw [ev] at e2
    cases e2
    exact ⟨Step.refl _ _ _, k, r.step t⟩
theorem itd_rol (f : RoL g H a vs) (q : RepAll g μ S H vs xs) : ItD g (Itl g.K a) xs none μ S H := by
  have keep : ∀ {μ' : Gh} {S' : Sto} {H' : Hp}, Step μ S H μ' S' H' → SqL g.K H' a vs := fun t => by
    rcases f with ⟨o, f⟩ | f
    · exact .inl (.inr ⟨o, t.frz f⟩)
    · exact .inr f
  refine ⟨fun i x μ' S' H' e t k _ => ?_, fun μ' S' H' t k _ => ⟨vs, keep t, by rw [q.length]; exact Nat.le_refl _⟩, fun i x μ' S' H' v H2 e t k _ y => ?_⟩
  · obtain ⟨v, ev, _⟩ := q.get e
    exact ⟨vs, v, keep t, ev⟩
  · obtain ⟨rfl, hy⟩ := y
    obtain ⟨v', ev, r⟩ := q.get e
    have e2 := hy vs (keep t)
    rw [ev] at e2
    cases e2
    exact ⟨Step.refl _ _ _, k, r.step t⟩
theorem itd_tup (f : FzT g μ S H a vs) (q : RepAll g μ S H vs xs) : ItD g (Itt g.K a) xs none μ S H := by
  have keep : ∀ {μ' : Gh} {S' : Sto} {H' : Hp}, Step μ S H μ' S' H' → SqT g.K H' a vs := fun t => by
    rcases f with ⟨f, n⟩ | f
    · exact .inl (t.rd f n).1
    · exact .inr f
  refine ⟨fun i x μ' S' H' e t k _ => ?_, fun μ' S' H' t k _ => ⟨vs, keep t, by rw [q.length]; exact Nat.le_refl _⟩, fun i x μ' S' H' v H2 e t k _ y => ?_⟩
  · obtain ⟨v, ev, _⟩ := q.get e
    exact ⟨vs, v, keep t, ev⟩
  · obtain ⟨rfl, hy⟩ := y
    obtain ⟨v', ev, r⟩ := q.get e
    have e2 := hy vs (keep t)
    rw [ev] at e2
    cases e2
    exact ⟨Step.refl _ _ _, k, r.step t⟩
theorem itd_cell {n : Nat} (e0 : μ.m[n]? = some a) : ItD g (Itl g.K a) xs (some (n, xs)) μ S H := by
  have at_ : ∀ {μ' : Gh} {S' : Sto} {H' : Hp}, Step μ S H μ' S' H' → StoOk g μ' S' H' → Grd (some (n, xs)) S' → ∃ ws, SqL g.K H' a ws ∧ RepAll g μ' S' H' ws xs := fun t k gr => by
    obtain ⟨ws, h1, h2⟩ := cell_rep k gr (prefix_get t.pre e0)
    exact ⟨ws, .of h1, h2⟩
  refine ⟨fun i x μ' S' H' e t k gr => ?_, fun μ' S' H' t k gr => ?_, fun i x μ' S' H' v H2 e t k gr y => ?_⟩
  · obtain ⟨ws, h1, h2⟩ := at_ t k gr
    obtain ⟨v, ev, _⟩ := h2.get e
    exact ⟨ws, v, h1, ev⟩
  · obtain ⟨ws, h1, h2⟩ := at_ t k gr
    exact ⟨ws, h1, by rw [h2.length]; exact Nat.le_refl _⟩
  · obtain ⟨rfl, hy⟩ := y
    obtain ⟨ws, h1, h2⟩ := at_ t k gr
    obtain ⟨v', ev, r⟩ := h2.get e
    have e2 := hy ws h1
    rw [ev] at e2
    cases e2
    exact ⟨Step.refl _ _ _, k, r⟩
end
section
variable {X : Cx} {ca : Nat → Addr} {W : WX} {e tg : Expr} {f : DEnv → M D} {pos p : Pos}
theorem id_seq (he : PE X e (tD (gx X ca) W f)) : PI X tg e (tI (gx X ca) W (srcSeq f)) := by
  refine piOf (piOr (pi_list he) (pi_tup he)) fun σ H R ⟨ρ, μ, S, env, sto, h⟩ => ?_
  have h1 := Wp.bind h
  by_cases hc : ∃ xs S', f ρ S = .ok (.tup xs) S'
  · obtain ⟨xs0, S', ef⟩ := hc
    refine .inr ⟨ρ, μ, S, env, sto, Wp.of_ok ef fun μ1 H1 t1 k1 v r1 => ?_⟩
    rcases h1.run with ⟨d, S2, e2, w⟩ | ⟨_, _, _, e2, _⟩
    · rw [ef] at e2
      cases e2
      cases r1 with
      | tup fz q => exact ⟨_, rfl, ⟨_, fz.sq⟩, Wp.pure (w μ1 H1 t1 k1) k1 t1 _ (itd_tup fz q)⟩
    · rw [ef] at e2
      cases e2
  · refine .inl ⟨ρ, μ, S, env, sto, ?_⟩
    rcases h1.run with ⟨d, S2, ef, w⟩ | ⟨_, _, _, ef, w⟩
    · refine Wp.of_ok ef fun μ1 H1 t1 k1 v r1 => ?_
      have h2 := w μ1 H1 t1 k1
      cases r1 with
      | tup fz q => exact absurd ⟨_, _, ef⟩ hc
      | lst fz q => exact ⟨_, rfl, ⟨_, fz.sq⟩, Wp.pure h2 k1 t1 _ (itd_list fz q)⟩
      | rol fz q => exact ⟨_, rfl, ⟨_, fz.sq⟩, Wp.pure h2 k1 t1 _ (itd_rol fz q)⟩
      | cell em =>
        obtain ⟨xs, e1, h3⟩ := Wp.get (Wp.bind h2) k1
        obtain ⟨ws, h4, h5⟩ := cell_rep k1 e1 em
        exact ⟨_, rfl, ⟨ws, .of h4⟩, Wp.pure h3 k1 (Step.refl _ _ _) t1 _ (itd_cell em)⟩
      | _ => exact (show False from h2).elim
    · exact Wp.of_exc ef w
end
end DD

/-! DD9: for, while, comprehensions; range, enumerate, zip -/
namespace DD
open PySem PySem.Spec PyProof.Rows L2

theorem M.bind_ok {α β : Type} {m : M α} {k : α → M β} {S S2 : Sto} {b : β} (h : (m >>= k) S = .ok b S2) : ∃ a S1, m S = .ok a S1 ∧ k a S1 = .ok b S2 := by
  rw [M.bind_run] at h
  cases e : m S with
  | ok a S1 => rw [e] at h; exact ⟨a, S1, rfl, h⟩
  | exc c fs S1 => rw [e] at h; cases h
  | bad => rw [e] at h; cases h
theorem M.need_ok {c : Prop} [Decidable c] {S S2 : Sto} {u : Unit} (h : M.need c S = .ok u S2) : c ∧ S2 = S := by
  unfold M.need at h
  by_cases hc : c
  · rw [if_pos hc] at h; cases h; exact ⟨hc, rfl⟩
  · rw [if_neg hc] at h; cases h
theorem M.get_ok {α : Type} {f : Sto → Option α} {S S2 : Sto} {a : α} (h : M.get f S = .ok a S2) : f S = some a ∧ S2 = S := by
  unfold M.get at h
  cases e : f S with
  | none => rw [e] at h; cases h
  | some b => rw [e] at h; cases h; exact ⟨rfl, rfl⟩
open Classical in
/-- the cell that is walked still holds what is walked -/
noncomputable def chk (o : Option (Nat × List D)) : M Unit := fun S => if Grd o S then .ok () S else .bad
theorem chk_none {S : Sto} : chk none S = .ok () S := if_pos trivial
theorem chk_some {n : Nat} {xs : List D} {S : Sto} (h : cellL n S = some xs) : chk (some (n, xs)) S = .ok () S := if_pos h
theorem chk_ok {o : Option (Nat × List D)} {S S2 : Sto} {u : Unit} (h : chk o S = .ok u S2) : Grd o S ∧ S2 = S := by
  unfold chk at h
  by_cases hc : Grd o S
  · rw [if_pos hc] at h; cases h; exact ⟨hc, rfl⟩
  · rw [if_neg hc] at h; cases h
theorem Wp.chk {g : Gx} {E : XK} {μ : Gh} {S : Sto} {H : Hp} {o : Option (Nat × List D)} {Q : Unit → Gh → Sto → Hp → Prop} (h : Wp g E (chk o) μ S H Q) (k : StoOk g μ S H) : Grd o S ∧ Q () μ S H := by
  rcases h.run with ⟨u, S', e, w⟩ | ⟨c, fs, S', e, w⟩
  · obtain ⟨h1, rfl⟩ := chk_ok e
    exact ⟨h1, w μ H (Step.refl _ _ _) k⟩
  · unfold DD.chk at e
    split at e <;> cases e
/-- the same store, a later heap -/
theorem Wp.later {α : Type} {g : Gx} {E : XK} {m : M α} {μ μ' : Gh} {S : Sto} {H H' : Hp} {Q : α → Gh → Sto → Hp → Prop} (t : Step μ S H μ' S H') (h : Wp g E m μ S H Q) : Wp g E m μ' S H' Q := by
  rcases h.run with ⟨a, S', e, w⟩ | ⟨c, fs, S', e, w⟩
  · exact Wp.of_ok e fun μ2 H2 t2 k2 => w μ2 H2 (t.trans t2) k2
  · exact Wp.of_exc e fun μ2 H2 d t2 k2 q => w μ2 H2 d (t.trans t2) k2 q

/-! ### for -/
def loopS (fl : Fl) (k : DEnv → M Fl) : M Fl := match fl with
  | .nx ρ => k ρ
  | .ct ρ => k ρ
  | .bk ρ => pure (.nx ρ)
  | x => pure x
noncomputable def dFor (o : Option (Nat × List D)) (tg : D → DEnv → M DEnv) (body : DEnv → M Fl) : List D → DEnv → M Fl
  | [], ρ => do chk o; pure (.nx ρ)
  | x :: xs, ρ => do chk o; let ρ1 ← tg x ρ; let fl ← body ρ1; loopS fl (dFor o tg body xs)
noncomputable def sFor (src : DEnv → M Src) (tg : D → DEnv → M DEnv) (body : DEnv → M Fl) : DEnv → M Fl := fun ρ => M.cat (src ρ) ρ fun s => dFor s.2 tg body s.1 ρ
section
variable {X : Cx} {ca : Nat → Addr} {W : WX} {iter tg : Expr} {bd : List Stmt} {src : DEnv → M Src} {is : List Nat} {k : D → DEnv → M DEnv} {fb : DEnv → M Fl} {pos : Pos}
theorem drop_cons {α : Type} {xs : List α} {i : Nat} (h : i < xs.length) : xs.drop i = xs[i] :: xs.drop (i + 1) := List.drop_eq_getElem_cons h
theorem sd_for (hp : PassesOwn (model X.prog X.w) X.A X.env X.xe) (hc : X.calm = true) (hi : PI X tg iter (tI (gx X ca) W src)) (hg : PG X tg (tG (gx X ca) is k)) (hb : PSs X bd (tS (gx X ca) W fb))
    (hs : ∀ x, foldedSetIterable iter X.env x = pure x := by intro _; rfl) : PS X (.For tg iter bd [] pos) (tS (gx X ca) W (sFor src k fb)) :=
  psOf (ps_for hp hc hi hg hb hs) fun E σ H ⟨ρ, μ, S, env, sto, h⟩ => ⟨ρ, μ, S, env, sto, (Wp.cat env h).mono fun s μ1 S1 H1 t1 k1 w J hJ => by
    have w1 := w.mono fun _ _ _ _ t2 _ z => z (t1.trans t2)
    refine ⟨fun i m σ' H' => ∃ ρ' μ' S', EnvOk (gx X ca) μ' S' H' σ' ρ' ∧ StoOk (gx X ca) μ' S' H' ∧ Step μ1 S1 H1 μ' S' H' ∧ i + m = s.1.length ∧ Wp (gx X ca) EF (dFor s.2 k fb (s.1.drop i) ρ') μ' S' H' (FlP (gx X ca) W E),
      ⟨s.1.length, ρ, μ1, S1, env.step t1, k1, Step.refl _ _ _, Nat.zero_add _, by rw [List.drop_zero]; exact w1⟩, ?_⟩
    rintro i m σ' H' ⟨ρ', μ', S', env', k', t', em, w'⟩
    by_cases hi : i < s.1.length
    · rw [drop_cons hi] at w'
      have w2 : Wp (gx X ca) EF (do chk s.2; let ρ1 ← k s.1[i] ρ'; let fl ← fb ρ1; loopS fl (dFor s.2 k fb (s.1.drop (i + 1)))) μ' S' H' (FlP (gx X ca) W E) := w'
      obtain ⟨gr, w3⟩ := Wp.chk (Wp.bind w2) k'
      have ex : s.1[i]? = some s.1[i] := List.getElem?_eq_getElem hi
      refine .inr ⟨hJ.go i _ μ' S' H' ex t' k' gr, fun σ2 H2 => ∃ ρ2 μ2 S2, EnvOk (gx X ca) μ2 S2 H2 σ2 ρ2 ∧ StoOk (gx X ca) μ2 S2 H2 ∧ Step μ1 S1 H1 μ2 S2 H2 ∧ (i + 1) + (m - 1) = s.1.length ∧ Wp (gx X ca) EF (dFor s.2 k fb (s.1.drop (i + 1)) ρ2) μ2 S2 H2 (FlP (gx X ca) W E),
        fun σ2 H2 q => ⟨m - 1, by omega, q⟩, fun v H2 hy => ?_⟩
      obtain ⟨t2, k2, r2⟩ := hJ.yld i _ μ' S' H' v H2 ex t' k' gr hy
      refine ⟨s.1[i], ρ', μ', S', r2, env'.step t2, k2, (Wp.bind (Wp.later t2 w3)).mono fun ρ3 μ3 S3 H3 t3 k3 w4 σ3 env3 _ => ⟨ρ3, μ3, S3, env3, k3, (Wp.bind w4).mono fun fl μ4 S4 H4 t4 k4 w5 => ?_⟩⟩
      have t04 := t'.trans (t2.trans (t3.trans t4))
      have w6 := w5.mono fun _ _ _ _ t5 _ z => z (t4.trans t5) (t3.trans (t4.trans t5)) (t2.trans (t3.trans (t4.trans t5)))
      cases fl with
      | nx ρ4 => exact fun σ4 env4 => ⟨ρ4, μ4, S4, env4, k4, t04, by omega, w6⟩
      | ct ρ4 => exact fun σ4 env4 => ⟨ρ4, μ4, S4, env4, k4, t04, by omega, w6⟩
      | bk ρ4 => exact fun σ4 env4 => Wp.pure w6 k4 σ4 env4
      | rt d => exact (show FlP (gx X ca) W E (.rt d) μ4 S4 H4 from Wp.pure (E := EF) w6 k4)
      | xc c fs ρ4 => exact (show FlP (gx X ca) W E (.xc c fs ρ4) μ4 S4 H4 from Wp.pure (E := EF) w6 k4)
    · have ed : s.1.drop i = [] := List.drop_eq_nil_of_le (by omega)
      rw [ed] at w'
      have w2 : Wp (gx X ca) EF (do chk s.2; pure (.nx ρ') : M Fl) μ' S' H' (FlP (gx X ca) W E) := w'
      obtain ⟨gr, w3⟩ := Wp.chk (Wp.bind w2) k'
      have el : i = s.1.length := by omega
      subst el
      exact .inl ⟨hJ.stop μ' S' H' t' k' gr, Wp.pure w3 k' (Step.refl _ _ _) σ' env'⟩⟩
end

/-! ### comprehensions -/
def wipeD (ρ : DEnv) : List Nat → DEnv
  | [] => ρ
  | v :: vs => (wipeD ρ vs).set v none
theorem EnvOk.wipe {g : Gx} {μ : Gh} {S : Sto} {H : Hp} {σ : L2.St} {ρ : DEnv} (h : EnvOk g μ S H σ ρ) : ∀ vs : List Nat, EnvOk g μ S H (L2.wipe σ vs) (wipeD ρ vs)
  | [] => h
  | v :: vs => (EnvOk.wipe h vs).unset v
/-- nothing is raised -/
def M.nx {α : Type} (m : M α) : M α := fun S => match m S with
  | .ok a S' => .ok a S'
  | _ => .bad
theorem M.nx_ok {α : Type} {m : M α} {S S' : Sto} {a : α} (h : M.nx m S = .ok a S') : m S = .ok a S' := by
  unfold M.nx at h
  split at h
  · cases h; assumption
  · cases h
theorem Wp.nx {α : Type} {g : Gx} {E : XK} {m : M α} {μ : Gh} {S : Sto} {H : Hp} {Q : α → Gh → Sto → Hp → Prop} (h : Wp g E (M.nx m) μ S H Q) : ∃ a S', m S = .ok a S' ∧ ∀ μ' H', Step μ S H μ' S' H' → StoOk g μ' S' H' → Q a μ' S' H' := by
  rcases h.run with ⟨a, S', e, w⟩ | ⟨c, fs, S', e, w⟩
  · exact ⟨a, S', M.nx_ok e, w⟩
  · unfold M.nx at e
    split at e <;> cases e
noncomputable def dLcGo (o : Option (Nat × List D)) (tg : D → DEnv → M DEnv) (tt : DEnv → M Bool) (te : DEnv → M D) (ρ : DEnv) : List D → List D → M (List D)
  | [], acc => do chk o; pure acc
  | x :: xs, acc => do
    chk o
    let ρ1 ← tg x ρ
    let b ← tt ρ1
    if b then do
      let y ← te ρ1
      M.need (acc.length < sizeLine)
      dLcGo o tg tt te ρ xs (acc ++ [y])
    else dLcGo o tg tt te ρ xs acc
noncomputable def dLc (src : DEnv → M Src) (tg : D → DEnv → M DEnv) (tt : DEnv → M Bool) (te : DEnv → M D) (vs : List Nat) : DEnv → M D := fun ρ => do
  let s ← src ρ
  let ys ← M.nx (dLcGo s.2 tg tt te (wipeD ρ vs) s.1 [])
  pure (.lst ys)
/-- the new list may change -/
noncomputable def dLcC (src : DEnv → M Src) (tg : D → DEnv → M DEnv) (tt : DEnv → M Bool) (te : DEnv → M D) (vs : List Nat) : DEnv → M D := fun ρ => do
  let s ← src ρ
  let ys ← M.nx (dLcGo s.2 tg tt te (wipeD ρ vs) s.1 [])
  newCell ys
def tYesD : DEnv → M Bool := fun _ => pure true
abbrev WF : WX := fun _ _ _ _ => False
section
variable {g : Gx}
/-- a list that is being made may change: what does not hang on it stays -/
structure Making (g : Gx) (D0 : Addr) (μ : Gh) (S : Sto) (H : Hp) (ws : List V) : Prop where
  at_ : H D0 = some (.lst ws)
  ex : D0 ∈ μ.ex
  nl : ¬ Live μ S D0
mutual
theorem Rep.upd {μ : Gh} {S : Sto} {H : Hp} {p : Addr} {o : HO} (hx : p ∈ μ.ex) (hz : ∀ ob u, H p ≠ some (.frz ob u)) : ∀ {v : V} {d : D}, Rep g μ S H v d → Rep g μ S (upd H p o) v d
  | _, _, .non => .non
  | _, _, .bl b => .bl b
  | _, _, .int i => .int i
  | _, _, .str x => .str x
  | _, _, .tup h r => .tup (by
      rcases h with ⟨h, n⟩ | h
      · refine .inl ⟨?_, n⟩
        rcases h with h | ⟨o', h⟩
        · exact .inl (by rw [upd_ne fun z => n (.inr (by rw [z]; exact hx))]; exact h)
        · exact .inr ⟨o', by rw [upd_ne fun z => n (.inr (by rw [z]; exact hx))]; exact h⟩
      · exact .inr h) (RepAll.upd hx hz r)
  | _, _, .lst h r => .lst ⟨by rw [upd_ne fun z => h.2 (.inr (by rw [z]; exact hx))]; exact h.1, h.2⟩ (RepAll.upd hx hz r)
  | _, _, .rol h r => .rol (by
      rcases h with ⟨o', h⟩ | h
      · exact .inl ⟨o', by
          rw [upd_ne fun z => hz o' _ (by rw [← z]; exact h)]
          exact h⟩
      · exact .inr h) (RepAll.upd hx hz r)
  | _, _, .obj h n r => .obj (by rw [upd_ne fun z => n (.inr (by rw [z]; exact hx))]; exact h) n (RepF.upd hx hz r)
  | _, _, .cell e => .cell e
  | _, _, .ty n => .ty n
  | _, _, .cls c => .cls c
  | _, _, .exn0 h n => .exn0 (by rw [upd_ne fun z => n (.inr (by rw [z]; exact hx))]; exact h) n
  | _, _, .exn1 h n h2 n2 r => .exn1 (by rw [upd_ne fun z => n (.inr (by rw [z]; exact hx))]; exact h) n (by rw [upd_ne fun z => n2 (.inr (by rw [z]; exact hx))]; exact h2) n2 (RepF.upd hx hz r)
theorem RepAll.upd {μ : Gh} {S : Sto} {H : Hp} {p : Addr} {o : HO} (hx : p ∈ μ.ex) (hz : ∀ ob u, H p ≠ some (.frz ob u)) : ∀ {vs : List V} {ds : List D}, RepAll g μ S H vs ds → RepAll g μ S (upd H p o) vs ds
  | _, _, .nil => .nil
  | _, _, .cons r q => .cons (Rep.upd hx hz r) (RepAll.upd hx hz q)
theorem RepF.upd {μ : Gh} {S : Sto} {H : Hp} {p : Addr} {o : HO} (hx : p ∈ μ.ex) (hz : ∀ ob u, H p ≠ some (.frz ob u)) : ∀ {vs : List (Str × V)} {ds : List (Str × D)}, RepF g μ S H vs ds → RepF g μ S (upd H p o) vs ds
  | _, _, .nil => .nil
  | _, _, .cons r q => .cons (Rep.upd hx hz r) (RepF.upd hx hz q)
end
theorem RepK.upd {μ : Gh} {S : Sto} {H : Hp} {p : Addr} {o : HO} (hx : p ∈ μ.ex) (hz : ∀ ob u, H p ≠ some (.frz ob u)) {vs : List (Key × V)} {ds : List (Key × D)} (r : RepK g μ S H vs ds) : RepK g μ S (upd H p o) vs ds := by
  induction r with
  | nil => exact .nil
  | cons r _ ih => exact .cons (r.upd hx hz) ih
theorem StoOk.upd {μ : Gh} {S : Sto} {H : Hp} {p : Addr} {o : HO} (k : StoOk g μ S H) (hx : p ∈ μ.ex) (hz : ∀ ob u, H p ≠ some (.frz ob u)) : StoOk g μ S (upd H p o) := by
  refine ⟨k.len, k.nex, fun a ha => ?_, k.inj, fun n c e => ?_⟩
  · by_cases z : a = p
    · rw [z, upd_same]; exact fun z => nomatch z
    · rw [upd_ne z]; exact k.ext a ha
  · obtain ⟨a, e1, q⟩ := k.at_ n c e
    have ne : a ≠ p := fun z => k.nex a ⟨n, c, e, e1⟩ (by rw [z]; exact hx)
    refine ⟨a, e1, ?_⟩
    cases c with
    | lst ds =>
      obtain ⟨xs, q1, q2⟩ := q
      exact ⟨xs, by rw [upd_ne ne]; exact q1, q2.upd hx hz⟩
    | obj c fs =>
      obtain ⟨dx, vs, q1, q2⟩ := q
      exact ⟨dx, vs, by rw [upd_ne ne]; exact q1, q2.upd hx hz⟩
    | dct ds =>
      obtain ⟨vs, q1, q2⟩ := q
      exact ⟨vs, by rw [upd_ne ne]; exact q1, q2.upd hx hz⟩
end
end DD

/-! DD10: comprehensions are what dLc says -/
namespace DD
open PySem PySem.Spec PyProof.Rows L2

/-- the list is made -/
def dropG (μ : Gh) (p : Addr) : Gh := ⟨μ.m, μ.ex.filter fun a => decide (a ≠ p)⟩
section
variable {g : Gx} {μ μ1 : Gh} {S S1 : Sto} {H H1 : Hp} {p : Addr}
theorem dropG_ex {a : Addr} : a ∈ (dropG μ p).ex ↔ a ∈ μ.ex ∧ a ≠ p := by
  unfold dropG
  rw [List.mem_filter]
  simp
theorem live_drop {a : Addr} : Live (dropG μ p) S a ↔ Live μ S a := Iff.rfl
theorem drop_stepR : StepR μ S H (dropG μ p) S H := ⟨List.prefix_refl _, fun h => h, fun _ _ _ h => h, fun a _ l => l.elim (fun l => .inl l) fun l => .inr (dropG_ex.mp l).1⟩
theorem StoOk.dropG (k : StoOk g μ S H) : StoOk g (dropG μ p) S H :=
  ⟨k.len, fun a l h => k.nex a l (dropG_ex.mp h).1, fun a h => k.ext a (dropG_ex.mp h).1, k.inj, fun n c e => by
    obtain ⟨a, e1, q⟩ := k.at_ n c e
    refine ⟨a, e1, ?_⟩
    cases c with
    | lst ds => obtain ⟨xs, q1, q2⟩ := q; exact ⟨xs, q1, q2.stepR drop_stepR⟩
    | obj c fs => obtain ⟨dx, vs, q1, q2⟩ := q; exact ⟨dx, vs, q1, q2.stepR drop_stepR⟩
    | dct ds => obtain ⟨vs, q1, q2⟩ := q; exact ⟨vs, q1, q2.stepR drop_stepR⟩⟩
theorem Step.dropG (t : Step μ1 S1 H1 μ S H) (hp : p ∉ μ1.ex) : Step μ1 S1 H1 (dropG μ p) S H :=
  ⟨t.pre, fun a h => dropG_ex.mpr ⟨t.ex a h, fun z => hp (z ▸ h)⟩, t.frz, t.keep, t.live, fun a h => t.exh a (dropG_ex.mp h).1, t.there⟩
theorem drop_nheld (k : StoOk g μ S H) (h : p ∈ μ.ex) : ¬ Held (DD.dropG μ p) S p := fun l => l.elim (fun l => k.nex p l h) fun l => (dropG_ex.mp l).2 rfl
/-- the list that was made becomes a cell -/
def adoptG (μ : Gh) (p : Addr) : Gh := ⟨μ.m ++ [p], (dropG μ p).ex⟩
theorem adopt_live (k : StoOk g μ S H) {c : Cell} {a : Addr} : Live (adoptG μ p) (S ++ [some c]) a → Live μ S a ∨ a = p := by
  rintro ⟨n, d, e1, e2⟩
  have e2' : (μ.m ++ [p])[n]? = some a := e2
  by_cases z : n < S.length
  · rw [List.getElem?_append_left z] at e1
    rw [List.getElem?_append_left (by rw [k.len]; exact z)] at e2'
    exact .inl ⟨n, d, e1, e2'⟩
  · rw [List.getElem?_append_right (by rw [k.len]; omega)] at e2'
    have hn : n - μ.m.length = 0 := by
      have := (List.getElem?_eq_some_iff.mp e2').1
      simp at this
      omega
    rw [hn] at e2'
    simp at e2'
    exact .inr e2'.symm
theorem adopt_stepR (k : StoOk g μ S H) (hx : p ∈ μ.ex) {c : Cell} : StepR μ S H (adoptG μ p) (S ++ [some c]) H :=
  ⟨List.prefix_append _ _, fun h => h, fun _ _ _ h => h, fun a _ l => l.elim (fun l => (adopt_live k l).elim .inl fun z => .inr (by rw [z]; exact hx)) fun l => .inr (dropG_ex.mp l).1⟩
theorem sto_adopt {ws : List V} {ds : List D} (k : StoOk g μ S H) (hx : p ∈ μ.ex) (hp : H p = some (.lst ws)) (r : RepAll g μ S H ws ds) :
    StoOk g (adoptG μ p) (S ++ [some (.lst ds)]) H ∧ Rep g (adoptG μ p) (S ++ [some (.lst ds)]) H (.ref p) (.cell S.length) := by
  have tr := adopt_stepR k hx (c := .lst ds)
  have gp : (μ.m ++ [p])[S.length]? = some p := by
    rw [← k.len, List.getElem?_append_right (Nat.le_refl _)]
    simp
  have get : ∀ {n : Nat} {d : Cell}, (S ++ [some (Cell.lst ds)])[n]? = some (some d) → (n < S.length ∧ S[n]? = some (some d)) ∨ (n = S.length ∧ d = .lst ds) := fun {n d} h => by
    by_cases z : n < S.length
    · rw [List.getElem?_append_left z] at h; exact .inl ⟨z, h⟩
    · have hn : n = S.length := by
        have := (List.getElem?_eq_some_iff.mp h).1
        simp at this
        omega
      subst hn
      rw [List.getElem?_append_right (Nat.le_refl _)] at h
      simp at h
      exact .inr ⟨rfl, h.symm⟩
  have gm : ∀ {n : Nat} {a : Addr}, n < S.length → (adoptG μ p).m[n]? = some a → μ.m[n]? = some a := fun {n a} z h => by
    have h' : (μ.m ++ [p])[n]? = some a := h
    rw [List.getElem?_append_left (by rw [k.len]; exact z)] at h'
    exact h'
  refine ⟨⟨?_, fun a l h => ?_, fun a h => k.ext a (dropG_ex.mp h).1, fun n m c c' a h1 h2 h3 h4 => ?_, fun n c e => ?_⟩, .cell gp⟩
  · show (μ.m ++ [p]).length = _
    simp [k.len]
  · rcases adopt_live k l with z | z
    · exact k.nex a z (dropG_ex.mp h).1
    · exact (dropG_ex.mp h).2 z
  · rcases get h1 with ⟨z1, q1⟩ | ⟨z1, q1⟩
    · rcases get h2 with ⟨z2, q2⟩ | ⟨z2, q2⟩
      · exact k.inj n m c c' a q1 q2 (gm z1 h3) (gm z2 h4)
      · subst z2
        have e : p = a := Option.some.inj (gp.symm.trans h4)
        exact absurd hx (k.nex p ⟨n, c, q1, by rw [e]; exact gm z1 h3⟩)
    · subst z1
      have e : p = a := Option.some.inj (gp.symm.trans h3)
      rcases get h2 with ⟨z2, q2⟩ | ⟨z2, q2⟩
      · exact absurd hx (k.nex p ⟨m, c', q2, by rw [e]; exact gm z2 h4⟩)
      · exact z2.symm
  · rcases get e with ⟨z1, q1⟩ | ⟨z1, q1⟩
    · obtain ⟨a, e1, q⟩ := k.at_ n c q1
      refine ⟨a, prefix_get (List.prefix_append _ _) e1, ?_⟩
      cases c with
      | lst ds => obtain ⟨xs, q1, q2⟩ := q; exact ⟨xs, q1, q2.stepR tr⟩
      | obj c fs => obtain ⟨dx, vs, q1, q2⟩ := q; exact ⟨dx, vs, q1, q2.stepR tr⟩
      | dct ds => obtain ⟨vs, q1, q2⟩ := q; exact ⟨vs, q1, q2.stepR tr⟩
    · subst z1; subst q1
      exact ⟨p, gp, ws, hp, r.stepR tr⟩
theorem Step.adopt (t : Step μ1 S1 H1 μ S H) (k : StoOk g μ S H) (hp : H1 p = none) (h1 : p ∉ μ1.ex) {c : Cell} : Step μ1 S1 H1 (adoptG μ p) (S ++ [some c]) H :=
  ⟨t.pre.trans (List.prefix_append _ _), fun a h => dropG_ex.mpr ⟨t.ex a h, fun z => h1 (z ▸ h)⟩, t.frz, t.keep, fun a l => (adopt_live k l).elim (t.live a) fun z => .inr (by rw [z]; exact hp), fun a h => t.exh a (dropG_ex.mp h).1, t.there⟩
end

section
variable {X : Cx} {ca : Nat → Addr} {W : WX} {elt tg iter : Expr} {ifs : List Expr} {scope : Scope} {own : List (Str × Nat)} {pos : Pos} {src : DEnv → M Src} {is : List Nat} {k : D → DEnv → M DEnv} {tt : DEnv → M Bool} {te : DEnv → M D}
theorem lc_turns {o : Option (Nat × List D)} {xs ys : List D} {vs : List Nat} {σ : L2.St} {ρ : DEnv} {μ1 : Gh} {S1 S2 : Sto} {H1 : Hp} {J : It} {D0 : Addr} {Q : VK} {g : Gx} (his : ∀ i ∈ is, i ∈ vs) (env : EnvOk g μ1 S1 H1 σ ρ) (k1 : StoOk g μ1 S1 H1) (hJ : ItD g J xs o μ1 S1 H1) (hD : H1 D0 = none)
    (e : dLcGo o k tt te (wipeD ρ vs) xs [] S1 = .ok ys S2)
    (fin : ∀ (μ : Gh) (H : Hp) (ws : List V), Step μ1 S1 H1 μ S2 H → StoOk g μ S2 H → D0 ∈ μ.ex → H D0 = some (.lst ws) → RepAll g μ S2 H ws ys → Q (.ref D0) H) :
    ∃ W : Nat → Nat → Hp → Prop, (∃ m, W 0 m (upd H1 D0 (.lst []))) ∧ ∀ i m H, W i m H →
      (J.stop i H ∧ Q (.ref D0) H) ∨ (J.go i H ∧ ∃ Nx : Hp → Prop, (∀ H', Nx H' → ∃ m', m' < m ∧ W (i + 1) m' H') ∧ ∀ x H', J.yld i H x H' → tG g is k x (wipe σ vs) H' fun σ2 H2 => wipe σ2 vs = wipe σ vs ∧ tDT g WF tt σ2 H2 fun b H3 =>
        if b = true then tD g WF te σ2 H3 fun y H4 => ∃ acc, H4 D0 = some (.lst acc) ∧ acc.length < sizeLine ∧ Nx (upd H4 D0 (.lst (acc ++ [y]))) else Nx H3) := by
  have hD1 : D0 ∉ μ1.ex := fun h => k1.ext D0 h hD
  refine ⟨fun i m H => ∃ μ S acc ws, Step μ1 S1 H1 μ S H ∧ StoOk g μ S H ∧ D0 ∈ μ.ex ∧ H D0 = some (.lst ws) ∧ RepAll g μ S H ws acc ∧ i + m = xs.length ∧ dLcGo o k tt te (wipeD ρ vs) (xs.drop i) acc S = .ok ys S2, ⟨xs.length, ⟨μ1.m, D0 :: μ1.ex⟩, S1, [], [], ?_, ?_, List.mem_cons_self, upd_same, .nil, Nat.zero_add _, by rw [List.drop_zero]; exact e⟩, ?_⟩
  · have t0 : Step μ1 S1 H1 μ1 S1 (upd H1 D0 (.lst [])) := Step.alloc hD
    exact ⟨List.prefix_refl _, fun a h => List.mem_cons_of_mem _ h, t0.frz, t0.keep, t0.live, fun a h => (List.mem_cons.mp h).elim (fun z => .inr (by rw [z]; exact hD)) .inl, t0.there⟩
  · have k0 := k1.alloc hD (o := .lst [])
    refine ⟨k0.len, fun a l h => ?_, fun a h => ?_, k0.inj, fun n c e => ?_⟩
    · rcases List.mem_cons.mp h with z | z
      · rw [z] at l
        exact k1.newL hD l
      · exact k1.nex a l z
    · rcases List.mem_cons.mp h with z | z
      · rw [z, upd_same]; exact fun z => nomatch z
      · exact k0.ext a z
    · obtain ⟨a, e1, q⟩ := k1.at_ n c e
      have na : a ≠ D0 := fun z => k1.newL hD (by rw [← z]; exact ⟨n, c, e, e1⟩)
      have tr : StepR μ1 S1 H1 ⟨μ1.m, D0 :: μ1.ex⟩ S1 (upd H1 D0 (.lst [])) := ⟨List.prefix_refl _, (Step.alloc (μ := μ1) (S := S1) hD).frz, fun b u _ h => by rw [upd_ne (ne_of_none h hD)]; exact h, fun b h l => l.elim .inl fun l => (List.mem_cons.mp l).elim (fun z => absurd (by rw [z]; exact hD) h) .inr⟩
      refine ⟨a, e1, ?_⟩
      cases c with
      | lst ds => obtain ⟨ws, q1, q2⟩ := q; exact ⟨ws, by rw [upd_ne na]; exact q1, q2.stepR tr⟩
      | obj c fs => obtain ⟨dx, ws, q1, q2⟩ := q; exact ⟨dx, ws, by rw [upd_ne na]; exact q1, q2.stepR tr⟩
      | dct ds => obtain ⟨ws, q1, q2⟩ := q; exact ⟨ws, by rw [upd_ne na]; exact q1, q2.stepR tr⟩
  · rintro i m H ⟨μ, S, acc, ws, t, kk, hx, hH, ra, em, e2⟩
    by_cases hi : i < xs.length
    · rw [drop_cons hi] at e2
      have e3 : (do
        chk o
        let ρ1 ← k xs[i] (wipeD ρ vs)
        let b ← tt ρ1
        if b then do
          let y ← te ρ1
          M.need (acc.length < sizeLine)
          dLcGo o k tt te (wipeD ρ vs) (xs.drop (i + 1)) (acc ++ [y])
        else dLcGo o k tt te (wipeD ρ vs) (xs.drop (i + 1)) acc : M (List D)) S = .ok ys S2 := e2
      obtain ⟨u, S3, c1, e4⟩ := M.bind_ok e3
      obtain ⟨gr, rfl⟩ := chk_ok c1
      obtain ⟨ρ1, Sa, c2, e5⟩ := M.bind_ok e4
      obtain ⟨b, Sb, c3, e6⟩ := M.bind_ok e5
      have ex : xs[i]? = some xs[i] := List.getElem?_eq_getElem hi
      refine .inr ⟨hJ.go i _ μ S3 H ex t kk gr, fun H' => ∃ μ S acc ws, Step μ1 S1 H1 μ S H' ∧ StoOk g μ S H' ∧ D0 ∈ μ.ex ∧ H' D0 = some (.lst ws) ∧ RepAll g μ S H' ws acc ∧ (i + 1) + (m - 1) = xs.length ∧ dLcGo o k tt te (wipeD ρ vs) (xs.drop (i + 1)) acc S = .ok ys S2, fun H' q => ⟨m - 1, by omega, q⟩, fun v H' hy => ?_⟩
      obtain ⟨t2, k2, r2⟩ := hJ.yld i _ μ S3 H v H' ex t kk gr hy
      have keepD : ∀ {μ' : Gh} {S' : Sto} {H2 : Hp}, Step μ S3 H μ' S' H2 → StoOk g μ' S' H2 → H2 D0 = some (.lst ws) := fun t' _ => t'.keep _ _ (fun l => kk.nex D0 l hx) hH
      refine ⟨xs[i], wipeD ρ vs, μ, S3, r2, ((env.step (t.trans t2)).wipe vs), k2, Wp.of_ok c2 fun μ3 H3 t3 k3 σ3 env3 we => ⟨we vs his |>.trans ?_, ρ1, μ3, Sa, env3, k3, Wp.of_ok c3 fun μ4 H4 t4 k4 => ?_⟩⟩
      · -- wiped twice
        refine List.ext_getElem? fun j => ?_
        by_cases hj : j ∈ vs
        · have z : ∀ τ : L2.St, τ.length = σ.length → (wipe τ vs)[j]? = if j < σ.length then some none else none := fun τ hτ => by
            by_cases hl : j < σ.length
            · rw [if_pos hl]
              have hl2 : j < (wipe τ vs).length := by rw [wipe_length, hτ]; exact hl
              rw [List.getElem?_eq_getElem hl2]
              cases ez : (wipe τ vs)[j] with
              | none => rfl
              | some v' => exact absurd hj (wipe_some (show (wipe τ vs)[j]? = some (some v') by rw [List.getElem?_eq_getElem hl2, ez])).2
            · rw [if_neg hl]
              exact List.getElem?_eq_none (by rw [wipe_length, hτ]; omega)
          rw [z _ (wipe_length _ _), z _ rfl]
        · rw [wipe_out hj]
      · cases b with
        | false =>
          simp only [Bool.false_eq_true, if_false] at e6 ⊢
          have tt4 := t2.trans (t3.trans t4)
          exact ⟨μ4, Sb, acc, ws, t.trans tt4, k4, tt4.ex _ hx, keepD tt4 k4, ra.step tt4, by omega, e6⟩
        | true =>
          simp only [if_true] at e6 ⊢
          obtain ⟨y, Sc, c4, e7⟩ := M.bind_ok e6
          obtain ⟨_, Sd, c5, e8⟩ := M.bind_ok e7
          obtain ⟨hl, rfl⟩ := M.need_ok c5
          refine ⟨ρ1, μ4, Sb, env3.step t4, k4, Wp.of_ok c4 fun μ5 H5 t5 k5 w rw_ => ?_⟩
          have tt5 := t2.trans (t3.trans (t4.trans t5))
          have hD5 := keepD tt5 k5
          have hx5 := tt5.ex _ hx
          have nz : ∀ ob u, H5 D0 ≠ some (.frz ob u) := fun ob u z => by rw [hD5] at z; cases z
          have ra5 := ra.step tt5
          refine ⟨ws, hD5, by rw [ra.length]; exact hl, μ5, Sd, acc ++ [y], ws ++ [w], ?_, k5.upd hx5 nz, hx5, upd_same, (ra5.append (.cons rw_ .nil)).upd hx5 nz, by omega, e8⟩
          have t15 := t.trans tt5
          refine ⟨t15.pre, t15.ex, fun {a ob u} h => ?_, fun a ob nl h => ?_, t15.live, t15.exh, fun a h => ?_⟩
          · rw [upd_ne (ne_of_none h hD)]; exact t15.frz h
          · rw [upd_ne (ne_of_none h hD)]; exact t15.keep a ob nl h
          · by_cases z : a = D0
            · rw [z, upd_same] at h; cases h
            · rw [upd_ne z] at h; exact t15.there a h
    · have ed : xs.drop i = [] := List.drop_eq_nil_of_le (by omega)
      rw [ed] at e2
      have e3 : (do chk o; pure acc : M (List D)) S = .ok ys S2 := e2
      obtain ⟨u, S3, c1, e4⟩ := M.bind_ok e3
      obtain ⟨gr, rfl⟩ := chk_ok c1
      cases e4
      have el : i = xs.length := by omega
      subst el
      exact .inl ⟨hJ.stop μ S2 H t kk gr, fin μ H ws t kk hx hH ra⟩
theorem pd_lc (hc : X.calm = true) (hN : X.N.Nodup) (hi : PI X tg iter (tI (gx X ca) W src)) (ok : BlkOk X.N X.env.scope scope own)
    (hg : ∀ (s : Shared) (H : Hp) (C : Addr) (cl : List (Str × Addr)) (fp : List Addr), PG (X.blk s H scope (compEnvC scope cl C X.env) fp) tg (tG (gx X ca) is k)) (his : ∀ i ∈ is, i ∈ own.map (·.2))
    (ht : ∀ (s : Shared) (H : Hp) (C : Addr) (cl : List (Str × Addr)) (fp : List Addr), PTs (X.blk s H scope (compEnvC scope cl C X.env) fp) ifs (tDT (gx X ca) WF tt))
    (he : ∀ (s : Shared) (H : Hp) (C : Addr) (cl : List (Str × Addr)) (fp : List Addr), PE (X.blk s H scope (compEnvC scope cl C X.env) fp) elt (tD (gx X ca) WF te)) (hs : ∀ x, foldedSetIterable iter X.env x = pure x := by intro _; rfl) :
    PE X (.ListComp elt [⟨tg, iter, ifs, 0⟩] scope pos) (tD (gx X ca) W (dLc src k tt te (own.map (·.2)))) :=
  peOf (pe_lc hc hN hi ok hg ht he hs) fun σ H Q ⟨ρ, μ, S, env, sto, h⟩ => ⟨ρ, μ, S, env, sto, (Wp.bind h).mono fun s μ1 S1 H1 t1 k1 w J hJ D0 hD => by
    obtain ⟨ys, S2, e, w2⟩ := Wp.nx (Wp.bind w)
    refine lc_turns his (env.step t1) k1 hJ hD e fun μ2 H2 ws t2 k2 hx hD2 ra => ?_
    have t3 := t2.dropG (p := D0) fun h => k1.ext D0 h hD
    have k3 := k2.dropG (p := D0)
    exact Wp.pure (w2 _ _ t3 k3) k3 t3 (t1.trans t3) _ (.lst ⟨hD2, drop_nheld k2 hx⟩ (ra.stepR drop_stepR))⟩
theorem pd_lcC (hc : X.calm = true) (hN : X.N.Nodup) (hi : PI X tg iter (tI (gx X ca) W src)) (ok : BlkOk X.N X.env.scope scope own)
    (hg : ∀ (s : Shared) (H : Hp) (C : Addr) (cl : List (Str × Addr)) (fp : List Addr), PG (X.blk s H scope (compEnvC scope cl C X.env) fp) tg (tG (gx X ca) is k)) (his : ∀ i ∈ is, i ∈ own.map (·.2))
    (ht : ∀ (s : Shared) (H : Hp) (C : Addr) (cl : List (Str × Addr)) (fp : List Addr), PTs (X.blk s H scope (compEnvC scope cl C X.env) fp) ifs (tDT (gx X ca) WF tt))
    (he : ∀ (s : Shared) (H : Hp) (C : Addr) (cl : List (Str × Addr)) (fp : List Addr), PE (X.blk s H scope (compEnvC scope cl C X.env) fp) elt (tD (gx X ca) WF te)) (hs : ∀ x, foldedSetIterable iter X.env x = pure x := by intro _; rfl) :
    PE X (.ListComp elt [⟨tg, iter, ifs, 0⟩] scope pos) (tD (gx X ca) W (dLcC src k tt te (own.map (·.2)))) :=
  peOf (pe_lc hc hN hi ok hg ht he hs) fun σ H Q ⟨ρ, μ, S, env, sto, h⟩ => ⟨ρ, μ, S, env, sto, (Wp.bind h).mono fun s μ1 S1 H1 t1 k1 w J hJ D0 hD => by
    obtain ⟨ys, S2, e, w2⟩ := Wp.nx (Wp.bind w)
    refine lc_turns his (env.step t1) k1 hJ hD e fun μ2 H2 ws t2 k2 hx hD2 ra => ?_
    have hn : D0 ∉ μ1.ex := fun h => k1.ext D0 h hD
    obtain ⟨k4, r4⟩ := sto_adopt k2 hx hD2 ra
    have t4 : Step μ1 S1 H1 (adoptG μ2 D0) (S2 ++ [some (.lst ys)]) H2 := t2.adopt k2 hD hn
    have en : (do let ys ← M.nx (dLcGo s.2 k tt te (wipeD ρ (own.map (·.2))) s.1 []); newCell ys : M D) S1 = .ok (.cell S2.length) (S2 ++ [some (.lst ys)]) := by
      rw [M.bind_run]
      have z : M.nx (dLcGo s.2 k tt te (wipeD ρ (own.map (·.2))) s.1 []) S1 = .ok ys S2 := by
        unfold M.nx
        rw [e]
      rw [z]
      rfl
    rcases w.run with ⟨d, S', e', w'⟩ | ⟨_, _, _, e', _⟩
    · rw [en] at e'
      cases e'
      exact w' _ _ t4 k4 (t1.trans t4) _ r4
    · rw [en] at e'
      cases e'⟩
end
end DD

/-! DD11: what is walked (range, enumerate, zip), while, defs, classes -/
namespace DD
open PySem PySem.Spec PyProof.Rows L2

/-! ### walks -/
def intsD (lo : Int) (n : Nat) : List D := (List.range n).map fun i : Nat => .int (lo + i)
def enumD : Nat → List D → List D
  | _, [] => []
  | n, x :: xs => .tup [.int n, x] :: enumD (n + 1) xs
def zipD : List D → List D → List D
  | x :: xs, y :: ys => .tup [x, y] :: zipD xs ys
  | _, _ => []
theorem intsD_len (lo : Int) (n : Nat) : (intsD lo n).length = n := by simp [intsD]
theorem intsD_get {lo : Int} {n i : Nat} {x : D} (h : (intsD lo n)[i]? = some x) : i < n ∧ x = .int (lo + i) := by
  unfold intsD at h
  rw [List.getElem?_map] at h
  cases e : (List.range n)[i]? with
  | none => rw [e] at h; cases h
  | some j =>
    rw [e] at h
    obtain ⟨h1, h2⟩ := List.getElem?_eq_some_iff.mp e
    simp at h1 h2
    subst h2
    exact ⟨h1, (Option.some.inj h).symm⟩
theorem enumD_len : ∀ (n : Nat) (xs : List D), (enumD n xs).length = xs.length
  | _, [] => rfl
  | n, x :: xs => congrArg Nat.succ (enumD_len (n + 1) xs)
theorem enumD_get : ∀ {n i : Nat} {xs : List D} {z : D}, (enumD n xs)[i]? = some z → ∃ x, xs[i]? = some x ∧ z = .tup [.int ((n + i : Nat) : Int), x]
  | _, _, [], _, h => by simp [enumD] at h
  | n, 0, x :: xs, z, h => by
    simp [enumD] at h
    exact ⟨x, rfl, h.symm⟩
  | n, i + 1, x :: xs, z, h => by
    obtain ⟨y, h1, h2⟩ := enumD_get (n := n + 1) (i := i) (xs := xs) (by simpa [enumD] using h)
    exact ⟨y, by simpa using h1, by rw [h2, show n + 1 + i = n + (i + 1) by omega]⟩
theorem zipD_len : ∀ (xs ys : List D), (zipD xs ys).length = min xs.length ys.length
  | [], ys => by simp [zipD]
  | x :: xs, [] => by simp [zipD]
  | x :: xs, y :: ys => by
    show (zipD xs ys).length + 1 = _
    rw [zipD_len xs ys, List.length_cons, List.length_cons]
    omega
theorem zipD_get : ∀ {i : Nat} {xs ys : List D} {z : D}, (zipD xs ys)[i]? = some z → ∃ x y, xs[i]? = some x ∧ ys[i]? = some y ∧ z = .tup [x, y]
  | _, [], _, _, h => by simp [zipD] at h
  | _, _ :: _, [], _, h => by simp [zipD] at h
  | 0, x :: xs, y :: ys, z, h => by
    simp [zipD] at h
    exact ⟨x, y, rfl, rfl, h.symm⟩
  | i + 1, x :: xs, y :: ys, z, h => by
    obtain ⟨u, v, h1, h2, h3⟩ := zipD_get (i := i) (xs := xs) (ys := ys) (by simpa [zipD] using h)
    exact ⟨u, v, by simpa using h1, by simpa using h2, h3⟩
section
variable {g : Gx} {μ : Gh} {S : Sto} {H : Hp}
theorem itd_range (lo : Int) (n : Nat) : ItD g (Itr lo n) (intsD lo n) none μ S H where
  go := fun i x _ _ _ e _ _ _ => (intsD_get e).1
  stop := fun _ _ _ _ _ _ => by rw [intsD_len]; exact Nat.le_refl _
  yld := fun i x μ' S' H' v H2 e t k _ y => by
    obtain ⟨rfl, rfl⟩ := y
    rw [(intsD_get e).2]
    exact ⟨Step.refl _ _ _, k, .int _⟩
/-- the data xs stand there as long as the cell does -/
def Pers (g : Gx) (xs : List D) (o : Option (Nat × List D)) (μ0 : Gh) (S0 : Sto) (H0 : Hp) (R : Hp → List V → Prop) : Prop :=
  ∀ μ S H, Step μ0 S0 H0 μ S H → StoOk g μ S H → Grd o S → ∃ ws, R H ws ∧ RepAll g μ S H ws xs
theorem pers_list {a : Addr} {vs : List V} {xs : List D} (f : FzL μ S H a vs) (q : RepAll g μ S H vs xs) : Pers g xs none μ S H fun H ws => SqL g.K H a ws :=
  fun _ _ _ t _ _ => ⟨vs, .inl (t.rd (.inl f.1) f.2).1, q.step t⟩
theorem pers_rol {a : Addr} {vs : List V} {xs : List D} (f : RoL g H a vs) (q : RepAll g μ S H vs xs) : Pers g xs none μ S H fun H ws => SqL g.K H a ws :=
  fun _ _ _ t _ _ => ⟨vs, by
    rcases f with ⟨o, f⟩ | f
    · exact .inl (.inr ⟨o, t.frz f⟩)
    · exact .inr f, q.step t⟩
theorem pers_tup {a : Addr} {vs : List V} {xs : List D} (f : FzT g μ S H a vs) (q : RepAll g μ S H vs xs) : Pers g xs none μ S H fun H ws => SqT g.K H a ws :=
  fun _ _ _ t _ _ => ⟨vs, by
    rcases f with ⟨f, n⟩ | f
    · exact .inl (t.rd f n).1
    · exact .inr f, q.step t⟩
theorem pers_cell {a : Addr} {n : Nat} {xs : List D} (e0 : μ.m[n]? = some a) : Pers g xs (some (n, xs)) μ S H fun H ws => SqL g.K H a ws := fun _ _ _ t k gr => by
  obtain ⟨ws, h1, h2⟩ := cell_rep k gr (prefix_get t.pre e0)
  exact ⟨ws, .of h1, h2⟩
theorem enum_yld {μ' : Gh} {S' : Sto} {H' : Hp} {ws : List V} {xs : List D} {i : Nat} {z : D} {T : Addr} {x : V} (k : StoOk g μ' S' H') (r : RepAll g μ' S' H' ws xs) (e : (enumD 0 xs)[i]? = some z) (hx : ws[i]? = some x) (hT : H' T = none) :
    Step μ' S' H' μ' S' (upd H' T (.tup [.int (i : Nat), x])) ∧ StoOk g μ' S' (upd H' T (.tup [.int (i : Nat), x])) ∧ Rep g μ' S' (upd H' T (.tup [.int (i : Nat), x])) (.ref T) z := by
  obtain ⟨d, e1, rfl⟩ := enumD_get e
  obtain ⟨v, e2, rv⟩ := r.get e1
  rw [hx] at e2
  cases e2
  rw [Nat.zero_add]
  exact new_tup k hT (.cons (.int _) (.cons rv .nil))
theorem itd_enumL {a : Addr} {xs : List D} {o : Option (Nat × List D)} (p : Pers g xs o μ S H fun H ws => SqL g.K H a ws) : ItD g (Ite g.K a) (enumD 0 xs) o μ S H where
  go := fun i x μ' S' H' e t k gr => by
    obtain ⟨ws, h1, h2⟩ := p μ' S' H' t k gr
    obtain ⟨d, e1, _⟩ := enumD_get e
    obtain ⟨v, e2, _⟩ := h2.get e1
    exact ⟨ws, v, h1, e2⟩
  stop := fun μ' S' H' t k gr => by
    obtain ⟨ws, h1, h2⟩ := p μ' S' H' t k gr
    exact ⟨ws, h1, by rw [h2.length, enumD_len]; exact Nat.le_refl _⟩
  yld := fun i x μ' S' H' v H2 e t k gr y => by
    obtain ⟨T, u, rfl, hT, rfl, hu⟩ := y
    obtain ⟨ws, h1, h2⟩ := p μ' S' H' t k gr
    exact enum_yld k h2 e (hu ws h1) hT
theorem itd_enumT {a : Addr} {xs : List D} {o : Option (Nat × List D)} (p : Pers g xs o μ S H fun H ws => SqT g.K H a ws) : ItD g (IteT g.K a) (enumD 0 xs) o μ S H where
  go := fun i x μ' S' H' e t k gr => by
    obtain ⟨ws, h1, h2⟩ := p μ' S' H' t k gr
    obtain ⟨d, e1, _⟩ := enumD_get e
    obtain ⟨v, e2, _⟩ := h2.get e1
    exact ⟨ws, v, h1, e2⟩
  stop := fun μ' S' H' t k gr => by
    obtain ⟨ws, h1, h2⟩ := p μ' S' H' t k gr
    exact ⟨ws, h1, by rw [h2.length, enumD_len]⟩
  yld := fun i x μ' S' H' v H2 e t k gr y => by
    obtain ⟨T, u, rfl, hT, rfl, hu⟩ := y
    obtain ⟨ws, h1, h2⟩ := p μ' S' H' t k gr
    exact enum_yld k h2 e (hu ws h1) hT
theorem zip_yld {μ' : Gh} {S' : Sto} {H' : Hp} {ws us : List V} {xs ys : List D} {i : Nat} {z : D} {T : Addr} {x y : V} (k : StoOk g μ' S' H') (r : RepAll g μ' S' H' ws xs) (r' : RepAll g μ' S' H' us ys) (e : (zipD xs ys)[i]? = some z) (hx : ws[i]? = some x) (hy : us[i]? = some y) (hT : H' T = none) :
    Step μ' S' H' μ' S' (upd H' T (.tup [x, y])) ∧ StoOk g μ' S' (upd H' T (.tup [x, y])) ∧ Rep g μ' S' (upd H' T (.tup [x, y])) (.ref T) z := by
  obtain ⟨d, d', e1, e1', rfl⟩ := zipD_get e
  obtain ⟨v, e2, rv⟩ := r.get e1
  obtain ⟨v', e2', rv'⟩ := r'.get e1'
  rw [hx] at e2
  rw [hy] at e2'
  cases e2
  cases e2'
  exact new_tup k hT (.cons rv (.cons rv' .nil))
theorem itd_zipL {a b : Addr} {xs ys : List D} (p : Pers g xs none μ S H fun H ws => SqL g.K H a ws) (q : Pers g ys none μ S H fun H ws => SqL g.K H b ws) : ItD g (Itz g.K a b) (zipD xs ys) none μ S H where
  go := fun i x μ' S' H' e t k gr => by
    obtain ⟨ws, h1, h2⟩ := p μ' S' H' t k gr
    obtain ⟨us, h3, h4⟩ := q μ' S' H' t k gr
    obtain ⟨d, d', e1, e1', _⟩ := zipD_get e
    obtain ⟨v, e2, _⟩ := h2.get e1
    obtain ⟨v', e2', _⟩ := h4.get e1'
    exact ⟨ws, us, v, v', h1, h3, e2, e2'⟩
  stop := fun μ' S' H' t k gr => by
    obtain ⟨ws, h1, h2⟩ := p μ' S' H' t k gr
    obtain ⟨us, h3, h4⟩ := q μ' S' H' t k gr
    refine ⟨ws, us, h1, h3, ?_⟩
    rw [h2.length, h4.length, zipD_len]
    omega
  yld := fun i x μ' S' H' v H2 e t k gr y => by
    obtain ⟨T, u, u', rfl, hT, rfl, hu, hu'⟩ := y
    obtain ⟨ws, h1, h2⟩ := p μ' S' H' t k gr
    obtain ⟨us, h3, h4⟩ := q μ' S' H' t k gr
    exact zip_yld k h2 h4 e (hu ws h1) (hu' us h3) hT
theorem itd_zipT {a b : Addr} {xs ys : List D} (p : Pers g xs none μ S H fun H ws => SqT g.K H a ws) (q : Pers g ys none μ S H fun H ws => SqT g.K H b ws) : ItD g (RZ.ItzT g.K a b) (zipD xs ys) none μ S H where
  go := fun i x μ' S' H' e t k gr => by
    obtain ⟨ws, h1, h2⟩ := p μ' S' H' t k gr
    obtain ⟨us, h3, h4⟩ := q μ' S' H' t k gr
    obtain ⟨d, d', e1, e1', _⟩ := zipD_get e
    obtain ⟨v, e2, _⟩ := h2.get e1
    obtain ⟨v', e2', _⟩ := h4.get e1'
    exact ⟨ws, us, v, v', h1, h3, e2, e2'⟩
  stop := fun μ' S' H' t k gr => by
    obtain ⟨ws, h1, h2⟩ := p μ' S' H' t k gr
    obtain ⟨us, h3, h4⟩ := q μ' S' H' t k gr
    refine ⟨ws, us, h1, h3, ?_⟩
    rw [h2.length, h4.length, zipD_len]
    omega
  yld := fun i x μ' S' H' v H2 e t k gr y => by
    obtain ⟨T, u, u', rfl, hT, rfl, hu, hu'⟩ := y
    obtain ⟨ws, h1, h2⟩ := p μ' S' H' t k gr
    obtain ⟨us, h3, h4⟩ := q μ' S' H' t k gr
    exact zip_yld k h2 h4 e (hu ws h1) (hu' us h3) hT
end
noncomputable def rng1 : List D → M Src
  | [.int j] => do M.want (-4611686018427387904 ≤ j ∧ j < 4611686018427387904); pure (intsD 0 j.toNat, none)
  | _ => M.bad
noncomputable def rng2 : List D → M Src
  | [.int i, .int j] => do M.want (-4611686018427387904 ≤ i ∧ i < 4611686018427387904 ∧ -4611686018427387904 ≤ j ∧ j < 4611686018427387904); pure (intsD i (j - i).toNat, none)
  | _ => M.bad
def enm1 : List D → M Src
  | [x] => do let s ← srcOf x; pure (enumD 0 s.1, s.2)
  | _ => M.bad
def zip2 : List D → M Src
  | [.lst xs, .lst ys] => pure (zipD xs ys, none)
  | [.tup xs, .tup ys] => pure (zipD xs ys, none)
  | _ => M.bad
def srcA (F : List D → M Src) (fs : DEnv → M (List D)) : DEnv → M Src := fun ρ => do let ds ← fs ρ; F ds
section
variable {X : Cx} {ca : Nat → Addr} {W : WX} {e e2 tg : Expr} {fs : DEnv → M (List D)} {pos p tpos : Pos} {elts : List Expr} {kk : Nat}
theorem id_range1 (hm : X.mg "range" = none) (ha : PA X [e] (tDA (gx X ca) W fs)) (hg : Gl X "range" := by rfl) (hs : starEach [e] X.env = [(false, eval e X.env)] := by rfl) : PI X tg (.Call (.Name "range" p) [e] [] pos) (tI (gx X ca) W (srcA rng1 fs)) :=
  piOf (pi_range1 hg hm ha hs) fun σ H R ⟨ρ, μ, S, env, sto, h⟩ => tDA_then env sto h fun ds μ1 S1 H1 vs t1 k1 env1 r1 h1 => by
    unfold rng1 at h1
    split at h1
    · obtain ⟨v, rfl, r⟩ := rep1 r1
      cases r
      obtain ⟨h2, h3⟩ := Wp.want (Wp.bind h1) k1
      exact ⟨_, rfl, h2.1, h2.2, Wp.pure h3 k1 (Step.refl _ _ _) _ (itd_range 0 _)⟩
    · exact (show False from h1).elim
theorem id_range2 (hm : X.mg "range" = none) (ha : PA X [e, e2] (tDA (gx X ca) W fs)) (hg : Gl X "range" := by rfl) (hs : starEach [e, e2] X.env = [(false, eval e X.env), (false, eval e2 X.env)] := by rfl) (hs2 : starEach [e2] X.env = [(false, eval e2 X.env)] := by rfl) :
    PI X tg (.Call (.Name "range" p) [e, e2] [] pos) (tI (gx X ca) W (srcA rng2 fs)) :=
  piOf (pi_range2 hg hm ha hs hs2) fun σ H R ⟨ρ, μ, S, env, sto, h⟩ => tDA_then env sto h fun ds μ1 S1 H1 vs t1 k1 env1 r1 h1 => by
    unfold rng2 at h1
    split at h1
    · obtain ⟨v, u, rfl, r, r'⟩ := rep2 r1
      cases r
      cases r'
      obtain ⟨h2, h3⟩ := Wp.want (Wp.bind h1) k1
      exact ⟨_, _, rfl, h2, Wp.pure h3 k1 (Step.refl _ _ _) _ (itd_range _ _)⟩
    · exact (show False from h1).elim
theorem id_enum (hm : X.mg "enumerate" = none) (ha : PA X [e] (tDA (gx X ca) W fs)) (hg : Gl X "enumerate" := by rfl) (hs : starEach [e] X.env = [(false, eval e X.env)] := by rfl) : PI X (.Tuple elts kk tpos) (.Call (.Name "enumerate" p) [e] [] pos) (tI (gx X ca) W (srcA enm1 fs)) :=
  piOf (pi_enumA hg hm ha hs) fun σ H R ⟨ρ, μ, S, env, sto, h⟩ => tDA_then env sto h fun ds μ1 S1 H1 vs t1 k1 env1 r1 h1 => by
    unfold enm1 at h1
    split at h1
    · obtain ⟨v, rfl, r⟩ := rep1 r1
      have h2 := Wp.bind h1
      cases r with
      | tup fz q => exact ⟨_, _, rfl, .inr ⟨fz.sq, Wp.pure (Wp.pure h2 k1) k1 (Step.refl _ _ _) _ (itd_enumT (pers_tup fz q))⟩⟩
      | lst fz q => exact ⟨_, _, rfl, .inl ⟨fz.sq, Wp.pure (Wp.pure h2 k1) k1 (Step.refl _ _ _) _ (itd_enumL (pers_list fz q))⟩⟩
      | rol fz q => exact ⟨_, _, rfl, .inl ⟨fz.sq, Wp.pure (Wp.pure h2 k1) k1 (Step.refl _ _ _) _ (itd_enumL (pers_rol fz q))⟩⟩
      | cell em =>
        obtain ⟨xs, e1, h3⟩ := Wp.get (Wp.bind h2) k1
        obtain ⟨ws, h4, h5⟩ := cell_rep k1 e1 em
        exact ⟨_, _, rfl, .inl ⟨.of h4, Wp.pure (Wp.pure h3 k1 (Step.refl _ _ _)) k1 (Step.refl _ _ _) _ (itd_enumL (pers_cell em))⟩⟩
      | _ => exact (show False from h2).elim
    · exact (show False from h1).elim
theorem id_zip (hm : X.mg "zip" = none) (ha : PA X [e, e2] (tDA (gx X ca) W fs)) (hg : Gl X "zip" := by rfl) (hs : starEach [e, e2] X.env = (false, eval e X.env) :: starEach [e2] X.env := by rfl) (hpl : (backTo pos (starEach [e2] X.env)).any (·.1) = false := by rfl) :
    PI X (.Tuple elts kk tpos) (.Call (.Name "zip" p) [e, e2] [] pos) (tI (gx X ca) W (srcA zip2 fs)) :=
  piOf (RZ.pi_zipA hg hm ha hs hpl) fun σ H R ⟨ρ, μ, S, env, sto, h⟩ => tDA_then env sto h fun ds μ1 S1 H1 vs t1 k1 env1 r1 h1 => by
    unfold zip2 at h1
    split at h1
    · obtain ⟨v, u, rfl, r, r'⟩ := rep2 r1
      cases r with
      | lst f q =>
        cases r' with
        | lst f' q' => exact ⟨_, _, _, _, rfl, .inl ⟨f.sq, f'.sq, Wp.pure h1 k1 _ (itd_zipL (pers_list f q) (pers_list f' q'))⟩⟩
    · obtain ⟨v, u, rfl, r, r'⟩ := rep2 r1
      cases r with
      | tup f q =>
        cases r' with
        | tup f' q' => exact ⟨_, _, _, _, rfl, .inr ⟨f.sq, f'.sq, Wp.pure h1 k1 _ (itd_zipT (pers_tup f q) (pers_tup f' q'))⟩⟩
    · exact (show False from h1).elim
theorem ptsOf {ifs : List Expr} {t t' : TT} (h : PTs X ifs t) (k : ∀ σ H Q, t' σ H Q → t σ H Q) : PTs X ifs t' := ⟨fun pins s σ H Q I hq => h.run pins s σ H Q I (k σ H Q hq)⟩
theorem tsd_nil : PTs X [] (tDT (gx X ca) W tYesD) := ptsOf pts_nil fun σ H Q ⟨ρ, μ, S, env, sto, h⟩ => Wp.pure h sto
theorem tsd_one {c : Expr} {t : DEnv → M Bool} (h : PT X c (tDT (gx X ca) W t)) : PTs X [c] (tDT (gx X ca) W t) := pts_one h
end

/-! ### while -/
def dWhile (t : DEnv → M Bool) (body : DEnv → M Fl) : Nat → DEnv → M Fl
  | 0, _ => M.bad
  | n + 1, ρ => M.cat (t ρ) ρ fun b => if b then do let fl ← body ρ; loopS fl (dWhile t body n) else pure (.nx ρ)
def sWhile (fuel : DEnv → Nat) (t : DEnv → M Bool) (body : DEnv → M Fl) : DEnv → M Fl := fun ρ => dWhile t body (fuel ρ) ρ
section
variable {X : Cx} {ca : Nat → Addr} {W : WX} {c : Expr} {bd : List Stmt} {t : DEnv → M Bool} {fb : DEnv → M Fl} {pos : Pos}
theorem sd_while (fuel : DEnv → Nat) (hp : PassesOwn (model X.prog X.w) X.A X.env X.xe) (hc : PT X c (tDT (gx X ca) W t)) (hb : PSs X bd (tS (gx X ca) W fb)) : PS X (.While c bd [] pos) (tS (gx X ca) W (sWhile fuel t fb)) :=
  psOf (ps_while hp hc hb) fun E σ H ⟨ρ, μ, S, env, sto, h⟩ => by
    refine ⟨fun m σ' H' => ∃ ρ' μ' S', EnvOk (gx X ca) μ' S' H' σ' ρ' ∧ StoOk (gx X ca) μ' S' H' ∧ Wp (gx X ca) EF (dWhile t fb m ρ') μ' S' H' (FlP (gx X ca) W E), ⟨fuel ρ, ρ, μ, S, env, sto, h⟩, ?_⟩
    rintro m σ' H' ⟨ρ', μ', S', env', k', w⟩
    cases m with
    | zero => exact (show False from w).elim
    | succ m =>
      refine sDT_then env' k' (show Wp (gx X ca) EF (M.cat (t ρ') ρ' fun b => if b then do let fl ← fb ρ'; loopS fl (dWhile t fb m) else pure (.nx ρ')) μ' S' H' (FlP (gx X ca) W E) from w) fun q μ1 S1 H1 t1 k1 env1 h1 => ?_
      cases q with
      | false =>
        simp only [Bool.false_eq_true, if_false] at h1 ⊢
        exact Wp.pure h1 k1 σ' env1
      | true =>
        simp only [if_true] at h1 ⊢
        refine ⟨fun σ2 H2 => ∃ ρ2 μ2 S2, EnvOk (gx X ca) μ2 S2 H2 σ2 ρ2 ∧ StoOk (gx X ca) μ2 S2 H2 ∧ Wp (gx X ca) EF (dWhile t fb m ρ2) μ2 S2 H2 (FlP (gx X ca) W E), fun σ2 H2 q => ⟨m, Nat.lt_succ_self _, q⟩,
          ρ', μ1, S1, env1, k1, (Wp.bind h1).mono fun fl μ4 S4 H4 t4 k4 w5 => ?_⟩
        have w6 := w5.mono fun _ _ _ _ t5 _ z => z (t4.trans t5)
        cases fl with
        | nx ρ4 => exact fun σ4 env4 => ⟨ρ4, μ4, S4, env4, k4, w6⟩
        | ct ρ4 => exact fun σ4 env4 => ⟨ρ4, μ4, S4, env4, k4, w6⟩
        | bk ρ4 => exact fun σ4 env4 => Wp.pure w6 k4 σ4 env4
        | rt d => exact (show FlP (gx X ca) W E (.rt d) μ4 S4 H4 from Wp.pure (E := EF) w6 k4)
        | xc c fs ρ4 => exact (show FlP (gx X ca) W E (.xc c fs ρ4) μ4 S4 H4 from Wp.pure (E := EF) w6 k4)
end

/-! ### defs -/
@[simp] def startD (n : Nat) (ds : List D) : DEnv := ds.map some ++ List.replicate (n - ds.length) none
def finD : Fl → M D
  | .nx _ => pure .non
  | .rt d => pure d
  | .xc c fs _ => M.exc c fs
  | _ => M.bad
/-- a def's function: its body from the parameters' values, n names in all -/
def runF (n : Nat) (fb : DEnv → M Fl) : List D → M D := fun ds => do let fl ← M.nx (fb (startD n ds)); finD fl
theorem startD_ok {g : Gx} {μ : Gh} {S : Sto} {H : Hp} {N : List Str} {vs : List V} {ds : List D} (r : RepAll g μ S H vs ds) : EnvOk g μ S H (L2.start N vs) (startD N.length ds) := by
  have hl := r.length
  refine ⟨by simp [L2.start, startD, hl], fun i d e => ?_⟩
  unfold startD at e
  by_cases hi : i < ds.length
  · rw [List.getElem?_append_left (by simpa using hi), List.getElem?_map] at e
    cases e1 : ds[i]? with
    | none => rw [e1] at e; cases e
    | some x =>
      rw [e1] at e
      cases e
      obtain ⟨v, e2, rv⟩ := r.get e1
      refine ⟨v, ?_, rv⟩
      unfold L2.start
      rw [List.getElem?_append_left (by rw [List.length_map, hl]; exact hi), List.getElem?_map, e2]
      rfl
  · rw [List.getElem?_append_right (by simpa using hi), List.getElem?_replicate] at e
    split at e <;> cases e
section
variable {P : Program} {w : World} {K : PySem.W.Frag} {mg : Str → Option Value} {base : Heap} {ca : Nat → Addr}
abbrev cxD (P : Program) (w : World) (K : PySem.W.Frag) (mg : Str → Option Value) (base : Heap) (N : List Str) (qual : Str) (sc : Scope) (f : Addr) (cdv : Value) (A : Around) (outer : List Env) (s : Shared) (H : Hp) (E : XK) : Cx :=
  cxOf (L2.CX P w) P w K mg base N qual sc f cdv A outer s H E
abbrev wD (E : XK) : WX := fun c d _ H => E c d H
theorem sp_body {g : Gx} {n : Nat} {N : List Str} {fb : DEnv → M Fl} {vs : List V} {H : Hp} {Q : VK} {E : XK} (h : spD g n (runF N.length fb) vs H Q E) : tS g (wD E) fb { nx := fun _ H' => Q .non H', rt := Q } (L2.start N vs) H := by
  obtain ⟨ds, μ, S, hl, ra, sto, w⟩ := h
  refine ⟨startD N.length ds, μ, S, startD_ok ra, sto, ?_⟩
  obtain ⟨fl, S', e, w'⟩ := Wp.nx (Wp.bind w)
  refine Wp.of_ok e fun μ' H' t k => ?_
  have w2 := w' μ' H' t k
  cases fl with
  | nx ρ => exact fun σ _ => Wp.pure w2 k t _ .non
  | rt d => exact fun v r => Wp.pure w2 k t v r
  | bk ρ => exact (show False from w2).elim
  | ct ρ => exact (show False from w2).elim
  | xc c fs ρ => exact fun σ d _ q => w2 μ' H' d (Step.refl _ _ _) k q
theorem fn_D {x qual : Str} {st : Stmt} {f : Addr} {fd : FuncData} {N ps : List Str} {k n : Nat} {fb : DEnv → M Fl} (Fn : Fun K x qual st f fd) (sc : FnScope N ps (defScope st)) (hn : ps.length = n)
    (body : ∀ (cdv : Value) (A : Around) (outer : List Env) (s : Shared) (H : Hp) (E : XK), Room k (cxD P w K mg base N qual (defScope st) f cdv A outer s H E).A → Takes (cxD P w K mg base N qual (defScope st) f cdv A outer s H E) (wD E) →
      PassesOwn (model P w) (cxD P w K mg base N qual (defScope st) f cdv A outer s H E).A (cxD P w K mg base N qual (defScope st) f cdv A outer s H E).env (cxD P w K mg base N qual (defScope st) f cdv A outer s H E).xe →
      PSs (cxD P w K mg base N qual (defScope st) f cdv A outer s H E) (defBody st) (tS ⟨K, ca⟩ (wD E) fb)) : FnOk P w K mg base (L2.CX P w) (k + 1) f fd ps (spD ⟨K, ca⟩ n (runF N.length fb)) := by
  refine Fn.okX sc (fun vs H Q E h => ?_) (fun cdv A outer s H vs Q E hr h => ⟨_, body cdv A outer s H E hr (takes_of rfl rfl rfl rfl) (passes_of rfl), sp_body h⟩)
  obtain ⟨_, _, _, hl, _⟩ := h
  rw [hl, hn]
/-- a def that can be called by its name -/
structure Has (P : Program) (w : World) (K : PySem.W.Frag) (mg : Str → Option Value) (base : Heap) (ca : Nat → Addr) (k : Nat) (x : Str) (n : Nat) (F : List D → M D) : Prop where
  ex : ∃ (f : Addr) (fd : FuncData) (ps : List Str), FnOk P w K mg base (L2.CX P w) k f fd ps (spD ⟨K, ca⟩ n F) ∧ mg x = some (.ref f) ∧ PySem.W.keepIn K (.ref f) = true ∧ Binds K fd ps []
theorem Has.mono {j k n : Nat} {x : Str} {F : List D → M D} (h : Has P w K mg base ca j x n F) (l : j ≤ k) : Has P w K mg base ca k x n F := by
  obtain ⟨f, fd, ps, h1, h2⟩ := h.ex
  exact ⟨f, fd, ps, h1.mono l, h2⟩
end
section
variable {X : Cx} {ca : Nat → Addr} {W : WX} {e : Expr} {pos p : Pos} {es : List Expr} {fs : DEnv → M (List D)} {x : Str}
theorem pd_fn {k n : Nat} {F : List D → M D} (h : Has X.prog X.w X.K X.mg X.base ca k x n F) (hr : Room k X.A) (tk : Takes X W) (ha : PA X (e :: es) (tDA (gx X ca) W fs)) (hg : Gl X x := by rfl) (hdb : (x == ("__debug__" : Str)) = false := by decide)
    (he : starEach (e :: es) X.env = (false, eval e X.env) :: starEach es X.env := by rfl) (hpl : (backTo pos (starEach es X.env)).any (·.1) = false := by rfl) : PE X (.Call (.Name x p) (e :: es) [] pos) (tD (gx X ca) W (dCall n F fs)) := by
  obtain ⟨f, fd, ps, h1, h2, h3, h4⟩ := h.ex
  exact pd_call h1 hr tk h2 h3 h4 ha hg hdb he hpl
/-- a constant of the module -/
def Cst (mg : Str → Option Value) (x : Str) (v : V) : Prop := ∃ u, mg x = some u ∧ RelV v u
theorem pd_cst {v : V} {d : D} (h : Cst X.mg x v) (r : ∀ μ S H, Rep (gx X ca) μ S H v d) (hg : Gl X x := by rfl) (hdb : (x == ("__debug__" : Str)) = false := by decide) : PE X (.Name x p) (tD (gx X ca) W (dC d)) := by
  obtain ⟨u, h1, h2⟩ := h
  exact pd_c (pe_glob hg h1 h2 hdb) r
end
end DD

/-! DD12: own classes: attributes, methods, instances made -/
namespace DD
open PySem PySem.Spec PyProof.Rows L2

/-! ### a def that is called by its address -/
structure Cal (P : Program) (w : World) (K : PySem.W.Frag) (mg : Str → Option Value) (base : Heap) (ca : Nat → Addr) (k : Nat) (f : Addr) (n : Nat) (F : List D → M D) : Prop where
  ex : ∃ (fd : FuncData) (ps : List Str) (us : List Value) (ws : List V) (dd : List D) (m : Nat) (F0 : List D → M D),
    FnOk P w K mg base (L2.CX P w) k f fd ps (spD ⟨K, ca⟩ m F0) ∧ Binds K fd ps us ∧ Vals ws us ∧ (∀ μ S H, RepAll ⟨K, ca⟩ μ S H ws dd) ∧ n + dd.length = m ∧ F = fun as => F0 (as ++ dd)
section
variable {P : Program} {w : World} {K : PySem.W.Frag} {mg : Str → Option Value} {base : Heap} {ca : Nat → Addr} {k n : Nat} {f : Addr} {F : List D → M D}
theorem Cal.mono {j : Nat} (h : Cal P w K mg base ca j f n F) (l : j ≤ k) : Cal P w K mg base ca k f n F := by
  obtain ⟨fd, ps, us, ws, dd, m, F0, h1, h2⟩ := h.ex
  exact ⟨fd, ps, us, ws, dd, m, F0, h1.mono l, h2⟩
theorem Cal.of {fd : FuncData} {ps : List Str} (h : FnOk P w K mg base (L2.CX P w) k f fd ps (spD ⟨K, ca⟩ n F)) (b : Binds K fd ps []) : Cal P w K mg base ca k f n F :=
  ⟨fd, ps, [], [], [], n, F, h, b, .nil, fun _ _ _ => .nil, rfl, by funext as; rw [List.append_nil]⟩
end
section
variable {X : Cx} {ca : Nat → Addr} {W : WX} {k n : Nat} {f : Addr} {F : List D → M D}
abbrev CalX (X : Cx) (ca : Nat → Addr) (k : Nat) (f : Addr) (n : Nat) (F : List D → M D) : Prop := Cal X.prog X.w X.K X.mg X.base ca k f n F
/-- the same exceptions are let out -/
theorem takes_at (tk : Takes X W) (σ : L2.St) {pins : List (Addr × Obj)} {H : Hp} {s s' : Shared} {e : Value} (I : Inv X pins σ H s) (c : L2.CX X.prog X.w X.stack H s (fun cls d H' => W cls d σ H') e s') : X.xe e s' := passAt tk σ pins H s e s' I c
theorem run_cal {B : Around} (G : CalX X ca k f n F) (hr : Room k B) {pins : List (Addr × Obj)} {σ : L2.St} {H : Hp} {s : Shared} {us : List Value} {vs : List V} {ds : List D} {μ : Gh} {S : Sto} {Q : VK} {EE : Value → Shared → Prop} {E0 : XK}
    (e0 : Env0 X.prog X.w X.K X.mg X.base B X.stack s H) (tk : ∀ e s', L2.CX X.prog X.w X.stack H s E0 e s' → EE e s')
    (I : Inv X pins σ H s) (r : Vals vs us) (rd : RepAll (gx X ca) μ S H vs ds) (hl : ds.length = n) (sto : StoOk (gx X ca) μ S H)
    (h : Wp (gx X ca) E0 (F ds) μ S H fun d μ' S' H' => ∀ v, Rep (gx X ca) μ' S' H' v d → Q v H') : wpAny (model X.prog X.w) B (call (.ref f) us) (EP X pins σ Q) EE s := by
  obtain ⟨fd, ps, us', ws, dd, m, F0, G1, hb, hv, hdd, hm, rfl⟩ := G.ex
  have hsp : spD ⟨X.K, ca⟩ m F0 (vs ++ ws) H Q E0 := by
    have ra := rd.append (hdd μ S H)
    exact ⟨ds ++ dd, μ, S, by rw [ra.length, List.length_append, hl, hm], ra, sto, h⟩
  have hn : (us ++ us').length = ps.length := (r.append hv).length.symm.trans (G1.len _ _ _ _ hsp)
  have go := G1.run B X.stack s H ⟨us, []⟩ (us ++ us') (vs ++ ws) Q E0 hr e0 (hb s us I.kIn hn) (r.append hv) hsp
  refine wpAny_call (codeAny_mono go fun res s' hq => ?_)
  match res, hq with
  | .error e, hq => exact tk e s' hq
  | .ok (.ret u), hq => exact I.after hq
  | .ok .next, hq => exact hq.elim
  | .ok .brk, hq => exact hq.elim
  | .ok .cont, hq => exact hq.elim
end

/-! ### an instance's class and attributes -/
def insS (n : Nat) (S : Sto) : Option (Nat × List (Str × D)) := match S[n]? with
  | some (some (.obj c fs)) => some (c, fs)
  | _ => none
def insD : D → M (Nat × List (Str × D))
  | .obj c fs => pure (c, fs)
  | .cell n => M.get (insS n)
  | _ => M.bad
theorem insS_some {n : Nat} {S : Sto} {p : Nat × List (Str × D)} (h : insS n S = some p) : S[n]? = some (some (.obj p.1 p.2)) := by
  unfold insS at h
  split at h
  · cases h; assumption
  · cases h
theorem Wp.insD {g : Gx} {E : XK} {μ : Gh} {S : Sto} {H : Hp} {x : D} {v : V} {Q : Nat × List (Str × D) → Gh → Sto → Hp → Prop} (h : Wp g E (insD x) μ S H Q) (k : StoOk g μ S H) (r : Rep g μ S H v x) :
    ∃ c fs a dx vs, v = .ref a ∧ H a = some (.ins (g.ca c) dx vs) ∧ RepF g μ S H vs fs ∧ Q (c, fs) μ S H := by
  cases r with
  | obj e n rf => exact ⟨_, _, _, _, _, rfl, e, rf, Wp.pure h k⟩
  | cell e =>
    obtain ⟨p, h1, h2⟩ := Wp.get h k
    obtain ⟨a, e1, dx, vs, h3, h4⟩ := k.at_ _ _ (insS_some h1)
    rw [e] at e1
    cases e1
    exact ⟨p.1, p.2, _, dx, vs, rfl, h3, h4, h2⟩
  | _ => exact (show False from h).elim
structure FldOf (K : PySem.W.Frag) (ca : Nat → Addr) (cs : List Nat) (f : Str) : Prop where
  at_ : ∀ c ∈ cs, Cls K (ca c) ∧ NoAttr K (ca c) f
def dFld (cs : List Nat) (f : Str) (x : D) : M D := do
  let p ← insD x
  M.need (p.1 ∈ cs)
  M.get fun _ => p.2.lookup f
theorem RepF.none {g : Gx} {μ : Gh} {S : Sto} {H : Hp} {f : Str} : ∀ {vs : List (Str × V)} {fs : List (Str × D)}, RepF g μ S H vs fs → fs.lookup f = none → vs.lookup f = none
  | _, _, .nil, _ => rfl
  | _, _, .cons (f := h) r q, e => by
    by_cases z : f = h
    · subst z
      rw [List.lookup_cons_self] at e
      cases e
    · have z' : (f == h) = false := beq_eq_false_iff_ne.mpr z
      rw [List.lookup_cons, z'] at e
      rw [List.lookup_cons, z']
      exact RepF.none q e
def setFld (cs : List Nat) (f : Str) (o v : D) : M Unit := match o with
  | .cell n => do
    let p ← M.get (insS n)
    M.need (p.1 ∈ cs ∧ p.2.length < 1000)
    M.put fun S => S.set n (some (.obj p.1 (putD f v p.2)))
  | _ => M.bad
def sFldS (cs : List Nat) (f : Str) (fo fv : DEnv → M D) : DEnv → M Fl := fun ρ => M.cat (do let v ← fv ρ; let o ← fo ρ; setFld cs f o v) ρ fun _ => pure (.nx ρ)
section
variable {X : Cx} {ca : Nat → Addr} {W : WX} {e o value : Expr} {fa fv fo : DEnv → M D} {f : Str} {pos pos' : Pos} {cs : List Nat}
theorem pd_fld (hf : FldOf X.K ca cs f) (ha : PE X e (tD (gx X ca) W fa)) (hb : attributeBase e f X.env (eval e X.env) = eval e X.env := by rfl) : PE X (.Attribute e f pos) (tD (gx X ca) W (dUn (dFld cs f) fa)) :=
  peOf (pe_fld ha hb) fun σ H Q ⟨ρ, μ, S, env, sto, h⟩ => tD_then env sto h fun d μ1 S1 H1 v t1 k1 env1 r1 h1 => by
    obtain ⟨c, fs, a, dx, vs, rfl, e1, rf, h2⟩ := Wp.insD (Wp.bind h1) k1 r1
    obtain ⟨hc, h3⟩ := Wp.need (Wp.bind h2) k1
    obtain ⟨y, e2, h4⟩ := Wp.get h3 k1
    obtain ⟨u, e3, ru⟩ := rf.lookup e2
    exact ⟨a, _, dx, vs, u, rfl, e1, (hf.at_ c hc).1, (hf.at_ c hc).2, e3, h4 (Step.refl _ _ _) (Step.refl _ _ _) _ ru⟩
theorem sd_fld (hf : FldOf X.K ca cs f) (ha : PE X o (tD (gx X ca) W fo)) (hv : PE X value (tD (gx X ca) W fv)) (hs : swapsWith value (some (.Attribute o f pos')) pos.line X.env = pure false := by rfl) : PS X (.Assign [.Attribute o f pos'] value pos) (tS (gx X ca) W (sFldS cs f fo fv)) :=
  psOf (ps_fld ha hv hs) fun E σ H ⟨ρ, μ, S, env, sto, h⟩ => by
    have h0 := Wp.cat env (show Wp (gx X ca) EF (M.cat (do let v ← fv ρ; let o ← fo ρ; setFld cs f o v) ρ fun _ => pure (.nx ρ)) μ S H (FlP (gx X ca) W E) from h)
    refine tD_then env sto h0 fun d μ1 S1 H1 v t1 k1 env1 r1 h1 => tD_then env1 k1 h1 fun d2 μ2 S2 H2 v2 t2 k2 env2 r2 h2 => ?_
    cases r2 with
    | @cell a n em =>
      obtain ⟨p, e1, h3⟩ := Wp.get (Wp.bind h2) k2
      obtain ⟨hc, h4⟩ := Wp.need (Wp.bind h3) k2
      have e2 := insS_some e1
      obtain ⟨b, e3, dx, vs, e4, rf⟩ := k2.at_ _ _ e2
      rw [em] at e3
      cases e3
      obtain ⟨t3, k3⟩ := sto_write (o' := .ins (ca p.1) dx (putF f v vs)) k2 e2 em (.obj (RepF.put (r1.step t2) rf))
      refine ⟨a, _, dx, vs, rfl, e4, (hf.at_ _ hc.1).1, (hf.at_ _ hc.1).2, by rw [rf.length]; exact hc.2, ?_⟩
      have h5 := h4 μ2 _ t3 k3 t3 t3
      exact Wp.pure h5 k3 (t1.trans (t2.trans t3)) σ (env2.step t3)
    | _ => exact (show False from h2).elim
end

/-! ### methods -/
/-- what is to be run of a method, by the class -/
structure MetAt (P : Program) (w : World) (K : PySem.W.Frag) (mg : Str → Option Value) (base : Heap) (ca : Nat → Addr) (k : Nat) (c : Nat) (m : Str) (n : Nat) (F : List D → M D) : Prop where
  ex : ∃ f, Cls K (ca c) ∧ Meth K (ca c) m f ∧ Cal P w K mg base ca k f (n + 1) F
theorem MetAt.mono {P : Program} {w : World} {K : PySem.W.Frag} {mg : Str → Option Value} {base : Heap} {ca : Nat → Addr} {j k c n : Nat} {m : Str} {F : List D → M D} (h : MetAt P w K mg base ca j c m n F) (l : j ≤ k) : MetAt P w K mg base ca k c m n F := by
  obtain ⟨f, h1, h2, h3⟩ := h.ex
  exact ⟨f, h1, h2, h3.mono l⟩
abbrev MTab := List (Nat × (List D → M D))
def mtGet (T : MTab) (c : Nat) : Option (List D → M D) := T.lookup c
theorem mtGet_mem {T : MTab} {c : Nat} {F : List D → M D} (h : mtGet T c = some F) : (c, F) ∈ T := by
  unfold mtGet at h
  induction T with
  | nil => cases h
  | cons p T ih =>
    obtain ⟨c', F'⟩ := p
    rw [List.lookup_cons] at h
    by_cases z : c = c'
    · subst z
      rw [beq_self_eq_true] at h
      cases h
      exact List.mem_cons_self
    · rw [beq_eq_false_iff_ne.mpr z] at h
      exact List.mem_cons_of_mem _ (ih h)
/-- the receiver's method -/
def pickM (T : MTab) (m : Str) (x : D) : M (List D → M D) := do
  let p ← insD x
  M.need (p.2.lookup m = none)
  M.get fun _ => mtGet T p.1
def dMeth (T : MTab) (m : Str) (n : Nat) (fo : DEnv → M D) (fs : DEnv → M (List D)) : DEnv → M D := fun ρ => do
  let x ← fo ρ
  let F ← pickM T m x
  let as ← fs ρ
  M.need (as.length = n)
  F (x :: as)
theorem Wp.pick {g : Gx} {E : XK} {μ : Gh} {S : Sto} {H : Hp} {x : D} {v : V} {T : MTab} {m : Str} {Q : (List D → M D) → Gh → Sto → Hp → Prop} (h : Wp g E (pickM T m x) μ S H Q) (k : StoOk g μ S H) (r : Rep g μ S H v x) :
    ∃ c a dx vs F, v = .ref a ∧ H a = some (.ins (g.ca c) dx vs) ∧ vs.lookup m = none ∧ (c, F) ∈ T ∧ Q F μ S H := by
  obtain ⟨c, fs, a, dx, vs, ev, ea, rf, h2⟩ := Wp.insD (Wp.bind h) k r
  obtain ⟨hn, h3⟩ := Wp.need (Wp.bind h2) k
  obtain ⟨F, e1, h4⟩ := Wp.get h3 k
  exact ⟨c, a, dx, vs, F, ev, ea, rf.none hn, mtGet_mem e1, h4 (Step.refl _ _ _) (Step.refl _ _ _)⟩
section
variable {X : Cx} {ca : Nat → Addr} {W : WX} {e o : Expr} {fo : DEnv → M D} {m : Str} {pos apos p : Pos} {es : List Expr} {fs : DEnv → M (List D)} {T : MTab} {k n : Nat}
abbrev MetX (X : Cx) (ca : Nat → Addr) (k : Nat) (T : MTab) (m : Str) (n : Nat) : Prop := ∀ q ∈ T, MetAt X.prog X.w X.K X.mg X.base ca k q.1 m n q.2
theorem pd_meth {pl : Sem Bool} (hT : MetX X ca k T m n) (hr : Room k X.A) (tk : Takes X W) (ho : PE X o (tD (gx X ca) W fo)) (ha : PA X (e :: es) (tDA (gx X ca) W fs))
    (hst : starEach (e :: es) X.env = (false, eval e X.env) :: starEach es X.env := by rfl) (hpl : (backTo pos (starEach es X.env)).any (·.1) = false := by rfl)
    (ht : eval (.Call (.Attribute o m apos) (e :: es) [] pos) X.env = (do
      let ov ← eval o X.env
      standAt apos.atName
      let (f, first) ← holding [ov] (getMethod ov m pl)
      callWith pos f first (backTo pos (starEach (e :: es) X.env)) (backToKw pos (keywordEach [] X.env))) := by rfl) :
    PE X (.Call (.Attribute o m apos) (e :: es) [] pos) (tD (gx X ca) W (dMeth T m n fo fs)) := by
  refine ⟨fun pins s σ H Q I ⟨ρ, μ, S, env, sto, h⟩ => PySem.W.methodCall_KW (pl := pl) ?_ ht⟩
  have first : tD (gx X ca) W fo σ H fun v H1 => ∃ ρ μ1 S1 d, EnvOk (gx X ca) μ1 S1 H1 σ ρ ∧ StoOk (gx X ca) μ1 S1 H1 ∧ Rep (gx X ca) μ1 S1 H1 v d ∧
      Wp (gx X ca) (fun c d H' => W c d σ H') (do let F ← pickM T m d; let as ← fs ρ; M.need (as.length = n); F (d :: as)) μ1 S1 H1 fun d μ' S' H' => ∀ v, Rep (gx X ca) μ' S' H' v d → Q v H' :=
    tD_then env sto h fun d μ1 S1 H1 v t1 k1 env1 r1 h1 => ⟨ρ, μ1, S1, d, env1, k1, r1, h1⟩
  refine thn (ho.run pins s σ H _ I first) fun u s1 ⟨x, H1, I1, rx, ρ, μ1, S1, d, env1, k1, r1, h1⟩ => ?_
  obtain ⟨c, a, dx, vs, F, rfl, ea, hn, hF, h2⟩ := Wp.pick (Wp.bind h1) k1 r1
  obtain rfl : u = Value.ref a := rx
  obtain ⟨f, cl, mt, G⟩ := (hT _ hF).ex
  refine getmeth_ok I1 ea cl mt hn ?_
  have args : tDA (gx X ca) W fs σ H1 fun vs H2 => ∃ μ2 S2 as, RepAll (gx X ca) μ2 S2 H2 (V.ref a :: vs) (d :: as) ∧ as.length = n ∧ StoOk (gx X ca) μ2 S2 H2 ∧
      Wp (gx X ca) (fun c d H' => W c d σ H') (F (d :: as)) μ2 S2 H2 fun d μ' S' H' => ∀ v, Rep (gx X ca) μ' S' H' v d → Q v H' :=
    tDA_then env1 k1 (h2.mono fun _ _ _ _ t _ z => z t) fun as μ2 S2 H2 vs t2 k2 env2 r2 h3 => by
      obtain ⟨hl, h4⟩ := Wp.need (Wp.bind h3) k2
      exact ⟨μ2, S2, as, .cons (r1.step t2) r2, hl, k2, h4.mono fun _ _ _ _ t _ z => z t⟩
  refine PySem.W.callWith_K (first := [.ref a]) (h₀ := X.base) I.ok.mod.kin mt.kp (thn (ha.run pos pins s1 σ H1 _ I1 args) fun us s2 ⟨vs2, H2, I2, r, μ2, S2, as, ra, hl, k2, h4⟩ => ⟨I2.kIn, ?_⟩) hst hpl
  exact run_cal G hr I2.env0 (fun e s' c => takes_at tk σ I2 c) I2 (us := .ref a :: us) (vs := .ref a :: vs2) (.cons rfl r) ra (congrArg Nat.succ hl) k2 h4
theorem pd_meth0 {pl : Sem Bool} (hT : MetX X ca k T m 0) (hr : Room k X.A) (tk : Takes X W) (ho : PE X o (tD (gx X ca) W fo))
    (ht : eval (.Call (.Attribute o m apos) [] [] pos) X.env = (do
      let ov ← eval o X.env
      standAt apos.atName
      let (f, first) ← holding [ov] (getMethod ov m pl)
      callWith pos f first (backTo pos (starEach [] X.env)) (backToKw pos (keywordEach [] X.env))) := by rfl) :
    PE X (.Call (.Attribute o m apos) [] [] pos) (tD (gx X ca) W (dMeth T m 0 fo aNil)) := by
  refine ⟨fun pins s σ H Q I ⟨ρ, μ, S, env, sto, h⟩ => PySem.W.methodCall_KW (pl := pl) ?_ ht⟩
  have first : tD (gx X ca) W fo σ H fun v H1 => ∃ ρ μ1 S1 d, EnvOk (gx X ca) μ1 S1 H1 σ ρ ∧ StoOk (gx X ca) μ1 S1 H1 ∧ Rep (gx X ca) μ1 S1 H1 v d ∧
      Wp (gx X ca) (fun c d H' => W c d σ H') (do let F ← pickM T m d; let as ← aNil ρ; M.need (as.length = 0); F (d :: as)) μ1 S1 H1 fun d μ' S' H' => ∀ v, Rep (gx X ca) μ' S' H' v d → Q v H' :=
    tD_then env sto h fun d μ1 S1 H1 v t1 k1 env1 r1 h1 => ⟨ρ, μ1, S1, d, env1, k1, r1, h1⟩
  refine thn (ho.run pins s σ H _ I first) fun u s1 ⟨x, H1, I1, rx, ρ, μ1, S1, d, env1, k1, r1, h1⟩ => ?_
  obtain ⟨c, a, dx, vs, F, rfl, ea, hn, hF, h2⟩ := Wp.pick (Wp.bind h1) k1 r1
  obtain rfl : u = Value.ref a := rx
  obtain ⟨f, cl, mt, G⟩ := (hT _ hF).ex
  refine getmeth_ok I1 ea cl mt hn ?_
  have h3 : Wp (gx X ca) (fun c d H' => W c d σ H') (F [d]) μ1 S1 H1 fun d μ' S' H' => ∀ v, Rep (gx X ca) μ' S' H' v d → Q v H' := h2.mono fun _ _ _ _ t _ z => z t
  exact PySem.W.callWith_K0 (first := [.ref a]) I1.kIn mt.kp (run_cal G hr I1.env0 (fun e s' c => takes_at tk σ I1 c) I1 (us := [.ref a]) (vs := [.ref a]) (.cons rfl .nil) (.cons r1 .nil) rfl k1 h3)
/-- e.f, a property (its getter may not raise) -/
structure PropAt (P : Program) (w : World) (K : PySem.W.Frag) (mg : Str → Option Value) (base : Heap) (ca : Nat → Addr) (k : Nat) (c : Nat) (m : Str) (F : List D → M D) : Prop where
  ex : ∃ p f fd, Cls K (ca c) ∧ PropOf K (ca c) m p f ∧ FnOk P w K mg base (L2.CX P w) k f fd ["self"] (spD ⟨K, ca⟩ 1 F) ∧ Binds K fd ["self"] []
theorem PropAt.mono {P : Program} {w : World} {K : PySem.W.Frag} {mg : Str → Option Value} {base : Heap} {j c : Nat} {F : List D → M D} (h : PropAt P w K mg base ca j c m F) (l : j ≤ k) : PropAt P w K mg base ca k c m F := by
  obtain ⟨p, f, fd, h1, h2, h3, h4⟩ := h.ex
  exact ⟨p, f, fd, h1, h2, h3.mono l, h4⟩
def dProp (T : MTab) (fo : DEnv → M D) : DEnv → M D := fun ρ => do
  let x ← fo ρ
  let p ← insD x
  let F ← M.get fun _ => mtGet T p.1
  M.nx (F [x])
theorem pd_prop (hT : ∀ q ∈ T, PropAt X.prog X.w X.K X.mg X.base ca k q.1 m q.2) (hr : Room (k + 1) X.A) (ho : PE X o (tD (gx X ca) W fo)) (hab : attributeBase o m X.env (eval o X.env) = eval o X.env := by rfl) :
    PE X (.Attribute o m pos) (tD (gx X ca) W (dProp T fo)) := by
  refine ⟨fun pins s σ H Q I ⟨ρ, μ, S, env, sto, h⟩ => ?_⟩
  have first : tD (gx X ca) W fo σ H fun v H1 => ∃ μ1 S1 d, StoOk (gx X ca) μ1 S1 H1 ∧ Rep (gx X ca) μ1 S1 H1 v d ∧
      Wp (gx X ca) (fun c d H' => W c d σ H') (do let p ← insD d; let F ← M.get fun _ => mtGet T p.1; M.nx (F [d])) μ1 S1 H1 fun d μ' S' H' => ∀ v, Rep (gx X ca) μ' S' H' v d → Q v H' :=
    tD_then env sto h fun d μ1 S1 H1 v t1 k1 env1 r1 h1 => ⟨μ1, S1, d, k1, r1, h1⟩
  refine attr_of hab (thn (ho.run pins s σ H _ I first) fun u s1 ⟨x, H1, I1, rx, μ1, S1, d, k1, r1, h1⟩ => ?_)
  obtain ⟨c, fs, a, dx, vs, rfl, ea, rf, h2⟩ := Wp.insD (Wp.bind h1) k1 r1
  obtain rfl : u = Value.ref a := rx
  obtain ⟨F, e1, h3⟩ := Wp.get (Wp.bind h2) k1
  obtain ⟨p, f, fd, cl, pr, G, hb⟩ := (hT _ (mtGet_mem e1)).ex
  obtain ⟨dr, S2, er, hq⟩ := Wp.nx h3
  refine getprop_ok I1 ea cl pr G hr hb .nil passL ⟨[d], μ1, S1, rfl, .cons r1 .nil, k1, Wp.of_ok er fun μ2 H2 t2 k2 => ?_⟩
  exact hq μ2 H2 t2 k2 t2 t2
end
end DD

/-! DD13: t[::-1] of a tuple; instances made; own [], in, str; keywords of a method; texts put together -/
namespace DD
open PySem PySem.Spec PyProof.Rows L2

/-! ### t[::-1] -/
section
variable {prog : Program} {w : World} {A : Around} {E : Value → Shared → Prop} {s : Shared}
theorem places_rev (n : Nat) : Builtin.Slice.slicePlaces ((n : Int) - 1) (-1) (-1) = n := by
  unfold Builtin.Slice.slicePlaces
  rw [if_neg (by decide)]
  by_cases h : (n : Int) - 1 > -1
  · rw [if_pos h, show (-(-1) : Int) = 1 by decide, Int.ediv_one]
    omega
  · rw [if_neg h]
    omega
theorem applied_rev {sl : Addr} {vs : Value} {n : Nat} {Q : Int × Int × Nat → Shared → Prop} (hs : s.heap.IsSliceOf sl .none .none vs) (ps : IsPart vs (some (-1))) (h : Q ((n : Int) - 1, -1, n) s) :
    wpAny (model prog w) A (Builtin.Slice.sliceApplied (.ref sl) (pure (n : Int))) Q E s := by
  obtain ⟨os, e1, _, e2⟩ := id hs
  unfold Builtin.Slice.sliceApplied Builtin.Slice.sliceFields
  refine wpAny_bind (wpAny_bind (wpAny_field e1 e2 (x := .none) rfl (wpAny_bind (wpAny_field e1 e2 (x := .none) rfl (wpAny_bind (wpAny_field e1 e2 (x := vs) rfl (wpAny_pure ?_)))))))
  refine wpAny_bind (HT.slicePart_ ps ?_)
  show wpAny _ _ (if ((-1 : Int) == 0) = true then _ else _) _ _ s
  rw [if_neg (by decide)]
  refine wpAny_bind (slicePart_none (wpAny_bind (slicePart_none (wpAny_bind (wpAny_pure ?_)))))
  show wpAny _ _ (pure ((n : Int) - 1, (-1 : Int), Builtin.Slice.slicePlaces ((n : Int) - 1) (-1) (-1))) _ _ s
  rw [places_rev]
  exact wpAny_pure h
theorem fm_congr {α β : Type} {f g : α → Option β} : ∀ {l : List α}, (∀ x ∈ l, f x = g x) → l.filterMap f = l.filterMap g
  | [], _ => rfl
  | x :: l, h => by
    rw [List.filterMap_cons, List.filterMap_cons, h x List.mem_cons_self, fm_congr fun y hy => h y (List.mem_cons_of_mem _ hy)]
theorem pick_rev (xs : Array Value) : ((List.range xs.size).filterMap fun (k : Nat) => xs[(((xs.size : Int) - 1) + (k : Int) * (-1)).toNat]?).toArray = xs.toList.reverse.toArray := by
  congr 1
  have e : (List.range xs.size).filterMap (fun (k : Nat) => xs[(((xs.size : Int) - 1) + (k : Int) * (-1)).toNat]?) = (List.range xs.size).filterMap ((fun k => xs[k]?) ∘ fun k => xs.size - 1 - k) := by
    refine fm_congr fun k hk => ?_
    have := List.mem_range.mp hk
    show _ = xs[xs.size - 1 - k]?
    congr 1
    omega
  rw [e, ← List.filterMap_map, PySem.W.krv_range, List.filterMap_reverse, PySem.W.krv_all]
theorem getItem_tup_rev {t sl : Addr} {items : Array Value} {vs : Value} {Q : Value → Shared → Prop} (ht : IsTup s.heap t items) (hs : s.heap.IsSliceOf sl .none .none vs) (ps : IsPart vs (some (-1))) (hsz : items.size ≤ sizeLine)
    (h : Q (.ref s.heap.objs.size) { s with heap := s.heap.push { cls := .type "tuple", data := .seq items.toList.reverse.toArray } }) : wpAny (model prog w) A (getItem (.ref t) (.ref sl)) Q E s := by
  have hz : sizeOk (.seq items.toList.reverse.toArray) := by
    show items.toList.reverse.toArray.size ≤ sizeLine
    simpa using hsz
  obtain ⟨os, hos, hcs, hds⟩ := id hs
  have hT : s.TypeIs (.ref sl) "slice" := ⟨os, hos, hcs⟩
  unfold getItem
  try with_reducible refine wpAny_holding ?_
  first | refine wpAny_bind (wpAny_pure ?_) | skip
  refine wpAny_bind (wpAny_sequenceKey ht.typeIs (by decide) (wpAny_bind (wpAny_callSpecial?_slot (name := Str.ofString "__getitem__") ht.typeIs PyProof.Rows.slot_tuple_getitem
    (wpAny_call_entry PyProof.Rows.slot_tuple_getitem ht.typeIs entry_tuple_getitem ?_ (args_tuple_getitem _ _)))))
  show wpAny _ _ (Builtin.Tuple.tupleItemsOf (.ref t) >>= _) _ _ s
  refine wpAny_bind (tupleItemsOf_ ht (wpAny_bind (wpAny_typeOf hT ?_)))
  rw [if_pos (by decide)]
  refine wpAny_bind (applied_rev hs ps ?_)
  have hno : ¬ (((((items.size : Int) - 1) == 0) && ((-1 : Int) == 1) && (items.size == items.size)) = true) := by
    rw [show ((-1 : Int) == 1) = false by decide, Bool.and_false, Bool.false_and]
    exact Bool.false_ne_true
  show wpAny _ _ (if ((((items.size : Int) - 1) == 0) && ((-1 : Int) == 1) && (items.size == items.size)) = true then _ else _) _ _ s
  rw [if_neg hno, pick_rev]
  first
    | exact wpAny_bind (m := Builtin.Tuple.tupleExact _) (wpAny_newObj_type (wpAny_pure ⟨_, rfl, wpAny_pure h⟩) hz)
    | exact wpAny_bind (m := Builtin.Tuple.tupleExact _) (wpAny_newObj_type (wpAny_bind (wpAny_pure (wpAny_pure ⟨_, rfl, wpAny_pure h⟩))) hz)
    | exact wpAny_bind (wpAny_bind (m := Builtin.Tuple.tupleExact _) (wpAny_newObj_type (wpAny_pure (wpAny_pure ⟨_, rfl, wpAny_pure h⟩)) hz))
    | exact wpAny_bind (wpAny_bind (m := Builtin.Tuple.tupleExact _) (wpAny_newObj_type (wpAny_pure ⟨_, rfl, wpAny_pure h⟩) hz))
end
def dRevT : D → M D
  | .tup xs => pure (.tup xs.reverse)
  | _ => M.bad
theorem RepAll.small {g : Gx} {μ : Gh} {S : Sto} {H : Hp} {a : Addr} {xs : List V} {X : Cx} {pins : List (Addr × Obj)} {σ : L2.St} {s : Shared} (I : Inv X pins σ H s) (h : SqT X.K H a xs) : xs.length ≤ sizeLine := by
  obtain ⟨its, r, _, hz⟩ := I.tuple h
  exact hz
theorem pd_revT {X : Cx} {ca : Nat → Addr} {W : WX} {e : Expr} {f : DEnv → M D} {k : Nat} {p1 p2 p3 pos : Pos} (he : PE X e (tD (gx X ca) W f)) :
    PE X (.Subscript e (.Slice none none (some (.UnaryOp .USub (.Constant (.int 1) k p1) p2)) p3) pos) (tD (gx X ca) W (dUn dRevT f)) := by
  refine ⟨fun pins s σ H Q I ⟨ρ, μ, S, env, sto, h⟩ => ?_⟩
  have first : tD (gx X ca) W f σ H fun v H1 => ∃ μ1 S1 d, StoOk (gx X ca) μ1 S1 H1 ∧ Rep (gx X ca) μ1 S1 H1 v d ∧
      Wp (gx X ca) (fun c d H' => W c d σ H') (dRevT d) μ1 S1 H1 fun d μ' S' H' => ∀ v, Rep (gx X ca) μ' S' H' v d → Q v H' :=
    tD_then env sto h fun d μ1 S1 H1 v t1 k1 env1 r1 h1 => ⟨μ1, S1, d, k1, r1, h1⟩
  refine Subscript_ (thn (he.run pins s σ H _ I first) fun v s1 ⟨x, H1, I1, rv, μ1, S1, d, k1, r1, h1⟩ => ?_)
  cases r1 with
  | @tup a xs ds fz q =>
    cases rv
    have hp : PO X (some (.UnaryOp .USub (.Constant (.int 1) k p1) p2)) (tPart (tUn (rU fun i => .int (-i)) (tC (.int 1)))) := po_some (pe_un un_neg pe_int)
    refine wpAny_Slice (thn (po_none.run pins s1 σ H1 (fun o H2 => o = none ∧ H2 = H1) I1 ⟨rfl, rfl⟩) fun vl s2 ⟨l, H2, I2, pl, el, e2⟩ => ?_)
    subst el e2
    refine thn (po_none.run pins s2 σ H2 (fun o H3 => o = none ∧ H3 = H2) I2 ⟨rfl, rfl⟩) fun vu s3 ⟨u, H3, I3, pu, eu, e3⟩ => ?_
    subst eu e3
    refine thn (hp.run pins s3 σ H3 (fun o H4 => o = some (-1) ∧ H4 = H3) I3 ⟨1, rfl, -1, rfl, rfl, rfl⟩) fun vs s4 ⟨o, H4, I4, ps, eo, e4⟩ => ?_
    subst eo e4
    cases pl
    cases pu
    have I5 : Inv X pins σ H4 { s4 with heap := s4.heap.push { cls := .type "slice", data := .fields #[.none, .none, vs] } } := I4.kept (t' := s4.toks) fun b ob q => Heap.get?_push_of_some _ q
    obtain ⟨its, r, ht, hz⟩ := I5.tuple fz.sq
    have hl := r.length
    show wpAny (model X.prog X.w) X.A (subscriptTail e (.Slice none none (some (.UnaryOp .USub (.Constant (.int 1) k p1) p2)) p3) (.ref a) (.ref s4.heap.objs.size)) (EP X pins σ Q) X.xe { s4 with heap := s4.heap.push { cls := .type "slice", data := .fields #[.none, .none, vs] } }
    refine tail_any (ops := [.ref a, .ref s4.heap.objs.size]) ht.typeIs (PyProof.Rows.slot_tuple_getitem.lookup) ?_ (by with_unfolding_all rfl)
    refine getItem_tup_rev ht (Heap.IsSliceOf.new _ .none .none vs) ps (by rw [List.size_toArray, ← hl]; exact hz) ?_
    have hf := I5.hok.fresh (Nat.le_refl _)
    obtain ⟨t, k', rr⟩ := new_tup k1 hf q.reverse
    refine ⟨.ref _, _, I5.laid (t' := s4.toks) (o := .tup xs.reverse) (fun b ob q => Heap.get?_push_of_some _ q) (Nat.le_refl _) ?_, rfl, Wp.end h1 t k' _ rr⟩
    exact ⟨by rw [List.length_reverse]; exact hz, _, r.reverse, IsTup.new _ _⟩
  | _ => exact (show False from h1).elim

/-! ### an instance made -/
def newIns (c : Nat) : M D := fun S => .ok (.cell S.length) (S ++ [some (.obj c [])])
def toN : D → M Unit
  | .non => pure ()
  | _ => M.bad
/-- the instance, as it is, does not change any more -/
def freezeD : D → M D
  | .cell n => do
    let p ← M.get (insS n)
    M.put fun S => S.set n none
    pure (.obj p.1 p.2)
  | _ => M.bad
def makeD (c : Nat) (fz : Bool) (F : List D → M D) (as : List D) : M D := do
  let x ← newIns c
  let r ← F (x :: as)
  toN r
  if fz then freezeD x else pure x
def dMake (c : Nat) (fz : Bool) (n : Nat) (F : List D → M D) (fs : DEnv → M (List D)) : DEnv → M D := fun ρ => do
  let as ← fs ρ
  M.need (as.length = n)
  makeD c fz F as
section
variable {g : Gx} {μ : Gh} {S : Sto} {H : Hp}
theorem sto_freeze {n : Nat} {c : Nat} {fs : List (Str × D)} {a : Addr} (k : StoOk g μ S H) (e : S[n]? = some (some (.obj c fs))) (ea : μ.m[n]? = some a) :
    Step μ S H μ (S.set n none) H ∧ StoOk g μ (S.set n none) H ∧ Rep g μ (S.set n none) H (.ref a) (.obj c fs) := by
  have less : ∀ b, Live μ (S.set n none) b → Live μ S b := by
    rintro b ⟨m, d, e1, e2⟩
    by_cases z : n = m
    · subst z
      rw [List.getElem?_set] at e1
      split at e1
      · split at e1 <;> cases e1
      · exact absurd rfl (by assumption)
    · rw [List.getElem?_set_ne z] at e1
      exact ⟨m, d, e1, e2⟩
  have old : ∀ {m : Nat} {d : Cell}, (S.set n none)[m]? = some (some d) → n ≠ m ∧ S[m]? = some (some d) := fun {m d} h => by
    by_cases z : n = m
    · subst z
      rw [List.getElem?_set] at h
      split at h
      · split at h <;> cases h
      · exact absurd rfl (by assumption)
    · rw [List.getElem?_set_ne z] at h
      exact ⟨z, h⟩
  have t : Step μ S H μ (S.set n none) H := ⟨List.prefix_refl _, fun _ h => h, fun h => h, fun _ _ _ h => h, fun b l => .inl (less b l), fun _ l => .inl l, fun _ h => h⟩
  obtain ⟨b, e1, dx, vs, e2, rf⟩ := k.at_ _ _ e
  rw [ea] at e1
  cases e1
  have nl : ¬ Held μ (S.set n none) a := by
    rintro (l | l)
    · obtain ⟨m, d, e3, e4⟩ := l
      obtain ⟨z, e5⟩ := old e3
      exact z (k.inj n m _ _ a e e5 ea e4)
    · exact k.nex a ⟨n, _, e, ea⟩ l
  refine ⟨t, ⟨by rw [List.length_set]; exact k.len, fun b l => k.nex b (less b l), k.ext, fun m m' d d' x h1 h2 h3 h4 => k.inj m m' d d' x (old h1).2 (old h2).2 h3 h4, fun m d h => ?_⟩, .obj e2 nl (rf.step t)⟩
  obtain ⟨b, q1, q2⟩ := k.at_ m d (old h).2
  exact ⟨b, q1, q2.step t rfl⟩
end
structure MakAt (P : Program) (w : World) (K : PySem.W.Frag) (mg : Str → Option Value) (base : Heap) (ca : Nat → Addr) (k : Nat) (x : Str) (c : Nat) (n : Nat) (F : List D → M D) : Prop where
  ex : ∃ f, Mk K (ca c) f ∧ mg x = some (.ref (ca c)) ∧ Cal P w K mg base ca k f (n + 1) F
theorem MakAt.mono {P : Program} {w : World} {K : PySem.W.Frag} {mg : Str → Option Value} {base : Heap} {ca : Nat → Addr} {j k c n : Nat} {x : Str} {F : List D → M D} (h : MakAt P w K mg base ca j x c n F) (l : j ≤ k) : MakAt P w K mg base ca k x c n F := by
  obtain ⟨f, h1, h2, h3⟩ := h.ex
  exact ⟨f, h1, h2, h3.mono l⟩
theorem Wp.toN {g : Gx} {E : XK} {μ : Gh} {S : Sto} {H : Hp} {d : D} {Q : Unit → Gh → Sto → Hp → Prop} {v : V} (h : Wp g E (toN d) μ S H Q) (k : StoOk g μ S H) (r : Rep g μ S H v d) : v = .non ∧ Q () μ S H := by
  cases r with
  | non => exact ⟨rfl, Wp.pure h k⟩
  | _ => exact (show False from h).elim
section
variable {X : Cx} {ca : Nat → Addr} {W : WX} {k n c : Nat} {F : List D → M D} {x : Str} {p pos : Pos} {e : Expr} {es : List Expr} {fs : DEnv → M (List D)}
theorem run_mak {f : Addr} (Mc : Mk X.K (ca c) f) (G : CalX X ca k f (n + 1) F) (hr : Room (k + 1) X.A) (tk : Takes X W) {pins : List (Addr × Obj)} {σ : L2.St} {H : Hp} {s : Shared} {us : List Value} {vs : List V} {as : List D} {μ : Gh} {S : Sto} {Q : VK} {fz : Bool}
    (I : Inv X pins σ H s) (r : Vals vs us) (ra : RepAll (gx X ca) μ S H vs as) (hl : as.length = n) (sto : StoOk (gx X ca) μ S H)
    (h : Wp (gx X ca) (fun c d H' => W c d σ H') (makeD c fz F as) μ S H fun d μ' S' H' => ∀ v, Rep (gx X ca) μ' S' H' v d → Q v H') : wpAny (model X.prog X.w) X.A (call (.ref (ca c)) us) (EP X pins σ Q) X.xe s := by
  let dx := s.heap.objs.size
  let y := s.heap.objs.size + 1
  have ne : dx ≠ y := Nat.ne_of_lt (Nat.lt_succ_self _)
  have I2 := Inv.made (C := ca c) I
  have n1 : H dx = none := I.hok.fresh (Nat.le_refl _)
  have n2 : (upd H dx (.own y)) y = none := by rw [upd_ne ne.symm]; exact I.hok.fresh (Nat.le_succ _)
  obtain ⟨t2, k2, r2⟩ := sto_new (o := .ins (ca c) dx []) (sto.alloc (o := .own y) n1) n2 (.obj (c := c) .nil) S.length rfl
  have t02 := (Step.alloc (μ := μ) (S := S) (o := .own y) n1).trans t2
  have h2 : Wp (gx X ca) (fun c d H' => W c d σ H') (do let r ← F (.cell S.length :: as); toN r; if fz then freezeD (.cell S.length) else pure (.cell S.length)) ⟨μ.m ++ [y], μ.ex⟩ (S ++ [some (.obj c [])]) (upd (upd H dx (.own y)) y (.ins (ca c) dx []))
      fun d μ' S' H' => ∀ v, Rep (gx X ca) μ' S' H' v d → Q v H' :=
    ((Wp.bind (show Wp (gx X ca) (fun c d H' => W c d σ H') (newIns c >>= fun x => do let r ← F (x :: as); toN r; if fz then freezeD x else pure x) μ S H fun d μ' S' H' => ∀ v, Rep (gx X ca) μ' S' H' v d → Q v H' from h)) _ _ t02 k2).mono fun _ _ _ _ t _ z => z (t02.trans t)
  have hc := G.ex
  obtain ⟨fd, ps, us', ws, dd, m, F0, G1, hb, hv, hdd, hm, rfl⟩ := hc
  have rall := (RepAll.cons r2 (ra.step t02)).append (hdd _ _ _)
  have hy : (μ.m ++ [y])[S.length]? = some y := by
    rw [← sto.len, List.getElem?_append_right (Nat.le_refl _)]
    simp
  have hsp : spD ⟨X.K, ca⟩ m F0 ((V.ref y :: vs) ++ ws) (upd (upd H dx (.own y)) y (.ins (ca c) dx [])) (fun v H' => v = .non ∧ Q (.ref y) H') (fun c d H' => W c d σ H') := by
    refine ⟨(.cell S.length :: as) ++ dd, _, _, ?_, rall, k2, (Wp.bind h2).mono fun d μ3 S3 H3 t3 k3 h3 v rv => ?_⟩
    · rw [rall.length, List.length_append, List.length_cons, hl, hm]
    · obtain ⟨ev, h4⟩ := Wp.toN (Wp.bind h3) k3 rv
      have hy3 := prefix_get t3.pre hy
      refine ⟨ev, ?_⟩
      cases fz with
      | false => exact Wp.pure h4 k3 (Step.refl _ _ _) t3 _ (.cell hy3)
      | true =>
        obtain ⟨q, e1, h5⟩ := Wp.get (Wp.bind (show Wp (gx X ca) (fun c d H' => W c d σ H') (freezeD (.cell S.length)) μ3 S3 H3 _ from h4)) k3
        obtain ⟨t4, k4, r4⟩ := sto_freeze k3 (insS_some e1) hy3
        have h6 := (Wp.bind h5) μ3 H3 t4 k4
        exact Wp.pure h6 k4 t4 t4 t4 (t3.trans t4) _ r4
  have hyr : Vals (V.ref y :: vs) (Value.ref y :: us) := .cons rfl r
  have hn : ((Value.ref y :: us) ++ us').length = ps.length := (hyr.append hv).length.symm.trans (G1.len _ _ _ _ hsp)
  have go := G1.run _ X.stack _ _ ⟨Value.ref y :: us, []⟩ ((Value.ref y :: us) ++ us') ((V.ref y :: vs) ++ ws) _ _ (hr.make (ca c) us []) (I2.env0.make (ca c) us []) (hb _ (Value.ref y :: us) I2.kIn hn) (hyr.append hv) hsp
  refine wpAny_call (make_map (f := f) I.kIn Mc.makes Mc.init (beq_iff_eq.mp Mc.fn) (codeAny_mono go fun res s' hq => ?_))
  match res, hq with
  | .error e, hq => exact takes_at tk σ I2 hq
  | .ok (.ret u), hq =>
    obtain ⟨v, H', I3, rv, ev, q3⟩ := I2.after hq
    subst ev
    exact ⟨rv, ⟨V.ref y, H', I3, rfl, q3⟩⟩
  | .ok .next, hq => exact hq.elim
  | .ok .brk, hq => exact hq.elim
  | .ok .cont, hq => exact hq.elim
theorem pd_make {fz : Bool} (hM : MakAt X.prog X.w X.K X.mg X.base ca k x c n F) (hr : Room (k + 1) X.A) (tk : Takes X W) (ha : PA X (e :: es) (tDA (gx X ca) W fs)) (hg : Gl X x := by rfl) (hdb : (x == ("__debug__" : Str)) = false := by decide)
    (he : starEach (e :: es) X.env = (false, eval e X.env) :: starEach es X.env := by rfl) (hpl : (backTo pos (starEach es X.env)).any (·.1) = false := by rfl) : PE X (.Call (.Name x p) (e :: es) [] pos) (tD (gx X ca) W (dMake c fz n F fs)) := by
  obtain ⟨f, Mc, hm, G⟩ := hM.ex
  refine ⟨fun pins s σ H Q I ⟨ρ, μ, S, env, sto, h⟩ => ?_⟩
  have args : tDA (gx X ca) W fs σ H fun vs H2 => ∃ μ2 S2 as, RepAll (gx X ca) μ2 S2 H2 vs as ∧ as.length = n ∧ StoOk (gx X ca) μ2 S2 H2 ∧
      Wp (gx X ca) (fun c d H' => W c d σ H') (makeD c fz F as) μ2 S2 H2 fun d μ' S' H' => ∀ v, Rep (gx X ca) μ' S' H' v d → Q v H' :=
    tDA_then env sto h fun as μ2 S2 H2 vs t2 k2 env2 r2 h3 => by
      obtain ⟨hl, h4⟩ := Wp.need (Wp.bind h3) k2
      exact ⟨μ2, S2, as, r2, hl, k2, h4.mono fun _ _ _ _ t _ z => z t⟩
  refine wpAny_Call_Name_kw (ld_glob I hg hm ?_ hdb)
  exact PySem.W.callWith_K (h₀ := X.base) I.ok.mod.kin Mc.kp (thn (ha.run pos pins s σ H _ I args) fun us s2 ⟨vs2, H2, I2, r, μ2, S2, as, ra, hl, k2, h4⟩ => ⟨I2.kIn, run_mak Mc G hr tk I2 r ra hl k2 h4⟩) he hpl
end
end DD

/-! DD14: own [], in, str(); a method's keywords; f-strings -/
namespace DD
open PySem PySem.Spec PyProof.Rows L2

/-! ### a slot of the class that the language calls -/
structure SltAt (P : Program) (w : World) (K : PySem.W.Frag) (mg : Str → Option Value) (base : Heap) (ca : Nat → Addr) (k : Nat) (c : Nat) (name : Str) (n : Nat) (F : List D → M D) : Prop where
  ex : ∃ f, PySem.W.findIn K (.ref (ca c)) name = some (some (.ref f)) ∧ PySem.W.fnIn K f = true ∧ PySem.W.isFn K (.ref f) = true ∧ Cal P w K mg base ca k f n F
theorem SltAt.mono {P : Program} {w : World} {K : PySem.W.Frag} {mg : Str → Option Value} {base : Heap} {ca : Nat → Addr} {j k c n : Nat} {m : Str} {F : List D → M D} (h : SltAt P w K mg base ca j c m n F) (l : j ≤ k) : SltAt P w K mg base ca k c m n F := by
  obtain ⟨f, h1, h2, h3, h4⟩ := h.ex
  exact ⟨f, h1, h2, h3, h4.mono l⟩
abbrev SltX (X : Cx) (ca : Nat → Addr) (k : Nat) (T : MTab) (m : Str) (n : Nat) : Prop := ∀ q ∈ T, SltAt X.prog X.w X.K X.mg X.base ca k q.1 m n q.2
def pickS (T : MTab) (x : D) : M (List D → M D) := do
  let p ← insD x
  M.get fun _ => mtGet T p.1
theorem Wp.pickS {g : Gx} {E : XK} {μ : Gh} {S : Sto} {H : Hp} {x : D} {v : V} {T : MTab} {Q : (List D → M D) → Gh → Sto → Hp → Prop} (h : Wp g E (pickS T x) μ S H Q) (k : StoOk g μ S H) (r : Rep g μ S H v x) :
    ∃ c a dx vs F, v = .ref a ∧ H a = some (.ins (g.ca c) dx vs) ∧ (c, F) ∈ T ∧ Q F μ S H := by
  obtain ⟨c, fs, a, dx, vs, ev, ea, rf, h2⟩ := Wp.insD (Wp.bind h) k r
  obtain ⟨F, e1, h4⟩ := Wp.get h2 k
  exact ⟨c, a, dx, vs, F, ev, ea, mtGet_mem e1, h4 (Step.refl _ _ _)⟩
theorem ins_at {X : Cx} {pins : List (Addr × Obj)} {σ : L2.St} {H : Hp} {s : Shared} (I : Inv X pins σ H s) {a C dx : Addr} {vs : List (Str × V)} (e : H a = some (.ins C dx vs)) : ∃ od, PySem.W.InstAt s.heap a (PySem.W.instObj C dx) C (some od) := by
  obtain ⟨mA, O, _⟩ := ins_get I.hok e
  obtain ⟨od, J, _⟩ := O.look
  exact ⟨od, J⟩
/-- o[i], the class's own -/
def dGetO (T : MTab) (fo fi : DEnv → M D) : DEnv → M D := fun ρ => do
  let x ← fo ρ
  let i ← fi ρ
  let F ← pickS T x
  F [x, i]
def inTail (neg : Bool) (x y : D) (F : List D → M D) : M D := do
  let r ← M.nx (F [y, x])
  let b ← toB r
  pure (.bl (b != neg))
def dInO (T : MTab) (neg : Bool) (x y : D) : M D := pickS T y >>= inTail neg x y
def rInO (g : Gx) (T : MTab) (neg : Bool) : R2 := fun v u H Q => ∃ x y μ S, StoOk g μ S H ∧ Rep g μ S H v x ∧ Rep g μ S H u y ∧ Wp g EF (dInO T neg x y) μ S H fun d μ' S' H' => ∀ w, Rep g μ' S' H' w d → Q w H'
/-- nothing is raised in it -/
theorem Wp.free {α : Type} {g : Gx} {E : XK} {m : M α} {μ : Gh} {S : Sto} {H : Hp} {Q : α → Gh → Sto → Hp → Prop} (n : ∀ c fs S', m S ≠ .exc c fs S') (h : Wp g E m μ S H Q) : Wp g EF m μ S H Q := by
  rcases h.run with ⟨a, S', e, w⟩ | ⟨c, fs, S', e, _⟩
  · exact Wp.of_ok e w
  · exact absurd e (n _ _ _)
theorem M.bind_exc {α β : Type} {m : M α} {k : α → M β} {S S2 : Sto} {c : Nat} {fs : List (Str × D)} (h : (m >>= k) S = .exc c fs S2) : m S = .exc c fs S2 ∨ ∃ a S1, m S = .ok a S1 ∧ k a S1 = .exc c fs S2 := by
  rw [M.bind_run] at h
  cases e : m S with
  | ok a S1 => rw [e] at h; exact .inr ⟨a, S1, rfl, h⟩
  | exc c' fs' S1 => rw [e] at h; cases h; exact .inl rfl
  | bad => rw [e] at h; cases h
def NoX {α : Type} (m : M α) : Prop := ∀ S c fs S', m S ≠ .exc c fs S'
theorem NoX.bind {α β : Type} {m : M α} {k : α → M β} (h : NoX m) (h' : ∀ a, NoX (k a)) : NoX (m >>= k) := fun S c fs S' e => by
  rcases M.bind_exc e with e | ⟨a, S1, _, e⟩
  · exact h _ _ _ _ e
  · exact h' a _ _ _ _ e
theorem NoX.nx {α : Type} {m : M α} : NoX (M.nx m) := fun S c fs S' e => by
  unfold M.nx at e
  split at e <;> cases e
theorem NoX.get {α : Type} {f : Sto → Option α} : NoX (M.get f) := fun S c fs S' e => by
  unfold M.get at e
  split at e <;> cases e
theorem NoX.pure {α : Type} {a : α} : NoX (Pure.pure a : M α) := fun S c fs S' e => by cases e
theorem NoX.bad {α : Type} : NoX (M.bad : M α) := fun S c fs S' e => by cases e
theorem NoX.toB {d : D} : NoX (toB d) := by
  cases d <;> first | exact NoX.pure | exact NoX.bad
theorem NoX.insD {d : D} : NoX (insD d) := by
  cases d <;> first | exact NoX.pure | exact NoX.get | exact NoX.bad
theorem NoX.pickS {T : MTab} {d : D} : NoX (pickS T d) := NoX.insD.bind fun _ => NoX.get
theorem inO_s {g : Gx} {T : MTab} {neg : Bool} : OpS g (rInO g T neg) (dInO T neg) := fun E μ S H v u x y Q k rx ry h =>
  ⟨x, y, μ, S, k, rx, ry, Wp.free (fun c fs S' => (NoX.pickS.bind fun _ => NoX.nx.bind fun _ => NoX.toB.bind fun _ => NoX.pure) S c fs S') h⟩
section
variable {X : Cx} {ca : Nat → Addr} {W : WX} {k n : Nat} {T : MTab} {a b e : Expr} {fa fb fo : DEnv → M D} {pos apos : Pos}
theorem pd_getO (hT : SltX X ca k T "__getitem__" 2) (hr : Room (k + 1) X.A) (tk : Takes X W) (ha : PE X a (tD (gx X ca) W fa)) (hb : PE X b (tD (gx X ca) W fb))
    (hsl : ∀ o i, subscripted b true o i = runValue (.builtin "lifetime.subscript" ⟨[o, i], []⟩) := by intro o i; with_unfolding_all rfl) : PE X (.Subscript a b pos) (tD (gx X ca) W (dGetO T fa fb)) := by
  refine ⟨fun pins s σ H Q I ⟨ρ, μ, S, env, sto, h⟩ => ?_⟩
  have both : tD (gx X ca) W fa σ H fun v H1 => tD (gx X ca) W fb σ H1 fun u H2 => ∃ μ2 S2 x y, StoOk (gx X ca) μ2 S2 H2 ∧ Rep (gx X ca) μ2 S2 H2 v x ∧ Rep (gx X ca) μ2 S2 H2 u y ∧
      Wp (gx X ca) (fun c d H' => W c d σ H') (do let F ← pickS T x; F [x, y]) μ2 S2 H2 fun d μ' S' H' => ∀ v, Rep (gx X ca) μ' S' H' v d → Q v H' :=
    tD_then env sto h fun d μ1 S1 H1 v t1 k1 env1 r1 h1 => tD_then env1 k1 h1 fun d2 μ2 S2 H2 v2 t2 k2 env2 r2 h2 => ⟨μ2, S2, d, d2, k2, r1.step t2, r2, h2⟩
  refine Subscript_ (binT ha hb I both fun v u s2 x y H2 I2 rx ry ⟨μ2, S2, dx, dy, k2, r1, r2, h2⟩ => ?_)
  obtain ⟨c, o, dd, vs, F, rfl, eo, hF, h3⟩ := Wp.pickS (Wp.bind h2) k2 r1
  obtain rfl : v = Value.ref o := rx
  obtain ⟨f, f1, f2, f3, G⟩ := (hT _ hF).ex
  obtain ⟨m, fr⟩ := I2.fr
  obtain ⟨od, J⟩ := ins_at I2 eo
  refine PySem.W.sub_K fr I.ok.mod.kin J f1 f2 f3 ?_ (hsl _ _)
  exact run_cal G hr.in1 I2.env0.in1 (fun e s' c => takes_at tk σ I2 c) I2 (us := [.ref o, u]) (vs := [.ref o, y]) (.cons rfl (.cons ry .nil)) (.cons r1 (.cons r2 .nil)) rfl k2 (h3.mono fun _ _ _ _ t _ z => z t)
theorem takes_none {e : Value} {s' s : Shared} {H : Hp} {EE : Value → Shared → Prop} (c : L2.CX X.prog X.w X.stack H s EF e s') : EE e s' := by
  obtain ⟨_, _, _, _, _, _, _, _, _, _, _, _, z⟩ := c
  exact z.elim
theorem op_inO (hT : SltX X ca k T "__contains__" 2) (hr : Room k X.A) : OpR X (compareOp .In) (rInO (gx X ca) T false) := by
  rintro pins s σ H v u vv uu Q I rv ru ⟨x, y, μ, S, sto, rx, ry, h⟩
  obtain ⟨c, o, dd, vs, F, rfl, eo, hF, h3⟩ := Wp.pickS (Wp.bind h) sto ry
  obtain rfl : uu = Value.ref o := ru
  obtain ⟨f, f1, f2, f3, G⟩ := (hT _ hF).ex
  obtain ⟨m, fr⟩ := I.fr
  obtain ⟨od, J⟩ := ins_at I eo
  refine PySem.W.in_K fr I.ok.mod.kin J f1 f3 ?_
  obtain ⟨r, S2, er, hq⟩ := Wp.nx (Wp.bind h3)
  refine thn (run_cal (E0 := EF) (Q := fun z H' => ∃ b, z = .bl b ∧ Q (.bl b) H') (EE := X.xe) G hr I.env0 (fun e s' c => takes_none c) I (us := [.ref o, vv]) (vs := [.ref o, v]) (.cons rfl (.cons rv .nil)) (.cons ry (.cons rx .nil)) rfl sto
    (Wp.of_ok er fun μ2 H2 t2 k2 z rz => ?_)) fun r' s' ⟨z, H', I', rz, b, ez, q⟩ => ?_
  · obtain ⟨b, rfl, h4⟩ := Wp.toB (Wp.bind (hq μ2 H2 t2 k2)) k2 rz
    refine ⟨b, rfl, ?_⟩
    have h5 := Wp.pure h4 k2 (Step.refl _ _ _) t2 t2
    rw [Bool.bne_false] at h5
    exact h5 _ (.bl _)
  · subst ez
    cases (show r' = Value.bool b from rz)
    exact wpAny_truthy_bool ⟨.bl b, H', I', rfl, q⟩
theorem op_notinO (hT : SltX X ca k T "__contains__" 2) (hr : Room k X.A) : OpR X (compareOp .NotIn) (rInO (gx X ca) T true) := by
  rintro pins s σ H v u vv uu Q I rv ru ⟨x, y, μ, S, sto, rx, ry, h⟩
  obtain ⟨c, o, dd, vs, F, rfl, eo, hF, h3⟩ := Wp.pickS (Wp.bind h) sto ry
  obtain rfl : uu = Value.ref o := ru
  obtain ⟨f, f1, f2, f3, G⟩ := (hT _ hF).ex
  obtain ⟨m, fr⟩ := I.fr
  obtain ⟨od, J⟩ := ins_at I eo
  refine PySem.W.notIn_K fr I.ok.mod.kin J f1 f3 ?_
  obtain ⟨r, S2, er, hq⟩ := Wp.nx (Wp.bind h3)
  refine thn (run_cal (E0 := EF) (Q := fun z H' => ∃ b, z = .bl b ∧ Q (.bl (!b)) H') (EE := X.xe) G hr I.env0 (fun e s' c => takes_none c) I (us := [.ref o, vv]) (vs := [.ref o, v]) (.cons rfl (.cons rv .nil)) (.cons ry (.cons rx .nil)) rfl sto
    (Wp.of_ok er fun μ2 H2 t2 k2 z rz => ?_)) fun r' s' ⟨z, H', I', rz, b, ez, q⟩ => ?_
  · obtain ⟨b, rfl, h4⟩ := Wp.toB (Wp.bind (hq μ2 H2 t2 k2)) k2 rz
    refine ⟨b, rfl, ?_⟩
    have h5 := Wp.pure h4 k2 (Step.refl _ _ _) t2 t2
    rw [Bool.bne_true] at h5
    exact h5 _ (.bl _)
  · subst ez
    cases (show r' = Value.bool b from rz)
    exact wpAny_truthy_bool ⟨.bl (!b), H', I', rfl, q⟩
/-- str(o), the class's own -/
def toS : D → M Str
  | .str x => pure x
  | _ => M.bad
def strTail (x : D) (F : List D → M D) : M D := do
  let r ← M.nx (F [x])
  let y ← toS r
  pure (.str y)
def dStrO (T : MTab) (x : D) : M D := pickS T x >>= strTail x
theorem NoX.toS {d : D} : NoX (toS d) := by
  cases d <;> first | exact NoX.pure | exact NoX.bad
theorem Wp.toS {g : Gx} {E : XK} {μ : Gh} {S : Sto} {H : Hp} {d : D} {Q : Str → Gh → Sto → Hp → Prop} {v : V} (h : Wp g E (toS d) μ S H Q) (k : StoOk g μ S H) (r : Rep g μ S H v d) : ∃ x, v = .str x ∧ Q x μ S H := by
  cases r with
  | str x => exact ⟨x, rfl, Wp.pure h k⟩
  | _ => exact (show False from h).elim
def rStrO (g : Gx) (T : MTab) : List V → Hp → VK → Prop := fun vs H Q => ∃ v x μ S, vs = [v] ∧ StoOk g μ S H ∧ Rep g μ S H v x ∧ Wp g EF (dStrO T x) μ S H fun d μ' S' H' => ∀ w, Rep g μ' S' H' w d → Q w H'
theorem strO_s {g : Gx} {T : MTab} : CallS g (rStrO g T) (one (dStrO T)) := one_s fun E μ S H v d Q k r h =>
  ⟨v, d, μ, S, rfl, k, r, Wp.free (fun c fs S' => (NoX.pickS.bind fun _ => NoX.nx.bind fun _ => NoX.toS.bind fun _ => NoX.pure) S c fs S') h⟩
theorem call_strO (hT : SltX X ca k T "__str__" 1) (hr : Room (k + 2) X.A) : CallR X (.type "str") (rStrO (gx X ca) T) := by
  rintro pins s σ H vs us Q I rv ⟨v, x, μ, S, rfl, sto, rx, h⟩
  obtain ⟨u, rfl, ru⟩ := vals1 rv
  obtain ⟨c, o, dd, ws, F, rfl, eo, hF, h3⟩ := Wp.pickS (Wp.bind h) sto rx
  obtain rfl : u = Value.ref o := ru
  obtain ⟨f, f1, f2, f3, G⟩ := (hT _ hF).ex
  obtain ⟨od, J⟩ := ins_at I eo
  have hr2 : Room k X.A.in1.in1 := (hr.in1).in1
  refine PySem.W.kso_call hr2.units0 I.kIn J f1 f3 ?_
  obtain ⟨r, S2, er, hq⟩ := Wp.nx (Wp.bind h3)
  refine thn (run_cal (E0 := EF) (Q := fun z H' => ∃ b, z = .str b ∧ Q (.str b) H') (EE := X.xe) G hr2 I.env0.in1.in1 (fun e s' c => takes_none c) I (us := [.ref o]) (vs := [.ref o]) (.cons rfl .nil) (.cons rx .nil) rfl sto
    (Wp.of_ok er fun μ2 H2 t2 k2 z rz => ?_)) fun r' s' ⟨z, H', I', rz, b, ez, q⟩ => ?_
  · obtain ⟨b, rfl, h4⟩ := Wp.toS (Wp.bind (hq μ2 H2 t2 k2)) k2 rz
    exact ⟨b, rfl, Wp.pure h4 k2 (Step.refl _ _ _) t2 t2 _ (.str _)⟩
  · subst ez
    obtain ⟨t, rfl⟩ := (show ∃ t, r' = Value.str b t from rz)
    exact ⟨.str b, H', I', ⟨t, rfl⟩, q⟩
end

/-! ### f-strings -/
def fmt1 : D → M D
  | .str y => do M.need (y.length ≤ sizeLine); pure (.str y)
  | .int i => do M.need (i.natAbs.log2 < 1920); pure (.str (toString i))
  | _ => M.bad
def dFmt (f : DEnv → M D) : DEnv → M D := dUn fmt1 f
def joinGo : List (DEnv → M D) → Str → DEnv → M D
  | [], acc, _ => pure (.str acc)
  | f :: fs, acc, ρ => do
    let x ← f ρ
    let y ← toS x
    M.need ((acc ++ y).length ≤ sizeLine)
    joinGo fs (acc ++ y) ρ
def dJoined (fs : List (DEnv → M D)) : DEnv → M D := joinGo fs Str.empty
section
variable {X : Cx} {ca : Nat → Addr} {W : WX} {e v1 v2 : Expr} {f : DEnv → M D} {fs : List (DEnv → M D)} {es rest : List Expr} {pos : Pos}
theorem pd_fmt (he : PE X e (tD (gx X ca) W f)) : PE X (.FormattedValue e (-1) none pos) (tD (gx X ca) W (dFmt f)) :=
  peOf (pe_fmt he) fun σ H Q ⟨ρ, μ, S, env, sto, h⟩ => tD_then env sto h fun d μ1 S1 H1 v t1 k1 env1 r1 h1 => by
    cases r1 with
    | str y =>
      obtain ⟨h2, h3⟩ := Wp.need (Wp.bind h1) k1
      exact .inl ⟨y, rfl, h2, Wp.pure h3 k1 (Step.refl _ _ _) _ (.str _)⟩
    | int i =>
      obtain ⟨h2, h3⟩ := Wp.need (Wp.bind h1) k1
      exact .inr ⟨i, rfl, h2, Wp.pure h3 k1 (Step.refl _ _ _) _ (.str _)⟩
    | _ => exact (show False from h1).elim
abbrev tsD (g : Gx) (W : WX) (fs : List (DEnv → M D)) : List TE := fs.map (tD g W)
theorem jd_nil : PJ X [] (tsD (gx X ca) W []) := .nil
theorem jd_cons (h : PE X e (tD (gx X ca) W f)) (r : PJ X es (tsD (gx X ca) W fs)) : PJ X (e :: es) (tsD (gx X ca) W (f :: fs)) := .cons h r
theorem tJs_D {g : Gx} {σ : L2.St} {Q : VK} {ρ : DEnv} : ∀ (fs : List (DEnv → M D)) (acc : Str) (μ : Gh) (S : Sto) (H : Hp), EnvOk g μ S H σ ρ → StoOk g μ S H →
    Wp g (fun c d H' => W c d σ H') (joinGo fs acc ρ) μ S H (fun d μ' S' H' => ∀ v, Rep g μ' S' H' v d → Q v H') → tJs (tsD g W fs) acc σ H fun out H1 => Q (.str out) H1
  | [], acc, μ, S, H, env, sto, h => Wp.pure (show Wp g _ (Pure.pure (.str acc) : M D) μ S H _ from h) sto _ (.str _)
  | f :: fs, acc, μ, S, H, env, sto, h => tD_then env sto (show Wp g _ (f ρ >>= fun x => do let y ← toS x; M.need ((acc ++ y).length ≤ sizeLine); joinGo fs (acc ++ y) ρ) μ S H _ from h) fun d μ1 S1 H1 v t1 k1 env1 r1 h1 => by
      obtain ⟨y, rfl, h2⟩ := Wp.toS (Wp.bind h1) k1 r1
      obtain ⟨h3, h4⟩ := Wp.need (Wp.bind h2) k1
      exact ⟨y, rfl, h3, tJs_D fs _ μ1 S1 H1 env1 k1 (h4.mono fun _ _ _ _ t _ z => z t (Step.refl _ _ _ |>.trans t))⟩
theorem pd_joined (h : PJ X (v1 :: v2 :: rest) (tsD (gx X ca) W fs)) : PE X (.JoinedStr (v1 :: v2 :: rest) pos) (tD (gx X ca) W (dJoined fs)) :=
  peOf (pe_joined h) fun σ H Q ⟨ρ, μ, S, env, sto, h⟩ => tJs_D fs _ μ S H env sto h
theorem pd_joined1 (he : PE X e (tD (gx X ca) W f)) : PE X (.JoinedStr [e] pos) (tD (gx X ca) W f) := pe_joined1 he
end

/-! ### keywords of a method -/
def selG {α : Type} (sel : List (Bool × Nat)) (us ws : List α) : List α := sel.filterMap fun p => if p.1 then us[p.2]? else ws[p.2]?
structure CalK (P : Program) (w : World) (K : PySem.W.Frag) (mg : Str → Option Value) (base : Heap) (ca : Nat → Addr) (k : Nat) (f : Addr) (n : Nat) (ks : List Str) (F : List D → List D → M D) : Prop where
  ex : ∃ (fd : FuncData) (ps : List Str) (sel : List (Bool × Nat)) (F0 : List D → M D), FnOk P w K mg base (L2.CX P w) k f fd ps (spD ⟨K, ca⟩ sel.length F0) ∧
    (∀ p ∈ sel, p.2 < if p.1 then n else ks.length) ∧
    (∀ (s : Shared) (us ws : List Value), us.length = n → ws.length = ks.length → BindsTo s fd ⟨us, ks.zip ws⟩ (ps.zip (selG sel us ws))) ∧ F = fun as bs => F0 (selG sel as bs)
theorem CalK.mono {P : Program} {w : World} {K : PySem.W.Frag} {mg : Str → Option Value} {base : Heap} {ca : Nat → Addr} {j k n : Nat} {f : Addr} {ks : List Str} {F : List D → List D → M D} (h : CalK P w K mg base ca j f n ks F) (l : j ≤ k) : CalK P w K mg base ca k f n ks F := by
  obtain ⟨fd, ps, sel, F0, h1, h2⟩ := h.ex
  exact ⟨fd, ps, sel, F0, h1.mono l, h2⟩
theorem selG_all {g : Gx} {μ : Gh} {S : Sto} {H : Hp} {n m : Nat} {us ws : List V} {as bs : List D} (ru : RepAll g μ S H us as) (rw_ : RepAll g μ S H ws bs) (hu : as.length = n) (hw : bs.length = m) : ∀ {sel : List (Bool × Nat)}, (∀ p ∈ sel, p.2 < if p.1 then n else m) →
    RepAll g μ S H (selG sel us ws) (selG sel as bs) ∧ (selG sel as bs).length = sel.length
  | [], _ => ⟨.nil, rfl⟩
  | (true, i) :: sel, h => by
    obtain ⟨h1, h2⟩ := selG_all ru rw_ hu hw (sel := sel) fun p hp => h p (List.mem_cons_of_mem _ hp)
    have hi : i < as.length := by
      have := h _ List.mem_cons_self
      simp only [if_true] at this
      omega
    have e1 : as[i]? = some as[i] := List.getElem?_eq_getElem hi
    obtain ⟨v, e2, r⟩ := ru.get e1
    have g1 : selG ((true, i) :: sel) us ws = v :: selG sel us ws := by
      unfold selG
      rw [List.filterMap_cons]
      simp only [if_true, e2]
    have g2 : selG ((true, i) :: sel) as bs = as[i] :: selG sel as bs := by
      unfold selG
      rw [List.filterMap_cons]
      simp only [if_true, e1]
    rw [g1, g2]
    exact ⟨.cons r h1, congrArg Nat.succ h2⟩
  | (false, i) :: sel, h => by
    obtain ⟨h1, h2⟩ := selG_all ru rw_ hu hw (sel := sel) fun p hp => h p (List.mem_cons_of_mem _ hp)
    have hi : i < bs.length := by
      have := h _ List.mem_cons_self
      simp only [Bool.false_eq_true, if_false] at this
      omega
    have e1 : bs[i]? = some bs[i] := List.getElem?_eq_getElem hi
    obtain ⟨v, e2, r⟩ := rw_.get e1
    have g1 : selG ((false, i) :: sel) us ws = v :: selG sel us ws := by
      unfold selG
      rw [List.filterMap_cons]
      simp only [Bool.false_eq_true, if_false, e2]
    have g2 : selG ((false, i) :: sel) as bs = bs[i] :: selG sel as bs := by
      unfold selG
      rw [List.filterMap_cons]
      simp only [Bool.false_eq_true, if_false, e1]
    rw [g1, g2]
    exact ⟨.cons r h1, congrArg Nat.succ h2⟩
theorem selG_vals {n m : Nat} {us ws : List V} {as bs : List Value} (ru : Vals us as) (rw_ : Vals ws bs) (hu : us.length = n) (hw : ws.length = m) : ∀ {sel : List (Bool × Nat)}, (∀ p ∈ sel, p.2 < if p.1 then n else m) → Vals (selG sel us ws) (selG sel as bs)
  | [], _ => .nil
  | (true, i) :: sel, h => by
    have h1 := selG_vals ru rw_ hu hw (sel := sel) fun p hp => h p (List.mem_cons_of_mem _ hp)
    have hi : i < us.length := by
      have := h _ List.mem_cons_self
      simp only [if_true] at this
      omega
    have e1 : us[i]? = some us[i] := List.getElem?_eq_getElem hi
    obtain ⟨v, e2, r⟩ := ru.get e1
    have g1 : selG ((true, i) :: sel) us ws = us[i] :: selG sel us ws := by
      unfold selG
      rw [List.filterMap_cons]
      simp only [if_true, e1]
    have g2 : selG ((true, i) :: sel) as bs = v :: selG sel as bs := by
      unfold selG
      rw [List.filterMap_cons]
      simp only [if_true, e2]
    rw [g1, g2]
    exact .cons r h1
  | (false, i) :: sel, h => by
    have h1 := selG_vals ru rw_ hu hw (sel := sel) fun p hp => h p (List.mem_cons_of_mem _ hp)
    have hi : i < ws.length := by
      have := h _ List.mem_cons_self
      simp only [Bool.false_eq_true, if_false] at this
      omega
    have e1 : ws[i]? = some ws[i] := List.getElem?_eq_getElem hi
    obtain ⟨v, e2, r⟩ := rw_.get e1
    have g1 : selG ((false, i) :: sel) us ws = ws[i] :: selG sel us ws := by
      unfold selG
      rw [List.filterMap_cons]
      simp only [Bool.false_eq_true, if_false, e1]
    have g2 : selG ((false, i) :: sel) as bs = v :: selG sel as bs := by
      unfold selG
      rw [List.filterMap_cons]
      simp only [Bool.false_eq_true, if_false, e2]
    rw [g1, g2]
    exact .cons r h1
section
variable {X : Cx} {ca : Nat → Addr} {W : WX} {k n : Nat} {ks : List Str} {F : List D → List D → M D}
theorem run_calK {B : Around} {f : Addr} (G : CalK X.prog X.w X.K X.mg X.base ca k f n ks F) (hr : Room k B) {pins : List (Addr × Obj)} {σ : L2.St} {H : Hp} {s : Shared} {us us2 : List Value} {vs vs2 : List V} {ds es : List D} {μ : Gh} {S : Sto} {Q : VK} {EE : Value → Shared → Prop} {E0 : XK}
    (e0 : Env0 X.prog X.w X.K X.mg X.base B X.stack s H) (tk : ∀ e s', L2.CX X.prog X.w X.stack H s E0 e s' → EE e s')
    (I : Inv X pins σ H s) (r : Vals vs us) (r2 : Vals vs2 us2) (rd : RepAll (gx X ca) μ S H vs ds) (rd2 : RepAll (gx X ca) μ S H vs2 es) (hl : ds.length = n) (hl2 : es.length = ks.length) (sto : StoOk (gx X ca) μ S H)
    (h : Wp (gx X ca) E0 (F ds es) μ S H fun d μ' S' H' => ∀ v, Rep (gx X ca) μ' S' H' v d → Q v H') : wpAny (model X.prog X.w) B (call (.ref f) us (ks.zip us2)) (EP X pins σ Q) EE s := by
  obtain ⟨fd, ps, sel, F0, G1, hs, hb, rfl⟩ := G.ex
  obtain ⟨ra, la⟩ := selG_all rd rd2 hl hl2 hs
  have rv := selG_vals r r2 (rd.length.trans hl) (rd2.length.trans hl2) hs
  have hsp : spD ⟨X.K, ca⟩ sel.length F0 (selG sel vs vs2) H Q E0 := ⟨selG sel ds es, μ, S, by rw [ra.length, la], ra, sto, h⟩
  have go := G1.run B X.stack s H ⟨us, ks.zip us2⟩ (selG sel us us2) (selG sel vs vs2) Q E0 hr e0 (hb s us us2 (r.length.symm.trans (rd.length.trans hl)) (r2.length.symm.trans (rd2.length.trans hl2))) rv hsp
  refine wpAny_call (codeAny_mono go fun res s' hq => ?_)
  match res, hq with
  | .error e, hq => exact tk e s' hq
  | .ok (.ret u), hq => exact I.after hq
  | .ok .next, hq => exact hq.elim
  | .ok .brk, hq => exact hq.elim
  | .ok .cont, hq => exact hq.elim
theorem pkOf {kws : List Keyword} {t t' : TA} (h : PK X kws t) (q : ∀ σ H Q, t' σ H Q → t σ H Q) : PK X kws t' := ⟨fun pos pins s σ H Q I hq => h.run pos pins s σ H Q I (q σ H Q hq)⟩
theorem kd_nil : PK X [] (tDA (gx X ca) W aNil) := pkOf pk_nil fun σ H Q ⟨ρ, μ, S, env, sto, h⟩ => Wp.pure h sto _ .nil
theorem kd_cons {e : Expr} {f : DEnv → M D} {kws : List Keyword} {fs : DEnv → M (List D)} {nm : Option Str} {kpos : Pos} (ha : PE X e (tD (gx X ca) W f)) (hr : PK X kws (tDA (gx X ca) W fs)) : PK X (⟨nm, e, kpos⟩ :: kws) (tDA (gx X ca) W (aCons f fs)) :=
  pkOf (pk_cons ha hr) fun σ H Q ⟨ρ, μ, S, env, sto, h⟩ => tD_then env sto h fun d μ1 S1 H1 v t1 k1 env1 r1 h1 => tDA_then env1 k1 h1 fun ds μ2 S2 H2 vs t2 k2 env2 r2 h2 =>
    Wp.pure h2 k2 _ (.cons (r1.step t2) r2)
abbrev KTab := List (Nat × (List D → List D → M D))
structure MetK (P : Program) (w : World) (K : PySem.W.Frag) (mg : Str → Option Value) (base : Heap) (ca : Nat → Addr) (k : Nat) (c : Nat) (m : Str) (n : Nat) (ks : List Str) (F : List D → List D → M D) : Prop where
  ex : ∃ f, Cls K (ca c) ∧ Meth K (ca c) m f ∧ CalK P w K mg base ca k f (n + 1) ks F
theorem MetK.mono {P : Program} {w : World} {K : PySem.W.Frag} {mg : Str → Option Value} {base : Heap} {j c : Nat} {m : Str} (h : MetK P w K mg base ca j c m n ks F) (l : j ≤ k) : MetK P w K mg base ca k c m n ks F := by
  obtain ⟨f, h1, h2, h3⟩ := h.ex
  exact ⟨f, h1, h2, h3.mono l⟩
def pickK (T : KTab) (m : Str) (x : D) : M (List D → List D → M D) := do
  let p ← insD x
  M.need (p.2.lookup m = none)
  M.get fun _ => T.lookup p.1
theorem lookup_mem {α : Type} {T : List (Nat × α)} {c : Nat} {F : α} (h : T.lookup c = some F) : (c, F) ∈ T := by
  induction T with
  | nil => cases h
  | cons p T ih =>
    obtain ⟨c', F'⟩ := p
    rw [List.lookup_cons] at h
    by_cases z : c = c'
    · subst z
      rw [beq_self_eq_true] at h
      cases h
      exact List.mem_cons_self
    · rw [beq_eq_false_iff_ne.mpr z] at h
      exact List.mem_cons_of_mem _ (ih h)
theorem Wp.pickK {g : Gx} {E : XK} {μ : Gh} {S : Sto} {H : Hp} {x : D} {v : V} {T : KTab} {m : Str} {Q : (List D → List D → M D) → Gh → Sto → Hp → Prop} (h : Wp g E (pickK T m x) μ S H Q) (k : StoOk g μ S H) (r : Rep g μ S H v x) :
    ∃ c a dx vs F, v = .ref a ∧ H a = some (.ins (g.ca c) dx vs) ∧ vs.lookup m = none ∧ (c, F) ∈ T ∧ Q F μ S H := by
  obtain ⟨c, fs, a, dx, vs, ev, ea, rf, h2⟩ := Wp.insD (Wp.bind h) k r
  obtain ⟨hn, h3⟩ := Wp.need (Wp.bind h2) k
  obtain ⟨F, e1, h4⟩ := Wp.get h3 k
  exact ⟨c, a, dx, vs, F, ev, ea, rf.none hn, lookup_mem e1, h4 (Step.refl _ _ _) (Step.refl _ _ _)⟩
/-- o.m(k = v, ..) -/
def dMethK0 (T : KTab) (m : Str) (nk : Nat) (fo : DEnv → M D) (fk : DEnv → M (List D)) : DEnv → M D := fun ρ => do
  let x ← fo ρ
  let F ← pickK T m x
  let bs ← fk ρ
  M.need (bs.length = nk)
  F [x] bs
theorem pd_methK0 {pl : Sem Bool} {T : KTab} {m : Str} {o : Expr} {fo : DEnv → M D} {kws : List Keyword} {fk : DEnv → M (List D)} {pos apos : Pos} (hT : ∀ q ∈ T, MetK X.prog X.w X.K X.mg X.base ca k q.1 m 0 ks q.2) (hr : Room k X.A) (tk : Takes X W) (ho : PE X o (tD (gx X ca) W fo))
    (hkw : PK X kws (tDA (gx X ca) W fk)) (hall : (backToKw pos (keywordEach kws X.env)).all (·.1.isSome) = true := by rfl) (hks : (backToKw pos (keywordEach kws X.env)).filterMap (·.1) = ks := by rfl)
    (hpl : ((backTo pos (starEach [] X.env)).any (·.1) || (backToKw pos (keywordEach kws X.env)).any (·.1.isNone)) = false := by rfl)
    (ht : eval (.Call (.Attribute o m apos) [] kws pos) X.env = (do
      let ov ← eval o X.env
      standAt apos.atName
      let (f, first) ← holding [ov] (getMethod ov m pl)
      callWith pos f first (backTo pos (starEach [] X.env)) (backToKw pos (keywordEach kws X.env))) := by rfl) :
    PE X (.Call (.Attribute o m apos) [] kws pos) (tD (gx X ca) W (dMethK0 T m ks.length fo fk)) := by
  refine ⟨fun pins s σ H Q I ⟨ρ, μ, S, env, sto, h⟩ => PySem.W.methodCall_KW (pl := pl) ?_ ht⟩
  have first : tD (gx X ca) W fo σ H fun v H1 => ∃ ρ μ1 S1 d, EnvOk (gx X ca) μ1 S1 H1 σ ρ ∧ StoOk (gx X ca) μ1 S1 H1 ∧ Rep (gx X ca) μ1 S1 H1 v d ∧
      Wp (gx X ca) (fun c d H' => W c d σ H') (do let F ← pickK T m d; let bs ← fk ρ; M.need (bs.length = ks.length); F [d] bs) μ1 S1 H1 fun d μ' S' H' => ∀ v, Rep (gx X ca) μ' S' H' v d → Q v H' :=
    tD_then env sto h fun d μ1 S1 H1 v t1 k1 env1 r1 h1 => ⟨ρ, μ1, S1, d, env1, k1, r1, h1⟩
  refine thn (ho.run pins s σ H _ I first) fun u s1 ⟨x, H1, I1, rx, ρ, μ1, S1, d, env1, k1, r1, h1⟩ => ?_
  obtain ⟨c, a, dx, vs, F, rfl, ea, hn, hF, h2⟩ := Wp.pickK (Wp.bind h1) k1 r1
  obtain rfl : u = Value.ref a := rx
  obtain ⟨f, cl, mt, G⟩ := (hT _ hF).ex
  refine getmeth_ok I1 ea cl mt hn ?_
  have args : tDA (gx X ca) W fk σ H1 fun vs2 H2 => ∃ μ2 S2 bs, Rep (gx X ca) μ2 S2 H2 (V.ref a) d ∧ RepAll (gx X ca) μ2 S2 H2 vs2 bs ∧ bs.length = ks.length ∧ StoOk (gx X ca) μ2 S2 H2 ∧
      Wp (gx X ca) (fun c d H' => W c d σ H') (F [d] bs) μ2 S2 H2 fun d μ' S' H' => ∀ v, Rep (gx X ca) μ' S' H' v d → Q v H' :=
    tDA_then env1 k1 (h2.mono fun _ _ _ _ t _ z => z t) fun as μ2 S2 H2 vs t2 k2 env2 r2 h3 => by
      obtain ⟨hl, h4⟩ := Wp.need (Wp.bind h3) k2
      exact ⟨μ2, S2, as, r1.step t2, r2, hl, k2, h4.mono fun _ _ _ _ t _ z => z t⟩
  refine PySem.W.callWith_KW0 (first := [.ref a]) (h₀ := X.base) I.ok.mod.kin mt.kp hall (thn (hkw.run pos pins s1 σ H1 _ I1 args) fun us s2 ⟨vs2, H2, I2, r, μ2, S2, bs, ra, rb, hl, k2, h4⟩ => ⟨I2.kIn, ?_⟩) hpl
  rw [hks]
  exact run_calK G hr I2.env0 (fun e s' c => takes_at tk σ I2 c) I2 (us := [.ref a]) (vs := [.ref a]) (.cons rfl .nil) r (.cons ra .nil) rb rfl hl k2 h4
end
end DD

/-! DD15: texts walked; a, b, c = x, y, z; defs with defaults; what stands at the top -/
namespace DD
open PySem PySem.Spec PyProof.Rows L2

/-! ### the signs of a text -/
def signsD (x : Str) : List D := x.cps.toList.map fun c => .str ⟨#[c]⟩
theorem itd_str {g : Gx} {μ : Gh} {S : Sto} {H : Hp} (x : Str) : ItD g (Its x) (signsD x) none μ S H where
  go := fun i y μ' S' H' e t k _ => by
    have := (List.getElem?_eq_some_iff.mp e).1
    show i < x.cps.size
    simpa [signsD] using this
  stop := fun μ' S' H' t k _ => by
    show x.cps.size ≤ _
    simp [signsD]
  yld := fun i y μ' S' H' v H2 e t k _ q => by
    obtain ⟨rfl, c, hc, rfl⟩ := q
    have e2 : y = .str ⟨#[c]⟩ := by
      unfold signsD at e
      rw [List.getElem?_map, Array.getElem?_toList, hc] at e
      exact (Option.some.inj e).symm
    subst e2
    exact ⟨Step.refl _ _ _, k, .str _⟩
def srcStr (f : DEnv → M D) : DEnv → M Src := fun ρ => do
  let d ← f ρ
  let x ← toS d
  pure (signsD x, none)
section
variable {X : Cx} {ca : Nat → Addr} {W : WX} {e tg : Expr} {f : DEnv → M D}
theorem id_str (he : PE X e (tD (gx X ca) W f)) : PI X tg e (tI (gx X ca) W (srcStr f)) :=
  piOf (pi_str he) fun σ H R ⟨ρ, μ, S, env, sto, h⟩ => tD_then env sto h fun d μ1 S1 H1 v t1 k1 env1 r1 h1 => by
    obtain ⟨x, rfl, h2⟩ := Wp.toS (Wp.bind h1) k1 r1
    exact ⟨x, rfl, Wp.pure h2 k1 (Step.refl _ _ _) _ (itd_str x)⟩
def sPar3 (i j l : Nat) (fs : DEnv → M (List D)) : DEnv → M Fl := fun ρ => M.cat (fs ρ) ρ fun ds => match ds with
  | [a, b, c] => pure (.nx (((ρ.set i (some a)).set j (some b)).set l (some c)))
  | _ => M.bad
theorem rep3 {g : Gx} {μ : Gh} {S : Sto} {H : Hp} {vs : List V} {d e f : D} (r : RepAll g μ S H vs [d, e, f]) : ∃ v u w, vs = [v, u, w] ∧ Rep g μ S H v d ∧ Rep g μ S H u e ∧ Rep g μ S H w f := by
  cases r with
  | cons r q =>
    obtain ⟨u, w, rfl, r2, r3⟩ := rep2 q
    exact ⟨_, u, w, rfl, r, r2, r3⟩
theorem sd_par3 (i j l : Nat) {x y z : Str} {a b c : Expr} {px py pz pt pt2 pos : Pos} {kt k2 : Nat} {fs : DEnv → M (List D)} (hc : X.calm = true) (hN : X.N.Nodup) (ha : PA X [a, b, c] (tDA (gx X ca) W fs)) (hi : X.N[i]? = some x := by rfl) (hj : X.N[j]? = some y := by rfl) (hl : X.N[l]? = some z := by rfl)
    (hij : i ≠ j := by decide) (hil : i ≠ l := by decide) (hjl : j ≠ l := by decide)
    (hx : X.env.scope.names.lookup x = some .local := by rfl) (hy : X.env.scope.names.lookup y = some .local := by rfl) (hz : X.env.scope.names.lookup z = some .local := by rfl)
    (hw : swappedStores [.Tuple [.Name x px, .Name y py, .Name z pz] kt pt] (.Tuple [a, b, c] k2 pt2) X.env = pure (some [x, y, z]) := by rfl)
    (hs : swapsWithSole [.Tuple [.Name x px, .Name y py, .Name z pz] kt pt] (.Tuple [a, b, c] k2 pt2) pos.line X.env = pure false := by rfl) :
    PS X (.Assign [.Tuple [.Name x px, .Name y py, .Name z pz] kt pt] (.Tuple [a, b, c] k2 pt2) pos) (tS (gx X ca) W (sPar3 i j l fs)) :=
  psOf (ps_par3 hc hN hi hj hl hij hil hjl hx hy hz ha hw hs) fun E σ H ⟨ρ, μ, S, env, sto, h⟩ => sDA_then env sto h fun ds μ1 S1 H1 vs t1 k1 env1 r1 h1 => by
    match ds, r1, h1 with
    | [d1, d2, d3], r1, h1 =>
      obtain ⟨v, u, w, rfl, q1, q2, q3⟩ := rep3 r1
      exact ⟨v, u, w, rfl, Wp.pure h1 k1 _ (((env1.set i q1).set j q2).set l q3)⟩
    | [], _, h1 => exact (show False from h1).elim
    | [_], _, h1 => exact (show False from h1).elim
    | [_, _], _, h1 => exact (show False from h1).elim
    | _ :: _ :: _ :: _ :: _, _, h1 => exact (show False from h1).elim
end

/-! ### what stands at the top -/
section
variable {P : Program} {w : World} {K : PySem.W.Frag} {mg : Str → Option Value} {base : Heap} {ca : Nat → Addr}
/-- a def of the module, no defaults -/
structure Def (K : PySem.W.Frag) (mg : Str → Option Value) (x : Str) (st : Stmt) (ps : List Str) : Prop where
  ex : ∃ f fd, Fun K x x st f fd ∧ mg x = some (.ref f) ∧ Binds K fd ps []
theorem Def.mk' {x : Str} {st : Stmt} {ps : List Str} {h : Heap} {f : Addr} {oc : Value} {od an : Option Addr} {osl : Array (Option Value)} {kV doc pm cdv ct : Value} (X : K.In h) (G : h.Ns mainGlobals mg)
    (b : ∀ (kV doc pm : Value) (an : Option Addr) (cdv ct : Value) (us : List Value), us.length = ps.length → bindArgs (PySem.W.fnOf x x (defArgs st) (defBody st) (defScope st) .none kV doc pm an cdv ct) ⟨us, []⟩ = pure (ps.zip us))
    (a : PySem.W.nsIn K mainGlobals x = some (some (.ref f))) (l : K.lookup f = some ⟨oc, od, .func (PySem.W.fnOf x x (defArgs st) (defBody st) (defScope st) .none kV doc pm an cdv ct), osl⟩)
    (c : PySem.W.codeIn K cdv x = true) (k : PySem.W.keepIn K (.ref f) = true) : Def K mg x st ps := by
  have F := fun_mk (st := st) l c k
  exact ⟨f, _, F, PySem.W.mg_of X G a, F.binds b⟩
theorem Def.has {x : Str} {st : Stmt} {N ps : List Str} {k n : Nat} {fb : DEnv → M Fl} (d : Def K mg x st ps) (sc : FnScope N ps (defScope st)) (hn : ps.length = n)
    (body : ∀ (f : Addr) (cdv : Value) (A : Around) (outer : List Env) (s : Shared) (H : Hp) (E : XK), Room k (cxD P w K mg base N x (defScope st) f cdv A outer s H E).A → Takes (cxD P w K mg base N x (defScope st) f cdv A outer s H E) (wD E) →
      PassesOwn (model P w) (cxD P w K mg base N x (defScope st) f cdv A outer s H E).A (cxD P w K mg base N x (defScope st) f cdv A outer s H E).env (cxD P w K mg base N x (defScope st) f cdv A outer s H E).xe →
      PSs (cxD P w K mg base N x (defScope st) f cdv A outer s H E) (defBody st) (tS ⟨K, ca⟩ (wD E) fb)) : Has P w K mg base ca (k + 1) x n (runF N.length fb) := by
  obtain ⟨f, fd, F, hm, hb⟩ := d.ex
  exact ⟨f, fd, ps, fn_D F sc hn (body f), hm, F.kp, hb⟩
/-- a method, no defaults -/
structure DefM (K : PySem.W.Frag) (ca : Nat → Addr) (c : Nat) (x qual : Str) (st : Stmt) (ps : List Str) : Prop where
  ex : ∃ f fd, Fun K x qual st f fd ∧ Meth K (ca c) x f ∧ PySem.W.fnIn K f = true ∧ Binds K fd ps []
theorem DefM.mk' {c : Nat} {x qual : Str} {st : Stmt} {ps : List Str} {f : Addr} {oc : Value} {od an : Option Addr} {osl : Array (Option Value)} {kV doc pm cdv ct : Value}
    (b : ∀ (kV doc pm : Value) (an : Option Addr) (cdv ct : Value) (us : List Value), us.length = ps.length → bindArgs (PySem.W.fnOf x qual (defArgs st) (defBody st) (defScope st) .none kV doc pm an cdv ct) ⟨us, []⟩ = pure (ps.zip us))
    (a : PySem.W.findIn K (.ref (ca c)) x = some (some (.ref f))) (i : PySem.W.isFn K (.ref f) = true) (l : K.lookup f = some ⟨oc, od, .func (PySem.W.fnOf x qual (defArgs st) (defBody st) (defScope st) .none kV doc pm an cdv ct), osl⟩)
    (cc : PySem.W.codeIn K cdv qual = true) (k : PySem.W.keepIn K (.ref f) = true) : DefM K ca c x qual st ps := by
  have F := fun_mk (st := st) l cc k
  refine ⟨f, _, F, ⟨a, i, k⟩, ?_, F.binds b⟩
  unfold PySem.W.fnIn
  rw [l]
theorem DefM.cal {c : Nat} {x qual : Str} {st : Stmt} {N ps : List Str} {k n : Nat} {fb : DEnv → M Fl} (d : DefM K ca c x qual st ps) (sc : FnScope N ps (defScope st)) (hn : ps.length = n)
    (body : ∀ (f : Addr) (cdv : Value) (A : Around) (outer : List Env) (s : Shared) (H : Hp) (E : XK), Room k (cxD P w K mg base N qual (defScope st) f cdv A outer s H E).A → Takes (cxD P w K mg base N qual (defScope st) f cdv A outer s H E) (wD E) →
      PassesOwn (model P w) (cxD P w K mg base N qual (defScope st) f cdv A outer s H E).A (cxD P w K mg base N qual (defScope st) f cdv A outer s H E).env (cxD P w K mg base N qual (defScope st) f cdv A outer s H E).xe →
      PSs (cxD P w K mg base N qual (defScope st) f cdv A outer s H E) (defBody st) (tS ⟨K, ca⟩ (wD E) fb)) :
    ∃ f, Meth K (ca c) x f ∧ PySem.W.fnIn K f = true ∧ Cal P w K mg base ca (k + 1) f n (runF N.length fb) := by
  obtain ⟨f, fd, F, hm, hi, hb⟩ := d.ex
  exact ⟨f, hm, hi, .of (fn_D F sc hn (body f)) hb⟩
theorem met_of {c k n : Nat} {x : Str} {F : List D → M D} (cl : Cls K (ca c)) (h : ∃ f, Meth K (ca c) x f ∧ PySem.W.fnIn K f = true ∧ Cal P w K mg base ca k f (n + 1) F) : MetAt P w K mg base ca k c x n F := by
  obtain ⟨f, h1, h2, h3⟩ := h
  exact ⟨f, cl, h1, h3⟩
theorem slt_of {c k n : Nat} {x : Str} {F : List D → M D} (h : ∃ f, Meth K (ca c) x f ∧ PySem.W.fnIn K f = true ∧ Cal P w K mg base ca k f n F) : SltAt P w K mg base ca k c x n F := by
  obtain ⟨f, h1, h2, h3⟩ := h
  exact ⟨f, h1.at_, h2, h1.fn, h3⟩
/-- the keywords' order of a method without defaults -/
theorem DefM.kw {c : Nat} {x qual : Str} {st : Stmt} {N ps : List Str} {k : Nat} {fb : DEnv → M Fl} (d : DefM K ca c x qual st ps) (cl : Cls K (ca c)) (sc : FnScope N ps (defScope st)) (m : Nat) (ks : List Str) (sel : List (Bool × Nat)) (hn : ps.length = sel.length) (hs : ∀ p ∈ sel, p.2 < if p.1 then m + 1 else ks.length)
    (hb : ∀ (fd : FuncData), (∃ kV doc pm an cdv ct, fd = PySem.W.fnOf x qual (defArgs st) (defBody st) (defScope st) .none kV doc pm an cdv ct) → ∀ (us ws : List Value), us.length = m + 1 → ws.length = ks.length → bindArgs fd ⟨us, ks.zip ws⟩ = pure (ps.zip (selG sel us ws)))
    (body : ∀ (f : Addr) (cdv : Value) (A : Around) (outer : List Env) (s : Shared) (H : Hp) (E : XK), Room k (cxD P w K mg base N qual (defScope st) f cdv A outer s H E).A → Takes (cxD P w K mg base N qual (defScope st) f cdv A outer s H E) (wD E) →
      PassesOwn (model P w) (cxD P w K mg base N qual (defScope st) f cdv A outer s H E).A (cxD P w K mg base N qual (defScope st) f cdv A outer s H E).env (cxD P w K mg base N qual (defScope st) f cdv A outer s H E).xe →
      PSs (cxD P w K mg base N qual (defScope st) f cdv A outer s H E) (defBody st) (tS ⟨K, ca⟩ (wD E) fb)) : MetK P w K mg base ca (k + 1) c x m ks (fun as bs => runF N.length fb (selG sel as bs)) := by
  obtain ⟨f, fd, F, hm, hi, hb0⟩ := d.ex
  refine ⟨f, cl, hm, fd, ps, sel, _, fn_D F sc hn (body f), hs, fun s us ws h1 h2 => .of_eq (hb fd ?_ us ws h1 h2), rfl⟩
  obtain ⟨oc, od, kV, doc, pm, an, cdv, ct, osl, e, _⟩ := F.ex
  exact ⟨kV, doc, pm, an, cdv, ct, e⟩
/-- a property -/
structure DefP (K : PySem.W.Frag) (ca : Nat → Addr) (c : Nat) (x qual : Str) (st : Stmt) : Prop where
  ex : ∃ p f fd, Fun K x qual st f fd ∧ PropOf K (ca c) x p f ∧ Binds K fd ["self"] []
theorem DefP.mk' {c : Nat} {x qual : Str} {st : Stmt} {p f : Addr} {rest : List Value} {oc : Value} {od an : Option Addr} {osl : Array (Option Value)} {kV doc pm cdv ct : Value}
    (b : ∀ (kV doc pm : Value) (an : Option Addr) (cdv ct : Value) (us : List Value), us.length = 1 → bindArgs (PySem.W.fnOf x qual (defArgs st) (defBody st) (defScope st) .none kV doc pm an cdv ct) ⟨us, []⟩ = pure ((["self"] : List Str).zip us))
    (a : PySem.W.findIn K (.ref (ca c)) x = some (some (.ref p))) (ge : PySem.W.specialIn K (.ref p) "__get__" = some (some (.builtin "property.__get__"))) (ta : PySem.W.takesIn K (.ref p) = some true) (re : PySem.W.recIn K p "property" = some (.ref f :: rest))
    (l : K.lookup f = some ⟨oc, od, .func (PySem.W.fnOf x qual (defArgs st) (defBody st) (defScope st) .none kV doc pm an cdv ct), osl⟩)
    (cc : PySem.W.codeIn K cdv qual = true) (k : PySem.W.keepIn K (.ref f) = true) : DefP K ca c x qual st := by
  have F := fun_mk (st := st) l cc k
  exact ⟨p, f, _, F, ⟨a, ge, ta, rest, re⟩, F.binds (ps := ["self"]) b⟩
theorem DefP.at {c : Nat} {x qual : Str} {st : Stmt} {N : List Str} {k : Nat} {fb : DEnv → M Fl} (d : DefP K ca c x qual st) (cl : Cls K (ca c)) (sc : FnScope N ["self"] (defScope st))
    (body : ∀ (f : Addr) (cdv : Value) (A : Around) (outer : List Env) (s : Shared) (H : Hp) (E : XK), Room k (cxD P w K mg base N qual (defScope st) f cdv A outer s H E).A → Takes (cxD P w K mg base N qual (defScope st) f cdv A outer s H E) (wD E) →
      PassesOwn (model P w) (cxD P w K mg base N qual (defScope st) f cdv A outer s H E).A (cxD P w K mg base N qual (defScope st) f cdv A outer s H E).env (cxD P w K mg base N qual (defScope st) f cdv A outer s H E).xe →
      PSs (cxD P w K mg base N qual (defScope st) f cdv A outer s H E) (defBody st) (tS ⟨K, ca⟩ (wD E) fb)) : PropAt P w K mg base ca (k + 1) c x (runF N.length fb) := by
  obtain ⟨p, f, fd, F, hp, hb⟩ := d.ex
  exact ⟨p, f, fd, cl, hp, fn_D F sc rfl (body f), hb⟩
/-- an __init__: no defaults, or one tuple of them (dvs: as values, dd: as data) -/
structure DefI (K : PySem.W.Frag) (mg : Str → Option Value) (ca : Nat → Addr) (c : Nat) (cn qual : Str) (st : Stmt) (ps : List Str) (dd : List D) : Prop where
  ex : ∃ f fd us ws, (∀ {P : Program} {w : World} {base : Heap} {N : List Str} {k : Nat} {fb : DEnv → M Fl}, FnScope N ps (defScope st) →
      (∀ (f : Addr) (cdv : Value) (A : Around) (outer : List Env) (s : Shared) (H : Hp) (E : XK), Room k (cxD P w K mg base N qual (defScope st) f cdv A outer s H E).A → Takes (cxD P w K mg base N qual (defScope st) f cdv A outer s H E) (wD E) →
        PassesOwn (model P w) (cxD P w K mg base N qual (defScope st) f cdv A outer s H E).A (cxD P w K mg base N qual (defScope st) f cdv A outer s H E).env (cxD P w K mg base N qual (defScope st) f cdv A outer s H E).xe →
        PSs (cxD P w K mg base N qual (defScope st) f cdv A outer s H E) (defBody st) (tS ⟨K, ca⟩ (wD E) fb)) → FnOk P w K mg base (L2.CX P w) (k + 1) f fd ps (spD ⟨K, ca⟩ ps.length (runF N.length fb))) ∧
    Mk K (ca c) f ∧ mg cn = some (.ref (ca c)) ∧ Binds K fd ps us ∧ Vals ws us ∧ ∀ μ S H, RepAll ⟨K, ca⟩ μ S H ws dd
theorem DefI.at {c : Nat} {cn qual : Str} {st : Stmt} {ps N : List Str} {dd : List D} {k n : Nat} {fb : DEnv → M Fl} (d : DefI K mg ca c cn qual st ps dd) (sc : FnScope N ps (defScope st)) (hn : n + 1 + dd.length = ps.length)
    (body : ∀ (f : Addr) (cdv : Value) (A : Around) (outer : List Env) (s : Shared) (H : Hp) (E : XK), Room k (cxD P w K mg base N qual (defScope st) f cdv A outer s H E).A → Takes (cxD P w K mg base N qual (defScope st) f cdv A outer s H E) (wD E) →
      PassesOwn (model P w) (cxD P w K mg base N qual (defScope st) f cdv A outer s H E).A (cxD P w K mg base N qual (defScope st) f cdv A outer s H E).env (cxD P w K mg base N qual (defScope st) f cdv A outer s H E).xe →
      PSs (cxD P w K mg base N qual (defScope st) f cdv A outer s H E) (defBody st) (tS ⟨K, ca⟩ (wD E) fb)) : MakAt P w K mg base ca (k + 1) cn c n (fun as => runF N.length fb (as ++ dd)) := by
  obtain ⟨f, fd, us, ws, h1, h2, h3, h4, h5, h6⟩ := d.ex
  exact ⟨f, h2, h3, fd, ps, us, ws, dd, ps.length, _, h1 sc body, h4, h5, h6, hn, rfl⟩
theorem DefI.mk' {c : Nat} {cn qual : Str} {st : Stmt} {ps : List Str} {f : Addr} {oc : Value} {od an : Option Addr} {osl : Array (Option Value)} {kV doc pm cdv ct : Value}
    (b : ∀ (kV doc pm : Value) (an : Option Addr) (cdv ct : Value) (us : List Value), us.length = ps.length → bindArgs (PySem.W.fnOf "__init__" qual (defArgs st) (defBody st) (defScope st) .none kV doc pm an cdv ct) ⟨us, []⟩ = pure (ps.zip us))
    (hm : mg cn = some (.ref (ca c))) (M : Mk K (ca c) f) (l : K.lookup f = some ⟨oc, od, .func (PySem.W.fnOf "__init__" qual (defArgs st) (defBody st) (defScope st) .none kV doc pm an cdv ct), osl⟩)
    (cc : PySem.W.codeIn K cdv qual = true) (k : PySem.W.keepIn K (.ref f) = true) : DefI K mg ca c cn qual st ps [] := by
  have F := fun_mk (st := st) l cc k
  exact ⟨f, _, [], [], fun sc body => fn_D F sc rfl (body f), M, hm, F.binds b, .nil, fun _ _ _ => .nil⟩
/-- with defaults: n are written, those behind the first j fill up -/
theorem DefI.mkD {c : Nat} {cn qual : Str} {st : Stmt} {ps : List Str} {dvs : List V} {dd : List D} {f : Addr} {fd : FuncData} (n j : Nat) (F : FunD K "__init__" qual (defArgs st) (defBody st) (defScope st) dvs [] f fd) (hd : dvs ≠ []) (hn : n + (dvs.length - j) = ps.length)
    (b : ∀ (T : Addr) (kV doc pm : Value) (an : Option Addr) (cdv ct : Value) (us its : List Value), us.length = n → its.length = dvs.length →
      ∃ k, bindArgs (PySem.W.fnOf "__init__" qual (defArgs st) (defBody st) (defScope st) (.ref T) kV doc pm an cdv ct) ⟨us, []⟩ = seqItems? (.ref T) >>= k ∧ k (some its.toArray) = pure (ps.zip (us ++ its.drop j)))
    (hm : mg cn = some (.ref (ca c))) (M : Mk K (ca c) f) (rd : ∀ μ S H, RepAll ⟨K, ca⟩ μ S H (dvs.drop j) dd) : DefI K mg ca c cn qual st ps dd := by
  obtain ⟨ds, hv, hb⟩ := F.binds1 (ps := ps) n j hd hn b
  refine ⟨f, fd, ds, dvs.drop j, fun sc body => F.ok sc (fun vs H Q E h => ?_) (fun cdv A outer s H vs Q E hr h => ⟨_, body f cdv A outer s H E hr (takes_of rfl rfl rfl rfl) (passes_of rfl), sp_body h⟩), M, hm, hb, hv, rd⟩
  obtain ⟨_, _, _, hl, _⟩ := h
  exact hl
end
end DD

/-! DD16: y = [.. for ..]; names of built-in types -/
namespace DD
open PySem PySem.Spec PyProof.Rows L2
section
variable {X : Cx} {ca : Nat → Addr} {W : WX} {elt tg iter : Expr} {ifs : List Expr} {scope : Scope} {own : List (Str × Nat)} {pos spos py : Pos} {src : DEnv → M Src} {is : List Nat} {k : D → DEnv → M DEnv} {tt : DEnv → M Bool} {te : DEnv → M D}
theorem sd_ofAsg {st : Stmt} {i : Nat} {t : TE} {f : DEnv → M D} (h : PS X st (tAsg t (gName i))) (ht : ∀ σ H Q, tD (gx X ca) W f σ H Q → t σ H Q) : PS X st (tS (gx X ca) W (sSet i f)) :=
  psOf h fun E σ H ⟨ρ, μ, S, env, sto, h⟩ => ht σ H _ (sD_then env sto h fun d μ1 S1 H1 v t1 k1 env1 r1 h1 => Wp.pure h1 k1 _ (env1.set i r1))
theorem dlc_t {σ : L2.St} {H : Hp} {Q : VK} {g : Gx} (his : ∀ i ∈ is, i ∈ own.map (·.2)) (h : tD g W (dLc src k tt te (own.map (·.2))) σ H Q) : tLc (tI g W src) (tG g is k) (tDT g WF tt) (tD g WF te) (own.map (·.2)) σ H Q := by
  obtain ⟨ρ, μ, S, env, sto, h⟩ := h
  exact ⟨ρ, μ, S, env, sto, (Wp.bind h).mono fun s μ1 S1 H1 t1 k1 w J hJ D0 hD => by
    obtain ⟨ys, S2, e, w2⟩ := Wp.nx (Wp.bind w)
    refine lc_turns his (env.step t1) k1 hJ hD e fun μ2 H2 ws t2 k2 hx hD2 ra => ?_
    have t3 := t2.dropG (p := D0) fun h => k1.ext D0 h hD
    have k3 := k2.dropG (p := D0)
    exact Wp.pure (w2 _ _ t3 k3) k3 t3 (t1.trans t3) _ (.lst ⟨hD2, drop_nheld k2 hx⟩ (ra.stepR drop_stepR))⟩
theorem dlcC_t {σ : L2.St} {H : Hp} {Q : VK} {g : Gx} (his : ∀ i ∈ is, i ∈ own.map (·.2)) (h : tD g W (dLcC src k tt te (own.map (·.2))) σ H Q) : tLc (tI g W src) (tG g is k) (tDT g WF tt) (tD g WF te) (own.map (·.2)) σ H Q := by
  obtain ⟨ρ, μ, S, env, sto, h⟩ := h
  exact ⟨ρ, μ, S, env, sto, (Wp.bind h).mono fun s μ1 S1 H1 t1 k1 w J hJ D0 hD => by
    obtain ⟨ys, S2, e, w2⟩ := Wp.nx (Wp.bind w)
    refine lc_turns his (env.step t1) k1 hJ hD e fun μ2 H2 ws t2 k2 hx hD2 ra => ?_
    have hn : D0 ∉ μ1.ex := fun h => k1.ext D0 h hD
    obtain ⟨k4, r4⟩ := sto_adopt k2 hx hD2 ra
    have t4 : Step μ1 S1 H1 (adoptG μ2 D0) (S2 ++ [some (.lst ys)]) H2 := t2.adopt k2 hD hn
    exact (w2 _ _ (Step.dropG t2 hn) k2.dropG |> fun _ => by
      have en : (do let ys ← M.nx (dLcGo s.2 k tt te (wipeD ρ (own.map (·.2))) s.1 []); newCell ys : M D) S1 = .ok (.cell S2.length) (S2 ++ [some (.lst ys)]) := by
        rw [M.bind_run]
        have z : M.nx (dLcGo s.2 k tt te (wipeD ρ (own.map (·.2))) s.1 []) S1 = .ok ys S2 := by
          unfold M.nx
          rw [e]
        rw [z]
        rfl
      rcases w.run with ⟨d, S', e', w'⟩ | ⟨_, _, _, e', _⟩
      · rw [en] at e'
        cases e'
        exact w' _ _ t4 k4 (t1.trans t4) _ r4
      · rw [en] at e'
        cases e')⟩
theorem sd_setLc (i : Nat) {y : Str} (hc : X.calm = true) (hN : X.N.Nodup) (hi : PI X tg iter (tI (gx X ca) W src)) (ok : BlkOk X.N X.env.scope scope own)
    (hg : ∀ (s : Shared) (H : Hp) (C : Addr) (cl : List (Str × Addr)) (fp : List Addr), PG (X.blk s H scope (compEnvC scope cl C X.env) fp) tg (tG (gx X ca) is k)) (his : ∀ i ∈ is, i ∈ own.map (·.2))
    (ht : ∀ (s : Shared) (H : Hp) (C : Addr) (cl : List (Str × Addr)) (fp : List Addr), PTs (X.blk s H scope (compEnvC scope cl C X.env) fp) ifs (tDT (gx X ca) WF tt))
    (he : ∀ (s : Shared) (H : Hp) (C : Addr) (cl : List (Str × Addr)) (fp : List Addr), PE (X.blk s H scope (compEnvC scope cl C X.env) fp) elt (tD (gx X ca) WF te)) (hy : X.N[i]? = some y := by rfl) (hyl : X.env.scope.names.lookup y = some .local := by rfl)
    (hsw : swapsWith (.ListComp elt [⟨tg, iter, ifs, 0⟩] scope pos) (some (.Name y py)) spos.line X.env = pure true := by exact sw_true rfl rfl rfl (by decide +kernel)) (hs : ∀ x, foldedSetIterable iter X.env x = pure x := by intro _; rfl) :
    PS X (.Assign [.Name y py] (.ListComp elt [⟨tg, iter, ifs, 0⟩] scope pos) spos) (tS (gx X ca) W (sSet i (dLc src k tt te (own.map (·.2))))) :=
  sd_ofAsg (ps_setLc hc hN hy hyl hsw hi ok hg ht he hs) fun σ H Q h => dlc_t his h
theorem sd_setLcC (i : Nat) {y : Str} (hc : X.calm = true) (hN : X.N.Nodup) (hi : PI X tg iter (tI (gx X ca) W src)) (ok : BlkOk X.N X.env.scope scope own)
    (hg : ∀ (s : Shared) (H : Hp) (C : Addr) (cl : List (Str × Addr)) (fp : List Addr), PG (X.blk s H scope (compEnvC scope cl C X.env) fp) tg (tG (gx X ca) is k)) (his : ∀ i ∈ is, i ∈ own.map (·.2))
    (ht : ∀ (s : Shared) (H : Hp) (C : Addr) (cl : List (Str × Addr)) (fp : List Addr), PTs (X.blk s H scope (compEnvC scope cl C X.env) fp) ifs (tDT (gx X ca) WF tt))
    (he : ∀ (s : Shared) (H : Hp) (C : Addr) (cl : List (Str × Addr)) (fp : List Addr), PE (X.blk s H scope (compEnvC scope cl C X.env) fp) elt (tD (gx X ca) WF te)) (hy : X.N[i]? = some y := by rfl) (hyl : X.env.scope.names.lookup y = some .local := by rfl)
    (hsw : swapsWith (.ListComp elt [⟨tg, iter, ifs, 0⟩] scope pos) (some (.Name y py)) spos.line X.env = pure true := by exact sw_true rfl rfl rfl (by decide +kernel)) (hs : ∀ x, foldedSetIterable iter X.env x = pure x := by intro _; rfl) :
    PS X (.Assign [.Name y py] (.ListComp elt [⟨tg, iter, ifs, 0⟩] scope pos) spos) (tS (gx X ca) W (sSet i (dLcC src k tt te (own.map (·.2))))) :=
  sd_ofAsg (ps_setLc hc hN hy hyl hsw hi ok hg ht he hs) fun σ H Q h => dlcC_t his h
theorem pd_ty {x : Str} {T : String} (hm : X.mg x = none) (hv : bootBuiltins x = some (.type T)) (hg : Gl X x := by rfl) (hn : x ≠ "__name__" := by decide) (hd : (x == ("__debug__" : Str)) = false := by decide) : PE X (.Name x pos) (tD (gx X ca) W (dC (.ty T))) :=
  pd_c (pe_bltn hg hm hv (v := .ty T) rfl hn hd) fun _ _ _ => .ty T
end
end DD

/-! DD17: tables of one class; a promise that asks for nothing; the law's end -/
namespace DD
open PySem PySem.Spec PyProof.Rows L2
section
variable {P : Program} {w : World} {K : PySem.W.Frag} {mg : Str → Option Value} {base : Heap} {ca : Nat → Addr} {k c n : Nat} {m : Str} {F : List D → M D}
theorem met1 {j : Nat} (h : MetAt P w K mg base ca j c m n F) (l : j ≤ k) : ∀ q ∈ [(c, F)], MetAt P w K mg base ca k q.1 m n q.2 := fun q hq => by
  cases List.mem_singleton.mp hq
  exact h.mono l
theorem slt1 {j : Nat} (h : SltAt P w K mg base ca j c m n F) (l : j ≤ k) : ∀ q ∈ [(c, F)], SltAt P w K mg base ca k q.1 m n q.2 := fun q hq => by
  cases List.mem_singleton.mp hq
  exact h.mono l
theorem prop1 {j : Nat} (h : PropAt P w K mg base ca j c m F) (l : j ≤ k) : ∀ q ∈ [(c, F)], PropAt P w K mg base ca k q.1 m q.2 := fun q hq => by
  cases List.mem_singleton.mp hq
  exact h.mono l
theorem metk1 {j : Nat} {ks : List Str} {G : List D → List D → M D} (h : MetK P w K mg base ca j c m n ks G) (l : j ≤ k) : ∀ q ∈ [(c, G)], MetK P w K mg base ca k q.1 m n ks q.2 := fun q hq => by
  cases List.mem_singleton.mp hq
  exact h.mono l
theorem fld1 {f : Str} (c : Nat) (cl : Cls K (ca c)) (no : NoAttr K (ca c) f) : FldOf K ca [c] f := ⟨fun q hq => by
  cases List.mem_singleton.mp hq
  exact ⟨cl, no⟩⟩
/-- nothing is promised -/
theorem Def.has0 {x : Str} {st : Stmt} {ps : List Str} (d : Def K mg x st ps) (hn : ps.length = n) : Has P w K mg base ca k x n (fun _ => M.bad) := by
  obtain ⟨f, fd, F, hm, hb⟩ := d.ex
  refine ⟨f, fd, ps, ⟨fun vs H Q E h => ?_, fun A outer s H args us vs Q E hr h0 hb hv h => ?_⟩, hm, F.kp, hb⟩
  · obtain ⟨ds, μ, S, _, _, _, h⟩ := h
    exact (show False from h).elim
  · obtain ⟨ds, μ, S, _, _, _, h⟩ := h
    exact (show False from h).elim
end
/-! ### isinstance(x, (T, U)) -/
def tyNames : List D → Option (List String)
  | [] => some []
  | .ty n :: r => (tyNames r).map (n :: ·)
  | _ => none
def dIsaT : List D → M D
  | [x, .tup us] => do
    let t ← tyOfM x
    let ns ← M.get fun _ => tyNames us
    M.need (∀ u ∈ ns, u ∈ ["int", "bool", "str", "list", "tuple"])
    pure (.bl (ns.any (isaT t)))
  | _ => M.bad
def rIsiU (K : PySem.W.Frag) : List V → Hp → VK → Prop := fun xs H Q => ∃ (x : V) (tp : Addr) (cs : List V) (t : Value) (us : List Value) (b : Bool), xs = [x, .ref tp] ∧ SqT K H tp cs ∧ Paired ClsV cs us ∧ TyX K H x t ∧ PySem.W.kitAny K t us = some b ∧ Q (.bl b) H
theorem call_isiU {X : Cx} : CallR X (.builtin "isinstance") (rIsiU X.K) := by
  rintro pins s σ H xs us Q I r ⟨x, tp, cs, t, ws, b, rfl, hT, k, ty, e, q⟩
  obtain ⟨u1, u2, rfl, r1, r2⟩ := vals2 r
  cases (show u2 = Value.ref tp from r2)
  obtain ⟨P, Z, p, hx⟩ := kit_of I r1 ty
  obtain ⟨its, rv, ⟨o, h1, h2, n, h3⟩, _⟩ := I.tuple hT
  cases ClsV.all k rv
  obtain ⟨oc, od, dt, sl⟩ := o
  cases h2
  cases h3
  exact PySem.W.kia_tup Z I.kIn p h1 e hx fun tk => ⟨.bl b, H, I.tok tk, rfl, q⟩
theorem tyNames_rep {g : Gx} {μ : Gh} {S : Sto} {H : Hp} : ∀ {ds : List D} {ns : List String} {vs : List V}, RepAll g μ S H vs ds → tyNames ds = some ns → Paired ClsV vs (ns.map Value.type)
  | [], _, _, .nil, e => by
    cases e
    exact .nil
  | d :: ds, ns, _, .cons r q, e => by
    cases r with
    | ty n =>
      have e' : (tyNames ds).map (n :: ·) = some ns := e
      obtain ⟨m, h1, rfl⟩ := map_some e'
      exact .cons (.ty n) (tyNames_rep q h1)
    | _ => cases e
theorem kitAny_ok {K : PySem.W.Frag} {t : String} (ht : t ∈ ["NoneType", "bool", "int", "str", "tuple", "list"]) : ∀ {ns : List String}, (∀ u ∈ ns, u ∈ ["int", "bool", "str", "list", "tuple"]) → PySem.W.kitAny K (.type t) (ns.map Value.type) = some (ns.any (isaT t))
  | [], _ => rfl
  | u :: ns, h => by
    have h1 := isaT_ok (K := K) t ht u (h u List.mem_cons_self)
    have h2 := kitAny_ok (K := K) ht fun v hv => h v (List.mem_cons_of_mem _ hv)
    show (match PySem.W.kitOne K (.type t) (.type u) with
      | some true => some true
      | some false => PySem.W.kitAny K (.type t) (ns.map Value.type)
      | none => none) = _
    rw [h1, List.any_cons]
    cases isaT t u with
    | true => rfl
    | false => exact h2
theorem isaT_s {g : Gx} : CallS g (rIsiU g.K) dIsaT := by
  intro E μ S H vs xs Q k r h
  unfold dIsaT at h
  split at h
  · obtain ⟨v, u, rfl, r1, r2⟩ := rep2 r
    cases r2 with
    | tup fz q =>
      obtain ⟨t, ht, ty, h1⟩ := tyX_of (t := "") k r1 (Wp.bind h)
      obtain ⟨ns, e1, h2⟩ := Wp.get (Wp.bind h1) k
      obtain ⟨hu, h3⟩ := Wp.need (Wp.bind h2) k
      exact ⟨_, _, _, _, _, _, rfl, fz.sq, tyNames_rep q e1, ty, kitAny_ok ht hu, Wp.pure h3 k (Step.refl _ _ _) (Step.refl _ _ _) (Step.refl _ _ _) _ (.bl _)⟩
  · exact (show False from h).elim
/-- the classes by number -/
def caOf (l : List Addr) (c : Nat) : Addr := l.getD c 0
end DD

/-! DD18: what stands at the top, one by one; the law's end -/
namespace DD
open PySem PySem.Spec PyProof.Rows L2
section
variable {P : Program} {w : World} {K : PySem.W.Frag} {h : Heap} {mg : Str → Option Value} {base : Heap} {ca : Nat → Addr} {c : Nat} {C : Addr}
theorem Cst.int {x : Str} {i : Int} {t : Tok} (X : K.In h) (G : h.Ns mainGlobals mg) (a : PySem.W.nsIn K mainGlobals x = some (some (.int i t))) : Cst mg x (.int i) := ⟨_, PySem.W.mg_of X G a, ⟨t, rfl⟩⟩
theorem Cst.str {x y : Str} {t : Tok} (X : K.In h) (G : h.Ns mainGlobals mg) (a : PySem.W.nsIn K mainGlobals x = some (some (.str y t))) : Cst mg x (.str y) := ⟨_, PySem.W.mg_of X G a, ⟨t, rfl⟩⟩
theorem cls_of (e : ca c = C) (pg : PySem.W.plainGet K C Str.empty = true) (hd : PySem.W.hasDictIn K C = true) (po : PySem.W.plainOver K C = true) (sa : PySem.W.findIn K (.ref C) "__setattr__" = some (some (.builtin "object.__setattr__"))) : Cls K (ca c) := by
  rw [e]
  exact ⟨pg, hd, po, sa⟩
theorem no_of {f : Str} (e : ca c = C) (a : PySem.W.findIn K (.ref C) f = some none) : NoAttr K (ca c) f := by
  rw [e]
  exact a
theorem DefM.of {x qual : Str} {st : Stmt} {ps : List Str} {f : Addr} {oc : Value} {od an : Option Addr} {osl : Array (Option Value)} {kV doc pm cdv ct : Value} (e : ca c = C)
    (b : ∀ (kV doc pm : Value) (an : Option Addr) (cdv ct : Value) (us : List Value), us.length = ps.length → bindArgs (PySem.W.fnOf x qual (defArgs st) (defBody st) (defScope st) .none kV doc pm an cdv ct) ⟨us, []⟩ = pure (ps.zip us))
    (a : PySem.W.findIn K (.ref C) x = some (some (.ref f))) (i : PySem.W.isFn K (.ref f) = true) (l : K.lookup f = some ⟨oc, od, .func (PySem.W.fnOf x qual (defArgs st) (defBody st) (defScope st) .none kV doc pm an cdv ct), osl⟩)
    (cc : PySem.W.codeIn K cdv qual = true) (k : PySem.W.keepIn K (.ref f) = true) : DefM K ca c x qual st ps := .mk' b (by rw [e]; exact a) i l cc k
theorem DefP.of {x qual : Str} {st : Stmt} {p f : Addr} {rest : List Value} {oc : Value} {od an : Option Addr} {osl : Array (Option Value)} {kV doc pm cdv ct : Value} (e : ca c = C)
    (b : ∀ (kV doc pm : Value) (an : Option Addr) (cdv ct : Value) (us : List Value), us.length = 1 → bindArgs (PySem.W.fnOf x qual (defArgs st) (defBody st) (defScope st) .none kV doc pm an cdv ct) ⟨us, []⟩ = pure ((["self"] : List Str).zip us))
    (a : PySem.W.findIn K (.ref C) x = some (some (.ref p))) (ge : PySem.W.specialIn K (.ref p) "__get__" = some (some (.builtin "property.__get__"))) (ta : PySem.W.takesIn K (.ref p) = some true) (re : PySem.W.recIn K p "property" = some (.ref f :: rest))
    (l : K.lookup f = some ⟨oc, od, .func (PySem.W.fnOf x qual (defArgs st) (defBody st) (defScope st) .none kV doc pm an cdv ct), osl⟩)
    (cc : PySem.W.codeIn K cdv qual = true) (k : PySem.W.keepIn K (.ref f) = true) : DefP K ca c x qual st := .mk' b (by rw [e]; exact a) ge ta re l cc k
theorem mak_of {f : Addr} {cn : Str} (e : ca c = C) (X : K.In h) (G : h.Ns mainGlobals mg) (a : PySem.W.nsIn K mainGlobals cn = some (some (.ref C))) (m : PySem.W.makesIn K C = true) (i : PySem.W.findIn K (.ref C) "__init__" = some (some (.ref f))) (fn : PySem.W.isFn K (.ref f) = true) (k : PySem.W.keepIn K (.ref C) = true) :
    Mk K (ca c) f ∧ mg cn = some (.ref (ca c)) := by
  rw [e]
  exact ⟨⟨m, i, fn, k⟩, PySem.W.mg_of X G a⟩
theorem DefI.of {cn qual : Str} {st : Stmt} {ps : List Str} {f : Addr} {oc : Value} {od an : Option Addr} {osl : Array (Option Value)} {kV doc pm cdv ct : Value} (e : ca c = C) (X : K.In h) (G : h.Ns mainGlobals mg)
    (b : ∀ (kV doc pm : Value) (an : Option Addr) (cdv ct : Value) (us : List Value), us.length = ps.length → bindArgs (PySem.W.fnOf "__init__" qual (defArgs st) (defBody st) (defScope st) .none kV doc pm an cdv ct) ⟨us, []⟩ = pure (ps.zip us))
    (a : PySem.W.nsIn K mainGlobals cn = some (some (.ref C))) (m : PySem.W.makesIn K C = true) (i : PySem.W.findIn K (.ref C) "__init__" = some (some (.ref f))) (fn : PySem.W.isFn K (.ref f) = true) (kc : PySem.W.keepIn K (.ref C) = true)
    (l : K.lookup f = some ⟨oc, od, .func (PySem.W.fnOf "__init__" qual (defArgs st) (defBody st) (defScope st) .none kV doc pm an cdv ct), osl⟩)
    (cc : PySem.W.codeIn K cdv qual = true) (k : PySem.W.keepIn K (.ref f) = true) : DefI K mg ca c cn qual st ps [] := by
  obtain ⟨h1, h2⟩ := mak_of (ca := ca) e X G a m i fn kc
  exact .mk' b h2 h1 l cc k
/-- one default: the empty tuple -/
theorem DefI.ofT {cn qual : Str} {st : Stmt} {ps : List Str} {f T0 Te : Addr} {oc : Value} {od an odT odE : Option Addr} {osl slT slE : Array (Option Value)} {kV doc pm cdv ct : Value} {nT nE : Nat} (n : Nat) (e : ca c = C) (X : K.In h) (G : h.Ns mainGlobals mg) (hn1 : n + 1 = ps.length)
    (b : ∀ (T : Addr) (kV doc pm : Value) (an : Option Addr) (cdv ct : Value) (us its : List Value), us.length = n → its.length = 1 →
      ∃ k, bindArgs (PySem.W.fnOf "__init__" qual (defArgs st) (defBody st) (defScope st) (.ref T) kV doc pm an cdv ct) ⟨us, []⟩ = seqItems? (.ref T) >>= k ∧ k (some its.toArray) = pure (ps.zip (us ++ its.drop 0)))
    (b2 : ∀ (T : Addr) (kV doc pm : Value) (an : Option Addr) (cdv ct : Value) (us its : List Value), us.length = n + 1 → its.length = 1 →
      ∃ k, bindArgs (PySem.W.fnOf "__init__" qual (defArgs st) (defBody st) (defScope st) (.ref T) kV doc pm an cdv ct) ⟨us, []⟩ = seqItems? (.ref T) >>= k ∧ k (some its.toArray) = pure (ps.zip (us ++ its.drop 1)))
    (a : PySem.W.nsIn K mainGlobals cn = some (some (.ref C))) (m : PySem.W.makesIn K C = true) (i : PySem.W.findIn K (.ref C) "__init__" = some (some (.ref f))) (fn : PySem.W.isFn K (.ref f) = true) (kc : PySem.W.keepIn K (.ref C) = true)
    (l : K.lookup f = some ⟨oc, od, .func (PySem.W.fnOf "__init__" qual (defArgs st) (defBody st) (defScope st) (.ref T0) kV doc pm an cdv ct), osl⟩)
    (cc : PySem.W.codeIn K cdv qual = true) (k : PySem.W.keepIn K (.ref f) = true) (lT : K.lookup T0 = some ⟨.type "tuple", odT, .seq #[.ref Te] nT, slT⟩) (lE : K.lookup Te = some ⟨.type "tuple", odE, .seq #[] nE, slE⟩) :
    DefI K mg ca c cn qual st ps [.tup []] ∧ DefI K mg ca c cn qual st ps [] := by
  obtain ⟨h1, h2⟩ := mak_of (ca := ca) e X G a m i fn kc
  have F : FunD K "__init__" qual (defArgs st) (defBody st) (defScope st) [.ref Te] [] f (PySem.W.fnOf "__init__" qual (defArgs st) (defBody st) (defScope st) (.ref T0) kV doc pm an cdv ct) :=
    ⟨⟨oc, od, .ref T0, kV, doc, pm, an, cdv, ct, osl, rfl, l, cc, .inr ⟨by simp, T0, _, [.ref Te], nT, rfl, lT, rfl, .cons rfl .nil⟩, .inl rfl⟩, k⟩
  exact ⟨.mkD n 0 F (by simp) (by simpa using hn1) b h2 h1 fun μ S H => .cons (.tup (.inr ⟨_, #[], nE, lE, rfl, rfl, Nat.zero_le _, .nil⟩) .nil) .nil,
    .mkD (n + 1) 1 F (by simp) (by simpa using hn1) b2 h2 h1 fun μ S H => .nil⟩
end

/-! ### short words for the printed text -/
def dB (F : List D → M D) (fs : DEnv → M (List D)) : DEnv → M D := fun ρ => do let ds ← fs ρ; F ds
def tIsN (f : DEnv → M D) : DEnv → M Bool := fun ρ => do let d ← f ρ; pure (isNon d)
def tNotN (f : DEnv → M D) : DEnv → M Bool := fun ρ => do let d ← f ρ; pure !(isNon d)
def isN1 : D → M D := fun d => pure (.bl (isNon d))
def notN1 : D → M D := fun d => pure (.bl !(isNon d))

/-! ### the law's promise -/
def spLaw (K : PySem.W.Frag) : Sp := fun vs H Q _ => ∃ a ns, vs = [.ref a] ∧ List.length ns ≤ 63 ∧ (∀ z ∈ ns, Builtin.Int.intBits z ≤ 1048576) ∧ Only H ∧ SqL K H a (ns.map V.int) ∧ ∀ H', Q (.bl true) H'
theorem ints_rep {g : Gx} {μ : Gh} {S : Sto} {H : Hp} : ∀ ns : List Int, RepAll g μ S H (ns.map V.int) (ns.map D.int)
  | [] => .nil
  | n :: ns => .cons (.int n) (ints_rep ns)
theorem sp_law {K : PySem.W.Frag} {ca : Nat → Addr} {F : List D → M D} (math : ∀ ns : List Int, ns.length ≤ 63 → (∀ z ∈ ns, Builtin.Int.intBits z ≤ 1048576) → ∃ S, F [.rol (ns.map D.int)] [] = .ok (.bl true) S) (vs : List V) (H : Hp) (Q : VK) (E : XK) (h : spLaw K vs H Q E) : spD ⟨K, ca⟩ 1 F vs H Q E := by
  obtain ⟨a, ns, rfl, hl, hb, hO, hS, q⟩ := h
  obtain ⟨S, e⟩ := math ns hl hb
  refine ⟨[.rol (ns.map D.int)], ⟨[], []⟩, [], rfl, .cons (.rol ?_ (ints_rep ns)) .nil, ⟨rfl, fun a l => ?_, fun a h => (by cases h), fun n m c c' a h => (by cases h), fun n c h => (by cases h)⟩, Wp.of_ok e fun μ' H' t k v r => ?_⟩
  · rcases hS with (hS | ⟨o, hS⟩) | hS
    · rcases hO a with z | ⟨o, xs, z⟩
      · rw [hS] at z; cases z
      · rw [hS] at z; cases z
    · exact .inl ⟨o, hS⟩
    · exact .inr hS
  · obtain ⟨n, c, h, _⟩ := l
    cases h
  · cases r
    exact q H'
end DD

/-! EX2: own error classes above an own class: __init__ that calls the class above, raise C(..), raise C() -/
namespace L2
open PySem PySem.Spec PyProof.Rows
section
variable {X : Cx} {e : Expr} {es : List Expr} {ta : TA} {p1 p2 pos : Pos} {x : Str} {B : Addr} {mc : Value}
/-- B.__init__(self, ..), B an own class whose __init__ is ValueError's -/
theorem pe_oinit {pl : Sem Bool} (hg : Gl X x) (hm : X.mg x = some (.ref B)) (rd : PySem.W.readsIn X.K B mc = true) (ga : PySem.W.specialIn X.K (.ref B) "__getattribute__" = some (some (.builtin "type.__getattribute__")))
    (at_ : PySem.W.findCls X.K (.ref B) mc "__init__" = some (.val (.builtin "ValueError.__init__"))) (ha : PA X (e :: es) ta) (hdb : (x == ("__debug__" : Str)) = false := by decide)
    (hc : eval (.Call (.Attribute (.Name x p1) "__init__" p2) (e :: es) [] pos) X.env = (do
      let ov ← eval (.Name x p1) X.env
      standAt p2.atName
      let (f, first) ← holding [ov] (getMethod ov "__init__" pl)
      callWith pos f first (backTo pos (starEach (e :: es) X.env)) (backToKw pos (keywordEach [] X.env))) := by rfl)
    (he : starEach (e :: es) X.env = (false, eval e X.env) :: starEach es X.env := by rfl) (hpl : (backTo pos (starEach es X.env)).any (·.1) = false := by rfl) :
    PE X (.Call (.Attribute (.Name x p1) "__init__" p2) (e :: es) [] pos) (tVeI X.K ta) := by
  refine ⟨fun pins s σ H Q I h => ?_⟩
  refine PySem.W.methodCall_KW (ld_glob I hg hm ?_ hdb) hc
  refine PySem.W.method_cls I.kIn ga (PySem.W.cls_value I.kIn rd at_ (by decide +kernel) ?_)
  show wpAny _ _ (callWith pos (Value.builtin "ValueError.__init__") [] (backTo pos (starEach (e :: es) X.env)) []) _ _ _
  refine PyProof.Rows.callWith_method1 (thn (ha.run pos pins _ σ H _ (I.tok _) h) fun us s1 ⟨vs, H1, I1, r1, a, C, ws, ev, hl, T, ea, q⟩ => ?_) he hpl
  subst ev
  cases r1 with
  | @cons _ u0 _ ur ra rw' =>
    obtain rfl : u0 = Value.ref a := ra
    have hlen : ur.length ≤ sizeLine := by
      rw [← Paired.length rw', sizeLine_eq]
      omega
    exact oinit_ok T I1 ea hlen fun s' J => ⟨.non, H1, J, rfl, q⟩
/-- X(), X an own exception class without own __init__ -/
theorem pmk_own0 {C : Addr} {bmB : List Value} {B newId initId : String} {p : Pos} (F : ExcBaseFacts B newId initId bmB) (q : PySem.W.excIn X.K C bmB newId = true) (gC : X.mg x = some (.ref C))
    (kC : PySem.W.keepIn X.K (.ref C) = true) (r : Raises X (.ref C)) (hg : Gl X x) (hdb : (x == ("__debug__" : Str)) = false := by decide) :
    PMk X (.Call (.Name x p) [] [] pos) (fun _ H Q => Q (.ref C) none H) := by
  intro pins s σ H Q I h
  refine wpAny_Call_Name_kw (ld_glob I hg gC ?_ hdb)
  refine PySem.W.callWith_K0 I.kIn kC ?_
  show wpAny _ _ (call (.ref C) []) _ _ _
  obtain ⟨bm, N, nm, qn, bs, hdct, sn, sub, ab, col, dd, k0, k1, k2, k3, k5, mN, hC, hN, hni, T⟩ := exc_obj I.kIn q
  refine wpAny_call_exc_subT F T hC hN hni (fun h' e hm => ?_) (by show 0 ≤ sizeLine; exact Nat.zero_le _)
  exact mk_of I hm r h (I.hok.gone hm.new)
end

/-! ### what such an __init__ promises: its fields are stored -/
/-- ys: the values, fn: the fields' names in the order in which they are stored -/
def spX (K : PySem.W.Frag) (C : Addr) (fn : List Str) : Sp := fun vs H Q E => ∃ (a : Addr) (ys : List V), vs = .ref a :: ys ∧ ys.length = fn.length ∧ H a = some (exo a C none) ∧ OexC K C ∧
  ∀ dx H', H dx = none → dx ≠ a → H' a = some (exo a C (some dx)) → H' dx = some (exd dx (fn.zip ys).reverse) → (∀ b, b ≠ a → b ≠ dx → H' b = H b) → Q .non H'
theorem spX_len {K : PySem.W.Frag} {C : Addr} {fn : List Str} {ps : List Str} (hp : ps.length = fn.length + 1) (vs : List V) (H : Hp) (Q : VK) (E : XK) (h : spX K C fn vs H Q E) : vs.length = ps.length := by
  obtain ⟨a, ys, rfl, hl, _⟩ := h
  rw [List.length_cons, hl, hp]
/-- one field -/
theorem rd_init1 {K : PySem.W.Frag} {C : Addr} {f s m : Str} {vs : List V} {H : Hp} {Q : VK} {E : XK} (hno : PySem.W.findIn K (.ref C) f = some none) (h : spX K C [f] vs H Q E) :
    tSeq (tDrop (tVeI K (tCons (tVar 0) (tCons (tC (.str m)) tNil)))) (tOst K f (tVar 0) (tVar 1)) { nx := fun _ H' => Q .non H', rt := Q } (L2.start [s, f] vs) H := by
  obtain ⟨a, ys, rfl, hl, ha, T, q⟩ := h
  match ys, hl with
  | [y], _ =>
    refine ⟨.ref a, rfl, a, C, [.str m], rfl, (by show 1 ≤ 1000; omega), T, ha, y, rfl, .ref a, rfl, a, C, rfl, T, hno, .inl ⟨ha, fun dx n ne => ?_⟩⟩
    exact q dx _ n ne upd_same (by rw [upd_ne ne, upd_same]; rfl) fun b h1 h2 => by rw [upd_ne h1, upd_ne h2]
/-- three fields -/
theorem rd_init3 {K : PySem.W.Frag} {C : Addr} {f1 f2 f3 s m : Str} {vs : List V} {H : Hp} {Q : VK} {E : XK} (n1 : PySem.W.findIn K (.ref C) f1 = some none) (n2 : PySem.W.findIn K (.ref C) f2 = some none) (n3 : PySem.W.findIn K (.ref C) f3 = some none) (h : spX K C [f1, f2, f3] vs H Q E) :
    tSeq (tDrop (tVeI K (tCons (tVar 0) (tCons (tC (.str m)) tNil)))) (tSeq (tOst K f1 (tVar 0) (tVar 1)) (tSeq (tOst K f2 (tVar 0) (tVar 2)) (tOst K f3 (tVar 0) (tVar 3)))) { nx := fun _ H' => Q .non H', rt := Q } (L2.start [s, f1, f2, f3] vs) H := by
  obtain ⟨a, ys, rfl, hl, ha, T, q⟩ := h
  match ys, hl with
  | [y1, y2, y3], _ =>
    refine ⟨.ref a, rfl, a, C, [.str m], rfl, (by show 1 ≤ 1000; omega), T, ha, y1, rfl, .ref a, rfl, a, C, rfl, T, n1, .inl ⟨ha, fun dx n ne => ?_⟩⟩
    refine ⟨y2, rfl, .ref a, rfl, a, C, rfl, T, n2, .inr ⟨dx, [(f1, y1)], upd_same, by rw [upd_ne ne, upd_same], (by show 1 ≤ 900; omega), ?_⟩⟩
    refine ⟨y3, rfl, .ref a, rfl, a, C, rfl, T, n3, .inr ⟨dx, [(f2, y2), (f1, y1)], by rw [upd_ne (Ne.symm ne), upd_same], upd_same, (by show 2 ≤ 900; omega), ?_⟩⟩
    exact q dx _ n ne (by rw [upd_ne (Ne.symm ne), upd_ne (Ne.symm ne), upd_same]) (by rw [upd_same]; rfl) fun b h1 h2 => by rw [upd_ne h2, upd_ne h2, upd_ne h1, upd_ne h2]
end L2

/-! DD19: errors of own classes: raise, try, isinstance(e, C), e.f -/
namespace DD
open PySem PySem.Spec PyProof.Rows L2
section
variable {g : Gx} {μ : Gh} {S : Sto} {H : Hp}
theorem RepF.append : ∀ {vs ws : List (Str × V)} {ds es : List (Str × D)}, RepF g μ S H vs ds → RepF g μ S H ws es → RepF g μ S H (vs ++ ws) (ds ++ es)
  | _, _, _, _, .nil, q => q
  | _, _, _, _, .cons r p, q => .cons r (RepF.append p q)
theorem RepF.reverse : ∀ {vs : List (Str × V)} {ds : List (Str × D)}, RepF g μ S H vs ds → RepF g μ S H vs.reverse ds.reverse
  | _, _, .nil => .nil
  | _, _, .cons r q => by
    rw [List.reverse_cons, List.reverse_cons]
    exact RepF.append (RepF.reverse q) (.cons r .nil)
theorem RepAll.zipF : ∀ (fn : List Str) {vs : List V} {ds : List D}, RepAll g μ S H vs ds → RepF g μ S H (fn.zip vs) (fn.zip ds)
  | [], _, _, _ => by simp; exact .nil
  | _ :: _, _, _, .nil => by simp; exact .nil
  | f :: fn, _, _, .cons r q => by
    rw [List.zip_cons_cons, List.zip_cons_cons]
    exact .cons r (RepAll.zipF fn q)
theorem XcP.step {μ' : Gh} {S' : Sto} {H' : Hp} {d : Option Addr} {fs : List (Str × D)} (t : Step μ S H μ' S' H') (h : XcP g μ S H d fs) : XcP g μ' S' H' d fs := by
  rcases h with h | ⟨dx, vs, e, hx, nx, r⟩
  · exact .inl h
  · exact .inr ⟨dx, vs, e, t.toR.keep _ _ nx hx, fun l => nx (t.toR.held _ (by rw [hx]; exact fun z => nomatch z) l), r.step t⟩
end

/-! ### raise C(..) -/
/-- fn: the fields' names in the order in which they are stored -/
def sRaise (c n : Nat) (fn : List Str) (fs : DEnv → M (List D)) : DEnv → M Fl := fun ρ => M.cat (fs ρ) ρ fun ds => do M.need (ds.length = n); pure (.xc c (fn.zip ds).reverse ρ)
/-- raise C() -/
def sRaise0 (c : Nat) : DEnv → M Fl := fun ρ => pure (.xc c [] ρ)
/-- an error's class with an own __init__ -/
structure XMak (P : Program) (w : World) (K : PySem.W.Frag) (mg : Str → Option Value) (base : Heap) (ca : Nat → Addr) (k : Nat) (x : Str) (c : Nat) (fn : List Str) : Prop where
  ex : ∃ (fI : Addr) (fd : FuncData) (ps : List Str), OexC K (ca c) ∧ PySem.W.findIn K (.ref (ca c)) "__init__" = some (some (.ref fI)) ∧ PySem.W.typeIn K (.ref fI) = some (.type "function") ∧
    FnOk P w K mg base (L2.CX P w) k fI fd ps (spX K (ca c) fn) ∧ Binds K fd ps [] ∧ mg x = some (.ref (ca c))
theorem XMak.mono {P : Program} {w : World} {K : PySem.W.Frag} {mg : Str → Option Value} {base : Heap} {ca : Nat → Addr} {j k c : Nat} {x : Str} {fn : List Str} (h : XMak P w K mg base ca j x c fn) (l : j ≤ k) : XMak P w K mg base ca k x c fn := by
  obtain ⟨fI, fd, ps, h1, h2, h3, h4, h5⟩ := h.ex
  exact ⟨fI, fd, ps, h1, h2, h3, h4.mono l, h5⟩
/-- an error's class without one -/
structure XMak0 (K : PySem.W.Frag) (mg : Str → Option Value) (ca : Nat → Addr) (x : Str) (c : Nat) : Prop where
  ex : PySem.W.excIn K (ca c) [.type "ValueError", .type "Exception", .type "BaseException", .type "object"] "ValueError.__new__" = true
  kp : PySem.W.keepIn K (.ref (ca c)) = true
  sb : PySem.W.subIn K (.ref (ca c)) (.type "BaseException") = some true
  ty : PySem.W.typeIn K (.ref (ca c)) = some (.type "type")
  mg : mg x = some (.ref (ca c))
section
variable {X : Cx} {ca : Nat → Addr} {W : WX} {k n c : Nat} {fn : List Str} {x : Str} {p pos pos' : Pos} {e : Expr} {es : List Expr} {fs : DEnv → M (List D)}
theorem sd_raise (hM : XMak X.prog X.w X.K X.mg X.base ca k x c fn) (hr : Room (k + 1) X.A) (hcal : X.calm = true) (tk : Takes X W) (ha : PA X (e :: es) (tDA (gx X ca) W fs)) (hn : fn.length = n := by rfl) (hz : n ≤ 1000 := by decide) (hg : Gl X x := by rfl) (hdb : (x == ("__debug__" : Str)) = false := by decide)
    (he : starEach (e :: es) X.env = (false, eval e X.env) :: starEach es X.env := by rfl) (hpl : (backTo pos (starEach es X.env)).any (·.1) = false := by rfl) : PS X (.Raise (some (.Call (.Name x p) (e :: es) [] pos)) none pos') (tS (gx X ca) W (sRaise c n fn fs)) := by
  obtain ⟨fI, fd, ps, T, iC, tI, F1, hb, hm⟩ := hM.ex
  refine psOf (ps_raise hcal tk (pmk_oex T iC tI F1 hr hb .nil passL hg hm ha hdb he hpl)) fun E σ H ⟨ρ, μ, S, env, sto, h⟩ => ?_
  refine sDA_then env sto h fun ds μ1 S1 H1 vs t1 k1 env1 r1 w => ?_
  obtain ⟨hl, h2⟩ := Wp.need (Wp.bind w) k1
  refine ⟨by rw [r1.length, hl]; exact hz, fun a na => ?_⟩
  refine ⟨a, vs ++ [], rfl, by rw [List.append_nil, r1.length, hl, hn], upd_same, T, fun dx H' n1 ne h3 h4 h5 => ⟨rfl, dx, _, h3, h4, ?_, ?_⟩⟩
  · rw [upd_ne ne] at n1
    exact n1
  · have n0 : H1 dx = none := by
      rw [upd_ne ne] at n1
      exact n1
    rw [List.append_nil]
    have eH : upd (del H' a) dx (.xd (fn.zip vs).reverse) = upd H1 dx (.xd (fn.zip vs).reverse) := by
      funext b
      by_cases hb : b = dx
      · rw [hb, upd_same, upd_same]
      · rw [upd_ne hb, upd_ne hb]
        by_cases ha : b = a
        · rw [ha, del_same, na]
        · rw [del_ne ha, h5 b ha hb, upd_ne ha]
    rw [eH]
    have t2 : Step μ1 S1 H1 μ1 S1 (upd H1 dx (.xd (fn.zip vs).reverse)) := Step.alloc n0
    exact h2 _ _ t2 (k1.alloc n0) t2 σ (some dx) (env1.step t2) (.inr ⟨dx, _, rfl, upd_same, k1.new n0, ((RepAll.zipF fn r1).reverse).step t2⟩)
theorem sd_raise0 (hM : XMak0 X.K X.mg ca x c) (hcal : X.calm = true) (tk : Takes X W) (hg : Gl X x := by rfl) (hdb : (x == ("__debug__" : Str)) = false := by decide) :
    PS X (.Raise (some (.Call (.Name x p) [] [] pos)) none pos') (tS (gx X ca) W (sRaise0 c)) :=
  psOf (ps_raise hcal tk (pmk_own0 PySem.F.excBase_ValueError hM.ex hM.mg hM.kp (raises_own hM.sb hM.ty) hg hdb)) fun E σ H ⟨ρ, μ, S, env, sto, h⟩ =>
    Wp.pure h sto σ none env (.inl ⟨rfl, rfl⟩)
end

/-! ### try -/
/-- an except clause: the classes that it catches, those that it does not; its name's place; its suite -/
structure HdD where
  ys : List Nat
  ns : List Nat
  i : Option Nat
  f : DEnv → M Fl
/-- a suite's end; an error of the suite's own is not told -/
def offD (o : Option Nat) : Fl → M Fl
  | .nx ρ => pure (.nx (match o with | some i => ρ.set i none | none => ρ))
  | .bk ρ => pure (.bk (match o with | some i => ρ.set i none | none => ρ))
  | .ct ρ => pure (.ct (match o with | some i => ρ.set i none | none => ρ))
  | .rt d => pure (.rt d)
  | .xc _ _ _ => M.bad
def tryGo : List HdD → Nat → List (Str × D) → DEnv → M Fl
  | [], c, fs, ρ => pure (.xc c fs ρ)
  | h :: r, c, fs, ρ => if c ∈ h.ys then (do let fl ← h.f (match h.i with | some i => ρ.set i (some (.exn c fs)) | none => ρ); offD h.i fl) else if c ∈ h.ns then tryGo r c fs ρ else M.bad
def tryEnd (hs : List HdD) : Fl → M Fl
  | .xc c fs ρ => tryGo hs c fs ρ
  | fl => pure fl
def sTry (body : DEnv → M Fl) (hs : List HdD) : DEnv → M Fl := fun ρ => do let fl ← body ρ; tryEnd hs fl
inductive HdsD (X : Cx) (ca : Nat → Addr) : List ExceptHandler → List HdD → Prop
  | nil : HdsD X ca [] []
  | only {x : Str} {cv : Value} {ys ns : List Nat} {f : DEnv → M Fl} {b₀ : Stmt} {suite : List Stmt} {np pos' : Pos} {hds : List ExceptHandler} {l : List HdD} (hc : Names X x cv) (hy : ∀ c ∈ ys, PySem.W.exmOne X.K (.ref (ca c)) cv = some true) (hn : ∀ c ∈ ns, PySem.W.exmOne X.K (.ref (ca c)) cv = some false)
      (hsu : ∀ (a : Addr) (pn : List (Addr × Obj)), PSs (X.suite a pn) (b₀ :: suite) (tS (gx X ca) WF f)) (r : HdsD X ca hds l) : HdsD X ca (.ExceptHandler (some (.Name x np)) none (b₀ :: suite) pos' :: hds) (⟨ys, ns, none, f⟩ :: l)
  | as_ {x n : Str} {i : Nat} {cv : Value} {ys ns : List Nat} {f : DEnv → M Fl} {b₀ : Stmt} {suite : List Stmt} {np pos' : Pos} {hds : List ExceptHandler} {l : List HdD} (hc : Names X x cv) (hi : X.N[i]? = some n) (hln : X.env.kindOf n = some .local)
      (hy : ∀ c ∈ ys, PySem.W.exmOne X.K (.ref (ca c)) cv = some true) (hn : ∀ c ∈ ns, PySem.W.exmOne X.K (.ref (ca c)) cv = some false)
      (hsu : ∀ (a : Addr) (pn : List (Addr × Obj)), PSs (X.suite a pn) (b₀ :: suite) (tS (gx X ca) WF f)) (r : HdsD X ca hds l) : HdsD X ca (.ExceptHandler (some (.Name x np)) (some n) (b₀ :: suite) pos' :: hds) (⟨ys, ns, some i, f⟩ :: l)
def hdT (g : Gx) (v : Value) (h : HdD) : Hd := (v, h.i, tS g WF h.f)
/-- the clauses, each with its class -/
theorem HdsD.hds {X : Cx} {ca : Nat → Addr} {hs : List ExceptHandler} {l : List HdD} (h : HdsD X ca hs l) : ∃ vs : List Value, vs.length = l.length ∧ HdsT X hs ((vs.zip l).map fun q => hdT (gx X ca) q.1 q.2) ∧
    ∀ q ∈ vs.zip l, (∀ c ∈ q.2.ys, PySem.W.exmOne X.K (.ref (ca c)) q.1 = some true) ∧ ∀ c ∈ q.2.ns, PySem.W.exmOne X.K (.ref (ca c)) q.1 = some false := by
  induction h with
  | nil => exact ⟨[], rfl, .nil, fun q hq => (by cases hq)⟩
  | @only x cv ys ns f b₀ suite np pos' hds l hc hy hn hsu r ih =>
    obtain ⟨vs, h1, h2, h3⟩ := ih
    refine ⟨cv :: vs, by simp [h1], .only hc hsu h2, fun q hq => ?_⟩
    rw [List.zip_cons_cons] at hq
    rcases List.mem_cons.mp hq with e | e
    · subst e
      exact ⟨hy, hn⟩
    · exact h3 q e
  | @as_ x n i cv ys ns f b₀ suite np pos' hds l hc hi hln hy hn hsu r ih =>
    obtain ⟨vs, h1, h2, h3⟩ := ih
    refine ⟨cv :: vs, by simp [h1], .as_ hc hi hln hsu h2, fun q hq => ?_⟩
    rw [List.zip_cons_cons] at hq
    rcases List.mem_cons.mp hq with e | e
    · subst e
      exact ⟨hy, hn⟩
    · exact h3 q e
section
variable {X : Cx} {ca : Nat → Addr} {W : WX} {E : Ends}
theorem try_go {μ0 : Gh} {S0 : Sto} {H0 : Hp} : ∀ (vs : List Value) (l : List HdD), vs.length = l.length → (∀ q ∈ vs.zip l, (∀ c ∈ q.2.ys, PySem.W.exmOne X.K (.ref (ca c)) q.1 = some true) ∧ ∀ c ∈ q.2.ns, PySem.W.exmOne X.K (.ref (ca c)) q.1 = some false) →
    ∀ {c : Nat} {fs : List (Str × D)} {ρ : DEnv} {μ : Gh} {S : Sto} {H : Hp} {σ : L2.St} {d : Option Addr}, Step μ0 S0 H0 μ S H → StoOk (gx X ca) μ S H → Wp (gx X ca) EF (tryGo l c fs ρ) μ S H (FlP (gx X ca) W E) → EnvOk (gx X ca) μ S H σ ρ → XcP (gx X ca) μ S H d fs →
      wTry X.K W E ((vs.zip l).map fun q => hdT (gx X ca) q.1 q.2) (.ref (ca c)) d σ H
  | [], [], _, _, c, fs, ρ, μ, S, H, σ, d, t, k, w, env, xc => Wp.pure (show Wp (gx X ca) EF (pure (.xc c fs ρ)) μ S H (FlP (gx X ca) W E) from w) k σ d env xc
  | [], _ :: _, h, _, _, _, _, _, _, _, _, _, _, _, _, _, _ => by cases h
  | _ :: _, [], h, _, _, _, _, _, _, _, _, _, _, _, _, _, _ => by cases h
  | v :: vs, h :: l, hl, hq, c, fs, ρ, μ, S, H, σ, d, t, k, w, env, xc => by
    have hl' : vs.length = l.length := by simpa using hl
    have q0 := hq (v, h) (by rw [List.zip_cons_cons]; exact List.mem_cons_self)
    have ih := try_go vs l hl' (fun q hm => hq q (by rw [List.zip_cons_cons]; exact List.mem_cons_of_mem _ hm)) (c := c) (fs := fs) (ρ := ρ) (σ := σ) (d := d) t k
    obtain ⟨ys, ns, o, f⟩ := h
    unfold tryGo at w
    by_cases hy : c ∈ ys
    · rw [if_pos hy] at w
      have en : ∀ a, H a = none → Step μ S H μ S (upd H a (exq a (.ref (ca c)) d)) ∧ StoOk (gx X ca) μ S (upd H a (exq a (.ref (ca c)) d)) ∧ Rep (gx X ca) μ S (upd H a (exq a (.ref (ca c)) d)) (.ref a) (.exn c fs) := fun a na => by
        have t2 : Step μ S H μ S (upd H a (exq a (.ref (ca c)) d)) := Step.alloc na
        refine ⟨t2, k.alloc na, ?_⟩
        rcases xc with ⟨rfl, rfl⟩ | ⟨dx, vs', rfl, hx, nx, r⟩
        · exact .exn0 upd_same (k.new na)
        · exact .exn1 upd_same (k.new na) (by rw [upd_ne (ne_of_none hx na)]; exact hx) nx (r.step t2)
      cases o with
      | none =>
        refine ⟨true, q0.1 c hy, fun _ a na => ?_, fun z => nomatch z⟩
        obtain ⟨t2, k2, r2⟩ := en a na
        refine ⟨ρ, μ, S, env.step t2, k2, (Wp.bind (Wp.later t2 w)).mono fun fl μ3 S3 H3 t3 k3 w3 => ?_⟩
        cases fl with
        | nx ρ3 => exact fun σ3 env3 => Wp.pure w3 k3 t3 σ3 env3
        | bk ρ3 => exact fun σ3 env3 => Wp.pure w3 k3 t3 σ3 env3
        | ct ρ3 => exact fun σ3 env3 => Wp.pure w3 k3 t3 σ3 env3
        | rt d3 => exact fun v3 r3 => Wp.pure w3 k3 t3 v3 r3
        | xc c3 fs3 ρ3 => exact (show False from w3).elim
      | some i =>
        refine ⟨true, q0.1 c hy, fun _ a na => ?_, fun z => nomatch z⟩
        obtain ⟨t2, k2, r2⟩ := en a na
        refine ⟨ρ.set i (some (.exn c fs)), μ, S, (env.step t2).set i r2, k2, (Wp.bind (Wp.later t2 w)).mono fun fl μ3 S3 H3 t3 k3 w3 => ?_⟩
        cases fl with
        | nx ρ3 => exact fun σ3 env3 => Wp.pure w3 k3 t3 (σ3.set i none) (env3.unset i)
        | bk ρ3 => exact fun σ3 env3 => Wp.pure w3 k3 t3 (σ3.set i none) (env3.unset i)
        | ct ρ3 => exact fun σ3 env3 => Wp.pure w3 k3 t3 (σ3.set i none) (env3.unset i)
        | rt d3 => exact fun v3 r3 => Wp.pure w3 k3 t3 v3 r3
        | xc c3 fs3 ρ3 => exact (show False from w3).elim
    · rw [if_neg hy] at w
      by_cases hn : c ∈ ns
      · rw [if_pos hn] at w
        cases o with
        | none => exact ⟨false, q0.2 c hn, fun z => Bool.noConfusion z, fun _ => ih w env xc⟩
        | some i => exact ⟨false, q0.2 c hn, fun z => Bool.noConfusion z, fun _ => ih w env xc⟩
      · rw [if_neg hn] at w
        exact (show False from w).elim
theorem sd_try {body : List Stmt} {h₀ : ExceptHandler} {hds : List ExceptHandler} {l : List HdD} {pos : Pos} {fb : DEnv → M Fl} (hs : X.stack = X.env :: X.outer) (hf : X.env.frame = some X.env.locals) (hex : X.ex = []) (hN : X.N.Nodup) (tk : Takes X W)
    (hb : ∀ (W : WX) (pn : List (Addr × Obj)) (xe : Value → Shared → Prop), Takes (X.tr pn xe) W → PassesOwn (model X.prog X.w) X.A X.env xe → PSs (X.tr pn xe) body (tS (gx X ca) W fb))
    (hh : HdsD X ca (h₀ :: hds) l) : PS X (.Try body (h₀ :: hds) [] [] pos) (tS (gx X ca) W (sTry fb l)) := by
  obtain ⟨vs, hl, hT, hq⟩ := hh.hds
  refine psOf (ps_tryT hs hf hex hN tk hb hT) fun E σ H ⟨ρ, μ, S, env, sto, h⟩ => ?_
  refine ⟨ρ, μ, S, env, sto, (Wp.bind h).mono fun fl μ1 S1 H1 t1 k1 w => ?_⟩
  cases fl with
  | nx ρ1 =>
    have w' : Wp (gx X ca) EF (pure (Fl.nx ρ1) : M Fl) μ1 S1 H1 (fun fl μ2 S2 H2 => Step μ S H μ2 S2 H2 → FlP (gx X ca) W E fl μ2 S2 H2) := w
    exact fun σ1 env1 => Wp.pure w' k1 t1 σ1 env1
  | bk ρ1 =>
    have w' : Wp (gx X ca) EF (pure (Fl.bk ρ1) : M Fl) μ1 S1 H1 (fun fl μ2 S2 H2 => Step μ S H μ2 S2 H2 → FlP (gx X ca) W E fl μ2 S2 H2) := w
    exact fun σ1 env1 => Wp.pure w' k1 t1 σ1 env1
  | ct ρ1 =>
    have w' : Wp (gx X ca) EF (pure (Fl.ct ρ1) : M Fl) μ1 S1 H1 (fun fl μ2 S2 H2 => Step μ S H μ2 S2 H2 → FlP (gx X ca) W E fl μ2 S2 H2) := w
    exact fun σ1 env1 => Wp.pure w' k1 t1 σ1 env1
  | rt d =>
    have w' : Wp (gx X ca) EF (pure (Fl.rt d) : M Fl) μ1 S1 H1 (fun fl μ2 S2 H2 => Step μ S H μ2 S2 H2 → FlP (gx X ca) W E fl μ2 S2 H2) := w
    exact fun v r => Wp.pure w' k1 t1 v r
  | xc c fs ρ1 =>
    have w' : Wp (gx X ca) EF (tryGo l c fs ρ1) μ1 S1 H1 (fun fl μ2 S2 H2 => Step μ S H μ2 S2 H2 → FlP (gx X ca) W E fl μ2 S2 H2) := w
    exact fun σ1 d env1 xc => try_go vs l hl hq t1 k1 (w'.mono fun _ _ _ _ t2 _ z => z (t1.trans t2)) env1 xc
end

/-! ### e.f, isinstance(e, C) -/
def dXFld (cs : List Nat) (f : Str) : D → M D
  | .exn c fs => do M.need (c ∈ cs); M.get fun _ => fs.lookup f
  | _ => M.bad
/-- which classes' errors are of a class (by its number, or a built-in one by its name) -/
abbrev IsTab := List (Nat × Nat × Bool)
def isGet (T : IsTab) (c c' : Nat) : Option Bool := (T.find? fun q => q.1 == c && q.2.1 == c').map (·.2.2)
def dIsX (T : IsTab) (U : List (Nat × String × Bool)) : List D → M D
  | [.exn c _, .cls c'] => do let b ← M.get fun _ => isGet T c c'; pure (.bl b)
  | [.exn c _, .ty u] => do let b ← M.get fun _ => (U.find? fun q => q.1 == c && q.2.1 == u).map (·.2.2); pure (.bl b)
  | _ => M.bad
section
variable {X : Cx} {ca : Nat → Addr} {W : WX} {e : Expr} {pos : Pos} {f : Str} {fe : DEnv → M D}
theorem pd_xfld {cs : List Nat} (hc : ∀ c ∈ cs, ExcT X.K (ca c) ∧ PySem.W.findIn X.K (.ref (ca c)) f = some none) (he : PE X e (tD (gx X ca) W fe)) (hb : attributeBase e f X.env (eval e X.env) = eval e X.env := by rfl) :
    PE X (.Attribute e f pos) (tD (gx X ca) W (dUn (dXFld cs f) fe)) :=
  peOf (pe_xq he hb) fun σ H Q ⟨ρ, μ, S, env, sto, h⟩ => tD_then env sto h fun d μ1 S1 H1 v t1 k1 env1 r1 w => by
    cases r1 with
    | exn0 h1 n1 =>
      obtain ⟨hc1, h2⟩ := Wp.need (Wp.bind (show Wp (gx X ca) _ (do M.need (_ ∈ cs); M.get fun _ => ([] : List (Str × D)).lookup f) μ1 S1 H1 _ from w)) k1
      obtain ⟨a, e, _⟩ := Wp.get h2 k1
      simp at e
    | exn1 h1 n1 hx nx rf =>
      obtain ⟨hc1, h2⟩ := Wp.need (Wp.bind (show Wp (gx X ca) _ (do M.need (_ ∈ cs); M.get fun _ => _) μ1 S1 H1 _ from w)) k1
      obtain ⟨a, e, h3⟩ := Wp.get h2 k1
      obtain ⟨v, e2, rv⟩ := rf.lookup e
      obtain ⟨T, no⟩ := hc _ hc1
      exact ⟨_, _, _, _, v, rfl, T, no, h1, hx, e2, h3 (Step.refl _ _ _) v rv⟩
    | _ => exact (show False from w).elim
theorem isX_s {g : Gx} {T : IsTab} {U : List (Nat × String × Bool)} (hT : ∀ q ∈ T, ExcT g.K (g.ca q.1) ∧ PySem.W.kitOne g.K (.ref (g.ca q.1)) (.ref (g.ca q.2.1)) = some q.2.2) (hU : ∀ q ∈ U, ExcT g.K (g.ca q.1) ∧ PySem.W.kitOne g.K (.ref (g.ca q.1)) (.type q.2.1) = some q.2.2) :
    CallS g (rIsQ g.K) (dIsX T U) := by
  intro E μ S H vs xs Q k r h
  have main : ∀ {a : Addr} {c : Nat} {fs : List (Str × D)} {u : V} {y : D}, Rep g μ S H (.ref a) (.exn c fs) → Rep g μ S H u y → Wp g E (dIsX T U [.exn c fs, y]) μ S H (fun d μ' S' H' => ∀ w, Rep g μ' S' H' w d → Q w H') → rIsQ g.K [.ref a, u] H Q := by
    intro a c fs u y ra ru h
    have exd : ∃ d, H a = some (exq a (.ref (g.ca c)) d) ∧ ∀ dd, d = some dd → ∃ fs, H dd = some (.xd fs) := by
      cases ra with
      | exn0 h1 _ => exact ⟨none, h1, fun dd e => nomatch e⟩
      | exn1 h1 _ hx _ _ => exact ⟨_, h1, fun dd e => by cases e; exact ⟨_, hx⟩⟩
    obtain ⟨d, hd1, hd2⟩ := exd
    cases ru with
    | cls c' =>
      obtain ⟨b, e, h2⟩ := Wp.get (Wp.bind (show Wp g E (do let b ← M.get fun _ => isGet T c c'; pure (D.bl b) : M D) μ S H _ from h)) k
      unfold isGet at e
      obtain ⟨q, e1, e2⟩ := Option.map_eq_some_iff.mp e
      have hm := List.mem_of_find?_eq_some e1
      have hp := List.find?_some e1
      simp only [Bool.and_eq_true, beq_iff_eq] at hp
      obtain ⟨p1, p2⟩ := hp
      have := hT q hm
      rw [p1, p2, e2] at this
      exact ⟨a, g.ca c, d, _, _, b, rfl, this.1, hd1, hd2, fun u hu => by cases hu; rfl, this.2, Wp.pure h2 k (Step.refl _ _ _) _ (.bl _)⟩
    | ty n =>
      obtain ⟨b, e, h2⟩ := Wp.get (Wp.bind (show Wp g E (do let b ← M.get fun _ => (U.find? fun q => q.1 == c && q.2.1 == n).map (·.2.2); pure (D.bl b) : M D) μ S H _ from h)) k
      obtain ⟨q, e1, e2⟩ := Option.map_eq_some_iff.mp e
      have hm := List.mem_of_find?_eq_some e1
      have hp := List.find?_some e1
      simp only [Bool.and_eq_true, beq_iff_eq] at hp
      obtain ⟨p1, p2⟩ := hp
      have := hU q hm
      rw [p1, p2, e2] at this
      exact ⟨a, g.ca c, d, _, _, b, rfl, this.1, hd1, hd2, fun u hu => by cases hu; rfl, this.2, Wp.pure h2 k (Step.refl _ _ _) _ (.bl _)⟩
    | _ => exact (show False from h).elim
  match r with
  | .cons (v := v) (d := x) rx (.cons (v := u) (d := y) ry .nil) =>
    match x, rx with
    | .exn c fs, rx =>
      cases rx with
      | exn0 h1 n1 => exact main (.exn0 h1 n1) ry h
      | exn1 h1 n1 hx nx rf => exact main (.exn1 h1 n1 hx nx rf) ry h
    | .non, _ => exact (show False from h).elim
    | .bl _, _ => exact (show False from h).elim
    | .int _, _ => exact (show False from h).elim
    | .str _, _ => exact (show False from h).elim
    | .tup _, _ => exact (show False from h).elim
    | .lst _, _ => exact (show False from h).elim
    | .rol _, _ => exact (show False from h).elim
    | .obj _ _, _ => exact (show False from h).elim
    | .cell _, _ => exact (show False from h).elim
    | .ty _, _ => exact (show False from h).elim
    | .cls _, _ => exact (show False from h).elim
  | .nil => exact (show False from h).elim
  | .cons rx .nil => exact (show False from by cases rx <;> exact h).elim
  | .cons rx (.cons ry (.cons rz q)) => exact (show False from by cases rx <;> cases ry <;> exact h).elim
end
end DD

/-! DD21: dicts, l.pop(i), while, f(k = v, ..), a list times a number -/
namespace DD
open PySem PySem.Spec PyProof.Rows L2

/-! ### dicts -/
def keyOf : D → Option Key
  | .int i => some (.inl i)
  | .str x => some (.inr x)
  | _ => none
def getK (kvs : List (Key × D)) (k : Key) : Option D := (kvs.find? fun kv => decide (kv.1 = k)).map (·.2)
def putKD (kvs : List (Key × D)) (k : Key) (v : D) : List (Key × D) :=
  if (kvs.any fun kv => decide (kv.1 = k)) = true then kvs.map (fun kv => if kv.1 = k then (kv.1, v) else kv) else kvs ++ [(k, v)]
def cellK (n : Nat) (S : Sto) : Option (List (Key × D)) := match S[n]? with | some (some (.dct kvs)) => some kvs | _ => none
theorem cellK_some {n : Nat} {S : Sto} {xs : List (Key × D)} (h : cellK n S = some xs) : S[n]? = some (some (.dct xs)) := by
  unfold cellK at h
  split at h
  · rename_i e
    cases h
    exact e
  · cases h
section
variable {g : Gx} {μ : Gh} {S : Sto} {H : Hp}
theorem keyOf_rep {v : V} {d : D} {k : Key} (r : Rep g μ S H v d) (e : keyOf d = some k) : v = kV k := by
  cases r with
  | int i => cases e; rfl
  | str x => cases e; rfl
  | _ => cases e
theorem RepK.length {vs : List (Key × V)} {ds : List (Key × D)} (r : RepK g μ S H vs ds) : vs.length = ds.length := by
  induction r with
  | nil => rfl
  | cons _ _ ih => rw [List.length_cons, List.length_cons, ih]
theorem RepK.get {vs : List (Key × V)} {ds : List (Key × D)} (r : RepK g μ S H vs ds) (k : Key) : (getK ds k = none ∧ valV vs k = none) ∨ ∃ d v, getK ds k = some d ∧ valV vs k = some v ∧ Rep g μ S H v d := by
  induction r with
  | nil => exact .inl ⟨rfl, rfl⟩
  | @cons k' v vs d ds r _ ih =>
    by_cases e : k' = k
    · refine .inr ⟨d, v, ?_, valV_pos (p := (k', v)) e, r⟩
      simp [getK, List.find?_cons, e]
    · have e1 : getK ((k', d) :: ds) k = getK ds k := by simp [getK, List.find?_cons, e]
      rw [e1, valV_neg (p := (k', v)) e]
      exact ih
theorem RepK.anyK {vs : List (Key × V)} {ds : List (Key × D)} (r : RepK g μ S H vs ds) (k : Key) : (vs.any fun kv => decide (kv.1 = k)) = ds.any fun kv => decide (kv.1 = k) := by
  induction r with
  | nil => rfl
  | cons _ _ ih => rw [List.any_cons, List.any_cons, ih]
theorem RepK.repl {vs : List (Key × V)} {ds : List (Key × D)} (r : RepK g μ S H vs ds) (k : Key) {v : V} {d : D} (rv : Rep g μ S H v d) : RepK g μ S H (vs.map fun kv => if kv.1 = k then (kv.1, v) else kv) (ds.map fun kv => if kv.1 = k then (kv.1, d) else kv) := by
  induction r with
  | nil => exact .nil
  | @cons k' w vs e ds q _ ih =>
    rw [List.map_cons, List.map_cons]
    by_cases z : k' = k
    · rw [if_pos z, if_pos z]
      exact .cons rv ih
    · rw [if_neg z, if_neg z]
      exact .cons q ih
theorem RepK.snoc {vs : List (Key × V)} {ds : List (Key × D)} (r : RepK g μ S H vs ds) (k : Key) {v : V} {d : D} (rv : Rep g μ S H v d) : RepK g μ S H (vs ++ [(k, v)]) (ds ++ [(k, d)]) := by
  induction r with
  | nil => exact .cons rv .nil
  | cons q _ ih => exact .cons q ih
theorem RepK.put {vs : List (Key × V)} {ds : List (Key × D)} (r : RepK g μ S H vs ds) (k : Key) {v : V} {d : D} (rv : Rep g μ S H v d) : RepK g μ S H (putK vs k v) (putKD ds k d) := by
  unfold putK putKD
  rw [r.anyK k]
  split
  · exact r.repl k rv
  · exact r.snoc k rv
theorem cellK_rep (k : StoOk g μ S H) {n : Nat} {xs : List (Key × D)} {a : Addr} (e : cellK n S = some xs) (ha : μ.m[n]? = some a) : ∃ vs, H a = some (.dK vs) ∧ RepK g μ S H vs xs := by
  obtain ⟨b, e1, q⟩ := k.at_ n _ (cellK_some e)
  rw [ha] at e1
  cases e1
  exact q
end
/-- d[k] -/
def dIxK (x y : D) : M D := match x with
  | .cell n => do
    let kvs ← M.get (cellK n)
    let k ← M.get fun _ => keyOf y
    M.get fun _ => getK kvs k
  | _ => M.bad
/-- k in d, k not in d -/
def dInK (neg : Bool) (x y : D) : M D := match y with
  | .cell n => do
    let kvs ← M.get (cellK n)
    let k ← M.get fun _ => keyOf x
    pure (.bl (if neg then !(getK kvs k).isSome else (getK kvs k).isSome))
  | _ => M.bad
def rInK (neg : Bool) : R2 := fun x y H Q => ∃ a o, y = .ref a ∧ DGet H a x o ∧ Q (.bl (if neg then !o.isSome else o.isSome)) H
theorem op_inK {X : Cx} (hu : X.A.units + 1 < cLine) : OpR X (compareOp .In) (rInK false) := by
  intro pins s σ H x y v u Q I rx ry h
  obtain ⟨a, o, rfl, g, q⟩ := h
  cases (show u = Value.ref a from ry)
  exact d_in hu I g rx fun s' I' => ⟨.bl o.isSome, H, I', rfl, q⟩
theorem op_notinK {X : Cx} (hu : X.A.units + 1 < cLine) : OpR X (compareOp .NotIn) (rInK true) := by
  intro pins s σ H x y v u Q I rx ry h
  obtain ⟨a, o, rfl, g, q⟩ := h
  cases (show u = Value.ref a from ry)
  exact d_notIn hu I g rx fun s' I' => ⟨.bl (!o.isSome), H, I', rfl, q⟩
theorem inK_s {g : Gx} {neg : Bool} : OpS g (rInK neg) (dInK neg) := by
  intro E μ S H v u x y Q k rx ry h
  cases ry with
  | @cell a n e =>
    obtain ⟨kvs, e1, h1⟩ := Wp.get (Wp.bind (show Wp g E (do let kvs ← M.get (cellK n); let k ← M.get fun _ => keyOf x; pure (D.bl (if neg then !(getK kvs k).isSome else (getK kvs k).isSome)) : M D) μ S H _ from h)) k
    obtain ⟨kk, e2, h2⟩ := Wp.get (Wp.bind h1) k
    obtain ⟨vs, h4, q⟩ := cellK_rep k e1 e
    have e3 := keyOf_rep rx e2
    refine ⟨a, valV vs kk, rfl, .inl ⟨vs, kk, .inl h4, e3, rfl⟩, ?_⟩
    have e4 : (valV vs kk).isSome = (getK kvs kk).isSome := by
      rcases q.get kk with ⟨z1, z2⟩ | ⟨d, w, z1, z2, _⟩ <;> rw [z1, z2] <;> rfl
    rw [e4]
    exact Wp.pure h2 k (Step.refl _ _ _) (Step.refl _ _ _) _ (.bl _)
  | _ => exact (show False from h).elim
section
variable {X : Cx} {ca : Nat → Addr} {W : WX} {a b e : Expr} {fa fb : DEnv → M D} {pos p p1 p2 pos' : Pos}
theorem pd_ixK (hu : X.A.units + 1 < cLine) (ha : PE X a (tD (gx X ca) W fa)) (hb : PE X b (tD (gx X ca) W fb)) (hs : NoSl b := by intro _ _; rfl) : PE X (.Subscript a b pos) (tD (gx X ca) W (dOp dIxK fa fb)) :=
  peOf (pe_dget hu ha hb hs) fun σ H Q ⟨ρ, μ, S, env, sto, h⟩ => tD_then env sto h fun d μ1 S1 H1 v t1 k1 env1 r1 h1 => tD_then env1 k1 h1 fun d2 μ2 S2 H2 v2 t2 k2 env2 r2 h2 => by
    cases r1 with
    | @cell ao n em =>
      obtain ⟨kvs, e1, h3⟩ := Wp.get (Wp.bind (show Wp (gx X ca) _ (do let kvs ← M.get (cellK n); let k ← M.get fun _ => keyOf d2; M.get fun _ => getK kvs k : M D) μ2 S2 H2 _ from h2)) k2
      obtain ⟨kk, e2, h4⟩ := Wp.get (Wp.bind h3) k2
      obtain ⟨vs, hh, q⟩ := cellK_rep k2 e1 (prefix_get t2.pre em)
      have e3 := keyOf_rep r2 e2
      obtain ⟨d3, e5, h5⟩ := Wp.get h4 k2
      rcases q.get kk with ⟨z1, _⟩ | ⟨d4, w, z1, z2, rw_⟩
      · rw [z1] at e5
        cases e5
      · rw [z1] at e5
        cases e5
        exact ⟨ao, w, rfl, .inl ⟨vs, kk, .inl hh, e3, z2.symm⟩, h5 (Step.refl _ _ _) (Step.refl _ _ _) _ rw_⟩
    | _ => exact (show False from h2).elim
def setIxK (o i v : D) : M Unit := match o with
  | .cell n => do
    let kvs ← M.get (cellK n)
    let k ← M.get fun _ => keyOf i
    M.need (kvs.length < sizeLine)
    M.put fun S => S.set n (some (.dct (putKD kvs k v)))
  | _ => M.bad
def gSubK (fo fi : DEnv → M D) : D → DEnv → M DEnv := fun v ρ => do let o ← fo ρ; let i ← fi ρ; setIxK o i v; pure ρ
theorem gd_subK (hu : X.A.units + 1 < cLine) {o i : Expr} {fo fi : DEnv → M D} (ho : PE X o (tD (gx X ca) (fun _ _ _ _ => False) fo)) (hi : PE X i (tD (gx X ca) (fun _ _ _ _ => False) fi))
    (ha : ∀ v, assign (.Subscript o i pos) X.env v = (do
      let ov ← holding [v] (eval o X.env)
      let iv ← holding [v, ov] (eval i X.env)
      standAt pos
      holding [v, ov, iv] (setItem ov iv v)
      release [v, ov, iv] []) := by intro _; rfl) : PG X (.Subscript o i pos) (tG (gx X ca) [] (gSubK fo fi)) :=
  pgOf (pg_sub ho hi (set_dict hu) ha) fun v σ H Q ⟨d, ρ, μ, S, r, env, sto, h⟩ => tD_then env sto h fun od μ1 S1 H1 ov t1 k1 env1 r1 h1 => tD_then env1 k1 h1 fun id μ2 S2 H2 iv t2 k2 env2 r2 h2 => by
    cases r1 with
    | @cell ao n em =>
      have h3 := Wp.bind h2
      obtain ⟨kvs, e1, h4⟩ := Wp.get (Wp.bind (show Wp (gx X ca) _ (do let kvs ← M.get (cellK n); let k ← M.get fun _ => keyOf id; M.need (kvs.length < sizeLine); M.put fun S => S.set n (some (.dct (putKD kvs k d))) : M Unit) μ2 S2 H2 _ from h3)) k2
      obtain ⟨kk, e2, h5⟩ := Wp.get (Wp.bind h4) k2
      obtain ⟨hl, h6⟩ := Wp.need (Wp.bind h5) k2
      have em2 := prefix_get t2.pre em
      obtain ⟨vs, hh, q⟩ := cellK_rep k2 e1 em2
      obtain ⟨t3, k3⟩ := sto_write k2 (cellK_some e1) em2 (.dct (q.put kk (r.step (t1.trans t2))))
      refine ⟨ao, _, rfl, .inl ⟨vs, kk, hh, keyOf_rep r2 e2, by rw [q.length]; exact hl, rfl⟩, ?_⟩
      have h7 := Wp.put h6 t3 k3 t3 t3 t3
      exact Wp.pure h7 k3 t3 _ (env2.step t3) fun _ _ => rfl
    | _ => exact (show False from Wp.bind h2).elim
/-- {} -/
def newDict (kvs : List (Key × D)) : M D := fun S => .ok (.cell S.length) (S ++ [some (.dct kvs)])
theorem pd_dict0 : PE X (.Dict [] [] pos) (tD (gx X ca) W (fun _ => newDict [])) :=
  peOf pe_dnewK fun σ H Q ⟨ρ, μ, S, env, sto, h⟩ => fun p hp => by
    obtain ⟨t, k', rr⟩ := sto_new (g := gx X ca) (c := .dct []) (o := .dK []) sto hp (.dct .nil) S.length rfl
    exact h _ _ t k' _ rr
/-- {k: v}, both written -/
theorem pd_dict1 {x : Str} {i : Int} {j j' : Nat} : PE X (.Dict [some (.Constant (.str x) j p1)] [.Constant (.int i) j' p2] pos) (tD (gx X ca) W (fun _ => newDict [(.inr x, .int i)])) :=
  peOf (pe_disp (pps_cons pe_str pe_int pps_nil) rfl rfl (fun z => nomatch z) (Nat.le_add_left 1 14)) fun σ H Q ⟨ρ, μ, S, env, sto, h⟩ => fun p hp => by
    obtain ⟨t, k', rr⟩ := sto_new (g := gx X ca) (c := .dct [(.inr x, .int i)]) (o := .dK [(.inr x, .int i)]) sto hp (.dct (.cons (.int _) .nil)) S.length rfl
    refine ⟨upd_same, [(.inr x, .int i)], rfl, Nat.le_add_left 1 14, ?_⟩
    rw [upd_upd]
    exact h _ _ t k' _ rr
end

/-! ### l.pop(i), list * int, list + list as a cell -/
section
variable {g : Gx} {μ : Gh} {S : Sto} {H : Hp}
theorem RepAll.eraseIdx : ∀ {vs : List V} {ds : List D} (i : Nat), RepAll g μ S H vs ds → RepAll g μ S H (vs.eraseIdx i) (ds.eraseIdx i)
  | _, _, _, .nil => .nil
  | _, _, 0, .cons _ q => q
  | _, _, i + 1, .cons r q => .cons r (RepAll.eraseIdx i q)
theorem RepAll.rep {vs : List V} {ds : List D} (r : RepAll g μ S H vs ds) : ∀ n : Nat, RepAll g μ S H (List.replicate n vs).flatten (List.replicate n ds).flatten
  | 0 => .nil
  | n + 1 => by
    rw [List.replicate_succ, List.replicate_succ, List.flatten_cons, List.flatten_cons]
    exact r.append (RepAll.rep r n)
end
def dPopAt : D → List D → M D
  | .cell n, [.int i] => do
    let xs ← M.get (cellL n)
    M.need (-(2 ^ 63) ≤ i ∧ i < 2 ^ 63)
    let k ← M.get fun _ => seqIndex? i xs.length
    let y ← M.get fun _ => xs[k]?
    M.put fun S => S.set n (some (.lst (xs.eraseIdx k)))
    pure y
  | _, _ => M.bad
theorem popAt_s {g : Gx} : MtS g rPopAt dPopAt := by
  intro E μ S H v x vs xs Q k rx r h
  unfold dPopAt at h
  split at h
  · rename_i n i
    obtain ⟨w, rfl, r1⟩ := rep1 r
    cases r1
    cases rx with
    | cell e =>
      obtain ⟨ys, e1, h1⟩ := Wp.get (Wp.bind h) k
      obtain ⟨⟨hn1, hn2⟩, h2⟩ := Wp.need (Wp.bind h1) k
      obtain ⟨j, e2, h3⟩ := Wp.get (Wp.bind h2) k
      obtain ⟨y, e3, h4⟩ := Wp.get (Wp.bind h3) k
      obtain ⟨ws, h5, q⟩ := cell_rep k e1 e
      obtain ⟨z, e4, rz⟩ := q.get e3
      obtain ⟨t, k'⟩ := sto_write k (cellL_some e1) e (.lst (q.eraseIdx j))
      refine ⟨_, ws, i, j, z, rfl, rfl, h5, hn1, hn2, by rw [q.length]; exact e2, e4, ?_⟩
      exact Wp.pure (Wp.put (Wp.bind h4) t k') k' t t t t t _ (rz.step t)
  · exact (show False from h).elim
def dRepL (x y : D) : M D := match y with
  | .int i => do
    let xs ← seqL x
    M.need (-(2 ^ 63) ≤ i ∧ i < 2 ^ 63 ∧ xs.length * i.toNat ≤ sizeLine)
    pure (.lst (List.replicate i.toNat xs).flatten)
  | _ => M.bad
theorem repL_s {g : Gx} : OpS g rRep dRepL := by
  intro E μ S H v u x y Q k rx ry h
  cases ry with
  | int i =>
    obtain ⟨xs, a, vs, rfl, hs, ra, h1⟩ := Wp.seqL (Wp.bind (show Wp g E (do let xs ← seqL x; M.need (-(2 ^ 63) ≤ i ∧ i < 2 ^ 63 ∧ xs.length * i.toNat ≤ sizeLine); pure (D.lst (List.replicate i.toNat xs).flatten) : M D) μ S H _ from h)) k rx
    obtain ⟨⟨h2, h3, h4⟩, h5⟩ := Wp.need (Wp.bind h1) k
    refine ⟨a, i, vs, rfl, rfl, hs, h2, h3, by rw [ra.length]; exact h4, fun p hp => ?_⟩
    obtain ⟨t, k', r⟩ := new_lst k hp (ra.rep i.toNat)
    exact Wp.end h5 t k' t t _ r
  | _ => exact (show False from h).elim
def dAddC (x y : D) : M D := do
  let xs ← seqL x
  let ys ← seqL y
  M.need (xs.length + ys.length ≤ sizeLine)
  newCell (xs ++ ys)
theorem addC_s {g : Gx} : OpS g rCat dAddC := by
  intro E μ S H v u x y Q k rx ry h
  obtain ⟨xs, a, vs, rfl, hs, ra, h1⟩ := Wp.seqL (Wp.bind h) k rx
  obtain ⟨ys, b, ws, rfl, hs2, rb, h2⟩ := Wp.seqL (Wp.bind h1) k ry
  obtain ⟨h3, h4⟩ := Wp.need (Wp.bind h2) k
  refine ⟨a, b, vs, ws, rfl, rfl, hs, hs2, by rw [ra.length, rb.length]; exact h3, fun p hp => ?_⟩
  obtain ⟨μ', S', d, t, k', r, q⟩ := new_cell k (ra.append rb) h4 p hp
  exact q t t t _ r

/-! ### f(k = v, ..) -/
structure HasK (P : Program) (w : World) (K : PySem.W.Frag) (mg : Str → Option Value) (base : Heap) (ca : Nat → Addr) (k : Nat) (x : Str) (ks : List Str) (F : List D → List D → M D) : Prop where
  ex : ∃ f, mg x = some (.ref f) ∧ PySem.W.keepIn K (.ref f) = true ∧ CalK P w K mg base ca k f 0 ks F
theorem HasK.mono {P : Program} {w : World} {K : PySem.W.Frag} {mg : Str → Option Value} {base : Heap} {ca : Nat → Addr} {j k : Nat} {x : Str} {ks : List Str} {F : List D → List D → M D} (h : HasK P w K mg base ca j x ks F) (l : j ≤ k) : HasK P w K mg base ca k x ks F := by
  obtain ⟨f, h1, h2, h3⟩ := h.ex
  exact ⟨f, h1, h2, h3.mono l⟩
theorem Def.kw0 {P : Program} {w : World} {K : PySem.W.Frag} {mg : Str → Option Value} {base : Heap} {ca : Nat → Addr} {x : Str} {st : Stmt} {N ps : List Str} {k : Nat} {fb : DEnv → M Fl} (d : Def K mg x st ps) (sc : FnScope N ps (defScope st)) (ks : List Str) (sel : List (Bool × Nat)) (hn : ps.length = sel.length) (hs : ∀ p ∈ sel, p.2 < if p.1 then 0 else ks.length)
    (hb : ∀ (fd : FuncData), (∃ kV doc pm an cdv ct, fd = PySem.W.fnOf x x (defArgs st) (defBody st) (defScope st) .none kV doc pm an cdv ct) → ∀ (us ws : List Value), us.length = 0 → ws.length = ks.length → bindArgs fd ⟨us, ks.zip ws⟩ = pure (ps.zip (selG sel us ws)))
    (body : ∀ (f : Addr) (cdv : Value) (A : Around) (outer : List Env) (s : Shared) (H : Hp) (E : XK), Room k (cxD P w K mg base N x (defScope st) f cdv A outer s H E).A → Takes (cxD P w K mg base N x (defScope st) f cdv A outer s H E) (wD E) →
      PassesOwn (model P w) (cxD P w K mg base N x (defScope st) f cdv A outer s H E).A (cxD P w K mg base N x (defScope st) f cdv A outer s H E).env (cxD P w K mg base N x (defScope st) f cdv A outer s H E).xe →
      PSs (cxD P w K mg base N x (defScope st) f cdv A outer s H E) (defBody st) (tS ⟨K, ca⟩ (wD E) fb)) : HasK P w K mg base ca (k + 1) x ks (fun as bs => runF N.length fb (selG sel as bs)) := by
  obtain ⟨f, fd, F, hm, hb0⟩ := d.ex
  refine ⟨f, hm, F.kp, fd, ps, sel, _, fn_D F sc hn (body f), hs, fun s us ws h1 h2 => .of_eq (hb fd ?_ us ws h1 h2), rfl⟩
  obtain ⟨oc, od, kV, doc, pm, an, cdv, ct, osl, e, _⟩ := F.ex
  exact ⟨kV, doc, pm, an, cdv, ct, e⟩
def dCallK0 (F : List D → List D → M D) (nk : Nat) (fk : DEnv → M (List D)) : DEnv → M D := fun ρ => do
  let bs ← fk ρ
  M.need (bs.length = nk)
  F [] bs
section
variable {X : Cx} {ca : Nat → Addr} {W : WX} {k : Nat} {ks : List Str} {F : List D → List D → M D} {x : Str} {p pos : Pos} {kws : List Keyword} {fk : DEnv → M (List D)}
theorem pd_callK0 (hF : HasK X.prog X.w X.K X.mg X.base ca k x ks F) (hr : Room k X.A) (tk : Takes X W) (hkw : PK X kws (tDA (gx X ca) W fk)) (hall : (backToKw pos (keywordEach kws X.env)).all (·.1.isSome) = true := by rfl) (hks : (backToKw pos (keywordEach kws X.env)).filterMap (·.1) = ks := by rfl)
    (hpl : ((backTo pos (starEach [] X.env)).any (·.1) || (backToKw pos (keywordEach kws X.env)).any (·.1.isNone)) = false := by rfl) (hg : Gl X x := by rfl) (hdb : (x == ("__debug__" : Str)) = false := by decide) :
    PE X (.Call (.Name x p) [] kws pos) (tD (gx X ca) W (dCallK0 F ks.length fk)) := by
  obtain ⟨f, hm, kp, G⟩ := hF.ex
  refine ⟨fun pins s σ H Q I ⟨ρ, μ, S, env, sto, h⟩ => ?_⟩
  refine wpAny_Call_Name_kw (ld_glob I hg hm ?_ hdb)
  have args : tDA (gx X ca) W fk σ H fun vs2 H2 => ∃ μ2 S2 bs, RepAll (gx X ca) μ2 S2 H2 vs2 bs ∧ bs.length = ks.length ∧ StoOk (gx X ca) μ2 S2 H2 ∧
      Wp (gx X ca) (fun c d H' => W c d σ H') (F [] bs) μ2 S2 H2 fun d μ' S' H' => ∀ v, Rep (gx X ca) μ' S' H' v d → Q v H' :=
    tDA_then env sto h fun as μ2 S2 H2 vs t2 k2 env2 r2 h3 => by
      obtain ⟨hl, h4⟩ := Wp.need (Wp.bind h3) k2
      exact ⟨μ2, S2, as, r2, hl, k2, h4.mono fun _ _ _ _ t _ z => z t⟩
  refine PySem.W.callWith_KW0 (h₀ := X.base) I.ok.mod.kin kp hall ?_ hpl
  refine thn (hkw.run pos pins s σ H _ I args) fun us s2 ⟨vs2, H2, I2, r, μ2, S2, bs, rb, hl, k2, h4⟩ => ⟨I2.kIn, ?_⟩
  rw [hks]
  exact run_calK G hr I2.env0 (fun e s' c => takes_at tk σ I2 c) I2 (us := []) (vs := []) .nil r .nil rb rfl hl k2 h4
end
end DD

/-! DD22: own error classes as they stand at the top -/
namespace DD
open PySem PySem.Spec PyProof.Rows L2
section
variable {K : PySem.W.Frag} {C : Addr} {ca : Nat → Addr} {c : Nat}
theorem oex_of {nm q : Str} {N : Addr} {bs bm : List Value} {sn : List Str} {sub : List Value} {ab : Bool} {col : Option Bool} {dd : Option Addr} {m0 m1 m2 m3 m5 : Option Value} (e : ca c = C)
    (xL : K.lookup C = some (excClassObj nm q C N bs bm true sn sub ab col dd m0 m1 m2 m3 m5 "ValueError.__new__")) (hr : PySem.HandSPX.refsVE bm = true) (sa : PySem.W.findIn K (.ref C) "__setattr__" = some (some (.builtin "object.__setattr__"))) (exC : PySem.W.subIn K (.ref C) (.type "BaseException") = some true)
    (tyC : PySem.W.typeIn K (.ref C) = some (.type "type")) (kC : PySem.W.keepIn K (.ref C) = true) : OexC K (ca c) := by
  subst e
  exact ⟨⟨nm, q, N, bs, bm, sn, sub, ab, col, dd, m0, m1, m2, m3, m5, xL, hr⟩, sa, exC, tyC, kC⟩
theorem ext_of (e : ca c = C) (ga : PySem.W.findIn K (.ref C) "__getattribute__" = some (some (.builtin "BaseException.__getattribute__"))) (gg : PySem.W.findIn K (.ref C) "__getattr__" = some none)
    (exC : PySem.W.subIn K (.ref C) (.type "BaseException") = some true) (hdC : PySem.W.hasDictIn K C = true) (cls : PySem.W.isClsIn K C = true)
    (cl : PySem.W.findIn K (.ref C) "__class__" = some (some (.builtin "object.__class__"))) (cg : PySem.W.specialIn K (.builtin "object.__class__") "__get__" = some (some (.builtin "getset_descriptor.__get__")))
    (ct : PySem.W.takesIn K (.builtin "object.__class__") = some true) (cm : PySem.W.mroIn K C (.type "object") = some true) : ExcT K (ca c) := by
  subst e
  exact ⟨ga, gg, exC, hdC, cls, cl, cg, ct, cm⟩
theorem exm_of {C' : Addr} {c' : Nat} {b : Bool} (e : ca c = C) (e' : ca c' = C') (h1 : PySem.W.subIn K (.ref C') (.type "BaseException") = some true) (h2 : PySem.W.isClsIn K C' = true) (h3 : PySem.W.typeIn K (.ref C') = some (.type "type"))
    (h4 : PySem.W.subIn K (.ref C) (.ref C') = some b) : PySem.W.exmOne K (.ref (ca c)) (.ref (ca c')) = some b := by
  subst e e'
  have e1 : (PySem.W.subIn K (.ref (ca c')) (.type "BaseException") == some true) = true := by rw [h1] <;> rfl
  have e2 : ((PySem.W.clsIn K (ca c')).isSome && PySem.W.typeIn K (.ref (ca c')) == some (.type "type")) = true := by
    have h2' : (PySem.W.clsIn K (ca c')).isSome = true := h2
    rw [h2', h3] <;> rfl
  show (if (PySem.W.subIn K (.ref (ca c')) (.type "BaseException") == some true) = true then (if ((PySem.W.clsIn K (ca c')).isSome && PySem.W.typeIn K (.ref (ca c')) == some (.type "type")) = true then PySem.W.subIn K (.ref (ca c)) (.ref (ca c')) else none) else none) = some b
  rw [if_pos e1, if_pos e2]
  exact h4
theorem kit_self : PySem.W.kitOne K (.ref (ca c)) (.ref (ca c)) = some true := by
  unfold PySem.W.kitOne
  rw [if_pos (beq_self_eq_true _)]
theorem kit_of {C' : Addr} {c' : Nat} {b : Bool} (e : ca c = C) (e' : ca c' = C') (hne : ((Value.ref C : Value) == .ref C') = false) (h2 : PySem.W.isClsIn K C' = true) (h3 : PySem.W.typeIn K (.ref C') = some (.type "type"))
    (h4 : PySem.W.subIn K (.ref C) (.ref C') = some b) : PySem.W.kitOne K (.ref (ca c)) (.ref (ca c')) = some b := by
  subst e e'
  have e2 : ((PySem.W.clsIn K (ca c')).isSome && PySem.W.typeIn K (.ref (ca c')) == some (.type "type")) = true := by
    have h2' : (PySem.W.clsIn K (ca c')).isSome = true := h2
    rw [h2', h3] <;> rfl
  show (if ((Value.ref (ca c) : Value) == .ref (ca c')) = true then some true else (if ((PySem.W.clsIn K (ca c')).isSome && PySem.W.typeIn K (.ref (ca c')) == some (.type "type")) = true then PySem.W.subIn K (.ref (ca c)) (.ref (ca c')) else none)) = some b
  rw [hne, if_neg Bool.false_ne_true, if_pos e2]
  exact h4
theorem no_of' {f : Str} (e : ca c = C) (a : PySem.W.findIn K (.ref C) f = some none) : PySem.W.findIn K (.ref (ca c)) f = some none := by
  subst e
  exact a
theorem Cst.cls {mg : Str → Option Value} {h : Heap} {x : Str} (e : ca c = C) (X : K.In h) (G : h.Ns mainGlobals mg) (a : PySem.W.nsIn K mainGlobals x = some (some (.ref C))) : Cst mg x (.ref (ca c)) := by
  subst e
  exact ⟨_, PySem.W.mg_of X G a, rfl⟩
theorem Cst.cmg {mg : Str → Option Value} {x : Str} (h : Cst mg x (.ref (ca c))) : mg x = some (.ref (ca c)) := by
  obtain ⟨u, e, r⟩ := h
  cases (show u = Value.ref (ca c) from r)
  exact e
/-- a class above others, without an __init__ of its own -/
structure BaseX (K : PySem.W.Frag) (ca : Nat → Addr) (c : Nat) (mc : Value) : Prop where
  rd : PySem.W.readsIn K (ca c) mc = true
  ga : PySem.W.specialIn K (.ref (ca c)) "__getattribute__" = some (some (.builtin "type.__getattribute__"))
  at_ : PySem.W.findCls K (.ref (ca c)) mc "__init__" = some (.val (.builtin "ValueError.__init__"))
theorem BaseX.of {mc : Value} (e : ca c = C) (rd : PySem.W.readsIn K C mc = true) (ga : PySem.W.specialIn K (.ref C) "__getattribute__" = some (some (.builtin "type.__getattribute__")))
    (at_ : PySem.W.findCls K (.ref C) mc "__init__" = some (.val (.builtin "ValueError.__init__"))) : BaseX K ca c mc := by
  subst e
  exact ⟨rd, ga, at_⟩
/-- an error's class with an __init__ of its own -/
structure DefX (K : PySem.W.Frag) (ca : Nat → Addr) (c : Nat) (qual : Str) (st : Stmt) (ps : List Str) : Prop where
  ex : ∃ f fd, Fun K "__init__" qual st f fd ∧ PySem.W.findIn K (.ref (ca c)) "__init__" = some (some (.ref f)) ∧ PySem.W.typeIn K (.ref f) = some (.type "function") ∧ Binds K fd ps []
theorem DefX.of {qual : Str} {st : Stmt} {ps : List Str} {f : Addr} {oc : Value} {od an : Option Addr} {osl : Array (Option Value)} {kV doc pm cdv ct : Value} (e : ca c = C)
    (b : ∀ (kV doc pm : Value) (an : Option Addr) (cdv ct : Value) (us : List Value), us.length = ps.length → bindArgs (PySem.W.fnOf "__init__" qual (defArgs st) (defBody st) (defScope st) .none kV doc pm an cdv ct) ⟨us, []⟩ = pure (ps.zip us))
    (i : PySem.W.findIn K (.ref C) "__init__" = some (some (.ref f))) (t : PySem.W.typeIn K (.ref f) = some (.type "function")) (l : K.lookup f = some ⟨oc, od, .func (PySem.W.fnOf "__init__" qual (defArgs st) (defBody st) (defScope st) .none kV doc pm an cdv ct), osl⟩)
    (cc : PySem.W.codeIn K cdv qual = true) (k : PySem.W.keepIn K (.ref f) = true) : DefX K ca c qual st ps := by
  subst e
  have F := fun_mk (st := st) l cc k
  exact ⟨f, _, F, i, t, F.binds b⟩
variable {P : Program} {w : World} {mg : Str → Option Value} {base : Heap}
/-- what such an __init__ of one field must show -/
theorem DefX.mak1 {qual s f m x : Str} {st : Stmt} (d : DefX K ca c qual st [s, f]) (T : OexC K (ca c)) (hm : Cst mg x (.ref (ca c))) (no : PySem.W.findIn K (.ref (ca c)) f = some none) (sc : FnScope [s, f] [s, f] (defScope st))
    (body : ∀ (fa : Addr) (cdv : Value) (A : Around) (outer : List Env) (sh : Shared) (H : Hp) (E : XK), PSs (cxOf (L2.CX P w) P w K mg base [s, f] qual (defScope st) fa cdv A outer sh H E) (defBody st) (tSeq (tDrop (tVeI K (tCons (tVar 0) (tCons (tC (.str m)) tNil)))) (tOst K f (tVar 0) (tVar 1)))) :
    XMak P w K mg base ca 1 x c [f] := by
  obtain ⟨fa, fd, F, hi, ht, hb⟩ := d.ex
  refine ⟨fa, fd, [s, f], T, hi, ht, F.okX sc (fun vs H Q E h => spX_len rfl vs H Q E h) (fun cdv A outer sh H vs Q E _ h => ⟨_, body fa cdv A outer sh H E, rd_init1 no h⟩), hb, hm.cmg⟩
theorem xmak0_of {x : Str} (e : ca c = C) (ex : PySem.W.excIn K C [.type "ValueError", .type "Exception", .type "BaseException", .type "object"] "ValueError.__new__" = true) (kp : PySem.W.keepIn K (.ref C) = true)
    (sb : PySem.W.subIn K (.ref C) (.type "BaseException") = some true) (ty : PySem.W.typeIn K (.ref C) = some (.type "type")) (hm : Cst mg x (.ref (ca c))) : XMak0 K mg ca x c := by
  subst e
  exact ⟨ex, kp, sb, ty, hm.cmg⟩
end
theorem all_nil' {α : Type} {p : α → Prop} : ∀ q ∈ ([] : List α), p q := fun _ h => nomatch h
theorem all_cons' {α : Type} {p : α → Prop} {a : α} {l : List α} (h : p a) (r : ∀ q ∈ l, p q) : ∀ q ∈ a :: l, p q := fun q hq => by
  rcases List.mem_cons.mp hq with rfl | z
  · exact h
  · exact r q z
theorem room1 {k : Nat} {A : Around} (r : Room k A) : A.units + 1 < cLine := by
  have := r.un
  omega
end DD

/-! DD20: own operators, own == and !=, isinstance with own classes -/
namespace DD
open PySem PySem.Spec PyProof.Rows L2

/-! ### x & y, x | y, x - y of two instances of one class -/
def sameC (x y : D) : M Unit := do
  let p ← insD x
  let q ← insD y
  M.need (p.1 = q.1)
def binTail (T : MTab) (x y : D) : M D := do
  let _ ← sameC x y
  let F ← pickS T x
  F [x, y]
def dBinO (T : MTab) (fa fb : DEnv → M D) : DEnv → M D := fun ρ => do
  let x ← fa ρ
  let y ← fb ρ
  binTail T x y
/-- what an operator asks of the class: first in its own order of classes -/
def FirstC (K : PySem.W.Frag) (ca : Nat → Addr) (T : MTab) : Prop := ∀ q ∈ T, PySem.W.selfFirst K (ca q.1) = true
section
variable {X : Cx} {ca : Nat → Addr} {W : WX} {k : Nat} {T : MTab} {a b : Expr} {fa fb : DEnv → M D} {pos : Pos} {op : Operator} {m : Str}
theorem pd_binO (hT : SltX X ca k T m 2) (hf : FirstC X.K ca T) (hr : Room k X.A) (tk : Takes X W) (ha : PE X a (tD (gx X ca) W fa)) (hb : PE X b (tD (gx X ca) W fb)) (hm : PySem.dunder op.info.2 = m := by decide +kernel) :
    PE X (.BinOp a op b pos) (tD (gx X ca) W (dBinO T fa fb)) := by
  refine ⟨fun pins s σ H Q I ⟨ρ, μ, S, env, sto, h⟩ => ?_⟩
  have both : tD (gx X ca) W fa σ H fun v H1 => tD (gx X ca) W fb σ H1 fun u H2 => ∃ μ2 S2 x y, StoOk (gx X ca) μ2 S2 H2 ∧ Rep (gx X ca) μ2 S2 H2 v x ∧ Rep (gx X ca) μ2 S2 H2 u y ∧
      Wp (gx X ca) (fun c d H' => W c d σ H') (binTail T x y) μ2 S2 H2 fun d μ' S' H' => ∀ v, Rep (gx X ca) μ' S' H' v d → Q v H' :=
    tD_then env sto h fun d μ1 S1 H1 v t1 k1 env1 r1 h1 => tD_then env1 k1 h1 fun d2 μ2 S2 H2 v2 t2 k2 env2 r2 h2 => ⟨μ2, S2, d, d2, k2, r1.step t2, r2, h2⟩
  refine wpAny_BinOp (binT ha hb I both fun v u s2 x y H2 I2 rx ry ⟨μ2, S2, dx, dy, k2, r1, r2, h2⟩ => ?_)
  obtain ⟨c1, fs1, a1, dx1, vs1, e1, ea1, _, h3⟩ := Wp.insD (Wp.bind (Wp.bind h2)) k2 r1
  obtain ⟨c2, fs2, a2, dx2, vs2, e2, ea2, _, h4⟩ := Wp.insD (Wp.bind h3) k2 r2
  obtain ⟨ec, h5⟩ := Wp.need h4 k2
  subst e2
  have h6 := h5 (Step.refl _ _ _) (Step.refl _ _ _)
  obtain ⟨c, o, dd, vs, F, rfl, eo, hF, h7⟩ := Wp.pickS (Wp.bind h6) k2 r1
  cases e1
  rw [eo] at ea1
  have ecc : (gx X ca).ca c = (gx X ca).ca c1 := by injection ea1 with z; injection z
  obtain rfl : v = Value.ref a1 := rx
  obtain rfl : u = Value.ref a2 := ry
  obtain ⟨f, f1, f2, f3, G⟩ := (hT _ hF).ex
  obtain ⟨m', fr⟩ := I2.fr
  obtain ⟨od, J⟩ := ins_at I2 eo
  obtain ⟨od2, J2⟩ := ins_at I2 ea2
  have hb2 : PySem.W.Looks (model X.prog X.w) s2.heap (typeOf (.ref a2)) (.ref ((gx X ca).ca c)) := by
    rw [ecc, show c1 = c2 from ec]
    exact J2.type
  refine PySem.W.binop_K fr I2.ok.mod.kin J hb2 (hf _ hF) (by rw [hm]; exact f1) f3 ?_
  refine wpAny_mono (run_cal G hr I2.env0 (fun e s' c => takes_at tk σ I2 c) I2 (us := [.ref a1, .ref a2]) (vs := [.ref a1, .ref a2]) (.cons rfl (.cons rfl .nil)) (.cons r1 (.cons r2 .nil)) rfl k2 (h7.mono fun _ _ _ _ t _ z => z t t)) (fun w s' z => ?_) fun _ _ z => z
  obtain ⟨z', H', I', rz, qz⟩ := z
  exact SlX.cmpback rz ⟨z', H', I', rz, qz⟩
end

/-! ### x == y, x != y, x an instance -/
/-- y is an instance of the c-th class too, or of no own class -/
def yOk (c : Nat) : D → M Unit
  | .non => pure ()
  | .tup _ => pure ()
  | .lst _ => pure ()
  | .obj c' _ => M.need (c' = c)
  | .cell n => do let p ← M.get (insS n); M.need (p.1 = c)
  | _ => M.bad
def eqTail (neg : Bool) (T : MTab) (x y : D) : M D := do
  let p ← insD x
  let _ ← yOk p.1 y
  let F ← M.get fun _ => mtGet T p.1
  let r ← M.nx (F [x, y])
  let b ← toB r
  pure (.bl (b != neg))
def rEqO (g : Gx) (T : MTab) (neg : Bool) : R2 := fun v u H Q => ∃ x y μ S, StoOk g μ S H ∧ Rep g μ S H v x ∧ Rep g μ S H u y ∧ Wp g EF (eqTail neg T x y) μ S H fun d μ' S' H' => ∀ w, Rep g μ' S' H' w d → Q w H'
theorem NoX.need {c : Prop} [Decidable c] : NoX (M.need c) := fun S d fs S' e => by
  unfold M.need at e
  split at e <;> cases e
theorem NoX.yOk {c : Nat} {d : D} : NoX (yOk c d) := by
  cases d <;> first | exact NoX.pure | exact NoX.need | exact NoX.get.bind fun _ => NoX.need | exact NoX.bad
theorem eqO_s {g : Gx} {T : MTab} {neg : Bool} : OpS g (rEqO g T neg) (eqTail neg T) := fun E μ S H v u x y Q k rx ry h =>
  ⟨x, y, μ, S, k, rx, ry, Wp.free (fun c fs S' => (NoX.insD.bind fun _ => NoX.yOk.bind fun _ => NoX.get.bind fun _ => NoX.nx.bind fun _ => NoX.toB.bind fun _ => NoX.pure) S c fs S') h⟩
/-- what == asks of a class -/
structure EqC (K : PySem.W.Frag) (C : Addr) : Prop where
  nn : PySem.W.subIn K (.type "NoneType") (.ref C) = some false
  nt : PySem.W.subIn K (.type "tuple") (.ref C) = some false
  nl : PySem.W.subIn K (.type "list") (.ref C) = some false
  ne : PySem.W.findIn K (.ref C) "__ne__" = some (some (.builtin "object.__ne__"))
  mo : PySem.W.mroIn K C (.type "object") = some true
section
variable {X : Cx} {ca : Nat → Addr} {k : Nat} {T : MTab}
theorem yOk_ty {E : XK} {c : Nat} {μ : Gh} {S : Sto} {H : Hp} {pins : List (Addr × Obj)} {σ : L2.St} {s : Shared} {u : V} {uu : Value} {y : D} {Q : Unit → Gh → Sto → Hp → Prop} (hc : EqC X.K (ca c)) (I : Inv X pins σ H s) (ru : RelV u uu) (k : StoOk (gx X ca) μ S H) (r : Rep (gx X ca) μ S H u y) (h : Wp (gx X ca) E (yOk c y) μ S H Q) :
    ∃ tb, PySem.W.Looks (model X.prog X.w) s.heap (typeOf uu) tb ∧ PySem.W.notFirst X.K (ca c) tb = true ∧ Q () μ S H := by
  have no : ∀ {t : Value}, PySem.W.subIn X.K t (.ref (ca c)) = some false → PySem.W.notFirst X.K (ca c) t = true := fun {t} e => by
    unfold PySem.W.notFirst
    rw [e]
    simp
  cases r with
  | non =>
    cases (show uu = Value.none from ru)
    exact ⟨.type "NoneType", .now, no hc.nn, Wp.pure h k⟩
  | tup f q =>
    cases (show uu = Value.ref _ from ru)
    rcases f with ⟨(f | ⟨o, f⟩), _⟩ | ⟨o, its, n, e1, e2, _⟩
    · obtain ⟨_, _, _, o, h1, h2, _⟩ := (show ObjOk X.prog X.w H s.heap _ (.tup _) from I.hok _ _ f)
      exact ⟨.type "tuple", fun A Q E s k q => wpAny_typeOf_ref (k _ _ h1) (by rw [h2]; exact q), no hc.nt, Wp.pure h k⟩
    · obtain ⟨_, _, _, _, o, h1, h2, _⟩ := (show ObjOk X.prog X.w H s.heap _ (.frz _ (.tup _)) from I.hok _ _ f)
      exact ⟨.type "tuple", fun A Q E s k q => wpAny_typeOf_ref (k _ _ h1) (by rw [h2]; exact q), no hc.nt, Wp.pure h k⟩
    · exact ⟨.type "tuple", fun A Q E s k q => wpAny_typeOf_ref (k _ _ (I.kIn _ _ e1)) (by rw [e2]; exact q), no hc.nt, Wp.pure h k⟩
  | lst f q =>
    cases (show uu = Value.ref _ from ru)
    obtain ⟨_, _, n, _, h1⟩ := (show ObjOk X.prog X.w H s.heap _ (.lst _) from I.hok _ _ f.1)
    exact ⟨.type "list", fun A Q E s k q => wpAny_typeOf_ref (k _ _ h1) q, no hc.nl, Wp.pure h k⟩
  | obj h1 n1 rf =>
    obtain ⟨e, h2⟩ := Wp.need h k
    cases (show uu = Value.ref _ from ru)
    obtain ⟨od, J⟩ := ins_at I h1
    refine ⟨_, J.type, ?_, h2⟩
    unfold PySem.W.notFirst
    rw [e]
    simp
  | cell e1 =>
    obtain ⟨p, e2, h2⟩ := Wp.get (Wp.bind h) k
    obtain ⟨e3, h3⟩ := Wp.need h2 k
    obtain ⟨b, e4, q⟩ := k.at_ _ _ (insS_some e2)
    rw [e1] at e4
    cases e4
    obtain ⟨dx, vs, h4, _⟩ := q
    cases (show uu = Value.ref _ from ru)
    obtain ⟨od, J⟩ := ins_at I h4
    refine ⟨_, J.type, ?_, h3 (Step.refl _ _ _)⟩
    unfold PySem.W.notFirst
    rw [e3]
    simp
  | _ => exact (show False from h).elim
theorem eq_fx {g : Gx} {neg : Bool} {c : Nat} {μ : Gh} {S : Sto} {H : Hp} {x y : D} {Q : D → Gh → Sto → Hp → Prop} (sto : StoOk g μ S H)
    (h : Wp g EF (do let _ ← yOk c y; let F ← M.get fun _ => mtGet T c; let r ← M.nx (F [x, y]); let b ← toB r; pure (D.bl (b != neg)) : M D) μ S H Q) : ∃ Fx, mtGet T c = some Fx := by
  cases e : mtGet T c with
  | some F => exact ⟨F, rfl⟩
  | none =>
    rcases (Wp.bind h).run with ⟨u', S', e2, w⟩ | ⟨c', fs', S', e2, _⟩
    · exfalso
      have w3 : ∀ μ' H', Step μ S H μ' S' H' → StoOk g μ' S' H' → False := fun μ' H' t k => by
        obtain ⟨F, e3, _⟩ := Wp.get (Wp.bind (w μ' H' t k)) k
        rw [e] at e3
        cases e3
      have : S' = S := by
        cases y with
        | cell n =>
          obtain ⟨p, S1, e4, e5⟩ := M.bind_ok e2
          obtain ⟨_, rfl⟩ := M.get_ok e4
          exact (M.need_ok e5).2
        | obj c' fs' => exact (M.need_ok e2).2
        | non => cases e2; rfl
        | tup _ => cases e2; rfl
        | lst _ => cases e2; rfl
        | _ => cases e2
      subst this
      exact w3 μ H (Step.refl _ _ _) sto
    · exact absurd e2 (NoX.yOk _ _ _ _)
theorem op_eqO (hT : SltX X ca k T "__eq__" 2) (hC : ∀ q ∈ T, EqC X.K (ca q.1)) (hr : Room k X.A) : OpR X (compareOp .Eq) (rEqO (gx X ca) T false) := by
  rintro pins s σ H v u vv uu Q I rv ru ⟨x, y, μ, S, sto, rx, ry, h⟩
  obtain ⟨c, fs, a, dx, vs, rfl, ea, _, h1⟩ := Wp.insD (Wp.bind h) sto rx
  have hc : ∀ F, mtGet T c = some F → EqC X.K (ca c) := fun F e => hC (c, F) (mtGet_mem e)
  obtain ⟨Fx, er⟩ := eq_fx sto h1
  obtain ⟨tb, Lb, nf, h2⟩ := yOk_ty (hc _ er) I ru sto ry (Wp.bind h1)
  obtain ⟨F, e1, h3⟩ := Wp.get (Wp.bind h2) sto
  obtain rfl : vv = Value.ref a := rv
  obtain ⟨f, f1, f2, f3, G⟩ := (hT _ (mtGet_mem e1)).ex
  obtain ⟨m, fr⟩ := I.fr
  obtain ⟨od, J⟩ := ins_at I ea
  show wpAny _ _ (richCompare .Eq (.ref a) uu) _ _ _
  refine PySem.W.cmp_K (op := .Eq) (tb := tb) hr.units0 fr I.ok.mod.kin J Lb nf f1 f3 ?_
  obtain ⟨r, S2, er2, hq⟩ := Wp.nx (Wp.bind h3)
  refine wpAny_mono (run_cal (E0 := EF) (Q := Q) (EE := X.xe) G hr I.env0 (fun e s' c => takes_none c) I (us := [.ref a, uu]) (vs := [.ref a, u]) (.cons rfl (.cons ru .nil)) (.cons rx (.cons ry .nil)) rfl sto
    (Wp.of_ok er2 fun μ2 H2 t2 k2 z rz => ?_)) (fun w s' z => ?_) fun _ _ z => z
  · obtain ⟨b, rfl, h4⟩ := Wp.toB (Wp.bind (hq μ2 H2 t2 k2)) k2 rz
    have h5 := Wp.pure h4 k2 (Step.refl _ _ _) t2 t2
    rw [Bool.bne_false] at h5
    exact h5 t2 t2 _ (.bl _)
  · obtain ⟨z', H', I', rz, qz⟩ := z
    exact SlX.cmpback rz ⟨z', H', I', rz, qz⟩
theorem op_neO (hT : SltX X ca k T "__eq__" 2) (hC : ∀ q ∈ T, EqC X.K (ca q.1)) (hr : Room (k + 1) X.A) : OpR X (compareOp .NotEq) (rEqO (gx X ca) T true) := by
  rintro pins s σ H v u vv uu Q I rv ru ⟨x, y, μ, S, sto, rx, ry, h⟩
  obtain ⟨c, fs, a, dx, vs, rfl, ea, _, h1⟩ := Wp.insD (Wp.bind h) sto rx
  have hc : ∀ F, mtGet T c = some F → EqC X.K (ca c) := fun F e => hC (c, F) (mtGet_mem e)
  obtain ⟨Fx, er⟩ := eq_fx sto h1
  obtain ⟨tb, Lb, nf, h2⟩ := yOk_ty (hc _ er) I ru sto ry (Wp.bind h1)
  obtain ⟨F, e1, h3⟩ := Wp.get (Wp.bind h2) sto
  obtain rfl : vv = Value.ref a := rv
  obtain ⟨f, f1, f2, f3, G⟩ := (hT _ (mtGet_mem e1)).ex
  obtain ⟨m, fr⟩ := I.fr
  obtain ⟨od, J⟩ := ins_at I ea
  show wpAny _ _ (richCompare .NotEq (.ref a) uu) _ _ _
  have hE := hc _ er
  have hun : X.A.units + 1 < cLine := by have := hr.un; omega
  refine PySem.W.ne_K (tb := tb) hun fr I.ok.mod.kin J Lb nf hE.ne hE.mo f1 f3 ?_
  obtain ⟨r, S2, er2, hq⟩ := Wp.nx (Wp.bind h3)
  refine wpAny_mono (run_cal (E0 := EF) (Q := fun z H' => ∃ b, z = .bl b ∧ Q (.bl (!b)) H') (EE := X.xe) G hr.in1 I.env0.in1 (fun e s' c => takes_none c) I (us := [.ref a, uu]) (vs := [.ref a, u]) (.cons rfl (.cons ru .nil)) (.cons rx (.cons ry .nil)) rfl sto
    (Wp.of_ok er2 fun μ2 H2 t2 k2 z rz => ?_)) (fun w s' z => ?_) fun _ _ z => z
  · obtain ⟨b, rfl, h4⟩ := Wp.toB (Wp.bind (hq μ2 H2 t2 k2)) k2 rz
    have h5 := Wp.pure h4 k2 (Step.refl _ _ _) t2 t2
    rw [Bool.bne_true] at h5
    refine ⟨b, ?_, h5 t2 t2 _ (.bl _)⟩
    cases rz
    rfl
  · obtain ⟨z', H', I', rz, b, rfl, qz⟩ := z
    exact ⟨b, rz, .bl (!b), H', I', rfl, qz⟩
end

/-! ### isinstance, own classes and built-in ones -/
inductive TK where
  | blt (t : String) | own (c : Nat)
  deriving DecidableEq
def TK.val (g : Gx) : TK → Value
  | .blt t => .type t
  | .own c => .ref (g.ca c)
def cellTy (n : Nat) (S : Sto) : Option TK := match S[n]? with
  | some (some (.lst _)) => some (.blt "list")
  | some (some (.obj c _)) => some (.own c)
  | _ => none
def tyK : D → M TK
  | .obj c _ => pure (.own c)
  | .cell n => M.get (cellTy n)
  | d => do let t ← tyOfM d; pure (.blt t)
def clsK : D → Option TK
  | .ty u => some (.blt u)
  | .cls c => some (.own c)
  | _ => none
abbrev TKTab := List (TK × TK × Bool)
def tkGet (T : TKTab) (a b : TK) : Option Bool := (T.find? fun q => decide (q.1 = a) && decide (q.2.1 = b)).map (·.2.2)
def dIsK (T : TKTab) : List D → M D
  | [x, y] => do
    let κ ← tyK x
    let u ← M.get fun _ => clsK y
    let b ← M.get fun _ => tkGet T κ u
    pure (.bl b)
  | _ => M.bad
/-- what isinstance asks of an own class -/
structure IsC (K : PySem.W.Frag) (C : Addr) : Prop where
  cl : Cls K C
  ca : PySem.W.findIn K (.ref C) "__class__" = some (some (.builtin "object.__class__"))
  cg : PySem.W.specialIn K (.builtin "object.__class__") "__get__" = some (some (.builtin "getset_descriptor.__get__"))
  ct : PySem.W.takesIn K (.builtin "object.__class__") = some true
  cm : PySem.W.mroIn K C (.type "object") = some true
section
variable {g : Gx} {E : XK} {μ : Gh} {S : Sto} {H : Hp} {d : D} {v : V}
theorem tyK_of {Q : TK → Gh → Sto → Hp → Prop} (k : StoOk g μ S H) (r : Rep g μ S H v d) (h : Wp g E (tyK d) μ S H Q) : ∃ κ, ((∀ c, κ = .own c → IsC g.K (g.ca c)) → TyX g.K H v (κ.val g)) ∧ Q κ μ S H := by
  have low : ∀ {t : String}, TyX g.K H v (.type t) → Q (.blt t) μ S H → ∃ κ, ((∀ c, κ = .own c → IsC g.K (g.ca c)) → TyX g.K H v (κ.val g)) ∧ Q κ μ S H := fun {t} a b => ⟨.blt t, fun _ => a, b⟩
  have own : ∀ {c : Nat} {a dx : Addr} {vs : List (Str × V)}, v = .ref a → H a = some (.ins (g.ca c) dx vs) → Q (.own c) μ S H → ∃ κ, ((∀ c, κ = .own c → IsC g.K (g.ca c)) → TyX g.K H v (κ.val g)) ∧ Q κ μ S H := fun {c a dx vs} e1 e2 b =>
    ⟨.own c, fun f => by
      have i := f c rfl
      rw [e1]
      exact .base (.ins e2 i.cl i.ca i.cg i.ct i.cm), b⟩
  have plain : Wp g E (do let t ← tyOfM d; pure (TK.blt t) : M TK) μ S H Q → ∃ κ, ((∀ c, κ = .own c → IsC g.K (g.ca c)) → TyX g.K H v (κ.val g)) ∧ Q κ μ S H := fun h => by
    obtain ⟨t, _, ty, h1⟩ := tyX_of (t := "") k r (Wp.bind h)
    exact low ty (Wp.pure h1 k (Step.refl _ _ _))
  cases r with
  | obj h1 n1 rf => exact own rfl h1 (Wp.pure h k)
  | cell e =>
    obtain ⟨κ, e1, h1⟩ := Wp.get h k
    unfold cellTy at e1
    split at e1
    · rename_i xs e2
      cases e1
      obtain ⟨b, e4, q⟩ := k.at_ _ _ e2
      rw [e] at e4
      cases e4
      obtain ⟨vs, h4, _⟩ := q
      exact low (.base (.lst h4)) h1
    · rename_i c fs e2
      cases e1
      obtain ⟨b, e4, q⟩ := k.at_ _ _ e2
      rw [e] at e4
      cases e4
      obtain ⟨dx, vs, h4, _⟩ := q
      exact own rfl h4 h1
    · cases e1
  | non => exact plain h
  | bl b => exact plain h
  | int i => exact plain h
  | str x => exact plain h
  | tup f q => exact plain h
  | lst f q => exact plain h
  | rol f q => exact plain h
  | ty n => exact plain h
  | cls c => exact plain h
  | exn0 h1 n1 => exact plain h
  | exn1 h1 n1 h2 n2 rf => exact plain h
theorem isK_s {T : TKTab} (hT : ∀ q ∈ T, PySem.W.kitOne g.K (q.1.val g) (q.2.1.val g) = some q.2.2) (hI : ∀ q ∈ T, ∀ c, q.1 = .own c → IsC g.K (g.ca c)) : CallS g (rIsi g.K) (dIsK T) := by
  intro E μ S H vs xs Q k r h
  unfold dIsK at h
  split at h
  · obtain ⟨v, u, rfl, r1, r2⟩ := rep2 r
    obtain ⟨κ, ty, h1⟩ := tyK_of k r1 (Wp.bind h)
    obtain ⟨w, e1, h2⟩ := Wp.get (Wp.bind h1) k
    obtain ⟨b, e2, h3⟩ := Wp.get (Wp.bind h2) k
    unfold tkGet at e2
    obtain ⟨q, e3, e4⟩ := Option.map_eq_some_iff.mp e2
    have hm := List.mem_of_find?_eq_some e3
    have hp := List.find?_some e3
    simp only [Bool.and_eq_true, decide_eq_true_eq] at hp
    have kt := hT q hm
    rw [hp.1, hp.2, e4] at kt
    have ty' := ty fun c e => hI q hm c (by rw [hp.1, e])
    have fin : Q (.bl b) H := Wp.pure h3 k (Step.refl _ _ _) (Step.refl _ _ _) (Step.refl _ _ _) _ (.bl b)
    cases r2 with
    | ty n =>
      cases e1
      exact ⟨_, _, _, _, b, rfl, .ty _, ty', kt, fin⟩
    | cls c =>
      cases e1
      exact ⟨_, _, _, _, b, rfl, .own _, ty', kt, fin⟩
    | _ => cases e1
  · exact (show False from h).elim
end
end DD

/-! DD23: sum of a tuple, max of a list, (n, row) < (m, other), classes whose __init__ has a star parameter -/
namespace DD
open PySem PySem.Spec PyProof.Rows L2

/-! ### sum of a tuple -/
section
variable {prog : Program} {w : World} {A : Around} {E : Value → Shared → Prop} {s : Shared}
theorem sum_rawT {l : Addr} {its : List Value} {ns : List Int} {Q : Value → Shared → Prop} (hh : A.handled = none) (hl : s.heap.IsTuple l its.toArray) (hi : IntsAre its ns)
    (h : ∀ h' tk t', (∀ b o, s.heap.get? b = some o → h'.get? b = some o) → Q (.int ns.sum t') { s with heap := h', toks := tk }) : wpAny (model prog w) A (call (.builtin "sum") [.ref l]) Q E s := by
  obtain ⟨xs, e⟩ := hi.allInts.items
  have hn : numsOf (intItems xs).toList = ns := by rw [← e]; exact hi.numsOf
  rw [nums_intItems] at hn
  rw [e] at hl
  refine call_sum_walkAnyS (PySem.W.iter_tupleW (A := A.in1) hh hl fun s₂ e₂ W st hfp hw hk => ?_)
  refine ⟨_, _, _, _, _, _, _, numAt xs, rfl, W, st, hfp, fun _ _ => intItems_at, fun s' t' hm => ?_⟩
  obtain ⟨h', tk, rfl, hk'⟩ := PySem.W.moved_old e₂ rfl hm
  have z := h h' tk t' hk'
  have e3 : (intItems xs).size = xs.size := by simp [intItems]
  rw [e3, preSum_eq, List.take_of_length_le (by simp), hn]
  exact z
end
def rSumT (K : PySem.W.Frag) : List V → Hp → VK → Prop := fun vs H Q => ∃ (a : Addr) (ns : List Int), vs = [V.ref a] ∧ SqT K H a (ns.map V.int) ∧ Q (.int ns.sum) H
theorem cr_sumT {X : Cx} (hc : X.calm = true) : CallR X (.builtin "sum") (rSumT X.K) := by
  intro pins s σ H vs us Q I r h
  obtain ⟨a, ns, rfl, hs, q⟩ := h
  obtain ⟨its, rv, hl, _⟩ := I.tuple hs
  rw [Vals.ref1 r]
  exact sum_rawT (I.ok.hd hc) hl rv.ints fun h' tk t' hk => ⟨.int _, H, I.kept hk, ⟨_, rfl⟩, q⟩
abbrev dSumT := one fun x => match x with | .tup xs => do let ns ← M.get fun _ => unInts xs; pure (.int ns.sum) | _ => M.bad
section
variable {g : Gx} {μ : Gh} {S : Sto} {H : Hp}
theorem sumT_s : CallS g (rSumT g.K) dSumT := by
  refine one_s fun E μ S H v d Q k r h => ?_
  · skip
    cases r with
    | tup f q =>
      obtain ⟨ns, e, h2⟩ := Wp.get (Wp.bind h) k
      have ev := unInts_rep q e
      subst ev
      exact ⟨_, ns, rfl, f.sq, Wp.pure h2 k (Step.refl _ _ _) _ (.int _)⟩
    | _ => exact (show False from h).elim
/-! ### max of a list of ints -/
def maxI : List Int → Option Int
  | [] => none
  | n :: ns => some (ns.foldl (fun a b => if a ≤ b then b else a) n)
theorem foldl_max : ∀ (ns : List Int) (n : Int), let m := ns.foldl (fun a b => if a ≤ b then b else a) n; (m = n ∨ m ∈ ns) ∧ n ≤ m ∧ ∀ y ∈ ns, y ≤ m
  | [], n => ⟨.inl rfl, Int.le_refl _, fun _ h => nomatch h⟩
  | x :: ns, n => by
    obtain ⟨h1, h2, h3⟩ := foldl_max ns (if n ≤ x then x else n)
    have a1 : n ≤ if n ≤ x then x else n := by split <;> omega
    have a2 : x ≤ if n ≤ x then x else n := by split <;> omega
    refine ⟨?_, Int.le_trans a1 h2, fun y hy => ?_⟩
    · rcases h1 with h1 | h1
      · by_cases q : n ≤ x
        · rw [if_pos q] at h1
          exact .inr (by rw [List.foldl_cons, if_pos q, h1]; exact List.mem_cons_self)
        · rw [if_neg q] at h1
          exact .inl (by rw [List.foldl_cons, if_neg q, h1])
      · exact .inr (List.mem_cons_of_mem _ h1)
    · rcases List.mem_cons.mp hy with rfl | hy
      · exact Int.le_trans a2 h2
      · exact h3 y hy
theorem maxI_spec {ns : List Int} {m : Int} (h : maxI ns = some m) : m ∈ ns ∧ ∀ y ∈ ns, y ≤ m := by
  cases ns with
  | nil => cases h
  | cons n ns =>
    cases h
    obtain ⟨h1, h2, h3⟩ := foldl_max ns n
    refine ⟨?_, fun y hy => ?_⟩
    · rcases h1 with h1 | h1
      · rw [h1]; exact List.mem_cons_self
      · exact List.mem_cons_of_mem _ h1
    · rcases List.mem_cons.mp hy with rfl | hy
      · exact h2
      · exact h3 y hy
abbrev dMaxL := one fun x => do let xs ← seqL x; let ns ← M.get fun _ => unInts xs; let m ← M.get fun _ => maxI ns; pure (.int m)
theorem maxL_s : CallS g (rMax g.K) dMaxL := by
  refine one_s fun E μ S H v d Q k r h => ?_
  · skip
    obtain ⟨xs, a, vs, rfl, hq, rx, h1⟩ := Wp.seqL (Wp.bind h) k r
    obtain ⟨ns, e, h2⟩ := Wp.get (Wp.bind h1) k
    obtain ⟨m, e2, h3⟩ := Wp.get (Wp.bind h2) k
    have ev := unInts_rep rx e
    subst ev
    obtain ⟨m1, m2⟩ := maxI_spec e2
    refine ⟨a, ns, rfl, .of hq, List.length_pos_of_mem m1, fun m' a1 a2 => ?_⟩
    obtain rfl : m' = m := Int.le_antisymm (m2 _ a1) (a2 _ m1)
    exact Wp.pure h3 k (Step.refl _ _ _) (Step.refl _ _ _) (Step.refl _ _ _) _ (.int _)
end

/-! ### (n, row) < (m, other) -/
def pairR (a : Int) (ns : List Int) : PyData := .tuple [.int a, .tuple (ns.map PyData.int)]
theorem alike_ints : ∀ ns ms : List Int, PySem.W.alikeAll (ns.map PyData.int) (ms.map PyData.int) = true
  | [], [] => rfl
  | [], _ :: _ => by simp [PySem.W.alikeAll]
  | _ :: _, [] => by simp [PySem.W.alikeAll]
  | n :: ns, m :: ms => by simpa [PySem.W.alikeAll, PySem.W.alike] using alike_ints ns ms
theorem toks_ints : ∀ ns ms : List Int, PyProof.Rows.lexLt PyProof.Rows.itemOrd (PySem.W.keyToksAll (ns.map PyData.int)) (PySem.W.keyToksAll (ms.map PyData.int)) = HT.lexLt ns ms
  | [], [] => rfl
  | [], m :: ms => rfl
  | n :: ns, [] => rfl
  | n :: ns, m :: ms => by
    have ha : PySem.W.alike (.int n) (.int m) = true := by simp [PySem.W.alike]
    show PyProof.Rows.lexLt PyProof.Rows.itemOrd (PySem.W.keyToksAll (.int n :: ns.map PyData.int)) (PySem.W.keyToksAll (.int m :: ms.map PyData.int)) = _
    rw [HT.lexLt_cons]
    by_cases e : n = m
    · rw [if_pos e, PySem.W.dataLt_all_yes ha (by simp [PyData.eqv, e])]
      exact toks_ints ns ms
    · rw [if_neg e, PySem.W.dataLt_all_no ha (by simp [PyData.eqv, e]), PySem.W.dataLt_int]
theorem lexLt_self : ∀ ns : List Int, HT.lexLt ns ns = false
  | [] => rfl
  | n :: ns => by rw [HT.lexLt_cons, if_pos rfl]; exact lexLt_self ns
theorem eqv_ints : ∀ ns ms : List Int, PyData.eqvAll (ns.map PyData.int) (ms.map PyData.int) = true → ns = ms
  | [], [], _ => rfl
  | [], _ :: _, h => by simp [PyData.eqvAll] at h
  | _ :: _, [], h => by simp [PyData.eqvAll] at h
  | n :: ns, m :: ms, h => by
    simp only [List.map_cons, PySem.W.eqv_all_cons, Bool.and_eq_true] at h
    have e : n = m := by simpa [PyData.eqv] using h.1
    rw [e, eqv_ints ns ms h.2]
theorem pair_lt (a b : Int) (ns ms : List Int) : PySem.W.dataLt (pairR a ns) (pairR b ms) = if a = b then HT.lexLt ns ms else decide (a < b) := by
  have h1 : PySem.W.alike (.int a) (.int b) = true := by simp [PySem.W.alike]
  have h2 : PySem.W.alike (.tuple (ns.map PyData.int)) (.tuple (ms.map PyData.int)) = true := by simpa [PySem.W.alike] using alike_ints ns ms
  unfold pairR
  rw [PySem.W.dataLt_tuple]
  by_cases e : a = b
  · rw [if_pos e, PySem.W.dataLt_all_yes h1 (by simp [PyData.eqv, e])]
    cases q : PyData.eqv (.tuple (ns.map PyData.int)) (.tuple (ms.map PyData.int)) with
    | true =>
      rw [PySem.W.dataLt_all_yes h2 q]
      have : ns = ms := eqv_ints _ _ (by simpa [PyData.eqv] using q)
      subst this
      rw [lexLt_self]
      rfl
    | false =>
      rw [PySem.W.dataLt_all_no h2 q, PySem.W.dataLt_tuple]
      exact toks_ints ns ms
  · rw [if_neg e, PySem.W.dataLt_all_no h1 (by simp [PyData.eqv, e]), PySem.W.dataLt_int]
def rLtR (K : PySem.W.Frag) : R2 := fun x y H Q => ∃ a b ns ms, Dp K H x (pairR a ns) ∧ Dp K H y (pairR b ms) ∧ Q (.bl (if a = b then HT.lexLt ns ms else decide (a < b))) H
theorem depth_ints : ∀ ns : List Int, PyData.depthAll (ns.map PyData.int) ≤ 1
  | [] => by simp [PyData.depthAll]
  | n :: ns => by
    have := depth_ints ns
    simp only [List.map_cons, PyData.depthAll, PyData.depth]
    omega
theorem depth_pair (a : Int) (ns : List Int) : (pairR a ns).depth ≤ 8 := by
  have := depth_ints ns
  simp only [pairR, PyData.depth, PyData.depthAll]
  omega
theorem op_ltR {X : Cx} (hu : X.A.units + 64 < cLine) : OpR X (compareOp .Lt) (rLtR X.K) := by
  intro pins s σ H x y v u Q I rx ry h
  obtain ⟨a, b, ns, ms, hd, he, q⟩ := h
  obtain ⟨as, r1⟩ := Dp.reads I _ x v hd rx
  obtain ⟨bs, r2⟩ := Dp.reads I _ y u he ry
  have h2 : PySem.W.alike (pairR a ns) (pairR b ms) = true := by
    simpa [pairR, PySem.W.alike, PySem.W.alikeAll] using alike_ints ns ms
  have d1 := depth_pair a ns
  have R := PySem.W.rcLt_alike _ _ X.A s v u as bs r1 r2 h2 (by unfold pairR; exact fun z => nomatch z) (by omega)
  rw [pair_lt] at R
  exact R X.prog X.w X.xe (EP X pins σ Q) ⟨.bl _, H, I, rfl, q⟩
def dLtR (x y : D) : M D := match x, y with
  | .tup [.int a, .tup xs], .tup [.int b, .tup ys] => do
    let ns ← M.get fun _ => unInts xs
    let ms ← M.get fun _ => unInts ys
    pure (.bl (if a = b then HT.lexLt ns ms else decide (a < b)))
  | _, _ => M.bad
theorem toPs_ints {S : Sto} {n : Nat} : ∀ {xs : List D} {ns : List Int}, unInts xs = some ns → toPs (toP S (n + 1)) xs = some (ns.map PyData.int)
  | [], ns, h => by cases h; rfl
  | x :: xs, ns, h => by
    cases x with
    | int i =>
      obtain ⟨ms, e1, rfl⟩ := map_some (show (unInts xs).map (i :: ·) = some ns from h)
      show ((toP S (n + 1) (.int i)).bind fun p => (toPs (toP S (n + 1)) xs).map (p :: ·)) = _
      rw [toPs_ints e1]
      rfl
    | _ => cases h
theorem ltR_s {g : Gx} : OpS g (rLtR g.K) dLtR := by
  intro E μ S H v u x y Q k rx ry h
  unfold dLtR at h
  split at h
  · rename_i a xs b ys
    obtain ⟨ns, e1, h1⟩ := Wp.get (Wp.bind h) k
    obtain ⟨ms, e2, h2⟩ := Wp.get (Wp.bind h1) k
    have p1 : toP S 70 (.tup [.int a, .tup xs]) = some (pairR a ns) := by
      show (toPs (toP S 69) [.int a, .tup xs]).map PyData.tuple = _
      show (((toP S 69 (.int a)).bind fun p => (((toP S 69 (.tup xs)).bind fun p => (some []).map (p :: ·))).map (p :: ·))).map PyData.tuple = _
      have : toP S 69 (.tup xs) = some (.tuple (ns.map PyData.int)) := by
        show (toPs (toP S 68) xs).map PyData.tuple = _
        rw [toPs_ints e1]
        rfl
      rw [this]
      rfl
    have p2 : toP S 70 (.tup [.int b, .tup ys]) = some (pairR b ms) := by
      show (((toP S 69 (.int b)).bind fun p => (((toP S 69 (.tup ys)).bind fun p => (some []).map (p :: ·))).map (p :: ·))).map PyData.tuple = _
      have : toP S 69 (.tup ys) = some (.tuple (ms.map PyData.int)) := by
        show (toPs (toP S 68) ys).map PyData.tuple = _
        rw [toPs_ints e2]
        rfl
      rw [this]
      rfl
    exact ⟨a, b, ns, ms, toP_dp k _ _ _ _ rx p1, toP_dp k _ _ _ _ ry p2, Wp.pure h2 k (Step.refl _ _ _) (Step.refl _ _ _) _ (.bl _)⟩
  · exact (show False from h).elim
end DD

/-! DD24: classes whose __init__ has a star parameter; calls whose first argument is starred -/
namespace DD
open PySem PySem.Spec PyProof.Rows L2

def spS (g : Gx) (F : List D → M D) : Sp := fun vs H Q E => ∃ ws rest, vs = ws ++ rest ∧ ws.length = 1 ∧ rest.length ≤ sizeLine ∧ ∀ p, H p = none → spD g 2 F (ws ++ [V.ref p]) (upd H p (.tup rest)) Q E
structure MakS (P : Program) (w : World) (K : PySem.W.Frag) (mg : Str → Option Value) (base : Heap) (ca : Nat → Addr) (k : Nat) (x : Str) (c : Nat) (F : List D → M D) : Prop where
  ex : ∃ f, Mk K (ca c) f ∧ mg x = some (.ref (ca c)) ∧ FnR P w K mg base (L2.CX P w) k f (spS ⟨K, ca⟩ F)
theorem MakS.mono {P : Program} {w : World} {K : PySem.W.Frag} {mg : Str → Option Value} {base : Heap} {ca : Nat → Addr} {j k c : Nat} {x : Str} {F : List D → M D} (h : MakS P w K mg base ca j x c F) (l : j ≤ k) : MakS P w K mg base ca k x c F := by
  obtain ⟨f, h1, h2, h3⟩ := h.ex
  exact ⟨f, h1, h2, h3.mono l⟩
def starF (F : List D → M D) : List D → M D
  | x :: r => F [x, .tup r]
  | [] => M.bad
def dMakeS (c : Nat) (fz : Bool) (F : List D → M D) (fs : DEnv → M (List D)) : DEnv → M D := fun ρ => do
  let as ← fs ρ
  M.need (as.length ≤ sizeLine)
  makeD c fz (starF F) as
section
variable {X : Cx} {ca : Nat → Addr} {W : WX} {k c : Nat} {F : List D → M D} {x : Str} {p pos sp_ : Pos} {e : Expr} {es : List Expr} {fs : DEnv → M (List D)}
theorem run_makS {f : Addr} (Mc : Mk X.K (ca c) f) (G : FnR X.prog X.w X.K X.mg X.base (L2.CX X.prog X.w) k f (spS ⟨X.K, ca⟩ F)) (hr : Room (k + 1) X.A) (tk : Takes X W) {pins : List (Addr × Obj)} {σ : L2.St} {H : Hp} {s : Shared} {us : List Value} {vs : List V} {as : List D} {μ : Gh} {S : Sto} {Q : VK} {fz : Bool}
    (I : Inv X pins σ H s) (r : Vals vs us) (ra : RepAll (gx X ca) μ S H vs as) (hl : as.length ≤ sizeLine) (sto : StoOk (gx X ca) μ S H)
    (h : Wp (gx X ca) (fun c d H' => W c d σ H') (makeD c fz (starF F) as) μ S H fun d μ' S' H' => ∀ v, Rep (gx X ca) μ' S' H' v d → Q v H') : wpAny (model X.prog X.w) X.A (call (.ref (ca c)) us) (EP X pins σ Q) X.xe s := by
  let dx := s.heap.objs.size
  let y := s.heap.objs.size + 1
  have ne : dx ≠ y := Nat.ne_of_lt (Nat.lt_succ_self _)
  have I2 := Inv.made (C := ca c) I
  have n1 : H dx = none := I.hok.fresh (Nat.le_refl _)
  have n2 : (upd H dx (.own y)) y = none := by rw [upd_ne ne.symm]; exact I.hok.fresh (Nat.le_succ _)
  obtain ⟨t2, k2, r2⟩ := sto_new (o := .ins (ca c) dx []) (sto.alloc (o := .own y) n1) n2 (.obj (c := c) .nil) S.length rfl
  have t02 := (Step.alloc (μ := μ) (S := S) (o := .own y) n1).trans t2
  have h2 : Wp (gx X ca) (fun c d H' => W c d σ H') (do let r ← starF F (.cell S.length :: as); toN r; if fz then freezeD (.cell S.length) else pure (.cell S.length)) ⟨μ.m ++ [y], μ.ex⟩ (S ++ [some (.obj c [])]) (upd (upd H dx (.own y)) y (.ins (ca c) dx []))
      fun d μ' S' H' => ∀ v, Rep (gx X ca) μ' S' H' v d → Q v H' :=
    ((Wp.bind (show Wp (gx X ca) (fun c d H' => W c d σ H') (newIns c >>= fun x => do let r ← starF F (x :: as); toN r; if fz then freezeD x else pure x) μ S H fun d μ' S' H' => ∀ v, Rep (gx X ca) μ' S' H' v d → Q v H' from h)) _ _ t02 k2).mono fun _ _ _ _ t _ z => z (t02.trans t)
  have rall := ra.step t02
  have hy : (μ.m ++ [y])[S.length]? = some y := by
    rw [← sto.len, List.getElem?_append_right (Nat.le_refl _)]
    simp
  have hsp : spS ⟨X.K, ca⟩ F (V.ref y :: vs) (upd (upd H dx (.own y)) y (.ins (ca c) dx [])) (fun v H' => v = .non ∧ Q (.ref y) H') (fun c d H' => W c d σ H') := by
    refine ⟨[V.ref y], vs, rfl, rfl, by rw [ra.length]; exact hl, fun pp hp => ?_⟩
    obtain ⟨t3, k3, r3⟩ := new_tup k2 hp rall
    refine ⟨[.cell S.length, .tup as], _, _, rfl, .cons (r2.step t3) (.cons r3 .nil), k3, (Wp.later t3 (Wp.bind (show Wp (gx X ca) (fun c d H' => W c d σ H') (F [.cell S.length, .tup as] >>= fun r => do toN r; if fz then freezeD (.cell S.length) else pure (.cell S.length)) _ _ _ _ from h2))).mono fun d μ3 S3 H3 t4 k4 h3 v rv => ?_⟩
    obtain ⟨ev, h4⟩ := Wp.toN (Wp.bind h3) k4 rv
    have hy3 := prefix_get (t3.trans t4).pre hy
    refine ⟨ev, ?_⟩
    cases fz with
    | false => exact Wp.pure h4 k4 (Step.refl _ _ _) (t3.trans t4) _ (.cell hy3)
    | true =>
      obtain ⟨q, e1, h5⟩ := Wp.get (Wp.bind (show Wp (gx X ca) (fun c d H' => W c d σ H') (freezeD (.cell S.length)) μ3 S3 H3 _ from h4)) k4
      obtain ⟨t5, k5, r5⟩ := sto_freeze k4 (insS_some e1) hy3
      have h6 := (Wp.bind h5) μ3 H3 t5 k5
      exact Wp.pure h6 k5 t5 t5 t5 ((t3.trans t4).trans t5) _ r5
  have go := G _ X.stack _ _ (Value.ref y :: us) (V.ref y :: vs) _ _ (hr.make (ca c) us []) (I2.env0.make (ca c) us []) (.cons rfl r) hsp
  refine wpAny_call (make_map (f := f) I.kIn Mc.makes Mc.init (beq_iff_eq.mp Mc.fn) (codeAny_mono go fun res s' hq => ?_))
  match res, hq with
  | .error e, hq => exact takes_at tk σ I2 hq
  | .ok (.ret u), hq =>
    obtain ⟨v, H', I3, rv, ev, q3⟩ := I2.after hq
    subst ev
    exact ⟨rv, ⟨V.ref y, H', I3, rfl, q3⟩⟩
  | .ok .next, hq => exact hq.elim
  | .ok .brk, hq => exact hq.elim
  | .ok .cont, hq => exact hq.elim
theorem args_makS {σ : L2.St} {H : Hp} {Q : VK} {fz : Bool} (h : tD (gx X ca) W (dMakeS c fz F fs) σ H Q) : tDA (gx X ca) W fs σ H fun vs H2 => ∃ μ2 S2 as, RepAll (gx X ca) μ2 S2 H2 vs as ∧ as.length ≤ sizeLine ∧ StoOk (gx X ca) μ2 S2 H2 ∧
    Wp (gx X ca) (fun c d H' => W c d σ H') (makeD c fz (starF F) as) μ2 S2 H2 fun d μ' S' H' => ∀ v, Rep (gx X ca) μ' S' H' v d → Q v H' := by
  obtain ⟨ρ, μ, S, env, sto, h⟩ := h
  exact tDA_then env sto h fun as μ2 S2 H2 vs t2 k2 env2 r2 h3 => by
    obtain ⟨hl, h4⟩ := Wp.need (Wp.bind h3) k2
    exact ⟨μ2, S2, as, r2, hl, k2, h4.mono fun _ _ _ _ t _ z => z t⟩
/-- C(e, ..) -/
theorem pd_makeS {fz : Bool} (hM : MakS X.prog X.w X.K X.mg X.base ca k x c F) (hr : Room (k + 1) X.A) (tk : Takes X W) (ha : PA X (e :: es) (tDA (gx X ca) W fs)) (hg : Gl X x := by rfl) (hdb : (x == ("__debug__" : Str)) = false := by decide)
    (he : starEach (e :: es) X.env = (false, eval e X.env) :: starEach es X.env := by rfl) (hpl : (backTo pos (starEach es X.env)).any (·.1) = false := by rfl) : PE X (.Call (.Name x p) (e :: es) [] pos) (tD (gx X ca) W (dMakeS c fz F fs)) := by
  obtain ⟨f, Mc, hm, G⟩ := hM.ex
  refine ⟨fun pins s σ H Q I h => ?_⟩
  refine wpAny_Call_Name_kw (ld_glob I hg hm ?_ hdb)
  exact PySem.W.callWith_K (h₀ := X.base) I.ok.mod.kin Mc.kp (thn (ha.run pos pins s σ H _ I (args_makS h)) fun us s2 ⟨vs2, H2, I2, r, μ2, S2, as, ra, hl, k2, h4⟩ => ⟨I2.kIn, run_makS Mc G hr tk I2 r ra hl k2 h4⟩) he hpl
/-- C() -/
theorem pd_makeS0 {fz : Bool} (hM : MakS X.prog X.w X.K X.mg X.base ca k x c F) (hr : Room (k + 1) X.A) (tk : Takes X W) (hg : Gl X x := by rfl) (hdb : (x == ("__debug__" : Str)) = false := by decide) : PE X (.Call (.Name x p) [] [] pos) (tD (gx X ca) W (dMakeS c fz F aNil)) := by
  obtain ⟨f, Mc, hm, G⟩ := hM.ex
  refine ⟨fun pins s σ H Q I ⟨ρ, μ, S, env, sto, h⟩ => ?_⟩
  refine wpAny_Call_Name_kw (ld_glob I hg hm ?_ hdb)
  have h0 : Wp (gx X ca) (fun c d H' => W c d σ H') (makeD c fz (starF F) []) μ S H fun d μ' S' H' => ∀ v, Rep (gx X ca) μ' S' H' v d → Q v H' := by
    have h1 := Wp.pure (Wp.bind h) sto
    obtain ⟨_, h2⟩ := Wp.need (Wp.bind h1) sto
    exact h2.mono fun _ _ _ _ t _ z => z t t
  exact PySem.W.callWith_K0 I.kIn Mc.kp (run_makS Mc G hr tk I .nil .nil (Nat.zero_le _) sto h0)
theorem star2_any {a b : Expr} (he : starEach [.Starred a p, .Starred b sp_] X.env = [(true, eval a X.env), (true, eval b X.env)] := by rfl) : (backTo pos (starEach [.Starred a p, .Starred b sp_] X.env)).any (·.1) = true := by
  rw [he]
  rfl
end
end DD

/-! DD25: C(*a, *b); a class with a star __init__ as it stands at the top -/
namespace DD
open PySem PySem.Spec PyProof.Rows L2
section
variable {M : Model} {A : Around} {E : Value → Shared → Prop} {s : Shared}
theorem evalArgs_two {f : Value} {x : Sem Value} {q : Bool × Sem Value} {rest : List (Bool × Sem Value)} {Q : Args → Shared → Prop}
    (h : wpAny M A (spliced ((true, x) :: q :: rest)) (fun vs s' => Q ⟨vs, []⟩ s') E s) : wpAny M A (evalArgs f true ((true, x) :: q :: rest) []) Q E s := by
  unfold evalArgs
  show wpAny M A (spliced ((true, x) :: q :: rest) >>= _) Q E s
  refine wpAny_bind (wpAny_mono h (fun vs s' h' => ?_) fun _ _ x => x)
  refine wpAny_holding ?_
  exact wpAny_bind (wpAny_pure (wpAny_bind (wpAny_pure (wpAny_pure h'))))
theorem callWith_SS {K : PySem.W.Frag} {env : Env} {pos p p' : Pos} {f : Value} {first : List Value} {Q : Value → Shared → Prop} {a b : Expr} (hk : PySem.W.keepIn K f = true)
    (h : wpAny M A (spliced (backTo pos (starEach [.Starred a p, .Starred b p'] env))) (fun vs s₁ => K.In s₁.heap ∧ wpAny M A (call f (first ++ vs)) Q E s₁) E s)
    (he : starEach [.Starred a p, .Starred b p'] env = [(true, eval a env), (true, eval b env)] := by rfl) :
    wpAny M A (callWith pos f first (backTo pos (starEach [.Starred a p, .Starred b p'] env)) []) Q E s := by
  rw [he] at h ⊢
  exact PySem.W.ks_call rfl (PySem.W.keeps_K hk) (evalArgs_two h)
end
section
variable {X : Cx} {ca : Nat → Addr} {W : WX} {k c : Nat} {F : List D → M D} {x : Str} {p pos p1 p2 : Pos} {a b : Expr} {fs : DEnv → M (List D)}
/-- C(*a, *b) -/
theorem pd_makeSS {fz : Bool} (hM : MakS X.prog X.w X.K X.mg X.base ca k x c F) (hr : Room (k + 1) X.A) (tk : Takes X W) (ha : PA X [.Starred a p1, .Starred b p2] (tDA (gx X ca) W fs)) (hg : Gl X x := by rfl) (hdb : (x == ("__debug__" : Str)) = false := by decide)
    (he : starEach [.Starred a p1, .Starred b p2] X.env = [(true, eval a X.env), (true, eval b X.env)] := by rfl) : PE X (.Call (.Name x p) [.Starred a p1, .Starred b p2] [] pos) (tD (gx X ca) W (dMakeS c fz F fs)) := by
  obtain ⟨f, Mc, hm, G⟩ := hM.ex
  refine ⟨fun pins s σ H Q I h => ?_⟩
  refine wpAny_Call_Name_kw (ld_glob I hg hm ?_ hdb)
  exact callWith_SS Mc.kp (thn (ha.run pos pins s σ H _ I (args_makS h)) fun us s2 ⟨vs2, H2, I2, r, μ2, S2, as, ra, hl, k2, h4⟩ => ⟨I2.kIn, run_makS Mc G hr tk I2 r ra hl k2 h4⟩) he
end
section
variable {P : Program} {w : World} {K : PySem.W.Frag} {mg : Str → Option Value} {base : Heap} {ca : Nat → Addr} {C : Addr} {c : Nat} {h : Heap}
/-- an __init__ with self and a star parameter -/
structure DefIS (K : PySem.W.Frag) (mg : Str → Option Value) (ca : Nat → Addr) (c : Nat) (cn qual : Str) (st : Stmt) (pv : Str) : Prop where
  ex : ∃ f, (∀ {P : Program} {w : World} {base : Heap} {N : List Str} {k : Nat} {fb : DEnv → M Fl}, FnScope N [("self" : Str), pv] (defScope st) →
      (∀ (f : Addr) (cdv : Value) (A : Around) (outer : List Env) (s : Shared) (H : Hp) (E : XK), Room k (cxD P w K mg base N qual (defScope st) f cdv A outer s H E).A → Takes (cxD P w K mg base N qual (defScope st) f cdv A outer s H E) (wD E) →
        PassesOwn (model P w) (cxD P w K mg base N qual (defScope st) f cdv A outer s H E).A (cxD P w K mg base N qual (defScope st) f cdv A outer s H E).env (cxD P w K mg base N qual (defScope st) f cdv A outer s H E).xe →
        PSs (cxD P w K mg base N qual (defScope st) f cdv A outer s H E) (defBody st) (tS ⟨K, ca⟩ (wD E) fb)) → FnR P w K mg base (L2.CX P w) (k + 1) f (spS ⟨K, ca⟩ (runF N.length fb))) ∧
    Mk K (ca c) f ∧ mg cn = some (.ref (ca c))
theorem DefIS.at {cn qual pv : Str} {st : Stmt} {N : List Str} {k : Nat} {fb : DEnv → M Fl} (d : DefIS K mg ca c cn qual st pv) (sc : FnScope N [("self" : Str), pv] (defScope st))
    (body : ∀ (f : Addr) (cdv : Value) (A : Around) (outer : List Env) (s : Shared) (H : Hp) (E : XK), Room k (cxD P w K mg base N qual (defScope st) f cdv A outer s H E).A → Takes (cxD P w K mg base N qual (defScope st) f cdv A outer s H E) (wD E) →
      PassesOwn (model P w) (cxD P w K mg base N qual (defScope st) f cdv A outer s H E).A (cxD P w K mg base N qual (defScope st) f cdv A outer s H E).env (cxD P w K mg base N qual (defScope st) f cdv A outer s H E).xe →
      PSs (cxD P w K mg base N qual (defScope st) f cdv A outer s H E) (defBody st) (tS ⟨K, ca⟩ (wD E) fb)) : MakS P w K mg base ca (k + 1) cn c (runF N.length fb) := by
  obtain ⟨f, h1, h2, h3⟩ := d.ex
  exact ⟨f, h2, h3, h1 sc body⟩
theorem DefIS.of {cn qual pv : Str} {st : Stmt} {f : Addr} {oc : Value} {od an : Option Addr} {osl : Array (Option Value)} {kV doc pm cdv ct : Value} (e : ca c = C) (X : K.In h) (G : h.Ns mainGlobals mg)
    (b0 : ∀ (kV doc pm : Value) (an : Option Addr) (cdv ct : Value) (v : Value), bindArgs (PySem.W.fnOf "__init__" qual (defArgs st) (defBody st) (defScope st) .none kV doc pm an cdv ct) ⟨[v], []⟩ = (newTuple [] >>= fun t => pure [(("self" : Str), v), (pv, t)]))
    (b1 : ∀ (kV doc pm : Value) (an : Option Addr) (cdv ct : Value) (v r : Value) (rs : List Value), bindArgs (PySem.W.fnOf "__init__" qual (defArgs st) (defBody st) (defScope st) .none kV doc pm an cdv ct) ⟨v :: r :: rs, []⟩ = (newTuple (r :: rs) >>= fun t => pure [(("self" : Str), v), (pv, t)]))
    (a : PySem.W.nsIn K mainGlobals cn = some (some (.ref C))) (m : PySem.W.makesIn K C = true) (i : PySem.W.findIn K (.ref C) "__init__" = some (some (.ref f))) (fn : PySem.W.isFn K (.ref f) = true) (kc : PySem.W.keepIn K (.ref C) = true)
    (l : K.lookup f = some ⟨oc, od, .func (PySem.W.fnOf "__init__" qual (defArgs st) (defBody st) (defScope st) .none kV doc pm an cdv ct), osl⟩)
    (cc : PySem.W.codeIn K cdv qual = true) : DefIS K mg ca c cn qual st pv := by
  obtain ⟨h1, h2⟩ := mak_of (ca := ca) e X G a m i fn kc
  refine ⟨f, fun sc body => ?_, h1, h2⟩
  exact StX.fn_star (ps := [("self" : Str)]) (pv := pv) l cc sc StX.cxUp (StX.bind_star1 (B := fun l => bindArgs (PySem.W.fnOf "__init__" qual (defArgs st) (defBody st) (defScope st) .none kV doc pm an cdv ct) ⟨l, []⟩) (b0 kV doc pm an cdv ct) (b1 kV doc pm an cdv ct)) fun A outer s H vs Q E hr hs => ⟨_, body f cdv A outer s H E hr (takes_of rfl rfl rfl rfl) (passes_of rfl), sp_body hs⟩
end
theorem first1 {K : PySem.W.Frag} {ca : Nat → Addr} {c : Nat} {F : List D → M D} (h : PySem.W.selfFirst K (ca c) = true) : FirstC K ca [(c, F)] := fun q hq => by
  rcases List.mem_singleton.mp hq with rfl
  exact h
theorem sf_of {K : PySem.W.Frag} {ca : Nat → Addr} {c : Nat} {C : Addr} (e : ca c = C) (h : PySem.W.selfFirst K C = true) : PySem.W.selfFirst K (ca c) = true := by
  rw [e]
  exact h

/-! ### t == (), t != (), t any tuple -/
def rEqE (K : PySem.W.Frag) (neg : Bool) : R2 := fun x y H Q => ∃ (a b : Addr) (xs : List V), x = .ref a ∧ y = .ref b ∧ SqT K H a xs ∧ SqT K H b [] ∧ Q (.bl (xs.isEmpty != neg)) H
theorem op_eqE {X : Cx} (hu : X.A.units < cLine) : OpR X (compareOp .Eq) (rEqE X.K false) := by
  intro pins s σ H x y v u Q I rx ry h
  obtain ⟨a, b, xs, rfl, rfl, ha, hb, q⟩ := h
  cases rx
  cases ry
  obtain ⟨its, r1, p1, _⟩ := I.tuple ha
  obtain ⟨its2, r2, p2, _⟩ := I.tuple hb
  cases r2
  have R := SeqAt.RcAt.tuples (A := X.A) (s := s) (e := fun _ => true) p1 p2 hu (fun j j1 j2 => absurd j2 (by simp))
  have e : ((List.range (min its.toArray.size ([] : List Value).toArray.size)).all (fun _ => true) && its.toArray.size == ([] : List Value).toArray.size) = xs.isEmpty := by
    have hl := r1.length
    cases xs with
    | nil => cases r1; rfl
    | cons x xs => cases r1; simp
  rw [e] at R
  rw [Bool.bne_false] at q
  exact R X.prog X.w X.xe (EP X pins σ Q) ⟨.bl _, H, I, rfl, q⟩
theorem op_neE {X : Cx} (hu : X.A.units < cLine) : OpR X (compareOp .NotEq) (rEqE X.K true) := by
  intro pins s σ H x y v u Q I rx ry h
  obtain ⟨a, b, xs, rfl, rfl, ha, hb, q⟩ := h
  cases rx
  cases ry
  obtain ⟨its, r1, p1, _⟩ := I.tuple ha
  obtain ⟨its2, r2, p2, _⟩ := I.tuple hb
  cases r2
  have R := SeqAt.RcNeAt.tuples (A := X.A) (s := s) (e := fun _ => true) p1 p2 hu (fun j j1 j2 => absurd j2 (by simp))
  have e : ((List.range (min its.toArray.size ([] : List Value).toArray.size)).all (fun _ => true) && its.toArray.size == ([] : List Value).toArray.size) = xs.isEmpty := by
    have hl := r1.length
    cases xs with
    | nil => cases r1; rfl
    | cons x xs => cases r1; simp
  rw [e] at R
  rw [Bool.bne_true] at q
  exact R X.prog X.w X.xe (EP X pins σ Q) ⟨.bl _, H, I, rfl, q⟩
def dEqE (neg : Bool) (x y : D) : M D := match x, y with
  | .tup xs, .tup [] => pure (.bl (xs.isEmpty != neg))
  | _, _ => M.bad
theorem eqE_s {g : Gx} {neg : Bool} : OpS g (rEqE g.K neg) (dEqE neg) := by
  intro E μ S H v u x y Q k rx ry h
  unfold dEqE at h
  split at h
  · cases rx with
    | tup f q =>
      cases ry with
      | tup f2 q2 =>
        cases q2
        refine ⟨_, _, _, rfl, rfl, f.sq, f2.sq, ?_⟩
        rw [q.isEmpty]
        exact Wp.pure h k _ (.bl _)
  · exact (show False from h).elim
end DD

/-! EX4: bool(x), x an instance with its own __bool__ -/
namespace DD
open PySem PySem.Spec PyProof.Rows L2
section
variable {prog : Program} {w : World} {A : Around} {E : Value → Shared → Prop} {s : Shared}
theorem call_bool_truthy {x : Value} {Q : Value → Shared → Prop} (h : wpAny (model prog w) A.in1.in1 (truthy x) (fun b s' => Q (.bool b) s') E s) : wpAny (model prog w) A (call (.type "bool") [x]) Q E s := by
  refine callType_codes (T := "bool") (Bi := Builtin.«object.__init__») (Q₁ := fun r s₁ => ∃ b, r = .bool b ∧ Q r s₁) PySem.F.called_bool (PySem.F.typeCall_bool_1 _) PySem.F.entry_object_init ?_ ?_
  · refine codeAny_of_tree ?_
    show wpAny _ A.in1.in1 (do checkBuiltinCall "bool.__new__" ⟨[.type "bool", x], []⟩; again (.builtin "bool.__new__" ⟨[.type "bool", x], []⟩)) _ _ s
    refine wpAny_bind (wpAny_of_eq (PySem.F.newCall_bool_1 _) (wpAny_pure ⟨plainId_quiet (by decide +kernel) _, codeAny_builtin PySem.F.entry_bool_new ?_⟩))
    rw [Around.under_plainId (by decide +kernel) _]
    have f1 := F.conv_sub_bool
    have ht : wpAny (model prog w) A.in1.in1 (truthy x) (fun b s' => Q (.bool b) s') E s := h
    unfold Builtin.«bool.__new__»
    repeat (any_goals (first | assumption | (with_reducible refine wpAny_bind (wpAny_mono ht (fun b s' hb => ?_) fun _ _ y => y)) | wp_step))
    all_goals exact ⟨b, rfl, hb⟩
  · rintro obj s₁ ⟨b, rfl, hq⟩
    exact ⟨PySem.typeIs_bool _ _, PySem.F.args_object_init_2 _ _, object_init_meets PySem.F.called_bool.init.lookup PySem.F.called_bool.made (by decide) prog w A.in1 _ s₁ ⟨PySem.typeIs_bool _ _, rfl, hq⟩⟩
end

/-! bool(o), the class's own -/
def boolTail (x : D) (F : List D → M D) : M D := do
  let r ← M.nx (F [x])
  let y ← toB r
  pure (.bl y)
def dBoolO (T : MTab) (x : D) : M D := pickS T x >>= boolTail x
def rBoolO (g : Gx) (T : MTab) : List V → Hp → VK → Prop := fun vs H Q => ∃ v x μ S, vs = [v] ∧ StoOk g μ S H ∧ Rep g μ S H v x ∧ Wp g EF (dBoolO T x) μ S H fun d μ' S' H' => ∀ w, Rep g μ' S' H' w d → Q w H'
theorem boolO_s {g : Gx} {T : MTab} : CallS g (rBoolO g T) (one (dBoolO T)) := one_s fun E μ S H v d Q k r h =>
  ⟨v, d, μ, S, rfl, k, r, Wp.free (fun c fs S' => (NoX.pickS.bind fun _ => NoX.nx.bind fun _ => NoX.toB.bind fun _ => NoX.pure) S c fs S') h⟩
section
variable {X : Cx} {ca : Nat → Addr} {k : Nat} {T : MTab}
theorem call_boolO (hT : SltX X ca k T "__bool__" 1) (hr : Room (k + 2) X.A) : CallR X (.type "bool") (rBoolO (gx X ca) T) := by
  rintro pins s σ H vs us Q I rv ⟨v, x, μ, S, rfl, sto, rx, h⟩
  obtain ⟨u, rfl, ru⟩ := vals1 rv
  obtain ⟨c, o, dd, ws, F, rfl, eo, hF, h3⟩ := Wp.pickS (Wp.bind h) sto rx
  obtain rfl : u = Value.ref o := ru
  obtain ⟨f, f1, f2, f3, G⟩ := (hT _ hF).ex
  obtain ⟨od, J⟩ := ins_at I eo
  have hr2 : Room k X.A.in1.in1 := (hr.in1).in1
  obtain ⟨m, fr⟩ := I.fr
  refine call_bool_truthy (PySem.W.truthy_K fr I.ok.mod.kin J f1 f3 ?_)
  obtain ⟨r, S2, er, hq⟩ := Wp.nx (Wp.bind h3)
  refine thn (run_cal (E0 := EF) (Q := fun z H' => ∃ b, z = .bl b ∧ Q (.bl b) H') (EE := X.xe) G hr2 I.env0.in1.in1 (fun e s' c => takes_none c) I (us := [.ref o]) (vs := [.ref o]) (.cons rfl .nil) (.cons rx .nil) rfl sto
    (Wp.of_ok er fun μ2 H2 t2 k2 z rz => ?_)) fun r' s' ⟨z, H', I', rz, b, ez, q⟩ => ?_
  · obtain ⟨b, rfl, h4⟩ := Wp.toB (Wp.bind (hq μ2 H2 t2 k2)) k2 rz
    exact ⟨b, rfl, Wp.pure h4 k2 (Step.refl _ _ _) t2 t2 _ (.bl _)⟩
  · subst ez
    cases (show r' = Value.bool b from rz)
    exact ⟨.bl b, H', I', rfl, q⟩
/-- bool(b), b a truth value -/
abbrev dBoolB := one fun x => do let b ← toB x; pure (.bl b)
theorem boolB_s {g : Gx} : CallS g (fun xs H Q => (∃ i, xs = [.int i] ∧ Q (.bl (i != 0)) H) ∨ ∃ k, xs = [.bl k] ∧ Q (.bl k) H) dBoolB := by
  refine one_s fun E μ S H v d Q k r h => ?_
  · skip
    obtain ⟨b, rfl, h1⟩ := Wp.toB (Wp.bind h) k r
    exact .inr ⟨b, rfl, Wp.pure h1 k (Step.refl _ _ _) _ (.bl b)⟩
end
end DD

namespace K36
open PySem PySem.Spec PyProof.Rows L2 DD
noncomputable def B__law_pit : DEnv → M Fl := (sSeq (sSet 2 (dIf (tVal (dOp dLt (dVar 1) (dB dLen (aCons (dVar 0) aNil)))) (dOp dIx (dVar 0) (dVar 1)) (dC (.int 0))))
  (sRet (dLstC (aCons (dB dMax2 (aCons (dC (.int 0)) (aCons (dOp dSub (dB dAbs (aCons (dVar 2) aNil)) (dOp dPow (dC (.int 10)) (dC (.int 18)))) aNil))) (aCons (dOp dAdd (dOp dAdd (dOp dMul (dOp dMod (dB dInt (aCons (dVar 2) aNil)) (dOp dAdd (dOp dPow (dC (.int 10)) (dC (.int 37))) (dC (.int 3)))) (dC (.int 83))) (dOp dMul (dC (.int 59)) (dVar 1))) (dC (.int 37))) (aCons (dC (.int 0)) aNil))))))
noncomputable def F__law_pit : List D → M D := runF 3 B__law_pit
noncomputable def B__law_hoist : DEnv → M Fl := (sSeq (sIf (tVal (dOp dGt (dOp dIx (dVar 0) (dC (.int 0))) (dC (.int 0))))
  (sSeq (sSet 2 (dOp dMod (dB dInt (aCons (dOp dIx (dVar 0) (dC (.int 0))) aNil)) (dVar 1)))
  (sSeq (sAsg (dOp dFdiv (dOp dIx (dVar 0) (dC (.int 0))) (dVar 1)) (gSubD (dVar 0) (dC (.int 0))))
  (sRet (dVar 2))))
  sNext)
  (sSeq (sAsg (dOp dAdd (dOp dIx (dVar 0) (dC (.int 2))) (dC (.int 1))) (gSubD (dVar 0) (dC (.int 2))))
  (sSeq (sSet 3 (dOp dMod (dOp dPow (dB dInt (aCons (dOp dAdd (dOp dIx (dVar 0) (dC (.int 1))) (dOp dMul (dC (.int 60013)) (dOp dIx (dVar 0) (dC (.int 2))))) aNil)) (dC (.int 2))) (dOp dAdd (dOp dPow (dC (.int 10)) (dC (.int 38))) (dC (.int 67)))))
  (sSeq (sSet 3 (dOp dMod (dOp dPow (dB dInt (aCons (dOp dAdd (dVar 3) (dOp dMul (dC (.int 800011)) (dOp dIx (dVar 0) (dC (.int 2))))) aNil)) (dC (.int 3))) (dOp dAdd (dOp dPow (dC (.int 10)) (dC (.int 39))) (dC (.int 37)))))
  (sRet (dOp dMod (dOp dFdiv (dVar 3) (dC (.int 524288))) (dVar 1)))))))
noncomputable def F__law_hoist : List D → M D := runF 4 B__law_hoist
noncomputable def E__law_call_names_1 : DEnv → M D := (dOp dIx (dVar 2) (dCall 2 F__law_hoist (aCons (dVar 0) (aCons (dC (.int 52)) aNil))))
noncomputable def E__law_call_names_2 : DEnv → M D := (dOp dAdd (dOp dIx (dVar 2) (dOp dAdd (dOp dMul (dC (.int 7)) (dVar 4)) (dVar 11))) (dC (.str ("z" : Str))))
noncomputable def P__law_call_names_3 : DEnv → M Bool := (tVal (dOp (dIn true) (dVar 12) (dVar 3)))
noncomputable def E__law_call_names_4 : DEnv → M D := (dVar 12)
noncomputable def L__law_call_names_5 : DEnv → M Fl := (sSeq (sPar 5 6 (aCons (dOp dIx (dLst (aCons (dC (.int 0)) (aCons (dC (.int 0)) (aCons (dC (.int 2)) (aCons (dCall 2 F__law_hoist (aCons (dVar 0) (aCons (dC (.int 7)) aNil))) aNil))))) (dCall 2 F__law_hoist (aCons (dVar 0) (aCons (dC (.int 4)) aNil)))) (aCons (dCall 2 F__law_hoist (aCons (dVar 0) (aCons (dC (.int 6)) aNil))) aNil)))
  (sSeq (sSet 7 (dOp dIx (dVar 2) (dCall 2 F__law_hoist (aCons (dVar 0) (aCons (dC (.int 52)) aNil)))))
  (sSeq (sSet 8 (dOp dAdd (dVar 7) (dMt "str" dJoin (dC (.str ("" : Str))) (aCons (dLc (srcA rng1 (aCons (dVar 5) aNil)) (gSet 11) tYesD E__law_call_names_1 [11]) aNil))))
  (sSeq (sIf (tAndD (tVal (dOp (dEq true) (dVar 3) (dLst aNil))) (tVal (dOp dLt (dVar 6) (dC (.int 3)))))
  (sSeq (sSet 9 (dOp dIx (dVar 3) (dUn dNeg (dC (.int 1)))))
  (sSet 8 (dOp dIx (dLst (aCons (dOp dAdd (dSl (dVar 9) oNone (oSome (dC (.int 7)))) (dVar 7)) (aCons (dOp dAdd (dSl (dVar 9) oNone (oSome (dUn dNeg (dC (.int 1))))) (dVar 7)) (aCons (dOp dAdd (dOp dAdd (dSl (dVar 9) oNone (oSome (dC (.int 1)))) (dVar 7)) (dSl (dVar 9) (oSome (dC (.int 2))) oNone)) aNil)))) (dVar 6))))
  sNext)
  (sSeq (sIf (tOrD (tVal (dOp (dIn false) (dVar 8) (dVar 3))) (tVal (dOp (dEq false) (dVar 8) (dC (.str ("zero" : Str))))))
  (sSeq (sSet 10 (dLc (srcA rng1 (aCons (dC (.int 7)) aNil)) (gSet 11) tYesD E__law_call_names_2 [11]))
  (sSet 8 (dOp dIx (dLc (srcSeq (dVar 10)) (gSet 12) P__law_call_names_3 E__law_call_names_4 [12]) (dC (.int 0)))))
  sNext)
  (sExpr (dMt "list" dAppend (dVar 3) (aCons (dVar 8) aNil))))))))
noncomputable def B__law_call_names : DEnv → M Fl := (sSeq (sAsg (dTup (aCons (dC (.str ("abcdefghijklmnopqrstuvwxyzABCDEFGHIJKLMNOPQRSTUVWXYZ" : Str))) (aCons (dLstC aNil) aNil))) (gTupD 2 (gsCons (gSet 2) (gsCons (gSet 3) gsNil))))
  (sSeq (sFor (srcA rng1 (aCons (dVar 1) aNil)) (gSet 4) L__law_call_names_5)
  (sRet (dB dTupOf (aCons (dVar 3) aNil)))))
noncomputable def F__law_call_names : List D → M D := runF 13 B__law_call_names
noncomputable def B__law_drawn_fact : DEnv → M Fl := (sSeq (sSet 3 (dOp dAdd (dTup (aCons (dC (.str ("zero" : Str))) aNil)) (dVar 1)))
  (sSeq (sPar 4 5 (aCons (dCall 2 F__law_hoist (aCons (dVar 0) (aCons (dB dLen (aCons (dVar 3) aNil)) aNil))) (aCons (dOp dAdd (dC (.int 1)) (dCall 2 F__law_hoist (aCons (dVar 0) (aCons (dOp dSub (dB dLen (aCons (dVar 3) aNil)) (dC (.int 1))) aNil)))) aNil)))
  (sSeq (sSet 6 (dOp dSub (dCall 2 F__law_hoist (aCons (dVar 0) (aCons (dOp dAdd (dOp dMul (dC (.int 2)) (dVar 2)) (dC (.int 1))) aNil))) (dVar 2)))
  (sRet (dTup (aCons (dOp dIx (dVar 3) (dVar 4)) (aCons (dOp dIx (dVar 3) (dOp dMod (dOp dAdd (dVar 4) (dVar 5)) (dB dLen (aCons (dVar 3) aNil)))) (aCons (dVar 6) aNil))))))))
noncomputable def F__law_drawn_fact : List D → M D := runF 7 B__law_drawn_fact
noncomputable def E__law_closed_1 : DEnv → M D := (dIf (tVal (dOp (dIn false) (dVar 4) (dTup (aCons (dC (.int 0)) (aCons (dVar 5) aNil))))) (dC (.int 0)) (dC .non))
noncomputable def E__law_closed_2 : DEnv → M D := (dLcC (srcA rng1 (aCons (dVar 2) aNil)) (gSet 5) tYesD E__law_closed_1 [5])
noncomputable def L__law_closed_3 : DEnv → M Fl := (sIf (tOrD (tIsN (dOp dIx (dOp dIx (dVar 3) (dVar 4)) (dVar 5))) (tVal (dOp dLt (dVar 6) (dOp dIx (dOp dIx (dVar 3) (dVar 4)) (dVar 5)))))
  (sAsg (dVar 6) (gSubD (dOp dIx (dVar 3) (dVar 4)) (dVar 5)))
  sNext)
noncomputable def L__law_closed_4 : DEnv → M Fl := (sIf (tAndD (tNotN (dOp dIx (dOp dIx (dVar 3) (dVar 4)) (dVar 7))) (tNotN (dOp dIx (dOp dIx (dVar 3) (dVar 7)) (dVar 5))))
  (sSeq (sSet 8 (dOp dAdd (dOp dIx (dOp dIx (dVar 3) (dVar 4)) (dVar 7)) (dOp dIx (dOp dIx (dVar 3) (dVar 7)) (dVar 5))))
  (sIf (tOrD (tIsN (dOp dIx (dOp dIx (dVar 3) (dVar 4)) (dVar 5))) (tVal (dOp dLt (dVar 8) (dOp dIx (dOp dIx (dVar 3) (dVar 4)) (dVar 5)))))
  (sAsg (dVar 8) (gSubD (dOp dIx (dVar 3) (dVar 4)) (dVar 5)))
  sNext))
  sNext)
noncomputable def L__law_closed_5 : DEnv → M Fl := (sFor (srcA rng1 (aCons (dVar 2) aNil)) (gSet 5) L__law_closed_4)
noncomputable def L__law_closed_6 : DEnv → M Fl := (sFor (srcA rng1 (aCons (dVar 2) aNil)) (gSet 4) L__law_closed_5)
noncomputable def P__law_closed_7 : DEnv → M Bool := (tVal (dOp dLt (dOp dIx (dOp dIx (dVar 3) (dVar 4)) (dVar 4)) (dC (.int 0))))
noncomputable def E__law_closed_8 : DEnv → M D := (dVar 4)
noncomputable def B__law_closed : DEnv → M Fl := (sSeq (sSet 2 (dOp dAdd (dVar 0) (dC (.int 1))))
  (sSeq (sSet 3 (dLc (srcA rng1 (aCons (dVar 2) aNil)) (gSet 4) tYesD E__law_closed_2 [4]))
  (sSeq (sFor (srcSeq (dVar 1)) (gTupD 3 (gsCons (gSet 4) (gsCons (gSet 5) (gsCons (gSet 6) gsNil)))) L__law_closed_3)
  (sSeq (sFor (srcA rng1 (aCons (dVar 2) aNil)) (gSet 7) L__law_closed_6)
  (sRet (dIf (tVal (dOp (dEq false) (dLc (srcA rng1 (aCons (dVar 2) aNil)) (gSet 4) P__law_closed_7 E__law_closed_8 [4]) (dLst aNil))) (dVar 3) (dC .non)))))))
noncomputable def F__law_closed : List D → M D := runF 9 B__law_closed
noncomputable def E__law_numbered_1 : DEnv → M D := (dTup (aCons (dMt "list" dIndexL (dVar 2) (aCons (dVar 3) aNil)) (aCons (dMt "list" dIndexL (dVar 2) (aCons (dVar 4) aNil)) (aCons (dVar 5) aNil))))
noncomputable def B__law_numbered : DEnv → M Fl := (sSeq (sSet 2 (dOp dAdd (dLst (aCons (dC (.str ("zero" : Str))) aNil)) (dB dLstOf (aCons (dVar 0) aNil))))
  (sRet (dLc (srcSeq (dVar 1)) (gTupD 3 (gsCons (gSet 3) (gsCons (gSet 4) (gsCons (gSet 5) gsNil)))) tYesD E__law_numbered_1 [3, 4, 5])))
noncomputable def F__law_numbered : List D → M D := runF 6 B__law_numbered
noncomputable def L__law_split_1 : DEnv → M Fl := (sIf (tNotN (dCall 2 F__law_closed (aCons (dB dLen (aCons (dVar 1) aNil)) (aCons (dCall 2 F__law_numbered (aCons (dVar 1) (aCons (dOp dAdd (dVar 7) (dTup (aCons (dVar 11) aNil))) aNil))) aNil))))
  (sExpr (dMt "list" dAppend (dVar 5) (aCons (dOp dAdd (dVar 7) (dTup (aCons (dVar 11) aNil))) aNil)))
  sNext)
noncomputable def L__law_split_2 : DEnv → M Fl := (sSeq (sSet 7 (dMt "list" dPopAt (dVar 5) (aCons (dCall 2 F__law_hoist (aCons (dVar 0) (aCons (dB dLen (aCons (dVar 5) aNil)) aNil))) aNil)))
  (sSeq (sAsg (dCall 3 F__law_drawn_fact (aCons (dVar 0) (aCons (dVar 1) (aCons (dVar 4) aNil)))) (gTupD 3 (gsCons (gSet 8) (gsCons (gSet 9) (gsCons (gSet 10) gsNil)))))
  (sFor (srcSeq (dLst (aCons (dTup (aCons (dVar 8) (aCons (dVar 9) (aCons (dVar 10) aNil)))) (aCons (dTup (aCons (dVar 9) (aCons (dVar 8) (aCons (dOp dSub (dUn dNeg (dVar 10)) (dC (.int 1))) aNil)))) aNil)))) (gSet 11) L__law_split_1)))
noncomputable def B__law_split : DEnv → M Fl := (sSeq (sSet 5 (dLstC (aCons (dVar 2) aNil)))
  (sSeq (sFor (srcA rng1 (aCons (dVar 3) aNil)) (gSet 6) L__law_split_2)
  (sRet (dVar 5))))
noncomputable def F__law_split : List D → M D := runF 12 B__law_split
noncomputable def E__law_caps_1 : DEnv → M D := (dTup (aCons (dVar 2) (aCons (dC (.str ("zero" : Str))) (aCons (dVar 1) aNil))))
noncomputable def B__law_caps : DEnv → M Fl := (sRet (dB dTupOf (aCons (dLc (srcSeq (dVar 0)) (gSet 2) tYesD E__law_caps_1 [2]) aNil)))
noncomputable def F__law_caps : List D → M D := runF 3 B__law_caps
noncomputable def L__law_two_sides_1 : DEnv → M Fl := (sSeq (sSet 5 (dCall 2 F__law_hoist (aCons (dVar 0) (aCons (dC (.int 7)) aNil))))
  (sIf (tVal (dOp dLt (dVar 5) (dC (.int 3))))
  (sExpr (dMt "list" dAppend (dVar 2) (aCons (dVar 4) aNil)))
  (sIf (tVal (dOp dLt (dVar 5) (dC (.int 6))))
  (sExpr (dMt "list" dAppend (dVar 3) (aCons (dVar 4) aNil)))
  sNext)))
noncomputable def B__law_two_sides : DEnv → M Fl := (sSeq (sPar 2 3 (aCons (dLstC aNil) (aCons (dLstC aNil) aNil)))
  (sSeq (sFor (srcSeq (dVar 1)) (gSet 4) L__law_two_sides_1)
  (sSeq (sIf (tAndD (tVal (dOp (dEq false) (dVar 2) (dLst aNil))) (tVal (dOp (dEq false) (dVar 3) (dLst aNil))))
  (sExpr (dMt "list" dAppend (dVar 3) (aCons (dOp dIx (dVar 1) (dC (.int 0))) aNil)))
  sNext)
  (sRet (dTup (aCons (dSl (dVar 2) oNone (oSome (dC (.int 4)))) (aCons (dSl (dVar 3) oNone (oSome (dC (.int 4)))) aNil)))))))
noncomputable def F__law_two_sides : List D → M D := runF 6 B__law_two_sides
noncomputable def L__law_some_facts_1 : DEnv → M Fl := (sSeq (sSet 6 (dOp dAdd (dVar 2) (dTup (aCons (dCall 3 F__law_drawn_fact (aCons (dVar 0) (aCons (dVar 1) (aCons (dVar 4) aNil)))) aNil))))
  (sIf (tNotN (dCall 2 F__law_closed (aCons (dB dLen (aCons (dVar 1) aNil)) (aCons (dCall 2 F__law_numbered (aCons (dVar 1) (aCons (dVar 6) aNil))) aNil))))
  (sSet 2 (dVar 6))
  sNext))
noncomputable def B__law_some_facts : DEnv → M Fl := (sSeq (sFor (srcA rng1 (aCons (dCall 2 F__law_hoist (aCons (dVar 0) (aCons (dOp dAdd (dVar 3) (dC (.int 1))) aNil))) aNil)) (gSet 5) L__law_some_facts_1)
  (sRet (dVar 2)))
noncomputable def F__law_some_facts : List D → M D := runF 7 B__law_some_facts
noncomputable def B__law_doubled : DEnv → M Fl := (sSeq (sIf (tOrD (tVal (dOp (dEq false) (dVar 2) (dLst aNil))) (tVal (dOp (dEq false) (dCall 2 F__law_hoist (aCons (dVar 0) (aCons (dC (.int 2)) aNil))) (dC (.int 0)))))
  (sRet (dVar 2))
  sNext)
  (sSeq (sSet 3 (dOp dIx (dVar 2) (dCall 2 F__law_hoist (aCons (dVar 0) (aCons (dB dLen (aCons (dVar 2) aNil)) aNil)))))
  (sSeq (sSet 4 (dIf (tVal (dOp dGt (dB dLen (aCons (dVar 3) aNil)) (dC (.int 7)))) (dVar 3) (dCall 5 F__law_some_facts (aCons (dVar 0) (aCons (dVar 1) (aCons (dVar 3) (aCons (dC (.int 1)) (aCons (dC (.int 4)) aNil))))))))
  (sSeq (sSet 5 (dCall 2 F__law_hoist (aCons (dVar 0) (aCons (dOp dAdd (dB dLen (aCons (dVar 2) aNil)) (dC (.int 1))) aNil))))
  (sRet (dOp dAdd (dOp dAdd (dSl (dVar 2) oNone (oSome (dVar 5))) (dLst (aCons (dVar 4) aNil))) (dSl (dVar 2) (oSome (dVar 5)) oNone)))))))
noncomputable def F__law_doubled : List D → M D := runF 6 B__law_doubled
noncomputable def E__law_all_recordings_1 : DEnv → M D := (dOp dAdd (dVar 5) (dTup (aCons (dVar 6) aNil)))
noncomputable def L__law_all_recordings_2 : DEnv → M Fl := (sSet 4 (dOp dAdd (dVar 4) (dLc (srcA rng1 (aCons (dOp dAdd (dVar 1) (dC (.int 1))) aNil)) (gSet 6) tYesD E__law_all_recordings_1 [6])))
noncomputable def L__law_all_recordings_3 : DEnv → M Fl := (sSeq (sSet 4 (dLst aNil))
  (sSeq (sFor (srcSeq (dVar 2)) (gSet 5) L__law_all_recordings_2)
  (sSet 2 (dVar 4))))
noncomputable def B__law_all_recordings : DEnv → M Fl := (sSeq (sSet 2 (dLst (aCons (dTup aNil) aNil)))
  (sSeq (sFor (srcA rng1 (aCons (dVar 0) aNil)) (gSet 3) L__law_all_recordings_3)
  (sRet (dVar 2))))
noncomputable def F__law_all_recordings : List D → M D := runF 7 B__law_all_recordings
noncomputable def P__law_keeps_1 : DEnv → M Bool := (tVal (dOp dLt (dVar 4) (dC (.int 0))))
noncomputable def E__law_keeps_2 : DEnv → M D := (dVar 4)
noncomputable def P__law_keeps_3 : DEnv → M Bool := (tVal (dOp dGt (dOp dSub (dOp dIx (dVar 3) (dOp dIx (dVar 5) (dC (.int 0)))) (dOp dIx (dVar 3) (dOp dIx (dVar 5) (dC (.int 1))))) (dOp dIx (dVar 5) (dC (.int 2)))))
noncomputable def E__law_keeps_4 : DEnv → M D := (dVar 5)
noncomputable def B__law_keeps : DEnv → M Fl := (sSeq (sSet 3 (dOp dAdd (dTup (aCons (dC (.int 0)) aNil)) (dB dTupOf (aCons (dVar 2) aNil))))
  (sSeq (sIf (tOrD (tVal (dOp (dEq true) (dLc (srcSeq (dVar 3)) (gSet 4) P__law_keeps_1 E__law_keeps_2 [4]) (dLst aNil))) (tVal (dOp (dEq true) (dB dLen (aCons (dVar 3) aNil)) (dOp dAdd (dB dLen (aCons (dVar 0) aNil)) (dC (.int 1))))))
  (sRet (dC (.bl false)))
  sNext)
  (sRet (dOp (dEq false) (dLc (srcSeq (dCall 2 F__law_numbered (aCons (dVar 0) (aCons (dVar 1) aNil)))) (gSet 5) P__law_keeps_3 E__law_keeps_4 [5]) (dLst aNil)))))
noncomputable def F__law_keeps : List D → M D := runF 6 B__law_keeps
noncomputable def P__law_in_parts_1 : DEnv → M Bool := (tTru (dCall 3 F__law_keeps (aCons (dVar 0) (aCons (dVar 4) (aCons (dVar 3) aNil)))))
noncomputable def E__law_in_parts_2 : DEnv → M D := (dC (.int 1))
noncomputable def P__law_in_parts_3 : DEnv → M Bool := (tVal (dOp (dEq true) (dLc (srcSeq (dVar 1)) (gSet 4) P__law_in_parts_1 E__law_in_parts_2 [4]) (dLst aNil)))
noncomputable def E__law_in_parts_4 : DEnv → M D := (dVar 3)
noncomputable def B__law_in_parts : DEnv → M Fl := (sRet (dLc (srcSeq (dVar 2)) (gSet 3) P__law_in_parts_3 E__law_in_parts_4 [3]))
noncomputable def F__law_in_parts : List D → M D := runF 5 B__law_in_parts
noncomputable def B_check_like : DEnv → M Fl := (sIf (tVal (dOp (dEq true) (dTup (aCons (dUn (dFld [0] ("marks" : Str)) (dVar 0)) (aCons (dUn (dFld [0] ("takes" : Str)) (dVar 0)) aNil))) (dTup (aCons (dUn (dFld [0] ("marks" : Str)) (dVar 1)) (aCons (dUn (dFld [0] ("takes" : Str)) (dVar 1)) aNil)))))
  sNever
  sNext)
noncomputable def F_check_like : List D → M D := runF 2 B_check_like
noncomputable def L_Family___init___1 : DEnv → M Fl := (sExpr (dCall 2 F_check_like (aCons (dOp dIx (dVar 1) (dC (.int 0))) (aCons (dVar 2) aNil))))
noncomputable def B_Family___init__ : DEnv → M Fl := (sSeq (sFor (srcSeq (dSl (dVar 1) (oSome (dC (.int 1))) oNone)) (gSet 2) L_Family___init___1)
  (sFldS [1] ("parts" : Str) (dVar 0) (dVar 1)))
noncomputable def F_Family___init__ : List D → M D := runF 3 B_Family___init__
noncomputable def B_check_families : DEnv → M Fl := (sIf (tAndD (tVal (dOp (dEqE true) (dUn (dFld [1] ("parts" : Str)) (dVar 0)) (dTup aNil))) (tVal (dOp (dEqE true) (dUn (dFld [1] ("parts" : Str)) (dVar 1)) (dTup aNil))))
  (sExpr (dCall 2 F_check_like (aCons (dOp dIx (dUn (dFld [1] ("parts" : Str)) (dVar 0)) (dC (.int 0))) (aCons (dOp dIx (dUn (dFld [1] ("parts" : Str)) (dVar 1)) (dC (.int 0))) aNil))))
  sNext)
noncomputable def F_check_families : List D → M D := runF 2 B_check_families
noncomputable def B_Family___or__ : DEnv → M Fl := (sSeq (sExpr (dCall 2 F_check_families (aCons (dVar 0) (aCons (dVar 1) aNil))))
  (sRet (dMakeS 1 true F_Family___init__ (aStar (dUn (dFld [1] ("parts" : Str)) (dVar 0)) (aStar (dUn (dFld [1] ("parts" : Str)) (dVar 1)) aNil)))))
noncomputable def F_Family___or__ : List D → M D := runF 2 B_Family___or__
noncomputable def E_is_name_1 : DEnv → M D := (dOp (dIn false) (dVar 1) (dC (.str ("abcdefghijklmnopqrstuvwxyzABCDEFGHIJKLMNOPQRSTUVWXYZ" : Str))))
noncomputable def B_is_name : DEnv → M Fl := (sRet (dAnd (dB dIsa (aCons (dVar 0) (aCons (dC (.ty "str")) aNil))) (dAnd (dChain dLt dLe (dC (.int 0)) (dB dLen (aCons (dVar 0) aNil)) (dC (.int (8)))) (dB dAll (aCons (dLc (srcStr (dVar 0)) (gSet 1) tYesD E_is_name_1 [1]) aNil)))))
noncomputable def F_is_name : List D → M D := runF 2 B_is_name
noncomputable def B_is_mark_at : DEnv → M Fl := (sRet (dAnd (dCall 1 F_is_name (aCons (dOp dIx (dVar 0) (dVar 1)) aNil)) (dAnd (dOp (dEq true) (dOp dIx (dVar 0) (dVar 1)) (dC (.str ("zero" : Str)))) (dOp (dIn true) (dOp dIx (dVar 0) (dVar 1)) (dSl (dVar 0) oNone (oSome (dVar 1)))))))
noncomputable def F_is_mark_at : List D → M D := runF 2 B_is_mark_at
noncomputable def B_is_integer : DEnv → M Fl := (sRet (dAnd (dB dIsa (aCons (dVar 0) (aCons (dC (.ty "int")) aNil))) (dNot (dB dIsa (aCons (dVar 0) (aCons (dC (.ty "bool")) aNil))))))
noncomputable def F_is_integer : List D → M D := runF 1 B_is_integer
noncomputable def B_is_fact : DEnv → M Fl := (sSeq (sIf (tOrD (tVal (dOp (dEq true) (dB dLen (aCons (dVar 1) aNil)) (dC (.int 3)))) (tNotD (tTru (dCall 1 F_is_integer (aCons (dOp dIx (dVar 1) (dC (.int 2))) aNil)))))
  (sRet (dC (.bl false)))
  sNext)
  (sRet (dAnd (dOp (dIn false) (dOp dIx (dVar 1) (dC (.int 0))) (dVar 0)) (dAnd (dOp (dIn false) (dOp dIx (dVar 1) (dC (.int 1))) (dVar 0)) (dOp (dEq true) (dOp dIx (dVar 1) (dC (.int 0))) (dOp dIx (dVar 1) (dC (.int 1))))))))
noncomputable def F_is_fact : List D → M D := runF 2 B_is_fact
noncomputable def L_check_sheet_1 : DEnv → M Fl := (sIf (tNotD (tTru (dCall 2 F_is_mark_at (aCons (dVar 0) (aCons (dVar 3) aNil)))))
  sNever
  sNext)
noncomputable def L_check_sheet_2 : DEnv → M Fl := (sIf (tOrD (tVal (dOp (dIn true) (dVar 4) (dVar 0))) (tVal (dOp (dIn false) (dVar 4) (dSl (dVar 1) oNone (oSome (dVar 3))))))
  sNever
  sNext)
noncomputable def L_check_sheet_3 : DEnv → M Fl := (sIf (tNotD (tTru (dCall 2 F_is_fact (aCons (dTup (aCons (dC (.str ("zero" : Str))) (aStar (dVar 0) aNil))) (aCons (dVar 5) aNil)))))
  sNever
  sNext)
noncomputable def B_check_sheet : DEnv → M Fl := (sSeq (sFor (srcA rng1 (aCons (dB dLen (aCons (dVar 0) aNil)) aNil)) (gSet 3) L_check_sheet_1)
  (sSeq (sFor (srcA enm1 (aCons (dVar 1) aNil)) (gTupD 2 (gsCons (gSet 3) (gsCons (gSet 4) gsNil))) L_check_sheet_2)
  (sFor (srcA enm1 (aCons (dVar 2) aNil)) (gTupD 2 (gsCons (gSet 3) (gsCons (gSet 5) gsNil))) L_check_sheet_3)))
noncomputable def F_check_sheet : List D → M D := runF 6 B_check_sheet
noncomputable def B_is_less : DEnv → M Fl := (sRet (dAnd (dUn notN1 (dVar 0)) (dOr (dUn isN1 (dVar 1)) (dOp dLt (dVar 0) (dVar 1)))))
noncomputable def F_is_less : List D → M D := runF 2 B_is_less
noncomputable def B_summed : DEnv → M Fl := (sRet (dIf (tOrD (tIsN (dVar 0)) (tIsN (dVar 1))) (dC .non) (dOp dAdd (dVar 0) (dVar 1))))
noncomputable def F_summed : List D → M D := runF 2 B_summed
noncomputable def B_lesser : DEnv → M Fl := (sSeq (sIf (tOrD (tIsN (dVar 0)) (tIsN (dVar 1)))
  (sRet (dIf (tIsN (dVar 0)) (dVar 1) (dVar 0)))
  sNext)
  (sRet (dB dMin2 (aCons (dVar 0) (aCons (dVar 1) aNil)))))
noncomputable def F_lesser : List D → M D := runF 2 B_lesser
noncomputable def E_narrowed_1 : DEnv → M D := (dCall 2 F_lesser (aCons (dVar 8) (aCons (dCall 2 F_summed (aCons (dVar 7) (aCons (dVar 9) aNil))) aNil)))
noncomputable def L_narrowed_2 : DEnv → M Fl := (sSeq (sSet 7 (dCall 2 F_summed (aCons (dOp dIx (dVar 6) (dVar 1)) (aCons (dVar 3) aNil))))
  (sSet 5 (dOp dAdd (dVar 5) (dLst (aCons (dB dTupOf (aCons (dLc (srcA zip2 (aCons (dVar 6) (aCons (dOp dIx (dVar 0) (dVar 2)) aNil))) (gTupD 2 (gsCons (gSet 8) (gsCons (gSet 9) gsNil))) tYesD E_narrowed_1 [8, 9]) aNil)) aNil)))))
noncomputable def B_narrowed : DEnv → M Fl := (sSeq (sSet 4 (dOp dIx (dOp dIx (dVar 0) (dVar 2)) (dVar 1)))
  (sSeq (sIf (tAndD (tNotN (dVar 4)) (tVal (dOp dLt (dOp dAdd (dVar 4) (dVar 3)) (dC (.int 0)))))
  (sRet (dC .non))
  sNext)
  (sSeq (sIf (tNotD (tTru (dCall 2 F_is_less (aCons (dVar 3) (aCons (dOp dIx (dOp dIx (dVar 0) (dVar 1)) (dVar 2)) aNil)))))
  (sRet (dVar 0))
  sNext)
  (sSeq (sSet 5 (dLst aNil))
  (sSeq (sFor (srcSeq (dVar 0)) (gSet 6) L_narrowed_2)
  (sRet (dB dTupOf (aCons (dVar 5) aNil))))))))
noncomputable def F_narrowed : List D → M D := runF 10 B_narrowed
noncomputable def L_narrowed_by_1 : DEnv → M Fl := (sSeq (sSet 0 (dCall 4 F_narrowed (aCons (dVar 0) (aCons (dVar 2) (aCons (dVar 3) (aCons (dVar 4) aNil))))))
  (sIf (tIsN (dVar 0))
  (sRet (dC .non))
  sNext))
noncomputable def B_narrowed_by : DEnv → M Fl := (sSeq (sFor (srcSeq (dVar 1)) (gTupD 3 (gsCons (gSet 2) (gsCons (gSet 3) (gsCons (gSet 4) gsNil)))) L_narrowed_by_1)
  (sRet (dVar 0)))
noncomputable def F_narrowed_by : List D → M D := runF 5 B_narrowed_by
noncomputable def E_open_bounds_1 : DEnv → M D := (dIf (tVal (dOp (dIn false) (dVar 2) (dTup (aCons (dC (.int (0))) (aCons (dVar 3) aNil))))) (dC (.int 0)) (dC .non))
noncomputable def L_open_bounds_2 : DEnv → M Fl := (sSet 1 (dOp dAdd (dVar 1) (dLst (aCons (dB dTupOf (aCons (dLc (srcA rng1 (aCons (dOp dAdd (dVar 0) (dC (.int 1))) aNil)) (gSet 3) tYesD E_open_bounds_1 [3]) aNil)) aNil))))
noncomputable def B_open_bounds : DEnv → M Fl := (sSeq (sSet 1 (dLst aNil))
  (sSeq (sFor (srcA rng1 (aCons (dOp dAdd (dVar 0) (dC (.int 1))) aNil)) (gSet 2) L_open_bounds_2)
  (sRet (dB dTupOf (aCons (dVar 1) aNil)))))
noncomputable def F_open_bounds : List D → M D := runF 4 B_open_bounds
noncomputable def L_number_of_1 : DEnv → M Fl := (sIf (tVal (dOp (dEq false) (dVar 4) (dVar 1)))
  (sSet 2 (dVar 3))
  sNext)
noncomputable def B_number_of : DEnv → M Fl := (sSeq (sSet 2 (dC (.int 0)))
  (sSeq (sFor (srcA enm1 (aCons (dVar 0) aNil)) (gTupD 2 (gsCons (gSet 3) (gsCons (gSet 4) gsNil))) L_number_of_1)
  (sRet (dVar 2))))
noncomputable def F_number_of : List D → M D := runF 5 B_number_of
noncomputable def E_numbered_1 : DEnv → M D := (dTup (aCons (dCall 2 F_number_of (aCons (dVar 0) (aCons (dVar 2) aNil))) (aCons (dCall 2 F_number_of (aCons (dVar 0) (aCons (dVar 3) aNil))) (aCons (dVar 4) aNil))))
noncomputable def B_numbered : DEnv → M Fl := (sRet (dB dTupOf (aCons (dLc (srcSeq (dVar 1)) (gTupD 3 (gsCons (gSet 2) (gsCons (gSet 3) (gsCons (gSet 4) gsNil)))) tYesD E_numbered_1 [2, 3, 4]) aNil)))
noncomputable def F_numbered : List D → M D := runF 5 B_numbered
noncomputable def L_first_ways_1 : DEnv → M Fl := (sSet 3 (dOp dAdd (dVar 3) (dLst (aCons (dIf (tVal (dOp (dEq false) (dVar 2) (dVar 4))) (dTup aNil) (dIf (tVal (dOp (dEq false) (dVar 2) (dC (.str ("zero" : Str))))) (dTup (aCons (dTup (aCons (dVar 2) (aCons (dVar 4) (aCons (dC (.int 0)) aNil)))) aNil)) (dC .non))) aNil))))
noncomputable def L_first_ways_2 : DEnv → M Fl := (sSeq (sSet 3 (dLst aNil))
  (sSeq (sFor (srcSeq (dVar 0)) (gSet 4) L_first_ways_1)
  (sSet 1 (dOp dAdd (dVar 1) (dLst (aCons (dVar 3) aNil))))))
noncomputable def B_first_ways : DEnv → M Fl := (sSeq (sSet 1 (dLst aNil))
  (sSeq (sFor (srcSeq (dVar 0)) (gSet 2) L_first_ways_2)
  (sRet (dVar 1))))
noncomputable def F_first_ways : List D → M D := runF 5 B_first_ways
noncomputable def E_way_sum_1 : DEnv → M D := (dVar 3)
noncomputable def B_way_sum : DEnv → M Fl := (sRet (dIf (tIsN (dVar 0)) (dC .non) (dB dSum (aCons (dLc (srcSeq (dVar 0)) (gTupD 3 (gsCons (gSet 1) (gsCons (gSet 2) (gsCons (gSet 3) gsNil)))) tYesD E_way_sum_1 [1, 2, 3]) aNil))))
noncomputable def F_way_sum : List D → M D := runF 4 B_way_sum
noncomputable def B_better_way : DEnv → M Fl := (sSeq (sIf (tOrD (tIsN (dVar 1)) (tAndD (tNotN (dVar 0)) (tVal (dOp dLe (dCall 1 F_way_sum (aCons (dVar 0) aNil)) (dCall 1 F_way_sum (aCons (dVar 1) aNil))))))
  (sRet (dVar 0))
  sNext)
  (sRet (dVar 1)))
noncomputable def F_better_way : List D → M D := runF 2 B_better_way
noncomputable def B_joined_way : DEnv → M Fl := (sRet (dIf (tOrD (tIsN (dVar 0)) (tIsN (dVar 2))) (dC .non) (dTup (aStar (dVar 0) (aCons (dVar 1) (aStar (dVar 2) aNil))))))
noncomputable def F_joined_way : List D → M D := runF 3 B_joined_way
noncomputable def E_ways_by_1 : DEnv → M D := (dCall 2 F_better_way (aCons (dVar 9) (aCons (dCall 3 F_joined_way (aCons (dOp dIx (dVar 8) (dVar 4)) (aCons (dVar 3) (aCons (dVar 10) aNil)))) aNil)))
noncomputable def L_ways_by_2 : DEnv → M Fl := (sSet 7 (dOp dAdd (dVar 7) (dLst (aCons (dLc (srcA zip2 (aCons (dVar 8) (aCons (dOp dIx (dVar 2) (dVar 5)) aNil))) (gTupD 2 (gsCons (gSet 9) (gsCons (gSet 10) gsNil))) tYesD E_ways_by_1 [9, 10]) aNil))))
noncomputable def L_ways_by_3 : DEnv → M Fl := (sSeq (sAsg (dTup (aCons (dCall 2 F_number_of (aCons (dVar 0) (aCons (dOp dIx (dVar 3) (dC (.int 0))) aNil))) (aCons (dCall 2 F_number_of (aCons (dVar 0) (aCons (dOp dIx (dVar 3) (dC (.int 1))) aNil))) aNil))) (gTupD 2 (gsCons (gSet 4) (gsCons (gSet 5) gsNil))))
  (sSeq (sSet 6 (dOp dIx (dOp dIx (dVar 2) (dVar 5)) (dVar 4)))
  (sSeq (sIf (tAndD (tNotN (dVar 6)) (tVal (dOp dLt (dOp dAdd (dCall 1 F_way_sum (aCons (dVar 6) aNil)) (dOp dIx (dVar 3) (dC (.int 2)))) (dC (.int 0)))))
  (sRet (dTup (aCons (dC .non) (aCons (dTup (aStar (dVar 6) (aCons (dVar 3) aNil))) aNil))))
  sNext)
  (sSeq (sSet 7 (dLst aNil))
  (sSeq (sFor (srcSeq (dVar 2)) (gSet 8) L_ways_by_2)
  (sSet 2 (dVar 7)))))))
noncomputable def B_ways_by : DEnv → M Fl := (sSeq (sSet 2 (dCall 1 F_first_ways (aCons (dVar 0) aNil)))
  (sSeq (sFor (srcSeq (dVar 1)) (gSet 3) L_ways_by_3)
  (sRet (dTup (aCons (dVar 2) (aCons (dC .non) aNil))))))
noncomputable def F_ways_by : List D → M D := runF 11 B_ways_by
noncomputable def B_Sheet___init__ : DEnv → M Fl := (sSeq (sExpr (dCall 3 F_check_sheet (aCons (dVar 1) (aCons (dVar 2) (aCons (dVar 3) aNil)))))
  (sSeq (sSet 4 (dTup (aCons (dC (.str ("zero" : Str))) (aStar (dVar 1) aNil))))
  (sSeq (sSet 5 (dCall 2 F_narrowed_by (aCons (dCall 1 F_open_bounds (aCons (dB dLen (aCons (dVar 1) aNil)) aNil)) (aCons (dCall 2 F_numbered (aCons (dVar 4) (aCons (dVar 3) aNil))) aNil))))
  (sSeq (sIf (tIsN (dVar 5))
  (sSeq (sAsg (dCall 2 F_ways_by (aCons (dVar 4) (aCons (dVar 3) aNil))) (gTupD 2 (gsCons (gSet 6) (gsCons (gSet 7) gsNil))))
  sNever)
  sNext)
  (sSeq (sFldS [0] ("marks" : Str) (dVar 0) (dVar 1))
  (sSeq (sFldS [0] ("takes" : Str) (dVar 0) (dVar 2))
  (sSeq (sFldS [0] ("facts" : Str) (dVar 0) (dVar 3))
  (sSeq (sFldS [0] ("nodes" : Str) (dVar 0) (dVar 4))
  (sFldS [0] ("bounds" : Str) (dVar 0) (dVar 5))))))))))
noncomputable def F_Sheet___init__ : List D → M D := runF 8 B_Sheet___init__
noncomputable def MF_Sheet_3 : List D → M D := fun as => F_Sheet___init__ (as ++ [])
noncomputable def MF_Sheet_2 : List D → M D := fun as => F_Sheet___init__ (as ++ [.tup []])
noncomputable def L__law_family_1 : DEnv → M Fl := (sSet 3 (dBinO [(1, F_Family___or__)] (dVar 3) (dMakeS 1 true F_Family___init__ (aCons (dMake 0 true 3 (MF_Sheet_3) (aCons (dVar 0) (aCons (dVar 1) (aCons (dVar 4) aNil)))) aNil))))
noncomputable def B__law_family : DEnv → M Fl := (sSeq (sSet 3 (dMakeS 1 true F_Family___init__ aNil))
  (sSeq (sFor (srcSeq (dVar 2)) (gSet 4) L__law_family_1)
  (sRet (dVar 3))))
noncomputable def F__law_family : List D → M D := runF 5 B__law_family
noncomputable def B_Finding___init__ : DEnv → M Fl := (sSeq (sFldS [2] ("bad" : Str) (dVar 0) (dVar 1))
  (sFldS [2] ("good" : Str) (dVar 0) (dVar 2)))
noncomputable def F_Finding___init__ : List D → M D := runF 3 B_Finding___init__
noncomputable def MF_Finding_2 : List D → M D := fun as => F_Finding___init__ (as ++ [])
noncomputable def P__law_kin_1 (R : List D → M D) : DEnv → M Bool := (tNotD (tTru (dCall 2 R (aCons (dOp dIx (dVar 0) (dVar 2)) (aCons (dOp dIx (dVar 1) (dVar 2)) aNil)))))
noncomputable def E__law_kin_2 (R : List D → M D) : DEnv → M D := (dVar 2)
noncomputable def B__law_kin (R : List D → M D) : DEnv → M Fl := (sSeq (sIf (tOrD (tTru (dB dIsa (aCons (dVar 0) (aCons (dC (.ty "bool")) aNil)))) (tTru (dB dIsa (aCons (dVar 1) (aCons (dC (.ty "bool")) aNil)))))
  (sRet (dAnd (dB dIsa (aCons (dVar 0) (aCons (dC (.ty "bool")) aNil))) (dAnd (dB dIsa (aCons (dVar 1) (aCons (dC (.ty "bool")) aNil))) (dOp (dEq false) (dVar 0) (dVar 1)))))
  sNext)
  (sSeq (sIf (tOrD (tVal (dOp (dEq true) (dB dIsa (aCons (dVar 0) (aCons (dC (.ty "list")) aNil))) (dB dIsa (aCons (dVar 1) (aCons (dC (.ty "list")) aNil))))) (tVal (dOp (dEq true) (dB dIsa (aCons (dVar 0) (aCons (dC (.ty "tuple")) aNil))) (dB dIsa (aCons (dVar 1) (aCons (dC (.ty "tuple")) aNil))))))
  (sRet (dC (.bl false)))
  sNext)
  (sSeq (sIf (tOrD (tVal (dOp (dEq true) (dB dIsa (aCons (dVar 0) (aCons (dC (.ty "str")) aNil))) (dB dIsa (aCons (dVar 1) (aCons (dC (.ty "str")) aNil))))) (tVal (dOp (dEq true) (dB dIsa (aCons (dVar 0) (aCons (dC (.ty "int")) aNil))) (dB dIsa (aCons (dVar 1) (aCons (dC (.ty "int")) aNil))))))
  (sRet (dC (.bl false)))
  sNext)
  (sSeq (sIf (tTru (dB dIsaT (aCons (dVar 1) (aCons (dTup (aCons (dC (.ty "list")) (aCons (dC (.ty "tuple")) aNil))) aNil))))
  (sSeq (sIf (tVal (dOp (dEq true) (dB dLen (aCons (dVar 0) aNil)) (dB dLen (aCons (dVar 1) aNil))))
  (sRet (dC (.bl false)))
  sNext)
  (sRet (dOp (dEq false) (dLc (srcA rng1 (aCons (dB dLen (aCons (dVar 1) aNil)) aNil)) (gSet 2) (P__law_kin_1 R) (E__law_kin_2 R) [2]) (dLst aNil))))
  sNext)
  (sRet (dAnd (dOp (dEq false) (dUn isN1 (dVar 0)) (dUn isN1 (dVar 1))) (dOp (dEq false) (dVar 0) (dVar 1))))))))
noncomputable def F__law_kin_n : Nat → List D → M D
  | 0 => fun _ => M.bad
  | n + 1 => runF 3 (B__law_kin (F__law_kin_n n))
noncomputable abbrev F__law_kin : List D → M D := F__law_kin_n 6
noncomputable def B_state_in : DEnv → M Fl := (sSeq (sIf (tVal (dOp (dEq false) (dB dLen (aCons (dUn (dFld [1] ("parts" : Str)) (dVar 0)) aNil)) (dC (.int 0))))
  (sRet (dC (.str ("sure" : Str))))
  sNext)
  (sRet (dIf (tVal (dOp (dEq false) (dB dLen (aCons (dUn (dFld [1] ("parts" : Str)) (dVar 1)) aNil)) (dC (.int 0)))) (dC (.str ("never" : Str))) (dC (.str ("open" : Str))))))
noncomputable def F_state_in : List D → M D := runF 2 B_state_in
noncomputable def B_Finding_state : DEnv → M Fl := (sRet (dCall 2 F_state_in (aCons (dUn (dFld [2] ("bad" : Str)) (dVar 0)) (aCons (dUn (dFld [2] ("good" : Str)) (dVar 0)) aNil))))
noncomputable def F_Finding_state : List D → M D := runF 1 B_Finding_state
noncomputable def B_Finding___bool__ : DEnv → M Fl := (sRet (dB dBoolB (aCons (dOp (dEq false) (dB dLen (aCons (dUn (dFld [1] ("parts" : Str)) (dUn (dFld [2] ("bad" : Str)) (dVar 0))) aNil)) (dC (.int 0))) aNil)))
noncomputable def F_Finding___bool__ : List D → M D := runF 1 B_Finding___bool__
noncomputable def L__law_first_of_1 : DEnv → M Fl := (sIf (tOrD (tIsN (dVar 1)) (tVal (dOp dLtR (dTup (aCons (dB dSumT (aCons (dVar 2) aNil)) (aCons (dVar 2) aNil))) (dTup (aCons (dB dSumT (aCons (dVar 1) aNil)) (aCons (dVar 1) aNil))))))
  (sSet 1 (dVar 2))
  sNext)
noncomputable def B__law_first_of : DEnv → M Fl := (sSeq (sSet 1 (dC .non))
  (sSeq (sFor (srcSeq (dVar 0)) (gSet 2) L__law_first_of_1)
  (sRet (dVar 1))))
noncomputable def F__law_first_of : List D → M D := runF 3 B__law_first_of
noncomputable def E__law_loosest_due_1 : DEnv → M D := (dOp dSub (dOp dIx (dOp dAdd (dTup (aCons (dC (.int 0)) aNil)) (dVar 7)) (dVar 2)) (dOp dIx (dOp dAdd (dTup (aCons (dC (.int 0)) aNil)) (dVar 7)) (dVar 3)))
noncomputable def P__law_loosest_due_2 : DEnv → M Bool := (tVal (dOp (dEq false) (dOp dSub (dOp dIx (dOp dAdd (dTup (aCons (dC (.int 0)) aNil)) (dVar 7)) (dVar 2)) (dOp dIx (dOp dAdd (dTup (aCons (dC (.int 0)) aNil)) (dVar 7)) (dVar 3))) (dVar 4)))
noncomputable def E__law_loosest_due_3 : DEnv → M D := (dVar 7)
noncomputable def P__law_loosest_due_4 : DEnv → M Bool := (tVal (dOp dGt (dOp dSub (dOp dIx (dOp dAdd (dTup (aCons (dC (.int 0)) aNil)) (dVar 7)) (dVar 2)) (dOp dIx (dOp dAdd (dTup (aCons (dC (.int 0)) aNil)) (dVar 7)) (dVar 3))) (dVar 4)))
noncomputable def E__law_loosest_due_5 : DEnv → M D := (dVar 7)
noncomputable def B__law_loosest_due : DEnv → M Fl := (sSeq (sIf (tVal (dOp (dEq false) (dVar 0) (dLst aNil)))
  (sRet (dTup (aCons (dC (.str ("sure" : Str))) aNil)))
  sNext)
  (sSeq (sSet 4 (dB dMaxL (aCons (dLc (srcSeq (dVar 0)) (gSet 7) tYesD E__law_loosest_due_1 [7]) aNil)))
  (sSeq (sSet 5 (dLc (srcSeq (dVar 0)) (gSet 7) P__law_loosest_due_2 E__law_loosest_due_3 [7]))
  (sSeq (sSet 6 (dLc (srcSeq (dVar 1)) (gSet 7) P__law_loosest_due_4 E__law_loosest_due_5 [7]))
  (sRet (dTup (aCons (dC (.str ("fact" : Str))) (aCons (dOp dAdd (dVar 4) (dC (.int 1))) (aCons (dCall 1 F__law_first_of (aCons (dVar 5) aNil)) (aCons (dCall 1 F__law_first_of (aCons (dVar 6) aNil)) aNil))))))))))
noncomputable def F__law_loosest_due : List D → M D := runF 8 B__law_loosest_due
noncomputable def B_sheet_in : DEnv → M Fl := (sSeq (sSet 1 (dTup (aStar (dUn (dFld [1] ("parts" : Str)) (dUn (dFld [2] ("bad" : Str)) (dVar 0))) (aStar (dUn (dFld [1] ("parts" : Str)) (dUn (dFld [2] ("good" : Str)) (dVar 0))) aNil))))
  (sRet (dOp dIx (dVar 1) (dC (.int 0)))))
noncomputable def F_sheet_in : List D → M D := runF 2 B_sheet_in
noncomputable def L_check_known_1 : DEnv → M Fl := (sIf (tVal (dOp (dIn true) (dVar 2) (dVar 0)))
  sNever
  sNext)
noncomputable def B_check_known : DEnv → M Fl := (sFor (srcSeq (dVar 1)) (gSet 2) L_check_known_1)
noncomputable def F_check_known : List D → M D := runF 3 B_check_known
noncomputable def E_tables_of_1 : DEnv → M D := (dUn (dFld [0] ("bounds" : Str)) (dVar 1))
noncomputable def B_tables_of : DEnv → M Fl := (sRet (dLc (srcSeq (dUn (dFld [1] ("parts" : Str)) (dVar 0))) (gSet 1) tYesD E_tables_of_1 [1]))
noncomputable def F_tables_of : List D → M D := runF 2 B_tables_of
noncomputable def B_rank : DEnv → M Fl := (sRet (dTup (aCons (dB dSumT (aCons (dVar 0) aNil)) (aCons (dVar 0) aNil))))
noncomputable def F_rank : List D → M D := runF 1 B_rank
noncomputable def L_least_recording_1 : DEnv → M Fl := (sIf (tOrD (tIsN (dVar 1)) (tVal (dOp dLtR (dCall 1 F_rank (aCons (dVar 2) aNil)) (dCall 1 F_rank (aCons (dVar 1) aNil)))))
  (sSet 1 (dVar 2))
  sNext)
noncomputable def B_least_recording : DEnv → M Fl := (sSeq (sSet 1 (dC .non))
  (sSeq (sFor (srcSeq (dVar 0)) (gSet 2) L_least_recording_1)
  (sRet (dVar 1))))
noncomputable def F_least_recording : List D → M D := runF 3 B_least_recording
noncomputable def E_least_numbers_1 : DEnv → M D := (dUn dNeg (dVar 1))
noncomputable def B_least_numbers : DEnv → M Fl := (sRet (dB dTupOf (aCons (dLc (srcSeq (dSl (dOp dIx (dVar 0) (dC (.int (0)))) (oSome (dC (.int 1))) oNone)) (gSet 1) tYesD E_least_numbers_1 [1]) aNil)))
noncomputable def F_least_numbers : List D → M D := runF 2 B_least_numbers
noncomputable def E_least_with_1 : DEnv → M D := (dCall 2 F_narrowed_by (aCons (dVar 3) (aCons (dVar 1) aNil)))
noncomputable def P_least_with_2 : DEnv → M Bool := (tNotN (dVar 3))
noncomputable def E_least_with_3 : DEnv → M D := (dCall 1 F_least_numbers (aCons (dVar 3) aNil))
noncomputable def B_least_with : DEnv → M Fl := (sSeq (sSet 2 (dLc (srcSeq (dVar 0)) (gSet 3) tYesD E_least_with_1 [3]))
  (sRet (dCall 1 F_least_recording (aCons (dLc (srcSeq (dVar 2)) (gSet 3) P_least_with_2 E_least_with_3 [3]) aNil))))
noncomputable def F_least_with : List D → M D := runF 4 B_least_with
noncomputable def E_loosest_1 : DEnv → M D := (dOp dIx (dOp dIx (dVar 10) (dVar 5)) (dVar 6))
noncomputable def B_loosest : DEnv → M Fl := (sSeq (sSet 3 (dUn (dFld [0] ("nodes" : Str)) (dCall 1 F_sheet_in (aCons (dVar 0) aNil))))
  (sSeq (sExpr (dCall 2 F_check_known (aCons (dVar 3) (aCons (dTup (aCons (dVar 1) (aCons (dVar 2) aNil))) aNil))))
  (sSeq (sIf (tVal (dOp (dEq false) (dVar 1) (dVar 2)))
  sNever
  sNext)
  (sSeq (sSet 4 (dCall 1 F_tables_of (aCons (dUn (dFld [2] ("bad" : Str)) (dVar 0)) aNil)))
  (sSeq (sIf (tVal (dOp (dEq false) (dVar 4) (dLst aNil)))
  (sRet (dTup (aCons (dC (.str ("sure" : Str))) aNil)))
  sNext)
  (sSeq (sAsg (dTup (aCons (dCall 2 F_number_of (aCons (dVar 3) (aCons (dVar 1) aNil))) (aCons (dCall 2 F_number_of (aCons (dVar 3) (aCons (dVar 2) aNil))) aNil))) (gTupD 2 (gsCons (gSet 5) (gsCons (gSet 6) gsNil))))
  (sSeq (sSet 7 (dLc (srcSeq (dVar 4)) (gSet 10) tYesD E_loosest_1 [10]))
  (sSeq (sIf (tVal (dOp (dIn false) (dC .non) (dVar 7)))
  (sRet (dTup (aCons (dC (.str ("none" : Str))) aNil)))
  sNext)
  (sSeq (sSet 8 (dB dMaxL (aCons (dVar 7) aNil)))
  (sSeq (sSet 9 (dCall 2 F_least_with (aCons (dCall 1 F_tables_of (aCons (dUn (dFld [2] ("good" : Str)) (dVar 0)) aNil)) (aCons (dLst (aCons (dTup (aCons (dVar 6) (aCons (dVar 5) (aCons (dOp dSub (dUn dNeg (dVar 8)) (dC (.int 1))) aNil)))) aNil)) aNil))))
  (sRet (dTup (aCons (dC (.str ("fact" : Str))) (aCons (dOp dAdd (dVar 8) (dC (.int 1))) (aCons (dCall 2 F_least_with (aCons (dVar 4) (aCons (dLst (aCons (dTup (aCons (dVar 6) (aCons (dVar 5) (aCons (dUn dNeg (dVar 8)) aNil)))) aNil)) aNil))) (aCons (dVar 9) aNil))))))))))))))))
noncomputable def F_loosest : List D → M D := runF 11 B_loosest
noncomputable def KF_loosest_y_finding_x : List D → List D → M D := fun as bs => F_loosest (selG [(false, 1), (false, 2), (false, 0)] as bs)
noncomputable def L__law_pairs_right_1 : DEnv → M Fl := (sIf (tVal (dOp (dEq true) (dVar 5) (dVar 6)))
  (sSeq (sSet 7 (dCall 4 F__law_loosest_due (aCons (dVar 2) (aCons (dVar 3) (aCons (dVar 5) (aCons (dVar 6) aNil))))))
  (sSeq (sSet 8 (dCall 3 F_loosest (aCons (dVar 0) (aCons (dOp dIx (dVar 1) (dVar 5)) (aCons (dOp dIx (dVar 1) (dVar 6)) aNil)))))
  (sSeq (sIf (tVal (dOp (dEq false) (dVar 4) (dC (.int 1))))
  (sSet 8 (dCallK0 KF_loosest_y_finding_x 3 (aCons (dOp dIx (dVar 1) (dVar 6)) (aCons (dVar 0) (aCons (dOp dIx (dVar 1) (dVar 5)) aNil)))))
  sNext)
  (sIf (tNotD (tTru (dCall 2 F__law_kin (aCons (dVar 8) (aCons (dVar 7) aNil)))))
  (sRet (dC (.bl false)))
  sNext))))
  sNext)
noncomputable def L__law_pairs_right_2 : DEnv → M Fl := (sFor (srcA rng1 (aCons (dB dLen (aCons (dVar 1) aNil)) aNil)) (gSet 6) L__law_pairs_right_1)
noncomputable def B__law_pairs_right : DEnv → M Fl := (sSeq (sFor (srcA rng1 (aCons (dB dLen (aCons (dVar 1) aNil)) aNil)) (gSet 5) L__law_pairs_right_2)
  (sRet (dC (.bl true))))
noncomputable def F__law_pairs_right : List D → M D := runF 9 B__law_pairs_right
noncomputable def E_Family_least_1 : DEnv → M D := (dCall 1 F_least_numbers (aCons (dVar 1) aNil))
noncomputable def B_Family_least : DEnv → M Fl := (sRet (dCall 1 F_least_recording (aCons (dLc (srcSeq (dCall 1 F_tables_of (aCons (dVar 0) aNil))) (gSet 1) tYesD E_Family_least_1 [1]) aNil)))
noncomputable def F_Family_least : List D → M D := runF 2 B_Family_least
noncomputable def B_Finding_least_bad : DEnv → M Fl := (sRet (dProp [(1, F_Family_least)] (dUn (dFld [2] ("bad" : Str)) (dVar 0))))
noncomputable def F_Finding_least_bad : List D → M D := runF 1 B_Finding_least_bad
noncomputable def B_Finding_least_good : DEnv → M Fl := (sRet (dProp [(1, F_Family_least)] (dUn (dFld [2] ("good" : Str)) (dVar 0))))
noncomputable def F_Finding_least_good : List D → M D := runF 1 B_Finding_least_good
noncomputable def E_law_1 : DEnv → M D := (dMake 0 true 3 (MF_Sheet_3) (aCons (dVar 3) (aCons (dVar 4) (aCons (dVar 17) aNil))))
noncomputable def L_law_2 : DEnv → M Fl := (sIf (tNotD (tTru (dCall 5 F__law_pairs_right (aCons (dVar 14) (aCons (dOp dAdd (dTup (aCons (dC (.str ("zero" : Str))) aNil)) (dVar 3)) (aCons (dVar 9) (aCons (dVar 10) (aCons (dVar 16) aNil))))))))
  (sRet (dC (.bl false)))
  sNext)
noncomputable def L_law_3 : DEnv → M Fl := (sSeq (sSet 2 (dCall 2 F__law_pit (aCons (dVar 0) (aCons (dVar 1) aNil))))
  (sSeq (sSet 3 (dCall 2 F__law_call_names (aCons (dVar 2) (aCons (dOp dAdd (dC (.int 1)) (dCall 2 F__law_hoist (aCons (dVar 2) (aCons (dC (.int 3)) aNil)))) aNil))))
  (sSeq (sSet 4 (dSl (dVar 3) oNone (oSome (dCall 2 F__law_hoist (aCons (dVar 2) (aCons (dC (.int 2)) aNil))))))
  (sSeq (sSet 5 (dCall 5 F__law_split (aCons (dVar 2) (aCons (dVar 3) (aCons (dCall 2 F__law_caps (aCons (dVar 3) (aCons (dC (.int 4)) aNil))) (aCons (dCall 2 F__law_hoist (aCons (dVar 2) (aCons (dC (.int 5)) aNil))) (aCons (dC (.int 5)) aNil)))))))
  (sSeq (sAsg (dCall 2 F__law_two_sides (aCons (dVar 2) (aCons (dVar 5) aNil))) (gTupD 2 (gsCons (gSet 6) (gsCons (gSet 7) gsNil))))
  (sSeq (sPar 6 7 (aCons (dCall 3 F__law_doubled (aCons (dVar 2) (aCons (dVar 3) (aCons (dVar 6) aNil)))) (aCons (dCall 3 F__law_doubled (aCons (dVar 2) (aCons (dVar 3) (aCons (dVar 7) aNil)))) aNil)))
  (sSeq (sSet 8 (dCall 2 F__law_all_recordings (aCons (dB dLen (aCons (dVar 3) aNil)) (aCons (dC (.int 4)) aNil))))
  (sSeq (sSet 9 (dCall 3 F__law_in_parts (aCons (dVar 3) (aCons (dVar 6) (aCons (dVar 8) aNil)))))
  (sSeq (sSet 10 (dCall 3 F__law_in_parts (aCons (dVar 3) (aCons (dVar 7) (aCons (dVar 8) aNil)))))
  (sSeq (sSet 11 (dCall 3 F__law_family (aCons (dVar 3) (aCons (dVar 4) (aCons (dVar 6) aNil)))))
  (sSeq (sSet 12 (dCall 3 F__law_family (aCons (dVar 3) (aCons (dVar 4) (aCons (dVar 7) aNil)))))
  (sSeq (sIf (tVal (dOp (dEq false) (dB dLen (aCons (dVar 6) aNil)) (dC (.int 2))))
  (sSeq (sSet 13 (dLc (srcSeq (dVar 6)) (gSet 17) tYesD E_law_1 [17]))
  (sSet 11 (dMakeS 1 true F_Family___init__ (aCons (dOp dIx (dVar 13) (dC (.int 0))) (aCons (dOp dIx (dVar 13) (dC (.int 1))) aNil)))))
  sNext)
  (sSeq (sSet 14 (dMake 2 true 2 (MF_Finding_2) (aCons (dVar 11) (aCons (dVar 12) aNil))))
  (sSeq (sSet 15 (dLst (aCons (dIf (tVal (dOp (dEq false) (dVar 9) (dLst aNil))) (dC (.str ("sure" : Str))) (dIf (tVal (dOp (dEq false) (dVar 10) (dLst aNil))) (dC (.str ("never" : Str))) (dC (.str ("open" : Str))))) (aCons (dOp (dEq false) (dVar 9) (dLst aNil)) aNil))))
  (sSeq (sIf (tNotD (tTru (dCall 2 F__law_kin (aCons (dLst (aCons (dProp [(2, F_Finding_state)] (dVar 14)) (aCons (dB (one (dBoolO [(2, F_Finding___bool__)])) (aCons (dVar 14) aNil)) aNil))) (aCons (dVar 15) aNil)))))
  (sRet (dC (.bl false)))
  sNext)
  (sSeq (sFor (srcA rng1 (aCons (dC (.int 2)) aNil)) (gSet 16) L_law_2)
  (sIf (tNotD (tTru (dCall 2 F__law_kin (aCons (dLst (aCons (dProp [(2, F_Finding_least_bad)] (dVar 14)) (aCons (dProp [(2, F_Finding_least_good)] (dVar 14)) aNil))) (aCons (dLst (aCons (dCall 1 F__law_first_of (aCons (dVar 9) aNil)) (aCons (dCall 1 F__law_first_of (aCons (dVar 10) aNil)) aNil))) aNil)))))
  (sRet (dC (.bl false)))
  sNext)))))))))))))))))
noncomputable def B_law : DEnv → M Fl := (sSeq (sFor (srcA rng1 (aCons (dB dMax2 (aCons (dC (.int 1)) (aCons (dB dMin2 (aCons (dC (.int 2)) (aCons (dB dLen (aCons (dVar 0) aNil)) aNil))) aNil))) aNil)) (gSet 1) L_law_3)
  (sRet (dC (.bl true))))
noncomputable def F_law : List D → M D := runF 18 B_law
end K36

namespace DD
open PySem PySem.Spec PyProof.Rows L2
def oi : Option Int → D
  | none => .non
  | some i => .int i
theorem nr {α : Type} {a b : α} (h : a = b) : a = b := h
@[simp] theorem bind_r {α β : Type} {m : M α} {k : α → M β} {S : Sto} : (m >>= k) S = (match m S with
  | .ok a S' => k a S'
  | .exc c fs S' => .exc c fs S'
  | .bad => .bad) := nr (M.bind_run m k S)
@[simp] theorem pure_r {α : Type} {a : α} {S : Sto} : (Pure.pure a : M α) S = .ok a S := nr rfl
@[simp] theorem get_some {α : Type} {f : Sto → Option α} {S : Sto} {a : α} (h : f S = some a) : M.get f S = .ok a S := by
  unfold M.get
  rw [h]
@[simp] theorem dVar_run {i : Nat} {ρ : DEnv} {S : Sto} : dVar i ρ S = M.get (fun _ => (ρ[i]?).join) S := nr rfl
theorem getc_some {α : Type} {o : Option α} {S : Sto} {a : α} (h : o = some a) : M.get (fun _ => o) S = .ok a S := get_some h
@[simp] theorem getc {α : Type} {S : Sto} {a : α} : M.get (fun _ => some a) S = .ok a S := nr rfl
@[simp] theorem dC_run {d : D} {ρ : DEnv} {S : Sto} : dC d ρ S = .ok d S := nr rfl
@[simp] theorem need_run {c : Prop} [Decidable c] {S : Sto} : M.need c S = if c then .ok () S else .bad := nr rfl
section
variable {ρ : DEnv} {S : Sto} {fa fb fc f : DEnv → M D} {t u : DEnv → M Bool} {fs r : DEnv → M (List D)} {op op' : D → D → M D} {o : D → M D} {sa sb : DEnv → M Fl} {F : List D → M D}
@[simp] theorem dOp_run : dOp op fa fb ρ S = (fa ρ >>= fun x => fb ρ >>= fun y => op x y) S := nr rfl
@[simp] theorem dUn_run : dUn o fa ρ S = (fa ρ >>= o) S := nr rfl
@[simp] theorem dChain_run : dChain op op' fa fb fc ρ S = (fa ρ >>= fun x => fb ρ >>= fun y => op x y >>= fun r => toB r >>= fun b => if b then (fc ρ >>= fun z => op' y z) else pure (.bl false)) S := nr rfl
@[simp] theorem dAnd_run : dAnd fa fb ρ S = (fa ρ >>= fun x => toB x >>= fun b => if b then fb ρ else pure (.bl false)) S := nr rfl
@[simp] theorem dOr_run : dOr fa fb ρ S = (fa ρ >>= fun x => toB x >>= fun b => if b then pure (.bl true) else fb ρ) S := nr rfl
@[simp] theorem dNot_run : dNot fa ρ S = (fa ρ >>= fun x => toB x >>= fun b => pure (.bl !b)) S := nr rfl
@[simp] theorem dIf_run : dIf t fa fb ρ S = (t ρ >>= fun b => if b then fa ρ else fb ρ) S := nr rfl
@[simp] theorem tVal_run : tVal fa ρ S = (fa ρ >>= toB) S := nr rfl
@[simp] theorem tTru_run : tTru fa ρ S = (fa ρ >>= truD) S := nr rfl
@[simp] theorem tAndD_run : tAndD t u ρ S = (t ρ >>= fun x => if x then u ρ else pure false) S := nr rfl
@[simp] theorem tOrD_run : tOrD t u ρ S = (t ρ >>= fun x => if x then pure true else u ρ) S := nr rfl
@[simp] theorem tNotD_run : tNotD t ρ S = (t ρ >>= fun x => pure !x) S := nr rfl
@[simp] theorem tIsN_run : tIsN f ρ S = (f ρ >>= fun d => pure (isNon d)) S := nr rfl
@[simp] theorem tNotN_run : tNotN f ρ S = (f ρ >>= fun d => pure !(isNon d)) S := nr rfl
@[simp] theorem tYes_run : tYesD ρ S = .ok true S := nr rfl
@[simp] theorem isN1_run {d : D} : isN1 d S = .ok (.bl (isNon d)) S := nr rfl
@[simp] theorem notN1_run {d : D} : notN1 d S = .ok (.bl !(isNon d)) S := nr rfl
@[simp] theorem aNil_run : aNil ρ S = .ok [] S := nr rfl
@[simp] theorem aCons_run : aCons f r ρ S = (f ρ >>= fun x => r ρ >>= fun xs => pure (x :: xs)) S := nr rfl
@[simp] theorem aStar_run : aStar f r ρ S = (f ρ >>= fun x => seqA x >>= fun xs => r ρ >>= fun ys => pure (xs ++ ys)) S := nr rfl
@[simp] theorem dTup_run : dTup fs ρ S = (fs ρ >>= fun xs => M.need (xs.length ≤ sizeLine) >>= fun _ => pure (.tup xs)) S := nr rfl
@[simp] theorem dLst_run : dLst fs ρ S = (fs ρ >>= fun xs => M.need (xs.length ≤ sizeLine) >>= fun _ => pure (.lst xs)) S := nr rfl
@[simp] theorem dLstC_run : dLstC fs ρ S = (fs ρ >>= fun xs => M.need (xs.length ≤ sizeLine) >>= fun _ => newCell xs) S := nr rfl
@[simp] theorem newCell_run {xs : List D} : newCell xs S = .ok (.cell S.length) (S ++ [some (.lst xs)]) := nr rfl
@[simp] theorem dB_run : dB F fs ρ S = (fs ρ >>= F) S := nr rfl
@[simp] theorem dCall_run {n : Nat} : dCall n F fs ρ S = (fs ρ >>= fun ds => M.need (ds.length = n) >>= fun _ => F ds) S := nr rfl
@[simp] theorem sNext_run : sNext ρ S = .ok (.nx ρ) S := nr rfl
@[simp] theorem sBreak_run : sBreak ρ S = .ok (.bk ρ) S := nr rfl
@[simp] theorem sCont_run : sCont ρ S = .ok (.ct ρ) S := nr rfl
@[simp] theorem sRetN_run : sRetN ρ S = .ok (.rt .non) S := nr rfl
@[simp] theorem sSeq_run : sSeq sa sb ρ S = (sa ρ >>= fun fl => thenS fl sb) S := nr rfl
@[simp] theorem thenS_nx {ρ' : DEnv} : thenS (.nx ρ') sb S = sb ρ' S := nr rfl
@[simp] theorem thenS_rt {d : D} : thenS (.rt d) sb S = .ok (.rt d) S := nr rfl
@[simp] theorem cat_run {α : Type} {m : M α} {k : α → M Fl} : M.cat m ρ k S = (match m S with | .ok a S' => k a S' | .exc c fs S' => .ok (.xc c fs ρ) S' | .bad => .bad) := nr rfl
@[simp] theorem sRet_run : sRet f ρ S = M.cat (f ρ) ρ (fun d => pure (.rt d)) S := nr rfl
@[simp] theorem sExpr_run : sExpr f ρ S = M.cat (f ρ) ρ (fun _ => pure (.nx ρ)) S := nr rfl
@[simp] theorem sIf_run : sIf t sa sb ρ S = M.cat (t ρ) ρ (fun c => if c then sa ρ else sb ρ) S := nr rfl
@[simp] theorem sSet_run {i : Nat} : sSet i f ρ S = M.cat (f ρ) ρ (fun d => pure (.nx (ρ.set i (some d)))) S := nr rfl
@[simp] theorem sAsg_run {k : D → DEnv → M DEnv} : sAsg f k ρ S = M.cat (f ρ) ρ (fun d => k d ρ >>= fun ρ' => pure (.nx ρ')) S := nr rfl
@[simp] theorem sPar_run {i j : Nat} : sPar i j fs ρ S = M.cat (fs ρ) ρ (fun ds => match ds with
  | [a, b] => pure (.nx ((ρ.set i (some a)).set j (some b)))
  | _ => M.bad) S := nr rfl
@[simp] theorem sPar3_run {i j l : Nat} : sPar3 i j l fs ρ S = M.cat (fs ρ) ρ (fun ds => match ds with
  | [a, b, c] => pure (.nx (((ρ.set i (some a)).set j (some b)).set l (some c)))
  | _ => M.bad) S := nr rfl
@[simp] theorem gSet_run {i : Nat} {d : D} : gSet i d ρ S = .ok (ρ.set i (some d)) S := nr rfl
@[simp] theorem gsNil_run : gsNil [] ρ S = .ok ρ S := nr rfl
@[simp] theorem gsCons_run {g : D → DEnv → M DEnv} {gs : List D → DEnv → M DEnv} {d : D} {ds : List D} : gsCons g gs (d :: ds) ρ S = (g d ρ >>= fun ρ' => gs ds ρ') S := nr rfl
@[simp] theorem gTup_run {n : Nat} {gs : List D → DEnv → M DEnv} {ds : List D} : gTupD n gs (.tup ds) ρ S = (M.need (ds.length = n) >>= fun _ => gs ds ρ) S := nr rfl
@[simp] theorem gSub_run {v : D} : gSubD fa fb v ρ S = (fa ρ >>= fun o => fb ρ >>= fun i => setIx o i v >>= fun _ => pure ρ) S := nr rfl
@[simp] theorem sFor_run {src : DEnv → M Src} {tg : D → DEnv → M DEnv} {body : DEnv → M Fl} : sFor src tg body ρ S = M.cat (src ρ) ρ (fun s => dFor s.2 tg body s.1 ρ) S := nr rfl
@[simp] theorem srcA_run {G : List D → M Src} : srcA G fs ρ S = (fs ρ >>= G) S := nr rfl
@[simp] theorem srcSeq_run : srcSeq f ρ S = (f ρ >>= srcOf) S := nr rfl
@[simp] theorem srcStr_run : srcStr f ρ S = (f ρ >>= fun d => toS d >>= fun x => pure (signsD x, none)) S := nr rfl
@[simp] theorem dLc_run {src : DEnv → M Src} {tg : D → DEnv → M DEnv} {vs : List Nat} : dLc src tg t f vs ρ S = (src ρ >>= fun s => M.nx (dLcGo s.2 tg t f (wipeD ρ vs) s.1 []) >>= fun ys => pure (.lst ys)) S := nr rfl
@[simp] theorem dLcC_run {src : DEnv → M Src} {tg : D → DEnv → M DEnv} {vs : List Nat} : dLcC src tg t f vs ρ S = (src ρ >>= fun s => M.nx (dLcGo s.2 tg t f (wipeD ρ vs) s.1 []) >>= fun ys => newCell ys) S := nr rfl
@[simp] theorem nx_run {α : Type} {m : M α} : M.nx m S = (match m S with | .ok a S' => .ok a S' | _ => .bad) := nr rfl
@[simp] theorem oNone_run : oNone ρ S = .ok none S := nr rfl
@[simp] theorem oSome_int {i : Int} (h : f ρ S = .ok (.int i) S) : oSome f ρ S = .ok (some i) S := by
  unfold oSome
  rw [M.bind_run, h]
  rfl
@[simp] theorem dSl_run {l h : DEnv → M (Option Int)} : dSl f l h ρ S = (f ρ >>= fun x => l ρ >>= fun a => h ρ >>= fun b => dSlice x a b) S := nr rfl
@[simp] theorem one_run {x : D} : one o [x] S = o x S := nr rfl
theorem runF_run {n : Nat} {fb : DEnv → M Fl} {ds : List D} {S' : Sto} {fl : Fl} (h : fb (startD n ds) S = .ok fl S') : runF n fb ds S = finD fl S' := by
  unfold runF
  rw [M.bind_run, nx_run, h]
@[simp] theorem runF_run' {n : Nat} {fb : DEnv → M Fl} {ds : List D} : runF n fb ds S = (M.nx (fb (startD n ds)) >>= finD) S := nr rfl
@[simp] theorem finD_nx {ρ' : DEnv} : finD (.nx ρ') S = .ok .non S := nr rfl
@[simp] theorem finD_rt {d : D} : finD (.rt d) S = .ok d S := nr rfl
@[simp] theorem toB_bl {b : Bool} : toB (.bl b) S = .ok b S := nr rfl
@[simp] theorem toS_str {x : Str} : toS (.str x) S = .ok x S := nr rfl
@[simp] theorem seqA_lst {xs : List D} : seqA (.lst xs) S = .ok xs S := nr rfl
@[simp] theorem seqA_tup {xs : List D} : seqA (.tup xs) S = .ok xs S := nr rfl
@[simp] theorem seqA_rol {xs : List D} : seqA (.rol xs) S = .ok xs S := nr rfl
@[simp] theorem seqL_lst {xs : List D} : seqL (.lst xs) S = .ok xs S := nr rfl
theorem seqA_cell {n : Nat} {xs : List D} (h : cellL n S = some xs) : seqA (.cell n) S = .ok xs S := get_some h
@[simp] theorem srcOf_lst {xs : List D} : srcOf (.lst xs) S = .ok (xs, none) S := nr rfl
@[simp] theorem srcOf_tup {xs : List D} : srcOf (.tup xs) S = .ok (xs, none) S := nr rfl
@[simp] theorem srcOf_rol {xs : List D} : srcOf (.rol xs) S = .ok (xs, none) S := nr rfl
@[simp] theorem add_int {i j : Int} : dAdd (.int i) (.int j) S = .ok (.int (i + j)) S := nr rfl
theorem add_lst {xs ys : List D} (h : xs.length + ys.length ≤ sizeLine) : dAdd (.lst xs) (.lst ys) S = .ok (.lst (xs ++ ys)) S := by
  show (M.need (xs.length + ys.length ≤ sizeLine) >>= fun _ => pure (.lst (xs ++ ys)) : M D) S = _
  rw [M.bind_run, need_run, if_pos h]
  rfl
theorem add_tup {xs ys : List D} (h : xs.length + ys.length ≤ sizeLine) : dAdd (.tup xs) (.tup ys) S = .ok (.tup (xs ++ ys)) S := by
  show (M.need (xs.length + ys.length ≤ sizeLine) >>= fun _ => pure (.tup (xs ++ ys)) : M D) S = _
  rw [M.bind_run, need_run, if_pos h]
  rfl
@[simp] theorem sub_int {i j : Int} : dSub (.int i) (.int j) S = .ok (.int (i - j)) S := nr rfl
@[simp] theorem lt_int {i j : Int} : dLt (.int i) (.int j) S = .ok (.bl (decide (i < j))) S := nr rfl
@[simp] theorem le_int {i j : Int} : dLe (.int i) (.int j) S = .ok (.bl (decide (i ≤ j))) S := nr rfl
@[simp] theorem gt_int {i j : Int} : dGt (.int i) (.int j) S = .ok (.bl (decide (j < i))) S := nr rfl
@[simp] theorem ge_int {i j : Int} : dGe (.int i) (.int j) S = .ok (.bl (decide (j ≤ i))) S := nr rfl
@[simp] theorem neg_int {i : Int} : dNeg (.int i) S = .ok (.int (-i)) S := nr rfl
@[simp] theorem tru_bl {b : Bool} : truD (.bl b) S = .ok b S := nr rfl
theorem rng1_eq (j : Int) : rng1 [.int j] = (M.want (-4611686018427387904 ≤ j ∧ j < 4611686018427387904) >>= fun _ => pure (intsD 0 j.toNat, none)) := rfl
theorem rng2_eq (i j : Int) : rng2 [.int i, .int j] = (M.want (-4611686018427387904 ≤ i ∧ i < 4611686018427387904 ∧ -4611686018427387904 ≤ j ∧ j < 4611686018427387904) >>= fun _ => pure (intsD i (j - i).toNat, none)) := rfl
theorem want_ok {c : Prop} {α : Type} {k : Unit → M α} (h : c) : (M.want c >>= k) S = k () S := by
  rw [M.bind_run]
  unfold M.want
  rw [if_pos h]
theorem need_ok {c : Prop} [Decidable c] {α : Type} {k : Unit → M α} (h : c) : (M.need c >>= k) S = k () S := by
  rw [M.bind_run, need_run, if_pos h]
theorem rng1_run {n : Nat} (h : n ≤ 1000) : rng1 [.int (n : Int)] S = .ok ((List.range n).map fun i : Nat => D.int (i : Int), none) S := by
  rw [rng1_eq, want_ok (by omega), Int.toNat_natCast]
  show Out.ok (intsD 0 n, none) S = _
  unfold intsD
  simp
end
end DD
namespace K36
open PySem PySem.Spec PyProof.Rows L2 DD
def osum : Option Int → Option Int → Option Int
  | some a, some b => some (a + b)
  | _, _ => none
def olt : Option Int → Option Int → Bool
  | some a, some b => decide (a < b)
  | some _, none => true
  | none, _ => false
def omin : Option Int → Option Int → Option Int
  | none, b => b
  | a, none => a
  | some a, some b => some (if b < a then b else a)
theorem f_summed (a b : Option Int) (S : Sto) : F_summed [oi a, oi b] S = .ok (oi (osum a b)) S := by
  cases a <;> cases b <;> simp [F_summed, B_summed, oi, osum, dAdd]
theorem f_lesser (a b : Option Int) (S : Sto) : F_lesser [oi a, oi b] S = .ok (oi (omin a b)) S := by
  cases a <;> cases b <;> simp [F_lesser, B_lesser, oi, omin]
theorem f_is_less (a b : Option Int) (S : Sto) : F_is_less [oi a, oi b] S = .ok (.bl (olt a b)) S := by
  cases a <;> cases b <;> simp [F_is_less, B_is_less, oi, olt]
end K36
namespace DD
open PySem PySem.Spec PyProof.Rows L2
theorem atI_nat {α : Type} {xs : List α} {i : Nat} {a : α} (h : xs[i]? = some a) : atI xs (i : Int) = some a := by
  have hl := (List.getElem?_eq_some_iff.mp h).1
  unfold atI ixN
  rw [if_pos (Int.natCast_nonneg i), if_pos (by omega)]
  simpa using h
theorem ix_tup {xs : List D} {i : Nat} {d : D} {S : Sto} (h : xs[i]? = some d) : dIx (.tup xs) (.int (i : Int)) S = .ok d S := by
  simp [dIx, dIxI, seqA, atI_nat h]
theorem ix_lst {xs : List D} {i : Nat} {d : D} {S : Sto} (h : xs[i]? = some d) : dIx (.lst xs) (.int (i : Int)) S = .ok d S := by
  simp [dIx, dIxI, seqA, atI_nat h]

theorem cell_put {p : Nat} {c : Cell} {S : Sto} (h : p < S.length) : (S.set p (some c))[p]? = some (some c) := List.getElem?_set_self h
/-! ### loops -/
theorem for_ev {tg : D → DEnv → M DEnv} {body : DEnv → M Fl} (I : Nat → DEnv → Sto → Prop) : ∀ (xs : List D) (k : Nat) (ρ : DEnv) (S : Sto), I k ρ S →
    (∀ i x ρ S, xs[i]? = some x → I (k + i) ρ S → ∃ ρ1 S1 ρ2 S2, tg x ρ S = .ok ρ1 S1 ∧ body ρ1 S1 = .ok (.nx ρ2) S2 ∧ I (k + i + 1) ρ2 S2) →
    ∃ ρ' S', dFor none tg body xs ρ S = .ok (.nx ρ') S' ∧ I (k + xs.length) ρ' S'
  | [], k, ρ, S, h, _ => ⟨ρ, S, by simp [dFor, chk_none], h⟩
  | x :: xs, k, ρ, S, h, step => by
    obtain ⟨ρ1, S1, ρ2, S2, e1, e2, h2⟩ := step 0 x ρ S rfl h
    obtain ⟨ρ', S', e3, h3⟩ := for_ev I xs (k + 1) ρ2 S2 h2 (fun i y ρ S hy hI => by
      have := step (i + 1) y ρ S (by simpa using hy) (by rw [show k + (i + 1) = k + 1 + i by omega]; exact hI)
      rw [show k + (i + 1) + 1 = k + 1 + i + 1 by omega] at this
      exact this)
    refine ⟨ρ', S', ?_, by rw [List.length_cons, show k + (xs.length + 1) = k + 1 + xs.length by omega]; exact h3⟩
    simp [dFor, chk_none, e1, e2, loopS, e3]
theorem lc_ev {tg : D → DEnv → M DEnv} {tt : DEnv → M Bool} {te : DEnv → M D} {ρ : DEnv} (I : Nat → List D → Sto → Prop) : ∀ (xs : List D) (k : Nat) (acc : List D) (S : Sto), I k acc S → acc.length ≤ k → k + xs.length ≤ sizeLine →
    (∀ i x acc S, xs[i]? = some x → I (k + i) acc S → ∃ ρ1 S1 b S2, tg x ρ S = .ok ρ1 S1 ∧ tt ρ1 S1 = .ok b S2 ∧ (if b = true then ∃ y S3, te ρ1 S2 = .ok y S3 ∧ I (k + i + 1) (acc ++ [y]) S3 else I (k + i + 1) acc S2)) →
    ∃ ys S', dLcGo none tg tt te ρ xs acc S = .ok ys S' ∧ I (k + xs.length) ys S'
  | [], k, acc, S, h, _, _, _ => ⟨acc, S, by simp [dLcGo, chk_none], h⟩
  | x :: xs, k, acc, S, h, hl, hz, step => by
    obtain ⟨ρ1, S1, b, S2, e1, e2, h2⟩ := step 0 x acc S rfl h
    rw [List.length_cons] at hz
    have step' : ∀ i y acc S, xs[i]? = some y → I (k + 1 + i) acc S → ∃ ρ1 S1 b S2, tg y ρ S = .ok ρ1 S1 ∧ tt ρ1 S1 = .ok b S2 ∧ (if b = true then ∃ y S3, te ρ1 S2 = .ok y S3 ∧ I (k + 1 + i + 1) (acc ++ [y]) S3 else I (k + 1 + i + 1) acc S2) := fun i y acc S hy hI => by
      have := step (i + 1) y acc S (by simpa using hy) (by rw [show k + (i + 1) = k + 1 + i by omega]; exact hI)
      rw [show k + (i + 1) + 1 = k + 1 + i + 1 by omega] at this
      exact this
    cases b with
    | true =>
      simp only [if_true] at h2
      obtain ⟨y, S3, e3, h3⟩ := h2
      obtain ⟨ys, S', e4, h4⟩ := lc_ev I xs (k + 1) (acc ++ [y]) S3 h3 (by simp; omega) (by omega) step'
      refine ⟨ys, S', ?_, by rw [List.length_cons, show k + (xs.length + 1) = k + 1 + xs.length by omega]; exact h4⟩
      have hn : acc.length < sizeLine := by omega
      simp [dLcGo, chk_none, e1, e2, e3, hn, e4]
    | false =>
      simp only [Bool.false_eq_true, if_false] at h2
      obtain ⟨ys, S', e4, h4⟩ := lc_ev I xs (k + 1) acc S2 h2 (by omega) (by omega) step'
      refine ⟨ys, S', ?_, by rw [List.length_cons, show k + (xs.length + 1) = k + 1 + xs.length by omega]; exact h4⟩
      simp [dLcGo, chk_none, e1, e2, e4]
/-- nothing changes, each item is taken -/
theorem lc_map {tg : D → DEnv → M DEnv} {te : DEnv → M D} {ρ : DEnv} {S : Sto} (f : D → D) : ∀ (xs acc : List D), acc.length + xs.length ≤ sizeLine → (∀ x ∈ xs, ∃ ρ1, tg x ρ S = .ok ρ1 S ∧ te ρ1 S = .ok (f x) S) →
    dLcGo none tg tYesD te ρ xs acc S = .ok (acc ++ xs.map f) S
  | [], acc, _, _ => by simp [dLcGo, chk_none]
  | x :: xs, acc, hz, h => by
    obtain ⟨ρ1, e1, e2⟩ := h x List.mem_cons_self
    rw [List.length_cons] at hz
    have ih := lc_map f xs (acc ++ [f x]) (by simp; omega) fun y hy => h y (List.mem_cons_of_mem _ hy)
    have hn : acc.length < sizeLine := by omega
    simp [dLcGo, chk_none, e1, e2, tYesD, hn, ih]
/-- nothing changes, some items are taken -/
theorem lc_filter {tg : D → DEnv → M DEnv} {tt : DEnv → M Bool} {te : DEnv → M D} {ρ : DEnv} {S : Sto} (f : D → D) (p : D → Bool) : ∀ (xs acc : List D), acc.length + xs.length ≤ sizeLine → (∀ x ∈ xs, ∃ ρ1, tg x ρ S = .ok ρ1 S ∧ tt ρ1 S = .ok (p x) S ∧ (p x = true → te ρ1 S = .ok (f x) S)) →
    dLcGo none tg tt te ρ xs acc S = .ok (acc ++ (xs.filter p).map f) S
  | [], acc, _, _ => by simp [dLcGo, chk_none]
  | x :: xs, acc, hz, h => by
    obtain ⟨ρ1, e1, e2, e3⟩ := h x List.mem_cons_self
    rw [List.length_cons] at hz
    have hn : acc.length < sizeLine := by omega
    cases hp : p x with
    | true =>
      have ih := lc_filter f p xs (acc ++ [f x]) (by simp; omega) fun y hy => h y (List.mem_cons_of_mem _ hy)
      rw [hp] at e2
      simp [dLcGo, chk_none, e1, e2, e3 hp, hn, ih, hp]
    | false =>
      have ih := lc_filter f p xs acc (by omega) fun y hy => h y (List.mem_cons_of_mem _ hy)
      rw [hp] at e2
      simp [dLcGo, chk_none, e1, e2, ih, hp]
theorem intsD_eq (n : Nat) : intsD 0 n = (List.range n).map fun i : Nat => D.int (i : Int) := by
  unfold intsD
  simp
theorem for_ev0 {tg : D → DEnv → M DEnv} {body : DEnv → M Fl} (I : Nat → DEnv → Sto → Prop) (xs : List D) (ρ : DEnv) (S : Sto) (h : I 0 ρ S)
    (step : ∀ i x ρ S, xs[i]? = some x → I i ρ S → ∃ ρ1 S1 ρ2 S2, tg x ρ S = .ok ρ1 S1 ∧ body ρ1 S1 = .ok (.nx ρ2) S2 ∧ I (i + 1) ρ2 S2) : ∃ ρ' S', dFor none tg body xs ρ S = .ok (.nx ρ') S' ∧ I xs.length ρ' S' := by
  have := for_ev (tg := tg) (body := body) I xs 0 ρ S h (fun i x ρ S hx hI => by
    rw [Nat.zero_add] at hI ⊢
    exact step i x ρ S hx hI)
  rwa [Nat.zero_add] at this
theorem lc_ev0 {tg : D → DEnv → M DEnv} {tt : DEnv → M Bool} {te : DEnv → M D} {ρ : DEnv} (I : Nat → List D → Sto → Prop) (xs : List D) (S : Sto) (h : I 0 [] S) (hz : xs.length ≤ sizeLine)
    (step : ∀ i x acc S, xs[i]? = some x → I i acc S → ∃ ρ1 S1 b S2, tg x ρ S = .ok ρ1 S1 ∧ tt ρ1 S1 = .ok b S2 ∧ (if b = true then ∃ y S3, te ρ1 S2 = .ok y S3 ∧ I (i + 1) (acc ++ [y]) S3 else I (i + 1) acc S2)) :
    ∃ ys S', dLcGo none tg tt te ρ xs [] S = .ok ys S' ∧ I xs.length ys S' := by
  have := lc_ev (tg := tg) (tt := tt) (te := te) (ρ := ρ) I xs 0 [] S h (Nat.le_refl _) (by omega) (fun i x acc S hx hI => by
    rw [Nat.zero_add] at hI ⊢
    exact step i x acc S hx hI)
  rwa [Nat.zero_add] at this
/-- the i-th of a range -/
theorem range_at {α : Type} {f : Nat → α} {n i : Nat} {x : α} (h : ((List.range n).map f)[i]? = some x) : i < n ∧ x = f i := by
  rw [List.getElem?_map] at h
  by_cases hi : i < n
  · simp [hi] at h
    exact ⟨hi, h.symm⟩
  · simp [hi] at h
theorem map_at {α β : Type} {f : α → β} {l : List α} {i : Nat} {x : β} (h : (l.map f)[i]? = some x) : ∃ a, l[i]? = some a ∧ x = f a := by
  rw [List.getElem?_map] at h
  cases e : l[i]? with
  | none => rw [e] at h; cases h
  | some a => rw [e] at h; exact ⟨a, rfl, (Option.some.inj h).symm⟩
theorem zip_map {α : Type} (f g : α → D) : ∀ l : List α, zipD (l.map f) (l.map g) = l.map fun a => .tup [f a, g a]
  | [] => rfl
  | a :: l => by
    show D.tup [f a, g a] :: zipD (l.map f) (l.map g) = _
    rw [zip_map f g l]
    rfl
/-- as lc_map, lc_filter, by what stands behind the data -/
theorem lc_mapi {ι : Type} {tg : D → DEnv → M DEnv} {te : DEnv → M D} {ρ : DEnv} {S : Sto} (s f : ι → D) : ∀ (l : List ι) (acc : List D), acc.length + l.length ≤ sizeLine → (∀ a ∈ l, ∃ ρ1, tg (s a) ρ S = .ok ρ1 S ∧ te ρ1 S = .ok (f a) S) →
    dLcGo none tg tYesD te ρ (l.map s) acc S = .ok (acc ++ l.map f) S
  | [], acc, _, _ => by simp [dLcGo, chk_none]
  | x :: xs, acc, hz, h => by
    obtain ⟨ρ1, e1, e2⟩ := h x List.mem_cons_self
    rw [List.length_cons] at hz
    have ih := lc_mapi s f xs (acc ++ [f x]) (by simp; omega) fun y hy => h y (List.mem_cons_of_mem _ hy)
    have hn : acc.length < sizeLine := by omega
    simp [dLcGo, chk_none, e1, e2, hn, ih]
theorem lc_filteri {ι : Type} {tg : D → DEnv → M DEnv} {tt : DEnv → M Bool} {te : DEnv → M D} {ρ : DEnv} {S : Sto} (s f : ι → D) (p : ι → Bool) : ∀ (l : List ι) (acc : List D), acc.length + l.length ≤ sizeLine → (∀ x ∈ l, ∃ ρ1, tg (s x) ρ S = .ok ρ1 S ∧ tt ρ1 S = .ok (p x) S ∧ (p x = true → te ρ1 S = .ok (f x) S)) →
    dLcGo none tg tt te ρ (l.map s) acc S = .ok (acc ++ (l.filter p).map f) S
  | [], acc, _, _ => by simp [dLcGo, chk_none]
  | x :: xs, acc, hz, h => by
    obtain ⟨ρ1, e1, e2, e3⟩ := h x List.mem_cons_self
    rw [List.length_cons] at hz
    have hn : acc.length < sizeLine := by omega
    cases hp : p x with
    | true =>
      have ih := lc_filteri s f p xs (acc ++ [f x]) (by simp; omega) fun y hy => h y (List.mem_cons_of_mem _ hy)
      rw [hp] at e2
      simp [dLcGo, chk_none, e1, e2, e3 hp, hn, ih, hp]
    | false =>
      have ih := lc_filteri s f p xs acc (by omega) fun y hy => h y (List.mem_cons_of_mem _ hy)
      rw [hp] at e2
      simp [dLcGo, chk_none, e1, e2, ih, hp]
theorem for_evi {ι : Type} {tg : D → DEnv → M DEnv} {body : DEnv → M Fl} (s : ι → D) (I : Nat → DEnv → Sto → Prop) (l : List ι) (ρ : DEnv) (S : Sto) (h : I 0 ρ S)
    (step : ∀ i a ρ S, l[i]? = some a → I i ρ S → ∃ ρ1 S1 ρ2 S2, tg (s a) ρ S = .ok ρ1 S1 ∧ body ρ1 S1 = .ok (.nx ρ2) S2 ∧ I (i + 1) ρ2 S2) : ∃ ρ' S', dFor none tg body (l.map s) ρ S = .ok (.nx ρ') S' ∧ I l.length ρ' S' := by
  have := for_ev0 (tg := tg) (body := body) I (l.map s) ρ S h (fun i x ρ S hx hI => by
    obtain ⟨a, ha, rfl⟩ := map_at hx
    exact step i a ρ S ha hI)
  rwa [List.length_map] at this
theorem lc_evi {ι : Type} {tg : D → DEnv → M DEnv} {tt : DEnv → M Bool} {te : DEnv → M D} {ρ : DEnv} (s : ι → D) (I : Nat → List D → Sto → Prop) (l : List ι) (S : Sto) (h : I 0 [] S) (hz : l.length ≤ sizeLine)
    (step : ∀ i a acc S, l[i]? = some a → I i acc S → ∃ ρ1 S1 b S2, tg (s a) ρ S = .ok ρ1 S1 ∧ tt ρ1 S1 = .ok b S2 ∧ (if b = true then ∃ y S3, te ρ1 S2 = .ok y S3 ∧ I (i + 1) (acc ++ [y]) S3 else I (i + 1) acc S2)) :
    ∃ ys S', dLcGo none tg tt te ρ (l.map s) [] S = .ok ys S' ∧ I l.length ys S' := by
  have := lc_ev0 (tg := tg) (tt := tt) (te := te) (ρ := ρ) I (l.map s) S h (by simpa using hz) (fun i x acc S hx hI => by
    obtain ⟨a, ha, rfl⟩ := map_at hx
    exact step i a acc S ha hI)
  rwa [List.length_map] at this
theorem range_get {n i a : Nat} (h : (List.range n)[i]? = some a) : i < n ∧ a = i := by
  obtain ⟨h1, h2⟩ := List.getElem?_eq_some_iff.mp h
  simp at h1 h2
  exact ⟨h1, h2.symm⟩
end DD

/-! M1b: pln data is equal as it is -/
namespace DD
open PySem PySem.Spec PyProof.Rows L2
mutual
def pd : D → PyData
  | .non => .none
  | .bl b => .bool b
  | .int i => .int i
  | .str x => .str x
  | .tup xs => .tuple (pds xs)
  | .lst xs => .list (pds xs)
  | .rol xs => .list (pds xs)
  | .obj _ _ => .none
  | .cell _ => .none
  | .ty _ => .none
  | .cls _ => .none
  | .exn _ _ => .none
def pds : List D → List PyData
  | [] => []
  | x :: xs => pd x :: pds xs
end
def pln : Nat → D → Bool
  | 0, _ => false
  | _ + 1, .non => true
  | _ + 1, .int _ => true
  | _ + 1, .str x => x.cps.all (· < 0x110000)
  | n + 1, .tup xs => xs.all (pln n)
  | n + 1, .lst xs => xs.all (pln n)
  | _ + 1, _ => false
theorem toPs_all {f : D → Option PyData} : ∀ {xs : List D}, (∀ x ∈ xs, f x = some (pd x)) → toPs f xs = some (pds xs)
  | [], _ => rfl
  | x :: xs, h => by
    show (f x).bind (fun p => (toPs f xs).map (p :: ·)) = _
    rw [h x List.mem_cons_self, toPs_all fun y hy => h y (List.mem_cons_of_mem _ hy)]
    rfl
theorem toP_plain {S : Sto} : ∀ (n : Nat) (d : D), pln n d = true → toP S n d = some (pd d)
  | 0, _, h => by simp [pln] at h
  | n + 1, d, h => by
    cases d with
    | tup xs =>
      simp only [pln, List.all_eq_true] at h
      show (toPs (toP S n) xs).map PyData.tuple = _
      rw [toPs_all fun x hx => toP_plain n x (h x hx)]
      rfl
    | lst xs =>
      simp only [pln, List.all_eq_true] at h
      show (toPs (toP S n) xs).map PyData.list = _
      rw [toPs_all fun x hx => toP_plain n x (h x hx)]
      rfl
    | non => rfl
    | int i => rfl
    | str x => rfl
    | _ => simp [pln] at h
theorem lay_all : ∀ {xs : List D}, (∀ x ∈ xs, PyData.canLay0 (pd x) = true) → PyData.canLayAll0 (pds xs) = true
  | [], _ => by simp [pds, PyData.canLayAll0]
  | x :: xs, h => by
    rw [pds, PyData.canLayAll0, h x List.mem_cons_self, lay_all fun y hy => h y (List.mem_cons_of_mem _ hy)]
    rfl
theorem lay_plain : ∀ (n : Nat) (d : D), pln n d = true → PyData.canLay0 (pd d) = true
  | 0, _, h => by simp [pln] at h
  | n + 1, d, h => by
    cases d with
    | tup xs =>
      simp only [pln, List.all_eq_true] at h
      simpa [pd, PyData.canLay0] using lay_all fun x hx => lay_plain n x (h x hx)
    | lst xs =>
      simp only [pln, List.all_eq_true] at h
      simpa [pd, PyData.canLay0] using lay_all fun x hx => lay_plain n x (h x hx)
    | non => simp [pd, PyData.canLay0]
    | int i => simp [pd, PyData.canLay0]
    | str x => simpa [pd, PyData.canLay0, PyData.strOk, pln] using h
    | _ => simp [pln] at h
theorem depth_all {n : Nat} : ∀ {xs : List D}, (∀ x ∈ xs, PyData.depth (pd x) ≤ n) → PyData.depthAll (pds xs) ≤ n
  | [], _ => by simp [pds, PyData.depthAll]
  | x :: xs, h => by
    have h1 := h x List.mem_cons_self
    have h2 := depth_all (n := n) fun y hy => h y (List.mem_cons_of_mem _ hy)
    simp only [pds, PyData.depthAll]
    omega
theorem depth_plain : ∀ (n : Nat) (d : D), pln n d = true → PyData.depth (pd d) ≤ n
  | 0, _, h => by simp [pln] at h
  | n + 1, d, h => by
    cases d with
    | tup xs =>
      simp only [pln, List.all_eq_true] at h
      have := depth_all fun x hx => depth_plain n x (h x hx)
      simp only [pd, PyData.depth]
      omega
    | lst xs =>
      simp only [pln, List.all_eq_true] at h
      have := depth_all fun x hx => depth_plain n x (h x hx)
      simp only [pd, PyData.depth]
      omega
    | non => simp [pd, PyData.depth]
    | int i => simp [pd, PyData.depth]
    | str x => simp [pd, PyData.depth]
    | _ => simp [pln] at h
theorem shaped_plain {n : Nat} {d : D} (hn : n ≤ 64) (h : pln n d = true) : SeqAt.shaped (pd d) = true := by
  unfold SeqAt.shaped
  rw [lay_plain n d h, decide_eq_true (Nat.le_trans (depth_plain n d h) hn)]
  rfl
theorem eqv_all : ∀ {xs ys : List D}, (∀ x ∈ xs, ∀ y ∈ ys, (PyData.eqv (pd x) (pd y) = true ↔ x = y)) → (PyData.eqvAll (pds xs) (pds ys) = true ↔ xs = ys)
  | [], [], _ => by simp [pds, PyData.eqvAll]
  | [], y :: ys, _ => by simp [pds, PyData.eqvAll]
  | x :: xs, [], _ => by simp [pds, PyData.eqvAll]
  | x :: xs, y :: ys, h => by
    have h1 := h x List.mem_cons_self y List.mem_cons_self
    have h2 := eqv_all (xs := xs) (ys := ys) fun a ha b hb => h a (List.mem_cons_of_mem _ ha) b (List.mem_cons_of_mem _ hb)
    simp only [pds, PyData.eqvAll, Bool.and_eq_true, h1, h2, List.cons.injEq]
theorem eqv_plain : ∀ (n : Nat) (d e : D), pln n d = true → pln n e = true → (PyData.eqv (pd d) (pd e) = true ↔ d = e)
  | 0, _, _, h, _ => by simp [pln] at h
  | n + 1, d, e, h, h' => by
    cases d <;> cases e <;> first
      | (simp [pln] at h; done)
      | (simp [pln] at h'; done)
      | (simp only [pln, List.all_eq_true] at h h'
         have := eqv_all fun x hx y hy => eqv_plain n x y (h x hx) (h' y hy)
         simpa [pd, PyData.eqv] using this)
      | simp [pd, PyData.eqv]
theorem eq_plain {n : Nat} {neg : Bool} {x y : D} {S : Sto} (hn : n ≤ 64) (hx : pln n x = true) (hy : pln n y = true) : dEq neg x y S = .ok (.bl (if neg then !PyData.eqv (pd x) (pd y) else PyData.eqv (pd x) (pd y))) S := by
  have mono : ∀ (n : Nat) (d : D), pln n d = true → ∀ m, n ≤ m → pln m d = true := fun n => by
    induction n with
    | zero => intro d h; simp [pln] at h
    | succ n ih =>
      intro d h m hm
      obtain ⟨m, rfl⟩ : ∃ k, m = k + 1 := ⟨m - 1, by omega⟩
      cases d <;> first
        | (simp [pln] at h; done)
        | (simp only [pln, List.all_eq_true] at h ⊢
           exact fun x hx => ih x (h x hx) m (by omega))
        | simpa [pln] using h
  have h1 := toP_plain (S := S) 70 x (mono n x hx 70 (by omega))
  have h2 := toP_plain (S := S) 70 y (mono n y hy 70 (by omega))
  simp [dEq, h1, h2, shaped_plain hn hx, shaped_plain hn hy]
theorem eq_t {n : Nat} {neg : Bool} {x y : D} {S : Sto} (hn : n ≤ 64) (hx : pln n x = true) (hy : pln n y = true) (e : x = y) : dEq neg x y S = .ok (.bl !neg) S := by
  rw [eq_plain hn hx hy, (eqv_plain n x y hx hy).mpr e]
  cases neg <;> rfl
theorem eq_f {n : Nat} {neg : Bool} {x y : D} {S : Sto} (hn : n ≤ 64) (hx : pln n x = true) (hy : pln n y = true) (e : x ≠ y) : dEq neg x y S = .ok (.bl neg) S := by
  have : PyData.eqv (pd x) (pd y) = false := Bool.eq_false_iff.mpr fun h => e ((eqv_plain n x y hx hy).mp h)
  rw [eq_plain hn hx hy, this]
  cases neg <;> rfl
@[simp] theorem eq_int {neg : Bool} {i j : Int} {S : Sto} : dEq neg (.int i) (.int j) S = .ok (.bl (decide (i = j) != neg)) S := by
  by_cases h : i = j
  · rw [eq_t (n := 1) (by decide) rfl rfl (by rw [h])]
    simp [h]
  · rw [eq_f (n := 1) (by decide) rfl rfl (by simpa using h)]
    simp [h]
theorem eq_str {neg : Bool} {x y : Str} {S : Sto} (hx : x.cps.all (· < 0x110000) = true) (hy : y.cps.all (· < 0x110000) = true) : dEq neg (.str x) (.str y) S = .ok (.bl (decide (x = y) != neg)) S := by
  by_cases h : x = y
  · rw [eq_t (n := 1) (x := .str x) (y := .str y) (by decide) hx hy (by rw [h])]
    simp [h]
  · rw [eq_f (n := 1) (x := .str x) (y := .str y) (by decide) hx hy (by simpa using h)]
    simp [h]
/-! ### in -/
theorem pds_any : ∀ {xs : List D} {p : PyData}, (pds xs).any (fun z => PyData.eqv z p) = xs.any fun z => PyData.eqv (pd z) p
  | [], _ => rfl
  | x :: xs, p => by rw [pds, List.any_cons, List.any_cons, pds_any]
theorem plain_mono : ∀ (n : Nat) (d : D), pln n d = true → ∀ m, n ≤ m → pln m d = true := fun n => by
    induction n with
    | zero => intro d h; simp [pln] at h
    | succ n ih =>
      intro d h m hm
      obtain ⟨m, rfl⟩ : ∃ k, m = k + 1 := ⟨m - 1, by omega⟩
      cases d <;> first
        | (simp [pln] at h; done)
        | (simp only [pln, List.all_eq_true] at h ⊢
           exact fun x hx => ih x (h x hx) m (by omega))
        | simpa [pln] using h
theorem any_plain {n : Nat} {x : D} (hx : pln n x = true) : ∀ {ys : List D}, (∀ y ∈ ys, pln n y = true) → ((pds ys).any (fun z => PyData.eqv z (pd x)) = true ↔ x ∈ ys)
  | [], _ => by simp [pds]
  | y :: ys, h => by
    rw [pds, List.any_cons, Bool.or_eq_true, eqv_plain n y x (h y List.mem_cons_self) hx, any_plain hx fun z hz => h z (List.mem_cons_of_mem _ hz), List.mem_cons, eq_comm]
/-- x in ys (ys a tuple, a list, not a text) -/
theorem in_plain {n : Nat} {neg : Bool} {x c : D} {ys : List D} {S : Sto} (hn : n ≤ 63) (hx : pln n x = true) (hy : ∀ y ∈ ys, pln n y = true) (hc : seqA c S = .ok ys S) [Decidable (x ∈ ys)] : dIn neg x c S = .ok (.bl (decide (x ∈ ys) != neg)) S := by
  have h1 := toP_plain (S := S) 70 x (plain_mono n x hx 70 (by omega))
  have h2 : toPs (toP S 70) ys = some (pds ys) := toPs_all fun y hy' => toP_plain 70 y (plain_mono n y (hy y hy') 70 (by omega))
  have h3 : SeqAt.shaped (.list (pds ys)) = true := by
    have h : pln (n + 1) (.lst ys) = true := by simpa [pln] using hy
    exact shaped_plain (n := n + 1) (by omega) h
  have e : (pds ys).any (fun z => PyData.eqv z (pd x)) = decide (x ∈ ys) := by
    by_cases h : x ∈ ys
    · rw [(any_plain hx hy).mpr h, decide_eq_true h]
    · rw [Bool.eq_false_iff.mpr fun q => h ((any_plain hx hy).mp q), decide_eq_false h]
  have gen : (do
    let p ← M.get fun S => toP S 70 x
    let ys ← seqA c
    let qs ← M.get fun S => toPs (toP S 70) ys
    M.need (SeqAt.shaped p = true ∧ SeqAt.shaped (.list qs) = true)
    pure (.bl (if neg then !qs.any (fun z => PyData.eqv z p) else qs.any fun z => PyData.eqv z p)) : M D) S = .ok (.bl (decide (x ∈ ys) != neg)) S := by
    have g1 : M.get (fun S => toP S 70 x) S = .ok (pd x) S := get_some h1
    have g2 : M.get (fun S => toPs (toP S 70) ys) S = .ok (pds ys) S := get_some h2
    simp only [M.bind_run, g1, hc, g2, need_run, shaped_plain (by omega) hx, h3, and_self, if_true, e, M.pure_run]
    cases neg <;> simp
  have nostr : ∀ z, c ≠ .str z := fun z e => by
    rw [e] at hc
    cases hc
  unfold dIn
  split
  · exact absurd rfl (nostr _)
  · exact gen
end DD

namespace K36
open PySem PySem.Spec PyProof.Rows L2 DD
abbrev Tab := Nat → Nat → Option Int
def rowD (n : Nat) (r : Nat → Option Int) : D := .tup ((List.range n).map fun y => oi (r y))
def rowsD (n : Nat) (m : Tab) (k : Nat) : List D := (List.range k).map fun x => rowD n (m x)
def tab (n : Nat) (m : Tab) : D := .tup (rowsD n m n)
def m0 : Tab := fun x y => if x = 0 ∨ x = y then some 0 else none
theorem sl : sizeLine = 16777216 ∨ 1000 ≤ sizeLine := by right; rw [sizeLine_eq]; decide
theorem sl1000 : 1000 ≤ sizeLine := by rw [sizeLine_eq]; decide
theorem rows_succ (n : Nat) (m : Tab) (k : Nat) : rowsD n m (k + 1) = rowsD n m k ++ [rowD n (m k)] := by
  unfold rowsD
  rw [List.range_succ, List.map_append]
  rfl
theorem rows_len (n : Nat) (m : Tab) (k : Nat) : (rowsD n m k).length = k := by simp [rowsD]
theorem rows_get {n : Nat} {m : Tab} {k x : Nat} (h : x < k) : (rowsD n m k)[x]? = some (rowD n (m x)) := by
  unfold rowsD
  simp [h]
theorem row_get {n : Nat} {r : Nat → Option Int} {x : Nat} (h : x < n) : ((List.range n).map fun y => oi (r y))[x]? = some (oi (r x)) := by simp [h]
theorem ix_tab {n : Nat} {m : Tab} {x : Nat} {S : Sto} (h : x < n) : dIx (tab n m) (.int (x : Int)) S = .ok (rowD n (m x)) S := ix_tup (rows_get h)
theorem ix_row {n : Nat} {r : Nat → Option Int} {x : Nat} {S : Sto} (h : x < n) : dIx (rowD n r) (.int (x : Int)) S = .ok (oi (r x)) S := ix_tup (row_get h)
theorem in01 (x y : Nat) (S : Sto) : dIn false (.int (x : Int)) (.tup [.int 0, .int (y : Int)]) S = .ok (.bl (decide (x = 0 ∨ x = y))) S := by
  classical
  rw [in_plain (n := 1) (ys := [.int 0, .int (y : Int)]) (by decide) rfl (by simp [pln]) rfl]
  congr 2
  have : (D.int (x : Int) ∈ [D.int 0, D.int (y : Int)]) ↔ (x = 0 ∨ x = y) := by
    simp
    omega
  by_cases h : x = 0 ∨ x = y
  · rw [decide_eq_true (this.mpr h), decide_eq_true h]
    rfl
  · rw [decide_eq_false (fun q => h (this.mp q)), decide_eq_false h]
    rfl
theorem le_line {n : Nat} (h : n ≤ 1000) : n ≤ sizeLine := Nat.le_trans h sl1000
theorem tupOf_lst {xs : List D} {S : Sto} : dTupOf [.lst xs] S = .ok (.tup xs) S := rfl
theorem range_many1 {many : Nat} (hm : many ≤ 90) (S : Sto) : rng1 [.int ((many : Int) + 1)] S = .ok ((List.range (many + 1)).map fun i : Nat => D.int (i : Int), none) S := by
  have := rng1_run (n := many + 1) (S := S) (by omega)
  rwa [show ((many + 1 : Nat) : Int) = (many : Int) + 1 by omega] at this
theorem e_open (many i y : Nat) (o : D) (S : Sto) : E_open_bounds_1 [some (.int many), some o, some (.int (i : Int)), some (.int (y : Int))] S = .ok (oi (m0 i y)) S := by
  have hs : (2 : Nat) ≤ sizeLine := le_line (by omega)
  by_cases h : i = 0 ∨ i = y <;> simp [E_open_bounds_1, hs, in01, h, m0, oi]
theorem l_open (many i : Nat) (hm : many ≤ 90) (hi : i < many + 1) (o3 : Option D) (S : Sto) : L_open_bounds_2 [some (.int many), some (.lst (rowsD (many + 1) m0 i)), some (.int (i : Int)), o3] S = .ok (.nx [some (.int many), some (.lst (rowsD (many + 1) m0 (i + 1))), some (.int (i : Int)), o3]) S := by
  have r1 := range_many1 hm S
  have h1 : (1 : Nat) ≤ sizeLine := le_line (by omega)
  have lc := lc_map (tg := gSet 3) (te := E_open_bounds_1) (ρ := [some (.int many), some (.lst (rowsD (many + 1) m0 i)), some (.int (i : Int)), none]) (S := S)
    (fun d => match d with | .int y => oi (m0 i y.toNat) | _ => .non) ((List.range (many + 1)).map fun i : Nat => D.int (i : Int)) [] (le_line (by simp; omega)) (by
      intro d hd
      obtain ⟨y, hy, rfl⟩ := List.mem_map.mp hd
      exact ⟨_, rfl, e_open many i y _ S⟩)
  have hl : (rowsD (many + 1) m0 i).length + 1 ≤ sizeLine := le_line (by rw [rows_len]; omega)
  have e2 : ((List.range (many + 1)).map fun i : Nat => D.int (i : Int)).map (fun d => match d with | .int y => oi (m0 i y.toNat) | _ => .non) = (List.range (many + 1)).map fun y => oi (m0 i y) := by
    rw [List.map_map]
    rfl
  rw [e2, List.nil_append] at lc
  have al := add_lst (xs := rowsD (many + 1) m0 i) (ys := [rowD (many + 1) (m0 i)]) (S := S) hl
  rw [rows_succ]
  simp [L_open_bounds_2, wipeD, r1, lc, h1]
  simp only [rowD] at al
  rw [al]
  rfl
theorem f_open_bounds (many : Nat) (hm : many ≤ 90) (S : Sto) : F_open_bounds [.int many] S = .ok (tab (many + 1) m0) S := by
  have r1 := range_many1 hm S
  obtain ⟨ρ', S', e, rfl, o2, o3, hρ⟩ := for_ev0 (tg := gSet 2) (body := L_open_bounds_2) (fun i ρ S' => S' = S ∧ ∃ o2 o3, ρ = [some (.int many), some (.lst (rowsD (many + 1) m0 i)), o2, o3])
    ((List.range (many + 1)).map fun i : Nat => D.int (i : Int)) [some (.int many), some (.lst []), none, none] S ⟨rfl, none, none, rfl⟩ (by
      rintro i x ρ S' hx ⟨rfl, o2, o3, rfl⟩
      obtain ⟨hi, rfl⟩ := range_at hx
      exact ⟨_, _, _, _, rfl, l_open many i hm hi o3 S', rfl, _, _, rfl⟩)
  rw [hρ] at e
  simp [F_open_bounds, B_open_bounds, r1, e, tab]
end K36

namespace K36
open PySem PySem.Spec PyProof.Rows L2 DD
/-- the table with one fact more -/
def lift (m : Tab) (x y : Nat) (c : Int) : Tab := fun i j => omin (m i j) (osum (osum (m i x) (some c)) (m y j))
def isNeg (m : Tab) (x y : Nat) (c : Int) : Bool := match m y x with
  | some b => decide (b + c < 0)
  | none => false
theorem zip2_tup {xs ys : List D} {S : Sto} : zip2 [.tup xs, .tup ys] S = .ok (zipD xs ys, none) S := rfl
theorem zip_row {n : Nat} {r q : Nat → Option Int} {S : Sto} : zip2 [rowD n r, rowD n q] S = .ok ((List.range n).map (fun j => .tup [oi (r j), oi (q j)]), none) S := by
  unfold rowD
  rw [zip2_tup, zip_map]
theorem l_narrowed (n : Nat) (hn : n ≤ 91) (m : Tab) (x y i : Nat) (hx : x < n) (hy : y < n) (hi : i < n) (c : Int) (b : D) (o7 o8 o9 : Option D) (S : Sto) :
    L_narrowed_2 [some (tab n m), some (.int x), some (.int y), some (.int c), some b, some (.lst (rowsD n (lift m x y c) i)), some (rowD n (m i)), o7, o8, o9] S =
      .ok (.nx [some (tab n m), some (.int x), some (.int y), some (.int c), some b, some (.lst (rowsD n (lift m x y c) (i + 1))), some (rowD n (m i)), some (oi (osum (m i x) (some c))), o8, o9]) S := by
  have h1 : (1 : Nat) ≤ sizeLine := le_line (by omega)
  have lc := lc_mapi (tg := gTupD 2 (gsCons (gSet 8) (gsCons (gSet 9) gsNil))) (te := E_narrowed_1) (ρ := [some (tab n m), some (.int x), some (.int y), some (.int c), some b, some (.lst (rowsD n (lift m x y c) i)), some (rowD n (m i)), some (oi (osum (m i x) (some c))), none, none]) (S := S)
    (fun j => .tup [oi (m i j), oi (m y j)]) (fun j => oi (lift m x y c i j)) (List.range n) [] (le_line (by simp; omega)) (by
      intro j hj
      refine ⟨_, by simp; rfl, ?_⟩
      simp [E_narrowed_1, f_summed, f_lesser, lift])
  have hl : (rowsD n (lift m x y c) i).length + 1 ≤ sizeLine := le_line (by rw [rows_len]; omega)
  have al := add_lst (xs := rowsD n (lift m x y c) i) (ys := [rowD n (lift m x y c i)]) (S := S) hl
  have s1 : F_summed [oi (m i x), .int c] S = .ok (oi (osum (m i x) (some c))) S := f_summed (m i x) (some c) S
  rw [rows_succ]
  simp only [List.nil_append] at lc
  simp [L_narrowed_2, ix_row hx, ix_tab hy, s1, zip_row, wipeD, lc, h1]
  simp only [rowD] at al
  rw [al]
  rfl
theorem f_narrowed (n : Nat) (hn : n ≤ 91) (m : Tab) (x y : Nat) (hx : x < n) (hy : y < n) (c : Int) (S : Sto) :
    F_narrowed [tab n m, .int x, .int y, .int c] S = .ok (if isNeg m x y c then .non else if olt (some c) (m x y) then tab n (lift m x y c) else tab n m) S := by
  have l1 : F_is_less [.int c, oi (m x y)] S = .ok (.bl (olt (some c) (m x y))) S := f_is_less (some c) (m x y) S
  have sr : srcOf (tab n m) S = .ok ((List.range n).map (fun i => rowD n (m i)), none) S := by
    unfold tab rowsD
    exact srcOf_tup
  have body : ∀ b : D, ∃ ρ', dFor none (gSet 6) L_narrowed_2 ((List.range n).map (fun i => rowD n (m i))) [some (tab n m), some (.int x), some (.int y), some (.int c), some b, some (.lst []), none, none, none, none] S = .ok (.nx ρ') S ∧ ρ'[5]? = some (some (.lst (rowsD n (lift m x y c) n))) := by
    intro b
    obtain ⟨ρ', S', e, rfl, o6, o7, o8, o9, hρ⟩ := for_evi (tg := gSet 6) (body := L_narrowed_2) (fun i => rowD n (m i)) (fun i ρ S' => S' = S ∧ ∃ o6 o7 o8 o9, ρ = [some (tab n m), some (.int x), some (.int y), some (.int c), some b, some (.lst (rowsD n (lift m x y c) i)), o6, o7, o8, o9])
      (List.range n) [some (tab n m), some (.int x), some (.int y), some (.int c), some b, some (.lst []), none, none, none, none] S ⟨rfl, none, none, none, none, rfl⟩ (by
        rintro i a ρ S' ha ⟨rfl, o6, o7, o8, o9, rfl⟩
        obtain ⟨hi, rfl⟩ := range_get ha
        exact ⟨_, _, _, _, rfl, l_narrowed n hn m x y a hx hy hi c b o7 o8 o9 S', rfl, _, _, _, _, rfl⟩)
    rw [List.length_range] at hρ
    exact ⟨ρ', e, by rw [hρ]; rfl⟩
  have n1 : ∀ b : D, isNon b = false → b ≠ .non := fun b h e => by rw [e] at h; cases h
  cases hyx : m y x with
  | none =>
    have hn : isNeg m x y c = false := by simp [isNeg, hyx]
    obtain ⟨ρ', e, h5⟩ := body .non
    have e0 : (oi (none : Option Int)) = .non := rfl
    cases hl : olt (some c) (m x y) with
    | true =>
      rw [hl] at l1
      simp [F_narrowed, B_narrowed, ix_tab hy, ix_row hx, ix_tab hx, ix_row hy, hyx, e0, hn, l1, sr, e, h5]
      rfl
    | false =>
      rw [hl] at l1
      simp [F_narrowed, B_narrowed, ix_tab hy, ix_row hx, ix_tab hx, ix_row hy, hyx, e0, hn, l1]
  | some b =>
    have e0 : (oi (some b)) = .int b := rfl
    by_cases hb : b + c < 0
    · have hn : isNeg m x y c = true := by simp [isNeg, hyx, hb]
      simp [F_narrowed, B_narrowed, ix_tab hy, ix_row hx, hyx, e0, hn, hb]
    · have hn : isNeg m x y c = false := by simp [isNeg, hyx]; omega
      obtain ⟨ρ', e, h5⟩ := body (.int b)
      cases hl : olt (some c) (m x y) with
      | true =>
        rw [hl] at l1
        simp [F_narrowed, B_narrowed, ix_tab hy, ix_row hx, ix_tab hx, ix_row hy, hyx, e0, hn, hb, l1, sr, e, h5]
        rfl
      | false =>
        rw [hl] at l1
        simp [F_narrowed, B_narrowed, ix_tab hy, ix_row hx, ix_tab hx, ix_row hy, hyx, e0, hn, hb, l1]
/-! ### the facts one by one -/
abbrev NF := Nat × Nat × Int
def factN (f : NF) : D := .tup [.int f.1, .int f.2.1, .int f.2.2]
def nar (m : Tab) (f : NF) : Option Tab := if isNeg m f.1 f.2.1 f.2.2 then none else some (if olt (some f.2.2) (m f.1 f.2.1) then lift m f.1 f.2.1 f.2.2 else m)
def nars : Tab → List NF → Option Tab
  | m, [] => some m
  | m, f :: fs => (nar m f).bind fun m' => nars m' fs
theorem narrowed_nar (n : Nat) (hn : n ≤ 91) (m : Tab) (f : NF) (hx : f.1 < n) (hy : f.2.1 < n) (S : Sto) : F_narrowed [tab n m, .int f.1, .int f.2.1, .int f.2.2] S = .ok (match nar m f with | none => .non | some m' => tab n m') S := by
  rw [f_narrowed n hn m f.1 f.2.1 hx hy f.2.2 S]
  unfold nar
  by_cases h : isNeg m f.1 f.2.1 f.2.2 = true
  · simp [h]
  · simp [h]
    split <;> rfl
theorem l_narrowed_by (n : Nat) (hn : n ≤ 91) (m : Tab) (f : NF) (hx : f.1 < n) (hy : f.2.1 < n) (d : D) (S : Sto) :
    L_narrowed_by_1 [some (tab n m), some d, some (.int f.1), some (.int f.2.1), some (.int f.2.2)] S = .ok (match nar m f with
      | none => .rt .non
      | some m' => .nx [some (tab n m'), some d, some (.int f.1), some (.int f.2.1), some (.int f.2.2)]) S := by
  have h := narrowed_nar n hn m f hx hy S
  cases e : nar m f with
  | none =>
    rw [e] at h
    simp [L_narrowed_by_1, h]
  | some m' =>
    rw [e] at h
    simp [L_narrowed_by_1, h]
    rfl
theorem for_narrowed (n : Nat) (hn : n ≤ 91) (d : D) (S : Sto) : ∀ (fs : List NF) (m : Tab) (o2 o3 o4 : Option D), (∀ f ∈ fs, f.1 < n ∧ f.2.1 < n) →
    ∃ fl, dFor none (gTupD 3 (gsCons (gSet 2) (gsCons (gSet 3) (gsCons (gSet 4) gsNil)))) L_narrowed_by_1 (fs.map factN) [some (tab n m), some d, o2, o3, o4] S = .ok fl S ∧
      (match nars m fs with | none => fl = .rt .non | some m' => ∃ o2 o3 o4, fl = .nx [some (tab n m'), some d, o2, o3, o4])
  | [], m, o2, o3, o4, _ => ⟨.nx [some (tab n m), some d, o2, o3, o4], by simp [dFor, chk_none], o2, o3, o4, rfl⟩
  | f :: fs, m, o2, o3, o4, h => by
    obtain ⟨hx, hy⟩ := h f List.mem_cons_self
    have hb := l_narrowed_by n hn m f hx hy d S
    cases e : nar m f with
    | none =>
      rw [e] at hb
      refine ⟨.rt .non, ?_, by simp [nars, e]⟩
      simp [dFor, chk_none, factN, hb, loopS]
    | some m' =>
      rw [e] at hb
      obtain ⟨fl, e1, e2⟩ := for_narrowed n hn d S fs m' (some (.int f.1)) (some (.int f.2.1)) (some (.int f.2.2)) fun g hg => h g (List.mem_cons_of_mem _ hg)
      refine ⟨fl, ?_, by simpa [nars, e] using e2⟩
      simp [dFor, chk_none, factN, hb, loopS]
      exact e1
theorem f_narrowed_by (n : Nat) (hn : n ≤ 91) (fs : List NF) (m : Tab) (h : ∀ f ∈ fs, f.1 < n ∧ f.2.1 < n) (S : Sto) : F_narrowed_by [tab n m, .tup (fs.map factN)] S = .ok (match nars m fs with | none => .non | some m' => tab n m') S := by
  obtain ⟨fl, e1, e2⟩ := for_narrowed n hn (.tup (fs.map factN)) S fs m none none none h
  cases e : nars m fs with
  | none =>
    rw [e] at e2
    subst e2
    simp [F_narrowed_by, B_narrowed_by, e1]
  | some m' =>
    rw [e] at e2
    obtain ⟨o2, o3, o4, rfl⟩ := e2
    simp [F_narrowed_by, B_narrowed_by, e1]
end K36

/-! M4: the closure of facts; narrowing gives it; so does the law's own way -/
namespace K36
open PySem PySem.Spec PyProof.Rows L2 DD
def Edge (N : Nat) (fs : List NF) (x y : Nat) (c : Int) : Prop := (x, y, c) ∈ fs ∨ (x = 0 ∧ y < N ∧ c = 0)
inductive Walk (N : Nat) (fs : List NF) : Nat → Nat → Int → Prop where
  | nil (x : Nat) : Walk N fs x x 0
  | step {x y z : Nat} {c b : Int} : Edge N fs x y c → Walk N fs y z b → Walk N fs x z (c + b)
theorem Walk.append {N : Nat} {fs : List NF} {x y z : Nat} {a b : Int} (h : Walk N fs x y a) (h' : Walk N fs y z b) : Walk N fs x z (a + b) := by
  induction h with
  | nil x => rwa [Int.zero_add]
  | step e _ ih =>
    rw [Int.add_assoc]
    exact .step e (ih h')
theorem Walk.one {N : Nat} {fs : List NF} {x y : Nat} {c : Int} (e : Edge N fs x y c) : Walk N fs x y c := by
  have := Walk.step e (.nil y)
  rwa [Int.add_zero] at this
theorem Walk.more {N : Nat} {fs gs : List NF} (h : ∀ f ∈ fs, f ∈ gs) {x y : Nat} {b : Int} (w : Walk N fs x y b) : Walk N gs x y b := by
  induction w with
  | nil x => exact .nil x
  | step e _ ih => exact .step (e.imp (h _) id) ih
def Rng (N : Nat) (fs : List NF) : Prop := ∀ f ∈ fs, f.1 < N ∧ f.2.1 < N
theorem Edge.rng {N : Nat} {fs : List NF} (hN : 0 < N) (r : Rng N fs) {x y : Nat} {c : Int} (e : Edge N fs x y c) : x < N ∧ y < N := by
  rcases e with e | ⟨rfl, h, _⟩
  · exact r _ e
  · exact ⟨hN, h⟩
structure Clo (N : Nat) (fs : List NF) (m : Tab) : Prop where
  snd : ∀ x y b, x < N → y < N → m x y = some b → Walk N fs x y b
  dia : ∀ x, x < N → m x x = some 0
  edg : ∀ x y c, Edge N fs x y c → ∃ b, m x y = some b ∧ b ≤ c
  tri : ∀ x y z a b, x < N → y < N → z < N → m x y = some a → m y z = some b → ∃ c, m x z = some c ∧ c ≤ a + b
theorem Clo.le {N : Nat} {fs : List NF} {m : Tab} (hN : 0 < N) (r : Rng N fs) (k : Clo N fs m) {x y : Nat} {b : Int} (w : Walk N fs x y b) (hx : x < N) : y < N ∧ ∃ a, m x y = some a ∧ a ≤ b := by
  induction w with
  | nil x => exact ⟨hx, 0, k.dia x hx, Int.le_refl _⟩
  | @step x y z c b e _ ih =>
    have hy := (e.rng hN r).2
    obtain ⟨hz, a, h1, h2⟩ := ih hy
    obtain ⟨a', h3, h4⟩ := k.edg _ _ _ e
    obtain ⟨d, h5, h6⟩ := k.tri _ _ _ _ _ hx hy hz h3 h1
    exact ⟨hz, d, h5, by omega⟩
theorem Clo.uniq {N : Nat} {fs : List NF} {m m' : Tab} (hN : 0 < N) (r : Rng N fs) (k : Clo N fs m) (k' : Clo N fs m') {x y : Nat} (hx : x < N) (hy : y < N) : m x y = m' x y := by
  cases e : m x y with
  | none =>
    cases e' : m' x y with
    | none => rfl
    | some b =>
      obtain ⟨_, a, h, _⟩ := k.le hN r (k'.snd x y b hx hy e') hx
      rw [e] at h
      cases h
  | some a =>
    obtain ⟨_, b, h1, h2⟩ := k'.le hN r (k.snd x y a hx hy e) hx
    obtain ⟨_, c, h3, h4⟩ := k.le hN r (k'.snd x y b hx hy h1) hx
    rw [e] at h3
    cases h3
    rw [h1, show a = b by omega]
def NoNeg (N : Nat) (fs : List NF) : Prop := ∀ x b, x < N → Walk N fs x x b → 0 ≤ b
theorem Clo.noNeg {N : Nat} {fs : List NF} {m : Tab} (hN : 0 < N) (r : Rng N fs) (k : Clo N fs m) : NoNeg N fs := fun x b hx w => by
  obtain ⟨_, a, h1, h2⟩ := k.le hN r w hx
  rw [k.dia x hx] at h1
  cases h1
  exact h2
theorem omin_some {a b : Option Int} {r : Int} (h : omin a b = some r) : (a = some r ∧ ∀ v, b = some v → r ≤ v) ∨ (b = some r ∧ ∀ v, a = some v → r ≤ v) := by
  cases a with
  | none => exact .inr ⟨by simpa [omin] using h, fun v e => by cases e⟩
  | some u =>
    cases b with
    | none => exact .inl ⟨by simpa [omin] using h, fun v e => by cases e⟩
    | some v =>
      simp only [omin, Option.some.injEq] at h
      by_cases c : v < u
      · rw [if_pos c] at h
        subst h
        exact .inr ⟨rfl, fun w e => by cases e; omega⟩
      · rw [if_neg c] at h
        subst h
        exact .inl ⟨rfl, fun w e => by cases e; omega⟩
theorem omin_l {a b : Option Int} {u : Int} (h : a = some u) : ∃ r, omin a b = some r ∧ r ≤ u := by
  subst h
  cases b with
  | none => exact ⟨u, rfl, Int.le_refl _⟩
  | some v =>
    refine ⟨_, rfl, ?_⟩
    split <;> omega
theorem omin_r {a b : Option Int} {v : Int} (h : b = some v) : ∃ r, omin a b = some r ∧ r ≤ v := by
  subst h
  cases a with
  | none => exact ⟨v, rfl, Int.le_refl _⟩
  | some u =>
    refine ⟨_, rfl, ?_⟩
    split <;> omega
theorem osum_some {a b : Option Int} {r : Int} (h : osum a b = some r) : ∃ u v, a = some u ∧ b = some v ∧ r = u + v := by
  cases a <;> cases b <;> simp [osum] at h
  exact ⟨_, _, rfl, rfl, h.symm⟩
theorem clo_m0 (N : Nat) : Clo N [] m0 where
  snd := fun x y b hx hy h => by
    unfold m0 at h
    split at h
    · rename_i q
      cases h
      rcases q with q | q
      · exact .one (.inr ⟨q, hy, rfl⟩)
      · subst q; exact .nil x
    · cases h
  dia := fun x hx => by simp [m0]
  edg := fun x y c e => by
    rcases e with e | ⟨rfl, _, rfl⟩
    · cases e
    · exact ⟨0, by simp [m0], Int.le_refl _⟩
  tri := fun x y z a b hx hy hz h1 h2 => by
    unfold m0 at h1 h2 ⊢
    split at h1
    · rename_i q1
      split at h2
      · rename_i q2
        cases h1
        cases h2
        refine ⟨0, if_pos ?_, by omega⟩
        omega
      · cases h2
    · cases h1
theorem Edge.more {N : Nat} {fs : List NF} {f : NF} {x y : Nat} {c : Int} (e : Edge N fs x y c) : Edge N (fs ++ [f]) x y c := e.imp (fun h => List.mem_append_left _ h) id
theorem lift_some {m : Tab} {x y : Nat} {c : Int} {i j : Nat} {r : Int} (h : lift m x y c i j = some r) : m i j = some r ∨ ∃ u v, m i x = some u ∧ m y j = some v ∧ r = u + c + v := by
  rcases omin_some h with ⟨h, _⟩ | ⟨h, _⟩
  · exact .inl h
  · obtain ⟨u, v, h1, h2, rfl⟩ := osum_some h
    obtain ⟨u', c', h3, h4, rfl⟩ := osum_some h1
    cases h4
    exact .inr ⟨u', v, h3, h2, rfl⟩
theorem lift_old {m : Tab} {x y : Nat} {c : Int} {i j : Nat} {r : Int} (h : m i j = some r) : ∃ s, lift m x y c i j = some s ∧ s ≤ r := omin_l h
theorem lift_new {m : Tab} {x y : Nat} {c : Int} {i j : Nat} {u v : Int} (h : m i x = some u) (h' : m y j = some v) : ∃ s, lift m x y c i j = some s ∧ s ≤ u + c + v := by
  refine omin_r ?_
  rw [h, h']
  rfl
theorem clo_lift {N : Nat} {fs : List NF} {m : Tab} (k : Clo N fs m) {x y : Nat} {c : Int} (hx : x < N) (hy : y < N) (hn : isNeg m x y c = false) : Clo N (fs ++ [(x, y, c)]) (lift m x y c) where
  snd := fun i j b hi hj h => by
    have up : ∀ {p q : Nat} {b : Int}, Walk N fs p q b → Walk N (fs ++ [(x, y, c)]) p q b := fun w => w.more fun f hf => List.mem_append_left _ hf
    rcases lift_some h with h | ⟨u, v, h1, h2, rfl⟩
    · exact up (k.snd i j b hi hj h)
    · have e : Edge N (fs ++ [(x, y, c)]) x y c := .inl (List.mem_append_right _ List.mem_cons_self)
      exact ((up (k.snd i x u hi hx h1)).append (.one e)).append (up (k.snd y j v hy hj h2))
  dia := fun i hi => by
    obtain ⟨s, h1, h2⟩ := lift_old (x := x) (y := y) (c := c) (k.dia i hi)
    rcases lift_some h1 with h | ⟨u, v, h3, h4, e⟩
    · rw [k.dia i hi] at h; cases h; exact h1
    · obtain ⟨w, h5, h6⟩ := k.tri y i x v u hy hi hx h4 h3
      have : ¬ (w + c < 0) := by simpa [isNeg, h5] using hn
      rw [h1, show s = 0 by omega]
  edg := fun i j d e => by
    rcases e with e | e
    · rcases List.mem_append.mp e with e | e
      · obtain ⟨b, h1, h2⟩ := k.edg i j d (.inl e)
        obtain ⟨s, h3, h4⟩ := lift_old (x := x) (y := y) (c := c) h1
        exact ⟨s, h3, by omega⟩
      · simp at e
        obtain ⟨rfl, rfl, rfl⟩ := e
        obtain ⟨s, h1, h2⟩ := lift_new (m := m) (c := d) (k.dia i hx) (k.dia j hy)
        exact ⟨s, h1, by omega⟩
    · obtain ⟨b, h1, h2⟩ := k.edg i j d (.inr e)
      obtain ⟨s, h3, h4⟩ := lift_old (x := x) (y := y) (c := c) h1
      exact ⟨s, h3, by omega⟩
  tri := fun i j l a b hi hj hl h1 h2 => by
    rcases lift_some h1 with p | ⟨u, v, p1, p2, rfl⟩
    · rcases lift_some h2 with q | ⟨u', v', q1, q2, rfl⟩
      · obtain ⟨d, e1, e2⟩ := k.tri _ _ _ _ _ hi hj hl p q
        obtain ⟨s, e3, e4⟩ := lift_old (x := x) (y := y) (c := c) e1
        exact ⟨s, e3, by omega⟩
      · obtain ⟨d, e1, e2⟩ := k.tri _ _ _ _ _ hi hj hx p q1
        obtain ⟨s, e3, e4⟩ := lift_new (c := c) e1 q2
        exact ⟨s, e3, by omega⟩
    · rcases lift_some h2 with q | ⟨u', v', q1, q2, rfl⟩
      · obtain ⟨d, e1, e2⟩ := k.tri _ _ _ _ _ hy hj hl p2 q
        obtain ⟨s, e3, e4⟩ := lift_new (c := c) p1 e1
        exact ⟨s, e3, by omega⟩
      · obtain ⟨d, e1, e2⟩ := k.tri _ _ _ _ _ hy hj hx p2 q1
        have : ¬ (d + c < 0) := by simpa [isNeg, e1] using hn
        obtain ⟨s, e3, e4⟩ := lift_new (c := c) p1 q2
        exact ⟨s, e3, by omega⟩
theorem clo_same {N : Nat} {fs : List NF} {m : Tab} (k : Clo N fs m) {x y : Nat} {c : Int} (hl : olt (some c) (m x y) = false) : Clo N (fs ++ [(x, y, c)]) m where
  snd := fun i j b hi hj h => (k.snd i j b hi hj h).more fun f hf => List.mem_append_left _ hf
  dia := k.dia
  edg := fun i j d e => by
    rcases e with e | e
    · rcases List.mem_append.mp e with e | e
      · exact k.edg i j d (.inl e)
      · simp at e
        obtain ⟨rfl, rfl, rfl⟩ := e
        cases h : m i j with
        | none => rw [h] at hl; cases hl
        | some b =>
          rw [h] at hl
          exact ⟨b, rfl, by simpa [olt] using hl⟩
    · exact k.edg i j d (.inr e)
  tri := k.tri
theorem clo_nar {N : Nat} {fs : List NF} {m : Tab} (hN : 0 < N) (k : Clo N fs m) {f : NF} (hx : f.1 < N) (hy : f.2.1 < N) (nn : NoNeg N (fs ++ [f])) : ∃ m', nar m f = some m' ∧ Clo N (fs ++ [f]) m' := by
  obtain ⟨x, y, c⟩ := f
  have hn : isNeg m x y c = false := by
    cases h : m y x with
    | none => simp [isNeg, h]
    | some b =>
      have w := (k.snd y x b hy hx h).more (gs := fs ++ [(x, y, c)]) fun f hf => List.mem_append_left _ hf
      have e : Edge N (fs ++ [(x, y, c)]) x y c := .inl (List.mem_append_right _ List.mem_cons_self)
      have := nn y _ hy (w.append (.one e))
      simp [isNeg, h]
      omega
  unfold nar
  rw [show isNeg m (x, y, c).1 (x, y, c).2.1 (x, y, c).2.2 = false from hn]
  simp only [Bool.false_eq_true, if_false]
  cases hl : olt (some c) (m x y) with
  | true => exact ⟨_, rfl, by simp only [if_true]; exact clo_lift k hx hy hn⟩
  | false => exact ⟨_, rfl, by simp only [Bool.false_eq_true, if_false]; exact clo_same k hl⟩
theorem NoNeg.less {N : Nat} {fs gs : List NF} (h : NoNeg N gs) (l : ∀ f ∈ fs, f ∈ gs) : NoNeg N fs := fun x b hx w => h x b hx (w.more l)
theorem clo_nars {N : Nat} (hN : 0 < N) : ∀ (gs fs : List NF) (m : Tab), Clo N fs m → Rng N gs → NoNeg N (fs ++ gs) → ∃ m', nars m gs = some m' ∧ Clo N (fs ++ gs) m'
  | [], fs, m, k, _, _ => ⟨m, rfl, by rwa [List.append_nil]⟩
  | f :: gs, fs, m, k, r, nn => by
    obtain ⟨hx, hy⟩ := r f List.mem_cons_self
    have e : fs ++ f :: gs = (fs ++ [f]) ++ gs := by simp
    rw [e] at nn ⊢
    obtain ⟨m1, h1, k1⟩ := clo_nar hN k hx hy (nn.less fun g hg => List.mem_append_left _ hg)
    obtain ⟨m2, h2, k2⟩ := clo_nars hN gs (fs ++ [f]) m1 k1 (fun g hg => r g (List.mem_cons_of_mem _ hg)) nn
    exact ⟨m2, by simp [nars, h1, h2], k2⟩

/-! ### the law's own way -/
def setT (r : Tab) (a b : Nat) (v : Option Int) : Tab := fun i j => if i = a ∧ j = b then v else r i j
def ini1 (r : Tab) (f : NF) : Tab := if olt (some f.2.2) (r f.1 f.2.1) then setT r f.1 f.2.1 (some f.2.2) else r
def fw1 (mid a : Nat) (r : Tab) (b : Nat) : Tab := match osum (r a mid) (r mid b) with
  | none => r
  | some far => if olt (some far) (r a b) then setT r a b (some far) else r
def fwRow (N mid : Nat) (r : Tab) (a : Nat) : Tab := (List.range N).foldl (fw1 mid a) r
def fwMid (N : Nat) (r : Tab) (mid : Nat) : Tab := (List.range N).foldl (fwRow N mid) r
def fwAll (N : Nat) (r : Tab) : Tab := (List.range N).foldl (fwMid N) r
/-- lower or the same -/
def Low (r' r : Tab) : Prop := ∀ i j v, r i j = some v → ∃ v', r' i j = some v' ∧ v' ≤ v
theorem Low.refl (r : Tab) : Low r r := fun i j v h => ⟨v, h, Int.le_refl _⟩
theorem Low.trans {a b c : Tab} (h : Low a b) (h' : Low b c) : Low a c := fun i j v e => by
  obtain ⟨w, e1, l1⟩ := h' i j v e
  obtain ⟨u, e2, l2⟩ := h i j w e1
  exact ⟨u, e2, by omega⟩
theorem low_set {r : Tab} {a b : Nat} {c : Int} (h : olt (some c) (r a b) = true) : Low (setT r a b (some c)) r := fun i j v e => by
  unfold setT
  by_cases q : i = a ∧ j = b
  · rw [if_pos q]
    obtain ⟨rfl, rfl⟩ := q
    rw [e] at h
    exact ⟨c, rfl, by simp [olt] at h; omega⟩
  · rw [if_neg q]
    exact ⟨v, e, Int.le_refl _⟩
theorem low_foldl {α : Type} {f : Tab → α → Tab} (h : ∀ r a, Low (f r a) r) : ∀ (l : List α) (r : Tab), Low (l.foldl f r) r
  | [], r => .refl r
  | a :: l, r => (low_foldl h l (f r a)).trans (h r a)
theorem low_ini (r : Tab) (f : NF) : Low (ini1 r f) r := by
  unfold ini1
  split
  · exact low_set (by assumption)
  · exact .refl r
theorem low_fw1 (mid a : Nat) (r : Tab) (b : Nat) : Low (fw1 mid a r b) r := by
  unfold fw1
  split
  · exact .refl r
  · split
    · exact low_set (by assumption)
    · exact .refl r
theorem low_row (N mid : Nat) (r : Tab) (a : Nat) : Low (fwRow N mid r a) r := low_foldl (low_fw1 mid a) _ r
theorem low_mid (N : Nat) (r : Tab) (mid : Nat) : Low (fwMid N r mid) r := low_foldl (low_row N mid) _ r
def st (r : Tab) (mid : Nat) : Tab := fun i j => omin (r i j) (osum (r i mid) (r mid j))
theorem fw1_at (mid a b : Nat) (r : Tab) : fw1 mid a r b = setT r a b (st r mid a b) := by
  funext i j
  unfold fw1 st setT
  cases h : osum (r a mid) (r mid b) with
  | none =>
    by_cases q : i = a ∧ j = b
    · obtain ⟨rfl, rfl⟩ := q
      cases h3 : r i j <;> simp [omin, h3]
    · simp [q]
  | some far =>
    cases h2 : r a b with
    | none =>
      by_cases q : i = a ∧ j = b
      · obtain ⟨rfl, rfl⟩ := q
        simp [olt, omin]
      · simp [olt, q]
    | some v =>
      by_cases q : i = a ∧ j = b
      · obtain ⟨rfl, rfl⟩ := q
        by_cases c : far < v <;> simp [olt, omin, c, h2]
      · by_cases c : far < v <;> simp [olt, c, q]
theorem osum_zero (a : Option Int) : osum a (some 0) = a := by cases a <;> simp [osum]
theorem zero_osum (a : Option Int) : osum (some 0) a = a := by cases a <;> simp [osum]
theorem omin_self (a : Option Int) : omin a a = a := by cases a <;> simp [omin]
theorem st_col {r : Tab} {mid : Nat} (h : r mid mid = some 0) (i : Nat) : st r mid i mid = r i mid := by
  unfold st
  rw [h, osum_zero, omin_self]
theorem st_row {r : Tab} {mid : Nat} (h : r mid mid = some 0) (j : Nat) : st r mid mid j = r mid j := by
  unfold st
  rw [h, zero_osum, omin_self]
theorem foldl_range {β : Type} (f : β → Nat → β) (b : β) (n : Nat) : (List.range (n + 1)).foldl f b = f ((List.range n).foldl f b) n := by
  rw [List.range_succ, List.foldl_append]
  rfl
theorem row_st {r : Tab} {mid a : Nat} (h : r mid mid = some 0) : ∀ k : Nat, (List.range k).foldl (fw1 mid a) r = fun i j => if i = a ∧ j < k then st r mid i j else r i j
  | 0 => by funext i j; simp
  | k + 1 => by
    rw [foldl_range, row_st h k, fw1_at]
    funext i j
    have c1 : (if a = a ∧ mid < k then st r mid a mid else r a mid) = r a mid := by rw [st_col h]; split <;> rfl
    have c2 : (if mid = a ∧ k < k then st r mid mid k else r mid k) = r mid k := by simp
    have c3 : (if a = a ∧ k < k then st r mid a k else r a k) = r a k := by simp
    have e : st (fun i j => if i = a ∧ j < k then st r mid i j else r i j) mid a k = st r mid a k := by
      show omin (if a = a ∧ k < k then st r mid a k else r a k) (osum (if a = a ∧ mid < k then st r mid a mid else r a mid) (if mid = a ∧ k < k then st r mid mid k else r mid k)) = _
      rw [c1, c2, c3]
      rfl
    unfold setT
    rw [e]
    by_cases q : i = a ∧ j = k
    · obtain ⟨rfl, rfl⟩ := q
      simp
    · rw [if_neg q]
      show (if i = a ∧ j < k then st r mid i j else r i j) = _
      by_cases q2 : i = a ∧ j < k
      · rw [if_pos q2, if_pos ⟨q2.1, by omega⟩]
      · rw [if_neg q2, if_neg (by omega)]
theorem mid_st {N : Nat} {r : Tab} {mid : Nat} (h : r mid mid = some 0) : ∀ k : Nat, (List.range k).foldl (fwRow N mid) r = fun i j => if i < k ∧ j < N then st r mid i j else r i j
  | 0 => by funext i j; simp
  | k + 1 => by
    rw [foldl_range, mid_st h k]
    have hm : (fun i j => if i < k ∧ j < N then st r mid i j else r i j : Tab) mid mid = some 0 := by
      show (if mid < k ∧ mid < N then st r mid mid mid else r mid mid) = some 0
      rw [st_row h, h]
      split <;> rfl
    have e := row_st (r := fun i j => if i < k ∧ j < N then st r mid i j else r i j) (a := k) hm N
    unfold fwRow
    rw [e]
    funext i j
    have c : ∀ j, st (fun i j => if i < k ∧ j < N then st r mid i j else r i j) mid k j = st r mid k j := fun j => by
      show omin (if k < k ∧ j < N then st r mid k j else r k j) (osum (if k < k ∧ mid < N then st r mid k mid else r k mid) (if mid < k ∧ j < N then st r mid mid j else r mid j)) = _
      rw [st_row h]
      simp
      rfl
    by_cases q : i = k ∧ j < N
    · obtain ⟨rfl, q⟩ := q
      rw [if_pos ⟨rfl, q⟩, c, if_pos ⟨by omega, q⟩]
    · rw [if_neg q]
      show (if i < k ∧ j < N then st r mid i j else r i j) = _
      by_cases q2 : i < k ∧ j < N
      · rw [if_pos q2, if_pos ⟨by omega, q2.2⟩]
      · rw [if_neg q2, if_neg (by omega)]

/-! ### the stages together -/
theorem mid_all {N : Nat} {r : Tab} {mid : Nat} (h : r mid mid = some 0) {i j : Nat} (hi : i < N) (hj : j < N) : fwMid N r mid i j = st r mid i j := by
  unfold fwMid
  rw [mid_st h N]
  show (if i < N ∧ j < N then _ else _) = _
  rw [if_pos ⟨hi, hj⟩]
structure Half (N : Nat) (fs : List NF) (k : Nat) (m : Tab) : Prop where
  snd : ∀ x y b, x < N → y < N → m x y = some b → Walk N fs x y b
  dia : ∀ x, x < N → m x x = some 0
  edg : ∀ x y c, Edge N fs x y c → ∃ b, m x y = some b ∧ b ≤ c
  tri : ∀ x y z a b, x < N → y < k → z < N → m x y = some a → m y z = some b → ∃ c, m x z = some c ∧ c ≤ a + b
theorem st_low (r : Tab) (mid : Nat) {i j : Nat} {v : Int} (h : r i j = some v) : ∃ w, st r mid i j = some w ∧ w ≤ v := omin_l h
theorem st_via (r : Tab) (mid : Nat) {i j : Nat} {u v : Int} (h : r i mid = some u) (h' : r mid j = some v) : ∃ w, st r mid i j = some w ∧ w ≤ u + v := by
  refine omin_r ?_
  rw [h, h']
  rfl
theorem st_cases {r : Tab} {mid i j : Nat} {v : Int} (h : st r mid i j = some v) : r i j = some v ∨ ∃ a b, r i mid = some a ∧ r mid j = some b ∧ v = a + b := by
  rcases omin_some h with ⟨h, _⟩ | ⟨h, _⟩
  · exact .inl h
  · exact .inr (osum_some h)
theorem half_next {N : Nat} {fs : List NF} {k : Nat} {m : Tab} (hN : 0 < N) (rg : Rng N fs) (h : Half N fs k m) (hk : k < N) (dia : ∀ x, x < N → fwMid N m k x x = some 0) : Half N fs (k + 1) (fwMid N m k) := by
  have hd := h.dia k hk
  have at_ : ∀ {i j : Nat}, i < N → j < N → fwMid N m k i j = st m k i j := fun hi hj => mid_all hd hi hj
  refine ⟨fun x y b hx hy e => ?_, dia, fun x y c e => ?_, fun x y z a b hx hy hz e1 e2 => ?_⟩
  · rw [at_ hx hy] at e
    rcases st_cases e with e | ⟨u, v, e1, e2, rfl⟩
    · exact h.snd x y b hx hy e
    · exact (h.snd x k u hx hk e1).append (h.snd k y v hk hy e2)
  · obtain ⟨b, h1, h2⟩ := h.edg x y c e
    obtain ⟨v, h3, h4⟩ := low_mid N m k x y b h1
    exact ⟨v, h3, by omega⟩
  · have hyN : y < N := by omega
    rw [at_ hx hyN] at e1
    rw [at_ hyN hz] at e2
    rw [at_ hx hz]
    by_cases q : y = k
    · subst q
      rw [st_col hd] at e1
      rw [st_row hd] at e2
      exact st_via m y e1 e2
    · have hy' : y < k := by omega
      rcases st_cases e1 with e1 | ⟨u, v, p1, p2, rfl⟩
      · rcases st_cases e2 with e2 | ⟨u', v', q1, q2, rfl⟩
        · obtain ⟨c, h1, h2⟩ := h.tri x y z a b hx hy' hz e1 e2
          obtain ⟨w, h3, h4⟩ := st_low m k h1
          exact ⟨w, h3, by omega⟩
        · obtain ⟨c, h1, h2⟩ := h.tri x y k a u' hx hy' hk e1 q1
          obtain ⟨w, h3, h4⟩ := st_via m k h1 q2
          exact ⟨w, h3, by omega⟩
      · rcases st_cases e2 with e2 | ⟨u', v', q1, q2, rfl⟩
        · obtain ⟨c, h1, h2⟩ := h.tri k y z v b hk hy' hz p2 e2
          obtain ⟨w, h3, h4⟩ := st_via m k p1 h1
          exact ⟨w, h3, by omega⟩
        · obtain ⟨c, h1, h2⟩ := h.tri k y k v u' hk hy' hk p2 q1
          rw [hd] at h1
          cases h1
          obtain ⟨w, h3, h4⟩ := st_via m k p1 q2
          exact ⟨w, h3, by omega⟩
/-- the start: base edges, then the facts -/
def ini (fs : List NF) : Tab := fs.foldl ini1 m0
structure Start (N : Nat) (fs : List NF) (m : Tab) : Prop where
  snd : ∀ x y b, x < N → y < N → m x y = some b → Walk N fs x y b
  dia : ∀ x, x < N → m x x = some 0
  edg : ∀ x y c, Edge N fs x y c → ∃ b, m x y = some b ∧ b ≤ c
theorem start_ini {N : Nat} : ∀ (gs fs : List NF) (m : Tab), Start N fs m → (∀ f ∈ gs, f.1 ≠ f.2.1) → Start N (fs ++ gs) (gs.foldl ini1 m)
  | [], fs, m, h, _ => by rwa [List.append_nil]
  | f :: gs, fs, m, h, ne => by
    have e : fs ++ f :: gs = (fs ++ [f]) ++ gs := by simp
    rw [e]
    refine start_ini gs (fs ++ [f]) (ini1 m f) ⟨fun x y b hx hy q => ?_, fun x hx => ?_, fun x y c q => ?_⟩ fun g hg => ne g (List.mem_cons_of_mem _ hg)
    · unfold ini1 at q
      split at q
      · unfold setT at q
        split at q
        · rename_i q2
          cases q
          refine .one (.inl (List.mem_append_right _ ?_))
          rw [q2.1, q2.2]
          exact List.mem_cons_self
        · exact (h.snd x y b hx hy q).more fun g hg => List.mem_append_left _ hg
      · exact (h.snd x y b hx hy q).more fun g hg => List.mem_append_left _ hg
    · unfold ini1
      split
      · unfold setT
        rw [if_neg fun z => ne f List.mem_cons_self (z.1.symm.trans z.2)]
        exact h.dia x hx
      · exact h.dia x hx
    · have old : ∀ {b : Int}, m x y = some b → ∃ b', ini1 m f x y = some b' ∧ b' ≤ b := fun q => low_ini m f x y _ q
      rcases q with q | q
      · rcases List.mem_append.mp q with q | q
        · obtain ⟨b, h1, h2⟩ := h.edg x y c (.inl q)
          obtain ⟨b', h3, h4⟩ := old h1
          exact ⟨b', h3, by omega⟩
        · simp at q
          subst q
          unfold ini1
          by_cases z : olt (some c) (m x y) = true
          · rw [if_pos z]
            exact ⟨c, by simp [setT], Int.le_refl _⟩
          · rw [if_neg z]
            cases w : m x y with
            | none => rw [w] at z; exact absurd rfl z
            | some b =>
              rw [w] at z
              exact ⟨b, rfl, by simpa [olt] using z⟩
      · obtain ⟨b, h1, h2⟩ := h.edg x y c (.inr q)
        obtain ⟨b', h3, h4⟩ := old h1
        exact ⟨b', h3, by omega⟩
theorem start_of {N : Nat} (fs : List NF) (ne : ∀ f ∈ fs, f.1 ≠ f.2.1) : Start N fs (ini fs) := by
  have k := clo_m0 N
  exact start_ini fs [] m0 ⟨k.snd, k.dia, k.edg⟩ ne
theorem dia_low {N : Nat} {a b : Tab} (l : Low a b) (h : ∀ x, x < N → b x x = some 0) : ∀ x, x < N → ∃ v, a x x = some v ∧ v ≤ 0 := fun x hx => l x x 0 (h x hx)
/-- the last diagonal has nothing below 0: the closure -/
theorem fw_clo {N : Nat} (hN : 0 < N) {fs : List NF} (rg : Rng N fs) (ne : ∀ f ∈ fs, f.1 ≠ f.2.1) (nn : ∀ x v, x < N → fwAll N (ini fs) x x = some v → 0 ≤ v) : Clo N fs (fwAll N (ini fs)) := by
  have s := start_of (N := N) fs ne
  have low : ∀ k, k ≤ N → Low (fwAll N (ini fs)) ((List.range k).foldl (fwMid N) (ini fs)) := fun k hk => by
    obtain ⟨d, rfl⟩ : ∃ d, N = k + d := ⟨N - k, by omega⟩
    unfold fwAll
    rw [List.range_add, List.foldl_append]
    exact low_foldl (low_mid _) _ _
  have low0 : ∀ k, Low ((List.range k).foldl (fwMid N) (ini fs)) (ini fs) := fun k => low_foldl (low_mid _) _ _
  have dia : ∀ k, k ≤ N → ∀ x, x < N → (List.range k).foldl (fwMid N) (ini fs) x x = some 0 := fun k hk x hx => by
    obtain ⟨v, h1, h2⟩ := low0 k x x 0 (s.dia x hx)
    obtain ⟨w, h3, h4⟩ := low k hk x x v h1
    have := nn x w hx h3
    rw [h1, show v = 0 by omega]
  have half : ∀ k, k ≤ N → Half N fs k ((List.range k).foldl (fwMid N) (ini fs)) := fun k => by
    induction k with
    | zero => exact fun _ => ⟨s.snd, s.dia, s.edg, fun x y z a b hx hy => by omega⟩
    | succ k ih =>
      intro hk
      rw [foldl_range]
      exact half_next hN rg (ih (by omega)) (by omega) fun x hx => by
        have := dia (k + 1) hk x hx
        rwa [foldl_range] at this
  have h := half N (Nat.le_refl _)
  exact ⟨h.snd, h.dia, h.edg, fun x y z a b hx hy hz => h.tri x y z a b hx hy hz⟩
theorem fw_dia {N : Nat} {fs : List NF} (ne : ∀ f ∈ fs, f.1 ≠ f.2.1) {x : Nat} (hx : x < N) : ∃ v, fwAll N (ini fs) x x = some v := by
  obtain ⟨v, h, _⟩ := low_foldl (low_mid N) (List.range N) (ini fs) x x 0 ((start_of (N := N) fs ne).dia x hx)
  exact ⟨v, h⟩
end K36

/-! M5: the law's table, in cells -/
namespace DD
open PySem PySem.Spec PyProof.Rows L2
theorem cellL_of {n : Nat} {S : Sto} {xs : List D} (h : S[n]? = some (some (.lst xs))) : cellL n S = some xs := by
  unfold cellL
  rw [h]
theorem ix_cell {c i : Nat} {xs : List D} {d : D} {S : Sto} (h : cellL c S = some xs) (e : xs[i]? = some d) : dIx (.cell c) (.int (i : Int)) S = .ok d S := by
  have h1 := seqA_cell (S := S) h
  show (seqA (.cell c) >>= fun xs => M.get fun _ => atI xs (i : Int) : M D) S = _
  rw [M.bind_run, h1]
  exact get_some (atI_nat e)
theorem ixN_nat {n i : Nat} (h : i < n) : ixN n (i : Int) = some i := by
  unfold ixN
  rw [if_pos (Int.natCast_nonneg i), if_pos (by omega)]
  simp
theorem setIx_cell {c i : Nat} {xs : List D} {v : D} {S : Sto} (h : cellL c S = some xs) (hi : i < xs.length) : setIx (.cell c) (.int (i : Int)) v S = .ok () (S.set c (some (.lst (xs.set i v)))) := by
  have g1 : M.get (cellL c) S = .ok xs S := get_some h
  have g2 : M.get (fun _ => ixN xs.length (i : Int)) S = .ok i S := get_some (ixN_nat hi)
  show (M.get (cellL c) >>= fun xs => M.get (fun _ => ixN xs.length (i : Int)) >>= fun j => M.put fun S => S.set c (some (.lst (xs.set j v)))) S = _
  rw [M.bind_run, g1]
  show (M.get (fun _ => ixN xs.length (i : Int)) >>= fun j => M.put fun S => S.set c (some (.lst (xs.set j v)))) S = _
  rw [M.bind_run, g2]
  rfl
theorem range_set {α : Type} (f : Nat → α) (n b : Nat) (v : α) : ((List.range n).map f).set b v = (List.range n).map fun y => if y = b then v else f y := by
  refine List.ext_getElem? fun j => ?_
  by_cases hj : j < n
  · by_cases hb : b = j
    · subst hb
      rw [List.getElem?_set_self (by simpa using hj)]
      simp [hj]
    · rw [List.getElem?_set_ne hb]
      have : ¬ j = b := fun e => hb e.symm
      simp [hj, this]
  · rw [List.getElem?_eq_none (by simp; omega), List.getElem?_eq_none (by simp; omega)]
end DD
namespace K36
open PySem PySem.Spec PyProof.Rows L2 DD
/-- the rows' cells stand from c0 on; ahead of them the store S0 -/
structure CI (S0 : Sto) (N : Nat) (r : Tab) (S : Sto) : Prop where
  len : S.length = S0.length + N
  old : ∀ n, n < S0.length → S[n]? = S0[n]?
  row : ∀ x, x < N → cellL (S0.length + x) S = some ((List.range N).map fun y => oi (r x y))
def rowsC (c0 N : Nat) : D := .lst ((List.range N).map fun x => D.cell (c0 + x))
theorem ix_rows {c0 N x : Nat} {S : Sto} (h : x < N) : dIx (rowsC c0 N) (.int (x : Int)) S = .ok (.cell (c0 + x)) S := ix_lst (by simp [h])
theorem CI.at {S0 : Sto} {N : Nat} {r : Tab} {S : Sto} (h : CI S0 N r S) {x y : Nat} (hx : x < N) (hy : y < N) : dIx (.cell (S0.length + x)) (.int (y : Int)) S = .ok (oi (r x y)) S := ix_cell (h.row x hx) (by simp [hy])
theorem CI.set {S0 : Sto} {N : Nat} {r : Tab} {S : Sto} (h : CI S0 N r S) {x y : Nat} (hx : x < N) (hy : y < N) (v : Option Int) :
    ∃ S', setIx (.cell (S0.length + x)) (.int (y : Int)) (oi v) S = .ok () S' ∧ CI S0 N (setT r x y v) S' := by
  refine ⟨_, setIx_cell (h.row x hx) (by simpa using hy), by rw [List.length_set]; exact h.len, fun n hn => ?_, fun x' hx' => ?_⟩
  · rw [List.getElem?_set_ne (by omega)]
    exact h.old n hn
  · by_cases e : x' = x
    · subst e
      refine cellL_of ?_
      rw [List.getElem?_set_self (by rw [h.len]; omega), range_set]
      congr 3
      refine List.map_congr_left fun y' _ => ?_
      unfold setT
      by_cases q : y' = y
      · simp [q]
      · simp [q]
    · have := h.row x' hx'
      unfold cellL at this ⊢
      rw [List.getElem?_set_ne (by omega)]
      rw [this]
      congr 1
      refine List.map_congr_left fun y' _ => ?_
      unfold setT
      rw [if_neg fun z => e z.1]

theorem l_closed3 {S0 : Sto} {N : Nat} {r : Tab} {S : Sto} (h : CI S0 N r S) (f : NF) (hx : f.1 < N) (hy : f.2.1 < N) (o0 o1 o2 o7 o8 : Option D) :
    ∃ S', L__law_closed_3 [o0, o1, o2, some (rowsC S0.length N), some (.int f.1), some (.int f.2.1), some (.int f.2.2), o7, o8] S = .ok (.nx [o0, o1, o2, some (rowsC S0.length N), some (.int f.1), some (.int f.2.1), some (.int f.2.2), o7, o8]) S' ∧ CI S0 N (ini1 r f) S' := by
  have a1 := ix_rows (c0 := S0.length) (S := S) hx
  have a2 := h.at hx hy
  obtain ⟨S', e, h'⟩ := h.set hx hy (some f.2.2)
  have e' : setIx (.cell (S0.length + f.1)) (.int (f.2.1 : Int)) (.int f.2.2) S = .ok () S' := e
  cases q : r f.1 f.2.1 with
  | none =>
    rw [q] at a2
    have hl : olt (some f.2.2) (r f.1 f.2.1) = true := by rw [q]; rfl
    refine ⟨S', ?_, by unfold ini1; rw [if_pos hl]; exact h'⟩
    simp [L__law_closed_3, a1, a2, oi, e']
  | some v =>
    rw [q] at a2
    by_cases c : f.2.2 < v
    · have hl : olt (some f.2.2) (r f.1 f.2.1) = true := by rw [q]; simp [olt, c]
      refine ⟨S', ?_, by unfold ini1; rw [if_pos hl]; exact h'⟩
      simp [L__law_closed_3, a1, a2, oi, e', c]
    · have hl : ¬ olt (some f.2.2) (r f.1 f.2.1) = true := by rw [q]; simp [olt]; omega
      refine ⟨S, ?_, by unfold ini1; rw [if_neg hl]; exact h⟩
      simp [L__law_closed_3, a1, a2, oi, c]
theorem l_closed4 {S0 : Sto} {N : Nat} {r : Tab} {S : Sto} (h : CI S0 N r S) (mid a b : Nat) (hm : mid < N) (ha : a < N) (hb : b < N) (o0 o1 o2 o6 o8 : Option D) :
    ∃ S' o8', L__law_closed_4 [o0, o1, o2, some (rowsC S0.length N), some (.int a), some (.int b), o6, some (.int mid), o8] S = .ok (.nx [o0, o1, o2, some (rowsC S0.length N), some (.int a), some (.int b), o6, some (.int mid), o8']) S' ∧ CI S0 N (fw1 mid a r b) S' := by
  have a1 := ix_rows (c0 := S0.length) (S := S) ha
  have a2 := ix_rows (c0 := S0.length) (S := S) hm
  have b1 := h.at ha hm
  have b2 := h.at hm hb
  have b3 := h.at ha hb
  cases q1 : r a mid with
  | none =>
    rw [q1] at b1
    refine ⟨S, o8, ?_, by unfold fw1; rw [q1]; exact h⟩
    simp [L__law_closed_4, a1, b1, oi]
  | some u =>
    rw [q1] at b1
    cases q2 : r mid b with
    | none =>
      rw [q2] at b2
      refine ⟨S, o8, ?_, by unfold fw1; rw [q1, q2]; exact h⟩
      simp [L__law_closed_4, a1, b1, a2, b2, oi]
    | some v =>
      rw [q2] at b2
      obtain ⟨S', e, h'⟩ := h.set ha hb (some (u + v))
      have e' : setIx (.cell (S0.length + a)) (.int (b : Int)) (.int (u + v)) S = .ok () S' := e
      have ef : fw1 mid a r b = if olt (some (u + v)) (r a b) then setT r a b (some (u + v)) else r := by
        unfold fw1
        rw [q1, q2]
        rfl
      rw [ef]
      cases q3 : r a b with
      | none =>
        rw [q3] at b3
        refine ⟨S', some (.int (u + v)), ?_, by rw [if_pos (show olt (some (u + v)) none = true from rfl)]; exact h'⟩
        simp [L__law_closed_4, a1, b1, a2, b2, b3, oi, e']
      | some w =>
        rw [q3] at b3
        by_cases c : u + v < w
        · refine ⟨S', some (.int (u + v)), ?_, by rw [if_pos (by simp [olt, c])]; exact h'⟩
          simp [L__law_closed_4, a1, b1, a2, b2, b3, oi, e', c]
        · refine ⟨S, some (.int (u + v)), ?_, by rw [if_neg (by simp [olt]; omega)]; exact h⟩
          simp [L__law_closed_4, a1, b1, a2, b2, b3, oi, c]
theorem take_succ_fold {β : Type} (f : β → Nat → β) (b : β) (i : Nat) : f ((List.range i).foldl f b) i = (List.range (i + 1)).foldl f b := (foldl_range f b i).symm
theorem l_closed5 {S0 : Sto} {N : Nat} (hN : N ≤ 1000) {r : Tab} {S : Sto} (h : CI S0 N r S) (mid a : Nat) (hm : mid < N) (ha : a < N) (o0 o1 o5 o6 o8 : Option D) :
    ∃ S' o5' o8', L__law_closed_5 [o0, o1, some (.int N), some (rowsC S0.length N), some (.int a), o5, o6, some (.int mid), o8] S = .ok (.nx [o0, o1, some (.int N), some (rowsC S0.length N), some (.int a), o5', o6, some (.int mid), o8']) S' ∧ CI S0 N (fwRow N mid r a) S' := by
  obtain ⟨ρ', S', e, o5', o8', hρ, h'⟩ := for_evi (tg := gSet 5) (body := L__law_closed_4) (fun i : Nat => D.int (i : Int)) (fun i ρ S' => ∃ o5 o8, ρ = [o0, o1, some (.int N), some (rowsC S0.length N), some (.int a), o5, o6, some (.int mid), o8] ∧ CI S0 N ((List.range i).foldl (fw1 mid a) r) S')
    (List.range N) [o0, o1, some (.int N), some (rowsC S0.length N), some (.int a), o5, o6, some (.int mid), o8] S ⟨o5, o8, rfl, h⟩ (by
      rintro i b ρ S' hb ⟨o5, o8, rfl, h'⟩
      obtain ⟨hi, rfl⟩ := range_get hb
      obtain ⟨S2, o8', e, h2⟩ := l_closed4 h' mid a b hm ha hi o0 o1 (some (.int N)) o6 o8
      refine ⟨_, _, _, S2, rfl, e, some (.int b), o8', rfl, ?_⟩
      rw [← take_succ_fold]
      exact h2)
  rw [List.length_range] at h'
  refine ⟨S', o5', o8', ?_, h'⟩
  simp [L__law_closed_5, rng1_run hN, e, hρ]
theorem l_closed6 {S0 : Sto} {N : Nat} (hN : N ≤ 1000) {r : Tab} {S : Sto} (h : CI S0 N r S) (mid : Nat) (hm : mid < N) (o0 o1 o4 o5 o6 o8 : Option D) :
    ∃ S' o4' o5' o8', L__law_closed_6 [o0, o1, some (.int N), some (rowsC S0.length N), o4, o5, o6, some (.int mid), o8] S = .ok (.nx [o0, o1, some (.int N), some (rowsC S0.length N), o4', o5', o6, some (.int mid), o8']) S' ∧ CI S0 N (fwMid N r mid) S' := by
  obtain ⟨ρ', S', e, o4', o5', o8', hρ, h'⟩ := for_evi (tg := gSet 4) (body := L__law_closed_5) (fun i : Nat => D.int (i : Int)) (fun i ρ S' => ∃ o4 o5 o8, ρ = [o0, o1, some (.int N), some (rowsC S0.length N), o4, o5, o6, some (.int mid), o8] ∧ CI S0 N ((List.range i).foldl (fwRow N mid) r) S')
    (List.range N) [o0, o1, some (.int N), some (rowsC S0.length N), o4, o5, o6, some (.int mid), o8] S ⟨o4, o5, o8, rfl, h⟩ (by
      rintro i a ρ S' hb ⟨o4, o5, o8, rfl, h'⟩
      obtain ⟨hi, rfl⟩ := range_get hb
      obtain ⟨S2, o5', o8', e, h2⟩ := l_closed5 hN h' mid a hm hi o0 o1 o5 o6 o8
      refine ⟨_, _, _, S2, rfl, e, some (.int a), o5', o8', rfl, ?_⟩
      rw [← take_succ_fold]
      exact h2)
  rw [List.length_range] at h'
  refine ⟨S', o4', o5', o8', ?_, h'⟩
  simp [L__law_closed_6, rng1_run hN, e, hρ]
/-- a new row of cells -/
theorem e_closed1 (i y : Nat) (o0 o1 o2 o3 o6 o7 o8 : Option D) (S : Sto) : E__law_closed_1 [o0, o1, o2, o3, some (.int (i : Int)), some (.int (y : Int)), o6, o7, o8] S = .ok (oi (m0 i y)) S := by
  have hs : (2 : Nat) ≤ sizeLine := le_line (by omega)
  by_cases h : i = 0 ∨ i = y <;> simp [E__law_closed_1, hs, in01, h, m0, oi]
theorem e_closed2 (N : Nat) (hN : N ≤ 1000) (i : Nat) (o0 o1 o3 o5 o6 o7 o8 : Option D) (S : Sto) : E__law_closed_2 [o0, o1, some (.int N), o3, some (.int (i : Int)), o5, o6, o7, o8] S = .ok (.cell S.length) (S ++ [some (.lst ((List.range N).map fun y => oi (m0 i y)))]) := by
  have lc := lc_mapi (tg := gSet 5) (te := E__law_closed_1) (ρ := [o0, o1, some (.int N), o3, some (.int (i : Int)), none, o6, o7, o8]) (S := S) (fun i : Nat => D.int (i : Int)) (fun y => oi (m0 i y)) (List.range N) [] (le_line (by simpa using hN)) (by
    intro y hy
    exact ⟨_, rfl, e_closed1 i y o0 o1 _ o3 o6 o7 o8 S⟩)
  simp only [List.nil_append] at lc
  simp [E__law_closed_2, rng1_run hN, wipeD, lc]
theorem closed_rows (N : Nat) (hN : N ≤ 1000) (o0 o1 o3 o5 o6 o7 o8 : Option D) (S : Sto) : ∃ S', dLcGo none (gSet 4) tYesD E__law_closed_2 [o0, o1, some (.int N), o3, none, o5, o6, o7, o8] ((List.range N).map fun i : Nat => D.int (i : Int)) [] S = .ok ((List.range N).map fun x => D.cell (S.length + x)) S' ∧ CI S N m0 S' := by
  obtain ⟨ys, S', e, rfl, h1, h2, h3⟩ := lc_evi (tg := gSet 4) (tt := tYesD) (te := E__law_closed_2) (ρ := [o0, o1, some (.int N), o3, none, o5, o6, o7, o8]) (fun i : Nat => D.int (i : Int))
    (fun i acc S' => acc = ((List.range i).map fun x => D.cell (S.length + x)) ∧ S'.length = S.length + i ∧ (∀ n, n < S.length → S'[n]? = S[n]?) ∧ ∀ x, x < i → cellL (S.length + x) S' = some ((List.range N).map fun y => oi (m0 x y)))
    (List.range N) S ⟨rfl, rfl, fun _ _ => rfl, fun x hx => by omega⟩ (le_line (by simpa using hN)) (by
      rintro i a acc S' ha ⟨rfl, h1, h2, h3⟩
      obtain ⟨hi, rfl⟩ := range_get ha
      refine ⟨_, _, true, _, rfl, tYes_run, ?_⟩
      simp only [if_true]
      refine ⟨_, _, e_closed2 N hN a o0 o1 o3 o5 o6 o7 o8 S', ?_, by simp [h1]; omega, fun n hn => ?_, fun x hx => ?_⟩
      · rw [List.range_succ, List.map_append, h1]
        rfl
      · rw [List.getElem?_append_left (by omega)]
        exact h2 n hn
      · by_cases q : x = a
        · subst q
          refine cellL_of ?_
          rw [List.getElem?_append_right (by omega), h1]
          simp
        · have := h3 x (by omega)
          unfold cellL at this ⊢
          rw [List.getElem?_append_left (by omega)]
          exact this)
  rw [List.length_range] at e h1 h3
  exact ⟨S', e, h1, h2, h3⟩

/-- some place of the diagonal is below 0 -/
def negAt (m : Tab) (x : Nat) : Bool := match m x x with
  | some v => decide (v < 0)
  | none => false
theorem f_closed (many : Nat) (hm : many ≤ 90) (fs : List NF) (rg : Rng (many + 1) fs) (ne : ∀ f ∈ fs, f.1 ≠ f.2.1) (S : Sto) :
    ∃ S', F__law_closed [.int many, .lst (fs.map factN)] S = .ok (if (List.range (many + 1)).any (negAt (fwAll (many + 1) (ini fs))) then .non else rowsC S.length (many + 1)) S' ∧ CI S (many + 1) (fwAll (many + 1) (ini fs)) S' := by
  have hN : many + 1 ≤ 1000 := by omega
  obtain ⟨S1, e1, c1⟩ := closed_rows (many + 1) hN (some (.int many)) (some (.lst (fs.map factN))) none none none none none S
  obtain ⟨ρ2, S2, e2, o4, o5, o6, hρ2, c2⟩ := for_evi (tg := gTupD 3 (gsCons (gSet 4) (gsCons (gSet 5) (gsCons (gSet 6) gsNil)))) (body := L__law_closed_3) factN
    (fun i ρ S' => ∃ o4 o5 o6, ρ = [some (.int many), some (.lst (fs.map factN)), some (.int ((many + 1 : Nat) : Int)), some (rowsC S.length (many + 1)), o4, o5, o6, none, none] ∧ CI S (many + 1) ((fs.take i).foldl ini1 m0) S')
    fs [some (.int many), some (.lst (fs.map factN)), some (.int ((many + 1 : Nat) : Int)), some (rowsC S.length (many + 1)), none, none, none, none, none] S1 ⟨none, none, none, rfl, c1⟩ (by
      rintro i f ρ S' hf ⟨o4, o5, o6, rfl, h'⟩
      have hi := (List.getElem?_eq_some_iff.mp hf).1
      have hmem : f ∈ fs := by rw [← (List.getElem?_eq_some_iff.mp hf).2]; exact List.getElem_mem hi
      obtain ⟨hx, hy⟩ := rg f hmem
      obtain ⟨S3, e3, c3⟩ := l_closed3 h' f hx hy (some (.int many)) (some (.lst (fs.map factN))) (some (.int ((many + 1 : Nat) : Int))) none none
      refine ⟨[some (.int many), some (.lst (fs.map factN)), some (.int ((many + 1 : Nat) : Int)), some (rowsC S.length (many + 1)), some (.int f.1), some (.int f.2.1), some (.int f.2.2), none, none], S', _, S3, by simp [factN], e3, some (.int f.1), some (.int f.2.1), some (.int f.2.2), rfl, ?_⟩
      have : fs.take (i + 1) = fs.take i ++ [f] := by
        rw [List.take_succ, hf]
        rfl
      rw [this, List.foldl_append]
      exact c3)
  rw [List.take_length] at c2
  obtain ⟨ρ3, S3, e3, p4, p5, p6, p7, p8, hρ3, c3⟩ := for_evi (tg := gSet 7) (body := L__law_closed_6) (fun i : Nat => D.int (i : Int))
    (fun i ρ S' => ∃ o4 o5 o6 o7 o8, ρ = [some (.int many), some (.lst (fs.map factN)), some (.int ((many + 1 : Nat) : Int)), some (rowsC S.length (many + 1)), o4, o5, o6, o7, o8] ∧ CI S (many + 1) ((List.range i).foldl (fwMid (many + 1)) (ini fs)) S')
    (List.range (many + 1)) ρ2 S2 ⟨o4, o5, o6, none, none, hρ2, c2⟩ (by
      rintro i a ρ S' ha ⟨o4, o5, o6, o7, o8, rfl, h'⟩
      obtain ⟨hi, rfl⟩ := range_get ha
      obtain ⟨S4, q4, q5, q8, e4, c4⟩ := l_closed6 hN h' a hi (some (.int many)) (some (.lst (fs.map factN))) o4 o5 o6 o8
      refine ⟨_, _, _, S4, rfl, e4, q4, q5, o6, some (.int a), q8, rfl, ?_⟩
      rw [← take_succ_fold]
      exact c4)
  rw [List.length_range] at c3
  have hd : ∀ x, x < many + 1 → ∃ v, fwAll (many + 1) (ini fs) x x = some v := fun x hx => fw_dia ne hx
  have lc := lc_filteri (tg := gSet 4) (tt := P__law_closed_7) (te := E__law_closed_8) (ρ := [some (.int many), some (.lst (fs.map factN)), some (.int ((many + 1 : Nat) : Int)), some (rowsC S.length (many + 1)), none, p5, p6, p7, p8]) (S := S3)
    (fun i : Nat => D.int (i : Int)) (fun i : Nat => D.int (i : Int)) (negAt (fwAll (many + 1) (ini fs))) (List.range (many + 1)) [] (le_line (by simpa using hN)) (by
      intro x hx
      have hx' : x < many + 1 := by simpa using hx
      obtain ⟨v, hv⟩ := hd x hx'
      have b1 := CI.at c3 hx' hx'
      rw [show (List.range (many + 1)).foldl (fwMid (many + 1)) (ini fs) x x = some v from hv] at b1
      refine ⟨_, rfl, ?_, fun _ => rfl⟩
      simp [P__law_closed_7, ix_rows hx', b1, oi, negAt, hv])
  simp only [List.nil_append] at lc
  have heq : dEq false (.lst (((List.range (many + 1)).filter (negAt (fwAll (many + 1) (ini fs)))).map fun i : Nat => D.int (i : Int))) (.lst []) S3 = .ok (.bl !((List.range (many + 1)).any (negAt (fwAll (many + 1) (ini fs))))) S3 := by
    have hp : pln 2 (.lst (((List.range (many + 1)).filter (negAt (fwAll (many + 1) (ini fs)))).map fun i : Nat => D.int (i : Int))) = true := by
      simp [pln]
    cases q : (List.range (many + 1)).any (negAt (fwAll (many + 1) (ini fs))) with
    | true =>
      rw [eq_f (n := 2) (by decide) hp rfl ?_]
      · rfl
      · intro z
        obtain ⟨x, hx, hn⟩ := List.any_eq_true.mp q
        have z' : (((List.range (many + 1)).filter (negAt (fwAll (many + 1) (ini fs)))).map fun i : Nat => D.int (i : Int)) = [] := by injection z
        have : x ∈ (List.range (many + 1)).filter (negAt (fwAll (many + 1) (ini fs))) := List.mem_filter.mpr ⟨hx, hn⟩
        rw [List.map_eq_nil_iff] at z'
        rw [z'] at this
        cases this
    | false =>
      rw [eq_t (n := 2) (by decide) hp rfl ?_]
      · have : (List.range (many + 1)).filter (negAt (fwAll (many + 1) (ini fs))) = [] := by
          rw [List.filter_eq_nil_iff]
          intro x hx hn
          have := List.any_eq_true.mpr ⟨x, hx, hn⟩
          rw [q] at this
          cases this
        rw [this]
        rfl
  refine ⟨S3, ?_, c3⟩
  have r1 : ∀ S, rng1 [.int ((many : Int) + 1)] S = .ok ((List.range (many + 1)).map fun i : Nat => D.int (i : Int), none) S := fun S => range_many1 hm S
  have c1' : ((many + 1 : Nat) : Int) = (many : Int) + 1 := by omega
  rw [c1'] at e1 e2 lc hρ2 hρ3
  rw [hρ2] at e3 e2
  have e1' : dLcGo none (gSet 4) tYesD E__law_closed_2 [some (.int many), some (.lst (fs.map factN)), some (.int ((many : Int) + 1)), none, none, none, none, none, none] ((List.range (many + 1)).map fun i : Nat => D.int (i : Int)) [] S = .ok ((List.range (many + 1)).map fun x => D.cell (S.length + x)) S1 := e1
  rw [hρ3] at e3
  have h0 : (0 : Nat) ≤ sizeLine := Nat.zero_le _
  have er : D.lst ((List.range (many + 1)).map fun x => D.cell (S.length + x)) = rowsC S.length (many + 1) := rfl
  generalize (List.range (many + 1)).any (negAt (fwAll (many + 1) (ini fs))) = bb at heq ⊢
  simp only [F__law_closed, runF_run', B__law_closed]
  cases bb <;> simp [r1, wipeD, e1', er, e2, e3, lc, heq]
end K36

/-! M6: the pit and what is drawn from it -/
namespace K36
open PySem PySem.Spec PyProof.Rows L2 DD
structure Pit (p k : Nat) (S : Sto) : Prop where
  ex : ∃ a b c : Int, cellL p S = some [.int a, .int b, .int c] ∧ 0 ≤ b ∧ b < 2 ^ 200 ∧ 0 ≤ c ∧ c + k ≤ 100000
/-- but for p, what was there is there -/
structure Ext (p : Nat) (S S' : Sto) : Prop where
  len : S.length ≤ S'.length
  old : ∀ n, n < S.length → n ≠ p → S'[n]? = S[n]?
theorem Ext.refl (p : Nat) (S : Sto) : Ext p S S := ⟨Nat.le_refl _, fun _ _ _ => rfl⟩
theorem Ext.trans {p : Nat} {a b c : Sto} (h : Ext p a b) (h' : Ext p b c) : Ext p a c := ⟨Nat.le_trans h.len h'.len, fun n hn e => (h'.old n (Nat.lt_of_lt_of_le hn h.len) e).trans (h.old n hn e)⟩
theorem Ext.cell {p n : Nat} {S S' : Sto} {xs : List D} (h : Ext p S S') (e : cellL n S = some xs) (hp : n ≠ p) : cellL n S' = some xs := by
  have hn := (List.getElem?_eq_some_iff.mp (cellL_some e)).1
  refine cellL_of ?_
  rw [h.old n hn hp]
  exact cellL_some e
theorem Pit.mono {p j k : Nat} {S : Sto} (h : Pit p k S) (l : j ≤ k) : Pit p j S := by
  obtain ⟨a, b, c, h1, h2, h3, h4, h5⟩ := h.ex
  exact ⟨a, b, c, h1, h2, h3, h4, by omega⟩
theorem Pit.lt {p k : Nat} {S : Sto} (h : Pit p k S) : p < S.length := by
  obtain ⟨a, b, c, h1, _⟩ := h.ex
  exact (List.getElem?_eq_some_iff.mp (cellL_some h1)).1
theorem Pit.same {p k : Nat} {S S' : Sto} (h : Pit p k S) (e : S'[p]? = S[p]?) : Pit p k S' := by
  obtain ⟨a, b, c, h1, h2⟩ := h.ex
  refine ⟨a, b, c, cellL_of ?_, h2⟩
  rw [e]
  exact cellL_some h1
theorem log_lt {i : Int} {n : Nat} (h0 : 0 ≤ i) (h : i < 2 ^ n) (hn : 0 < n) : i.natAbs.log2 < n := by
  by_cases z : i.natAbs = 0
  · rw [z]
    simpa using hn
  · refine (Nat.log2_lt z).mpr ?_
    have : ((i.natAbs : Nat) : Int) < ((2 ^ n : Nat) : Int) := by
      rw [Int.natAbs_of_nonneg h0]
      push_cast
      exact h
    exact Int.ofNat_lt.mp this
theorem mul_run {i j : Int} {S : Sto} (h : i.natAbs.log2 + j.natAbs.log2 < 1000000) : dMul (.int i) (.int j) S = .ok (.int (i * j)) S := by
  show (M.need (i.natAbs.log2 + j.natAbs.log2 < 1000000) >>= fun _ => pure (.int (i * j)) : M D) S = _
  rw [need_ok h]
  rfl
theorem mod_run {i j : Int} {S : Sto} (h : 0 < j) : dMod (.int i) (.int j) S = .ok (.int (i % j)) S := by
  show (M.need (0 < j) >>= fun _ => pure (.int (i % j)) : M D) S = _
  rw [need_ok h]
  rfl
theorem fdiv_run {i j : Int} {S : Sto} (h : 0 < j) (h2 : j.natAbs.log2 < 9000) : dFdiv (.int i) (.int j) S = .ok (.int (i / j)) S := by
  show (M.need (0 < j ∧ j.natAbs.log2 < 9000) >>= fun _ => pure (.int (i / j)) : M D) S = _
  rw [need_ok ⟨h, h2⟩]
  rfl
theorem pow_run {i j : Int} {S : Sto} (h : 0 ≤ j) (h2 : ((i.natAbs.log2 : Int) + 1) * j ≤ 134217728) : dPow (.int i) (.int j) S = .ok (.int (i ^ j.toNat)) S := by
  show (M.need (CPowW i j) >>= fun _ => pure (.int (i ^ j.toNat)) : M D) S = _
  rw [need_ok (show CPowW i j from ⟨h, h2⟩)]
  rfl
theorem ix0 {p : Nat} {S : Sto} {a b c : Int} (h : cellL p S = some [.int a, .int b, .int c]) : dIx (.cell p) (.int 0) S = .ok (.int a) S := ix_cell (i := 0) h rfl
theorem ix1 {p : Nat} {S : Sto} {a b c : Int} (h : cellL p S = some [.int a, .int b, .int c]) : dIx (.cell p) (.int 1) S = .ok (.int b) S := ix_cell (i := 1) h rfl
theorem ix2 {p : Nat} {S : Sto} {a b c : Int} (h : cellL p S = some [.int a, .int b, .int c]) : dIx (.cell p) (.int 2) S = .ok (.int c) S := ix_cell (i := 2) h rfl
theorem set0 {p : Nat} {S : Sto} {a b c d : Int} (h : cellL p S = some [.int a, .int b, .int c]) : setIx (.cell p) (.int 0) (.int d) S = .ok () (S.set p (some (.lst [.int d, .int b, .int c]))) := setIx_cell (i := 0) h (by simp)
theorem set2 {p : Nat} {S : Sto} {a b c d : Int} (h : cellL p S = some [.int a, .int b, .int c]) : setIx (.cell p) (.int 2) (.int d) S = .ok () (S.set p (some (.lst [.int a, .int b, .int d]))) := setIx_cell (i := 2) h (by simp)
theorem ext_set {p : Nat} {S : Sto} {c : Option Cell} : Ext p S (S.set p c) := ⟨by simp, fun n hn e => List.getElem?_set_ne (Ne.symm e)⟩
theorem cell_set {p : Nat} {S : Sto} {xs : List D} (h : p < S.length) : cellL p (S.set p (some (.lst xs))) = some xs := cellL_of (List.getElem?_set_self h)
@[simp] theorem int1_run {i : Int} {S : Sto} : int1 (.int i) S = .ok (.int i) S := nr rfl
@[simp] theorem abs1_run {i : Int} {S : Sto} : abs1 (.int i) S = .ok (.int (if i < 0 then -i else i)) S := nr rfl
theorem hoist_hi (p : Nat) (S : Sto) (a b c below : Int) (h : cellL p S = some [.int a, .int b, .int c]) (ha : 0 < a) (hb : 0 < below) (hb2 : below < 2 ^ 200) :
    F__law_hoist [.cell p, .int below] S = .ok (.int (a % below)) (S.set p (some (.lst [.int (a / below), .int b, .int c]))) := by
  have hl : below.natAbs.log2 < 9000 := Nat.lt_trans (log_lt (n := 200) (by omega) hb2 (by decide)) (by decide)
  simp [F__law_hoist, B__law_hoist, ix0 h, ha, mod_run hb, fdiv_run hb hl, set0 h]
theorem pow2_run {v : Int} {S : Sto} (h0 : 0 ≤ v) (h : v < 2 ^ 250) : dPow (.int v) (.int 2) S = .ok (.int (v ^ 2)) S := by
  have := log_lt (n := 250) h0 h (by decide)
  exact pow_run (by decide) (by omega)
theorem pow3_run {v : Int} {S : Sto} (h0 : 0 ≤ v) (h : v < 2 ^ 250) : dPow (.int v) (.int 3) S = .ok (.int (v ^ 3)) S := by
  have := log_lt (n := 250) h0 h (by decide)
  exact pow_run (by decide) (by omega)
theorem p38 {S : Sto} : dPow (.int 10) (.int 38) S = .ok (.int (10 ^ 38)) S := pow_run (by decide) (by decide +kernel)
theorem p39 {S : Sto} : dPow (.int 10) (.int 39) S = .ok (.int (10 ^ 39)) S := pow_run (by decide) (by decide +kernel)
theorem p18 {S : Sto} : dPow (.int 10) (.int 18) S = .ok (.int (10 ^ 18)) S := pow_run (by decide) (by decide +kernel)
theorem p37 {S : Sto} : dPow (.int 10) (.int 37) S = .ok (.int (10 ^ 37)) S := pow_run (by decide) (by decide +kernel)
theorem hoist_lo (p : Nat) (S : Sto) (a b c below : Int) (hp : p < S.length) (h : cellL p S = some [.int a, .int b, .int c]) (ha : ¬ 0 < a) (hb : 0 < below) (h1 : 0 ≤ b) (h2 : b < 2 ^ 200) (h3 : 0 ≤ c) (h4 : c < 100000) :
    ∃ d, F__law_hoist [.cell p, .int below] S = .ok (.int (d % below)) (S.set p (some (.lst [.int a, .int b, .int (c + 1)]))) := by
  have hs : cellL p (S.set p (some (.lst [.int a, .int b, .int (c + 1)]))) = some [.int a, .int b, .int (c + 1)] := cell_set hp
  have lc : (c + 1).natAbs.log2 < 20 := log_lt (by omega) (by omega) (by decide)
  have m1 : ∀ S, dMul (.int 60013) (.int (c + 1)) S = .ok (.int (60013 * (c + 1))) S := fun S => mul_run (by
    have : (60013 : Int).natAbs.log2 = 15 := by decide +kernel
    omega)
  have m2 : ∀ S, dMul (.int 800011) (.int (c + 1)) S = .ok (.int (800011 * (c + 1))) S := fun S => mul_run (by
    have : (800011 : Int).natAbs.log2 = 19 := by decide +kernel
    omega)
  have e1 : ∀ S, dPow (.int (b + 60013 * (c + 1))) (.int 2) S = .ok (.int ((b + 60013 * (c + 1)) ^ 2)) S := fun S => pow2_run (by omega) (by omega)
  have hm : (0 : Int) < 10 ^ 38 + 67 := by decide
  have hm2 : (0 : Int) < 10 ^ 39 + 37 := by decide
  have g1 := Int.emod_nonneg ((b + 60013 * (c + 1)) ^ 2) (Int.ne_of_gt hm)
  have g2 := Int.emod_lt_of_pos ((b + 60013 * (c + 1)) ^ 2) hm
  have d1 : ∀ S, dMod (.int ((b + 60013 * (c + 1)) ^ 2)) (.int (10 ^ 38 + 67)) S = .ok (.int ((b + 60013 * (c + 1)) ^ 2 % (10 ^ 38 + 67))) S := fun S => mod_run hm
  have e2 : ∀ S, dPow (.int ((b + 60013 * (c + 1)) ^ 2 % (10 ^ 38 + 67) + 800011 * (c + 1))) (.int 3) S = .ok (.int (((b + 60013 * (c + 1)) ^ 2 % (10 ^ 38 + 67) + 800011 * (c + 1)) ^ 3)) S := fun S => pow3_run (by omega) (by omega)
  generalize hw : ((b + 60013 * (c + 1)) ^ 2 % (10 ^ 38 + 67) + 800011 * (c + 1)) ^ 3 = w at e2
  have d2 : ∀ S, dMod (.int w) (.int (10 ^ 39 + 37)) S = .ok (.int (w % (10 ^ 39 + 37))) S := fun S => mod_run hm2
  have d3 : ∀ S, dFdiv (.int (w % (10 ^ 39 + 37))) (.int 524288) S = .ok (.int (w % (10 ^ 39 + 37) / 524288)) S := fun S => fdiv_run (by decide) (by decide +kernel)
  refine ⟨w % (10 ^ 39 + 37) / 524288, ?_⟩
  simp only [F__law_hoist, runF_run', B__law_hoist]
  simp [-Int.reducePow, ix0 h, ix2 h, ha, set2 h, ix1 hs, ix2 hs, m1, m2, e1, p38, d1, e2, p39, d2, d3, mod_run hb]
theorem f_hoist {p k : Nat} {S : Sto} (h : Pit p (k + 1) S) {below : Int} (hb : 0 < below) (hb2 : below < 2 ^ 200) :
    ∃ d S', F__law_hoist [.cell p, .int below] S = .ok (.int d) S' ∧ 0 ≤ d ∧ d < below ∧ Pit p k S' ∧ Ext p S S' := by
  have hp := h.lt
  obtain ⟨a, b, c, h1, h2, h3, h4, h5⟩ := h.ex
  by_cases ha : 0 < a
  · exact ⟨_, _, hoist_hi p S a b c below h1 ha hb hb2, Int.emod_nonneg _ (Int.ne_of_gt hb), Int.emod_lt_of_pos _ hb, ⟨_, b, c, cell_set hp, h2, h3, h4, by omega⟩, ext_set⟩
  · obtain ⟨d, e⟩ := hoist_lo p S a b c below hp h1 ha hb h2 h3 h4 (by omega)
    exact ⟨_, _, e, Int.emod_nonneg _ (Int.ne_of_gt hb), Int.emod_lt_of_pos _ hb, ⟨a, b, c + 1, cell_set hp, h2, h3, by omega, by omega⟩, ext_set⟩
/-- a drawn number as a Nat -/
theorem f_hoistN {p k : Nat} {S : Sto} (h : Pit p (k + 1) S) {below : Nat} (hb : 0 < below) (hb2 : below < 2 ^ 100) :
    ∃ (d : Nat) (S' : Sto), F__law_hoist [.cell p, .int (below : Int)] S = .ok (.int (d : Int)) S' ∧ d < below ∧ Pit p k S' ∧ Ext p S S' := by
  have : ((below : Nat) : Int) < ((2 ^ 100 : Nat) : Int) := Int.ofNat_lt.mpr hb2
  obtain ⟨d, S', e, h1, h2, h3, h4⟩ := f_hoist h (below := below) (by omega) (by omega)
  refine ⟨d.toNat, S', ?_, by omega, h3, h4⟩
  rw [Int.toNat_of_nonneg h1]
  exact e
end K36

/-! M7: names -/
namespace K36
open PySem PySem.Spec PyProof.Rows L2 DD
def L0 : Str := ("abcdefghijklmnopqrstuvwxyzABCDEFGHIJKLMNOPQRSTUVWXYZ" : Str)
def lets : List Nat := (List.range 26).map (· + 97) ++ (List.range 26).map (· + 65)
theorem L0_eq : L0.cps.toList = lets := by decide +kernel
def Zero : Str := ("zero" : Str)
def Chars (s : Str) : Prop := ∀ c ∈ s.cps.toList, c ∈ lets
structure NameOk (s : Str) : Prop where
  chars : Chars s
  ge : 1 ≤ s.length
  le : s.length ≤ 8
  nz : s ≠ Zero
theorem lets_small : ∀ c ∈ lets, c < 0x110000 := by decide
theorem Chars.ok {s : Str} (h : Chars s) : s.cps.all (· < 0x110000) = true := by
  rw [Array.all_eq_true_iff_forall_mem]
  intro c hc
  exact decide_eq_true (lets_small c (h c (by simpa using hc)))
theorem ix_let {d : Nat} (h : d < 52) (S : Sto) : ∃ c, c ∈ lets ∧ L0.cps.toList[d]? = some c ∧ dIx (.str L0) (.int (d : Int)) S = .ok (.str ⟨#[c]⟩) S := by
  have hl : d < L0.cps.toList.length := by rw [L0_eq]; simpa [lets] using h
  refine ⟨L0.cps.toList[d], by rw [← L0_eq]; exact List.getElem_mem hl, List.getElem?_eq_getElem hl, ?_⟩
  have hz : L0.length ≤ sizeLine := le_line (by decide +kernel)
  show (M.need (L0.length ≤ sizeLine) >>= fun _ => M.get (fun _ => atI L0.cps.toList (d : Int)) >>= fun c => pure (.str ⟨#[c]⟩) : M D) S = _
  rw [need_ok hz, M.bind_run, get_some (DD.atI_nat (List.getElem?_eq_getElem hl))]
  rfl
theorem app_list (a b : Str) : (a ++ b).cps.toList = a.cps.toList ++ b.cps.toList := by
  show (a.cps ++ b.cps).toList = _
  simp
theorem len_list (a : Str) : a.length = a.cps.toList.length := by simp [Str.length]
theorem app_len (a b : Str) : (a ++ b).length = a.length + b.length := by
  rw [len_list, app_list, List.length_append, ← len_list, ← len_list]
theorem Chars.app {a b : Str} (h : Chars a) (h' : Chars b) : Chars (a ++ b) := fun c hc => by
  rw [app_list] at hc
  exact (List.mem_append.mp hc).elim (h c) (h' c)
theorem Chars.cut {a : Str} (h : Chars a) (lo hi : Option Int) : Chars (cutS a lo hi) := fun c hc => by
  refine h c ?_
  unfold cutS at hc
  simp only [List.toList_toArray] at hc
  exact List.mem_of_mem_drop (List.mem_of_mem_take hc)
theorem Chars.one {c : Nat} (h : c ∈ lets) : Chars ⟨#[c]⟩ := fun d hd => by
  simp at hd
  subst hd
  exact h
theorem add_str {a b : Str} {S : Sto} (h : a.length + b.length ≤ sizeLine) : dAdd (.str a) (.str b) S = .ok (.str (a ++ b)) S := by
  show (M.need (a.length + b.length ≤ sizeLine) >>= fun _ => pure (.str (a ++ b)) : M D) S = _
  rw [need_ok h]
  rfl
theorem slice_str {a : Str} {lo hi : Option Int} {S : Sto} (h : a.length ≤ sizeLine) : dSlice (.str a) lo hi S = .ok (.str (cutS a lo hi)) S := by
  show (M.need (a.length ≤ sizeLine) >>= fun _ => pure (.str (cutS a lo hi)) : M D) S = _
  rw [need_ok h]
  rfl
theorem unStrs_map : ∀ ys : List Str, unStrs (ys.map D.str) = some ys
  | [] => rfl
  | y :: ys => by
    show (unStrs (ys.map D.str)).map (y :: ·) = _
    rw [unStrs_map ys]
    rfl
theorem join_run {a : Str} {ys : List Str} {S : Sto} (h : (ys.map (·.length)).sum + ys.length * a.length ≤ 16777216) : dJoin (.str a) [.lst (ys.map D.str)] S = .ok (.str (Txt.join a ys)) S := by
  show (seqA (.lst (ys.map D.str)) >>= fun xs => M.get (fun _ => unStrs xs) >>= fun ys => M.need ((ys.map (·.length)).sum + ys.length * a.length ≤ 16777216) >>= fun _ => pure (.str (Txt.join a ys)) : M D) S = _
  rw [M.bind_run]
  show (M.get (fun _ => unStrs (ys.map D.str)) >>= fun ys => M.need ((ys.map (·.length)).sum + ys.length * a.length ≤ 16777216) >>= fun _ => pure (.str (Txt.join a ys)) : M D) S = _
  rw [M.bind_run, get_some (unStrs_map ys)]
  show (M.need ((ys.map (·.length)).sum + ys.length * a.length ≤ 16777216) >>= fun _ => pure (.str (Txt.join a ys)) : M D) S = _
  rw [need_ok h]
  rfl
theorem joinL_nil : ∀ ls : List (List Nat), TL.joinL [] ls = ls.flatten
  | [] => rfl
  | [p] => by simp [TL.joinL]
  | p :: q :: r => by
    show p ++ ([] ++ TL.joinL [] (q :: r)) = _
    rw [joinL_nil (q :: r)]
    simp
theorem join_list (ys : List Str) : (Txt.join ("" : Str) ys).cps.toList = (ys.map fun y => y.cps.toList).flatten := by
  have e : TL.tl (Txt.join ("" : Str) ys) = TL.joinL (TL.tl ("" : Str)) (ys.map TL.tl) := by rw [TL.join_eq, TL.tl_join]
  have e0 : TL.tl ("" : Str) = [] := by decide +kernel
  rw [e0, joinL_nil] at e
  exact e
/-- the draws of a name's letters -/
theorem e_names1 {p k : Nat} {S : Sto} (h : Pit p (k + 1) S) (o1 o3 o4 o5 o6 o7 o8 o9 o10 o11 o12 : Option D) :
    ∃ c S', E__law_call_names_1 [some (.cell p), o1, some (.str L0), o3, o4, o5, o6, o7, o8, o9, o10, o11, o12] S = .ok (.str ⟨#[c]⟩) S' ∧ c ∈ lets ∧ Pit p k S' ∧ Ext p S S' := by
  obtain ⟨d, S', e, hd, h1, h2⟩ := f_hoistN h (below := 52) (by decide) (by decide)
  obtain ⟨c, hc, _, e2⟩ := ix_let hd S'
  have e' : F__law_hoist [.cell p, .int 52] S = .ok (.int (d : Int)) S' := e
  exact ⟨c, S', by simp [E__law_call_names_1, e', e2], hc, h1, h2⟩
/-- one letter and some more -/
theorem names_tail {p k sz : Nat} {S : Sto} (h : Pit p (k + sz) S) (hs : sz ≤ 6) (o1 o3 o4 o5 o6 o7 o8 o9 o10 o12 : Option D) :
    ∃ (ys : List Str) (S' : Sto), dLcGo none (gSet 11) tYesD E__law_call_names_1 [some (.cell p), o1, some (.str L0), o3, o4, o5, o6, o7, o8, o9, o10, none, o12] ((List.range sz).map fun i : Nat => D.int (i : Int)) [] S = .ok (ys.map D.str) S' ∧ ys.length = sz ∧ (∀ y ∈ ys, Chars y ∧ y.length = 1) ∧ Pit p k S' ∧ Ext p S S' := by
  obtain ⟨ds, S', e, ys, rfl, h1, h2, h3, h4⟩ := lc_evi (tg := gSet 11) (tt := tYesD) (te := E__law_call_names_1) (ρ := [some (.cell p), o1, some (.str L0), o3, o4, o5, o6, o7, o8, o9, o10, none, o12]) (fun i : Nat => D.int (i : Int))
    (fun i acc S' => ∃ ys : List Str, acc = ys.map D.str ∧ ys.length = i ∧ (∀ y ∈ ys, Chars y ∧ y.length = 1) ∧ Pit p (k + (sz - i)) S' ∧ Ext p S S')
    (List.range sz) S ⟨[], rfl, rfl, fun y hy => (by cases hy), h, .refl p S⟩ (le_line (by simp; omega)) (by
      rintro i a acc S' ha ⟨ys, rfl, h1, h2, h3, h4⟩
      obtain ⟨hi, rfl⟩ := range_get ha
      have h3' : Pit p (k + (sz - (a + 1)) + 1) S' := h3.mono (by omega)
      obtain ⟨c, S2, e, hc, h5, h6⟩ := e_names1 h3' o1 o3 o4 o5 o6 o7 o8 o9 o10 (some (.int a)) o12
      refine ⟨_, _, true, _, rfl, tYes_run, ?_⟩
      simp only [if_true]
      refine ⟨_, S2, e, ys ++ [⟨#[c]⟩], by simp, by simp [h1], fun y hy => ?_, h5, h4.trans h6⟩
      rcases List.mem_append.mp hy with hy | hy
      · exact h2 y hy
      · rw [List.mem_singleton.mp hy]
        exact ⟨.one hc, rfl⟩)
  rw [List.length_range, Nat.sub_self] at h3
  rw [List.length_range] at h1
  exact ⟨ys, S', e, h1, h2, h3, h4⟩
theorem join_ok {ys : List Str} (h : ∀ y ∈ ys, Chars y ∧ y.length = 1) : Chars (Txt.join ("" : Str) ys) ∧ (Txt.join ("" : Str) ys).length = ys.length := by
  constructor
  · intro c hc
    rw [join_list] at hc
    obtain ⟨l, hl, hc⟩ := List.mem_flatten.mp hc
    obtain ⟨y, hy, rfl⟩ := List.mem_map.mp hl
    exact (h y hy).1 c hc
  · rw [len_list, join_list, List.length_flatten, List.map_map]
    have : ∀ ys : List Str, (∀ y ∈ ys, Chars y ∧ y.length = 1) → (ys.map (List.length ∘ fun y => y.cps.toList)).sum = ys.length := by
      intro ys
      induction ys with
      | nil => intro _; rfl
      | cons y ys ih =>
        intro h
        have h1 := (h y List.mem_cons_self).2
        rw [len_list] at h1
        have h2 := ih fun z hz => h z (List.mem_cons_of_mem _ hz)
        simp only [List.map_cons, List.sum_cons, Function.comp, List.length_cons] at h2 ⊢
        rw [h1]
        have h3 : (ys.map fun y => y.cps.toList.length).sum = ys.length := h2
        omega
    exact this ys h
end K36

/-! M8: the drawn names -/
namespace DD
open PySem PySem.Spec PyProof.Rows L2
theorem sSeq_nx {sa sb : DEnv → M Fl} {ρ ρ1 : DEnv} {S S1 : Sto} (h : sa ρ S = .ok (.nx ρ1) S1) : sSeq sa sb ρ S = sb ρ1 S1 := by
  rw [sSeq_run, bind_r, h]
  exact thenS_nx
theorem sSeq_rt {sa sb : DEnv → M Fl} {ρ : DEnv} {d : D} {S S1 : Sto} (h : sa ρ S = .ok (.rt d) S1) : sSeq sa sb ρ S = .ok (.rt d) S1 := by
  rw [sSeq_run, bind_r, h]
  exact thenS_rt
theorem eq_cell {neg : Bool} {q : Nat} {xs : List D} {y : D} {S : Sto} (h : cellL q S = some xs) : dEq neg (.cell q) y S = dEq neg (.lst xs) y S := by
  have e : toP S 70 (.cell q) = toP S 70 (.lst xs) := by
    show (cellL q S).bind (fun ds => (toPs (toP S 69) ds).map PyData.list) = _
    rw [h]
    rfl
  have e2 : (M.get fun S => toP S 70 (.cell q)) S = (M.get fun S => toP S 70 (.lst xs)) S := by
    unfold M.get
    dsimp only
    rw [e]
  unfold dEq
  rw [M.bind_run, M.bind_run, e2]
@[simp] theorem dMt_run {T : String} {F : D → List D → M D} {f : DEnv → M D} {fs : DEnv → M (List D)} {ρ : DEnv} {S : Sto} : dMt T F f fs ρ S = (f ρ >>= fun x => isTy T x >>= fun _ => fs ρ >>= fun ds => F x ds) S := nr rfl
theorem isTy_cell {n : Nat} {xs : List D} {S : Sto} (h : cellL n S = some xs) : isTy "list" (.cell n) S = .ok () S := by
  show (M.get (cellL n) >>= fun _ => M.need ("list" = "list")) S = _
  rw [M.bind_run, get_some h]
  rfl
@[simp] theorem isTy_lst {xs : List D} {S : Sto} : isTy "list" (.lst xs) S = .ok () S := nr rfl
@[simp] theorem isTy_str {x : Str} {S : Sto} : isTy "str" (.str x) S = .ok () S := nr rfl
theorem append_run {n : Nat} {xs : List D} {d : D} {S : Sto} (h : cellL n S = some xs) (hl : xs.length < sizeLine) : dAppend (.cell n) [d] S = .ok .non (S.set n (some (.lst (xs ++ [d])))) := by
  show (M.get (cellL n) >>= fun xs => M.need (xs.length < sizeLine) >>= fun _ => M.put (fun S => S.set n (some (.lst (xs ++ [d])))) >>= fun _ => pure .non : M D) S = _
  rw [M.bind_run, get_some h]
  show (M.need (xs.length < sizeLine) >>= fun _ => M.put (fun S => S.set n (some (.lst (xs ++ [d])))) >>= fun _ => pure .non : M D) S = _
  rw [need_ok hl]
  rfl
theorem ix_last {q : Nat} {xs : List D} {x : D} {S : Sto} (h : cellL q S = some xs) (e : xs.getLast? = some x) : dIx (.cell q) (.int (-1)) S = .ok x S := by
  have h1 := seqA_cell (S := S) h
  have hl : 0 < xs.length := by
    cases xs with
    | nil => cases e
    | cons a l => simp
  have h2 : atI xs (-1) = some x := by
    unfold atI ixN
    rw [if_neg (by decide), if_pos (by omega)]
    rw [List.getLast?_eq_getElem?] at e
    show xs[((-1 : Int) + (xs.length : Int)).toNat]? = some x
    rw [show ((-1 : Int) + (xs.length : Int)).toNat = xs.length - 1 by omega]
    exact e
  show (seqA (.cell q) >>= fun xs => M.get fun _ => atI xs (-1) : M D) S = _
  rw [M.bind_run, h1]
  exact get_some h2
theorem nodup_sub {α : Type} [DecidableEq α] : ∀ {l m : List α}, l.Nodup → (∀ x ∈ l, x ∈ m) → l.length ≤ m.length
  | [], m, _, _ => Nat.zero_le _
  | a :: l, m, h, hs => by
    obtain ⟨h1, h2⟩ := List.nodup_cons.mp h
    have ha := hs a List.mem_cons_self
    have ih := nodup_sub (m := m.erase a) h2 fun x hx => (List.mem_erase_of_ne fun e => h1 (by rw [← e]; exact hx)).mpr (hs x (List.mem_cons_of_mem _ hx))
    rw [List.length_erase_of_mem ha] at ih
    have : 0 < m.length := List.length_pos_of_mem ha
    rw [List.length_cons]
    omega
end DD
namespace K36
open PySem PySem.Spec PyProof.Rows L2 DD
theorem cut_to (a : Str) (k : Nat) : (cutS a none (some (k : Int))).length = min k a.length := by
  rw [len_list]
  unfold cutS
  rw [HT.sIx_nat, HT.sIx_none]
  simp [len_list]
theorem cut_but (a : Str) : (cutS a none (some (-1))).length = a.length - 1 := by
  rw [len_list]
  unfold cutS
  rw [HT.sIx_none]
  have : HT.sIx a.length a.length (some (-1)) = a.length - 1 := by
    show (if (-1 : Int) < 0 then ((-1 : Int) + (a.length : Int)).toNat else min (-1 : Int).toNat a.length) = _
    rw [if_pos (by decide)]
    omega
  rw [this]
  simp [len_list]
theorem cut_from (a : Str) (k : Nat) : (cutS a (some (k : Int)) none).length = a.length - k := by
  rw [len_list]
  unfold cutS
  rw [HT.sIx_nat, HT.sIx_none]
  simp [len_list]
  omega
/-- the spare names of the k-th turn -/
def spare (k i : Nat) : Str := ⟨#[lets.getD (7 * k + i) 0]⟩ ++ ("z" : Str)
theorem spare_ok {k i : Nat} (hk : k < 6) (hi : i < 7) : Chars (spare k i) ∧ (spare k i).length = 2 := by
  have h : ∀ k, k < 6 → ∀ i, i < 7 → (spare k i).cps.toList.all (fun c => lets.contains c) = true ∧ (spare k i).length = 2 := by decide +kernel
  obtain ⟨h1, h2⟩ := h k hk i hi
  refine ⟨fun c hc => ?_, h2⟩
  have := List.all_eq_true.mp h1 c hc
  simpa using this
theorem spare_nodup {k : Nat} (hk : k < 6) : ((List.range 7).map (spare k)).Nodup := by
  have h : ∀ k, k < 6 → ((List.range 7).map (spare k)).Nodup := by decide +kernel
  exact h k hk
theorem e_names2 {k i : Nat} (hk : k < 6) (hi : i < 7) (o0 o1 o3 o5 o6 o7 o8 o9 o10 o12 : Option D) (S : Sto) :
    E__law_call_names_2 [o0, o1, some (.str L0), o3, some (.int (k : Int)), o5, o6, o7, o8, o9, o10, some (.int (i : Int)), o12] S = .ok (.str (spare k i)) S := by
  obtain ⟨c, hc, h1, e⟩ := ix_let (d := 7 * k + i) (by omega) S
  have m1 : dMul (.int 7) (.int (k : Int)) S = .ok (.int (7 * (k : Int))) S := mul_run (by
    have : (7 : Int).natAbs.log2 = 2 := by decide +kernel
    have h2 : ((k : Int)).natAbs.log2 < 10 := log_lt (by omega) (by omega) (by decide)
    omega)
  have e' : dIx (.str L0) (.int (7 * (k : Int) + (i : Int))) S = .ok (.str ⟨#[c]⟩) S := by
    rw [show (7 * (k : Int) + (i : Int)) = ((7 * k + i : Nat) : Int) by push_cast; rfl]
    exact e
  have hs : spare k i = ⟨#[c]⟩ ++ ("z" : Str) := by
    unfold spare
    rw [← L0_eq, List.getD_eq_getElem?_getD, h1]
    rfl
  have a1 : dAdd (.str ⟨#[c]⟩) (.str ("z" : Str)) S = .ok (.str (⟨#[c]⟩ ++ ("z" : Str))) S := add_str (le_line (by
    have : ("z" : Str).length = 1 := by decide +kernel
    rw [this]
    show 1 + 1 ≤ 1000
    decide))
  rw [hs]
  simp [E__law_call_names_2, m1, e', a1]
theorem spares (k : Nat) (hk : k < 6) (o0 o1 o3 o5 o6 o7 o8 o9 o10 o12 : Option D) (S : Sto) :
    dLcGo none (gSet 11) tYesD E__law_call_names_2 [o0, o1, some (.str L0), o3, some (.int (k : Int)), o5, o6, o7, o8, o9, o10, none, o12] ((List.range 7).map fun i : Nat => D.int (i : Int)) [] S = .ok (((List.range 7).map (spare k)).map D.str) S := by
  have := lc_mapi (tg := gSet 11) (te := E__law_call_names_2) (ρ := [o0, o1, some (.str L0), o3, some (.int (k : Int)), o5, o6, o7, o8, o9, o10, none, o12]) (S := S) (fun i : Nat => D.int (i : Int)) (fun i => .str (spare k i)) (List.range 7) [] (le_line (by simp)) (by
    intro i hi
    exact ⟨_, rfl, e_names2 hk (by simpa using hi) o0 o1 o3 o5 o6 o7 o8 o9 o10 o12 S⟩)
  rw [this, List.nil_append, List.map_map]
  rfl
theorem in_names {x : Str} {ns : List Str} {q : Nat} {neg : Bool} {S : Sto} (hx : Chars x) (hn : ∀ y ∈ ns, Chars y) (h : cellL q S = some (ns.map D.str)) : dIn neg (.str x) (.cell q) S = .ok (.bl (decide (x ∈ ns) != neg)) S := by
  classical
  rw [in_plain (n := 1) (x := .str x) (ys := ns.map D.str) (by decide) hx.ok (fun y hy => by
    obtain ⟨z, hz, rfl⟩ := List.mem_map.mp hy
    exact (hn z hz).ok) (seqA_cell h)]
  have : (D.str x ∈ ns.map D.str) ↔ x ∈ ns := by simp
  by_cases c : x ∈ ns
  · rw [decide_eq_true (this.mpr c), decide_eq_true c]
  · rw [decide_eq_false fun z => c (this.mp z), decide_eq_false c]
/-- what is taken of the spare ones -/
theorem spare_pick {k : Nat} (hk : k < 6) {ns : List Str} (hl : ns.length = k) (hn : ∀ y ∈ ns, Chars y) {q : Nat} {S : Sto} (h : cellL q S = some (ns.map D.str)) (o0 o1 o2 o4 o5 o6 o7 o8 o9 o10 o11 : Option D) :
    ∃ (x : Str) (r : List Str), dLcGo none (gSet 12) P__law_call_names_3 E__law_call_names_4 [o0, o1, o2, some (.cell q), o4, o5, o6, o7, o8, o9, o10, o11, none] (((List.range 7).map (spare k)).map D.str) [] S = .ok ((x :: r).map D.str) S ∧ x ∉ ns ∧ Chars x ∧ x.length = 2 := by
  have lc := lc_filteri (tg := gSet 12) (tt := P__law_call_names_3) (te := E__law_call_names_4) (ρ := [o0, o1, o2, some (.cell q), o4, o5, o6, o7, o8, o9, o10, o11, none]) (S := S) D.str D.str (fun x => !decide (x ∈ ns)) ((List.range 7).map (spare k)) [] (le_line (by simp)) (by
    intro x hx
    obtain ⟨i, hi, rfl⟩ := List.mem_map.mp hx
    refine ⟨_, rfl, ?_, fun _ => rfl⟩
    have := in_names (neg := true) (spare_ok hk (by simpa using hi)).1 hn h
    simp [P__law_call_names_3, this])
  rw [List.nil_append] at lc
  cases e : ((List.range 7).map (spare k)).filter (fun x => !decide (x ∈ ns)) with
  | nil =>
    exfalso
    have hall : ∀ x ∈ (List.range 7).map (spare k), x ∈ ns := fun x hx => by
      have := List.filter_eq_nil_iff.mp e x hx
      simpa using this
    have := nodup_sub (spare_nodup hk) hall
    simp at this
    omega
  | cons x r =>
    rw [e] at lc
    have hx : x ∈ ((List.range 7).map (spare k)).filter (fun x => !decide (x ∈ ns)) := by rw [e]; exact List.mem_cons_self
    obtain ⟨h1, h2⟩ := List.mem_filter.mp hx
    obtain ⟨i, hi, rfl⟩ := List.mem_map.mp h1
    obtain ⟨h3, h4⟩ := spare_ok hk (show i < 7 by simpa using hi)
    exact ⟨_, r, lc, by simpa using h2, h3, h4⟩
end K36

/-! M9: the drawn names, together -/
namespace K36
open PySem PySem.Spec PyProof.Rows L2 DD
theorem Ext.new {p q : Nat} {S0 S : Sto} {c : Option Cell} (h : Ext p S0 S) (hq : S0.length ≤ q) : Ext p S0 (S.set q c) := ⟨by rw [List.length_set]; exact h.len, fun n hn e => by
  rw [List.getElem?_set_ne (by omega)]
  exact h.old n hn e⟩
theorem pick4 (d1 d2 : Nat) (h1 : d1 < 7) (h2 : d2 < 4) (S : Sto) : ∃ sz : Nat, sz ≤ 6 ∧ dIx (.lst [.int 0, .int 0, .int 2, .int (d1 : Int)]) (.int (d2 : Int)) S = .ok (.int (sz : Int)) S := by
  match d2, h2 with
  | 0, _ => exact ⟨0, by omega, ix_lst (i := 0) rfl⟩
  | 1, _ => exact ⟨0, by omega, ix_lst (i := 1) rfl⟩
  | 2, _ => exact ⟨2, by omega, ix_lst (i := 2) rfl⟩
  | 3, _ => exact ⟨d1, by omega, ix_lst (i := 3) rfl⟩
theorem pick3 {a b c : D} (d : Nat) (h : d < 3) (S : Sto) : dIx (.lst [a, b, c]) (.int (d : Int)) S = .ok ([a, b, c][d]'h) S := ix_lst (by simp)
theorem neg1 {S : Sto} : dNeg (.int 1) S = .ok (.int (-1)) S := rfl
theorem l_names5 {p q k j : Nat} {S0 S : Sto} {ns : List Str} (h : Pit p (j + 12) S) (hq : cellL q S = some (ns.map D.str)) (hpq : q ≠ p) (hS0 : S0.length ≤ q) (hE : Ext p S0 S) (hn : ∀ y ∈ ns, NameOk y) (hnd : ns.Nodup) (hl : ns.length = k) (hk : k < 6) (o1 o5 o6 o7 o8 o9 o10 o11 o12 : Option D) :
    ∃ x S' r5 r6 r7 r8 r9 r10 r11 r12, L__law_call_names_5 [some (.cell p), o1, some (.str L0), some (.cell q), some (.int (k : Int)), o5, o6, o7, o8, o9, o10, o11, o12] S = .ok (.nx [some (.cell p), o1, some (.str L0), some (.cell q), some (.int (k : Int)), r5, r6, r7, r8, r9, r10, r11, r12]) S' ∧
      NameOk x ∧ x ∉ ns ∧ cellL q S' = some ((ns ++ [x]).map D.str) ∧ Pit p j S' ∧ Ext p S0 S' := by
  obtain ⟨d1, S1, e1, b1, p1, x1⟩ := f_hoistN (h.mono (show j + 11 + 1 ≤ j + 12 by omega)) (below := 7) (by decide) (by decide)
  obtain ⟨d2, S2, e2, b2, p2, x2⟩ := f_hoistN (p1.mono (show j + 10 + 1 ≤ j + 11 by omega)) (below := 4) (by decide) (by decide)
  obtain ⟨sz, hsz, e3⟩ := pick4 d1 d2 b1 b2 S2
  obtain ⟨way, S3, e4, b4, p3, x3⟩ := f_hoistN (p2.mono (show j + 9 + 1 ≤ j + 10 by omega)) (below := 6) (by decide) (by decide)
  obtain ⟨d4, S4, e5, b5, p4, x4⟩ := f_hoistN (p3.mono (show j + 8 + 1 ≤ j + 9 by omega)) (below := 52) (by decide) (by decide)
  obtain ⟨c, hc, _, e6⟩ := ix_let b5 S4
  have e1' : F__law_hoist [.cell p, .int 7] S = .ok (.int (d1 : Int)) S1 := e1
  have e2' : F__law_hoist [.cell p, .int 4] S1 = .ok (.int (d2 : Int)) S2 := e2
  have e4' : F__law_hoist [.cell p, .int 6] S2 = .ok (.int (way : Int)) S3 := e4
  have e5' : F__law_hoist [.cell p, .int 52] S3 = .ok (.int (d4 : Int)) S4 := e5
  have h4le : (4 : Nat) ≤ sizeLine := le_line (by omega)
  obtain ⟨ys, S5, e7, hy1, hy2, p5, x5⟩ := names_tail (k := j) (sz := sz) (p4.mono (by omega)) hsz o1 (some (.cell q)) (some (.int (k : Int))) (some (.int (sz : Int))) (some (.int (way : Int))) (some (.str ⟨#[c]⟩)) o8 o9 o10 o12
  obtain ⟨j1, j2⟩ := join_ok hy2
  have hjn : dJoin (.str ("" : Str)) [.lst (ys.map D.str)] S5 = .ok (.str (Txt.join ("" : Str) ys)) S5 := join_run (by
    have h0 : ("" : Str).length = 0 := by decide +kernel
    have : ∀ l : List Str, (∀ y ∈ l, Chars y ∧ y.length = 1) → (l.map (·.length)).sum = l.length := by
      intro l
      induction l with
      | nil => intro _; rfl
      | cons y l ih =>
        intro hl
        have a1 := (hl y List.mem_cons_self).2
        have a2 := ih fun z hz => hl z (List.mem_cons_of_mem _ hz)
        simp only [List.map_cons, List.sum_cons, List.length_cons, a1, a2]
        omega
    rw [this ys hy2, h0]
    omega)
  have l1 : (⟨#[c]⟩ : Str).length = 1 := rfl
  generalize hw : (⟨#[c]⟩ ++ Txt.join ("" : Str) ys : Str) = w at *
  have w1 : Chars w := by rw [← hw]; exact (Chars.one hc).app j1
  have w2 : w.length = 1 + sz := by rw [← hw, app_len, l1, j2, hy1]
  have a1 : dAdd (.str ⟨#[c]⟩) (.str (Txt.join ("" : Str) ys)) S5 = .ok (.str w) S5 := by
    rw [← hw]
    exact add_str (le_line (by rw [l1, j2, hy1]; omega))
  have q5 : cellL q S5 = some (ns.map D.str) := (((((x1.trans x2).trans x3).trans x4).trans x5).cell hq hpq)
  have E5 : Ext p S0 S5 := hE.trans ((((x1.trans x2).trans x3).trans x4).trans x5)
  -- the first three statements
  have s1 : (sPar 5 6 (aCons (dOp dIx (dLst (aCons (dC (.int 0)) (aCons (dC (.int 0)) (aCons (dC (.int 2)) (aCons (dCall 2 F__law_hoist (aCons (dVar 0) (aCons (dC (.int 7)) aNil))) aNil))))) (dCall 2 F__law_hoist (aCons (dVar 0) (aCons (dC (.int 4)) aNil)))) (aCons (dCall 2 F__law_hoist (aCons (dVar 0) (aCons (dC (.int 6)) aNil))) aNil)))
      [some (.cell p), o1, some (.str L0), some (.cell q), some (.int (k : Int)), o5, o6, o7, o8, o9, o10, o11, o12] S = .ok (.nx [some (.cell p), o1, some (.str L0), some (.cell q), some (.int (k : Int)), some (.int (sz : Int)), some (.int (way : Int)), o7, o8, o9, o10, o11, o12]) S3 := by
    simp [e1', e2', e3, e4', h4le]
  have s2 : (sSet 7 (dOp dIx (dVar 2) (dCall 2 F__law_hoist (aCons (dVar 0) (aCons (dC (.int 52)) aNil))))) [some (.cell p), o1, some (.str L0), some (.cell q), some (.int (k : Int)), some (.int (sz : Int)), some (.int (way : Int)), o7, o8, o9, o10, o11, o12] S3 = .ok (.nx [some (.cell p), o1, some (.str L0), some (.cell q), some (.int (k : Int)), some (.int (sz : Int)), some (.int (way : Int)), some (.str ⟨#[c]⟩), o8, o9, o10, o11, o12]) S4 := by
    simp [e5', e6]
  have s3 : (sSet 8 (dOp dAdd (dVar 7) (dMt "str" dJoin (dC (.str ("" : Str))) (aCons (dLc (srcA rng1 (aCons (dVar 5) aNil)) (gSet 11) tYesD E__law_call_names_1 [11]) aNil)))) [some (.cell p), o1, some (.str L0), some (.cell q), some (.int (k : Int)), some (.int (sz : Int)), some (.int (way : Int)), some (.str ⟨#[c]⟩), o8, o9, o10, o11, o12] S4 = .ok (.nx [some (.cell p), o1, some (.str L0), some (.cell q), some (.int (k : Int)), some (.int (sz : Int)), some (.int (way : Int)), some (.str ⟨#[c]⟩), some (.str w), o9, o10, o11, o12]) S5 := by
    simp [rng1_run (show sz ≤ 1000 by omega), wipeD, e7, hjn, a1]
  -- the other ways
  have s4 : ∃ v o9', (sIf (tAndD (tVal (dOp (dEq true) (dVar 3) (dLst aNil))) (tVal (dOp dLt (dVar 6) (dC (.int 3)))))
      (sSeq (sSet 9 (dOp dIx (dVar 3) (dUn dNeg (dC (.int 1)))))
      (sSet 8 (dOp dIx (dLst (aCons (dOp dAdd (dSl (dVar 9) oNone (oSome (dC (.int 7)))) (dVar 7)) (aCons (dOp dAdd (dSl (dVar 9) oNone (oSome (dUn dNeg (dC (.int 1))))) (dVar 7)) (aCons (dOp dAdd (dOp dAdd (dSl (dVar 9) oNone (oSome (dC (.int 1)))) (dVar 7)) (dSl (dVar 9) (oSome (dC (.int 2))) oNone)) aNil)))) (dVar 6))))
      sNext) [some (.cell p), o1, some (.str L0), some (.cell q), some (.int (k : Int)), some (.int (sz : Int)), some (.int (way : Int)), some (.str ⟨#[c]⟩), some (.str w), o9, o10, o11, o12] S5 = .ok (.nx [some (.cell p), o1, some (.str L0), some (.cell q), some (.int (k : Int)), some (.int (sz : Int)), some (.int (way : Int)), some (.str ⟨#[c]⟩), some (.str v), o9', o10, o11, o12]) S5 ∧ Chars v ∧ 1 ≤ v.length ∧ v.length ≤ 8 := by
    have hne : dEq true (.cell q) (.lst []) S5 = .ok (.bl (decide (ns ≠ []))) S5 := by
      rw [eq_cell q5]
      have hp : pln 2 (.lst (ns.map D.str)) = true := by
        simp only [pln, List.all_eq_true]
        intro y hy
        obtain ⟨z, hz, rfl⟩ := List.mem_map.mp hy
        exact (hn z hz).chars.ok
      by_cases c0 : ns = []
      · rw [eq_t (n := 2) (by decide) hp rfl (by rw [c0]; rfl)]
        simp [c0]
      · rw [eq_f (n := 2) (by decide) hp rfl (fun z => c0 (by
          have z' : ns.map D.str = [] := by injection z
          exact List.map_eq_nil_iff.mp z'))]
        simp [c0]
    by_cases c0 : ns = []
    · exact ⟨w, o9, by simp [hne, c0], w1, by omega, by omega⟩
    · by_cases c1 : way < 3
      · have c1' : (way : Int) < 3 := by omega
        obtain ⟨old, ho⟩ : ∃ old, ns.getLast? = some old := by
          cases hh : ns.getLast? with
          | none => exact absurd (List.getLast?_eq_none_iff.mp hh) c0
          | some o => exact ⟨o, rfl⟩
        have hold := hn old (List.mem_of_getLast? ho)
        have g1 : dIx (.cell q) (.int (-1)) S5 = .ok (.str old) S5 := ix_last q5 (by rw [List.getLast?_map, ho]; rfl)
        have g2 := hold.le
        have g3 := hold.ge
        have f1 : dSlice (.str old) none (some 7) S5 = .ok (.str (cutS old none (some 7))) S5 := slice_str (le_line (by omega))
        have f2 : dSlice (.str old) none (some (-1)) S5 = .ok (.str (cutS old none (some (-1)))) S5 := slice_str (le_line (by omega))
        have f3 : dSlice (.str old) none (some 1) S5 = .ok (.str (cutS old none (some 1))) S5 := slice_str (le_line (by omega))
        have f4 : dSlice (.str old) (some 2) none S5 = .ok (.str (cutS old (some 2) none)) S5 := slice_str (le_line (by omega))
        have k1 : (cutS old none (some 7)).length = min 7 old.length := cut_to old 7
        have k2 := cut_but old
        have k3 : (cutS old none (some 1)).length = min 1 old.length := cut_to old 1
        have k4 : (cutS old (some 2) none).length = old.length - 2 := cut_from old 2
        have u1 : dAdd (.str (cutS old none (some 7))) (.str ⟨#[c]⟩) S5 = .ok (.str (cutS old none (some 7) ++ ⟨#[c]⟩)) S5 := add_str (le_line (by omega))
        have u2 : dAdd (.str (cutS old none (some (-1)))) (.str ⟨#[c]⟩) S5 = .ok (.str (cutS old none (some (-1)) ++ ⟨#[c]⟩)) S5 := add_str (le_line (by omega))
        have u3 : dAdd (.str (cutS old none (some 1))) (.str ⟨#[c]⟩) S5 = .ok (.str (cutS old none (some 1) ++ ⟨#[c]⟩)) S5 := add_str (le_line (by omega))
        have u4 : dAdd (.str (cutS old none (some 1) ++ ⟨#[c]⟩)) (.str (cutS old (some 2) none)) S5 = .ok (.str (cutS old none (some 1) ++ ⟨#[c]⟩ ++ cutS old (some 2) none)) S5 := add_str (le_line (by rw [app_len]; omega))
        have h3 : (3 : Nat) ≤ sizeLine := le_line (by omega)
        have pk := pick3 (a := .str (cutS old none (some 7) ++ ⟨#[c]⟩)) (b := .str (cutS old none (some (-1)) ++ ⟨#[c]⟩)) (c := .str (cutS old none (some 1) ++ ⟨#[c]⟩ ++ cutS old (some 2) none)) way c1 S5
        obtain ⟨v, hv, v1, v2, v3⟩ : ∃ v : Str, [D.str (cutS old none (some 7) ++ ⟨#[c]⟩), .str (cutS old none (some (-1)) ++ ⟨#[c]⟩), .str (cutS old none (some 1) ++ ⟨#[c]⟩ ++ cutS old (some 2) none)][way]'c1 = .str v ∧ Chars v ∧ 1 ≤ v.length ∧ v.length ≤ 8 := by
          match way, c1 with
          | 0, _ => exact ⟨_, rfl, (hold.chars.cut _ _).app (.one hc), by rw [app_len]; omega, by rw [app_len]; omega⟩
          | 1, _ => exact ⟨_, rfl, (hold.chars.cut _ _).app (.one hc), by rw [app_len]; omega, by rw [app_len]; omega⟩
          | 2, _ => exact ⟨_, rfl, ((hold.chars.cut _ _).app (.one hc)).app (hold.chars.cut _ _), by rw [app_len, app_len]; omega, by rw [app_len, app_len]; omega⟩
        rw [hv] at pk
        refine ⟨v, some (.str old), ?_, v1, v2, v3⟩
        have os : ∀ (i : Int) (ρ : DEnv), oSome (dC (.int i)) ρ S5 = .ok (some i) S5 := fun i ρ => rfl
        have osn : ∀ (ρ : DEnv), oSome (dUn dNeg (dC (.int 1))) ρ S5 = .ok (some (-1)) S5 := fun ρ => rfl
        simp [hne, c0, c1', neg1, g1, os, osn, f1, f2, f3, f4, u1, u2, u3, u4, h3, pk]
      · have c1' : ¬ (way : Int) < 3 := by omega
        exact ⟨w, o9, by simp [hne, c0, c1'], w1, by omega, by omega⟩
  obtain ⟨v, o9', e8, v1, v2, v3⟩ := s4
  have zc : Chars Zero := by
    intro c hc
    have : Zero.cps.toList.all (fun c => lets.contains c) = true := by decide +kernel
    simpa using List.all_eq_true.mp this c hc
  have hin := in_names (neg := false) v1 (fun y hy => (hn y hy).chars) q5
  have heq : dEq false (.str v) (.str Zero) S5 = .ok (.bl (decide (v = Zero) != false)) S5 := eq_str v1.ok zc.ok
  have heq' : dEq false (.str v) (.str ("zero" : Str)) S5 = .ok (.bl (decide (v = Zero) != false)) S5 := heq
  have s5 : ∃ x o10' , (sIf (tOrD (tVal (dOp (dIn false) (dVar 8) (dVar 3))) (tVal (dOp (dEq false) (dVar 8) (dC (.str ("zero" : Str))))))
      (sSeq (sSet 10 (dLc (srcA rng1 (aCons (dC (.int 7)) aNil)) (gSet 11) tYesD E__law_call_names_2 [11]))
      (sSet 8 (dOp dIx (dLc (srcSeq (dVar 10)) (gSet 12) P__law_call_names_3 E__law_call_names_4 [12]) (dC (.int 0)))))
      sNext) [some (.cell p), o1, some (.str L0), some (.cell q), some (.int (k : Int)), some (.int (sz : Int)), some (.int (way : Int)), some (.str ⟨#[c]⟩), some (.str v), o9', o10, o11, o12] S5 = .ok (.nx [some (.cell p), o1, some (.str L0), some (.cell q), some (.int (k : Int)), some (.int (sz : Int)), some (.int (way : Int)), some (.str ⟨#[c]⟩), some (.str x), o9', o10', o11, o12]) S5 ∧ NameOk x ∧ x ∉ ns := by
    have again : (v ∈ ns ∨ v = Zero) → ∃ x o10', (sSeq (sSet 10 (dLc (srcA rng1 (aCons (dC (.int 7)) aNil)) (gSet 11) tYesD E__law_call_names_2 [11]))
      (sSet 8 (dOp dIx (dLc (srcSeq (dVar 10)) (gSet 12) P__law_call_names_3 E__law_call_names_4 [12]) (dC (.int 0))))) [some (.cell p), o1, some (.str L0), some (.cell q), some (.int (k : Int)), some (.int (sz : Int)), some (.int (way : Int)), some (.str ⟨#[c]⟩), some (.str v), o9', o10, o11, o12] S5 = .ok (.nx [some (.cell p), o1, some (.str L0), some (.cell q), some (.int (k : Int)), some (.int (sz : Int)), some (.int (way : Int)), some (.str ⟨#[c]⟩), some (.str x), o9', o10', o11, o12]) S5 ∧ NameOk x ∧ x ∉ ns := fun _ => by
      have t1 := spares k hk (some (.cell p)) o1 (some (.cell q)) (some (.int (sz : Int))) (some (.int (way : Int))) (some (.str ⟨#[c]⟩)) (some (.str v)) o9' o10 o12 S5
      obtain ⟨x, r, t2, x1, x2, x3⟩ := spare_pick hk hl (fun y hy => (hn y hy).chars) q5 (some (.cell p)) o1 (some (.str L0)) (some (.int (k : Int))) (some (.int (sz : Int))) (some (.int (way : Int))) (some (.str ⟨#[c]⟩)) (some (.str v)) o9' (some (.lst (((List.range 7).map (spare k)).map D.str))) o11
      have rn : rng1 [.int 7] S5 = .ok ((List.range 7).map fun i : Nat => D.int (i : Int), none) S5 := rng1_run (n := 7) (by omega)
      have ih : dIx (.lst ((x :: r).map D.str)) (.int 0) S5 = .ok (.str x) S5 := ix_lst (i := 0) rfl
      have zl : Zero.length = 4 := by decide +kernel
      refine ⟨x, some (.lst (((List.range 7).map (spare k)).map D.str)), ?_, ⟨x2, by omega, by omega, fun e => by rw [e, zl] at x3; cases x3⟩, x1⟩
      rw [sSeq_nx (ρ1 := [some (.cell p), o1, some (.str L0), some (.cell q), some (.int (k : Int)), some (.int (sz : Int)), some (.int (way : Int)), some (.str ⟨#[c]⟩), some (.str v), o9', some (.lst (((List.range 7).map (spare k)).map D.str)), o11, o12]) (S1 := S5) (by simp only [sSet_run, cat_run, dLc_run, srcA_run, aCons_run, aNil_run, dC_run, bind_r, pure_r, rn, wipeD, List.set_cons_succ, List.set_cons_zero, nx_run, t1])]
      simp only [sSet_run, cat_run, dOp_run, dLc_run, srcSeq_run, dVar_run, bind_r, pure_r, wipeD, List.set_cons_succ, List.set_cons_zero, nx_run, List.getElem?_cons_succ, List.getElem?_cons_zero, Option.join_some, getc, srcOf_lst, t2, dC_run, ih]
    by_cases m1 : v ∈ ns
    · obtain ⟨x, o10', e9, x1⟩ := again (.inl m1)
      refine ⟨x, o10', ?_, x1⟩
      rw [← e9]
      simp [-sSeq_run, -sSet_run, hin, m1]
    · by_cases m2 : v = Zero
      · obtain ⟨x, o10', e9, x1⟩ := again (.inr m2)
        refine ⟨x, o10', ?_, x1⟩
        rw [← e9]
        have heq2 : dEq false (.str v) (.str ("zero" : Str)) S5 = .ok (.bl true) S5 := by rw [heq', decide_eq_true m2]; rfl
        simp [-sSeq_run, -sSet_run, hin, m1, heq2]
      · refine ⟨v, o10, ?_, ⟨v1, v2, v3, m2⟩, m1⟩
        simp [hin, m1, heq', m2]
  obtain ⟨x, o10', e9, x1, x2⟩ := s5
  have hlen : (ns.map D.str).length < sizeLine := Nat.lt_of_lt_of_le (by rw [List.length_map]; omega) (le_line (n := 100) (by omega))
  have hqlt : q < S5.length := (List.getElem?_eq_some_iff.mp (cellL_some q5)).1
  have s6 : (sExpr (dMt "list" dAppend (dVar 3) (aCons (dVar 8) aNil))) [some (.cell p), o1, some (.str L0), some (.cell q), some (.int (k : Int)), some (.int (sz : Int)), some (.int (way : Int)), some (.str ⟨#[c]⟩), some (.str x), o9', o10', o11, o12] S5 = .ok (.nx [some (.cell p), o1, some (.str L0), some (.cell q), some (.int (k : Int)), some (.int (sz : Int)), some (.int (way : Int)), some (.str ⟨#[c]⟩), some (.str x), o9', o10', o11, o12]) (S5.set q (some (.lst (ns.map D.str ++ [.str x])))) := by
    simp [isTy_cell q5, append_run q5 hlen]
  refine ⟨x, S5.set q (some (.lst (ns.map D.str ++ [.str x]))), some (.int (sz : Int)), some (.int (way : Int)), some (.str ⟨#[c]⟩), some (.str x), o9', o10', o11, o12, ?_, x1, x2, ?_, ?_, E5.new hS0⟩
  · unfold L__law_call_names_5
    rw [sSeq_nx s1, sSeq_nx s2, sSeq_nx s3, sSeq_nx e8, sSeq_nx e9, s6]
  · rw [List.map_append]
    exact cell_set hqlt
  · exact p5.same (List.getElem?_set_ne hpq)

/-- drawn names -/
structure Names (ns : List Str) : Prop where
  ok : ∀ y ∈ ns, NameOk y
  nd : ns.Nodup
theorem f_names {p many j : Nat} {S : Sto} (hm : many ≤ 6) (h : Pit p (j + 12 * many) S) : ∃ ns S', F__law_call_names [.cell p, .int (many : Int)] S = .ok (.tup (ns.map D.str)) S' ∧ ns.length = many ∧ Names ns ∧ Pit p j S' ∧ Ext p S S' := by
  have hp := h.lt
  have hpq : S.length ≠ p := by omega
  have h0 : (0 : Nat) ≤ sizeLine := Nat.zero_le _
  have x0 : Ext p S (S ++ [some (.lst [])]) := ⟨by simp, fun n hn _ => List.getElem?_append_left hn⟩
  have p0 : Pit p (j + 12 * many) (S ++ [some (.lst [])]) := h.same (List.getElem?_append_left hp)
  have c0 : cellL S.length (S ++ [some (.lst [])]) = some [] := cellL_of (by simp)
  obtain ⟨ρ', S', e, ns, o5, o6, o7, o8, o9, o10, o11, o12, o4, hρ, h1, h2, h3, h4, h5, h6⟩ := for_evi (tg := gSet 4) (body := L__law_call_names_5) (fun i : Nat => D.int (i : Int))
    (fun i ρ S' => ∃ ns o5 o6 o7 o8 o9 o10 o11 o12 o4, ρ = [some (.cell p), some (.int (many : Int)), some (.str L0), some (.cell S.length), o4, o5, o6, o7, o8, o9, o10, o11, o12] ∧ ns.length = i ∧ (∀ y ∈ ns, NameOk y) ∧ ns.Nodup ∧ cellL S.length S' = some (ns.map D.str) ∧ Pit p (j + 12 * (many - i)) S' ∧ Ext p S S')
    (List.range many) [some (.cell p), some (.int (many : Int)), some (.str L0), some (.cell S.length), none, none, none, none, none, none, none, none, none] (S ++ [some (.lst [])])
    ⟨[], none, none, none, none, none, none, none, none, none, rfl, rfl, fun y hy => (by cases hy), List.nodup_nil, c0, p0, x0⟩ (by
      rintro i a ρ S' ha ⟨ns, o5, o6, o7, o8, o9, o10, o11, o12, o4, rfl, h1, h2, h3, h4, h5, h6⟩
      obtain ⟨hi, rfl⟩ := range_get ha
      obtain ⟨x, S2, q5, q6, q7, q8, q9, q10, q11, q12, e, g1, g2, g3, g4, g5⟩ := l_names5 (j := j + 12 * (many - (a + 1))) (h5.mono (by omega)) h4 hpq (Nat.le_refl _) h6 h2 h3 h1 (by omega) (some (.int (many : Int))) o5 o6 o7 o8 o9 o10 o11 o12
      refine ⟨_, _, _, S2, rfl, e, ns ++ [x], q5, q6, q7, q8, q9, q10, q11, q12, some (.int (a : Int)), rfl, by simp [h1], fun y hy => ?_, ?_, g3, g4, g5⟩
      · rcases List.mem_append.mp hy with hy | hy
        · exact h2 y hy
        · rw [List.mem_singleton.mp hy]
          exact g1
      · rw [List.nodup_append]
        refine ⟨h3, by simp, fun a ha b hb => ?_⟩
        rw [List.mem_singleton.mp hb]
        exact fun e => g2 (by rw [← e]; exact ha))
  rw [List.length_range] at h1 h5
  rw [Nat.sub_self] at h5
  refine ⟨ns, S', ?_, h1, ⟨h2, h3⟩, h5, h6⟩
  have h2le : (2 : Nat) ≤ sizeLine := le_line (by omega)
  have sa := seqA_cell (S := S') h4
  rw [hρ] at e
  have e' : dFor none (gSet 4) L__law_call_names_5 ((List.range many).map fun i : Nat => D.int (i : Int)) [some (.cell p), some (.int (many : Int)), some (.str ("abcdefghijklmnopqrstuvwxyzABCDEFGHIJKLMNOPQRSTUVWXYZ" : Str)), some (.cell S.length), none, none, none, none, none, none, none, none, none] (S ++ [some (.lst [])]) = _ := e
  simp [F__law_call_names, B__law_call_names, h2le, rng1_run (show many ≤ 1000 by omega), e', sa]
end K36

/-! M10: facts by names and by numbers; drawn facts -/
namespace DD
open PySem PySem.Spec PyProof.Rows L2
theorem idx_find {n : Nat} : ∀ {l : List D} {i : Nat} {x : D}, (∀ y ∈ l, pln n y = true) → pln n x = true → l.Nodup → l[i]? = some x → (pds l).findIdx? (fun z => PyData.eqv z (pd x)) = some i
  | [], i, x, _, _, _, h => by simp at h
  | y :: l, 0, x, hp, hx, _, h => by
    simp at h
    subst h
    rw [pds, List.findIdx?_cons, (eqv_plain n y y hx hx).mpr rfl]
    rfl
  | y :: l, i + 1, x, hp, hx, hn, h => by
    obtain ⟨h1, h2⟩ := List.nodup_cons.mp hn
    have h3 : l[i]? = some x := by simpa using h
    have hm : x ∈ l := List.mem_of_getElem? h3
    have hne : PyData.eqv (pd y) (pd x) = false := Bool.eq_false_iff.mpr fun q => h1 (by rw [(eqv_plain n y x (hp y List.mem_cons_self) hx).mp q]; exact hm)
    rw [pds, List.findIdx?_cons, hne]
    have ih := idx_find (fun z hz => hp z (List.mem_cons_of_mem _ hz)) hx h2 h3
    simp [ih]
theorem index_run {n : Nat} {l : List D} {i : Nat} {x : D} {S : Sto} (hn : n ≤ 63) (hp : ∀ y ∈ l, pln n y = true) (hx : pln n x = true) (hd : l.Nodup) (h : l[i]? = some x) : dIndexL (.lst l) [x] S = .ok (.int (i : Int)) S := by
  have h1 := toP_plain (S := S) 70 x (plain_mono n x hx 70 (by omega))
  have h2 : toPs (toP S 70) l = some (pds l) := toPs_all fun y hy' => toP_plain 70 y (plain_mono n y (hp y hy') 70 (by omega))
  have h3 : SeqAt.shaped (.list (pds l)) = true := by
    have h : pln (n + 1) (.lst l) = true := by simpa [pln] using hp
    exact shaped_plain (n := n + 1) (by omega) h
  have g1 : M.get (fun S => toP S 70 x) S = .ok (pd x) S := get_some h1
  have g2 : M.get (fun S => toPs (toP S 70) l) S = .ok (pds l) S := get_some h2
  have g3 : M.get (fun _ => (pds l).findIdx? fun z => PyData.eqv z (pd x)) S = .ok i S := get_some (idx_find hp hx hd h)
  have hl : seqL (.lst l) S = .ok l S := rfl
  show (seqL (.lst l) >>= fun ys => M.get (fun S => toP S 70 x) >>= fun p => M.get (fun S => toPs (toP S 70) ys) >>= fun qs => M.need (SeqAt.shaped p = true ∧ SeqAt.shaped (.list qs) = true) >>= fun _ => M.get (fun _ => qs.findIdx? fun z => PyData.eqv z p) >>= fun j => pure (.int j) : M D) S = _
  rw [M.bind_run, hl]
  show (M.get (fun S => toP S 70 x) >>= fun p => M.get (fun S => toPs (toP S 70) l) >>= fun qs => M.need (SeqAt.shaped p = true ∧ SeqAt.shaped (.list qs) = true) >>= fun _ => M.get (fun _ => qs.findIdx? fun z => PyData.eqv z p) >>= fun j => pure (.int j) : M D) S = _
  rw [M.bind_run, g1]
  show (M.get (fun S => toPs (toP S 70) l) >>= fun qs => M.need (SeqAt.shaped (pd x) = true ∧ SeqAt.shaped (.list qs) = true) >>= fun _ => M.get (fun _ => qs.findIdx? fun z => PyData.eqv z (pd x)) >>= fun j => pure (.int j) : M D) S = _
  rw [M.bind_run, g2]
  show (M.need (SeqAt.shaped (pd x) = true ∧ SeqAt.shaped (.list (pds l)) = true) >>= fun _ => M.get (fun _ => (pds l).findIdx? fun z => PyData.eqv z (pd x)) >>= fun j => pure (.int j) : M D) S = _
  rw [need_ok ⟨shaped_plain (by omega) hx, h3⟩, M.bind_run, g3]
  rfl
end DD
namespace K36
open PySem PySem.Spec PyProof.Rows L2 DD
def nodes (ns : List Str) : List Str := Zero :: ns
def node (ns : List Str) (x : Nat) : Str := (nodes ns).getD x Zero
def nodesD (ns : List Str) : List D := (nodes ns).map D.str
def factS (ns : List Str) (f : NF) : D := .tup [.str (node ns f.1), .str (node ns f.2.1), .int f.2.2]
theorem zero_chars : Chars Zero := by
  intro c hc
  have : Zero.cps.toList.all (fun c => lets.contains c) = true := by decide +kernel
  simpa using List.all_eq_true.mp this c hc
theorem Names.nodes {ns : List Str} (h : Names ns) : (nodes ns).Nodup ∧ ∀ y ∈ nodes ns, Chars y := by
  refine ⟨List.nodup_cons.mpr ⟨fun z => (h.ok _ z).nz rfl, h.nd⟩, fun y hy => ?_⟩
  rcases List.mem_cons.mp hy with e | hy
  · rw [e]; exact zero_chars
  · exact (h.ok y hy).chars
theorem node_get {ns : List Str} {x : Nat} (h : x < ns.length + 1) : (nodes ns)[x]? = some (node ns x) := by
  unfold node
  rw [List.getD_eq_getElem?_getD, List.getElem?_eq_getElem (by simpa [nodes] using h)]
  rfl
theorem nodesD_get {ns : List Str} {x : Nat} (h : x < ns.length + 1) : (nodesD ns)[x]? = some (.str (node ns x)) := by
  unfold nodesD
  rw [List.getElem?_map, node_get h]
  rfl
theorem nodesD_len (ns : List Str) : (nodesD ns).length = ns.length + 1 := by simp [nodesD, nodes]
theorem node_inj {ns : List Str} (h : Names ns) {x y : Nat} (hx : x < ns.length + 1) (hy : y < ns.length + 1) (e : node ns x = node ns y) : x = y := by
  have h1 := node_get hx
  have h2 := node_get hy
  rw [e] at h1
  exact (List.getElem?_inj (List.getElem?_eq_some_iff.mp h1).1 h.nodes.1).mp (h1.trans h2.symm)
theorem nodesD_pln {ns : List Str} (h : Names ns) : ∀ y ∈ nodesD ns, pln 1 y = true := fun y hy => by
  obtain ⟨z, hz, rfl⟩ := List.mem_map.mp hy
  exact (h.nodes.2 z hz).ok
theorem nodesD_nodup {ns : List Str} (h : Names ns) : (nodesD ns).Nodup := by
  unfold nodesD
  exact List.Pairwise.map D.str (fun a b h e => h (by injection e)) h.nodes.1
theorem node_chars {ns : List Str} (h : Names ns) {x : Nat} (hx : x < ns.length + 1) : Chars (node ns x) := h.nodes.2 _ (List.mem_of_getElem? (node_get hx))
theorem node_index {ns : List Str} (h : Names ns) {x : Nat} (hx : x < ns.length + 1) (S : Sto) : dIndexL (.lst (nodesD ns)) [.str (node ns x)] S = .ok (.int (x : Int)) S :=
  index_run (n := 1) (by decide) (nodesD_pln h) (node_chars h hx).ok (nodesD_nodup h) (nodesD_get hx)
theorem f_numbered {ns : List Str} (h : Names ns) (hl : ns.length ≤ 90) (fs : List NF) (hf : fs.length ≤ 500) (rg : Rng (ns.length + 1) fs) (S : Sto) :
    F__law_numbered [.tup (ns.map D.str), .tup (fs.map (factS ns))] S = .ok (.lst (fs.map factN)) S := by
  have h1 : (1 : Nat) ≤ sizeLine := le_line (by omega)
  have h3 : (3 : Nat) ≤ sizeLine := le_line (by omega)
  have al : dAdd (.lst [.str ("zero" : Str)]) (.lst (ns.map D.str)) S = .ok (.lst (nodesD ns)) S := add_lst (le_line (by simp; omega))
  have lc := lc_mapi (tg := gTupD 3 (gsCons (gSet 3) (gsCons (gSet 4) (gsCons (gSet 5) gsNil)))) (te := E__law_numbered_1) (ρ := [some (.tup (ns.map D.str)), some (.tup (fs.map (factS ns))), some (.lst (nodesD ns)), none, none, none]) (S := S) (factS ns) factN fs [] (le_line (by simpa using Nat.le_trans hf (by decide))) (by
    intro f hf
    obtain ⟨hx, hy⟩ := rg f hf
    refine ⟨[some (.tup (ns.map D.str)), some (.tup (fs.map (factS ns))), some (.lst (nodesD ns)), some (.str (node ns f.1)), some (.str (node ns f.2.1)), some (.int f.2.2)], by simp [factS], ?_⟩
    simp [E__law_numbered_1, node_index h hx, node_index h hy, h3, factN])
  rw [List.nil_append] at lc
  simp [F__law_numbered, B__law_numbered, h1, al, wipeD, lc]
structure FactOk (N : Nat) (f : NF) : Prop where
  x : f.1 < N
  y : f.2.1 < N
  ne : f.1 ≠ f.2.1
theorem f_drawn_fact {p j : Nat} {S : Sto} (h : Pit p (j + 3) S) {ns : List Str} (h1 : 1 ≤ ns.length) (h6 : ns.length ≤ 6) (far : Int) (hf : 0 < far) (hf2 : far < 2 ^ 100) :
    ∃ f S', F__law_drawn_fact [.cell p, .tup (ns.map D.str), .int far] S = .ok (factS ns f) S' ∧ FactOk (ns.length + 1) f ∧ Pit p j S' ∧ Ext p S S' := by
  have l1 : (1 : Nat) ≤ sizeLine := le_line (by omega)
  have l3 : (3 : Nat) ≤ sizeLine := le_line (by omega)
  have al : ∀ S, dAdd (.tup [.str ("zero" : Str)]) (.tup (ns.map D.str)) S = .ok (.tup (nodesD ns)) S := fun S => add_tup (le_line (by simp; omega))
  obtain ⟨k, S1, e1, b1, p1, x1⟩ := f_hoistN (h.mono (show j + 2 + 1 ≤ j + 3 by omega)) (below := ns.length + 1) (by omega) (by
    have : (7 : Nat) < 2 ^ 100 := by decide
    omega)
  obtain ⟨t, S2, e2, b2, p2, x2⟩ := f_hoistN (p1.mono (show j + 1 + 1 ≤ j + 2 by omega)) (below := ns.length) (by omega) (by
    have : (7 : Nat) < 2 ^ 100 := by decide
    omega)
  obtain ⟨d, S3, e3, b3, b3', p3, x3⟩ := f_hoist p2 (below := 2 * far + 1) (by omega) (by omega)
  have ln : ∀ S, len1 (.tup (nodesD ns)) S = .ok (.int ((ns.length : Int) + 1)) S := fun S => by
    show (seqA (.tup (nodesD ns)) >>= fun xs => pure (.int xs.length) : M D) S = _
    rw [M.bind_run]
    show Out.ok (D.int ((nodesD ns).length : Int)) S = _
    rw [nodesD_len]
    rfl
  have e1' : F__law_hoist [.cell p, .int ((ns.length : Int) + 1)] S = .ok (.int (k : Int)) S1 := e1
  have e2' : F__law_hoist [.cell p, .int ((ns.length : Int) + 1 - 1)] S1 = .ok (.int (t : Int)) S2 := by
    rw [show (ns.length : Int) + 1 - 1 = (ns.length : Int) by omega]
    exact e2
  have mu : ∀ S, dMul (.int 2) (.int far) S = .ok (.int (2 * far)) S := fun S => mul_run (by
    have a1 : (2 : Int).natAbs.log2 = 1 := by decide +kernel
    have a2 := log_lt (n := 100) (by omega) hf2 (by decide)
    omega)
  have hmod : ((k : Int) + (1 + (t : Int))) % ((ns.length : Int) + 1) = (((k + (1 + t)) % (ns.length + 1) : Nat) : Int) := by push_cast; rfl
  have md : ∀ S, dMod (.int ((k : Int) + (1 + (t : Int)))) (.int ((ns.length : Int) + 1)) S = .ok (.int (((k + (1 + t)) % (ns.length + 1) : Nat) : Int)) S := fun S => by
    rw [mod_run (by omega), hmod]
  have i1 : dIx (.tup (nodesD ns)) (.int (k : Int)) S3 = .ok (.str (node ns k)) S3 := ix_tup (nodesD_get b1)
  have hy : (k + (1 + t)) % (ns.length + 1) < ns.length + 1 := Nat.mod_lt _ (by omega)
  have i2 : dIx (.tup (nodesD ns)) (.int (((k + (1 + t)) % (ns.length + 1) : Nat) : Int)) S3 = .ok (.str (node ns ((k + (1 + t)) % (ns.length + 1)))) S3 := ix_tup (nodesD_get hy)
  have ne : k ≠ (k + (1 + t)) % (ns.length + 1) := fun e => by
    by_cases q : k + (1 + t) < ns.length + 1
    · rw [Nat.mod_eq_of_lt q] at e
      omega
    · rw [Nat.mod_eq_sub_mod (by omega), Nat.mod_eq_of_lt (by omega)] at e
      omega
  refine ⟨(k, (k + (1 + t)) % (ns.length + 1), d - far), S3, ?_, ⟨b1, hy, ne⟩, p3, (x1.trans x2).trans x3⟩
  generalize hyy : (k + (1 + t)) % (ns.length + 1) = yy at *
  simp [F__law_drawn_fact, B__law_drawn_fact, l1, l3, al, ln, e1', e2, mu, e3, md, i1, i2, factS]

/-! ### a drawn sheet -/
structure Sheet (ns : List Str) (ts : List Str) (fs : List NF) : Prop where
  one : 1 ≤ ns.length
  six : ns.length ≤ 6
  names : Names ns
  tin : ∀ t ∈ ts, t ∈ ns
  tnd : ts.Nodup
  facts : ∀ f ∈ fs, FactOk (ns.length + 1) f
  few : fs.length ≤ 20
  nn : NoNeg (ns.length + 1) fs
theorem Sheet.rng {ns ts : List Str} {fs : List NF} (h : Sheet ns ts fs) : Rng (ns.length + 1) fs := fun f hf => ⟨(h.facts f hf).x, (h.facts f hf).y⟩
theorem Sheet.ne {ns ts : List Str} {fs : List NF} (h : Sheet ns ts fs) : ∀ f ∈ fs, f.1 ≠ f.2.1 := fun f hf => (h.facts f hf).ne
theorem CI.ext {p : Nat} {S S' : Sto} {N : Nat} {r : Tab} (h : CI S N r S') : Ext p S S' := ⟨by rw [h.len]; omega, fun n hn _ => h.old n hn⟩
theorem len_tup {xs : List D} {S : Sto} : len1 (.tup xs) S = .ok (.int xs.length) S := rfl
/-- the law's answer: no negative ring, then the closure -/
theorem closed_yes {N : Nat} (hN : 0 < N) {fs : List NF} (rg : Rng N fs) (ne : ∀ f ∈ fs, f.1 ≠ f.2.1) (h : (List.range N).any (negAt (fwAll N (ini fs))) = false) : Clo N fs (fwAll N (ini fs)) :=
  fw_clo hN rg ne fun x v hx e => by
    have := List.any_eq_false.mp h x (by simpa using hx)
    simp [negAt, e] at this
    exact this
theorem closed_no {N : Nat} (hN : 0 < N) {fs : List NF} (rg : Rng N fs) (ne : ∀ f ∈ fs, f.1 ≠ f.2.1) (nn : NoNeg N fs) : (List.range N).any (negAt (fwAll N (ini fs))) = false := by
  rw [List.any_eq_false]
  intro x hx
  have hx' : x < N := by simpa using hx
  -- each value is a walk's sum
  have snd : ∀ (l : List Nat) (r : Tab), (∀ a b v, a < N → b < N → r a b = some v → Walk N fs a b v) → (∀ m ∈ l, m < N) → ∀ a b v, a < N → b < N → l.foldl (fwMid N) r a b = some v → Walk N fs a b v := by
    have s1 : ∀ (mid a : Nat) (hm : mid < N) (ha : a < N) (l : List Nat) (r : Tab), (∀ a b v, a < N → b < N → r a b = some v → Walk N fs a b v) → (∀ m ∈ l, m < N) → ∀ i j v, i < N → j < N → l.foldl (fw1 mid a) r i j = some v → Walk N fs i j v := by
      intro mid a hm ha l
      induction l with
      | nil => intro r h _ i j v hi hj e; exact h i j v hi hj e
      | cons b l ih =>
        intro r h hl
        refine ih (fw1 mid a r b) (fun i j v hi hj e => ?_) fun m hm => hl m (List.mem_cons_of_mem _ hm)
        rw [fw1_at] at e
        unfold setT at e
        split at e
        · rename_i q
          obtain ⟨rfl, rfl⟩ := q
          rcases st_cases e with e | ⟨u, w, e1, e2, rfl⟩
          · exact h _ _ _ hi hj e
          · exact (h _ _ _ hi hm e1).append (h _ _ _ hm hj e2)
        · exact h _ _ _ hi hj e
    have s2 : ∀ (mid : Nat) (hm : mid < N) (l : List Nat) (r : Tab), (∀ a b v, a < N → b < N → r a b = some v → Walk N fs a b v) → (∀ m ∈ l, m < N) → ∀ i j v, i < N → j < N → l.foldl (fwRow N mid) r i j = some v → Walk N fs i j v := by
      intro mid hm l
      induction l with
      | nil => intro r h _ i j v hi hj e; exact h i j v hi hj e
      | cons a l ih =>
        intro r h hl
        exact ih (fwRow N mid r a) (s1 mid a hm (hl a List.mem_cons_self) (List.range N) r h fun m hm => by simpa using hm) fun m hm => hl m (List.mem_cons_of_mem _ hm)
    intro l
    induction l with
    | nil => intro r h _ i j v hi hj e; exact h i j v hi hj e
    | cons a l ih =>
      intro r h hl
      exact ih (fwMid N r a) (s2 a (hl a List.mem_cons_self) (List.range N) r h fun m hm => by simpa using hm) fun m hm => hl m (List.mem_cons_of_mem _ hm)
  have w := snd (List.range N) (ini fs) (start_of (N := N) fs ne).snd fun m hm => by simpa using hm
  cases e : fwAll N (ini fs) x x with
  | none => simp [negAt, e]
  | some v =>
    have := nn x v hx' (w x x v hx' hx' e)
    simp [negAt, e]
    exact this
theorem l_some {p j : Nat} {S : Sto} {ns : List Str} {fs : List NF} (h : Pit p (j + 3) S) (hp : p < S.length) (far : Int) (hf : 0 < far) (hf2 : far < 2 ^ 100) (h1 : 1 ≤ ns.length) (h6 : ns.length ≤ 6) (hn : Names ns) (hfs : ∀ f ∈ fs, FactOk (ns.length + 1) f) (few : fs.length < 20) (nn : NoNeg (ns.length + 1) fs) (o3 o5 o6 : Option D) :
    ∃ fs' S' r8, L__law_some_facts_1 [some (.cell p), some (.tup (ns.map D.str)), some (.tup (fs.map (factS ns))), o3, some (.int far), o5, o6] S = .ok (.nx [some (.cell p), some (.tup (ns.map D.str)), some (.tup (fs'.map (factS ns))), o3, some (.int far), o5, r8]) S' ∧
      (∀ f ∈ fs', FactOk (ns.length + 1) f) ∧ fs'.length ≤ fs.length + 1 ∧ NoNeg (ns.length + 1) fs' ∧ (∀ g ∈ fs, g ∈ fs') ∧ Pit p j S' ∧ Ext p S S' := by
  obtain ⟨f, S1, e1, ok, p1, x1⟩ := f_drawn_fact h h1 h6 far hf hf2
  have hmore : ∀ g ∈ fs ++ [f], FactOk (ns.length + 1) g := fun g hg => by
    rcases List.mem_append.mp hg with hg | hg
    · exact hfs g hg
    · rw [List.mem_singleton.mp hg]; exact ok
  have rg : Rng (ns.length + 1) (fs ++ [f]) := fun g hg => ⟨(hmore g hg).x, (hmore g hg).y⟩
  have ne : ∀ g ∈ fs ++ [f], g.1 ≠ g.2.1 := fun g hg => (hmore g hg).ne
  have l1 : (1 : Nat) ≤ sizeLine := le_line (by omega)
  have al : dAdd (.tup (fs.map (factS ns))) (.tup [factS ns f]) S1 = .ok (.tup ((fs ++ [f]).map (factS ns))) S1 := by
    rw [List.map_append]
    exact add_tup (le_line (by simp; omega))
  have nu := f_numbered hn (by omega) (fs ++ [f]) (by simp; omega) rg S1
  obtain ⟨S2, e2, c2⟩ := f_closed ns.length (by omega) (fs ++ [f]) rg ne S1
  have ln : ∀ S, len1 (.tup (ns.map D.str)) S = .ok (.int (ns.length : Int)) S := fun S => by rw [len_tup, List.length_map]
  have x2 : Ext p S S2 := x1.trans c2.ext
  have p2 : Pit p j S2 := p1.same (c2.old p p1.lt)
  cases q : (List.range (ns.length + 1)).any (negAt (fwAll (ns.length + 1) (ini (fs ++ [f])))) with
  | true =>
    rw [q] at e2
    refine ⟨fs, S2, some (.tup ((fs ++ [f]).map (factS ns))), ?_, hfs, by omega, nn, fun g hg => hg, p2, x2⟩
    simp only [if_true] at e2
    simp only [List.map_append, List.map_cons, List.map_nil] at al nu e2 ⊢
    simp [L__law_some_facts_1, e1, l1, al, ln, nu, e2]
  | false =>
    rw [q] at e2
    refine ⟨fs ++ [f], S2, some (.tup ((fs ++ [f]).map (factS ns))), ?_, hmore, by simp, (closed_yes (by omega) rg ne q).noNeg (by omega) rg, fun g hg => List.mem_append_left _ hg, p2, x2⟩
    simp only [Bool.false_eq_true, if_false] at e2
    have hr : DD.isNon (rowsC S1.length (ns.length + 1)) = false := rfl
    simp only [List.map_append, List.map_cons, List.map_nil] at al nu e2 ⊢
    simp [-DD.isNon, L__law_some_facts_1, e1, l1, al, ln, nu, e2, hr]
end K36

/-! NM11: drawn facts -/
namespace K36
open PySem PySem.Spec PyProof.Rows L2 DD
theorem noNeg_nil (N : Nat) : NoNeg N [] := fun x b hx w => (clo_m0 N).noNeg (by omega) (fun f hf => (by cases hf)) x b hx w
end K36

/-! M12: the program takes a drawn sheet -/
namespace DD
open PySem PySem.Spec PyProof.Rows L2
theorem enumD_map {α : Type} (f : α → D) : ∀ (l : List α) (n : Nat), enumD n (l.map f) = (l.zipIdx n).map fun p => .tup [.int (p.2 : Int), f p.1]
  | [], n => rfl
  | a :: l, n => by
    show D.tup [.int n, f a] :: enumD (n + 1) (l.map f) = _
    rw [enumD_map f l (n + 1)]
    rfl
theorem enm_tup {α : Type} {f : α → D} {l : List α} {S : Sto} : enm1 [.tup (l.map f)] S = .ok (l.zipIdx.map (fun p => .tup [.int (p.2 : Int), f p.1]), none) S := by
  show Out.ok (enumD 0 (l.map f), none) S = _
  rw [enumD_map]
theorem zipIdx_at {α : Type} {l : List α} {i : Nat} {p : α × Nat} (h : l.zipIdx[i]? = some p) : l[i]? = some p.1 ∧ p.2 = i := by
  rw [List.getElem?_zipIdx] at h
  cases e : l[i]? with
  | none => rw [e] at h; cases h
  | some a =>
    rw [e] at h
    cases h
    exact ⟨rfl, by simp⟩
theorem isa_str {x : Str} {S : Sto} : dIsa [.str x, .ty "str"] S = .ok (.bl true) S := by simp [dIsa, tyOfM, tyOf, isaT]
theorem isa_int {i : Int} {S : Sto} : dIsa [.int i, .ty "int"] S = .ok (.bl true) S := by simp [dIsa, tyOfM, tyOf, isaT]
theorem isa_bool {i : Int} {S : Sto} : dIsa [.int i, .ty "bool"] S = .ok (.bl false) S := by simp [dIsa, tyOfM, tyOf, isaT]
theorem unBls_true {α : Type} : ∀ l : List α, unBls (l.map fun _ => D.bl true) = some (l.map fun _ => true)
  | [] => rfl
  | a :: l => by
    show (unBls (l.map fun _ => D.bl true)).map (true :: ·) = _
    rw [unBls_true l]
    rfl
theorem all_true {α : Type} {l : List α} {S : Sto} : dAll [.lst (l.map fun _ => D.bl true)] S = .ok (.bl true) S := by
  show (M.get (fun _ => unBls (l.map fun _ => D.bl true)) >>= fun ns => pure (.bl (ns.all id)) : M D) S = _
  rw [M.bind_run, get_some (unBls_true l)]
  simp
end DD
namespace K36
open PySem PySem.Spec PyProof.Rows L2 DD
theorem occ_let : ∀ c ∈ lets, (Builtin.Str.occurrences L0 ⟨#[c]⟩ 0 L0.length 1).isEmpty = false := by decide +kernel
theorem in_let {c : Nat} (h : c ∈ lets) (S : Sto) : dIn false (.str ⟨#[c]⟩) (.str L0) S = .ok (.bl true) S := by
  show Out.ok (D.bl (if false = true then !(!(Builtin.Str.occurrences L0 ⟨#[c]⟩ 0 L0.length 1).isEmpty) else !(Builtin.Str.occurrences L0 ⟨#[c]⟩ 0 L0.length 1).isEmpty)) S = _
  rw [occ_let c h]
  rfl
theorem f_is_name {s : Str} (h : NameOk s) (S : Sto) : F_is_name [.str s] S = .ok (.bl true) S := by
  have g1 := h.ge
  have g2 := h.le
  have ln : len1 (.str s) S = .ok (.int (s.length : Int)) S := by
    show (M.need (s.length ≤ sizeLine) >>= fun _ => pure (.int s.length) : M D) S = _
    rw [need_ok (le_line (by omega))]
    rfl
  have lc := lc_mapi (tg := gSet 1) (te := E_is_name_1) (ρ := [some (.str s), none]) (S := S) (fun c : Nat => D.str ⟨#[c]⟩) (fun _ => D.bl true) s.cps.toList [] (le_line (by show 0 + s.cps.toList.length ≤ 1000; rw [← len_list]; omega)) (by
    intro c hc
    have e : dIn false (.str ⟨#[c]⟩) (.str ("abcdefghijklmnopqrstuvwxyzABCDEFGHIJKLMNOPQRSTUVWXYZ" : Str)) S = .ok (.bl true) S := in_let (h.chars c hc) S
    exact ⟨_, rfl, by simp [E_is_name_1, e]⟩)
  rw [List.nil_append] at lc
  have c1 : 0 < s.length := by omega
  have c2 : (s.length : Int) ≤ 8 := by omega
  have gt : M.get (fun _ => unBls (s.cps.toList.map fun _ => D.bl true)) S = .ok (s.cps.toList.map fun _ => true) S := get_some (unBls_true _)
  have sg : signsD s = s.cps.toList.map fun c : Nat => D.str ⟨#[c]⟩ := rfl
  simp [F_is_name, B_is_name, isa_str, ln, c1, c2, sg, wipeD, lc, gt]
theorem cutA_take {xs : List D} {k : Nat} : cutA xs none (some (k : Int)) = xs.take k := by
  unfold cutA
  rw [HT.sIx_nat, HT.sIx_none]
  simp
theorem f_is_mark_at {ns : List Str} (h : Names ns) (hl : ns.length ≤ 90) {i : Nat} (hi : i < ns.length) (S : Sto) : F_is_mark_at [.tup (ns.map D.str), .int (i : Int)] S = .ok (.bl true) S := by
  classical
  obtain ⟨s, hs⟩ : ∃ s, ns[i]? = some s := ⟨ns[i], List.getElem?_eq_getElem hi⟩
  have hm : s ∈ ns := List.mem_of_getElem? hs
  have hn := h.ok s hm
  have ix : dIx (.tup (ns.map D.str)) (.int (i : Int)) S = .ok (.str s) S := ix_tup (by rw [List.getElem?_map, hs]; rfl)
  have nm := f_is_name hn S
  have ez : dEq true (.str s) (.str ("zero" : Str)) S = .ok (.bl true) S := by
    have := eq_str (neg := true) (S := S) hn.chars.ok zero_chars.ok
    rw [decide_eq_false hn.nz] at this
    exact this
  have sl : dSlice (.tup (ns.map D.str)) none (some (i : Int)) S = .ok (.tup ((ns.take i).map D.str)) S := by
    show Out.ok (D.tup (cutA (ns.map D.str) none (some (i : Int)))) S = _
    rw [cutA_take, List.map_take]
  have nin : s ∉ ns.take i := fun z => by
    obtain ⟨j, hj, e⟩ := List.mem_iff_getElem.mp z
    rw [List.getElem_take] at e
    have hj' : j < i := by
      have := hj
      rw [List.length_take] at this
      omega
    have e1 : ns[j]? = ns[i]? := by
      rw [hs, List.getElem?_eq_getElem (by omega), e]
    have := (List.getElem?_inj (by omega) h.nd).mp e1
    omega
  have di : dIn true (.str s) (.tup ((ns.take i).map D.str)) S = .ok (.bl true) S := by
    rw [in_plain (n := 1) (x := .str s) (ys := (ns.take i).map D.str) (by decide) hn.chars.ok (fun y hy => by
      obtain ⟨z, hz, rfl⟩ := List.mem_map.mp hy
      exact (h.ok z (List.mem_of_mem_take hz)).chars.ok) rfl]
    rw [decide_eq_false (fun z => by
      obtain ⟨y, hy, e⟩ := List.mem_map.mp z
      injection e with e
      exact nin (e ▸ hy))]
    rfl
  have os : ∀ (ρ : DEnv), ρ[1]? = some (some (.int (i : Int))) → oSome (dVar 1) ρ S = .ok (some (i : Int)) S := fun ρ hρ => oSome_int (by simp [hρ])
  rw [List.map_take] at sl di
  simp [F_is_mark_at, B_is_mark_at, ix, nm, ez, os, sl, di]

theorem star_nodes (ns : List Str) (hl : ns.length ≤ 90) (f : DEnv → M D) (ρ : DEnv) (S : Sto) (h : f ρ S = .ok (.tup (ns.map D.str)) S) : (dTup (aCons (dC (.str ("zero" : Str))) (aStar f aNil))) ρ S = .ok (.tup (nodesD ns)) S := by
  have hz : ns.length + 1 ≤ sizeLine := le_line (by omega)
  simp [h, hz]
  rfl
theorem f_is_fact {ns : List Str} (h : Names ns) (hl : ns.length ≤ 90) {f : NF} (ok : FactOk (ns.length + 1) f) (S : Sto) : F_is_fact [.tup (nodesD ns), factS ns f] S = .ok (.bl true) S := by
  classical
  have l3 : len1 (factS ns f) S = .ok (.int 3) S := rfl
  have i0 : dIx (factS ns f) (.int 0) S = .ok (.str (node ns f.1)) S := ix_tup (i := 0) rfl
  have i1 : dIx (factS ns f) (.int 1) S = .ok (.str (node ns f.2.1)) S := ix_tup (i := 1) rfl
  have i2 : dIx (factS ns f) (.int 2) S = .ok (.int f.2.2) S := ix_tup (i := 2) rfl
  have ii : F_is_integer [.int f.2.2] S = .ok (.bl true) S := by simp [F_is_integer, B_is_integer, isa_int, isa_bool]
  have mem : ∀ x, x < ns.length + 1 → dIn false (.str (node ns x)) (.tup (nodesD ns)) S = .ok (.bl true) S := fun x hx => by
    rw [in_plain (n := 1) (x := .str (node ns x)) (ys := nodesD ns) (by decide) (node_chars h hx).ok (nodesD_pln h) rfl]
    rw [decide_eq_true (List.mem_of_getElem? (nodesD_get hx))]
    rfl
  have m1 := mem _ ok.x
  have m2 := mem _ ok.y
  have ne : dEq true (.str (node ns f.1)) (.str (node ns f.2.1)) S = .ok (.bl true) S := by
    have := eq_str (neg := true) (S := S) (node_chars h ok.x).ok (node_chars h ok.y).ok
    rw [decide_eq_false (fun e => ok.ne (node_inj h ok.x ok.y e))] at this
    exact this
  simp [F_is_fact, B_is_fact, l3, i0, i1, i2, ii, m1, m2, ne]
theorem f_check_sheet {ns ts : List Str} {fs : List NF} (h : Names ns) (hl : ns.length ≤ 90) (ht : ∀ t ∈ ts, t ∈ ns) (htn : ts.Nodup) (hf : ∀ f ∈ fs, FactOk (ns.length + 1) f) (S : Sto) :
    F_check_sheet [.tup (ns.map D.str), .tup (ts.map D.str), .tup (fs.map (factS ns))] S = .ok .non S := by
  classical
  have ln : len1 (.tup (ns.map D.str)) S = .ok (.int (ns.length : Int)) S := by rw [len_tup, List.length_map]
  obtain ⟨ρ1, S1, e1, rfl, r3, r4, hρ1⟩ := for_evi (tg := gSet 3) (body := L_check_sheet_1) (fun i : Nat => D.int (i : Int)) (fun i ρ S' => S' = S ∧ ∃ r3 r4, ρ = [some (.tup (ns.map D.str)), some (.tup (ts.map D.str)), some (.tup (fs.map (factS ns))), r3, r4, none])
    (List.range ns.length) [some (.tup (ns.map D.str)), some (.tup (ts.map D.str)), some (.tup (fs.map (factS ns))), none, none, none] S ⟨rfl, none, none, rfl⟩ (by
      rintro i a ρ S' ha ⟨rfl, r3, r4, rfl⟩
      obtain ⟨hi, rfl⟩ := range_get ha
      have mk := f_is_mark_at h hl hi S'
      exact ⟨_, _, [some (.tup (ns.map D.str)), some (.tup (ts.map D.str)), some (.tup (fs.map (factS ns))), some (.int (a : Int)), r4, none], S', rfl, by simp [L_check_sheet_1, mk], rfl, _, _, rfl⟩)
  obtain ⟨ρ2, S2, e2, rfl, q3, q4, hρ2⟩ := for_evi (tg := gTupD 2 (gsCons (gSet 3) (gsCons (gSet 4) gsNil))) (body := L_check_sheet_2) (fun q : Str × Nat => D.tup [.int (q.2 : Int), .str q.1]) (fun i ρ S' => S' = S1 ∧ ∃ r3 r4, ρ = [some (.tup (ns.map D.str)), some (.tup (ts.map D.str)), some (.tup (fs.map (factS ns))), r3, r4, none])
    ts.zipIdx ρ1 S1 ⟨rfl, r3, r4, hρ1⟩ (by
      rintro i ⟨t, j⟩ ρ S' ha ⟨rfl, r3, r4, rfl⟩
      obtain ⟨h1, h2⟩ := zipIdx_at ha
      simp only at h1 h2
      subst h2
      have hj := (List.getElem?_eq_some_iff.mp h1).1
      have tm := List.mem_of_getElem? h1
      have tc := (h.ok t (ht t tm)).chars
      have d1 : dIn true (.str t) (.tup (ns.map D.str)) S' = .ok (.bl false) S' := by
        rw [in_plain (n := 1) (x := .str t) (ys := ns.map D.str) (by decide) tc.ok (fun y hy => by
          obtain ⟨z, hz, rfl⟩ := List.mem_map.mp hy
          exact (h.ok z hz).chars.ok) rfl]
        rw [decide_eq_true (List.mem_map.mpr ⟨t, ht t tm, rfl⟩)]
        rfl
      have sl : dSlice (.tup (ts.map D.str)) none (some (j : Int)) S' = .ok (.tup ((ts.map D.str).take j)) S' := by
        show Out.ok (D.tup (cutA (ts.map D.str) none (some (j : Int)))) S' = _
        rw [cutA_take]
      have nin : D.str t ∉ (ts.map D.str).take j := fun z => by
        rw [← List.map_take] at z
        obtain ⟨y, hy, e⟩ := List.mem_map.mp z
        injection e with e
        subst e
        obtain ⟨k, hk, e⟩ := List.mem_iff_getElem.mp hy
        rw [List.getElem_take] at e
        have hk' : k < j := by
          have := hk
          rw [List.length_take] at this
          omega
        have e1 : ts[k]? = ts[j]? := by rw [h1, List.getElem?_eq_getElem (by omega), e]
        have := (List.getElem?_inj (by omega) htn).mp e1
        omega
      have d2 : dIn false (.str t) (.tup ((ts.map D.str).take j)) S' = .ok (.bl false) S' := by
        rw [in_plain (n := 1) (x := .str t) (ys := (ts.map D.str).take j) (by decide) tc.ok (fun y hy => by
          obtain ⟨z, hz, rfl⟩ := List.mem_map.mp (List.mem_of_mem_take hy)
          exact (h.ok z (ht z hz)).chars.ok) rfl]
        rw [decide_eq_false nin]
        rfl
      have os : ∀ (ρ : DEnv), ρ[3]? = some (some (.int (j : Int))) → oSome (dVar 3) ρ S' = .ok (some (j : Int)) S' := fun ρ hρ => oSome_int (by simp [hρ])
      refine ⟨[some (.tup (ns.map D.str)), some (.tup (ts.map D.str)), some (.tup (fs.map (factS ns))), some (.int (j : Int)), some (.str t), none], S', [some (.tup (ns.map D.str)), some (.tup (ts.map D.str)), some (.tup (fs.map (factS ns))), some (.int (j : Int)), some (.str t), none], S', by simp, ?_, rfl, _, _, rfl⟩
      simp [L_check_sheet_2, d1, os, sl, d2])
  obtain ⟨ρ3, S3, e3, rfl, _⟩ := for_evi (tg := gTupD 2 (gsCons (gSet 3) (gsCons (gSet 5) gsNil))) (body := L_check_sheet_3) (fun q : NF × Nat => D.tup [.int (q.2 : Int), factS ns q.1]) (fun i ρ S' => S' = S2 ∧ ∃ r3 r4 r5, ρ = [some (.tup (ns.map D.str)), some (.tup (ts.map D.str)), some (.tup (fs.map (factS ns))), r3, r4, r5])
    fs.zipIdx ρ2 S2 ⟨rfl, q3, q4, none, hρ2⟩ (by
      rintro i ⟨f, j⟩ ρ S' ha ⟨rfl, r3, r4, r5, rfl⟩
      obtain ⟨h1, h2⟩ := zipIdx_at ha
      have fm := List.mem_of_getElem? h1
      have isf := f_is_fact h hl (hf f fm) S'
      have hz : ns.length + 1 ≤ sizeLine := le_line (by omega)
      have en : (.str ("zero" : Str) :: ns.map D.str) = nodesD ns := rfl
      have hz' : (nodesD ns).length ≤ sizeLine := by rw [nodesD_len]; exact hz
      refine ⟨[some (.tup (ns.map D.str)), some (.tup (ts.map D.str)), some (.tup (fs.map (factS ns))), some (.int (j : Int)), r4, some (factS ns f)], S', [some (.tup (ns.map D.str)), some (.tup (ts.map D.str)), some (.tup (fs.map (factS ns))), some (.int (j : Int)), r4, some (factS ns f)], S', by simp, ?_, rfl, _, _, _, rfl⟩
      simp [L_check_sheet_3, hz', en, isf])
  rw [hρ1] at e2 e1
  rw [hρ2] at e3 e2
  have r1 := fun S => rng1_run (n := ns.length) (S := S) (by omega)
  simp [F_check_sheet, B_check_sheet, ln, r1, e1, enm_tup, e2, e3]
end K36

/-! M13: the sheet is made -/
namespace DD
open PySem PySem.Spec PyProof.Rows L2
theorem insS_of {n c : Nat} {fs : List (Str × D)} {S : Sto} (h : S[n]? = some (some (.obj c fs))) : insS n S = some (c, fs) := by
  unfold insS
  rw [h]
theorem setFld_run {n : Nat} {f : Str} {fs : List (Str × D)} {v : D} {S : Sto} (h : S[n]? = some (some (.obj 0 fs))) (hl : fs.length < 1000) : setFld [0] f (.cell n) v S = .ok () (S.set n (some (.obj 0 (putD f v fs)))) := by
  show (M.get (insS n) >>= fun p => M.need (p.1 ∈ [0] ∧ p.2.length < 1000) >>= fun _ => M.put fun S => S.set n (some (.obj p.1 (putD f v p.2)))) S = _
  rw [M.bind_run, get_some (insS_of h)]
  show (M.need (0 ∈ [0] ∧ fs.length < 1000) >>= fun _ => M.put fun S => S.set n (some (.obj 0 (putD f v fs)))) S = _
  rw [need_ok ⟨by simp, hl⟩]
  rfl
@[simp] theorem sFldS_run {cs : List Nat} {f : Str} {fo fv : DEnv → M D} {ρ : DEnv} {S : Sto} : sFldS cs f fo fv ρ S = M.cat (fv ρ >>= fun v => fo ρ >>= fun o => setFld cs f o v) ρ (fun _ => pure (.nx ρ)) S := nr rfl
theorem fld_obj {c : Nat} {cs : List Nat} {fs : List (Str × D)} {f : Str} {d : D} {S : Sto} (hc : c ∈ cs) (h : fs.lookup f = some d) : dFld cs f (.obj c fs) S = .ok d S := by
  show (M.need (c ∈ cs) >>= fun _ => M.get fun _ => fs.lookup f : M D) S = _
  rw [need_ok hc]
  exact get_some h
end DD
namespace K36
open PySem PySem.Spec PyProof.Rows L2 DD
theorem zipIdx_map {α β : Type} (f : α → β) (l : List α) : (l.map f).zipIdx = l.zipIdx.map fun p => (f p.1, p.2) := by
  refine List.ext_getElem? fun i => ?_
  simp [List.getElem?_zipIdx]
  cases l[i]? <;> rfl
theorem f_number_of {ns : List Str} (h : Names ns) (hl : ns.length ≤ 90) {x : Nat} (hx : x < ns.length + 1) (S : Sto) : F_number_of [.tup (nodesD ns), .str (node ns x)] S = .ok (.int (x : Int)) S := by
  obtain ⟨ρ', S', e, rfl, r3, r4, hρ⟩ := for_evi (tg := gTupD 2 (gsCons (gSet 3) (gsCons (gSet 4) gsNil))) (body := L_number_of_1) (fun q : Str × Nat => D.tup [.int (q.2 : Int), .str q.1])
    (fun i ρ S' => S' = S ∧ ∃ r3 r4, ρ = [some (.tup (nodesD ns)), some (.str (node ns x)), some (.int (if x < i then (x : Int) else 0)), r3, r4])
    (nodes ns).zipIdx [some (.tup (nodesD ns)), some (.str (node ns x)), some (.int 0), none, none] S ⟨rfl, none, none, rfl⟩ (by
      rintro i ⟨y, j⟩ ρ S' ha ⟨rfl, r3, r4, rfl⟩
      obtain ⟨h1, h2⟩ := zipIdx_at ha
      simp only at h1 h2
      subst h2
      have hj : j < ns.length + 1 := by simpa [nodes] using (List.getElem?_eq_some_iff.mp h1).1
      rw [node_get hj] at h1
      cases h1
      have eq := eq_str (neg := false) (S := S') (node_chars h hj).ok (node_chars h hx).ok
      by_cases c : x = j
      · subst c
        have e1 : dEq false (.str (node ns x)) (.str (node ns x)) S' = .ok (.bl true) S' := by rw [eq, decide_eq_true rfl]; rfl
        refine ⟨[some (.tup (nodesD ns)), some (.str (node ns x)), some (.int (if x < x then (x : Int) else 0)), some (.int (x : Int)), some (.str (node ns x))], S', [some (.tup (nodesD ns)), some (.str (node ns x)), some (.int (x : Int)), some (.int (x : Int)), some (.str (node ns x))], S', by simp, by simp [L_number_of_1, e1], rfl, some (.int (x : Int)), some (.str (node ns x)), by simp⟩
      · have e1 : dEq false (.str (node ns j)) (.str (node ns x)) S' = .ok (.bl false) S' := by rw [eq, decide_eq_false (fun z => c (node_inj h hx hj z.symm))]; rfl
        have e2 : (if x < j + 1 then (x : Int) else 0) = if x < j then (x : Int) else 0 := by
          by_cases c2 : x < j
          · rw [if_pos c2, if_pos (by omega)]
          · rw [if_neg c2, if_neg (by omega)]
        refine ⟨[some (.tup (nodesD ns)), some (.str (node ns x)), some (.int (if x < j then (x : Int) else 0)), some (.int (j : Int)), some (.str (node ns j))], S', [some (.tup (nodesD ns)), some (.str (node ns x)), some (.int (if x < j then (x : Int) else 0)), some (.int (j : Int)), some (.str (node ns j))], S', by simp, by simp [L_number_of_1, e1], rfl, some (.int (j : Int)), some (.str (node ns j)), by rw [e2]⟩)
  have hlen : (nodes ns).zipIdx.length = ns.length + 1 := by simp [nodes]
  rw [hlen, if_pos hx] at hρ
  have en : enm1 [.tup (nodesD ns)] S' = .ok ((nodes ns).zipIdx.map (fun q : Str × Nat => D.tup [.int (q.2 : Int), .str q.1]), none) S' := enm_tup (f := D.str) (l := nodes ns)
  rw [hρ] at e
  simp [F_number_of, B_number_of, en, e]
theorem f_numberedP {ns : List Str} (h : Names ns) (hl : ns.length ≤ 90) (fs : List NF) (hf : fs.length ≤ 500) (rg : Rng (ns.length + 1) fs) (S : Sto) :
    F_numbered [.tup (nodesD ns), .tup (fs.map (factS ns))] S = .ok (.tup (fs.map factN)) S := by
  have h3 : (3 : Nat) ≤ sizeLine := le_line (by omega)
  have lc := lc_mapi (tg := gTupD 3 (gsCons (gSet 2) (gsCons (gSet 3) (gsCons (gSet 4) gsNil)))) (te := E_numbered_1) (ρ := [some (.tup (nodesD ns)), some (.tup (fs.map (factS ns))), none, none, none]) (S := S) (factS ns) factN fs [] (le_line (by simpa using Nat.le_trans hf (by decide))) (by
    intro f hf
    obtain ⟨hx, hy⟩ := rg f hf
    refine ⟨[some (.tup (nodesD ns)), some (.tup (fs.map (factS ns))), some (.str (node ns f.1)), some (.str (node ns f.2.1)), some (.int f.2.2)], by simp [factS], ?_⟩
    simp [E_numbered_1, f_number_of h hl hx, f_number_of h hl hy, h3, factN])
  rw [List.nil_append] at lc
  simp [F_numbered, B_numbered, wipeD, lc]
/-- a sheet's fields -/
def sheetF (ns ts : List Str) (fs : List NF) (m : Tab) : List (Str × D) :=
  [(("marks" : Str), .tup (ns.map D.str)), (("takes" : Str), .tup (ts.map D.str)), (("facts" : Str), .tup (fs.map (factS ns))), (("nodes" : Str), .tup (nodesD ns)), (("bounds" : Str), tab (ns.length + 1) m)]
def sheetD (ns ts : List Str) (fs : List NF) (m : Tab) : D := .obj 0 (sheetF ns ts fs m)
theorem ne1 : ("marks" : Str) ≠ ("takes" : Str) := by decide +kernel
theorem ne2 : ("marks" : Str) ≠ ("facts" : Str) := by decide +kernel
theorem ne3 : ("marks" : Str) ≠ ("nodes" : Str) := by decide +kernel
theorem ne4 : ("marks" : Str) ≠ ("bounds" : Str) := by decide +kernel
theorem ne5 : ("takes" : Str) ≠ ("facts" : Str) := by decide +kernel
theorem ne6 : ("takes" : Str) ≠ ("nodes" : Str) := by decide +kernel
theorem ne7 : ("takes" : Str) ≠ ("bounds" : Str) := by decide +kernel
theorem ne8 : ("facts" : Str) ≠ ("nodes" : Str) := by decide +kernel
theorem ne9 : ("facts" : Str) ≠ ("bounds" : Str) := by decide +kernel
theorem ne10 : ("nodes" : Str) ≠ ("bounds" : Str) := by decide +kernel
theorem put_sheet (ns ts : List Str) (fs : List NF) (m : Tab) : putD ("bounds" : Str) (tab (ns.length + 1) m) (putD ("nodes" : Str) (.tup (nodesD ns)) (putD ("facts" : Str) (.tup (fs.map (factS ns))) (putD ("takes" : Str) (.tup (ts.map D.str)) (putD ("marks" : Str) (.tup (ns.map D.str)) [])))) = sheetF ns ts fs m := by
  simp [putD, ne1, ne2, ne3, ne4, ne5, ne6, ne7, ne8, ne9, ne10, sheetF]
theorem f_init {ns ts : List Str} {fs : List NF} (h : Names ns) (hl : ns.length ≤ 90) (ht : ∀ t ∈ ts, t ∈ ns) (htn : ts.Nodup) (hf : ∀ f ∈ fs, FactOk (ns.length + 1) f) (few : fs.length ≤ 500) (nn : NoNeg (ns.length + 1) fs) {n : Nat} {S : Sto} (hn : S[n]? = some (some (.obj 0 []))) :
    ∃ m, Clo (ns.length + 1) fs m ∧ F_Sheet___init__ [.cell n, .tup (ns.map D.str), .tup (ts.map D.str), .tup (fs.map (factS ns))] S = .ok .non (S.set n (some (.obj 0 (sheetF ns ts fs m)))) := by
  have rg : Rng (ns.length + 1) fs := fun f hff => ⟨(hf f hff).x, (hf f hff).y⟩
  obtain ⟨m, hm, k⟩ := clo_nars (N := ns.length + 1) (by omega) fs [] m0 (clo_m0 _) rg nn
  refine ⟨m, k, ?_⟩
  have ck := f_check_sheet h hl ht htn hf S
  have ln : len1 (.tup (ns.map D.str)) S = .ok (.int (ns.length : Int)) S := by rw [len_tup, List.length_map]
  have ob := f_open_bounds ns.length hl S
  have nu := f_numberedP h hl fs few rg S
  have nb := f_narrowed_by (ns.length + 1) (by omega) fs m0 rg S
  rw [hm] at nb
  have hz' : (nodesD ns).length ≤ sizeLine := by rw [nodesD_len]; exact le_line (by omega)
  have en : (.str ("zero" : Str) :: ns.map D.str) = nodesD ns := rfl
  have hlt : n < S.length := (List.getElem?_eq_some_iff.mp hn).1
  have step : ∀ (f : Str) (v : D) (gs : List (Str × D)), gs.length < 1000 → setFld [0] f (.cell n) v (S.set n (some (.obj 0 gs))) = .ok () (S.set n (some (.obj 0 (putD f v gs)))) := fun f v gs hg => by
    rw [setFld_run (fs := gs) (List.getElem?_set_self hlt) hg, List.set_set]
  have s0 : setFld [0] ("marks" : Str) (.cell n) (.tup (ns.map D.str)) S = .ok () (S.set n (some (.obj 0 (putD ("marks" : Str) (.tup (ns.map D.str)) [])))) := setFld_run hn (by decide)
  have plen : ∀ (f : Str) (v : D) (gs : List (Str × D)), (putD f v gs).length ≤ gs.length + 1 := fun f v gs => by
    induction gs with
    | nil => simp [putD]
    | cons q gs ih =>
      obtain ⟨a, b⟩ := q
      show (if a = f then (a, v) :: gs else (a, b) :: putD f v gs).length ≤ _
      split
      · simp
      · simpa using ih
  have L1 := plen ("marks" : Str) (.tup (ns.map D.str)) []
  have L2 := plen ("takes" : Str) (.tup (ts.map D.str)) (putD ("marks" : Str) (.tup (ns.map D.str)) [])
  have L3 := plen ("facts" : Str) (.tup (fs.map (factS ns))) (putD ("takes" : Str) (.tup (ts.map D.str)) (putD ("marks" : Str) (.tup (ns.map D.str)) []))
  have L4 := plen ("nodes" : Str) (.tup (nodesD ns)) (putD ("facts" : Str) (.tup (fs.map (factS ns))) (putD ("takes" : Str) (.tup (ts.map D.str)) (putD ("marks" : Str) (.tup (ns.map D.str)) [])))
  simp only [List.length_nil] at L1
  have s1 := step ("takes" : Str) (.tup (ts.map D.str)) (putD ("marks" : Str) (.tup (ns.map D.str)) []) (by omega)
  have s2 := step ("facts" : Str) (.tup (fs.map (factS ns))) (putD ("takes" : Str) (.tup (ts.map D.str)) (putD ("marks" : Str) (.tup (ns.map D.str)) [])) (by omega)
  have s3 := step ("nodes" : Str) (.tup (nodesD ns)) (putD ("facts" : Str) (.tup (fs.map (factS ns))) (putD ("takes" : Str) (.tup (ts.map D.str)) (putD ("marks" : Str) (.tup (ns.map D.str)) []))) (by omega)
  have s4 := step ("bounds" : Str) (tab (ns.length + 1) m) (putD ("nodes" : Str) (.tup (nodesD ns)) (putD ("facts" : Str) (.tup (fs.map (factS ns))) (putD ("takes" : Str) (.tup (ts.map D.str)) (putD ("marks" : Str) (.tup (ns.map D.str)) [])))) (by omega)
  rw [put_sheet] at s4
  have ht : DD.isNon (tab (ns.length + 1) m) = false := rfl
  simp [-DD.isNon, F_Sheet___init__, B_Sheet___init__, ck, en, hz', ln, ob, nu, nb, ht, s0, s1, s2, s3, s4]
end K36

/-! OP1: walks over a list that may change (and does not), facts drawn behind given ones -/
namespace DD
open PySem PySem.Spec PyProof.Rows L2
theorem for_evg {ι : Type} {o : Option (Nat × List D)} {tg : D → DEnv → M DEnv} {body : DEnv → M Fl} (s : ι → D) (I : Nat → DEnv → Sto → Prop) (ck : ∀ k ρ S, I k ρ S → chk o S = .ok () S) : ∀ (l : List ι) (k : Nat) (ρ : DEnv) (S : Sto), I k ρ S →
    (∀ i a ρ S, l[i]? = some a → I (k + i) ρ S → ∃ ρ1 S1 ρ2 S2, tg (s a) ρ S = .ok ρ1 S1 ∧ body ρ1 S1 = .ok (.nx ρ2) S2 ∧ I (k + i + 1) ρ2 S2) → ∃ ρ' S', dFor o tg body (l.map s) ρ S = .ok (.nx ρ') S' ∧ I (k + l.length) ρ' S'
  | [], k, ρ, S, h, _ => ⟨ρ, S, by simp [dFor, ck k ρ S h], h⟩
  | x :: l, k, ρ, S, h, step => by
    obtain ⟨ρ1, S1, ρ2, S2, e1, e2, h2⟩ := step 0 x ρ S rfl h
    obtain ⟨ρ', S', e3, h3⟩ := for_evg s I ck l (k + 1) ρ2 S2 (by simpa using h2) fun i y ρ S hy hI => by
      have := step (i + 1) y ρ S (by simpa using hy) (by rw [show k + (i + 1) = k + 1 + i by omega]; exact hI)
      rw [show k + (i + 1) + 1 = k + 1 + i + 1 by omega] at this
      exact this
    refine ⟨ρ', S', by simp [dFor, ck k ρ S h, e1, e2, loopS, e3], ?_⟩
    rw [List.length_cons, show k + (l.length + 1) = k + 1 + l.length by omega]
    exact h3
theorem src_cell {p : Nat} {xs : List D} {S : Sto} (h : cellL p S = some xs) : srcOf (.cell p) S = .ok (xs, some (p, xs)) S := by
  show (M.get (cellL p) >>= fun xs => pure (xs, some (p, xs)) : M Src) S = _
  rw [M.bind_run, get_some h]
  rfl
end DD
namespace K36
open PySem PySem.Spec PyProof.Rows L2 DD
theorem f_some1 {p j : Nat} {S : Sto} {ns : List Str} (h : Pit p (j + 4) S) (nm : Names ns) (h1 : 1 ≤ ns.length) (h6 : ns.length ≤ 6) (far : Int) (hf : 0 < far) (hf2 : far < 2 ^ 100)
    {fs0 : List NF} (hfs : ∀ f ∈ fs0, FactOk (ns.length + 1) f) (few : fs0.length < 20) (nn : NoNeg (ns.length + 1) fs0) :
    ∃ fs S', F__law_some_facts [.cell p, .tup (ns.map D.str), .tup (fs0.map (factS ns)), .int 1, .int far] S = .ok (.tup (fs.map (factS ns))) S' ∧ (∀ f ∈ fs, FactOk (ns.length + 1) f) ∧ fs.length ≤ fs0.length + 1 ∧ NoNeg (ns.length + 1) fs ∧ (∀ g ∈ fs0, g ∈ fs) ∧ Pit p j S' ∧ Ext p S S' := by
  obtain ⟨d4, S4, e4, b4, p4, x4⟩ := f_hoistN (h.mono (show j + 3 + 1 ≤ j + 4 by omega)) (below := 2) (by decide) (by decide)
  have e4' : F__law_hoist [.cell p, .int 2] S = .ok (.int (d4 : Int)) S4 := e4
  obtain ⟨ρ', S5, e5, fs, r7, r8, hρ, f1, f2, f3, f4, p5, x5⟩ := for_evi (tg := gSet 5) (body := L__law_some_facts_1) (fun i : Nat => D.int (i : Int))
    (fun i ρ S' => ∃ fs r7 r8, ρ = [some (.cell p), some (.tup (ns.map D.str)), some (.tup (fs.map (factS ns))), some (.int 1), some (.int far), r7, r8] ∧ (∀ f ∈ fs, FactOk (ns.length + 1) f) ∧ fs.length ≤ fs0.length + i ∧ NoNeg (ns.length + 1) fs ∧ (∀ g ∈ fs0, g ∈ fs) ∧ Pit p (j + 3 * (1 - i)) S' ∧ Ext p S4 S')
    (List.range d4) [some (.cell p), some (.tup (ns.map D.str)), some (.tup (fs0.map (factS ns))), some (.int 1), some (.int far), none, none] S4
    ⟨fs0, none, none, rfl, hfs, Nat.le_refl _, nn, fun g hg => hg, p4.mono (by omega), .refl p S4⟩ (by
      rintro i a ρ S' ha ⟨fs, r7, r8, rfl, f1, f2, f3, f4, p5, x5⟩
      obtain ⟨hi, rfl⟩ := range_get ha
      have h0 : a = 0 := by omega
      subst h0
      obtain ⟨fs', S6, r8', e6, g1, g2, g3, g4, p6, x6⟩ := l_some (j := j + 3 * (1 - (0 + 1))) (p5.mono (by omega)) p5.lt far hf hf2 h1 h6 nm f1 (by omega) f3 (some (.int 1)) (some (.int ((0 : Nat) : Int))) r8
      exact ⟨_, _, _, S6, rfl, e6, fs', some (.int ((0 : Nat) : Int)), r8', rfl, g1, by omega, g3, fun g hg => g4 g (f4 g hg), p6, x5.trans x6⟩)
  rw [List.length_range] at f2
  refine ⟨fs, S5, ?_, f1, by omega, f3, f4, p5.mono (by omega), x4.trans x5⟩
  rw [hρ] at e5
  have rn := rng1_run (n := d4) (S := S4) (by omega)
  have st : startD 7 [D.cell p, .tup (ns.map D.str), .tup (fs0.map (factS ns)), .int 1, .int far] = [some (.cell p), some (.tup (ns.map D.str)), some (.tup (fs0.map (factS ns))), some (.int 1), some (.int far), none, none] := rfl
  unfold F__law_some_facts
  rw [runF_run', bind_r, nx_run, st]
  unfold B__law_some_facts
  simp [e4', rn, e5]
end K36

/-! OP2: a sheet split in two -/
namespace K36
open PySem PySem.Spec PyProof.Rows L2 DD
theorem le_line' {n : Nat} (h : n < 900) : n < sizeLine := Nat.lt_of_lt_of_le h (le_line (by omega))
theorem split_one {N : Nat} {fs : List NF} (hN : 0 < N) (rg : Rng N fs) (nn : NoNeg N fs) {x y : Nat} (hx : x < N) (hy : y < N) (g : Int) : NoNeg N (fs ++ [(x, y, g)]) ∨ NoNeg N (fs ++ [(y, x, -g - 1)]) := by
  obtain ⟨m, _, k⟩ := clo_nars hN fs [] m0 (clo_m0 _) rg nn
  rw [List.nil_append] at k
  have r1 : ∀ {a b : Nat} {c : Int}, a < N → b < N → Rng N (fs ++ [(a, b, c)]) := fun {a b c} ha hb f hf => by
    rcases List.mem_append.mp hf with hf | hf
    · exact rg f hf
    · rw [List.mem_singleton.mp hf]; exact ⟨ha, hb⟩
  cases e : isNeg m x y g with
  | false => exact .inl ((clo_lift k hx hy e).noNeg hN (r1 hx hy))
  | true =>
    right
    have e2 : isNeg m y x (-g - 1) = false := by
      cases h1 : m y x with
      | none => simp [isNeg, h1, osum, olt] at e
      | some b =>
        simp [isNeg, h1, osum, olt] at e
        cases h2 : m x y with
        | none => simp [isNeg, h2, osum, olt]
        | some a =>
          obtain ⟨v, hv, hl⟩ := k.tri x y x a b hx hy hx h2 h1
          rw [k.dia x hx] at hv
          cases hv
          simp [isNeg, h2, osum, olt]
          omega
    exact (clo_lift k hy hx e2).noNeg hN (r1 hy hx)
def partD (ns : List Str) (fs : List NF) : D := .tup (fs.map (factS ns))
structure Part (ns : List Str) (b : Nat) (fs : List NF) : Prop where
  ok : ∀ f ∈ fs, FactOk (ns.length + 1) f
  len : fs.length ≤ b
  nn : NoNeg (ns.length + 1) fs
  cap : ∀ i, i < ns.length → ((i + 1, 0, 4) : NF) ∈ fs
theorem Part.rng {ns : List Str} {b : Nat} {fs : List NF} (h : Part ns b fs) : Rng (ns.length + 1) fs := fun f hf => ⟨(h.ok f hf).x, (h.ok f hf).y⟩
theorem Part.mono {ns : List Str} {b c : Nat} {fs : List NF} (h : Part ns b fs) (l : b ≤ c) : Part ns c fs := ⟨h.ok, Nat.le_trans h.len l, h.nn, h.cap⟩
theorem l_split1 {ns : List Str} (nm : Names ns) (h6 : ns.length ≤ 6) {old : List NF} (hok : ∀ f ∈ old, FactOk (ns.length + 1) f) (few : old.length < 20) {f : NF} (ok : FactOk (ns.length + 1) f) {q : Nat} {S : Sto} {P : List (List NF)} (hq : cellL q S = some (P.map (partD ns))) (hP : P.length ≤ 50) (o0 o2 o3 o4 o6 o8 o9 o10 : Option D) :
    ∃ S' P', L__law_split_1 [o0, some (.tup (ns.map D.str)), o2, o3, o4, some (.cell q), o6, some (partD ns old), o8, o9, o10, some (factS ns f)] S = .ok (.nx [o0, some (.tup (ns.map D.str)), o2, o3, o4, some (.cell q), o6, some (partD ns old), o8, o9, o10, some (factS ns f)]) S' ∧
      (P' = P ∧ ¬ NoNeg (ns.length + 1) (old ++ [f]) ∨ P' = P ++ [old ++ [f]] ∧ NoNeg (ns.length + 1) (old ++ [f])) ∧ cellL q S' = some (P'.map (partD ns)) ∧ Ext q S S' := by
  have hmore : ∀ g ∈ old ++ [f], FactOk (ns.length + 1) g := fun g hg => by
    rcases List.mem_append.mp hg with hg | hg
    · exact hok g hg
    · rw [List.mem_singleton.mp hg]; exact ok
  have rg : Rng (ns.length + 1) (old ++ [f]) := fun g hg => ⟨(hmore g hg).x, (hmore g hg).y⟩
  have ne : ∀ g ∈ old ++ [f], g.1 ≠ g.2.1 := fun g hg => (hmore g hg).ne
  have l1 : (1 : Nat) ≤ sizeLine := le_line (by omega)
  have al : ∀ S, dAdd (partD ns old) (.tup [factS ns f]) S = .ok (partD ns (old ++ [f])) S := fun S => by
    unfold partD
    rw [List.map_append]
    exact add_tup (le_line (by simp; omega))
  have nu : F__law_numbered [.tup (ns.map D.str), partD ns (old ++ [f])] S = .ok (.lst ((old ++ [f]).map factN)) S := f_numbered nm (by omega) (old ++ [f]) (by simp; omega) rg S
  obtain ⟨S2, e2, c2⟩ := f_closed ns.length (by omega) (old ++ [f]) rg ne S
  have ln : ∀ S, len1 (.tup (ns.map D.str)) S = .ok (.int (ns.length : Int)) S := fun S => by rw [len_tup, List.length_map]
  have hq2 : q < S.length := (List.getElem?_eq_some_iff.mp (cellL_some hq)).1
  have cq : cellL q S2 = some (P.map (partD ns)) := cellL_of (by rw [c2.old q hq2]; exact cellL_some hq)
  cases hn : (List.range (ns.length + 1)).any (negAt (fwAll (ns.length + 1) (ini (old ++ [f])))) with
  | true =>
    rw [hn] at e2
    simp only [if_true] at e2
    refine ⟨S2, P, ?_, .inl ⟨rfl, fun nn => ?_⟩, cq, c2.ext⟩
    · simp [-List.map_append, L__law_split_1, l1, al, ln, nu, e2]
    · rw [closed_no (by omega) rg ne nn] at hn
      cases hn
  | false =>
    rw [hn] at e2
    simp only [Bool.false_eq_true, if_false] at e2
    have hr : DD.isNon (rowsC S.length (ns.length + 1)) = false := rfl
    have ap := append_run (d := partD ns (old ++ [f])) cq (le_line' (by simp; omega))
    refine ⟨S2.set q (some (.lst (P.map (partD ns) ++ [partD ns (old ++ [f])]))), P ++ [old ++ [f]], ?_, .inr ⟨rfl, (closed_yes (by omega) rg ne hn).noNeg (by omega) rg⟩, ?_, ?_⟩
    · simp [-List.map_append, -DD.isNon, L__law_split_1, l1, al, ln, nu, e2, hr, ap, isTy_cell cq]
    · rw [cell_set (Nat.lt_of_lt_of_le hq2 (c2.ext (p := q)).len), List.map_append]
      rfl
    · exact ⟨by rw [List.length_set]; exact (c2.ext (p := q)).len, fun n hn1 hn2 => by rw [List.getElem?_set_ne (Ne.symm hn2)]; exact c2.old n hn1⟩
end K36

/-! OP3: the drawn parts -/
namespace DD
open PySem PySem.Spec PyProof.Rows L2
theorem cellL_lt {q : Nat} {S : Sto} {xs : List D} (h : cellL q S = some xs) : q < S.length := (List.getElem?_eq_some_iff.mp (cellL_some h)).1
theorem popAt_run {n : Nat} {S : Sto} {xs : List D} {d : Nat} {y : D} (h : cellL n S = some xs) (e : xs[d]? = some y) (hs : xs.length ≤ 1000) : dPopAt (.cell n) [.int (d : Int)] S = .ok y (S.set n (some (.lst (xs.eraseIdx d)))) := by
  have hd := (List.getElem?_eq_some_iff.mp e).1
  show (M.get (cellL n) >>= fun xs => M.need (-(2 ^ 63) ≤ (d : Int) ∧ (d : Int) < 2 ^ 63) >>= fun _ => M.get (fun _ => seqIndex? (d : Int) xs.length) >>= fun k => M.get (fun _ => xs[k]?) >>= fun y => M.put (fun S => S.set n (some (.lst (xs.eraseIdx k)))) >>= fun _ => pure y : M D) S = _
  rw [M.bind_run, get_some h]
  show (M.need (-(2 ^ 63) ≤ (d : Int) ∧ (d : Int) < 2 ^ 63) >>= fun _ => M.get (fun _ => seqIndex? (d : Int) xs.length) >>= fun k => M.get (fun _ => xs[k]?) >>= fun y => M.put (fun S => S.set n (some (.lst (xs.eraseIdx k)))) >>= fun _ => pure y : M D) S = _
  have b : -(2 ^ 63) ≤ (d : Int) ∧ (d : Int) < 2 ^ 63 := by
    have : (1000 : Int) < 2 ^ 63 := by decide
    omega
  rw [need_ok b]
  have es : seqIndex? (d : Int) xs.length = some d := by
    unfold seqIndex?
    have h1 : ¬ (d : Int) < 0 := by omega
    have h2 : (d : Int).toNat = d := Int.toNat_natCast d
    simp [h1, h2, hd]
  have g1 : M.get (fun _ => seqIndex? (d : Int) xs.length) S = .ok d S := getc_some es
  have g2 : M.get (fun _ => xs[d]?) S = .ok y S := getc_some e
  rw [M.bind_run, g1]
  show (M.get (fun _ => xs[d]?) >>= fun y => M.put (fun S => S.set n (some (.lst (xs.eraseIdx d)))) >>= fun _ => pure y : M D) S = _
  rw [M.bind_run, g2]
  rfl
theorem len_cell {q : Nat} {S : Sto} {xs : List D} (h : cellL q S = some xs) : len1 (.cell q) S = .ok (.int xs.length) S := by
  show (seqA (.cell q) >>= fun xs => pure (.int xs.length) : M D) S = _
  rw [M.bind_run, seqA_cell h]
  rfl
end DD
namespace K36
open PySem PySem.Spec PyProof.Rows L2 DD
theorem Ext.via {p q : Nat} {S0 S S' : Sto} (h : Ext p S0 S) (h' : Ext q S S') (l : S0.length ≤ q) : Ext p S0 S' := ⟨Nat.le_trans h.len h'.len, fun n hn e => (h'.old n (Nat.lt_of_lt_of_le hn h.len) (by omega)).trans (h.old n hn e)⟩
theorem Pit.via {p q k : Nat} {S S' : Sto} (h : Pit p k S) (h' : Ext q S S') (n : p ≠ q) : Pit p k S' := h.same (h'.old p h.lt n)
noncomputable def Z1 : DEnv → M Fl := sSet 7 (dMt "list" dPopAt (dVar 5) (aCons (dCall 2 F__law_hoist (aCons (dVar 0) (aCons (dB dLen (aCons (dVar 5) aNil)) aNil))) aNil))
noncomputable def Z2 : DEnv → M Fl := sAsg (dCall 3 F__law_drawn_fact (aCons (dVar 0) (aCons (dVar 1) (aCons (dVar 4) aNil)))) (gTupD 3 (gsCons (gSet 8) (gsCons (gSet 9) (gsCons (gSet 10) gsNil))))
noncomputable def Z3 : DEnv → M Fl := sFor (srcSeq (dLst (aCons (dTup (aCons (dVar 8) (aCons (dVar 9) (aCons (dVar 10) aNil)))) (aCons (dTup (aCons (dVar 9) (aCons (dVar 8) (aCons (dOp dSub (dUn dNeg (dVar 10)) (dC (.int 1))) aNil)))) aNil)))) (gSet 11) L__law_split_1
theorem split2_eq : L__law_split_2 = sSeq Z1 (sSeq Z2 Z3) := rfl
/-- what stands while it is split -/
structure Sp (ns : List Str) (p q k b : Nat) (S0 S : Sto) (P : List (List NF)) : Prop where
  pit : Pit p k S
  cel : cellL q S = some (P.map (partD ns))
  new : S0.length ≤ q
  pq : p ≠ q
  ext : Ext p S0 S
  part : ∀ fs ∈ P, Part ns b fs
theorem z3 {ns : List Str} (nm : Names ns) (h6 : ns.length ≤ 6) {p q k b : Nat} {S0 S : Sto} {P : List (List NF)} (s : Sp ns p q k (b + 1) S0 S P) (hb : b ≤ 15) (hP : P.length ≤ 40) {old : List NF} (ho : Part ns b old) {f : NF} (ok : FactOk (ns.length + 1) f) (o0 o2 o3 o4 o6 o11 : Option D) :
    ∃ S' P' o11', Z3 [o0, some (.tup (ns.map D.str)), o2, o3, o4, some (.cell q), o6, some (partD ns old), some (.str (node ns f.1)), some (.str (node ns f.2.1)), some (.int f.2.2), o11] S = .ok (.nx [o0, some (.tup (ns.map D.str)), o2, o3, o4, some (.cell q), o6, some (partD ns old), some (.str (node ns f.1)), some (.str (node ns f.2.1)), some (.int f.2.2), o11']) S' ∧
      Sp ns p q k (b + 1) S0 S' P' ∧ P' ≠ [] ∧ P'.length ≤ P.length + 2 := by
  let f2 : NF := (f.2.1, f.1, -f.2.2 - 1)
  have ok2 : FactOk (ns.length + 1) f2 := ⟨ok.y, ok.x, fun e => ok.ne e.symm⟩
  obtain ⟨S1, P1, e1, c1, q1, x1⟩ := l_split1 nm h6 ho.ok (by have := ho.len; omega) ok s.cel (by omega) o0 o2 o3 o4 o6 (some (.str (node ns f.1))) (some (.str (node ns f.2.1))) (some (.int f.2.2))
  have hl1 : P1.length ≤ P.length + 1 := by rcases c1 with ⟨rfl, _⟩ | ⟨rfl, _⟩ <;> simp
  obtain ⟨S2, P2, e2, c2, q2, x2⟩ := l_split1 nm h6 ho.ok (by have := ho.len; omega) ok2 q1 (by omega) o0 o2 o3 o4 o6 (some (.str (node ns f.1))) (some (.str (node ns f.2.1))) (some (.int f.2.2))
  have hl2 : P2.length ≤ P1.length + 1 := by rcases c2 with ⟨rfl, _⟩ | ⟨rfl, _⟩ <;> simp
  have more : ∀ {g : NF}, FactOk (ns.length + 1) g → NoNeg (ns.length + 1) (old ++ [g]) → Part ns (b + 1) (old ++ [g]) := fun {g} hg nn => ⟨fun z hz => by
    rcases List.mem_append.mp hz with hz | hz
    · exact ho.ok z hz
    · rw [List.mem_singleton.mp hz]; exact hg, by have := ho.len; simp; omega, nn, fun i hi => List.mem_append_left _ (ho.cap i hi)⟩
  have pt1 : ∀ fs ∈ P1, Part ns (b + 1) fs := fun fs hfs => by
    rcases c1 with ⟨rfl, _⟩ | ⟨rfl, nn⟩
    · exact s.part fs hfs
    · rcases List.mem_append.mp hfs with z | z
      · exact s.part fs z
      · rw [List.mem_singleton.mp z]; exact more ok nn
  have pt2 : ∀ fs ∈ P2, Part ns (b + 1) fs := fun fs hfs => by
    rcases c2 with ⟨rfl, _⟩ | ⟨rfl, nn⟩
    · exact pt1 fs hfs
    · rcases List.mem_append.mp hfs with z | z
      · exact pt1 fs z
      · rw [List.mem_singleton.mp z]; exact more ok2 nn
  have l3 : (3 : Nat) ≤ sizeLine := le_line (by omega)
  have l2 : (2 : Nat) ≤ sizeLine := le_line (by omega)
  refine ⟨S2, P2, some (factS ns f2), ?_, ⟨(s.pit.via x1 s.pq).via x2 s.pq, q2, s.new, s.pq, (s.ext.via x1 s.new).via x2 s.new, pt2⟩, ?_, by omega⟩
  · have fs2 : factS ns f2 = .tup [.str (node ns f.2.1), .str (node ns f.1), .int (-f.2.2 - 1)] := rfl
    have fs1 : factS ns f = .tup [.str (node ns f.1), .str (node ns f.2.1), .int f.2.2] := rfl
    rw [fs2] at e2 ⊢
    rw [fs1] at e1
    simp [Z3, l3, l2, dFor, chk_none, e1, e2, loopS]
  · rintro rfl
    rcases c2 with ⟨rfl, n2⟩ | ⟨e, _⟩
    · rcases c1 with ⟨rfl, n1⟩ | ⟨e, _⟩
      · rcases split_one (by omega) ho.rng ho.nn ok.x ok.y f.2.2 with z | z
        · exact n1 z
        · exact n2 z
      · exact absurd (congrArg List.length e) (by simp)
    · exact absurd (congrArg List.length e) (by simp)
end K36

/-! OP4: the drawn parts, all turns -/
namespace K36
open PySem PySem.Spec PyProof.Rows L2 DD
theorem mapErase {α β : Type} (f : α → β) : ∀ (l : List α) (d : Nat), (l.map f).eraseIdx d = (l.eraseIdx d).map f
  | [], _ => rfl
  | _ :: _, 0 => rfl
  | x :: l, d + 1 => by
    show f x :: (l.map f).eraseIdx d = f x :: (l.eraseIdx d).map f
    rw [mapErase f l d]
theorem l_split2 {ns : List Str} (nm : Names ns) (h1 : 1 ≤ ns.length) (h6 : ns.length ≤ 6) {far : Int} (hf : 0 < far) (hf2 : far < 2 ^ 100) {p q k b : Nat} {S0 S : Sto} {P : List (List NF)} (s : Sp ns p q (k + 4) b S0 S P) (hb : b ≤ 15) (hP : P.length ≤ 30) (h0 : P ≠ []) (o2 o3 o6 o7 o8 o9 o10 o11 : Option D) :
    ∃ S' P' o7' o8' o9' o10' o11', L__law_split_2 [some (.cell p), some (.tup (ns.map D.str)), o2, o3, some (.int far), some (.cell q), o6, o7, o8, o9, o10, o11] S = .ok (.nx [some (.cell p), some (.tup (ns.map D.str)), o2, o3, some (.int far), some (.cell q), o6, o7', o8', o9', o10', o11']) S' ∧
      Sp ns p q k (b + 1) S0 S' P' ∧ P' ≠ [] ∧ P'.length ≤ P.length + 1 := by
  have hpos : 0 < P.length := List.length_pos_iff.mpr h0
  have ln := len_cell s.cel
  rw [List.length_map] at ln
  obtain ⟨d, S1, e1, b1, p1, x1⟩ := f_hoistN (k := k + 3) s.pit (below := P.length) hpos (Nat.lt_of_le_of_lt hP (by decide))
  have c1 := x1.cell s.cel (Ne.symm s.pq)
  have po := popAt_run c1 (d := d) (y := partD ns P[d]) (by rw [List.getElem?_map, List.getElem?_eq_getElem b1]; rfl) (by simp; omega)
  have er : (P.map (partD ns)).eraseIdx d = (P.eraseIdx d).map (partD ns) := mapErase (partD ns) P d
  rw [er] at po
  have z1 : Z1 [some (.cell p), some (.tup (ns.map D.str)), o2, o3, some (.int far), some (.cell q), o6, o7, o8, o9, o10, o11] S = .ok (.nx [some (.cell p), some (.tup (ns.map D.str)), o2, o3, some (.int far), some (.cell q), o6, some (partD ns P[d]), o8, o9, o10, o11]) (S1.set q (some (.lst ((P.eraseIdx d).map (partD ns))))) := by
    simp [Z1, ln, e1, po, isTy_cell s.cel, isTy_cell c1]
  have xq : Ext q S1 (S1.set q (some (.lst ((P.eraseIdx d).map (partD ns))))) := ⟨by rw [List.length_set]; exact Nat.le_refl _, fun n hn e => by rw [List.getElem?_set_ne (Ne.symm e)]⟩
  have p2 := p1.via xq s.pq
  have x2 := (s.ext.trans x1).via xq s.new
  obtain ⟨f, S3, e3, ok, p3, x3⟩ := f_drawn_fact p2 h1 h6 far hf hf2
  have z2 : Z2 [some (.cell p), some (.tup (ns.map D.str)), o2, o3, some (.int far), some (.cell q), o6, some (partD ns P[d]), o8, o9, o10, o11] (S1.set q (some (.lst ((P.eraseIdx d).map (partD ns))))) = .ok (.nx [some (.cell p), some (.tup (ns.map D.str)), o2, o3, some (.int far), some (.cell q), o6, some (partD ns P[d]), some (.str (node ns f.1)), some (.str (node ns f.2.1)), some (.int f.2.2), o11]) S3 := by
    have fs1 : factS ns f = .tup [.str (node ns f.1), .str (node ns f.2.1), .int f.2.2] := rfl
    rw [fs1] at e3
    simp [Z2, e3]
  have sub : ∀ fs ∈ P.eraseIdx d, fs ∈ P := fun fs h => List.mem_of_mem_eraseIdx h
  have cq : cellL q S3 = some ((P.eraseIdx d).map (partD ns)) := x3.cell (cell_set (Nat.lt_of_lt_of_le (cellL_lt c1) (Nat.le_refl _))) (Ne.symm s.pq)
  have s3 : Sp ns p q k (b + 1) S0 S3 (P.eraseIdx d) := ⟨p3, cq, s.new, s.pq, x2.trans x3, fun fs h => (s.part fs (sub fs h)).mono (Nat.le_succ _)⟩
  have hl : (P.eraseIdx d).length = P.length - 1 := List.length_eraseIdx_of_lt b1
  obtain ⟨S4, P', o11', e4, s4, n4, l4⟩ := z3 nm h6 s3 hb (by omega) (s.part P[d] (List.getElem_mem b1)) ok (some (.cell p)) o2 o3 (some (.int far)) o6 o11
  refine ⟨S4, P', some (partD ns P[d]), some (.str (node ns f.1)), some (.str (node ns f.2.1)), some (.int f.2.2), o11', ?_, s4, n4, by omega⟩
  rw [split2_eq, sSeq_nx z1, sSeq_nx z2]
  exact e4
theorem f_split {ns : List Str} (nm : Names ns) (h1 : 1 ≤ ns.length) (h6 : ns.length ≤ 6) {far : Int} (hf : 0 < far) (hf2 : far < 2 ^ 100) {p j b : Nat} {S : Sto} {t : Nat} (ht : t < 5) (h : Pit p (j + 16) S) {fs : List NF} (hp : Part ns b fs) (hb : b ≤ 11) :
    ∃ q S' P, F__law_split [.cell p, .tup (ns.map D.str), partD ns fs, .int (t : Int), .int far] S = .ok (.cell q) S' ∧ Sp ns p q j (b + 4) S S' P ∧ P ≠ [] ∧ P.length ≤ 5 := by
  have hpl := h.lt
  have c0 : cellL S.length (S ++ [some (.lst [partD ns fs])]) = some [partD ns fs] := cellL_of (by simp)
  have x0 : Ext p S (S ++ [some (.lst [partD ns fs])]) := ⟨by simp, fun n hn _ => List.getElem?_append_left hn⟩
  have p0 : Pit p (j + 16) (S ++ [some (.lst [partD ns fs])]) := h.same (List.getElem?_append_left hpl)
  obtain ⟨ρ', S', e, P, o6, o7, o8, o9, o10, o11, hρ, hs, hn, hl⟩ := for_evi (tg := gSet 6) (body := L__law_split_2) (fun i : Nat => D.int (i : Int))
    (fun i ρ S' => ∃ P o6 o7 o8 o9 o10 o11, ρ = [some (.cell p), some (.tup (ns.map D.str)), some (partD ns fs), some (.int (t : Int)), some (.int far), some (.cell S.length), o6, o7, o8, o9, o10, o11] ∧ Sp ns p S.length (j + 4 * (4 - i)) (b + i) S S' P ∧ P ≠ [] ∧ P.length ≤ 1 + i)
    (List.range t) [some (.cell p), some (.tup (ns.map D.str)), some (partD ns fs), some (.int (t : Int)), some (.int far), some (.cell S.length), none, none, none, none, none, none] (S ++ [some (.lst [partD ns fs])])
    ⟨[fs], none, none, none, none, none, none, rfl, ⟨p0.mono (by omega), c0, Nat.le_refl _, by omega, x0, fun z hz => by rw [List.mem_singleton.mp hz]; exact hp⟩, by simp, by simp⟩ (by
      rintro i a ρ S' ha ⟨P, o6, o7, o8, o9, o10, o11, rfl, hs, hn, hl⟩
      obtain ⟨hi, rfl⟩ := range_get ha
      have hs' : Sp ns p S.length (j + 4 * (4 - (a + 1)) + 4) (b + a) S S' P := ⟨hs.pit.mono (by omega), hs.cel, hs.new, hs.pq, hs.ext, hs.part⟩
      obtain ⟨S2, P', o7', o8', o9', o10', o11', e2, s2, n2, l2⟩ := l_split2 nm h1 h6 hf hf2 hs' (by omega) (by omega) hn (some (partD ns fs)) (some (.int (t : Int))) (some (.int (a : Int))) o7 o8 o9 o10 o11
      exact ⟨_, _, _, S2, rfl, e2, P', some (.int (a : Int)), o7', o8', o9', o10', o11', rfl, s2, n2, by omega⟩)
  rw [List.length_range] at hs hl
  refine ⟨S.length, S', P, ?_, ⟨hs.pit.mono (by omega), hs.cel, hs.new, hs.pq, hs.ext, fun z hz => (hs.part z hz).mono (by omega)⟩, hn, by omega⟩
  rw [hρ] at e
  have rn := rng1_run (n := t) (S := S ++ [some (.lst [partD ns fs])]) (by omega)
  have st : startD 12 [D.cell p, .tup (ns.map D.str), partD ns fs, .int (t : Int), .int far] = [some (.cell p), some (.tup (ns.map D.str)), some (partD ns fs), some (.int (t : Int)), some (.int far), none, none, none, none, none, none, none] := rfl
  have l1 : (1 : Nat) ≤ sizeLine := le_line (by omega)
  unfold F__law_split
  rw [runF_run', bind_r, nx_run, st]
  unfold B__law_split
  simp [l1, newCell, rn, e]
end K36

/-! OP5: caps -/
namespace K36
open PySem PySem.Spec PyProof.Rows L2 DD
theorem walk_pos {N : Nat} {fs : List NF} (h : ∀ f ∈ fs, 0 ≤ f.2.2) {x y : Nat} {b : Int} (w : Walk N fs x y b) : 0 ≤ b := by
  induction w with
  | nil x => exact Int.le_refl _
  | @step x y z c b e _ ih =>
    have : 0 ≤ c := by
      rcases e with e | ⟨_, _, rfl⟩
      · exact h _ e
      · exact Int.le_refl _
    omega
theorem noNeg_pos {N : Nat} {fs : List NF} (h : ∀ f ∈ fs, 0 ≤ f.2.2) : NoNeg N fs := fun x b _ w => walk_pos h w
end K36

/-! NM17: loops that end early, fields -/
namespace DD
open PySem PySem.Spec PyProof.Rows L2
theorem eq_nil {n : Nat} {neg : Bool} {xs : List D} {S : Sto} (hn : n ≤ 63) (h : ∀ x ∈ xs, pln n x = true) : dEq neg (.lst xs) (.lst []) S = .ok (.bl (xs.isEmpty != neg)) S := by
  have hp : pln (n + 1) (.lst xs) = true := by simpa [pln] using h
  have h0 : pln (n + 1) (.lst []) = true := by simp [pln]
  cases xs with
  | nil =>
    rw [eq_t (n := n + 1) (by omega) hp h0 rfl]
    simp
  | cons x xs =>
    rw [eq_f (n := n + 1) (by omega) hp h0 (fun z => by injection z with z; cases z)]
    simp
theorem for_chk {ι : Type} {tg : D → DEnv → M DEnv} {body : DEnv → M Fl} {S : Sto} (s : ι → D) (P : ι → Bool) (J : DEnv → Prop) (d : D) : ∀ (l : List ι) (ρ : DEnv), J ρ →
    (∀ a ρ, a ∈ l → J ρ → ∃ ρ1, tg (s a) ρ S = .ok ρ1 S ∧ (if P a = true then ∃ ρ2, body ρ1 S = .ok (.nx ρ2) S ∧ J ρ2 else body ρ1 S = .ok (.rt d) S)) →
    if l.all P = true then ∃ ρ', dFor none tg body (l.map s) ρ S = .ok (.nx ρ') S ∧ J ρ' else dFor none tg body (l.map s) ρ S = .ok (.rt d) S
  | [], ρ, h, _ => by
    simp only [List.all_nil, if_true]
    exact ⟨ρ, by simp [dFor, chk_none], h⟩
  | a :: l, ρ, h, step => by
    obtain ⟨ρ1, e1, e2⟩ := step a ρ List.mem_cons_self h
    by_cases c : P a = true
    · rw [if_pos c] at e2
      obtain ⟨ρ2, e3, h2⟩ := e2
      have ih := for_chk (tg := tg) (body := body) (S := S) s P J d l ρ2 h2 fun b ρ hb => step b ρ (List.mem_cons_of_mem _ hb)
      rw [List.all_cons, c, Bool.true_and]
      have e : dFor none tg body ((a :: l).map s) ρ S = dFor none tg body (l.map s) ρ2 S := by simp [dFor, chk_none, e1, e3, loopS]
      rw [e]
      exact ih
    · rw [if_neg c] at e2
      have c' : P a = false := by simpa using c
      rw [List.all_cons, c', Bool.false_and, if_neg Bool.false_ne_true]
      simp [dFor, chk_none, e1, e2, loopS]
end DD

namespace K36
open PySem PySem.Spec PyProof.Rows L2 DD
theorem enm_range {n : Nat} {f : Nat → D} {S : Sto} : enm1 [.tup ((List.range n).map f)] S = .ok ((List.range n).map (fun i : Nat => .tup [.int (i : Int), f i]), none) S := by
  rw [enm_tup]
  have e : (List.range n).zipIdx = (List.range n).map fun i => (i, i) := by
    refine List.ext_getElem? fun i => ?_
    rw [List.getElem?_zipIdx, List.getElem?_map]
    by_cases h : i < n
    · simp [h]
    · simp [h]
  rw [e, List.map_map]
  rfl
theorem fld_marks {ns ts : List Str} {fs : List NF} {m : Tab} (S : Sto) : dFld [0] ("marks" : Str) (sheetD ns ts fs m) S = .ok (.tup (ns.map D.str)) S := fld_obj (by simp) (by simp [sheetF, List.lookup])
theorem fld_takes {ns ts : List Str} {fs : List NF} {m : Tab} (S : Sto) : dFld [0] ("takes" : Str) (sheetD ns ts fs m) S = .ok (.tup (ts.map D.str)) S := fld_obj (by simp) (by simp [sheetF, List.lookup, beq_eq_false_iff_ne.mpr ne1.symm])
theorem fld_facts {ns ts : List Str} {fs : List NF} {m : Tab} (S : Sto) : dFld [0] ("facts" : Str) (sheetD ns ts fs m) S = .ok (.tup (fs.map (factS ns))) S := fld_obj (by simp) (by simp [sheetF, List.lookup, beq_eq_false_iff_ne.mpr ne2.symm, beq_eq_false_iff_ne.mpr ne5.symm])
theorem fld_nodes {ns ts : List Str} {fs : List NF} {m : Tab} (S : Sto) : dFld [0] ("nodes" : Str) (sheetD ns ts fs m) S = .ok (.tup (nodesD ns)) S := fld_obj (by simp) (by simp [sheetF, List.lookup, beq_eq_false_iff_ne.mpr ne3.symm, beq_eq_false_iff_ne.mpr ne6.symm, beq_eq_false_iff_ne.mpr ne8.symm])
theorem fld_bounds {ns ts : List Str} {fs : List NF} {m : Tab} (S : Sto) : dFld [0] ("bounds" : Str) (sheetD ns ts fs m) S = .ok (tab (ns.length + 1) m) S := fld_obj (by simp) (by simp [sheetF, List.lookup, beq_eq_false_iff_ne.mpr ne4.symm, beq_eq_false_iff_ne.mpr ne7.symm, beq_eq_false_iff_ne.mpr ne9.symm, beq_eq_false_iff_ne.mpr ne10.symm])
end K36

/-! OP6: parts dealt to two sides -/
namespace DD
open PySem PySem.Spec PyProof.Rows L2
theorem slice_cell {q : Nat} {xs : List D} {lo hi : Option Int} {S : Sto} (h : cellL q S = some xs) : dSlice (.cell q) lo hi S = .ok (.lst (cutA xs lo hi)) S := by
  show (seqA (.cell q) >>= fun xs => pure (.lst (cutA xs lo hi)) : M D) S = _
  rw [M.bind_run, seqA_cell h]
  rfl
theorem slice_lst {xs : List D} {lo hi : Option Int} {S : Sto} : dSlice (.lst xs) lo hi S = .ok (.lst (cutA xs lo hi)) S := rfl
theorem cellL_ne {q c : Nat} {S : Sto} {xs : List D} {d : Option Cell} (h : cellL q S = some xs) (n : c ≠ q) : cellL q (S.set c d) = some xs := cellL_of (by rw [List.getElem?_set_ne n]; exact cellL_some h)
theorem cellL_app {q : Nat} {S : Sto} {xs : List D} (h : cellL q S = some xs) (T : Sto) : cellL q (S ++ T) = some xs := cellL_of (by rw [List.getElem?_append_left (cellL_lt h)]; exact cellL_some h)
end DD
namespace K36
open PySem PySem.Spec PyProof.Rows L2 DD
theorem factS_pln {ns : List Str} (nm : Names ns) {f : NF} (h : FactOk (ns.length + 1) f) : pln 2 (factS ns f) = true := by
  have a := nodesD_pln nm (.str (node ns f.1)) (List.mem_of_getElem? (nodesD_get h.x))
  have b := nodesD_pln nm (.str (node ns f.2.1)) (List.mem_of_getElem? (nodesD_get h.y))
  simp [pln, factS] at a b ⊢
  try exact ⟨a, b⟩
theorem partD_pln {ns : List Str} (nm : Names ns) {b : Nat} (hb : b ≤ 60) {fs : List NF} (h : Part ns b fs) : pln 3 (partD ns fs) = true := by
  have hl := h.len
  have : ∀ x ∈ fs.map (factS ns), pln 2 x = true := fun x hx => by
    obtain ⟨f, hf, rfl⟩ := List.mem_map.mp hx
    exact factS_pln nm (h.ok f hf)
  simp [pln, partD] at this ⊢
  try first | exact this | exact fun a b c d => this _ a b c d rfl | exact ⟨by omega, fun a b c d => this _ a b c d rfl⟩
structure Sides (ns : List Str) (p q a k : Nat) (S0 S : Sto) (P B G : List (List NF)) : Prop where
  pit : Pit p k S
  cq : cellL q S = some (P.map (partD ns))
  ca : cellL a S = some (B.map (partD ns))
  cb : cellL (a + 1) S = some (G.map (partD ns))
  new : S0.length ≤ a
  ql : q < a
  pl : p < a
  ext : Ext p S0 S
  inB : ∀ x ∈ B, x ∈ P
  inG : ∀ x ∈ G, x ∈ P
noncomputable def twoIf : DEnv → M Fl := sIf (tAndD (tVal (dOp (dEq false) (dVar 2) (dLst aNil))) (tVal (dOp (dEq false) (dVar 3) (dLst aNil)))) (sExpr (dMt "list" dAppend (dVar 3) (aCons (dOp dIx (dVar 1) (dC (.int 0))) aNil))) sNext
theorem Sides.setA {ns : List Str} {p q a k : Nat} {S0 S : Sto} {P B G : List (List NF)} (s : Sides ns p q a k S0 S P B G) {x : List NF} (hx : x ∈ P) : Sides ns p q a k S0 (S.set a (some (.lst (B.map (partD ns) ++ [partD ns x])))) P (B ++ [x]) G :=
  ⟨s.pit.same (List.getElem?_set_ne (by have := s.pl; omega)), cellL_ne s.cq (by have := s.ql; omega), by rw [cell_set (cellL_lt s.ca), List.map_append]; rfl, cellL_ne s.cb (by omega), s.new, s.ql, s.pl, s.ext.new s.new,
    fun y hy => by rcases List.mem_append.mp hy with z | z
                   · exact s.inB y z
                   · rw [List.mem_singleton.mp z]; exact hx, s.inG⟩
theorem Sides.setB {ns : List Str} {p q a k : Nat} {S0 S : Sto} {P B G : List (List NF)} (s : Sides ns p q a k S0 S P B G) {x : List NF} (hx : x ∈ P) : Sides ns p q a k S0 (S.set (a + 1) (some (.lst (G.map (partD ns) ++ [partD ns x])))) P B (G ++ [x]) :=
  ⟨s.pit.same (List.getElem?_set_ne (by have := s.pl; omega)), cellL_ne s.cq (by have := s.ql; omega), cellL_ne s.ca (by omega), by rw [cell_set (cellL_lt s.cb), List.map_append]; rfl, s.new, s.ql, s.pl, s.ext.new (by have := s.new; omega),
    s.inB, fun y hy => by rcases List.mem_append.mp hy with z | z
                          · exact s.inG y z
                          · rw [List.mem_singleton.mp z]; exact hx⟩
theorem l_two {ns : List Str} {p q a k : Nat} {S0 S : Sto} {P B G : List (List NF)} (s : Sides ns p q a (k + 1) S0 S P B G) {x : List NF} (hx : x ∈ P) (hB : B.length ≤ 30) (hG : G.length ≤ 30) (o5 : Option D) :
    ∃ S' B' G' o5', L__law_two_sides_1 [some (.cell p), some (.cell q), some (.cell a), some (.cell (a + 1)), some (partD ns x), o5] S = .ok (.nx [some (.cell p), some (.cell q), some (.cell a), some (.cell (a + 1)), some (partD ns x), o5']) S' ∧
      Sides ns p q a k S0 S' P B' G' ∧ B'.length ≤ B.length + 1 ∧ G'.length ≤ G.length + 1 := by
  obtain ⟨d, S1, e1, b1, p1, x1⟩ := f_hoistN s.pit (below := 7) (by decide) (by decide)
  have e1' : F__law_hoist [.cell p, .int 7] S = .ok (.int (d : Int)) S1 := e1
  have s1 : Sides ns p q a k S0 S1 P B G := ⟨p1, x1.cell s.cq (by have := s.ql; have := s.pl; intro e; subst e; exact absurd s.pit.ex (by
    obtain ⟨x, y, z, h, _⟩ := s.pit.ex
    rw [s.cq] at h
    intro _
    cases P with
    | nil => cases h
    | cons a l => injection h with h; injection h with h _; cases h)), x1.cell s.ca (by have := s.pl; omega), x1.cell s.cb (by have := s.pl; omega), s.new, s.ql, s.pl, s.ext.trans x1, s.inB, s.inG⟩
  by_cases h3 : (d : Int) < 3
  · have ap := append_run (d := partD ns x) s1.ca (le_line' (by simp; omega))
    exact ⟨_, B ++ [x], G, some (.int d), by simp [L__law_two_sides_1, e1', h3, ap, isTy_cell s1.ca], s1.setA hx, by simp, by omega⟩
  · by_cases h6 : (d : Int) < 6
    · have ap := append_run (d := partD ns x) s1.cb (le_line' (by simp; omega))
      exact ⟨_, B, G ++ [x], some (.int d), by simp [L__law_two_sides_1, e1', h3, h6, ap, isTy_cell s1.cb], s1.setB hx, by omega, by simp⟩
    · exact ⟨S1, B, G, some (.int d), by simp [L__law_two_sides_1, e1', h3, h6], s1, by omega, by omega⟩
end K36

/-! OP7: two sides -/
namespace K36
open PySem PySem.Spec PyProof.Rows L2 DD
theorem isNil_run {ns : List Str} (nm : Names ns) {b : Nat} (hb : b ≤ 60) {B : List (List NF)} (h : ∀ x ∈ B, Part ns b x) (neg : Bool) (S : Sto) : dEq neg (.lst (B.map (partD ns))) (.lst []) S = .ok (.bl (B.isEmpty != neg)) S := by
  rw [eq_nil (n := 3) (by omega) fun x hx => by
    obtain ⟨f, hf, rfl⟩ := List.mem_map.mp hx
    exact partD_pln nm hb (h f hf)]
  cases B <;> rfl
/-- a side: parts, at most four -/
structure Side (ns : List Str) (b m : Nat) (B : List (List NF)) : Prop where
  part : ∀ x ∈ B, Part ns b x
  few : B.length ≤ m
theorem f_two {ns : List Str} (nm : Names ns) {p q j b : Nat} {S0 S : Sto} {P : List (List NF)} (s : Sp ns p q (j + 5) b S0 S P) (hb : b ≤ 60) (h0 : P ≠ []) (hP : P.length ≤ 5) :
    ∃ B G S', F__law_two_sides [.cell p, .cell q] S = .ok (.tup [.lst (B.map (partD ns)), .lst (G.map (partD ns))]) S' ∧ Side ns b 4 B ∧ Side ns b 4 G ∧ (B ≠ [] ∨ G ≠ []) ∧ Pit p j S' ∧ Ext p S0 S' := by
  have hql := cellL_lt s.cel
  have hpl := s.pit.lt
  have a1 : ∀ x y : Option Cell, (S ++ [x]) ++ [y] = S ++ [x, y] := fun x y => by rw [List.append_assoc]; rfl
  let S2 : Sto := (S ++ [some (.lst [])]) ++ [some (.lst [])]
  have c0 : cellL S.length S2 = some [] := cellL_of (by simp [S2])
  have c1 : cellL (S.length + 1) S2 = some [] := cellL_of (by simp [S2])
  have x0 : Ext p S S2 := ⟨by simp [S2], fun n hn _ => by simp only [S2, List.append_assoc]; exact List.getElem?_append_left hn⟩
  have start : Sides ns p q S.length (j + 5) S S2 P [] [] := ⟨s.pit.same (by simp only [S2, List.append_assoc]; exact List.getElem?_append_left hpl), cellL_app (cellL_app s.cel _) _, c0, c1, Nat.le_refl _, hql, hpl, x0, fun _ h => (by cases h), fun _ h => (by cases h)⟩
  obtain ⟨ρ', S3, e, B, G, o4, o5, hρ, hs, hB, hG⟩ := for_evg (o := some (q, P.map (partD ns))) (tg := gSet 4) (body := L__law_two_sides_1) (partD ns)
    (fun i ρ S' => ∃ B G o4 o5, ρ = [some (.cell p), some (.cell q), some (.cell S.length), some (.cell (S.length + 1)), o4, o5] ∧ Sides ns p q S.length (j + (5 - i)) S S' P B G ∧ B.length ≤ i ∧ G.length ≤ i)
    (fun k ρ S' h => by
      obtain ⟨B, G, o4, o5, _, hs, _⟩ := h
      exact chk_some hs.cq) P 0 [some (.cell p), some (.cell q), some (.cell S.length), some (.cell (S.length + 1)), none, none] S2
    ⟨[], [], none, none, rfl, start, Nat.le_refl _, Nat.le_refl _⟩ (by
      rintro i x ρ S' hx ⟨B, G, o4, o5, rfl, hs, hB, hG⟩
      have hi : i < P.length := (List.getElem?_eq_some_iff.mp hx).1
      rw [Nat.zero_add] at hs hB hG ⊢
      have hs' : Sides ns p q S.length (j + (5 - (i + 1)) + 1) S S' P B G := ⟨hs.pit.mono (by omega), hs.cq, hs.ca, hs.cb, hs.new, hs.ql, hs.pl, hs.ext, hs.inB, hs.inG⟩
      obtain ⟨S4, B', G', o5', e4, s4, l1, l2⟩ := l_two hs' (List.mem_of_getElem? hx) (by omega) (by omega) o5
      exact ⟨_, _, _, S4, rfl, e4, B', G', _, o5', rfl, s4, by omega, by omega⟩)
  rw [Nat.zero_add] at hB hG
  have pB : ∀ x ∈ B, Part ns b x := fun x hx => s.part x (hs.inB x hx)
  have pG : ∀ x ∈ G, Part ns b x := fun x hx => s.part x (hs.inG x hx)
  have hpos : 0 < P.length := List.length_pos_iff.mpr h0
  have nb := isNil_run nm hb pB false S3
  have ng := isNil_run nm hb pG false S3
  have fin : ∃ G' S4, twoIf ρ' S3 = .ok (.nx ρ') S4 ∧ Sides ns p q S.length (j + (5 - (0 + P.length))) S S4 P B G' ∧ (B ≠ [] ∨ G' ≠ []) ∧ G'.length ≤ 5 := by
    subst hρ
    by_cases hb0 : B = []
    · by_cases hg0 : G = []
      · subst hb0 hg0
        have ap := append_run (d := partD ns P[0]) hs.cb (le_line' (by simp))
        have ix : dIx (.cell q) (.int 0) S3 = .ok (partD ns P[0]) S3 := ix_cell (i := 0) hs.cq (by rw [List.getElem?_map, List.getElem?_eq_getElem hpos]; rfl)
        refine ⟨[] ++ [P[0]], _, ?_, hs.setB (List.getElem_mem hpos), .inr (by simp), by simp⟩
        simp only [List.map_nil, List.isEmpty_nil, Bool.bne_false] at nb ng ap
        simp [twoIf, eq_cell hs.ca, eq_cell hs.cb, nb, ng, ix, ap, isTy_cell hs.cb]
      · have hge : G.isEmpty = false := by simpa using hg0
        have hbe : B.isEmpty = true := by simpa using hb0
        refine ⟨G, S3, ?_, hs, .inr hg0, by omega⟩
        rw [hge] at ng
        rw [hbe] at nb
        simp only [Bool.bne_false] at nb ng
        simp [twoIf, eq_cell hs.ca, eq_cell hs.cb, nb, ng]
    · have hbe : B.isEmpty = false := by simpa using hb0
      refine ⟨G, S3, ?_, hs, .inl hb0, by omega⟩
      rw [hbe] at nb
      simp only [Bool.bne_false] at nb
      simp [twoIf, eq_cell hs.ca, eq_cell hs.cb, nb]
  obtain ⟨G', S4, e4, s4, n4, l4⟩ := fin
  have tk : ∀ L : List (List NF), cutA (L.map (partD ns)) none (some 4) = (L.take 4).map (partD ns) := fun L => by
    have := cutA_take (xs := L.map (partD ns)) (k := 4)
    rw [show ((4 : Nat) : Int) = 4 from rfl] at this
    rw [this, List.map_take]
  have tn : ∀ L : List (List NF), L ≠ [] → L.take 4 ≠ [] := fun L h z => by
    cases L with
    | nil => exact h rfl
    | cons a L => cases z
  refine ⟨B.take 4, G'.take 4, S4, ?_, ⟨fun x hx => pB x (List.mem_of_mem_take hx), by simp; omega⟩, ⟨fun x hx => s.part x (s4.inG x (List.mem_of_mem_take hx)), by simp; omega⟩, n4.elim (fun h => .inl (tn B h)) (fun h => .inr (tn G' h)), s4.pit.mono (by omega), s.ext.trans s4.ext⟩
  have l2 : (2 : Nat) ≤ sizeLine := le_line (by omega)
  have l0 : (0 : Nat) ≤ sizeLine := le_line (by omega)
  have st : startD 6 [D.cell p, .cell q] = [some (.cell p), some (.cell q), none, none, none, none] := rfl
  have fe : sFor (srcSeq (dVar 1)) (gSet 4) L__law_two_sides_1 [some (.cell p), some (.cell q), some (.cell S.length), some (.cell (S.length + 1)), none, none] S2 = .ok (.nx ρ') S3 := by
    simp [src_cell start.cq, e]
  have pe : sPar 2 3 (aCons (dLstC aNil) (aCons (dLstC aNil) aNil)) [some (.cell p), some (.cell q), none, none, none, none] S = .ok (.nx [some (.cell p), some (.cell q), some (.cell S.length), some (.cell (S.length + 1)), none, none]) S2 := by
    simp [l0, newCell, S2]
  have re : sRet (dTup (aCons (dSl (dVar 2) oNone (oSome (dC (.int 4)))) (aCons (dSl (dVar 3) oNone (oSome (dC (.int 4)))) aNil))) ρ' S4 = .ok (.rt (.tup [.lst ((B.take 4).map (partD ns)), .lst ((G'.take 4).map (partD ns))])) S4 := by
    subst hρ
    simp [-List.map_take, l2, slice_cell s4.ca, slice_cell s4.cb, tk B, tk G']
  have be : B__law_two_sides = sSeq (sPar 2 3 (aCons (dLstC aNil) (aCons (dLstC aNil) aNil))) (sSeq (sFor (srcSeq (dVar 1)) (gSet 4) L__law_two_sides_1) (sSeq twoIf (sRet (dTup (aCons (dSl (dVar 2) oNone (oSome (dC (.int 4)))) (aCons (dSl (dVar 3) oNone (oSome (dC (.int 4)))) aNil)))))) := rfl
  unfold F__law_two_sides
  rw [runF_run', bind_r, nx_run, st, be, sSeq_nx pe, sSeq_nx fe, sSeq_nx e4, re]
  rfl
end K36

/-! OP8: one part once more -/
namespace DD
open PySem PySem.Spec PyProof.Rows L2
theorem cutA_drop {xs : List D} {k : Nat} (h : k ≤ xs.length) : cutA xs (some (k : Int)) none = xs.drop k := by
  unfold cutA
  rw [HT.sIx_nat, HT.sIx_none, Nat.min_eq_left h, List.take_of_length_le (by rw [List.length_drop]; omega)]
end DD
namespace K36
open PySem PySem.Spec PyProof.Rows L2 DD
noncomputable def W1 : DEnv → M Fl := sIf (tOrD (tVal (dOp (dEq false) (dVar 2) (dLst aNil))) (tVal (dOp (dEq false) (dCall 2 F__law_hoist (aCons (dVar 0) (aCons (dC (.int 2)) aNil))) (dC (.int 0))))) (sRet (dVar 2)) sNext
noncomputable def W2 : DEnv → M Fl := sSet 3 (dOp dIx (dVar 2) (dCall 2 F__law_hoist (aCons (dVar 0) (aCons (dB dLen (aCons (dVar 2) aNil)) aNil))))
noncomputable def W3 : DEnv → M Fl := sSet 4 (dIf (tVal (dOp dGt (dB dLen (aCons (dVar 3) aNil)) (dC (.int 7)))) (dVar 3) (dCall 5 F__law_some_facts (aCons (dVar 0) (aCons (dVar 1) (aCons (dVar 3) (aCons (dC (.int 1)) (aCons (dC (.int 4)) aNil)))))))
noncomputable def W4 : DEnv → M Fl := sSet 5 (dCall 2 F__law_hoist (aCons (dVar 0) (aCons (dOp dAdd (dB dLen (aCons (dVar 2) aNil)) (dC (.int 1))) aNil)))
noncomputable def W5 : DEnv → M Fl := sRet (dOp dAdd (dOp dAdd (dSl (dVar 2) oNone (oSome (dVar 5))) (dLst (aCons (dVar 4) aNil))) (dSl (dVar 2) (oSome (dVar 5)) oNone))
theorem doubled_eq : B__law_doubled = sSeq W1 (sSeq W2 (sSeq W3 (sSeq W4 W5))) := rfl
theorem len_lst {xs : List D} {S : Sto} : len1 (.lst xs) S = .ok (.int xs.length) S := rfl
theorem eq_int0 (a b : Int) (S : Sto) : dEq false (.int a) (.int b) S = .ok (.bl (decide (a = b))) S := by
  by_cases h : a = b
  · rw [eq_t (n := 1) (by omega) rfl rfl (by rw [h])]
    simp [h]
  · rw [eq_f (n := 1) (by omega) rfl rfl (fun z => h (by injection z))]
    simp [h]
theorem f_doubled {ns : List Str} (nm : Names ns) (h1 : 1 ≤ ns.length) (h6 : ns.length ≤ 6) {p j : Nat} {S : Sto} (h : Pit p (j + 7) S) {B : List (List NF)} (s : Side ns 12 4 B) :
    ∃ B' S', F__law_doubled [.cell p, .tup (ns.map D.str), .lst (B.map (partD ns))] S = .ok (.lst (B'.map (partD ns))) S' ∧ Side ns 12 5 B' ∧ (B' = [] ↔ B = []) ∧ Pit p j S' ∧ Ext p S S' := by
  have st : startD 6 [D.cell p, .tup (ns.map D.str), .lst (B.map (partD ns))] = [some (.cell p), some (.tup (ns.map D.str)), some (.lst (B.map (partD ns))), none, none, none] := rfl
  have l0 : (0 : Nat) ≤ sizeLine := le_line (by omega)
  have l1 : (1 : Nat) ≤ sizeLine := le_line (by omega)
  have nb := isNil_run nm (by omega) s.part false S
  by_cases hb0 : B = []
  · have hbe : B.isEmpty = true := by simpa using hb0
    rw [hbe] at nb
    simp only [Bool.bne_false] at nb
    have w1 : W1 [some (.cell p), some (.tup (ns.map D.str)), some (.lst (B.map (partD ns))), none, none, none] S = .ok (.rt (.lst (B.map (partD ns)))) S := by
      simp [W1, l0, nb]
    refine ⟨B, S, ?_, ⟨s.part, by have := s.few; omega⟩, Iff.rfl, h.mono (by omega), .refl p S⟩
    unfold F__law_doubled
    rw [runF_run', bind_r, nx_run, st, doubled_eq, sSeq_rt w1]
    rfl
  have hbe : B.isEmpty = false := by simpa using hb0
  rw [hbe] at nb
  simp only [Bool.bne_false] at nb
  have hpos : 0 < B.length := List.length_pos_iff.mpr hb0
  have few := s.few
  obtain ⟨d, S1, e1, b1, p1, x1⟩ := f_hoistN (k := j + 6) h (below := 2) (by decide) (by decide)
  have e1' : F__law_hoist [.cell p, .int 2] S = .ok (.int (d : Int)) S1 := e1
  by_cases hd : (d : Int) = 0
  · have ez := eq_int0 (d : Int) 0 S1
    rw [decide_eq_true hd] at ez
    have w1 : W1 [some (.cell p), some (.tup (ns.map D.str)), some (.lst (B.map (partD ns))), none, none, none] S = .ok (.rt (.lst (B.map (partD ns)))) S1 := by
      simp [W1, l0, nb, e1', ez]
    refine ⟨B, S1, ?_, ⟨s.part, by omega⟩, Iff.rfl, p1.mono (by omega), x1⟩
    unfold F__law_doubled
    rw [runF_run', bind_r, nx_run, st, doubled_eq, sSeq_rt w1]
    rfl
  have ez := eq_int0 (d : Int) 0 S1
  rw [decide_eq_false hd] at ez
  have w1 : W1 [some (.cell p), some (.tup (ns.map D.str)), some (.lst (B.map (partD ns))), none, none, none] S = .ok (.nx [some (.cell p), some (.tup (ns.map D.str)), some (.lst (B.map (partD ns))), none, none, none]) S1 := by
    simp [W1, l0, nb, e1', ez]
  obtain ⟨d2, S2, e2, b2, p2, x2⟩ := f_hoistN (k := j + 5) p1 (below := B.length) hpos (Nat.lt_of_le_of_lt few (by decide))
  have ln : len1 (.lst (B.map (partD ns))) S1 = .ok (.int (B.length : Int)) S1 := by rw [len_lst, List.length_map]
  have ix : dIx (.lst (B.map (partD ns))) (.int (d2 : Int)) S2 = .ok (partD ns B[d2]) S2 := ix_lst (by rw [List.getElem?_map, List.getElem?_eq_getElem b2]; rfl)
  have w2 : W2 [some (.cell p), some (.tup (ns.map D.str)), some (.lst (B.map (partD ns))), none, none, none] S1 = .ok (.nx [some (.cell p), some (.tup (ns.map D.str)), some (.lst (B.map (partD ns))), some (partD ns B[d2]), none, none]) S2 := by
    simp [W2, ln, e2, ix]
  have po := s.part B[d2] (List.getElem_mem b2)
  have plen := po.len
  have w3 : ∃ more S3, W3 [some (.cell p), some (.tup (ns.map D.str)), some (.lst (B.map (partD ns))), some (partD ns B[d2]), none, none] S2 = .ok (.nx [some (.cell p), some (.tup (ns.map D.str)), some (.lst (B.map (partD ns))), some (partD ns B[d2]), some (partD ns more), none]) S3 ∧ Part ns 12 more ∧ Pit p (j + 1) S3 ∧ Ext p S2 S3 := by
    have lo : len1 (partD ns B[d2]) S2 = .ok (.int (B[d2].length : Int)) S2 := by
      unfold partD
      rw [len_tup, List.length_map]
    by_cases h7 : (7 : Int) < (B[d2].length : Int)
    · exact ⟨B[d2], S2, by simp [W3, lo, h7], po, p2.mono (by omega), .refl p S2⟩
    · obtain ⟨fs, S3, e3, f1, f2, f3, f4, p3, x3⟩ := f_some1 (j := j + 1) p2 nm h1 h6 4 (by decide) (by decide) po.ok (by omega) po.nn
      have e3' : F__law_some_facts [.cell p, .tup (ns.map D.str), partD ns B[d2], .int 1, .int 4] S2 = .ok (partD ns fs) S3 := e3
      exact ⟨fs, S3, by simp [W3, lo, h7, e3'], ⟨f1, by omega, f3, fun i hi => f4 _ (po.cap i hi)⟩, p3, x3⟩
  obtain ⟨more, S3, w3, pm, p3, x3⟩ := w3
  obtain ⟨k, S4, e4, b4, p4, x4⟩ := f_hoistN (k := j) p3 (below := B.length + 1) (by omega) (Nat.lt_of_le_of_lt (Nat.succ_le_succ few) (by decide))
  have e4' : F__law_hoist [.cell p, .int ((B.length : Int) + 1)] S3 = .ok (.int (k : Int)) S4 := e4
  have ln3 : len1 (.lst (B.map (partD ns))) S3 = .ok (.int (B.length : Int)) S3 := by rw [len_lst, List.length_map]
  have w4 : W4 [some (.cell p), some (.tup (ns.map D.str)), some (.lst (B.map (partD ns))), some (partD ns B[d2]), some (partD ns more), none] S3 = .ok (.nx [some (.cell p), some (.tup (ns.map D.str)), some (.lst (B.map (partD ns))), some (partD ns B[d2]), some (partD ns more), some (.int (k : Int))]) S4 := by
    simp [W4, ln3, e4']
  have sl1 : dSlice (.lst (B.map (partD ns))) none (some (k : Int)) S4 = .ok (.lst ((B.take k).map (partD ns))) S4 := by
    rw [slice_lst, cutA_take, List.map_take]
  have sl2 : dSlice (.lst (B.map (partD ns))) (some (k : Int)) none S4 = .ok (.lst ((B.drop k).map (partD ns))) S4 := by
    rw [slice_lst, cutA_drop (by simp; omega), List.map_drop]
  have ad1 : dAdd (.lst ((B.take k).map (partD ns))) (.lst [partD ns more]) S4 = .ok (.lst ((B.take k).map (partD ns) ++ [partD ns more])) S4 := add_lst (le_line (by simp; omega))
  have ad2 : dAdd (.lst ((B.take k).map (partD ns) ++ [partD ns more])) (.lst ((B.drop k).map (partD ns))) S4 = .ok (.lst ((B.take k).map (partD ns) ++ [partD ns more] ++ (B.drop k).map (partD ns))) S4 := add_lst (le_line (by simp; omega))
  have w5 : W5 [some (.cell p), some (.tup (ns.map D.str)), some (.lst (B.map (partD ns))), some (partD ns B[d2]), some (partD ns more), some (.int (k : Int))] S4 = .ok (.rt (.lst ((B.take k ++ [more] ++ B.drop k).map (partD ns)))) S4 := by
    simp only [List.map_append, List.map_cons, List.map_nil]
    simp [-List.append_assoc, -List.map_take, -List.map_drop, W5, l1, sl1, sl2, ad1, ad2]
  refine ⟨B.take k ++ [more] ++ B.drop k, S4, ?_, ⟨fun x hx => ?_, by simp; omega⟩, ⟨fun e => absurd (congrArg List.length e) (by simp), fun e => absurd e hb0⟩, p4, ((x1.trans x2).trans x3).trans x4⟩
  · unfold F__law_doubled
    rw [runF_run', bind_r, nx_run, st, doubled_eq, sSeq_nx w1, sSeq_nx w2, sSeq_nx w3, sSeq_nx w4, w5]
    rfl
  · simp only [List.mem_append, List.mem_singleton] at hx
    rcases hx with (z | z) | z
    · exact s.part x (List.mem_of_mem_take z)
    · rw [z]; exact pm
    · exact s.part x (List.mem_of_mem_drop z)
end K36

/-! OP9: families made -/
namespace DD
open PySem PySem.Spec PyProof.Rows L2
theorem make_gen {c : Nat} {fs : List (Str × D)} {F : List D → M D} {as : List D} {S S1 : Sto} (h : F (.cell S.length :: as) (S ++ [some (.obj c [])]) = .ok .non S1) (g : S1[S.length]? = some (some (.obj c fs))) : makeD c true F as S = .ok (.obj c fs) (S1.set S.length none) := by
  show (newIns c >>= fun x => F (x :: as) >>= fun r => toN r >>= fun _ => if true then freezeD x else pure x : M D) S = _
  rw [M.bind_run]
  show (F (.cell S.length :: as) >>= fun r => toN r >>= fun _ => if true then freezeD (.cell S.length) else pure (.cell S.length) : M D) (S ++ [some (Cell.obj c [])]) = _
  rw [M.bind_run, h]
  show (M.get (insS S.length) >>= fun p => M.put (fun S' => S'.set S.length none) >>= fun _ => pure (.obj p.1 p.2) : M D) _ = _
  rw [M.bind_run, get_some (insS_of g)]
  rfl
theorem slice_tup {xs : List D} {lo hi : Option Int} {S : Sto} : dSlice (.tup xs) lo hi S = .ok (.tup (cutA xs lo hi)) S := rfl
theorem setFld_gen {n c : Nat} {f : Str} {fs : List (Str × D)} {v : D} {S : Sto} (h : S[n]? = some (some (.obj c fs))) (hl : fs.length < 1000) : setFld [c] f (.cell n) v S = .ok () (S.set n (some (.obj c (putD f v fs)))) := by
  show (M.get (insS n) >>= fun p => M.need (p.1 ∈ [c] ∧ p.2.length < 1000) >>= fun _ => M.put fun S => S.set n (some (.obj p.1 (putD f v p.2)))) S = _
  rw [M.bind_run, get_some (insS_of h)]
  show (M.need (c ∈ [c] ∧ fs.length < 1000) >>= fun _ => M.put fun S => S.set n (some (.obj c (putD f v fs)))) S = _
  rw [need_ok ⟨by simp, hl⟩]
  rfl
@[simp] theorem dMake_run {c n : Nat} {b : Bool} {F : List D → M D} {fs : DEnv → M (List D)} {ρ : DEnv} {S : Sto} : dMake c b n F fs ρ S = (fs ρ >>= fun as => M.need (as.length = n) >>= fun _ => makeD c b F as) S := nr rfl
@[simp] theorem dMakeS_run {c : Nat} {b : Bool} {F : List D → M D} {fs : DEnv → M (List D)} {ρ : DEnv} {S : Sto} : dMakeS c b F fs ρ S = (fs ρ >>= fun as => M.need (as.length ≤ sizeLine) >>= fun _ => makeD c b (starF F) as) S := nr rfl
@[simp] theorem dBinO_run {T : MTab} {fa fb : DEnv → M D} {ρ : DEnv} {S : Sto} : dBinO T fa fb ρ S = (fa ρ >>= fun x => fb ρ >>= fun y => binTail T x y) S := nr rfl
theorem binTail_run {c : Nat} {F : List D → M D} {fs gs : List (Str × D)} {S : Sto} : binTail [(c, F)] (.obj c fs) (.obj c gs) S = F [.obj c fs, .obj c gs] S := by
  show (sameC (.obj c fs) (.obj c gs) >>= fun _ => pickS [(c, F)] (.obj c fs) >>= fun G => G [.obj c fs, .obj c gs] : M D) S = _
  have e1 : sameC (.obj c fs) (.obj c gs) S = .ok () S := by
    show (M.need (c = c)) S = _
    unfold M.need
    rw [if_pos rfl]
  have e2 : pickS [(c, F)] (.obj c fs) S = .ok F S := by
    show (M.get fun _ => mtGet [(c, F)] c) S = _
    exact getc_some (by simp [mtGet])
  rw [M.bind_run, e1]
  show (pickS [(c, F)] (.obj c fs) >>= fun G => G [.obj c fs, .obj c gs] : M D) S = _
  rw [M.bind_run, e2]
end DD
namespace K36
open PySem PySem.Spec PyProof.Rows L2 DD
abbrev NT := List NF × Tab
def shD (ns ts : List Str) (b : NT) : D := sheetD ns ts b.1 b.2
def famD (ns ts : List Str) (B : List NT) : D := .obj 1 [(("parts" : Str), .tup (B.map (shD ns ts)))]
theorem names_pln {ns ts : List Str} (nm : Names ns) (ht : ∀ t ∈ ts, t ∈ ns) : pln 3 (.tup [.tup (ns.map D.str), .tup (ts.map D.str)]) = true := by
  have a : ∀ t ∈ ns, pln 1 (.str t) = true := fun t h => nodesD_pln nm _ (List.mem_cons_of_mem _ (List.mem_map_of_mem h))
  have b : ∀ t ∈ ts, pln 1 (.str t) = true := fun t h => a t (ht t h)
  simp [pln] at a b ⊢
  exact ⟨a, b⟩
theorem f_check_like {ns ts : List Str} (nm : Names ns) (ht : ∀ t ∈ ts, t ∈ ns) (x y : NT) (S : Sto) : F_check_like [shD ns ts x, shD ns ts y] S = .ok .non S := by
  have l2 : (2 : Nat) ≤ sizeLine := le_line (by omega)
  have e := eq_t (neg := true) (S := S) (n := 3) (by omega) (names_pln nm ht) (names_pln nm ht) rfl
  simp [F_check_like, B_check_like, shD, fld_marks, fld_takes, l2, e]
theorem cut1 (x : D) (xs : List D) : cutA (x :: xs) (some 1) none = xs := by
  have := cutA_drop (xs := x :: xs) (k := 1) (by simp)
  exact this
theorem f_fam_init {ns ts : List Str} (nm : Names ns) (ht : ∀ t ∈ ts, t ∈ ns) (B : List NT) {n : Nat} {S : Sto} (hn : S[n]? = some (some (.obj 1 []))) :
    F_Family___init__ [.cell n, .tup (B.map (shD ns ts))] S = .ok .non (S.set n (some (.obj 1 [(("parts" : Str), .tup (B.map (shD ns ts)))]))) := by
  have sf := setFld_gen (f := ("parts" : Str)) (v := .tup (B.map (shD ns ts))) hn (by simp)
  have pd : putD ("parts" : Str) (.tup (B.map (shD ns ts))) [] = [(("parts" : Str), .tup (B.map (shD ns ts)))] := rfl
  rw [pd] at sf
  cases B with
  | nil =>
    have c0 : cutA ([] : List D) (some 1) none = [] := by simp [cutA]
    simp only [List.map_nil] at sf ⊢
    simp [F_Family___init__, B_Family___init__, slice_tup, c0, dFor, chk_none, sf]
  | cons b B =>
    obtain ⟨ρ', S', e, rfl, o2, hρ⟩ := for_evi (tg := gSet 2) (body := L_Family___init___1) (shD ns ts) (fun i ρ S' => S' = S ∧ ∃ o2, ρ = [some (.cell n), some (.tup ((b :: B).map (shD ns ts))), o2]) B
      [some (.cell n), some (.tup ((b :: B).map (shD ns ts))), none] S ⟨rfl, none, rfl⟩ (by
        rintro i a ρ S' ha ⟨rfl, o2, rfl⟩
        have ix : dIx (.tup ((b :: B).map (shD ns ts))) (.int 0) S' = .ok (shD ns ts b) S' := ix_tup (i := 0) rfl
        exact ⟨_, _, _, _, rfl, by simp only [L_Family___init___1]; simp [-List.map_cons, ix, f_check_like nm ht b a], rfl, some (shD ns ts a), rfl⟩)
    have c1 := cut1 (shD ns ts b) (B.map (shD ns ts))
    have sl : dSlice (.tup ((b :: B).map (shD ns ts))) (some 1) none S' = .ok (.tup (B.map (shD ns ts))) S' := by
      show Out.ok (D.tup (cutA (shD ns ts b :: B.map (shD ns ts)) (some 1) none)) S' = _
      rw [c1]
    rw [hρ] at e
    have st : startD 3 [D.cell n, .tup ((b :: B).map (shD ns ts))] = [some (.cell n), some (.tup ((b :: B).map (shD ns ts))), none] := rfl
    unfold F_Family___init__
    rw [runF_run', bind_r, nx_run, st]
    unfold B_Family___init__
    simp [-List.map_cons, sl, e, sf]
theorem mk_fam {ns ts : List Str} (nm : Names ns) (ht : ∀ t ∈ ts, t ∈ ns) (B : List NT) (S : Sto) : makeD 1 true (starF F_Family___init__) (B.map (shD ns ts)) S = .ok (famD ns ts B) (S ++ [none]) := by
  have hn : (S ++ [some (Cell.obj 1 [])])[S.length]? = some (some (.obj 1 [])) := by simp
  have := make_gen (c := 1) (F := starF F_Family___init__) (as := B.map (shD ns ts)) (f_fam_init nm ht B hn) (List.getElem?_set_self (by simp))
  rw [this]
  congr 1
  simp
theorem f_or {ns ts : List Str} (nm : Names ns) (ht : ∀ t ∈ ts, t ∈ ns) (A B : List NT) (hl : A.length + B.length ≤ 900) (S : Sto) : F_Family___or__ [famD ns ts A, famD ns ts B] S = .ok (famD ns ts (A ++ B)) (S ++ [none]) := by
  have l0 : (0 : Nat) ≤ sizeLine := le_line (by omega)
  have fp : ∀ (A : List NT) (S : Sto), dFld [1] ("parts" : Str) (famD ns ts A) S = .ok (.tup (A.map (shD ns ts))) S := fun A S => fld_obj (by simp) (by simp [List.lookup])
  have ck : F_check_families [famD ns ts A, famD ns ts B] S = .ok .non S := by
    have e0 : dEqE true (.tup []) (.tup []) S = .ok (.bl false) S := rfl
    have e1 : ∀ (x : D) (xs : List D), dEqE true (.tup (x :: xs)) (.tup []) S = .ok (.bl true) S := fun x xs => rfl
    cases A with
    | nil => simp [F_check_families, B_check_families, fp, e0, l0]
    | cons a A =>
      cases B with
      | nil => simp [F_check_families, B_check_families, fp, e0, e1, l0]
      | cons b B =>
        have ix : ∀ (x : D) (xs : List D), dIx (.tup (x :: xs)) (.int 0) S = .ok x S := fun x xs => ix_tup (i := 0) rfl
        simp [F_check_families, B_check_families, fp, e1, l0, ix, f_check_like nm ht a b]
  have hz : A.length + B.length ≤ sizeLine := le_line (by omega)
  have mk := mk_fam nm ht (A ++ B) S
  rw [List.map_append] at mk
  simp [F_Family___or__, B_Family___or__, ck, fp, hz, mk]
end K36

/-! OP10: the family of lists of facts -/
namespace K36
open PySem PySem.Spec PyProof.Rows L2 DD
structure Kp (S S' : Sto) : Prop where
  len : S.length ≤ S'.length
  old : ∀ n, n < S.length → S'[n]? = S[n]?
theorem Kp.refl (S : Sto) : Kp S S := ⟨Nat.le_refl _, fun _ _ => rfl⟩
theorem Kp.trans {a b c : Sto} (h : Kp a b) (h' : Kp b c) : Kp a c := ⟨Nat.le_trans h.len h'.len, fun n hn => (h'.old n (Nat.lt_of_lt_of_le hn h.len)).trans (h.old n hn)⟩
theorem Kp.app (S T : Sto) : Kp S (S ++ T) := ⟨by simp, fun n hn => List.getElem?_append_left hn⟩
theorem Kp.ext {S S' : Sto} (h : Kp S S') (p : Nat) : Ext p S S' := ⟨h.len, fun n hn _ => h.old n hn⟩
theorem Kp.pit {p k : Nat} {S S' : Sto} (h : Kp S S') (s : Pit p k S) : Pit p k S' := s.same (h.old p s.lt)
theorem CI.kp {S S' : Sto} {N : Nat} {r : Tab} (h : CI S N r S') : Kp S S' := ⟨by rw [h.len]; omega, h.old⟩
theorem make_run {ns ts : List Str} {fs : List NF} (h : Names ns) (hl : ns.length ≤ 90) (ht : ∀ t ∈ ts, t ∈ ns) (htn : ts.Nodup) (hf : ∀ f ∈ fs, FactOk (ns.length + 1) f) (few : fs.length ≤ 500) (nn : NoNeg (ns.length + 1) fs) (S : Sto) (as : List D)
    (F : List D → M D) (hF : ∀ x S, F (x :: as) S = F_Sheet___init__ [x, .tup (ns.map D.str), .tup (ts.map D.str), .tup (fs.map (factS ns))] S) :
    ∃ m S', Clo (ns.length + 1) fs m ∧ makeD 0 true F as S = .ok (sheetD ns ts fs m) S' ∧ Kp S S' := by
  have hn : (S ++ [some (Cell.obj 0 [])])[S.length]? = some (some (.obj 0 [])) := by simp
  obtain ⟨m, k, e⟩ := f_init h hl ht htn hf few nn hn
  have e' := (hF (.cell S.length) (S ++ [some (Cell.obj 0 [])])).trans e
  exact ⟨m, _, k, make_gen e' (List.getElem?_set_self (by simp)), ⟨by simp, fun n hn => by rw [List.getElem?_set_ne (by omega), List.getElem?_set_ne (by omega), List.getElem?_append_left hn]⟩⟩
theorem f_family {ns ts : List Str} (nm : Names ns) (h6 : ns.length ≤ 6) (ht : ∀ t ∈ ts, t ∈ ns) (htn : ts.Nodup) {B : List (List NF)} (s : Side ns 12 5 B) (S : Sto) :
    ∃ BT S', F__law_family [.tup (ns.map D.str), .tup (ts.map D.str), .lst (B.map (partD ns))] S = .ok (famD ns ts BT) S' ∧ BT.map (fun b => b.1) = B ∧ (∀ b ∈ BT, Clo (ns.length + 1) b.1 b.2) ∧ Kp S S' := by
  have few := s.few
  have l1 : (1 : Nat) ≤ sizeLine := le_line (by omega)
  have l0 : (0 : Nat) ≤ sizeLine := le_line (by omega)
  have mk0 := mk_fam nm ht [] S
  obtain ⟨ρ', S', e, BT, o4, hρ, h1, h2, h3⟩ := for_evi (tg := gSet 4) (body := L__law_family_1) (partD ns)
    (fun i ρ S' => ∃ BT o4, ρ = [some (.tup (ns.map D.str)), some (.tup (ts.map D.str)), some (.lst (B.map (partD ns))), some (famD ns ts BT), o4] ∧ BT.map (fun b => b.1) = B.take i ∧ (∀ b ∈ BT, Clo (ns.length + 1) b.1 b.2) ∧ Kp S S')
    B [some (.tup (ns.map D.str)), some (.tup (ts.map D.str)), some (.lst (B.map (partD ns))), some (famD ns ts []), none] (S ++ [none])
    ⟨[], none, rfl, by simp, fun b hb => (by cases hb), Kp.app S _⟩ (by
      rintro i fs ρ S' ha ⟨BT, o4, rfl, h1, h2, h3⟩
      have hi : i < B.length := (List.getElem?_eq_some_iff.mp ha).1
      have pt := s.part fs (List.mem_of_getElem? ha)
      obtain ⟨m, S1, k, e1, x1⟩ := make_run nm (by omega) ht htn pt.ok (by have := pt.len; omega) pt.nn S' [.tup (ns.map D.str), .tup (ts.map D.str), partD ns fs] MF_Sheet_3 (fun x S => rfl)
      have mk := mk_fam nm ht [(fs, m)] S1
      have hlen : BT.length ≤ 5 := by
        have := congrArg List.length h1
        simp at this
        omega
      have fo := f_or nm ht BT [(fs, m)] (by simp; omega) (S1 ++ [none])
      simp only [List.map_cons, List.map_nil] at mk
      have mk' : makeD 1 true (starF F_Family___init__) [sheetD ns ts fs m] S1 = .ok (famD ns ts [(fs, m)]) (S1 ++ [none]) := mk
      have bt : binTail [(1, F_Family___or__)] (famD ns ts BT) (famD ns ts [(fs, m)]) (S1 ++ [none]) = .ok (famD ns ts (BT ++ [(fs, m)])) (S1 ++ [none] ++ [none]) := by
        rw [← fo]
        exact binTail_run
      refine ⟨_, _, [some (.tup (ns.map D.str)), some (.tup (ts.map D.str)), some (.lst (B.map (partD ns))), some (famD ns ts (BT ++ [(fs, m)])), some (partD ns fs)], S1 ++ [none] ++ [none], rfl, ?_, BT ++ [(fs, m)], some (partD ns fs), rfl, ?_, fun b hb => ?_, ?_⟩
      · simp [-List.append_assoc, L__law_family_1, e1, l1, mk', bt]
      · rw [List.map_append, h1, List.take_add_one, ha]
        rfl
      · rcases List.mem_append.mp hb with z | z
        · exact h2 b z
        · rw [List.mem_singleton.mp z]; exact k
      · exact ((h3.trans x1).trans (Kp.app _ _)).trans (Kp.app _ _))
  rw [List.take_of_length_le (Nat.le_refl _)] at h1
  refine ⟨BT, S', ?_, h1, h2, h3⟩
  have st : startD 5 [D.tup (ns.map D.str), .tup (ts.map D.str), .lst (B.map (partD ns))] = [some (.tup (ns.map D.str)), some (.tup (ts.map D.str)), some (.lst (B.map (partD ns))), none, none] := rfl
  rw [hρ] at e
  have mk0' : makeD 1 true (starF F_Family___init__) [] S = .ok (famD ns ts []) (S ++ [none]) := mk0
  unfold F__law_family
  rw [runF_run', bind_r, nx_run, st]
  unfold B__law_family
  simp [l0, mk0', e]
end K36

/-! OP11: the least one of a list of recordings -/
namespace K36
open PySem PySem.Spec PyProof.Rows L2 DD
def low (m : Tab) (i : Nat) : Int := (m 0 (i + 1)).getD 0
def leastL (n : Nat) (m : Tab) : List Int := (List.range n).map fun i => -(low m i)
def intsT (l : List Int) : D := .tup (l.map D.int)
def ltR (r f : List Int) : Bool := if r.sum = f.sum then HT.lexLt r f else decide (r.sum < f.sum)
def pick1 (o : Option (List Int)) (r : List Int) : Option (List Int) := match o with
  | none => some r
  | some f => if ltR r f = true then some r else some f
def firstL (L : List (List Int)) : Option (List Int) := L.foldl pick1 none
def oT : Option (List Int) → D
  | none => .non
  | some l => intsT l
theorem unInts_ints : ∀ l : List Int, unInts (l.map D.int) = some l
  | [] => rfl
  | x :: l => by
    show (unInts (l.map D.int)).map (x :: ·) = _
    rw [unInts_ints l]
    rfl
theorem sumT_run (l : List Int) (S : Sto) : dSumT [intsT l] S = .ok (.int l.sum) S := by
  show (M.get (fun _ => unInts (l.map D.int)) >>= fun ns => pure (.int ns.sum) : M D) S = _
  rw [M.bind_run, getc_some (unInts_ints l)]
  rfl
theorem ltR_run (r f : List Int) (S : Sto) : dLtR (.tup [.int r.sum, intsT r]) (.tup [.int f.sum, intsT f]) S = .ok (.bl (ltR r f)) S := by
  show (M.get (fun _ => unInts (r.map D.int)) >>= fun ns => M.get (fun _ => unInts (f.map D.int)) >>= fun ms => pure (.bl (if r.sum = f.sum then HT.lexLt ns ms else decide (r.sum < f.sum))) : M D) S = _
  rw [M.bind_run, getc_some (unInts_ints r)]
  show (M.get (fun _ => unInts (f.map D.int)) >>= fun ms => pure (.bl (if r.sum = f.sum then HT.lexLt r ms else decide (r.sum < f.sum))) : M D) S = _
  rw [M.bind_run, getc_some (unInts_ints f)]
  rfl
theorem isNon_ints (l : List Int) : DD.isNon (intsT l) = false := rfl
theorem f_rank (l : List Int) (S : Sto) : F_rank [intsT l] S = .ok (.tup [.int l.sum, intsT l]) S := by
  have l2 : (2 : Nat) ≤ sizeLine := le_line (by omega)
  have e := sumT_run l S
  simp [-one_run, F_rank, B_rank, e, l2]
theorem l_first (o0 : Option D) (o : Option (List Int)) (r : List Int) (S : Sto) : L__law_first_of_1 [o0, some (oT o), some (intsT r)] S = .ok (.nx [o0, some (oT (pick1 o r)), some (intsT r)]) S := by
  have l2 : (2 : Nat) ≤ sizeLine := le_line (by omega)
  cases o with
  | none => simp [L__law_first_of_1, oT, pick1]
  | some f =>
    have e1 := sumT_run r S
    have e2 := sumT_run f S
    have e3 := ltR_run r f S
    cases h : ltR r f with
    | true => rw [h] at e3; simp [-one_run, -DD.isNon, L__law_first_of_1, oT, pick1, h, isNon_ints, e1, e2, e3, l2]
    | false => rw [h] at e3; simp [-one_run, -DD.isNon, L__law_first_of_1, oT, pick1, h, isNon_ints, e1, e2, e3, l2]
theorem l_least (o0 : Option D) (o : Option (List Int)) (r : List Int) (S : Sto) : L_least_recording_1 [o0, some (oT o), some (intsT r)] S = .ok (.nx [o0, some (oT (pick1 o r)), some (intsT r)]) S := by
  cases o with
  | none => simp [L_least_recording_1, oT, pick1]
  | some f =>
    have e1 := f_rank r S
    have e2 := f_rank f S
    have e3 := ltR_run r f S
    cases h : ltR r f with
    | true => rw [h] at e3; simp [-DD.isNon, L_least_recording_1, oT, pick1, h, isNon_ints, e1, e2, e3]
    | false => rw [h] at e3; simp [-DD.isNon, L_least_recording_1, oT, pick1, h, isNon_ints, e1, e2, e3]
theorem fold_take {α β : Type} (f : β → α → β) (b : β) (l : List α) (i : Nat) (a : α) (h : l[i]? = some a) : (l.take (i + 1)).foldl f b = f ((l.take i).foldl f b) a := by
  rw [List.take_add_one, h, Option.toList_some, List.foldl_append]
  rfl
theorem f_least_recording (L : List (List Int)) (S : Sto) : F_least_recording [.lst (L.map intsT)] S = .ok (oT (firstL L)) S := by
  obtain ⟨ρ', S', e, rfl, o2, hρ⟩ := for_evi (tg := gSet 2) (body := L_least_recording_1) intsT (fun i ρ S' => S' = S ∧ ∃ o2, ρ = [some (.lst (L.map intsT)), some (oT ((L.take i).foldl pick1 none)), o2]) L
    [some (.lst (L.map intsT)), some .non, none] S ⟨rfl, none, rfl⟩ (by
      rintro i r ρ S' ha ⟨rfl, o2, rfl⟩
      exact ⟨_, _, _, _, rfl, l_least _ _ r S', rfl, some (intsT r), by rw [fold_take pick1 none L i r ha]⟩)
  rw [List.take_of_length_le (Nat.le_refl _)] at hρ
  rw [hρ] at e
  simp [F_least_recording, B_least_recording, e, firstL]
theorem f_first_of {q : Nat} (L : List (List Int)) (S : Sto) (hq : cellL q S = some (L.map intsT)) : F__law_first_of [.cell q] S = .ok (oT (firstL L)) S := by
  obtain ⟨ρ', S', e, rfl, o2, hρ⟩ := for_evg (o := some (q, L.map intsT)) (tg := gSet 2) (body := L__law_first_of_1) intsT (fun i ρ S' => S' = S ∧ ∃ o2, ρ = [some (.cell q), some (oT ((L.take i).foldl pick1 none)), o2])
    (fun k ρ S' h => by rw [h.1]; exact chk_some hq) L 0
    [some (.cell q), some .non, none] S ⟨rfl, none, rfl⟩ (by
      rintro i r ρ S' ha ⟨rfl, o2, rfl⟩
      rw [Nat.zero_add]
      exact ⟨_, _, _, _, rfl, l_first _ _ r S', rfl, some (intsT r), by rw [fold_take pick1 none L i r ha]⟩)
  rw [Nat.zero_add, List.take_of_length_le (Nat.le_refl _)] at hρ
  rw [hρ] at e
  simp [F__law_first_of, B__law_first_of, src_cell hq, e, firstL]
end K36

/-! OP12: the law's least recording of some lists of facts -/
namespace K36
open PySem PySem.Spec PyProof.Rows L2 DD
def negB (k : Nat) (p : List NF) : Bool := (List.range (k + 1)).any (negAt (fwAll (k + 1) (ini p)))
def tabL (k : Nat) (p : List NF) : List Int := leastL k (fwAll (k + 1) (ini p))
def leastO (k : Nat) (extra p : List NF) : Option (List Int) := if negB k (p ++ extra) = true then none else some (tabL k (p ++ extra))
def leastsOf (k : Nat) (B : List (List NF)) (extra : List NF) : List (List Int) := B.filterMap (leastO k extra)
theorem Kp.via {q : Nat} {S0 S S' : Sto} (h : Kp S0 S) (h' : Ext q S S') (l : S0.length ≤ q) : Kp S0 S' := ⟨Nat.le_trans h.len h'.len, fun n hn => (h'.old n (Nat.lt_of_lt_of_le hn h.len) (by omega)).trans (h.old n hn)⟩
theorem drop1 {N : Nat} (f : Nat → D) : cutA ((List.range (N + 1)).map f) (some 1) none = (List.range N).map fun i => f (i + 1) := by
  have := cutA_drop (xs := (List.range (N + 1)).map f) (k := 1) (by simp)
  rw [show ((1 : Nat) : Int) = 1 from rfl] at this
  rw [this, List.range_succ_eq_map]
  simp [List.map_map, Function.comp_def]
theorem fmap_take {α β : Type} (f : α → Option β) (l : List α) (i : Nat) (a : α) (h : l[i]? = some a) : (l.take (i + 1)).filterMap f = (l.take i).filterMap f ++ (f a).toList := by
  rw [List.take_add_one, h, Option.toList_some, List.filterMap_append]
  congr 1
end K36

/-! OP13: the program's least recording of some closed tables -/
namespace K36
open PySem PySem.Spec PyProof.Rows L2 DD
theorem f_narrowed_byL (n : Nat) (hn : n ≤ 91) (fs : List NF) (m : Tab) (h : ∀ f ∈ fs, f.1 < n ∧ f.2.1 < n) (S : Sto) : F_narrowed_by [tab n m, .lst (fs.map factN)] S = .ok (match nars m fs with | none => .non | some m' => tab n m') S := by
  obtain ⟨fl, e1, e2⟩ := for_narrowed n hn (.lst (fs.map factN)) S fs m none none none h
  cases e : nars m fs with
  | none =>
    rw [e] at e2
    subst e2
    simp [F_narrowed_by, B_narrowed_by, e1]
  | some m' =>
    rw [e] at e2
    obtain ⟨o2, o3, o4, rfl⟩ := e2
    simp [F_narrowed_by, B_narrowed_by, e1]
theorem f_leastN {N k : Nat} (hk : k ≤ 90) (hN : N = k + 1) {gs : List NF} {m : Tab} (c : Clo N gs m) (S : Sto) : F_least_numbers [tab N m] S = .ok (intsT (leastL k m)) S := by
  subst hN
  have i0 : dIx (tab (k + 1) m) (.int 0) S = .ok (rowD (k + 1) (m 0)) S := ix_tab (x := 0) (by omega)
  have sl : dSlice (rowD (k + 1) (m 0)) (some 1) none S = .ok (.tup ((List.range k).map fun i => oi (m 0 (i + 1)))) S := by
    show Out.ok (D.tup (cutA ((List.range (k + 1)).map fun y => oi (m 0 y)) (some 1) none)) S = _
    rw [drop1]
  have os : ∀ ρ : DEnv, oSome (dC (.int 1)) ρ S = .ok (some 1) S := fun ρ => rfl
  have lc := lc_mapi (tg := gSet 1) (te := E_least_numbers_1) (ρ := [some (tab (k + 1) m), none]) (S := S) (fun i => oi (m 0 (i + 1))) (fun i => D.int (-(low m i))) (List.range k) [] (le_line (by simp; omega)) (by
    intro i hi
    have hi' : i < k := by simpa using hi
    obtain ⟨b, hb, _⟩ := c.edg 0 (i + 1) 0 (.inr ⟨rfl, by omega, rfl⟩)
    refine ⟨_, rfl, ?_⟩
    simp [E_least_numbers_1, hb, oi, low])
  rw [List.nil_append] at lc
  simp [F_least_numbers, B_least_numbers, i0, os, sl, wipeD, lc, intsT, leastL]
theorem clo_nar_some {N : Nat} {fs : List NF} {m m' : Tab} (k : Clo N fs m) {f : NF} (hx : f.1 < N) (hy : f.2.1 < N) (e : nar m f = some m') : Clo N (fs ++ [f]) m' := by
  obtain ⟨x, y, c⟩ := f
  unfold nar at e
  cases hn : isNeg m x y c with
  | true => simp [hn] at e
  | false =>
    simp only [hn, Bool.false_eq_true, if_false] at e
    injection e with e
    subst e
    cases hl : olt (some c) (m x y) with
    | true =>
      rw [if_pos rfl]
      exact clo_lift k hx hy hn
    | false =>
      rw [if_neg Bool.false_ne_true]
      exact clo_same k hl
/-- what the program makes of a table and more facts is what the law makes of all facts -/
theorem nars_least {k : Nat} {p extra : List NF} {m : Tab} (c : Clo (k + 1) p m) (rp : Rng (k + 1) p) (re : Rng (k + 1) extra) (ne : ∀ f ∈ p ++ extra, f.1 ≠ f.2.1) :
    (nars m extra = none ∧ leastO k extra p = none) ∨ ∃ m', nars m extra = some m' ∧ Clo (k + 1) (p ++ extra) m' ∧ leastO k extra p = some (leastL k m') := by
  have rg : Rng (k + 1) (p ++ extra) := fun f hf => by
    rcases List.mem_append.mp hf with z | z
    · exact rp f z
    · exact re f z
  cases hn : negB k (p ++ extra) with
  | true =>
    left
    have lo : leastO k extra p = none := if_pos hn
    refine ⟨?_, lo⟩
    cases e : nars m extra with
    | none => rfl
    | some m' =>
      exfalso
      -- a table that is left is closed
      have nn : NoNeg (k + 1) (p ++ extra) := by
        have : ∀ (gs fs : List NF) (m m' : Tab), Clo (k + 1) fs m → Rng (k + 1) gs → nars m gs = some m' → Clo (k + 1) (fs ++ gs) m' := by
          intro gs
          induction gs with
          | nil =>
            intro fs m m' c _ e
            cases e
            rwa [List.append_nil]
          | cons g gs ih =>
            intro fs m m' c r e
            obtain ⟨hx, hy⟩ := r g List.mem_cons_self
            cases e1 : nar m g with
            | none => simp [nars, e1] at e
            | some m1 =>
              simp [nars, e1] at e
              have c1 := clo_nar_some c hx hy e1
              have := ih (fs ++ [g]) m1 m' c1 (fun f hf => r f (List.mem_cons_of_mem _ hf)) e
              simpa using this
        exact (this extra p m m' c re e).noNeg (by omega) rg
      have := closed_no (by omega) rg ne nn
      unfold negB at hn
      rw [this] at hn
      cases hn
  | false =>
    right
    have lo : leastO k extra p = some (tabL k (p ++ extra)) := if_neg (by rw [hn]; exact Bool.false_ne_true)
    have cy := closed_yes (by omega) rg ne hn
    obtain ⟨m', e, c'⟩ := clo_nars (by omega) extra p m c re (cy.noNeg (by omega) rg)
    refine ⟨m', e, c', ?_⟩
    rw [lo]
    congr 1
    unfold tabL leastL
    refine List.map_congr_left fun i hi => ?_
    have hi' : i < k := by simpa using hi
    unfold low
    rw [Clo.uniq (by omega) rg cy c' (x := 0) (y := i + 1) (by omega) (by omega)]

theorem filt_leasts (k : Nat) (extra : List NF) : ∀ BT : List NT, (BT.filter fun b => (leastO k extra b.1).isSome).map (fun b => intsT ((leastO k extra b.1).getD [])) = (leastsOf k (BT.map (fun b => b.1)) extra).map intsT
  | [] => rfl
  | b :: BT => by
    have ih := filt_leasts k extra BT
    unfold leastsOf at ih ⊢
    cases e : leastO k extra b.1 with
    | none => simpa [e] using ih
    | some l => simpa [e] using ih
theorem f_least_with {k : Nat} (hk : k ≤ 90) {BT : List NT} (few : BT.length ≤ 100) (hc : ∀ b ∈ BT, Clo (k + 1) b.1 b.2) (rp : ∀ b ∈ BT, Rng (k + 1) b.1) {extra : List NF} (re : Rng (k + 1) extra) (ne : ∀ b ∈ BT, ∀ f ∈ b.1 ++ extra, f.1 ≠ f.2.1) (S : Sto) :
    F_least_with [.lst (BT.map fun b => tab (k + 1) b.2), .lst (extra.map factN)] S = .ok (oT (firstL (leastsOf k (BT.map (fun b => b.1)) extra))) S := by
  let g : NT → D := fun b => match nars b.2 extra with | none => .non | some m' => tab (k + 1) m'
  have lc1 := lc_mapi (tg := gSet 3) (te := E_least_with_1) (ρ := [some (.lst (BT.map fun b => tab (k + 1) b.2)), some (.lst (extra.map factN)), none, none]) (S := S) (fun b : NT => tab (k + 1) b.2) g BT [] (le_line (by simp; omega)) (by
    intro b hb
    refine ⟨_, rfl, ?_⟩
    have := f_narrowed_byL (k + 1) (by omega) extra b.2 re S
    simp [E_least_with_1, this, g])
  rw [List.nil_append] at lc1
  have lc2 := lc_filteri (tg := gSet 3) (tt := P_least_with_2) (te := E_least_with_3) (ρ := [some (.lst (BT.map fun b => tab (k + 1) b.2)), some (.lst (extra.map factN)), some (.lst (BT.map g)), none]) (S := S) g (fun b => intsT ((leastO k extra b.1).getD [])) (fun b => (leastO k extra b.1).isSome) BT [] (le_line (by simp; omega)) (by
    intro b hb
    refine ⟨_, rfl, ?_⟩
    rcases nars_least (hc b hb) (rp b hb) re (ne b hb) with ⟨e1, e2⟩ | ⟨m', e1, c', e2⟩
    · have eg : g b = .non := by simp [g, e1]
      rw [eg, e2]
      exact ⟨by simp [P_least_with_2], fun z => by cases z⟩
    · have eg : g b = tab (k + 1) m' := by simp [g, e1]
      have hn : DD.isNon (tab (k + 1) m') = false := rfl
      rw [eg, e2]
      refine ⟨by simp [-DD.isNon, P_least_with_2, hn], fun _ => ?_⟩
      simp [E_least_with_3, f_leastN hk rfl c' S])
  rw [List.nil_append] at lc2
  have em := filt_leasts k extra BT
  rw [em] at lc2
  have lr := f_least_recording (leastsOf k (BT.map (fun b => b.1)) extra) S
  simp [F_least_with, B_least_with, wipeD, lc1, lc2, lr]
end K36

/-! OP14: tables, least, findings -/
namespace DD
open PySem PySem.Spec PyProof.Rows L2
theorem dProp_run {T : MTab} {fo : DEnv → M D} {ρ : DEnv} {S : Sto} : dProp T fo ρ S = (fo ρ >>= fun x => insD x >>= fun p => M.get (fun _ => mtGet T p.1) >>= fun F => M.nx (F [x])) S := nr rfl
theorem prop_obj {c : Nat} {F : List D → M D} {fs : List (Str × D)} {fo : DEnv → M D} {ρ : DEnv} {S : Sto} {d : D} (h : fo ρ S = .ok (.obj c fs) S) (e : F [.obj c fs] S = .ok d S) : dProp [(c, F)] fo ρ S = .ok d S := by
  rw [dProp_run, bind_r, h]
  show (insD (.obj c fs) >>= fun p => M.get (fun _ => mtGet [(c, F)] p.1) >>= fun F => M.nx (F [.obj c fs]) : M D) S = _
  have e1 : insD (.obj c fs) S = .ok (c, fs) S := rfl
  rw [bind_r, e1]
  have g : mtGet [(c, F)] c = some F := by simp [mtGet]
  simp [g, e]
end DD
namespace K36
open PySem PySem.Spec PyProof.Rows L2 DD
theorem fam_parts (ns ts : List Str) (A : List NT) (S : Sto) : dFld [1] ("parts" : Str) (famD ns ts A) S = .ok (.tup (A.map (shD ns ts))) S := fld_obj (by simp) (by simp [List.lookup])
theorem f_tables_of {ns ts : List Str} (BT : List NT) (few : BT.length ≤ 100) (S : Sto) : F_tables_of [famD ns ts BT] S = .ok (.lst (BT.map fun b => tab (ns.length + 1) b.2)) S := by
  have lc := lc_mapi (tg := gSet 1) (te := E_tables_of_1) (ρ := [some (famD ns ts BT), none]) (S := S) (shD ns ts) (fun b : NT => tab (ns.length + 1) b.2) BT [] (le_line (by simp; omega)) (by
    intro b hb
    refine ⟨_, rfl, ?_⟩
    simp [E_tables_of_1, shD, fld_bounds])
  rw [List.nil_append] at lc
  simp [F_tables_of, B_tables_of, fam_parts, wipeD, lc]
theorem leastO_nil {k : Nat} {p : List NF} {m : Tab} (c : Clo (k + 1) p m) (rp : Rng (k + 1) p) (ne : ∀ f ∈ p, f.1 ≠ f.2.1) : leastO k [] p = some (leastL k m) := by
  rcases nars_least (extra := []) c rp (fun f hf => by cases hf) (by simpa using ne) with ⟨e, _⟩ | ⟨m', e, _, h⟩
  · cases e
  · cases e
    exact h
/-- what is known of a family -/
structure FamOk (k : Nat) (BT : List NT) : Prop where
  clo : ∀ b ∈ BT, Clo (k + 1) b.1 b.2
  rng : ∀ b ∈ BT, Rng (k + 1) b.1
  ne : ∀ b ∈ BT, ∀ f ∈ b.1, f.1 ≠ f.2.1
  few : BT.length ≤ 100
theorem f_fam_least {ns ts : List Str} (h6 : ns.length ≤ 6) {BT : List NT} (h : FamOk ns.length BT) (S : Sto) : F_Family_least [famD ns ts BT] S = .ok (oT (firstL (leastsOf ns.length (BT.map (fun b => b.1)) []))) S := by
  have few := h.few
  have tb := f_tables_of (ns := ns) (ts := ts) BT h.few S
  have lc := lc_mapi (tg := gSet 1) (te := E_Family_least_1) (ρ := [some (famD ns ts BT), none]) (S := S) (fun b : NT => tab (ns.length + 1) b.2) (fun b : NT => intsT (leastL ns.length b.2)) BT [] (le_line (by simp; omega)) (by
    intro b hb
    refine ⟨_, rfl, ?_⟩
    simp [E_Family_least_1, f_leastN (by omega) rfl (h.clo b hb) S])
  rw [List.nil_append] at lc
  have em : BT.map (fun b : NT => intsT (leastL ns.length b.2)) = (leastsOf ns.length (BT.map (fun b => b.1)) []).map intsT := by
    unfold leastsOf
    rw [List.filterMap_map]
    have : ∀ BT : List NT, (∀ b ∈ BT, leastO ns.length [] b.1 = some (leastL ns.length b.2)) → BT.map (fun b : NT => intsT (leastL ns.length b.2)) = (BT.filterMap (leastO ns.length [] ∘ fun b => b.1)).map intsT := by
      intro BT
      induction BT with
      | nil => intro _; rfl
      | cons b BT ih =>
        intro hb
        have e := hb b List.mem_cons_self
        have ih' := ih fun c hc => hb c (List.mem_cons_of_mem _ hc)
        rw [List.map_cons, ih']
        simp [e]
    exact this BT fun b hb => leastO_nil (h.clo b hb) (h.rng b hb) (h.ne b hb)
  rw [em] at lc
  have lr := f_least_recording (leastsOf ns.length (BT.map (fun b => b.1)) []) S
  simp [F_Family_least, B_Family_least, tb, wipeD, lc, lr]
def findD (ns ts : List Str) (A G : List NT) : D := .obj 2 [(("bad" : Str), famD ns ts A), (("good" : Str), famD ns ts G)]
theorem nbg : ("bad" : Str) ≠ ("good" : Str) := by decide +kernel
theorem mk_find (ns ts : List Str) (A G : List NT) (S : Sto) : makeD 2 true MF_Finding_2 [famD ns ts A, famD ns ts G] S = .ok (findD ns ts A G) (S ++ [none]) := by
  have hn : (S ++ [some (Cell.obj 2 [])])[S.length]? = some (some (.obj 2 [])) := by simp
  have hs : ∀ x y : Option Cell, (S ++ [x]).set S.length y = S ++ [y] := fun x y => by simp
  have s1 := setFld_gen (f := ("bad" : Str)) (v := famD ns ts A) hn (by simp)
  have p1 : putD ("bad" : Str) (famD ns ts A) [] = [(("bad" : Str), famD ns ts A)] := rfl
  rw [p1, hs] at s1
  have hn2 : (S ++ [some (Cell.obj 2 [(("bad" : Str), famD ns ts A)])])[S.length]? = some (some (.obj 2 [(("bad" : Str), famD ns ts A)])) := by simp
  have s2 := setFld_gen (f := ("good" : Str)) (v := famD ns ts G) hn2 (by simp)
  have p2 : putD ("good" : Str) (famD ns ts G) [(("bad" : Str), famD ns ts A)] = [(("bad" : Str), famD ns ts A), (("good" : Str), famD ns ts G)] := by simp [putD, nbg]
  rw [p2, hs] at s2
  have e : MF_Finding_2 (.cell S.length :: [famD ns ts A, famD ns ts G]) (S ++ [some (Cell.obj 2 [])]) = .ok .non (S ++ [some (.obj 2 [(("bad" : Str), famD ns ts A), (("good" : Str), famD ns ts G)])]) := by
    show F_Finding___init__ [.cell S.length, famD ns ts A, famD ns ts G] _ = _
    simp only [F_Finding___init__, B_Finding___init__]
    simp [s1, s2]
  have := make_gen (fs := [(("bad" : Str), famD ns ts A), (("good" : Str), famD ns ts G)]) e (by simp)
  rw [this, hs]
  rfl
theorem find_bad (ns ts : List Str) (A G : List NT) (S : Sto) : dFld [2] ("bad" : Str) (findD ns ts A G) S = .ok (famD ns ts A) S := fld_obj (by simp) (by simp [List.lookup])
theorem find_good (ns ts : List Str) (A G : List NT) (S : Sto) : dFld [2] ("good" : Str) (findD ns ts A G) S = .ok (famD ns ts G) S := fld_obj (by simp) (by simp [List.lookup, beq_eq_false_iff_ne.mpr nbg.symm])
theorem f_least_bad {ns ts : List Str} (h6 : ns.length ≤ 6) {A G : List NT} (h : FamOk ns.length A) (S : Sto) : F_Finding_least_bad [findD ns ts A G] S = .ok (oT (firstL (leastsOf ns.length (A.map (fun b => b.1)) []))) S := by
  have fe : dUn (dFld [2] ("bad" : Str)) (dVar 0) [some (findD ns ts A G)] S = .ok (famD ns ts A) S := by simp [find_bad]
  have e := prop_obj (F := F_Family_least) fe (f_fam_least (ts := ts) h6 h S)
  simp [F_Finding_least_bad, B_Finding_least_bad, e]
theorem f_least_good {ns ts : List Str} (h6 : ns.length ≤ 6) {A G : List NT} (h : FamOk ns.length G) (S : Sto) : F_Finding_least_good [findD ns ts A G] S = .ok (oT (firstL (leastsOf ns.length (G.map (fun b => b.1)) []))) S := by
  have fe : dUn (dFld [2] ("good" : Str)) (dVar 0) [some (findD ns ts A G)] S = .ok (famD ns ts G) S := by simp [find_good]
  have e := prop_obj (F := F_Family_least) fe (f_fam_least (ts := ts) h6 h S)
  simp [F_Finding_least_good, B_Finding_least_good, e]
theorem f_sheet_in {ns ts : List Str} {A G : List NT} (h : A ≠ [] ∨ G ≠ []) (hl : A.length + G.length ≤ 900) (S : Sto) : ∃ b : NT, F_sheet_in [findD ns ts A G] S = .ok (shD ns ts b) S := by
  have hz : A.length + G.length ≤ sizeLine := le_line (by omega)
  cases A with
  | cons a A =>
    have ix : ∀ (x : D) (xs : List D), dIx (.tup (x :: xs)) (.int 0) S = .ok x S := fun x xs => ix_tup (i := 0) rfl
    have hz' : A.length + G.length + 1 ≤ sizeLine := by rw [List.length_cons] at hz; omega
    exact ⟨a, by simp [F_sheet_in, B_sheet_in, find_bad, find_good, fam_parts, hz', ix]⟩
  | nil =>
    cases G with
    | nil => rcases h with h | h <;> exact absurd rfl h
    | cons a G =>
      have ix : ∀ (x : D) (xs : List D), dIx (.tup (x :: xs)) (.int 0) S = .ok x S := fun x xs => ix_tup (i := 0) rfl
      have hz' : G.length + 1 ≤ sizeLine := by simpa using hz
      exact ⟨a, by simp [F_sheet_in, B_sheet_in, find_bad, find_good, fam_parts, hz', ix]⟩
end K36

/-! OP15: loosest -/
namespace DD
open PySem PySem.Spec PyProof.Rows L2
theorem maxL_run {ns : List Int} {m : Int} (h : maxI ns = some m) (S : Sto) : dMaxL [.lst (ns.map D.int)] S = .ok (.int m) S := by
  have u : ∀ l : List Int, unInts (l.map D.int) = some l := by
    intro l
    induction l with
    | nil => rfl
    | cons x l ih =>
      show (unInts (l.map D.int)).map (x :: ·) = _
      rw [ih]
      rfl
  show (M.get (fun _ => unInts (ns.map D.int)) >>= fun ns => M.get (fun _ => maxI ns) >>= fun m => pure (.int m) : M D) S = _
  rw [M.bind_run, getc_some (u ns)]
  show (M.get (fun _ => maxI ns) >>= fun m => pure (.int m) : M D) S = _
  rw [M.bind_run, getc_some h]
  rfl
theorem maxI_some {ns : List Int} (h : ns ≠ []) : ∃ m, maxI ns = some m := by
  cases ns with
  | nil => exact absurd rfl h
  | cons n ns => exact ⟨_, rfl⟩
end DD
namespace K36
open PySem PySem.Spec PyProof.Rows L2 DD
theorem oi_pln (o : Option Int) : pln 1 (oi o) = true := by cases o <;> rfl
theorem tab_pln (n : Nat) (m : Tab) : pln 3 (tab n m) = true := by
  have a : ∀ x : Nat, pln 2 (rowD n (m x)) = true := fun x => by
    have : ∀ y ∈ (List.range n).map (fun y => oi (m x y)), pln 1 y = true := fun y hy => by
      obtain ⟨z, _, rfl⟩ := List.mem_map.mp hy
      exact oi_pln _
    show ((List.range n).map (fun y => oi (m x y))).all (pln 1) = true
    exact List.all_eq_true.mpr this
  show (rowsD n m n).all (pln 2) = true
  refine List.all_eq_true.mpr fun y hy => ?_
  obtain ⟨z, _, rfl⟩ := List.mem_map.mp hy
  exact a z
/-- all there are, as they are told -/
def topsOf (i j : Nat) (BT : List NT) : List (Option Int) := BT.map fun b => b.2 i j
def dueD (k : Nat) (B G : List (List NF)) (i j : Nat) (tops : List (Option Int)) : D :=
  if B = [] then .tup [.str ("sure" : Str)] else if none ∈ tops then .tup [.str ("none" : Str)] else match maxI (tops.map (·.getD 0)) with
    | some m => .tup [.str ("fact" : Str), .int (m + 1), oT (firstL (leastsOf k B [(j, i, -m)])), oT (firstL (leastsOf k G [(j, i, -m - 1)]))]
    | none => .non
theorem tops_int {tops : List (Option Int)} (h : none ∉ tops) : tops.map oi = (tops.map (·.getD 0)).map D.int := by
  rw [List.map_map]
  refine List.map_congr_left fun o ho => ?_
  cases o with
  | none => exact absurd ho h
  | some v => rfl
theorem f_check_known {ns : List Str} (nm : Names ns) {i j : Nat} (hi : i < ns.length + 1) (hj : j < ns.length + 1) (S : Sto) : F_check_known [.tup (nodesD ns), .tup [.str (node ns i), .str (node ns j)]] S = .ok .non S := by
  classical
  have one : ∀ x, x < ns.length + 1 → dIn true (.str (node ns x)) (.tup (nodesD ns)) S = .ok (.bl false) S := fun x hx => by
    have hm : D.str (node ns x) ∈ nodesD ns := List.mem_of_getElem? (nodesD_get hx)
    have := in_plain (neg := true) (n := 1) (S := S) (c := .tup (nodesD ns)) (by omega) (nodesD_pln nm _ hm) (nodesD_pln nm) rfl
    rw [this, decide_eq_true hm]
    rfl
  simp [F_check_known, B_check_known, dFor, chk_none, L_check_known_1, one i hi, one j hj, loopS]
noncomputable def V1 : DEnv → M Fl := sSet 3 (dUn (dFld [0] ("nodes" : Str)) (dCall 1 F_sheet_in (aCons (dVar 0) aNil)))
noncomputable def V2 : DEnv → M Fl := sExpr (dCall 2 F_check_known (aCons (dVar 3) (aCons (dTup (aCons (dVar 1) (aCons (dVar 2) aNil))) aNil)))
noncomputable def V3 : DEnv → M Fl := sIf (tVal (dOp (dEq false) (dVar 1) (dVar 2))) sNever sNext
noncomputable def V4 : DEnv → M Fl := sSet 4 (dCall 1 F_tables_of (aCons (dUn (dFld [2] ("bad" : Str)) (dVar 0)) aNil))
noncomputable def V5 : DEnv → M Fl := sIf (tVal (dOp (dEq false) (dVar 4) (dLst aNil))) (sRet (dTup (aCons (dC (.str ("sure" : Str))) aNil))) sNext
noncomputable def V6 : DEnv → M Fl := sAsg (dTup (aCons (dCall 2 F_number_of (aCons (dVar 3) (aCons (dVar 1) aNil))) (aCons (dCall 2 F_number_of (aCons (dVar 3) (aCons (dVar 2) aNil))) aNil))) (gTupD 2 (gsCons (gSet 5) (gsCons (gSet 6) gsNil)))
noncomputable def V7 : DEnv → M Fl := sSet 7 (dLc (srcSeq (dVar 4)) (gSet 10) tYesD E_loosest_1 [10])
noncomputable def V8 : DEnv → M Fl := sIf (tVal (dOp (dIn false) (dC .non) (dVar 7))) (sRet (dTup (aCons (dC (.str ("none" : Str))) aNil))) sNext
noncomputable def V9 : DEnv → M Fl := sSet 8 (dB dMaxL (aCons (dVar 7) aNil))
noncomputable def V10 : DEnv → M Fl := sSet 9 (dCall 2 F_least_with (aCons (dCall 1 F_tables_of (aCons (dUn (dFld [2] ("good" : Str)) (dVar 0)) aNil)) (aCons (dLst (aCons (dTup (aCons (dVar 6) (aCons (dVar 5) (aCons (dOp dSub (dUn dNeg (dVar 8)) (dC (.int 1))) aNil)))) aNil)) aNil)))
noncomputable def V11 : DEnv → M Fl := sRet (dTup (aCons (dC (.str ("fact" : Str))) (aCons (dOp dAdd (dVar 8) (dC (.int 1))) (aCons (dCall 2 F_least_with (aCons (dVar 4) (aCons (dLst (aCons (dTup (aCons (dVar 6) (aCons (dVar 5) (aCons (dUn dNeg (dVar 8)) aNil)))) aNil)) aNil))) (aCons (dVar 9) aNil)))))
theorem loosest_eq : B_loosest = sSeq V1 (sSeq V2 (sSeq V3 (sSeq V4 (sSeq V5 (sSeq V6 (sSeq V7 (sSeq V8 (sSeq V9 (sSeq V10 V11))))))))) := rfl
theorem f_loosest {ns ts : List Str} (nm : Names ns) (h6 : ns.length ≤ 6) {A G : List NT} (ha : FamOk ns.length A) (hg : FamOk ns.length G) (h : A ≠ [] ∨ G ≠ []) {i j : Nat} (hi : i < ns.length + 1) (hj : j < ns.length + 1) (hij : i ≠ j) (S : Sto) :
    F_loosest [findD ns ts A G, .str (node ns i), .str (node ns j)] S = .ok (dueD ns.length (A.map (fun b => b.1)) (G.map (fun b => b.1)) i j (topsOf i j A)) S := by
  classical
  have fa := ha.few
  have fg := hg.few
  have l1 : (1 : Nat) ≤ sizeLine := le_line (by omega)
  have l2 : (2 : Nat) ≤ sizeLine := le_line (by omega)
  have l3 : (3 : Nat) ≤ sizeLine := le_line (by omega)
  have l4 : (4 : Nat) ≤ sizeLine := le_line (by omega)
  have st : startD 11 [findD ns ts A G, .str (node ns i), .str (node ns j)] = [some (findD ns ts A G), some (.str (node ns i)), some (.str (node ns j)), none, none, none, none, none, none, none, none] := rfl
  obtain ⟨b, es⟩ := f_sheet_in (ns := ns) (ts := ts) h (by omega) S
  have v1 : V1 [some (findD ns ts A G), some (.str (node ns i)), some (.str (node ns j)), none, none, none, none, none, none, none, none] S = .ok (.nx [some (findD ns ts A G), some (.str (node ns i)), some (.str (node ns j)), some (.tup (nodesD ns)), none, none, none, none, none, none, none]) S := by
    simp [V1, es, shD, fld_nodes]
  have v2 : V2 [some (findD ns ts A G), some (.str (node ns i)), some (.str (node ns j)), some (.tup (nodesD ns)), none, none, none, none, none, none, none] S = .ok (.nx [some (findD ns ts A G), some (.str (node ns i)), some (.str (node ns j)), some (.tup (nodesD ns)), none, none, none, none, none, none, none]) S := by
    simp [V2, l2, f_check_known nm hi hj]
  have eq : dEq false (.str (node ns i)) (.str (node ns j)) S = .ok (.bl false) S := by
    rw [eq_str (node_chars nm hi).ok (node_chars nm hj).ok, decide_eq_false (fun z => hij (node_inj nm hi hj z))]
    rfl
  have v3 : V3 [some (findD ns ts A G), some (.str (node ns i)), some (.str (node ns j)), some (.tup (nodesD ns)), none, none, none, none, none, none, none] S = .ok (.nx [some (findD ns ts A G), some (.str (node ns i)), some (.str (node ns j)), some (.tup (nodesD ns)), none, none, none, none, none, none, none]) S := by
    simp [V3, eq]
  have tb := f_tables_of (ns := ns) (ts := ts) A ha.few S
  have v4 : V4 [some (findD ns ts A G), some (.str (node ns i)), some (.str (node ns j)), some (.tup (nodesD ns)), none, none, none, none, none, none, none] S = .ok (.nx [some (findD ns ts A G), some (.str (node ns i)), some (.str (node ns j)), some (.tup (nodesD ns)), some (.lst (A.map fun b => tab (ns.length + 1) b.2)), none, none, none, none, none, none]) S := by
    simp [V4, find_bad, tb]
  have en := eq_nil (n := 3) (neg := false) (S := S) (xs := A.map fun b => tab (ns.length + 1) b.2) (by omega) (fun x hx => by
    obtain ⟨b, _, rfl⟩ := List.mem_map.mp hx
    exact tab_pln _ _)
  unfold F_loosest
  rw [runF_run', bind_r, nx_run, st, loosest_eq, sSeq_nx v1, sSeq_nx v2, sSeq_nx v3, sSeq_nx v4]
  by_cases hA : A = []
  · subst hA
    simp only [List.map_nil, List.isEmpty_nil, Bool.bne_false] at en
    have v5 : V5 [some (findD ns ts [] G), some (.str (node ns i)), some (.str (node ns j)), some (.tup (nodesD ns)), some (.lst (([] : List NT).map fun b => tab (ns.length + 1) b.2)), none, none, none, none, none, none] S = .ok (.rt (.tup [.str ("sure" : Str)])) S := by
      simp [V5, en, l1]
    rw [sSeq_rt v5]
    rfl
  have hAe : (A.map fun b => tab (ns.length + 1) b.2).isEmpty = false := by cases A <;> simp_all
  rw [hAe] at en
  simp only [Bool.bne_false] at en
  have l0 : (0 : Nat) ≤ sizeLine := le_line (by omega)
  have v5 : V5 [some (findD ns ts A G), some (.str (node ns i)), some (.str (node ns j)), some (.tup (nodesD ns)), some (.lst (A.map fun b => tab (ns.length + 1) b.2)), none, none, none, none, none, none] S = .ok (.nx [some (findD ns ts A G), some (.str (node ns i)), some (.str (node ns j)), some (.tup (nodesD ns)), some (.lst (A.map fun b => tab (ns.length + 1) b.2)), none, none, none, none, none, none]) S := by
    simp [V5, en, l0]
  have ni := f_number_of nm (by omega) hi S
  have nj := f_number_of nm (by omega) hj S
  have v6 : V6 [some (findD ns ts A G), some (.str (node ns i)), some (.str (node ns j)), some (.tup (nodesD ns)), some (.lst (A.map fun b => tab (ns.length + 1) b.2)), none, none, none, none, none, none] S = .ok (.nx [some (findD ns ts A G), some (.str (node ns i)), some (.str (node ns j)), some (.tup (nodesD ns)), some (.lst (A.map fun b => tab (ns.length + 1) b.2)), some (.int (i : Int)), some (.int (j : Int)), none, none, none, none]) S := by
    simp [V6, ni, nj, l2]
  have lc := lc_mapi (tg := gSet 10) (te := E_loosest_1) (ρ := [some (findD ns ts A G), some (.str (node ns i)), some (.str (node ns j)), some (.tup (nodesD ns)), some (.lst (A.map fun b => tab (ns.length + 1) b.2)), some (.int (i : Int)), some (.int (j : Int)), none, none, none, none]) (S := S) (fun b : NT => tab (ns.length + 1) b.2) (fun b : NT => oi (b.2 i j)) A [] (le_line (by simp; omega)) (by
    intro b hb
    refine ⟨_, rfl, ?_⟩
    have i0 : dIx (tab (ns.length + 1) b.2) (.int (i : Int)) S = .ok (rowD (ns.length + 1) (b.2 i)) S := ix_tab hi
    have i1 : dIx (rowD (ns.length + 1) (b.2 i)) (.int (j : Int)) S = .ok (oi (b.2 i j)) S := ix_row hj
    simp [E_loosest_1, i0, i1])
  rw [List.nil_append] at lc
  have et : A.map (fun b : NT => oi (b.2 i j)) = (topsOf i j A).map oi := by unfold topsOf; rw [List.map_map]; rfl
  rw [et] at lc
  have v7 : V7 [some (findD ns ts A G), some (.str (node ns i)), some (.str (node ns j)), some (.tup (nodesD ns)), some (.lst (A.map fun b => tab (ns.length + 1) b.2)), some (.int (i : Int)), some (.int (j : Int)), none, none, none, none] S = .ok (.nx [some (findD ns ts A G), some (.str (node ns i)), some (.str (node ns j)), some (.tup (nodesD ns)), some (.lst (A.map fun b => tab (ns.length + 1) b.2)), some (.int (i : Int)), some (.int (j : Int)), some (.lst ((topsOf i j A).map oi)), none, none, none]) S := by
    simp [V7, wipeD, lc]
  rw [sSeq_nx v5, sSeq_nx v6, sSeq_nx v7]
  have hA' : A.map (fun b => b.1) ≠ [] := by simpa using hA
  have hmem : D.non ∈ (topsOf i j A).map oi ↔ none ∈ topsOf i j A := by
    constructor
    · intro hx
      obtain ⟨o, ho, eo⟩ := List.mem_map.mp hx
      cases o with
      | none => exact ho
      | some v => cases eo
    · intro hx
      exact List.mem_map.mpr ⟨none, hx, rfl⟩
  have ie := in_plain (neg := false) (n := 1) (S := S) (x := .non) (c := .lst ((topsOf i j A).map oi)) (by omega) rfl (fun y hy => by
    obtain ⟨o, _, rfl⟩ := List.mem_map.mp hy
    exact oi_pln o) rfl
  by_cases hN : none ∈ topsOf i j A
  · rw [decide_eq_true (hmem.mpr hN)] at ie
    simp only [Bool.bne_false] at ie
    have v8 : V8 [some (findD ns ts A G), some (.str (node ns i)), some (.str (node ns j)), some (.tup (nodesD ns)), some (.lst (A.map fun b => tab (ns.length + 1) b.2)), some (.int (i : Int)), some (.int (j : Int)), some (.lst ((topsOf i j A).map oi)), none, none, none] S = .ok (.rt (.tup [.str ("none" : Str)])) S := by
      simp only [V8]
      simp [-List.map_map, ie, l1]
    rw [sSeq_rt v8]
    unfold dueD
    rw [if_neg hA', if_pos hN]
    rfl
  rw [decide_eq_false (fun z => hN (hmem.mp z))] at ie
  simp only [Bool.bne_false] at ie
  have v8 : V8 [some (findD ns ts A G), some (.str (node ns i)), some (.str (node ns j)), some (.tup (nodesD ns)), some (.lst (A.map fun b => tab (ns.length + 1) b.2)), some (.int (i : Int)), some (.int (j : Int)), some (.lst ((topsOf i j A).map oi)), none, none, none] S = .ok (.nx [some (findD ns ts A G), some (.str (node ns i)), some (.str (node ns j)), some (.tup (nodesD ns)), some (.lst (A.map fun b => tab (ns.length + 1) b.2)), some (.int (i : Int)), some (.int (j : Int)), some (.lst ((topsOf i j A).map oi)), none, none, none]) S := by
    simp only [V8]
    simp [-List.map_map, ie]
  obtain ⟨m, em⟩ := maxI_some (ns := (topsOf i j A).map (·.getD 0)) (by simpa [topsOf] using hA)
  have mx := maxL_run em S
  rw [← tops_int hN] at mx
  have v9 : V9 [some (findD ns ts A G), some (.str (node ns i)), some (.str (node ns j)), some (.tup (nodesD ns)), some (.lst (A.map fun b => tab (ns.length + 1) b.2)), some (.int (i : Int)), some (.int (j : Int)), some (.lst ((topsOf i j A).map oi)), none, none, none] S = .ok (.nx [some (findD ns ts A G), some (.str (node ns i)), some (.str (node ns j)), some (.tup (nodesD ns)), some (.lst (A.map fun b => tab (ns.length + 1) b.2)), some (.int (i : Int)), some (.int (j : Int)), some (.lst ((topsOf i j A).map oi)), some (.int m), none, none]) S := by
    simp only [V9]
    simp [-one_run, -List.map_map, mx]
  have ok : ∀ c : Int, Rng (ns.length + 1) [(j, i, c)] := fun c f hf => by rw [List.mem_singleton.mp hf]; exact ⟨hj, hi⟩
  have ne : ∀ (B : List NT), FamOk ns.length B → ∀ c : Int, ∀ b ∈ B, ∀ f ∈ b.1 ++ [(j, i, c)], f.1 ≠ f.2.1 := fun B hB c b hb f hf => by
    rcases List.mem_append.mp hf with z | z
    · exact hB.ne b hb f z
    · rw [List.mem_singleton.mp z]; exact Ne.symm hij
  have wa := f_least_with (k := ns.length) (by omega) ha.few ha.clo ha.rng (ok (-m)) (ne A ha (-m)) S
  have wg := f_least_with (k := ns.length) (by omega) hg.few hg.clo hg.rng (ok (-m - 1)) (ne G hg (-m - 1)) S
  have tg := f_tables_of (ns := ns) (ts := ts) G hg.few S
  simp only [List.map_cons, List.map_nil, factN] at wa wg
  have v10 : V10 [some (findD ns ts A G), some (.str (node ns i)), some (.str (node ns j)), some (.tup (nodesD ns)), some (.lst (A.map fun b => tab (ns.length + 1) b.2)), some (.int (i : Int)), some (.int (j : Int)), some (.lst ((topsOf i j A).map oi)), some (.int m), none, none] S = .ok (.nx [some (findD ns ts A G), some (.str (node ns i)), some (.str (node ns j)), some (.tup (nodesD ns)), some (.lst (A.map fun b => tab (ns.length + 1) b.2)), some (.int (i : Int)), some (.int (j : Int)), some (.lst ((topsOf i j A).map oi)), some (.int m), some (oT (firstL (leastsOf ns.length (G.map (fun b => b.1)) [(j, i, -m - 1)]))), none]) S := by
    simp only [V10]
    simp [-List.map_map, find_good, tg, l3, l1, wg]
  have v11 : V11 [some (findD ns ts A G), some (.str (node ns i)), some (.str (node ns j)), some (.tup (nodesD ns)), some (.lst (A.map fun b => tab (ns.length + 1) b.2)), some (.int (i : Int)), some (.int (j : Int)), some (.lst ((topsOf i j A).map oi)), some (.int m), some (oT (firstL (leastsOf ns.length (G.map (fun b => b.1)) [(j, i, -m - 1)]))), none] S = .ok (.rt (.tup [.str ("fact" : Str), .int (m + 1), oT (firstL (leastsOf ns.length (A.map (fun b => b.1)) [(j, i, -m)])), oT (firstL (leastsOf ns.length (G.map (fun b => b.1)) [(j, i, -m - 1)]))])) S := by
    simp only [V11]
    simp [-List.map_map, l3, l1, l4, wa]
  rw [sSeq_nx v8, sSeq_nx v9, sSeq_nx v10, v11]
  unfold dueD
  rw [if_neg hA', if_neg hN, em]
  rfl
end K36

/-! QS1: the order of recordings; the first one of a list -/
namespace K36
open PySem PySem.Spec PyProof.Rows L2 DD
theorem lex_irr : ∀ a : List Int, HT.lexLt a a = false
  | [] => rfl
  | x :: a => by rw [HT.lexLt_cons, if_pos rfl]; exact lex_irr a
theorem lex_trans : ∀ a b c : List Int, HT.lexLt a b = true → HT.lexLt b c = true → HT.lexLt a c = true
  | [], [], _, h, _ => by cases h
  | [], _ :: _, [], _, h => by cases h
  | [], _ :: _, _ :: _, _, _ => rfl
  | _ :: _, [], _, h, _ => by cases h
  | _ :: _, _ :: _, [], _, h => by cases h
  | x :: a, y :: b, z :: c, h1, h2 => by
    rw [HT.lexLt_cons] at h1 h2 ⊢
    by_cases e1 : x = y
    · subst e1
      rw [if_pos rfl] at h1
      by_cases e2 : x = z
      · subst e2
        rw [if_pos rfl] at h2 ⊢
        exact lex_trans a b c h1 h2
      · rw [if_neg e2] at h2 ⊢
        exact h2
    · rw [if_neg e1] at h1
      have h1' : x < y := by simpa using h1
      by_cases e2 : y = z
      · subst e2
        rw [if_neg e1]
        exact h1
      · rw [if_neg e2] at h2
        have h2' : y < z := by simpa using h2
        rw [if_neg (by omega)]
        simp
        omega
theorem lex_tri : ∀ a b : List Int, HT.lexLt a b = false → HT.lexLt b a = false → a = b
  | [], [], _, _ => rfl
  | [], _ :: _, h, _ => by cases h
  | _ :: _, [], _, h => by cases h
  | x :: a, y :: b, h1, h2 => by
    rw [HT.lexLt_cons] at h1 h2
    by_cases e : x = y
    · subst e
      rw [if_pos rfl] at h1 h2
      rw [lex_tri a b h1 h2]
    · rw [if_neg e] at h1
      rw [if_neg (Ne.symm e)] at h2
      simp at h1 h2
      omega
theorem lt_irr (a : List Int) : ltR a a = false := by
  unfold ltR
  rw [if_pos rfl]
  exact lex_irr a
theorem lt_trans' {a b c : List Int} (h1 : ltR a b = true) (h2 : ltR b c = true) : ltR a c = true := by
  unfold ltR at *
  by_cases e1 : a.sum = b.sum
  · rw [if_pos e1] at h1
    by_cases e2 : b.sum = c.sum
    · rw [if_pos e2] at h2
      rw [if_pos (e1.trans e2)]
      exact lex_trans a b c h1 h2
    · rw [if_neg e2] at h2
      rw [if_neg (by rw [e1]; exact e2), e1]
      exact h2
  · rw [if_neg e1] at h1
    have h1' : a.sum < b.sum := by simpa using h1
    by_cases e2 : b.sum = c.sum
    · rw [if_neg (by rw [← e2]; exact e1), ← e2]
      exact h1
    · rw [if_neg e2] at h2
      have h2' : b.sum < c.sum := by simpa using h2
      rw [if_neg (by omega)]
      simp
      omega
theorem lt_tri {a b : List Int} (h1 : ltR a b = false) (h2 : ltR b a = false) : a = b := by
  unfold ltR at *
  by_cases e : a.sum = b.sum
  · rw [if_pos e] at h1
    rw [if_pos e.symm] at h2
    exact lex_tri a b h1 h2
  · rw [if_neg e] at h1
    rw [if_neg (Ne.symm e)] at h2
    simp at h1 h2
    omega
theorem lt_neg {r f l : List Int} (h1 : ltR f l = false) (h2 : ltR r f = false) : ltR r l = false := by
  cases h : ltR r l with
  | false => rfl
  | true =>
    exfalso
    cases h3 : ltR l f with
    | true =>
      have := lt_trans' h h3
      rw [h2] at this
      cases this
    | false =>
      have := lt_tri h1 h3
      subst this
      rw [h2] at h
      cases h
theorem pick_min : ∀ (L : List (List Int)) (o : Option (List Int)) (l : List Int), L.foldl pick1 o = some l → (∀ f, o = some f → ltR f l = false) ∧ ∀ r ∈ L, ltR r l = false
  | [], o, l, h => ⟨fun f e => by
      have h' : o = some l := h
      rw [e] at h'
      injection h' with h'
      subst h'
      exact lt_irr _, fun r hr => by cases hr⟩
  | r :: L, o, l, h => by
    obtain ⟨h1, h2⟩ := pick_min L (pick1 o r) l h
    cases o with
    | none =>
      have hr := h1 r rfl
      exact ⟨(fun f e => by cases e), fun x hx => by
        rcases List.mem_cons.mp hx with rfl | hx
        · exact hr
        · exact h2 x hx⟩
    | some f =>
      have both : ltR r l = false ∧ ltR f l = false := by
        cases c : ltR r f with
        | true =>
          have hr := h1 r (by simp [pick1, c])
          refine ⟨hr, ?_⟩
          cases d : ltR f l with
          | false => rfl
          | true =>
            have := lt_trans' c d
            rw [hr] at this
            cases this
        | false =>
          have hf := h1 f (by simp [pick1, c])
          exact ⟨lt_neg hf c, hf⟩
      exact ⟨fun g e => by injection e with e; rw [← e]; exact both.2, fun x hx => by
        rcases List.mem_cons.mp hx with rfl | hx
        · exact both.1
        · exact h2 x hx⟩
theorem pick_some : ∀ (L : List (List Int)) (f : List Int), ∃ l, L.foldl pick1 (some f) = some l
  | [], f => ⟨f, rfl⟩
  | r :: L, f => by
    cases c : ltR r f with
    | true =>
      obtain ⟨l, h⟩ := pick_some L r
      exact ⟨l, by simpa [pick1, c] using h⟩
    | false =>
      obtain ⟨l, h⟩ := pick_some L f
      exact ⟨l, by simpa [pick1, c] using h⟩
theorem pick_mem : ∀ (L : List (List Int)) (o : Option (List Int)) (l : List Int), L.foldl pick1 o = some l → o = some l ∨ l ∈ L
  | [], o, l, h => .inl h
  | r :: L, o, l, h => by
    rcases pick_mem L (pick1 o r) l h with e | e
    · cases o with
      | none =>
        right
        injection e with e
        rw [← e]
        exact List.mem_cons_self
      | some f =>
        simp only [pick1] at e
        split at e
        · right
          injection e with e
          rw [← e]
          exact List.mem_cons_self
        · exact .inl e
    · exact .inr (List.mem_cons_of_mem _ e)
/-- the first one of a list is that of a list of some of its own, if none is before all of these -/
theorem first_same {L L' : List (List Int)} (sub : ∀ l ∈ L', l ∈ L) (low : ∀ r ∈ L, ∃ l ∈ L', ltR r l = false) : firstL L = firstL L' := by
  unfold firstL
  cases h : L.foldl pick1 none with
  | none =>
    cases h' : L'.foldl pick1 none with
    | none => rfl
    | some l' =>
      rcases pick_mem _ _ _ h' with z | z
      · cases z
      · have hl := sub l' z
        cases L with
        | nil => cases hl
        | cons r L =>
          obtain ⟨l, e⟩ := pick_some L r
          have e' : (r :: L).foldl pick1 none = some l := e
          rw [h] at e'
          cases e'
  | some l =>
    obtain ⟨_, m1⟩ := pick_min _ _ _ h
    have hl : l ∈ L := by
      rcases pick_mem _ _ _ h with z | z
      · cases z
      · exact z
    obtain ⟨l2, hl2, c2⟩ := low l hl
    cases h' : L'.foldl pick1 none with
    | none =>
      cases L' with
      | nil => cases hl2
      | cons r L' =>
        obtain ⟨x, e⟩ := pick_some L' r
        have e' : (r :: L').foldl pick1 none = some x := e
        rw [h'] at e'
        cases e'
    | some l' =>
      obtain ⟨_, m2⟩ := pick_min _ _ _ h'
      have hl' : l' ∈ L' := by
        rcases pick_mem _ _ _ h' with z | z
        · cases z
        · exact z
      have a : ltR l' l = false := m1 l' (sub l' hl')
      have b : ltR l l' = false := lt_neg (m2 l2 hl2) c2
      rw [lt_tri b a]
end K36

/-! QS2: recordings that keep facts, the least one of a closed table below all of them -/
namespace K36
open PySem PySem.Spec PyProof.Rows L2 DD
def pl (ps : List Int) (x : Nat) : Int := (0 :: ps).getD x 0
theorem pl_get {ps : List Int} {x : Nat} (h : x < ps.length + 1) : (D.int 0 :: ps.map D.int)[x]? = some (.int (pl ps x)) := by
  have e : (D.int 0 :: ps.map D.int) = (0 :: ps).map D.int := rfl
  rw [e, List.getElem?_map]
  unfold pl
  rw [List.getD_eq_getElem?_getD, List.getElem?_eq_getElem (by simpa using h)]
  rfl
def factKeep (ps : List Int) (f : NF) : Bool := decide (pl ps f.1 - pl ps f.2.1 ≤ f.2.2)
def lawKeeps (k : Nat) (fs : List NF) (ps : List Int) : Bool := (ps.all fun z => decide (0 ≤ z)) && decide (ps.length = k) && fs.all (factKeep ps)
theorem isEmpty_filter {α : Type} (p : α → Bool) (l : List α) : (l.filter p).isEmpty = l.all fun a => !p a := by
  induction l with
  | nil => rfl
  | cons a l ih =>
    cases h : p a <;> simp [List.filter_cons, h, ih]
theorem pl_zero (ps : List Int) : pl ps 0 = 0 := rfl
/-- keeping each fact is keeping each walk -/
theorem keep_walk {N : Nat} {fs : List NF} {ps : List Int} (hN : 0 < N) (rg : Rng N fs) (hf : fs.all (factKeep ps) = true) (hz : ∀ y, y < N → 0 ≤ pl ps y) {x y : Nat} {b : Int} (w : Walk N fs x y b) : pl ps x - pl ps y ≤ b := by
  induction w with
  | nil x => omega
  | @step x y z c b e _ ih =>
    have : pl ps x - pl ps y ≤ c := by
      rcases e with e | ⟨rfl, hy, rfl⟩
      · have := List.all_eq_true.mp hf _ e
        simpa [factKeep] using this
      · have := hz y hy
        rw [pl_zero]
        omega
    omega
theorem pl_least {k : Nat} {R : Tab} (d0 : R 0 0 = some 0) {x : Nat} (hx : x < k + 1) : pl (leastL k R) x = -((R 0 x).getD 0) := by
  cases x with
  | zero => rw [d0]; rfl
  | succ x =>
    have hx' : x < k := by omega
    simp [pl, leastL, low, hx']
theorem zero_row {N : Nat} {gs : List NF} {R : Tab} (c : Clo N gs R) {x : Nat} (hx : x < N) : ∃ v, R 0 x = some v ∧ v ≤ 0 := c.edg 0 x 0 (.inr ⟨rfl, hx, rfl⟩)
theorem least_keeps {k : Nat} {fs gs : List NF} {R : Tab} (c : Clo (k + 1) gs R) (rg : Rng (k + 1) fs) (sub : ∀ f ∈ fs, f ∈ gs) : lawKeeps k fs (leastL k R) = true := by
  have d0 := c.dia 0 (by omega)
  simp only [lawKeeps, Bool.and_eq_true, List.all_eq_true, decide_eq_true_eq]
  refine ⟨⟨fun z hz => ?_, by simp [leastL]⟩, fun f hf => ?_⟩
  · obtain ⟨i, hi, rfl⟩ := List.mem_map.mp hz
    obtain ⟨v, e, h⟩ := zero_row c (x := i + 1) (by have := List.mem_range.mp hi; omega)
    simp [low, e]
    omega
  · obtain ⟨hx, hy⟩ := rg f hf
    obtain ⟨v, e, _⟩ := zero_row c hx
    obtain ⟨b, eb, hb⟩ := c.edg f.1 f.2.1 f.2.2 (.inl (sub f hf))
    obtain ⟨u, eu, hu⟩ := c.tri 0 f.1 f.2.1 v b (by omega) hx hy e eb
    simp only [factKeep, decide_eq_true_eq, pl_least d0 hx, pl_least d0 hy, e, eu, Option.getD_some]
    omega

/-- mark by mark at most -/
inductive AllLe : List Int → List Int → Prop where
  | nil : AllLe [] []
  | cons {x y : Int} {a b : List Int} : x ≤ y → AllLe a b → AllLe (x :: a) (y :: b)
theorem AllLe.sum {a b : List Int} (h : AllLe a b) : a.sum ≤ b.sum ∧ (a.sum = b.sum → a = b) := by
  induction h with
  | nil => exact ⟨Int.le_refl _, fun _ => rfl⟩
  | @cons x y a b h1 _ ih =>
    simp only [List.sum_cons]
    refine ⟨by omega, fun e => ?_⟩
    have e1 : a.sum = b.sum := by omega
    have e2 : x = y := by omega
    rw [ih.2 e1, e2]
theorem AllLe.lt {a b : List Int} (h : AllLe a b) : ltR b a = false := by
  obtain ⟨h1, h2⟩ := h.sum
  unfold ltR
  by_cases e : b.sum = a.sum
  · rw [if_pos e, h2 e.symm]
    exact lex_irr b
  · rw [if_neg e]
    simp
    omega
theorem allLe_get : ∀ {a b : List Int}, a.length = b.length → (∀ i, i < a.length → a.getD i 0 ≤ b.getD i 0) → AllLe a b
  | [], [], _, _ => .nil
  | [], _ :: _, h, _ => by cases h
  | _ :: _, [], h, _ => by cases h
  | x :: a, y :: b, h, g => by
    refine .cons (g 0 (by simp)) (allLe_get (by simpa using h) fun i hi => ?_)
    have := g (i + 1) (by simpa using hi)
    simpa using this
theorem pl_pos {fs : List NF} {k : Nat} {ps : List Int} (h : lawKeeps k fs ps = true) : ∀ y, 0 ≤ pl ps y := fun y => by
  simp only [lawKeeps, Bool.and_eq_true, List.all_eq_true, decide_eq_true_eq] at h
  unfold pl
  rw [List.getD_eq_getElem?_getD]
  cases e : (0 :: ps)[y]? with
  | none => exact Int.le_refl _
  | some z =>
    have hz := List.mem_of_getElem? e
    rcases List.mem_cons.mp hz with rfl | hz
    · exact Int.le_refl _
    · exact h.1.1 z hz
/-- the least one of a closed table is mark by mark at most each recording -/
theorem least_low {k : Nat} {fs : List NF} {m : Tab} {ps : List Int} (rg : Rng (k + 1) fs) (c : Clo (k + 1) fs m) (h : lawKeeps k fs ps = true) : AllLe (leastL k m) ps := by
  have hp := pl_pos h
  have h' := h
  simp only [lawKeeps, Bool.and_eq_true, decide_eq_true_eq] at h'
  obtain ⟨⟨_, hl⟩, hf⟩ := h'
  refine allLe_get (by simp [leastL, hl]) fun i hi => ?_
  have hi' : i < k := by simpa [leastL] using hi
  obtain ⟨v, e, _⟩ := zero_row c (x := i + 1) (by omega)
  have w := c.snd 0 (i + 1) v (by omega) (by omega) e
  have := keep_walk (by omega) rg hf (fun y _ => hp y) w
  rw [pl_zero] at this
  have e1 : (leastL k m).getD i 0 = -v := by simp [leastL, low, hi', e]
  have e2 : ps.getD i 0 = pl ps (i + 1) := rfl
  rw [e1, e2]
  omega
/-- no recording is farther apart than the table says -/
theorem keep_top {k : Nat} {fs : List NF} {m : Tab} {ps : List Int} (rg : Rng (k + 1) fs) (c : Clo (k + 1) fs m) (h : lawKeeps k fs ps = true) {i j : Nat} (hi : i < k + 1) (hj : j < k + 1) {b : Int} (e : m i j = some b) : pl ps i - pl ps j ≤ b := by
  have hp := pl_pos h
  simp only [lawKeeps, Bool.and_eq_true, decide_eq_true_eq] at h
  exact keep_walk (by omega) rg h.2 (fun y _ => hp y) (c.snd i j b hi hj e)
end K36

/-! QS3: all recordings up to 4 -/
namespace K36
open PySem PySem.Spec PyProof.Rows L2 DD
def grow1 (r : List Int) : List (List Int) := (List.range 5).map fun s : Nat => r ++ [(s : Int)]
def allRecs : Nat → List (List Int)
  | 0 => [[]]
  | k + 1 => (allRecs k).flatMap grow1
theorem mem_recs : ∀ (k : Nat) (x : List Int), x ∈ allRecs k ↔ x.length = k ∧ ∀ z ∈ x, 0 ≤ z ∧ z ≤ 4
  | 0, x => by
    constructor
    · intro h
      have : x = [] := by simpa [allRecs] using h
      subst this
      exact ⟨rfl, fun z hz => by cases hz⟩
    · intro h
      have : x = [] := List.eq_nil_of_length_eq_zero h.1
      simp [allRecs, this]
  | k + 1, x => by
    simp only [allRecs, List.mem_flatMap, grow1, List.mem_map, List.mem_range]
    constructor
    · rintro ⟨r, hr, s, hs, rfl⟩
      obtain ⟨h1, h2⟩ := (mem_recs k r).mp hr
      refine ⟨by simp [h1], fun z hz => ?_⟩
      rcases List.mem_append.mp hz with hz | hz
      · exact h2 z hz
      · rw [List.mem_singleton.mp hz]
        omega
    · rintro ⟨h1, h2⟩
      have hne : x ≠ [] := fun e => by rw [e] at h1; cases h1
      have hl := h2 (x.getLast hne) (List.getLast_mem hne)
      refine ⟨x.dropLast, (mem_recs k _).mpr ⟨by simp [h1], fun z hz => h2 z ((List.dropLast_sublist x).subset hz)⟩, (x.getLast hne).toNat, by omega, ?_⟩
      rw [Int.toNat_of_nonneg hl.1]
      exact List.dropLast_concat_getLast hne
theorem recs_len : ∀ k : Nat, (allRecs k).length = 5 ^ k
  | 0 => rfl
  | k + 1 => by
    have : ∀ L : List (List Int), (L.flatMap grow1).length = 5 * L.length := by
      intro L
      induction L with
      | nil => rfl
      | cons r L ih =>
        rw [List.flatMap_cons, List.length_append, ih]
        simp [grow1]
        omega
    rw [allRecs, this, recs_len k, Nat.pow_succ]
    omega
theorem intsT_app (r : List Int) (s : Int) (h : r.length ≤ 100) (S : Sto) : dAdd (intsT r) (.tup [.int s]) S = .ok (intsT (r ++ [s])) S := by
  unfold intsT
  rw [List.map_append]
  exact add_tup (le_line (by simp; omega))
theorem fl_take {α β : Type} (f : α → List β) (l : List α) (i : Nat) (a : α) (h : l[i]? = some a) : (l.take (i + 1)).flatMap f = (l.take i).flatMap f ++ f a := by
  rw [List.take_add_one, h, Option.toList_some, List.flatMap_append]
  simp
theorem l_rows {n : Nat} (hn : n < 3) (o0 o3 o5 o6 : Option D) (S : Sto) : ∃ o5', sFor (srcSeq (dVar 2)) (gSet 5) L__law_all_recordings_2 [o0, some (.int 4), some (.lst ((allRecs n).map intsT)), o3, some (.lst []), o5, o6] S
    = .ok (.nx [o0, some (.int 4), some (.lst ((allRecs n).map intsT)), o3, some (.lst ((allRecs (n + 1)).map intsT)), o5', o6]) S := by
  have hl : (allRecs n).length ≤ 25 := by
    rw [recs_len]
    match n, hn with
    | 0, _ => decide
    | 1, _ => decide
    | 2, _ => decide
  have gl : ∀ L : List (List Int), (L.flatMap grow1).length = 5 * L.length := by
    intro L
    induction L with
    | nil => rfl
    | cons r L ih =>
      rw [List.flatMap_cons, List.length_append, ih]
      simp [grow1]
      omega
  obtain ⟨ρ', S', e, rfl, o5', hρ⟩ := for_evi (tg := gSet 5) (body := L__law_all_recordings_2) intsT
    (fun i ρ S' => S' = S ∧ ∃ o5, ρ = [o0, some (.int 4), some (.lst ((allRecs n).map intsT)), o3, some (.lst ((((allRecs n).take i).flatMap grow1).map intsT)), o5, o6]) (allRecs n)
    [o0, some (.int 4), some (.lst ((allRecs n).map intsT)), o3, some (.lst []), o5, o6] S ⟨rfl, o5, rfl⟩ (by
      rintro i r ρ S' hr ⟨rfl, o5, rfl⟩
      have hi : i < (allRecs n).length := (List.getElem?_eq_some_iff.mp hr).1
      have rl : r.length ≤ 100 := by
        have := ((mem_recs n r).mp (List.mem_of_getElem? hr)).1
        omega
      have rn : rng1 [.int 5] S' = .ok ((List.range 5).map fun i : Nat => D.int (i : Int), none) S' := rng1_run (n := 5) (by omega)
      have l1 : (1 : Nat) ≤ sizeLine := le_line (by omega)
      have lc := lc_mapi (tg := gSet 6) (te := E__law_all_recordings_1) (ρ := [o0, some (.int 4), some (.lst ((allRecs n).map intsT)), o3, some (.lst ((((allRecs n).take i).flatMap grow1).map intsT)), some (intsT r), none]) (S := S') (fun s : Nat => D.int (s : Int)) (fun s : Nat => intsT (r ++ [(s : Int)])) (List.range 5) [] (le_line (by simp)) (by
        intro s hs
        refine ⟨_, rfl, ?_⟩
        simp [E__law_all_recordings_1, l1, intsT_app r (s : Int) rl S'])
      rw [List.nil_append] at lc
      have em : (List.range 5).map (fun s : Nat => intsT (r ++ [(s : Int)])) = (grow1 r).map intsT := by
        unfold grow1
        rw [List.map_map]
        rfl
      rw [em] at lc
      have ad : dAdd (.lst ((((allRecs n).take i).flatMap grow1).map intsT)) (.lst ((grow1 r).map intsT)) S' = .ok (.lst ((((allRecs n).take i).flatMap grow1).map intsT ++ (grow1 r).map intsT)) S' := add_lst (le_line (by
        simp only [List.length_map, gl, List.length_take]
        simp [grow1]
        omega))
      refine ⟨_, S', [o0, some (.int 4), some (.lst ((allRecs n).map intsT)), o3, some (.lst ((((allRecs n).take i).flatMap grow1).map intsT ++ (grow1 r).map intsT)), some (intsT r), o6], S', rfl, ?_, rfl, some (intsT r), ?_⟩
      · generalize (((allRecs n).take i).flatMap grow1).map intsT = XX at *
        generalize (grow1 r).map intsT = YY at *
        simp [-List.map_map, L__law_all_recordings_2, wipeD, rn, lc, ad]
      · rw [fl_take grow1 _ i r hr, List.map_append])
  rw [List.take_of_length_le (Nat.le_refl _)] at hρ
  rw [hρ] at e
  exact ⟨o5', by simp [e, allRecs]⟩
end K36

/-! QS4: all recordings made; a recording with the greatest difference -/
namespace K36
open PySem PySem.Spec PyProof.Rows L2 DD
theorem f_all_recordings {k : Nat} (hk : k ≤ 3) (S : Sto) : F__law_all_recordings [.int (k : Int), .int 4] S = .ok (.lst ((allRecs k).map intsT)) S := by
  have l0 : (0 : Nat) ≤ sizeLine := Nat.zero_le _
  obtain ⟨ρ', S', e, rfl, o3, o4, o5, hρ⟩ := for_evi (tg := gSet 3) (body := L__law_all_recordings_3) (fun i : Nat => D.int (i : Int))
    (fun i ρ S' => S' = S ∧ ∃ o3 o4 o5, ρ = [some (.int (k : Int)), some (.int 4), some (.lst ((allRecs i).map intsT)), o3, o4, o5, none]) (List.range k)
    [some (.int (k : Int)), some (.int 4), some (.lst ((allRecs 0).map intsT)), none, none, none, none] S ⟨rfl, none, none, none, rfl⟩ (by
      rintro i a ρ S' ha ⟨rfl, o3, o4, o5, rfl⟩
      obtain ⟨hi, rfl⟩ := range_get ha
      obtain ⟨o5', e⟩ := l_rows (n := a) (by omega) (some (.int (k : Int))) (some (.int (a : Int))) o5 none S'
      have s1 : sSet 4 (dLst aNil) [some (.int (k : Int)), some (.int 4), some (.lst ((allRecs a).map intsT)), some (.int (a : Int)), o4, o5, none] S' = .ok (.nx [some (.int (k : Int)), some (.int 4), some (.lst ((allRecs a).map intsT)), some (.int (a : Int)), some (.lst []), o5, none]) S' := by
        simp [l0]
      refine ⟨_, S', [some (.int (k : Int)), some (.int 4), some (.lst ((allRecs (a + 1)).map intsT)), some (.int (a : Int)), some (.lst ((allRecs (a + 1)).map intsT)), o5', none], S', rfl, ?_, rfl, some (.int (a : Int)), some (.lst ((allRecs (a + 1)).map intsT)), o5', rfl⟩
      show (sSeq (sSet 4 (dLst aNil)) (sSeq (sFor (srcSeq (dVar 2)) (gSet 5) L__law_all_recordings_2) (sSet 2 (dVar 4)))) [some (.int (k : Int)), some (.int 4), some (.lst ((allRecs a).map intsT)), some (.int (a : Int)), o4, o5, none] S' = _
      rw [sSeq_nx s1, sSeq_nx e]
      simp)
  rw [List.length_range] at hρ
  rw [hρ] at e
  have rn := rng1_run (n := k) (S := S') (by omega)
  have l1 : (1 : Nat) ≤ sizeLine := le_line (by omega)
  have s0 : (allRecs 0).map intsT = [D.tup []] := rfl
  rw [s0] at e
  simp [F__law_all_recordings, B__law_all_recordings, l0, l1, rn, e]
/-- some recording is as far apart as the table says -/
theorem top_rec {k : Nat} {p : List NF} {m : Tab} (rg : Rng (k + 1) p) (c : Clo (k + 1) p m) {i j : Nat} (hi : i < k + 1) (hj : j < k + 1) {b : Int} (e : m i j = some b) :
    ∃ m', Clo (k + 1) (p ++ [(j, i, -b)]) m' ∧ lawKeeps k p (leastL k m') = true ∧ pl (leastL k m') i - pl (leastL k m') j = b := by
  have n1 : isNeg m j i (-b) = false := by
    simp [isNeg, e]
    omega
  have c1 := clo_lift c hj hi n1
  have r1 : Rng (k + 1) (p ++ [(j, i, -b)]) := fun f hf => by
    rcases List.mem_append.mp hf with z | z
    · exact rg f z
    · rw [List.mem_singleton.mp z]; exact ⟨hj, hi⟩
  have k1 := least_keeps c1 r1 (fun f hf => hf)
  have k2 := least_keeps c1 rg (fun f hf => List.mem_append_left _ hf)
  refine ⟨_, c1, k2, ?_⟩
  have a := keep_top rg c k2 hi hj e
  simp only [lawKeeps, Bool.and_eq_true, List.all_eq_true] at k1
  have b1 := k1.2 (j, i, -b) (List.mem_append_right _ List.mem_cons_self)
  simp only [factKeep, decide_eq_true_eq] at b1
  omega
end K36

/-! QS5: the least ones of capped parts are the first ones of all recordings -/
namespace K36
open PySem PySem.Spec PyProof.Rows L2 DD
theorem keeps_app (k : Nat) (p e : List NF) (ps : List Int) : lawKeeps k (p ++ e) ps = (lawKeeps k p ps && e.all (factKeep ps)) := by
  unfold lawKeeps
  rw [List.all_append, Bool.and_assoc, Bool.and_assoc, Bool.and_assoc]
theorem keeps_noNeg {k : Nat} {fs : List NF} {ps : List Int} (rg : Rng (k + 1) fs) (h : lawKeeps k fs ps = true) : NoNeg (k + 1) fs := fun x b hx w => by
  have hp := pl_pos h
  simp only [lawKeeps, Bool.and_eq_true, decide_eq_true_eq] at h
  have := keep_walk (by omega) rg h.2 (fun y _ => hp y) w
  omega
theorem leastO_low {k : Nat} {p e : List NF} {ps : List Int} (rg : Rng (k + 1) (p ++ e)) (ne : ∀ f ∈ p ++ e, f.1 ≠ f.2.1) (h : lawKeeps k (p ++ e) ps = true) : ∃ l, leastO k e p = some l ∧ AllLe l ps := by
  have nn := keeps_noNeg rg h
  have z := closed_no (by omega) rg ne nn
  have c := closed_yes (by omega) rg ne z
  refine ⟨tabL k (p ++ e), ?_, least_low rg c h⟩
  unfold leastO
  rw [if_neg (by unfold negB; rw [z]; decide)]
theorem leastO_keeps {k : Nat} {p e : List NF} {l : List Int} (rg : Rng (k + 1) (p ++ e)) (ne : ∀ f ∈ p ++ e, f.1 ≠ f.2.1) (h : leastO k e p = some l) : lawKeeps k (p ++ e) l = true := by
  unfold leastO at h
  split at h
  · cases h
  · rename_i z
    injection h with h
    subst h
    exact least_keeps (closed_yes (by omega) rg ne (by simpa [negB] using z)) rg (fun f hf => hf)
/-- each mark is at most 4 -/
def Capped (k : Nat) (p : List NF) : Prop := ∀ i, i < k → ((i + 1, 0, 4) : NF) ∈ p
theorem capped_rec {k : Nat} {p : List NF} {ps : List Int} (c : Capped k p) (h : lawKeeps k p ps = true) : ps ∈ allRecs k := by
  have hp := pl_pos h
  simp only [lawKeeps, Bool.and_eq_true, decide_eq_true_eq] at h
  refine (mem_recs k ps).mpr ⟨h.1.2, fun z hz => ?_⟩
  obtain ⟨i, hi, rfl⟩ := List.mem_iff_getElem.mp hz
  have e : pl ps (i + 1) = ps[i] := by
    unfold pl
    rw [List.getD_eq_getElem?_getD, List.getElem?_cons_succ, List.getElem?_eq_getElem hi]
    rfl
  have a := List.all_eq_true.mp h.2 _ (c i (by omega))
  have a : pl ps (i + 1) - pl ps 0 ≤ 4 := by simpa [factKeep] using a
  have b := hp (i + 1)
  rw [pl_zero] at a
  rw [e] at a b
  omega
def inParts (k : Nat) (B : List (List NF)) (ps : List Int) : Bool := B.any fun p => lawKeeps k p ps
def partRecs (k : Nat) (B : List (List NF)) : List (List Int) := (allRecs k).filter (inParts k B)
theorem mem_part {k : Nat} {B : List (List NF)} (cp : ∀ p ∈ B, Capped k p) {ps : List Int} : ps ∈ partRecs k B ↔ ∃ p ∈ B, lawKeeps k p ps = true := by
  unfold partRecs inParts
  rw [List.mem_filter, List.any_eq_true]
  exact ⟨fun h => h.2, fun ⟨p, hp, h⟩ => ⟨capped_rec (cp p hp) h, p, hp, h⟩⟩
structure SideOk (k : Nat) (B : List (List NF)) : Prop where
  rng : ∀ p ∈ B, Rng (k + 1) p
  ne : ∀ p ∈ B, ∀ f ∈ p, f.1 ≠ f.2.1
  nn : ∀ p ∈ B, NoNeg (k + 1) p
  cap : ∀ p ∈ B, Capped k p
structure ExtraOk (k : Nat) (e : List NF) : Prop where
  rng : Rng (k + 1) e
  ne : ∀ f ∈ e, f.1 ≠ f.2.1
theorem SideOk.rngE {k : Nat} {B : List (List NF)} (s : SideOk k B) {e : List NF} (x : ExtraOk k e) {p : List NF} (hp : p ∈ B) : Rng (k + 1) (p ++ e) := fun f hf => by
  rcases List.mem_append.mp hf with z | z
  · exact s.rng p hp f z
  · exact x.rng f z
theorem SideOk.neE {k : Nat} {B : List (List NF)} (s : SideOk k B) {e : List NF} (x : ExtraOk k e) {p : List NF} (hp : p ∈ B) : ∀ f ∈ p ++ e, f.1 ≠ f.2.1 := fun f hf => by
  rcases List.mem_append.mp hf with z | z
  · exact s.ne p hp f z
  · exact x.ne f z
/-- the least ones of parts with more facts: as by all recordings -/
theorem leasts_recs {k : Nat} {B : List (List NF)} {e : List NF} (s : SideOk k B) (x : ExtraOk k e) : firstL ((partRecs k B).filter fun ps => e.all (factKeep ps)) = firstL (leastsOf k B e) := by
  refine first_same (fun l hl => ?_) (fun r hr => ?_)
  · obtain ⟨p, hp, e1⟩ := List.mem_filterMap.mp hl
    have h := leastO_keeps (s.rngE x hp) (s.neE x hp) e1
    rw [keeps_app, Bool.and_eq_true] at h
    exact List.mem_filter.mpr ⟨(mem_part s.cap).mpr ⟨p, hp, h.1⟩, h.2⟩
  · obtain ⟨h0, h2⟩ := List.mem_filter.mp hr
    obtain ⟨p, hp, h1⟩ := (mem_part s.cap).mp h0
    obtain ⟨l, e1, lt⟩ := leastO_low (s.rngE x hp) (s.neE x hp) (ps := r) (by rw [keeps_app, Bool.and_eq_true]; exact ⟨h1, h2⟩)
    exact ⟨l, List.mem_filterMap.mpr ⟨p, hp, e1⟩, lt.lt⟩
theorem leasts_recs0 {k : Nat} {B : List (List NF)} (s : SideOk k B) : firstL (partRecs k B) = firstL (leastsOf k B []) := by
  have := leasts_recs s (e := []) ⟨fun f hf => (by cases hf), fun f hf => (by cases hf)⟩
  rw [← this]
  congr 1
  exact (List.filter_eq_self.mpr fun _ _ => rfl).symm
/-- each part has recordings -/
theorem part_some {k : Nat} {B : List (List NF)} (s : SideOk k B) {p : List NF} (hp : p ∈ B) : ∃ ps, lawKeeps k p ps = true := by
  have z := closed_no (by omega) (s.rng p hp) (s.ne p hp) (s.nn p hp)
  exact ⟨_, least_keeps (closed_yes (by omega) (s.rng p hp) (s.ne p hp) z) (s.rng p hp) (fun f hf => hf)⟩
theorem partRecs_nil {k : Nat} {B : List (List NF)} (s : SideOk k B) : partRecs k B = [] ↔ B = [] := by
  constructor
  · intro h
    cases B with
    | nil => rfl
    | cons p B =>
      obtain ⟨ps, hps⟩ := part_some s (List.mem_cons_self (a := p))
      have := (mem_part s.cap).mpr ⟨p, List.mem_cons_self, hps⟩
      rw [h] at this
      cases this
  · rintro rfl
    simp [partRecs, inParts]
theorem Clo.capped {k : Nat} {p : List NF} {m : Tab} (c : Clo (k + 1) p m) (cp : Capped k p) {i j : Nat} (hi : i < k + 1) (hj : j < k + 1) : ∃ b, m i j = some b := by
  obtain ⟨v, e2, _⟩ := c.edg 0 j 0 (.inr ⟨rfl, hj, rfl⟩)
  cases i with
  | zero => exact ⟨v, e2⟩
  | succ i =>
    obtain ⟨u, e1, _⟩ := c.edg (i + 1) 0 4 (.inl (cp i (by omega)))
    obtain ⟨w, e3, _⟩ := c.tri (i + 1) 0 j u v hi (by omega) hj e1 e2
    exact ⟨w, e3⟩
/-- how far apart two marks of a recording are -/
def gap (i j : Nat) (ps : List Int) : Int := pl ps i - pl ps j
/-- the greatest differences of the recordings and of the tables -/
theorem top_eq {k : Nat} {B : List (List NF)} (s : SideOk k B) {BT : List (List NF × Tab)} (hm : BT.map (fun b => b.1) = B) (hc : ∀ b ∈ BT, Clo (k + 1) b.1 b.2) {i j : Nat} (hi : i < k + 1) (hj : j < k + 1) :
    none ∉ BT.map (fun b => b.2 i j) ∧ ∀ m, maxI ((partRecs k B).map (gap i j)) = some m → maxI ((BT.map fun b => b.2 i j).map (·.getD 0)) = some m := by
  have mem : ∀ b ∈ BT, b.1 ∈ B := fun b hb => by rw [← hm]; exact List.mem_map_of_mem hb
  have one : ∀ b ∈ BT, ∃ v, b.2 i j = some v := fun b hb => (hc b hb).capped (s.cap _ (mem b hb)) hi hj
  refine ⟨fun h => ?_, fun m h => ?_⟩
  · obtain ⟨b, hb, e⟩ := List.mem_map.mp h
    obtain ⟨v, e2⟩ := one b hb
    rw [e2] at e
    cases e
  · obtain ⟨h1, h2⟩ := maxI_spec h
    obtain ⟨ps, hps, rfl⟩ := List.mem_map.mp h1
    obtain ⟨p, hp, hk⟩ := (mem_part s.cap).mp hps
    rw [← hm] at hp
    obtain ⟨b, hb, rfl⟩ := List.mem_map.mp hp
    have ne : (BT.map fun b => b.2 i j).map (·.getD 0) ≠ [] := by
      intro z
      have : BT = [] := by simpa using z
      rw [this] at hb
      cases hb
    obtain ⟨m', e'⟩ := maxI_some ne
    obtain ⟨g1, g2⟩ := maxI_spec e'
    rw [e']
    congr 1
    obtain ⟨o, ho, rfl⟩ := List.mem_map.mp g1
    obtain ⟨b', hb', rfl⟩ := List.mem_map.mp ho
    obtain ⟨v', ev'⟩ := one b' hb'
    obtain ⟨v, ev⟩ := one b hb
    have a1 := g2 v (List.mem_map.mpr ⟨b.2 i j, List.mem_map.mpr ⟨b, hb, rfl⟩, by rw [ev]; rfl⟩)
    have a2 := keep_top (s.rng _ (mem b hb)) (hc b hb) hk hi hj ev
    obtain ⟨m2, c2, k2, t2⟩ := top_rec (s.rng _ (mem b' hb')) (hc b' hb') hi hj ev'
    have a3 := h2 _ (List.mem_map.mpr ⟨_, (mem_part s.cap).mpr ⟨b'.1, mem b' hb', k2⟩, rfl⟩)
    have t2' : gap i j (leastL k m2) = v' := t2
    rw [t2'] at a3
    have a4 : gap i j ps ≤ v := a2
    rw [ev'] at a1 ⊢
    simp only [Option.getD_some] at a1 ⊢
    omega
end K36

/-! QS6: the law's keeps; recordings of parts -/
namespace K36
open PySem PySem.Spec PyProof.Rows L2 DD
theorem f_law_keeps {ns : List Str} (h : Names ns) (hl : ns.length ≤ 80) {fs : List NF} (few : fs.length ≤ 100) (rg : Rng (ns.length + 1) fs) (ps : List Int) (hps : ps.length ≤ 100) (S : Sto) :
    F__law_keeps [.tup (ns.map D.str), .tup (fs.map (factS ns)), intsT ps] S = .ok (.bl (lawKeeps ns.length fs ps)) S := by
  have h1 : (1 : Nat) ≤ sizeLine := le_line (by omega)
  have sa : seqA (intsT ps) S = .ok (ps.map D.int) S := rfl
  have al : dAdd (.tup [.int 0]) (.tup (ps.map D.int)) S = .ok (.tup ((0 :: ps).map D.int)) S := add_tup (le_line (by simp; omega))
  have lc := lc_filteri (tg := gSet 4) (tt := P__law_keeps_1) (te := E__law_keeps_2) (ρ := [some (.tup (ns.map D.str)), some (.tup (fs.map (factS ns))), some (intsT ps), some (.tup ((0 :: ps).map D.int)), none, none]) (S := S) D.int D.int (fun z : Int => decide (z < 0)) (0 :: ps) [] (le_line (by simp; omega)) (by
    intro z hz
    exact ⟨_, rfl, by simp [P__law_keeps_1], fun _ => rfl⟩)
  rw [List.nil_append] at lc
  have e1 : dEq true (.lst (((0 :: ps).filter fun z : Int => decide (z < 0)).map D.int)) (.lst []) S = .ok (.bl !(ps.all fun z => decide (0 ≤ z))) S := by
    rw [eq_nil (n := 1) (by decide) (fun x hx => by
      obtain ⟨z, _, rfl⟩ := List.mem_map.mp hx
      rfl)]
    congr 2
    rw [List.isEmpty_map, isEmpty_filter]
    simp
    congr 1
    funext z
    by_cases c : z < 0 <;> simp [c] <;> omega
  have ef0 : ((0 :: ps).filter fun z : Int => decide (z < 0)) = ps.filter fun z : Int => decide (z < 0) := by simp
  rw [ef0] at lc e1
  have l1 : len1 (.tup ((0 :: ps).map D.int)) S = .ok (.int ((ps.length : Int) + 1)) S := by
    rw [len_tup, List.length_map, List.length_cons]
    rfl
  have l2 : len1 (.tup (ns.map D.str)) S = .ok (.int (ns.length : Int)) S := by rw [len_tup, List.length_map]
  cases a1 : ps.all fun z => decide (0 ≤ z) with
  | false =>
    rw [a1] at e1
    have r : lawKeeps ns.length fs ps = false := by simp [lawKeeps, a1]
    simp only [List.map_cons] at al lc e1
    simp only [F__law_keeps, runF_run', B__law_keeps]
    simp [h1, sa, al, wipeD, lc, e1, r]
  | true =>
    rw [a1] at e1
    by_cases c : ps.length = ns.length
    · have nu := f_numbered h (by omega) fs (by omega) rg S
      have ix : ∀ x, x < ns.length + 1 → dIx (.tup (.int 0 :: ps.map D.int)) (.int (x : Int)) S = .ok (.int (pl ps x)) S := fun x hx => ix_tup (pl_get (by omega))
      have lc2 := lc_filteri (tg := gSet 5) (tt := P__law_keeps_3) (te := E__law_keeps_4) (ρ := [some (.tup (ns.map D.str)), some (.tup (fs.map (factS ns))), some (intsT ps), some (.tup ((0 :: ps).map D.int)), none, none]) (S := S) factN factN (fun f => !factKeep ps f) fs [] (le_line (by simp; omega)) (by
        intro f hf
        obtain ⟨hx, hy⟩ := rg f hf
        have i0 : dIx (factN f) (.int 0) S = .ok (.int (f.1 : Int)) S := ix_tup (i := 0) rfl
        have i1 : dIx (factN f) (.int 1) S = .ok (.int (f.2.1 : Int)) S := ix_tup (i := 1) rfl
        have i2 : dIx (factN f) (.int 2) S = .ok (.int f.2.2) S := ix_tup (i := 2) rfl
        refine ⟨_, rfl, ?_, fun _ => rfl⟩
        have ef : decide (f.2.2 < pl ps f.1 - pl ps f.2.1) = !factKeep ps f := by
          unfold factKeep
          by_cases q : pl ps f.1 - pl ps f.2.1 ≤ f.2.2
          · rw [decide_eq_true q, decide_eq_false (by omega)]
            rfl
          · rw [decide_eq_false q, decide_eq_true (by omega)]
            rfl
        simp [P__law_keeps_3, i0, i1, i2, ix _ hx, ix _ hy]
        rw [← ef])
      rw [List.nil_append] at lc2
      have e2 : dEq false (.lst ((fs.filter fun f => !factKeep ps f).map factN)) (.lst []) S = .ok (.bl (fs.all (factKeep ps))) S := by
        rw [eq_nil (n := 2) (by decide) (fun x hx => by
          obtain ⟨z, _, rfl⟩ := List.mem_map.mp hx
          simp [factN, pln])]
        congr 2
        rw [List.isEmpty_map, isEmpty_filter]
        simp
      have r : lawKeeps ns.length fs ps = fs.all (factKeep ps) := by simp [lawKeeps, a1, c]
      have c' : ((ps.length : Int) + 1 = (ns.length : Int) + 1) := by omega
      simp only [List.map_cons] at al lc e1 l1 lc2
      simp only [F__law_keeps, runF_run', B__law_keeps]
      simp [h1, sa, al, wipeD, lc, e1, l1, l2, c', c, nu, lc2, e2, r]
    · have r : lawKeeps ns.length fs ps = false := by simp [lawKeeps, c]
      have c' : ¬ ((ps.length : Int) + 1 = (ns.length : Int) + 1) := by omega
      have c2 : ¬ (ps.length : Int) = (ns.length : Int) := by omega
      simp only [List.map_cons] at al lc e1 l1
      simp only [F__law_keeps, runF_run', B__law_keeps]
      simp [h1, sa, al, wipeD, lc, e1, l1, l2, c', c2, c, r]

theorem ones_nil {S : Sto} {neg : Bool} (n : Nat) : dEq neg (.lst (List.replicate n (D.int 1))) (.lst []) S = .ok (.bl (decide (n = 0) != neg)) S := by
  rw [eq_nil (n := 1) (by decide) (fun x hx => by rw [(List.mem_replicate.mp hx).2]; rfl)]
  cases n <;> rfl
theorem map_one {α : Type} (l : List α) : (l.map fun _ => D.int 1) = List.replicate l.length (D.int 1) := by
  induction l with
  | nil => rfl
  | cons a l ih => rw [List.map_cons, ih]; rfl
theorem f_in_parts {ns : List Str} (nm : Names ns) (hl : ns.length ≤ 3) {B : List (List NF)} (hB : B.length ≤ 100) (rg : ∀ p ∈ B, Rng (ns.length + 1) p ∧ p.length ≤ 100) (S : Sto) :
    F__law_in_parts [.tup (ns.map D.str), .lst (B.map (partD ns)), .lst ((allRecs ns.length).map intsT)] S = .ok (.lst ((partRecs ns.length B).map intsT)) S := by
  have hr : (allRecs ns.length).length ≤ 125 := by
    rw [recs_len]
    match ns.length, hl with
    | 0, _ => decide
    | 1, _ => decide
    | 2, _ => decide
    | 3, _ => decide
  have lc := lc_filteri (tg := gSet 3) (tt := P__law_in_parts_3) (te := E__law_in_parts_4) (ρ := [some (.tup (ns.map D.str)), some (.lst (B.map (partD ns))), some (.lst ((allRecs ns.length).map intsT)), none, none]) (S := S) intsT intsT (inParts ns.length B) (allRecs ns.length) [] (le_line (by simp; omega)) (by
    intro r hr
    have rl : r.length ≤ 100 := by
      have := ((mem_recs _ r).mp hr).1
      omega
    have lc2 := lc_filteri (tg := gSet 4) (tt := P__law_in_parts_1) (te := E__law_in_parts_2) (ρ := [some (.tup (ns.map D.str)), some (.lst (B.map (partD ns))), some (.lst ((allRecs ns.length).map intsT)), some (intsT r), none]) (S := S) (partD ns) (fun _ => D.int 1) (fun p => lawKeeps ns.length p r) B [] (le_line (by simp; omega)) (by
      intro p hp
      have kp := f_law_keeps nm (by omega) (rg p hp).2 (rg p hp).1 r rl S
      refine ⟨_, rfl, ?_, fun _ => rfl⟩
      have e : partD ns p = .tup (p.map (factS ns)) := rfl
      rw [← e] at kp
      simp [P__law_in_parts_1, kp])
    rw [List.nil_append, map_one] at lc2
    refine ⟨_, rfl, ?_, fun _ => rfl⟩
    have ne := ones_nil (S := S) (neg := true) (B.filter fun p => lawKeeps ns.length p r).length
    have ev : (decide ((B.filter fun p => lawKeeps ns.length p r).length = 0) != true) = inParts ns.length B r := by
      unfold inParts
      cases h : B.any fun p => lawKeeps ns.length p r with
      | false =>
        have : B.filter (fun p => lawKeeps ns.length p r) = [] := List.filter_eq_nil_iff.mpr fun p hp z => by
          have : (B.any fun p => lawKeeps ns.length p r) = true := List.any_eq_true.mpr ⟨p, hp, z⟩
          rw [h] at this
          cases this
        rw [decide_eq_true (by rw [this]; rfl)]; rfl
      | true =>
        obtain ⟨p, hp, z⟩ := List.any_eq_true.mp h
        have : B.filter (fun p => lawKeeps ns.length p r) ≠ [] := fun e => by
          have : p ∈ B.filter (fun p => lawKeeps ns.length p r) := List.mem_filter.mpr ⟨hp, z⟩
          rw [e] at this
          cases this
        have : ¬ (B.filter (fun p => lawKeeps ns.length p r)).length = 0 := fun e => this (List.length_eq_zero_iff.mp e)
        rw [decide_eq_false this]; rfl
    rw [ev] at ne
    simp [P__law_in_parts_3, wipeD, lc2, ne])
  rw [List.nil_append] at lc
  simp only [F__law_in_parts, runF_run', B__law_in_parts]
  simp [-List.map_map, wipeD, lc, partRecs]
end K36

/-! M20: the pit laid; a chain looked at -/
namespace K36
open PySem PySem.Spec PyProof.Rows L2 DD
theorem f_pit (zs : List Int) (i : Nat) (hi : i ≤ 63) (hz : zs.length ≤ 63) (S : Sto) : ∃ S', F__law_pit [.rol (zs.map D.int), .int (i : Int)] S = .ok (.cell S.length) S' ∧ Pit S.length 100000 S' ∧ S'.length = S.length + 1 ∧ ∀ n, n < S.length → S'[n]? = S[n]? := by
  have h3 : (3 : Nat) ≤ sizeLine := le_line (by omega)
  have ln : len1 (.rol (zs.map D.int)) S = .ok (.int (zs.length : Int)) S := by
    show Out.ok (D.int ((zs.map D.int).length : Int)) S = _
    rw [List.length_map]
  have fin : ∀ v : Int, (dIf (tVal (dOp dLt (dVar 1) (dB dLen (aCons (dVar 0) aNil)))) (dOp dIx (dVar 0) (dVar 1)) (dC (.int 0))) [some (.rol (zs.map D.int)), some (.int (i : Int)), none] S = .ok (.int v) S →
      ∃ S', F__law_pit [.rol (zs.map D.int), .int (i : Int)] S = .ok (.cell S.length) S' ∧ Pit S.length 100000 S' ∧ S'.length = S.length + 1 ∧ ∀ n, n < S.length → S'[n]? = S[n]? := by
    intro v hv
    have hm : (0 : Int) < 10 ^ 37 + 3 := by decide
    have g1 := Int.emod_nonneg v (Int.ne_of_gt hm)
    have g2 := Int.emod_lt_of_pos v hm
    have md : ∀ S, dMod (.int v) (.int (10 ^ 37 + 3)) S = .ok (.int (v % (10 ^ 37 + 3))) S := fun S => mod_run hm
    generalize v % (10 ^ 37 + 3) = r at g1 g2 md
    have m1 : ∀ S, dMul (.int r) (.int 83) S = .ok (.int (r * 83)) S := fun S => mul_run (by
      have a1 := log_lt (n := 200) g1 (by omega) (by decide)
      have a2 : (83 : Int).natAbs.log2 = 6 := by decide +kernel
      omega)
    have m2 : ∀ S, dMul (.int 59) (.int (i : Int)) S = .ok (.int (59 * (i : Int))) S := fun S => mul_run (by
      have a1 := log_lt (i := (i : Int)) (n := 200) (by omega) (by omega) (by decide)
      have a2 : (59 : Int).natAbs.log2 = 5 := by decide +kernel
      omega)
    have s1 : (sSet 2 (dIf (tVal (dOp dLt (dVar 1) (dB dLen (aCons (dVar 0) aNil)))) (dOp dIx (dVar 0) (dVar 1)) (dC (.int 0)))) [some (.rol (zs.map D.int)), some (.int (i : Int)), none] S = .ok (.nx [some (.rol (zs.map D.int)), some (.int (i : Int)), some (.int v)]) S := by
      rw [sSet_run, cat_run, hv]
      rfl
    have st : startD 3 [D.rol (zs.map D.int), .int (i : Int)] = [some (.rol (zs.map D.int)), some (.int (i : Int)), none] := rfl
    refine ⟨S ++ [some (.lst [.int (if (if v < 0 then -v else v) - 10 ^ 18 > 0 then (if v < 0 then -v else v) - 10 ^ 18 else 0), .int (r * 83 + 59 * (i : Int) + 37), .int 0])], ?_, ⟨_, _, _, cellL_of (by simp; exact ⟨rfl, rfl, rfl⟩), by omega, by omega, by omega, by omega⟩, by simp, fun n hn => List.getElem?_append_left hn⟩
    unfold F__law_pit
    rw [runF_run', bind_r, nx_run, st]
    unfold B__law_pit
    rw [sSeq_nx s1]
    simp [-Int.reducePow, p18, p37, md, m1, m2, h3]
  by_cases c : i < zs.length
  · refine fin zs[i] ?_
    have ix : dIx (.rol (zs.map D.int)) (.int (i : Int)) S = .ok (.int zs[i]) S := by
      show (seqA (.rol (zs.map D.int)) >>= fun xs => M.get fun _ => atI xs (i : Int) : M D) S = _
      rw [M.bind_run]
      exact get_some (DD.atI_nat (by rw [List.getElem?_map, List.getElem?_eq_getElem c]; rfl))
    simp [ln, c, ix]
  · exact fin 0 (by simp [ln, c])
end K36

/-! M21: the law's kin -/
namespace DD
open PySem PySem.Spec PyProof.Rows L2
theorem isaC {d : D} {t u : String} {S : Sto} (h : tyOfM d S = .ok t S) (hu : u ∈ ["int", "bool", "str", "list", "tuple"]) : dIsa [d, .ty u] S = .ok (.bl (isaT t u)) S := by
  show (tyOfM d >>= fun t => M.need (u ∈ ["int", "bool", "str", "list", "tuple"]) >>= fun _ => pure (.bl (isaT t u)) : M D) S = _
  rw [M.bind_run, h]
  show (M.need (u ∈ ["int", "bool", "str", "list", "tuple"]) >>= fun _ => pure (.bl (isaT t u)) : M D) S = _
  rw [need_ok hu]
  rfl
theorem isaTC {d : D} {t : String} {S : Sto} (h : tyOfM d S = .ok t S) : dIsaT [d, .tup [.ty "list", .ty "tuple"]] S = .ok (.bl (isaT t "list" || isaT t "tuple")) S := by
  show (tyOfM d >>= fun t => M.get (fun _ => tyNames [.ty "list", .ty "tuple"]) >>= fun ns => M.need (∀ u ∈ ns, u ∈ ["int", "bool", "str", "list", "tuple"]) >>= fun _ => pure (.bl (ns.any (isaT t))) : M D) S = _
  rw [M.bind_run, h]
  show (M.get (fun _ => tyNames [.ty "list", .ty "tuple"]) >>= fun ns => M.need (∀ u ∈ ns, u ∈ ["int", "bool", "str", "list", "tuple"]) >>= fun _ => pure (.bl (ns.any (isaT t))) : M D) S = _
  rw [M.bind_run, getc_some (a := ["list", "tuple"]) (by rfl)]
  show (M.need (∀ u ∈ ["list", "tuple"], u ∈ ["int", "bool", "str", "list", "tuple"]) >>= fun _ => pure (.bl (["list", "tuple"].any (isaT t))) : M D) S = _
  rw [need_ok (by decide)]
  simp
/-- x is a list (t = list) or a tuple of xs -/
structure SeqIs (S : Sto) (t : String) (x : D) (xs : List D) : Prop where
  ty : tyOfM x S = .ok t S
  ln : len1 x S = .ok (.int xs.length) S
  ix : ∀ (i : Nat) (d : D), xs[i]? = some d → dIx x (.int (i : Int)) S = .ok d S
theorem SeqIs.lst {S : Sto} (xs : List D) : SeqIs S "list" (.lst xs) xs := ⟨getc_some (a := "list") rfl, rfl, fun _ _ h => ix_lst h⟩
theorem SeqIs.tup {S : Sto} (xs : List D) : SeqIs S "tuple" (.tup xs) xs := ⟨getc_some (a := "tuple") rfl, rfl, fun _ _ h => ix_tup h⟩
theorem SeqIs.cell {S : Sto} {p : Nat} {xs : List D} (h : cellL p S = some xs) : SeqIs S "list" (.cell p) xs := by
  refine ⟨?_, ?_, fun _ _ e => ix_cell h e⟩
  · show (M.get (cellL p) >>= fun _ => pure "list" : M String) S = _
    rw [M.bind_run, get_some h]
    rfl
  · show (seqA (.cell p) >>= fun xs => pure (.int xs.length) : M D) S = _
    rw [M.bind_run, seqA_cell h]
    rfl
end DD
namespace K36
open PySem PySem.Spec PyProof.Rows L2 DD
/-- told and due are one -/
def Kin (S : Sto) : Nat → D → D → Prop
  | 0, _, _ => False
  | n + 1, x, y => ((x = .non ∧ y = .non) ∨ ∃ b : Bool, x = .bl b ∧ y = .bl b) ∨ (∃ i : Int, x = .int i ∧ y = .int i) ∨ (∃ s : Str, s.cps.all (· < 0x110000) = true ∧ x = .str s ∧ y = .str s) ∨
    ∃ (t : String) (xs ys : List D), (t = "list" ∨ t = "tuple") ∧ SeqIs S t x xs ∧ SeqIs S t y ys ∧ xs.length = ys.length ∧ ys.length ≤ 1000 ∧ ∀ (i : Nat) (a b : D), xs[i]? = some a → ys[i]? = some b → Kin S n a b
theorem kin_seq {R : List D → M D} {S : Sto} {t : String} {x y : D} {xs ys : List D} (ht : t = "list" ∨ t = "tuple") (hx : SeqIs S t x xs) (hy : SeqIs S t y ys) (hl : xs.length = ys.length) (hz : ys.length ≤ 1000)
    (h : ∀ (i : Nat) (a b : D), xs[i]? = some a → ys[i]? = some b → R [a, b] S = .ok (.bl true) S) : runF 3 (B__law_kin R) [x, y] S = .ok (.bl true) S := by
  have h2 : (2 : Nat) ≤ sizeLine := le_line (by omega)
  have lc := lc_filteri (tg := gSet 2) (tt := P__law_kin_1 R) (te := E__law_kin_2 R) (ρ := [some x, some y, none]) (S := S) (fun i : Nat => D.int (i : Int)) (fun i : Nat => D.int (i : Int)) (fun _ : Nat => false) (List.range ys.length) [] (le_line (by simp; omega)) (by
    intro i hi
    have hi' : i < ys.length := List.mem_range.mp hi
    have e1 := hx.ix i xs[i] (List.getElem?_eq_getElem (by omega))
    have e2 := hy.ix i ys[i] (List.getElem?_eq_getElem hi')
    have e3 := h i _ _ (List.getElem?_eq_getElem (by omega)) (List.getElem?_eq_getElem hi')
    exact ⟨_, rfl, by simp [P__law_kin_1, e1, e2, e3], fun q => by cases q⟩)
  have ef : (List.range ys.length).filter (fun _ => false) = [] := by simp
  rw [List.nil_append, ef, List.map_nil] at lc
  have rg := rng1_run (S := S) hz
  have eq0 : dEq false (.lst []) (.lst []) S = .ok (.bl true) S := by
    rw [eq_t (n := 2) (by omega) (by simp [pln]) (by simp [pln]) rfl]
    rfl
  have ib := fun (u : String) (hu : u ∈ ["int", "bool", "str", "list", "tuple"]) => isaC hx.ty hu
  have jb := fun (u : String) (hu : u ∈ ["int", "bool", "str", "list", "tuple"]) => isaC hy.ty hu
  have kb := isaTC hy.ty
  have lx := hx.ln
  have ly := hy.ln
  have eb : ∀ (neg b c : Bool) , dEq neg (.bl b) (.bl c) S = .ok (.bl ((b == c) != neg)) S := by
    intro neg b c
    cases neg <;> cases b <;> cases c <;> simp [dEq, toP, SeqAt.shaped, PyData.canLay0, PyData.depth, PyData.eqv]
  rw [hl] at lx
  rcases ht with rfl | rfl
  · simp [B__law_kin, ib, jb, kb, isaT, eb, lx, ly, rg, wipeD, lc, eq0, h2]
  · simp [B__law_kin, ib, jb, kb, isaT, eb, lx, ly, rg, wipeD, lc, eq0, h2]
theorem f_kin : ∀ (n : Nat) (x y : D) (S : Sto), Kin S n x y → F__law_kin_n n [x, y] S = .ok (.bl true) S
  | 0, _, _, _, h => h.elim
  | n + 1, x, y, S, h => by
    have h2 : (2 : Nat) ≤ sizeLine := le_line (by omega)
    have eb : ∀ (neg b c : Bool) , dEq neg (.bl b) (.bl c) S = .ok (.bl ((b == c) != neg)) S := by
      intro neg b c
      cases neg <;> cases b <;> cases c <;> simp [dEq, toP, SeqAt.shaped, PyData.canLay0, PyData.depth, PyData.eqv]
    have leaf : ∀ (t : String) (x : D), tyOfM x S = .ok t S → t ≠ "bool" → t ≠ "list" → t ≠ "tuple" → dEq false x x S = .ok (.bl true) S → runF 3 (B__law_kin (F__law_kin_n n)) [x, x] S = .ok (.bl true) S := by
      intro t x ty n1 n2 n3 e
      have ib := fun (u : String) (hu : u ∈ ["int", "bool", "str", "list", "tuple"]) => isaC ty hu
      have kb := isaTC ty
      simp [B__law_kin, ib, kb, isaT, eb, n1, n2, n3, e, h2]
    rcases h with (⟨rfl, rfl⟩ | ⟨b, rfl, rfl⟩) | ⟨i, rfl, rfl⟩ | ⟨s, hs, rfl, rfl⟩ | ⟨t, xs, ys, ht, hx, hy, hl, hz, h⟩
    · exact leaf "NoneType" _ (getc_some (a := "NoneType") rfl) (by decide) (by decide) (by decide) (by rw [eq_t (n := 1) (by omega) rfl rfl rfl]; rfl)
    · have ty : tyOfM (.bl b) S = .ok "bool" S := getc_some (a := "bool") rfl
      have ib := fun (u : String) (hu : u ∈ ["int", "bool", "str", "list", "tuple"]) => isaC ty hu
      show runF 3 (B__law_kin (F__law_kin_n n)) [.bl b, .bl b] S = _
      simp [B__law_kin, ib, isaT, eb, h2]
    · exact leaf "int" _ (getc_some (a := "int") rfl) (by decide) (by decide) (by decide) (by simp)
    · exact leaf "str" _ (getc_some (a := "str") rfl) (by decide) (by decide) (by decide) (by rw [eq_str hs hs]; simp)
    · exact kin_seq ht hx hy hl hz fun i a b ha hb => f_kin n a b S (h i a b ha hb)
/-- plain data of short rows -/
def plk : Nat → D → Bool
  | 0, _ => false
  | _ + 1, .non => true
  | _ + 1, .bl _ => true
  | _ + 1, .int _ => true
  | _ + 1, .str x => x.cps.all (· < 0x110000)
  | n + 1, .tup xs => decide (xs.length ≤ 1000) && xs.all (plk n)
  | n + 1, .lst xs => decide (xs.length ≤ 1000) && xs.all (plk n)
  | _ + 1, _ => false
theorem Kin.self {S : Sto} : ∀ {n : Nat} {d : D}, plk n d = true → Kin S n d d
  | 0, _, h => by simp [plk] at h
  | n + 1, d, h => by
    cases d with
    | non => exact .inl (.inl ⟨rfl, rfl⟩)
    | bl b => exact .inl (.inr ⟨b, rfl, rfl⟩)
    | int i => exact .inr (.inl ⟨i, rfl, rfl⟩)
    | str s => exact .inr (.inr (.inl ⟨s, h, rfl, rfl⟩))
    | tup xs =>
      simp only [plk, Bool.and_eq_true, decide_eq_true_eq, List.all_eq_true] at h
      refine .inr (.inr (.inr ⟨"tuple", xs, xs, .inr rfl, .tup xs, .tup xs, rfl, h.1, fun i a b ha hb => ?_⟩))
      rw [ha] at hb
      cases hb
      exact Kin.self (h.2 a (List.mem_of_getElem? ha))
    | lst xs =>
      simp only [plk, Bool.and_eq_true, decide_eq_true_eq, List.all_eq_true] at h
      refine .inr (.inr (.inr ⟨"list", xs, xs, .inl rfl, .lst xs, .lst xs, rfl, h.1, fun i a b ha hb => ?_⟩))
      rw [ha] at hb
      cases hb
      exact Kin.self (h.2 a (List.mem_of_getElem? ha))
    | _ => simp [plk] at h
/-- two lists, one of them or both a cell -/
theorem Kin.lists {S : Sto} {n : Nat} {x y : D} {xs : List D} (hx : SeqIs S "list" x xs) (hy : SeqIs S "list" y xs) (hz : xs.length ≤ 1000) (h : ∀ d ∈ xs, plk n d = true) : Kin S (n + 1) x y := by
  refine .inr (.inr (.inr ⟨"list", xs, xs, .inl rfl, hx, hy, rfl, hz, fun i a b ha hb => ?_⟩))
  rw [ha] at hb
  cases hb
  exact Kin.self (h a (List.mem_of_getElem? ha))
end K36

/-! QS7: what the law says is due, by all recordings; it is what the tables say -/
namespace K36
open PySem PySem.Spec PyProof.Rows L2 DD
theorem f_first_ofL (L : List (List Int)) (S : Sto) : F__law_first_of [.lst (L.map intsT)] S = .ok (oT (firstL L)) S := by
  obtain ⟨ρ', S', e, rfl, o2, hρ⟩ := for_evi (tg := gSet 2) (body := L__law_first_of_1) intsT (fun i ρ S' => S' = S ∧ ∃ o2, ρ = [some (.lst (L.map intsT)), some (oT ((L.take i).foldl pick1 none)), o2])
    L [some (.lst (L.map intsT)), some .non, none] S ⟨rfl, none, rfl⟩ (by
      rintro i r ρ S' ha ⟨rfl, o2, rfl⟩
      exact ⟨_, _, _, _, rfl, l_first _ _ r S', rfl, some (intsT r), by rw [fold_take pick1 none L i r ha]⟩)
  rw [List.take_of_length_le (Nat.le_refl _)] at hρ
  rw [hρ] at e
  simp [F__law_first_of, B__law_first_of, e, firstL]
def dueR (Rb Rg : List (List Int)) (i j : Nat) : D :=
  if Rb = [] then .tup [.str ("sure" : Str)] else match maxI (Rb.map (gap i j)) with
    | some m => .tup [.str ("fact" : Str), .int (m + 1), oT (firstL (Rb.filter fun ps => decide (gap i j ps = m))), oT (firstL (Rg.filter fun ps => decide (m < gap i j ps)))]
    | none => .non
theorem add0 (r : List Int) (h : r.length ≤ 100) (S : Sto) : dAdd (.tup [.int 0]) (intsT r) S = .ok (.tup (.int 0 :: r.map D.int)) S := add_tup (le_line (by simp; omega))
theorem ints_pln (r : List Int) : pln 2 (intsT r) = true := by
  simp [intsT, pln]
theorem ints_nil (R : List (List Int)) (neg : Bool) (S : Sto) : dEq neg (.lst (R.map intsT)) (.lst []) S = .ok (.bl (R.isEmpty != neg)) S := by
  rw [eq_nil (n := 2) (by decide) fun x hx => by
    obtain ⟨r, _, rfl⟩ := List.mem_map.mp hx
    exact ints_pln r]
  cases R <;> rfl
theorem f_dueR {k : Nat} (hk : k ≤ 90) {Rb Rg : List (List Int)} (hb : ∀ r ∈ Rb, r.length = k) (hg : ∀ r ∈ Rg, r.length = k) (lb : Rb.length ≤ 200) (lg : Rg.length ≤ 200) {i j : Nat} (hi : i < k + 1) (hj : j < k + 1) (S : Sto) :
    F__law_loosest_due [.lst (Rb.map intsT), .lst (Rg.map intsT), .int (i : Int), .int (j : Int)] S = .ok (dueR Rb Rg i j) S := by
  have l1 : (1 : Nat) ≤ sizeLine := le_line (by omega)
  have l4 : (4 : Nat) ≤ sizeLine := le_line (by omega)
  have l0 : (0 : Nat) ≤ sizeLine := Nat.zero_le _
  have nb := ints_nil Rb false S
  by_cases h0 : Rb = []
  · subst h0
    simp only [List.map_nil, List.isEmpty_nil, Bool.bne_false] at nb
    simp [F__law_loosest_due, B__law_loosest_due, l0, l1, nb, dueR]
  · have hbe : Rb.isEmpty = false := by simpa using h0
    rw [hbe] at nb
    simp only [Bool.bne_false] at nb
    have ix : ∀ (r : List Int) (x : Nat), r.length = k → x < k + 1 → dIx (.tup (.int 0 :: r.map D.int)) (.int (x : Int)) S = .ok (.int (pl r x)) S := fun r x hr hx => ix_tup (pl_get (by omega))
    have c1 := lc_mapi (tg := gSet 7) (te := E__law_loosest_due_1) (ρ := [some (.lst (Rb.map intsT)), some (.lst (Rg.map intsT)), some (.int (i : Int)), some (.int (j : Int)), none, none, none, none]) (S := S) intsT (fun r => D.int (gap i j r)) Rb [] (le_line (by simp; omega)) (by
      intro r hr
      have hr' := hb r hr
      have a := add0 r (by omega) S
      exact ⟨_, rfl, by simp [E__law_loosest_due_1, l1, a, ix r i hr' hi, ix r j hr' hj, show pl r i - pl r j = gap i j r from rfl]⟩)
    rw [List.nil_append] at c1
    have em : Rb.map (fun r => D.int (gap i j r)) = (Rb.map (gap i j)).map D.int := by rw [List.map_map]; rfl
    rw [em] at c1
    obtain ⟨m, hm⟩ := maxI_some (ns := Rb.map (gap i j)) (by simpa using h0)
    have mx := maxL_run hm S
    have c2 := lc_filteri (tg := gSet 7) (tt := P__law_loosest_due_2) (te := E__law_loosest_due_3) (ρ := [some (.lst (Rb.map intsT)), some (.lst (Rg.map intsT)), some (.int (i : Int)), some (.int (j : Int)), some (.int m), none, none, none]) (S := S) intsT intsT (fun r => decide (gap i j r = m)) Rb [] (le_line (by simp; omega)) (by
      intro r hr
      have hr' := hb r hr
      have a := add0 r (by omega) S
      exact ⟨_, rfl, by simp [P__law_loosest_due_2, l1, a, ix r i hr' hi, ix r j hr' hj, show pl r i - pl r j = gap i j r from rfl], fun _ => rfl⟩)
    rw [List.nil_append] at c2
    have c3 := fun (o5 : Option D) => lc_filteri (tg := gSet 7) (tt := P__law_loosest_due_4) (te := E__law_loosest_due_5) (ρ := [some (.lst (Rb.map intsT)), some (.lst (Rg.map intsT)), some (.int (i : Int)), some (.int (j : Int)), some (.int m), o5, none, none]) (S := S) intsT intsT (fun r => decide (m < gap i j r)) Rg [] (le_line (by simp; omega)) (by
      intro r hr
      have hr' := hg r hr
      have a := add0 r (by omega) S
      exact ⟨_, rfl, by simp [P__law_loosest_due_4, l1, a, ix r i hr' hi, ix r j hr' hj, show pl r i - pl r j = gap i j r from rfl], fun _ => rfl⟩)
    simp only [List.nil_append] at c3
    have f1 := f_first_ofL (Rb.filter fun r => decide (gap i j r = m)) S
    have f2 := f_first_ofL (Rg.filter fun r => decide (m < gap i j r)) S
    generalize z1 : Rb.filter (fun r => decide (gap i j r = m)) = R1 at *
    generalize z2 : Rg.filter (fun r => decide (m < gap i j r)) = R2 at *
    unfold F__law_loosest_due B__law_loosest_due
    simp [-List.map_map, -one_run, l0, l1, l4, nb, wipeD, c1, mx, c2, c3, f1, f2, dueR, h0, hm]
    rw [z1, z2]
    exact ⟨rfl, rfl⟩
/-- what is due by all recordings is what the tables say -/
theorem dueR_dueD {k : Nat} {B G : List (List NF)} (sb : SideOk k B) (sg : SideOk k G) {A : List NT} (hm : A.map (fun b => b.1) = B) (hc : ∀ b ∈ A, Clo (k + 1) b.1 b.2) {i j : Nat} (hi : i < k + 1) (hj : j < k + 1) (hij : i ≠ j) :
    dueR (partRecs k B) (partRecs k G) i j = dueD k B G i j (topsOf i j A) := by
  unfold dueR dueD
  by_cases h0 : B = []
  · rw [if_pos h0, if_pos ((partRecs_nil sb).mpr h0)]
  · have h0' : partRecs k B ≠ [] := fun e => h0 ((partRecs_nil sb).mp e)
    obtain ⟨t1, t2⟩ := top_eq sb hm hc hi hj
    rw [if_neg h0, if_neg h0']
    obtain ⟨m, em⟩ := maxI_some (ns := (partRecs k B).map (gap i j)) (by simpa using h0')
    have e2 := t2 m em
    have t1' : none ∉ topsOf i j A := t1
    have e2' : maxI ((topsOf i j A).map (·.getD 0)) = some m := e2
    rw [if_neg t1', em, e2']
    have x : ∀ c : Int, ExtraOk k [(j, i, c)] := fun c => ⟨fun f hf => by rw [List.mem_singleton.mp hf]; exact ⟨hj, hi⟩, fun f hf => by rw [List.mem_singleton.mp hf]; exact Ne.symm hij⟩
    have a1 := leasts_recs sb (x (-m))
    have a2 := leasts_recs sg (x (-m - 1))
    obtain ⟨_, mm⟩ := maxI_spec em
    have b1 : (partRecs k B).filter (fun ps => [((j, i, -m) : NF)].all (factKeep ps)) = (partRecs k B).filter fun ps => decide (gap i j ps = m) := List.filter_congr fun r hr => by
      have := mm (gap i j r) (List.mem_map_of_mem hr)
      unfold gap at this
      have e : factKeep r (j, i, -m) = decide (pl r j - pl r i ≤ -m) := rfl
      rw [Bool.eq_iff_iff, List.all_cons, List.all_nil, Bool.and_true, e, decide_eq_true_eq, decide_eq_true_eq]
      unfold gap
      omega
    have b2 : (partRecs k G).filter (fun ps => [((j, i, -m - 1) : NF)].all (factKeep ps)) = (partRecs k G).filter fun ps => decide (m < gap i j ps) := List.filter_congr fun r _ => by
      have e : factKeep r (j, i, -m - 1) = decide (pl r j - pl r i ≤ -m - 1) := rfl
      rw [Bool.eq_iff_iff, List.all_cons, List.all_nil, Bool.and_true, e, decide_eq_true_eq, decide_eq_true_eq]
      unfold gap
      omega
    rw [b1] at a1
    rw [b2] at a2
    show D.tup _ = D.tup _
    rw [a1, a2]
end K36

/-! QS8: caps; a side's parts; plain data -/
namespace K36
open PySem PySem.Spec PyProof.Rows L2 DD
theorem plk_ints (n : Nat) (l : List Int) (h : l.length ≤ 1000) : plk (n + 2) (intsT l) = true := by
  simp only [plk, intsT, List.length_map, Bool.and_eq_true, decide_eq_true_eq, List.all_eq_true]
  refine ⟨h, fun x hx => ?_⟩
  obtain ⟨i, _, rfl⟩ := List.mem_map.mp hx
  rfl
theorem plk_least (n k : Nat) (hk : k ≤ 90) (B : List (List NF)) (e : List NF) : plk (n + 2) (oT (firstL (leastsOf k B e))) = true := by
  cases h : firstL (leastsOf k B e) with
  | none => rfl
  | some l =>
    rcases pick_mem _ _ _ h with z | z
    · cases z
    · obtain ⟨p, _, ep⟩ := List.mem_filterMap.mp z
      unfold leastO at ep
      split at ep
      · cases ep
      · injection ep with ep
        refine plk_ints n l ?_
        rw [← ep]
        simp [tabL, leastL]
        omega
theorem plk_due (k : Nat) (hk : k ≤ 90) (B G : List (List NF)) (i j : Nat) (tops : List (Option Int)) : plk 6 (dueD k B G i j tops) = true := by
  have s1 : plk 5 (.str ("sure" : Str)) = true := by decide +kernel
  have s2 : plk 5 (.str ("none" : Str)) = true := by decide +kernel
  have s3 : plk 5 (.str ("fact" : Str)) = true := by decide +kernel
  unfold dueD
  split
  · show (decide ([D.str ("sure" : Str)].length ≤ 1000) && [D.str ("sure" : Str)].all (plk 5)) = true
    simp [s1]
  · split
    · show (decide ([D.str ("none" : Str)].length ≤ 1000) && [D.str ("none" : Str)].all (plk 5)) = true
      simp [s2]
    · split
      · rename_i m _
        have a := plk_least 3 k hk B [(j, i, -m)]
        have b := plk_least 3 k hk G [(j, i, -m - 1)]
        have c : plk 5 (.int (m + 1)) = true := rfl
        show (decide (([D.str ("fact" : Str), .int (m + 1), oT (firstL (leastsOf k B [(j, i, -m)])), oT (firstL (leastsOf k G [(j, i, -m - 1)]))] : List D).length ≤ 1000) && ([D.str ("fact" : Str), .int (m + 1), oT (firstL (leastsOf k B [(j, i, -m)])), oT (firstL (leastsOf k G [(j, i, -m - 1)]))] : List D).all (plk 5)) = true
        simp [s3, a, b, c]
      · rfl
/-- a family of a side -/
structure Fam (ns : List Str) (B : List (List NF)) (BT : List NT) : Prop where
  map : BT.map (fun b => b.1) = B
  clo : ∀ b ∈ BT, Clo (ns.length + 1) b.1 b.2
theorem Fam.ok {ns : List Str} {B : List (List NF)} {BT : List NT} (f : Fam ns B BT) (s : Side ns 12 5 B) : FamOk ns.length BT := by
  have pt : ∀ b ∈ BT, Part ns 12 b.1 := fun b hb => s.part b.1 (by rw [← f.map]; exact List.mem_map_of_mem hb)
  refine ⟨f.clo, fun b hb => (pt b hb).rng, fun b hb g hg => ((pt b hb).ok g hg).ne, ?_⟩
  have hl := congrArg List.length f.map
  rw [List.length_map] at hl
  have := s.few
  omega
theorem eq_intN (a b : Int) (S : Sto) : dEq true (.int a) (.int b) S = .ok (.bl (decide (a ≠ b))) S := by
  by_cases h : a = b
  · rw [eq_t (n := 1) (by omega) rfl rfl (by rw [h])]
    simp [h]
  · rw [eq_f (n := 1) (by omega) rfl rfl (fun z => h (by injection z))]
    simp [h]

def capsF (k : Nat) : List NF := (List.range k).map fun i => (i + 1, 0, 4)
theorem caps_part (ns : List Str) : Part ns ns.length (capsF ns.length) where
  ok := fun f hf => by
    obtain ⟨i, hi, rfl⟩ := List.mem_map.mp hf
    have := List.mem_range.mp hi
    exact ⟨by show i + 1 < ns.length + 1; omega, by show 0 < ns.length + 1; omega, by show i + 1 ≠ 0; omega⟩
  len := by simp [capsF]
  nn := noNeg_pos fun f hf => by
    obtain ⟨i, hi, rfl⟩ := List.mem_map.mp hf
    show (0 : Int) ≤ 4
    decide
  cap := fun i hi => List.mem_map.mpr ⟨i, List.mem_range.mpr hi, rfl⟩
theorem caps_map (ns : List Str) : (ns.map fun n => D.tup [.str n, .str ("zero" : Str), .int 4]) = (capsF ns.length).map (factS ns) := by
  refine List.ext_getElem (by simp [capsF]) fun i h1 h2 => ?_
  have hi : i < ns.length := by simpa using h1
  have en : node ns (i + 1) = ns[i] := by
    show (Zero :: ns).getD (i + 1) Zero = ns[i]
    rw [List.getD_eq_getElem?_getD, List.getElem?_cons_succ, List.getElem?_eq_getElem hi]
    rfl
  simp only [capsF, List.getElem_map, List.getElem_range]
  show _ = D.tup [.str (node ns (i + 1)), .str (node ns 0), .int 4]
  rw [en]
  rfl
theorem f_caps (ns : List Str) (h6 : ns.length ≤ 6) (S : Sto) : F__law_caps [.tup (ns.map D.str), .int 4] S = .ok (partD ns (capsF ns.length)) S := by
  have l3 : (3 : Nat) ≤ sizeLine := le_line (by omega)
  have lc := lc_mapi (tg := gSet 2) (te := E__law_caps_1) (ρ := [some (.tup (ns.map D.str)), some (.int 4), none]) (S := S) D.str (fun n => D.tup [.str n, .str ("zero" : Str), .int 4]) ns [] (le_line (by simp; omega)) (by
    intro n hn
    exact ⟨_, rfl, by simp [E__law_caps_1, l3]⟩)
  rw [List.nil_append, caps_map] at lc
  unfold partD
  generalize (capsF ns.length).map (factS ns) = cs at *
  simp [F__law_caps, B__law_caps, wipeD, lc, tupOf_lst]
theorem Side.sok {ns : List Str} {B : List (List NF)} {m b : Nat} (s : Side ns b m B) : SideOk ns.length B where
  rng := fun p hp => (s.part p hp).rng
  ne := fun p hp f hf => ((s.part p hp).ok f hf).ne
  nn := fun p hp => (s.part p hp).nn
  cap := fun p hp => (s.part p hp).cap
theorem partRecs_len {k : Nat} (hk : k ≤ 3) (B : List (List NF)) : (partRecs k B).length ≤ 125 := by
  refine Nat.le_trans (List.length_filter_le _ _) ?_
  rw [recs_len]
  match k, hk with
  | 0, _ => decide
  | 1, _ => decide
  | 2, _ => decide
  | 3, _ => decide
theorem partRecs_one {k : Nat} {B : List (List NF)} : ∀ r ∈ partRecs k B, r.length = k := fun r hr => ((mem_recs k r).mp (List.mem_filter.mp hr).1).1
end K36

/-! QS9: all pairs -/
namespace K36
open PySem PySem.Spec PyProof.Rows L2 DD
theorem dCallK0_run {F : List D → List D → M D} {n : Nat} {fk : DEnv → M (List D)} {ρ : DEnv} {S : Sto} : dCallK0 F n fk ρ S = (fk ρ >>= fun bs => M.need (bs.length = n) >>= fun _ => F [] bs) S := nr rfl
theorem len_nodes (ns : List Str) (S : Sto) : len1 (.tup (nodesD ns)) S = .ok (.int ((ns.length + 1 : Nat) : Int)) S := by
  rw [len_tup, nodesD_len]
section
variable {ns ts : List Str} (nm : Names ns) (h3 : ns.length ≤ 3) {B G : List (List NF)} (sb : Side ns 12 5 B) (sg : Side ns 12 5 G) (h : B ≠ [] ∨ G ≠ []) {A C : List NT} (fa : Fam ns B A) (fg : Fam ns G C)
abbrev envP (ns ts : List Str) (B G : List (List NF)) (A C : List NT) (t : Int) (o5 o6 o7 o8 : Option D) : DEnv := [some (findD ns ts A C), some (.tup (nodesD ns)), some (.lst ((partRecs ns.length B).map intsT)), some (.lst ((partRecs ns.length G).map intsT)), some (.int t), o5, o6, o7, o8]
include nm h3 sb sg h fa fg in
theorem l_pair1 (t : Int) {i j : Nat} (hi : i < ns.length + 1) (hj : j < ns.length + 1) (o7 o8 : Option D) (S : Sto) :
    ∃ o7' o8', L__law_pairs_right_1 (envP ns ts B G A C t (some (.int (i : Int))) (some (.int (j : Int))) o7 o8) S = .ok (.nx (envP ns ts B G A C t (some (.int (i : Int))) (some (.int (j : Int))) o7' o8')) S := by
  have eq := eq_intN (i : Int) (j : Int) S
  by_cases hij : i = j
  · subst hij
    have d : decide ((i : Int) ≠ (i : Int)) = false := by simp
    rw [d] at eq
    exact ⟨o7, o8, by simp [L__law_pairs_right_1, eq]⟩
  have d : decide ((i : Int) ≠ (j : Int)) = true := by simp; omega
  rw [d] at eq
  have e1 := f_dueR (k := ns.length) (by omega) (Rb := partRecs ns.length B) (Rg := partRecs ns.length G) partRecs_one partRecs_one (by have := partRecs_len h3 B; omega) (by have := partRecs_len h3 G; omega) hi hj S
  rw [dueR_dueD sb.sok sg.sok fa.map fa.clo hi hj hij] at e1
  have hA : A ≠ [] ∨ C ≠ [] := by
    rcases h with z | z
    · exact .inl fun e => z (by rw [← fa.map, e]; rfl)
    · exact .inr fun e => z (by rw [← fg.map, e]; rfl)
  have e2 := f_loosest (ts := ts) nm (by omega) (fa.ok sb) (fg.ok sg) hA hi hj hij S
  rw [fa.map, fg.map] at e2
  have ixi : dIx (.tup (nodesD ns)) (.int (i : Int)) S = .ok (.str (node ns i)) S := ix_tup (nodesD_get hi)
  have ixj : dIx (.tup (nodesD ns)) (.int (j : Int)) S = .ok (.str (node ns j)) S := ix_tup (nodesD_get hj)
  have kn := f_kin 6 _ _ S (Kin.self (plk_due ns.length (by omega) B G i j (topsOf i j A)))
  have kn' : F__law_kin [dueD ns.length B G i j (topsOf i j A), dueD ns.length B G i j (topsOf i j A)] S = .ok (.bl true) S := kn
  generalize dueD ns.length B G i j (topsOf i j A) = dd at e1 e2 kn'
  have e3 : KF_loosest_y_finding_x [] [.str (node ns j), findD ns ts A C, .str (node ns i)] S = .ok dd S := e2
  have et := eq_int0 t 1 S
  by_cases ht : t = 1
  · subst ht
    rw [decide_eq_true rfl] at et
    exact ⟨some dd, some dd, by simp [L__law_pairs_right_1, dCallK0_run, eq, e1, ixi, ixj, e2, e3, et, kn']⟩
  · rw [decide_eq_false ht] at et
    exact ⟨some dd, some dd, by simp [L__law_pairs_right_1, dCallK0_run, eq, e1, ixi, ixj, e2, et, kn']⟩
include nm h3 sb sg h fa fg in
theorem l_pair2 (t : Int) {i : Nat} (hi : i < ns.length + 1) (o6 o7 o8 : Option D) (S : Sto) :
    ∃ o6' o7' o8', L__law_pairs_right_2 (envP ns ts B G A C t (some (.int (i : Int))) o6 o7 o8) S = .ok (.nx (envP ns ts B G A C t (some (.int (i : Int))) o6' o7' o8')) S := by
  obtain ⟨ρ', S', e, rfl, p6, p7, p8, hρ⟩ := for_evi (tg := gSet 6) (body := L__law_pairs_right_1) (fun j : Nat => D.int (j : Int))
    (fun n ρ S' => S' = S ∧ ∃ p6 p7 p8, ρ = envP ns ts B G A C t (some (.int (i : Int))) p6 p7 p8)
    (List.range (ns.length + 1)) (envP ns ts B G A C t (some (.int (i : Int))) o6 o7 o8) S ⟨rfl, o6, o7, o8, rfl⟩ (by
      rintro n j ρ S1 hj ⟨rfl, p6, p7, p8, rfl⟩
      obtain ⟨hj1, rfl⟩ := range_get hj
      obtain ⟨q7, q8, e2⟩ := l_pair1 (ts := ts) nm h3 sb sg h fa fg t hi hj1 p7 p8 S1
      exact ⟨_, S1, _, S1, rfl, e2, rfl, _, q7, q8, rfl⟩)
  have rn := rng1_run (n := ns.length + 1) (S := S') (by omega)
  have ln := len_nodes ns S'
  rw [hρ] at e
  refine ⟨p6, p7, p8, ?_⟩
  generalize ((ns.length + 1 : Nat) : Int) = q at ln rn
  simp [L__law_pairs_right_2, ln, rn, e]
include nm h3 sb sg h fa fg in
theorem f_pairs (t : Int) (S : Sto) :
    F__law_pairs_right [findD ns ts A C, .tup (nodesD ns), .lst ((partRecs ns.length B).map intsT), .lst ((partRecs ns.length G).map intsT), .int t] S = .ok (.bl true) S := by
  obtain ⟨ρ', S', e, rfl, p5, p6, p7, p8, hρ⟩ := for_evi (tg := gSet 5) (body := L__law_pairs_right_2) (fun j : Nat => D.int (j : Int))
    (fun n ρ S' => S' = S ∧ ∃ p5 p6 p7 p8, ρ = envP ns ts B G A C t p5 p6 p7 p8)
    (List.range (ns.length + 1)) (envP ns ts B G A C t none none none none) S ⟨rfl, none, none, none, none, rfl⟩ (by
      rintro n i ρ S1 hi ⟨rfl, p5, p6, p7, p8, rfl⟩
      obtain ⟨hi1, rfl⟩ := range_get hi
      obtain ⟨q6, q7, q8, e2⟩ := l_pair2 (ts := ts) nm h3 sb sg h fa fg t hi1 p6 p7 p8 S1
      exact ⟨_, S1, _, S1, rfl, e2, rfl, _, q6, q7, q8, rfl⟩)
  have rn := rng1_run (n := ns.length + 1) (S := S') (by omega)
  have ln := len_nodes ns S'
  rw [hρ] at e
  generalize ((ns.length + 1 : Nat) : Int) = q at ln rn
  have st : startD 9 [findD ns ts A C, .tup (nodesD ns), .lst ((partRecs ns.length B).map intsT), .lst ((partRecs ns.length G).map intsT), .int t] = envP ns ts B G A C t none none none none := rfl
  unfold F__law_pairs_right
  rw [runF_run', bind_r, nx_run, st]
  unfold B__law_pairs_right
  simp [ln, rn, e]
end
end K36

/-! QS10: the state, bool, papers -/
namespace DD
open PySem PySem.Spec PyProof.Rows L2
theorem oSome_st {f : DEnv → M D} {ρ : DEnv} {S S' : Sto} {i : Int} (h : f ρ S = .ok (.int i) S') : oSome f ρ S = .ok (some i) S' := by
  show (f ρ >>= fun x => match x with | .int i => pure (some i) | _ => M.bad : M (Option Int)) S = _
  rw [M.bind_run, h]
  rfl
end DD
namespace K36
open PySem PySem.Spec PyProof.Rows L2 DD
def stD (b g : Bool) : D := .str (if b then ("sure" : Str) else if g then ("never" : Str) else ("open" : Str))
theorem len_parts (ns ts : List Str) (A : List NT) (S : Sto) : len1 (.tup (A.map (shD ns ts))) S = .ok (.int (A.length : Int)) S := by
  rw [len_tup, List.length_map]
theorem emp (A : List NT) : decide ((A.length : Int) = 0) = A.isEmpty := by
  cases A with
  | nil => rfl
  | cons a A =>
    rw [decide_eq_false (by simp; omega)]
    rfl
theorem f_state (ns ts : List Str) (A C : List NT) (S : Sto) : F_Finding_state [findD ns ts A C] S = .ok (stD A.isEmpty C.isEmpty) S := by
  have e1 := eq_int0 (A.length : Int) 0 S
  have e2 := eq_int0 (C.length : Int) 0 S
  rw [emp] at e1 e2
  have s : F_state_in [famD ns ts A, famD ns ts C] S = .ok (stD A.isEmpty C.isEmpty) S := by
    unfold F_state_in B_state_in stD
    cases ha : A.isEmpty <;> cases hc : C.isEmpty <;> rw [ha] at e1 <;> rw [hc] at e2 <;> simp [fam_parts, len_parts, e1, e2]
  simp [F_Finding_state, B_Finding_state, find_bad, find_good, s]
theorem f_boolO (ns ts : List Str) (A C : List NT) (S : Sto) : dBoolO [(2, F_Finding___bool__)] (findD ns ts A C) S = .ok (.bl A.isEmpty) S := by
  have e1 := eq_int0 (A.length : Int) 0 S
  rw [emp] at e1
  have b : F_Finding___bool__ [findD ns ts A C] S = .ok (.bl A.isEmpty) S := by
    simp [F_Finding___bool__, B_Finding___bool__, find_bad, fam_parts, len_parts, e1]
  show (M.nx (F_Finding___bool__ [findD ns ts A C]) >>= fun r => toB r >>= fun y => pure (.bl y) : M D) S = _
  rw [bind_r, nx_run, b]
  simp
theorem f_papers {ns ts : List Str} (nm : Names ns) (h6 : ns.length ≤ 6) (ht : ∀ t ∈ ts, t ∈ ns) (htn : ts.Nodup) {B : List (List NF)} (s : Side ns 12 5 B) (o0 o1 o2 o5 o6 o7 o8 o9 o10 o11 o12 o13 o14 o15 o16 : Option D) (S : Sto) :
    ∃ A S', dLcGo none (gSet 17) tYesD E_law_1 [o0, o1, o2, some (.tup (ns.map D.str)), some (.tup (ts.map D.str)), o5, o6, o7, o8, o9, o10, o11, o12, o13, o14, o15, o16, none] (B.map (partD ns)) [] S = .ok (A.map (shD ns ts)) S' ∧ Fam ns B A ∧ Kp S S' := by
  have few := s.few
  obtain ⟨ys, S', e, A, rfl, h1, h2, h3⟩ := lc_evi (tg := gSet 17) (tt := tYesD) (te := E_law_1) (ρ := [o0, o1, o2, some (.tup (ns.map D.str)), some (.tup (ts.map D.str)), o5, o6, o7, o8, o9, o10, o11, o12, o13, o14, o15, o16, none]) (partD ns)
    (fun i acc S' => ∃ A : List NT, acc = A.map (shD ns ts) ∧ A.map (fun b => b.1) = B.take i ∧ (∀ b ∈ A, Clo (ns.length + 1) b.1 b.2) ∧ Kp S S')
    B S ⟨[], rfl, by simp, fun b hb => (by cases hb), Kp.refl S⟩ (le_line (by omega)) (by
      rintro i fs acc S' ha ⟨A, rfl, h1, h2, h3⟩
      have pt := s.part fs (List.mem_of_getElem? ha)
      obtain ⟨m, S1, k, e1, x1⟩ := make_run nm (by omega) ht htn pt.ok (by have := pt.len; omega) pt.nn S' [.tup (ns.map D.str), .tup (ts.map D.str), partD ns fs] MF_Sheet_3 (fun x S => rfl)
      refine ⟨_, S', true, S', rfl, rfl, ?_⟩
      rw [if_pos rfl]
      refine ⟨shD ns ts (fs, m), S1, ?_, A ++ [(fs, m)], by rw [List.map_append]; rfl, ?_, fun b hb => ?_, h3.trans x1⟩
      · simp [E_law_1, e1]
        rfl
      · rw [List.map_append, h1, List.take_add_one, ha]
        rfl
      · rcases List.mem_append.mp hb with z | z
        · exact h2 b z
        · rw [List.mem_singleton.mp z]; exact k)
  rw [List.take_of_length_le (Nat.le_refl _)] at h1
  exact ⟨A, S', e, ⟨h1, h2⟩, h3⟩
end K36

/-! QS11: one turn of the law -/
namespace K36
open PySem PySem.Spec PyProof.Rows L2 DD
theorem side_emp {ns : List Str} {B : List (List NF)} (s : Side ns 12 5 B) {A : List NT} (f : Fam ns B A) : A.isEmpty = (partRecs ns.length B).isEmpty := by
  have h := partRecs_nil s.sok
  have h2 : A = [] ↔ B = [] := by
    rw [← f.map]
    simp
  cases ha : A.isEmpty with
  | true =>
    have := h.mpr (h2.mp (List.isEmpty_iff.mp ha))
    rw [this]
    rfl
  | false =>
    cases hb : (partRecs ns.length B).isEmpty with
    | false => rfl
    | true =>
      have := h2.mpr (h.mp (List.isEmpty_iff.mp hb))
      rw [this] at ha
      cases ha
noncomputable def X1 : DEnv → M Fl := (sSet 2 (dCall 2 F__law_pit (aCons (dVar 0) (aCons (dVar 1) aNil))))
noncomputable def X2 : DEnv → M Fl := (sSet 3 (dCall 2 F__law_call_names (aCons (dVar 2) (aCons (dOp dAdd (dC (.int 1)) (dCall 2 F__law_hoist (aCons (dVar 2) (aCons (dC (.int 3)) aNil)))) aNil))))
noncomputable def X3 : DEnv → M Fl := (sSet 4 (dSl (dVar 3) oNone (oSome (dCall 2 F__law_hoist (aCons (dVar 2) (aCons (dC (.int 2)) aNil))))))
noncomputable def X4 : DEnv → M Fl := (sSet 5 (dCall 5 F__law_split (aCons (dVar 2) (aCons (dVar 3) (aCons (dCall 2 F__law_caps (aCons (dVar 3) (aCons (dC (.int 4)) aNil))) (aCons (dCall 2 F__law_hoist (aCons (dVar 2) (aCons (dC (.int 5)) aNil))) (aCons (dC (.int 5)) aNil)))))))
noncomputable def X5 : DEnv → M Fl := (sAsg (dCall 2 F__law_two_sides (aCons (dVar 2) (aCons (dVar 5) aNil))) (gTupD 2 (gsCons (gSet 6) (gsCons (gSet 7) gsNil))))
noncomputable def X6 : DEnv → M Fl := (sPar 6 7 (aCons (dCall 3 F__law_doubled (aCons (dVar 2) (aCons (dVar 3) (aCons (dVar 6) aNil)))) (aCons (dCall 3 F__law_doubled (aCons (dVar 2) (aCons (dVar 3) (aCons (dVar 7) aNil)))) aNil)))
noncomputable def X7 : DEnv → M Fl := (sSet 8 (dCall 2 F__law_all_recordings (aCons (dB dLen (aCons (dVar 3) aNil)) (aCons (dC (.int 4)) aNil))))
noncomputable def X8 : DEnv → M Fl := (sSet 9 (dCall 3 F__law_in_parts (aCons (dVar 3) (aCons (dVar 6) (aCons (dVar 8) aNil)))))
noncomputable def X9 : DEnv → M Fl := (sSet 10 (dCall 3 F__law_in_parts (aCons (dVar 3) (aCons (dVar 7) (aCons (dVar 8) aNil)))))
noncomputable def X10 : DEnv → M Fl := (sSet 11 (dCall 3 F__law_family (aCons (dVar 3) (aCons (dVar 4) (aCons (dVar 6) aNil)))))
noncomputable def X11 : DEnv → M Fl := (sSet 12 (dCall 3 F__law_family (aCons (dVar 3) (aCons (dVar 4) (aCons (dVar 7) aNil)))))
noncomputable def X12 : DEnv → M Fl := (sIf (tVal (dOp (dEq false) (dB dLen (aCons (dVar 6) aNil)) (dC (.int 2))))
  (sSeq (sSet 13 (dLc (srcSeq (dVar 6)) (gSet 17) tYesD E_law_1 [17]))
  (sSet 11 (dMakeS 1 true F_Family___init__ (aCons (dOp dIx (dVar 13) (dC (.int 0))) (aCons (dOp dIx (dVar 13) (dC (.int 1))) aNil)))))
  sNext)
noncomputable def X13 : DEnv → M Fl := (sSet 14 (dMake 2 true 2 (MF_Finding_2) (aCons (dVar 11) (aCons (dVar 12) aNil))))
noncomputable def X14 : DEnv → M Fl := (sSet 15 (dLst (aCons (dIf (tVal (dOp (dEq false) (dVar 9) (dLst aNil))) (dC (.str ("sure" : Str))) (dIf (tVal (dOp (dEq false) (dVar 10) (dLst aNil))) (dC (.str ("never" : Str))) (dC (.str ("open" : Str))))) (aCons (dOp (dEq false) (dVar 9) (dLst aNil)) aNil))))
noncomputable def X15 : DEnv → M Fl := (sIf (tNotD (tTru (dCall 2 F__law_kin (aCons (dLst (aCons (dProp [(2, F_Finding_state)] (dVar 14)) (aCons (dB (one (dBoolO [(2, F_Finding___bool__)])) (aCons (dVar 14) aNil)) aNil))) (aCons (dVar 15) aNil)))))
  (sRet (dC (.bl false)))
  sNext)
noncomputable def X16 : DEnv → M Fl := (sFor (srcA rng1 (aCons (dC (.int 2)) aNil)) (gSet 16) L_law_2)
noncomputable def X17 : DEnv → M Fl := (sIf (tNotD (tTru (dCall 2 F__law_kin (aCons (dLst (aCons (dProp [(2, F_Finding_least_bad)] (dVar 14)) (aCons (dProp [(2, F_Finding_least_good)] (dVar 14)) aNil))) (aCons (dLst (aCons (dCall 1 F__law_first_of (aCons (dVar 9) aNil)) (aCons (dCall 1 F__law_first_of (aCons (dVar 10) aNil)) aNil))) aNil)))))
  (sRet (dC (.bl false)))
  sNext)
theorem X_eq : L_law_3 = (sSeq X1 (sSeq X2 (sSeq X3 (sSeq X4 (sSeq X5 (sSeq X6 (sSeq X7 (sSeq X8 (sSeq X9 (sSeq X10 (sSeq X11 (sSeq X12 (sSeq X13 (sSeq X14 (sSeq X15 (sSeq X16 X17)))))))))))))))) := rfl
theorem l_turn {zs : List Int} (hz : zs.length ≤ 63) {i : Nat} (hi : i ≤ 63) (S : Sto) (o2 o3 o4 o5 o6 o7 o8 o9 o10 o11 o12 o13 o14 o15 o16 o17 : Option D) :
    ∃ S' q2 q3 q4 q5 q6 q7 q8 q9 q10 q11 q12 q13 q14 q15 q16 q17, L_law_3 [some (.rol (zs.map D.int)), some (.int (i : Int)), o2, o3, o4, o5, o6, o7, o8, o9, o10, o11, o12, o13, o14, o15, o16, o17] S
      = .ok (.nx [some (.rol (zs.map D.int)), some (.int (i : Int)), q2, q3, q4, q5, q6, q7, q8, q9, q10, q11, q12, q13, q14, q15, q16, q17]) S' := by
  have l0 : (0 : Nat) ≤ sizeLine := Nat.zero_le _
  have l1 : (1 : Nat) ≤ sizeLine := le_line (by omega)
  have l2 : (2 : Nat) ≤ sizeLine := le_line (by omega)
  obtain ⟨S1, e1, p1, len1_, x1⟩ := f_pit zs i hi hz S
  obtain ⟨d0, S2, h2, b2, p2, x2⟩ := f_hoistN (p1.mono (show 99999 + 1 ≤ 100000 by omega)) (below := 3) (by decide) (by decide)
  have h2' : F__law_hoist [.cell S.length, .int 3] S1 = .ok (.int (d0 : Int)) S2 := h2
  obtain ⟨ns, S3, e3, n1, nm, p3, x3⟩ := f_names (many := 1 + d0) (j := 99900) (by omega) (p2.mono (by omega))
  have e3' : F__law_call_names [.cell S.length, .int (1 + (d0 : Int))] S2 = .ok (.tup (ns.map D.str)) S3 := by
    rw [show (1 + (d0 : Int)) = ((1 + d0 : Nat) : Int) by push_cast; rfl]
    exact e3
  have h1' : 1 ≤ ns.length := by omega
  have h3' : ns.length ≤ 3 := by omega
  have h6 : ns.length ≤ 6 := by omega
  obtain ⟨t, S5, h5, b5, p5, x5⟩ := f_hoistN (p3.mono (show 99898 + 1 ≤ 99900 by omega)) (below := 2) (by decide) (by decide)
  have h5' : F__law_hoist [.cell S.length, .int 2] S3 = .ok (.int (t : Int)) S5 := h5
  obtain ⟨ts, hts, htn, rv0⟩ : ∃ ts : List Str, (∀ t ∈ ts, t ∈ ns) ∧ ts.Nodup ∧ ts = ns.take t := ⟨_, fun z hz => List.mem_of_mem_take hz, nm.nd.sublist (List.take_sublist _ _), rfl⟩
  have slt : dSlice (.tup (ns.map D.str)) none (some (t : Int)) S5 = .ok (.tup (ts.map D.str)) S5 := by
    rw [slice_tup, cutA_take, rv0, List.map_take]
  have cp := f_caps ns h6 S5
  have pf : Part ns 8 (capsF ns.length) := (caps_part ns).mono (by omega)
  obtain ⟨t8, S8, h8, b8, p8, x8⟩ := f_hoistN (p5.mono (show 99600 + 1 ≤ 99898 by omega)) (below := 5) (by decide) (by decide)
  have h8' : F__law_hoist [.cell S.length, .int 5] S5 = .ok (.int (t8 : Int)) S8 := h8
  obtain ⟨q, S9, P, e9, s9, n9, l9⟩ := f_split (far := 5) (j := 99505) nm h1' h6 (by decide) (by decide) b8 (p8.mono (by omega)) pf (by omega)
  obtain ⟨B0, G0, S10, e10, sB0, sG0, ne0, p10, x10⟩ := f_two (j := 99500) nm s9 (by omega) n9 l9
  have sB1 : Side ns 12 4 B0 := ⟨fun x hx => (sB0.part x hx).mono (by omega), sB0.few⟩
  have sG1 : Side ns 12 4 G0 := ⟨fun x hx => (sG0.part x hx).mono (by omega), sG0.few⟩
  obtain ⟨B, S11, e11, sb, nB, p11, x11⟩ := f_doubled (j := 99400) nm h1' h6 (p10.mono (by omega)) sB1
  obtain ⟨G, S12, e12, sg, nG, p12, x12⟩ := f_doubled (j := 99300) nm h1' h6 (p11.mono (by omega)) sG1
  have hne : B ≠ [] ∨ G ≠ [] := by
    rcases ne0 with z | z
    · exact .inl fun e => z (nB.mp e)
    · exact .inr fun e => z (nG.mp e)
  have lnm : ∀ S, len1 (.tup (ns.map D.str)) S = .ok (.int (ns.length : Int)) S := fun S => by rw [len_tup, List.length_map]
  have ar := f_all_recordings (k := ns.length) h3' S12
  have ipB := f_in_parts nm h3' (B := B) (by have := sb.few; omega) (fun p hp => ⟨(sb.part p hp).rng, by have := (sb.part p hp).len; omega⟩) S12
  have ipG := f_in_parts nm h3' (B := G) (by have := sg.few; omega) (fun p hp => ⟨(sg.part p hp).rng, by have := (sg.part p hp).len; omega⟩) S12
  obtain ⟨A0, S13, e13, mA, cA, kA⟩ := f_family nm h6 hts htn sb S12
  obtain ⟨C, S14, e14, mC, cC, kC⟩ := f_family nm h6 hts htn sg S13
  have fa0 : Fam ns B A0 := ⟨mA, cA⟩
  have fg : Fam ns G C := ⟨mC, cC⟩
  have adn : ∀ S, dAdd (.tup [.str ("zero" : Str)]) (.tup (ns.map D.str)) S = .ok (.tup (nodesD ns)) S := fun S => add_tup (le_line (by simp; omega))
  have w1 : X1 [some (.rol (zs.map D.int)), some (.int (i : Int)), o2, o3, o4, o5, o6, o7, o8, o9, o10, o11, o12, o13, o14, o15, o16, o17] S = .ok (.nx [some (.rol (zs.map D.int)), some (.int (i : Int)), some (.cell S.length), o3, o4, o5, o6, o7, o8, o9, o10, o11, o12, o13, o14, o15, o16, o17]) S1 := by
    simp [X1, e1]
  have w2 : X2 [some (.rol (zs.map D.int)), some (.int (i : Int)), some (.cell S.length), o3, o4, o5, o6, o7, o8, o9, o10, o11, o12, o13, o14, o15, o16, o17] S1 = .ok (.nx [some (.rol (zs.map D.int)), some (.int (i : Int)), some (.cell S.length), some (.tup (ns.map D.str)), o4, o5, o6, o7, o8, o9, o10, o11, o12, o13, o14, o15, o16, o17]) S3 := by
    simp [X2, h2', e3']
  have os4 : oSome (dCall 2 F__law_hoist (aCons (dVar 2) (aCons (dC (.int 2)) aNil))) [some (.rol (zs.map D.int)), some (.int (i : Int)), some (.cell S.length), some (.tup (ns.map D.str)), o4, o5, o6, o7, o8, o9, o10, o11, o12, o13, o14, o15, o16, o17] S3 = .ok (some (t : Int)) S5 := oSome_st (by simp [h5'])
  have w3 : X3 [some (.rol (zs.map D.int)), some (.int (i : Int)), some (.cell S.length), some (.tup (ns.map D.str)), o4, o5, o6, o7, o8, o9, o10, o11, o12, o13, o14, o15, o16, o17] S3 = .ok (.nx [some (.rol (zs.map D.int)), some (.int (i : Int)), some (.cell S.length), some (.tup (ns.map D.str)), some (.tup (ts.map D.str)), o5, o6, o7, o8, o9, o10, o11, o12, o13, o14, o15, o16, o17]) S5 := by
    simp [-List.map_take, X3, os4, slt]
  have w4 : X4 [some (.rol (zs.map D.int)), some (.int (i : Int)), some (.cell S.length), some (.tup (ns.map D.str)), some (.tup (ts.map D.str)), o5, o6, o7, o8, o9, o10, o11, o12, o13, o14, o15, o16, o17] S5 = .ok (.nx [some (.rol (zs.map D.int)), some (.int (i : Int)), some (.cell S.length), some (.tup (ns.map D.str)), some (.tup (ts.map D.str)), some (.cell q), o6, o7, o8, o9, o10, o11, o12, o13, o14, o15, o16, o17]) S9 := by
    simp [X4, cp, h8', e9]
  have w5 : X5 [some (.rol (zs.map D.int)), some (.int (i : Int)), some (.cell S.length), some (.tup (ns.map D.str)), some (.tup (ts.map D.str)), some (.cell q), o6, o7, o8, o9, o10, o11, o12, o13, o14, o15, o16, o17] S9 = .ok (.nx [some (.rol (zs.map D.int)), some (.int (i : Int)), some (.cell S.length), some (.tup (ns.map D.str)), some (.tup (ts.map D.str)), some (.cell q), some (.lst (B0.map (partD ns))), some (.lst (G0.map (partD ns))), o8, o9, o10, o11, o12, o13, o14, o15, o16, o17]) S10 := by
    simp [X5, e10]
  have w6 : X6 [some (.rol (zs.map D.int)), some (.int (i : Int)), some (.cell S.length), some (.tup (ns.map D.str)), some (.tup (ts.map D.str)), some (.cell q), some (.lst (B0.map (partD ns))), some (.lst (G0.map (partD ns))), o8, o9, o10, o11, o12, o13, o14, o15, o16, o17] S10 = .ok (.nx [some (.rol (zs.map D.int)), some (.int (i : Int)), some (.cell S.length), some (.tup (ns.map D.str)), some (.tup (ts.map D.str)), some (.cell q), some (.lst (B.map (partD ns))), some (.lst (G.map (partD ns))), o8, o9, o10, o11, o12, o13, o14, o15, o16, o17]) S12 := by
    simp [X6, e11, e12]
  have w7 : X7 [some (.rol (zs.map D.int)), some (.int (i : Int)), some (.cell S.length), some (.tup (ns.map D.str)), some (.tup (ts.map D.str)), some (.cell q), some (.lst (B.map (partD ns))), some (.lst (G.map (partD ns))), o8, o9, o10, o11, o12, o13, o14, o15, o16, o17] S12 = .ok (.nx [some (.rol (zs.map D.int)), some (.int (i : Int)), some (.cell S.length), some (.tup (ns.map D.str)), some (.tup (ts.map D.str)), some (.cell q), some (.lst (B.map (partD ns))), some (.lst (G.map (partD ns))), some (.lst ((allRecs ns.length).map intsT)), o9, o10, o11, o12, o13, o14, o15, o16, o17]) S12 := by
    simp [-List.map_map, X7, lnm, ar]
  have w8 : X8 [some (.rol (zs.map D.int)), some (.int (i : Int)), some (.cell S.length), some (.tup (ns.map D.str)), some (.tup (ts.map D.str)), some (.cell q), some (.lst (B.map (partD ns))), some (.lst (G.map (partD ns))), some (.lst ((allRecs ns.length).map intsT)), o9, o10, o11, o12, o13, o14, o15, o16, o17] S12 = .ok (.nx [some (.rol (zs.map D.int)), some (.int (i : Int)), some (.cell S.length), some (.tup (ns.map D.str)), some (.tup (ts.map D.str)), some (.cell q), some (.lst (B.map (partD ns))), some (.lst (G.map (partD ns))), some (.lst ((allRecs ns.length).map intsT)), some (.lst ((partRecs ns.length B).map intsT)), o10, o11, o12, o13, o14, o15, o16, o17]) S12 := by
    simp [-List.map_map, X8, ipB]
  have w9 : X9 [some (.rol (zs.map D.int)), some (.int (i : Int)), some (.cell S.length), some (.tup (ns.map D.str)), some (.tup (ts.map D.str)), some (.cell q), some (.lst (B.map (partD ns))), some (.lst (G.map (partD ns))), some (.lst ((allRecs ns.length).map intsT)), some (.lst ((partRecs ns.length B).map intsT)), o10, o11, o12, o13, o14, o15, o16, o17] S12 = .ok (.nx [some (.rol (zs.map D.int)), some (.int (i : Int)), some (.cell S.length), some (.tup (ns.map D.str)), some (.tup (ts.map D.str)), some (.cell q), some (.lst (B.map (partD ns))), some (.lst (G.map (partD ns))), some (.lst ((allRecs ns.length).map intsT)), some (.lst ((partRecs ns.length B).map intsT)), some (.lst ((partRecs ns.length G).map intsT)), o11, o12, o13, o14, o15, o16, o17]) S12 := by
    simp [-List.map_map, X9, ipG]
  have w10 : X10 [some (.rol (zs.map D.int)), some (.int (i : Int)), some (.cell S.length), some (.tup (ns.map D.str)), some (.tup (ts.map D.str)), some (.cell q), some (.lst (B.map (partD ns))), some (.lst (G.map (partD ns))), some (.lst ((allRecs ns.length).map intsT)), some (.lst ((partRecs ns.length B).map intsT)), some (.lst ((partRecs ns.length G).map intsT)), o11, o12, o13, o14, o15, o16, o17] S12 = .ok (.nx [some (.rol (zs.map D.int)), some (.int (i : Int)), some (.cell S.length), some (.tup (ns.map D.str)), some (.tup (ts.map D.str)), some (.cell q), some (.lst (B.map (partD ns))), some (.lst (G.map (partD ns))), some (.lst ((allRecs ns.length).map intsT)), some (.lst ((partRecs ns.length B).map intsT)), some (.lst ((partRecs ns.length G).map intsT)), some (famD ns ts A0), o12, o13, o14, o15, o16, o17]) S13 := by
    simp [-List.map_map, X10, e13]
  have w11 : X11 [some (.rol (zs.map D.int)), some (.int (i : Int)), some (.cell S.length), some (.tup (ns.map D.str)), some (.tup (ts.map D.str)), some (.cell q), some (.lst (B.map (partD ns))), some (.lst (G.map (partD ns))), some (.lst ((allRecs ns.length).map intsT)), some (.lst ((partRecs ns.length B).map intsT)), some (.lst ((partRecs ns.length G).map intsT)), some (famD ns ts A0), o12, o13, o14, o15, o16, o17] S13 = .ok (.nx [some (.rol (zs.map D.int)), some (.int (i : Int)), some (.cell S.length), some (.tup (ns.map D.str)), some (.tup (ts.map D.str)), some (.cell q), some (.lst (B.map (partD ns))), some (.lst (G.map (partD ns))), some (.lst ((allRecs ns.length).map intsT)), some (.lst ((partRecs ns.length B).map intsT)), some (.lst ((partRecs ns.length G).map intsT)), some (famD ns ts A0), some (famD ns ts C), o13, o14, o15, o16, o17]) S14 := by
    simp [-List.map_map, X11, e14]
  have ex12 : ∃ A S15 r13, X12 [some (.rol (zs.map D.int)), some (.int (i : Int)), some (.cell S.length), some (.tup (ns.map D.str)), some (.tup (ts.map D.str)), some (.cell q), some (.lst (B.map (partD ns))), some (.lst (G.map (partD ns))), some (.lst ((allRecs ns.length).map intsT)), some (.lst ((partRecs ns.length B).map intsT)), some (.lst ((partRecs ns.length G).map intsT)), some (famD ns ts A0), some (famD ns ts C), o13, o14, o15, o16, o17] S14 = .ok (.nx [some (.rol (zs.map D.int)), some (.int (i : Int)), some (.cell S.length), some (.tup (ns.map D.str)), some (.tup (ts.map D.str)), some (.cell q), some (.lst (B.map (partD ns))), some (.lst (G.map (partD ns))), some (.lst ((allRecs ns.length).map intsT)), some (.lst ((partRecs ns.length B).map intsT)), some (.lst ((partRecs ns.length G).map intsT)), some (famD ns ts A), some (famD ns ts C), r13, o14, o15, o16, o17]) S15 ∧ Fam ns B A := by
    have ln := len_lst (xs := B.map (partD ns)) (S := S14)
    rw [List.length_map] at ln
    have eq := eq_int0 (B.length : Int) 2 S14
    by_cases h2 : B.length = 2
    · have d : decide ((B.length : Int) = 2) = true := decide_eq_true (by omega)
      rw [d] at eq
      obtain ⟨A, S15, e15, fa, k15⟩ := f_papers (ts := ts) nm (by omega) hts htn sb (some (.rol (zs.map D.int))) (some (.int (i : Int))) (some (.cell S.length)) (some (.cell q)) (some (.lst (B.map (partD ns)))) (some (.lst (G.map (partD ns)))) (some (.lst ((allRecs ns.length).map intsT))) (some (.lst ((partRecs ns.length B).map intsT))) (some (.lst ((partRecs ns.length G).map intsT))) (some (famD ns ts A0)) (some (famD ns ts C)) o13 o14 o15 o16 S14
      have lA : A.length = 2 := by
        have := congrArg List.length fa.map
        rw [List.length_map] at this
        omega
      match A, lA with
      | [a, b], _ =>
        have mk := mk_fam nm hts [a, b] S15
        simp only [List.map_cons, List.map_nil] at mk e15
        have i0 : ∀ S, dIx (.lst [shD ns ts a, shD ns ts b]) (.int 0) S = .ok (shD ns ts a) S := fun S => ix_lst (i := 0) rfl
        have i1 : ∀ S, dIx (.lst [shD ns ts a, shD ns ts b]) (.int 1) S = .ok (shD ns ts b) S := fun S => ix_lst (i := 1) rfl
        exact ⟨[a, b], S15 ++ [none], some (.lst [shD ns ts a, shD ns ts b]), by simp [-List.map_map, X12, ln, eq, wipeD, e15, i0, i1, l2, mk], fa⟩
    · have d : decide ((B.length : Int) = 2) = false := decide_eq_false (by omega)
      rw [d] at eq
      exact ⟨A0, S14, o13, by simp [-List.map_map, X12, ln, eq], fa0⟩
  obtain ⟨A, S15, r13, w12, fa⟩ := ex12
  have mf := mk_find ns ts A C S15
  have w13 : X13 [some (.rol (zs.map D.int)), some (.int (i : Int)), some (.cell S.length), some (.tup (ns.map D.str)), some (.tup (ts.map D.str)), some (.cell q), some (.lst (B.map (partD ns))), some (.lst (G.map (partD ns))), some (.lst ((allRecs ns.length).map intsT)), some (.lst ((partRecs ns.length B).map intsT)), some (.lst ((partRecs ns.length G).map intsT)), some (famD ns ts A), some (famD ns ts C), r13, o14, o15, o16, o17] S15 = .ok (.nx [some (.rol (zs.map D.int)), some (.int (i : Int)), some (.cell S.length), some (.tup (ns.map D.str)), some (.tup (ts.map D.str)), some (.cell q), some (.lst (B.map (partD ns))), some (.lst (G.map (partD ns))), some (.lst ((allRecs ns.length).map intsT)), some (.lst ((partRecs ns.length B).map intsT)), some (.lst ((partRecs ns.length G).map intsT)), some (famD ns ts A), some (famD ns ts C), r13, some (findD ns ts A C), o15, o16, o17]) (S15 ++ [none]) := by
    simp [-List.map_map, X13, mf]
  have nb := ints_nil (partRecs ns.length B) false (S15 ++ [none])
  have ng := ints_nil (partRecs ns.length G) false (S15 ++ [none])
  simp only [Bool.bne_false] at nb ng
  have w14 : X14 [some (.rol (zs.map D.int)), some (.int (i : Int)), some (.cell S.length), some (.tup (ns.map D.str)), some (.tup (ts.map D.str)), some (.cell q), some (.lst (B.map (partD ns))), some (.lst (G.map (partD ns))), some (.lst ((allRecs ns.length).map intsT)), some (.lst ((partRecs ns.length B).map intsT)), some (.lst ((partRecs ns.length G).map intsT)), some (famD ns ts A), some (famD ns ts C), r13, some (findD ns ts A C), o15, o16, o17] (S15 ++ [none]) = .ok (.nx [some (.rol (zs.map D.int)), some (.int (i : Int)), some (.cell S.length), some (.tup (ns.map D.str)), some (.tup (ts.map D.str)), some (.cell q), some (.lst (B.map (partD ns))), some (.lst (G.map (partD ns))), some (.lst ((allRecs ns.length).map intsT)), some (.lst ((partRecs ns.length B).map intsT)), some (.lst ((partRecs ns.length G).map intsT)), some (famD ns ts A), some (famD ns ts C), r13, some (findD ns ts A C), some (.lst [stD (partRecs ns.length B).isEmpty (partRecs ns.length G).isEmpty, .bl (partRecs ns.length B).isEmpty]), o16, o17]) (S15 ++ [none]) := by
    cases hb : (partRecs ns.length B).isEmpty <;> cases hg : (partRecs ns.length G).isEmpty <;> rw [hb] at nb <;> rw [hg] at ng <;> simp [-List.map_map, X14, l0, l2, nb, ng, stD]
  have eb : A.isEmpty = (partRecs ns.length B).isEmpty := side_emp sb fa
  have eg : C.isEmpty = (partRecs ns.length G).isEmpty := side_emp sg fg
  have st := f_state ns ts A C (S15 ++ [none])
  have bo := f_boolO ns ts A C (S15 ++ [none])
  rw [eb, eg] at st
  rw [eb] at bo
  have fi : ∀ ρ : DEnv, ρ[14]? = some (some (findD ns ts A C)) → dVar 14 ρ (S15 ++ [none]) = .ok (findD ns ts A C) (S15 ++ [none]) := fun ρ h => by simp [h]
  have pk : plk 6 (.lst [stD (partRecs ns.length B).isEmpty (partRecs ns.length G).isEmpty, .bl (partRecs ns.length B).isEmpty]) = true := by
    cases (partRecs ns.length B).isEmpty <;> cases (partRecs ns.length G).isEmpty <;> decide +kernel
  have kn : F__law_kin [.lst [stD (partRecs ns.length B).isEmpty (partRecs ns.length G).isEmpty, .bl (partRecs ns.length B).isEmpty], .lst [stD (partRecs ns.length B).isEmpty (partRecs ns.length G).isEmpty, .bl (partRecs ns.length B).isEmpty]] (S15 ++ [none]) = .ok (.bl true) (S15 ++ [none]) := f_kin 6 _ _ _ (Kin.self pk)
  have w15 : X15 [some (.rol (zs.map D.int)), some (.int (i : Int)), some (.cell S.length), some (.tup (ns.map D.str)), some (.tup (ts.map D.str)), some (.cell q), some (.lst (B.map (partD ns))), some (.lst (G.map (partD ns))), some (.lst ((allRecs ns.length).map intsT)), some (.lst ((partRecs ns.length B).map intsT)), some (.lst ((partRecs ns.length G).map intsT)), some (famD ns ts A), some (famD ns ts C), r13, some (findD ns ts A C), some (.lst [stD (partRecs ns.length B).isEmpty (partRecs ns.length G).isEmpty, .bl (partRecs ns.length B).isEmpty]), o16, o17] (S15 ++ [none]) = .ok (.nx [some (.rol (zs.map D.int)), some (.int (i : Int)), some (.cell S.length), some (.tup (ns.map D.str)), some (.tup (ts.map D.str)), some (.cell q), some (.lst (B.map (partD ns))), some (.lst (G.map (partD ns))), some (.lst ((allRecs ns.length).map intsT)), some (.lst ((partRecs ns.length B).map intsT)), some (.lst ((partRecs ns.length G).map intsT)), some (famD ns ts A), some (famD ns ts C), r13, some (findD ns ts A C), some (.lst [stD (partRecs ns.length B).isEmpty (partRecs ns.length G).isEmpty, .bl (partRecs ns.length B).isEmpty]), o16, o17]) (S15 ++ [none]) := by
    have ps := prop_obj (F := F_Finding_state) (fi [some (.rol (zs.map D.int)), some (.int (i : Int)), some (.cell S.length), some (.tup (ns.map D.str)), some (.tup (ts.map D.str)), some (.cell q), some (.lst (B.map (partD ns))), some (.lst (G.map (partD ns))), some (.lst ((allRecs ns.length).map intsT)), some (.lst ((partRecs ns.length B).map intsT)), some (.lst ((partRecs ns.length G).map intsT)), some (famD ns ts A), some (famD ns ts C), r13, some (findD ns ts A C), some (.lst [stD (partRecs ns.length B).isEmpty (partRecs ns.length G).isEmpty, .bl (partRecs ns.length B).isEmpty]), o16, o17] rfl) st
    generalize stD (partRecs ns.length B).isEmpty (partRecs ns.length G).isEmpty = sd at *
    simp [-List.map_map, X15, ps, bo, l0, l1, l2, kn]
  have fp := fun t => f_pairs (ts := ts) nm h3' sb sg hne fa fg t (S15 ++ [none])
  obtain ⟨ρ', S16, e16, rfl, r16, hρ⟩ := for_evi (tg := gSet 16) (body := L_law_2) (fun j : Nat => D.int (j : Int))
    (fun n ρ S' => S' = S15 ++ [none] ∧ ∃ r16, ρ = [some (.rol (zs.map D.int)), some (.int (i : Int)), some (.cell S.length), some (.tup (ns.map D.str)), some (.tup (ts.map D.str)), some (.cell q), some (.lst (B.map (partD ns))), some (.lst (G.map (partD ns))), some (.lst ((allRecs ns.length).map intsT)), some (.lst ((partRecs ns.length B).map intsT)), some (.lst ((partRecs ns.length G).map intsT)), some (famD ns ts A), some (famD ns ts C), r13, some (findD ns ts A C), some (.lst [stD (partRecs ns.length B).isEmpty (partRecs ns.length G).isEmpty, .bl (partRecs ns.length B).isEmpty]), r16, o17])
    (List.range 2) [some (.rol (zs.map D.int)), some (.int (i : Int)), some (.cell S.length), some (.tup (ns.map D.str)), some (.tup (ts.map D.str)), some (.cell q), some (.lst (B.map (partD ns))), some (.lst (G.map (partD ns))), some (.lst ((allRecs ns.length).map intsT)), some (.lst ((partRecs ns.length B).map intsT)), some (.lst ((partRecs ns.length G).map intsT)), some (famD ns ts A), some (famD ns ts C), r13, some (findD ns ts A C), some (.lst [stD (partRecs ns.length B).isEmpty (partRecs ns.length G).isEmpty, .bl (partRecs ns.length B).isEmpty]), o16, o17] (S15 ++ [none]) ⟨rfl, o16, rfl⟩ (by
      rintro n j ρ S1 hj ⟨rfl, r16, rfl⟩
      refine ⟨_, S15 ++ [none], [some (.rol (zs.map D.int)), some (.int (i : Int)), some (.cell S.length), some (.tup (ns.map D.str)), some (.tup (ts.map D.str)), some (.cell q), some (.lst (B.map (partD ns))), some (.lst (G.map (partD ns))), some (.lst ((allRecs ns.length).map intsT)), some (.lst ((partRecs ns.length B).map intsT)), some (.lst ((partRecs ns.length G).map intsT)), some (famD ns ts A), some (famD ns ts C), r13, some (findD ns ts A C), some (.lst [stD (partRecs ns.length B).isEmpty (partRecs ns.length G).isEmpty, .bl (partRecs ns.length B).isEmpty]), some (.int (j : Int)), o17], S15 ++ [none], rfl, ?_, rfl, some (.int (j : Int)), rfl⟩
      simp [-List.map_map, L_law_2, l1, adn, fp])
  have rn := rng1_run (n := 2) (S := S15 ++ [none]) (by omega)
  have rn' : rng1 [.int 2] (S15 ++ [none]) = .ok ((List.range 2).map fun i : Nat => D.int (i : Int), none) (S15 ++ [none]) := rn
  rw [hρ] at e16
  have w16 : X16 [some (.rol (zs.map D.int)), some (.int (i : Int)), some (.cell S.length), some (.tup (ns.map D.str)), some (.tup (ts.map D.str)), some (.cell q), some (.lst (B.map (partD ns))), some (.lst (G.map (partD ns))), some (.lst ((allRecs ns.length).map intsT)), some (.lst ((partRecs ns.length B).map intsT)), some (.lst ((partRecs ns.length G).map intsT)), some (famD ns ts A), some (famD ns ts C), r13, some (findD ns ts A C), some (.lst [stD (partRecs ns.length B).isEmpty (partRecs ns.length G).isEmpty, .bl (partRecs ns.length B).isEmpty]), o16, o17] (S15 ++ [none]) = .ok (.nx [some (.rol (zs.map D.int)), some (.int (i : Int)), some (.cell S.length), some (.tup (ns.map D.str)), some (.tup (ts.map D.str)), some (.cell q), some (.lst (B.map (partD ns))), some (.lst (G.map (partD ns))), some (.lst ((allRecs ns.length).map intsT)), some (.lst ((partRecs ns.length B).map intsT)), some (.lst ((partRecs ns.length G).map intsT)), some (famD ns ts A), some (famD ns ts C), r13, some (findD ns ts A C), some (.lst [stD (partRecs ns.length B).isEmpty (partRecs ns.length G).isEmpty, .bl (partRecs ns.length B).isEmpty]), r16, o17]) (S15 ++ [none]) := by
    simp only [X16, sFor_run, cat_run, srcA_run, bind_r, aCons_run, dC_run, aNil_run, pure_r, rn', e16]
  have pb := prop_obj (F := F_Finding_least_bad) (fi [some (.rol (zs.map D.int)), some (.int (i : Int)), some (.cell S.length), some (.tup (ns.map D.str)), some (.tup (ts.map D.str)), some (.cell q), some (.lst (B.map (partD ns))), some (.lst (G.map (partD ns))), some (.lst ((allRecs ns.length).map intsT)), some (.lst ((partRecs ns.length B).map intsT)), some (.lst ((partRecs ns.length G).map intsT)), some (famD ns ts A), some (famD ns ts C), r13, some (findD ns ts A C), some (.lst [stD (partRecs ns.length B).isEmpty (partRecs ns.length G).isEmpty, .bl (partRecs ns.length B).isEmpty]), r16, o17] rfl) (f_least_bad (ts := ts) (A := A) (G := C) (by omega) (fa.ok sb) (S15 ++ [none]))
  have pg := prop_obj (F := F_Finding_least_good) (fi [some (.rol (zs.map D.int)), some (.int (i : Int)), some (.cell S.length), some (.tup (ns.map D.str)), some (.tup (ts.map D.str)), some (.cell q), some (.lst (B.map (partD ns))), some (.lst (G.map (partD ns))), some (.lst ((allRecs ns.length).map intsT)), some (.lst ((partRecs ns.length B).map intsT)), some (.lst ((partRecs ns.length G).map intsT)), some (famD ns ts A), some (famD ns ts C), r13, some (findD ns ts A C), some (.lst [stD (partRecs ns.length B).isEmpty (partRecs ns.length G).isEmpty, .bl (partRecs ns.length B).isEmpty]), r16, o17] rfl) (f_least_good (ts := ts) (A := A) (G := C) (by omega) (fg.ok sg) (S15 ++ [none]))
  rw [fa.map] at pb
  rw [fg.map] at pg
  have fb := f_first_ofL (partRecs ns.length B) (S15 ++ [none])
  have fgo := f_first_ofL (partRecs ns.length G) (S15 ++ [none])
  rw [leasts_recs0 sb.sok] at fb
  rw [leasts_recs0 sg.sok] at fgo
  have pk2 : plk 6 (.lst [oT (firstL (leastsOf ns.length B [])), oT (firstL (leastsOf ns.length G []))]) = true := by
    have a := plk_least 3 ns.length (by omega) B []
    have b := plk_least 3 ns.length (by omega) G []
    show (decide (([oT (firstL (leastsOf ns.length B [])), oT (firstL (leastsOf ns.length G []))] : List D).length ≤ 1000) && ([oT (firstL (leastsOf ns.length B [])), oT (firstL (leastsOf ns.length G []))] : List D).all (plk 5)) = true
    simp [a, b]
  have kn2 : F__law_kin [.lst [oT (firstL (leastsOf ns.length B [])), oT (firstL (leastsOf ns.length G []))], .lst [oT (firstL (leastsOf ns.length B [])), oT (firstL (leastsOf ns.length G []))]] (S15 ++ [none]) = .ok (.bl true) (S15 ++ [none]) := f_kin 6 _ _ _ (Kin.self pk2)
  generalize oT (firstL (leastsOf ns.length B [])) = ob at pb fb kn2
  generalize oT (firstL (leastsOf ns.length G [])) = og at pg fgo kn2
  have w17 : X17 [some (.rol (zs.map D.int)), some (.int (i : Int)), some (.cell S.length), some (.tup (ns.map D.str)), some (.tup (ts.map D.str)), some (.cell q), some (.lst (B.map (partD ns))), some (.lst (G.map (partD ns))), some (.lst ((allRecs ns.length).map intsT)), some (.lst ((partRecs ns.length B).map intsT)), some (.lst ((partRecs ns.length G).map intsT)), some (famD ns ts A), some (famD ns ts C), r13, some (findD ns ts A C), some (.lst [stD (partRecs ns.length B).isEmpty (partRecs ns.length G).isEmpty, .bl (partRecs ns.length B).isEmpty]), r16, o17] (S15 ++ [none]) = .ok (.nx [some (.rol (zs.map D.int)), some (.int (i : Int)), some (.cell S.length), some (.tup (ns.map D.str)), some (.tup (ts.map D.str)), some (.cell q), some (.lst (B.map (partD ns))), some (.lst (G.map (partD ns))), some (.lst ((allRecs ns.length).map intsT)), some (.lst ((partRecs ns.length B).map intsT)), some (.lst ((partRecs ns.length G).map intsT)), some (famD ns ts A), some (famD ns ts C), r13, some (findD ns ts A C), some (.lst [stD (partRecs ns.length B).isEmpty (partRecs ns.length G).isEmpty, .bl (partRecs ns.length B).isEmpty]), r16, o17]) (S15 ++ [none]) := by
    simp [-List.map_map, X17, pb, pg, fb, fgo, l1, l2, l0, kn2]
  refine ⟨S15 ++ [none], some (.cell S.length), some (.tup (ns.map D.str)), some (.tup (ts.map D.str)), some (.cell q), some (.lst (B.map (partD ns))), some (.lst (G.map (partD ns))), some (.lst ((allRecs ns.length).map intsT)), some (.lst ((partRecs ns.length B).map intsT)), some (.lst ((partRecs ns.length G).map intsT)), some (famD ns ts A), some (famD ns ts C), r13, some (findD ns ts A C), some (.lst [stD (partRecs ns.length B).isEmpty (partRecs ns.length G).isEmpty, .bl (partRecs ns.length B).isEmpty]), r16, o17, ?_⟩
  rw [X_eq, sSeq_nx w1, sSeq_nx w2, sSeq_nx w3, sSeq_nx w4, sSeq_nx w5, sSeq_nx w6, sSeq_nx w7, sSeq_nx w8, sSeq_nx w9, sSeq_nx w10, sSeq_nx w11, sSeq_nx w12, sSeq_nx w13, sSeq_nx w14, sSeq_nx w15, sSeq_nx w16]
  exact w17
end K36

/-! QS12: the law -/
namespace K36
open PySem PySem.Spec PyProof.Rows L2 DD
theorem math (zs : List Int) (hz : zs.length ≤ 63) (_ : ∀ z ∈ zs, Builtin.Int.intBits z ≤ 1048576) : ∃ S, F_law [.rol (zs.map D.int)] [] = .ok (.bl true) S := by
  have ln : ∀ S, len1 (.rol (zs.map D.int)) S = .ok (.int (zs.length : Int)) S := fun S => by
    show Out.ok (D.int ((zs.map D.int).length : Int)) S = _
    rw [List.length_map]
  obtain ⟨n, hn, e0⟩ : ∃ n : Nat, n ≤ 2 ∧ ∀ (ρ : DEnv) (S : Sto), ρ[0]? = some (some (.rol (zs.map D.int))) → (dB dMax2 (aCons (dC (.int 1)) (aCons (dB dMin2 (aCons (dC (.int 2)) (aCons (dB dLen (aCons (dVar 0) aNil)) aNil))) aNil))) ρ S = .ok (.int (n : Int)) S := by
    refine ⟨max 1 (min 2 zs.length), by omega, fun ρ S hρ => ?_⟩
    simp [hρ, ln]
    split <;> split <;> omega
  obtain ⟨ρ', S2, e, q, hρ⟩ := for_evi (tg := gSet 1) (body := L_law_3) (fun i : Nat => D.int (i : Int))
    (fun k ρ S' => ∃ o1 o2 o3 o4 o5 o6 o7 o8 o9 o10 o11 o12 o13 o14 o15 o16 o17, ρ = [some (.rol (zs.map D.int)), o1, o2, o3, o4, o5, o6, o7, o8, o9, o10, o11, o12, o13, o14, o15, o16, o17])
    (List.range n) [some (.rol (zs.map D.int)), none, none, none, none, none, none, none, none, none, none, none, none, none, none, none, none, none] [] ⟨none, none, none, none, none, none, none, none, none, none, none, none, none, none, none, none, none, rfl⟩ (by
      rintro k0 k ρ S1 ha ⟨o1, o2, o3, o4, o5, o6, o7, o8, o9, o10, o11, o12, o13, o14, o15, o16, o17, rfl⟩
      obtain ⟨hk, rfl⟩ := range_get ha
      obtain ⟨S2, p2, p3, p4, p5, p6, p7, p8, p9, p10, p11, p12, p13, p14, p15, p16, p17, e⟩ := l_turn hz (i := k) (by omega) S1 o2 o3 o4 o5 o6 o7 o8 o9 o10 o11 o12 o13 o14 o15 o16 o17
      exact ⟨_, S1, _, S2, rfl, e, some (.int (k : Int)), p2, p3, p4, p5, p6, p7, p8, p9, p10, p11, p12, p13, p14, p15, p16, p17, rfl⟩)
  have rn : ∀ S, rng1 [.int (n : Int)] S = .ok ((List.range n).map fun i : Nat => D.int (i : Int), none) S := fun S => rng1_run (by omega)
  refine ⟨S2, ?_⟩
  have s1 : (sFor (srcA rng1 (aCons (dB dMax2 (aCons (dC (.int 1)) (aCons (dB dMin2 (aCons (dC (.int 2)) (aCons (dB dLen (aCons (dVar 0) aNil)) aNil))) aNil))) aNil)) (gSet 1) L_law_3) [some (.rol (zs.map D.int)), none, none, none, none, none, none, none, none, none, none, none, none, none, none, none, none, none] [] = .ok (.nx ρ') S2 := by
    rw [sFor_run, cat_run, srcA_run, bind_r, aCons_run, bind_r, e0 _ _ rfl]
    simp only [aNil_run, bind_r, pure_r, rn, e]
  unfold F_law
  rw [runF_run', bind_r, nx_run]
  have st : startD 18 [D.rol (zs.map D.int)] = [some (.rol (zs.map D.int)), none, none, none, none, none, none, none, none, none, none, none, none, none, none, none, none, none] := rfl
  rw [st]
  unfold B_law
  rw [sSeq_nx s1]
  simp
end K36

namespace K36
open PySem PySem.Spec PyProof.Rows L2 DD
theorem room65 {k : Nat} {A : Around} (r : Room k A) : A.units + 65 < cLine := by
  have := r.un
  omega
def top (i : Nat) : Stmt := PySem.Challenge.pw_unknowntakes_k36_loosest_facts_of_small.main.body.getD i (.Pass ⟨0, 0, 0, 0⟩)
def st__law_pit : Stmt := (top 78)
def st__law_hoist : Stmt := (top 79)
def st__law_call_names : Stmt := (top 81)
def st__law_drawn_fact : Stmt := (top 84)
def st__law_closed : Stmt := (top 82)
def st__law_numbered : Stmt := (top 83)
def st__law_split : Stmt := (top 89)
def st__law_caps : Stmt := (top 93)
def st__law_two_sides : Stmt := (top 90)
def st__law_some_facts : Stmt := (top 92)
def st__law_doubled : Stmt := (top 94)
def st__law_all_recordings : Stmt := (top 86)
def st__law_keeps : Stmt := (top 85)
def st__law_in_parts : Stmt := (top 91)
def st_check_like : Stmt := (top 57)
def st_Family___init__ : Stmt := (inClass (top 66) 0)
def st_check_families : Stmt := (top 64)
def st_Family___or__ : Stmt := (inClass (top 66) 8)
def st_is_name : Stmt := (top 34)
def st_is_mark_at : Stmt := (top 35)
def st_is_integer : Stmt := (top 33)
def st_is_fact : Stmt := (top 36)
def st_check_sheet : Stmt := (top 45)
def st_is_less : Stmt := (top 5)
def st_summed : Stmt := (top 3)
def st_lesser : Stmt := (top 4)
def st_narrowed : Stmt := (top 7)
def st_narrowed_by : Stmt := (top 8)
def st_open_bounds : Stmt := (top 6)
def st_number_of : Stmt := (top 37)
def st_numbered : Stmt := (top 38)
def st_first_ways : Stmt := (top 40)
def st_way_sum : Stmt := (top 41)
def st_better_way : Stmt := (top 42)
def st_joined_way : Stmt := (top 43)
def st_ways_by : Stmt := (top 44)
def st_Sheet___init__ : Stmt := (inClass (top 55) 0)
def st__law_family : Stmt := (top 88)
def st_Finding___init__ : Stmt := (inClass (top 72) 0)
def st__law_kin : Stmt := (top 80)
def st_state_in : Stmt := (top 71)
def st_Finding_state : Stmt := (inClass (top 72) 1)
def st_Finding___bool__ : Stmt := (inClass (top 72) 4)
def st__law_first_of : Stmt := (top 87)
def st__law_loosest_due : Stmt := (top 95)
def st_sheet_in : Stmt := (top 74)
def st_check_known : Stmt := (top 56)
def st_tables_of : Stmt := (top 62)
def st_rank : Stmt := (top 10)
def st_least_recording : Stmt := (top 11)
def st_least_numbers : Stmt := (top 9)
def st_least_with : Stmt := (top 75)
def st_loosest : Stmt := (top 76)
def st__law_pairs_right : Stmt := (top 96)
def st_Family_least : Stmt := (inClass (top 66) 1)
def st_Finding_least_bad : Stmt := (inClass (top 72) 2)
def st_Finding_least_good : Stmt := (inClass (top 72) 3)
def st_law : Stmt := (top 97)
structure Txt (K : PySem.W.Frag) (mg : Str → Option Value) (ca : Nat → Addr) : Prop where
  z_abs : mg ("abs" : Str) = none
  z_all : mg ("all" : Str) = none
  z_bool : mg ("bool" : Str) = none
  z_enumerate : mg ("enumerate" : Str) = none
  z_int : mg ("int" : Str) = none
  z_isinstance : mg ("isinstance" : Str) = none
  z_len : mg ("len" : Str) = none
  z_list : mg ("list" : Str) = none
  z_max : mg ("max" : Str) = none
  z_min : mg ("min" : Str) = none
  z_range : mg ("range" : Str) = none
  z_str : mg ("str" : Str) = none
  z_sum : mg ("sum" : Str) = none
  z_tuple : mg ("tuple" : Str) = none
  z_zip : mg ("zip" : Str) = none
  c_LETTERS : Cst mg ("LETTERS" : Str) (.str ("abcdefghijklmnopqrstuvwxyzABCDEFGHIJKLMNOPQRSTUVWXYZ" : Str))
  c_LONGEST : Cst mg ("LONGEST" : Str) (.int (8))
  c_NEVER : Cst mg ("NEVER" : Str) (.str ("never" : Str))
  c_NOUGHT : Cst mg ("NOUGHT" : Str) (.str ("zero" : Str))
  c_OPEN : Cst mg ("OPEN" : Str) (.str ("open" : Str))
  c_SURE : Cst mg ("SURE" : Str) (.str ("sure" : Str))
  c_ZERO : Cst mg ("ZERO" : Str) (.int (0))
  d__law_pit : Def K mg ("_law_pit" : Str) st__law_pit [("script" : Str), ("at" : Str)]
  d__law_hoist : Def K mg ("_law_hoist" : Str) st__law_hoist [("pit" : Str), ("below" : Str)]
  d__law_call_names : Def K mg ("_law_call_names" : Str) st__law_call_names [("pit" : Str), ("many" : Str)]
  d__law_drawn_fact : Def K mg ("_law_drawn_fact" : Str) st__law_drawn_fact [("pit" : Str), ("marks_here" : Str), ("far" : Str)]
  d__law_closed : Def K mg ("_law_closed" : Str) st__law_closed [("many" : Str), ("facts_here" : Str)]
  d__law_numbered : Def K mg ("_law_numbered" : Str) st__law_numbered [("marks_here" : Str), ("facts_here" : Str)]
  d__law_split : Def K mg ("_law_split" : Str) st__law_split [("pit" : Str), ("ms" : Str), ("fs" : Str), ("turns" : Str), ("far" : Str)]
  d__law_caps : Def K mg ("_law_caps" : Str) st__law_caps [("ms" : Str), ("cap" : Str)]
  d__law_two_sides : Def K mg ("_law_two_sides" : Str) st__law_two_sides [("pit" : Str), ("some" : Str)]
  d__law_some_facts : Def K mg ("_law_some_facts" : Str) st__law_some_facts [("pit" : Str), ("ms" : Str), ("fs" : Str), ("most" : Str), ("far" : Str)]
  d__law_doubled : Def K mg ("_law_doubled" : Str) st__law_doubled [("pit" : Str), ("ms" : Str), ("side" : Str)]
  d__law_all_recordings : Def K mg ("_law_all_recordings" : Str) st__law_all_recordings [("many" : Str), ("cap" : Str)]
  d__law_keeps : Def K mg ("_law_keeps" : Str) st__law_keeps [("marks_here" : Str), ("facts_here" : Str), ("places" : Str)]
  d__law_in_parts : Def K mg ("_law_in_parts" : Str) st__law_in_parts [("ms" : Str), ("some" : Str), ("rows" : Str)]
  d_check_like : Def K mg ("check_like" : Str) st_check_like [("first" : Str), ("second" : Str)]
  i_Family_s : DefIS K mg ca 1 ("Family" : Str) ("Family.__init__" : Str) st_Family___init__ ("sheets" : Str)
  d_check_families : Def K mg ("check_families" : Str) st_check_families [("first" : Str), ("second" : Str)]
  m_Family___or__ : DefM K ca 1 ("__or__" : Str) ("Family.__or__" : Str) st_Family___or__ [("self" : Str), ("other" : Str)]
  d_is_name : Def K mg ("is_name" : Str) st_is_name [("value" : Str)]
  d_is_mark_at : Def K mg ("is_mark_at" : Str) st_is_mark_at [("marks" : Str), ("index" : Str)]
  d_is_integer : Def K mg ("is_integer" : Str) st_is_integer [("value" : Str)]
  d_is_fact : Def K mg ("is_fact" : Str) st_is_fact [("nodes" : Str), ("value" : Str)]
  d_check_sheet : Def K mg ("check_sheet" : Str) st_check_sheet [("marks" : Str), ("takes" : Str), ("facts" : Str)]
  d_is_less : Def K mg ("is_less" : Str) st_is_less [("first" : Str), ("second" : Str)]
  d_summed : Def K mg ("summed" : Str) st_summed [("first" : Str), ("second" : Str)]
  d_lesser : Def K mg ("lesser" : Str) st_lesser [("first" : Str), ("second" : Str)]
  d_narrowed : Def K mg ("narrowed" : Str) st_narrowed [("bounds" : Str), ("x" : Str), ("y" : Str), ("number" : Str)]
  d_narrowed_by : Def K mg ("narrowed_by" : Str) st_narrowed_by [("bounds" : Str), ("facts" : Str)]
  d_open_bounds : Def K mg ("open_bounds" : Str) st_open_bounds [("many" : Str)]
  d_number_of : Def K mg ("number_of" : Str) st_number_of [("nodes" : Str), ("name" : Str)]
  d_numbered : Def K mg ("numbered" : Str) st_numbered [("nodes" : Str), ("facts" : Str)]
  d_first_ways : Def K mg ("first_ways" : Str) st_first_ways [("nodes" : Str)]
  d_way_sum : Def K mg ("way_sum" : Str) st_way_sum [("way" : Str)]
  d_better_way : Def K mg ("better_way" : Str) st_better_way [("old" : Str), ("new" : Str)]
  d_joined_way : Def K mg ("joined_way" : Str) st_joined_way [("ahead" : Str), ("fact" : Str), ("behind" : Str)]
  d_ways_by : Def K mg ("ways_by" : Str) st_ways_by [("nodes" : Str), ("facts" : Str)]
  i_Sheet_3 : DefI K mg ca 0 ("Sheet" : Str) ("Sheet.__init__" : Str) st_Sheet___init__ [("self" : Str), ("marks" : Str), ("takes" : Str), ("facts" : Str)] []
  i_Sheet_2 : DefI K mg ca 0 ("Sheet" : Str) ("Sheet.__init__" : Str) st_Sheet___init__ [("self" : Str), ("marks" : Str), ("takes" : Str), ("facts" : Str)] [.tup []]
  d__law_family : Def K mg ("_law_family" : Str) st__law_family [("marks_here" : Str), ("takes_here" : Str), ("some" : Str)]
  i_Finding_2 : DefI K mg ca 2 ("Finding" : Str) ("Finding.__init__" : Str) st_Finding___init__ [("self" : Str), ("bad" : Str), ("good" : Str)] []
  d__law_kin : Def K mg ("_law_kin" : Str) st__law_kin [("found" : Str), ("due" : Str)]
  d_state_in : Def K mg ("state_in" : Str) st_state_in [("bad" : Str), ("good" : Str)]
  p_Finding_state : DefP K ca 2 ("state" : Str) ("Finding.state" : Str) st_Finding_state
  m_Finding___bool__ : DefM K ca 2 ("__bool__" : Str) ("Finding.__bool__" : Str) st_Finding___bool__ [("self" : Str)]
  d__law_first_of : Def K mg ("_law_first_of" : Str) st__law_first_of [("some" : Str)]
  d__law_loosest_due : Def K mg ("_law_loosest_due" : Str) st__law_loosest_due [("bad_rows" : Str), ("good_rows" : Str), ("k" : Str), ("j" : Str)]
  d_sheet_in : Def K mg ("sheet_in" : Str) st_sheet_in [("finding" : Str)]
  d_check_known : Def K mg ("check_known" : Str) st_check_known [("nodes" : Str), ("names" : Str)]
  d_tables_of : Def K mg ("tables_of" : Str) st_tables_of [("family" : Str)]
  d_rank : Def K mg ("rank" : Str) st_rank [("numbers" : Str)]
  d_least_recording : Def K mg ("least_recording" : Str) st_least_recording [("some" : Str)]
  d_least_numbers : Def K mg ("least_numbers" : Str) st_least_numbers [("bounds" : Str)]
  d_least_with : Def K mg ("least_with" : Str) st_least_with [("some" : Str), ("facts" : Str)]
  d_loosest : Def K mg ("loosest" : Str) st_loosest [("finding" : Str), ("x" : Str), ("y" : Str)]
  d__law_pairs_right : Def K mg ("_law_pairs_right" : Str) st__law_pairs_right [("inquiry" : Str), ("nodes" : Str), ("bad_rows" : Str), ("good_rows" : Str), ("turn" : Str)]
  p_Family_least : DefP K ca 1 ("least" : Str) ("Family.least" : Str) st_Family_least
  p_Finding_least_bad : DefP K ca 2 ("least_bad" : Str) ("Finding.least_bad" : Str) st_Finding_least_bad
  p_Finding_least_good : DefP K ca 2 ("least_good" : Str) ("Finding.least_good" : Str) st_Finding_least_good
  d_law : Def K mg ("law" : Str) st_law [("script" : Str)]
  sf1 : PySem.W.selfFirst K (ca 1) = true
  cls0 : Cls K (ca 0)
  cls1 : Cls K (ca 1)
  cls2 : Cls K (ca 2)
  no0_bounds : NoAttr K (ca 0) ("bounds" : Str)
  no0_facts : NoAttr K (ca 0) ("facts" : Str)
  no0_marks : NoAttr K (ca 0) ("marks" : Str)
  no0_nodes : NoAttr K (ca 0) ("nodes" : Str)
  no0_takes : NoAttr K (ca 0) ("takes" : Str)
  no1_parts : NoAttr K (ca 1) ("parts" : Str)
  no2_bad : NoAttr K (ca 2) ("bad" : Str)
  no2_good : NoAttr K (ca 2) ("good" : Str)
section
variable {P : Program} {w : World} {K : PySem.W.Frag} {mg : Str → Option Value} {base : Heap} {ca : Nat → Addr}
/-! ### _law_pit -/
abbrev N__law_pit : List Str := [("script" : Str), ("at" : Str), ("cell" : Str)]
theorem sc__law_pit : FnScope N__law_pit [("script" : Str), ("at" : Str)] (defScope st__law_pit) := ⟨rfl, rfl, rfl, by decide +kernel, rfl, by decide +kernel, by decide +kernel⟩
theorem body__law_pit (T : Txt K mg ca) (f : Addr) (cdv : Value) (A : Around) (outer : List Env) (s : Shared) (H : Hp) (E : XK) (hr : Room 0 (cxD P w K mg base N__law_pit ("_law_pit" : Str) (defScope st__law_pit) f cdv A outer s H E).A) (tk : Takes (cxD P w K mg base N__law_pit ("_law_pit" : Str) (defScope st__law_pit) f cdv A outer s H E) (wD E))
    (hp : PassesOwn (model P w) (cxD P w K mg base N__law_pit ("_law_pit" : Str) (defScope st__law_pit) f cdv A outer s H E).A (cxD P w K mg base N__law_pit ("_law_pit" : Str) (defScope st__law_pit) f cdv A outer s H E).env (cxD P w K mg base N__law_pit ("_law_pit" : Str) (defScope st__law_pit) f cdv A outer s H E).xe) :
    PSs (cxD P w K mg base N__law_pit ("_law_pit" : Str) (defScope st__law_pit) f cdv A outer s H E) (defBody st__law_pit) (tS ⟨K, ca⟩ (wD E) (B__law_pit)) := by
  have nd := (sc__law_pit).nd
  exact (sd_seq (sd_set 2 nd (pd_if (td_cmp op_lt lt_s (pd_var 1) (pd_callB call_len len_s T.z_len rfl (ad_cons (pd_var 0) ad_nil))) (pd_ix (pd_var 0) (pd_var 1)) pd_int))
  (sd_one (sd_ret (pd_lstC (ad_cons (pd_callB (call_max2 rfl) i2_s T.z_max rfl (ad_cons pd_int (ad_cons (pd_op op_sub sub_s (pd_callB call_abs abs_s T.z_abs rfl (ad_cons (pd_var 2) ad_nil)) (pd_op op_powD pow_s pd_int pd_int)) ad_nil))) (ad_cons (pd_op op_addD add_s (pd_op op_addD add_s (pd_op op_mulW mul_s (pd_op op_mod mod_s (pd_callTy call_int1 int_s T.z_int rfl (ad_cons (pd_var 2) ad_nil)) (pd_op op_addD add_s (pd_op op_powD pow_s pd_int pd_int) pd_int)) pd_int) (pd_op op_mulW mul_s pd_int (pd_var 1))) pd_int) (ad_cons pd_int ad_nil)))))))
theorem has__law_pit (T : Txt K mg ca) : Has P w K mg base ca 1 ("_law_pit" : Str) 2 F__law_pit := T.d__law_pit.has sc__law_pit rfl (body__law_pit T)
/-! ### _law_hoist -/
abbrev N__law_hoist : List Str := [("pit" : Str), ("below" : Str), ("digit" : Str), ("swill" : Str)]
theorem sc__law_hoist : FnScope N__law_hoist [("pit" : Str), ("below" : Str)] (defScope st__law_hoist) := ⟨rfl, rfl, rfl, by decide +kernel, rfl, by decide +kernel, by decide +kernel⟩
theorem body__law_hoist (T : Txt K mg ca) (f : Addr) (cdv : Value) (A : Around) (outer : List Env) (s : Shared) (H : Hp) (E : XK) (hr : Room 0 (cxD P w K mg base N__law_hoist ("_law_hoist" : Str) (defScope st__law_hoist) f cdv A outer s H E).A) (tk : Takes (cxD P w K mg base N__law_hoist ("_law_hoist" : Str) (defScope st__law_hoist) f cdv A outer s H E) (wD E))
    (hp : PassesOwn (model P w) (cxD P w K mg base N__law_hoist ("_law_hoist" : Str) (defScope st__law_hoist) f cdv A outer s H E).A (cxD P w K mg base N__law_hoist ("_law_hoist" : Str) (defScope st__law_hoist) f cdv A outer s H E).env (cxD P w K mg base N__law_hoist ("_law_hoist" : Str) (defScope st__law_hoist) f cdv A outer s H E).xe) :
    PSs (cxD P w K mg base N__law_hoist ("_law_hoist" : Str) (defScope st__law_hoist) f cdv A outer s H E) (defBody st__law_hoist) (tS ⟨K, ca⟩ (wD E) (B__law_hoist)) := by
  have nd := (sc__law_hoist).nd
  exact (sd_seq (sd_if (td_cmp op_gt gt_s (pd_ix (pd_var 0) pd_int) pd_int)
  (sd_seq (sd_set 2 nd (pd_op op_mod mod_s (pd_callTy call_int1 int_s T.z_int rfl (ad_cons (pd_ix (pd_var 0) pd_int) ad_nil)) (pd_var 1)))
  (sd_seq (sd_asg (pd_op op_fdivW fdiv_s (pd_ix (pd_var 0) pd_int) (pd_var 1)) (gd_sub (pd_var 0) pd_int))
  (sd_one (sd_ret (pd_var 2)))))
  sd_nil)
  (sd_seq (sd_asg (pd_op op_addD add_s (pd_ix (pd_var 0) pd_int) pd_int) (gd_sub (pd_var 0) pd_int))
  (sd_seq (sd_set 3 nd (pd_op op_mod mod_s (pd_op op_powD pow_s (pd_callTy call_int1 int_s T.z_int rfl (ad_cons (pd_op op_addD add_s (pd_ix (pd_var 0) pd_int) (pd_op op_mulW mul_s pd_int (pd_ix (pd_var 0) pd_int))) ad_nil)) pd_int) (pd_op op_addD add_s (pd_op op_powD pow_s pd_int pd_int) pd_int)))
  (sd_seq (sd_set 3 nd (pd_op op_mod mod_s (pd_op op_powD pow_s (pd_callTy call_int1 int_s T.z_int rfl (ad_cons (pd_op op_addD add_s (pd_var 3) (pd_op op_mulW mul_s pd_int (pd_ix (pd_var 0) pd_int))) ad_nil)) pd_int) (pd_op op_addD add_s (pd_op op_powD pow_s pd_int pd_int) pd_int)))
  (sd_one (sd_ret (pd_op op_mod mod_s (pd_op op_fdivW fdiv_s (pd_var 3) pd_int) (pd_var 1))))))))
theorem has__law_hoist (T : Txt K mg ca) : Has P w K mg base ca 1 ("_law_hoist" : Str) 2 F__law_hoist := T.d__law_hoist.has sc__law_hoist rfl (body__law_hoist T)
/-! ### _law_call_names -/
abbrev N__law_call_names : List Str := [("pit" : Str), ("many" : Str), ("signs" : Str), ("found" : Str), ("k" : Str), ("size" : Str), ("way" : Str), ("letter" : Str), ("name_here" : Str), ("old" : Str), ("spare" : Str), ("turn" : Str), ("mate" : Str)]
theorem sc__law_call_names : FnScope N__law_call_names [("pit" : Str), ("many" : Str)] (defScope st__law_call_names) := ⟨rfl, rfl, rfl, by decide +kernel, rfl, by decide +kernel, by decide +kernel⟩
theorem body__law_call_names (T : Txt K mg ca) (f : Addr) (cdv : Value) (A : Around) (outer : List Env) (s : Shared) (H : Hp) (E : XK) (hr : Room 1 (cxD P w K mg base N__law_call_names ("_law_call_names" : Str) (defScope st__law_call_names) f cdv A outer s H E).A) (tk : Takes (cxD P w K mg base N__law_call_names ("_law_call_names" : Str) (defScope st__law_call_names) f cdv A outer s H E) (wD E))
    (hp : PassesOwn (model P w) (cxD P w K mg base N__law_call_names ("_law_call_names" : Str) (defScope st__law_call_names) f cdv A outer s H E).A (cxD P w K mg base N__law_call_names ("_law_call_names" : Str) (defScope st__law_call_names) f cdv A outer s H E).env (cxD P w K mg base N__law_call_names ("_law_call_names" : Str) (defScope st__law_call_names) f cdv A outer s H E).xe) :
    PSs (cxD P w K mg base N__law_call_names ("_law_call_names" : Str) (defScope st__law_call_names) f cdv A outer s H E) (defBody st__law_call_names) (tS ⟨K, ca⟩ (wD E) (B__law_call_names)) := by
  have nd := (sc__law_call_names).nd
  exact (sd_seq (sd_asg (pd_tup (ad_cons pd_str (ad_cons (pd_lstC ad_nil) ad_nil))) (gd_tup rfl (gsd_cons (gd_name 2 nd) (gsd_cons (gd_name 3 nd) gsd_nil))))
  (sd_seq (sd_for hp rfl (id_range1 T.z_range (ad_cons (pd_var 1) ad_nil)) (gd_name 4 nd)
  (sd_seq (sd_par 5 6 rfl nd (ad_cons (pd_ix (pd_lst (ad_cons pd_int (ad_cons pd_int (ad_cons pd_int (ad_cons (pd_fn (Has.mono (has__law_hoist T) (by first | decide | exact Nat.le_refl _)) hr tk (ad_cons (pd_var 0) (ad_cons pd_int ad_nil))) ad_nil))))) (pd_fn (Has.mono (has__law_hoist T) (by first | decide | exact Nat.le_refl _)) hr tk (ad_cons (pd_var 0) (ad_cons pd_int ad_nil)))) (ad_cons (pd_fn (Has.mono (has__law_hoist T) (by first | decide | exact Nat.le_refl _)) hr tk (ad_cons (pd_var 0) (ad_cons pd_int ad_nil))) ad_nil)))
  (sd_seq (sd_set 7 nd (pd_ix (pd_var 2) (pd_fn (Has.mono (has__law_hoist T) (by first | decide | exact Nat.le_refl _)) hr tk (ad_cons (pd_var 0) (ad_cons pd_int ad_nil)))))
  (sd_seq (sd_set 8 nd (pd_op op_addD add_s (pd_var 7) (pd_mt PySem.F.plainAttrs_str PySem.F.slot_str_join PySem.F.type_str_join mt_join join_s pd_str (ad_cons (pd_lc rfl nd (id_range1 T.z_range (ad_cons (pd_var 5) ad_nil)) (blkOk_by (own := [(("turn" : Str), 11)]) (by kernel_rfl)) (fun _ _ _ _ _ => (gd_name 11 nd)) (by decide) (fun _ _ _ _ _ => tsd_nil) (fun _ _ _ _ _ => (pd_ix (pd_var 2) (pd_fn (Has.mono (has__law_hoist T) (by first | decide | exact Nat.le_refl _)) hr takes0 (ad_cons (pd_var 0) (ad_cons pd_int ad_nil)))))) ad_nil))))
  (sd_seq (sd_if (PW.pt (wd_and (td_cmp (op_neD hr.units) ne_s (pd_var 3) (pd_lst ad_nil)) (wd_and1 (td_cmp op_lt lt_s (pd_var 6) pd_int))))
  (sd_seq (sd_set 9 nd (pd_ix (pd_var 3) (pd_un un_neg neg_s pd_int)))
  (sd_one (sd_set 8 nd (pd_ix (pd_lst (ad_cons (pd_op op_addD add_s (pd_slice (pd_var 9) od_none (od_some pd_int)) (pd_var 7)) (ad_cons (pd_op op_addD add_s (pd_slice (pd_var 9) od_none (od_some (pd_un un_neg neg_s pd_int))) (pd_var 7)) (ad_cons (pd_op op_addD add_s (pd_op op_addD add_s (pd_slice (pd_var 9) od_none (od_some pd_int)) (pd_var 7)) (pd_slice (pd_var 9) (od_some pd_int) od_none)) ad_nil)))) (pd_var 6)))))
  sd_nil)
  (sd_seq (sd_if (PW.pt (wd_or (td_cmp (op_inA (room65 hr)) in_s (pd_var 8) (pd_var 3)) (wd_or1 (td_cmp (op_eqD hr.units) eq_s (pd_var 8) pd_str))))
  (sd_seq (sd_setLc 10 rfl nd (id_range1 T.z_range (ad_cons pd_int ad_nil)) (blkOk_by (own := [(("turn" : Str), 11)]) (by kernel_rfl)) (fun _ _ _ _ _ => (gd_name 11 nd)) (by decide) (fun _ _ _ _ _ => tsd_nil) (fun _ _ _ _ _ => (pd_op op_addD add_s (pd_ix (pd_var 2) (pd_op op_addD add_s (pd_op op_mulW mul_s pd_int (pd_var 4)) (pd_var 11))) pd_str)))
  (sd_one (sd_set 8 nd (pd_ix (pd_lc rfl nd (id_seq (pd_var 10)) (blkOk_by (own := [(("mate" : Str), 12)]) (by kernel_rfl)) (fun _ _ _ _ _ => (gd_name 12 nd)) (by decide) (fun _ _ _ _ _ => (tsd_one (td_cmp (op_notInA (room65 hr)) in_s (pd_var 12) (pd_var 3)))) (fun _ _ _ _ _ => (pd_var 12))) pd_int))))
  sd_nil)
  (sd_one (sd_expr (pd_mt PySem.F.plainAttrs_list PySem.F.slot_list_append PySem.F.type_list_append mt_append append_s (pd_var 3) (ad_cons (pd_var 8) ad_nil))))))))))
  (sd_one (sd_ret (pd_callTy call_tuple_of tupOf_s T.z_tuple rfl (ad_cons (pd_var 3) ad_nil))))))
theorem has__law_call_names (T : Txt K mg ca) : Has P w K mg base ca 2 ("_law_call_names" : Str) 2 F__law_call_names := T.d__law_call_names.has sc__law_call_names rfl (body__law_call_names T)
/-! ### _law_drawn_fact -/
abbrev N__law_drawn_fact : List Str := [("pit" : Str), ("marks_here" : Str), ("far" : Str), ("nodes" : Str), ("k" : Str), ("step_here" : Str), ("sum_here" : Str)]
theorem sc__law_drawn_fact : FnScope N__law_drawn_fact [("pit" : Str), ("marks_here" : Str), ("far" : Str)] (defScope st__law_drawn_fact) := ⟨rfl, rfl, rfl, by decide +kernel, rfl, by decide +kernel, by decide +kernel⟩
theorem body__law_drawn_fact (T : Txt K mg ca) (f : Addr) (cdv : Value) (A : Around) (outer : List Env) (s : Shared) (H : Hp) (E : XK) (hr : Room 1 (cxD P w K mg base N__law_drawn_fact ("_law_drawn_fact" : Str) (defScope st__law_drawn_fact) f cdv A outer s H E).A) (tk : Takes (cxD P w K mg base N__law_drawn_fact ("_law_drawn_fact" : Str) (defScope st__law_drawn_fact) f cdv A outer s H E) (wD E))
    (hp : PassesOwn (model P w) (cxD P w K mg base N__law_drawn_fact ("_law_drawn_fact" : Str) (defScope st__law_drawn_fact) f cdv A outer s H E).A (cxD P w K mg base N__law_drawn_fact ("_law_drawn_fact" : Str) (defScope st__law_drawn_fact) f cdv A outer s H E).env (cxD P w K mg base N__law_drawn_fact ("_law_drawn_fact" : Str) (defScope st__law_drawn_fact) f cdv A outer s H E).xe) :
    PSs (cxD P w K mg base N__law_drawn_fact ("_law_drawn_fact" : Str) (defScope st__law_drawn_fact) f cdv A outer s H E) (defBody st__law_drawn_fact) (tS ⟨K, ca⟩ (wD E) (B__law_drawn_fact)) := by
  have nd := (sc__law_drawn_fact).nd
  exact (sd_seq (sd_set 3 nd (pd_op op_addD add_s (pd_tup (ad_cons pd_str ad_nil)) (pd_var 1)))
  (sd_seq (sd_par 4 5 rfl nd (ad_cons (pd_fn (Has.mono (has__law_hoist T) (by first | decide | exact Nat.le_refl _)) hr tk (ad_cons (pd_var 0) (ad_cons (pd_callB call_len len_s T.z_len rfl (ad_cons (pd_var 3) ad_nil)) ad_nil))) (ad_cons (pd_op op_addD add_s pd_int (pd_fn (Has.mono (has__law_hoist T) (by first | decide | exact Nat.le_refl _)) hr tk (ad_cons (pd_var 0) (ad_cons (pd_op op_sub sub_s (pd_callB call_len len_s T.z_len rfl (ad_cons (pd_var 3) ad_nil)) pd_int) ad_nil)))) ad_nil)))
  (sd_seq (sd_set 6 nd (pd_op op_sub sub_s (pd_fn (Has.mono (has__law_hoist T) (by first | decide | exact Nat.le_refl _)) hr tk (ad_cons (pd_var 0) (ad_cons (pd_op op_addD add_s (pd_op op_mulW mul_s pd_int (pd_var 2)) pd_int) ad_nil))) (pd_var 2)))
  (sd_one (sd_ret (pd_tup (ad_cons (pd_ix (pd_var 3) (pd_var 4)) (ad_cons (pd_ix (pd_var 3) (pd_op op_mod mod_s (pd_op op_addD add_s (pd_var 4) (pd_var 5)) (pd_callB call_len len_s T.z_len rfl (ad_cons (pd_var 3) ad_nil)))) (ad_cons (pd_var 6) ad_nil)))))))))
theorem has__law_drawn_fact (T : Txt K mg ca) : Has P w K mg base ca 2 ("_law_drawn_fact" : Str) 3 F__law_drawn_fact := T.d__law_drawn_fact.has sc__law_drawn_fact rfl (body__law_drawn_fact T)
/-! ### _law_closed -/
abbrev N__law_closed : List Str := [("many" : Str), ("facts_here" : Str), ("size" : Str), ("rows" : Str), ("ax" : Str), ("by" : Str), ("sum_here" : Str), ("mid" : Str), ("far" : Str)]
theorem sc__law_closed : FnScope N__law_closed [("many" : Str), ("facts_here" : Str)] (defScope st__law_closed) := ⟨rfl, rfl, rfl, by decide +kernel, rfl, by decide +kernel, by decide +kernel⟩
theorem body__law_closed (T : Txt K mg ca) (f : Addr) (cdv : Value) (A : Around) (outer : List Env) (s : Shared) (H : Hp) (E : XK) (hr : Room 0 (cxD P w K mg base N__law_closed ("_law_closed" : Str) (defScope st__law_closed) f cdv A outer s H E).A) (tk : Takes (cxD P w K mg base N__law_closed ("_law_closed" : Str) (defScope st__law_closed) f cdv A outer s H E) (wD E))
    (hp : PassesOwn (model P w) (cxD P w K mg base N__law_closed ("_law_closed" : Str) (defScope st__law_closed) f cdv A outer s H E).A (cxD P w K mg base N__law_closed ("_law_closed" : Str) (defScope st__law_closed) f cdv A outer s H E).env (cxD P w K mg base N__law_closed ("_law_closed" : Str) (defScope st__law_closed) f cdv A outer s H E).xe) :
    PSs (cxD P w K mg base N__law_closed ("_law_closed" : Str) (defScope st__law_closed) f cdv A outer s H E) (defBody st__law_closed) (tS ⟨K, ca⟩ (wD E) (B__law_closed)) := by
  have nd := (sc__law_closed).nd
  exact (sd_seq (sd_set 2 nd (pd_op op_addD add_s (pd_var 0) pd_int))
  (sd_seq (sd_set 3 nd (pd_lc rfl nd (id_range1 T.z_range (ad_cons (pd_var 2) ad_nil)) (blkOk_by (own := [(("ax" : Str), 4)]) (by kernel_rfl)) (fun _ _ _ _ _ => (gd_name 4 nd)) (by decide) (fun _ _ _ _ _ => tsd_nil) (fun _ _ _ _ _ => (pd_lcC rfl nd (id_range1 T.z_range (ad_cons (pd_var 2) ad_nil)) (blkOk_by (own := [(("by" : Str), 5)]) (by kernel_rfl)) (fun _ _ _ _ _ => (gd_name 5 nd)) (by decide) (fun _ _ _ _ _ => tsd_nil) (fun _ _ _ _ _ => (pd_if (td_cmp (op_inA (room65 hr)) in_s (pd_var 4) (pd_tup (ad_cons pd_int (ad_cons (pd_var 5) ad_nil)))) pd_int pd_non))))))
  (sd_seq (sd_for hp rfl (id_seq (pd_var 1)) (gd_tup rfl (gsd_cons (gd_name 4 nd) (gsd_cons (gd_name 5 nd) (gsd_cons (gd_name 6 nd) gsd_nil))))
  (sd_one (sd_if (PW.pt (wd_or (td_isN (pd_ix (pd_ix (pd_var 3) (pd_var 4)) (pd_var 5))) (wd_or1 (td_cmp op_lt lt_s (pd_var 6) (pd_ix (pd_ix (pd_var 3) (pd_var 4)) (pd_var 5))))))
  (sd_one (sd_asg (pd_var 6) (gd_sub (pd_ix (pd_var 3) (pd_var 4)) (pd_var 5))))
  sd_nil)))
  (sd_seq (sd_for hp rfl (id_range1 T.z_range (ad_cons (pd_var 2) ad_nil)) (gd_name 7 nd)
  (sd_one (sd_for hp rfl (id_range1 T.z_range (ad_cons (pd_var 2) ad_nil)) (gd_name 4 nd)
  (sd_one (sd_for hp rfl (id_range1 T.z_range (ad_cons (pd_var 2) ad_nil)) (gd_name 5 nd)
  (sd_one (sd_if (PW.pt (wd_and (td_notN (pd_ix (pd_ix (pd_var 3) (pd_var 4)) (pd_var 7))) (wd_and1 (td_notN (pd_ix (pd_ix (pd_var 3) (pd_var 7)) (pd_var 5))))))
  (sd_seq (sd_set 8 nd (pd_op op_addD add_s (pd_ix (pd_ix (pd_var 3) (pd_var 4)) (pd_var 7)) (pd_ix (pd_ix (pd_var 3) (pd_var 7)) (pd_var 5))))
  (sd_one (sd_if (PW.pt (wd_or (td_isN (pd_ix (pd_ix (pd_var 3) (pd_var 4)) (pd_var 5))) (wd_or1 (td_cmp op_lt lt_s (pd_var 8) (pd_ix (pd_ix (pd_var 3) (pd_var 4)) (pd_var 5))))))
  (sd_one (sd_asg (pd_var 8) (gd_sub (pd_ix (pd_var 3) (pd_var 4)) (pd_var 5))))
  sd_nil)))
  sd_nil)))))))
  (sd_one (sd_ret (pd_if (td_cmp (op_eqD hr.units) eq_s (pd_lc rfl nd (id_range1 T.z_range (ad_cons (pd_var 2) ad_nil)) (blkOk_by (own := [(("ax" : Str), 4)]) (by kernel_rfl)) (fun _ _ _ _ _ => (gd_name 4 nd)) (by decide) (fun _ _ _ _ _ => (tsd_one (td_cmp op_lt lt_s (pd_ix (pd_ix (pd_var 3) (pd_var 4)) (pd_var 4)) pd_int))) (fun _ _ _ _ _ => (pd_var 4))) (pd_lst ad_nil)) (pd_var 3) pd_non)))))))
theorem has__law_closed (T : Txt K mg ca) : Has P w K mg base ca 1 ("_law_closed" : Str) 2 F__law_closed := T.d__law_closed.has sc__law_closed rfl (body__law_closed T)
/-! ### _law_numbered -/
abbrev N__law_numbered : List Str := [("marks_here" : Str), ("facts_here" : Str), ("nodes" : Str), ("ax" : Str), ("by" : Str), ("sum_here" : Str)]
theorem sc__law_numbered : FnScope N__law_numbered [("marks_here" : Str), ("facts_here" : Str)] (defScope st__law_numbered) := ⟨rfl, rfl, rfl, by decide +kernel, rfl, by decide +kernel, by decide +kernel⟩
theorem body__law_numbered (T : Txt K mg ca) (f : Addr) (cdv : Value) (A : Around) (outer : List Env) (s : Shared) (H : Hp) (E : XK) (hr : Room 0 (cxD P w K mg base N__law_numbered ("_law_numbered" : Str) (defScope st__law_numbered) f cdv A outer s H E).A) (tk : Takes (cxD P w K mg base N__law_numbered ("_law_numbered" : Str) (defScope st__law_numbered) f cdv A outer s H E) (wD E))
    (hp : PassesOwn (model P w) (cxD P w K mg base N__law_numbered ("_law_numbered" : Str) (defScope st__law_numbered) f cdv A outer s H E).A (cxD P w K mg base N__law_numbered ("_law_numbered" : Str) (defScope st__law_numbered) f cdv A outer s H E).env (cxD P w K mg base N__law_numbered ("_law_numbered" : Str) (defScope st__law_numbered) f cdv A outer s H E).xe) :
    PSs (cxD P w K mg base N__law_numbered ("_law_numbered" : Str) (defScope st__law_numbered) f cdv A outer s H E) (defBody st__law_numbered) (tS ⟨K, ca⟩ (wD E) (B__law_numbered)) := by
  have nd := (sc__law_numbered).nd
  exact (sd_seq (sd_set 2 nd (pd_op op_addD add_s (pd_lst (ad_cons pd_str ad_nil)) (pd_callTy call_list_of lstOf_s T.z_list rfl (ad_cons (pd_var 0) ad_nil))))
  (sd_one (sd_ret (pd_lc rfl nd (id_seq (pd_var 1)) (blkOk_by (own := [(("ax" : Str), 3), (("by" : Str), 4), (("sum_here" : Str), 5)]) (by kernel_rfl)) (fun _ _ _ _ _ => (gd_tup rfl (gsd_cons (gd_name 3 nd) (gsd_cons (gd_name 4 nd) (gsd_cons (gd_name 5 nd) gsd_nil))))) (by decide) (fun _ _ _ _ _ => tsd_nil) (fun _ _ _ _ _ => (pd_tup (ad_cons (pd_mt PySem.F.plainAttrs_list PySem.F.slot_list_index PySem.F.type_list_index (mt_indexD (room65 hr)) indexL_s (pd_var 2) (ad_cons (pd_var 3) ad_nil)) (ad_cons (pd_mt PySem.F.plainAttrs_list PySem.F.slot_list_index PySem.F.type_list_index (mt_indexD (room65 hr)) indexL_s (pd_var 2) (ad_cons (pd_var 4) ad_nil)) (ad_cons (pd_var 5) ad_nil)))))))))
theorem has__law_numbered (T : Txt K mg ca) : Has P w K mg base ca 1 ("_law_numbered" : Str) 2 F__law_numbered := T.d__law_numbered.has sc__law_numbered rfl (body__law_numbered T)
/-! ### _law_split -/
abbrev N__law_split : List Str := [("pit" : Str), ("ms" : Str), ("fs" : Str), ("turns" : Str), ("far" : Str), ("found" : Str), ("turn" : Str), ("old" : Str), ("ax" : Str), ("by" : Str), ("gap_here" : Str), ("row" : Str)]
theorem sc__law_split : FnScope N__law_split [("pit" : Str), ("ms" : Str), ("fs" : Str), ("turns" : Str), ("far" : Str)] (defScope st__law_split) := ⟨rfl, rfl, rfl, by decide +kernel, rfl, by decide +kernel, by decide +kernel⟩
theorem body__law_split (T : Txt K mg ca) (f : Addr) (cdv : Value) (A : Around) (outer : List Env) (s : Shared) (H : Hp) (E : XK) (hr : Room 2 (cxD P w K mg base N__law_split ("_law_split" : Str) (defScope st__law_split) f cdv A outer s H E).A) (tk : Takes (cxD P w K mg base N__law_split ("_law_split" : Str) (defScope st__law_split) f cdv A outer s H E) (wD E))
    (hp : PassesOwn (model P w) (cxD P w K mg base N__law_split ("_law_split" : Str) (defScope st__law_split) f cdv A outer s H E).A (cxD P w K mg base N__law_split ("_law_split" : Str) (defScope st__law_split) f cdv A outer s H E).env (cxD P w K mg base N__law_split ("_law_split" : Str) (defScope st__law_split) f cdv A outer s H E).xe) :
    PSs (cxD P w K mg base N__law_split ("_law_split" : Str) (defScope st__law_split) f cdv A outer s H E) (defBody st__law_split) (tS ⟨K, ca⟩ (wD E) (B__law_split)) := by
  have nd := (sc__law_split).nd
  exact (sd_seq (sd_set 5 nd (pd_lstC (ad_cons (pd_var 2) ad_nil)))
  (sd_seq (sd_for hp rfl (id_range1 T.z_range (ad_cons (pd_var 3) ad_nil)) (gd_name 6 nd)
  (sd_seq (sd_set 7 nd (pd_mt PySem.F.plainAttrs_list PySem.F.slot_list_pop PySem.F.type_list_pop mt_popAt popAt_s (pd_var 5) (ad_cons (pd_fn (Has.mono (has__law_hoist T) (by first | decide | exact Nat.le_refl _)) hr tk (ad_cons (pd_var 0) (ad_cons (pd_callB call_len len_s T.z_len rfl (ad_cons (pd_var 5) ad_nil)) ad_nil))) ad_nil)))
  (sd_seq (sd_asg (pd_fn (Has.mono (has__law_drawn_fact T) (by first | decide | exact Nat.le_refl _)) hr tk (ad_cons (pd_var 0) (ad_cons (pd_var 1) (ad_cons (pd_var 4) ad_nil)))) (gd_tup rfl (gsd_cons (gd_name 8 nd) (gsd_cons (gd_name 9 nd) (gsd_cons (gd_name 10 nd) gsd_nil)))))
  (sd_one (sd_for hp rfl (id_seq (pd_lst (ad_cons (pd_tup (ad_cons (pd_var 8) (ad_cons (pd_var 9) (ad_cons (pd_var 10) ad_nil)))) (ad_cons (pd_tup (ad_cons (pd_var 9) (ad_cons (pd_var 8) (ad_cons (pd_op op_sub sub_s (pd_un un_neg neg_s (pd_var 10)) pd_int) ad_nil)))) ad_nil)))) (gd_name 11 nd)
  (sd_one (sd_if (td_notN (pd_fn (Has.mono (has__law_closed T) (by first | decide | exact Nat.le_refl _)) hr tk (ad_cons (pd_callB call_len len_s T.z_len rfl (ad_cons (pd_var 1) ad_nil)) (ad_cons (pd_fn (Has.mono (has__law_numbered T) (by first | decide | exact Nat.le_refl _)) hr tk (ad_cons (pd_var 1) (ad_cons (pd_op op_addD add_s (pd_var 7) (pd_tup (ad_cons (pd_var 11) ad_nil))) ad_nil))) ad_nil))))
  (sd_one (sd_expr (pd_mt PySem.F.plainAttrs_list PySem.F.slot_list_append PySem.F.type_list_append mt_append append_s (pd_var 5) (ad_cons (pd_op op_addD add_s (pd_var 7) (pd_tup (ad_cons (pd_var 11) ad_nil))) ad_nil))))
  sd_nil)))))))
  (sd_one (sd_ret (pd_var 5)))))
theorem has__law_split (T : Txt K mg ca) : Has P w K mg base ca 3 ("_law_split" : Str) 5 F__law_split := T.d__law_split.has sc__law_split rfl (body__law_split T)
/-! ### _law_caps -/
abbrev N__law_caps : List Str := [("ms" : Str), ("cap" : Str), ("name" : Str)]
theorem sc__law_caps : FnScope N__law_caps [("ms" : Str), ("cap" : Str)] (defScope st__law_caps) := ⟨rfl, rfl, rfl, by decide +kernel, rfl, by decide +kernel, by decide +kernel⟩
theorem body__law_caps (T : Txt K mg ca) (f : Addr) (cdv : Value) (A : Around) (outer : List Env) (s : Shared) (H : Hp) (E : XK) (hr : Room 0 (cxD P w K mg base N__law_caps ("_law_caps" : Str) (defScope st__law_caps) f cdv A outer s H E).A) (tk : Takes (cxD P w K mg base N__law_caps ("_law_caps" : Str) (defScope st__law_caps) f cdv A outer s H E) (wD E))
    (hp : PassesOwn (model P w) (cxD P w K mg base N__law_caps ("_law_caps" : Str) (defScope st__law_caps) f cdv A outer s H E).A (cxD P w K mg base N__law_caps ("_law_caps" : Str) (defScope st__law_caps) f cdv A outer s H E).env (cxD P w K mg base N__law_caps ("_law_caps" : Str) (defScope st__law_caps) f cdv A outer s H E).xe) :
    PSs (cxD P w K mg base N__law_caps ("_law_caps" : Str) (defScope st__law_caps) f cdv A outer s H E) (defBody st__law_caps) (tS ⟨K, ca⟩ (wD E) (B__law_caps)) := by
  have nd := (sc__law_caps).nd
  exact (sd_one (sd_ret (pd_callTy call_tuple_of tupOf_s T.z_tuple rfl (ad_cons (pd_lc rfl nd (id_seq (pd_var 0)) (blkOk_by (own := [(("name" : Str), 2)]) (by kernel_rfl)) (fun _ _ _ _ _ => (gd_name 2 nd)) (by decide) (fun _ _ _ _ _ => tsd_nil) (fun _ _ _ _ _ => (pd_tup (ad_cons (pd_var 2) (ad_cons pd_str (ad_cons (pd_var 1) ad_nil)))))) ad_nil))))
theorem has__law_caps (T : Txt K mg ca) : Has P w K mg base ca 1 ("_law_caps" : Str) 2 F__law_caps := T.d__law_caps.has sc__law_caps rfl (body__law_caps T)
/-! ### _law_two_sides -/
abbrev N__law_two_sides : List Str := [("pit" : Str), ("some" : Str), ("bad_side" : Str), ("good_side" : Str), ("fs" : Str), ("way" : Str)]
theorem sc__law_two_sides : FnScope N__law_two_sides [("pit" : Str), ("some" : Str)] (defScope st__law_two_sides) := ⟨rfl, rfl, rfl, by decide +kernel, rfl, by decide +kernel, by decide +kernel⟩
theorem body__law_two_sides (T : Txt K mg ca) (f : Addr) (cdv : Value) (A : Around) (outer : List Env) (s : Shared) (H : Hp) (E : XK) (hr : Room 1 (cxD P w K mg base N__law_two_sides ("_law_two_sides" : Str) (defScope st__law_two_sides) f cdv A outer s H E).A) (tk : Takes (cxD P w K mg base N__law_two_sides ("_law_two_sides" : Str) (defScope st__law_two_sides) f cdv A outer s H E) (wD E))
    (hp : PassesOwn (model P w) (cxD P w K mg base N__law_two_sides ("_law_two_sides" : Str) (defScope st__law_two_sides) f cdv A outer s H E).A (cxD P w K mg base N__law_two_sides ("_law_two_sides" : Str) (defScope st__law_two_sides) f cdv A outer s H E).env (cxD P w K mg base N__law_two_sides ("_law_two_sides" : Str) (defScope st__law_two_sides) f cdv A outer s H E).xe) :
    PSs (cxD P w K mg base N__law_two_sides ("_law_two_sides" : Str) (defScope st__law_two_sides) f cdv A outer s H E) (defBody st__law_two_sides) (tS ⟨K, ca⟩ (wD E) (B__law_two_sides)) := by
  have nd := (sc__law_two_sides).nd
  exact (sd_seq (sd_par 2 3 rfl nd (ad_cons (pd_lstC ad_nil) (ad_cons (pd_lstC ad_nil) ad_nil)))
  (sd_seq (sd_for hp rfl (id_seq (pd_var 1)) (gd_name 4 nd)
  (sd_seq (sd_set 5 nd (pd_fn (Has.mono (has__law_hoist T) (by first | decide | exact Nat.le_refl _)) hr tk (ad_cons (pd_var 0) (ad_cons pd_int ad_nil))))
  (sd_one (sd_if (td_cmp op_lt lt_s (pd_var 5) pd_int)
  (sd_one (sd_expr (pd_mt PySem.F.plainAttrs_list PySem.F.slot_list_append PySem.F.type_list_append mt_append append_s (pd_var 2) (ad_cons (pd_var 4) ad_nil))))
  (sd_one (sd_if (td_cmp op_lt lt_s (pd_var 5) pd_int)
  (sd_one (sd_expr (pd_mt PySem.F.plainAttrs_list PySem.F.slot_list_append PySem.F.type_list_append mt_append append_s (pd_var 3) (ad_cons (pd_var 4) ad_nil))))
  sd_nil))))))
  (sd_seq (sd_if (PW.pt (wd_and (td_cmp (op_eqD hr.units) eq_s (pd_var 2) (pd_lst ad_nil)) (wd_and1 (td_cmp (op_eqD hr.units) eq_s (pd_var 3) (pd_lst ad_nil)))))
  (sd_one (sd_expr (pd_mt PySem.F.plainAttrs_list PySem.F.slot_list_append PySem.F.type_list_append mt_append append_s (pd_var 3) (ad_cons (pd_ix (pd_var 1) pd_int) ad_nil))))
  sd_nil)
  (sd_one (sd_ret (pd_tup (ad_cons (pd_slice (pd_var 2) od_none (od_some pd_int)) (ad_cons (pd_slice (pd_var 3) od_none (od_some pd_int)) ad_nil))))))))
theorem has__law_two_sides (T : Txt K mg ca) : Has P w K mg base ca 2 ("_law_two_sides" : Str) 2 F__law_two_sides := T.d__law_two_sides.has sc__law_two_sides rfl (body__law_two_sides T)
/-! ### _law_some_facts -/
abbrev N__law_some_facts : List Str := [("pit" : Str), ("ms" : Str), ("fs" : Str), ("most" : Str), ("far" : Str), ("turn" : Str), ("more" : Str)]
theorem sc__law_some_facts : FnScope N__law_some_facts [("pit" : Str), ("ms" : Str), ("fs" : Str), ("most" : Str), ("far" : Str)] (defScope st__law_some_facts) := ⟨rfl, rfl, rfl, by decide +kernel, rfl, by decide +kernel, by decide +kernel⟩
theorem body__law_some_facts (T : Txt K mg ca) (f : Addr) (cdv : Value) (A : Around) (outer : List Env) (s : Shared) (H : Hp) (E : XK) (hr : Room 2 (cxD P w K mg base N__law_some_facts ("_law_some_facts" : Str) (defScope st__law_some_facts) f cdv A outer s H E).A) (tk : Takes (cxD P w K mg base N__law_some_facts ("_law_some_facts" : Str) (defScope st__law_some_facts) f cdv A outer s H E) (wD E))
    (hp : PassesOwn (model P w) (cxD P w K mg base N__law_some_facts ("_law_some_facts" : Str) (defScope st__law_some_facts) f cdv A outer s H E).A (cxD P w K mg base N__law_some_facts ("_law_some_facts" : Str) (defScope st__law_some_facts) f cdv A outer s H E).env (cxD P w K mg base N__law_some_facts ("_law_some_facts" : Str) (defScope st__law_some_facts) f cdv A outer s H E).xe) :
    PSs (cxD P w K mg base N__law_some_facts ("_law_some_facts" : Str) (defScope st__law_some_facts) f cdv A outer s H E) (defBody st__law_some_facts) (tS ⟨K, ca⟩ (wD E) (B__law_some_facts)) := by
  have nd := (sc__law_some_facts).nd
  exact (sd_seq (sd_for hp rfl (id_range1 T.z_range (ad_cons (pd_fn (Has.mono (has__law_hoist T) (by first | decide | exact Nat.le_refl _)) hr tk (ad_cons (pd_var 0) (ad_cons (pd_op op_addD add_s (pd_var 3) pd_int) ad_nil))) ad_nil)) (gd_name 5 nd)
  (sd_seq (sd_set 6 nd (pd_op op_addD add_s (pd_var 2) (pd_tup (ad_cons (pd_fn (Has.mono (has__law_drawn_fact T) (by first | decide | exact Nat.le_refl _)) hr tk (ad_cons (pd_var 0) (ad_cons (pd_var 1) (ad_cons (pd_var 4) ad_nil)))) ad_nil))))
  (sd_one (sd_if (td_notN (pd_fn (Has.mono (has__law_closed T) (by first | decide | exact Nat.le_refl _)) hr tk (ad_cons (pd_callB call_len len_s T.z_len rfl (ad_cons (pd_var 1) ad_nil)) (ad_cons (pd_fn (Has.mono (has__law_numbered T) (by first | decide | exact Nat.le_refl _)) hr tk (ad_cons (pd_var 1) (ad_cons (pd_var 6) ad_nil))) ad_nil))))
  (sd_one (sd_set 2 nd (pd_var 6)))
  sd_nil))))
  (sd_one (sd_ret (pd_var 2))))
theorem has__law_some_facts (T : Txt K mg ca) : Has P w K mg base ca 3 ("_law_some_facts" : Str) 5 F__law_some_facts := T.d__law_some_facts.has sc__law_some_facts rfl (body__law_some_facts T)
/-! ### _law_doubled -/
abbrev N__law_doubled : List Str := [("pit" : Str), ("ms" : Str), ("side" : Str), ("old" : Str), ("more" : Str), ("k" : Str)]
theorem sc__law_doubled : FnScope N__law_doubled [("pit" : Str), ("ms" : Str), ("side" : Str)] (defScope st__law_doubled) := ⟨rfl, rfl, rfl, by decide +kernel, rfl, by decide +kernel, by decide +kernel⟩
theorem body__law_doubled (T : Txt K mg ca) (f : Addr) (cdv : Value) (A : Around) (outer : List Env) (s : Shared) (H : Hp) (E : XK) (hr : Room 3 (cxD P w K mg base N__law_doubled ("_law_doubled" : Str) (defScope st__law_doubled) f cdv A outer s H E).A) (tk : Takes (cxD P w K mg base N__law_doubled ("_law_doubled" : Str) (defScope st__law_doubled) f cdv A outer s H E) (wD E))
    (hp : PassesOwn (model P w) (cxD P w K mg base N__law_doubled ("_law_doubled" : Str) (defScope st__law_doubled) f cdv A outer s H E).A (cxD P w K mg base N__law_doubled ("_law_doubled" : Str) (defScope st__law_doubled) f cdv A outer s H E).env (cxD P w K mg base N__law_doubled ("_law_doubled" : Str) (defScope st__law_doubled) f cdv A outer s H E).xe) :
    PSs (cxD P w K mg base N__law_doubled ("_law_doubled" : Str) (defScope st__law_doubled) f cdv A outer s H E) (defBody st__law_doubled) (tS ⟨K, ca⟩ (wD E) (B__law_doubled)) := by
  have nd := (sc__law_doubled).nd
  exact (sd_seq (sd_if (PW.pt (wd_or (td_cmp (op_eqD hr.units) eq_s (pd_var 2) (pd_lst ad_nil)) (wd_or1 (td_cmp (op_eqD hr.units) eq_s (pd_fn (Has.mono (has__law_hoist T) (by first | decide | exact Nat.le_refl _)) hr tk (ad_cons (pd_var 0) (ad_cons pd_int ad_nil))) pd_int))))
  (sd_one (sd_ret (pd_var 2)))
  sd_nil)
  (sd_seq (sd_set 3 nd (pd_ix (pd_var 2) (pd_fn (Has.mono (has__law_hoist T) (by first | decide | exact Nat.le_refl _)) hr tk (ad_cons (pd_var 0) (ad_cons (pd_callB call_len len_s T.z_len rfl (ad_cons (pd_var 2) ad_nil)) ad_nil)))))
  (sd_seq (sd_set 4 nd (pd_if (td_cmp op_gt gt_s (pd_callB call_len len_s T.z_len rfl (ad_cons (pd_var 3) ad_nil)) pd_int) (pd_var 3) (pd_fn (Has.mono (has__law_some_facts T) (by first | decide | exact Nat.le_refl _)) hr tk (ad_cons (pd_var 0) (ad_cons (pd_var 1) (ad_cons (pd_var 3) (ad_cons pd_int (ad_cons pd_int ad_nil))))))))
  (sd_seq (sd_set 5 nd (pd_fn (Has.mono (has__law_hoist T) (by first | decide | exact Nat.le_refl _)) hr tk (ad_cons (pd_var 0) (ad_cons (pd_op op_addD add_s (pd_callB call_len len_s T.z_len rfl (ad_cons (pd_var 2) ad_nil)) pd_int) ad_nil))))
  (sd_one (sd_ret (pd_op op_addD add_s (pd_op op_addD add_s (pd_slice (pd_var 2) od_none (od_some (pd_var 5))) (pd_lst (ad_cons (pd_var 4) ad_nil))) (pd_slice (pd_var 2) (od_some (pd_var 5)) od_none))))))))
theorem has__law_doubled (T : Txt K mg ca) : Has P w K mg base ca 4 ("_law_doubled" : Str) 3 F__law_doubled := T.d__law_doubled.has sc__law_doubled rfl (body__law_doubled T)
/-! ### _law_all_recordings -/
abbrev N__law_all_recordings : List Str := [("many" : Str), ("cap" : Str), ("found" : Str), ("k" : Str), ("longer" : Str), ("row" : Str), ("sum_here" : Str)]
theorem sc__law_all_recordings : FnScope N__law_all_recordings [("many" : Str), ("cap" : Str)] (defScope st__law_all_recordings) := ⟨rfl, rfl, rfl, by decide +kernel, rfl, by decide +kernel, by decide +kernel⟩
theorem body__law_all_recordings (T : Txt K mg ca) (f : Addr) (cdv : Value) (A : Around) (outer : List Env) (s : Shared) (H : Hp) (E : XK) (hr : Room 0 (cxD P w K mg base N__law_all_recordings ("_law_all_recordings" : Str) (defScope st__law_all_recordings) f cdv A outer s H E).A) (tk : Takes (cxD P w K mg base N__law_all_recordings ("_law_all_recordings" : Str) (defScope st__law_all_recordings) f cdv A outer s H E) (wD E))
    (hp : PassesOwn (model P w) (cxD P w K mg base N__law_all_recordings ("_law_all_recordings" : Str) (defScope st__law_all_recordings) f cdv A outer s H E).A (cxD P w K mg base N__law_all_recordings ("_law_all_recordings" : Str) (defScope st__law_all_recordings) f cdv A outer s H E).env (cxD P w K mg base N__law_all_recordings ("_law_all_recordings" : Str) (defScope st__law_all_recordings) f cdv A outer s H E).xe) :
    PSs (cxD P w K mg base N__law_all_recordings ("_law_all_recordings" : Str) (defScope st__law_all_recordings) f cdv A outer s H E) (defBody st__law_all_recordings) (tS ⟨K, ca⟩ (wD E) (B__law_all_recordings)) := by
  have nd := (sc__law_all_recordings).nd
  exact (sd_seq (sd_set 2 nd (pd_lst (ad_cons (pd_tup ad_nil) ad_nil)))
  (sd_seq (sd_for hp rfl (id_range1 T.z_range (ad_cons (pd_var 0) ad_nil)) (gd_name 3 nd)
  (sd_seq (sd_set 4 nd (pd_lst ad_nil))
  (sd_seq (sd_for hp rfl (id_seq (pd_var 2)) (gd_name 5 nd)
  (sd_one (sd_set 4 nd (pd_op op_addD add_s (pd_var 4) (pd_lc rfl nd (id_range1 T.z_range (ad_cons (pd_op op_addD add_s (pd_var 1) pd_int) ad_nil)) (blkOk_by (own := [(("sum_here" : Str), 6)]) (by kernel_rfl)) (fun _ _ _ _ _ => (gd_name 6 nd)) (by decide) (fun _ _ _ _ _ => tsd_nil) (fun _ _ _ _ _ => (pd_op op_addD add_s (pd_var 5) (pd_tup (ad_cons (pd_var 6) ad_nil)))))))))
  (sd_one (sd_set 2 nd (pd_var 4))))))
  (sd_one (sd_ret (pd_var 2)))))
theorem has__law_all_recordings (T : Txt K mg ca) : Has P w K mg base ca 1 ("_law_all_recordings" : Str) 2 F__law_all_recordings := T.d__law_all_recordings.has sc__law_all_recordings rfl (body__law_all_recordings T)
/-! ### _law_keeps -/
abbrev N__law_keeps : List Str := [("marks_here" : Str), ("facts_here" : Str), ("places" : Str), ("spots" : Str), ("sum_here" : Str), ("row" : Str)]
theorem sc__law_keeps : FnScope N__law_keeps [("marks_here" : Str), ("facts_here" : Str), ("places" : Str)] (defScope st__law_keeps) := ⟨rfl, rfl, rfl, by decide +kernel, rfl, by decide +kernel, by decide +kernel⟩
theorem body__law_keeps (T : Txt K mg ca) (f : Addr) (cdv : Value) (A : Around) (outer : List Env) (s : Shared) (H : Hp) (E : XK) (hr : Room 1 (cxD P w K mg base N__law_keeps ("_law_keeps" : Str) (defScope st__law_keeps) f cdv A outer s H E).A) (tk : Takes (cxD P w K mg base N__law_keeps ("_law_keeps" : Str) (defScope st__law_keeps) f cdv A outer s H E) (wD E))
    (hp : PassesOwn (model P w) (cxD P w K mg base N__law_keeps ("_law_keeps" : Str) (defScope st__law_keeps) f cdv A outer s H E).A (cxD P w K mg base N__law_keeps ("_law_keeps" : Str) (defScope st__law_keeps) f cdv A outer s H E).env (cxD P w K mg base N__law_keeps ("_law_keeps" : Str) (defScope st__law_keeps) f cdv A outer s H E).xe) :
    PSs (cxD P w K mg base N__law_keeps ("_law_keeps" : Str) (defScope st__law_keeps) f cdv A outer s H E) (defBody st__law_keeps) (tS ⟨K, ca⟩ (wD E) (B__law_keeps)) := by
  have nd := (sc__law_keeps).nd
  exact (sd_seq (sd_set 3 nd (pd_op op_addD add_s (pd_tup (ad_cons pd_int ad_nil)) (pd_callTy call_tuple_of tupOf_s T.z_tuple rfl (ad_cons (pd_var 2) ad_nil))))
  (sd_seq (sd_if (PW.pt (wd_or (td_cmp (op_neD hr.units) ne_s (pd_lc rfl nd (id_seq (pd_var 3)) (blkOk_by (own := [(("sum_here" : Str), 4)]) (by kernel_rfl)) (fun _ _ _ _ _ => (gd_name 4 nd)) (by decide) (fun _ _ _ _ _ => (tsd_one (td_cmp op_lt lt_s (pd_var 4) pd_int))) (fun _ _ _ _ _ => (pd_var 4))) (pd_lst ad_nil)) (wd_or1 (td_cmp (op_neD hr.units) ne_s (pd_callB call_len len_s T.z_len rfl (ad_cons (pd_var 3) ad_nil)) (pd_op op_addD add_s (pd_callB call_len len_s T.z_len rfl (ad_cons (pd_var 0) ad_nil)) pd_int)))))
  (sd_one (sd_ret pd_bl))
  sd_nil)
  (sd_one (sd_ret (pd_cmp (op_eqD hr.units) eq_s (pd_lc rfl nd (id_seq (pd_fn (Has.mono (has__law_numbered T) (by first | decide | exact Nat.le_refl _)) hr tk (ad_cons (pd_var 0) (ad_cons (pd_var 1) ad_nil)))) (blkOk_by (own := [(("row" : Str), 5)]) (by kernel_rfl)) (fun _ _ _ _ _ => (gd_name 5 nd)) (by decide) (fun _ _ _ _ _ => (tsd_one (td_cmp op_gt gt_s (pd_op op_sub sub_s (pd_ix (pd_var 3) (pd_ix (pd_var 5) pd_int)) (pd_ix (pd_var 3) (pd_ix (pd_var 5) pd_int))) (pd_ix (pd_var 5) pd_int)))) (fun _ _ _ _ _ => (pd_var 5))) (pd_lst ad_nil))))))
theorem has__law_keeps (T : Txt K mg ca) : Has P w K mg base ca 2 ("_law_keeps" : Str) 3 F__law_keeps := T.d__law_keeps.has sc__law_keeps rfl (body__law_keeps T)
/-! ### _law_in_parts -/
abbrev N__law_in_parts : List Str := [("ms" : Str), ("some" : Str), ("rows" : Str), ("row" : Str), ("fs" : Str)]
theorem sc__law_in_parts : FnScope N__law_in_parts [("ms" : Str), ("some" : Str), ("rows" : Str)] (defScope st__law_in_parts) := ⟨rfl, rfl, rfl, by decide +kernel, rfl, by decide +kernel, by decide +kernel⟩
theorem body__law_in_parts (T : Txt K mg ca) (f : Addr) (cdv : Value) (A : Around) (outer : List Env) (s : Shared) (H : Hp) (E : XK) (hr : Room 2 (cxD P w K mg base N__law_in_parts ("_law_in_parts" : Str) (defScope st__law_in_parts) f cdv A outer s H E).A) (tk : Takes (cxD P w K mg base N__law_in_parts ("_law_in_parts" : Str) (defScope st__law_in_parts) f cdv A outer s H E) (wD E))
    (hp : PassesOwn (model P w) (cxD P w K mg base N__law_in_parts ("_law_in_parts" : Str) (defScope st__law_in_parts) f cdv A outer s H E).A (cxD P w K mg base N__law_in_parts ("_law_in_parts" : Str) (defScope st__law_in_parts) f cdv A outer s H E).env (cxD P w K mg base N__law_in_parts ("_law_in_parts" : Str) (defScope st__law_in_parts) f cdv A outer s H E).xe) :
    PSs (cxD P w K mg base N__law_in_parts ("_law_in_parts" : Str) (defScope st__law_in_parts) f cdv A outer s H E) (defBody st__law_in_parts) (tS ⟨K, ca⟩ (wD E) (B__law_in_parts)) := by
  have nd := (sc__law_in_parts).nd
  exact (sd_one (sd_ret (pd_lc rfl nd (id_seq (pd_var 2)) (blkOk_by (own := [(("row" : Str), 3)]) (by kernel_rfl)) (fun _ _ _ _ _ => (gd_name 3 nd)) (by decide) (fun _ _ _ _ _ => (tsd_one (td_cmp (op_neD hr.units) ne_s (pd_lc rfl nd (id_seq (pd_var 1)) (blkOk_by (own := [(("fs" : Str), 4)]) (by kernel_rfl)) (fun _ _ _ _ _ => (gd_name 4 nd)) (by decide) (fun _ _ _ _ _ => (tsd_one (td_tru (pd_fn (Has.mono (has__law_keeps T) (by first | decide | exact Nat.le_refl _)) hr takes0 (ad_cons (pd_var 0) (ad_cons (pd_var 4) (ad_cons (pd_var 3) ad_nil))))))) (fun _ _ _ _ _ => pd_int)) (pd_lst ad_nil)))) (fun _ _ _ _ _ => (pd_var 3)))))
theorem has__law_in_parts (T : Txt K mg ca) : Has P w K mg base ca 3 ("_law_in_parts" : Str) 3 F__law_in_parts := T.d__law_in_parts.has sc__law_in_parts rfl (body__law_in_parts T)
/-! ### check_like -/
abbrev N_check_like : List Str := [("first" : Str), ("second" : Str)]
theorem sc_check_like : FnScope N_check_like [("first" : Str), ("second" : Str)] (defScope st_check_like) := ⟨rfl, rfl, rfl, by decide +kernel, rfl, by decide +kernel, by decide +kernel⟩
theorem body_check_like (T : Txt K mg ca) (f : Addr) (cdv : Value) (A : Around) (outer : List Env) (s : Shared) (H : Hp) (E : XK) (hr : Room 0 (cxD P w K mg base N_check_like ("check_like" : Str) (defScope st_check_like) f cdv A outer s H E).A) (tk : Takes (cxD P w K mg base N_check_like ("check_like" : Str) (defScope st_check_like) f cdv A outer s H E) (wD E))
    (hp : PassesOwn (model P w) (cxD P w K mg base N_check_like ("check_like" : Str) (defScope st_check_like) f cdv A outer s H E).A (cxD P w K mg base N_check_like ("check_like" : Str) (defScope st_check_like) f cdv A outer s H E).env (cxD P w K mg base N_check_like ("check_like" : Str) (defScope st_check_like) f cdv A outer s H E).xe) :
    PSs (cxD P w K mg base N_check_like ("check_like" : Str) (defScope st_check_like) f cdv A outer s H E) (defBody st_check_like) (tS ⟨K, ca⟩ (wD E) (B_check_like)) := by
  have nd := (sc_check_like).nd
  exact (sd_one (sd_if (td_cmp (op_neD hr.units) ne_s (pd_tup (ad_cons (pd_fld (fld1 0 T.cls0 T.no0_marks) (pd_var 0)) (ad_cons (pd_fld (fld1 0 T.cls0 T.no0_takes) (pd_var 0)) ad_nil))) (pd_tup (ad_cons (pd_fld (fld1 0 T.cls0 T.no0_marks) (pd_var 1)) (ad_cons (pd_fld (fld1 0 T.cls0 T.no0_takes) (pd_var 1)) ad_nil))))
  (sd_one sd_never)
  sd_nil))
theorem has_check_like (T : Txt K mg ca) : Has P w K mg base ca 1 ("check_like" : Str) 2 F_check_like := T.d_check_like.has sc_check_like rfl (body_check_like T)
/-! ### Family.__init__ -/
abbrev N_Family___init__ : List Str := [("self" : Str), ("sheets" : Str), ("sheet" : Str)]
theorem sc_Family___init__ : FnScope N_Family___init__ [("self" : Str), ("sheets" : Str)] (defScope st_Family___init__) := ⟨rfl, rfl, rfl, by decide +kernel, rfl, by decide +kernel, by decide +kernel⟩
theorem body_Family___init__ (T : Txt K mg ca) (f : Addr) (cdv : Value) (A : Around) (outer : List Env) (s : Shared) (H : Hp) (E : XK) (hr : Room 1 (cxD P w K mg base N_Family___init__ ("Family.__init__" : Str) (defScope st_Family___init__) f cdv A outer s H E).A) (tk : Takes (cxD P w K mg base N_Family___init__ ("Family.__init__" : Str) (defScope st_Family___init__) f cdv A outer s H E) (wD E))
    (hp : PassesOwn (model P w) (cxD P w K mg base N_Family___init__ ("Family.__init__" : Str) (defScope st_Family___init__) f cdv A outer s H E).A (cxD P w K mg base N_Family___init__ ("Family.__init__" : Str) (defScope st_Family___init__) f cdv A outer s H E).env (cxD P w K mg base N_Family___init__ ("Family.__init__" : Str) (defScope st_Family___init__) f cdv A outer s H E).xe) :
    PSs (cxD P w K mg base N_Family___init__ ("Family.__init__" : Str) (defScope st_Family___init__) f cdv A outer s H E) (defBody st_Family___init__) (tS ⟨K, ca⟩ (wD E) (B_Family___init__)) := by
  have nd := (sc_Family___init__).nd
  exact (sd_seq (sd_for hp rfl (id_seq (pd_slice (pd_var 1) (od_some pd_int) od_none)) (gd_name 2 nd)
  (sd_one (sd_expr (pd_fn (Has.mono (has_check_like T) (by first | decide | exact Nat.le_refl _)) hr tk (ad_cons (pd_ix (pd_var 1) pd_int) (ad_cons (pd_var 2) ad_nil))))))
  (sd_one (sd_fld (fld1 1 T.cls1 T.no1_parts) (pd_var 0) (pd_var 1))))
theorem maks_Family (T : Txt K mg ca) : MakS P w K mg base ca 2 ("Family" : Str) 1 F_Family___init__ := T.i_Family_s.at sc_Family___init__ (body_Family___init__ T)
/-! ### check_families -/
abbrev N_check_families : List Str := [("first" : Str), ("second" : Str)]
theorem sc_check_families : FnScope N_check_families [("first" : Str), ("second" : Str)] (defScope st_check_families) := ⟨rfl, rfl, rfl, by decide +kernel, rfl, by decide +kernel, by decide +kernel⟩
theorem body_check_families (T : Txt K mg ca) (f : Addr) (cdv : Value) (A : Around) (outer : List Env) (s : Shared) (H : Hp) (E : XK) (hr : Room 1 (cxD P w K mg base N_check_families ("check_families" : Str) (defScope st_check_families) f cdv A outer s H E).A) (tk : Takes (cxD P w K mg base N_check_families ("check_families" : Str) (defScope st_check_families) f cdv A outer s H E) (wD E))
    (hp : PassesOwn (model P w) (cxD P w K mg base N_check_families ("check_families" : Str) (defScope st_check_families) f cdv A outer s H E).A (cxD P w K mg base N_check_families ("check_families" : Str) (defScope st_check_families) f cdv A outer s H E).env (cxD P w K mg base N_check_families ("check_families" : Str) (defScope st_check_families) f cdv A outer s H E).xe) :
    PSs (cxD P w K mg base N_check_families ("check_families" : Str) (defScope st_check_families) f cdv A outer s H E) (defBody st_check_families) (tS ⟨K, ca⟩ (wD E) (B_check_families)) := by
  have nd := (sc_check_families).nd
  exact (sd_one (sd_if (PW.pt (wd_and (td_cmp (op_neE (Nat.lt_of_succ_lt (room1 hr))) eqE_s (pd_fld (fld1 1 T.cls1 T.no1_parts) (pd_var 0)) (pd_tup ad_nil)) (wd_and1 (td_cmp (op_neE (Nat.lt_of_succ_lt (room1 hr))) eqE_s (pd_fld (fld1 1 T.cls1 T.no1_parts) (pd_var 1)) (pd_tup ad_nil)))))
  (sd_one (sd_expr (pd_fn (Has.mono (has_check_like T) (by first | decide | exact Nat.le_refl _)) hr tk (ad_cons (pd_ix (pd_fld (fld1 1 T.cls1 T.no1_parts) (pd_var 0)) pd_int) (ad_cons (pd_ix (pd_fld (fld1 1 T.cls1 T.no1_parts) (pd_var 1)) pd_int) ad_nil)))))
  sd_nil))
theorem has_check_families (T : Txt K mg ca) : Has P w K mg base ca 2 ("check_families" : Str) 2 F_check_families := T.d_check_families.has sc_check_families rfl (body_check_families T)
/-! ### Family.__or__ -/
abbrev N_Family___or__ : List Str := [("self" : Str), ("other" : Str)]
theorem sc_Family___or__ : FnScope N_Family___or__ [("self" : Str), ("other" : Str)] (defScope st_Family___or__) := ⟨rfl, rfl, rfl, by decide +kernel, rfl, by decide +kernel, by decide +kernel⟩
theorem body_Family___or__ (T : Txt K mg ca) (f : Addr) (cdv : Value) (A : Around) (outer : List Env) (s : Shared) (H : Hp) (E : XK) (hr : Room 3 (cxD P w K mg base N_Family___or__ ("Family.__or__" : Str) (defScope st_Family___or__) f cdv A outer s H E).A) (tk : Takes (cxD P w K mg base N_Family___or__ ("Family.__or__" : Str) (defScope st_Family___or__) f cdv A outer s H E) (wD E))
    (hp : PassesOwn (model P w) (cxD P w K mg base N_Family___or__ ("Family.__or__" : Str) (defScope st_Family___or__) f cdv A outer s H E).A (cxD P w K mg base N_Family___or__ ("Family.__or__" : Str) (defScope st_Family___or__) f cdv A outer s H E).env (cxD P w K mg base N_Family___or__ ("Family.__or__" : Str) (defScope st_Family___or__) f cdv A outer s H E).xe) :
    PSs (cxD P w K mg base N_Family___or__ ("Family.__or__" : Str) (defScope st_Family___or__) f cdv A outer s H E) (defBody st_Family___or__) (tS ⟨K, ca⟩ (wD E) (B_Family___or__)) := by
  have nd := (sc_Family___or__).nd
  exact (sd_seq (sd_expr (pd_fn (Has.mono (has_check_families T) (by first | decide | exact Nat.le_refl _)) hr tk (ad_cons (pd_var 0) (ad_cons (pd_var 1) ad_nil))))
  (sd_one (sd_ret (pd_makeSS (MakS.mono (maks_Family T) (Nat.le_refl _)) (hr.mono (by decide)) tk (ad_star (pd_fld (fld1 1 T.cls1 T.no1_parts) (pd_var 0)) (ad_star (pd_fld (fld1 1 T.cls1 T.no1_parts) (pd_var 1)) ad_nil))))))
theorem cal_Family___or__ (T : Txt K mg ca) : ∃ f, Meth K (ca 1) ("__or__" : Str) f ∧ PySem.W.fnIn K f = true ∧ Cal P w K mg base ca 4 f 2 F_Family___or__ := T.m_Family___or__.cal sc_Family___or__ rfl (body_Family___or__ T)
theorem met_Family___or__ (T : Txt K mg ca) : MetAt P w K mg base ca 4 1 ("__or__" : Str) 1 F_Family___or__ := met_of T.cls1 (cal_Family___or__ T)
theorem slt_Family___or__ (T : Txt K mg ca) : SltAt P w K mg base ca 4 1 ("__or__" : Str) 2 F_Family___or__ := slt_of (cal_Family___or__ T)
/-! ### is_name -/
abbrev N_is_name : List Str := [("value" : Str), ("letter" : Str)]
theorem sc_is_name : FnScope N_is_name [("value" : Str)] (defScope st_is_name) := ⟨rfl, rfl, rfl, by decide +kernel, rfl, by decide +kernel, by decide +kernel⟩
theorem body_is_name (T : Txt K mg ca) (f : Addr) (cdv : Value) (A : Around) (outer : List Env) (s : Shared) (H : Hp) (E : XK) (hr : Room 0 (cxD P w K mg base N_is_name ("is_name" : Str) (defScope st_is_name) f cdv A outer s H E).A) (tk : Takes (cxD P w K mg base N_is_name ("is_name" : Str) (defScope st_is_name) f cdv A outer s H E) (wD E))
    (hp : PassesOwn (model P w) (cxD P w K mg base N_is_name ("is_name" : Str) (defScope st_is_name) f cdv A outer s H E).A (cxD P w K mg base N_is_name ("is_name" : Str) (defScope st_is_name) f cdv A outer s H E).env (cxD P w K mg base N_is_name ("is_name" : Str) (defScope st_is_name) f cdv A outer s H E).xe) :
    PSs (cxD P w K mg base N_is_name ("is_name" : Str) (defScope st_is_name) f cdv A outer s H E) (defBody st_is_name) (tS ⟨K, ca⟩ (wD E) (B_is_name)) := by
  have nd := (sc_is_name).nd
  exact (sd_one (sd_ret (pd_and (pd_callB call_isi isa_s T.z_isinstance rfl (ad_cons (pd_var 0) (ad_cons (pd_ty T.z_str rfl) ad_nil))) (pd_and (pd_chain op_lt lt_s op_le le_s pd_int (pd_callB call_len len_s T.z_len rfl (ad_cons (pd_var 0) ad_nil)) (pd_cst T.c_LONGEST (fun _ _ _ => .int _))) (pd_one (pd_callB (cr_all rfl) all_s T.z_all rfl (ad_cons (pd_lc rfl nd (id_str (pd_var 0)) (blkOk_by (own := [(("letter" : Str), 1)]) (by kernel_rfl)) (fun _ _ _ _ _ => (gd_name 1 nd)) (by decide) (fun _ _ _ _ _ => tsd_nil) (fun _ _ _ _ _ => (pd_cmp (op_inA (room65 hr)) in_s (pd_var 1) (pd_cst T.c_LETTERS (fun _ _ _ => .str _))))) ad_nil)))))))
theorem has_is_name (T : Txt K mg ca) : Has P w K mg base ca 1 ("is_name" : Str) 1 F_is_name := T.d_is_name.has sc_is_name rfl (body_is_name T)
/-! ### is_mark_at -/
abbrev N_is_mark_at : List Str := [("marks" : Str), ("index" : Str)]
theorem sc_is_mark_at : FnScope N_is_mark_at [("marks" : Str), ("index" : Str)] (defScope st_is_mark_at) := ⟨rfl, rfl, rfl, by decide +kernel, rfl, by decide +kernel, by decide +kernel⟩
theorem body_is_mark_at (T : Txt K mg ca) (f : Addr) (cdv : Value) (A : Around) (outer : List Env) (s : Shared) (H : Hp) (E : XK) (hr : Room 1 (cxD P w K mg base N_is_mark_at ("is_mark_at" : Str) (defScope st_is_mark_at) f cdv A outer s H E).A) (tk : Takes (cxD P w K mg base N_is_mark_at ("is_mark_at" : Str) (defScope st_is_mark_at) f cdv A outer s H E) (wD E))
    (hp : PassesOwn (model P w) (cxD P w K mg base N_is_mark_at ("is_mark_at" : Str) (defScope st_is_mark_at) f cdv A outer s H E).A (cxD P w K mg base N_is_mark_at ("is_mark_at" : Str) (defScope st_is_mark_at) f cdv A outer s H E).env (cxD P w K mg base N_is_mark_at ("is_mark_at" : Str) (defScope st_is_mark_at) f cdv A outer s H E).xe) :
    PSs (cxD P w K mg base N_is_mark_at ("is_mark_at" : Str) (defScope st_is_mark_at) f cdv A outer s H E) (defBody st_is_mark_at) (tS ⟨K, ca⟩ (wD E) (B_is_mark_at)) := by
  have nd := (sc_is_mark_at).nd
  exact (sd_one (sd_ret (pd_and (pd_fn (Has.mono (has_is_name T) (by first | decide | exact Nat.le_refl _)) hr tk (ad_cons (pd_ix (pd_var 0) (pd_var 1)) ad_nil)) (pd_and (pd_cmp (op_neD hr.units) ne_s (pd_ix (pd_var 0) (pd_var 1)) (pd_cst T.c_NOUGHT (fun _ _ _ => .str _))) (pd_one (pd_cmp (op_notInA (room65 hr)) in_s (pd_ix (pd_var 0) (pd_var 1)) (pd_slice (pd_var 0) od_none (od_some (pd_var 1)))))))))
theorem has_is_mark_at (T : Txt K mg ca) : Has P w K mg base ca 2 ("is_mark_at" : Str) 2 F_is_mark_at := T.d_is_mark_at.has sc_is_mark_at rfl (body_is_mark_at T)
/-! ### is_integer -/
abbrev N_is_integer : List Str := [("value" : Str)]
theorem sc_is_integer : FnScope N_is_integer [("value" : Str)] (defScope st_is_integer) := ⟨rfl, rfl, rfl, by decide +kernel, rfl, by decide +kernel, by decide +kernel⟩
theorem body_is_integer (T : Txt K mg ca) (f : Addr) (cdv : Value) (A : Around) (outer : List Env) (s : Shared) (H : Hp) (E : XK) (hr : Room 0 (cxD P w K mg base N_is_integer ("is_integer" : Str) (defScope st_is_integer) f cdv A outer s H E).A) (tk : Takes (cxD P w K mg base N_is_integer ("is_integer" : Str) (defScope st_is_integer) f cdv A outer s H E) (wD E))
    (hp : PassesOwn (model P w) (cxD P w K mg base N_is_integer ("is_integer" : Str) (defScope st_is_integer) f cdv A outer s H E).A (cxD P w K mg base N_is_integer ("is_integer" : Str) (defScope st_is_integer) f cdv A outer s H E).env (cxD P w K mg base N_is_integer ("is_integer" : Str) (defScope st_is_integer) f cdv A outer s H E).xe) :
    PSs (cxD P w K mg base N_is_integer ("is_integer" : Str) (defScope st_is_integer) f cdv A outer s H E) (defBody st_is_integer) (tS ⟨K, ca⟩ (wD E) (B_is_integer)) := by
  have nd := (sc_is_integer).nd
  exact (sd_one (sd_ret (pd_and (pd_callB call_isi isa_s T.z_isinstance rfl (ad_cons (pd_var 0) (ad_cons (pd_ty T.z_int rfl) ad_nil))) (pd_one (pd_not (pd_callB call_isi isa_s T.z_isinstance rfl (ad_cons (pd_var 0) (ad_cons (pd_ty T.z_bool rfl) ad_nil))))))))
theorem has_is_integer (T : Txt K mg ca) : Has P w K mg base ca 1 ("is_integer" : Str) 1 F_is_integer := T.d_is_integer.has sc_is_integer rfl (body_is_integer T)
/-! ### is_fact -/
abbrev N_is_fact : List Str := [("nodes" : Str), ("value" : Str)]
theorem sc_is_fact : FnScope N_is_fact [("nodes" : Str), ("value" : Str)] (defScope st_is_fact) := ⟨rfl, rfl, rfl, by decide +kernel, rfl, by decide +kernel, by decide +kernel⟩
theorem body_is_fact (T : Txt K mg ca) (f : Addr) (cdv : Value) (A : Around) (outer : List Env) (s : Shared) (H : Hp) (E : XK) (hr : Room 1 (cxD P w K mg base N_is_fact ("is_fact" : Str) (defScope st_is_fact) f cdv A outer s H E).A) (tk : Takes (cxD P w K mg base N_is_fact ("is_fact" : Str) (defScope st_is_fact) f cdv A outer s H E) (wD E))
    (hp : PassesOwn (model P w) (cxD P w K mg base N_is_fact ("is_fact" : Str) (defScope st_is_fact) f cdv A outer s H E).A (cxD P w K mg base N_is_fact ("is_fact" : Str) (defScope st_is_fact) f cdv A outer s H E).env (cxD P w K mg base N_is_fact ("is_fact" : Str) (defScope st_is_fact) f cdv A outer s H E).xe) :
    PSs (cxD P w K mg base N_is_fact ("is_fact" : Str) (defScope st_is_fact) f cdv A outer s H E) (defBody st_is_fact) (tS ⟨K, ca⟩ (wD E) (B_is_fact)) := by
  have nd := (sc_is_fact).nd
  exact (sd_seq (sd_if (PW.pt (wd_or (td_cmp (op_neD hr.units) ne_s (pd_callB call_len len_s T.z_len rfl (ad_cons (pd_var 1) ad_nil)) pd_int) (wd_or1 (td_not (td_tru (pd_fn (Has.mono (has_is_integer T) (by first | decide | exact Nat.le_refl _)) hr tk (ad_cons (pd_ix (pd_var 1) pd_int) ad_nil)))))))
  (sd_one (sd_ret pd_bl))
  sd_nil)
  (sd_one (sd_ret (pd_and (pd_cmp (op_inA (room65 hr)) in_s (pd_ix (pd_var 1) pd_int) (pd_var 0)) (pd_and (pd_cmp (op_inA (room65 hr)) in_s (pd_ix (pd_var 1) pd_int) (pd_var 0)) (pd_one (pd_cmp (op_neD hr.units) ne_s (pd_ix (pd_var 1) pd_int) (pd_ix (pd_var 1) pd_int))))))))
theorem has_is_fact (T : Txt K mg ca) : Has P w K mg base ca 2 ("is_fact" : Str) 2 F_is_fact := T.d_is_fact.has sc_is_fact rfl (body_is_fact T)
/-! ### check_sheet -/
abbrev N_check_sheet : List Str := [("marks" : Str), ("takes" : Str), ("facts" : Str), ("index" : Str), ("name" : Str), ("fact" : Str)]
theorem sc_check_sheet : FnScope N_check_sheet [("marks" : Str), ("takes" : Str), ("facts" : Str)] (defScope st_check_sheet) := ⟨rfl, rfl, rfl, by decide +kernel, rfl, by decide +kernel, by decide +kernel⟩
theorem body_check_sheet (T : Txt K mg ca) (f : Addr) (cdv : Value) (A : Around) (outer : List Env) (s : Shared) (H : Hp) (E : XK) (hr : Room 2 (cxD P w K mg base N_check_sheet ("check_sheet" : Str) (defScope st_check_sheet) f cdv A outer s H E).A) (tk : Takes (cxD P w K mg base N_check_sheet ("check_sheet" : Str) (defScope st_check_sheet) f cdv A outer s H E) (wD E))
    (hp : PassesOwn (model P w) (cxD P w K mg base N_check_sheet ("check_sheet" : Str) (defScope st_check_sheet) f cdv A outer s H E).A (cxD P w K mg base N_check_sheet ("check_sheet" : Str) (defScope st_check_sheet) f cdv A outer s H E).env (cxD P w K mg base N_check_sheet ("check_sheet" : Str) (defScope st_check_sheet) f cdv A outer s H E).xe) :
    PSs (cxD P w K mg base N_check_sheet ("check_sheet" : Str) (defScope st_check_sheet) f cdv A outer s H E) (defBody st_check_sheet) (tS ⟨K, ca⟩ (wD E) (B_check_sheet)) := by
  have nd := (sc_check_sheet).nd
  exact (sd_seq (sd_for hp rfl (id_range1 T.z_range (ad_cons (pd_callB call_len len_s T.z_len rfl (ad_cons (pd_var 0) ad_nil)) ad_nil)) (gd_name 3 nd)
  (sd_one (sd_if (td_not (td_tru (pd_fn (Has.mono (has_is_mark_at T) (by first | decide | exact Nat.le_refl _)) hr tk (ad_cons (pd_var 0) (ad_cons (pd_var 3) ad_nil)))))
  (sd_one sd_never)
  sd_nil)))
  (sd_seq (sd_for hp rfl (id_enum T.z_enumerate (ad_cons (pd_var 1) ad_nil)) (gd_tup rfl (gsd_cons (gd_name 3 nd) (gsd_cons (gd_name 4 nd) gsd_nil)))
  (sd_one (sd_if (PW.pt (wd_or (td_cmp (op_notInA (room65 hr)) in_s (pd_var 4) (pd_var 0)) (wd_or1 (td_cmp (op_inA (room65 hr)) in_s (pd_var 4) (pd_slice (pd_var 1) od_none (od_some (pd_var 3)))))))
  (sd_one sd_never)
  sd_nil)))
  (sd_one (sd_for hp rfl (id_enum T.z_enumerate (ad_cons (pd_var 2) ad_nil)) (gd_tup rfl (gsd_cons (gd_name 3 nd) (gsd_cons (gd_name 5 nd) gsd_nil)))
  (sd_one (sd_if (td_not (td_tru (pd_fn (Has.mono (has_is_fact T) (by first | decide | exact Nat.le_refl _)) hr tk (ad_cons (pd_tup (ad_cons (pd_cst T.c_NOUGHT (fun _ _ _ => .str _)) (ad_star (pd_var 0) ad_nil))) (ad_cons (pd_var 5) ad_nil)))))
  (sd_one sd_never)
  sd_nil))))))
theorem has_check_sheet (T : Txt K mg ca) : Has P w K mg base ca 3 ("check_sheet" : Str) 3 F_check_sheet := T.d_check_sheet.has sc_check_sheet rfl (body_check_sheet T)
/-! ### is_less -/
abbrev N_is_less : List Str := [("first" : Str), ("second" : Str)]
theorem sc_is_less : FnScope N_is_less [("first" : Str), ("second" : Str)] (defScope st_is_less) := ⟨rfl, rfl, rfl, by decide +kernel, rfl, by decide +kernel, by decide +kernel⟩
theorem body_is_less (T : Txt K mg ca) (f : Addr) (cdv : Value) (A : Around) (outer : List Env) (s : Shared) (H : Hp) (E : XK) (hr : Room 0 (cxD P w K mg base N_is_less ("is_less" : Str) (defScope st_is_less) f cdv A outer s H E).A) (tk : Takes (cxD P w K mg base N_is_less ("is_less" : Str) (defScope st_is_less) f cdv A outer s H E) (wD E))
    (hp : PassesOwn (model P w) (cxD P w K mg base N_is_less ("is_less" : Str) (defScope st_is_less) f cdv A outer s H E).A (cxD P w K mg base N_is_less ("is_less" : Str) (defScope st_is_less) f cdv A outer s H E).env (cxD P w K mg base N_is_less ("is_less" : Str) (defScope st_is_less) f cdv A outer s H E).xe) :
    PSs (cxD P w K mg base N_is_less ("is_less" : Str) (defScope st_is_less) f cdv A outer s H E) (defBody st_is_less) (tS ⟨K, ca⟩ (wD E) (B_is_less)) := by
  have nd := (sc_is_less).nd
  exact (sd_one (sd_ret (pd_and (pd_notN (pd_var 0)) (pd_one (pd_or (pd_isN (pd_var 1)) (pd_one (pd_cmp op_lt lt_s (pd_var 0) (pd_var 1))))))))
theorem has_is_less (T : Txt K mg ca) : Has P w K mg base ca 1 ("is_less" : Str) 2 F_is_less := T.d_is_less.has sc_is_less rfl (body_is_less T)
/-! ### summed -/
abbrev N_summed : List Str := [("first" : Str), ("second" : Str)]
theorem sc_summed : FnScope N_summed [("first" : Str), ("second" : Str)] (defScope st_summed) := ⟨rfl, rfl, rfl, by decide +kernel, rfl, by decide +kernel, by decide +kernel⟩
theorem body_summed (T : Txt K mg ca) (f : Addr) (cdv : Value) (A : Around) (outer : List Env) (s : Shared) (H : Hp) (E : XK) (hr : Room 0 (cxD P w K mg base N_summed ("summed" : Str) (defScope st_summed) f cdv A outer s H E).A) (tk : Takes (cxD P w K mg base N_summed ("summed" : Str) (defScope st_summed) f cdv A outer s H E) (wD E))
    (hp : PassesOwn (model P w) (cxD P w K mg base N_summed ("summed" : Str) (defScope st_summed) f cdv A outer s H E).A (cxD P w K mg base N_summed ("summed" : Str) (defScope st_summed) f cdv A outer s H E).env (cxD P w K mg base N_summed ("summed" : Str) (defScope st_summed) f cdv A outer s H E).xe) :
    PSs (cxD P w K mg base N_summed ("summed" : Str) (defScope st_summed) f cdv A outer s H E) (defBody st_summed) (tS ⟨K, ca⟩ (wD E) (B_summed)) := by
  have nd := (sc_summed).nd
  exact (sd_one (sd_ret (pd_if (PW.pt (wd_or (td_isN (pd_var 0)) (wd_or1 (td_isN (pd_var 1))))) pd_non (pd_op op_addD add_s (pd_var 0) (pd_var 1)))))
theorem has_summed (T : Txt K mg ca) : Has P w K mg base ca 1 ("summed" : Str) 2 F_summed := T.d_summed.has sc_summed rfl (body_summed T)
/-! ### lesser -/
abbrev N_lesser : List Str := [("first" : Str), ("second" : Str)]
theorem sc_lesser : FnScope N_lesser [("first" : Str), ("second" : Str)] (defScope st_lesser) := ⟨rfl, rfl, rfl, by decide +kernel, rfl, by decide +kernel, by decide +kernel⟩
theorem body_lesser (T : Txt K mg ca) (f : Addr) (cdv : Value) (A : Around) (outer : List Env) (s : Shared) (H : Hp) (E : XK) (hr : Room 0 (cxD P w K mg base N_lesser ("lesser" : Str) (defScope st_lesser) f cdv A outer s H E).A) (tk : Takes (cxD P w K mg base N_lesser ("lesser" : Str) (defScope st_lesser) f cdv A outer s H E) (wD E))
    (hp : PassesOwn (model P w) (cxD P w K mg base N_lesser ("lesser" : Str) (defScope st_lesser) f cdv A outer s H E).A (cxD P w K mg base N_lesser ("lesser" : Str) (defScope st_lesser) f cdv A outer s H E).env (cxD P w K mg base N_lesser ("lesser" : Str) (defScope st_lesser) f cdv A outer s H E).xe) :
    PSs (cxD P w K mg base N_lesser ("lesser" : Str) (defScope st_lesser) f cdv A outer s H E) (defBody st_lesser) (tS ⟨K, ca⟩ (wD E) (B_lesser)) := by
  have nd := (sc_lesser).nd
  exact (sd_seq (sd_if (PW.pt (wd_or (td_isN (pd_var 0)) (wd_or1 (td_isN (pd_var 1)))))
  (sd_one (sd_ret (pd_if (td_isN (pd_var 0)) (pd_var 1) (pd_var 0))))
  sd_nil)
  (sd_one (sd_ret (pd_callB (call_min2 rfl) i2_s T.z_min rfl (ad_cons (pd_var 0) (ad_cons (pd_var 1) ad_nil))))))
theorem has_lesser (T : Txt K mg ca) : Has P w K mg base ca 1 ("lesser" : Str) 2 F_lesser := T.d_lesser.has sc_lesser rfl (body_lesser T)
/-! ### narrowed -/
abbrev N_narrowed : List Str := [("bounds" : Str), ("x" : Str), ("y" : Str), ("number" : Str), ("back" : Str), ("found" : Str), ("row" : Str), ("ahead" : Str), ("old" : Str), ("far" : Str)]
theorem sc_narrowed : FnScope N_narrowed [("bounds" : Str), ("x" : Str), ("y" : Str), ("number" : Str)] (defScope st_narrowed) := ⟨rfl, rfl, rfl, by decide +kernel, rfl, by decide +kernel, by decide +kernel⟩
theorem body_narrowed (T : Txt K mg ca) (f : Addr) (cdv : Value) (A : Around) (outer : List Env) (s : Shared) (H : Hp) (E : XK) (hr : Room 1 (cxD P w K mg base N_narrowed ("narrowed" : Str) (defScope st_narrowed) f cdv A outer s H E).A) (tk : Takes (cxD P w K mg base N_narrowed ("narrowed" : Str) (defScope st_narrowed) f cdv A outer s H E) (wD E))
    (hp : PassesOwn (model P w) (cxD P w K mg base N_narrowed ("narrowed" : Str) (defScope st_narrowed) f cdv A outer s H E).A (cxD P w K mg base N_narrowed ("narrowed" : Str) (defScope st_narrowed) f cdv A outer s H E).env (cxD P w K mg base N_narrowed ("narrowed" : Str) (defScope st_narrowed) f cdv A outer s H E).xe) :
    PSs (cxD P w K mg base N_narrowed ("narrowed" : Str) (defScope st_narrowed) f cdv A outer s H E) (defBody st_narrowed) (tS ⟨K, ca⟩ (wD E) (B_narrowed)) := by
  have nd := (sc_narrowed).nd
  exact (sd_seq (sd_set 4 nd (pd_ix (pd_ix (pd_var 0) (pd_var 2)) (pd_var 1)))
  (sd_seq (sd_if (PW.pt (wd_and (td_notN (pd_var 4)) (wd_and1 (td_cmp op_lt lt_s (pd_op op_addD add_s (pd_var 4) (pd_var 3)) pd_int))))
  (sd_one (sd_ret pd_non))
  sd_nil)
  (sd_seq (sd_if (td_not (td_tru (pd_fn (Has.mono (has_is_less T) (by first | decide | exact Nat.le_refl _)) hr tk (ad_cons (pd_var 3) (ad_cons (pd_ix (pd_ix (pd_var 0) (pd_var 1)) (pd_var 2)) ad_nil)))))
  (sd_one (sd_ret (pd_var 0)))
  sd_nil)
  (sd_seq (sd_set 5 nd (pd_lst ad_nil))
  (sd_seq (sd_for hp rfl (id_seq (pd_var 0)) (gd_name 6 nd)
  (sd_seq (sd_set 7 nd (pd_fn (Has.mono (has_summed T) (by first | decide | exact Nat.le_refl _)) hr tk (ad_cons (pd_ix (pd_var 6) (pd_var 1)) (ad_cons (pd_var 3) ad_nil))))
  (sd_one (sd_set 5 nd (pd_op op_addD add_s (pd_var 5) (pd_lst (ad_cons (pd_callTy call_tuple_of tupOf_s T.z_tuple rfl (ad_cons (pd_lc rfl nd (id_zip T.z_zip (ad_cons (pd_var 6) (ad_cons (pd_ix (pd_var 0) (pd_var 2)) ad_nil))) (blkOk_by (own := [(("old" : Str), 8), (("far" : Str), 9)]) (by kernel_rfl)) (fun _ _ _ _ _ => (gd_tup rfl (gsd_cons (gd_name 8 nd) (gsd_cons (gd_name 9 nd) gsd_nil)))) (by decide) (fun _ _ _ _ _ => tsd_nil) (fun _ _ _ _ _ => (pd_fn (Has.mono (has_lesser T) (by first | decide | exact Nat.le_refl _)) hr takes0 (ad_cons (pd_var 8) (ad_cons (pd_fn (Has.mono (has_summed T) (by first | decide | exact Nat.le_refl _)) hr takes0 (ad_cons (pd_var 7) (ad_cons (pd_var 9) ad_nil))) ad_nil))))) ad_nil)) ad_nil)))))))
  (sd_one (sd_ret (pd_callTy call_tuple_of tupOf_s T.z_tuple rfl (ad_cons (pd_var 5) ad_nil)))))))))
theorem has_narrowed (T : Txt K mg ca) : Has P w K mg base ca 2 ("narrowed" : Str) 4 F_narrowed := T.d_narrowed.has sc_narrowed rfl (body_narrowed T)
/-! ### narrowed_by -/
abbrev N_narrowed_by : List Str := [("bounds" : Str), ("facts" : Str), ("x" : Str), ("y" : Str), ("number" : Str)]
theorem sc_narrowed_by : FnScope N_narrowed_by [("bounds" : Str), ("facts" : Str)] (defScope st_narrowed_by) := ⟨rfl, rfl, rfl, by decide +kernel, rfl, by decide +kernel, by decide +kernel⟩
theorem body_narrowed_by (T : Txt K mg ca) (f : Addr) (cdv : Value) (A : Around) (outer : List Env) (s : Shared) (H : Hp) (E : XK) (hr : Room 2 (cxD P w K mg base N_narrowed_by ("narrowed_by" : Str) (defScope st_narrowed_by) f cdv A outer s H E).A) (tk : Takes (cxD P w K mg base N_narrowed_by ("narrowed_by" : Str) (defScope st_narrowed_by) f cdv A outer s H E) (wD E))
    (hp : PassesOwn (model P w) (cxD P w K mg base N_narrowed_by ("narrowed_by" : Str) (defScope st_narrowed_by) f cdv A outer s H E).A (cxD P w K mg base N_narrowed_by ("narrowed_by" : Str) (defScope st_narrowed_by) f cdv A outer s H E).env (cxD P w K mg base N_narrowed_by ("narrowed_by" : Str) (defScope st_narrowed_by) f cdv A outer s H E).xe) :
    PSs (cxD P w K mg base N_narrowed_by ("narrowed_by" : Str) (defScope st_narrowed_by) f cdv A outer s H E) (defBody st_narrowed_by) (tS ⟨K, ca⟩ (wD E) (B_narrowed_by)) := by
  have nd := (sc_narrowed_by).nd
  exact (sd_seq (sd_for hp rfl (id_seq (pd_var 1)) (gd_tup rfl (gsd_cons (gd_name 2 nd) (gsd_cons (gd_name 3 nd) (gsd_cons (gd_name 4 nd) gsd_nil))))
  (sd_seq (sd_set 0 nd (pd_fn (Has.mono (has_narrowed T) (by first | decide | exact Nat.le_refl _)) hr tk (ad_cons (pd_var 0) (ad_cons (pd_var 2) (ad_cons (pd_var 3) (ad_cons (pd_var 4) ad_nil))))))
  (sd_one (sd_if (td_isN (pd_var 0))
  (sd_one (sd_ret pd_non))
  sd_nil))))
  (sd_one (sd_ret (pd_var 0))))
theorem has_narrowed_by (T : Txt K mg ca) : Has P w K mg base ca 3 ("narrowed_by" : Str) 2 F_narrowed_by := T.d_narrowed_by.has sc_narrowed_by rfl (body_narrowed_by T)
/-! ### open_bounds -/
abbrev N_open_bounds : List Str := [("many" : Str), ("found" : Str), ("x" : Str), ("y" : Str)]
theorem sc_open_bounds : FnScope N_open_bounds [("many" : Str)] (defScope st_open_bounds) := ⟨rfl, rfl, rfl, by decide +kernel, rfl, by decide +kernel, by decide +kernel⟩
theorem body_open_bounds (T : Txt K mg ca) (f : Addr) (cdv : Value) (A : Around) (outer : List Env) (s : Shared) (H : Hp) (E : XK) (hr : Room 0 (cxD P w K mg base N_open_bounds ("open_bounds" : Str) (defScope st_open_bounds) f cdv A outer s H E).A) (tk : Takes (cxD P w K mg base N_open_bounds ("open_bounds" : Str) (defScope st_open_bounds) f cdv A outer s H E) (wD E))
    (hp : PassesOwn (model P w) (cxD P w K mg base N_open_bounds ("open_bounds" : Str) (defScope st_open_bounds) f cdv A outer s H E).A (cxD P w K mg base N_open_bounds ("open_bounds" : Str) (defScope st_open_bounds) f cdv A outer s H E).env (cxD P w K mg base N_open_bounds ("open_bounds" : Str) (defScope st_open_bounds) f cdv A outer s H E).xe) :
    PSs (cxD P w K mg base N_open_bounds ("open_bounds" : Str) (defScope st_open_bounds) f cdv A outer s H E) (defBody st_open_bounds) (tS ⟨K, ca⟩ (wD E) (B_open_bounds)) := by
  have nd := (sc_open_bounds).nd
  exact (sd_seq (sd_set 1 nd (pd_lst ad_nil))
  (sd_seq (sd_for hp rfl (id_range1 T.z_range (ad_cons (pd_op op_addD add_s (pd_var 0) pd_int) ad_nil)) (gd_name 2 nd)
  (sd_one (sd_set 1 nd (pd_op op_addD add_s (pd_var 1) (pd_lst (ad_cons (pd_callTy call_tuple_of tupOf_s T.z_tuple rfl (ad_cons (pd_lc rfl nd (id_range1 T.z_range (ad_cons (pd_op op_addD add_s (pd_var 0) pd_int) ad_nil)) (blkOk_by (own := [(("y" : Str), 3)]) (by kernel_rfl)) (fun _ _ _ _ _ => (gd_name 3 nd)) (by decide) (fun _ _ _ _ _ => tsd_nil) (fun _ _ _ _ _ => (pd_if (td_cmp (op_inA (room65 hr)) in_s (pd_var 2) (pd_tup (ad_cons (pd_cst T.c_ZERO (fun _ _ _ => .int _)) (ad_cons (pd_var 3) ad_nil)))) pd_int pd_non))) ad_nil)) ad_nil))))))
  (sd_one (sd_ret (pd_callTy call_tuple_of tupOf_s T.z_tuple rfl (ad_cons (pd_var 1) ad_nil))))))
theorem has_open_bounds (T : Txt K mg ca) : Has P w K mg base ca 1 ("open_bounds" : Str) 1 F_open_bounds := T.d_open_bounds.has sc_open_bounds rfl (body_open_bounds T)
/-! ### number_of -/
abbrev N_number_of : List Str := [("nodes" : Str), ("name" : Str), ("found" : Str), ("index" : Str), ("node" : Str)]
theorem sc_number_of : FnScope N_number_of [("nodes" : Str), ("name" : Str)] (defScope st_number_of) := ⟨rfl, rfl, rfl, by decide +kernel, rfl, by decide +kernel, by decide +kernel⟩
theorem body_number_of (T : Txt K mg ca) (f : Addr) (cdv : Value) (A : Around) (outer : List Env) (s : Shared) (H : Hp) (E : XK) (hr : Room 0 (cxD P w K mg base N_number_of ("number_of" : Str) (defScope st_number_of) f cdv A outer s H E).A) (tk : Takes (cxD P w K mg base N_number_of ("number_of" : Str) (defScope st_number_of) f cdv A outer s H E) (wD E))
    (hp : PassesOwn (model P w) (cxD P w K mg base N_number_of ("number_of" : Str) (defScope st_number_of) f cdv A outer s H E).A (cxD P w K mg base N_number_of ("number_of" : Str) (defScope st_number_of) f cdv A outer s H E).env (cxD P w K mg base N_number_of ("number_of" : Str) (defScope st_number_of) f cdv A outer s H E).xe) :
    PSs (cxD P w K mg base N_number_of ("number_of" : Str) (defScope st_number_of) f cdv A outer s H E) (defBody st_number_of) (tS ⟨K, ca⟩ (wD E) (B_number_of)) := by
  have nd := (sc_number_of).nd
  exact (sd_seq (sd_set 2 nd pd_int)
  (sd_seq (sd_for hp rfl (id_enum T.z_enumerate (ad_cons (pd_var 0) ad_nil)) (gd_tup rfl (gsd_cons (gd_name 3 nd) (gsd_cons (gd_name 4 nd) gsd_nil)))
  (sd_one (sd_if (td_cmp (op_eqD hr.units) eq_s (pd_var 4) (pd_var 1))
  (sd_one (sd_set 2 nd (pd_var 3)))
  sd_nil)))
  (sd_one (sd_ret (pd_var 2)))))
theorem has_number_of (T : Txt K mg ca) : Has P w K mg base ca 1 ("number_of" : Str) 2 F_number_of := T.d_number_of.has sc_number_of rfl (body_number_of T)
/-! ### numbered -/
abbrev N_numbered : List Str := [("nodes" : Str), ("facts" : Str), ("x" : Str), ("y" : Str), ("number" : Str)]
theorem sc_numbered : FnScope N_numbered [("nodes" : Str), ("facts" : Str)] (defScope st_numbered) := ⟨rfl, rfl, rfl, by decide +kernel, rfl, by decide +kernel, by decide +kernel⟩
theorem body_numbered (T : Txt K mg ca) (f : Addr) (cdv : Value) (A : Around) (outer : List Env) (s : Shared) (H : Hp) (E : XK) (hr : Room 1 (cxD P w K mg base N_numbered ("numbered" : Str) (defScope st_numbered) f cdv A outer s H E).A) (tk : Takes (cxD P w K mg base N_numbered ("numbered" : Str) (defScope st_numbered) f cdv A outer s H E) (wD E))
    (hp : PassesOwn (model P w) (cxD P w K mg base N_numbered ("numbered" : Str) (defScope st_numbered) f cdv A outer s H E).A (cxD P w K mg base N_numbered ("numbered" : Str) (defScope st_numbered) f cdv A outer s H E).env (cxD P w K mg base N_numbered ("numbered" : Str) (defScope st_numbered) f cdv A outer s H E).xe) :
    PSs (cxD P w K mg base N_numbered ("numbered" : Str) (defScope st_numbered) f cdv A outer s H E) (defBody st_numbered) (tS ⟨K, ca⟩ (wD E) (B_numbered)) := by
  have nd := (sc_numbered).nd
  exact (sd_one (sd_ret (pd_callTy call_tuple_of tupOf_s T.z_tuple rfl (ad_cons (pd_lc rfl nd (id_seq (pd_var 1)) (blkOk_by (own := [(("x" : Str), 2), (("y" : Str), 3), (("number" : Str), 4)]) (by kernel_rfl)) (fun _ _ _ _ _ => (gd_tup rfl (gsd_cons (gd_name 2 nd) (gsd_cons (gd_name 3 nd) (gsd_cons (gd_name 4 nd) gsd_nil))))) (by decide) (fun _ _ _ _ _ => tsd_nil) (fun _ _ _ _ _ => (pd_tup (ad_cons (pd_fn (Has.mono (has_number_of T) (by first | decide | exact Nat.le_refl _)) hr takes0 (ad_cons (pd_var 0) (ad_cons (pd_var 2) ad_nil))) (ad_cons (pd_fn (Has.mono (has_number_of T) (by first | decide | exact Nat.le_refl _)) hr takes0 (ad_cons (pd_var 0) (ad_cons (pd_var 3) ad_nil))) (ad_cons (pd_var 4) ad_nil)))))) ad_nil))))
theorem has_numbered (T : Txt K mg ca) : Has P w K mg base ca 2 ("numbered" : Str) 2 F_numbered := T.d_numbered.has sc_numbered rfl (body_numbered T)
/-! ### first_ways -/
abbrev N_first_ways : List Str := [("nodes" : Str), ("found" : Str), ("x" : Str), ("row" : Str), ("y" : Str)]
theorem sc_first_ways : FnScope N_first_ways [("nodes" : Str)] (defScope st_first_ways) := ⟨rfl, rfl, rfl, by decide +kernel, rfl, by decide +kernel, by decide +kernel⟩
theorem body_first_ways (T : Txt K mg ca) (f : Addr) (cdv : Value) (A : Around) (outer : List Env) (s : Shared) (H : Hp) (E : XK) (hr : Room 0 (cxD P w K mg base N_first_ways ("first_ways" : Str) (defScope st_first_ways) f cdv A outer s H E).A) (tk : Takes (cxD P w K mg base N_first_ways ("first_ways" : Str) (defScope st_first_ways) f cdv A outer s H E) (wD E))
    (hp : PassesOwn (model P w) (cxD P w K mg base N_first_ways ("first_ways" : Str) (defScope st_first_ways) f cdv A outer s H E).A (cxD P w K mg base N_first_ways ("first_ways" : Str) (defScope st_first_ways) f cdv A outer s H E).env (cxD P w K mg base N_first_ways ("first_ways" : Str) (defScope st_first_ways) f cdv A outer s H E).xe) :
    PSs (cxD P w K mg base N_first_ways ("first_ways" : Str) (defScope st_first_ways) f cdv A outer s H E) (defBody st_first_ways) (tS ⟨K, ca⟩ (wD E) (B_first_ways)) := by
  have nd := (sc_first_ways).nd
  exact (sd_seq (sd_set 1 nd (pd_lst ad_nil))
  (sd_seq (sd_for hp rfl (id_seq (pd_var 0)) (gd_name 2 nd)
  (sd_seq (sd_set 3 nd (pd_lst ad_nil))
  (sd_seq (sd_for hp rfl (id_seq (pd_var 0)) (gd_name 4 nd)
  (sd_one (sd_set 3 nd (pd_op op_addD add_s (pd_var 3) (pd_lst (ad_cons (pd_if (td_cmp (op_eqD hr.units) eq_s (pd_var 2) (pd_var 4)) (pd_tup ad_nil) (pd_if (td_cmp (op_eqD hr.units) eq_s (pd_var 2) (pd_cst T.c_NOUGHT (fun _ _ _ => .str _))) (pd_tup (ad_cons (pd_tup (ad_cons (pd_var 2) (ad_cons (pd_var 4) (ad_cons pd_int ad_nil)))) ad_nil)) pd_non)) ad_nil))))))
  (sd_one (sd_set 1 nd (pd_op op_addD add_s (pd_var 1) (pd_lst (ad_cons (pd_var 3) ad_nil))))))))
  (sd_one (sd_ret (pd_var 1)))))
theorem has_first_ways (T : Txt K mg ca) : Has P w K mg base ca 1 ("first_ways" : Str) 1 F_first_ways := T.d_first_ways.has sc_first_ways rfl (body_first_ways T)
/-! ### way_sum -/
abbrev N_way_sum : List Str := [("way" : Str), ("x" : Str), ("y" : Str), ("number" : Str)]
theorem sc_way_sum : FnScope N_way_sum [("way" : Str)] (defScope st_way_sum) := ⟨rfl, rfl, rfl, by decide +kernel, rfl, by decide +kernel, by decide +kernel⟩
theorem body_way_sum (T : Txt K mg ca) (f : Addr) (cdv : Value) (A : Around) (outer : List Env) (s : Shared) (H : Hp) (E : XK) (hr : Room 0 (cxD P w K mg base N_way_sum ("way_sum" : Str) (defScope st_way_sum) f cdv A outer s H E).A) (tk : Takes (cxD P w K mg base N_way_sum ("way_sum" : Str) (defScope st_way_sum) f cdv A outer s H E) (wD E))
    (hp : PassesOwn (model P w) (cxD P w K mg base N_way_sum ("way_sum" : Str) (defScope st_way_sum) f cdv A outer s H E).A (cxD P w K mg base N_way_sum ("way_sum" : Str) (defScope st_way_sum) f cdv A outer s H E).env (cxD P w K mg base N_way_sum ("way_sum" : Str) (defScope st_way_sum) f cdv A outer s H E).xe) :
    PSs (cxD P w K mg base N_way_sum ("way_sum" : Str) (defScope st_way_sum) f cdv A outer s H E) (defBody st_way_sum) (tS ⟨K, ca⟩ (wD E) (B_way_sum)) := by
  have nd := (sc_way_sum).nd
  exact (sd_one (sd_ret (pd_if (td_isN (pd_var 0)) pd_non (pd_callB (cr_sum rfl) sum_s T.z_sum rfl (ad_cons (pd_lc rfl nd (id_seq (pd_var 0)) (blkOk_by (own := [(("x" : Str), 1), (("y" : Str), 2), (("number" : Str), 3)]) (by kernel_rfl)) (fun _ _ _ _ _ => (gd_tup rfl (gsd_cons (gd_name 1 nd) (gsd_cons (gd_name 2 nd) (gsd_cons (gd_name 3 nd) gsd_nil))))) (by decide) (fun _ _ _ _ _ => tsd_nil) (fun _ _ _ _ _ => (pd_var 3))) ad_nil)))))
theorem has_way_sum (T : Txt K mg ca) : Has P w K mg base ca 1 ("way_sum" : Str) 1 F_way_sum := T.d_way_sum.has sc_way_sum rfl (body_way_sum T)
/-! ### better_way -/
abbrev N_better_way : List Str := [("old" : Str), ("new" : Str)]
theorem sc_better_way : FnScope N_better_way [("old" : Str), ("new" : Str)] (defScope st_better_way) := ⟨rfl, rfl, rfl, by decide +kernel, rfl, by decide +kernel, by decide +kernel⟩
theorem body_better_way (T : Txt K mg ca) (f : Addr) (cdv : Value) (A : Around) (outer : List Env) (s : Shared) (H : Hp) (E : XK) (hr : Room 1 (cxD P w K mg base N_better_way ("better_way" : Str) (defScope st_better_way) f cdv A outer s H E).A) (tk : Takes (cxD P w K mg base N_better_way ("better_way" : Str) (defScope st_better_way) f cdv A outer s H E) (wD E))
    (hp : PassesOwn (model P w) (cxD P w K mg base N_better_way ("better_way" : Str) (defScope st_better_way) f cdv A outer s H E).A (cxD P w K mg base N_better_way ("better_way" : Str) (defScope st_better_way) f cdv A outer s H E).env (cxD P w K mg base N_better_way ("better_way" : Str) (defScope st_better_way) f cdv A outer s H E).xe) :
    PSs (cxD P w K mg base N_better_way ("better_way" : Str) (defScope st_better_way) f cdv A outer s H E) (defBody st_better_way) (tS ⟨K, ca⟩ (wD E) (B_better_way)) := by
  have nd := (sc_better_way).nd
  exact (sd_seq (sd_if (PW.pt (wd_or (td_isN (pd_var 1)) (wd_or1 (PW.pt (wd_and (td_notN (pd_var 0)) (wd_and1 (td_cmp op_le le_s (pd_fn (Has.mono (has_way_sum T) (by first | decide | exact Nat.le_refl _)) hr tk (ad_cons (pd_var 0) ad_nil)) (pd_fn (Has.mono (has_way_sum T) (by first | decide | exact Nat.le_refl _)) hr tk (ad_cons (pd_var 1) ad_nil)))))))))
  (sd_one (sd_ret (pd_var 0)))
  sd_nil)
  (sd_one (sd_ret (pd_var 1))))
theorem has_better_way (T : Txt K mg ca) : Has P w K mg base ca 2 ("better_way" : Str) 2 F_better_way := T.d_better_way.has sc_better_way rfl (body_better_way T)
/-! ### joined_way -/
abbrev N_joined_way : List Str := [("ahead" : Str), ("fact" : Str), ("behind" : Str)]
theorem sc_joined_way : FnScope N_joined_way [("ahead" : Str), ("fact" : Str), ("behind" : Str)] (defScope st_joined_way) := ⟨rfl, rfl, rfl, by decide +kernel, rfl, by decide +kernel, by decide +kernel⟩
theorem body_joined_way (T : Txt K mg ca) (f : Addr) (cdv : Value) (A : Around) (outer : List Env) (s : Shared) (H : Hp) (E : XK) (hr : Room 0 (cxD P w K mg base N_joined_way ("joined_way" : Str) (defScope st_joined_way) f cdv A outer s H E).A) (tk : Takes (cxD P w K mg base N_joined_way ("joined_way" : Str) (defScope st_joined_way) f cdv A outer s H E) (wD E))
    (hp : PassesOwn (model P w) (cxD P w K mg base N_joined_way ("joined_way" : Str) (defScope st_joined_way) f cdv A outer s H E).A (cxD P w K mg base N_joined_way ("joined_way" : Str) (defScope st_joined_way) f cdv A outer s H E).env (cxD P w K mg base N_joined_way ("joined_way" : Str) (defScope st_joined_way) f cdv A outer s H E).xe) :
    PSs (cxD P w K mg base N_joined_way ("joined_way" : Str) (defScope st_joined_way) f cdv A outer s H E) (defBody st_joined_way) (tS ⟨K, ca⟩ (wD E) (B_joined_way)) := by
  have nd := (sc_joined_way).nd
  exact (sd_one (sd_ret (pd_if (PW.pt (wd_or (td_isN (pd_var 0)) (wd_or1 (td_isN (pd_var 2))))) pd_non (pd_tup (ad_star (pd_var 0) (ad_cons (pd_var 1) (ad_star (pd_var 2) ad_nil)))))))
theorem has_joined_way (T : Txt K mg ca) : Has P w K mg base ca 1 ("joined_way" : Str) 3 F_joined_way := T.d_joined_way.has sc_joined_way rfl (body_joined_way T)
/-! ### ways_by -/
abbrev N_ways_by : List Str := [("nodes" : Str), ("facts" : Str), ("ways" : Str), ("fact" : Str), ("x" : Str), ("y" : Str), ("back" : Str), ("later" : Str), ("row" : Str), ("old" : Str), ("far" : Str)]
theorem sc_ways_by : FnScope N_ways_by [("nodes" : Str), ("facts" : Str)] (defScope st_ways_by) := ⟨rfl, rfl, rfl, by decide +kernel, rfl, by decide +kernel, by decide +kernel⟩
theorem body_ways_by (T : Txt K mg ca) (f : Addr) (cdv : Value) (A : Around) (outer : List Env) (s : Shared) (H : Hp) (E : XK) (hr : Room 2 (cxD P w K mg base N_ways_by ("ways_by" : Str) (defScope st_ways_by) f cdv A outer s H E).A) (tk : Takes (cxD P w K mg base N_ways_by ("ways_by" : Str) (defScope st_ways_by) f cdv A outer s H E) (wD E))
    (hp : PassesOwn (model P w) (cxD P w K mg base N_ways_by ("ways_by" : Str) (defScope st_ways_by) f cdv A outer s H E).A (cxD P w K mg base N_ways_by ("ways_by" : Str) (defScope st_ways_by) f cdv A outer s H E).env (cxD P w K mg base N_ways_by ("ways_by" : Str) (defScope st_ways_by) f cdv A outer s H E).xe) :
    PSs (cxD P w K mg base N_ways_by ("ways_by" : Str) (defScope st_ways_by) f cdv A outer s H E) (defBody st_ways_by) (tS ⟨K, ca⟩ (wD E) (B_ways_by)) := by
  have nd := (sc_ways_by).nd
  exact (sd_seq (sd_set 2 nd (pd_fn (Has.mono (has_first_ways T) (by first | decide | exact Nat.le_refl _)) hr tk (ad_cons (pd_var 0) ad_nil)))
  (sd_seq (sd_for hp rfl (id_seq (pd_var 1)) (gd_name 3 nd)
  (sd_seq (sd_asg (pd_tup (ad_cons (pd_fn (Has.mono (has_number_of T) (by first | decide | exact Nat.le_refl _)) hr tk (ad_cons (pd_var 0) (ad_cons (pd_ix (pd_var 3) pd_int) ad_nil))) (ad_cons (pd_fn (Has.mono (has_number_of T) (by first | decide | exact Nat.le_refl _)) hr tk (ad_cons (pd_var 0) (ad_cons (pd_ix (pd_var 3) pd_int) ad_nil))) ad_nil))) (gd_tup rfl (gsd_cons (gd_name 4 nd) (gsd_cons (gd_name 5 nd) gsd_nil))))
  (sd_seq (sd_set 6 nd (pd_ix (pd_ix (pd_var 2) (pd_var 5)) (pd_var 4)))
  (sd_seq (sd_if (PW.pt (wd_and (td_notN (pd_var 6)) (wd_and1 (td_cmp op_lt lt_s (pd_op op_addD add_s (pd_fn (Has.mono (has_way_sum T) (by first | decide | exact Nat.le_refl _)) hr tk (ad_cons (pd_var 6) ad_nil)) (pd_ix (pd_var 3) pd_int)) pd_int))))
  (sd_one (sd_ret (pd_tup (ad_cons pd_non (ad_cons (pd_tup (ad_star (pd_var 6) (ad_cons (pd_var 3) ad_nil))) ad_nil)))))
  sd_nil)
  (sd_seq (sd_set 7 nd (pd_lst ad_nil))
  (sd_seq (sd_for hp rfl (id_seq (pd_var 2)) (gd_name 8 nd)
  (sd_one (sd_set 7 nd (pd_op op_addD add_s (pd_var 7) (pd_lst (ad_cons (pd_lc rfl nd (id_zip T.z_zip (ad_cons (pd_var 8) (ad_cons (pd_ix (pd_var 2) (pd_var 5)) ad_nil))) (blkOk_by (own := [(("old" : Str), 9), (("far" : Str), 10)]) (by kernel_rfl)) (fun _ _ _ _ _ => (gd_tup rfl (gsd_cons (gd_name 9 nd) (gsd_cons (gd_name 10 nd) gsd_nil)))) (by decide) (fun _ _ _ _ _ => tsd_nil) (fun _ _ _ _ _ => (pd_fn (Has.mono (has_better_way T) (by first | decide | exact Nat.le_refl _)) hr takes0 (ad_cons (pd_var 9) (ad_cons (pd_fn (Has.mono (has_joined_way T) (by first | decide | exact Nat.le_refl _)) hr takes0 (ad_cons (pd_ix (pd_var 8) (pd_var 4)) (ad_cons (pd_var 3) (ad_cons (pd_var 10) ad_nil)))) ad_nil))))) ad_nil))))))
  (sd_one (sd_set 2 nd (pd_var 7)))))))))
  (sd_one (sd_ret (pd_tup (ad_cons (pd_var 2) (ad_cons pd_non ad_nil)))))))
theorem has_ways_by (T : Txt K mg ca) : Has P w K mg base ca 3 ("ways_by" : Str) 2 F_ways_by := T.d_ways_by.has sc_ways_by rfl (body_ways_by T)
/-! ### Sheet.__init__ -/
abbrev N_Sheet___init__ : List Str := [("self" : Str), ("marks" : Str), ("takes" : Str), ("facts" : Str), ("nodes" : Str), ("bounds" : Str), ("ways" : Str), ("ring" : Str)]
theorem sc_Sheet___init__ : FnScope N_Sheet___init__ [("self" : Str), ("marks" : Str), ("takes" : Str), ("facts" : Str)] (defScope st_Sheet___init__) := ⟨rfl, rfl, rfl, by decide +kernel, rfl, by decide +kernel, by decide +kernel⟩
theorem body_Sheet___init__ (T : Txt K mg ca) (f : Addr) (cdv : Value) (A : Around) (outer : List Env) (s : Shared) (H : Hp) (E : XK) (hr : Room 3 (cxD P w K mg base N_Sheet___init__ ("Sheet.__init__" : Str) (defScope st_Sheet___init__) f cdv A outer s H E).A) (tk : Takes (cxD P w K mg base N_Sheet___init__ ("Sheet.__init__" : Str) (defScope st_Sheet___init__) f cdv A outer s H E) (wD E))
    (hp : PassesOwn (model P w) (cxD P w K mg base N_Sheet___init__ ("Sheet.__init__" : Str) (defScope st_Sheet___init__) f cdv A outer s H E).A (cxD P w K mg base N_Sheet___init__ ("Sheet.__init__" : Str) (defScope st_Sheet___init__) f cdv A outer s H E).env (cxD P w K mg base N_Sheet___init__ ("Sheet.__init__" : Str) (defScope st_Sheet___init__) f cdv A outer s H E).xe) :
    PSs (cxD P w K mg base N_Sheet___init__ ("Sheet.__init__" : Str) (defScope st_Sheet___init__) f cdv A outer s H E) (defBody st_Sheet___init__) (tS ⟨K, ca⟩ (wD E) (B_Sheet___init__)) := by
  have nd := (sc_Sheet___init__).nd
  exact (sd_seq (sd_expr (pd_fn (Has.mono (has_check_sheet T) (by first | decide | exact Nat.le_refl _)) hr tk (ad_cons (pd_var 1) (ad_cons (pd_var 2) (ad_cons (pd_var 3) ad_nil)))))
  (sd_seq (sd_set 4 nd (pd_tup (ad_cons (pd_cst T.c_NOUGHT (fun _ _ _ => .str _)) (ad_star (pd_var 1) ad_nil))))
  (sd_seq (sd_set 5 nd (pd_fn (Has.mono (has_narrowed_by T) (by first | decide | exact Nat.le_refl _)) hr tk (ad_cons (pd_fn (Has.mono (has_open_bounds T) (by first | decide | exact Nat.le_refl _)) hr tk (ad_cons (pd_callB call_len len_s T.z_len rfl (ad_cons (pd_var 1) ad_nil)) ad_nil)) (ad_cons (pd_fn (Has.mono (has_numbered T) (by first | decide | exact Nat.le_refl _)) hr tk (ad_cons (pd_var 4) (ad_cons (pd_var 3) ad_nil))) ad_nil))))
  (sd_seq (sd_if (td_isN (pd_var 5))
  (sd_seq (sd_asg (pd_fn (Has.mono (has_ways_by T) (by first | decide | exact Nat.le_refl _)) hr tk (ad_cons (pd_var 4) (ad_cons (pd_var 3) ad_nil))) (gd_tup rfl (gsd_cons (gd_name 6 nd) (gsd_cons (gd_name 7 nd) gsd_nil))))
  (sd_one sd_never))
  sd_nil)
  (sd_seq (sd_fld (fld1 0 T.cls0 T.no0_marks) (pd_var 0) (pd_var 1))
  (sd_seq (sd_fld (fld1 0 T.cls0 T.no0_takes) (pd_var 0) (pd_var 2))
  (sd_seq (sd_fld (fld1 0 T.cls0 T.no0_facts) (pd_var 0) (pd_var 3))
  (sd_seq (sd_fld (fld1 0 T.cls0 T.no0_nodes) (pd_var 0) (pd_var 4))
  (sd_one (sd_fld (fld1 0 T.cls0 T.no0_bounds) (pd_var 0) (pd_var 5)))))))))))
theorem mak_Sheet_3 (T : Txt K mg ca) : MakAt P w K mg base ca 4 ("Sheet" : Str) 0 3 MF_Sheet_3 := T.i_Sheet_3.at sc_Sheet___init__ rfl (body_Sheet___init__ T)
theorem mak_Sheet_2 (T : Txt K mg ca) : MakAt P w K mg base ca 4 ("Sheet" : Str) 0 2 MF_Sheet_2 := T.i_Sheet_2.at sc_Sheet___init__ rfl (body_Sheet___init__ T)
/-! ### _law_family -/
abbrev N__law_family : List Str := [("marks_here" : Str), ("takes_here" : Str), ("some" : Str), ("found" : Str), ("facts_here" : Str)]
theorem sc__law_family : FnScope N__law_family [("marks_here" : Str), ("takes_here" : Str), ("some" : Str)] (defScope st__law_family) := ⟨rfl, rfl, rfl, by decide +kernel, rfl, by decide +kernel, by decide +kernel⟩
theorem body__law_family (T : Txt K mg ca) (f : Addr) (cdv : Value) (A : Around) (outer : List Env) (s : Shared) (H : Hp) (E : XK) (hr : Room 5 (cxD P w K mg base N__law_family ("_law_family" : Str) (defScope st__law_family) f cdv A outer s H E).A) (tk : Takes (cxD P w K mg base N__law_family ("_law_family" : Str) (defScope st__law_family) f cdv A outer s H E) (wD E))
    (hp : PassesOwn (model P w) (cxD P w K mg base N__law_family ("_law_family" : Str) (defScope st__law_family) f cdv A outer s H E).A (cxD P w K mg base N__law_family ("_law_family" : Str) (defScope st__law_family) f cdv A outer s H E).env (cxD P w K mg base N__law_family ("_law_family" : Str) (defScope st__law_family) f cdv A outer s H E).xe) :
    PSs (cxD P w K mg base N__law_family ("_law_family" : Str) (defScope st__law_family) f cdv A outer s H E) (defBody st__law_family) (tS ⟨K, ca⟩ (wD E) (B__law_family)) := by
  have nd := (sc__law_family).nd
  exact (sd_seq (sd_set 3 nd (pd_makeS0 (MakS.mono (maks_Family T) (Nat.le_refl _)) (hr.mono (by decide)) tk))
  (sd_seq (sd_for hp rfl (id_seq (pd_var 2)) (gd_name 4 nd)
  (sd_one (sd_set 3 nd (pd_binO (T := [(1, F_Family___or__)]) (slt1 (slt_Family___or__ T) (by first | decide | exact Nat.le_refl _)) (first1 T.sf1) hr tk (pd_var 3) (pd_makeS (MakS.mono (maks_Family T) (Nat.le_refl _)) (hr.mono (by decide)) tk (ad_cons (pd_make (MakAt.mono (mak_Sheet_3 T) (Nat.le_refl _)) (hr.mono (by decide)) tk (ad_cons (pd_var 0) (ad_cons (pd_var 1) (ad_cons (pd_var 4) ad_nil)))) ad_nil))))))
  (sd_one (sd_ret (pd_var 3)))))
theorem has__law_family (T : Txt K mg ca) : Has P w K mg base ca 6 ("_law_family" : Str) 3 F__law_family := T.d__law_family.has sc__law_family rfl (body__law_family T)
/-! ### Finding.__init__ -/
abbrev N_Finding___init__ : List Str := [("self" : Str), ("bad" : Str), ("good" : Str)]
theorem sc_Finding___init__ : FnScope N_Finding___init__ [("self" : Str), ("bad" : Str), ("good" : Str)] (defScope st_Finding___init__) := ⟨rfl, rfl, rfl, by decide +kernel, rfl, by decide +kernel, by decide +kernel⟩
theorem body_Finding___init__ (T : Txt K mg ca) (f : Addr) (cdv : Value) (A : Around) (outer : List Env) (s : Shared) (H : Hp) (E : XK) (hr : Room 0 (cxD P w K mg base N_Finding___init__ ("Finding.__init__" : Str) (defScope st_Finding___init__) f cdv A outer s H E).A) (tk : Takes (cxD P w K mg base N_Finding___init__ ("Finding.__init__" : Str) (defScope st_Finding___init__) f cdv A outer s H E) (wD E))
    (hp : PassesOwn (model P w) (cxD P w K mg base N_Finding___init__ ("Finding.__init__" : Str) (defScope st_Finding___init__) f cdv A outer s H E).A (cxD P w K mg base N_Finding___init__ ("Finding.__init__" : Str) (defScope st_Finding___init__) f cdv A outer s H E).env (cxD P w K mg base N_Finding___init__ ("Finding.__init__" : Str) (defScope st_Finding___init__) f cdv A outer s H E).xe) :
    PSs (cxD P w K mg base N_Finding___init__ ("Finding.__init__" : Str) (defScope st_Finding___init__) f cdv A outer s H E) (defBody st_Finding___init__) (tS ⟨K, ca⟩ (wD E) (B_Finding___init__)) := by
  have nd := (sc_Finding___init__).nd
  exact (sd_seq (sd_fld (fld1 2 T.cls2 T.no2_bad) (pd_var 0) (pd_var 1))
  (sd_one (sd_fld (fld1 2 T.cls2 T.no2_good) (pd_var 0) (pd_var 2))))
theorem mak_Finding_2 (T : Txt K mg ca) : MakAt P w K mg base ca 1 ("Finding" : Str) 2 2 MF_Finding_2 := T.i_Finding_2.at sc_Finding___init__ rfl (body_Finding___init__ T)
/-! ### _law_kin -/
abbrev N__law_kin : List Str := [("found" : Str), ("due" : Str), ("k" : Str)]
theorem sc__law_kin : FnScope N__law_kin [("found" : Str), ("due" : Str)] (defScope st__law_kin) := ⟨rfl, rfl, rfl, by decide +kernel, rfl, by decide +kernel, by decide +kernel⟩
theorem body__law_kin {k : Nat} (T : Txt K mg ca) {R : List D → M D} {kk : Nat} (hR : Has P w K mg base ca kk ("_law_kin" : Str) 2 R) (hkk : kk ≤ k) (f : Addr) (cdv : Value) (A : Around) (outer : List Env) (s : Shared) (H : Hp) (E : XK) (hr : Room k (cxD P w K mg base N__law_kin ("_law_kin" : Str) (defScope st__law_kin) f cdv A outer s H E).A) (tk : Takes (cxD P w K mg base N__law_kin ("_law_kin" : Str) (defScope st__law_kin) f cdv A outer s H E) (wD E))
    (hp : PassesOwn (model P w) (cxD P w K mg base N__law_kin ("_law_kin" : Str) (defScope st__law_kin) f cdv A outer s H E).A (cxD P w K mg base N__law_kin ("_law_kin" : Str) (defScope st__law_kin) f cdv A outer s H E).env (cxD P w K mg base N__law_kin ("_law_kin" : Str) (defScope st__law_kin) f cdv A outer s H E).xe) :
    PSs (cxD P w K mg base N__law_kin ("_law_kin" : Str) (defScope st__law_kin) f cdv A outer s H E) (defBody st__law_kin) (tS ⟨K, ca⟩ (wD E) (B__law_kin R)) := by
  have nd := (sc__law_kin).nd
  exact (sd_seq (sd_if (PW.pt (wd_or (td_tru (pd_callB call_isi isa_s T.z_isinstance rfl (ad_cons (pd_var 0) (ad_cons (pd_ty T.z_bool rfl) ad_nil)))) (wd_or1 (td_tru (pd_callB call_isi isa_s T.z_isinstance rfl (ad_cons (pd_var 1) (ad_cons (pd_ty T.z_bool rfl) ad_nil)))))))
  (sd_one (sd_ret (pd_and (pd_callB call_isi isa_s T.z_isinstance rfl (ad_cons (pd_var 0) (ad_cons (pd_ty T.z_bool rfl) ad_nil))) (pd_and (pd_callB call_isi isa_s T.z_isinstance rfl (ad_cons (pd_var 1) (ad_cons (pd_ty T.z_bool rfl) ad_nil))) (pd_one (pd_cmp (op_eqD hr.units) eq_s (pd_var 0) (pd_var 1)))))))
  sd_nil)
  (sd_seq (sd_if (PW.pt (wd_or (td_cmp (op_neD hr.units) ne_s (pd_callB call_isi isa_s T.z_isinstance rfl (ad_cons (pd_var 0) (ad_cons (pd_ty T.z_list rfl) ad_nil))) (pd_callB call_isi isa_s T.z_isinstance rfl (ad_cons (pd_var 1) (ad_cons (pd_ty T.z_list rfl) ad_nil)))) (wd_or1 (td_cmp (op_neD hr.units) ne_s (pd_callB call_isi isa_s T.z_isinstance rfl (ad_cons (pd_var 0) (ad_cons (pd_ty T.z_tuple rfl) ad_nil))) (pd_callB call_isi isa_s T.z_isinstance rfl (ad_cons (pd_var 1) (ad_cons (pd_ty T.z_tuple rfl) ad_nil)))))))
  (sd_one (sd_ret pd_bl))
  sd_nil)
  (sd_seq (sd_if (PW.pt (wd_or (td_cmp (op_neD hr.units) ne_s (pd_callB call_isi isa_s T.z_isinstance rfl (ad_cons (pd_var 0) (ad_cons (pd_ty T.z_str rfl) ad_nil))) (pd_callB call_isi isa_s T.z_isinstance rfl (ad_cons (pd_var 1) (ad_cons (pd_ty T.z_str rfl) ad_nil)))) (wd_or1 (td_cmp (op_neD hr.units) ne_s (pd_callB call_isi isa_s T.z_isinstance rfl (ad_cons (pd_var 0) (ad_cons (pd_ty T.z_int rfl) ad_nil))) (pd_callB call_isi isa_s T.z_isinstance rfl (ad_cons (pd_var 1) (ad_cons (pd_ty T.z_int rfl) ad_nil)))))))
  (sd_one (sd_ret pd_bl))
  sd_nil)
  (sd_seq (sd_if (td_tru (pd_callB call_isiU isaT_s T.z_isinstance rfl (ad_cons (pd_var 1) (ad_cons (pd_tup (ad_cons (pd_ty T.z_list rfl) (ad_cons (pd_ty T.z_tuple rfl) ad_nil))) ad_nil))))
  (sd_seq (sd_if (td_cmp (op_neD hr.units) ne_s (pd_callB call_len len_s T.z_len rfl (ad_cons (pd_var 0) ad_nil)) (pd_callB call_len len_s T.z_len rfl (ad_cons (pd_var 1) ad_nil)))
  (sd_one (sd_ret pd_bl))
  sd_nil)
  (sd_one (sd_ret (pd_cmp (op_eqD hr.units) eq_s (pd_lc rfl nd (id_range1 T.z_range (ad_cons (pd_callB call_len len_s T.z_len rfl (ad_cons (pd_var 1) ad_nil)) ad_nil)) (blkOk_by (own := [(("k" : Str), 2)]) (by kernel_rfl)) (fun _ _ _ _ _ => (gd_name 2 nd)) (by decide) (fun _ _ _ _ _ => (tsd_one (td_not (td_tru (pd_fn (Has.mono hR hkk) hr takes0 (ad_cons (pd_ix (pd_var 0) (pd_var 2)) (ad_cons (pd_ix (pd_var 1) (pd_var 2)) ad_nil))))))) (fun _ _ _ _ _ => (pd_var 2))) (pd_lst ad_nil)))))
  sd_nil)
  (sd_one (sd_ret (pd_and (pd_cmp (op_eqD hr.units) eq_s (pd_isN (pd_var 0)) (pd_isN (pd_var 1))) (pd_one (pd_cmp (op_eqD hr.units) eq_s (pd_var 0) (pd_var 1))))))))))
theorem has__law_kin_n (T : Txt K mg ca) : ∀ n : Nat, Has P w K mg base ca (n + 1) ("_law_kin" : Str) 2 (F__law_kin_n n)
  | 0 => T.d__law_kin.has0 rfl
  | n + 1 => T.d__law_kin.has (k := n + 1) sc__law_kin rfl (fun f cdv A outer s H E hr tk hp => body__law_kin T (has__law_kin_n T n) (Nat.le_refl _) f cdv A outer s H E hr tk hp)
theorem has__law_kin (T : Txt K mg ca) : Has P w K mg base ca 7 ("_law_kin" : Str) 2 F__law_kin := has__law_kin_n T 6
/-! ### state_in -/
abbrev N_state_in : List Str := [("bad" : Str), ("good" : Str)]
theorem sc_state_in : FnScope N_state_in [("bad" : Str), ("good" : Str)] (defScope st_state_in) := ⟨rfl, rfl, rfl, by decide +kernel, rfl, by decide +kernel, by decide +kernel⟩
theorem body_state_in (T : Txt K mg ca) (f : Addr) (cdv : Value) (A : Around) (outer : List Env) (s : Shared) (H : Hp) (E : XK) (hr : Room 0 (cxD P w K mg base N_state_in ("state_in" : Str) (defScope st_state_in) f cdv A outer s H E).A) (tk : Takes (cxD P w K mg base N_state_in ("state_in" : Str) (defScope st_state_in) f cdv A outer s H E) (wD E))
    (hp : PassesOwn (model P w) (cxD P w K mg base N_state_in ("state_in" : Str) (defScope st_state_in) f cdv A outer s H E).A (cxD P w K mg base N_state_in ("state_in" : Str) (defScope st_state_in) f cdv A outer s H E).env (cxD P w K mg base N_state_in ("state_in" : Str) (defScope st_state_in) f cdv A outer s H E).xe) :
    PSs (cxD P w K mg base N_state_in ("state_in" : Str) (defScope st_state_in) f cdv A outer s H E) (defBody st_state_in) (tS ⟨K, ca⟩ (wD E) (B_state_in)) := by
  have nd := (sc_state_in).nd
  exact (sd_seq (sd_if (td_cmp (op_eqD hr.units) eq_s (pd_callB call_len len_s T.z_len rfl (ad_cons (pd_fld (fld1 1 T.cls1 T.no1_parts) (pd_var 0)) ad_nil)) pd_int)
  (sd_one (sd_ret (pd_cst T.c_SURE (fun _ _ _ => .str _))))
  sd_nil)
  (sd_one (sd_ret (pd_if (td_cmp (op_eqD hr.units) eq_s (pd_callB call_len len_s T.z_len rfl (ad_cons (pd_fld (fld1 1 T.cls1 T.no1_parts) (pd_var 1)) ad_nil)) pd_int) (pd_cst T.c_NEVER (fun _ _ _ => .str _)) (pd_cst T.c_OPEN (fun _ _ _ => .str _))))))
theorem has_state_in (T : Txt K mg ca) : Has P w K mg base ca 1 ("state_in" : Str) 2 F_state_in := T.d_state_in.has sc_state_in rfl (body_state_in T)
/-! ### Finding.state -/
abbrev N_Finding_state : List Str := [("self" : Str)]
theorem sc_Finding_state : FnScope N_Finding_state [("self" : Str)] (defScope st_Finding_state) := ⟨rfl, rfl, rfl, by decide +kernel, rfl, by decide +kernel, by decide +kernel⟩
theorem body_Finding_state (T : Txt K mg ca) (f : Addr) (cdv : Value) (A : Around) (outer : List Env) (s : Shared) (H : Hp) (E : XK) (hr : Room 1 (cxD P w K mg base N_Finding_state ("Finding.state" : Str) (defScope st_Finding_state) f cdv A outer s H E).A) (tk : Takes (cxD P w K mg base N_Finding_state ("Finding.state" : Str) (defScope st_Finding_state) f cdv A outer s H E) (wD E))
    (hp : PassesOwn (model P w) (cxD P w K mg base N_Finding_state ("Finding.state" : Str) (defScope st_Finding_state) f cdv A outer s H E).A (cxD P w K mg base N_Finding_state ("Finding.state" : Str) (defScope st_Finding_state) f cdv A outer s H E).env (cxD P w K mg base N_Finding_state ("Finding.state" : Str) (defScope st_Finding_state) f cdv A outer s H E).xe) :
    PSs (cxD P w K mg base N_Finding_state ("Finding.state" : Str) (defScope st_Finding_state) f cdv A outer s H E) (defBody st_Finding_state) (tS ⟨K, ca⟩ (wD E) (B_Finding_state)) := by
  have nd := (sc_Finding_state).nd
  exact (sd_one (sd_ret (pd_fn (Has.mono (has_state_in T) (by first | decide | exact Nat.le_refl _)) hr tk (ad_cons (pd_fld (fld1 2 T.cls2 T.no2_bad) (pd_var 0)) (ad_cons (pd_fld (fld1 2 T.cls2 T.no2_good) (pd_var 0)) ad_nil)))))
theorem prop_Finding_state (T : Txt K mg ca) : PropAt P w K mg base ca 2 2 ("state" : Str) F_Finding_state := T.p_Finding_state.at T.cls2 sc_Finding_state (body_Finding_state T)
/-! ### Finding.__bool__ -/
abbrev N_Finding___bool__ : List Str := [("self" : Str)]
theorem sc_Finding___bool__ : FnScope N_Finding___bool__ [("self" : Str)] (defScope st_Finding___bool__) := ⟨rfl, rfl, rfl, by decide +kernel, rfl, by decide +kernel, by decide +kernel⟩
theorem body_Finding___bool__ (T : Txt K mg ca) (f : Addr) (cdv : Value) (A : Around) (outer : List Env) (s : Shared) (H : Hp) (E : XK) (hr : Room 0 (cxD P w K mg base N_Finding___bool__ ("Finding.__bool__" : Str) (defScope st_Finding___bool__) f cdv A outer s H E).A) (tk : Takes (cxD P w K mg base N_Finding___bool__ ("Finding.__bool__" : Str) (defScope st_Finding___bool__) f cdv A outer s H E) (wD E))
    (hp : PassesOwn (model P w) (cxD P w K mg base N_Finding___bool__ ("Finding.__bool__" : Str) (defScope st_Finding___bool__) f cdv A outer s H E).A (cxD P w K mg base N_Finding___bool__ ("Finding.__bool__" : Str) (defScope st_Finding___bool__) f cdv A outer s H E).env (cxD P w K mg base N_Finding___bool__ ("Finding.__bool__" : Str) (defScope st_Finding___bool__) f cdv A outer s H E).xe) :
    PSs (cxD P w K mg base N_Finding___bool__ ("Finding.__bool__" : Str) (defScope st_Finding___bool__) f cdv A outer s H E) (defBody st_Finding___bool__) (tS ⟨K, ca⟩ (wD E) (B_Finding___bool__)) := by
  have nd := (sc_Finding___bool__).nd
  exact (sd_one (sd_ret (pd_callTy call_bool1 boolB_s T.z_bool rfl (ad_cons (pd_cmp (op_eqD hr.units) eq_s (pd_callB call_len len_s T.z_len rfl (ad_cons (pd_fld (fld1 1 T.cls1 T.no1_parts) (pd_fld (fld1 2 T.cls2 T.no2_bad) (pd_var 0))) ad_nil)) pd_int) ad_nil))))
theorem cal_Finding___bool__ (T : Txt K mg ca) : ∃ f, Meth K (ca 2) ("__bool__" : Str) f ∧ PySem.W.fnIn K f = true ∧ Cal P w K mg base ca 1 f 1 F_Finding___bool__ := T.m_Finding___bool__.cal sc_Finding___bool__ rfl (body_Finding___bool__ T)
theorem met_Finding___bool__ (T : Txt K mg ca) : MetAt P w K mg base ca 1 2 ("__bool__" : Str) 0 F_Finding___bool__ := met_of T.cls2 (cal_Finding___bool__ T)
theorem slt_Finding___bool__ (T : Txt K mg ca) : SltAt P w K mg base ca 1 2 ("__bool__" : Str) 1 F_Finding___bool__ := slt_of (cal_Finding___bool__ T)
/-! ### _law_first_of -/
abbrev N__law_first_of : List Str := [("some" : Str), ("found" : Str), ("row" : Str)]
theorem sc__law_first_of : FnScope N__law_first_of [("some" : Str)] (defScope st__law_first_of) := ⟨rfl, rfl, rfl, by decide +kernel, rfl, by decide +kernel, by decide +kernel⟩
theorem body__law_first_of (T : Txt K mg ca) (f : Addr) (cdv : Value) (A : Around) (outer : List Env) (s : Shared) (H : Hp) (E : XK) (hr : Room 0 (cxD P w K mg base N__law_first_of ("_law_first_of" : Str) (defScope st__law_first_of) f cdv A outer s H E).A) (tk : Takes (cxD P w K mg base N__law_first_of ("_law_first_of" : Str) (defScope st__law_first_of) f cdv A outer s H E) (wD E))
    (hp : PassesOwn (model P w) (cxD P w K mg base N__law_first_of ("_law_first_of" : Str) (defScope st__law_first_of) f cdv A outer s H E).A (cxD P w K mg base N__law_first_of ("_law_first_of" : Str) (defScope st__law_first_of) f cdv A outer s H E).env (cxD P w K mg base N__law_first_of ("_law_first_of" : Str) (defScope st__law_first_of) f cdv A outer s H E).xe) :
    PSs (cxD P w K mg base N__law_first_of ("_law_first_of" : Str) (defScope st__law_first_of) f cdv A outer s H E) (defBody st__law_first_of) (tS ⟨K, ca⟩ (wD E) (B__law_first_of)) := by
  have nd := (sc__law_first_of).nd
  exact (sd_seq (sd_set 1 nd pd_non)
  (sd_seq (sd_for hp rfl (id_seq (pd_var 0)) (gd_name 2 nd)
  (sd_one (sd_if (PW.pt (wd_or (td_isN (pd_var 1)) (wd_or1 (td_cmp (op_ltR hr.units) ltR_s (pd_tup (ad_cons (pd_callB (cr_sumT rfl) sumT_s T.z_sum rfl (ad_cons (pd_var 2) ad_nil)) (ad_cons (pd_var 2) ad_nil))) (pd_tup (ad_cons (pd_callB (cr_sumT rfl) sumT_s T.z_sum rfl (ad_cons (pd_var 1) ad_nil)) (ad_cons (pd_var 1) ad_nil)))))))
  (sd_one (sd_set 1 nd (pd_var 2)))
  sd_nil)))
  (sd_one (sd_ret (pd_var 1)))))
theorem has__law_first_of (T : Txt K mg ca) : Has P w K mg base ca 1 ("_law_first_of" : Str) 1 F__law_first_of := T.d__law_first_of.has sc__law_first_of rfl (body__law_first_of T)
/-! ### _law_loosest_due -/
abbrev N__law_loosest_due : List Str := [("bad_rows" : Str), ("good_rows" : Str), ("k" : Str), ("j" : Str), ("most" : Str), ("there" : Str), ("left" : Str), ("row" : Str)]
theorem sc__law_loosest_due : FnScope N__law_loosest_due [("bad_rows" : Str), ("good_rows" : Str), ("k" : Str), ("j" : Str)] (defScope st__law_loosest_due) := ⟨rfl, rfl, rfl, by decide +kernel, rfl, by decide +kernel, by decide +kernel⟩
theorem body__law_loosest_due (T : Txt K mg ca) (f : Addr) (cdv : Value) (A : Around) (outer : List Env) (s : Shared) (H : Hp) (E : XK) (hr : Room 1 (cxD P w K mg base N__law_loosest_due ("_law_loosest_due" : Str) (defScope st__law_loosest_due) f cdv A outer s H E).A) (tk : Takes (cxD P w K mg base N__law_loosest_due ("_law_loosest_due" : Str) (defScope st__law_loosest_due) f cdv A outer s H E) (wD E))
    (hp : PassesOwn (model P w) (cxD P w K mg base N__law_loosest_due ("_law_loosest_due" : Str) (defScope st__law_loosest_due) f cdv A outer s H E).A (cxD P w K mg base N__law_loosest_due ("_law_loosest_due" : Str) (defScope st__law_loosest_due) f cdv A outer s H E).env (cxD P w K mg base N__law_loosest_due ("_law_loosest_due" : Str) (defScope st__law_loosest_due) f cdv A outer s H E).xe) :
    PSs (cxD P w K mg base N__law_loosest_due ("_law_loosest_due" : Str) (defScope st__law_loosest_due) f cdv A outer s H E) (defBody st__law_loosest_due) (tS ⟨K, ca⟩ (wD E) (B__law_loosest_due)) := by
  have nd := (sc__law_loosest_due).nd
  exact (sd_seq (sd_if (td_cmp (op_eqD hr.units) eq_s (pd_var 0) (pd_lst ad_nil))
  (sd_one (sd_ret (pd_tup (ad_cons pd_str ad_nil))))
  sd_nil)
  (sd_seq (sd_set 4 nd (pd_callB (cr_max rfl) maxL_s T.z_max rfl (ad_cons (pd_lc rfl nd (id_seq (pd_var 0)) (blkOk_by (own := [(("row" : Str), 7)]) (by kernel_rfl)) (fun _ _ _ _ _ => (gd_name 7 nd)) (by decide) (fun _ _ _ _ _ => tsd_nil) (fun _ _ _ _ _ => (pd_op op_sub sub_s (pd_ix (pd_op op_addD add_s (pd_tup (ad_cons pd_int ad_nil)) (pd_var 7)) (pd_var 2)) (pd_ix (pd_op op_addD add_s (pd_tup (ad_cons pd_int ad_nil)) (pd_var 7)) (pd_var 3))))) ad_nil)))
  (sd_seq (sd_setLc 5 rfl nd (id_seq (pd_var 0)) (blkOk_by (own := [(("row" : Str), 7)]) (by kernel_rfl)) (fun _ _ _ _ _ => (gd_name 7 nd)) (by decide) (fun _ _ _ _ _ => (tsd_one (td_cmp (op_eqD hr.units) eq_s (pd_op op_sub sub_s (pd_ix (pd_op op_addD add_s (pd_tup (ad_cons pd_int ad_nil)) (pd_var 7)) (pd_var 2)) (pd_ix (pd_op op_addD add_s (pd_tup (ad_cons pd_int ad_nil)) (pd_var 7)) (pd_var 3))) (pd_var 4)))) (fun _ _ _ _ _ => (pd_var 7)))
  (sd_seq (sd_setLc 6 rfl nd (id_seq (pd_var 1)) (blkOk_by (own := [(("row" : Str), 7)]) (by kernel_rfl)) (fun _ _ _ _ _ => (gd_name 7 nd)) (by decide) (fun _ _ _ _ _ => (tsd_one (td_cmp op_gt gt_s (pd_op op_sub sub_s (pd_ix (pd_op op_addD add_s (pd_tup (ad_cons pd_int ad_nil)) (pd_var 7)) (pd_var 2)) (pd_ix (pd_op op_addD add_s (pd_tup (ad_cons pd_int ad_nil)) (pd_var 7)) (pd_var 3))) (pd_var 4)))) (fun _ _ _ _ _ => (pd_var 7)))
  (sd_one (sd_ret (pd_tup (ad_cons pd_str (ad_cons (pd_op op_addD add_s (pd_var 4) pd_int) (ad_cons (pd_fn (Has.mono (has__law_first_of T) (by first | decide | exact Nat.le_refl _)) hr tk (ad_cons (pd_var 5) ad_nil)) (ad_cons (pd_fn (Has.mono (has__law_first_of T) (by first | decide | exact Nat.le_refl _)) hr tk (ad_cons (pd_var 6) ad_nil)) ad_nil)))))))))))
theorem has__law_loosest_due (T : Txt K mg ca) : Has P w K mg base ca 2 ("_law_loosest_due" : Str) 4 F__law_loosest_due := T.d__law_loosest_due.has sc__law_loosest_due rfl (body__law_loosest_due T)
/-! ### sheet_in -/
abbrev N_sheet_in : List Str := [("finding" : Str), ("parts" : Str)]
theorem sc_sheet_in : FnScope N_sheet_in [("finding" : Str)] (defScope st_sheet_in) := ⟨rfl, rfl, rfl, by decide +kernel, rfl, by decide +kernel, by decide +kernel⟩
theorem body_sheet_in (T : Txt K mg ca) (f : Addr) (cdv : Value) (A : Around) (outer : List Env) (s : Shared) (H : Hp) (E : XK) (hr : Room 0 (cxD P w K mg base N_sheet_in ("sheet_in" : Str) (defScope st_sheet_in) f cdv A outer s H E).A) (tk : Takes (cxD P w K mg base N_sheet_in ("sheet_in" : Str) (defScope st_sheet_in) f cdv A outer s H E) (wD E))
    (hp : PassesOwn (model P w) (cxD P w K mg base N_sheet_in ("sheet_in" : Str) (defScope st_sheet_in) f cdv A outer s H E).A (cxD P w K mg base N_sheet_in ("sheet_in" : Str) (defScope st_sheet_in) f cdv A outer s H E).env (cxD P w K mg base N_sheet_in ("sheet_in" : Str) (defScope st_sheet_in) f cdv A outer s H E).xe) :
    PSs (cxD P w K mg base N_sheet_in ("sheet_in" : Str) (defScope st_sheet_in) f cdv A outer s H E) (defBody st_sheet_in) (tS ⟨K, ca⟩ (wD E) (B_sheet_in)) := by
  have nd := (sc_sheet_in).nd
  exact (sd_seq (sd_set 1 nd (pd_tup (ad_star (pd_fld (fld1 1 T.cls1 T.no1_parts) (pd_fld (fld1 2 T.cls2 T.no2_bad) (pd_var 0))) (ad_star (pd_fld (fld1 1 T.cls1 T.no1_parts) (pd_fld (fld1 2 T.cls2 T.no2_good) (pd_var 0))) ad_nil))))
  (sd_one (sd_ret (pd_ix (pd_var 1) pd_int))))
theorem has_sheet_in (T : Txt K mg ca) : Has P w K mg base ca 1 ("sheet_in" : Str) 1 F_sheet_in := T.d_sheet_in.has sc_sheet_in rfl (body_sheet_in T)
/-! ### check_known -/
abbrev N_check_known : List Str := [("nodes" : Str), ("names" : Str), ("name" : Str)]
theorem sc_check_known : FnScope N_check_known [("nodes" : Str), ("names" : Str)] (defScope st_check_known) := ⟨rfl, rfl, rfl, by decide +kernel, rfl, by decide +kernel, by decide +kernel⟩
theorem body_check_known (T : Txt K mg ca) (f : Addr) (cdv : Value) (A : Around) (outer : List Env) (s : Shared) (H : Hp) (E : XK) (hr : Room 0 (cxD P w K mg base N_check_known ("check_known" : Str) (defScope st_check_known) f cdv A outer s H E).A) (tk : Takes (cxD P w K mg base N_check_known ("check_known" : Str) (defScope st_check_known) f cdv A outer s H E) (wD E))
    (hp : PassesOwn (model P w) (cxD P w K mg base N_check_known ("check_known" : Str) (defScope st_check_known) f cdv A outer s H E).A (cxD P w K mg base N_check_known ("check_known" : Str) (defScope st_check_known) f cdv A outer s H E).env (cxD P w K mg base N_check_known ("check_known" : Str) (defScope st_check_known) f cdv A outer s H E).xe) :
    PSs (cxD P w K mg base N_check_known ("check_known" : Str) (defScope st_check_known) f cdv A outer s H E) (defBody st_check_known) (tS ⟨K, ca⟩ (wD E) (B_check_known)) := by
  have nd := (sc_check_known).nd
  exact (sd_one (sd_for hp rfl (id_seq (pd_var 1)) (gd_name 2 nd)
  (sd_one (sd_if (td_cmp (op_notInA (room65 hr)) in_s (pd_var 2) (pd_var 0))
  (sd_one sd_never)
  sd_nil))))
theorem has_check_known (T : Txt K mg ca) : Has P w K mg base ca 1 ("check_known" : Str) 2 F_check_known := T.d_check_known.has sc_check_known rfl (body_check_known T)
/-! ### tables_of -/
abbrev N_tables_of : List Str := [("family" : Str), ("sheet" : Str)]
theorem sc_tables_of : FnScope N_tables_of [("family" : Str)] (defScope st_tables_of) := ⟨rfl, rfl, rfl, by decide +kernel, rfl, by decide +kernel, by decide +kernel⟩
theorem body_tables_of (T : Txt K mg ca) (f : Addr) (cdv : Value) (A : Around) (outer : List Env) (s : Shared) (H : Hp) (E : XK) (hr : Room 0 (cxD P w K mg base N_tables_of ("tables_of" : Str) (defScope st_tables_of) f cdv A outer s H E).A) (tk : Takes (cxD P w K mg base N_tables_of ("tables_of" : Str) (defScope st_tables_of) f cdv A outer s H E) (wD E))
    (hp : PassesOwn (model P w) (cxD P w K mg base N_tables_of ("tables_of" : Str) (defScope st_tables_of) f cdv A outer s H E).A (cxD P w K mg base N_tables_of ("tables_of" : Str) (defScope st_tables_of) f cdv A outer s H E).env (cxD P w K mg base N_tables_of ("tables_of" : Str) (defScope st_tables_of) f cdv A outer s H E).xe) :
    PSs (cxD P w K mg base N_tables_of ("tables_of" : Str) (defScope st_tables_of) f cdv A outer s H E) (defBody st_tables_of) (tS ⟨K, ca⟩ (wD E) (B_tables_of)) := by
  have nd := (sc_tables_of).nd
  exact (sd_one (sd_ret (pd_lc rfl nd (id_seq (pd_fld (fld1 1 T.cls1 T.no1_parts) (pd_var 0))) (blkOk_by (own := [(("sheet" : Str), 1)]) (by kernel_rfl)) (fun _ _ _ _ _ => (gd_name 1 nd)) (by decide) (fun _ _ _ _ _ => tsd_nil) (fun _ _ _ _ _ => (pd_fld (fld1 0 T.cls0 T.no0_bounds) (pd_var 1))))))
theorem has_tables_of (T : Txt K mg ca) : Has P w K mg base ca 1 ("tables_of" : Str) 1 F_tables_of := T.d_tables_of.has sc_tables_of rfl (body_tables_of T)
/-! ### rank -/
abbrev N_rank : List Str := [("numbers" : Str)]
theorem sc_rank : FnScope N_rank [("numbers" : Str)] (defScope st_rank) := ⟨rfl, rfl, rfl, by decide +kernel, rfl, by decide +kernel, by decide +kernel⟩
theorem body_rank (T : Txt K mg ca) (f : Addr) (cdv : Value) (A : Around) (outer : List Env) (s : Shared) (H : Hp) (E : XK) (hr : Room 0 (cxD P w K mg base N_rank ("rank" : Str) (defScope st_rank) f cdv A outer s H E).A) (tk : Takes (cxD P w K mg base N_rank ("rank" : Str) (defScope st_rank) f cdv A outer s H E) (wD E))
    (hp : PassesOwn (model P w) (cxD P w K mg base N_rank ("rank" : Str) (defScope st_rank) f cdv A outer s H E).A (cxD P w K mg base N_rank ("rank" : Str) (defScope st_rank) f cdv A outer s H E).env (cxD P w K mg base N_rank ("rank" : Str) (defScope st_rank) f cdv A outer s H E).xe) :
    PSs (cxD P w K mg base N_rank ("rank" : Str) (defScope st_rank) f cdv A outer s H E) (defBody st_rank) (tS ⟨K, ca⟩ (wD E) (B_rank)) := by
  have nd := (sc_rank).nd
  exact (sd_one (sd_ret (pd_tup (ad_cons (pd_callB (cr_sumT rfl) sumT_s T.z_sum rfl (ad_cons (pd_var 0) ad_nil)) (ad_cons (pd_var 0) ad_nil)))))
theorem has_rank (T : Txt K mg ca) : Has P w K mg base ca 1 ("rank" : Str) 1 F_rank := T.d_rank.has sc_rank rfl (body_rank T)
/-! ### least_recording -/
abbrev N_least_recording : List Str := [("some" : Str), ("found" : Str), ("numbers" : Str)]
theorem sc_least_recording : FnScope N_least_recording [("some" : Str)] (defScope st_least_recording) := ⟨rfl, rfl, rfl, by decide +kernel, rfl, by decide +kernel, by decide +kernel⟩
theorem body_least_recording (T : Txt K mg ca) (f : Addr) (cdv : Value) (A : Around) (outer : List Env) (s : Shared) (H : Hp) (E : XK) (hr : Room 1 (cxD P w K mg base N_least_recording ("least_recording" : Str) (defScope st_least_recording) f cdv A outer s H E).A) (tk : Takes (cxD P w K mg base N_least_recording ("least_recording" : Str) (defScope st_least_recording) f cdv A outer s H E) (wD E))
    (hp : PassesOwn (model P w) (cxD P w K mg base N_least_recording ("least_recording" : Str) (defScope st_least_recording) f cdv A outer s H E).A (cxD P w K mg base N_least_recording ("least_recording" : Str) (defScope st_least_recording) f cdv A outer s H E).env (cxD P w K mg base N_least_recording ("least_recording" : Str) (defScope st_least_recording) f cdv A outer s H E).xe) :
    PSs (cxD P w K mg base N_least_recording ("least_recording" : Str) (defScope st_least_recording) f cdv A outer s H E) (defBody st_least_recording) (tS ⟨K, ca⟩ (wD E) (B_least_recording)) := by
  have nd := (sc_least_recording).nd
  exact (sd_seq (sd_set 1 nd pd_non)
  (sd_seq (sd_for hp rfl (id_seq (pd_var 0)) (gd_name 2 nd)
  (sd_one (sd_if (PW.pt (wd_or (td_isN (pd_var 1)) (wd_or1 (td_cmp (op_ltR hr.units) ltR_s (pd_fn (Has.mono (has_rank T) (by first | decide | exact Nat.le_refl _)) hr tk (ad_cons (pd_var 2) ad_nil)) (pd_fn (Has.mono (has_rank T) (by first | decide | exact Nat.le_refl _)) hr tk (ad_cons (pd_var 1) ad_nil))))))
  (sd_one (sd_set 1 nd (pd_var 2)))
  sd_nil)))
  (sd_one (sd_ret (pd_var 1)))))
theorem has_least_recording (T : Txt K mg ca) : Has P w K mg base ca 2 ("least_recording" : Str) 1 F_least_recording := T.d_least_recording.has sc_least_recording rfl (body_least_recording T)
/-! ### least_numbers -/
abbrev N_least_numbers : List Str := [("bounds" : Str), ("bound" : Str)]
theorem sc_least_numbers : FnScope N_least_numbers [("bounds" : Str)] (defScope st_least_numbers) := ⟨rfl, rfl, rfl, by decide +kernel, rfl, by decide +kernel, by decide +kernel⟩
theorem body_least_numbers (T : Txt K mg ca) (f : Addr) (cdv : Value) (A : Around) (outer : List Env) (s : Shared) (H : Hp) (E : XK) (hr : Room 0 (cxD P w K mg base N_least_numbers ("least_numbers" : Str) (defScope st_least_numbers) f cdv A outer s H E).A) (tk : Takes (cxD P w K mg base N_least_numbers ("least_numbers" : Str) (defScope st_least_numbers) f cdv A outer s H E) (wD E))
    (hp : PassesOwn (model P w) (cxD P w K mg base N_least_numbers ("least_numbers" : Str) (defScope st_least_numbers) f cdv A outer s H E).A (cxD P w K mg base N_least_numbers ("least_numbers" : Str) (defScope st_least_numbers) f cdv A outer s H E).env (cxD P w K mg base N_least_numbers ("least_numbers" : Str) (defScope st_least_numbers) f cdv A outer s H E).xe) :
    PSs (cxD P w K mg base N_least_numbers ("least_numbers" : Str) (defScope st_least_numbers) f cdv A outer s H E) (defBody st_least_numbers) (tS ⟨K, ca⟩ (wD E) (B_least_numbers)) := by
  have nd := (sc_least_numbers).nd
  exact (sd_one (sd_ret (pd_callTy call_tuple_of tupOf_s T.z_tuple rfl (ad_cons (pd_lc rfl nd (id_seq (pd_slice (pd_ix (pd_var 0) (pd_cst T.c_ZERO (fun _ _ _ => .int _))) (od_some pd_int) od_none)) (blkOk_by (own := [(("bound" : Str), 1)]) (by kernel_rfl)) (fun _ _ _ _ _ => (gd_name 1 nd)) (by decide) (fun _ _ _ _ _ => tsd_nil) (fun _ _ _ _ _ => (pd_un un_neg neg_s (pd_var 1)))) ad_nil))))
theorem has_least_numbers (T : Txt K mg ca) : Has P w K mg base ca 1 ("least_numbers" : Str) 1 F_least_numbers := T.d_least_numbers.has sc_least_numbers rfl (body_least_numbers T)
/-! ### least_with -/
abbrev N_least_with : List Str := [("some" : Str), ("facts" : Str), ("left" : Str), ("bounds" : Str)]
theorem sc_least_with : FnScope N_least_with [("some" : Str), ("facts" : Str)] (defScope st_least_with) := ⟨rfl, rfl, rfl, by decide +kernel, rfl, by decide +kernel, by decide +kernel⟩
theorem body_least_with (T : Txt K mg ca) (f : Addr) (cdv : Value) (A : Around) (outer : List Env) (s : Shared) (H : Hp) (E : XK) (hr : Room 3 (cxD P w K mg base N_least_with ("least_with" : Str) (defScope st_least_with) f cdv A outer s H E).A) (tk : Takes (cxD P w K mg base N_least_with ("least_with" : Str) (defScope st_least_with) f cdv A outer s H E) (wD E))
    (hp : PassesOwn (model P w) (cxD P w K mg base N_least_with ("least_with" : Str) (defScope st_least_with) f cdv A outer s H E).A (cxD P w K mg base N_least_with ("least_with" : Str) (defScope st_least_with) f cdv A outer s H E).env (cxD P w K mg base N_least_with ("least_with" : Str) (defScope st_least_with) f cdv A outer s H E).xe) :
    PSs (cxD P w K mg base N_least_with ("least_with" : Str) (defScope st_least_with) f cdv A outer s H E) (defBody st_least_with) (tS ⟨K, ca⟩ (wD E) (B_least_with)) := by
  have nd := (sc_least_with).nd
  exact (sd_seq (sd_setLc 2 rfl nd (id_seq (pd_var 0)) (blkOk_by (own := [(("bounds" : Str), 3)]) (by kernel_rfl)) (fun _ _ _ _ _ => (gd_name 3 nd)) (by decide) (fun _ _ _ _ _ => tsd_nil) (fun _ _ _ _ _ => (pd_fn (Has.mono (has_narrowed_by T) (by first | decide | exact Nat.le_refl _)) hr takes0 (ad_cons (pd_var 3) (ad_cons (pd_var 1) ad_nil)))))
  (sd_one (sd_ret (pd_fn (Has.mono (has_least_recording T) (by first | decide | exact Nat.le_refl _)) hr tk (ad_cons (pd_lc rfl nd (id_seq (pd_var 2)) (blkOk_by (own := [(("bounds" : Str), 3)]) (by kernel_rfl)) (fun _ _ _ _ _ => (gd_name 3 nd)) (by decide) (fun _ _ _ _ _ => (tsd_one (td_notN (pd_var 3)))) (fun _ _ _ _ _ => (pd_fn (Has.mono (has_least_numbers T) (by first | decide | exact Nat.le_refl _)) hr takes0 (ad_cons (pd_var 3) ad_nil)))) ad_nil)))))
theorem has_least_with (T : Txt K mg ca) : Has P w K mg base ca 4 ("least_with" : Str) 2 F_least_with := T.d_least_with.has sc_least_with rfl (body_least_with T)
/-! ### loosest -/
abbrev N_loosest : List Str := [("finding" : Str), ("x" : Str), ("y" : Str), ("nodes" : Str), ("bad" : Str), ("ahead" : Str), ("behind" : Str), ("ends" : Str), ("most" : Str), ("good" : Str), ("bounds" : Str)]
theorem sc_loosest : FnScope N_loosest [("finding" : Str), ("x" : Str), ("y" : Str)] (defScope st_loosest) := ⟨rfl, rfl, rfl, by decide +kernel, rfl, by decide +kernel, by decide +kernel⟩
theorem body_loosest (T : Txt K mg ca) (f : Addr) (cdv : Value) (A : Around) (outer : List Env) (s : Shared) (H : Hp) (E : XK) (hr : Room 4 (cxD P w K mg base N_loosest ("loosest" : Str) (defScope st_loosest) f cdv A outer s H E).A) (tk : Takes (cxD P w K mg base N_loosest ("loosest" : Str) (defScope st_loosest) f cdv A outer s H E) (wD E))
    (hp : PassesOwn (model P w) (cxD P w K mg base N_loosest ("loosest" : Str) (defScope st_loosest) f cdv A outer s H E).A (cxD P w K mg base N_loosest ("loosest" : Str) (defScope st_loosest) f cdv A outer s H E).env (cxD P w K mg base N_loosest ("loosest" : Str) (defScope st_loosest) f cdv A outer s H E).xe) :
    PSs (cxD P w K mg base N_loosest ("loosest" : Str) (defScope st_loosest) f cdv A outer s H E) (defBody st_loosest) (tS ⟨K, ca⟩ (wD E) (B_loosest)) := by
  have nd := (sc_loosest).nd
  exact (sd_seq (sd_set 3 nd (pd_fld (fld1 0 T.cls0 T.no0_nodes) (pd_fn (Has.mono (has_sheet_in T) (by first | decide | exact Nat.le_refl _)) hr tk (ad_cons (pd_var 0) ad_nil))))
  (sd_seq (sd_expr (pd_fn (Has.mono (has_check_known T) (by first | decide | exact Nat.le_refl _)) hr tk (ad_cons (pd_var 3) (ad_cons (pd_tup (ad_cons (pd_var 1) (ad_cons (pd_var 2) ad_nil))) ad_nil))))
  (sd_seq (sd_if (td_cmp (op_eqD hr.units) eq_s (pd_var 1) (pd_var 2))
  (sd_one sd_never)
  sd_nil)
  (sd_seq (sd_set 4 nd (pd_fn (Has.mono (has_tables_of T) (by first | decide | exact Nat.le_refl _)) hr tk (ad_cons (pd_fld (fld1 2 T.cls2 T.no2_bad) (pd_var 0)) ad_nil)))
  (sd_seq (sd_if (td_cmp (op_eqD hr.units) eq_s (pd_var 4) (pd_lst ad_nil))
  (sd_one (sd_ret (pd_tup (ad_cons pd_str ad_nil))))
  sd_nil)
  (sd_seq (sd_asg (pd_tup (ad_cons (pd_fn (Has.mono (has_number_of T) (by first | decide | exact Nat.le_refl _)) hr tk (ad_cons (pd_var 3) (ad_cons (pd_var 1) ad_nil))) (ad_cons (pd_fn (Has.mono (has_number_of T) (by first | decide | exact Nat.le_refl _)) hr tk (ad_cons (pd_var 3) (ad_cons (pd_var 2) ad_nil))) ad_nil))) (gd_tup rfl (gsd_cons (gd_name 5 nd) (gsd_cons (gd_name 6 nd) gsd_nil))))
  (sd_seq (sd_setLc 7 rfl nd (id_seq (pd_var 4)) (blkOk_by (own := [(("bounds" : Str), 10)]) (by kernel_rfl)) (fun _ _ _ _ _ => (gd_name 10 nd)) (by decide) (fun _ _ _ _ _ => tsd_nil) (fun _ _ _ _ _ => (pd_ix (pd_ix (pd_var 10) (pd_var 5)) (pd_var 6))))
  (sd_seq (sd_if (td_cmp (op_inA (room65 hr)) in_s pd_non (pd_var 7))
  (sd_one (sd_ret (pd_tup (ad_cons pd_str ad_nil))))
  sd_nil)
  (sd_seq (sd_set 8 nd (pd_callB (cr_max rfl) maxL_s T.z_max rfl (ad_cons (pd_var 7) ad_nil)))
  (sd_seq (sd_set 9 nd (pd_fn (Has.mono (has_least_with T) (by first | decide | exact Nat.le_refl _)) hr tk (ad_cons (pd_fn (Has.mono (has_tables_of T) (by first | decide | exact Nat.le_refl _)) hr tk (ad_cons (pd_fld (fld1 2 T.cls2 T.no2_good) (pd_var 0)) ad_nil)) (ad_cons (pd_lst (ad_cons (pd_tup (ad_cons (pd_var 6) (ad_cons (pd_var 5) (ad_cons (pd_op op_sub sub_s (pd_un un_neg neg_s (pd_var 8)) pd_int) ad_nil)))) ad_nil)) ad_nil))))
  (sd_one (sd_ret (pd_tup (ad_cons pd_str (ad_cons (pd_op op_addD add_s (pd_var 8) pd_int) (ad_cons (pd_fn (Has.mono (has_least_with T) (by first | decide | exact Nat.le_refl _)) hr tk (ad_cons (pd_var 4) (ad_cons (pd_lst (ad_cons (pd_tup (ad_cons (pd_var 6) (ad_cons (pd_var 5) (ad_cons (pd_un un_neg neg_s (pd_var 8)) ad_nil)))) ad_nil)) ad_nil))) (ad_cons (pd_var 9) ad_nil)))))))))))))))))
theorem hask_loosest_y_finding_x (T : Txt K mg ca) : HasK P w K mg base ca 5 ("loosest" : Str) [("y" : Str), ("finding" : Str), ("x" : Str)] KF_loosest_y_finding_x := T.d_loosest.kw0 sc_loosest [("y" : Str), ("finding" : Str), ("x" : Str)] [(false, 1), (false, 2), (false, 0)] rfl (by decide) (fun fd e us ws h1 h2 => by
  obtain ⟨kV, doc, pm, an, cdv, ct, rfl⟩ := e
  match us, ws, h1, h2 with
  | [], [_, _, _], _, _ => rfl) (body_loosest T)
theorem has_loosest (T : Txt K mg ca) : Has P w K mg base ca 5 ("loosest" : Str) 3 F_loosest := T.d_loosest.has sc_loosest rfl (body_loosest T)
/-! ### _law_pairs_right -/
abbrev N__law_pairs_right : List Str := [("inquiry" : Str), ("nodes" : Str), ("bad_rows" : Str), ("good_rows" : Str), ("turn" : Str), ("k" : Str), ("j" : Str), ("due" : Str), ("heard" : Str)]
theorem sc__law_pairs_right : FnScope N__law_pairs_right [("inquiry" : Str), ("nodes" : Str), ("bad_rows" : Str), ("good_rows" : Str), ("turn" : Str)] (defScope st__law_pairs_right) := ⟨rfl, rfl, rfl, by decide +kernel, rfl, by decide +kernel, by decide +kernel⟩
theorem body__law_pairs_right (T : Txt K mg ca) (f : Addr) (cdv : Value) (A : Around) (outer : List Env) (s : Shared) (H : Hp) (E : XK) (hr : Room 7 (cxD P w K mg base N__law_pairs_right ("_law_pairs_right" : Str) (defScope st__law_pairs_right) f cdv A outer s H E).A) (tk : Takes (cxD P w K mg base N__law_pairs_right ("_law_pairs_right" : Str) (defScope st__law_pairs_right) f cdv A outer s H E) (wD E))
    (hp : PassesOwn (model P w) (cxD P w K mg base N__law_pairs_right ("_law_pairs_right" : Str) (defScope st__law_pairs_right) f cdv A outer s H E).A (cxD P w K mg base N__law_pairs_right ("_law_pairs_right" : Str) (defScope st__law_pairs_right) f cdv A outer s H E).env (cxD P w K mg base N__law_pairs_right ("_law_pairs_right" : Str) (defScope st__law_pairs_right) f cdv A outer s H E).xe) :
    PSs (cxD P w K mg base N__law_pairs_right ("_law_pairs_right" : Str) (defScope st__law_pairs_right) f cdv A outer s H E) (defBody st__law_pairs_right) (tS ⟨K, ca⟩ (wD E) (B__law_pairs_right)) := by
  have nd := (sc__law_pairs_right).nd
  exact (sd_seq (sd_for hp rfl (id_range1 T.z_range (ad_cons (pd_callB call_len len_s T.z_len rfl (ad_cons (pd_var 1) ad_nil)) ad_nil)) (gd_name 5 nd)
  (sd_one (sd_for hp rfl (id_range1 T.z_range (ad_cons (pd_callB call_len len_s T.z_len rfl (ad_cons (pd_var 1) ad_nil)) ad_nil)) (gd_name 6 nd)
  (sd_one (sd_if (td_cmp (op_neD hr.units) ne_s (pd_var 5) (pd_var 6))
  (sd_seq (sd_set 7 nd (pd_fn (Has.mono (has__law_loosest_due T) (by first | decide | exact Nat.le_refl _)) hr tk (ad_cons (pd_var 2) (ad_cons (pd_var 3) (ad_cons (pd_var 5) (ad_cons (pd_var 6) ad_nil))))))
  (sd_seq (sd_set 8 nd (pd_fn (Has.mono (has_loosest T) (by first | decide | exact Nat.le_refl _)) hr tk (ad_cons (pd_var 0) (ad_cons (pd_ix (pd_var 1) (pd_var 5)) (ad_cons (pd_ix (pd_var 1) (pd_var 6)) ad_nil)))))
  (sd_seq (sd_if (td_cmp (op_eqD hr.units) eq_s (pd_var 4) pd_int)
  (sd_one (sd_set 8 nd (pd_callK0 (ks := [("y" : Str), ("finding" : Str), ("x" : Str)]) (HasK.mono (hask_loosest_y_finding_x T) (by first | decide | exact Nat.le_refl _)) hr tk (kd_cons (pd_ix (pd_var 1) (pd_var 6)) (kd_cons (pd_var 0) (kd_cons (pd_ix (pd_var 1) (pd_var 5)) kd_nil))))))
  sd_nil)
  (sd_one (sd_if (td_not (td_tru (pd_fn (Has.mono (has__law_kin T) (by first | decide | exact Nat.le_refl _)) hr tk (ad_cons (pd_var 8) (ad_cons (pd_var 7) ad_nil)))))
  (sd_one (sd_ret pd_bl))
  sd_nil)))))
  sd_nil)))))
  (sd_one (sd_ret pd_bl)))
theorem has__law_pairs_right (T : Txt K mg ca) : Has P w K mg base ca 8 ("_law_pairs_right" : Str) 5 F__law_pairs_right := T.d__law_pairs_right.has sc__law_pairs_right rfl (body__law_pairs_right T)
/-! ### Family.least -/
abbrev N_Family_least : List Str := [("self" : Str), ("bounds" : Str)]
theorem sc_Family_least : FnScope N_Family_least [("self" : Str)] (defScope st_Family_least) := ⟨rfl, rfl, rfl, by decide +kernel, rfl, by decide +kernel, by decide +kernel⟩
theorem body_Family_least (T : Txt K mg ca) (f : Addr) (cdv : Value) (A : Around) (outer : List Env) (s : Shared) (H : Hp) (E : XK) (hr : Room 2 (cxD P w K mg base N_Family_least ("Family.least" : Str) (defScope st_Family_least) f cdv A outer s H E).A) (tk : Takes (cxD P w K mg base N_Family_least ("Family.least" : Str) (defScope st_Family_least) f cdv A outer s H E) (wD E))
    (hp : PassesOwn (model P w) (cxD P w K mg base N_Family_least ("Family.least" : Str) (defScope st_Family_least) f cdv A outer s H E).A (cxD P w K mg base N_Family_least ("Family.least" : Str) (defScope st_Family_least) f cdv A outer s H E).env (cxD P w K mg base N_Family_least ("Family.least" : Str) (defScope st_Family_least) f cdv A outer s H E).xe) :
    PSs (cxD P w K mg base N_Family_least ("Family.least" : Str) (defScope st_Family_least) f cdv A outer s H E) (defBody st_Family_least) (tS ⟨K, ca⟩ (wD E) (B_Family_least)) := by
  have nd := (sc_Family_least).nd
  exact (sd_one (sd_ret (pd_fn (Has.mono (has_least_recording T) (by first | decide | exact Nat.le_refl _)) hr tk (ad_cons (pd_lc rfl nd (id_seq (pd_fn (Has.mono (has_tables_of T) (by first | decide | exact Nat.le_refl _)) hr tk (ad_cons (pd_var 0) ad_nil))) (blkOk_by (own := [(("bounds" : Str), 1)]) (by kernel_rfl)) (fun _ _ _ _ _ => (gd_name 1 nd)) (by decide) (fun _ _ _ _ _ => tsd_nil) (fun _ _ _ _ _ => (pd_fn (Has.mono (has_least_numbers T) (by first | decide | exact Nat.le_refl _)) hr takes0 (ad_cons (pd_var 1) ad_nil)))) ad_nil))))
theorem prop_Family_least (T : Txt K mg ca) : PropAt P w K mg base ca 3 1 ("least" : Str) F_Family_least := T.p_Family_least.at T.cls1 sc_Family_least (body_Family_least T)
/-! ### Finding.least_bad -/
abbrev N_Finding_least_bad : List Str := [("self" : Str)]
theorem sc_Finding_least_bad : FnScope N_Finding_least_bad [("self" : Str)] (defScope st_Finding_least_bad) := ⟨rfl, rfl, rfl, by decide +kernel, rfl, by decide +kernel, by decide +kernel⟩
theorem body_Finding_least_bad (T : Txt K mg ca) (f : Addr) (cdv : Value) (A : Around) (outer : List Env) (s : Shared) (H : Hp) (E : XK) (hr : Room 4 (cxD P w K mg base N_Finding_least_bad ("Finding.least_bad" : Str) (defScope st_Finding_least_bad) f cdv A outer s H E).A) (tk : Takes (cxD P w K mg base N_Finding_least_bad ("Finding.least_bad" : Str) (defScope st_Finding_least_bad) f cdv A outer s H E) (wD E))
    (hp : PassesOwn (model P w) (cxD P w K mg base N_Finding_least_bad ("Finding.least_bad" : Str) (defScope st_Finding_least_bad) f cdv A outer s H E).A (cxD P w K mg base N_Finding_least_bad ("Finding.least_bad" : Str) (defScope st_Finding_least_bad) f cdv A outer s H E).env (cxD P w K mg base N_Finding_least_bad ("Finding.least_bad" : Str) (defScope st_Finding_least_bad) f cdv A outer s H E).xe) :
    PSs (cxD P w K mg base N_Finding_least_bad ("Finding.least_bad" : Str) (defScope st_Finding_least_bad) f cdv A outer s H E) (defBody st_Finding_least_bad) (tS ⟨K, ca⟩ (wD E) (B_Finding_least_bad)) := by
  have nd := (sc_Finding_least_bad).nd
  exact (sd_one (sd_ret (pd_prop (T := [(1, F_Family_least)]) (prop1 (prop_Family_least T) (Nat.le_refl _)) (hr.mono (by decide)) (pd_fld (fld1 2 T.cls2 T.no2_bad) (pd_var 0)))))
theorem prop_Finding_least_bad (T : Txt K mg ca) : PropAt P w K mg base ca 5 2 ("least_bad" : Str) F_Finding_least_bad := T.p_Finding_least_bad.at T.cls2 sc_Finding_least_bad (body_Finding_least_bad T)
/-! ### Finding.least_good -/
abbrev N_Finding_least_good : List Str := [("self" : Str)]
theorem sc_Finding_least_good : FnScope N_Finding_least_good [("self" : Str)] (defScope st_Finding_least_good) := ⟨rfl, rfl, rfl, by decide +kernel, rfl, by decide +kernel, by decide +kernel⟩
theorem body_Finding_least_good (T : Txt K mg ca) (f : Addr) (cdv : Value) (A : Around) (outer : List Env) (s : Shared) (H : Hp) (E : XK) (hr : Room 4 (cxD P w K mg base N_Finding_least_good ("Finding.least_good" : Str) (defScope st_Finding_least_good) f cdv A outer s H E).A) (tk : Takes (cxD P w K mg base N_Finding_least_good ("Finding.least_good" : Str) (defScope st_Finding_least_good) f cdv A outer s H E) (wD E))
    (hp : PassesOwn (model P w) (cxD P w K mg base N_Finding_least_good ("Finding.least_good" : Str) (defScope st_Finding_least_good) f cdv A outer s H E).A (cxD P w K mg base N_Finding_least_good ("Finding.least_good" : Str) (defScope st_Finding_least_good) f cdv A outer s H E).env (cxD P w K mg base N_Finding_least_good ("Finding.least_good" : Str) (defScope st_Finding_least_good) f cdv A outer s H E).xe) :
    PSs (cxD P w K mg base N_Finding_least_good ("Finding.least_good" : Str) (defScope st_Finding_least_good) f cdv A outer s H E) (defBody st_Finding_least_good) (tS ⟨K, ca⟩ (wD E) (B_Finding_least_good)) := by
  have nd := (sc_Finding_least_good).nd
  exact (sd_one (sd_ret (pd_prop (T := [(1, F_Family_least)]) (prop1 (prop_Family_least T) (Nat.le_refl _)) (hr.mono (by decide)) (pd_fld (fld1 2 T.cls2 T.no2_good) (pd_var 0)))))
theorem prop_Finding_least_good (T : Txt K mg ca) : PropAt P w K mg base ca 5 2 ("least_good" : Str) F_Finding_least_good := T.p_Finding_least_good.at T.cls2 sc_Finding_least_good (body_Finding_least_good T)
/-! ### law -/
abbrev N_law : List Str := [("script" : Str), ("at" : Str), ("pit" : Str), ("ms" : Str), ("ts" : Str), ("some" : Str), ("bad_side" : Str), ("good_side" : Str), ("rows" : Str), ("bad_rows" : Str), ("good_rows" : Str), ("one" : Str), ("two" : Str), ("papers" : Str), ("inquiry" : Str), ("due" : Str), ("turn" : Str), ("fs" : Str)]
theorem sc_law : FnScope N_law [("script" : Str)] (defScope st_law) := ⟨rfl, rfl, rfl, by decide +kernel, rfl, by decide +kernel, by decide +kernel⟩
theorem body_law (T : Txt K mg ca) (f : Addr) (cdv : Value) (A : Around) (outer : List Env) (s : Shared) (H : Hp) (E : XK) (hr : Room 8 (cxD P w K mg base N_law ("law" : Str) (defScope st_law) f cdv A outer s H E).A) (tk : Takes (cxD P w K mg base N_law ("law" : Str) (defScope st_law) f cdv A outer s H E) (wD E))
    (hp : PassesOwn (model P w) (cxD P w K mg base N_law ("law" : Str) (defScope st_law) f cdv A outer s H E).A (cxD P w K mg base N_law ("law" : Str) (defScope st_law) f cdv A outer s H E).env (cxD P w K mg base N_law ("law" : Str) (defScope st_law) f cdv A outer s H E).xe) :
    PSs (cxD P w K mg base N_law ("law" : Str) (defScope st_law) f cdv A outer s H E) (defBody st_law) (tS ⟨K, ca⟩ (wD E) (B_law)) := by
  have nd := (sc_law).nd
  exact (sd_seq (sd_for hp rfl (id_range1 T.z_range (ad_cons (pd_callB (call_max2 rfl) i2_s T.z_max rfl (ad_cons pd_int (ad_cons (pd_callB (call_min2 rfl) i2_s T.z_min rfl (ad_cons pd_int (ad_cons (pd_callB call_len len_s T.z_len rfl (ad_cons (pd_var 0) ad_nil)) ad_nil))) ad_nil))) ad_nil)) (gd_name 1 nd)
  (sd_seq (sd_set 2 nd (pd_fn (Has.mono (has__law_pit T) (by first | decide | exact Nat.le_refl _)) hr tk (ad_cons (pd_var 0) (ad_cons (pd_var 1) ad_nil))))
  (sd_seq (sd_set 3 nd (pd_fn (Has.mono (has__law_call_names T) (by first | decide | exact Nat.le_refl _)) hr tk (ad_cons (pd_var 2) (ad_cons (pd_op op_addD add_s pd_int (pd_fn (Has.mono (has__law_hoist T) (by first | decide | exact Nat.le_refl _)) hr tk (ad_cons (pd_var 2) (ad_cons pd_int ad_nil)))) ad_nil))))
  (sd_seq (sd_set 4 nd (pd_slice (pd_var 3) od_none (od_some (pd_fn (Has.mono (has__law_hoist T) (by first | decide | exact Nat.le_refl _)) hr tk (ad_cons (pd_var 2) (ad_cons pd_int ad_nil))))))
  (sd_seq (sd_set 5 nd (pd_fn (Has.mono (has__law_split T) (by first | decide | exact Nat.le_refl _)) hr tk (ad_cons (pd_var 2) (ad_cons (pd_var 3) (ad_cons (pd_fn (Has.mono (has__law_caps T) (by first | decide | exact Nat.le_refl _)) hr tk (ad_cons (pd_var 3) (ad_cons pd_int ad_nil))) (ad_cons (pd_fn (Has.mono (has__law_hoist T) (by first | decide | exact Nat.le_refl _)) hr tk (ad_cons (pd_var 2) (ad_cons pd_int ad_nil))) (ad_cons pd_int ad_nil)))))))
  (sd_seq (sd_asg (pd_fn (Has.mono (has__law_two_sides T) (by first | decide | exact Nat.le_refl _)) hr tk (ad_cons (pd_var 2) (ad_cons (pd_var 5) ad_nil))) (gd_tup rfl (gsd_cons (gd_name 6 nd) (gsd_cons (gd_name 7 nd) gsd_nil))))
  (sd_seq (sd_par 6 7 rfl nd (ad_cons (pd_fn (Has.mono (has__law_doubled T) (by first | decide | exact Nat.le_refl _)) hr tk (ad_cons (pd_var 2) (ad_cons (pd_var 3) (ad_cons (pd_var 6) ad_nil)))) (ad_cons (pd_fn (Has.mono (has__law_doubled T) (by first | decide | exact Nat.le_refl _)) hr tk (ad_cons (pd_var 2) (ad_cons (pd_var 3) (ad_cons (pd_var 7) ad_nil)))) ad_nil)))
  (sd_seq (sd_set 8 nd (pd_fn (Has.mono (has__law_all_recordings T) (by first | decide | exact Nat.le_refl _)) hr tk (ad_cons (pd_callB call_len len_s T.z_len rfl (ad_cons (pd_var 3) ad_nil)) (ad_cons pd_int ad_nil))))
  (sd_seq (sd_set 9 nd (pd_fn (Has.mono (has__law_in_parts T) (by first | decide | exact Nat.le_refl _)) hr tk (ad_cons (pd_var 3) (ad_cons (pd_var 6) (ad_cons (pd_var 8) ad_nil)))))
  (sd_seq (sd_set 10 nd (pd_fn (Has.mono (has__law_in_parts T) (by first | decide | exact Nat.le_refl _)) hr tk (ad_cons (pd_var 3) (ad_cons (pd_var 7) (ad_cons (pd_var 8) ad_nil)))))
  (sd_seq (sd_set 11 nd (pd_fn (Has.mono (has__law_family T) (by first | decide | exact Nat.le_refl _)) hr tk (ad_cons (pd_var 3) (ad_cons (pd_var 4) (ad_cons (pd_var 6) ad_nil)))))
  (sd_seq (sd_set 12 nd (pd_fn (Has.mono (has__law_family T) (by first | decide | exact Nat.le_refl _)) hr tk (ad_cons (pd_var 3) (ad_cons (pd_var 4) (ad_cons (pd_var 7) ad_nil)))))
  (sd_seq (sd_if (td_cmp (op_eqD hr.units) eq_s (pd_callB call_len len_s T.z_len rfl (ad_cons (pd_var 6) ad_nil)) pd_int)
  (sd_seq (sd_setLc 13 rfl nd (id_seq (pd_var 6)) (blkOk_by (own := [(("fs" : Str), 17)]) (by kernel_rfl)) (fun _ _ _ _ _ => (gd_name 17 nd)) (by decide) (fun _ _ _ _ _ => tsd_nil) (fun _ _ _ _ _ => (pd_make (MakAt.mono (mak_Sheet_3 T) (Nat.le_refl _)) (hr.mono (by decide)) takes0 (ad_cons (pd_var 3) (ad_cons (pd_var 4) (ad_cons (pd_var 17) ad_nil))))))
  (sd_one (sd_set 11 nd (pd_makeS (MakS.mono (maks_Family T) (Nat.le_refl _)) (hr.mono (by decide)) tk (ad_cons (pd_ix (pd_var 13) pd_int) (ad_cons (pd_ix (pd_var 13) pd_int) ad_nil))))))
  sd_nil)
  (sd_seq (sd_set 14 nd (pd_make (MakAt.mono (mak_Finding_2 T) (Nat.le_refl _)) (hr.mono (by decide)) tk (ad_cons (pd_var 11) (ad_cons (pd_var 12) ad_nil))))
  (sd_seq (sd_set 15 nd (pd_lst (ad_cons (pd_if (td_cmp (op_eqD hr.units) eq_s (pd_var 9) (pd_lst ad_nil)) pd_str (pd_if (td_cmp (op_eqD hr.units) eq_s (pd_var 10) (pd_lst ad_nil)) pd_str pd_str)) (ad_cons (pd_cmp (op_eqD hr.units) eq_s (pd_var 9) (pd_lst ad_nil)) ad_nil))))
  (sd_seq (sd_if (td_not (td_tru (pd_fn (Has.mono (has__law_kin T) (by first | decide | exact Nat.le_refl _)) hr tk (ad_cons (pd_lst (ad_cons (pd_prop (T := [(2, F_Finding_state)]) (prop1 (prop_Finding_state T) (Nat.le_refl _)) (hr.mono (by decide)) (pd_var 14)) (ad_cons (pd_callTy (call_boolO (T := [(2, F_Finding___bool__)]) (slt1 (slt_Finding___bool__ T) (Nat.le_refl _)) (hr.mono (by decide))) boolO_s T.z_bool rfl (ad_cons (pd_var 14) ad_nil)) ad_nil))) (ad_cons (pd_var 15) ad_nil)))))
  (sd_one (sd_ret pd_bl))
  sd_nil)
  (sd_seq (sd_for hp rfl (id_range1 T.z_range (ad_cons pd_int ad_nil)) (gd_name 16 nd)
  (sd_one (sd_if (td_not (td_tru (pd_fn (Has.mono (has__law_pairs_right T) (by first | decide | exact Nat.le_refl _)) hr tk (ad_cons (pd_var 14) (ad_cons (pd_op op_addD add_s (pd_tup (ad_cons pd_str ad_nil)) (pd_var 3)) (ad_cons (pd_var 9) (ad_cons (pd_var 10) (ad_cons (pd_var 16) ad_nil))))))))
  (sd_one (sd_ret pd_bl))
  sd_nil)))
  (sd_one (sd_if (td_not (td_tru (pd_fn (Has.mono (has__law_kin T) (by first | decide | exact Nat.le_refl _)) hr tk (ad_cons (pd_lst (ad_cons (pd_prop (T := [(2, F_Finding_least_bad)]) (prop1 (prop_Finding_least_bad T) (Nat.le_refl _)) (hr.mono (by decide)) (pd_var 14)) (ad_cons (pd_prop (T := [(2, F_Finding_least_good)]) (prop1 (prop_Finding_least_good T) (Nat.le_refl _)) (hr.mono (by decide)) (pd_var 14)) ad_nil))) (ad_cons (pd_lst (ad_cons (pd_fn (Has.mono (has__law_first_of T) (by first | decide | exact Nat.le_refl _)) hr tk (ad_cons (pd_var 9) ad_nil)) (ad_cons (pd_fn (Has.mono (has__law_first_of T) (by first | decide | exact Nat.le_refl _)) hr tk (ad_cons (pd_var 10) ad_nil)) ad_nil))) ad_nil)))))
  (sd_one (sd_ret pd_bl))
  sd_nil)))))))))))))))))))
  (sd_one (sd_ret pd_bl)))
theorem has_law (T : Txt K mg ca) : Has P w K mg base ca 9 ("law" : Str) 1 F_law := T.d_law.has sc_law rfl (body_law T)
end
end K36

namespace K36
open PySem PySem.Spec PyProof.Rows L2 DD
theorem fin {P : Program} {w : World} {K : PySem.W.Frag} {h : Heap} {mg : Str → Option Value} {fa fl C0 C1 C2 : Addr} {od an : Option Addr} {sl : Array (Option Value)} {oc kV dc pm cd ct : Value} (X : K.In h) (G : h.Ns mainGlobals mg) (hfa : mg "law" = some (.ref fa))
    (aC0 : PySem.W.nsIn K mainGlobals ("Sheet" : Str) = some (some (.ref C0)))
    (aC1 : PySem.W.nsIn K mainGlobals ("Family" : Str) = some (some (.ref C1)))
    (aC2 : PySem.W.nsIn K mainGlobals ("Finding" : Str) = some (some (.ref C2)))
    (a : PySem.W.nsIn K mainGlobals "law" = some (some (.ref fl))) (l : K.lookup fl = some ⟨oc, od, .func (PySem.W.fnOf "law" "law" (defArgs st_law) (defBody st_law) (defScope st_law) .none kV dc pm an cd ct), sl⟩) (c : PySem.W.codeIn K cd "law" = true) (k : PySem.W.keepIn K (.ref fl) = true)
    (T : Txt K mg (caOf [C0, C1, C2])) (math : ∀ ns : List Int, ns.length ≤ 63 → (∀ z ∈ ns, Builtin.Int.intBits z ≤ 1048576) → ∃ S, F_law [.rol (ns.map D.int)] [] = .ok (.bl true) S) :
    ∃ fd : FuncData, (∀ (s : Shared) (u : Value), BindsTo s fd ⟨[u], []⟩ [("script", u)]) ∧ ∀ base : Heap, K.In base → base.Ns mainGlobals mg → FnOk P w K mg base (L2.CX P w) 9 fa fd ["script"] (spLaw K) := by
  have e := hfa.symm.trans (PySem.W.mg_of X G a)
  cases e
  have F := fun_mk (st := st_law) l c k
  exact ⟨_, fun s u => .of_eq rfl, fun base _ _ => (fn_D F sc_law rfl (body_law T fa)).imp (sp_law math)⟩
theorem walk (math : ∀ ns : List Int, ns.length ≤ 63 → (∀ z ∈ ns, Builtin.Int.intBits z ≤ 1048576) → ∃ S, F_law [.rol (ns.map D.int)] [] = .ok (.bl true) S) {l : PySem.W.OpenLaw} {q : Program} {loose : List Str} {XP : (Str → Option Value) → Heap → Prop} {YP : World → Heap → Prop} {d : DefRec} {K : Params → PySem.W.Frag} (hn : l.most = some 63) (hdf : d.params.defaults = [])
    (hY : ∀ (w : World) (h : Heap), YP w h → (K w.params).In h)
    (F : ∀ (w : World) (mg : Str → Option Value) (fa : Addr) (h : Heap), (K w.params).In h → h.Ns mainGlobals mg → mg d.name = some (.ref fa) →
      ∃ fd : FuncData, (∀ (s : Shared) (u : Value), BindsTo s fd ⟨[u], []⟩ [("script", u)]) ∧ ∀ base : Heap, (K w.params).In base → base.Ns mainGlobals mg → FnOk l.prog w (K w.params) mg base (L2.CX l.prog w) 9 fa fd ["script"] (spLaw (K w.params))) :
    PySem.W.WalkO q loose XP YP l.row.toRowW d [] (fun f vs => PySem.call f vs) :=
  L2.walk_ofB (n := 63) (k := 9) (x := "script") (CX := fun w => L2.CX l.prog w) (sp := fun w => spLaw (K w.params)) hn (by decide) hdf ⟨rfl, by decide, by decide⟩ hY F (fun _ H a ns hl hb hO hS => ⟨a, ns, rfl, hl, hb, hO, hS, fun _ => rfl⟩) fun w H s e s' z => by
    obtain ⟨_, _, _, _, _, _, _, _, _, _, _, _, z⟩ := z
    exact z.elim
end K36
local macro_rules | `(tactic| kernel_rfl) => `(tactic| ((with_reducible refine' HeadCut.join3 ?jA ?jB ?jC); (case jA => exact HeadCut.lookA _ _); (case jB => exact HeadCut.run _ _); (case jC => kernel_rfl)))
open PySem PySem.W PyProof.Rows in
theorem PySem.Challenge.cw_unknowntakes_k36_loosest_facts_of_small_holds : PySem.Challenge.rw_unknowntakes_k36_loosest_facts_of_small.Holds := by
  w_on; o_law; k_headL; (case hw => w_witness2)
  k_fill
  refine K36.walk K36.math (l := PySem.Challenge.rw_unknowntakes_k36_loosest_facts_of_small) rfl rfl (fun w h Y => PySem.W.kIn_of Y) ?F
  case F =>
    intro w mg fa h KX G hmg
    refine' K36.fin KX G hmg ?aC0 ?aC1 ?aC2 ?a ?l ?c ?k ?T K36.math
    (case aC0 => k_is)
    (case aC1 => k_is)
    (case aC2 => k_is)
    (case a => k_is); (case l => k_is); (case c => k_is); (case k => k_is)
    (case T =>
      refine' K36.Txt.mk ?z_abs ?z_all ?z_bool ?z_enumerate ?z_int ?z_isinstance ?z_len ?z_list ?z_max ?z_min ?z_range ?z_str ?z_sum ?z_tuple ?z_zip ?c_LETTERS ?c_LONGEST ?c_NEVER ?c_NOUGHT ?c_OPEN ?c_SURE ?c_ZERO ?d__law_pit ?d__law_hoist ?d__law_call_names ?d__law_drawn_fact ?d__law_closed ?d__law_numbered ?d__law_split ?d__law_caps ?d__law_two_sides ?d__law_some_facts ?d__law_doubled ?d__law_all_recordings ?d__law_keeps ?d__law_in_parts ?d_check_like ?i_Family_s ?d_check_families ?m_Family___or__ ?d_is_name ?d_is_mark_at ?d_is_integer ?d_is_fact ?d_check_sheet ?d_is_less ?d_summed ?d_lesser ?d_narrowed ?d_narrowed_by ?d_open_bounds ?d_number_of ?d_numbered ?d_first_ways ?d_way_sum ?d_better_way ?d_joined_way ?d_ways_by ?i_Sheet_3 ?i_Sheet_2 ?d__law_family ?i_Finding_2 ?d__law_kin ?d_state_in ?p_Finding_state ?m_Finding___bool__ ?d__law_first_of ?d__law_loosest_due ?d_sheet_in ?d_check_known ?d_tables_of ?d_rank ?d_least_recording ?d_least_numbers ?d_least_with ?d_loosest ?d__law_pairs_right ?p_Family_least ?p_Finding_least_bad ?p_Finding_least_good ?d_law ?sf1 ?cls0 ?cls1 ?cls2 ?no0_bounds ?no0_facts ?no0_marks ?no0_nodes ?no0_takes ?no1_parts ?no2_bad ?no2_good
      (case z_abs => (refine' PySem.W.mg_none_of KX G ?z; (case z => k_is)))
      (case z_all => (refine' PySem.W.mg_none_of KX G ?z; (case z => k_is)))
      (case z_bool => (refine' PySem.W.mg_none_of KX G ?z; (case z => k_is)))
      (case z_enumerate => (refine' PySem.W.mg_none_of KX G ?z; (case z => k_is)))
      (case z_int => (refine' PySem.W.mg_none_of KX G ?z; (case z => k_is)))
      (case z_isinstance => (refine' PySem.W.mg_none_of KX G ?z; (case z => k_is)))
      (case z_len => (refine' PySem.W.mg_none_of KX G ?z; (case z => k_is)))
      (case z_list => (refine' PySem.W.mg_none_of KX G ?z; (case z => k_is)))
      (case z_max => (refine' PySem.W.mg_none_of KX G ?z; (case z => k_is)))
      (case z_min => (refine' PySem.W.mg_none_of KX G ?z; (case z => k_is)))
      (case z_range => (refine' PySem.W.mg_none_of KX G ?z; (case z => k_is)))
      (case z_str => (refine' PySem.W.mg_none_of KX G ?z; (case z => k_is)))
      (case z_sum => (refine' PySem.W.mg_none_of KX G ?z; (case z => k_is)))
      (case z_tuple => (refine' PySem.W.mg_none_of KX G ?z; (case z => k_is)))
      (case z_zip => (refine' PySem.W.mg_none_of KX G ?z; (case z => k_is)))
      (case c_LETTERS => (refine' DD.Cst.str KX G ?z; (case z => k_is)))
      (case c_LONGEST => (refine' DD.Cst.int KX G ?z; (case z => k_is)))
      (case c_NEVER => (refine' DD.Cst.str KX G ?z; (case z => k_is)))
      (case c_NOUGHT => (refine' DD.Cst.str KX G ?z; (case z => k_is)))
      (case c_OPEN => (refine' DD.Cst.str KX G ?z; (case z => k_is)))
      (case c_SURE => (refine' DD.Cst.str KX G ?z; (case z => k_is)))
      (case c_ZERO => (refine' DD.Cst.int KX G ?z; (case z => k_is)))
      (case d__law_pit => (refine' DD.Def.mk' KX G (fun _ _ _ _ _ _ us hl => match us, hl with | [_, _], _ => rfl) ?a ?l ?c ?k; (case a => k_is); (case l => k_is); (case c => k_is); (case k => k_is)))
      (case d__law_hoist => (refine' DD.Def.mk' KX G (fun _ _ _ _ _ _ us hl => match us, hl with | [_, _], _ => rfl) ?a ?l ?c ?k; (case a => k_is); (case l => k_is); (case c => k_is); (case k => k_is)))
      (case d__law_call_names => (refine' DD.Def.mk' KX G (fun _ _ _ _ _ _ us hl => match us, hl with | [_, _], _ => rfl) ?a ?l ?c ?k; (case a => k_is); (case l => k_is); (case c => k_is); (case k => k_is)))
      (case d__law_drawn_fact => (refine' DD.Def.mk' KX G (fun _ _ _ _ _ _ us hl => match us, hl with | [_, _, _], _ => rfl) ?a ?l ?c ?k; (case a => k_is); (case l => k_is); (case c => k_is); (case k => k_is)))
      (case d__law_closed => (refine' DD.Def.mk' KX G (fun _ _ _ _ _ _ us hl => match us, hl with | [_, _], _ => rfl) ?a ?l ?c ?k; (case a => k_is); (case l => k_is); (case c => k_is); (case k => k_is)))
      (case d__law_numbered => (refine' DD.Def.mk' KX G (fun _ _ _ _ _ _ us hl => match us, hl with | [_, _], _ => rfl) ?a ?l ?c ?k; (case a => k_is); (case l => k_is); (case c => k_is); (case k => k_is)))
      (case d__law_split => (refine' DD.Def.mk' KX G (fun _ _ _ _ _ _ us hl => match us, hl with | [_, _, _, _, _], _ => rfl) ?a ?l ?c ?k; (case a => k_is); (case l => k_is); (case c => k_is); (case k => k_is)))
      (case d__law_caps => (refine' DD.Def.mk' KX G (fun _ _ _ _ _ _ us hl => match us, hl with | [_, _], _ => rfl) ?a ?l ?c ?k; (case a => k_is); (case l => k_is); (case c => k_is); (case k => k_is)))
      (case d__law_two_sides => (refine' DD.Def.mk' KX G (fun _ _ _ _ _ _ us hl => match us, hl with | [_, _], _ => rfl) ?a ?l ?c ?k; (case a => k_is); (case l => k_is); (case c => k_is); (case k => k_is)))
      (case d__law_some_facts => (refine' DD.Def.mk' KX G (fun _ _ _ _ _ _ us hl => match us, hl with | [_, _, _, _, _], _ => rfl) ?a ?l ?c ?k; (case a => k_is); (case l => k_is); (case c => k_is); (case k => k_is)))
      (case d__law_doubled => (refine' DD.Def.mk' KX G (fun _ _ _ _ _ _ us hl => match us, hl with | [_, _, _], _ => rfl) ?a ?l ?c ?k; (case a => k_is); (case l => k_is); (case c => k_is); (case k => k_is)))
      (case d__law_all_recordings => (refine' DD.Def.mk' KX G (fun _ _ _ _ _ _ us hl => match us, hl with | [_, _], _ => rfl) ?a ?l ?c ?k; (case a => k_is); (case l => k_is); (case c => k_is); (case k => k_is)))
      (case d__law_keeps => (refine' DD.Def.mk' KX G (fun _ _ _ _ _ _ us hl => match us, hl with | [_, _, _], _ => rfl) ?a ?l ?c ?k; (case a => k_is); (case l => k_is); (case c => k_is); (case k => k_is)))
      (case d__law_in_parts => (refine' DD.Def.mk' KX G (fun _ _ _ _ _ _ us hl => match us, hl with | [_, _, _], _ => rfl) ?a ?l ?c ?k; (case a => k_is); (case l => k_is); (case c => k_is); (case k => k_is)))
      (case d_check_like => (refine' DD.Def.mk' KX G (fun _ _ _ _ _ _ us hl => match us, hl with | [_, _], _ => rfl) ?a ?l ?c ?k; (case a => k_is); (case l => k_is); (case c => k_is); (case k => k_is)))
      (case i_Family_s => (refine' DD.DefIS.of rfl KX G (fun _ _ _ _ _ _ _ => rfl) (fun _ _ _ _ _ _ _ _ _ => rfl) ?a ?m ?i ?fn ?kc ?l ?cc; (case a => k_is); (case m => k_is); (case i => k_is); (case fn => k_is); (case kc => k_is); (case l => k_is); (case cc => k_is)))
      (case d_check_families => (refine' DD.Def.mk' KX G (fun _ _ _ _ _ _ us hl => match us, hl with | [_, _], _ => rfl) ?a ?l ?c ?k; (case a => k_is); (case l => k_is); (case c => k_is); (case k => k_is)))
      (case m_Family___or__ => (refine' DD.DefM.of rfl (fun _ _ _ _ _ _ us hl => match us, hl with | [_, _], _ => rfl) ?a ?i ?l ?cc ?k; (case a => k_is); (case i => k_is); (case l => k_is); (case cc => k_is); (case k => k_is)))
      (case d_is_name => (refine' DD.Def.mk' KX G (fun _ _ _ _ _ _ us hl => match us, hl with | [_], _ => rfl) ?a ?l ?c ?k; (case a => k_is); (case l => k_is); (case c => k_is); (case k => k_is)))
      (case d_is_mark_at => (refine' DD.Def.mk' KX G (fun _ _ _ _ _ _ us hl => match us, hl with | [_, _], _ => rfl) ?a ?l ?c ?k; (case a => k_is); (case l => k_is); (case c => k_is); (case k => k_is)))
      (case d_is_integer => (refine' DD.Def.mk' KX G (fun _ _ _ _ _ _ us hl => match us, hl with | [_], _ => rfl) ?a ?l ?c ?k; (case a => k_is); (case l => k_is); (case c => k_is); (case k => k_is)))
      (case d_is_fact => (refine' DD.Def.mk' KX G (fun _ _ _ _ _ _ us hl => match us, hl with | [_, _], _ => rfl) ?a ?l ?c ?k; (case a => k_is); (case l => k_is); (case c => k_is); (case k => k_is)))
      (case d_check_sheet => (refine' DD.Def.mk' KX G (fun _ _ _ _ _ _ us hl => match us, hl with | [_, _, _], _ => rfl) ?a ?l ?c ?k; (case a => k_is); (case l => k_is); (case c => k_is); (case k => k_is)))
      (case d_is_less => (refine' DD.Def.mk' KX G (fun _ _ _ _ _ _ us hl => match us, hl with | [_, _], _ => rfl) ?a ?l ?c ?k; (case a => k_is); (case l => k_is); (case c => k_is); (case k => k_is)))
      (case d_summed => (refine' DD.Def.mk' KX G (fun _ _ _ _ _ _ us hl => match us, hl with | [_, _], _ => rfl) ?a ?l ?c ?k; (case a => k_is); (case l => k_is); (case c => k_is); (case k => k_is)))
      (case d_lesser => (refine' DD.Def.mk' KX G (fun _ _ _ _ _ _ us hl => match us, hl with | [_, _], _ => rfl) ?a ?l ?c ?k; (case a => k_is); (case l => k_is); (case c => k_is); (case k => k_is)))
      (case d_narrowed => (refine' DD.Def.mk' KX G (fun _ _ _ _ _ _ us hl => match us, hl with | [_, _, _, _], _ => rfl) ?a ?l ?c ?k; (case a => k_is); (case l => k_is); (case c => k_is); (case k => k_is)))
      (case d_narrowed_by => (refine' DD.Def.mk' KX G (fun _ _ _ _ _ _ us hl => match us, hl with | [_, _], _ => rfl) ?a ?l ?c ?k; (case a => k_is); (case l => k_is); (case c => k_is); (case k => k_is)))
      (case d_open_bounds => (refine' DD.Def.mk' KX G (fun _ _ _ _ _ _ us hl => match us, hl with | [_], _ => rfl) ?a ?l ?c ?k; (case a => k_is); (case l => k_is); (case c => k_is); (case k => k_is)))
      (case d_number_of => (refine' DD.Def.mk' KX G (fun _ _ _ _ _ _ us hl => match us, hl with | [_, _], _ => rfl) ?a ?l ?c ?k; (case a => k_is); (case l => k_is); (case c => k_is); (case k => k_is)))
      (case d_numbered => (refine' DD.Def.mk' KX G (fun _ _ _ _ _ _ us hl => match us, hl with | [_, _], _ => rfl) ?a ?l ?c ?k; (case a => k_is); (case l => k_is); (case c => k_is); (case k => k_is)))
      (case d_first_ways => (refine' DD.Def.mk' KX G (fun _ _ _ _ _ _ us hl => match us, hl with | [_], _ => rfl) ?a ?l ?c ?k; (case a => k_is); (case l => k_is); (case c => k_is); (case k => k_is)))
      (case d_way_sum => (refine' DD.Def.mk' KX G (fun _ _ _ _ _ _ us hl => match us, hl with | [_], _ => rfl) ?a ?l ?c ?k; (case a => k_is); (case l => k_is); (case c => k_is); (case k => k_is)))
      (case d_better_way => (refine' DD.Def.mk' KX G (fun _ _ _ _ _ _ us hl => match us, hl with | [_, _], _ => rfl) ?a ?l ?c ?k; (case a => k_is); (case l => k_is); (case c => k_is); (case k => k_is)))
      (case d_joined_way => (refine' DD.Def.mk' KX G (fun _ _ _ _ _ _ us hl => match us, hl with | [_, _, _], _ => rfl) ?a ?l ?c ?k; (case a => k_is); (case l => k_is); (case c => k_is); (case k => k_is)))
      (case d_ways_by => (refine' DD.Def.mk' KX G (fun _ _ _ _ _ _ us hl => match us, hl with | [_, _], _ => rfl) ?a ?l ?c ?k; (case a => k_is); (case l => k_is); (case c => k_is); (case k => k_is)))
      (case i_Sheet_3 => (refine' And.right ?both; (case both => (refine' DD.DefI.ofT 3 rfl KX G rfl (fun _ _ _ _ _ _ _ us its h1 h2 => match us, its, h1, h2 with | [_, _, _], [_], _, _ => ⟨_, rfl, rfl⟩) (fun _ _ _ _ _ _ _ us its h1 h2 => match us, its, h1, h2 with | [_, _, _, _], [_], _, _ => ⟨_, rfl, rfl⟩) ?a ?m ?i ?fn ?kc ?l ?cc ?k ?lT ?lE; (case a => k_is); (case m => k_is); (case i => k_is); (case fn => k_is); (case kc => k_is); (case l => k_is); (case cc => k_is); (case k => k_is); (case lT => k_is); (case lE => k_is)))))
      (case i_Sheet_2 => (refine' And.left ?both; (case both => (refine' DD.DefI.ofT 3 rfl KX G rfl (fun _ _ _ _ _ _ _ us its h1 h2 => match us, its, h1, h2 with | [_, _, _], [_], _, _ => ⟨_, rfl, rfl⟩) (fun _ _ _ _ _ _ _ us its h1 h2 => match us, its, h1, h2 with | [_, _, _, _], [_], _, _ => ⟨_, rfl, rfl⟩) ?a ?m ?i ?fn ?kc ?l ?cc ?k ?lT ?lE; (case a => k_is); (case m => k_is); (case i => k_is); (case fn => k_is); (case kc => k_is); (case l => k_is); (case cc => k_is); (case k => k_is); (case lT => k_is); (case lE => k_is)))))
      (case d__law_family => (refine' DD.Def.mk' KX G (fun _ _ _ _ _ _ us hl => match us, hl with | [_, _, _], _ => rfl) ?a ?l ?c ?k; (case a => k_is); (case l => k_is); (case c => k_is); (case k => k_is)))
      (case i_Finding_2 => (refine' DD.DefI.of rfl KX G (fun _ _ _ _ _ _ us hl => match us, hl with | [_, _, _], _ => rfl) ?a ?m ?i ?fn ?kc ?l ?cc ?k; (case a => k_is); (case m => k_is); (case i => k_is); (case fn => k_is); (case kc => k_is); (case l => k_is); (case cc => k_is); (case k => k_is)))
      (case d__law_kin => (refine' DD.Def.mk' KX G (fun _ _ _ _ _ _ us hl => match us, hl with | [_, _], _ => rfl) ?a ?l ?c ?k; (case a => k_is); (case l => k_is); (case c => k_is); (case k => k_is)))
      (case d_state_in => (refine' DD.Def.mk' KX G (fun _ _ _ _ _ _ us hl => match us, hl with | [_, _], _ => rfl) ?a ?l ?c ?k; (case a => k_is); (case l => k_is); (case c => k_is); (case k => k_is)))
      (case p_Finding_state => (refine' DD.DefP.of rfl (fun _ _ _ _ _ _ us hl => match us, hl with | [_], _ => rfl) ?a ?ge ?ta ?re ?l ?cc ?k; (case a => k_is); (case ge => k_is); (case ta => k_is); (case re => k_is); (case l => k_is); (case cc => k_is); (case k => k_is)))
      (case m_Finding___bool__ => (refine' DD.DefM.of rfl (fun _ _ _ _ _ _ us hl => match us, hl with | [_], _ => rfl) ?a ?i ?l ?cc ?k; (case a => k_is); (case i => k_is); (case l => k_is); (case cc => k_is); (case k => k_is)))
      (case d__law_first_of => (refine' DD.Def.mk' KX G (fun _ _ _ _ _ _ us hl => match us, hl with | [_], _ => rfl) ?a ?l ?c ?k; (case a => k_is); (case l => k_is); (case c => k_is); (case k => k_is)))
      (case d__law_loosest_due => (refine' DD.Def.mk' KX G (fun _ _ _ _ _ _ us hl => match us, hl with | [_, _, _, _], _ => rfl) ?a ?l ?c ?k; (case a => k_is); (case l => k_is); (case c => k_is); (case k => k_is)))
      (case d_sheet_in => (refine' DD.Def.mk' KX G (fun _ _ _ _ _ _ us hl => match us, hl with | [_], _ => rfl) ?a ?l ?c ?k; (case a => k_is); (case l => k_is); (case c => k_is); (case k => k_is)))
      (case d_check_known => (refine' DD.Def.mk' KX G (fun _ _ _ _ _ _ us hl => match us, hl with | [_, _], _ => rfl) ?a ?l ?c ?k; (case a => k_is); (case l => k_is); (case c => k_is); (case k => k_is)))
      (case d_tables_of => (refine' DD.Def.mk' KX G (fun _ _ _ _ _ _ us hl => match us, hl with | [_], _ => rfl) ?a ?l ?c ?k; (case a => k_is); (case l => k_is); (case c => k_is); (case k => k_is)))
      (case d_rank => (refine' DD.Def.mk' KX G (fun _ _ _ _ _ _ us hl => match us, hl with | [_], _ => rfl) ?a ?l ?c ?k; (case a => k_is); (case l => k_is); (case c => k_is); (case k => k_is)))
      (case d_least_recording => (refine' DD.Def.mk' KX G (fun _ _ _ _ _ _ us hl => match us, hl with | [_], _ => rfl) ?a ?l ?c ?k; (case a => k_is); (case l => k_is); (case c => k_is); (case k => k_is)))
      (case d_least_numbers => (refine' DD.Def.mk' KX G (fun _ _ _ _ _ _ us hl => match us, hl with | [_], _ => rfl) ?a ?l ?c ?k; (case a => k_is); (case l => k_is); (case c => k_is); (case k => k_is)))
      (case d_least_with => (refine' DD.Def.mk' KX G (fun _ _ _ _ _ _ us hl => match us, hl with | [_, _], _ => rfl) ?a ?l ?c ?k; (case a => k_is); (case l => k_is); (case c => k_is); (case k => k_is)))
      (case d_loosest => (refine' DD.Def.mk' KX G (fun _ _ _ _ _ _ us hl => match us, hl with | [_, _, _], _ => rfl) ?a ?l ?c ?k; (case a => k_is); (case l => k_is); (case c => k_is); (case k => k_is)))
      (case d__law_pairs_right => (refine' DD.Def.mk' KX G (fun _ _ _ _ _ _ us hl => match us, hl with | [_, _, _, _, _], _ => rfl) ?a ?l ?c ?k; (case a => k_is); (case l => k_is); (case c => k_is); (case k => k_is)))
      (case p_Family_least => (refine' DD.DefP.of rfl (fun _ _ _ _ _ _ us hl => match us, hl with | [_], _ => rfl) ?a ?ge ?ta ?re ?l ?cc ?k; (case a => k_is); (case ge => k_is); (case ta => k_is); (case re => k_is); (case l => k_is); (case cc => k_is); (case k => k_is)))
      (case p_Finding_least_bad => (refine' DD.DefP.of rfl (fun _ _ _ _ _ _ us hl => match us, hl with | [_], _ => rfl) ?a ?ge ?ta ?re ?l ?cc ?k; (case a => k_is); (case ge => k_is); (case ta => k_is); (case re => k_is); (case l => k_is); (case cc => k_is); (case k => k_is)))
      (case p_Finding_least_good => (refine' DD.DefP.of rfl (fun _ _ _ _ _ _ us hl => match us, hl with | [_], _ => rfl) ?a ?ge ?ta ?re ?l ?cc ?k; (case a => k_is); (case ge => k_is); (case ta => k_is); (case re => k_is); (case l => k_is); (case cc => k_is); (case k => k_is)))
      (case d_law => (refine' DD.Def.mk' KX G (fun _ _ _ _ _ _ us hl => match us, hl with | [_], _ => rfl) ?a ?l ?c ?k; (case a => k_is); (case l => k_is); (case c => k_is); (case k => k_is)))
      (case sf1 => (refine' DD.sf_of rfl ?a; (case a => k_is)))
      (case cls0 => (refine' DD.cls_of rfl ?pg ?hd ?po ?sa; (case pg => k_is); (case hd => k_is); (case po => k_is); (case sa => k_is)))
      (case cls1 => (refine' DD.cls_of rfl ?pg ?hd ?po ?sa; (case pg => k_is); (case hd => k_is); (case po => k_is); (case sa => k_is)))
      (case cls2 => (refine' DD.cls_of rfl ?pg ?hd ?po ?sa; (case pg => k_is); (case hd => k_is); (case po => k_is); (case sa => k_is)))
      (case no0_bounds => (refine' DD.no_of rfl ?a; (case a => k_is)))
      (case no0_facts => (refine' DD.no_of rfl ?a; (case a => k_is)))
      (case no0_marks => (refine' DD.no_of rfl ?a; (case a => k_is)))
      (case no0_nodes => (refine' DD.no_of rfl ?a; (case a => k_is)))
      (case no0_takes => (refine' DD.no_of rfl ?a; (case a => k_is)))
      (case no1_parts => (refine' DD.no_of rfl ?a; (case a => k_is)))
      (case no2_bad => (refine' DD.no_of rfl ?a; (case a => k_is)))
      (case no2_good => (refine' DD.no_of rfl ?a; (case a => k_is)))
    )
#print axioms PySem.Challenge.cw_unknowntakes_k36_loosest_facts_of_small_holds

