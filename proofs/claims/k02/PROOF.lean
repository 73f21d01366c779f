import PyProof.Rows.All
import Wide.All
import OpenK.AllK
import Wide.FinOn
import HandS.ForMost
import HandS.ForExc
import HandS.CallSlots
import HandS.CallRecv
import HandS.IsInst
import HandS.Flow
import HandS.OwnEq
import HandS.ExcIs
import HandS.SetFor
import HandS.Lambda
import HandS.RaiseFrom
import HandS.SuiteRaise
import HandS.RaiseOp
import HandS.ExcBuiltin
import KE.KExcRaise
import PyProof.Rows.IntOr
import HandS.Defaults
import KE.KStateDown
import Lean
import HandS.Ends
import HandS.More
import HandS.Words
import HandS.WordsExc
import HandS.MakeKw
import HandS.Head0
import HandS.Head1
import HandS.Head2
import HandS.HeadEnd
import HandS.HeadHook1
import HandS.HeadHook2
import HandS.HeadHook3
import HandS.HeadHook4
import HandS.HeadWalk
import HandS.EndTab
import PySem.Challenge.RW_falsesums_k02_numbers_made
set_option Elab.async false
set_option linter.all false
set_option maxRecDepth 100000
set_option maxHeartbeats 0
/-! Rf1: a syntax of one's own beside the text's, what it means by the abstract heap, and that the text does so. -/
namespace Rf
open PySem PySem.Spec PyProof.Rows L2
abbrev Frag := PySem.W.Frag

/-! ### readings by values -/
theorem OpR.imp {X : Cx} {f : Value → Value → Sem Value} {r r' : R2} (h : OpR X f r) (hi : ∀ x y H Q, r' x y H Q → r x y H Q) : OpR X f r' :=
  fun pins s σ H x y v u Q I r1 r2 q => h pins s σ H x y v u Q I r1 r2 (hi x y H Q q)
theorem CallR.imp {X : Cx} {f : Value} {r r' : List V → Hp → VK → Prop} (h : CallR X f r) (hi : ∀ xs H Q, r' xs H Q → r xs H Q) : CallR X f r' :=
  fun pins s σ H xs us Q I r1 q => h pins s σ H xs us Q I r1 (hi xs H Q q)
theorem PE.imp {X : Cx} {e : Expr} {t t' : TE} (h : PE X e t) (hi : ∀ σ H Q, t' σ H Q → t σ H Q) : PE X e t' :=
  ⟨fun pins s σ H Q I q => h.run pins s σ H Q I (hi σ H Q q)⟩
theorem PE.or {X : Cx} {e : Expr} {t t' : TE} (h : PE X e t) (h' : PE X e t') : PE X e (fun σ H Q => t σ H Q ∨ t' σ H Q) :=
  ⟨fun pins s σ H Q I q => q.elim (h.run pins s σ H Q I) (h'.run pins s σ H Q I)⟩
theorem PE.orx {X : Cx} {e : Expr} {ι : Sort _} {t : ι → TE} (h : ∀ i, PE X e (t i)) : PE X e (fun σ H Q => ∃ i, t i σ H Q) :=
  ⟨fun pins s σ H Q I ⟨i, q⟩ => (h i).run pins s σ H Q I q⟩
theorem PE.never {X : Cx} {e : Expr} : PE X e (fun _ _ _ => False) := ⟨fun _ _ _ _ _ _ q => q.elim⟩
theorem PT.imp {X : Cx} {e : Expr} {t t' : TT} (h : PT X e t) (hi : ∀ σ H Q, t' σ H Q → t σ H Q) : PT X e t' :=
  ⟨fun pins s σ H Q I q => h.run pins s σ H Q I (hi σ H Q q)⟩
theorem PT.never {X : Cx} {e : Expr} : PT X e (fun _ _ _ => False) := ⟨fun _ _ _ _ _ _ q => q.elim⟩

/-- the type of what stands in the heap, of the kinds that are asked -/
def kindO : HO → Option String
  | .lst _ => some "list"
  | .tup _ => some "tuple"
  | .dK _ => some "dict"
  | .dT _ => some "dict"
  | _ => none
def isiB (a b : String) : Bool := a == b || (a == "bool" && b == "int")
def knownT (b : String) : Bool := b == "int" || b == "bool" || b == "str" || b == "list" || b == "tuple" || b == "dict"
def knownA (b : String) : Bool := b == "NoneType" || knownT b
theorem knownT_cases {b : String} (h : knownT b = true) : b = "int" ∨ b = "bool" ∨ b = "str" ∨ b = "list" ∨ b = "tuple" ∨ b = "dict" := by
  simpa [knownT, or_assoc] using h
theorem knownA_cases {b : String} (h : knownA b = true) : b = "NoneType" ∨ b = "int" ∨ b = "bool" ∨ b = "str" ∨ b = "list" ∨ b = "tuple" ∨ b = "dict" := by
  simpa [knownA, knownT, or_assoc] using h
theorem kit_isi {K : Frag} {a b : String} (ha : knownA a = true) (hb : knownT b = true) : PySem.W.kitOne K (.type a) (.type b) = some (isiB a b) := by
  have key : kitB a b = some (isiB a b) := by
    rcases knownA_cases ha with rfl | rfl | rfl | rfl | rfl | rfl | rfl <;> rcases knownT_cases hb with rfl | rfl | rfl | rfl | rfl | rfl <;> decide +kernel
  exact kit_ty key
/-- isinstance(x, T) -/
def rIs (K : Frag) (xs : List V) (H : Hp) (Q : VK) : Prop := match xs with
  | [.non, .ty T] => knownT T = true ∧ Q (.bl (isiB "NoneType" T)) H
  | [.bl _, .ty T] => knownT T = true ∧ Q (.bl (isiB "bool" T)) H
  | [.int _, .ty T] => knownT T = true ∧ Q (.bl (isiB "int" T)) H
  | [.str _, .ty T] => knownT T = true ∧ Q (.bl (isiB "str" T)) H
  | [.ref a, .ty T] => (∃ o t, H a = some o ∧ kindO o = some t ∧ knownT T = true ∧ Q (.bl (isiB t T)) H) ∨ rIsi K [.ref a, .ty T] H Q
  | xs => rIsi K xs H Q
theorem call_is {X : Cx} : CallR X (.builtin "isinstance") (rIs X.K) := by
  refine CallR.imp call_isi fun xs H Q h => ?_
  have go : ∀ {x : V} {t T : String}, TyX X.K H x (.type t) → knownA t = true → knownT T = true → Q (.bl (isiB t T)) H → rIsi X.K [x, .ty T] H Q :=
    fun {x t T} ty ha hb q => ⟨_, _, _, _, _, rfl, .ty T, ty, kit_isi ha hb, q⟩
  unfold rIs at h
  split at h
  · exact go (.base .non) rfl h.1 h.2
  · exact go (.base (.bl _)) rfl h.1 h.2
  · exact go (.base (.int _)) rfl h.1 h.2
  · exact go (.base (.str _)) rfl h.1 h.2
  · rcases h with ⟨o, t, e, k, hT, q⟩ | h
    · cases o with
      | lst xs => cases k; exact go (.base (.lst e)) rfl hT q
      | tup xs => cases k; exact go (.base (.tup e)) rfl hT q
      | dK xs => cases k; exact go (.base (.dK e)) rfl hT q
      | dT xs => cases k; exact go (.base (.dT e)) rfl hT q
      | _ => cases k
    · exact h
  · exact h
/-- truth -/
def rTru (K : Frag) (x : V) (H : Hp) (Q : Bool → Hp → Prop) : Prop := match x with
  | .non => Q false H
  | .bl b => Q b H
  | .int i => Q (i != 0) H
  | x => ∃ k, TruV K x H k ∧ Q k H
theorem rTru_of {K : Frag} {x : V} {H : Hp} {Q : Bool → Hp → Prop} (h : rTru K x H Q) : ∃ k, TruV K x H k ∧ Q k H := by
  cases x with
  | non => exact ⟨_, rfl, h⟩
  | bl b => exact ⟨_, rfl, h⟩
  | int i => exact ⟨_, rfl, h⟩
  | _ => exact h
/-- a op b -/
def rBin (K : Frag) (op : Operator) : R2 := fun x y H Q => match op with
  | .Add => (match x, y with
    | .int i, .int j => Q (.int (i + j)) H
    | .str i, .str j => i.length + j.length ≤ sizeLine ∧ Q (.str (i ++ j)) H
    | x, y => rCat x y H Q ∨ rCatT K x y H Q)
  | .Sub => (match x, y with
    | .int i, .int j => Q (.int (i - j)) H
    | _, _ => False)
  | .Mult => (match x, y with
    | .int i, .int j => IntMulOk i j ∧ Q (.int (i * j)) H
    | x, y => rRep x y H Q)
  | .FloorDiv => (match x, y with
    | .int i, .int j => j ≠ 0 ∧ Builtin.divisionGoesByPylong i j = false ∧ Q (.int (i.fdiv j)) H
    | _, _ => False)
  | .Mod => (match x, y with
    | .int i, .int j => j ≠ 0 ∧ Q (.int (i.fmod j)) H
    | _, _ => False)
  | .Pow => (match x, y with
    | .int i, .int j => CPow i j ∧ Q (.int (i ^ j.toNat)) H
    | _, _ => False)
  | _ => False
theorem op_bin {X : Cx} (op : Operator) : OpR X (binaryOp op) (rBin X.K op) := by
  cases op with
  | Add =>
    refine OpR.imp (OpR.or op_add (OpR.or op_add_str (OpR.or op_cat op_catT))) fun x y H Q h => ?_
    unfold rBin at h
    dsimp only at h
    split at h
    · exact .inl ⟨_, _, rfl, rfl, h⟩
    · exact .inr (.inl ⟨_, _, rfl, rfl, h.1, h.2⟩)
    · exact .inr (.inr h)
  | Sub =>
    refine OpR.imp op_sub fun x y H Q h => ?_
    unfold rBin at h
    dsimp only at h
    split at h
    · exact ⟨_, _, rfl, rfl, h⟩
    · exact h.elim
  | Mult =>
    refine OpR.imp (OpR.or (opI (C := IntMulOk) (g := fun i j => i * j) fun _ _ _ _ _ _ _ hc q => mul_int q hc) op_rep) fun x y H Q h => ?_
    unfold rBin at h
    dsimp only at h
    split at h
    · exact .inl ⟨_, _, rfl, rfl, h.1, h.2⟩
    · exact .inr h
  | FloorDiv =>
    refine OpR.imp (opI (C := fun i j => j ≠ 0 ∧ Builtin.divisionGoesByPylong i j = false) (g := fun i j => i.fdiv j) fun _ _ _ _ _ _ _ hc q => floordiv_int hc.1 q (.inl hc.2)) fun x y H Q h => ?_
    unfold rBin at h
    dsimp only at h
    split at h
    · exact ⟨_, _, rfl, rfl, ⟨h.1, h.2.1⟩, h.2.2⟩
    · exact h.elim
  | Mod =>
    refine OpR.imp op_modN fun x y H Q h => ?_
    unfold rBin at h
    dsimp only at h
    split at h
    · exact ⟨_, _, rfl, rfl, h.1, h.2⟩
    · exact h.elim
  | Pow =>
    refine OpR.imp op_pow fun x y H Q h => ?_
    unfold rBin at h
    dsimp only at h
    split at h
    · exact ⟨_, _, rfl, rfl, h.1, h.2⟩
    · exact h.elim
  | _ => exact fun pins s σ H x y v u Q I r1 r2 q => (show False from q).elim
end Rf
namespace Rf
open PySem PySem.Spec PyProof.Rows L2

/-! ### an exception that was caught and stays known -/
def ExcO (a : Addr) (cls : Value) (d : Option Addr) : HO := .ext fun h => ∃ (oe : Obj) (vs : Array Value), h.get? a = some oe ∧ Zc cls d oe ∧ oe.data = .fields vs
section
variable {X : Cx} {pins : List (Addr × Obj)} {σ : L2.St} {H : Hp} {s : Shared} {a : Addr} {oe : Obj} {cls : Value} {d : Option Addr}
theorem unsuiteK {q : Addr × Obj} {pn' : List (Addr × Obj)} (I : L2.Inv (X.suite a (q :: (X.pn ++ pins))) pn' σ H s) (ok : X.Ok) : L2.Inv X (q :: pins) σ H s :=
  ⟨ok, I.os, I.bare, I.base, I.loc, I.cell, I.free, I.freeC, fun p hp => I.pin p (List.mem_append_left _ (by
    rcases List.mem_append.mp hp with h | h
    · exact List.mem_cons_of_mem _ (List.mem_append_left _ h)
    · rcases List.mem_cons.mp h with h | h
      · rw [h]; exact List.mem_cons_self
      · exact List.mem_cons_of_mem _ (List.mem_append_right _ h))), I.hok, I.len⟩
theorem Inv.know (I : L2.Inv X ((a, oe) :: pins) σ H s) (hz : Zc cls d oe) (hv : ∃ vs, oe.data = .fields vs) (new : X.s_0.heap.get? a = none) (np : ∀ p ∈ X.pn ++ pins, p.1 ≠ a) : L2.Inv X pins σ (upd H a (ExcO a cls d)) s := by
  obtain ⟨ha, na, nL, nF, nc⟩ := I.pin (a, oe) (List.mem_append_right _ List.mem_cons_self)
  have up : ∀ {b : Addr} {u : HO}, H b = some u → upd H a (ExcO a cls d) b = some u := fun {b u} e => by
    rw [upd_ne (fun z => by rw [z, na] at e; cases e)]
    exact e
  have off : ∀ {b : Addr}, b ≠ a → H b = none → upd H a (ExcO a cls d) b = none := fun {b} ne e => by
    rw [upd_ne ne]
    exact e
  have sub : ∀ p ∈ X.pn ++ pins, p ∈ X.pn ++ ((a, oe) :: pins) := fun p hp => (List.mem_append.mp hp).elim (fun h => List.mem_append_left _ h) fun h => List.mem_append_right _ (List.mem_cons_of_mem _ h)
  refine ⟨I.ok, I.os, I.bare, ⟨I.base.keep, I.base.slot, fun b o e n hx => off (fun z => ?_) (I.base.free b o e n hx), I.base.there, fun b xs e => up (I.base.tups b xs e), fun b o u e => up (I.base.frzs b o u e), fun b ps e => ?_⟩,
    I.loc, I.cell, off (Ne.symm nL) I.free, fun x c e => off (fun z => ?_) (I.freeC x c e), fun p hp => ?_, fun b u e => ?_, I.len⟩
  · rw [z, new] at e
    cases e
  · obtain ⟨more, q⟩ := I.base.tbls b ps e
    exact ⟨more, up q⟩
  · obtain ⟨v, o, ho, hd⟩ := I.cell x c e
    rw [z, ha] at ho
    cases ho
    exact nc _ hd
  · obtain ⟨e, n, r⟩ := I.pin p (sub p hp)
    exact ⟨e, off (np p hp) n, r⟩
  · by_cases hb : b = a
    · subst hb
      rw [upd_same] at e
      cases e
      obtain ⟨vs, hv⟩ := hv
      exact ⟨⟨oe, vs, ha, hz, hv⟩, ⟨oe, ha⟩, fun h1 h2 ⟨o, vs, e1, e2, e3⟩ st => ⟨o, vs, st _ e1, e2, e3⟩⟩
    · rw [upd_ne hb] at e
      exact (I.hok b u e).stay (fun _ _ _ q => q) (fun c q => up q) fun c xs q => up q
end
/-- what the clause asks of an exception: it is taken, and known from then on -/
def keepD (a : Addr) (cls : Value) (d : Option Addr) (i : Nat) (D : Ends) : Ends where
  nx := fun σ' H' => H' a = none → D.nx (σ'.set i none) (upd H' a (ExcO a cls d))
  rt := D.rt
  bk := fun σ' H' => D.bk (σ'.set i none) H'
  ct := fun σ' H' => D.ct (σ'.set i none) H'
def wKeep (K : Frag) (c : Value) (i : Nat) (ts : Addr → TS) (Wout : WX) (D : Ends) : WX := fun cls d σ H =>
  ∃ b, PySem.W.exmOne K cls c = some b ∧ (b = true → ∀ a, H a = none → ts a (keepD a cls d i D) (σ.set i (some (.ref a))) H) ∧ (b = false → Wout cls d σ H)
/-- of states of the right length -/
def wLen (n : Nat) (W : WX) : WX := fun cls d σ H => σ.length = n → W cls d σ H
theorem recNoFrame {B h : Heap} {l : List Env} {a : Addr} {o : Obj} {vs : Array Value} (ff : h.FunFrames B l) (e : h.get? a = some o) (dd : o.data = .fields vs) : a ∉ frs l := fun hm => by
  obtain ⟨_, o2, e2, hnf⟩ := ff.mem hm
  rw [e] at e2
  cases e2
  exact hnf _ dd
section
variable {X : Cx} {x n : Str} {c : Value} {i : Nat} {body suite : List Stmt} {b₀ : Stmt} {np hp pos : Pos} {tb : WX → TS} {ts : Addr → TS} {Wout : WX}
theorem ps_try_keep (h1 : X.stack = X.env :: X.outer) (h2 : X.env.frame = some X.env.locals) (h0 : X.ex = []) (h3 : X.N.Nodup) (h4 : X.N[i]? = some n) (h5 : X.env.kindOf n = some .local) (h6 : Names X x c) (tk : Takes X Wout)
    (hb : ∀ (W : WX) (pn : List (Addr × Obj)) (xe : Value → Shared → Prop), Takes (X.tr pn xe) W → PassesOwn (model X.prog X.w) X.A X.env xe → (∀ hd : Option Value, PassesOwnAt (model X.prog X.w) (X.A.mark hd) X.A X.env xe) → PSs (X.tr pn xe) body (tb W))
    (hu : ∀ (a : Addr) (pn : List (Addr × Obj)), PSs (X.suite a pn) (b₀ :: suite) (ts a)) :
    PS X (.Try body [.ExceptHandler (some (.Name x np)) (some n) (b₀ :: suite) hp] [] [] pos) (fun D σ H => tb (wLen X.N.length (wKeep X.K c i ts Wout D)) D σ H) := by
  refine ⟨fun pins s σ H D I0 goal => ?_⟩
  have okX := I0.ok
  have frA : X.A.frames = some (X.env :: X.outer) := okX.frames.trans (by rw [h1])
  refine wpAny_Try_except (wpAny_mono ((hb (wLen X.N.length (wKeep X.K c i ts Wout D)) (X.pn ++ pins) _ (fun u s1 air => ?_) PassesOwn.looking fun _ => PassesOwnAt.looking).run [] s σ H D (I0.toTry _) goal) (fun f s1 done => ?_) (fun _ _ z => z))
  · obtain ⟨a, B, sI, pins1, σ1, H1, cls, d, rfl, J0, grd, up, sky, na, os, ag, wl⟩ := air
    obtain ⟨b, hb1, hyes, hno⟩ := wl J0.len
    have J : L2.Inv X pins σ1 H1 sI := J0.ofTry okX
    rw [show (X.tr (X.pn ++ pins) _).stack = X.env :: X.outer from h1] at sky
    refine Sky.land Zc.steady frA h2 sky fun g3 fl3 up3 => ?_
    have J3 : L2.Inv X pins σ1 H1 { s1 with heap := g3 } := J.landed grd fl3.1 (up.trans up3) os ag
    obtain ⟨o3, v3, e3, z3, d3⟩ := fl3.there
    have nfr : a ∉ frs (X.env :: X.outer) := recNoFrame fl3.2.2.1 e3 d3
    have nL : a ≠ X.env.locals := fun z => nfr (by rw [z]; exact List.mem_filterMap.mpr ⟨X.env, List.mem_cons_self, h2⟩)
    have nF : a ∉ X.fs := fun hm => nfr (by
      obtain ⟨e, he, q⟩ := List.mem_filterMap.mp hm
      exact List.mem_filterMap.mpr ⟨e, List.mem_cons_of_mem _ he, q⟩)
    have nB : B.get? a = none := fl3.2.1
    have noI : ∀ o, sI.heap.get? a = some o → False := fun o e => by
      have q := grd a o e (by rw [h1]; exact nfr)
      rw [nB] at q
      cases q
    have new : X.s_0.heap.get? a = none := by
      cases q : X.s_0.heap.get? a with
      | none => rfl
      | some o =>
        obtain ⟨o2, q2⟩ := J.base.there a o q (by rw [h0]; exact fun z => nomatch z)
        exact (noI o2 q2).elim
    have apart : ∀ p ∈ X.pn ++ pins, p.1 ≠ a := fun p hp z => noI p.2 (by rw [← z]; exact (J.pin p hp).1)
    have S3 := J3.suite e3 d3 na nL nF
    refine wpAny_handleBy_cons (codeAny_handlers_test ?_) (by intro q; cases q)
    have knows := PySem.W.exm_one (M := model X.prog X.w) J3.kIn (fun A Q E s k q => wpAny_typeOf_ref (k _ _ e3) (by rw [z3.1]; exact q)) hb1
    have test : ∀ {Q E : Value → Shared → Prop}, Q c { s1 with heap := g3 } → wpAny (model X.prog X.w) (X.A.mark (some (.ref a))) (eval (.Name x np) X.env) Q E { s1 with heap := g3 } := fun {Q E} q => by
      obtain ⟨hg, hdb, hm | ⟨hm, hv, hn⟩⟩ := h6
      · exact ld_glob S3 hg hm q hdb
      · exact ld_blt S3 hg hm hv q hn hdb
    refine test (knows.here ?_)
    cases b with
    | true =>
      refine codeAny_handlers_suite_as (HandSPX.lands_againZ fl3 fun g4 fl4 up4 => ?_)
      obtain ⟨o4, v4, e4, z4, d4⟩ := fl4.there
      have S4 := (J.landed (s' := { s1 with heap := g4 }) grd fl4.1 ((up.trans up3).trans up4) os ag).suite e4 d4 na nL nF
      refine store_ok (X := X.suite a ((a, o4) :: (X.pn ++ pins))) (v := .ref a) S4 h3 h4 (.inl h5) rfl (fun s5 S5 => ?_) (.inr h5)
      refine wpAny_mono ((hu a ((a, o4) :: (X.pn ++ pins))).run [] s5 _ H1 _ S5 (hyes rfl a na)) (fun f s6 done => ?_) (fun _ _ z => False.elim z)
      have off : ∀ {σ6 : L2.St} {H6 : Hp} {Q : Shared → Prop}, L2.Inv (X.suite a ((a, o4) :: (X.pn ++ pins))) [] σ6 H6 s6 → (∀ s7, L2.Inv X pins (σ6.set i none) H6 s7 → Q s7) →
          wpAny (model X.prog X.w) X.A (do bindName X.env n .none; unbindBehindTheSuite X.env n hp) (fun _ s7 => Q s7) X.xe s6 := fun {σ6 H6 Q} S6 hq => gone_ok (S6.unsuite okX) h3 h4 h5 hq
      cases f with
      | next =>
        obtain ⟨σ6, H6, S6, q6⟩ := done
        have S6a : L2.Inv X ((a, o4) :: pins) σ6 H6 s6 := unsuiteK S6 okX
        refine gone_ok S6a h3 h4 h5 fun s7 J7 => ⟨_, _, Inv.know J7 z4 ⟨_, d4⟩ new apart, q6 (S6a.pin (a, o4) (List.mem_append_right _ List.mem_cons_self)).2.1⟩
      | brk =>
        obtain ⟨σ6, H6, S6, q6⟩ := done
        exact off S6 fun s7 J7 => ⟨_, _, J7, q6⟩
      | cont =>
        obtain ⟨σ6, H6, S6, q6⟩ := done
        exact off S6 fun s7 J7 => ⟨_, _, J7, q6⟩
      | ret u =>
        obtain ⟨v6, σ6, H6, S6, r6, q6⟩ := done
        exact off S6 fun s7 J7 => ⟨_, _, _, J7, r6, q6⟩
    | false =>
      refine wpAny_handleBy_nil ?_
      obtain ⟨k1, k2, k3, oe, vs, T, oT, ws, e5, z5, d5, t5, r5⟩ := id fl3
      unfold PySem.passOn
      refine wpAny_bind (wpAny_field e5 d5 t5 ?_)
      rw [if_neg (show ¬ ((Value.ref T == Value.none) = true) from by simp)]
      have fin : wpAny (model X.prog X.w) X.A (setFlight (.ref a) X.env.frame) (fun _ s4 => wpAny (model X.prog X.w) X.A (throw (.ref a) : Sem Flow) (SP X pins D) X.xe s4) X.xe { s1 with heap := g3 } := by
        rw [h2]
        exact HandSPX.setFlight_upZ fl3 fun h4 hh4 up4 => wpAny_throw (tk _ _ ⟨a, B, sI, pins, σ1, H1, cls, d, rfl, J, grd, (up.trans up3).trans up4, .inr (.inr (by rw [h1]; exact hh4)), na, os, ag, hno rfl⟩)
      first
        | exact wpAny_bind (wpAny_pure (wpAny_bind fin))
        | exact wpAny_bind fin
  · cases f with
    | next => obtain ⟨σ1, H1, J1, q⟩ := done; exact wpAny_execs_nil ⟨σ1, H1, J1.ofTry okX, q⟩
    | brk => obtain ⟨σ1, H1, J1, q⟩ := done; exact ⟨σ1, H1, J1.ofTry okX, q⟩
    | cont => obtain ⟨σ1, H1, J1, q⟩ := done; exact ⟨σ1, H1, J1.ofTry okX, q⟩
    | ret u => obtain ⟨v, σ1, H1, J1, r, q⟩ := done; exact ⟨v, σ1, H1, J1.ofTry okX, r, q⟩
end
/-- isinstance(x, c), x a caught exception -/
def rIsX (K : Frag) : List V → Hp → VK → Prop := fun xs H Q => ∃ (a D : Addr) (c : V) (cv : Value) (b : Bool), xs = [.ref a, c] ∧ ClsV c cv ∧ H a = some (ExcO a (.ref D) none) ∧ ExcC K D ∧ PySem.W.kitOne K (.ref D) cv = some b ∧ Q (.bl b) H
theorem call_isX {X : Cx} : CallR X (.builtin "isinstance") (rIsX X.K) := by
  intro pins s σ H xs us Q I r h
  obtain ⟨a, D, c, cv, b, rfl, k, ha, C, e, q⟩ := h
  obtain ⟨u1, u2, rfl, r1, r2⟩ := vals2 r
  have e2 := k.eq r2
  subst e2
  cases r1
  obtain ⟨⟨oe, vs, hget, ⟨c1, c2⟩, hv⟩, _⟩ := I.hok a _ ha
  have J : PySem.W.InstAt s.heap a oe D none := by
    obtain ⟨oc, od, oda, osl⟩ := oe
    dsimp only at c1 c2 hv
    subst c1 c2 hv
    exact ⟨hget, rfl, rfl, trivial⟩
  exact PySem.W.kia_one (PySem.W.handS_kitx_exc C.hg C.hk C.hs C.hd C.ha C.hn C.ht C.hm) I.kIn J e (fun z => nomatch z) fun tk => ⟨.bl b, H, I.tok tk, rfl, q⟩
/-! ### list.count, flat items -/
def rCount (K : Frag) : V → List V → Hp → VK → Prop := fun x xs H Q => ∃ (a : Addr) (ys : List V) (y : V), x = .ref a ∧ xs = [y] ∧ SqL K H a ys ∧ flatV y = true ∧ ys.all flatV = true ∧ Q (.int ((ys.countP fun z => eqV z y : Nat) : Int)) H
theorem countP_eqU {y : V} {uy : Value} (ry : RelV y uy) : ∀ {ys : List V} {its : List Value}, Vals ys its → ys.all flatV = true → its.countP (eqU y) = ys.countP fun z => eqV z y
  | _, _, .nil, _ => rfl
  | z :: ys, u :: its, .cons r t, h => by
    have h' : (flatV z && ys.all flatV) = true := h
    rw [Bool.and_eq_true] at h'
    rw [List.countP_cons, List.countP_cons, countP_eqU ry t h'.2, eqU_of r h'.1]
theorem mt_countF {X : Cx} : MtR X "list.count" (rCount X.K) := by
  intro pins s σ H x xs v us Q I rx rxs h
  obtain ⟨a, ys, y, rfl, rfl, hs, fy, fys, q⟩ := h
  cases rx
  obtain ⟨u, rfl, ru⟩ := rxs.one
  obtain ⟨its, rv, ⟨⟨cls, dd, data, sl⟩, n, ho, hc, hdn, hd⟩, hlen⟩ := I.list hs
  simp only at hc hd
  subst hc hd
  refine call_meets PySem.F.slot_list_count ⟨_, ho, rfl⟩ PySem.F.entry_list_count (PySem.F.args_list_count_2 _ _)
    (SeqAt.list_countAt a its.toArray n dd sl u (eqU y)) ⟨ho, fun z hz => mem_eqAt ru fy rv fys z (by simpa using hz), .int ((ys.countP fun z => eqV z y : Nat) : Int), H, I.tok _, ⟨s.toks, ?_⟩, q⟩
  show Value.int ((its.toArray.toList.countP (eqU y) : Nat) : Int) s.toks = _
  rw [List.toList_toArray, countP_eqU ru rv fys]
end Rf
namespace Rf
open PySem PySem.Spec PyProof.Rows L2

/-- a name's value; nothing changes -/
theorem ld_var {X : Cx} {pins : List (Addr × Obj)} {σ : L2.St} {H : Hp} {s : Shared} {E : Value → Shared → Prop} {i : Nat} {x : Str} {v : V} {pos : Pos} {Q : Value → Shared → Prop} (I : L2.Inv X pins σ H s) (hN : X.N[i]? = some x) (hv : Vis X.env.scope x) (e : σ[i]? = some (some v))
    (q : ∀ u, RelV v u → Q u s) (hd : (x == ("__debug__" : Str)) = false) (hcd : (x == ("__classdict__" : Str)) = false) : wpAny (model X.prog X.w) X.A (eval (.Name x pos) X.env) Q E s := by
  obtain ⟨m, hn, hl⟩ := I.loc
  obtain ⟨u, r, l⟩ := hl i x v hN e hv
  rcases l with ⟨k, hm⟩ | ⟨k | k, c, hc, cell⟩
  · exact wpAny_Name (wpAny_loadName_local I.ok.kind k hn hm (q u r)) hd
  · exact wpAny_Name (wpAny_loadName_cell I.ok.kind k hc cell (q u r)) hd
  · exact wpAny_Name (wpAny_loadName_free I.ok.kind k hc cell (q u r) hcd) hd
/-- what the walk doesn't track is left out of the heap -/
theorem Inv.hide {X : Cx} {pins : List (Addr × Obj)} {σ : L2.St} {H : Hp} {s : Shared} (I : L2.Inv X pins σ H s) (l : List Addr) (k1 : ∀ z ∈ l, H z = none) (k2 : ∀ z ∈ l, z ≠ X.env.locals) (k3 : ∀ z ∈ l, ∀ o v, s.heap.get? z = some o → o.data ≠ .cell v)
    (k4 : ∀ z ∈ l, X.s_0.heap.get? z = none) (k5 : ∀ p ∈ X.pn ++ pins, p.1 ∉ l) : L2.Inv X pins σ H { s with heap := PySem.W.hideAll s.heap l } := by
  have old : ∀ b o, X.s_0.heap.get? b = some o → b ∉ l := fun b o e hb => by
    rw [k4 b hb] at e
    cases e
  have cells : ∀ {c : Addr} {v : Option Value}, s.heap.IsCell c v → (PySem.W.hideAll s.heap l).IsCell c v := fun {c v} ⟨o, ho, hd⟩ => ⟨o, PySem.W.hideAll_get l ho fun hc => k3 c hc o v ho hd, hd⟩
  refine ⟨I.ok, I.os, I.bare, ⟨fun b o e n hb hx => PySem.W.hideAll_get l (I.base.keep b o e n hb hx) (old b o e), fun b o e n hb hx => ?_, I.base.free, fun b o e hx => ?_, I.base.tups, I.base.frzs, I.base.tbls⟩, ?_, fun x c e => ?_, I.free, I.freeC, fun p hp => ?_, fun b u e => ?_, I.len⟩
  · obtain ⟨sl, q⟩ := I.base.slot b o e n hb hx
    exact ⟨sl, PySem.W.hideAll_get l q (old b o e)⟩
  · obtain ⟨o2, q⟩ := I.base.there b o e hx
    exact ⟨o2, PySem.W.hideAll_get l q (old b o e)⟩
  · obtain ⟨m, ⟨o, es, ep, e, r⟩, hl⟩ := I.loc
    refine ⟨m, ⟨o, es, ep, PySem.W.hideAll_get l e fun hb => k2 _ hb rfl, r⟩, fun i x v e1 e2 e3 => ?_⟩
    obtain ⟨u, rv, lk⟩ := hl i x v e1 e2 e3
    exact ⟨u, rv, lk.elim .inl fun ⟨k, c, e, z⟩ => .inr ⟨k, c, e, cells z⟩⟩
  · obtain ⟨v, z⟩ := I.cell x c e
    exact ⟨v, cells z⟩
  · obtain ⟨e, r⟩ := I.pin p hp
    exact ⟨PySem.W.hideAll_get l e (k5 p hp), r⟩
  · refine (I.hok b u e).stay (fun c w hc q => PySem.W.hideAll_get l q fun hl => ?_) (fun _ q => q) fun _ _ q => q
    have z := k1 c hl
    rcases hc with hc | hc
    · rw [hc, e] at z
      cases z
    · rw [hc] at z
      cases z
/-! ### raise X('..') from e, in an except suite -/
theorem pmk_six {X : Cx} {C : Addr} {bmB : List Value} {B newId initId : String} {x m : Str} {j : Nat} {p p2 pos : Pos} (F : ExcBaseFacts B newId initId bmB) (q : PySem.W.excIn X.K C bmB newId = true) (gC : X.mg x = some (.ref C)) (kC : PySem.W.keepIn X.K (.ref C) = true)
    (r : Raises X (.ref C)) (hg : Gl X x) (hdb : (x == ("__debug__" : Str)) = false) : L2H.PMk5 X (.Call (.Name x p) [.Constant (.str m) j p2] [] pos) (fun _ H Q => Q (.ref C) none H) := by
  intro pins s σ H Q I wish
  have args : PA X [.Constant (.str m) j p2] (tCons (tC (.str m)) tNil) := pa_cons pe_str pa_nil
  refine wpAny_Call_Name_kw (ld_glob I hg gC (PySem.W.callWith_K I.ok.mod.kin kC (thn (args.run pos pins s σ H (fun vs H1 => vs = [V.str m] ∧ H = H1) I ⟨rfl, rfl⟩) fun us s1 got => ?_)) hdb)
  obtain ⟨vs, H1, I1, r1, rfl, rfl⟩ := got
  refine ⟨I1.kIn, ?_⟩
  obtain ⟨u, rfl, ru⟩ := r1.one
  obtain ⟨bm, N, nm, qn, bs, hdct, sn, sub, ab, col, dd, k0, k1, k2, k3, k5, mN, hC, hN, hni, T⟩ := exc_obj I1.kIn q
  exact wpAny_call_exc_subT F T hC hN hni (fun h' e made => L2H.mk_of5 I1 made r wish (I1.hok.gone made.new)) (by show 1 ≤ sizeLine; rw [sizeLine_eq]; omega)
theorem upd_off {h : Heap} {a b : Addr} {f : Obj → Obj} (n : b ≠ a) : (h.update a f).get? b = h.get? b := Heap.get?_update_other _ _ (Ne.symm n)
theorem ps_raiseFrom {Y : Cx} {W : WX} {e : Expr} {t : L2.St → Hp → XK → Prop} {p : Addr × Obj} {v1 : Array Value} {cls1 : Value} {i : Nat} {n : Str} {cp pos : Pos} (hh : Y.A.handled = some (.ref p.1)) (hp : p ∈ Y.pn) (nbase : Y.base.get? p.1 = none) (hv : p.2.data = .fields v1) (h2 : v1[2]? = some .none) (hcl : p.2.cls = cls1)
    (rb : Raises Y cls1) (tk : Takes Y W) (he : L2H.PMk5 Y e t) (hN : Y.N[i]? = some n) (vis : Vis Y.env.scope n) (hd : (n == ("__debug__" : Str)) = false) (hcd : (n == ("__classdict__" : Str)) = false) :
    PS Y (.Raise (some e) (some (.Name n cp)) pos) (fun _ σ H => σ[i]? = some (some (.ref p.1)) ∧ t σ H fun cls d H' => W cls d σ H') := by
  refine ⟨fun pins s σ H D I ⟨slot, wish⟩ => wpAny_Raise_from (thn (he pins s σ H _ I wish) fun u s1 hu => ?_)⟩
  obtain ⟨⟨a, oe, vs, sI, H1, cls, d, rfl, J, keep, hne, ha, hz, hdat, h1, na, os, ag, r, q⟩, six⟩ := hu
  have h5 : 4 < vs.size := six a oe vs rfl ha hdat
  have I1 : L2.Inv Y pins σ H1 s1 := J.call' (ch := []) os (Un.kept keep) (J.hok.kept keep) ag (fun _ z => nomatch z)
  refine ld_var I1 hN vis slot (fun cv rc => ?_) hd hcd
  cases rc
  obtain ⟨hb, _⟩ := J.pin p (List.mem_append_left _ hp)
  have nab : p.1 ≠ a := fun z => by
    rw [z, hne] at hb
    cases hb
  have hb1 : s1.heap.get? p.1 = some p.2 := keep _ _ hb
  obtain ⟨r1, r2⟩ := r (model Y.prog Y.w) sI.heap J.kIn
  obtain ⟨c1, c2⟩ := rb (model Y.prog Y.w) Y.base J.ok.mod.kin
  have AT : RaiseAt (model Y.prog Y.w) sI.heap s1.heap a oe vs cls := ⟨ha, hz.1, hdat, keep, hne, r1, r2⟩
  have AC : RaiseAt (model Y.prog Y.w) Y.base s1.heap p.1 p.2 v1 cls1 := ⟨hb1, hcl, hv, fun b o hk => keep _ _ (J.bk b o hk), nbase, c1, c2⟩
  refine raise_from_tree AT h5 (.inr ⟨p.1, p.2, v1, cls1, rfl, _, AC⟩) ?_
  have A2 := (AT.set 3 (.ref p.1)).set 4 (.bool true)
  have f1 : ((vs.setIfInBounds 3 (Value.ref p.1)).setIfInBounds 4 (Value.bool true))[1]? = some .none := HotX.set_other (by decide) (HotX.set_other (by decide) h1)
  refine setFlight_fresh A2.at_ A2.dat f1 ?_
  have keep2 : ∀ b u, b ≠ a → s1.heap.get? b = some u → ((s1.heap.update a (Obj.mapFields (·.setIfInBounds 3 (.ref p.1)))).update a (Obj.mapFields (·.setIfInBounds 4 (.bool true)))).get? b = some u := fun b u n e => by
    rw [upd_off n, upd_off n]
    exact e
  refine HotX.raiseNew_hot (oe := (oe.mapFields (·.setIfInBounds 3 (.ref p.1))).mapFields (·.setIfInBounds 4 (.bool true))) ⟨hh, p.2, v1, keep2 _ _ nab hb1, hv, h2⟩ nab A2.at_ A2.dat (by rw [Array.size_setIfInBounds, Array.size_setIfInBounds]; omega) ?_
  have A3 := A2.set 2 (.ref p.1)
  refine tk _ _ (XE.new J (fun b u z => ?_) hne A3.at_ ⟨A3.cl, ?_⟩ A3.dat (HotX.set_other (by decide) f1) na os ag q)
  · have nb : b ≠ a := fun z2 => by
      rw [z2, hne] at z
      cases z
    exact (upd_off nb).trans (keep2 _ _ nb (keep _ _ z))
  · rw [HandSPX.dict_mapFields, HandSPX.dict_mapFields, HandSPX.dict_mapFields]
    exact hz.2.1
/-- what a clause «except x as n» asks of an exception whose context is None; out of its suite only exceptions come -/
def wFrom (K : Frag) (c : Value) (i : Nat) (ts : Addr → Value → Option Addr → TS) (D : Ends) : WX := fun cls d σ H => PySem.W.exmOne K cls c = some true ∧ ∀ a, H a = none → ts a cls d { nx := fun _ _ => False, rt := fun _ _ => False, bk := fun _ _ => False, ct := fun _ _ => False } (σ.set i (some (.ref a))) H
abbrev Cx.suiteF (X : Cx) (n : Str) (hp : Pos) (a : Addr) (pn : List (Addr × Obj)) : Cx :=
  (X.suite a pn).tr (pn ++ []) (fun u s' => AsSuiteRaised (model X.prog X.w) (X.A.mark (some (.ref a))) X.env n hp (notedBy (model X.prog X.w) (X.A.mark (some (.ref a))) X.env (cameBackBy (model X.prog X.w) X.A X.env X.xe)) u s')
section
variable {X : Cx} {x n : Str} {c : Value} {i : Nat} {body suite : List Stmt} {b₀ : Stmt} {np hp pos : Pos} {tb : WX → TS} {ts : Addr → Value → Option Addr → TS} {Wout : WX}
/-- an exception leaves the suite: its name goes, it flies on -/
theorem takes_suiteF (h1 : X.stack = X.env :: X.outer) (h2 : X.env.frame = some X.env.locals) (h0 : X.ex = []) (h3 : X.N.Nodup) (h4 : X.N[i]? = some n) (h5 : X.env.kindOf n = some .local) (pas : ∀ hd : Option Value, PassesOwnAt (model X.prog X.w) (X.A.mark hd) X.A X.env X.xe)
    (tk : Takes X Wout) {pins : List (Addr × Obj)} {q : Addr × Obj} (ok : X.Ok) : Takes (Cx.suiteF X n hp q.1 (q :: (X.pn ++ pins))) (fun cls d σ H => Wout cls d (σ.set i none) H) := by
  intro u s1 air
  obtain ⟨b, B, sI, pins1, σ1, H1, cls, d, rfl, J, grd, up, sky, na, os, ag, w⟩ := air
  have frA : (X.A.mark (some (.ref q.1))).frames = some (X.env :: X.outer) := ok.frames.trans (by rw [h1])
  have sky' : Sky B (X.env :: X.outer) b (Zc cls d) X.env.locals s1.heap := by rw [← h1]; exact sky
  have JX : L2.Inv X pins σ1 H1 sI := ⟨ok, J.os, J.bare, J.base, J.loc, J.cell, J.free, J.freeC, fun p hp => J.pin p (List.mem_append_left _ (List.mem_append_left _ (List.mem_cons_of_mem _ hp))), J.hok, J.len⟩
  show wpAny _ _ (noteFrame (.ref b) X.env) _ _ _
  have noted : ∀ g1, HandSPX.HeldZ B (X.env :: X.outer) b (Zc cls d) X.env.locals g1 → s1.heap.UpToSlots g1 →
      wpAny (model X.prog X.w) (X.A.mark (some (.ref q.1))) (do bindName X.env n .none; unbindBehindTheSuite X.env n hp)
        (fun _ s2 => wpAny (model X.prog X.w) (X.A.mark (some (.ref q.1))) (passOn "try.except-as" (.ref b) X.env : Sem Flow) (fun _ _ => False) (notedBy (model X.prog X.w) (X.A.mark (some (.ref q.1))) X.env (cameBackBy (model X.prog X.w) X.A X.env X.xe)) s2)
        (fun y s2 => wpAny (model X.prog X.w) (X.A.mark (some (.ref q.1))) (setFlight (.ref b) none) (fun _ s3 => (notedBy (model X.prog X.w) (X.A.mark (some (.ref q.1))) X.env (cameBackBy (model X.prog X.w) X.A X.env X.xe)) y s3) (notedBy (model X.prog X.w) (X.A.mark (some (.ref q.1))) X.env (cameBackBy (model X.prog X.w) X.A X.env X.xe)) s2)
        { s1 with heap := g1 } := by
    intro g1 held up1
    obtain ⟨k1, k2, k3, oe, vs, T, oT, ws, e1, z1, d1, t1, nT, nTb, eT, dT, w3⟩ := held
    have J1 : L2.Inv X pins σ1 H1 { s1 with heap := g1 } := JX.landed grd k1 (up.trans up1) os ag
    have hokB := JX.inGround grd
    have offB : ∀ {z : Addr} {o : Obj} {v : Array Value}, B.get? z = none → g1.get? z = some o → o.data = .fields v → (H1 z = none ∧ z ≠ X.env.locals ∧ z ∉ X.fs ∧ z ∉ frs X.stack ∧ X.s_0.heap.get? z = none) ∧ ∀ p ∈ X.pn ++ pins, p.1 ≠ z := fun {z o v} nz ez dz => by
      have nfr : z ∉ frs (X.env :: X.outer) := recNoFrame k3 ez dz
      have noI : ∀ o, sI.heap.get? z = some o → False := fun o e => by
        have q := grd z o e (by show z ∉ frs X.stack; rw [h1]; exact nfr)
        rw [nz] at q
        cases q
      refine ⟨⟨hokB.gone nz, fun y => nfr (by rw [y]; exact List.mem_filterMap.mpr ⟨X.env, List.mem_cons_self, h2⟩), fun hm => nfr (by
        obtain ⟨e, he, q⟩ := List.mem_filterMap.mp hm
        exact List.mem_filterMap.mpr ⟨e, List.mem_cons_of_mem _ he, q⟩), by rw [h1]; exact nfr, ?_⟩, fun p hp z2 => noI p.2 (by rw [← z2]; exact (JX.pin p hp).1)⟩
      cases q : X.s_0.heap.get? z with
      | none => rfl
      | some o =>
        obtain ⟨o2, q2⟩ := JX.base.there z o q (by rw [h0]; exact fun z => nomatch z)
        exact (noI o2 q2).elim
    obtain ⟨⟨b1, b2, b3, b4, b5⟩, b6⟩ := offB k2 e1 d1
    obtain ⟨⟨c1, c2, c3, c4, c5⟩, c6⟩ := offB nT eT dT
    have J2 : L2.Inv X ((b, oe) :: (T, oT) :: pins) σ1 H1 { s1 with heap := g1 } := ⟨J1.ok, J1.os, J1.bare, J1.base, J1.loc, J1.cell, J1.free, J1.freeC, fun p hp => by
      rcases List.mem_append.mp hp with hp | hp
      · exact J1.pin p (List.mem_append_left _ hp)
      · rcases List.mem_cons.mp hp with hp | hp
        · subst hp
          exact ⟨e1, b1, b2, b3, fun v z => by rw [d1] at z; cases z⟩
        · rcases List.mem_cons.mp hp with hp | hp
          · subst hp
            exact ⟨eT, c1, c2, c3, fun v z => by rw [dT] at z; cases z⟩
          · exact J1.pin p (List.mem_append_right _ hp), J1.hok, J1.len⟩
    refine gone_ok J2 h3 h4 h5 fun s2 I2 => ?_
    have p1 := (I2.pin (b, oe) (List.mem_append_right _ List.mem_cons_self)).1
    have p2 := (I2.pin (T, oT) (List.mem_append_right _ (List.mem_cons_of_mem _ List.mem_cons_self))).1
    dsimp only at p1 p2
    obtain ⟨G, hG⟩ : ∃ G, G = PySem.W.hideAll s2.heap (b :: T :: frs X.stack) := ⟨_, rfl⟩
    have inG : ∀ {y o}, G.get? y = some o → s2.heap.get? y = some o := fun e => PySem.W.of_hideAll _ (by rw [← hG]; exact e)
    have outG : ∀ {y}, y ∈ b :: T :: frs X.stack → G.get? y = none := fun hy => by rw [hG]; exact PySem.W.hideAll_none _ hy
    have FF : s2.heap.FunFrames G (X.env :: X.outer) := by
      rw [← h1]
      exact funFrames_none I2.stack fun y hy => outG (List.mem_cons_of_mem _ (List.mem_cons_of_mem _ hy))
    unfold PySem.passOn
    refine wpAny_bind (wpAny_field p1 d1 t1 ?_)
    rw [if_neg (show ¬ ((Value.ref T == Value.none) = true) from by simp)]
    have fin : wpAny (model X.prog X.w) (X.A.mark (some (.ref q.1))) (setFlight (.ref b) X.env.frame) (fun _ s4 => wpAny (model X.prog X.w) (X.A.mark (some (.ref q.1))) (throw (.ref b) : Sem Flow) (fun _ _ => False) (notedBy (model X.prog X.w) (X.A.mark (some (.ref q.1))) X.env (cameBackBy (model X.prog X.w) X.A X.env X.xe)) s4) (notedBy (model X.prog X.w) (X.A.mark (some (.ref q.1))) X.env (cameBackBy (model X.prog X.w) X.A X.env X.xe)) s2 := by
      rw [h2]
      have hidden2 : ∀ {y : Addr} {z : Addr}, y = z → (z = b ∨ z = T) → (PySem.W.hideAll s2.heap [b, T]).get? y = none := fun {y z} e h => by
        rw [e]
        exact PySem.W.hideAll_none _ (by rcases h with h | h <;> simp [h])
      refine HandSPX.setFlight_anyZ (base := G) (Z := Zc cls d) (fl := rawInt X.env.locals) (fun y o => inG) FF ⟨oe, vs, T, oT, ws, p1, z1, d1, t1, outG (List.mem_cons_of_mem _ List.mem_cons_self), nTb, p2, dT, w3⟩ fun g3 m1 m2 m3 m4 => wpAny_throw (pas _ _ _ (tk _ _ ?_))
      have I3 : L2.Inv X pins (σ1.set i none) H1 s2 := ⟨I2.ok, I2.os, I2.bare, I2.base, I2.loc, I2.cell, I2.free, I2.freeC, fun p hp => I2.pin p ((List.mem_append.mp hp).elim (fun h => List.mem_append_left _ h) fun h => List.mem_append_right _ (List.mem_cons_of_mem _ (List.mem_cons_of_mem _ h))), I2.hok, I2.len⟩
      have I4 := Inv.hide I3 [b, T] (fun z hz => ?_) (fun z hz => ?_) (fun z hz o v e dd => ?_) (fun z hz => ?_) (fun p hp hz => ?_)
      · refine ⟨b, G, _, pins, _, H1, cls, d, rfl, I4, fun y o e ny => ?_, fun y o e hnf => ?_, .inr (.inr ⟨m1, outG List.mem_cons_self, by rw [h1]; exact m2, m3⟩), b1, rfl, I2.bare, w⟩
        · rw [hG]
          refine PySem.W.hideAll_get _ (PySem.W.of_hideAll _ e) fun hy => ?_
          rcases List.mem_cons.mp hy with hy | hy
          · have z := hidden2 hy (.inl rfl)
            rw [z] at e
            cases e
          · rcases List.mem_cons.mp hy with hy | hy
            · have z := hidden2 hy (.inr rfl)
              rw [z] at e
              cases e
            · exact ny hy
        · exact m4 y o (PySem.W.of_hideAll _ e) hnf
      · rcases List.mem_cons.mp hz with hz | hz
        · rw [hz]; exact b1
        · obtain rfl : z = T := by simpa using hz
          exact c1
      · rcases List.mem_cons.mp hz with hz | hz
        · rw [hz]; exact b2
        · obtain rfl : z = T := by simpa using hz
          exact c2
      · rcases List.mem_cons.mp hz with hz | hz
        · rw [hz, p1] at e
          cases e
          rw [d1] at dd
          cases dd
        · obtain rfl : z = T := by simpa using hz
          rw [p2] at e
          cases e
          rw [dT] at dd
          cases dd
      · rcases List.mem_cons.mp hz with hz | hz
        · rw [hz]; exact b5
        · obtain rfl : z = T := by simpa using hz
          exact c5
      · rcases List.mem_cons.mp hz with hz | hz
        · exact b6 p hp hz
        · exact c6 p hp (by simpa using hz)
    first
      | exact wpAny_bind (wpAny_pure (wpAny_bind fin))
      | exact wpAny_bind fin
  rcases sky' with ⟨f1, f2, f3, oe, vs, f4, f5, f6, f7⟩ | fl | held
  · exact HandSPX.look_newZ Zc.steady frA f3 h2 f4 f1 f2 f6 f7 f5 noted
  · exact HandSPX.looks_onZ Zc.steady frA h2 fl noted
  · exact HandSPX.againZ h2 held.2.2.2 (noted s1.heap held (Heap.UpToSlots.refl _))
theorem ps_try_from (h1 : X.stack = X.env :: X.outer) (h2 : X.env.frame = some X.env.locals) (h0 : X.ex = []) (h3 : X.N.Nodup) (h4 : X.N[i]? = some n) (h5 : X.env.kindOf n = some .local) (pas : ∀ hd : Option Value, PassesOwnAt (model X.prog X.w) (X.A.mark hd) X.A X.env X.xe)
    (h6 : Names X x c) (tk : Takes X Wout)
    (hb : ∀ (W : WX) (pn : List (Addr × Obj)) (xe : Value → Shared → Prop), L2N.Takes (X.tr pn xe) W → PassesOwn (model X.prog X.w) X.A X.env xe → PSs (X.tr pn xe) body (tb W))
    (hu : ∀ (a : Addr) (oe : Obj) (cls : Value) (d : Option Addr) (pn : List (Addr × Obj)), L2N.Zn cls d oe → (∃ vs, oe.data = .fields vs) → X.base.get? a = none → Takes (Cx.suiteF X n hp a ((a, oe) :: pn)) (fun cls d σ H => Wout cls d (σ.set i none) H) →
      PSs (Cx.suiteF X n hp a ((a, oe) :: pn)) (b₀ :: suite) (ts a cls d)) :
    PS X (.Try body [.ExceptHandler (some (.Name x np)) (some n) (b₀ :: suite) hp] [] [] pos) (fun D σ H => tb (wFrom X.K c i ts D) D σ H) := by
  refine ⟨fun pins s σ H D I0 goal => ?_⟩
  have okX := I0.ok
  have frA : X.A.frames = some (X.env :: X.outer) := okX.frames.trans (by rw [h1])
  refine wpAny_Try_except (wpAny_mono ((hb (wFrom X.K c i ts D) (X.pn ++ pins) _ (fun u s1 air => ?_) PassesOwn.looking).run [] s σ H D (I0.toTry _) goal) (fun f s1 done => ?_) (fun _ _ z => z))
  · obtain ⟨a, B, sI, pins1, σ1, H1, cls, d, rfl, J0, grd, up, sky, na, os, ag, hb1, hyes⟩ := air
    have J : L2.Inv X pins σ1 H1 sI := J0.ofTry okX
    rw [show (X.tr (X.pn ++ pins) _).stack = X.env :: X.outer from h1] at sky
    refine L2N.Sky.land L2N.Zn.steady frA h2 sky fun g3 fl3 up3 => ?_
    have J3 : L2.Inv X pins σ1 H1 { s1 with heap := g3 } := J.landed grd fl3.1 (up.trans up3) os ag
    obtain ⟨o3, v3, e3, z3, d3⟩ := fl3.there
    have nfr : a ∉ frs (X.env :: X.outer) := recNoFrame fl3.2.2.1 e3 d3
    have nL : a ≠ X.env.locals := fun z => nfr (by rw [z]; exact List.mem_filterMap.mpr ⟨X.env, List.mem_cons_self, h2⟩)
    have nF : a ∉ X.fs := fun hm => nfr (by
      obtain ⟨e, he, q⟩ := List.mem_filterMap.mp hm
      exact List.mem_filterMap.mpr ⟨e, List.mem_cons_of_mem _ he, q⟩)
    have nB : B.get? a = none := fl3.2.1
    have nBase : X.base.get? a = none := by
      cases q : X.base.get? a with
      | none => rfl
      | some o =>
        have z := grd a o (J.bk a o q) (by rw [h1]; exact nfr)
        rw [nB] at z
        cases z
    have S3 := J3.suite e3 d3 na nL nF
    refine wpAny_handleBy_cons (codeAny_handlers_test ?_) (by intro q; cases q)
    have knows := PySem.W.exm_one (M := model X.prog X.w) J3.kIn (fun A Q E s k q => wpAny_typeOf_ref (k _ _ e3) (by rw [z3.1]; exact q)) hb1
    have test : ∀ {Q E : Value → Shared → Prop}, Q c { s1 with heap := g3 } → wpAny (model X.prog X.w) (X.A.mark (some (.ref a))) (eval (.Name x np) X.env) Q E { s1 with heap := g3 } := fun {Q E} q => by
      obtain ⟨hg, hdb, hm | ⟨hm, hv, hn⟩⟩ := h6
      · exact ld_glob S3 hg hm q hdb
      · exact ld_blt S3 hg hm hv q hn hdb
    refine test (knows.here ?_)
    refine codeAny_handlers_suite_as (HandSPX.lands_againZ fl3 fun g4 fl4 up4 => ?_)
    obtain ⟨o4, v4, e4, z4, d4⟩ := fl4.there
    have S4 := (J.landed (s' := { s1 with heap := g4 }) grd fl4.1 ((up.trans up3).trans up4) os ag).suite e4 d4 na nL nF
    refine store_ok (X := X.suite a ((a, o4) :: (X.pn ++ pins))) (v := .ref a) S4 h3 h4 (.inl h5) rfl (fun s5 S5 => ?_) (.inr h5)
    have tkS := takes_suiteF (i := i) (hp := hp) (pins := pins) (q := (a, o4)) h1 h2 h0 h3 h4 h5 pas tk okX
    refine wpAny_mono ((hu a o4 cls d (X.pn ++ pins) z4 ⟨_, d4⟩ nBase tkS).run [] s5 _ H1 _ (S5.toTry _) (hyes a na)) (fun f s6 done => ?_) (fun _ _ z => z)
    cases f with
    | next => obtain ⟨_, _, _, q⟩ := done; exact False.elim q
    | brk => obtain ⟨_, _, _, q⟩ := done; exact False.elim q
    | cont => obtain ⟨_, _, _, q⟩ := done; exact False.elim q
    | ret u => obtain ⟨_, _, _, _, _, q⟩ := done; exact False.elim q
  · cases f with
    | next => obtain ⟨σ1, H1, J1, q⟩ := done; exact wpAny_execs_nil ⟨σ1, H1, J1.ofTry okX, q⟩
    | brk => obtain ⟨σ1, H1, J1, q⟩ := done; exact ⟨σ1, H1, J1.ofTry okX, q⟩
    | cont => obtain ⟨σ1, H1, J1, q⟩ := done; exact ⟨σ1, H1, J1.ofTry okX, q⟩
    | ret u => obtain ⟨v, σ1, H1, J1, r, q⟩ := done; exact ⟨v, σ1, H1, J1.ofTry okX, r, q⟩
end
end Rf
namespace Rf
open PySem PySem.Spec PyProof.Rows L2

/-! ### the program's defs, as the walk knows them -/
structure FnE where
  f : Addr
  fd : FuncData
  ps : List Str
  sp : Sp
  k : Nat
  dvs : List V
  ds : List Value
  /-- other calls: so many values, these keywords, how they come in the parameters' order -/
  kb : List (Nat × List Str × (List V → List V → List V))
structure FnOkE (P : Program) (w : World) (K : Frag) (mg : Str → Option Value) (base : Heap) (e : FnE) : Prop where
  ok : FnOk P w K mg base (L2.CX P w) e.k e.f e.fd e.ps e.sp
  kp : PySem.W.keepIn K (.ref e.f) = true
  bd : ∀ j, Binds K e.fd e.ps (e.ds.drop j)
  vd : Vals e.dvs e.ds
  kb : ∀ q ∈ e.kb, ∃ g, KBn K e.fd e.ps q.1 q.2.1 g q.2.2
theorem Vals.dropV : ∀ {xs : List V} {us : List Value} (n : Nat), Vals xs us → Vals (xs.drop n) (us.drop n) := fun n h => Vals.drop n h
/-- what is known: functions by name, values by name, classes that are called, attributes, methods, own == -/
structure Gam where
  fn : List (Str × FnE)
  glo : List (Str × V)
  cl : List (Str × Addr × FnE)
  att : Addr → Str → Prop
  mt : Addr → Str → FnE → Prop
  eq : Addr → FnE → Prop
  exc : List (Str × Addr)
  /-- tables of code objects, and what their code objects are named -/
  tb : List (Addr × Str)
  /-- defs that call the lambda that they get -/
  lam : List (Str × ((XK → Hp → VK → Prop) → Hp → VK → Prop))
/-- the names alone -/
structure Nms where
  fn : List Str
  glo : List Str
  cl : List Str
  blt : List Str
  exc : List Str
  lam : List Str
  /-- where lambdas may be made: the prefix of their names -/
  lq : Option Str
/-- an own exception class without __init__ -/
structure ExcF (K : Frag) (mg : Str → Option Value) (x : Str) (C : Addr) : Prop where
  gC : mg x = some (.ref C)
  kC : PySem.W.keepIn K (.ref C) = true
  bC : PySem.W.subIn K (.ref C) (.type "BaseException") = some true
  tC : PySem.W.typeIn K (.ref C) = some (.type "type")
  fC : ∃ (B newId initId : String) (bmB : List Value), ExcBaseFacts B newId initId bmB ∧ PySem.W.excIn K C bmB newId = true
/-- x(lambda: ..), for a def x that calls it: TT is what x makes of the lambda's reading -/
def LamOk (P : Program) (w : World) (K : Frag) (mg : Str → Option Value) (base : Heap) (k : Nat) (x : Str) (TT : (XK → Hp → VK → Prop) → Hp → VK → Prop) : Prop :=
  ∀ (X : Cx), X.prog = P → X.w = w → X.K = K → X.mg = mg → X.base = base → ∀ (T : List (Addr × Str)) (c tb : Addr) (body : Expr) (scope : Scope) (t : XK → TE) (p lpos pos : Pos), Gl X x → LamX.TabB X.base X.mg c tb → X.env.code = .ref c → (tb, X.env.qual ++ "<lambda>") ∈ T →
    (∀ p ∈ T, p.1 = tb → p.2 = X.env.qual ++ "<lambda>") → Room (k + 2) X.A → LamX.LamS X.env.scope scope →
    (∀ (A : Around) (outer : List Env) (s : Shared) (H : Hp) (E : XK) (f c' : Addr), Room k (A.deeper (LamX.lamEnv X scope s.heap.objs.size f c')) → PE (LamX.lamCx X A outer s H E scope f c') body (t E)) →
    PE X (.Call (.Name x p) [.Lambda ⟨[], [], none, [], [], none, []⟩ body scope lpos] [] pos) (LamX.tLam T TT t)
structure GamOk (Γ : Gam) (n : Nms) (k : Nat) (P : Program) (w : World) (K : Frag) (mg : Str → Option Value) (base : Heap) : Prop where
  fnN : Γ.fn.map (·.1) = n.fn
  gloN : Γ.glo.map (·.1) = n.glo
  clN : Γ.cl.map (·.1) = n.cl
  fn : ∀ x e, (x, e) ∈ Γ.fn → FnOkE P w K mg base e ∧ e.k ≤ k ∧ mg x = some (.ref e.f)
  glo : ∀ x v, (x, v) ∈ Γ.glo → ∃ u, RelV v u ∧ (mg x = some u ∨ (mg x = none ∧ bootBuiltins x = some u ∧ x ≠ "__name__"))
  cl : ∀ x C e, (x, C, e) ∈ Γ.cl → FnOkE P w K mg base e ∧ e.k + 1 ≤ k ∧ Mk K C e.f ∧ mg x = some (.ref C)
  att : ∀ C f, Γ.att C f → Cls K C ∧ NoAttr K C f
  mt : ∀ C m e, Γ.mt C m e → FnOkE P w K mg base e ∧ e.k ≤ k ∧ Cls K C ∧ Meth K C m e.f
  eq : ∀ C e, Γ.eq C e → FnOkE P w K mg base e ∧ e.k ≤ k ∧ PySem.W.findIn K (.ref C) "__eq__" = some (some (.ref e.f)) ∧ PySem.W.isFn K (.ref e.f) = true
  blt : ∀ x ∈ n.blt, mg x = none
  lamN : Γ.lam.map (·.1) = n.lam
  lam : ∀ x TT, (x, TT) ∈ Γ.lam → LamOk P w K mg base k x TT
  excN : Γ.exc.map (·.1) = n.exc
  exc : ∀ x C, (x, C) ∈ Γ.exc → ExcF K mg x C

theorem GamOk.noLq {Γ : Gam} {n : Nms} {k : Nat} {P : Program} {w : World} {K : Frag} {mg : Str → Option Value} {base : Heap} {q : Option Str} (h : GamOk Γ n k P w K mg base) : GamOk Γ { n with lq := q } k P w K mg base :=
  ⟨h.fnN, h.gloN, h.clN, h.fn, h.glo, h.cl, h.att, h.mt, h.eq, h.blt, h.lamN, h.lam, h.excN, h.exc⟩
/-! ### built-in functions and types, called by their names -/
inductive BF where
  | isinstance | len | abs | max2 | min2 | int | str | list | tuple | sum | all | any
  deriving DecidableEq
def BF.name : BF → Str
  | .isinstance => "isinstance" | .len => "len" | .abs => "abs" | .max2 => "max" | .min2 => "min" | .int => "int" | .str => "str" | .list => "list" | .tuple => "tuple" | .sum => "sum" | .all => "all" | .any => "any"
def BF.val : BF → Value
  | .isinstance => .builtin "isinstance" | .len => .builtin "len" | .abs => .builtin "abs" | .max2 => .builtin "max" | .min2 => .builtin "min" | .int => .type "int" | .str => .type "str" | .list => .type "list" | .tuple => .type "tuple"
  | .sum => .builtin "sum" | .all => .builtin "all" | .any => .builtin "any"
theorem BF.boot (b : BF) : bootBuiltins b.name = some b.val := by cases b <;> decide +kernel
def rInt1 (xs : List V) (H : Hp) (Q : VK) : Prop := match xs with
  | [.int i] => Q (.int i) H
  | [.bl b] => Q (.int (if b then 1 else 0)) H
  | _ => False
def rMax2 (xs : List V) (H : Hp) (Q : VK) : Prop := match xs with
  | [.int i, .int j] => Q (.int (if j > i then j else i)) H
  | _ => False
def rMin2 (xs : List V) (H : Hp) (Q : VK) : Prop := match xs with
  | [.int i, .int j] => Q (.int (if j < i then j else i)) H
  | _ => False
def rAbs (xs : List V) (H : Hp) (Q : VK) : Prop := match xs with
  | [.int i] => Q (.int (if i < 0 then -i else i)) H
  | _ => False
def rStr1 (xs : List V) (H : Hp) (Q : VK) : Prop := match xs with
  | [.int i] => i.natAbs.log2 < 1920 ∧ Q (.str (toString i)) H
  | _ => False
def rLen (K : Frag) (xs : List V) (H : Hp) (Q : VK) : Prop := match xs with
  | [x] => ∃ n, LenV K x H n ∧ Q (.int n) H
  | _ => False
def rIsA (K : Frag) (xs : List V) (H : Hp) (Q : VK) : Prop := match xs with
  | .ref a :: r => rIs K (.ref a :: r) H Q ∨ rIsX K (.ref a :: r) H Q
  | xs => rIs K xs H Q
theorem call_isA {X : Cx} : CallR X (.builtin "isinstance") (rIsA X.K) := by
  intro pins s σ H xs us Q I r h
  unfold rIsA at h
  split at h
  · exact h.elim (call_is pins s σ H _ us Q I r) (call_isX pins s σ H _ us Q I r)
  · exact call_is pins s σ H _ us Q I r h
def BF.r (K : Frag) : BF → List V → Hp → VK → Prop
  | .isinstance => rIsA K
  | .len => rLen K
  | .abs => rAbs
  | .max2 => rMax2
  | .min2 => rMin2
  | .int => rInt1
  | .str => rStr1
  | .list => fun xs H Q => ∃ p ys, xs = [.ref p] ∧ (SqL K H p ys ∨ SqT K H p ys) ∧ ∀ l, H l = none → Q (.ref l) (upd H l (.lst ys))
  | .tuple => fun xs H Q => ∃ p ys, xs = [.ref p] ∧ ((SqL K H p ys ∧ ∀ l, H l = none → Q (.ref l) (upd H l (.tup ys))) ∨ (SqT K H p ys ∧ Q (.ref p) H))
  | .sum => rSum K
  | .all => rAll K
  | .any => rAny K
theorem BF.ok {X : Cx} (hc : X.calm = true) (b : BF) : CallR X b.val (b.r X.K) := by
  cases b with
  | isinstance => exact call_isA
  | len =>
    refine CallR.imp call_len fun xs H Q h => ?_
    match xs, h with
    | [x], ⟨n, hn, q⟩ => exact ⟨x, n, rfl, hn, q⟩
  | abs =>
    refine CallR.imp call_abs fun xs H Q h => ?_
    match xs, h with
    | [.int i], q => exact ⟨i, rfl, q⟩
  | max2 =>
    refine CallR.imp (call_max2 hc) fun xs H Q h => ?_
    match xs, h with
    | [.int i, .int j], q => exact ⟨i, j, rfl, q⟩
  | min2 =>
    refine CallR.imp (call_min2 hc) fun xs H Q h => ?_
    match xs, h with
    | [.int i, .int j], q => exact ⟨i, j, rfl, q⟩
  | int =>
    refine CallR.imp call_int1 fun xs H Q h => ?_
    match xs, h with
    | [.int i], q => exact .inl ⟨i, rfl, q⟩
    | [.bl b], q => exact .inr ⟨b, rfl, q⟩
  | str =>
    refine CallR.imp call_str_int fun xs H Q h => ?_
    match xs, h with
    | [.int i], q => exact ⟨i, rfl, q.1, q.2⟩
  | list => exact call_list_of
  | tuple => exact call_tuple_of
  | sum => exact cr_sum hc
  | all => exact cr_all hc
  | any => exact cr_any hc

/-! ### comparisons -/
theorem dec_int' {i j : Int} : decide (V.int i = V.int j) = decide (i = j) := by simp
theorem dec_str' {i j : Str} : decide (V.str i = V.str j) = decide (i = j) := by simp
theorem dec_bl' {i j : Bool} : decide (V.bl i = V.bl j) = decide (i = j) := by simp
/-- == by an own __eq__ -/
def rOwnEq (Γ : Gam) (K : Frag) : R2 := fun x y H Q => ∃ (a C dx : Addr) (fs : List (Str × V)) (e : FnE) (t : Value), x = .ref a ∧ H a = some (.ins C dx fs) ∧ Γ.eq C e ∧ TyX K H y t ∧ PySem.W.notFirst K C t = true ∧
  e.sp [x, y] H (fun v H' => ∃ b, v = .bl b ∧ Q (.bl b) H') (fun _ _ _ => False)
def rEqG (Γ : Gam) (K : Frag) : R2 := fun x y H Q => match x, y with
  | .int i, .int j => Q (.bl (decide (i = j))) H
  | .str i, .str j => Q (.bl (decide (i = j))) H
  | .bl i, .bl j => Q (.bl (decide (i = j))) H
  | .non, .non => Q (.bl true) H
  | x, y => (scal x y = true ∧ Q (.bl (decide (x = y))) H) ∨ rEqD K x y H Q ∨ rOwnEq Γ K x y H Q
def rNeG (Γ : Gam) (K : Frag) : R2 := fun x y H Q => match x, y with
  | .int i, .int j => Q (.bl (!decide (i = j))) H
  | .str i, .str j => Q (.bl (!decide (i = j))) H
  | .bl i, .bl j => Q (.bl (!decide (i = j))) H
  | .non, .non => Q (.bl false) H
  | x, y => (scal x y = true ∧ Q (.bl (!decide (x = y))) H) ∨ rNeD K x y H Q
def rOrd (K : Frag) (f : Int → Int → Bool) (g : Bool) : R2 := fun x y H Q => match x, y with
  | .int i, .int j => Q (.bl (f i j)) H
  | .str i, .str j => g = true ∧ Q (.bl (decide (i.cps.toList < j.cps.toList))) H
  | x, y => g = true ∧ rLtT K x y H Q
def rIsNt (neg : Bool) : R2 := fun x y H Q => match y with
  | .non => Q (.bl (if neg then !decide (x = .non) else decide (x = .non))) H
  | _ => False
def rInG (K : Frag) (neg : Bool) : R2 := fun x y H Q => match x, y with
  | .str i, .str j => Q (.bl (if neg then !(!(Builtin.Str.occurrences j i 0 j.length 1).isEmpty) else (!(Builtin.Str.occurrences j i 0 j.length 1).isEmpty))) H
  | x, y => rIn K neg x y H Q
def rCmp (Γ : Gam) (K : Frag) : CmpOp → R2
  | .Eq => rEqG Γ K
  | .NotEq => rNeG Γ K
  | .Lt => rOrd K (fun i j => decide (i < j)) true
  | .LtE => rOrd K (fun i j => decide (i ≤ j)) false
  | .Gt => rOrd K (fun i j => decide (j < i)) false
  | .GtE => rOrd K (fun i j => decide (j ≤ i)) false
  | .Is => rIsNt false
  | .IsNot => rIsNt true
  | .In => rInG K false
  | .NotIn => rInG K true

/-- the context that the readings lean on -/
structure Cok (X : Cx) (Γ : Gam) (n : Nms) (k : Nat) (N : List Str) (sc st : Scope) (W : WX) : Prop where
  eN : X.N = N
  nd : N.Nodup
  eSc : X.env.scope = sc
  calm : X.calm = true
  room : Room k X.A
  gam : GamOk Γ n k X.prog X.w X.K X.mg X.base
  tk : Takes X W
  lcl : ∀ x, L2.Loc st x → L2.Loc sc x ∧ (X.fn x = true ∨ sc.names.lookup x = some NameKind.local)
  pas : PassesOwn (model X.prog X.w) X.A X.env X.xe
  lm : ∀ q, n.lq = some q → X.env.qual = q ∧ Room (k + 2) X.A ∧ ∃ c tb, X.env.code = .ref c ∧ LamX.TabB X.base X.mg c tb ∧ (tb, q ++ "<lambda>") ∈ Γ.tb ∧ ∀ p ∈ Γ.tb, p.1 = tb → p.2 = q ++ "<lambda>"
theorem passF {X : Cx} : Passes (L2.CX X.prog X.w) X (fun _ _ _ => False) := fun _ _ _ _ _ _ _ h => by
  obtain ⟨_, _, _, _, _, _, _, _, _, _, _, _, z⟩ := h
  exact z.elim
section
variable {X : Cx} {Γ : Gam} {n : Nms} {k : Nat} {N : List Str} {sc st : Scope} {W : WX}
theorem op_ownEq (h : Cok X Γ n k N sc st W) : OpR X (compareOp .Eq) (rOwnEq Γ X.K) := by
  intro pins s σ H x y v u Q I rx ry q
  obtain ⟨a, C, dx, fs, e, t, rfl, ha, he, ty, hn, q⟩ := q
  obtain ⟨F, hk, hs, hf⟩ := h.gam.eq C e he
  cases rx
  obtain ⟨mA, J, _⟩ := ins_get I.hok ha
  obtain ⟨od, J, _⟩ := J.look
  obtain ⟨m, hF⟩ := I.fr
  obtain ⟨P, Z, p, hx⟩ := kit_of I ry ty
  show wpAny _ _ (richCompare .Eq (.ref a) u) _ _ _
  refine PySem.W.cmp_K (op := .Eq) (tb := t) h.room.units0 hF I.ok.mod.kin J (Z.ty _ _ I.kIn p) hn hs hf ?_
  have hl := F.ok.len _ _ _ _ q
  have r2 : Vals [V.ref a, y] [Value.ref a, u] := .cons rfl (.cons ry .nil)
  have hb := F.bd e.ds.length
  rw [List.drop_length] at hb
  refine wpAny_mono (run_fn (us := [.ref a, u]) (vs := [.ref a, y]) (dvs := []) (ds := []) F.ok (h.room.mono hk) hb .nil passF I r2 (by rw [List.append_nil]; exact q)) (fun r s' hq => ?_) fun _ _ z => z
  obtain ⟨z, H', I', rz, b, ez, q'⟩ := hq
  subst ez
  cases rz
  exact ⟨.bl b, H', I', rfl, q'⟩
theorem op_cmp (h : Cok X Γ n k N sc st W) (op : CmpOp) : OpR X (compareOp op) (rCmp Γ X.K op) := by
  have hu := h.room.units
  cases op with
  | Eq =>
    refine OpR.imp (OpR.or op_eq (OpR.or (op_eqD hu) (op_ownEq h))) fun x y H Q q => ?_
    unfold rCmp rEqG at q
    dsimp only at q
    split at q
    · exact .inl ⟨rfl, by rw [dec_int']; exact q⟩
    · exact .inl ⟨rfl, by rw [dec_str']; exact q⟩
    · exact .inl ⟨rfl, by rw [dec_bl']; exact q⟩
    · exact .inl ⟨rfl, q⟩
    · exact q
  | NotEq =>
    refine OpR.imp (OpR.or op_ne (op_neD hu)) fun x y H Q q => ?_
    unfold rCmp rNeG at q
    dsimp only at q
    split at q
    · exact .inl ⟨rfl, by rw [dec_int']; exact q⟩
    · exact .inl ⟨rfl, by rw [dec_str']; exact q⟩
    · exact .inl ⟨rfl, by rw [dec_bl']; exact q⟩
    · exact .inl ⟨rfl, q⟩
    · exact q
  | Lt =>
    refine OpR.imp (OpR.or op_lt (OpR.or op_lt_str (op_ltT h.room.units0))) fun x y H Q q => ?_
    unfold rCmp rOrd at q
    dsimp only at q
    split at q
    · exact .inl ⟨_, _, rfl, rfl, q⟩
    · exact .inr (.inl ⟨_, _, rfl, rfl, q.2⟩)
    · exact .inr (.inr q.2)
  | LtE =>
    refine OpR.imp op_le fun x y H Q q => ?_
    unfold rCmp rOrd at q
    dsimp only at q
    split at q
    · exact ⟨_, _, rfl, rfl, q⟩
    · exact absurd q.1 Bool.false_ne_true
    · exact absurd q.1 Bool.false_ne_true
  | Gt =>
    refine OpR.imp op_gt fun x y H Q q => ?_
    unfold rCmp rOrd at q
    dsimp only at q
    split at q
    · exact ⟨_, _, rfl, rfl, q⟩
    · exact absurd q.1 Bool.false_ne_true
    · exact absurd q.1 Bool.false_ne_true
  | GtE =>
    refine OpR.imp op_ge fun x y H Q q => ?_
    unfold rCmp rOrd at q
    dsimp only at q
    split at q
    · exact ⟨_, _, rfl, rfl, q⟩
    · exact absurd q.1 Bool.false_ne_true
    · exact absurd q.1 Bool.false_ne_true
  | Is =>
    refine OpR.imp op_isN fun x y H Q q => ?_
    unfold rCmp rIsNt at q
    dsimp only at q
    split at q
    · exact ⟨rfl, q⟩
    · exact q.elim
  | IsNot =>
    refine OpR.imp op_notN fun x y H Q q => ?_
    unfold rCmp rIsNt at q
    dsimp only at q
    split at q
    · exact ⟨rfl, q⟩
    · exact q.elim
  | In =>
    refine OpR.imp (OpR.or op_in_str op_in_seq) fun x y H Q q => ?_
    unfold rCmp rInG at q
    dsimp only at q
    split at q
    · exact .inl ⟨_, _, rfl, rfl, q⟩
    · exact .inr q
  | NotIn =>
    refine OpR.imp (OpR.or op_notin_str op_notIn_seq) fun x y H Q q => ?_
    unfold rCmp rInG at q
    dsimp only at q
    split at q
    · exact .inl ⟨_, _, rfl, rfl, q⟩
    · exact .inr q
end
end Rf
namespace Rf
open PySem PySem.Spec PyProof.Rows L2

/-! ### the syntax -/
inductive BM where
  | append | index | extend | count
  deriving DecidableEq
def BM.name : BM → Str
  | .append => "append" | .index => "index" | .extend => "extend" | .count => "count"
mutual
inductive ME where
  | var (i : Nat) (x : Str) (p : Pos)
  | non (k : Nat) (p : Pos)
  | bl (b : Bool) (k : Nat) (p : Pos)
  | int (i : Int) (k : Nat) (p : Pos)
  | str (s : Str) (k : Nat) (p : Pos)
  | glo (i : Nat) (x : Str) (p : Pos)
  | bin (a : ME) (op : Operator) (b : ME) (p : Pos)
  | neg (a : ME) (p : Pos)
  | not (a : ME) (p : Pos)
  | cmp (a : ME) (op : CmpOp) (b : ME) (p : Pos)
  | cmp2 (a : ME) (op : CmpOp) (b : ME) (op2 : CmpOp) (c : ME) (p : Pos)
  | and (es : MEs) (p : Pos)
  | or (es : MEs) (p : Pos)
  | tup (es : MEs) (k : Nat) (p : Pos)
  | lst (es : MEs) (p : Pos)
  | dic0 (p : Pos)
  | sub (a i : ME) (p : Pos)
  | att (a : ME) (f : Str) (p : Pos)
  | call (i : Nat) (x : Str) (q : Pos) (es : MEs) (p : Pos)
  | make (i : Nat) (x : Str) (q : Pos) (es : MEs) (p : Pos)
  | blt (b : BF) (q : Pos) (e : ME) (es : MEs) (p : Pos)
  | own (a : ME) (m : Str) (q : Pos) (es : MEs) (p : Pos)
  | bm (m : BM) (a : ME) (q : Pos) (e : ME) (p : Pos)
  | callK (i j : Nat) (x : Str) (q : Pos) (es : MEs) (ks : List (Str × Pos)) (ws : MEs) (p : Pos)
  | makeK (i j : Nat) (x : Str) (q : Pos) (es : MEs) (ks : List (Str × Pos)) (ws : MEs) (p : Pos)
  | ownK (j : Nat) (a : ME) (m : Str) (q : Pos) (es : MEs) (ks : List (Str × Pos)) (ws : MEs) (p : Pos)
  | lam (i : Nat) (x : Str) (q : Pos) (body : ME) (scope : Scope) (lp : Pos) (p : Pos)
  | lc (elt : ME) (tg : MT) (it : MI) (ifs : MEs) (own : List (Str × Nat)) (scope : Scope) (p : Pos)
inductive MEs where
  | nil
  | cons (e : ME) (r : MEs)
inductive MT where
  | name (i : Nat) (x : Str) (p : Pos)
  | tup (ts : MTs) (k : Nat) (p : Pos)
  | sub (a i : ME) (p : Pos)
inductive MTs where
  | nil
  | cons (t : MT) (r : MTs)
inductive MI where
  | val (e : ME)
  | rng1 (q : Pos) (a : ME) (p : Pos)
  | rng2 (q : Pos) (a b : ME) (p : Pos)
  | enum (q : Pos) (a : ME) (p : Pos)
  | zip (q : Pos) (a b : ME) (p : Pos)
end

/-! ### the text -/
mutual
def eE : ME → Expr
  | .var _ x p => .Name x p
  | .non k p => .Constant .none k p
  | .bl b k p => .Constant (.bool b) k p
  | .int i k p => .Constant (.int i) k p
  | .str s k p => .Constant (.str s) k p
  | .glo _ x p => .Name x p
  | .bin a op b p => .BinOp (eE a) op (eE b) p
  | .neg a p => .UnaryOp .USub (eE a) p
  | .not a p => .UnaryOp .Not (eE a) p
  | .cmp a op b p => .Compare (eE a) [op] [eE b] p
  | .cmp2 a op b op2 c p => .Compare (eE a) [op, op2] [eE b, eE c] p
  | .and es p => .BoolOp .And (eEs es) p
  | .or es p => .BoolOp .Or (eEs es) p
  | .tup es k p => .Tuple (eEs es) k p
  | .lst es p => .List (eEs es) p
  | .dic0 p => .Dict [] [] p
  | .sub a i p => .Subscript (eE a) (eE i) p
  | .att a f p => .Attribute (eE a) f p
  | .call _ x q es p => .Call (.Name x q) (eEs es) [] p
  | .make _ x q es p => .Call (.Name x q) (eEs es) [] p
  | .blt b q e es p => .Call (.Name b.name q) (eE e :: eEs es) [] p
  | .own a m q es p => .Call (.Attribute (eE a) m q) (eEs es) [] p
  | .bm m a q e p => .Call (.Attribute (eE a) m.name q) [eE e] [] p
  | .callK _ _ x q es ks ws p => .Call (.Name x q) (eEs es) (eKs ws ks) p
  | .makeK _ _ x q es ks ws p => .Call (.Name x q) (eEs es) (eKs ws ks) p
  | .ownK _ a m q es ks ws p => .Call (.Attribute (eE a) m q) (eEs es) (eKs ws ks) p
  | .lam _ x q body scope lp p => .Call (.Name x q) [.Lambda ⟨[], [], none, [], [], none, []⟩ (eE body) scope lp] [] p
  | .lc elt tg it ifs _ scope p => .ListComp (eE elt) [⟨eT tg, eI it, eEs ifs, 0⟩] scope p
def eEs : MEs → List Expr
  | .nil => []
  | .cons e r => eE e :: eEs r
def eKs : MEs → List (Str × Pos) → List Keyword
  | .nil, _ => []
  | .cons e r, ks => (match ks with
    | (n, p) :: ks' => ⟨some n, eE e, p⟩ :: eKs r ks'
    | [] => [])
def eT : MT → Expr
  | .name _ x p => .Name x p
  | .tup ts k p => .Tuple (eTs ts) k p
  | .sub a i p => .Subscript (eE a) (eE i) p
def eTs : MTs → List Expr
  | .nil => []
  | .cons t r => eT t :: eTs r
def eI : MI → Expr
  | .val e => eE e
  | .rng1 q a p => .Call (.Name "range" q) [eE a] [] p
  | .rng2 q a b p => .Call (.Name "range" q) [eE a, eE b] [] p
  | .enum q a p => .Call (.Name "enumerate" q) [eE a] [] p
  | .zip q a b p => .Call (.Name "zip" q) [eE a, eE b] [] p
end

/-! ### what it means -/
def tAs : List (TE × TT) → TA
  | [] => tNil
  | d :: r => tCons d.1 (tAs r)
def tAndT : List (TE × TT) → TT
  | [] => fun _ _ _ => False
  | [d] => d.2
  | d :: r => L2.tAnd d.2 (tAndT r)
def tOrT' : List (TE × TT) → TT
  | [] => fun _ _ _ => False
  | [d] => d.2
  | d :: r => L2.tOr d.2 (tOrT' r)
def tRu (K : Frag) (t : TE) : TT := fun σ H Q => t σ H fun x H1 => rTru K x H1 Q
def tAndVs (K : Frag) : List (TE × TT) → TE
  | [] => fun _ _ _ => False
  | [d] => d.1
  | d :: r => fun σ H Q => d.1 σ H fun x H1 => rTru K x H1 fun k H2 => if k = true then tAndVs K r σ H2 Q else Q x H2
def tOrVs (K : Frag) : List (TE × TT) → TE
  | [] => fun _ _ _ => False
  | [d] => d.1
  | d :: r => fun σ H Q => d.1 σ H fun x H1 => rTru K x H1 fun k H2 => if k = true then Q x H2 else tOrVs K r σ H2 Q
def rNeg : V → Hp → VK → Prop := fun x H Q => match x with
  | .int i => Q (.int (-i)) H
  | _ => False
def rSub (K : Frag) : R2 := fun x y H Q => match x, y with
  | .ref p, .int i => (∃ xs v, (SqL K H p xs ∨ SqT K H p xs) ∧ atI xs i = some v ∧ Q v H)
  | .str z, .int i => z.length ≤ sizeLine ∧ ∃ c, atI z.cps.toList i = some c ∧ Q (.str ⟨#[c]⟩) H
  | _, _ => False
def tOfTE (K : Frag) (t : TE) : TE × TT := (t, tRu K t)
def gAtt (Γ : Gam) (ta : TE) (f : Str) : TE := fun σ H Q => ta σ H fun x H1 => ∃ a C dx fs v, x = .ref a ∧ H1 a = some (.ins C dx fs) ∧ Γ.att C f ∧ fs.lookup f = some v ∧ Q v H1
def dflt (e : FnE) (n : Nat) : List V := e.dvs.drop (n + e.dvs.length - e.ps.length)
def gCall (Γ : Gam) (W : WX) (i n : Nat) (t : TA) : TE := fun σ H Q => match Γ.fn[i]? with
  | some (_, e) => t σ H fun vs H1 => e.sp (vs ++ dflt e n) H1 Q (fun c d H' => W c d σ H')
  | none => False
def gMake (Γ : Gam) (W : WX) (i n : Nat) (t : TA) : TE := fun σ H Q => match Γ.cl[i]? with
  | some (_, C, e) => t σ H fun vs H1 => ∀ x dx, H1 x = none → H1 dx = none → dx ≠ x →
      e.sp (.ref x :: (vs ++ dflt e (n + 1))) (upd (upd H1 dx (.own x)) x (.ins C dx [])) (fun v H2 => v = .non ∧ Q (.ref x) H2) (fun c d H' => W c d σ H')
  | none => False
def gOwn (Γ : Gam) (W : WX) (m : Str) (n : Nat) (ta : TE) (t : TA) : TE := fun σ H Q => ∃ C e, Γ.mt C m e ∧ ta σ H fun x H1 => ∃ a dx fs, x = .ref a ∧ H1 a = some (.ins C dx fs) ∧ fs.lookup m = none ∧
  t σ H1 fun vs H2 => e.sp (x :: (vs ++ dflt e (n + 1))) H2 Q (fun c d H' => W c d σ H')
def gLam (Γ : Gam) (i : Nat) (t : XK → TE) : TE := fun σ H Q => match Γ.lam[i]? with
  | some (_, TT) => LamX.tLam Γ.tb TT t σ H Q
  | none => False
def gCallK (Γ : Gam) (W : WX) (i j n : Nat) (ks : List Str) (t tk : TA) : TE := fun σ H Q => match Γ.fn[i]? with
  | some (_, e) => ∃ gV, e.kb[j]? = some (n, ks, gV) ∧ t σ H fun vs H1 => tk σ H1 fun zs H2 => vs.length = n ∧ zs.length = ks.length ∧ e.sp (gV vs zs) H2 Q (fun c d H' => W c d σ H')
  | none => False
def gMakeK (Γ : Gam) (W : WX) (i j n : Nat) (ks : List Str) (t tk : TA) : TE := fun σ H Q => match Γ.cl[i]? with
  | some (_, C, e) => ∃ gV, e.kb[j]? = some (n + 1, ks, gV) ∧ t σ H fun vs H1 => tk σ H1 fun zs H2 => vs.length = n ∧ zs.length = ks.length ∧ ∀ x dx, H2 x = none → H2 dx = none → dx ≠ x →
      e.sp (gV (.ref x :: vs) zs) (upd (upd H2 dx (.own x)) x (.ins C dx [])) (fun v H3 => v = .non ∧ Q (.ref x) H3) (fun c d H' => W c d σ H')
  | none => False
def gOwnK (Γ : Gam) (W : WX) (j : Nat) (m : Str) (n : Nat) (ks : List Str) (ta : TE) (t tk : TA) : TE := fun σ H Q => ∃ C e gV, Γ.mt C m e ∧ e.kb[j]? = some (n + 1, ks, gV) ∧ ta σ H fun x H1 => ∃ a dx fs, x = .ref a ∧ H1 a = some (.ins C dx fs) ∧ fs.lookup m = none ∧
  t σ H1 fun vs H2 => tk σ H2 fun zs H3 => vs.length = n ∧ zs.length = ks.length ∧ e.sp (gV (x :: vs) zs) H3 Q (fun c d H' => W c d σ H')
def BM.r (K : Frag) : BM → V → V → Hp → VK → Prop
  | .append => fun x y H Q => ∃ l xs, x = .ref l ∧ H l = some (.lst xs) ∧ xs.length < sizeLine ∧ Q .non (upd H l (.lst (xs ++ [y])))
  | .index => fun x y H Q => rIndex K x [y] H Q
  | .extend => fun x y H Q => rExtend x [y] H Q
  | .count => fun x y H Q => rCount K x [y] H Q
def bmR (K : Frag) (m : BM) : V → List V → Hp → VK → Prop := fun x xs H Q => match xs with
  | [y] => m.r K x y H Q
  | _ => False
def iVal (K : Frag) (te : TE) : TI := fun σ H R => te σ H fun x H1 => match x with
  | .ref a => (∃ xs, SqL K H1 a xs ∧ R (Itl K a) H1) ∨ (∃ xs, SqT K H1 a xs ∧ R (Itt K a) H1)
  | _ => False
def MEs.len : MEs → Nat
  | .nil => 0
  | .cons _ r => r.len + 1
mutual
def dE (Γ : Gam) (K : Frag) : ME → WX → TE × TT
  | .var i _ _, _ => tOfTE K (tVar i)
  | .non _ _, _ => tOfTE K (tC .non)
  | .bl b _ _, _ => tOfTE K (tC (.bl b))
  | .int i _ _, _ => tOfTE K (tC (.int i))
  | .str s _ _, _ => tOfTE K (tC (.str s))
  | .glo i _ _, _ => tOfTE K (fun _ H Q => match Γ.glo[i]? with | some (_, v) => Q v H | none => False)
  | .bin a op b _, W => tOfTE K (tOp (rBin K op) (dE Γ K a W).1 (dE Γ K b W).1)
  | .neg a _, W => tOfTE K (tUn rNeg (dE Γ K a W).1)
  | .not a _, W => (fun σ H Q => (dE Γ K a W).1 σ H fun x H1 => rTru K x H1 fun k H2 => Q (.bl (!k)) H2, L2.tNot (dE Γ K a W).2)
  | .cmp a op b _, W => (tOp (rCmp Γ K op) (dE Γ K a W).1 (dE Γ K b W).1, tTest (tOp (rCmp Γ K op) (dE Γ K a W).1 (dE Γ K b W).1))
  | .cmp2 a op b op2 c _, W => (tChain (rCmp Γ K op) (rCmp Γ K op2) (dE Γ K a W).1 (dE Γ K b W).1 (dE Γ K c W).1, tTest (tChain (rCmp Γ K op) (rCmp Γ K op2) (dE Γ K a W).1 (dE Γ K b W).1 (dE Γ K c W).1))
  | .and es _, W => (tAndVs K (dEs Γ K es W), tAndT (dEs Γ K es W))
  | .or es _, W => (tOrVs K (dEs Γ K es W), tOrT' (dEs Γ K es W))
  | .tup es _ _, W => tOfTE K (tTup (tAs (dEs Γ K es W)))
  | .lst es _, W => tOfTE K (tLst (tAs (dEs Γ K es W)))
  | .dic0 _, _ => tOfTE K (fun _ H Q => ∀ p, H p = none → Q (.ref p) (upd H p (.dK [])))
  | .sub a i _, W => tOfTE K (tOp (rSub K) (dE Γ K a W).1 (dE Γ K i W).1)
  | .att a f _, W => tOfTE K (gAtt Γ (dE Γ K a W).1 f)
  | .call i _ _ es _, W => tOfTE K (gCall Γ W i es.len (tAs (dEs Γ K es W)))
  | .make i _ _ es _, W => tOfTE K (gMake Γ W i es.len (tAs (dEs Γ K es W)))
  | .blt b _ e es _, W => tOfTE K (tCB (b.r K) (tCons (dE Γ K e W).1 (tAs (dEs Γ K es W))))
  | .own a m _ es _, W => tOfTE K (gOwn Γ W m es.len (dE Γ K a W).1 (tAs (dEs Γ K es W)))
  | .bm m a _ e _, W => tOfTE K (tBM K "list" (bmR K m) (dE Γ K a W).1 (tCons (dE Γ K e W).1 tNil))
  | .callK i j _ _ es ks ws _, W => tOfTE K (gCallK Γ W i j es.len (ks.map (·.1)) (tAs (dEs Γ K es W)) (tAs (dEs Γ K ws W)))
  | .makeK i j _ _ es ks ws _, W => tOfTE K (gMakeK Γ W i j es.len (ks.map (·.1)) (tAs (dEs Γ K es W)) (tAs (dEs Γ K ws W)))
  | .ownK j a m _ es ks ws _, W => tOfTE K (gOwnK Γ W j m es.len (ks.map (·.1)) (dE Γ K a W).1 (tAs (dEs Γ K es W)) (tAs (dEs Γ K ws W)))
  | .lam i _ _ body _ _ _, _ => tOfTE K (gLam Γ i fun E => (dE Γ K body (fun c d _ H => E c d H)).1)
  | .lc elt tg it ifs own _ _, W => tOfTE K (tLc (dI Γ K it W) (dT Γ K tg (fun _ _ _ _ => False)) (match dEs Γ K ifs (fun _ _ _ _ => False) with | [] => tYes | d :: _ => d.2) (dE Γ K elt (fun _ _ _ _ => False)).1 (own.map (·.2)))
def dEs (Γ : Gam) (K : Frag) : MEs → WX → List (TE × TT)
  | .nil, _ => []
  | .cons e r, W => dE Γ K e W :: dEs Γ K r W
def dT (Γ : Gam) (K : Frag) : MT → WX → TG
  | .name i _ _, _ => gName i
  | .tup ts _ _, W => gTup K (dTs Γ K ts W).1 (dTs Γ K ts W).2
  | .sub a i _, W => gSub (dE Γ K a W).1 (dE Γ K i W).1 rSetL
def dTs (Γ : Gam) (K : Frag) : MTs → WX → Nat × TGs
  | .nil, _ => (0, gNil)
  | .cons t r, W => ((dTs Γ K r W).1 + 1, gCons (dT Γ K t W) (dTs Γ K r W).2)
def dI (Γ : Gam) (K : Frag) : MI → WX → TI
  | .val e, W => iVal K (dE Γ K e W).1
  | .rng1 _ a _, W => iRng1 (tCons (dE Γ K a W).1 tNil)
  | .rng2 _ a b _, W => iRng2 (tCons (dE Γ K a W).1 (tCons (dE Γ K b W).1 tNil))
  | .enum _ a _, W => iEnum K (tCons (dE Γ K a W).1 tNil)
  | .zip _ a b _, W => iZip K (tCons (dE Γ K a W).1 (tCons (dE Γ K b W).1 tNil))
end

/-! ### what is looked at in the text -/
def okName (sc : Scope) (x : Str) (ks : List NameKind) : Bool := (match sc.names.lookup x with | some k => ks.contains k | none => false) && !(x == ("__debug__" : Str)) && !(x == ("__classdict__" : Str)) && !(x == ("__name__" : Str)) && !(x == ("super" : Str))
def okBlt (n : Nms) (sc : Scope) (x : Str) : Bool := n.blt.contains x && okName sc x [.globalImplicit]
mutual
def isLc : ME → Bool
  | .lc .. => true
  | _ => false
end
def isTupT : MT → Bool
  | .tup .. => true
  | _ => false
mutual
def wE (N : List Str) : Nms → ME → Scope → Bool
  | n, .var i x _, sc => decide (N[i]? = some x) && okName sc x [.local, .cell, .free]
  | n, .non _ _, _ => true
  | n, .bl _ _ _, _ => true
  | n, .int _ _ _, _ => true
  | n, .str _ _ _, _ => true
  | n, .glo i x _, sc => decide (n.glo[i]? = some x) && okName sc x [.globalImplicit]
  | n, .bin a _ b _, sc => wE N n a sc && wE N n b sc
  | n, .neg a _, sc => wE N n a sc
  | n, .not a _, sc => wE N n a sc
  | n, .cmp a _ b _, sc => wE N n a sc && wE N n b sc
  | n, .cmp2 a _ b _ c _, sc => wE N n a sc && wE N n b sc && wE N n c sc
  | n, .and es _, sc => wEs N n es sc
  | n, .or es _, sc => wEs N n es sc
  | n, .tup es _ _, sc => wEs N n es sc
  | n, .lst es _, sc => wEs N n es sc
  | n, .dic0 _, _ => true
  | n, .sub a i _, sc => wE N n a sc && wE N n i sc
  | n, .att a _ _, sc => wE N n a sc
  | n, .call i x _ es _, sc => decide (n.fn[i]? = some x) && okName sc x [.globalImplicit] && wEs N n es sc
  | n, .make i x _ es _, sc => decide (n.cl[i]? = some x) && okName sc x [.globalImplicit] && wEs N n es sc
  | n, .blt b _ e es _, sc => okBlt n sc b.name && wE N n e sc && wEs N n es sc
  | n, .own a _ q es p, sc => wE N n a sc && wEs N n es sc && (q.endLine == p.line) && decide (es.len < 30)
  | n, .bm _ a q e p, sc => wE N n a sc && wE N n e sc && (q.endLine == p.line)
  | n, .callK i _ x _ es ks ws _, sc => decide (n.fn[i]? = some x) && okName sc x [.globalImplicit] && wEs N n es sc && wEs N n ws sc && decide (ks.length = ws.len)
  | n, .makeK i _ x _ es ks ws _, sc => decide (n.cl[i]? = some x) && okName sc x [.globalImplicit] && wEs N n es sc && wEs N n ws sc && decide (ks.length = ws.len)
  | n, .ownK _ a _ q es ks ws p, sc => wE N n a sc && wEs N n es sc && wEs N n ws sc && decide (ks.length = ws.len) && (q.endLine == p.line) && decide (es.len + ws.len < 29)
  | n, .lam i x _ body scope _ _, sc => decide (n.lam[i]? = some x) && okName sc x [.globalImplicit] && n.lq.isSome && LamX.lamSB sc scope && wE N { n with lq := none } body scope
  | n, .lc elt tg it ifs own scope _, sc => wI N n it sc && (match it with | .val _ => true | .rng1 .. => true | .rng2 .. => true | _ => isTupT tg) && blkC N sc scope own && wT N n tg (relS scope sc) scope && wEs N n ifs (relS scope sc) && decide (ifs.len ≤ 1) && wE N n elt (relS scope sc)
def wEs (N : List Str) : Nms → MEs → Scope → Bool
  | n, .nil, _ => true
  | n, .cons e r, sc => wE N n e sc && wEs N n r sc
def wT (N : List Str) : Nms → MT → Scope → Scope → Bool
  | n, .name i x _, _, st => decide (N[i]? = some x) && okName st x [.local, .cell]
  | n, .tup ts _ _, sc, st => wTs N n ts sc st
  | n, .sub a i _, sc, _ => wE N n a sc && wE N n i sc
def wTs (N : List Str) : Nms → MTs → Scope → Scope → Bool
  | n, .nil, _, _ => true
  | n, .cons t r, sc, st => wT N n t sc st && wTs N n r sc st
def wI (N : List Str) : Nms → MI → Scope → Bool
  | n, .val e, sc => wE N n e sc
  | n, .rng1 _ a _, sc => okBlt n sc "range" && wE N n a sc
  | n, .rng2 _ a b _, sc => okBlt n sc "range" && wE N n a sc && wE N n b sc
  | n, .enum _ a _, sc => okBlt n sc "enumerate" && wE N n a sc
  | n, .zip _ a b _, sc => okBlt n sc "zip" && wE N n a sc && wE N n b sc
end
end Rf
namespace Rf
open PySem PySem.Spec PyProof.Rows L2

/-! ### the shapes that the rules ask of the text -/
theorem star_e (m : ME) (es : List Expr) (env : Env) : starEach (eE m :: es) env = (false, eval (eE m) env) :: starEach es env := by cases m <;> rfl
theorem star_es : ∀ (r : MEs) (env : Env), (starEach (eEs r) env).any (·.1) = false
  | .nil, _ => rfl
  | .cons e r, env => by
    show (starEach (eE e :: eEs r) env).any (·.1) = false
    rw [star_e]
    show (false || (starEach (eEs r) env).any (·.1)) = false
    rw [star_es r env]
    rfl
theorem back_any {pos : Pos} : ∀ (l : List (Bool × Sem Value)), l.any (·.1) = false → (backTo pos l).any (·.1) = false
  | [], _ => rfl
  | (b, t) :: r, h => by
    have h' : (b || r.any (·.1)) = false := h
    rw [Bool.or_eq_false_iff] at h'
    show (b || (backTo pos r).any (·.1)) = false
    rw [h'.1, back_any r h'.2]
    rfl
theorem plain_es (r : MEs) (env : Env) (pos : Pos) : (backTo pos (starEach (eEs r) env)).any (·.1) = false := back_any _ (star_es r env)
theorem all_of_any : ∀ (l : List (Bool × Sem Value)), l.any (·.1) = false → l.all (fun x => !x.1) = true
  | [], _ => rfl
  | (b, t) :: r, h => by
    have h' : (b || r.any (·.1)) = false := h
    rw [Bool.or_eq_false_iff] at h'
    show (!b && r.all (fun x => !x.1)) = true
    rw [h'.1, all_of_any r h'.2]
    rfl
theorem len_es : ∀ r : MEs, (eEs r).length = r.len
  | .nil => rfl
  | .cons e r => by show (eEs r).length + 1 = r.len + 1; rw [len_es r]
theorem okName_ks {sc : Scope} {x : Str} {ks : List NameKind} (h : okName sc x ks = true) : ∃ k ∈ ks, sc.names.lookup x = some k := by
  unfold okName at h
  simp only [Bool.and_eq_true] at h
  obtain ⟨⟨⟨⟨h, _⟩, _⟩, _⟩, _⟩ := h
  split at h
  · rename_i k e
    exact ⟨k, by simpa using h, e⟩
  · cases h
theorem okName_db {sc : Scope} {x : Str} {ks : List NameKind} (h : okName sc x ks = true) : (x == ("__debug__" : Str)) = false := by
  unfold okName at h
  simp only [Bool.and_eq_true, Bool.not_eq_true'] at h
  exact h.1.1.1.2
theorem okName_cd {sc : Scope} {x : Str} {ks : List NameKind} (h : okName sc x ks = true) : (x == ("__classdict__" : Str)) = false := by
  unfold okName at h
  simp only [Bool.and_eq_true, Bool.not_eq_true'] at h
  exact h.1.1.2
theorem okName_nm {sc : Scope} {x : Str} {ks : List NameKind} (h : okName sc x ks = true) : x ≠ "__name__" := by
  unfold okName at h
  simp only [Bool.and_eq_true, Bool.not_eq_true'] at h
  intro e
  rw [e] at h
  exact absurd h.1.2 (by decide +kernel)
theorem okName_su {sc : Scope} {x : Str} {ks : List NameKind} (h : okName sc x ks = true) : (x != ("super" : Str)) = true := by
  unfold okName at h
  simp only [Bool.and_eq_true, Bool.not_eq_true'] at h
  show (!(x == ("super" : Str))) = true
  rw [h.2]
  rfl
theorem abase {n : Nms} {N : List Str} {sc : Scope} (a : ME) (h : wE N n a sc = true) (f : Str) (env : Env) : attributeBase (eE a) f env (eval (eE a) env) = eval (eE a) env := by
  cases a with
  | call i x q es p =>
    cases es with
    | nil =>
      unfold wE at h
      simp only [Bool.and_eq_true] at h
      exact abase_call (okName_su h.1.2)
    | cons e r => rfl
  | make i x q es p =>
    cases es with
    | nil =>
      unfold wE at h
      simp only [Bool.and_eq_true] at h
      exact abase_call (okName_su h.1.2)
    | cons e r => rfl
  | callK i j x q es ks ws p =>
    cases es with
    | nil =>
      unfold wE at h
      simp only [Bool.and_eq_true] at h
      have hs := okName_su h.1.1.1.2
      cases ws with
      | nil => exact abase_call hs
      | cons e r =>
        cases ks with
        | nil => exact abase_call hs
        | cons k ks => rfl
    | cons e r => rfl
  | makeK i j x q es ks ws p =>
    cases es with
    | nil =>
      unfold wE at h
      simp only [Bool.and_eq_true] at h
      have hs := okName_su h.1.1.1.2
      cases ws with
      | nil => exact abase_call hs
      | cons e r =>
        cases ks with
        | nil => exact abase_call hs
        | cons k ks => rfl
    | cons e r => rfl
  | _ => rfl
theorem plainIx (i : ME) : PlainIx (eE i) := by intro o v; cases i <;> rfl
theorem nofold (m : ME) (env : Env) (x : Value) : foldedSetIterable (eE m) env x = pure x := by cases m <;> rfl
theorem nofoldI (m : MI) (env : Env) (x : Value) : foldedSetIterable (eI m) env x = pure x := by
  cases m with
  | val e => exact nofold e env x
  | _ => rfl
theorem nomarkE (op : CmpOp) (b : ME) : behindInMarks op (eE b) = false := by cases b <;> rfl
theorem noswap (m : ME) (t : Option Expr) (l : Nat) (env : Env) (h : isLc m = false) : swapsWith (eE m) t l env = pure false := by
  cases m with
  | lc => cases h
  | _ => rfl
theorem mcall_own {o : Expr} {m : Str} {apos pos : Pos} {args : List Expr} {env : Env} (hb : attributeBase o m env (eval o env) = eval o env)
    (hform : methodCallForm (args.length + ([] : List Keyword).length) (backTo pos (starEach args env)) (backToKw pos (keywordEach [] env)) = true) (hline : (apos.endLine == pos.line) = true) :
    eval (.Call (.Attribute o m apos) args [] pos) env = (do
      let ov ← eval o env
      standAt apos.atName
      let (f, first) ← holding [ov] (getMethod ov m (do return (← importBound o env).getD true))
      callWith pos f first (backTo pos (starEach args env)) (backToKw pos (keywordEach [] env))) := by
  refine mcall_of hb fun ov => ?_
  have hpos : methodCallPos true o env apos pos = pure pos := by
    unfold methodCallPos
    simp [hline]
  unfold methodCall
  rw [hform, hpos]
  rfl
theorem form_es (r : MEs) (env : Env) (pos : Pos) (h : r.len < 30) : methodCallForm ((eEs r).length + ([] : List Keyword).length) (backTo pos (starEach (eEs r) env)) (backToKw pos (keywordEach [] env)) = true := by
  unfold methodCallForm
  rw [all_of_any _ (plain_es r env pos), len_es]
  simp only [Bool.true_and, Bool.and_eq_true, decide_eq_true_eq]
  exact ⟨rfl, by show r.len + 0 + 0 < 30; omega⟩
theorem kw_some (pos : Pos) (env : Env) : ∀ (ws : MEs) (ks : List (Str × Pos)), (backToKw pos (keywordEach (eKs ws ks) env)).all (·.1.isSome) = true
  | .nil, ks => rfl
  | .cons e r, [] => rfl
  | .cons e r, (n, p) :: ks => by
    show (true && (backToKw pos (keywordEach (eKs r ks) env)).all (·.1.isSome)) = true
    rw [kw_some pos env r ks]
    rfl
theorem kw_none (pos : Pos) (env : Env) : ∀ (ws : MEs) (ks : List (Str × Pos)), (backToKw pos (keywordEach (eKs ws ks) env)).any (·.1.isNone) = false
  | .nil, ks => rfl
  | .cons e r, [] => rfl
  | .cons e r, (n, p) :: ks => by
    show (false || (backToKw pos (keywordEach (eKs r ks) env)).any (·.1.isNone)) = false
    rw [kw_none pos env r ks]
    rfl
theorem kw_names (pos : Pos) (env : Env) : ∀ (ws : MEs) (ks : List (Str × Pos)), ks.length = ws.len → (backToKw pos (keywordEach (eKs ws ks) env)).filterMap (·.1) = ks.map (·.1)
  | .nil, [], h => rfl
  | .nil, _ :: _, h => by cases h
  | .cons e r, [], h => by cases h
  | .cons e r, (n, p) :: ks, h => by
    show n :: (backToKw pos (keywordEach (eKs r ks) env)).filterMap (·.1) = n :: ks.map (·.1)
    rw [kw_names pos env r ks (Nat.succ.inj h)]
theorem kw_len : ∀ (ws : MEs) (ks : List (Str × Pos)), ks.length = ws.len → (eKs ws ks).length = ws.len
  | .nil, ks, h => rfl
  | .cons e r, [], h => by cases h
  | .cons e r, (n, p) :: ks, h => by
    show (eKs r ks).length + 1 = r.len + 1
    rw [kw_len r ks (Nat.succ.inj h)]
theorem form_ks (es ws : MEs) (ks : List (Str × Pos)) (env : Env) (pos : Pos) (h : es.len + ws.len < 29) (hk : ks.length = ws.len) : methodCallForm ((eEs es).length + (eKs ws ks).length) (backTo pos (starEach (eEs es) env)) (backToKw pos (keywordEach (eKs ws ks) env)) = true := by
  unfold methodCallForm
  rw [all_of_any _ (plain_es es env pos), kw_some, len_es, kw_len ws ks hk]
  simp only [Bool.true_and, decide_eq_true_eq]
  split <;> omega
theorem mcall_ownK {o : Expr} {m : Str} {apos pos : Pos} {args : List Expr} {kws : List Keyword} {env : Env} (hb : attributeBase o m env (eval o env) = eval o env)
    (hform : methodCallForm (args.length + kws.length) (backTo pos (starEach args env)) (backToKw pos (keywordEach kws env)) = true) (hline : (apos.endLine == pos.line) = true) :
    eval (.Call (.Attribute o m apos) args kws pos) env = (do
      let ov ← eval o env
      standAt apos.atName
      let (f, first) ← holding [ov] (getMethod ov m (do return (← importBound o env).getD true))
      callWith pos f first (backTo pos (starEach args env)) (backToKw pos (keywordEach kws env))) := by
  refine mcall_of hb fun ov => ?_
  have hpos : methodCallPos true o env apos pos = pure pos := by
    unfold methodCallPos
    simp [hline]
  unfold methodCall
  rw [hform, hpos]
  rfl
/-- an expression whose truth is its value's -/
def plainT : ME → Bool
  | .not .. => false
  | .cmp .. => false
  | .cmp2 .. => false
  | .and .. => false
  | .or .. => false
  | _ => true
theorem istrue_e (m : ME) (env : Env) (h : plainT m = true) (whole : Sem Value) : isTrue (eE m) env whole = (do let v ← whole; standAt (eE m).pos; holding [v] (truthy v)) := by
  cases m with
  | not => cases h
  | cmp => cases h
  | cmp2 => cases h
  | and => cases h
  | or => cases h
  | _ => rfl
end Rf
namespace Rf
open PySem PySem.Spec PyProof.Rows L2

section
variable {X : Cx} {CX : CXT} {k : Nat} {f C : Addr} {fd : FuncData} {ps : List Str} {sp : Sp} {dvs : List V} {ds : List Value} {E : XK}
/-- a class is called; what is raised is wished for at these slots -/
theorem mk_at {pins : List (Addr × Obj)} {σ : L2.St} {H : Hp} {s : Shared} {Q : VK} {us : List Value} {vs : List V} (M : Mk X.K C f) (F : FnOk X.prog X.w X.K X.mg X.base CX k f fd ps sp) (hr : Room (k + 1) X.A) (hb : Binds X.K fd ps ds)
    (hd : Vals dvs ds) (hx : PassesAt CX X σ E) (I : L2.Inv X pins σ H s) (r : Vals vs us)
    (h : ∀ x dx, H x = none → H dx = none → dx ≠ x → sp (.ref x :: (vs ++ dvs)) (upd (upd H dx (.own x)) x (.ins C dx [])) (fun v H2 => v = .non ∧ Q (.ref x) H2) E) :
    wpAny (model X.prog X.w) X.A (call (.ref C) us) (EP X pins σ Q) X.xe s := by
  have new := h (s.heap.objs.size + 1) s.heap.objs.size (I.hok.fresh (Nat.le_succ _)) (I.hok.fresh (Nat.le_refl _)) (Nat.ne_of_lt (Nat.lt_succ_self _))
  have J := L2.Inv.made (C := C) I
  have rr : Vals (V.ref (s.heap.objs.size + 1) :: (vs ++ dvs)) (Value.ref (s.heap.objs.size + 1) :: (us ++ ds)) := .cons rfl (r.append hd)
  have len : (Value.ref (s.heap.objs.size + 1) :: us ++ ds).length = ps.length := by
    have z := rr.length
    rw [F.len _ _ _ _ new] at z
    exact z.symm
  have bb := hb _ (Value.ref (s.heap.objs.size + 1) :: us) J.kIn len
  refine wpAny_call (make_map (f := f) I.kIn M.makes M.init (beq_iff_eq.mp M.fn) ?_)
  refine codeAny_mono (F.run _ X.stack _ _ ⟨Value.ref (s.heap.objs.size + 1) :: us, []⟩ _ _ _ E (hr.make C us []) (J.env0.make C us []) bb rr new) fun res s' back => ?_
  cases res with
  | error e => exact hx pins _ _ e s' J back
  | ok fl =>
    cases fl with
    | ret u =>
      obtain ⟨v, H', J', rv, ev, q⟩ := J.after back
      subst ev
      exact ⟨rv, ⟨V.ref (s.heap.objs.size + 1), H', J', rfl, q⟩⟩
    | next => exact back.elim
    | brk => exact back.elim
    | cont => exact back.elim
end

/-- the items of a list, each as an expression and as a test -/
inductive LOk (X : Cx) : MEs → List (TE × TT) → Prop
  | nil : LOk X .nil []
  | cons {e : ME} {r : MEs} {d : TE × TT} {ds : List (TE × TT)} (h : PE X (eE e) d.1) (t : PT X (eE e) d.2) (l : LOk X r ds) : LOk X (.cons e r) (d :: ds)
theorem LOk.pa {X : Cx} : ∀ {r : MEs} {ds : List (TE × TT)}, LOk X r ds → PA X (eEs r) (tAs ds)
  | _, _, .nil => pa_nil
  | _, _, .cons h _ l => pa_cons h l.pa (star_e _ _ _)
theorem LOk.andT {X : Cx} {p : Pos} : ∀ {r : MEs} {ds : List (TE × TT)}, LOk X r ds → PW X (.BoolOp .And (eEs r) p) (tAndT ds)
  | _, _, .nil => ⟨fun _ _ _ _ _ _ _ h => (show False from h).elim⟩
  | _, _, .cons _ t .nil => pw_and1 t
  | _, _, .cons _ t (.cons h' t' l) => pw_and t (LOk.andT (.cons h' t' l))
theorem LOk.orT {X : Cx} {p : Pos} : ∀ {r : MEs} {ds : List (TE × TT)}, LOk X r ds → PW X (.BoolOp .Or (eEs r) p) (tOrT' ds)
  | _, _, .nil => ⟨fun _ _ _ _ _ _ _ h => (show False from h).elim⟩
  | _, _, .cons _ t .nil => pw_or1 t
  | _, _, .cons _ t (.cons h' t' l) => pw_or t (LOk.orT (.cons h' t' l))
theorem tru_at {X : Cx} {pins : List (Addr × Obj)} {σ : L2.St} {H : Hp} {s : Shared} {x : V} {v : Value} {Q : Bool → Hp → Prop} (I : L2.Inv X pins σ H s) (r : L2.RelV x v) (q : rTru X.K x H Q) :
    wpAny (model X.prog X.w) X.A (truthy v) (TP X pins σ Q) X.xe s := tru_ok pins s σ H x v Q I r (rTru_of q)
theorem pt_ru {X : Cx} {m : ME} {t : TE} (h : PE X (eE m) t) (hp : plainT m = true) : PT X (eE m) (tRu X.K t) := by
  refine ⟨fun pins s σ H Q I hw => ?_⟩
  exact isTrue_plain (thn (h.run pins s σ H _ I hw) fun v s1 ⟨x, H1, I1, r1, q1⟩ => tru_at I1 r1 q1) (istrue_e m _ hp _)
theorem pe_not' {X : Cx} {a : Expr} {t : TE} {p : Pos} (h : PE X a t) : PE X (.UnaryOp .Not a p) (fun σ H Q => t σ H fun x H1 => rTru X.K x H1 fun k H2 => Q (.bl (!k)) H2) := by
  refine ⟨fun pins s σ H Q I hw => UnaryOp_ (thn (h.run pins s σ H _ I hw) fun v s1 ⟨x, H1, I1, r1, q1⟩ => not_of (thn (tru_at I1 r1 q1) fun c s2 ⟨H2, I2, q2⟩ => ⟨.bl (!c), H2, I2, rfl, q2⟩))⟩
/-- the truth of x, then x itself once more -/
theorem tru_keep {X : Cx} {pins : List (Addr × Obj)} {σ : L2.St} {H : Hp} {s : Shared} {x : V} {v : Value} {k : Bool} (I : L2.Inv X pins σ H s) (r : L2.RelV x v) (e : TruV X.K x H k) :
    wpAny (model X.prog X.w) X.A (truthy v) (fun c s2 => c = k ∧ L2.Inv X pins σ H s2) X.xe s :=
  thn (tru_ok pins s σ H x v (fun c H2 => c = k ∧ H2 = H) I r ⟨k, e, rfl, rfl⟩) fun c s2 ⟨H2, I2, e1, e2⟩ => ⟨e1, by rw [← e2]; exact I2⟩
theorem pe_and' {X : Cx} {a b : Expr} {rest : List Expr} {ta tb : TE} {p : Pos} (ha : PE X a ta) (hb : PE X (.BoolOp .And (b :: rest) p) tb) :
    PE X (.BoolOp .And (a :: b :: rest) p) (fun σ H Q => ta σ H fun x H1 => rTru X.K x H1 fun k H2 => if k = true then tb σ H2 Q else Q x H2) := by
  refine ⟨fun pins s σ H Q I hw => BoolOp_and (thn (ha.run pins s σ H _ I hw) fun v s1 ⟨x, H1, I1, r1, q1⟩ => ?_)⟩
  obtain ⟨k, e, q⟩ := rTru_of q1
  refine thn (tru_keep I1 r1 e) fun c s2 hc => ?_
  obtain ⟨rfl, I2⟩ := hc
  cases c with
  | true => exact hb.run pins s2 σ H1 Q I2 q
  | false => exact ⟨x, H1, I2, r1, q⟩
theorem pe_or' {X : Cx} {a b : Expr} {rest : List Expr} {ta tb : TE} {p : Pos} (ha : PE X a ta) (hb : PE X (.BoolOp .Or (b :: rest) p) tb) :
    PE X (.BoolOp .Or (a :: b :: rest) p) (fun σ H Q => ta σ H fun x H1 => rTru X.K x H1 fun k H2 => if k = true then Q x H2 else tb σ H2 Q) := by
  refine ⟨fun pins s σ H Q I hw => BoolOp_or (thn (ha.run pins s σ H _ I hw) fun v s1 ⟨x, H1, I1, r1, q1⟩ => ?_)⟩
  obtain ⟨k, e, q⟩ := rTru_of q1
  refine thn (tru_keep I1 r1 e) fun c s2 hc => ?_
  obtain ⟨rfl, I2⟩ := hc
  cases c with
  | true => exact ⟨x, H1, I2, r1, q⟩
  | false => exact hb.run pins s2 σ H1 Q I2 q
theorem LOk.andV {X : Cx} {p : Pos} : ∀ {r : MEs} {ds : List (TE × TT)}, LOk X r ds → PE X (.BoolOp .And (eEs r) p) (tAndVs X.K ds)
  | _, _, .nil => ⟨fun _ _ _ _ _ _ h => (show False from h).elim⟩
  | _, _, .cons h _ .nil => pe_one h
  | _, _, .cons h _ (.cons h' t' l) => pe_and' h (LOk.andV (.cons h' t' l))
theorem LOk.orV {X : Cx} {p : Pos} : ∀ {r : MEs} {ds : List (TE × TT)}, LOk X r ds → PE X (.BoolOp .Or (eEs r) p) (tOrVs X.K ds)
  | _, _, .nil => ⟨fun _ _ _ _ _ _ h => (show False from h).elim⟩
  | _, _, .cons h _ .nil => pe_one h
  | _, _, .cons h _ (.cons h' t' l) => pe_or' h (LOk.orV (.cons h' t' l))

/-! ### small rules of one's own -/
theorem un_neg' {X : Cx} : UnR X (unaryOp .USub) rNeg := fun pins s σ H x v Q I r q => by
  cases x with
  | int i => exact un_neg pins s σ H (.int i) v Q I r ⟨i, rfl, q⟩
  | _ => exact (show False from q).elim
theorem IxR.imp {X : Cx} {r r' : R2} (h : IxR X r) (hi : ∀ x y H Q, r' x y H Q → r x y H Q) : IxR X r' := by
  intro e1 e2 pins s σ H x y v u Q I r1 r2 q hs
  exact h e1 e2 pins s σ H x y v u Q I r1 r2 (hi x y H Q q) hs
theorem ix_sub {X : Cx} : IxR X (rSub X.K) := IxR.imp ix_seq fun x y H Q q => by
  unfold rSub at q
  split at q
  · obtain ⟨xs, v, h, e, q⟩ := q
    exact h.elim (fun h => .inl ⟨_, xs, _, v, rfl, rfl, h, e, q⟩) fun h => .inr (.inl ⟨_, xs, _, v, rfl, rfl, h, e, q⟩)
  · obtain ⟨hz, c, e, q⟩ := q
    exact .inr (.inr ⟨_, _, c, rfl, rfl, hz, e, q⟩)
  · exact q.elim
theorem att_ok {X : Cx} {Γ : Gam} {n : Nms} {k : Nat} {N : List Str} {sc st : Scope} {W : WX} (hX : Cok X Γ n k N sc st W) {e : Expr} {f : Str} {ta : TE} {p : Pos} (he : PE X e ta) (hb : attributeBase e f X.env (eval e X.env) = eval e X.env) :
    PE X (.Attribute e f p) (gAtt Γ ta f) := by
  refine ⟨fun pins s σ H Q I h => attr_of hb (thn (he.run pins s σ H _ I h) fun u s1 hh => ?_)⟩
  obtain ⟨x, H1, I1, rx, a, C, dx, fs, v, ex, ea, ht, l, q⟩ := hh
  obtain ⟨c, nn⟩ := hX.gam.att C f ht
  subst ex
  cases rx
  exact getattr_ok I1 ea c nn l fun w s2 I2 rw' => ⟨v, H1, I2, rw', q⟩

theorem lk {α : Type} {l : List (Str × α)} {ns : List Str} {i : Nat} {x : Str} (e : l.map (·.1) = ns) (h : ns[i]? = some x) : ∃ a, l[i]? = some (x, a) ∧ (x, a) ∈ l := by
  rw [← e, List.getElem?_map] at h
  cases q : l[i]? with
  | none => rw [q] at h; cases h
  | some p =>
    rw [q] at h
    obtain ⟨y, a⟩ := p
    have z : y = x := Option.some.inj h
    subst z
    exact ⟨a, rfl, List.mem_of_getElem? q⟩
section
variable {X : Cx} {Γ : Gam} {n : Nms} {k : Nat} {N : List Str} {sc st : Scope} {W : WX}
theorem gl_of (hX : Cok X Γ n k N sc st W) {x : Str} (h : okName sc x [.globalImplicit] = true) : Gl X x := by
  obtain ⟨q, hq, e⟩ := okName_ks h
  have z : q = .globalImplicit := by simpa using hq
  subst z
  show X.env.scope.names.lookup x = some .globalImplicit
  rw [hX.eSc]
  exact e
theorem vis_of (hX : Cok X Γ n k N sc st W) {x : Str} (h : okName sc x [.local, .cell, .free] = true) : Vis X.env.scope x := by
  obtain ⟨q, hq, e⟩ := okName_ks h
  rw [hX.eSc]
  simp only [List.mem_cons, List.not_mem_nil, or_false] at hq
  rcases hq with rfl | rfl | rfl
  · exact .inl e
  · exact .inr (.inl e)
  · exact .inr (.inr e)
theorem glo_ok (hX : Cok X Γ n k N sc st W) {i : Nat} {x : Str} {p : Pos} (h1 : n.glo[i]? = some x) (h2 : okName sc x [.globalImplicit] = true) :
    PE X (.Name x p) (fun _ H Q => match Γ.glo[i]? with | some (_, v) => Q v H | none => False) := by
  obtain ⟨v, e, hm⟩ := lk hX.gam.gloN h1
  obtain ⟨u, r, h⟩ := hX.gam.glo x v hm
  refine ⟨fun pins s σ H Q I q => ?_⟩
  rw [e] at q
  have q' : Q v H := q
  rcases h with h | ⟨h, hb, hn⟩
  · exact ld_glob I (gl_of hX h2) h ⟨v, H, I, r, q'⟩ (okName_db h2)
  · exact ld_blt I (gl_of hX h2) h hb ⟨v, H, I, r, q'⟩ hn (okName_db h2)
theorem ev_args {M : Model} {A : Around} {E : Value → Shared → Prop} {s : Shared} {f : Value} : ∀ {l : List (Bool × Sem Value)} {Q : Args → Shared → Prop}, l.any (·.1) = false → wpAny M A (spliced l) (fun vs s' => Q ⟨vs, []⟩ s') E s → wpAny M A (evalArgs f true l []) Q E s
  | [], Q, _, h => by
    unfold evalArgs
    show wpAny M A (spliced [] >>= _) Q E s
    exact wpAny_bind (wpAny_mono h (fun vs s' h' => wpAny_holding (wpAny_bind (wpAny_pure (wpAny_bind (wpAny_pure (wpAny_pure h')))))) fun _ _ x => x)
  | (false, x) :: r, Q, _, h => PySem.Calls.evalArgs_plain h
  | (true, x) :: r, Q, e, _ => by cases e
theorem cw_es {f : Value} {first : List Value} {es : MEs} {t : TA} {pins : List (Addr × Obj)} {s : Shared} {σ : L2.St} {H : Hp} {p : Pos} {R : List V → Hp → Prop} {Q : Value → Shared → Prop} (hk : PySem.W.keepIn X.K f = true) (ha : PA X (eEs es) t) (I : L2.Inv X pins σ H s) (h : t σ H R)
    (hf : ∀ (us : List Value) (s1 : Shared) (vs : List V) (H1 : Hp), L2.Inv X pins σ H1 s1 → Vals vs us → R vs H1 → wpAny (model X.prog X.w) X.A (call f (first ++ us)) Q X.xe s1) :
    wpAny (model X.prog X.w) X.A (callWith p f first (backTo p (starEach (eEs es) X.env)) (backToKw p (keywordEach [] X.env))) Q X.xe s := by
  refine PySem.W.callWith_of (by show ((backTo p (starEach (eEs es) X.env)).any (·.1) || false) = false; rw [plain_es]; rfl) (PySem.W.keeps_K hk) (ev_args (plain_es es X.env p) ?_)
  exact thn (ha.run p pins s σ H R I h) fun us s1 ⟨vs, H1, I1, rv, q⟩ => ⟨I1.kIn, hf us s1 vs H1 I1 rv q⟩
theorem dflt_ok {P : Program} {w : World} {K : Frag} {mg : Str → Option Value} {base : Heap} {e : FnE} (h : FnOkE P w K mg base e) (m : Nat) : Vals (dflt e m) (e.ds.drop (m + e.dvs.length - e.ps.length)) := Vals.drop _ h.vd
theorem call_ok (hX : Cok X Γ n k N sc st W) {i : Nat} {x : Str} {q p : Pos} {es : MEs} {t : TA} (h1 : n.fn[i]? = some x) (h2 : okName sc x [.globalImplicit] = true) (ha : PA X (eEs es) t) :
    PE X (.Call (.Name x q) (eEs es) [] p) (gCall Γ W i es.len t) := by
  obtain ⟨e, he, hm⟩ := lk hX.gam.fnN h1
  obtain ⟨F, hk, hg⟩ := hX.gam.fn x e hm
  refine ⟨fun pins s σ H Q I h => ?_⟩
  unfold gCall at h
  rw [he] at h
  have h' : t σ H fun vs H1 => e.sp (vs ++ dflt e es.len) H1 Q (fun c d H' => W c d σ H') := h
  have go : ∀ {us : List Value} {vs : List V} {H1 : Hp} {s1 : Shared}, L2.Inv X pins σ H1 s1 → Vals vs us → e.sp (vs ++ dflt e es.len) H1 Q (fun c d H' => W c d σ H') → wpAny (model X.prog X.w) X.A (call (.ref e.f) us) (EP X pins σ Q) X.xe s1 :=
    fun {us vs H1 s1} I1 r q => run_fnSD (E := fun σ => fun c d H' => W c d σ H') F.ok (hX.room.mono hk) (F.bd _) (dflt_ok F _) (passAt hX.tk σ) I1 r q
  refine wpAny_Call_Name_kw (ld_glob I (gl_of hX h2) hg ?_ (okName_db h2))
  exact cw_es (first := []) F.kp ha I h' fun us s1 vs H1 I1 rv q1 => go I1 rv q1
theorem make_ok (hX : Cok X Γ n k N sc st W) {i : Nat} {x : Str} {q p : Pos} {es : MEs} {t : TA} (h1 : n.cl[i]? = some x) (h2 : okName sc x [.globalImplicit] = true) (ha : PA X (eEs es) t) :
    PE X (.Call (.Name x q) (eEs es) [] p) (gMake Γ W i es.len t) := by
  obtain ⟨⟨C, e⟩, he, hm⟩ := lk hX.gam.clN h1
  obtain ⟨F, hk, M, hg⟩ := hX.gam.cl x C e hm
  refine ⟨fun pins s σ H Q I h => ?_⟩
  unfold gMake at h
  rw [he] at h
  refine wpAny_Call_Name_kw (ld_glob I (gl_of hX h2) hg ?_ (okName_db h2))
  refine cw_es (first := []) M.kp ha I (show t σ H _ from h) fun us s1 vs H1 I1 rv q1 => ?_
  exact mk_at (E := fun c d H' => W c d σ H') M F.ok (hX.room.mono hk) (F.bd _) (dflt_ok F _) (passAt hX.tk σ) I1 rv q1
theorem own_ok (hX : Cok X Γ n k N sc st W) {a : ME} {m : Str} {q p : Pos} {es : MEs} {ta : TE} {t : TA} (ho : PE X (eE a) ta) (hw : wE N n a sc = true) (hl : (q.endLine == p.line) = true) (h30 : es.len < 30) (ha : PA X (eEs es) t) :
    PE X (.Call (.Attribute (eE a) m q) (eEs es) [] p) (gOwn Γ W m es.len ta t) := by
  refine PE.orx fun C => PE.orx fun e => ⟨fun pins s σ H Q I h => ?_⟩
  obtain ⟨hm, h⟩ := h
  obtain ⟨F, hk, c, M⟩ := hX.gam.mt C m e hm
  refine PySem.W.methodCall_KW (thn (ho.run pins s σ H _ I h) fun u s1 hh => ?_) (mcall_own (abase a hw m X.env) (form_es es X.env p h30) hl)
  obtain ⟨x, H1, I1, rx, b, dx, fs, ex, ea, l, q1⟩ := hh
  subst ex
  cases rx
  refine getmeth_ok I1 ea c M l ?_
  refine cw_es (first := [.ref b]) M.kp ha I1 q1 fun us s2 vs H2 I2 rv q2 => ?_
  exact run_fnSD (us := .ref b :: us) (vs := .ref b :: vs) (E := fun σ => fun c d H' => W c d σ H') F.ok (hX.room.mono hk) (F.bd _) (dflt_ok F _) (passAt hX.tk σ) I2 (.cons rfl rv) q2
/-! ### calls with keywords -/
theorem LOk.pk {ks : List (Str × Pos)} : ∀ {r : MEs} {ds : List (TE × TT)}, LOk X r ds → ks.length = r.len → PK X (eKs r ks) (tAs ds) := by
  intro r ds l
  induction l generalizing ks with
  | nil => intro _; exact pk_nil
  | cons h t l ih =>
    intro hl
    cases ks with
    | nil => cases hl
    | cons k ks => exact pk_cons h (ih (Nat.succ.inj hl))
theorem cw_ks {f : Value} {first : List Value} {es ws : MEs} {ks : List (Str × Pos)} {ds : List (TE × TT)} {tk : TA} {pins : List (Addr × Obj)} {s : Shared} {σ : L2.St} {H : Hp} {p : Pos} {R : List V → List V → Hp → Prop} {Q : Value → Shared → Prop} (hk : PySem.W.keepIn X.K f = true) (ha : LOk X es ds) (hw : PK X (eKs ws ks) tk) (hl : ks.length = ws.len)
    (I : L2.Inv X pins σ H s) (h : tAs ds σ H fun vs H1 => tk σ H1 fun zs H2 => R vs zs H2)
    (hf : ∀ (us uw : List Value) (s1 : Shared) (vs zs : List V) (H1 : Hp), L2.Inv X pins σ H1 s1 → Vals vs us → Vals zs uw → R vs zs H1 → wpAny (model X.prog X.w) X.A (call f (first ++ us) ((ks.map (·.1)).zip uw)) Q X.xe s1) :
    wpAny (model X.prog X.w) X.A (callWith p f first (backTo p (starEach (eEs es) X.env)) (backToKw p (keywordEach (eKs ws ks) X.env))) Q X.xe s := by
  cases ha with
  | nil =>
    have h' : tk σ H fun zs H2 => R [] zs H2 := h
    refine PySem.W.callWith_KW0 (h₀ := X.base) I.ok.mod.kin hk (kw_some p X.env ws ks) (thn (hw.run p pins s σ H _ I h') fun uw s2 hh => ?_) (by
      show (([] : List (Bool × Sem Value)).any (·.1) || _) = false
      rw [kw_none]; rfl)
    obtain ⟨zs, H2, I2, rz, q2⟩ := hh
    refine ⟨I2.kIn, ?_⟩
    rw [kw_names p X.env ws ks hl]
    exact hf [] uw s2 [] zs H2 I2 .nil rz q2
  | @cons e r d ds' he te l =>
    have ha := (LOk.cons he te l).pa
    refine PySem.W.callWith_KW (h₀ := X.base) I.ok.mod.kin hk (kw_some p X.env ws ks) (thn (ha.run p pins s σ H _ I h) fun us s1 hh => ?_) (by
      show ((backTo p (starEach (eEs (.cons e r)) X.env)).any (·.1) || _) = false
      rw [plain_es, kw_none]; rfl) (star_e e _ _)
    obtain ⟨vs, H1, I1, rv, q⟩ := hh
    refine thn (hw.run p pins s1 σ H1 _ I1 q) fun uw s2 hh => ?_
    obtain ⟨zs, H2, I2, rz, q2⟩ := hh
    refine ⟨I2.kIn, ?_⟩
    rw [kw_names p X.env ws ks hl]
    exact hf us uw s2 vs zs H2 I2 rv rz q2
theorem fn_kw {e : FnE} {m : Nat} {ks : List Str} {gV : List V → List V → List V} {pins : List (Addr × Obj)} {σ : L2.St} {H : Hp} {s : Shared} {Q : VK} {us uw : List Value} {vs zs : List V} (hX : Cok X Γ n k N sc st W) (F : FnOkE X.prog X.w X.K X.mg X.base e) (hk : e.k ≤ k) {j : Nat} (hj : e.kb[j]? = some (m, ks, gV))
    (I : L2.Inv X pins σ H s) (r : Vals vs us) (rz : Vals zs uw) (l1 : vs.length = m) (l2 : zs.length = ks.length) (h : e.sp (gV vs zs) H Q (fun c d H' => W c d σ H')) : wpAny (model X.prog X.w) X.A (call (.ref e.f) us (ks.zip uw)) (EP X pins σ Q) X.xe s := by
  obtain ⟨g, hb⟩ := F.kb _ (List.mem_of_getElem? hj)
  have r2 := hb.rel r rz
  refine wpAny_call (codeAny_mono (F.ok.run X.A X.stack s H ⟨us, ks.zip uw⟩ (g us uw) (gV vs zs) Q (fun c d H' => W c d σ H') (hX.room.mono hk) I.env0 (hb.to s us uw I.kIn (r.length.symm.trans l1) (rz.length.symm.trans l2)) r2 h) fun res s2 back => ?_)
  cases res with
  | error u => exact passAt hX.tk σ pins H s u s2 I back
  | ok fl =>
    cases fl with
    | ret u => exact I.after back
    | next => exact back.elim
    | brk => exact back.elim
    | cont => exact back.elim
theorem mk_kw {e : FnE} {C : Addr} {m : Nat} {ks : List Str} {gV : List V → List V → List V} {pins : List (Addr × Obj)} {σ : L2.St} {H : Hp} {s : Shared} {Q : VK} {us uw : List Value} {vs zs : List V} (hX : Cok X Γ n k N sc st W) (F : FnOkE X.prog X.w X.K X.mg X.base e) (hk : e.k + 1 ≤ k) (M : Mk X.K C e.f) {j : Nat} (hj : e.kb[j]? = some (m + 1, ks, gV))
    (I : L2.Inv X pins σ H s) (r : Vals vs us) (rz : Vals zs uw) (l1 : vs.length = m) (l2 : zs.length = ks.length)
    (h : ∀ x dx, H x = none → H dx = none → dx ≠ x → e.sp (gV (.ref x :: vs) zs) (upd (upd H dx (.own x)) x (.ins C dx [])) (fun v H2 => v = .non ∧ Q (.ref x) H2) (fun c d H' => W c d σ H')) :
    wpAny (model X.prog X.w) X.A (call (.ref C) us (ks.zip uw)) (EP X pins σ Q) X.xe s := by
  obtain ⟨g, hb⟩ := F.kb _ (List.mem_of_getElem? hj)
  have new := h (s.heap.objs.size + 1) s.heap.objs.size (I.hok.fresh (Nat.le_succ _)) (I.hok.fresh (Nat.le_refl _)) (Nat.ne_of_lt (Nat.lt_succ_self _))
  have J := L2.Inv.made (C := C) I
  have rr : Vals (V.ref (s.heap.objs.size + 1) :: vs) (Value.ref (s.heap.objs.size + 1) :: us) := .cons rfl r
  have r2 := hb.rel rr rz
  have b2 := hb.to _ (Value.ref (s.heap.objs.size + 1) :: us) uw J.kIn (rr.length.symm.trans (congrArg Nat.succ l1)) (rz.length.symm.trans l2)
  refine wpAny_call (make_map (f := e.f) I.kIn M.makes M.init (beq_iff_eq.mp M.fn) ?_)
  refine codeAny_mono (F.ok.run _ X.stack _ _ ⟨Value.ref (s.heap.objs.size + 1) :: us, ks.zip uw⟩ _ _ _ (fun c d H' => W c d σ H') ((hX.room.mono hk).make C us (ks.zip uw)) (J.env0.make C us (ks.zip uw)) b2 r2 new) fun res s2 back => ?_
  cases res with
  | error u => exact passAt hX.tk σ pins _ _ u s2 J back
  | ok fl =>
    cases fl with
    | ret u =>
      obtain ⟨v, H', J', rv, ev, q⟩ := J.after back
      subst ev
      exact ⟨rv, ⟨V.ref (s.heap.objs.size + 1), H', J', rfl, q⟩⟩
    | next => exact back.elim
    | brk => exact back.elim
    | cont => exact back.elim
theorem callK_ok (hX : Cok X Γ n k N sc st W) {i j : Nat} {x : Str} {q p : Pos} {es ws : MEs} {ks : List (Str × Pos)} {ds dw : List (TE × TT)} (h1 : n.fn[i]? = some x) (h2 : okName sc x [.globalImplicit] = true) (ha : LOk X es ds) (hw : LOk X ws dw) (hl : ks.length = ws.len) :
    PE X (.Call (.Name x q) (eEs es) (eKs ws ks) p) (gCallK Γ W i j es.len (ks.map (·.1)) (tAs ds) (tAs dw)) := by
  obtain ⟨e, he, hm⟩ := lk hX.gam.fnN h1
  obtain ⟨F, hk, hg⟩ := hX.gam.fn x e hm
  refine ⟨fun pins s σ H Q I h => ?_⟩
  unfold gCallK at h
  rw [he] at h
  obtain ⟨gV, hj, h⟩ := h
  refine wpAny_Call_Name_kw (ld_glob I (gl_of hX h2) hg ?_ (okName_db h2))
  refine cw_ks (first := []) F.kp ha (hw.pk hl) hl I h fun us uw s1 vs zs H1 I1 rv rz q1 => ?_
  exact fn_kw hX F hk hj I1 rv rz q1.1 q1.2.1 q1.2.2
theorem makeK_ok (hX : Cok X Γ n k N sc st W) {i j : Nat} {x : Str} {q p : Pos} {es ws : MEs} {ks : List (Str × Pos)} {ds dw : List (TE × TT)} (h1 : n.cl[i]? = some x) (h2 : okName sc x [.globalImplicit] = true) (ha : LOk X es ds) (hw : LOk X ws dw) (hl : ks.length = ws.len) :
    PE X (.Call (.Name x q) (eEs es) (eKs ws ks) p) (gMakeK Γ W i j es.len (ks.map (·.1)) (tAs ds) (tAs dw)) := by
  obtain ⟨⟨C, e⟩, he, hm⟩ := lk hX.gam.clN h1
  obtain ⟨F, hk, M, hg⟩ := hX.gam.cl x C e hm
  refine ⟨fun pins s σ H Q I h => ?_⟩
  unfold gMakeK at h
  rw [he] at h
  obtain ⟨gV, hj, h⟩ := h
  refine wpAny_Call_Name_kw (ld_glob I (gl_of hX h2) hg ?_ (okName_db h2))
  refine cw_ks (first := []) M.kp ha (hw.pk hl) hl I h fun us uw s1 vs zs H1 I1 rv rz q1 => ?_
  exact mk_kw hX F hk M hj I1 rv rz q1.1 q1.2.1 q1.2.2
theorem ownK_ok (hX : Cok X Γ n k N sc st W) {j : Nat} {a : ME} {m : Str} {q p : Pos} {es ws : MEs} {ks : List (Str × Pos)} {ta : TE} {ds dw : List (TE × TT)} (ho : PE X (eE a) ta) (hw : wE N n a sc = true) (hl : (q.endLine == p.line) = true) (h30 : es.len + ws.len < 29) (ha : LOk X es ds) (hk' : LOk X ws dw) (hlk : ks.length = ws.len) :
    PE X (.Call (.Attribute (eE a) m q) (eEs es) (eKs ws ks) p) (gOwnK Γ W j m es.len (ks.map (·.1)) ta (tAs ds) (tAs dw)) := by
  refine PE.orx fun C => PE.orx fun e => PE.orx fun gV => ⟨fun pins s σ H Q I h => ?_⟩
  obtain ⟨hm, hj, h⟩ := h
  obtain ⟨F, hk, c, M⟩ := hX.gam.mt C m e hm
  refine PySem.W.methodCall_KW (thn (ho.run pins s σ H _ I h) fun u s1 hh => ?_) (mcall_ownK (abase a hw m X.env) (form_ks es ws ks X.env p h30 hlk) hl)
  obtain ⟨x, H1, I1, rx, b, dx, fs, ex, ea, l, q1⟩ := hh
  subst ex
  cases rx
  refine getmeth_ok I1 ea c M l ?_
  refine cw_ks (first := [.ref b]) F.kp ha (hk'.pk hlk) hlk I1 q1 fun us uw s2 vs zs H2 I2 rv rz q2 => ?_
  exact fn_kw (us := .ref b :: us) (vs := .ref b :: vs) hX F hk hj I2 (.cons rfl rv) rz (congrArg Nat.succ q2.1) q2.2.1 q2.2.2
end
end Rf
namespace Rf
open PySem PySem.Spec PyProof.Rows L2
section
variable {X : Cx} {Γ : Gam} {n : Nms} {k : Nat} {N : List Str} {sc st : Scope} {W : WX}
theorem MtR.imp {id : String} {r r' : V → List V → Hp → VK → Prop} (h : MtR X id r) (hi : ∀ x xs H Q, r' x xs H Q → r x xs H Q) : MtR X id r' :=
  fun pins s σ H x xs v us Q I r1 r2 q => h pins s σ H x xs v us Q I r1 r2 (hi x xs H Q q)
theorem bm_ok (m : BM) {o e : Expr} {to te : TE} {q p : Pos} (ho : PE X o to) (he : PE X e te) (hb : attributeBase o m.name X.env (eval o X.env) = eval o X.env) (hs : starEach [e] X.env = [(false, eval e X.env)]) (hl : (q.endLine == p.line) = true) :
    PE X (.Call (.Attribute o m.name q) [e] [] p) (tBM X.K "list" (bmR X.K m) to (tCons te tNil)) := by
  have ha : PA X [e] (tCons te tNil) := pa_cons he pa_nil hs
  have hf : ((backTo p (starEach [e] X.env)).all (fun x => !x.1) && (backToKw p (keywordEach [] X.env)).all (fun x => x.1.isSome) && decide (([e] : List Expr).length + ([] : List Keyword).length + (if ([] : List Keyword).isEmpty then 0 else 1) < 30)) = true := by rw [hs]; rfl
  cases m with
  | append =>
    refine pe_bm PySem.F.plainAttrs_list PySem.F.slot_list_append PySem.F.type_list_append (MtR.imp mt_append fun x xs H Q h => ?_) ho ha hb hf hl hs rfl
    match xs, h with
    | [y], ⟨l, ys, e1, e2, e3, q⟩ => exact ⟨l, ys, y, e1, rfl, e2, e3, q⟩
  | index =>
    refine pe_bm PySem.F.plainAttrs_list PySem.F.slot_list_index PySem.F.type_list_index (MtR.imp mt_index fun x xs H Q h => ?_) ho ha hb hf hl hs rfl
    match xs, h with
    | [y], h => exact h
  | extend =>
    refine pe_bm PySem.F.plainAttrs_list PySem.F.slot_list_extend PySem.F.type_list_extend (MtR.imp mt_extend fun x xs H Q h => ?_) ho ha hb hf hl hs rfl
    match xs, h with
    | [y], h => exact h
  | count =>
    refine pe_bm PySem.F.plainAttrs_list PySem.F.slot_list_count PySem.F.type_list_count (MtR.imp mt_countF fun x xs H Q h => ?_) ho ha hb hf hl hs rfl
    match xs, h with
    | [y], h => exact h
/-- a list or a tuple is walked -/
theorem val_ok {tg l : Expr} {tl : TE} (hl : PE X l tl) : PI X tg l (iVal X.K tl) := by
  refine ⟨fun pins s σ H R I h => ?_⟩
  have once : PE X l (fun σ' H' Q' => σ' = σ ∧ H' = H ∧ tl σ H Q') := ⟨fun pins s σ' H' Q' I' h' => by
    obtain ⟨e1, e2, h'⟩ := h'
    subst e1 e2
    exact hl.run pins s σ' H' Q' I' h'⟩
  refine thn (hl.run pins s σ H _ I h) fun v s1 ⟨x, H1, I1, r1, q1⟩ => ?_
  cases x with
  | ref a =>
    cases r1
    rcases q1 with ⟨xs, hq, q⟩ | ⟨xs, hq, q⟩
    · obtain ⟨its, rv, pl, hz⟩ := I1.list hq
      refine wpAny_pyIter_list pl.isList ⟨s1.heap.objs.size, [s1.heap.objs.size], _, _, H1, rfl, I1.kept (t' := s1.toks) fun b o e => Heap.get?_push_of_some _ e, turn_list a _, ⟨_, Heap.get?_push_size _ rfl, rfl, rfl⟩, fun b hb => ?_, q⟩
      obtain rfl : b = s1.heap.objs.size := by simpa using hb
      exact I1.fpOk (Nat.le_refl _) (I1.hok.fresh (Nat.le_refl _))
    · obtain ⟨its, rv, pl, hz⟩ := I1.tuple hq
      refine wpAny_pyIter_tuple (show s1.heap.IsTuple a its.toArray from pl) ⟨s1.heap.objs.size, [s1.heap.objs.size], _, _, H1, rfl, I1.kept (t' := s1.toks) fun b o e => Heap.get?_push_of_some _ e, turn_tuple a _, ⟨_, Heap.get?_push_size _ rfl, rfl, rfl⟩, fun b hb => ?_, q⟩
      obtain rfl : b = s1.heap.objs.size := by simpa using hb
      exact I1.fpOk (Nat.le_refl _) (I1.hok.fresh (Nat.le_refl _))
  | _ => exact (show False from q1).elim
/-- a comprehension's block -/
theorem Cok.blk (hX : Cok X Γ n k N sc st W) {scope : Scope} (s : Shared) (H : Hp) (C : Addr) (cl : List (Str × Addr)) (fp : List Addr) :
    Cok (X.blk s H scope (compEnvC scope cl C X.env) fp) Γ n k N (relS scope sc) scope (fun _ _ _ _ => False) := by
  refine ⟨hX.eN, hX.nd, ?_, hX.calm, hX.room, hX.gam, ?_, ?_, PassesOwn.never, hX.lm⟩
  · show relS scope X.env.scope = _
    rw [hX.eSc]
  · intro u s' h
    obtain ⟨_, _, _, _, _, _, _, _, _, _, _, _, _, _, _, _, z⟩ := h
    exact z.elim
  · intro x hx
    rcases hx with h | h
    · have h' := lookup_relS_keep (sc := sc) (by decide) h
      exact ⟨.inl h', .inr h'⟩
    · have h' := lookup_relS_keep (sc := sc) (by decide) h
      exact ⟨.inr h', .inl (by show (scope.names.lookup x == some NameKind.cell) = true; rw [h]; rfl)⟩
/-- the body of a lambda -/
theorem Cok.lam (hX : Cok X Γ n k N sc st W) {j : Nat} (hj : k ≤ j) {scope : Scope} (L : LamX.LamS X.env.scope scope) (A : Around) (outer : List Env) (s : Shared) (H : Hp) (E : XK) (f c' : Addr) (hr : Room j (A.deeper (LamX.lamEnv X scope s.heap.objs.size f c'))) :
    Cok (LamX.lamCx X A outer s H E scope f c') Γ { n with lq := none } k N scope scope (fun c d _ H => E c d H) where
  eN := hX.eN
  nd := hX.nd
  eSc := rfl
  calm := rfl
  room := hr.mono hj
  gam := hX.gam.noLq
  tk := takes_of rfl rfl rfl rfl
  lcl := fun x h => ⟨h, h.elim (fun h => absurd rfl (L.own _ (PySem.mem_of_lookup h)).1) fun h => absurd rfl (L.own _ (PySem.mem_of_lookup h)).2⟩
  pas := passes_of rfl
  lm := fun q h => nomatch h
theorem lam_ok (hX : Cok X Γ n k N sc st W) {i : Nat} {x : Str} {q lp p : Pos} {scope : Scope} {body : Expr} {t : XK → TE} (h1 : n.lam[i]? = some x) (h2 : okName sc x [.globalImplicit] = true) (h3 : n.lq.isSome = true) (h4 : LamX.lamSB sc scope = true)
    (hb : ∀ (A : Around) (outer : List Env) (s : Shared) (H : Hp) (E : XK) (f c' : Addr), Room k (A.deeper (LamX.lamEnv X scope s.heap.objs.size f c')) → PE (LamX.lamCx X A outer s H E scope f c') body (t E)) :
    PE X (.Call (.Name x q) [.Lambda ⟨[], [], none, [], [], none, []⟩ body scope lp] [] p) (gLam Γ i t) := by
  obtain ⟨TT, e, hm⟩ := lk hX.gam.lamN h1
  obtain ⟨ql, hq⟩ := Option.isSome_iff_exists.mp h3
  obtain ⟨eq, hr, c, tb, hc, hT, hin, hu⟩ := hX.lm ql hq
  subst eq
  have key := hX.gam.lam x TT hm X rfl rfl rfl rfl rfl Γ.tb c tb body scope t q lp p (gl_of hX h2) hT hc hin hu hr (by rw [hX.eSc]; exact LamX.lamS_by h4) hb
  refine ⟨fun pins s σ H Q I h => key.run pins s σ H Q I ?_⟩
  unfold gLam at h
  rw [e] at h
  exact h
end
end Rf
namespace Rf
open PySem PySem.Spec PyProof.Rows L2

theorem two {X : Cx} {m : ME} {t : TE} (h : PE X (eE m) t) (hp : plainT m = true) : PE X (eE m) (tOfTE X.K t).1 ∧ PT X (eE m) (tOfTE X.K t).2 := ⟨h, pt_ru h hp⟩
theorem blt_of {X : Cx} {Γ : Gam} {n : Nms} {k : Nat} {N : List Str} {sc st : Scope} {W : WX} (hX : Cok X Γ n k N sc st W) {x : Str} (h : okBlt n sc x = true) : Gl X x ∧ X.mg x = none ∧ x ≠ "__name__" ∧ (x == ("__debug__" : Str)) = false := by
  unfold okBlt at h
  simp only [Bool.and_eq_true] at h
  exact ⟨gl_of hX h.2, hX.gam.blt x (by simpa using h.1), okName_nm h.2, okName_db h.2⟩
theorem callB_ok {X : Cx} {Γ : Gam} {n : Nms} {k : Nat} {N : List Str} {sc st : Scope} {W : WX} (hX : Cok X Γ n k N sc st W) {b : BF} {q p : Pos} {e : ME} {es : MEs} {t : TA} (h : okBlt n sc b.name = true) (ha : PA X (eE e :: eEs es) t) :
    PE X (.Call (.Name b.name q) (eE e :: eEs es) [] p) (tCB (b.r X.K) t) := by
  obtain ⟨hg, hm, hn, hd⟩ := blt_of hX h
  have hok := BF.ok hX.calm b
  have hbo := BF.boot b
  have hs := star_e e (eEs es) X.env
  have hp := plain_es es X.env p
  generalize hv : b.val = v at hok hbo
  cases v with
  | builtin id => exact pe_callB hok hg hm hbo ha hn hd hs hp
  | type T => exact pe_callTy hok hg hm hbo ha hn hd hs hp
  | _ => cases b <;> cases hv
mutual
theorem sE (Γ : Gam) (N : List Str) : ∀ (m : ME) {n : Nms} {X : Cx} {k : Nat} {sc st : Scope} {W : WX}, Cok X Γ n k N sc st W → wE N n m sc = true → PE X (eE m) (dE Γ X.K m W).1 ∧ PT X (eE m) (dE Γ X.K m W).2
  | .var i x p, n, X, k, sc, st, W, hX, h => by
    simp only [wE, Bool.and_eq_true, decide_eq_true_eq] at h
    exact two (m := .var i x p) (pe_var (by rw [hX.eN]; exact h.1) (vis_of hX h.2) (okName_db h.2) (okName_cd h.2)) rfl
  | .non k' p, n, X, k, sc, st, W, hX, h => two (m := .non k' p) pe_non rfl
  | .bl b k' p, n, X, k, sc, st, W, hX, h => two (m := .bl b k' p) pe_bl rfl
  | .int i k' p, n, X, k, sc, st, W, hX, h => two (m := .int i k' p) pe_int rfl
  | .str s k' p, n, X, k, sc, st, W, hX, h => two (m := .str s k' p) pe_str rfl
  | .glo i x p, n, X, k, sc, st, W, hX, h => by
    simp only [wE, Bool.and_eq_true, decide_eq_true_eq] at h
    exact two (m := .glo i x p) (glo_ok hX h.1 h.2) rfl
  | .bin a op b p, n, X, k, sc, st, W, hX, h => by
    simp only [wE, Bool.and_eq_true] at h
    exact two (m := .bin a op b p) (pe_op (op_bin op) (sE Γ N a hX h.1).1 (sE Γ N b hX h.2).1) rfl
  | .neg a p, n, X, k, sc, st, W, hX, h => by
    simp only [wE] at h
    exact two (m := .neg a p) (pe_un un_neg' (sE Γ N a hX h).1) rfl
  | .not a p, n, X, k, sc, st, W, hX, h => by
    simp only [wE] at h
    exact ⟨pe_not' (sE Γ N a hX h).1, pt_not (sE Γ N a hX h).2⟩
  | .cmp a op b p, n, X, k, sc, st, W, hX, h => by
    simp only [wE, Bool.and_eq_true] at h
    exact ⟨pe_cmpR (op_cmp hX op) (sE Γ N a hX h.1).1 (sE Γ N b hX h.2).1 (nomarkE op b), pt_cmpR (op_cmp hX op) (sE Γ N a hX h.1).1 (sE Γ N b hX h.2).1 (nomarkE op b)⟩
  | .cmp2 a op b op2 c p, n, X, k, sc, st, W, hX, h => by
    simp only [wE, Bool.and_eq_true] at h
    exact ⟨pe_chain (op_cmp hX op) (op_cmp hX op2) (sE Γ N a hX h.1.1).1 (sE Γ N b hX h.1.2).1 (sE Γ N c hX h.2).1 (nomarkE op2 c), pt_chain (op_cmp hX op) (op_cmp hX op2) (sE Γ N a hX h.1.1).1 (sE Γ N b hX h.1.2).1 (sE Γ N c hX h.2).1 (nomarkE op2 c)⟩
  | .and es p, n, X, k, sc, st, W, hX, h => by
    simp only [wE] at h
    have l := sEs Γ N es hX h
    exact ⟨l.andV, l.andT.pt⟩
  | .or es p, n, X, k, sc, st, W, hX, h => by
    simp only [wE] at h
    have l := sEs Γ N es hX h
    exact ⟨l.orV, l.orT.pt⟩
  | .tup es k' p, n, X, k, sc, st, W, hX, h => by
    simp only [wE] at h
    exact two (m := .tup es k' p) (pe_tup (sEs Γ N es hX h).pa) rfl
  | .lst es p, n, X, k, sc, st, W, hX, h => by
    simp only [wE] at h
    exact two (m := .lst es p) (pe_lst (sEs Γ N es hX h).pa) rfl
  | .dic0 p, n, X, k, sc, st, W, hX, h => two (m := .dic0 p) (PE.imp pe_dnewK fun σ H Q q => q) rfl
  | .sub a i p, n, X, k, sc, st, W, hX, h => by
    simp only [wE, Bool.and_eq_true] at h
    exact two (m := .sub a i p) (pe_ix ix_sub (sE Γ N a hX h.1).1 (sE Γ N i hX h.2).1 (plainIx i)) rfl
  | .att a f p, n, X, k, sc, st, W, hX, h => by
    simp only [wE] at h
    exact two (m := .att a f p) (att_ok hX (sE Γ N a hX h).1 (abase a h f X.env)) rfl
  | .call i x q es p, n, X, k, sc, st, W, hX, h => by
    simp only [wE, Bool.and_eq_true, decide_eq_true_eq] at h
    exact two (m := .call i x q es p) (call_ok hX h.1.1 h.1.2 (sEs Γ N es hX h.2).pa) rfl
  | .make i x q es p, n, X, k, sc, st, W, hX, h => by
    simp only [wE, Bool.and_eq_true, decide_eq_true_eq] at h
    exact two (m := .make i x q es p) (make_ok hX h.1.1 h.1.2 (sEs Γ N es hX h.2).pa) rfl
  | .blt b q e es p, n, X, k, sc, st, W, hX, h => by
    simp only [wE, Bool.and_eq_true] at h
    have he := sE Γ N e hX h.1.2
    have hl := sEs Γ N es hX h.2
    exact two (m := .blt b q e es p) (callB_ok hX h.1.1 (pa_cons he.1 hl.pa (star_e e _ _))) rfl
  | .own a m q es p, n, X, k, sc, st, W, hX, h => by
    simp only [wE, Bool.and_eq_true, decide_eq_true_eq] at h
    exact two (m := .own a m q es p) (own_ok hX (sE Γ N a hX h.1.1.1).1 h.1.1.1 h.1.2 h.2 (sEs Γ N es hX h.1.1.2).pa) rfl
  | .bm m a q e p, n, X, k, sc, st, W, hX, h => by
    simp only [wE, Bool.and_eq_true] at h
    exact two (m := .bm m a q e p) (bm_ok m (sE Γ N a hX h.1.1).1 (sE Γ N e hX h.1.2).1 (abase a h.1.1 m.name X.env) (star_e e [] X.env) h.2) rfl
  | .callK i j x q es ks ws p, n, X, k, sc, st, W, hX, h => by
    simp only [wE, Bool.and_eq_true, decide_eq_true_eq] at h
    obtain ⟨⟨⟨⟨h1, h2⟩, h3⟩, h4⟩, h5⟩ := h
    exact two (m := .callK i j x q es ks ws p) (callK_ok hX h1 h2 (sEs Γ N es hX h3) (sEs Γ N ws hX h4) h5) rfl
  | .makeK i j x q es ks ws p, n, X, k, sc, st, W, hX, h => by
    simp only [wE, Bool.and_eq_true, decide_eq_true_eq] at h
    obtain ⟨⟨⟨⟨h1, h2⟩, h3⟩, h4⟩, h5⟩ := h
    exact two (m := .makeK i j x q es ks ws p) (makeK_ok hX h1 h2 (sEs Γ N es hX h3) (sEs Γ N ws hX h4) h5) rfl
  | .ownK j a m q es ks ws p, n, X, k, sc, st, W, hX, h => by
    simp only [wE, Bool.and_eq_true, decide_eq_true_eq] at h
    obtain ⟨⟨⟨⟨⟨h1, h2⟩, h3⟩, h4⟩, h5⟩, h6⟩ := h
    exact two (m := .ownK j a m q es ks ws p) (ownK_ok hX (sE Γ N a hX h1).1 h1 h5 h6 (sEs Γ N es hX h2) (sEs Γ N ws hX h3) h4) rfl
  | .lam i x q body scope lp p, n, X, k, sc, st, W, hX, h => by
    simp only [wE, Bool.and_eq_true, decide_eq_true_eq] at h
    obtain ⟨⟨⟨⟨h1, h2⟩, h3⟩, h4⟩, h5⟩ := h
    have L : LamX.LamS X.env.scope scope := by rw [hX.eSc]; exact LamX.lamS_by h4
    exact two (m := .lam i x q body scope lp p) (lam_ok hX (t := fun E => (dE Γ X.K body (fun c d _ H => E c d H)).1) h1 h2 h3 h4 fun A outer s H E f c' hr => (sE Γ N body (hX.lam (Nat.le_refl k) L A outer s H E f c' hr) h5).1) rfl
  | .lc elt tg it ifs own scope p, n, X, k, sc, st, W, hX, h => by
    simp only [wE, Bool.and_eq_true, decide_eq_true_eq] at h
    obtain ⟨⟨⟨⟨⟨⟨h1, h2⟩, h3⟩, h4⟩, h5⟩, h6⟩, h7⟩ := h
    refine two (m := .lc elt tg it ifs own scope p) ?_ rfl
    have hN : X.N.Nodup := by rw [hX.eN]; exact hX.nd
    have hI : PI X (eT tg) (eI it) (dI Γ X.K it W) := sI Γ N it hX h1 tg h2
    refine pe_lc hX.calm hN hI (blkOk_by (by rw [hX.eN, hX.eSc]; exact h3)) (fun s H C cl fp => (sT Γ N tg (hX.blk s H C cl fp) h4)) (fun s H C cl fp => ?_) (fun s H C cl fp => (sE Γ N elt (hX.blk s H C cl fp) h7).1) (fun x => nofoldI it _ x)
    have l := sEs Γ N ifs (hX.blk s H C cl fp) h5
    revert l
    generalize dEs Γ X.K ifs (fun _ _ _ _ => False) = ds
    intro l
    cases l with
    | nil => exact pts_nil
    | cons a b l' =>
      cases l' with
      | nil => exact pts_one b
      | cons a' b' l'' => exact absurd h6 (by simp [MEs.len])
theorem sEs (Γ : Gam) (N : List Str) : ∀ (r : MEs) {n : Nms} {X : Cx} {k : Nat} {sc st : Scope} {W : WX}, Cok X Γ n k N sc st W → wEs N n r sc = true → LOk X r (dEs Γ X.K r W)
  | .nil, n, X, k, sc, st, W, hX, h => .nil
  | .cons e r, n, X, k, sc, st, W, hX, h => by
    simp only [wEs, Bool.and_eq_true] at h
    exact .cons (sE Γ N e hX h.1).1 (sE Γ N e hX h.1).2 (sEs Γ N r hX h.2)
theorem sT (Γ : Gam) (N : List Str) : ∀ (t : MT) {n : Nms} {X : Cx} {k : Nat} {sc st : Scope} {W : WX}, Cok X Γ n k N sc st W → wT N n t sc st = true → PG X (eT t) (dT Γ X.K t W)
  | .name i x p, n, X, k, sc, st, W, hX, h => by
    simp only [wT, Bool.and_eq_true, decide_eq_true_eq] at h
    obtain ⟨q, hq, e⟩ := okName_ks h.2
    have hl : L2.Loc st x := by
      simp only [List.mem_cons, List.not_mem_nil, or_false] at hq
      rcases hq with rfl | rfl
      · exact .inl e
      · exact .inr e
    obtain ⟨l1, l2⟩ := hX.lcl x hl
    exact pg_name (by rw [hX.eN]; exact hX.nd) (by rw [hX.eN]; exact h.1) (by rw [hX.eSc]; exact l1) (by rw [hX.eSc]; exact l2)
  | .tup ts k' p, n, X, k, sc, st, W, hX, h => by
    simp only [wT] at h
    have l := sTs Γ N ts hX h
    exact pg_tup hX.calm l.1 l.2.1 l.2.2
  | .sub a i p, n, X, k, sc, st, W, hX, h => by
    simp only [wT, Bool.and_eq_true] at h
    exact pg_sub (sE Γ N a hX h.1).1 (sE Γ N i hX h.2).1 set_list (fun v => by cases i <;> rfl)
theorem sTs (Γ : Gam) (N : List Str) : ∀ (t : MTs) {n : Nms} {X : Cx} {k : Nat} {sc st : Scope} {W : WX}, Cok X Γ n k N sc st W → wTs N n t sc st = true →
    PGs X (eTs t) (dTs Γ X.K t W).2 ∧ (assignEach (eTs t) X.env).length = (dTs Γ X.K t W).1 ∧ (assignEach (eTs t) X.env).findIdx? (·.1) = none
  | .nil, n, X, k, sc, st, W, hX, h => ⟨pgs_nil, rfl, rfl⟩
  | .cons t r, n, X, k, sc, st, W, hX, h => by
    simp only [wTs, Bool.and_eq_true] at h
    have l := sTs Γ N r hX h.2
    have e : assignEach (eT t :: eTs r) X.env = (false, assign (eT t) X.env) :: assignEach (eTs r) X.env := by cases t <;> rfl
    refine ⟨pgs_cons (sT Γ N t hX h.1) l.1 ?_, ?_, ?_⟩
    · rw [e]; rfl
    · show (assignEach (eT t :: eTs r) X.env).length = _
      rw [e, List.length_cons, l.2.1]
      rfl
    · show (assignEach (eT t :: eTs r) X.env).findIdx? _ = _
      rw [e, List.findIdx?_cons, l.2.2]
      rfl
theorem sI (Γ : Gam) (N : List Str) : ∀ (it : MI) {n : Nms} {X : Cx} {k : Nat} {sc st : Scope} {W : WX}, Cok X Γ n k N sc st W → wI N n it sc = true → ∀ tg : MT, (match it with | .val _ => true | .rng1 .. => true | .rng2 .. => true | _ => isTupT tg) = true →
    PI X (eT tg) (eI it) (dI Γ X.K it W)
  | .val e, n, X, k, sc, st, W, hX, h, tg, ht => by
    simp only [wI] at h
    exact val_ok (sE Γ N e hX h).1
  | .rng1 q a p, n, X, k, sc, st, W, hX, h, tg, ht => by
    simp only [wI, Bool.and_eq_true] at h
    obtain ⟨hg, hm, _⟩ := blt_of hX h.1
    exact pi_range1 hg hm (pa_cons (sE Γ N a hX h.2).1 pa_nil (star_e a [] _)) (star_e a [] _)
  | .rng2 q a b p, n, X, k, sc, st, W, hX, h, tg, ht => by
    simp only [wI, Bool.and_eq_true] at h
    obtain ⟨hg, hm, _⟩ := blt_of hX h.1.1
    have hb : starEach [eE b] X.env = [(false, eval (eE b) X.env)] := star_e b [] _
    exact pi_range2 hg hm (pa_cons (sE Γ N a hX h.1.2).1 (pa_cons (sE Γ N b hX h.2).1 pa_nil hb) (star_e a _ _)) (by rw [star_e a, hb]) hb
  | .enum q a p, n, X, k, sc, st, W, hX, h, tg, ht => by
    simp only [wI, Bool.and_eq_true] at h
    obtain ⟨hg, hm, _⟩ := blt_of hX h.1
    cases tg with
    | tup ts k' p' => exact pi_enum hg hm (pa_cons (sE Γ N a hX h.2).1 pa_nil (star_e a [] _)) (star_e a [] _)
    | _ => cases ht
  | .zip q a b p, n, X, k, sc, st, W, hX, h, tg, ht => by
    simp only [wI, Bool.and_eq_true] at h
    obtain ⟨hg, hm, _⟩ := blt_of hX h.1.1
    have hb : starEach [eE b] X.env = [(false, eval (eE b) X.env)] := star_e b [] _
    cases tg with
    | tup ts k' p' => exact pi_zip hg hm (pa_cons (sE Γ N a hX h.1.2).1 (pa_cons (sE Γ N b hX h.2).1 pa_nil hb) (star_e a _ _)) (star_e a _ _) (by rw [hb]; rfl)
    | _ => cases ht
end
end Rf
namespace Rf
open PySem PySem.Spec PyProof.Rows L2

/-! ### statements -/
mutual
inductive MS where
  | expr (e : ME) (p : Pos)
  | ret (e : ME) (p : Pos)
  | retN (p : Pos)
  | asg (t : MT) (e : ME) (p : Pos)
  | asgL (i : Nat) (y : Str) (py : Pos) (elt : ME) (tg : MT) (it : MI) (ifs : MEs) (own : List (Str × Nat)) (scope : Scope) (lp : Pos) (p : Pos)
  | par (i : Nat) (x : Str) (px : Pos) (j : Nat) (y : Str) (py : Pos) (kt : Nat) (pt : Pos) (a b : ME) (k2 : Nat) (pt2 : Pos) (p : Pos)
  | setA (o : ME) (f : Str) (fp : Pos) (e : ME) (p : Pos)
  | aug (i : Nat) (x : Str) (px : Pos) (op : Operator) (e : ME) (p : Pos)
  | ifs (c : ME) (a b : MSs) (p : Pos)
  | whl (c : ME) (b : MSs) (p : Pos)
  | fors (t : MT) (it : MI) (b : MSs) (p : Pos)
  | pass (p : Pos)
  | brk (p : Pos)
  | cnt (p : Pos)
  | rais (i : Nat) (x : Str) (q : Pos) (m : Str) (j : Nat) (p2 : Pos) (p3 : Pos) (p : Pos)
  | trk (b : MSs) (gi : Nat) (x : Str) (np : Pos) (i : Nat) (n : Str) (j : Nat) (y : Str) (py pv pa hp p : Pos)
  | tdiv (i : Nat) (x : Str) (px : Pos) (a b : ME) (bp ap np : Pos) (j : Nat) (n : Str) (ei : Nat) (ex : Str) (q : Pos) (m : Str) (c : Nat) (p2 p3 cp rp hp p : Pos)
  | calp (a : Str) (p1 p2 p : Pos)
inductive MSs where
  | nil
  | cons (s : MS) (r : MSs)
end
mutual
def eS : MS → Stmt
  | .expr e p => .Expr (eE e) p
  | .ret e p => .Return (some (eE e)) p
  | .retN p => .Return none p
  | .asg t e p => .Assign [eT t] (eE e) p
  | .asgL _ y py elt tg it ifs _ scope lp p => .Assign [.Name y py] (.ListComp (eE elt) [⟨eT tg, eI it, eEs ifs, 0⟩] scope lp) p
  | .par _ x px _ y py kt pt a b k2 pt2 p => .Assign [.Tuple [.Name x px, .Name y py] kt pt] (.Tuple [eE a, eE b] k2 pt2) p
  | .setA o f fp e p => .Assign [.Attribute (eE o) f fp] (eE e) p
  | .aug _ x px op e p => .AugAssign (.Name x px) op (eE e) p
  | .ifs c a b p => .If (eE c) (eSs a) (eSs b) p
  | .whl c b p => .While (eE c) (eSs b) [] p
  | .fors t it b p => .For (eT t) (eI it) (eSs b) [] p
  | .pass p => .Pass p
  | .brk p => .Break p
  | .cnt p => .Continue p
  | .rais _ x q m j p2 p3 p => .Raise (some (.Call (.Name x q) [.Constant (.str m) j p2] [] p3)) none p
  | .trk b _ x np _ n _ y py pv pa hp p => .Try (eSs b) [.ExceptHandler (some (.Name x np)) (some n) [.Assign [.Name y py] (.Name n pv) pa] hp] [] [] p
  | .tdiv _ x px a b bp ap np _ n _ ex q m c p2 p3 cp rp hp p => .Try [.Assign [.Name x px] (.BinOp (eE a) .FloorDiv (eE b) bp) ap] [.ExceptHandler (some (.Name "ZeroDivisionError" np)) (some n) [.Raise (some (.Call (.Name ex q) [.Constant (.str m) c p2] [] p3)) (some (.Name n cp)) rp] hp] [] [] p
  | .calp a p1 p2 p => .Expr (.Call (.Name a p1) [] [] p2) p
def eSs : MSs → List Stmt
  | .nil => []
  | .cons s r => eS s :: eSs r
end
/-! ### op= -/
def rAug (K : Frag) (op : Operator) : R2 := fun x y H Q => match op with
  | .Add => (match x, y with
    | .int i, .int j => Q (.int (i + j)) H
    | .str i, .str j => i.length + j.length ≤ sizeLine ∧ Q (.str (i ++ j)) H
    | _, _ => False)
  | .Sub => (match x, y with
    | .int i, .int j => Q (.int (i - j)) H
    | _, _ => False)
  | .Mult => (match x, y with
    | .int i, .int j => IntMulOk i j ∧ Q (.int (i * j)) H
    | _, _ => False)
  | .Mod => (match x, y with
    | .int i, .int j => 0 < j ∧ Q (.int (i % j)) H
    | _, _ => False)
  | _ => False
theorem ip_aug {X : Cx} (op : Operator) : OpR X (inplaceOp op) (rAug X.K op) := by
  cases op with
  | Add =>
    refine OpR.imp (OpR.or iop_add iop_add_str) fun x y H Q h => ?_
    unfold rAug at h
    dsimp only at h
    split at h
    · exact .inl ⟨_, _, rfl, rfl, h⟩
    · exact .inr ⟨_, _, rfl, rfl, h.1, h.2⟩
    · exact h.elim
  | Sub =>
    refine OpR.imp iop_sub fun x y H Q h => ?_
    unfold rAug at h
    dsimp only at h
    split at h
    · exact ⟨_, _, rfl, rfl, h⟩
    · exact h.elim
  | Mult =>
    refine OpR.imp (opI (C := IntMulOk) (g := fun i j => i * j) fun _ _ _ _ _ _ _ hc q => imul_int q hc) fun x y H Q h => ?_
    unfold rAug at h
    dsimp only at h
    split at h
    · exact ⟨_, _, rfl, rfl, h.1, h.2⟩
    · exact h.elim
  | Mod =>
    refine OpR.imp iop_mod fun x y H Q h => ?_
    unfold rAug at h
    dsimp only at h
    split at h
    · exact ⟨_, _, rfl, rfl, h.1, h.2⟩
    · exact h.elim
  | _ => exact fun pins s σ H x y v u Q I r1 r2 q => (show False from q).elim
/-! ### what they mean -/
def sSetA (Γ : Gam) (ta tv : TE) (f : Str) : TS := fun D σ H => tv σ H fun y H1 => ta σ H1 fun x H2 => ∃ a C dx fs, x = .ref a ∧ H2 a = some (.ins C dx fs) ∧ Γ.att C f ∧ fs.length < 1000 ∧ D.nx σ (upd H2 a (.ins C dx (putF f y fs)))
def sRais (Γ : Gam) (W : WX) (i : Nat) : TS := fun _ σ H => match Γ.exc[i]? with
  | some (_, C) => W (.ref C) none σ H
  | none => False
def isCls : V → Bool
  | .ref _ => true
  | .ty _ => true
  | _ => false
def clsOf : V → Value
  | .ref C => .ref C
  | .ty T => .type T
  | _ => .none
/-- a // b in the body of a try -/
def tFdX (W : WX) (ta tb : TE) : TE := fun σ H Q => ta σ H fun x H1 => tb σ H1 fun y H2 => match x, y with
  | .int p, .int q => (q = 0 ∧ ∀ d, W (.type "ZeroDivisionError") d σ H2) ∨ (q ≠ 0 ∧ Builtin.divisionGoesByPylong p q = false ∧ Q (.int (p.fdiv q)) H2)
  | _, _ => False
/-- the suite of the try: another exception, from this one -/
def uTdiv (Γ : Gam) (W : WX) (j ei : Nat) : Addr → Value → Option Addr → TS := fun a cls _ _ σ H => cls = .type "ZeroDivisionError" ∧ σ[j]? = some (some (.ref a)) ∧ ∃ x C, Γ.exc[ei]? = some (x, C) ∧ W (.ref C) none (σ.set j none) H
def sTdiv (Γ : Gam) (K : Frag) (W : WX) (i j ei : Nat) (ta tb : TE) : TS := fun D σ H => tAsg (tFdX (wFrom K (.type "ZeroDivisionError") j (uTdiv Γ W j ei) D) ta tb) (gName i) D σ H
theorem exm_zero {K : Frag} : PySem.W.exmOne K (.type "ZeroDivisionError") (.type "ZeroDivisionError") = some true := by
  unfold PySem.W.exmOne
  first
    | rfl
    | decide +kernel
theorem wFrom_zero {Γ : Gam} {K : Frag} {W : WX} {j ei : Nat} {D : Ends} {σ : L2.St} {H : Hp} {x : Str} {C : Addr} (hj : j < σ.length) (e : Γ.exc[ei]? = some (x, C)) (h : W (.ref C) none (σ.set j none) H) (d : Option Addr) :
    wFrom K (.type "ZeroDivisionError") j (uTdiv Γ W j ei) D (.type "ZeroDivisionError") d σ H :=
  ⟨exm_zero, fun a _ => ⟨rfl, List.getElem?_set_self hj, x, C, e, by rw [List.set_set]; exact h⟩⟩
mutual
def dS (Γ : Gam) (K : Frag) : MS → WX → TS
  | .expr e _, W => tDrop (dE Γ K e W).1
  | .ret e _, W => tRet (dE Γ K e W).1
  | .retN _, _ => tRetN
  | .asg t e _, W => tAsg (dE Γ K e W).1 (dT Γ K t W)
  | .asgL i _ _ elt tg it ifs own _ _ _, W => tAsg (tLc (dI Γ K it W) (dT Γ K tg (fun _ _ _ _ => False)) (match dEs Γ K ifs (fun _ _ _ _ => False) with | [] => tYes | d :: _ => d.2) (dE Γ K elt (fun _ _ _ _ => False)).1 (own.map (·.2))) (gName i)
  | .par i _ _ j _ _ _ _ a b _ _ _, W => tPar i j (tCons (dE Γ K a W).1 (tCons (dE Γ K b W).1 tNil))
  | .setA o f _ e _, W => sSetA Γ (dE Γ K o W).1 (dE Γ K e W).1 f
  | .aug i _ _ op e _, W => tAug i (dE Γ K e W).1 (rAug K op)
  | .ifs c a b _, W => tIfS (dE Γ K c W).2 (dSs Γ K a W) (dSs Γ K b W)
  | .whl c b _, W => tWhile (dE Γ K c W).2 (dSs Γ K b W)
  | .fors t it b _, W => tFor (dI Γ K it W) (dT Γ K t W) (dSs Γ K b W)
  | .pass _, _ => tNext
  | .brk _, _ => tBreak
  | .cnt _, _ => tCont
  | .rais i _ _ _ _ _ _ _, W => sRais Γ W i
  | .trk b gi _ _ i _ j _ _ _ _ _ _, W => fun D σ H => match Γ.glo[gi]? with
    | some (_, v) => isCls v = true ∧ dSs Γ K b (wLen σ.length (wKeep K (clsOf v) i (fun _ => tAsg (tVar i) (gName j)) W D)) D σ H
    | none => False
  | .tdiv i _ _ a b _ _ _ j _ ei _ _ _ _ _ _ _ _ _ _, W => sTdiv Γ K W i j ei (dE Γ K a (fun _ _ _ _ => False)).1 (dE Γ K b (fun _ _ _ _ => False)).1
  | .calp _ _ _ _, _ => fun _ _ _ => False
def dSs (Γ : Gam) (K : Frag) : MSs → WX → TS
  | .nil, _ => tNext
  | .cons s .nil, W => dS Γ K s W
  | .cons s r, W => tSeq (dS Γ K s W) (dSs Γ K r W)
end
/-! ### what is looked at -/
def isTupE : ME → Bool
  | .tup .. => true
  | _ => false
def isLocalB (sc : Scope) (x : Str) : Bool := match sc.names.lookup x with | some .local => true | _ => false
def okIt (it : MI) (tg : MT) : Bool := match it with | .val _ => true | .rng1 .. => true | .rng2 .. => true | _ => isTupT tg
def okLc (N : List Str) (n : Nms) (sc : Scope) (elt : ME) (tg : MT) (it : MI) (ifs : MEs) (own : List (Str × Nat)) (scope : Scope) : Bool :=
  wI N n it sc && okIt it tg && blkC N sc scope own && wT N n tg (relS scope sc) scope && wEs N n ifs (relS scope sc) && decide (ifs.len ≤ 1) && wE N n elt (relS scope sc)
mutual
def wS (N : List Str) (n : Nms) : MS → Scope → Bool
  | .expr e _, sc => wE N n e sc && !isLc e
  | .ret e _, sc => wE N n e sc
  | .retN _, _ => true
  | .asg t e _, sc => wT N n t sc sc && wE N n e sc && !isLc e && !(isTupT t && isTupE e)
  | .asgL i y py elt tg it ifs own scope lp _, sc => decide (N[i]? = some y) && isLocalB sc y && (py.line == lp.line) && !(scope.names.any fun (n, k) => n == y && (k == .local || k == .cell)) && okLc N n sc elt tg it ifs own scope && decide (sc.kind = .function)
  | .par i x px j y py _ _ a b _ _ _, sc => decide (N[i]? = some x) && decide (N[j]? = some y) && !(i == j) && isLocalB sc x && isLocalB sc y && (py.line == px.line) && !(x == y) && !([eE a, eE b].all (foldedForSure 8)) && !([eE a, eE b].all (constantsAlone 8)) && wE N n a sc && wE N n b sc && decide (sc.kind = .function)
  | .setA o _ _ e _, sc => wE N n o sc && wE N n e sc && !isLc e
  | .aug i x _ _ e _, sc => decide (N[i]? = some x) && okName sc x [.local, .cell] && wE N n e sc
  | .ifs c a b _, sc => wE N n c sc && wSs N n a sc && wSs N n b sc
  | .whl c b _, sc => wE N n c sc && wSs N n b sc
  | .fors t it b _, sc => wI N n it sc && okIt it t && wT N n t sc sc && wSs N n b sc
  | .pass _, _ => true
  | .brk _, _ => true
  | .cnt _, _ => true
  | .rais i x _ _ _ _ _ _, sc => decide (n.exc[i]? = some x) && okName sc x [.globalImplicit]
  | .trk b gi x _ i m j y _ _ _ _ _, sc => wSs N n b sc && decide (n.glo[gi]? = some x) && okName sc x [.globalImplicit] && decide (N[i]? = some m) && isLocalB sc m && decide (N[j]? = some y) && okName sc y [.local, .cell] && okName sc m [.local]
  | .tdiv i x _ a b _ _ _ j m ei ex _ _ _ _ _ _ _ _ _, sc => decide (N[i]? = some x) && isLocalB sc x && wE N n a sc && wE N n b sc && okBlt n sc "ZeroDivisionError" && decide (N[j]? = some m) && isLocalB sc m && decide (n.exc[ei]? = some ex) && okName sc ex [.globalImplicit] && okName sc m [.local]
  | .calp _ _ _ _, _ => false
def wSs (N : List Str) (n : Nms) : MSs → Scope → Bool
  | .nil, _ => true
  | .cons s r, sc => wS N n s sc && wSs N n r sc
end
end Rf
namespace Rf
open PySem PySem.Spec PyProof.Rows L2

theorem starred_e (m : ME) : (match eE m with | .Starred .. => true | _ => false) = false := by cases m <;> rfl
theorem local_of {sc : Scope} {x : Str} (h : isLocalB sc x = true) : sc.names.lookup x = some .local := by
  unfold isLocalB at h
  split at h
  · assumption
  · cases h
section
variable {X : Cx} {Γ : Gam} {n : Nms} {k : Nat} {N : List Str} {sc st : Scope} {W : WX}
theorem swapped_none (t : MT) (e : ME) (env : Env) (h : (isTupT t && isTupE e) = false) : swappedStores [eT t] (eE e) env = pure none := by
  cases t with
  | tup ts k' p =>
    cases e with
    | tup => cases h
    | _ => rfl
  | _ => rfl
theorem swapped_par {a b : ME} {x y : Str} {px py pt pt2 : Pos} {kt k2 : Nat} {env : Env} (hk : env.scope.kind = .function) (hx : env.scope.names.lookup x = some .local) (hy : env.scope.names.lookup y = some .local) (hl : (py.line == px.line) = true) (hxy : (x == y) = false)
    (h1 : [eE a, eE b].all (foldedForSure 8) = false) (h2 : [eE a, eE b].all (constantsAlone 8) = false) :
    swappedStores [.Tuple [.Name x px, .Name y py] kt pt] (.Tuple [eE a, eE b] k2 pt2) env = pure (some [x, y]) := by
  have hb : env.blockKind = .function := by unfold Env.blockKind; rw [hk]; rfl
  have kx : env.kindOf x = some .local := hx
  have ky : env.kindOf y = some .local := hy
  have sa := starred_e a
  have sb := starred_e b
  have hn : ([eE a, eE b].any fun | .Starred .. => true | _ => false) = false := by
    show ((match eE a with | .Starred .. => true | _ => false) || ((match eE b with | .Starred .. => true | _ => false) || false)) = false
    rw [sa, sb]
    rfl
  have hyx : (y == x) = false := by
    cases q : y == x with
    | false => rfl
    | true =>
      have e : y = x := by simpa using q
      subst e
      simp at hxy
  unfold swappedStores
  simp only [hb, h1, h2, hn, kx, ky, hl, Expr.pos, List.length_cons, List.length_nil, List.head?_cons, Option.map_some, Option.getD_some, List.filterMap_cons, List.filterMap_nil, beq_self_eq_true, Bool.and_self, if_true, List.eraseDups_cons, List.eraseDups_nil, List.filter_cons, List.filter_nil, hyx, Bool.not_false, Bool.false_eq_true, if_false, pure_bind]
  simp
  intro z
  rcases z with z | z
  · exact absurd (sa.symm.trans z) Bool.false_ne_true
  · exact absurd (sb.symm.trans z) Bool.false_ne_true
theorem setA_ok (hX : Cok X Γ n k N sc st W) {o e : Expr} {f : Str} {ta tv : TE} {fp p : Pos} (ho : PE X o ta) (hv : PE X e tv) (hs : swapsWith e (some (.Attribute o f fp)) p.line X.env = pure false) :
    PS X (.Assign [.Attribute o f fp] e p) (sSetA Γ ta tv f) := by
  refine ⟨fun pins s σ H D I h => plainObj_wpAny_Assign_Attribute (thn (hv.run pins s σ H _ I h) fun u s1 hh => ?_) hs⟩
  obtain ⟨y, H1, I1, ry, q⟩ := hh
  refine thn (ho.run pins s1 σ H1 _ I1 q) fun ov s2 hh => ?_
  obtain ⟨x, H2, I2, rx, a, C, dx, fs, ex, ea, ht, l, q2⟩ := hh
  obtain ⟨c, nn⟩ := hX.gam.att C f ht
  subst ex
  cases rx
  exact setattr_ok I2 ea c nn l ry fun s3 I3 => ⟨σ, _, I3, q2⟩
theorem rais_ok (hX : Cok X Γ n k N sc st W) {i j : Nat} {x m : Str} {q p2 p3 p : Pos} (h1 : n.exc[i]? = some x) (h2 : okName sc x [.globalImplicit] = true) :
    PS X (.Raise (some (.Call (.Name x q) [.Constant (.str m) j p2] [] p3)) none p) (sRais Γ W i) := by
  obtain ⟨C, e, hm⟩ := lk hX.gam.excN h1
  have T := hX.gam.exc x C hm
  obtain ⟨B, ni, ii, bmB, F, q'⟩ := T.fC
  have h := ps_raise (pos := p) hX.calm hX.tk (pmk_own (p := q) (p2 := p2) (pos := p3) (m := m) (j := j) F q' T.gC T.kC (raises_own T.bC T.tC) (gl_of hX h2) (okName_db h2))
  refine ⟨fun pins s σ H D I hh => h.run pins s σ H D I ?_⟩
  unfold sRais at hh
  rw [e] at hh
  exact hh
theorem lc_ok (hX : Cok X Γ n k N sc st W) {elt : ME} {tg : MT} {it : MI} {ifs : MEs} {own : List (Str × Nat)} {scope : Scope} (h : okLc N n sc elt tg it ifs own scope = true) :
    PI X (eT tg) (eI it) (dI Γ X.K it W) ∧ BlkOk X.N X.env.scope scope own ∧
    (∀ (s : Shared) (H : Hp) (C : Addr) (cl : List (Str × Addr)) (fp : List Addr), PG (X.blk s H scope (compEnvC scope cl C X.env) fp) (eT tg) (dT Γ X.K tg (fun _ _ _ _ => False))) ∧
    (∀ (s : Shared) (H : Hp) (C : Addr) (cl : List (Str × Addr)) (fp : List Addr), PTs (X.blk s H scope (compEnvC scope cl C X.env) fp) (eEs ifs) (match dEs Γ X.K ifs (fun _ _ _ _ => False) with | [] => tYes | d :: _ => d.2)) ∧
    (∀ (s : Shared) (H : Hp) (C : Addr) (cl : List (Str × Addr)) (fp : List Addr), PE (X.blk s H scope (compEnvC scope cl C X.env) fp) (eE elt) (dE Γ X.K elt (fun _ _ _ _ => False)).1) := by
  unfold okLc at h
  simp only [Bool.and_eq_true, decide_eq_true_eq] at h
  obtain ⟨⟨⟨⟨⟨⟨h1, h2⟩, h3⟩, h4⟩, h5⟩, h6⟩, h7⟩ := h
  refine ⟨sI Γ N it hX h1 tg h2, blkOk_by (by rw [hX.eN, hX.eSc]; exact h3), fun s H C cl fp => (sT Γ N tg (hX.blk s H C cl fp) h4), fun s H C cl fp => ?_, fun s H C cl fp => (sE Γ N elt (hX.blk s H C cl fp) h7).1⟩
  have l := sEs Γ N ifs (hX.blk s H C cl fp) h5
  revert l
  generalize dEs Γ X.K ifs (fun _ _ _ _ => False) = ds
  intro l
  cases l with
  | nil => exact pts_nil
  | cons a b l' =>
    cases l' with
    | nil => exact pts_one b
    | cons a' b' l'' => exact absurd h6 (by simp [MEs.len])
end
/-- .. for statements -/
structure CokS (X : Cx) (Γ : Gam) (n : Nms) (k : Nat) (N : List Str) (sc : Scope) (W : WX) : Prop extends Cok X Γ n k N sc sc W where
  stk : X.stack = X.env :: X.outer
  frm : X.env.frame = some X.env.locals
  exn : X.ex = []
  pasAt : ∀ hd : Option Value, PassesOwnAt (model X.prog X.w) (X.A.mark hd) X.A X.env X.xe
theorem names_of {X : Cx} {Γ : Gam} {n : Nms} {k : Nat} {N : List Str} {sc st : Scope} {W : WX} (hX : Cok X Γ n k N sc st W) {gi : Nat} {x : Str} (h1 : n.glo[gi]? = some x) (h2 : okName sc x [.globalImplicit] = true) : ∃ v, Γ.glo[gi]? = some (x, v) ∧ (isCls v = true → Names X x (clsOf v)) := by
  obtain ⟨v, e, hm⟩ := lk hX.gam.gloN h1
  obtain ⟨u, r, h⟩ := hX.gam.glo x v hm
  refine ⟨v, e, fun hc => ⟨gl_of hX h2, okName_db h2, ?_⟩⟩
  have eu : u = clsOf v := by
    cases v with
    | ref C => exact r
    | ty T => exact r
    | _ => cases hc
  rw [← eu]
  exact h
section
variable {X : Cx} {Γ : Gam} {n : Nms} {k : Nat} {N : List Str} {sc : Scope} {W : WX}
/-- nothing comes -/
theorem CokS.tr (hX : CokS X Γ n k N sc W) {pn : List (Addr × Obj)} {xe : Value → Shared → Prop} {W' : WX} (tk : Takes (X.tr pn xe) W') (h1 : PassesOwn (model X.prog X.w) X.A X.env xe) (h2 : ∀ hd : Option Value, PassesOwnAt (model X.prog X.w) (X.A.mark hd) X.A X.env xe) :
    CokS (X.tr pn xe) Γ n k N sc W' :=
  ⟨⟨hX.eN, hX.nd, hX.eSc, hX.calm, hX.room, hX.gam, tk, hX.lcl, h1, hX.lm⟩, hX.stk, hX.frm, hX.exn, h2⟩
theorem trk_ok (hX : CokS X Γ n k N sc W) {b : MSs} {gi i j : Nat} {x m y : Str} {np py pv pa hp p : Pos} (hb : ∀ (Y : Cx) (W' : WX), CokS Y Γ n k N sc W' → PSs Y (eSs b) (dSs Γ Y.K b W')) (h2 : n.glo[gi]? = some x) (h3 : okName sc x [.globalImplicit] = true)
    (h4 : N[i]? = some m) (h5 : isLocalB sc m = true) (h6 : N[j]? = some y) (h7 : okName sc y [.local, .cell] = true) (h8 : okName sc m [.local] = true) : PS X (eS (.trk b gi x np i m j y py pv pa hp p)) (dS Γ X.K (.trk b gi x np i m j y py pv pa hp p) W) := by
  refine ⟨fun pins s σ H D I h => ?_⟩
  obtain ⟨v, ev, hv⟩ := names_of hX.toCok h2 h3
  have h' : isCls v = true ∧ dSs Γ X.K b (wLen σ.length (wKeep X.K (clsOf v) i (fun _ => tAsg (tVar i) (gName j)) W D)) D σ H := by
    unfold dS at h
    rw [ev] at h
    exact h
  obtain ⟨hc, h'⟩ := h'
  rw [I.len] at h'
  have hm := local_of h5
  have vis : Vis X.env.scope m := .inl (by rw [hX.eSc]; exact hm)
  obtain ⟨q, hq, ey⟩ := okName_ks h7
  have hl : L2.Loc sc y := by
    simp only [List.mem_cons, List.not_mem_nil, or_false] at hq
    rcases hq with rfl | rfl
    · exact .inl ey
    · exact .inr ey
  obtain ⟨l1, l2⟩ := hX.lcl y hl
  exact (ps_try_keep (tb := fun W' => dSs Γ X.K b W') (ts := fun _ => tAsg (tVar i) (gName j)) hX.stk hX.frm hX.exn (by rw [hX.eN]; exact hX.nd) (by rw [hX.eN]; exact h4) (by show X.env.scope.names.lookup m = _; rw [hX.eSc]; exact hm) (hv hc) hX.tk
    (fun W' pn xe tk q1 q2 => hb (X.tr pn xe) W' (hX.tr tk q1 q2))
    (fun a pn => pss_one (ps_asg (pe_var (by show X.N[i]? = _; rw [hX.eN]; exact h4) vis (okName_db h8) (okName_cd h8)) (pg_name (by show X.N.Nodup; rw [hX.eN]; exact hX.nd) (by show X.N[j]? = _; rw [hX.eN]; exact h6) (by show L2.Loc X.env.scope y; rw [hX.eSc]; exact l1) (by show X.fn y = true ∨ X.env.scope.names.lookup y = _; rw [hX.eSc]; exact l2)) rfl rfl rfl))).run pins s σ H D I h'
theorem pe_fdX {Y : Cx} {W : WX} {a b : Expr} {ta tb : TE} {p : Pos} (hc : Y.calm = true) (tk : L2N.Takes Y W) (ha : PE Y a ta) (hb : PE Y b tb) : PE Y (.BinOp a .FloorDiv b p) (tFdX W ta tb) := by
  refine ⟨fun pins s σ H Q I h => wpAny_BinOp (binT ha hb I (R := fun x y H2 => match x, y with
    | .int p, .int q => (q = 0 ∧ ∀ d, W (.type "ZeroDivisionError") d σ H2) ∨ (q ≠ 0 ∧ Builtin.divisionGoesByPylong p q = false ∧ Q (.int (p.fdiv q)) H2)
    | _, _ => False) h fun v u s2 x y H2 I2 rx ry q => ?_)⟩
  cases x with
  | int i =>
    cases y with
    | int j =>
      obtain ⟨t1, rfl⟩ := rx
      obtain ⟨t2, rfl⟩ := ry
      refine floordiv_int_or (I2.ok.hd hc) (fun e h' tk' ea ne => ?_) (fun e => ?_) (fun e => .inl ?_)
      · rcases q with ⟨_, q⟩ | ⟨n, _⟩
        · exact L2N.takes_newN tk I2 ne q
        · exact absurd e n
      · rcases q with ⟨z, _⟩ | ⟨_, _, q⟩
        · exact absurd z e
        · exact ⟨.int (i.fdiv j), H2, I2.tok _, ⟨_, rfl⟩, q⟩
      · rcases q with ⟨z, _⟩ | ⟨_, q, _⟩
        · exact absurd z e
        · exact q
    | _ => exact (show False from q).elim
  | _ => exact (show False from q).elim
theorem never_takes {Y : Cx} : Takes Y (fun _ _ _ _ => False) := fun _ _ ⟨_, _, _, _, _, _, _, _, _, _, _, _, _, _, _, _, z⟩ => z.elim
theorem tdiv_ok (hX : CokS X Γ n k N sc W) {a b : ME} {i j ei c : Nat} {x m ex ms : Str} {px bp ap np q p2 p3 cp rp hp p : Pos} (ha : ∀ Y : Cx, Cok Y Γ n k N sc sc (fun _ _ _ _ => False) → PE Y (eE a) (dE Γ Y.K a (fun _ _ _ _ => False)).1)
    (hb : ∀ Y : Cx, Cok Y Γ n k N sc sc (fun _ _ _ _ => False) → PE Y (eE b) (dE Γ Y.K b (fun _ _ _ _ => False)).1)
    (h1 : N[i]? = some x) (h2 : isLocalB sc x = true) (h3 : okBlt n sc "ZeroDivisionError" = true) (h4 : N[j]? = some m) (h5 : isLocalB sc m = true) (h6 : n.exc[ei]? = some ex) (h7 : okName sc ex [.globalImplicit] = true) (h8 : okName sc m [.local] = true) :
    PS X (eS (.tdiv i x px a b bp ap np j m ei ex q ms c p2 p3 cp rp hp p)) (dS Γ X.K (.tdiv i x px a b bp ap np j m ei ex q ms c p2 p3 cp rp hp p) W) := by
  obtain ⟨hg, hm, hn, hd⟩ := blt_of hX.toCok h3
  obtain ⟨C, ee, hC⟩ := lk hX.gam.excN h6
  have T := hX.gam.exc ex C hC
  obtain ⟨B, ni, ii, bmB, F, q'⟩ := T.fC
  have lx := local_of h2
  have lm := local_of h5
  have key := ps_try_from (np := np) (hp := hp) (pos := p) (Wout := W) (c := .type "ZeroDivisionError") (i := j) (b₀ := .Raise (some (.Call (.Name ex q) [.Constant (.str ms) c p2] [] p3)) (some (.Name m cp)) rp) (suite := []) (body := [.Assign [.Name x px] (.BinOp (eE a) .FloorDiv (eE b) bp) ap])
    (tb := fun W' D σ H => tAsg (tFdX W' (dE Γ X.K a (fun _ _ _ _ => False)).1 (dE Γ X.K b (fun _ _ _ _ => False)).1) (gName i) D σ H) (ts := uTdiv Γ W j ei)
    hX.stk hX.frm hX.exn (by rw [hX.eN]; exact hX.nd) (by rw [hX.eN]; exact h4) (by show X.env.scope.names.lookup m = _; rw [hX.eSc]; exact lm) hX.pasAt ⟨hg, hd, .inr ⟨hm, by decide +kernel, hn⟩⟩ hX.tk ?_ ?_
  · exact key
  · intro W' pn xe tk ps
    have hY : Cok (X.tr pn xe) Γ n k N sc sc (fun _ _ _ _ => False) := ⟨hX.eN, hX.nd, hX.eSc, hX.calm, hX.room, hX.gam, never_takes, hX.lcl, ps, hX.lm⟩
    exact pss_one (ps_asg (pe_fdX hX.calm tk (ha _ hY) (hb _ hY)) (pg_name (by show X.N.Nodup; rw [hX.eN]; exact hX.nd) (by show X.N[i]? = _; rw [hX.eN]; exact h1) (by show L2.Loc X.env.scope x; rw [hX.eSc]; exact .inl lx) (.inr (by show X.env.scope.names.lookup x = _; rw [hX.eSc]; exact lx))) rfl rfl rfl)
  · intro e oe cls d pn hz ⟨vs, hv⟩ nb tk
    refine pss_one ⟨fun pins s σ H D I h => ?_⟩
    obtain ⟨ec, slot, x', C', e', w⟩ := h
    rw [ee] at e'
    cases e'
    subst ec
    exact (ps_raiseFrom (Y := Cx.suiteF X m hp e ((e, oe) :: pn)) (p := (e, oe)) (i := j) rfl (List.mem_append_left _ List.mem_cons_self) nb hv (hz.2.2 vs hv) hz.1 exb_ZeroDivisionError.raises tk
      (pmk_six F q' T.gC T.kC (raises_own T.bC T.tC) (gl_of hX.toCok h7) (okName_db h7)) (by show X.N[j]? = _; rw [hX.eN]; exact h4) (.inl (by show X.env.scope.names.lookup m = _; rw [hX.eSc]; exact lm)) (okName_db h8) (okName_cd h8)).run pins s σ H D I ⟨slot, w⟩
end
mutual
theorem sS (Γ : Gam) (N : List Str) : ∀ (s : MS) {n : Nms} {X : Cx} {k : Nat} {sc : Scope} {W : WX}, CokS X Γ n k N sc W → wS N n s sc = true → PS X (eS s) (dS Γ X.K s W)
  | .expr e p, n, X, k, sc, W, hX, h => by
    simp only [wS, Bool.and_eq_true, Bool.not_eq_true'] at h
    exact ps_expr (sE Γ N e hX.toCok h.1).1 (noswap e _ _ _ h.2)
  | .ret e p, n, X, k, sc, W, hX, h => by
    simp only [wS] at h
    exact ps_ret (sE Γ N e hX.toCok h).1
  | .retN p, n, X, k, sc, W, hX, h => ps_retN
  | .asg t e p, n, X, k, sc, W, hX, h => by
    simp only [wS, Bool.and_eq_true, Bool.not_eq_true'] at h
    obtain ⟨⟨⟨h1, h2⟩, h3⟩, h4⟩ := h
    exact ps_asg (sE Γ N e hX.toCok h2).1 (sT Γ N t hX.toCok h1) (noswap e _ _ _ h3) (swapped_none t e _ h4) (by cases t <;> rfl)
  | .asgL i y py elt tg it ifs own scope lp p, n, X, k, sc, W, hX, h => by
    simp only [wS, Bool.and_eq_true, Bool.not_eq_true', decide_eq_true_eq] at h
    obtain ⟨⟨⟨⟨⟨h1, h2⟩, h3⟩, h4⟩, h5⟩, h6⟩ := h
    obtain ⟨l1, l2, l3, l4, l5⟩ := lc_ok hX.toCok h5
    have hy := local_of h2
    exact ps_setLc hX.calm (by rw [hX.eN]; exact hX.nd) (by rw [hX.eN]; exact h1) (by rw [hX.eSc]; exact hy) (sw_true (by rw [hX.eSc]; exact h6) (by rw [hX.eSc]; exact hy) h3 h4) l1 l2 l3 l4 l5 (fun x => nofoldI it _ x)
  | .par i x px j y py kt pt a b k2 pt2 p, n, X, k, sc, W, hX, h => by
    simp only [wS, Bool.and_eq_true, Bool.not_eq_true', decide_eq_true_eq] at h
    obtain ⟨⟨⟨⟨⟨⟨⟨⟨⟨⟨⟨h1, h2⟩, h3⟩, h4⟩, h5⟩, h6⟩, h7⟩, h8⟩, h9⟩, h10⟩, h11⟩, h12⟩ := h
    have hx := local_of h4
    have hy := local_of h5
    have hb : starEach [eE b] X.env = [(false, eval (eE b) X.env)] := star_e b [] _
    refine ps_par hX.calm (by rw [hX.eN]; exact hX.nd) (by rw [hX.eN]; exact h1) (by rw [hX.eN]; exact h2) (by intro e; subst e; simp at h3) (by rw [hX.eSc]; exact hx) (by rw [hX.eSc]; exact hy)
      (pa_cons (sE Γ N a hX.toCok h10).1 (pa_cons (sE Γ N b hX.toCok h11).1 pa_nil hb) (star_e a _ _)) (swapped_par (by rw [hX.eSc]; exact h12) (by rw [hX.eSc]; exact hx) (by rw [hX.eSc]; exact hy) h6 h7 h8 h9) rfl
  | .setA o f fp e p, n, X, k, sc, W, hX, h => by
    simp only [wS, Bool.and_eq_true, Bool.not_eq_true'] at h
    exact setA_ok hX.toCok (sE Γ N o hX.toCok h.1.1).1 (sE Γ N e hX.toCok h.1.2).1 (noswap e _ _ _ h.2)
  | .aug i x px op e p, n, X, k, sc, W, hX, h => by
    simp only [wS, Bool.and_eq_true, decide_eq_true_eq] at h
    obtain ⟨⟨h1, h2⟩, h3⟩ := h
    obtain ⟨q, hq, e1⟩ := okName_ks h2
    have hl : L2.Loc sc x := by
      simp only [List.mem_cons, List.not_mem_nil, or_false] at hq
      rcases hq with rfl | rfl
      · exact .inl e1
      · exact .inr e1
    obtain ⟨l1, l2⟩ := hX.lcl x hl
    exact ps_aug (by rw [hX.eN]; exact hX.nd) (by rw [hX.eN]; exact h1) (by rw [hX.eSc]; exact l1) (sE Γ N e hX.toCok h3).1 (ip_aug op) (by rw [hX.eSc]; exact l2)
  | .ifs c a b p, n, X, k, sc, W, hX, h => by
    simp only [wS, Bool.and_eq_true] at h
    exact ps_if (sE Γ N c hX.toCok h.1.1).2 (sSs Γ N a hX h.1.2) (sSs Γ N b hX h.2)
  | .whl c b p, n, X, k, sc, W, hX, h => by
    simp only [wS, Bool.and_eq_true] at h
    exact ps_while hX.pas (sE Γ N c hX.toCok h.1).2 (sSs Γ N b hX h.2)
  | .fors t it b p, n, X, k, sc, W, hX, h => by
    simp only [wS, Bool.and_eq_true] at h
    obtain ⟨⟨⟨h1, h2⟩, h3⟩, h4⟩ := h
    exact ps_for hX.pas hX.calm (sI Γ N it hX.toCok h1 t h2) (sT Γ N t hX.toCok h3) (sSs Γ N b hX h4) (fun x => nofoldI it _ x)
  | .pass p, n, X, k, sc, W, hX, h => ps_pass
  | .brk p, n, X, k, sc, W, hX, h => ps_break
  | .cnt p, n, X, k, sc, W, hX, h => ps_continue
  | .rais i x q m j p2 p3 p, n, X, k, sc, W, hX, h => by
    simp only [wS, Bool.and_eq_true, decide_eq_true_eq] at h
    exact rais_ok hX.toCok h.1 h.2
  | .trk b gi x np i m j y py pv pa hp p, n, X, k, sc, W, hX, h => by
    simp only [wS, Bool.and_eq_true, decide_eq_true_eq] at h
    obtain ⟨⟨⟨⟨⟨⟨⟨h1, h2⟩, h3⟩, h4⟩, h5⟩, h6⟩, h7⟩, h8⟩ := h
    exact trk_ok hX (fun Y W' hY => sSs Γ N b hY h1) h2 h3 h4 h5 h6 h7 h8
  | .tdiv i x px a b bp ap np j m ei ex q ms c p2 p3 cp rp hp p, n, X, k, sc, W, hX, h => by
    simp only [wS, Bool.and_eq_true, decide_eq_true_eq] at h
    obtain ⟨⟨⟨⟨⟨⟨⟨⟨⟨h1, h2⟩, h3⟩, h4⟩, h5⟩, h6⟩, h7⟩, h8⟩, h9⟩, h10⟩ := h
    exact tdiv_ok hX (fun Y hY => (sE Γ N a hY h3).1) (fun Y hY => (sE Γ N b hY h4).1) h1 h2 h5 h6 h7 h8 h9 h10
  | .calp a p1 p2 p, n, X, k, sc, W, hX, h => by
    simp only [wS] at h
    cases h
theorem sSs (Γ : Gam) (N : List Str) : ∀ (r : MSs) {n : Nms} {X : Cx} {k : Nat} {sc : Scope} {W : WX}, CokS X Γ n k N sc W → wSs N n r sc = true → PSs X (eSs r) (dSs Γ X.K r W)
  | .nil, n, X, k, sc, W, hX, h => pss_nil
  | .cons s .nil, n, X, k, sc, W, hX, h => by
    simp only [wSs, Bool.and_eq_true] at h
    exact pss_one (sS Γ N s hX h.1)
  | .cons s (.cons s2 r), n, X, k, sc, W, hX, h => by
    have h' : (wS N n s sc && wSs N n (.cons s2 r) sc) = true := by rw [wSs] at h; exact h
    rw [Bool.and_eq_true] at h'
    exact pss_cons (sS Γ N s hX h'.1) (sSs Γ N (.cons s2 r) hX h'.2)
end
/-! ### a def -/
theorem cok_def {P : Program} {w : World} {K : Frag} {mg : Str → Option Value} {base : Heap} {Γ : Gam} {n : Nms} {k : Nat} {N ps : List Str} {qual : Str} {sc : Scope} {f : Addr} {cd : Value} {A : Around} {outer : List Env} {s : Shared} {H : Hp} {E : XK}
    (G : GamOk Γ n k P w K mg base) (S : FnScope N ps sc) (hr : Room k (A.deeper (envOfC qual sc s.heap.objs.size f cd)))
    (hlm : ∀ q, n.lq = some q → qual ++ ".<locals>." = q ∧ Room (k + 2) (A.deeper (envOfC qual sc s.heap.objs.size f cd)) ∧ ∃ c tb, cd = .ref c ∧ LamX.TabB base mg c tb ∧ (tb, q ++ "<lambda>") ∈ Γ.tb ∧ ∀ p ∈ Γ.tb, p.1 = tb → p.2 = q ++ "<lambda>") :
    CokS (cxOf (L2.CX P w) P w K mg base N qual sc f cd A outer s H E) Γ n k N sc (fun c d _ H => E c d H) where
  eN := rfl
  nd := S.nd
  eSc := rfl
  calm := rfl
  room := hr
  gam := G
  tk := takes_of rfl rfl rfl rfl
  lcl := fun x hx => ⟨hx, .inl rfl⟩
  pas := passes_of rfl
  lm := hlm
  stk := rfl
  frm := rfl
  exn := rfl
  pasAt := L2H.passesAt_of rfl
/-- a def's text: its names, its body -/
structure Txt (N ps : List Str) (n : Nms) (st : Stmt) (m : MSs) : Prop where
  sc : FnScope N ps (defScope st)
  eq : eSs m = defBody st
  wf : wSs N n m (defScope st) = true
theorem def_ok {P : Program} {w : World} {K : Frag} {mg : Str → Option Value} {base : Heap} {Γ : Gam} {n : Nms} {k : Nat} {N ps : List Str} {x qual : Str} {st : Stmt} {m : MSs} {f : Addr} {oc : Value} {od an : Option Addr} {osl : Array (Option Value)} {dV kV doc pm cdv ct : Value} {sp : Sp}
    (T : Txt N ps n st m) (hq : n.lq = none) (lk : K.lookup f = some ⟨oc, od, .func (PySem.W.fnOf x qual (defArgs st) (defBody st) (defScope st) dV kV doc pm an cdv ct), osl⟩) (hcd : PySem.W.codeIn K cdv qual = true) (G : GamOk Γ n k P w K mg base)
    (len : ∀ vs H Q E, sp vs H Q E → vs.length = ps.length)
    (h : ∀ (vs : List V) (H : Hp) (Q : VK) (E : XK), sp vs H Q E → dSs Γ K m (fun c d _ H => E c d H) { nx := fun _ H' => Q .non H', rt := Q } (start N vs) H) :
    FnOk P w K mg base (L2.CX P w) (k + 1) f (PySem.W.fnOf x qual (defArgs st) (defBody st) (defScope st) dV kV doc pm an cdv ct) ps sp := by
  refine fn_of lk hcd T.sc len fun A outer s H vs Q E hr hsp => ⟨_, ?_, h vs H Q E hsp⟩
  have q := sSs Γ N m (X := cxOf (L2.CX P w) P w K mg base N qual (defScope st) f cdv A outer s H E) (cok_def G T.sc hr fun q e => by rw [hq] at e; cases e) T.wf
  rw [T.eq] at q
  exact q
/-- .. that makes lambdas -/
theorem def_okL {P : Program} {w : World} {K : Frag} {mg : Str → Option Value} {base : Heap} {Γ : Gam} {n : Nms} {k : Nat} {N ps : List Str} {x qual : Str} {st : Stmt} {m : MSs} {f : Addr} {oc : Value} {od an : Option Addr} {osl : Array (Option Value)} {dV kV doc pm cdv ct : Value} {sp : Sp}
    (T : Txt N ps n st m) {c tb : Addr} (hq : n.lq = some (qual ++ ".<locals>.")) (hcv : cdv = .ref c) (hT : LamX.TabB base mg c tb) (hin : (tb, qual ++ ".<locals>." ++ "<lambda>") ∈ Γ.tb) (hu : ∀ p ∈ Γ.tb, p.1 = tb → p.2 = qual ++ ".<locals>." ++ "<lambda>") (lk : K.lookup f = some ⟨oc, od, .func (PySem.W.fnOf x qual (defArgs st) (defBody st) (defScope st) dV kV doc pm an cdv ct), osl⟩) (hcd : PySem.W.codeIn K cdv qual = true) (G : GamOk Γ n k P w K mg base)
    (len : ∀ vs H Q E, sp vs H Q E → vs.length = ps.length)
    (h : ∀ (vs : List V) (H : Hp) (Q : VK) (E : XK), sp vs H Q E → dSs Γ K m (fun c d _ H => E c d H) { nx := fun _ H' => Q .non H', rt := Q } (start N vs) H) :
    FnOk P w K mg base (L2.CX P w) (k + 2 + 1) f (PySem.W.fnOf x qual (defArgs st) (defBody st) (defScope st) dV kV doc pm an cdv ct) ps sp := by
  refine fn_of lk hcd T.sc len fun A outer s H vs Q E hr hsp => ⟨_, ?_, h vs H Q E hsp⟩
  have q := sSs Γ N m (X := cxOf (L2.CX P w) P w K mg base N qual (defScope st) f cdv A outer s H E) (cok_def G T.sc (hr.mono (by omega)) fun q e => by rw [hq] at e; cases e; exact ⟨rfl, hr, c, tb, hcv, hT, hin, hu⟩) T.wf
  rw [T.eq] at q
  exact q
end Rf
namespace Rf
open PySem PySem.Spec PyProof.Rows L2

/-! ### a def that calls the lambda that it gets, in a try -/
theorem PE.weak {X : Cx} {e : Expr} {t : TE} (h : PE X e t) : PE X e (fun σ H Q => ∃ Q' : VK, (∀ v H', Q' v H' → Q v H') ∧ t σ H Q') :=
  ⟨fun pins s σ H Q I ⟨Q', hQ, q⟩ => thn (h.run pins s σ H Q' I q) fun u s1 ⟨v, H1, I1, r, q1⟩ => ⟨v, H1, I1, r, hQ v H1 q1⟩⟩
/-- what its body is to do, the lambda's reading being tl -/
def kindS (Γ : Gam) (K : Frag) (N : List Str) (c : Value) (i j : Nat) (m1 : MS) (ms : MSs) (f c' : Addr) (q : Str) (tl : XK → Hp → VK → Prop) (H : Hp) (Q : VK) : Prop :=
  dS Γ K m1 (fun _ _ _ _ => False) { nx := fun σ1 H1 => ∃ (E : XK) (Q' : VK),
    (∀ cls d σ' H', E cls d H' → wLen σ1.length (wKeep K c i (fun _ => tAsg (tVar i) (gName j)) (fun _ _ _ _ => False) { nx := dSs Γ K ms (fun _ _ _ _ => False) { nx := fun _ H' => Q .non H', rt := Q }, rt := Q }) cls d σ' H') ∧
    (∀ v H', Q' v H' → dSs Γ K ms (fun _ _ _ _ => False) { nx := fun _ H' => Q .non H', rt := Q } σ1 H') ∧ σ1[0]? = some (some (.ref f)) ∧ H1 c' = some (LamX.CodeO c' q) ∧ tl E H1 Q', rt := Q } (start N [.ref f]) H
theorem kind_ok {P : Program} {w : World} {K : Frag} {mg : Str → Option Value} {base : Heap} {Γ : Gam} {n : Nms} {k : Nat} {N : List Str} {a x xe m y : Str} {st : Stmt} {m1 : MS} {ms : MSs} {gi i j : Nat} {p1 p2 p3 np py pv pa hp p : Pos} {v : V} {xx : Str}
    {f : Addr} {oc : Value} {od an : Option Addr} {osl : Array (Option Value)} {dV kV doc pm cdv ct : Value} {TT : (XK → Hp → VK → Prop) → Hp → VK → Prop}
    (S : FnScope N [a] (defScope st)) (eq : eSs (.cons m1 (.cons (.trk (.cons (.calp a p1 p2 p3) .nil) gi xe np i m j y py pv pa hp p) ms)) = defBody st)
    (w1 : wS N n m1 (defScope st) = true) (w2 : wS N n (.trk .nil gi xe np i m j y py pv pa hp p) (defScope st) = true) (w3 : wSs N n ms (defScope st) = true) (hms : ∀ s r, ms = .cons s r → True)
    (ha : okName (defScope st) a [.local, .cell, .free] = true) (hx : (x == ("__debug__" : Str)) = false) (hq : n.lq = none) (hNa : N[0]? = some a)
    (lk : K.lookup f = some ⟨oc, od, .func (PySem.W.fnOf x x (defArgs st) (defBody st) (defScope st) dV kV doc pm an cdv ct), osl⟩) (hcd : PySem.W.codeIn K cdv x = true) (hk : PySem.W.keepIn K (.ref f) = true) (hm : mg x = some (.ref f))
    (hb : L2.Binds K (PySem.W.fnOf x x (defArgs st) (defBody st) (defScope st) dV kV doc pm an cdv ct) [a] []) (G : GamOk Γ n (k + 1) P w K mg base) (ev : Γ.glo[gi]? = some (xx, v)) (hv : isCls v = true)
    (h : ∀ (f c' : Addr) (q : Str) (tl : XK → Hp → VK → Prop) (H : Hp) (Q : VK), H c' = some (LamX.CodeO c' q) → TT tl H Q → kindS Γ K N (clsOf v) i j m1 ms f c' q tl H Q) :
    LamOk P w K mg base k x TT := by
  intro X e1 e2 e3 e4 e5 T c tb body scope t p' lp pos hg TB hcode hin hu hr L hbody
  subst e1 e2 e3 e4 e5
  have wm : okName (defScope st) m [.local] = true ∧ N[i]? = some m ∧ N[j]? = some y ∧ isLocalB (defScope st) m = true ∧ okName (defScope st) y [.local, .cell] = true ∧ n.glo[gi]? = some xe ∧ okName (defScope st) xe [.globalImplicit] = true := by
    simp only [wS, Bool.and_eq_true, decide_eq_true_eq] at w2
    obtain ⟨⟨⟨⟨⟨⟨⟨h1, h2⟩, h3⟩, h4⟩, h5⟩, h6⟩, h7⟩, h8⟩ := w2
    exact ⟨h8, h4, h6, h5, h7, h2, h3⟩
  obtain ⟨hm8, hm4, hm6, hm5, hm7, hm2, hm3⟩ := wm
  have vis : Vis (defScope st) a := by
    obtain ⟨q, hq, e⟩ := okName_ks ha
    simp only [List.mem_cons, List.not_mem_nil, or_false] at hq
    rcases hq with rfl | rfl | rfl
    · exact .inl e
    · exact .inr (.inl e)
    · exact .inr (.inr e)
  refine LamX.pe_lamcall (k := k) (Ng := N) (a := a) hg hm hk lk hcd hb S hNa vis ?_ TB hcode hin hu hr L rfl (fun _ _ _ _ _ => rfl) hbody hx (okName_db ha) (okName_cd ha)
  intro g c' s H Q tl act hc tt
  have wish := h g c' _ tl H Q hc tt
  obtain ⟨Y, hY⟩ : ∃ Y, Y = (cxOf C8.CX0 X.prog X.w X.K X.mg X.base N x (defScope st) f cdv X.A X.stack s H C8.E0).nox := ⟨_, rfl⟩
  have C : CokS Y Γ n (k + 1) N (defScope st) (fun _ _ _ _ => False) := by
    subst hY
    exact ⟨⟨rfl, S.nd, rfl, rfl, hr.deeper _, G, never_takes, fun x hx => ⟨hx, .inl rfl⟩, PassesOwn.never, fun q e => by rw [hq] at e; cases e⟩, rfl, rfl, rfl, fun _ => PassesOwnAt.never⟩
  have KY : Y.K = X.K := by subst hY; rfl
  have s1 := sS Γ N m1 C w1
  have s3 := sSs Γ N ms C w3
  rw [KY] at s1 s3
  have s2 : PS Y (eS (.trk (.cons (.calp a p1 p2 p3) .nil) gi xe np i m j y py pv pa hp p)) (fun D σ H => ∃ (E : XK) (Q' : VK), (∀ cls d σ' H', E cls d H' → wLen σ.length (wKeep X.K (clsOf v) i (fun _ => tAsg (tVar i) (gName j)) (fun _ _ _ _ => False) D) cls d σ' H') ∧
      (∀ v H', Q' v H' → D.nx σ H') ∧ σ[0]? = some (some (.ref g)) ∧ H c' = some (LamX.CodeO c' (X.env.qual ++ "<lambda>")) ∧ tl E H Q') := by
    obtain ⟨v', ev', hv'⟩ := names_of C.toCok hm2 hm3
    have : v' = v := by
      rw [ev] at ev'
      cases ev'
      rfl
    subst this
    obtain ⟨q, hq', ey⟩ := okName_ks hm7
    have hl : L2.Loc (defScope st) y := by
      simp only [List.mem_cons, List.not_mem_nil, or_false] at hq'
      rcases hq' with rfl | rfl
      · exact .inl ey
      · exact .inr ey
    obtain ⟨l1, l2⟩ := C.lcl y hl
    have lm := local_of hm5
    refine ⟨fun pins s' σ H' D I hw => ?_⟩
    have key := ps_try_keep (X := Y) (Wout := fun _ _ _ _ => False) (body := [.Expr (.Call (.Name a p1) [] [] p2) p3]) (np := np) (hp := hp) (pos := p) (b₀ := .Assign [.Name y py] (.Name m pv) pa) (suite := []) (ts := fun _ => tAsg (tVar i) (gName j))
      (tb := fun W' D σ H => ∃ (E : XK) (Q' : VK), (∀ cls d σ' H', E cls d H' → W' cls d σ' H') ∧ (∀ v H', Q' v H' → D.nx σ H') ∧ σ[0]? = some (some (.ref g)) ∧ H c' = some (LamX.CodeO c' (X.env.qual ++ "<lambda>")) ∧ tl E H Q')
      C.stk C.frm C.exn (by rw [C.eN]; exact C.nd) (by rw [C.eN]; exact hm4) (by show Y.env.scope.names.lookup m = _; rw [C.eSc]; exact lm) (hv' hv) C.tk
      (fun W' pn xe' tk q1 q2 => ?_)
      (fun a pn => pss_one (ps_asg (pe_var (by show Y.N[i]? = _; rw [C.eN]; exact hm4) (.inl (by show Y.env.scope.names.lookup m = _; rw [C.eSc]; exact lm)) (okName_db hm8) (okName_cd hm8)) (pg_name (by show Y.N.Nodup; rw [C.eN]; exact C.nd) (by show Y.N[j]? = _; rw [C.eN]; exact hm6) (by show L2.Loc Y.env.scope y; rw [C.eSc]; exact l1) (by show Y.fn y = true ∨ Y.env.scope.names.lookup y = _; rw [C.eSc]; exact l2)) rfl rfl rfl))
    · refine key.run pins s' σ H' D I ?_
      rw [← I.len]
      rw [KY]
      exact hw
    · refine pss_one ⟨fun pins s σ H D I hw => ?_⟩
      obtain ⟨E, Q', w1, w2, w3, w4, w5⟩ := hw
      subst hY
      exact (ps_expr (PE.weak (act W' pn xe' E p1 p2 tk w1)) rfl).run pins s σ H D I ⟨Q', fun v H' q => w2 v H' q, w3, w4, w5⟩
  rw [← eq]
  rw [hY] at s1 s2 s3
  exact ⟨_, pss_cons s1 (pss_cons s2 s3), wish⟩
end Rf
namespace Rf
open PySem PySem.Spec PyProof.Rows L2

/-! ### rules for readings -/
/-- all that is known stays so -/
def Kp (H H' : Hp) : Prop := ∀ b o, H b = some o → H' b = some o
theorem Kp.refl (H : Hp) : Kp H H := fun _ _ e => e
theorem Kp.trans {H H1 H2 : Hp} (a : Kp H H1) (b : Kp H1 H2) : Kp H H2 := fun c o e => b c o (a c o e)
theorem Kp.new {H : Hp} {a : Addr} {o : HO} (h : H a = none) : Kp H (upd H a o) := fun b u e => by
  rw [upd_ne (fun z => by rw [z, h] at e; cases e)]
  exact e
theorem Kp.free {H H' : Hp} (k : Kp H H') {a : Addr} (h : H' a = none) : H a = none := by
  cases q : H a with
  | none => rfl
  | some o =>
    rw [k a o q] at h
    cases h
/-- .. but what stands at r -/
def KpX (r : Addr) (H H' : Hp) : Prop := ∀ b o, b ≠ r → H b = some o → H' b = some o
theorem KpX.refl (r : Addr) (H : Hp) : KpX r H H := fun _ _ _ e => e
theorem KpX.trans {r : Addr} {H H1 H2 : Hp} (a : KpX r H H1) (b : KpX r H1 H2) : KpX r H H2 := fun c o n e => b c o n (a c o n e)
theorem Kp.kx {r : Addr} {H H' : Hp} (k : Kp H H') : KpX r H H' := fun b o _ e => k b o e
theorem KpX.set {r : Addr} {H : Hp} {o : HO} : KpX r H (upd H r o) := fun b u n e => by
  rw [upd_ne n]
  exact e
theorem KpX.kp {r : Addr} {H H' : Hp} (k : KpX r H H') (h : H r = none) : Kp H H' := fun b o e => k b o (fun z => by rw [z, h] at e; cases e) e
theorem ite_t {c : Bool} {A B : Prop} (e : c = true) (h : A) : if c = true then A else B := by rw [if_pos e]; exact h
theorem ite_f {c : Bool} {A B : Prop} (e : c = false) (h : B) : if c = true then A else B := by rw [e]; exact h
def rng (lo : Int) (n : Nat) : List Int := (List.range n).map fun i => lo + (i : Nat)
theorem rng_succ (lo : Int) (n : Nat) : rng lo (n + 1) = rng lo n ++ [lo + n] := by
  unfold rng
  rw [List.range_succ, List.map_append]
  rfl
theorem rng_len (lo : Int) (n : Nat) : (rng lo n).length = n := by simp [rng]
theorem len_filter_rng {p : Int → Bool} {lo : Int} {n : Nat} : ((rng lo n).filter p).length ≤ n := Nat.le_trans (List.length_filter_le ..) (by rw [rng_len]; exact Nat.le_refl _)
theorem set_twice {σ : L2.St} {i : Nat} {x y : Option V} : (σ.set i x).set i y = σ.set i y := List.set_set ..
/-- [k for k in range(..) if p(k)] -/
theorem lc_filter {lo : Int} {n i : Nat} {tt : TT} {σ : L2.St} {H1 : Hp} {D : Addr} {Qd : Hp → Prop} (p : Int → Bool) (hn : n < sizeLine) (hi : i < σ.length) (hD : H1 D = none)
    (ht : ∀ k : Int, lo ≤ k → k < lo + n → ∀ (H' : Hp) (R : Bool → Hp → Prop), Kp H1 H' → R (p k) H' → tt ((wipe σ [i]).set i (some (.int k))) H' R)
    (hQ : ∀ H', Kp H1 H' → H' D = some (.lst (((rng lo n).filter p).map V.int)) → Qd H') :
    ∃ W : Nat → Nat → Hp → Prop, (∃ m, W 0 m (upd H1 D (.lst []))) ∧ ∀ i' m H, W i' m H →
      ((Itr lo n).stop i' H ∧ Qd H) ∨ ((Itr lo n).go i' H ∧ ∃ Nx : Hp → Prop, (∀ H', Nx H' → ∃ m', m' < m ∧ W (i' + 1) m' H') ∧ ∀ x H', (Itr lo n).yld i' H x H' → gName i x (wipe σ [i]) H' fun σ2 H2 => wipe σ2 [i] = wipe σ [i] ∧ tt σ2 H2 fun b H3 =>
        if b = true then tVar i σ2 H3 fun y H4 => ∃ acc, H4 D = some (.lst acc) ∧ acc.length < sizeLine ∧ Nx (upd H4 D (.lst (acc ++ [y]))) else Nx H3) := by
  refine lc_range (Pv := fun j H' => Kp H1 H' ∧ H' D = some (.lst (((rng lo j).filter p).map V.int))) ⟨Kp.new hD, upd_same⟩ (fun j H' hj hP => ?_) (fun H' hP => hQ H' hP.1 hP.2)
  obtain ⟨kp, e⟩ := hP
  refine ⟨?_, ht (lo + j) (by omega) (by omega) H' _ kp ?_⟩
  · show ((σ.set i none).set i _).set i none = σ.set i none
    rw [set_twice, set_twice]
  · cases hp : p (lo + j) with
    | true =>
      refine ite_t rfl ⟨.int (lo + j), ?_, _, e, ?_, fun b o eb => ?_, ?_⟩
      · exact List.getElem?_set_self (by show i < (σ.set i none).length; rw [List.length_set]; exact hi)
      · rw [List.length_map]
        have := @len_filter_rng p lo j
        omega
      · have nb : b ≠ D := fun z => by
          rw [z, hD] at eb
          cases eb
        rw [upd_ne nb]
        exact kp b o eb
      · rw [upd_same, rng_succ, List.filter_append, List.map_append]
        have e2 : [lo + (j : Int)].filter p = [lo + (j : Int)] := by rw [List.filter_cons, if_pos hp]; rfl
        rw [e2]
        rfl
    | false =>
      refine ite_f rfl ⟨kp, ?_⟩
      rw [rng_succ, List.filter_append]
      have e2 : [lo + (j : Int)].filter p = [] := by rw [List.filter_cons, if_neg (by rw [hp]; exact Bool.false_ne_true)]; rfl
      rw [e2, List.append_nil]
      exact e
def tlN : Nat → MSs → MSs
  | n + 1, .cons _ r => tlN n r
  | _, r => r
def hd1 : MSs → MS
  | .cons s _ => s
  | .nil => .pass ⟨0, 0, 0, 0⟩
theorem atI_of {α : Type} {xs : List α} {i : Int} (h0 : 0 ≤ i) (h1 : i < xs.length) : atI xs i = xs[i.toNat]? := by
  unfold atI ixN
  rw [if_pos h0, if_pos h1]
  rfl
theorem atI_head {α : Type} (x : α) (r : List α) : atI (x :: r) 0 = some x := atI_of (Int.le_refl 0) (by simp)
/-! ### sizes -/
def Sm (i : Int) : Prop := i.natAbs < 2 ^ 1000
theorem Sm.bits {i : Int} (h : Sm i) : Builtin.Int.intBits i ≤ 1000 := by
  unfold Builtin.Int.intBits
  split
  · omega
  · rename_i h0
    have h1 : i.natAbs ≠ 0 := fun z => h0 (by simpa using z)
    have h2 := (Nat.log2_lt h1).mpr h
    omega
theorem Sm.mul {i j : Int} (h : Sm i) (k : Sm j) : IntMulOk i j := IntMulOk.of_bits (Nat.le_trans h.bits (by decide)) (Nat.le_trans k.bits (by decide))
theorem Sm.div {i j : Int} (h : Sm j) : Builtin.divisionGoesByPylong i j = false := PyProof.noPylong_of_log2 (by
  by_cases h0 : j.natAbs = 0
  · rw [h0]; decide +kernel
  · have h2 := (Nat.log2_lt h0).mpr h
    omega)
/-- below 2^k -/
def Bd (k : Nat) (i : Int) : Prop := i.natAbs < 2 ^ k
theorem Bd.mono {j k : Nat} {i : Int} (h : Bd j i) (hk : j ≤ k) : Bd k i := Nat.lt_of_lt_of_le h (Nat.pow_le_pow_right (by decide) hk)
theorem Bd.sm {k : Nat} {i : Int} (h : Bd k i) (hk : k ≤ 1000) : Sm i := h.mono hk
theorem Bd.mul {j k : Nat} {x y : Int} (h : Bd j x) (h' : Bd k y) : Bd (j + k) (x * y) := by
  unfold Bd
  rw [Int.natAbs_mul, Nat.pow_add]
  exact Nat.mul_lt_mul'' h h'
theorem Bd.add {k : Nat} {x y : Int} (h : Bd k x) (h' : Bd k y) : Bd (k + 1) (x + y) := by
  unfold Bd at *
  have := Int.natAbs_add_le x y
  rw [Nat.pow_succ]
  omega
theorem Bd.neg {k : Nat} {x : Int} (h : Bd k x) : Bd k (-x) := by
  unfold Bd
  rw [Int.natAbs_neg]
  exact h
theorem Bd.sub {k : Nat} {x y : Int} (h : Bd k x) (h' : Bd k y) : Bd (k + 1) (x - y) := by
  rw [Int.sub_eq_add_neg]
  exact h.add h'.neg
theorem Bd.le {k : Nat} {x y : Int} (h : Bd k x) (e : y.natAbs ≤ x.natAbs) : Bd k y := Nat.lt_of_le_of_lt e h
end Rf
namespace Rf
open PySem PySem.Spec PyProof.Rows L2
/-! ### the program's defs, wired -/
structure FD where
  ad : Addr
  fd : FuncData
/-- ways of calling: so many values, these keywords, how they come in the parameters' order -/
abbrev KB : Type := List (Nat × List Str × (List V → List V → List V))
abbrev en (r : FD) (ps : List Str) (sp : Sp) (k : Nat) (kb : KB := []) : FnE := ⟨r.ad, r.fd, ps, sp, k, [], [], kb⟩
/-- that a def may be called so -/
def KbOk (K : Frag) (fd : FuncData) (ps : List Str) (kb : KB) : Prop := ∀ q ∈ kb, ∃ g, KBn K fd ps q.1 q.2.1 g q.2.2
def AllF {α : Type} (p : α → Prop) : List α → Prop
  | [] => True
  | a :: r => p a ∧ AllF p r
theorem AllF.mem {α : Type} {p : α → Prop} : ∀ {l : List α}, AllF p l → ∀ a ∈ l, p a
  | [], _, a, h => by cases h
  | b :: r, ⟨h1, h2⟩, a, h => by
    rcases List.mem_cons.mp h with e | e
    · rw [e]; exact h1
    · exact AllF.mem h2 a e
theorem gam_ok {Γ : Gam} {n : Nms} {k : Nat} {P : Program} {w : World} {K : Frag} {mg : Str → Option Value} {base : Heap} (hn : Γ.fn.map (·.1) = n.fn ∧ Γ.glo.map (·.1) = n.glo ∧ Γ.cl.map (·.1) = n.cl ∧ Γ.lam.map (·.1) = n.lam ∧ Γ.exc.map (·.1) = n.exc)
    (fn : AllF (fun q : Str × FnE => FnOkE P w K mg base q.2 ∧ q.2.k ≤ k ∧ mg q.1 = some (.ref q.2.f)) Γ.fn) (glo : AllF (fun q : Str × V => ∃ u, RelV q.2 u ∧ (mg q.1 = some u ∨ (mg q.1 = none ∧ bootBuiltins q.1 = some u ∧ q.1 ≠ "__name__"))) Γ.glo)
    (cl : AllF (fun q : Str × Addr × FnE => FnOkE P w K mg base q.2.2 ∧ q.2.2.k + 1 ≤ k ∧ Mk K q.2.1 q.2.2.f ∧ mg q.1 = some (.ref q.2.1)) Γ.cl) (att : ∀ C f, Γ.att C f → Cls K C ∧ NoAttr K C f) (mt : ∀ C m e, Γ.mt C m e → FnOkE P w K mg base e ∧ e.k ≤ k ∧ Cls K C ∧ Meth K C m e.f)
    (eq : ∀ C e, Γ.eq C e → FnOkE P w K mg base e ∧ e.k ≤ k ∧ PySem.W.findIn K (.ref C) "__eq__" = some (some (.ref e.f)) ∧ PySem.W.isFn K (.ref e.f) = true) (blt : AllF (fun x : Str => mg x = none) n.blt)
    (lam : AllF (fun q : Str × ((XK → Hp → VK → Prop) → Hp → VK → Prop) => LamOk P w K mg base k q.1 q.2) Γ.lam) (exc : AllF (fun q : Str × Addr => ExcF K mg q.1 q.2) Γ.exc) : GamOk Γ n k P w K mg base :=
  ⟨hn.1, hn.2.1, hn.2.2.1, fun x e h => fn.mem (x, e) h, fun x v h => glo.mem (x, v) h, fun x C e h => cl.mem (x, C, e) h, att, mt, eq, fun x h => blt.mem x h, hn.2.2.2.1, fun x TT h => lam.mem (x, TT) h, hn.2.2.2.2, fun x C h => exc.mem (x, C) h⟩
section
variable {P : Program} {w : World} {K : Frag} {mg : Str → Option Value} {base : Heap} {Γ : Gam} {n : Nms} {k : Nat} {N ps : List Str} {x qual : Str} {st : Stmt} {m : MSs} {r : FD} {dvs : List V} {sp : Sp}
theorem okE {params : Arguments} {body : List Stmt} {scope : Scope} {k : Nat} (F : FunD K x qual params body scope dvs [] r.ad r.fd) {kb : KB} (hkb : KbOk K r.fd ps kb) (b : Binds K r.fd ps []) (ok : FnOk P w K mg base (L2.CX P w) k r.ad r.fd ps sp) : FnOkE P w K mg base (en r ps sp k kb) :=
  ⟨ok, F.kp, fun j => by
    show Binds K r.fd ps (([] : List Value).drop j)
    rw [List.drop_nil]
    exact b, .nil, hkb⟩
theorem def_okF (F : FunD K x qual (defArgs st) (defBody st) (defScope st) dvs [] r.ad r.fd) (b : Binds K r.fd ps []) (T : Txt N ps n st m) (G : GamOk Γ n k P w K mg base) (len : ∀ vs H Q E, sp vs H Q E → vs.length = ps.length)
    (h : ∀ (vs : List V) (H : Hp) (Q : VK) (E : XK), sp vs H Q E → dSs Γ K m (fun c d _ H => E c d H) { nx := fun _ H' => Q .non H', rt := Q } (start N vs) H) (hq : n.lq = none) {kb : KB} (hkb : KbOk K r.fd ps kb := by intro q hq; cases hq) : FnOkE P w K mg base (en r ps sp (k + 1) kb) := by
  refine okE F hkb b ?_
  obtain ⟨oc, od, dV, kV, doc, pm, an, cdv, ct, osl, e, lk, hcd, _, _⟩ := F.ex
  rw [e] at lk ⊢
  exact def_ok T hq lk hcd G len h
theorem def_okLF {p : He.Defn} (F : FunD K x qual (defArgs st) (defBody st) (defScope st) dvs [] r.ad r.fd) (b : Binds K r.fd ps []) (T : Txt N ps n st m) (G : GamOk Γ n k P w K mg base) (len : ∀ vs H Q E, sp vs H Q E → vs.length = ps.length)
    (h : ∀ (vs : List V) (H : Hp) (Q : VK) (E : XK), sp vs H Q E → dSs Γ K m (fun c d _ H => E c d H) { nx := fun _ H' => Q .non H', rt := Q } (start N vs) H) (hq : n.lq = some (qual ++ ".<locals>.")) (hp : He.fAd K p = r.ad) (TB : LamX.TabB base mg (He.cT K p).1 (He.cT K p).2)
    (hT : Γ.tb = [((He.cT K p).2, qual ++ ".<locals>." ++ "<lambda>")]) {kb : KB} (hkb : KbOk K r.fd ps kb := by intro q hq; cases hq) : FnOkE P w K mg base (en r ps sp (k + 2 + 1) kb) := by
  refine okE F hkb b ?_
  obtain ⟨oc, od, dV, kV, doc, pm, an, cdv, ct, osl, e, lk, hcd, _, _⟩ := F.ex
  obtain ⟨c, hc⟩ := He.codeIn_ref hcd
  have ec : He.codeOf K p = c := He.codeOf_eq (fd := r.fd) (by rw [hp]; exact lk) (by rw [e]; exact hc)
  rw [e] at lk ⊢
  refine def_okL T hq (c := c) (tb := (He.cT K p).2) hc (by rw [← ec]; exact TB) (by rw [hT]; exact List.mem_cons_self) (fun q hq _ => ?_) lk hcd G len h
  rw [hT] at hq
  rw [List.mem_singleton.mp hq]
end
theorem kb_nil {K : Frag} {fd : FuncData} {ps : List Str} : KbOk K fd ps [] := fun q hq => by cases hq
theorem kb_cons {K : Frag} {fd : FuncData} {ps : List Str} {n : Nat} {ks : List Str} {gV : List V → List V → List V} {r : KB} (h : ∃ g, KBn K fd ps n ks g gV) (t : KbOk K fd ps r) : KbOk K fd ps ((n, ks, gV) :: r) := fun q hq => by
  rcases List.mem_cons.mp hq with e | e
  · rw [e]; exact h
  · exact t q e
theorem kbN {K : Frag} {x qual : Str} {params : Arguments} {body : List Stmt} {scope : Scope} {kws : List (Str × V)} {f : Addr} {fd : FuncData} {ps : List Str} (F : FunD K x qual params body scope [] kws f fd) (n : Nat) (ks : List Str) (g : {α : Type} → List α → List α → List α)
    (hrel : ∀ {vs zs : List V} {us ws : List Value}, Vals vs us → Vals zs ws → Vals (g vs zs) (g us ws))
    (h : ∀ (kV doc pm : Value) (an : Option Addr) (cdv ct : Value) (us ws : List Value), us.length = n → ws.length = ks.length → bindArgs (PySem.W.fnOf x qual params body scope .none kV doc pm an cdv ct) ⟨us, ks.zip ws⟩ = pure (ps.zip (g us ws))) :
    KBn K fd ps n ks (fun us ws => g us ws) (fun vs zs => g vs zs) := by
  obtain ⟨oc, od, dV, kV, doc, pm, an, cdv, ct, osl, rfl, lk, hcd, hD, hK⟩ := F.ex
  rcases hD with ⟨_, rfl⟩ | ⟨e, _⟩
  · exact ⟨fun s us ws X l1 l2 => .of_eq (h kV doc pm an cdv ct us ws l1 l2), fun r1 r2 => hrel r1 r2⟩
  · exact absurd rfl e
/-! ### classes of exceptions, told by a Bool -/
def excCB (K : Frag) (D : Addr) : Bool := decide (PySem.W.findIn K (.ref D) "__getattribute__" = some (some (.builtin "BaseException.__getattribute__"))) && (decide (PySem.W.findIn K (.ref D) "__getattr__" = some none) && (decide (PySem.W.subIn K (.ref D) (.type "BaseException") = some true) && (PySem.W.hasDictIn K D &&
  (decide (PySem.W.findIn K (.ref D) "__class__" = some (some (.builtin "object.__class__"))) && (decide (PySem.W.specialIn K (.builtin "object.__class__") "__get__" = some (some (.builtin "getset_descriptor.__get__"))) && (decide (PySem.W.takesIn K (.builtin "object.__class__") = some true) && decide (PySem.W.mroIn K D (.type "object") = some true)))))))
theorem excC_of {K : Frag} {D : Addr} (h : excCB K D = true) : ExcC K D := by
  obtain ⟨h1, h⟩ := He.ba h
  obtain ⟨h2, h⟩ := He.ba h
  obtain ⟨h3, h⟩ := He.ba h
  obtain ⟨h4, h⟩ := He.ba h
  obtain ⟨h5, h⟩ := He.ba h
  obtain ⟨h6, h⟩ := He.ba h
  obtain ⟨h7, h8⟩ := He.ba h
  exact ⟨of_decide_eq_true h1, of_decide_eq_true h2, of_decide_eq_true h3, h4, of_decide_eq_true h5, of_decide_eq_true h6, of_decide_eq_true h7, of_decide_eq_true h8⟩
theorem excF_of {K : Frag} {h : Heap} {mg : Str → Option Value} {x : Str} (X : K.In h) (G : h.Ns mainGlobals mg) (c : (He.Fa.exc x).ok K = true) (c2 : (He.Fa.glo x).ok K = true) : ExcF K mg x (He.ga K x) := by
  obtain ⟨h1, h2, h3, h4⟩ := He.exc_ok c
  exact ⟨He.glo_ok X G c2, h2, h3, h4, "ValueError", _, _, _, PySem.F.excBase_ValueError, h1⟩
end Rf
/-! fractions in their lowest terms; plain -/
namespace NumP
abbrev absI (i : Int) : Int := if i < 0 then -i else i
def gcI (t b : Int) : Int := (Int.gcd t b : Nat)
def lowT (t b : Int) : Int := (b.fdiv (absI b) * t).fdiv (gcI t b)
def lowB (t b : Int) : Int := (absI b).fdiv (gcI t b)
def N0 (x y : Int) : Prop := 0 < y ∧ Int.gcd x y = 1
theorem absI_nat (i : Int) : absI i = (i.natAbs : Int) := by unfold absI; split <;> omega
theorem sgn_eq {b : Int} (hz : b ≠ 0) : b.fdiv (absI b) = if b < 0 then -1 else 1 := by
  unfold absI
  split
  · exact Int.fdiv_eq_of_eq_mul_right (a := b) (b := -b) (c := -1) (by omega) (by omega)
  · exact Int.fdiv_self hz
theorem gcI_pos {t b : Int} (hz : b ≠ 0) : 0 < gcI t b := by
  unfold gcI
  have := Int.gcd_ne_zero_right (a := t) hz
  omega
theorem low_ok {t b : Int} (hz : b ≠ 0) : N0 (lowT t b) (lowB t b) ∧ lowT t b * b = t * lowB t b ∧ lowT t b * gcI t b = (if b < 0 then -1 else 1) * t ∧ lowB t b * gcI t b = absI b := by
  have hg := gcI_pos (t := t) hz
  have d1 : gcI t b ∣ t := Int.gcd_dvd_left ..
  have d2 : gcI t b ∣ b := Int.gcd_dvd_right ..
  have e1 : lowT t b * gcI t b = (if b < 0 then -1 else 1) * t := by
    unfold lowT
    rw [sgn_eq hz]
    exact Int.fdiv_mul_cancel (Int.dvd_mul_of_dvd_right d1)
  have e2 : lowB t b * gcI t b = absI b := by
    unfold lowB
    refine Int.fdiv_mul_cancel ?_
    unfold absI
    split
    · exact (Int.dvd_neg).mpr d2
    · exact d2
  have hb : 0 < absI b := by unfold absI; split <;> omega
  have pos : 0 < lowB t b := by
    rcases Int.lt_trichotomy (lowB t b) 0 with h | h | h
    · have := Int.mul_neg_of_neg_of_pos h hg
      omega
    · rw [h] at e2
      omega
    · exact h
  refine ⟨⟨pos, ?_⟩, ?_, e1, e2⟩
  · have h1 : Int.gcd (lowT t b * gcI t b) (lowB t b * gcI t b) = Int.gcd (lowT t b) (lowB t b) * (gcI t b).natAbs := Int.gcd_mul_right ..
    rw [e1, e2] at h1
    have h2 : Int.gcd ((if b < 0 then -1 else 1) * t) (absI b) = Int.gcd t b := by
      unfold Int.gcd
      congr 1
      · split <;> omega
      · rw [absI_nat]; rfl
    rw [h2] at h1
    have h3 : (gcI t b).natAbs = Int.gcd t b := rfl
    rw [h3] at h1
    have h4 : 0 < Int.gcd t b := by unfold gcI at hg; omega
    have h5 : 1 * Int.gcd t b = Int.gcd (lowT t b) (lowB t b) * Int.gcd t b := by rw [Nat.one_mul]; exact h1
    exact (Nat.eq_of_mul_eq_mul_right h4 h5).symm
  · have h1 : lowT t b * b * gcI t b = t * lowB t b * gcI t b := by
      rw [Int.mul_right_comm, e1, Int.mul_assoc t, e2]
      unfold absI
      split <;> rename_i hb' 
      · rw [Int.neg_mul, Int.one_mul, Int.neg_mul, Int.mul_neg]
      · rw [Int.one_mul]
    exact Int.eq_of_mul_eq_mul_right (by omega) h1
theorem dvd_cop {x y z : Int} (g : Int.gcd x y = 1) (h : y ∣ x * z) : y ∣ z := by
  have h1 : y.natAbs ∣ x.natAbs * z.natAbs := by rw [← Int.natAbs_mul]; exact Int.natAbs_dvd_natAbs.mpr h
  have c : Nat.Coprime y.natAbs x.natAbs := by
    have : Nat.gcd x.natAbs y.natAbs = 1 := g
    exact (Nat.gcd_comm ..).trans this
  exact Int.natAbs_dvd_natAbs.mp (Nat.Coprime.dvd_of_dvd_mul_left c h1)
theorem low_uniq {x y x' y' : Int} (h : N0 x y) (h' : N0 x' y') (e : x * y' = x' * y) : x = x' ∧ y = y' := by
  obtain ⟨p, g⟩ := h
  obtain ⟨p', g'⟩ := h'
  have d1 : y ∣ y' := by
    have h1 : y ∣ x * y' := by rw [e]; exact Int.dvd_mul_left ..
    exact dvd_cop g h1
  have d2 : y' ∣ y := by
    have h1 : y' ∣ x' * y := by rw [← e]; exact Int.dvd_mul_left ..
    exact dvd_cop g' h1
  have ey : y = y' := Int.dvd_antisymm (by omega) (by omega) d1 d2
  refine ⟨?_, ey⟩
  subst ey
  exact Int.eq_of_mul_eq_mul_right (by omega) e
/-- the fraction that has this worth -/
theorem low_is {x y t b : Int} (h : N0 x y) (hz : b ≠ 0) (e : x * b = t * y) : lowT t b = x ∧ lowB t b = y := by
  obtain ⟨n, e2, _, _⟩ := low_ok (t := t) hz
  refine low_uniq n h ?_
  have h1 : lowT t b * y * b = x * lowB t b * b := by
    rw [Int.mul_right_comm, e2, Int.mul_right_comm t, ← e, Int.mul_right_comm]
  exact Int.eq_of_mul_eq_mul_right hz h1
theorem low_le {t b : Int} (hz : b ≠ 0) : (lowT t b).natAbs ≤ t.natAbs ∧ (lowB t b).natAbs ≤ b.natAbs := by
  obtain ⟨_, _, e1, e2⟩ := low_ok (t := t) hz
  have hg := gcI_pos (t := t) hz
  have n1 : (lowT t b).natAbs * (gcI t b).natAbs = t.natAbs := by
    rw [← Int.natAbs_mul, e1]
    split <;> omega
  have n2 : (lowB t b).natAbs * (gcI t b).natAbs = b.natAbs := by
    rw [← Int.natAbs_mul, e2, absI_nat]
    omega
  have hg2 : 1 ≤ (gcI t b).natAbs := by omega
  constructor
  · rw [← n1]
    exact Nat.le_mul_of_pos_right _ hg2
  · rw [← n2]
    exact Nat.le_mul_of_pos_right _ hg2
end NumP
namespace K02
open PySem PySem.Spec PyProof.Rows L2 Rf
def top (i : Nat) : Stmt := PySem.Challenge.pw_falsesums_k02_numbers_made.main.body.getD i (.Pass ⟨0, 0, 0, 0⟩)
/-- NoSum.__init__(self, number): 0 self 1 number -/
abbrev s_NoSum___init__ : Stmt := inClass (top 5) 0
def n_NoSum___init__ : Nms := { fn := [], glo := ["FalseError"], cl := [], blt := [], exc := [], lam := [], lq := none }
def m_NoSum___init__ : MSs :=
 .cons (.expr (.own (.glo 0 "FalseError" ⟨14, 8, 14, 18⟩) "__init__" ⟨14, 8, 14, 27⟩ (.cons (.var 0 "self" ⟨14, 28, 14, 32⟩) (.cons (.str "no sum" 0 ⟨14, 34, 14, 42⟩) (.nil))) ⟨14, 8, 14, 43⟩) ⟨14, 8, 14, 43⟩)
 (.cons (.setA (.var 0 "self" ⟨15, 8, 15, 12⟩) "number" ⟨15, 8, 15, 19⟩ (.var 1 "number" ⟨15, 22, 15, 28⟩) ⟨15, 8, 15, 28⟩)
 (.nil))
theorem x_NoSum___init__ : Txt ["self", "number"] ["self", "number"] n_NoSum___init__ s_NoSum___init__ m_NoSum___init__ := ⟨⟨rfl, rfl, rfl, by decide +kernel, rfl, by decide +kernel, by decide +kernel⟩, by kernel_rfl, by decide +kernel⟩
/-- is_whole(thing): 0 thing -/
abbrev s_is_whole : Stmt := top 8
def n_is_whole : Nms := { fn := [], glo := ["int", "bool"], cl := [], blt := ["isinstance"], exc := [], lam := [], lq := none }
def m_is_whole : MSs :=
 .cons (.ret (.and (.cons (.blt .isinstance ⟨19, 11, 19, 21⟩ (.var 0 "thing" ⟨19, 22, 19, 27⟩) (.cons (.glo 0 "int" ⟨19, 29, 19, 32⟩) (.nil)) ⟨19, 11, 19, 33⟩) (.cons (.not (.blt .isinstance ⟨19, 43, 19, 53⟩ (.var 0 "thing" ⟨19, 54, 19, 59⟩) (.cons (.glo 1 "bool" ⟨19, 61, 19, 65⟩) (.nil)) ⟨19, 43, 19, 66⟩) ⟨19, 39, 19, 66⟩) (.nil))) ⟨19, 11, 19, 67⟩) ⟨19, 4, 19, 67⟩)
 (.nil)
theorem x_is_whole : Txt ["thing"] ["thing"] n_is_whole s_is_whole m_is_whole := ⟨⟨rfl, rfl, rfl, by decide +kernel, rfl, by decide +kernel, by decide +kernel⟩, by kernel_rfl, by decide +kernel⟩
/-- is_prime(thing): 0 thing 1 part -/
abbrev s_is_prime : Stmt := top 9
def n_is_prime : Nms := { fn := ["is_whole"], glo := ["MOST_PRIME"], cl := [], blt := ["range"], exc := [], lam := [], lq := none }
def m_is_prime : MSs :=
 .cons (.ifs (.or (.cons (.not (.call 0 "is_whole" ⟨21, 11, 21, 19⟩ (.cons (.var 0 "thing" ⟨21, 20, 21, 25⟩) (.nil)) ⟨21, 11, 21, 26⟩) ⟨21, 7, 21, 26⟩) (.cons (.not (.cmp2 (.int 2 0 ⟨21, 34, 21, 35⟩) .LtE (.var 0 "thing" ⟨21, 39, 21, 44⟩) .LtE (.glo 0 "MOST_PRIME" ⟨21, 48, 21, 58⟩) ⟨21, 34, 21, 58⟩) ⟨21, 30, 21, 58⟩) (.nil))) ⟨21, 7, 21, 58⟩)
 (.cons (.ret (.bl false 0 ⟨22, 15, 22, 20⟩) ⟨22, 8, 22, 20⟩)
 (.nil))
 (.nil) ⟨21, 4, 22, 20⟩)
 (.cons (.ret (.cmp (.lc (.var 1 "part" ⟨23, 12, 23, 16⟩) (.name 1 "part" ⟨23, 21, 23, 25⟩) (.rng2 ⟨23, 29, 23, 34⟩ (.int 2 0 ⟨23, 35, 23, 36⟩) (.var 0 "thing" ⟨23, 38, 23, 43⟩) ⟨23, 29, 23, 44⟩) (.cons (.cmp (.bin (.var 0 "thing" ⟨23, 48, 23, 53⟩) .Mod (.var 1 "part" ⟨23, 56, 23, 60⟩) ⟨23, 48, 23, 60⟩) .Eq (.int 0 0 ⟨23, 64, 23, 65⟩) ⟨23, 48, 23, 65⟩) (.nil)) [("part", 1)] ⟨.function, [(".0", .local), ("part", .local), ("thing", .free)], false, false, []⟩ ⟨23, 11, 23, 66⟩) .Eq (.lst (.nil) ⟨23, 70, 23, 72⟩) ⟨23, 11, 23, 72⟩) ⟨23, 4, 23, 72⟩)
 (.nil))
theorem x_is_prime : Txt ["thing", "part"] ["thing"] n_is_prime s_is_prime m_is_prime := ⟨⟨rfl, rfl, rfl, by decide +kernel, rfl, by decide +kernel, by decide +kernel⟩, by kernel_rfl, by decide +kernel⟩
/-- lowest(top, bottom): 0 top 1 bottom 2 sign 3 e 4 one 5 other -/
abbrev s_lowest : Stmt := top 10
def n_lowest : Nms := { fn := [], glo := [], cl := [], blt := ["ZeroDivisionError", "abs"], exc := ["NoNumber"], lam := [], lq := none }
def m_lowest : MSs :=
 .cons (.tdiv 2 "sign" ⟨26, 8, 26, 12⟩ (.var 1 "bottom" ⟨26, 15, 26, 21⟩) (.blt .abs ⟨26, 25, 26, 28⟩ (.var 1 "bottom" ⟨26, 29, 26, 35⟩) (.nil) ⟨26, 25, 26, 36⟩) ⟨26, 15, 26, 36⟩ ⟨26, 8, 26, 36⟩ ⟨27, 11, 27, 28⟩ 3 "e" 0 "NoNumber" ⟨28, 14, 28, 22⟩ "by nought" 0 ⟨28, 23, 28, 34⟩ ⟨28, 14, 28, 35⟩ ⟨28, 41, 28, 42⟩ ⟨28, 8, 28, 42⟩ ⟨27, 4, 28, 42⟩ ⟨25, 4, 28, 42⟩)
 (.cons (.par 4 "one" ⟨29, 4, 29, 7⟩ 5 "other" ⟨29, 9, 29, 14⟩ 0 ⟨29, 4, 29, 14⟩ (.blt .abs ⟨29, 18, 29, 21⟩ (.var 0 "top" ⟨29, 22, 29, 25⟩) (.nil) ⟨29, 18, 29, 26⟩) (.blt .abs ⟨29, 28, 29, 31⟩ (.var 1 "bottom" ⟨29, 32, 29, 38⟩) (.nil) ⟨29, 28, 29, 39⟩) 0 ⟨29, 17, 29, 40⟩ ⟨29, 4, 29, 40⟩)
 (.cons (.whl (.cmp (.var 5 "other" ⟨30, 10, 30, 15⟩) .NotEq (.int 0 0 ⟨30, 19, 30, 20⟩) ⟨30, 10, 30, 20⟩)
 (.cons (.par 4 "one" ⟨31, 8, 31, 11⟩ 5 "other" ⟨31, 13, 31, 18⟩ 0 ⟨31, 8, 31, 18⟩ (.var 5 "other" ⟨31, 22, 31, 27⟩) (.bin (.var 4 "one" ⟨31, 29, 31, 32⟩) .Mod (.var 5 "other" ⟨31, 35, 31, 40⟩) ⟨31, 29, 31, 40⟩) 0 ⟨31, 21, 31, 41⟩ ⟨31, 8, 31, 41⟩)
 (.nil)) ⟨30, 4, 31, 41⟩)
 (.cons (.ret (.tup (.cons (.bin (.bin (.var 2 "sign" ⟨32, 12, 32, 16⟩) .Mult (.var 0 "top" ⟨32, 19, 32, 22⟩) ⟨32, 12, 32, 22⟩) .FloorDiv (.var 4 "one" ⟨32, 26, 32, 29⟩) ⟨32, 12, 32, 29⟩) (.cons (.bin (.blt .abs ⟨32, 31, 32, 34⟩ (.var 1 "bottom" ⟨32, 35, 32, 41⟩) (.nil) ⟨32, 31, 32, 42⟩) .FloorDiv (.var 4 "one" ⟨32, 46, 32, 49⟩) ⟨32, 31, 32, 49⟩) (.nil))) 0 ⟨32, 11, 32, 50⟩) ⟨32, 4, 32, 50⟩)
 (.nil))))
theorem x_lowest : Txt ["top", "bottom", "sign", "e", "one", "other"] ["top", "bottom"] n_lowest s_lowest m_lowest := ⟨⟨rfl, rfl, rfl, by decide +kernel, rfl, by decide +kernel, by decide +kernel⟩, by kernel_rfl, by decide +kernel⟩
/-- Field.__init__(self, prime): 0 self 1 prime -/
abbrev s_Field___init__ : Stmt := inClass (top 11) 0
def n_Field___init__ : Nms := { fn := ["is_whole", "is_prime"], glo := [], cl := [], blt := [], exc := ["NoField"], lam := [], lq := none }
def m_Field___init__ : MSs :=
 .cons (.ifs (.or (.cons (.not (.call 0 "is_whole" ⟨36, 15, 36, 23⟩ (.cons (.var 1 "prime" ⟨36, 24, 36, 29⟩) (.nil)) ⟨36, 15, 36, 30⟩) ⟨36, 11, 36, 30⟩) (.cons (.and (.cons (.cmp (.var 1 "prime" ⟨36, 35, 36, 40⟩) .NotEq (.int 0 0 ⟨36, 44, 36, 45⟩) ⟨36, 35, 36, 45⟩) (.cons (.not (.call 1 "is_prime" ⟨36, 55, 36, 63⟩ (.cons (.var 1 "prime" ⟨36, 64, 36, 69⟩) (.nil)) ⟨36, 55, 36, 70⟩) ⟨36, 51, 36, 70⟩) (.nil))) ⟨36, 35, 36, 71⟩) (.nil))) ⟨36, 11, 36, 72⟩)
 (.cons (.rais 0 "NoField" ⟨37, 18, 37, 25⟩ "no prime of a field" 0 ⟨37, 26, 37, 47⟩ ⟨37, 18, 37, 48⟩ ⟨37, 12, 37, 48⟩)
 (.nil))
 (.nil) ⟨36, 8, 37, 48⟩)
 (.cons (.setA (.var 0 "self" ⟨38, 8, 38, 12⟩) "own_prime" ⟨38, 8, 38, 22⟩ (.var 1 "prime" ⟨38, 25, 38, 30⟩) ⟨38, 8, 38, 30⟩)
 (.nil))
theorem x_Field___init__ : Txt ["self", "prime"] ["self", "prime"] n_Field___init__ s_Field___init__ m_Field___init__ := ⟨⟨rfl, rfl, rfl, by decide +kernel, rfl, by decide +kernel, by decide +kernel⟩, by kernel_rfl, by decide +kernel⟩
/-- Field.__eq__(self, other): 0 self 1 other -/
abbrev s_Field___eq__ : Stmt := inClass (top 11) 1
def n_Field___eq__ : Nms := { fn := [], glo := ["Field"], cl := [], blt := ["isinstance"], exc := [], lam := [], lq := none }
def m_Field___eq__ : MSs :=
 .cons (.ret (.and (.cons (.blt .isinstance ⟨41, 15, 41, 25⟩ (.var 1 "other" ⟨41, 26, 41, 31⟩) (.cons (.glo 0 "Field" ⟨41, 33, 41, 38⟩) (.nil)) ⟨41, 15, 41, 39⟩) (.cons (.cmp (.att (.var 0 "self" ⟨41, 44, 41, 48⟩) "own_prime" ⟨41, 44, 41, 58⟩) .Eq (.att (.var 1 "other" ⟨41, 62, 41, 67⟩) "own_prime" ⟨41, 62, 41, 77⟩) ⟨41, 44, 41, 77⟩) (.nil))) ⟨41, 15, 41, 77⟩) ⟨41, 8, 41, 77⟩)
 (.nil)
theorem x_Field___eq__ : Txt ["self", "other"] ["self", "other"] n_Field___eq__ s_Field___eq__ m_Field___eq__ := ⟨⟨rfl, rfl, rfl, by decide +kernel, rfl, by decide +kernel, by decide +kernel⟩, by kernel_rfl, by decide +kernel⟩
/-- Field.__repr__(self): 0 self -/
abbrev s_Field___repr__ : Stmt := inClass (top 11) 2
-- unsupported: expr JoinedStr
/-- Field.prime(self): 0 self -/
abbrev s_Field_prime : Stmt := inClass (top 11) 3
def n_Field_prime : Nms := { fn := [], glo := [], cl := [], blt := [], exc := [], lam := [], lq := none }
def m_Field_prime : MSs :=
 .cons (.ret (.att (.var 0 "self" ⟨47, 15, 47, 19⟩) "own_prime" ⟨47, 15, 47, 29⟩) ⟨47, 8, 47, 29⟩)
 (.nil)
theorem x_Field_prime : Txt ["self"] ["self"] n_Field_prime s_Field_prime m_Field_prime := ⟨⟨rfl, rfl, rfl, by decide +kernel, rfl, by decide +kernel, by decide +kernel⟩, by kernel_rfl, by decide +kernel⟩
/-- Field.made(self, top, bottom): 0 self 1 top 2 bottom 3 k -/
abbrev s_Field_made : Stmt := inClass (top 11) 4
def n_Field_made : Nms := { fn := ["is_whole", "lowest"], glo := [], cl := [], blt := ["range"], exc := ["NoNumber"], lam := [], lq := none }
def m_Field_made : MSs :=
 .cons (.ifs (.or (.cons (.not (.call 0 "is_whole" ⟨50, 15, 50, 23⟩ (.cons (.var 1 "top" ⟨50, 24, 50, 27⟩) (.nil)) ⟨50, 15, 50, 28⟩) ⟨50, 11, 50, 28⟩) (.cons (.not (.call 0 "is_whole" ⟨50, 36, 50, 44⟩ (.cons (.var 2 "bottom" ⟨50, 45, 50, 51⟩) (.nil)) ⟨50, 36, 50, 52⟩) ⟨50, 32, 50, 52⟩) (.nil))) ⟨50, 11, 50, 52⟩)
 (.cons (.rais 0 "NoNumber" ⟨51, 18, 51, 26⟩ "no whole numbers" 0 ⟨51, 27, 51, 45⟩ ⟨51, 18, 51, 46⟩ ⟨51, 12, 51, 46⟩)
 (.nil))
 (.nil) ⟨50, 8, 51, 46⟩)
 (.cons (.ifs (.cmp (.att (.var 0 "self" ⟨52, 11, 52, 15⟩) "own_prime" ⟨52, 11, 52, 25⟩) .Eq (.int 0 0 ⟨52, 29, 52, 30⟩) ⟨52, 11, 52, 30⟩)
 (.cons (.ret (.call 1 "lowest" ⟨53, 19, 53, 25⟩ (.cons (.var 1 "top" ⟨53, 26, 53, 29⟩) (.cons (.var 2 "bottom" ⟨53, 31, 53, 37⟩) (.nil))) ⟨53, 19, 53, 38⟩) ⟨53, 12, 53, 38⟩)
 (.nil))
 (.nil) ⟨52, 8, 53, 38⟩)
 (.cons (.aug 2 "bottom" ⟨54, 8, 54, 14⟩ .Mod (.att (.var 0 "self" ⟨54, 18, 54, 22⟩) "own_prime" ⟨54, 18, 54, 32⟩) ⟨54, 8, 54, 32⟩)
 (.cons (.ifs (.cmp (.var 2 "bottom" ⟨55, 11, 55, 17⟩) .Eq (.int 0 0 ⟨55, 21, 55, 22⟩) ⟨55, 11, 55, 22⟩)
 (.cons (.rais 0 "NoNumber" ⟨56, 18, 56, 26⟩ "by nought" 0 ⟨56, 27, 56, 38⟩ ⟨56, 18, 56, 39⟩ ⟨56, 12, 56, 39⟩)
 (.nil))
 (.nil) ⟨55, 8, 56, 39⟩)
 (.cons (.ifs (.cmp (.var 2 "bottom" ⟨57, 11, 57, 17⟩) .NotEq (.int 1 0 ⟨57, 21, 57, 22⟩) ⟨57, 11, 57, 22⟩)
 (.cons (.aug 1 "top" ⟨58, 12, 58, 15⟩ .Mult (.sub (.lc (.var 3 "k" ⟨58, 20, 58, 21⟩) (.name 3 "k" ⟨58, 26, 58, 27⟩) (.rng2 ⟨58, 31, 58, 36⟩ (.int 1 0 ⟨58, 37, 58, 38⟩) (.att (.var 0 "self" ⟨58, 40, 58, 44⟩) "own_prime" ⟨58, 40, 58, 54⟩) ⟨58, 31, 58, 55⟩) (.cons (.cmp (.bin (.bin (.var 2 "bottom" ⟨58, 59, 58, 65⟩) .Mult (.var 3 "k" ⟨58, 68, 58, 69⟩) ⟨58, 59, 58, 69⟩) .Mod (.att (.var 0 "self" ⟨58, 72, 58, 76⟩) "own_prime" ⟨58, 72, 58, 86⟩) ⟨58, 59, 58, 86⟩) .Eq (.int 1 0 ⟨58, 90, 58, 91⟩) ⟨58, 59, 58, 91⟩) (.nil)) [("k", 3)] ⟨.function, [(".0", .local), ("k", .local), ("bottom", .free), ("self", .free)], false, false, []⟩ ⟨58, 19, 58, 92⟩) (.int 0 0 ⟨58, 93, 58, 94⟩) ⟨58, 19, 58, 95⟩) ⟨58, 12, 58, 95⟩)
 (.nil))
 (.nil) ⟨57, 8, 58, 95⟩)
 (.cons (.ret (.tup (.cons (.bin (.var 1 "top" ⟨59, 16, 59, 19⟩) .Mod (.att (.var 0 "self" ⟨59, 22, 59, 26⟩) "own_prime" ⟨59, 22, 59, 36⟩) ⟨59, 16, 59, 36⟩) (.cons (.int 1 0 ⟨59, 38, 59, 39⟩) (.nil))) 0 ⟨59, 15, 59, 40⟩) ⟨59, 8, 59, 40⟩)
 (.nil))))))
theorem x_Field_made : Txt ["self", "top", "bottom", "k"] ["self", "top", "bottom"] n_Field_made s_Field_made m_Field_made := ⟨⟨rfl, rfl, rfl, by decide +kernel, rfl, by decide +kernel, by decide +kernel⟩, by kernel_rfl, by decide +kernel⟩
/-- Field.plus(self, one, other): 0 self 1 one 2 other -/
abbrev s_Field_plus : Stmt := inClass (top 11) 5
-- unsupported: wall
/-- Field.minus(self, one, other): 0 self 1 one 2 other -/
abbrev s_Field_minus : Stmt := inClass (top 11) 6
-- unsupported: wall
/-- Field.times(self, one, other): 0 self 1 one 2 other -/
abbrev s_Field_times : Stmt := inClass (top 11) 7
-- unsupported: wall
/-- Field.over(self, one, other): 0 self 1 one 2 other -/
abbrev s_Field_over : Stmt := inClass (top 11) 8
-- unsupported: wall
/-- Field.is_number(self, thing): 0 self 1 thing -/
abbrev s_Field_is_number : Stmt := inClass (top 11) 9
def n_Field_is_number : Nms := { fn := ["is_whole", "lowest"], glo := ["tuple"], cl := [], blt := ["isinstance", "len"], exc := [], lam := [], lq := none }
def m_Field_is_number : MSs :=
 .cons (.ifs (.or (.cons (.not (.blt .isinstance ⟨74, 15, 74, 25⟩ (.var 1 "thing" ⟨74, 26, 74, 31⟩) (.cons (.glo 0 "tuple" ⟨74, 33, 74, 38⟩) (.nil)) ⟨74, 15, 74, 39⟩) ⟨74, 11, 74, 39⟩) (.cons (.cmp (.blt .len ⟨74, 43, 74, 46⟩ (.var 1 "thing" ⟨74, 47, 74, 52⟩) (.nil) ⟨74, 43, 74, 53⟩) .NotEq (.int 2 0 ⟨74, 57, 74, 58⟩) ⟨74, 43, 74, 58⟩) (.cons (.not (.call 0 "is_whole" ⟨74, 67, 74, 75⟩ (.cons (.sub (.var 1 "thing" ⟨74, 76, 74, 81⟩) (.int 0 0 ⟨74, 82, 74, 83⟩) ⟨74, 76, 74, 84⟩) (.nil)) ⟨74, 67, 74, 85⟩) ⟨74, 63, 74, 85⟩) (.cons (.not (.call 0 "is_whole" ⟨74, 95, 74, 103⟩ (.cons (.sub (.var 1 "thing" ⟨74, 104, 74, 109⟩) (.int 1 0 ⟨74, 110, 74, 111⟩) ⟨74, 104, 74, 112⟩) (.nil)) ⟨74, 95, 74, 113⟩) ⟨74, 91, 74, 113⟩) (.nil))))) ⟨74, 11, 74, 114⟩)
 (.cons (.ret (.bl false 0 ⟨75, 19, 75, 24⟩) ⟨75, 12, 75, 24⟩)
 (.nil))
 (.nil) ⟨74, 8, 75, 24⟩)
 (.cons (.ifs (.cmp (.att (.var 0 "self" ⟨76, 11, 76, 15⟩) "own_prime" ⟨76, 11, 76, 25⟩) .NotEq (.int 0 0 ⟨76, 29, 76, 30⟩) ⟨76, 11, 76, 30⟩)
 (.cons (.ret (.and (.cons (.cmp (.sub (.var 1 "thing" ⟨77, 19, 77, 24⟩) (.int 1 0 ⟨77, 25, 77, 26⟩) ⟨77, 19, 77, 27⟩) .Eq (.int 1 0 ⟨77, 31, 77, 32⟩) ⟨77, 19, 77, 32⟩) (.cons (.cmp2 (.int 0 0 ⟨77, 37, 77, 38⟩) .LtE (.sub (.var 1 "thing" ⟨77, 42, 77, 47⟩) (.int 0 0 ⟨77, 48, 77, 49⟩) ⟨77, 42, 77, 50⟩) .Lt (.att (.var 0 "self" ⟨77, 53, 77, 57⟩) "own_prime" ⟨77, 53, 77, 67⟩) ⟨77, 37, 77, 67⟩) (.nil))) ⟨77, 19, 77, 67⟩) ⟨77, 12, 77, 67⟩)
 (.nil))
 (.nil) ⟨76, 8, 77, 67⟩)
 (.cons (.ret (.and (.cons (.cmp (.sub (.var 1 "thing" ⟨78, 15, 78, 20⟩) (.int 1 0 ⟨78, 21, 78, 22⟩) ⟨78, 15, 78, 23⟩) .Gt (.int 0 0 ⟨78, 26, 78, 27⟩) ⟨78, 15, 78, 27⟩) (.cons (.cmp (.call 1 "lowest" ⟨78, 32, 78, 38⟩ (.cons (.sub (.var 1 "thing" ⟨78, 39, 78, 44⟩) (.int 0 0 ⟨78, 45, 78, 46⟩) ⟨78, 39, 78, 47⟩) (.cons (.sub (.var 1 "thing" ⟨78, 49, 78, 54⟩) (.int 1 0 ⟨78, 55, 78, 56⟩) ⟨78, 49, 78, 57⟩) (.nil))) ⟨78, 32, 78, 58⟩) .Eq (.var 1 "thing" ⟨78, 62, 78, 67⟩) ⟨78, 32, 78, 67⟩) (.nil))) ⟨78, 15, 78, 67⟩) ⟨78, 8, 78, 67⟩)
 (.nil)))
theorem x_Field_is_number : Txt ["self", "thing"] ["self", "thing"] n_Field_is_number s_Field_is_number m_Field_is_number := ⟨⟨rfl, rfl, rfl, by decide +kernel, rfl, by decide +kernel, by decide +kernel⟩, by kernel_rfl, by decide +kernel⟩
/-- _law_room(_law_script, _law_k): 0 _law_script 1 _law_k 2 _law_cell 3 _law_left -/
abbrev s__law_room : Stmt := top 13
def n__law_room : Nms := { fn := [], glo := [], cl := [], blt := ["len"], exc := [], lam := [], lq := none }
def m__law_room : MSs :=
 .cons (.asg (.name 2 "_law_cell" ⟨81, 4, 81, 13⟩) (.int 0 0 ⟨81, 16, 81, 17⟩) ⟨81, 4, 81, 17⟩)
 (.cons (.ifs (.cmp (.var 1 "_law_k" ⟨82, 7, 82, 13⟩) .Lt (.blt .len ⟨82, 16, 82, 19⟩ (.var 0 "_law_script" ⟨82, 20, 82, 31⟩) (.nil) ⟨82, 16, 82, 32⟩) ⟨82, 7, 82, 32⟩)
 (.cons (.asg (.name 2 "_law_cell" ⟨83, 8, 83, 17⟩) (.sub (.var 0 "_law_script" ⟨83, 20, 83, 31⟩) (.var 1 "_law_k" ⟨83, 32, 83, 38⟩) ⟨83, 20, 83, 39⟩) ⟨83, 8, 83, 39⟩)
 (.nil))
 (.nil) ⟨82, 4, 83, 39⟩)
 (.cons (.asg (.name 3 "_law_left" ⟨84, 4, 84, 13⟩) (.int 0 0 ⟨84, 16, 84, 17⟩) ⟨84, 4, 84, 17⟩)
 (.cons (.ifs (.cmp (.var 2 "_law_cell" ⟨85, 7, 85, 16⟩) .GtE (.bin (.int 10 0 ⟨85, 20, 85, 22⟩) .Pow (.int 18 0 ⟨85, 26, 85, 28⟩) ⟨85, 20, 85, 28⟩) ⟨85, 7, 85, 28⟩)
 (.cons (.asg (.name 3 "_law_left" ⟨86, 8, 86, 17⟩) (.var 2 "_law_cell" ⟨86, 20, 86, 29⟩) ⟨86, 8, 86, 29⟩)
 (.nil))
 (.nil) ⟨85, 4, 86, 29⟩)
 (.cons (.ret (.lst (.cons (.var 3 "_law_left" ⟨87, 12, 87, 21⟩) (.cons (.bin (.bin (.bin (.bin (.bin (.var 2 "_law_cell" ⟨87, 24, 87, 33⟩) .Mod (.int 2147483629 0 ⟨87, 36, 87, 46⟩) ⟨87, 24, 87, 46⟩) .Add (.bin (.bin (.int 104729 0 ⟨87, 49, 87, 55⟩) .Mult (.var 1 "_law_k" ⟨87, 58, 87, 64⟩) ⟨87, 49, 87, 64⟩) .Mult (.var 1 "_law_k" ⟨87, 67, 87, 73⟩) ⟨87, 49, 87, 73⟩) ⟨87, 24, 87, 73⟩) .Add (.int 7 0 ⟨87, 76, 87, 77⟩) ⟨87, 24, 87, 77⟩) .Mult (.int 48271 0 ⟨87, 81, 87, 86⟩) ⟨87, 23, 87, 86⟩) .Mod (.int 2147483647 0 ⟨87, 89, 87, 99⟩) ⟨87, 23, 87, 99⟩) (.nil))) ⟨87, 11, 87, 100⟩) ⟨87, 4, 87, 100⟩)
 (.nil)))))
theorem x__law_room : Txt ["_law_script", "_law_k", "_law_cell", "_law_left"] ["_law_script", "_law_k"] n__law_room s__law_room m__law_room := ⟨⟨rfl, rfl, rfl, by decide +kernel, rfl, by decide +kernel, by decide +kernel⟩, by kernel_rfl, by decide +kernel⟩
/-- _law_take(_law_room_here, _law_many): 0 _law_room_here 1 _law_many 2 _law_found -/
abbrev s__law_take : Stmt := top 14
def n__law_take : Nms := { fn := [], glo := [], cl := [], blt := [], exc := [], lam := [], lq := none }
def m__law_take : MSs :=
 .cons (.ifs (.cmp (.sub (.var 0 "_law_room_here" ⟨89, 7, 89, 21⟩) (.int 0 0 ⟨89, 22, 89, 23⟩) ⟨89, 7, 89, 24⟩) .Gt (.int 0 0 ⟨89, 27, 89, 28⟩) ⟨89, 7, 89, 28⟩)
 (.cons (.asg (.name 2 "_law_found" ⟨90, 8, 90, 18⟩) (.bin (.sub (.var 0 "_law_room_here" ⟨90, 21, 90, 35⟩) (.int 0 0 ⟨90, 36, 90, 37⟩) ⟨90, 21, 90, 38⟩) .Mod (.var 1 "_law_many" ⟨90, 41, 90, 50⟩) ⟨90, 21, 90, 50⟩) ⟨90, 8, 90, 50⟩)
 (.cons (.asg (.sub (.var 0 "_law_room_here" ⟨91, 8, 91, 22⟩) (.int 0 0 ⟨91, 23, 91, 24⟩) ⟨91, 8, 91, 25⟩) (.bin (.sub (.var 0 "_law_room_here" ⟨91, 28, 91, 42⟩) (.int 0 0 ⟨91, 43, 91, 44⟩) ⟨91, 28, 91, 45⟩) .FloorDiv (.var 1 "_law_many" ⟨91, 49, 91, 58⟩) ⟨91, 28, 91, 58⟩) ⟨91, 8, 91, 58⟩)
 (.cons (.ret (.var 2 "_law_found" ⟨92, 15, 92, 25⟩) ⟨92, 8, 92, 25⟩)
 (.nil))))
 (.nil) ⟨89, 4, 92, 25⟩)
 (.cons (.asg (.sub (.var 0 "_law_room_here" ⟨93, 4, 93, 18⟩) (.int 1 0 ⟨93, 19, 93, 20⟩) ⟨93, 4, 93, 21⟩) (.bin (.bin (.bin (.sub (.var 0 "_law_room_here" ⟨93, 25, 93, 39⟩) (.int 1 0 ⟨93, 40, 93, 41⟩) ⟨93, 25, 93, 42⟩) .Mult (.int 48271 0 ⟨93, 45, 93, 50⟩) ⟨93, 25, 93, 50⟩) .Add (.int 39373 0 ⟨93, 53, 93, 58⟩) ⟨93, 25, 93, 58⟩) .Mod (.int 2147483647 0 ⟨93, 62, 93, 72⟩) ⟨93, 24, 93, 72⟩) ⟨93, 4, 93, 72⟩)
 (.cons (.asg (.name 2 "_law_found" ⟨94, 4, 94, 14⟩) (.bin (.bin (.bin (.sub (.var 0 "_law_room_here" ⟨94, 17, 94, 31⟩) (.int 1 0 ⟨94, 32, 94, 33⟩) ⟨94, 17, 94, 34⟩) .Mult (.sub (.var 0 "_law_room_here" ⟨94, 37, 94, 51⟩) (.int 1 0 ⟨94, 52, 94, 53⟩) ⟨94, 37, 94, 54⟩) ⟨94, 17, 94, 54⟩) .Mod (.int 2147483629 0 ⟨94, 57, 94, 67⟩) ⟨94, 17, 94, 67⟩) .FloorDiv (.int 16 0 ⟨94, 71, 94, 73⟩) ⟨94, 17, 94, 73⟩) ⟨94, 4, 94, 73⟩)
 (.cons (.ifs (.cmp (.var 1 "_law_many" ⟨95, 7, 95, 16⟩) .Gt (.bin (.int 10 0 ⟨95, 19, 95, 21⟩) .Pow (.int 6 0 ⟨95, 25, 95, 26⟩) ⟨95, 19, 95, 26⟩) ⟨95, 7, 95, 26⟩)
 (.cons (.asg (.sub (.var 0 "_law_room_here" ⟨96, 8, 96, 22⟩) (.int 1 0 ⟨96, 23, 96, 24⟩) ⟨96, 8, 96, 25⟩) (.bin (.bin (.bin (.sub (.var 0 "_law_room_here" ⟨96, 29, 96, 43⟩) (.int 1 0 ⟨96, 44, 96, 45⟩) ⟨96, 29, 96, 46⟩) .Mult (.int 48271 0 ⟨96, 49, 96, 54⟩) ⟨96, 29, 96, 54⟩) .Add (.int 39373 0 ⟨96, 57, 96, 62⟩) ⟨96, 29, 96, 62⟩) .Mod (.int 2147483647 0 ⟨96, 66, 96, 76⟩) ⟨96, 28, 96, 76⟩) ⟨96, 8, 96, 76⟩)
 (.cons (.asg (.name 2 "_law_found" ⟨97, 8, 97, 18⟩) (.bin (.bin (.var 2 "_law_found" ⟨97, 21, 97, 31⟩) .Mult (.int 2147483629 0 ⟨97, 34, 97, 44⟩) ⟨97, 21, 97, 44⟩) .Add (.bin (.bin (.sub (.var 0 "_law_room_here" ⟨97, 47, 97, 61⟩) (.int 1 0 ⟨97, 62, 97, 63⟩) ⟨97, 47, 97, 64⟩) .Mult (.sub (.var 0 "_law_room_here" ⟨97, 67, 97, 81⟩) (.int 1 0 ⟨97, 82, 97, 83⟩) ⟨97, 67, 97, 84⟩) ⟨97, 47, 97, 84⟩) .Mod (.int 2147483587 0 ⟨97, 87, 97, 97⟩) ⟨97, 47, 97, 97⟩) ⟨97, 21, 97, 97⟩) ⟨97, 8, 97, 97⟩)
 (.nil)))
 (.nil) ⟨95, 4, 97, 97⟩)
 (.cons (.ret (.bin (.var 2 "_law_found" ⟨98, 11, 98, 21⟩) .Mod (.var 1 "_law_many" ⟨98, 24, 98, 33⟩) ⟨98, 11, 98, 33⟩) ⟨98, 4, 98, 33⟩)
 (.nil)))))
theorem x__law_take : Txt ["_law_room_here", "_law_many", "_law_found"] ["_law_room_here", "_law_many"] n__law_take s__law_take m__law_take := ⟨⟨rfl, rfl, rfl, by decide +kernel, rfl, by decide +kernel, by decide +kernel⟩, by kernel_rfl, by decide +kernel⟩
/-- _law_lowest(_law_top, _law_base): 0 _law_top 1 _law_base 2 _law_one 3 _law_other 4 _law_sign -/
abbrev s__law_lowest : Stmt := top 15
def n__law_lowest : Nms := { fn := [], glo := [], cl := [], blt := ["abs", "int"], exc := [], lam := [], lq := none }
def m__law_lowest : MSs :=
 .cons (.asg (.name 2 "_law_one" ⟨100, 4, 100, 12⟩) (.blt .abs ⟨100, 15, 100, 18⟩ (.var 0 "_law_top" ⟨100, 19, 100, 27⟩) (.nil) ⟨100, 15, 100, 28⟩) ⟨100, 4, 100, 28⟩)
 (.cons (.asg (.name 3 "_law_other" ⟨101, 4, 101, 14⟩) (.blt .abs ⟨101, 17, 101, 20⟩ (.var 1 "_law_base" ⟨101, 21, 101, 30⟩) (.nil) ⟨101, 17, 101, 31⟩) ⟨101, 4, 101, 31⟩)
 (.cons (.whl (.cmp (.var 3 "_law_other" ⟨102, 10, 102, 20⟩) .NotEq (.int 0 0 ⟨102, 24, 102, 25⟩) ⟨102, 10, 102, 25⟩)
 (.cons (.par 2 "_law_one" ⟨103, 8, 103, 16⟩ 3 "_law_other" ⟨103, 18, 103, 28⟩ 0 ⟨103, 8, 103, 28⟩ (.var 3 "_law_other" ⟨103, 32, 103, 42⟩) (.bin (.var 2 "_law_one" ⟨103, 44, 103, 52⟩) .Mod (.var 3 "_law_other" ⟨103, 55, 103, 65⟩) ⟨103, 44, 103, 65⟩) 0 ⟨103, 31, 103, 66⟩ ⟨103, 8, 103, 66⟩)
 (.nil)) ⟨102, 4, 103, 66⟩)
 (.cons (.asg (.name 4 "_law_sign" ⟨104, 4, 104, 13⟩) (.sub (.lst (.cons (.int 1 0 ⟨104, 17, 104, 18⟩) (.cons (.neg (.int 1 0 ⟨104, 21, 104, 22⟩) ⟨104, 20, 104, 22⟩) (.nil))) ⟨104, 16, 104, 23⟩) (.blt .int ⟨104, 24, 104, 27⟩ (.cmp (.var 1 "_law_base" ⟨104, 28, 104, 37⟩) .Lt (.int 0 0 ⟨104, 40, 104, 41⟩) ⟨104, 28, 104, 41⟩) (.nil) ⟨104, 24, 104, 42⟩) ⟨104, 16, 104, 43⟩) ⟨104, 4, 104, 43⟩)
 (.cons (.ret (.tup (.cons (.bin (.bin (.var 4 "_law_sign" ⟨105, 12, 105, 21⟩) .Mult (.var 0 "_law_top" ⟨105, 24, 105, 32⟩) ⟨105, 12, 105, 32⟩) .FloorDiv (.var 2 "_law_one" ⟨105, 36, 105, 44⟩) ⟨105, 12, 105, 44⟩) (.cons (.bin (.blt .abs ⟨105, 46, 105, 49⟩ (.var 1 "_law_base" ⟨105, 50, 105, 59⟩) (.nil) ⟨105, 46, 105, 60⟩) .FloorDiv (.var 2 "_law_one" ⟨105, 64, 105, 72⟩) ⟨105, 46, 105, 72⟩) (.nil))) 0 ⟨105, 11, 105, 73⟩) ⟨105, 4, 105, 73⟩)
 (.nil)))))
theorem x__law_lowest : Txt ["_law_top", "_law_base", "_law_one", "_law_other", "_law_sign"] ["_law_top", "_law_base"] n__law_lowest s__law_lowest m__law_lowest := ⟨⟨rfl, rfl, rfl, by decide +kernel, rfl, by decide +kernel, by decide +kernel⟩, by kernel_rfl, by decide +kernel⟩
/-- _law_whole(_law_thing): 0 _law_thing -/
abbrev s__law_whole : Stmt := top 16
def n__law_whole : Nms := { fn := [], glo := ["int", "bool"], cl := [], blt := ["isinstance"], exc := [], lam := [], lq := none }
def m__law_whole : MSs :=
 .cons (.ret (.and (.cons (.blt .isinstance ⟨107, 11, 107, 21⟩ (.var 0 "_law_thing" ⟨107, 22, 107, 32⟩) (.cons (.glo 0 "int" ⟨107, 34, 107, 37⟩) (.nil)) ⟨107, 11, 107, 38⟩) (.cons (.not (.blt .isinstance ⟨107, 48, 107, 58⟩ (.var 0 "_law_thing" ⟨107, 59, 107, 69⟩) (.cons (.glo 1 "bool" ⟨107, 71, 107, 75⟩) (.nil)) ⟨107, 48, 107, 76⟩) ⟨107, 44, 107, 76⟩) (.nil))) ⟨107, 11, 107, 77⟩) ⟨107, 4, 107, 77⟩)
 (.nil)
theorem x__law_whole : Txt ["_law_thing"] ["_law_thing"] n__law_whole s__law_whole m__law_whole := ⟨⟨rfl, rfl, rfl, by decide +kernel, rfl, by decide +kernel, by decide +kernel⟩, by kernel_rfl, by decide +kernel⟩
/-- _law_is_number(_law_prime_here, _law_thing): 0 _law_prime_here 1 _law_thing -/
abbrev s__law_is_number : Stmt := top 17
def n__law_is_number : Nms := { fn := ["_law_whole", "_law_lowest"], glo := ["tuple"], cl := [], blt := ["isinstance", "len"], exc := [], lam := [], lq := none }
def m__law_is_number : MSs :=
 .cons (.ifs (.or (.cons (.not (.blt .isinstance ⟨109, 11, 109, 21⟩ (.var 1 "_law_thing" ⟨109, 22, 109, 32⟩) (.cons (.glo 0 "tuple" ⟨109, 34, 109, 39⟩) (.nil)) ⟨109, 11, 109, 40⟩) ⟨109, 7, 109, 40⟩) (.cons (.cmp (.blt .len ⟨109, 44, 109, 47⟩ (.var 1 "_law_thing" ⟨109, 48, 109, 58⟩) (.nil) ⟨109, 44, 109, 59⟩) .NotEq (.int 2 0 ⟨109, 63, 109, 64⟩) ⟨109, 44, 109, 64⟩) (.cons (.not (.call 0 "_law_whole" ⟨109, 73, 109, 83⟩ (.cons (.sub (.var 1 "_law_thing" ⟨109, 84, 109, 94⟩) (.int 0 0 ⟨109, 95, 109, 96⟩) ⟨109, 84, 109, 97⟩) (.nil)) ⟨109, 73, 109, 98⟩) ⟨109, 69, 109, 98⟩) (.cons (.not (.call 0 "_law_whole" ⟨109, 108, 109, 118⟩ (.cons (.sub (.var 1 "_law_thing" ⟨109, 119, 109, 129⟩) (.int 1 0 ⟨109, 130, 109, 131⟩) ⟨109, 119, 109, 132⟩) (.nil)) ⟨109, 108, 109, 133⟩) ⟨109, 104, 109, 133⟩) (.nil))))) ⟨109, 7, 109, 134⟩)
 (.cons (.ret (.bl false 0 ⟨110, 15, 110, 20⟩) ⟨110, 8, 110, 20⟩)
 (.nil))
 (.nil) ⟨109, 4, 110, 20⟩)
 (.cons (.ifs (.cmp (.var 0 "_law_prime_here" ⟨111, 7, 111, 22⟩) .Gt (.int 0 0 ⟨111, 25, 111, 26⟩) ⟨111, 7, 111, 26⟩)
 (.cons (.ret (.and (.cons (.cmp (.sub (.var 1 "_law_thing" ⟨112, 15, 112, 25⟩) (.int 1 0 ⟨112, 26, 112, 27⟩) ⟨112, 15, 112, 28⟩) .Eq (.int 1 0 ⟨112, 32, 112, 33⟩) ⟨112, 15, 112, 33⟩) (.cons (.cmp2 (.int 0 0 ⟨112, 38, 112, 39⟩) .LtE (.sub (.var 1 "_law_thing" ⟨112, 43, 112, 53⟩) (.int 0 0 ⟨112, 54, 112, 55⟩) ⟨112, 43, 112, 56⟩) .Lt (.var 0 "_law_prime_here" ⟨112, 59, 112, 74⟩) ⟨112, 38, 112, 74⟩) (.nil))) ⟨112, 15, 112, 74⟩) ⟨112, 8, 112, 74⟩)
 (.nil))
 (.nil) ⟨111, 4, 112, 74⟩)
 (.cons (.ret (.and (.cons (.cmp (.sub (.var 1 "_law_thing" ⟨113, 11, 113, 21⟩) (.int 1 0 ⟨113, 22, 113, 23⟩) ⟨113, 11, 113, 24⟩) .Gt (.int 0 0 ⟨113, 27, 113, 28⟩) ⟨113, 11, 113, 28⟩) (.cons (.cmp (.call 1 "_law_lowest" ⟨113, 33, 113, 44⟩ (.cons (.sub (.var 1 "_law_thing" ⟨113, 45, 113, 55⟩) (.int 0 0 ⟨113, 56, 113, 57⟩) ⟨113, 45, 113, 58⟩) (.cons (.sub (.var 1 "_law_thing" ⟨113, 60, 113, 70⟩) (.int 1 0 ⟨113, 71, 113, 72⟩) ⟨113, 60, 113, 73⟩) (.nil))) ⟨113, 33, 113, 74⟩) .Eq (.var 1 "_law_thing" ⟨113, 78, 113, 88⟩) ⟨113, 33, 113, 88⟩) (.nil))) ⟨113, 11, 113, 88⟩) ⟨113, 4, 113, 88⟩)
 (.nil)))
theorem x__law_is_number : Txt ["_law_prime_here", "_law_thing"] ["_law_prime_here", "_law_thing"] n__law_is_number s__law_is_number m__law_is_number := ⟨⟨rfl, rfl, rfl, by decide +kernel, rfl, by decide +kernel, by decide +kernel⟩, by kernel_rfl, by decide +kernel⟩
/-- _law_make(_law_prime_here, _law_top, _law_base): 0 _law_prime_here 1 _law_top 2 _law_base 3 _law_k -/
abbrev s__law_make : Stmt := top 18
def n__law_make : Nms := { fn := ["_law_lowest"], glo := [], cl := [], blt := ["range"], exc := [], lam := [], lq := none }
def m__law_make : MSs :=
 .cons (.ifs (.cmp (.var 0 "_law_prime_here" ⟨115, 7, 115, 22⟩) .Eq (.int 0 0 ⟨115, 26, 115, 27⟩) ⟨115, 7, 115, 27⟩)
 (.cons (.ret (.call 0 "_law_lowest" ⟨116, 15, 116, 26⟩ (.cons (.var 1 "_law_top" ⟨116, 27, 116, 35⟩) (.cons (.var 2 "_law_base" ⟨116, 37, 116, 46⟩) (.nil))) ⟨116, 15, 116, 47⟩) ⟨116, 8, 116, 47⟩)
 (.nil))
 (.nil) ⟨115, 4, 116, 47⟩)
 (.cons (.ifs (.cmp (.bin (.var 2 "_law_base" ⟨117, 7, 117, 16⟩) .Mod (.var 0 "_law_prime_here" ⟨117, 19, 117, 34⟩) ⟨117, 7, 117, 34⟩) .NotEq (.int 1 0 ⟨117, 38, 117, 39⟩) ⟨117, 7, 117, 39⟩)
 (.cons (.asg (.name 1 "_law_top" ⟨118, 8, 118, 16⟩) (.bin (.var 1 "_law_top" ⟨118, 19, 118, 27⟩) .Mult (.sub (.lc (.var 3 "_law_k" ⟨118, 31, 118, 37⟩) (.name 3 "_law_k" ⟨118, 42, 118, 48⟩) (.rng2 ⟨118, 52, 118, 57⟩ (.int 1 0 ⟨118, 58, 118, 59⟩) (.var 0 "_law_prime_here" ⟨118, 61, 118, 76⟩) ⟨118, 52, 118, 77⟩) (.cons (.cmp (.bin (.bin (.var 2 "_law_base" ⟨118, 81, 118, 90⟩) .Mult (.var 3 "_law_k" ⟨118, 93, 118, 99⟩) ⟨118, 81, 118, 99⟩) .Mod (.var 0 "_law_prime_here" ⟨118, 102, 118, 117⟩) ⟨118, 81, 118, 117⟩) .Eq (.int 1 0 ⟨118, 121, 118, 122⟩) ⟨118, 81, 118, 122⟩) (.nil)) [("_law_k", 3)] ⟨.function, [(".0", .local), ("_law_k", .local), ("_law_base", .free), ("_law_prime_here", .free)], false, false, []⟩ ⟨118, 30, 118, 123⟩) (.int 0 0 ⟨118, 124, 118, 125⟩) ⟨118, 30, 118, 126⟩) ⟨118, 19, 118, 126⟩) ⟨118, 8, 118, 126⟩)
 (.nil))
 (.nil) ⟨117, 4, 118, 126⟩)
 (.cons (.ret (.tup (.cons (.bin (.var 1 "_law_top" ⟨119, 12, 119, 20⟩) .Mod (.var 0 "_law_prime_here" ⟨119, 23, 119, 38⟩) ⟨119, 12, 119, 38⟩) (.cons (.int 1 0 ⟨119, 40, 119, 41⟩) (.nil))) 0 ⟨119, 11, 119, 42⟩) ⟨119, 4, 119, 42⟩)
 (.nil)))
theorem x__law_make : Txt ["_law_prime_here", "_law_top", "_law_base", "_law_k"] ["_law_prime_here", "_law_top", "_law_base"] n__law_make s__law_make m__law_make := ⟨⟨rfl, rfl, rfl, by decide +kernel, rfl, by decide +kernel, by decide +kernel⟩, by kernel_rfl, by decide +kernel⟩
/-- _law_prime(_law_room_here): 0 _law_room_here 1 _law_at 2 _law_some -/
abbrev s__law_prime : Stmt := top 19
def n__law_prime : Nms := { fn := ["_law_take"], glo := [], cl := [], blt := [], exc := [], lam := [], lq := none }
def m__law_prime : MSs :=
 .cons (.asg (.name 1 "_law_at" ⟨121, 4, 121, 11⟩) (.call 0 "_law_take" ⟨121, 14, 121, 23⟩ (.cons (.var 0 "_law_room_here" ⟨121, 24, 121, 38⟩) (.cons (.int 9 0 ⟨121, 40, 121, 41⟩) (.nil))) ⟨121, 14, 121, 42⟩) ⟨121, 4, 121, 42⟩)
 (.cons (.ifs (.cmp (.var 1 "_law_at" ⟨122, 7, 122, 14⟩) .Eq (.int 8 0 ⟨122, 18, 122, 19⟩) ⟨122, 7, 122, 19⟩)
 (.cons (.asg (.name 2 "_law_some" ⟨123, 8, 123, 17⟩) (.lst (.cons (.int 11 0 ⟨123, 21, 123, 23⟩) (.cons (.int 13 0 ⟨123, 25, 123, 27⟩) (.cons (.int 17 0 ⟨123, 29, 123, 31⟩) (.cons (.int 19 0 ⟨123, 33, 123, 35⟩) (.cons (.int 23 0 ⟨123, 37, 123, 39⟩) (.cons (.int 29 0 ⟨123, 41, 123, 43⟩) (.cons (.int 31 0 ⟨123, 45, 123, 47⟩) (.cons (.int 37 0 ⟨123, 49, 123, 51⟩) (.cons (.int 41 0 ⟨123, 53, 123, 55⟩) (.cons (.int 43 0 ⟨123, 57, 123, 59⟩) (.cons (.int 47 0 ⟨123, 61, 123, 63⟩) (.cons (.int 53 0 ⟨123, 65, 123, 67⟩) (.cons (.int 59 0 ⟨123, 69, 123, 71⟩) (.cons (.int 61 0 ⟨123, 73, 123, 75⟩) (.cons (.int 67 0 ⟨123, 77, 123, 79⟩) (.cons (.int 71 0 ⟨123, 81, 123, 83⟩) (.cons (.int 73 0 ⟨123, 85, 123, 87⟩) (.cons (.int 79 0 ⟨123, 89, 123, 91⟩) (.cons (.int 83 0 ⟨123, 93, 123, 95⟩) (.cons (.int 89 0 ⟨123, 97, 123, 99⟩) (.nil))))))))))))))))))))) ⟨123, 20, 123, 100⟩) ⟨123, 8, 123, 100⟩)
 (.cons (.ret (.sub (.var 2 "_law_some" ⟨124, 15, 124, 24⟩) (.call 0 "_law_take" ⟨124, 25, 124, 34⟩ (.cons (.var 0 "_law_room_here" ⟨124, 35, 124, 49⟩) (.cons (.int 20 0 ⟨124, 51, 124, 53⟩) (.nil))) ⟨124, 25, 124, 54⟩) ⟨124, 15, 124, 55⟩) ⟨124, 8, 124, 55⟩)
 (.nil)))
 (.nil) ⟨122, 4, 124, 55⟩)
 (.cons (.ret (.sub (.lst (.cons (.int 0 0 ⟨125, 12, 125, 13⟩) (.cons (.int 0 0 ⟨125, 15, 125, 16⟩) (.cons (.int 2 0 ⟨125, 18, 125, 19⟩) (.cons (.int 3 0 ⟨125, 21, 125, 22⟩) (.cons (.int 5 0 ⟨125, 24, 125, 25⟩) (.cons (.int 7 0 ⟨125, 27, 125, 28⟩) (.cons (.int 97 0 ⟨125, 30, 125, 32⟩) (.cons (.int 0 0 ⟨125, 34, 125, 35⟩) (.nil))))))))) ⟨125, 11, 125, 36⟩) (.var 1 "_law_at" ⟨125, 37, 125, 44⟩) ⟨125, 11, 125, 45⟩) ⟨125, 4, 125, 45⟩)
 (.nil)))
theorem x__law_prime : Txt ["_law_room_here", "_law_at", "_law_some"] ["_law_room_here"] n__law_prime s__law_prime m__law_prime := ⟨⟨rfl, rfl, rfl, by decide +kernel, rfl, by decide +kernel, by decide +kernel⟩, by kernel_rfl, by decide +kernel⟩
/-- _law_kind(_law_call): 0 _law_call 1 _law_kept 2 e 3 _law_kinds -/
abbrev s__law_kind : Stmt := top 20
def n__law_kind : Nms := { fn := [], glo := ["FalseError", "NoField", "NoNumber", "NoSum", "ValueError"], cl := [], blt := ["isinstance"], exc := [], lam := [], lq := none }
def m__law_kind : MSs :=
 .cons (.asg (.name 1 "_law_kept" ⟨127, 4, 127, 13⟩) (.non 0 ⟨127, 16, 127, 20⟩) ⟨127, 4, 127, 20⟩)
 (.cons (.trk (.cons (.calp "_law_call" ⟨129, 8, 129, 17⟩ ⟨129, 8, 129, 19⟩ ⟨129, 8, 129, 19⟩)
 (.nil)) 0 "FalseError" ⟨130, 11, 130, 21⟩ 2 "e" 1 "_law_kept" ⟨131, 8, 131, 17⟩ ⟨131, 20, 131, 21⟩ ⟨131, 8, 131, 21⟩ ⟨130, 4, 131, 21⟩ ⟨128, 4, 131, 21⟩)
 (.cons (.ifs (.cmp (.var 1 "_law_kept" ⟨132, 7, 132, 16⟩) .Is (.non 0 ⟨132, 20, 132, 24⟩) ⟨132, 7, 132, 24⟩)
 (.cons (.ret (.str "told" 0 ⟨133, 15, 133, 21⟩) ⟨133, 8, 133, 21⟩)
 (.nil))
 (.nil) ⟨132, 4, 133, 21⟩)
 (.cons (.asg (.name 3 "_law_kinds" ⟨134, 4, 134, 14⟩) (.lst (.cons (.blt .isinstance ⟨134, 18, 134, 28⟩ (.var 1 "_law_kept" ⟨134, 29, 134, 38⟩) (.cons (.glo 1 "NoField" ⟨134, 40, 134, 47⟩) (.nil)) ⟨134, 18, 134, 48⟩) (.cons (.blt .isinstance ⟨134, 50, 134, 60⟩ (.var 1 "_law_kept" ⟨134, 61, 134, 70⟩) (.cons (.glo 2 "NoNumber" ⟨134, 72, 134, 80⟩) (.nil)) ⟨134, 50, 134, 81⟩) (.cons (.blt .isinstance ⟨134, 83, 134, 93⟩ (.var 1 "_law_kept" ⟨134, 94, 134, 103⟩) (.cons (.glo 3 "NoSum" ⟨134, 105, 134, 110⟩) (.nil)) ⟨134, 83, 134, 111⟩) (.nil)))) ⟨134, 17, 134, 112⟩) ⟨134, 4, 134, 112⟩)
 (.cons (.ifs (.or (.cons (.cmp (.bm .count (.var 3 "_law_kinds" ⟨135, 7, 135, 17⟩) ⟨135, 7, 135, 23⟩ (.bl true 0 ⟨135, 24, 135, 28⟩) ⟨135, 7, 135, 29⟩) .NotEq (.int 1 0 ⟨135, 33, 135, 34⟩) ⟨135, 7, 135, 34⟩) (.cons (.not (.blt .isinstance ⟨135, 42, 135, 52⟩ (.var 1 "_law_kept" ⟨135, 53, 135, 62⟩) (.cons (.glo 4 "ValueError" ⟨135, 64, 135, 74⟩) (.nil)) ⟨135, 42, 135, 75⟩) ⟨135, 38, 135, 75⟩) (.nil))) ⟨135, 7, 135, 75⟩)
 (.cons (.ret (.str "other" 0 ⟨136, 15, 136, 22⟩) ⟨136, 8, 136, 22⟩)
 (.nil))
 (.nil) ⟨135, 4, 136, 22⟩)
 (.cons (.ret (.sub (.lst (.cons (.str "field" 0 ⟨137, 12, 137, 19⟩) (.cons (.str "number" 0 ⟨137, 21, 137, 29⟩) (.cons (.str "sum" 0 ⟨137, 31, 137, 36⟩) (.nil)))) ⟨137, 11, 137, 37⟩) (.bm .index (.var 3 "_law_kinds" ⟨137, 38, 137, 48⟩) ⟨137, 38, 137, 54⟩ (.bl true 0 ⟨137, 55, 137, 59⟩) ⟨137, 38, 137, 60⟩) ⟨137, 11, 137, 61⟩) ⟨137, 4, 137, 61⟩)
 (.nil))))))
theorem x__law_kind : FnScope ["_law_call", "_law_kept", "e", "_law_kinds"] ["_law_call"] (defScope s__law_kind) ∧ eSs m__law_kind = defBody s__law_kind := ⟨⟨rfl, rfl, rfl, by decide +kernel, rfl, by decide +kernel, by decide +kernel⟩, by kernel_rfl⟩
/-- _law_due(_law_prime_here, _law_top, _law_base): 0 _law_prime_here 1 _law_top 2 _law_base -/
abbrev s__law_due : Stmt := top 21
def n__law_due : Nms := { fn := ["_law_whole", "_law_make"], glo := [], cl := [], blt := [], exc := [], lam := [], lq := none }
def m__law_due : MSs :=
 .cons (.ifs (.or (.cons (.not (.call 0 "_law_whole" ⟨139, 11, 139, 21⟩ (.cons (.var 1 "_law_top" ⟨139, 22, 139, 30⟩) (.nil)) ⟨139, 11, 139, 31⟩) ⟨139, 7, 139, 31⟩) (.cons (.not (.call 0 "_law_whole" ⟨139, 39, 139, 49⟩ (.cons (.var 2 "_law_base" ⟨139, 50, 139, 59⟩) (.nil)) ⟨139, 39, 139, 60⟩) ⟨139, 35, 139, 60⟩) (.nil))) ⟨139, 7, 139, 60⟩)
 (.cons (.ret (.non 0 ⟨140, 15, 140, 19⟩) ⟨140, 8, 140, 19⟩)
 (.nil))
 (.nil) ⟨139, 4, 140, 19⟩)
 (.cons (.ifs (.or (.cons (.and (.cons (.cmp (.var 0 "_law_prime_here" ⟨141, 7, 141, 22⟩) .Gt (.int 0 0 ⟨141, 25, 141, 26⟩) ⟨141, 7, 141, 26⟩) (.cons (.cmp (.bin (.var 2 "_law_base" ⟨141, 31, 141, 40⟩) .Mod (.var 0 "_law_prime_here" ⟨141, 43, 141, 58⟩) ⟨141, 31, 141, 58⟩) .Eq (.int 0 0 ⟨141, 62, 141, 63⟩) ⟨141, 31, 141, 63⟩) (.nil))) ⟨141, 7, 141, 63⟩) (.cons (.cmp (.var 2 "_law_base" ⟨141, 67, 141, 76⟩) .Eq (.int 0 0 ⟨141, 80, 141, 81⟩) ⟨141, 67, 141, 81⟩) (.nil))) ⟨141, 7, 141, 81⟩)
 (.cons (.ret (.non 0 ⟨142, 15, 142, 19⟩) ⟨142, 8, 142, 19⟩)
 (.nil))
 (.nil) ⟨141, 4, 142, 19⟩)
 (.cons (.ifs (.cmp (.var 0 "_law_prime_here" ⟨143, 7, 143, 22⟩) .Gt (.int 0 0 ⟨143, 25, 143, 26⟩) ⟨143, 7, 143, 26⟩)
 (.cons (.ret (.call 1 "_law_make" ⟨144, 15, 144, 24⟩ (.cons (.var 0 "_law_prime_here" ⟨144, 25, 144, 40⟩) (.cons (.bin (.var 1 "_law_top" ⟨144, 42, 144, 50⟩) .Mod (.var 0 "_law_prime_here" ⟨144, 53, 144, 68⟩) ⟨144, 42, 144, 68⟩) (.cons (.bin (.var 2 "_law_base" ⟨144, 70, 144, 79⟩) .Mod (.var 0 "_law_prime_here" ⟨144, 82, 144, 97⟩) ⟨144, 70, 144, 97⟩) (.nil)))) ⟨144, 15, 144, 98⟩) ⟨144, 8, 144, 98⟩)
 (.nil))
 (.nil) ⟨143, 4, 144, 98⟩)
 (.cons (.ret (.call 1 "_law_make" ⟨145, 11, 145, 20⟩ (.cons (.int 0 0 ⟨145, 21, 145, 22⟩) (.cons (.var 1 "_law_top" ⟨145, 24, 145, 32⟩) (.cons (.var 2 "_law_base" ⟨145, 34, 145, 43⟩) (.nil)))) ⟨145, 11, 145, 44⟩) ⟨145, 4, 145, 44⟩)
 (.nil))))
theorem x__law_due : Txt ["_law_prime_here", "_law_top", "_law_base"] ["_law_prime_here", "_law_top", "_law_base"] n__law_due s__law_due m__law_due := ⟨⟨rfl, rfl, rfl, by decide +kernel, rfl, by decide +kernel, by decide +kernel⟩, by kernel_rfl, by decide +kernel⟩
/-- _law_right(_law_field, _law_prime_here, _law_top, _law_base): 0 _law_field 1 _law_prime_here 2 _law_top 3 _law_base 4 _law_due_here 5 _law_kind_here 6 _law_found -/
abbrev s__law_right : Stmt := top 22
def n__law_right : Nms := { fn := ["_law_due", "_law_is_number"], glo := [], cl := [], blt := [], exc := [], lam := ["_law_kind"], lq := some "_law_right.<locals>." }
def m__law_right : MSs :=
 .cons (.asg (.name 4 "_law_due_here" ⟨147, 4, 147, 17⟩) (.call 0 "_law_due" ⟨147, 20, 147, 28⟩ (.cons (.var 1 "_law_prime_here" ⟨147, 29, 147, 44⟩) (.cons (.var 2 "_law_top" ⟨147, 46, 147, 54⟩) (.cons (.var 3 "_law_base" ⟨147, 56, 147, 65⟩) (.nil)))) ⟨147, 20, 147, 66⟩) ⟨147, 4, 147, 66⟩)
 (.cons (.asg (.name 5 "_law_kind_here" ⟨148, 4, 148, 18⟩) (.lam 0 "_law_kind" ⟨148, 21, 148, 30⟩ (.own (.var 0 "_law_field" ⟨148, 39, 148, 49⟩) "made" ⟨148, 39, 148, 54⟩ (.cons (.var 2 "_law_top" ⟨148, 55, 148, 63⟩) (.cons (.var 3 "_law_base" ⟨148, 65, 148, 74⟩) (.nil))) ⟨148, 39, 148, 75⟩) ⟨.function, [("_law_base", .free), ("_law_field", .free), ("_law_top", .free)], false, false, []⟩ ⟨148, 31, 148, 75⟩ ⟨148, 21, 148, 76⟩) ⟨148, 4, 148, 76⟩)
 (.cons (.ifs (.cmp (.var 4 "_law_due_here" ⟨149, 7, 149, 20⟩) .Is (.non 0 ⟨149, 24, 149, 28⟩) ⟨149, 7, 149, 28⟩)
 (.cons (.ret (.and (.cons (.cmp (.var 5 "_law_kind_here" ⟨150, 15, 150, 29⟩) .Eq (.str "number" 0 ⟨150, 33, 150, 41⟩) ⟨150, 15, 150, 41⟩) (.cons (.cmp (.lam 0 "_law_kind" ⟨150, 46, 150, 55⟩ (.ownK 0 (.var 0 "_law_field" ⟨150, 64, 150, 74⟩) "made" ⟨150, 64, 150, 79⟩ (.cons (.var 2 "_law_top" ⟨150, 80, 150, 88⟩) (.nil)) [("bottom", ⟨150, 90, 150, 106⟩)] (.cons (.var 3 "_law_base" ⟨150, 97, 150, 106⟩) (.nil)) ⟨150, 64, 150, 107⟩) ⟨.function, [("_law_base", .free), ("_law_field", .free), ("_law_top", .free)], false, false, []⟩ ⟨150, 56, 150, 107⟩ ⟨150, 46, 150, 108⟩) .Eq (.str "number" 0 ⟨150, 112, 150, 120⟩) ⟨150, 46, 150, 120⟩) (.nil))) ⟨150, 15, 150, 120⟩) ⟨150, 8, 150, 120⟩)
 (.nil))
 (.nil) ⟨149, 4, 150, 120⟩)
 (.cons (.asg (.name 6 "_law_found" ⟨151, 4, 151, 14⟩) (.own (.var 0 "_law_field" ⟨151, 17, 151, 27⟩) "made" ⟨151, 17, 151, 32⟩ (.cons (.var 2 "_law_top" ⟨151, 33, 151, 41⟩) (.cons (.var 3 "_law_base" ⟨151, 43, 151, 52⟩) (.nil))) ⟨151, 17, 151, 53⟩) ⟨151, 4, 151, 53⟩)
 (.cons (.ifs (.or (.cons (.cmp (.var 5 "_law_kind_here" ⟨152, 7, 152, 21⟩) .NotEq (.str "told" 0 ⟨152, 25, 152, 31⟩) ⟨152, 7, 152, 31⟩) (.cons (.cmp (.var 6 "_law_found" ⟨152, 35, 152, 45⟩) .NotEq (.var 4 "_law_due_here" ⟨152, 49, 152, 62⟩) ⟨152, 35, 152, 62⟩) (.cons (.not (.call 1 "_law_is_number" ⟨152, 71, 152, 85⟩ (.cons (.var 1 "_law_prime_here" ⟨152, 86, 152, 101⟩) (.cons (.var 6 "_law_found" ⟨152, 103, 152, 113⟩) (.nil))) ⟨152, 71, 152, 114⟩) ⟨152, 67, 152, 114⟩) (.nil)))) ⟨152, 7, 152, 115⟩)
 (.cons (.ret (.bl false 0 ⟨153, 15, 153, 20⟩) ⟨153, 8, 153, 20⟩)
 (.nil))
 (.nil) ⟨152, 4, 153, 20⟩)
 (.cons (.ret (.cmp (.ownK 0 (.var 0 "_law_field" ⟨154, 11, 154, 21⟩) "made" ⟨154, 11, 154, 26⟩ (.cons (.var 2 "_law_top" ⟨154, 27, 154, 35⟩) (.nil)) [("bottom", ⟨154, 37, 154, 53⟩)] (.cons (.var 3 "_law_base" ⟨154, 44, 154, 53⟩) (.nil)) ⟨154, 11, 154, 54⟩) .Eq (.var 4 "_law_due_here" ⟨154, 58, 154, 71⟩) ⟨154, 11, 154, 71⟩) ⟨154, 4, 154, 71⟩)
 (.nil))))))
theorem x__law_right : Txt ["_law_field", "_law_prime_here", "_law_top", "_law_base", "_law_due_here", "_law_kind_here", "_law_found"] ["_law_field", "_law_prime_here", "_law_top", "_law_base"] n__law_right s__law_right m__law_right := ⟨⟨rfl, rfl, rfl, by decide +kernel, rfl, by decide +kernel, by decide +kernel⟩, by kernel_rfl, by decide +kernel⟩
/-- _law_things(_law_number): 0 _law_number 1 _law_top 2 _law_base 3 _law_some -/
abbrev s__law_things : Stmt := top 23
def n__law_things : Nms := { fn := [], glo := [], cl := [], blt := ["str"], exc := [], lam := [], lq := none }
def m__law_things : MSs :=
 .cons (.asg (.tup (.cons (.name 1 "_law_top" ⟨156, 4, 156, 12⟩) (.cons (.name 2 "_law_base" ⟨156, 14, 156, 23⟩) (.nil))) 0 ⟨156, 4, 156, 23⟩) (.var 0 "_law_number" ⟨156, 26, 156, 37⟩) ⟨156, 4, 156, 37⟩)
 (.cons (.asg (.name 3 "_law_some" ⟨157, 4, 157, 13⟩) (.lst (.cons (.var 0 "_law_number" ⟨157, 17, 157, 28⟩) (.cons (.tup (.cons (.bin (.int 2 0 ⟨157, 31, 157, 32⟩) .Mult (.var 1 "_law_top" ⟨157, 35, 157, 43⟩) ⟨157, 31, 157, 43⟩) (.cons (.bin (.int 2 0 ⟨157, 45, 157, 46⟩) .Mult (.var 2 "_law_base" ⟨157, 49, 157, 58⟩) ⟨157, 45, 157, 58⟩) (.nil))) 0 ⟨157, 30, 157, 59⟩) (.cons (.tup (.cons (.var 1 "_law_top" ⟨157, 62, 157, 70⟩) (.cons (.bin (.int 0 0 ⟨157, 72, 157, 73⟩) .Sub (.var 2 "_law_base" ⟨157, 76, 157, 85⟩) ⟨157, 72, 157, 85⟩) (.nil))) 0 ⟨157, 61, 157, 86⟩) (.cons (.tup (.cons (.var 1 "_law_top" ⟨157, 89, 157, 97⟩) (.cons (.int 0 0 ⟨157, 99, 157, 100⟩) (.nil))) 0 ⟨157, 88, 157, 101⟩) (.cons (.lst (.cons (.var 1 "_law_top" ⟨157, 104, 157, 112⟩) (.cons (.var 2 "_law_base" ⟨157, 114, 157, 123⟩) (.nil))) ⟨157, 103, 157, 124⟩) (.cons (.tup (.cons (.var 1 "_law_top" ⟨157, 127, 157, 135⟩) (.nil)) 0 ⟨157, 126, 157, 137⟩) (.cons (.tup (.cons (.var 1 "_law_top" ⟨157, 140, 157, 148⟩) (.cons (.var 2 "_law_base" ⟨157, 150, 157, 159⟩) (.cons (.int 1 0 ⟨157, 161, 157, 162⟩) (.nil)))) 0 ⟨157, 139, 157, 163⟩) (.cons (.var 1 "_law_top" ⟨157, 165, 157, 173⟩) (.nil))))))))) ⟨157, 16, 157, 174⟩) ⟨157, 4, 157, 174⟩)
 (.cons (.ret (.bin (.var 3 "_law_some" ⟨158, 11, 158, 20⟩) .Add (.lst (.cons (.non 0 ⟨158, 24, 158, 28⟩) (.cons (.tup (.cons (.bl true 0 ⟨158, 31, 158, 35⟩) (.cons (.int 1 0 ⟨158, 37, 158, 38⟩) (.nil))) 0 ⟨158, 30, 158, 39⟩) (.cons (.tup (.cons (.var 1 "_law_top" ⟨158, 42, 158, 50⟩) (.cons (.bl true 0 ⟨158, 52, 158, 56⟩) (.nil))) 0 ⟨158, 41, 158, 57⟩) (.cons (.tup (.cons (.blt .str ⟨158, 60, 158, 63⟩ (.var 1 "_law_top" ⟨158, 64, 158, 72⟩) (.nil) ⟨158, 60, 158, 73⟩) (.cons (.var 2 "_law_base" ⟨158, 75, 158, 84⟩) (.nil))) 0 ⟨158, 59, 158, 85⟩) (.cons (.tup (.cons (.bin (.var 1 "_law_top" ⟨158, 88, 158, 96⟩) .Add (.int 97 0 ⟨158, 99, 158, 101⟩) ⟨158, 88, 158, 101⟩) (.cons (.var 2 "_law_base" ⟨158, 103, 158, 112⟩) (.nil))) 0 ⟨158, 87, 158, 113⟩) (.cons (.tup (.cons (.bin (.bin (.int 0 0 ⟨158, 116, 158, 117⟩) .Sub (.int 1 0 ⟨158, 120, 158, 121⟩) ⟨158, 116, 158, 121⟩) .Sub (.var 1 "_law_top" ⟨158, 124, 158, 132⟩) ⟨158, 116, 158, 132⟩) (.cons (.var 2 "_law_base" ⟨158, 134, 158, 143⟩) (.nil))) 0 ⟨158, 115, 158, 144⟩) (.nil))))))) ⟨158, 23, 158, 145⟩) ⟨158, 11, 158, 145⟩) ⟨158, 4, 158, 145⟩)
 (.nil)))
theorem x__law_things : Txt ["_law_number", "_law_top", "_law_base", "_law_some"] ["_law_number"] n__law_things s__law_things m__law_things := ⟨⟨rfl, rfl, rfl, by decide +kernel, rfl, by decide +kernel, by decide +kernel⟩, by kernel_rfl, by decide +kernel⟩
/-- law(_law_script): 0 _law_script 1 _law_k 2 _law_room_here 3 _law_prime_here 4 _law_field 5 _law_size 6 _law_by 7 _law_top 8 _law_base 9 _law_odd 10 _law_one 11 _law_other 12 _law_due_here 13 _law_thing 14 _law_known -/
abbrev s_law : Stmt := top 24
def n_law : Nms := { fn := ["_law_room", "_law_prime", "_law_take", "_law_right", "_law_due", "_law_things", "_law_is_number"], glo := ["bool"], cl := ["Field"], blt := ["range", "max", "min", "len", "isinstance"], exc := [], lam := [], lq := none }
def m_law : MSs :=
 .cons (.fors (.name 1 "_law_k" ⟨160, 8, 160, 14⟩) (.rng1 ⟨160, 18, 160, 23⟩ (.blt .max2 ⟨160, 24, 160, 27⟩ (.int 1 0 ⟨160, 28, 160, 29⟩) (.cons (.blt .min2 ⟨160, 31, 160, 34⟩ (.blt .len ⟨160, 35, 160, 38⟩ (.var 0 "_law_script" ⟨160, 39, 160, 50⟩) (.nil) ⟨160, 35, 160, 51⟩) (.cons (.int 40 0 ⟨160, 53, 160, 55⟩) (.nil)) ⟨160, 31, 160, 56⟩) (.nil)) ⟨160, 24, 160, 57⟩) ⟨160, 18, 160, 58⟩)
 (.cons (.asg (.name 2 "_law_room_here" ⟨161, 8, 161, 22⟩) (.call 0 "_law_room" ⟨161, 25, 161, 34⟩ (.cons (.var 0 "_law_script" ⟨161, 35, 161, 46⟩) (.cons (.var 1 "_law_k" ⟨161, 48, 161, 54⟩) (.nil))) ⟨161, 25, 161, 55⟩) ⟨161, 8, 161, 55⟩)
 (.cons (.asg (.name 3 "_law_prime_here" ⟨162, 8, 162, 23⟩) (.call 1 "_law_prime" ⟨162, 26, 162, 36⟩ (.cons (.var 2 "_law_room_here" ⟨162, 37, 162, 51⟩) (.nil)) ⟨162, 26, 162, 52⟩) ⟨162, 8, 162, 52⟩)
 (.cons (.asg (.name 4 "_law_field" ⟨163, 8, 163, 18⟩) (.make 0 "Field" ⟨163, 21, 163, 26⟩ (.cons (.var 3 "_law_prime_here" ⟨163, 27, 163, 42⟩) (.nil)) ⟨163, 21, 163, 43⟩) ⟨163, 8, 163, 43⟩)
 (.cons (.asg (.name 5 "_law_size" ⟨164, 8, 164, 17⟩) (.sub (.lst (.cons (.int 2 0 ⟨164, 21, 164, 22⟩) (.cons (.int 30 0 ⟨164, 24, 164, 26⟩) (.cons (.bin (.int 10 0 ⟨164, 28, 164, 30⟩) .Pow (.int 15 0 ⟨164, 34, 164, 36⟩) ⟨164, 28, 164, 36⟩) (.nil)))) ⟨164, 20, 164, 37⟩) (.call 2 "_law_take" ⟨164, 38, 164, 47⟩ (.cons (.var 2 "_law_room_here" ⟨164, 48, 164, 62⟩) (.cons (.int 3 0 ⟨164, 64, 164, 65⟩) (.nil))) ⟨164, 38, 164, 66⟩) ⟨164, 20, 164, 67⟩) ⟨164, 8, 164, 67⟩)
 (.cons (.asg (.name 6 "_law_by" ⟨165, 8, 165, 15⟩) (.bin (.bin (.int 1 0 ⟨165, 19, 165, 20⟩) .Add (.call 2 "_law_take" ⟨165, 23, 165, 32⟩ (.cons (.var 2 "_law_room_here" ⟨165, 33, 165, 47⟩) (.cons (.int 12 0 ⟨165, 49, 165, 51⟩) (.nil))) ⟨165, 23, 165, 52⟩) ⟨165, 19, 165, 52⟩) .Mult (.sub (.lst (.cons (.int 1 0 ⟨165, 57, 165, 58⟩) (.cons (.int 1 0 ⟨165, 60, 165, 61⟩) (.cons (.int 1 0 ⟨165, 63, 165, 64⟩) (.cons (.bin (.bin (.int 10 0 ⟨165, 66, 165, 68⟩) .Pow (.int 40 0 ⟨165, 72, 165, 74⟩) ⟨165, 66, 165, 74⟩) .Add (.int 9 0 ⟨165, 77, 165, 78⟩) ⟨165, 66, 165, 78⟩) (.nil))))) ⟨165, 56, 165, 79⟩) (.call 2 "_law_take" ⟨165, 80, 165, 89⟩ (.cons (.var 2 "_law_room_here" ⟨165, 90, 165, 104⟩) (.cons (.int 4 0 ⟨165, 106, 165, 107⟩) (.nil))) ⟨165, 80, 165, 108⟩) ⟨165, 56, 165, 109⟩) ⟨165, 18, 165, 109⟩) ⟨165, 8, 165, 109⟩)
 (.cons (.asg (.name 7 "_law_top" ⟨166, 8, 166, 16⟩) (.bin (.bin (.call 2 "_law_take" ⟨166, 20, 166, 29⟩ (.cons (.var 2 "_law_room_here" ⟨166, 30, 166, 44⟩) (.cons (.bin (.bin (.int 2 0 ⟨166, 46, 166, 47⟩) .Mult (.var 5 "_law_size" ⟨166, 50, 166, 59⟩) ⟨166, 46, 166, 59⟩) .Add (.int 1 0 ⟨166, 62, 166, 63⟩) ⟨166, 46, 166, 63⟩) (.nil))) ⟨166, 20, 166, 64⟩) .Sub (.var 5 "_law_size" ⟨166, 67, 166, 76⟩) ⟨166, 20, 166, 76⟩) .Mult (.var 6 "_law_by" ⟨166, 80, 166, 87⟩) ⟨166, 19, 166, 87⟩) ⟨166, 8, 166, 87⟩)
 (.cons (.asg (.name 8 "_law_base" ⟨167, 8, 167, 17⟩) (.bin (.bin (.call 2 "_law_take" ⟨167, 21, 167, 30⟩ (.cons (.var 2 "_law_room_here" ⟨167, 31, 167, 45⟩) (.cons (.bin (.bin (.int 2 0 ⟨167, 47, 167, 48⟩) .Mult (.var 5 "_law_size" ⟨167, 51, 167, 60⟩) ⟨167, 47, 167, 60⟩) .Add (.int 1 0 ⟨167, 63, 167, 64⟩) ⟨167, 47, 167, 64⟩) (.nil))) ⟨167, 21, 167, 65⟩) .Sub (.var 5 "_law_size" ⟨167, 68, 167, 77⟩) ⟨167, 21, 167, 77⟩) .Mult (.var 6 "_law_by" ⟨167, 81, 167, 88⟩) ⟨167, 20, 167, 88⟩) ⟨167, 8, 167, 88⟩)
 (.cons (.asg (.name 9 "_law_odd" ⟨168, 8, 168, 16⟩) (.sub (.lst (.cons (.non 0 ⟨168, 20, 168, 24⟩) (.cons (.bl true 0 ⟨168, 26, 168, 30⟩) (.cons (.bl false 0 ⟨168, 32, 168, 37⟩) (.cons (.str "1" 0 ⟨168, 39, 168, 42⟩) (.cons (.tup (.cons (.int 1 0 ⟨168, 45, 168, 46⟩) (.cons (.int 1 0 ⟨168, 48, 168, 49⟩) (.nil))) 0 ⟨168, 44, 168, 50⟩) (.cons (.lst (.cons (.int 2 0 ⟨168, 53, 168, 54⟩) (.nil)) ⟨168, 52, 168, 55⟩) (.cons (.tup (.nil) 0 ⟨168, 57, 168, 59⟩) (.cons (.str "a" 0 ⟨168, 61, 168, 64⟩) (.nil))))))))) ⟨168, 19, 168, 65⟩) (.call 2 "_law_take" ⟨168, 66, 168, 75⟩ (.cons (.var 2 "_law_room_here" ⟨168, 76, 168, 90⟩) (.cons (.int 8 0 ⟨168, 92, 168, 93⟩) (.nil))) ⟨168, 66, 168, 94⟩) ⟨168, 19, 168, 95⟩) ⟨168, 8, 168, 95⟩)
 (.cons (.fors (.tup (.cons (.name 10 "_law_one" ⟨169, 12, 169, 20⟩) (.cons (.name 11 "_law_other" ⟨169, 22, 169, 32⟩) (.nil))) 0 ⟨169, 12, 169, 32⟩) (.val (.lst (.cons (.tup (.cons (.var 7 "_law_top" ⟨169, 38, 169, 46⟩) (.cons (.var 8 "_law_base" ⟨169, 48, 169, 57⟩) (.nil))) 0 ⟨169, 37, 169, 58⟩) (.cons (.tup (.cons (.var 9 "_law_odd" ⟨169, 61, 169, 69⟩) (.cons (.var 8 "_law_base" ⟨169, 71, 169, 80⟩) (.nil))) 0 ⟨169, 60, 169, 81⟩) (.cons (.tup (.cons (.var 7 "_law_top" ⟨169, 84, 169, 92⟩) (.cons (.var 9 "_law_odd" ⟨169, 94, 169, 102⟩) (.nil))) 0 ⟨169, 83, 169, 103⟩) (.nil)))) ⟨169, 36, 169, 104⟩))
 (.cons (.ifs (.not (.call 3 "_law_right" ⟨170, 19, 170, 29⟩ (.cons (.var 4 "_law_field" ⟨170, 30, 170, 40⟩) (.cons (.var 3 "_law_prime_here" ⟨170, 42, 170, 57⟩) (.cons (.var 10 "_law_one" ⟨170, 59, 170, 67⟩) (.cons (.var 11 "_law_other" ⟨170, 69, 170, 79⟩) (.nil))))) ⟨170, 19, 170, 80⟩) ⟨170, 15, 170, 80⟩)
 (.cons (.ret (.bl false 0 ⟨171, 23, 171, 28⟩) ⟨171, 16, 171, 28⟩)
 (.nil))
 (.nil) ⟨170, 12, 171, 28⟩)
 (.nil)) ⟨169, 8, 171, 28⟩)
 (.cons (.asg (.name 12 "_law_due_here" ⟨172, 8, 172, 21⟩) (.call 4 "_law_due" ⟨172, 24, 172, 32⟩ (.cons (.var 3 "_law_prime_here" ⟨172, 33, 172, 48⟩) (.cons (.var 7 "_law_top" ⟨172, 50, 172, 58⟩) (.cons (.int 1 0 ⟨172, 60, 172, 61⟩) (.nil)))) ⟨172, 24, 172, 62⟩) ⟨172, 8, 172, 62⟩)
 (.cons (.ifs (.cmp (.ownK 1 (.var 4 "_law_field" ⟨173, 11, 173, 21⟩) "made" ⟨173, 11, 173, 26⟩ (.cons (.var 7 "_law_top" ⟨173, 27, 173, 35⟩) (.nil)) [] (.nil) ⟨173, 11, 173, 36⟩) .NotEq (.var 12 "_law_due_here" ⟨173, 40, 173, 53⟩) ⟨173, 11, 173, 53⟩)
 (.cons (.ret (.bl false 0 ⟨174, 19, 174, 24⟩) ⟨174, 12, 174, 24⟩)
 (.nil))
 (.nil) ⟨173, 8, 174, 24⟩)
 (.cons (.fors (.name 13 "_law_thing" ⟨175, 12, 175, 22⟩) (.val (.call 5 "_law_things" ⟨175, 26, 175, 37⟩ (.cons (.var 12 "_law_due_here" ⟨175, 38, 175, 51⟩) (.nil)) ⟨175, 26, 175, 52⟩))
 (.cons (.asg (.name 14 "_law_known" ⟨176, 12, 176, 22⟩) (.own (.var 4 "_law_field" ⟨176, 25, 176, 35⟩) "is_number" ⟨176, 25, 176, 45⟩ (.cons (.var 13 "_law_thing" ⟨176, 46, 176, 56⟩) (.nil)) ⟨176, 25, 176, 57⟩) ⟨176, 12, 176, 57⟩)
 (.cons (.ifs (.or (.cons (.not (.blt .isinstance ⟨177, 19, 177, 29⟩ (.var 14 "_law_known" ⟨177, 30, 177, 40⟩) (.cons (.glo 0 "bool" ⟨177, 42, 177, 46⟩) (.nil)) ⟨177, 19, 177, 47⟩) ⟨177, 15, 177, 47⟩) (.cons (.cmp (.var 14 "_law_known" ⟨177, 51, 177, 61⟩) .NotEq (.call 6 "_law_is_number" ⟨177, 65, 177, 79⟩ (.cons (.var 3 "_law_prime_here" ⟨177, 80, 177, 95⟩) (.cons (.var 13 "_law_thing" ⟨177, 97, 177, 107⟩) (.nil))) ⟨177, 65, 177, 108⟩) ⟨177, 51, 177, 108⟩) (.nil))) ⟨177, 15, 177, 108⟩)
 (.cons (.ret (.bl false 0 ⟨178, 23, 178, 28⟩) ⟨178, 16, 178, 28⟩)
 (.nil))
 (.nil) ⟨177, 12, 178, 28⟩)
 (.nil))) ⟨175, 8, 178, 28⟩)
 (.nil))))))))))))) ⟨160, 4, 178, 28⟩)
 (.cons (.ret (.bl true 0 ⟨179, 11, 179, 15⟩) ⟨179, 4, 179, 15⟩)
 (.nil))
theorem x_law : Txt ["_law_script", "_law_k", "_law_room_here", "_law_prime_here", "_law_field", "_law_size", "_law_by", "_law_top", "_law_base", "_law_odd", "_law_one", "_law_other", "_law_due_here", "_law_thing", "_law_known"] ["_law_script"] n_law s_law m_law := ⟨⟨rfl, rfl, rfl, by decide +kernel, rfl, by decide +kernel, by decide +kernel⟩, by kernel_rfl, by decide +kernel⟩
structure Fs where
  NoSum___init__ : FD
  is_whole : FD
  is_prime : FD
  lowest : FD
  Field___init__ : FD
  Field___eq__ : FD
  Field_prime : FD
  Field_made : FD
  Field_is_number : FD
  _law_room : FD
  _law_take : FD
  _law_lowest : FD
  _law_whole : FD
  _law_is_number : FD
  _law_make : FD
  _law_prime : FD
  _law_kind : FD
  _law_due : FD
  _law_right : FD
  _law_things : FD
  law : FD
def d_NoSum___init__ : He.DefD := ⟨("NoSum", some "__init__"), "__init__", "NoSum.__init__", defArgs s_NoSum___init__, defBody s_NoSum___init__, defScope s_NoSum___init__, [], []⟩
abbrev F_NoSum___init__ (K : Frag) (r : FD) : Prop := FunD K "__init__" "NoSum.__init__" (defArgs s_NoSum___init__) (defBody s_NoSum___init__) (defScope s_NoSum___init__) [] [] r.ad r.fd
theorem b_NoSum___init__ {K : Frag} {r : FD} (F : F_NoSum___init__ K r) : Binds K r.fd ["self", "number"] [] := F.bindsN fun _ _ _ _ _ _ us hl => match us, hl with | [_, _], _ => rfl
def d_is_whole : He.DefD := ⟨("is_whole", none), "is_whole", "is_whole", defArgs s_is_whole, defBody s_is_whole, defScope s_is_whole, [], []⟩
abbrev F_is_whole (K : Frag) (r : FD) : Prop := FunD K "is_whole" "is_whole" (defArgs s_is_whole) (defBody s_is_whole) (defScope s_is_whole) [] [] r.ad r.fd
theorem b_is_whole {K : Frag} {r : FD} (F : F_is_whole K r) : Binds K r.fd ["thing"] [] := F.bindsN fun _ _ _ _ _ _ us hl => match us, hl with | [_], _ => rfl
def d_is_prime : He.DefD := ⟨("is_prime", none), "is_prime", "is_prime", defArgs s_is_prime, defBody s_is_prime, defScope s_is_prime, [], []⟩
abbrev F_is_prime (K : Frag) (r : FD) : Prop := FunD K "is_prime" "is_prime" (defArgs s_is_prime) (defBody s_is_prime) (defScope s_is_prime) [] [] r.ad r.fd
theorem b_is_prime {K : Frag} {r : FD} (F : F_is_prime K r) : Binds K r.fd ["thing"] [] := F.bindsN fun _ _ _ _ _ _ us hl => match us, hl with | [_], _ => rfl
def d_lowest : He.DefD := ⟨("lowest", none), "lowest", "lowest", defArgs s_lowest, defBody s_lowest, defScope s_lowest, [], []⟩
abbrev F_lowest (K : Frag) (r : FD) : Prop := FunD K "lowest" "lowest" (defArgs s_lowest) (defBody s_lowest) (defScope s_lowest) [] [] r.ad r.fd
theorem b_lowest {K : Frag} {r : FD} (F : F_lowest K r) : Binds K r.fd ["top", "bottom"] [] := F.bindsN fun _ _ _ _ _ _ us hl => match us, hl with | [_, _], _ => rfl
def d_Field___init__ : He.DefD := ⟨("Field", some "__init__"), "__init__", "Field.__init__", defArgs s_Field___init__, defBody s_Field___init__, defScope s_Field___init__, [.int 0], []⟩
abbrev F_Field___init__ (K : Frag) (r : FD) : Prop := FunD K "__init__" "Field.__init__" (defArgs s_Field___init__) (defBody s_Field___init__) (defScope s_Field___init__) [.int 0] [] r.ad r.fd
theorem b_Field___init__ {K : Frag} {r : FD} (F : F_Field___init__ K r) : Binds K r.fd ["self", "prime"] [] := by
  obtain ⟨ds, hv, hb⟩ := F.binds1 (ps := ["self", "prime"]) 2 1 (by simp) rfl fun _ _ _ _ _ _ _ us its h1 h2 => match us, its, h1, h2 with | [_, _], [_], _, _ => ⟨_, rfl, rfl⟩
  cases hv
  exact hb
def d_Field___eq__ : He.DefD := ⟨("Field", some "__eq__"), "__eq__", "Field.__eq__", defArgs s_Field___eq__, defBody s_Field___eq__, defScope s_Field___eq__, [], []⟩
abbrev F_Field___eq__ (K : Frag) (r : FD) : Prop := FunD K "__eq__" "Field.__eq__" (defArgs s_Field___eq__) (defBody s_Field___eq__) (defScope s_Field___eq__) [] [] r.ad r.fd
theorem b_Field___eq__ {K : Frag} {r : FD} (F : F_Field___eq__ K r) : Binds K r.fd ["self", "other"] [] := F.bindsN fun _ _ _ _ _ _ us hl => match us, hl with | [_, _], _ => rfl
def d_Field_prime : He.DefD := ⟨("Field", some "prime"), "prime", "Field.prime", defArgs s_Field_prime, defBody s_Field_prime, defScope s_Field_prime, [], []⟩
abbrev F_Field_prime (K : Frag) (r : FD) : Prop := FunD K "prime" "Field.prime" (defArgs s_Field_prime) (defBody s_Field_prime) (defScope s_Field_prime) [] [] r.ad r.fd
theorem b_Field_prime {K : Frag} {r : FD} (F : F_Field_prime K r) : Binds K r.fd ["self"] [] := F.bindsN fun _ _ _ _ _ _ us hl => match us, hl with | [_], _ => rfl
def d_Field_made : He.DefD := ⟨("Field", some "made"), "made", "Field.made", defArgs s_Field_made, defBody s_Field_made, defScope s_Field_made, [.int 1], []⟩
abbrev F_Field_made (K : Frag) (r : FD) : Prop := FunD K "made" "Field.made" (defArgs s_Field_made) (defBody s_Field_made) (defScope s_Field_made) [.int 1] [] r.ad r.fd
theorem b_Field_made {K : Frag} {r : FD} (F : F_Field_made K r) : Binds K r.fd ["self", "top", "bottom"] [] := by
  obtain ⟨ds, hv, hb⟩ := F.binds1 (ps := ["self", "top", "bottom"]) 3 1 (by simp) rfl fun _ _ _ _ _ _ _ us its h1 h2 => match us, its, h1, h2 with | [_, _, _], [_], _, _ => ⟨_, rfl, rfl⟩
  cases hv
  exact hb
def d_Field_is_number : He.DefD := ⟨("Field", some "is_number"), "is_number", "Field.is_number", defArgs s_Field_is_number, defBody s_Field_is_number, defScope s_Field_is_number, [], []⟩
abbrev F_Field_is_number (K : Frag) (r : FD) : Prop := FunD K "is_number" "Field.is_number" (defArgs s_Field_is_number) (defBody s_Field_is_number) (defScope s_Field_is_number) [] [] r.ad r.fd
theorem b_Field_is_number {K : Frag} {r : FD} (F : F_Field_is_number K r) : Binds K r.fd ["self", "thing"] [] := F.bindsN fun _ _ _ _ _ _ us hl => match us, hl with | [_, _], _ => rfl
def d__law_room : He.DefD := ⟨("_law_room", none), "_law_room", "_law_room", defArgs s__law_room, defBody s__law_room, defScope s__law_room, [], []⟩
abbrev F__law_room (K : Frag) (r : FD) : Prop := FunD K "_law_room" "_law_room" (defArgs s__law_room) (defBody s__law_room) (defScope s__law_room) [] [] r.ad r.fd
theorem b__law_room {K : Frag} {r : FD} (F : F__law_room K r) : Binds K r.fd ["_law_script", "_law_k"] [] := F.bindsN fun _ _ _ _ _ _ us hl => match us, hl with | [_, _], _ => rfl
def d__law_take : He.DefD := ⟨("_law_take", none), "_law_take", "_law_take", defArgs s__law_take, defBody s__law_take, defScope s__law_take, [], []⟩
abbrev F__law_take (K : Frag) (r : FD) : Prop := FunD K "_law_take" "_law_take" (defArgs s__law_take) (defBody s__law_take) (defScope s__law_take) [] [] r.ad r.fd
theorem b__law_take {K : Frag} {r : FD} (F : F__law_take K r) : Binds K r.fd ["_law_room_here", "_law_many"] [] := F.bindsN fun _ _ _ _ _ _ us hl => match us, hl with | [_, _], _ => rfl
def d__law_lowest : He.DefD := ⟨("_law_lowest", none), "_law_lowest", "_law_lowest", defArgs s__law_lowest, defBody s__law_lowest, defScope s__law_lowest, [], []⟩
abbrev F__law_lowest (K : Frag) (r : FD) : Prop := FunD K "_law_lowest" "_law_lowest" (defArgs s__law_lowest) (defBody s__law_lowest) (defScope s__law_lowest) [] [] r.ad r.fd
theorem b__law_lowest {K : Frag} {r : FD} (F : F__law_lowest K r) : Binds K r.fd ["_law_top", "_law_base"] [] := F.bindsN fun _ _ _ _ _ _ us hl => match us, hl with | [_, _], _ => rfl
def d__law_whole : He.DefD := ⟨("_law_whole", none), "_law_whole", "_law_whole", defArgs s__law_whole, defBody s__law_whole, defScope s__law_whole, [], []⟩
abbrev F__law_whole (K : Frag) (r : FD) : Prop := FunD K "_law_whole" "_law_whole" (defArgs s__law_whole) (defBody s__law_whole) (defScope s__law_whole) [] [] r.ad r.fd
theorem b__law_whole {K : Frag} {r : FD} (F : F__law_whole K r) : Binds K r.fd ["_law_thing"] [] := F.bindsN fun _ _ _ _ _ _ us hl => match us, hl with | [_], _ => rfl
def d__law_is_number : He.DefD := ⟨("_law_is_number", none), "_law_is_number", "_law_is_number", defArgs s__law_is_number, defBody s__law_is_number, defScope s__law_is_number, [], []⟩
abbrev F__law_is_number (K : Frag) (r : FD) : Prop := FunD K "_law_is_number" "_law_is_number" (defArgs s__law_is_number) (defBody s__law_is_number) (defScope s__law_is_number) [] [] r.ad r.fd
theorem b__law_is_number {K : Frag} {r : FD} (F : F__law_is_number K r) : Binds K r.fd ["_law_prime_here", "_law_thing"] [] := F.bindsN fun _ _ _ _ _ _ us hl => match us, hl with | [_, _], _ => rfl
def d__law_make : He.DefD := ⟨("_law_make", none), "_law_make", "_law_make", defArgs s__law_make, defBody s__law_make, defScope s__law_make, [], []⟩
abbrev F__law_make (K : Frag) (r : FD) : Prop := FunD K "_law_make" "_law_make" (defArgs s__law_make) (defBody s__law_make) (defScope s__law_make) [] [] r.ad r.fd
theorem b__law_make {K : Frag} {r : FD} (F : F__law_make K r) : Binds K r.fd ["_law_prime_here", "_law_top", "_law_base"] [] := F.bindsN fun _ _ _ _ _ _ us hl => match us, hl with | [_, _, _], _ => rfl
def d__law_prime : He.DefD := ⟨("_law_prime", none), "_law_prime", "_law_prime", defArgs s__law_prime, defBody s__law_prime, defScope s__law_prime, [], []⟩
abbrev F__law_prime (K : Frag) (r : FD) : Prop := FunD K "_law_prime" "_law_prime" (defArgs s__law_prime) (defBody s__law_prime) (defScope s__law_prime) [] [] r.ad r.fd
theorem b__law_prime {K : Frag} {r : FD} (F : F__law_prime K r) : Binds K r.fd ["_law_room_here"] [] := F.bindsN fun _ _ _ _ _ _ us hl => match us, hl with | [_], _ => rfl
def d__law_kind : He.DefD := ⟨("_law_kind", none), "_law_kind", "_law_kind", defArgs s__law_kind, defBody s__law_kind, defScope s__law_kind, [], []⟩
abbrev F__law_kind (K : Frag) (r : FD) : Prop := FunD K "_law_kind" "_law_kind" (defArgs s__law_kind) (defBody s__law_kind) (defScope s__law_kind) [] [] r.ad r.fd
theorem b__law_kind {K : Frag} {r : FD} (F : F__law_kind K r) : Binds K r.fd ["_law_call"] [] := F.bindsN fun _ _ _ _ _ _ us hl => match us, hl with | [_], _ => rfl
def d__law_due : He.DefD := ⟨("_law_due", none), "_law_due", "_law_due", defArgs s__law_due, defBody s__law_due, defScope s__law_due, [], []⟩
abbrev F__law_due (K : Frag) (r : FD) : Prop := FunD K "_law_due" "_law_due" (defArgs s__law_due) (defBody s__law_due) (defScope s__law_due) [] [] r.ad r.fd
theorem b__law_due {K : Frag} {r : FD} (F : F__law_due K r) : Binds K r.fd ["_law_prime_here", "_law_top", "_law_base"] [] := F.bindsN fun _ _ _ _ _ _ us hl => match us, hl with | [_, _, _], _ => rfl
def d__law_right : He.DefD := ⟨("_law_right", none), "_law_right", "_law_right", defArgs s__law_right, defBody s__law_right, defScope s__law_right, [], []⟩
abbrev F__law_right (K : Frag) (r : FD) : Prop := FunD K "_law_right" "_law_right" (defArgs s__law_right) (defBody s__law_right) (defScope s__law_right) [] [] r.ad r.fd
theorem b__law_right {K : Frag} {r : FD} (F : F__law_right K r) : Binds K r.fd ["_law_field", "_law_prime_here", "_law_top", "_law_base"] [] := F.bindsN fun _ _ _ _ _ _ us hl => match us, hl with | [_, _, _, _], _ => rfl
def d__law_things : He.DefD := ⟨("_law_things", none), "_law_things", "_law_things", defArgs s__law_things, defBody s__law_things, defScope s__law_things, [], []⟩
abbrev F__law_things (K : Frag) (r : FD) : Prop := FunD K "_law_things" "_law_things" (defArgs s__law_things) (defBody s__law_things) (defScope s__law_things) [] [] r.ad r.fd
theorem b__law_things {K : Frag} {r : FD} (F : F__law_things K r) : Binds K r.fd ["_law_number"] [] := F.bindsN fun _ _ _ _ _ _ us hl => match us, hl with | [_], _ => rfl
def d_law : He.DefD := ⟨("law", none), "law", "law", defArgs s_law, defBody s_law, defScope s_law, [], []⟩
abbrev F_law (K : Frag) (r : FD) : Prop := FunD K "law" "law" (defArgs s_law) (defBody s_law) (defScope s_law) [] [] r.ad r.fd
theorem b_law {K : Frag} {r : FD} (F : F_law K r) : Binds K r.fd ["_law_script"] [] := F.bindsN fun _ _ _ _ _ _ us hl => match us, hl with | [_], _ => rfl
def kb_Field_made : KB := [(2, ["bottom"], fun vs zs => vs ++ zs), (2, [], fun vs zs => vs ++ ((([V.int 1] : List V).drop 0).take 1))]
theorem kbok_Field_made {K : Frag} {r : FD} (F : F_Field_made K r) : KbOk K r.fd ["self", "top", "bottom"] kb_Field_made :=
  kb_cons (let ⟨_, h⟩ := F.kbindsD (ps := ["self", "top", "bottom"]) 2 ["bottom"] (fun us its ws => us ++ ws) (by simp) (by intro vs ds zs us its ws h1 h2 h3; repeat (first | assumption | apply Vals.append | apply Vals.take | apply Vals.drop)) (fun _ _ _ _ _ _ _ us its ws h1 h2 h3 => match us, its, ws, h1, h2, h3 with | [_, _], [_], [_], _, _, _ => ⟨_, rfl, rfl⟩); ⟨_, h⟩) (
  kb_cons (let ⟨_, h⟩ := F.kbindsD (ps := ["self", "top", "bottom"]) 2 [] (fun us its ws => us ++ ((its.drop 0).take 1)) (by simp) (by intro vs ds zs us its ws h1 h2 h3; repeat (first | assumption | apply Vals.append | apply Vals.take | apply Vals.drop)) (fun _ _ _ _ _ _ _ us its ws h1 h2 h3 => match us, its, ws, h1, h2, h3 with | [_, _], [_], [], _, _, _ => ⟨_, rfl, rfl⟩); ⟨_, h⟩) kb_nil)
def fns : List He.DefD := [d_NoSum___init__, d_is_whole, d_is_prime, d_lowest, d_Field___init__, d_Field___eq__, d_Field_prime, d_Field_made, d_Field_is_number, d__law_room, d__law_take, d__law_lowest, d__law_whole, d__law_is_number, d__law_make, d__law_prime, d__law_kind, d__law_due, d__law_right, d__law_things, d_law]
end K02
namespace K02
open PySem PySem.Spec PyProof.Rows L2 Rf NumP
abbrev gam0 : Gam := { fn := [], glo := [], cl := [], att := fun _ _ => False, mt := fun _ _ _ => False, eq := fun _ _ => False, exc := [], tb := [], lam := [] }
abbrev D0 (Q : VK) : Ends := { nx := fun _ H' => Q .non H', rt := Q }
abbrev W0 (E : XK) : WX := fun c d _ H => E c d H
/-! ### plain -/
def ps : List Int := [2, 3, 5, 7, 97, 11, 13, 17, 19, 23, 29, 31, 37, 41, 43, 47, 53, 59, 61, 67, 71, 73, 79, 83, 89]
def invs (p b : Int) : List Int := (rng 1 (p - 1).toNat).filter fun k => decide ((b * k) % p = 1)
def okB (p : Int) : Bool := (rng 0 p.toNat).all fun b => decide (b = 0) || !(invs p b).isEmpty
theorem ps_ok : ∀ p ∈ ps, 2 ≤ p ∧ p ≤ 97 ∧ okB p = true ∧ (rng 2 (p - 2).toNat).filter (fun k => decide (p % k = 0)) = [] := by decide +kernel
theorem mem_rng {lo k : Int} {n : Nat} (h1 : lo ≤ k) (h2 : k < lo + n) : k ∈ rng lo n := by
  unfold rng
  refine List.mem_map.mpr ⟨(k - lo).toNat, List.mem_range.mpr (by omega), by omega⟩
def inv (p b : Int) : Int := (invs p b).headD 0
theorem inv_ok {p b : Int} (hp : p ∈ ps) (h1 : 0 < b) (h2 : b < p) : ∃ r, invs p b = inv p b :: r ∧ (b * inv p b) % p = 1 ∧ 0 < inv p b ∧ inv p b < p := by
  obtain ⟨q1, q2, q3, _⟩ := ps_ok p hp
  have q := List.all_eq_true.mp q3 b (mem_rng (by omega) (by omega))
  simp only [Bool.or_eq_true, decide_eq_true_eq, Bool.not_eq_true', List.isEmpty_eq_false_iff] at q
  rcases q with q | q
  · omega
  · unfold inv
    cases e : invs p b with
    | nil => exact absurd e q
    | cons k r =>
      have hm : k ∈ invs p b := by rw [e]; exact List.mem_cons_self
      unfold invs at hm
      obtain ⟨m1, m2⟩ := List.mem_filter.mp hm
      unfold rng at m1
      obtain ⟨i, hi, rfl⟩ := List.mem_map.mp m1
      have hi' := List.mem_range.mp hi
      exact ⟨r, rfl, of_decide_eq_true m2, by show 0 < 1 + (i : Int); omega, by show 1 + (i : Int) < p; omega⟩
def P0 (p : Int) : Prop := p = 0 ∨ p ∈ ps
theorem P0.rng {p : Int} (h : P0 p) : 0 ≤ p ∧ p ≤ 97 := by
  rcases h with h | h
  · omega
  · obtain ⟨a, b, _⟩ := ps_ok p h
    omega
def mkT (p t b : Int) : Int := if p = 0 then lowT t b else if b % p = 1 then t % p else (t * inv p (b % p)) % p
def mkB (p t b : Int) : Int := if p = 0 then lowB t b else 1
/-- number of the field -/
def Nu (p x y : Int) : Prop := if p = 0 then N0 x y else y = 1 ∧ 0 ≤ x ∧ x < p
theorem mk_bd {p t b : Int} {k : Nat} (hp : P0 p) (h : p = 0 → b ≠ 0) (ht : Bd k t) (hb : Bd k b) (hk : 7 ≤ k) : Bd k (mkT p t b) ∧ Bd k (mkB p t b) := by
  unfold mkT mkB
  split
  · rename_i hz
    obtain ⟨l1, l2⟩ := low_le (t := t) (h hz)
    exact ⟨ht.le l1, hb.le l2⟩
  · rename_i hz
    obtain ⟨p1, p2⟩ := hp.rng
    have small : ∀ z : Int, 0 ≤ z → z < 97 → Bd k z := fun z a b => Bd.mono (j := 7) (show z.natAbs < 2 ^ 7 by omega) hk
    refine ⟨?_, small 1 (by omega) (by omega)⟩
    have lt : ∀ z : Int, z % p < 97 := fun z => by
      have := Int.emod_lt_of_pos z (b := p) (by omega)
      omega
    split <;> exact small _ (Int.emod_nonneg _ hz) (lt _)
/-! ### the data -/
abbrev NumAt (H : Hp) (q : Addr) (x y : Int) : Prop := H q = some (.tup [.int x, .int y])
abbrev fldF (p : Int) : List (Str × V) := putF "own_prime" (.int p) []
def FieldAt (C : Addr) (H : Hp) (f : Addr) (p : Int) : Prop := ∃ dx, H f = some (.ins C dx (fldF p))
theorem fld_look (p : Int) : (fldF p).lookup ("own_prime" : Str) = some (.int p) := by
  rw [lookup_putF, if_pos rfl]
theorem fld_no (p : Int) {m : Str} (h : ¬ m = "own_prime") : (fldF p).lookup m = none := by
  rw [lookup_putF, if_neg h]
  rfl
def RoomAt (H : Hp) (r : Addr) : Prop := ∃ l m : Int, H r = some (.lst [.int l, .int m]) ∧ 0 ≤ l ∧ 0 ≤ m ∧ m < 2147483647
theorem start_gcd {t b : Int} (ht : Sm t) (hb : Sm b) : 0 ≤ absI t ∧ 0 ≤ absI b ∧ Int.gcd (absI t) (absI b) = Int.gcd t b ∧ Sm (absI t) ∧ Sm (absI b) := by
  unfold Sm absI at *
  refine ⟨by split <;> omega, by split <;> omega, ?_, by split <;> omega, by split <;> omega⟩
  unfold Int.gcd
  congr 1 <;> split <;> omega
theorem step_gcd {x y : Int} (hx : 0 ≤ x) (hy : 0 ≤ y) (h0 : y ≠ 0) : 0 ≤ x.fmod y ∧ (x.fmod y).natAbs < y.natAbs ∧ Int.gcd y (x.fmod y) = Int.gcd x y := by
  have e : x.fmod y = x % y := Int.fmod_eq_emod_of_nonneg x hy
  have h1 := Int.emod_nonneg x h0
  have h2 := Int.emod_lt_of_pos x (show 0 < y by omega)
  rw [e]
  refine ⟨h1, by omega, ?_⟩
  obtain ⟨a, rfl⟩ := Int.eq_ofNat_of_zero_le hx
  obtain ⟨b, rfl⟩ := Int.eq_ofNat_of_zero_le hy
  have e2 : ((a : Int) % (b : Int)) = ((a % b : Nat) : Int) := by simp
  rw [e2, Int.gcd_natCast_natCast, Int.gcd_natCast_natCast, Nat.gcd_comm b, Nat.gcd_comm a, Nat.gcd_rec b a]
theorem sgn_small {b : Int} (hz : b ≠ 0) : Sm (b.fdiv (absI b)) := by
  unfold absI
  split
  · have e : b.fdiv (-b) = -1 := by
      have := Int.fdiv_eq_of_eq_mul_right (a := b) (b := -b) (c := -1) (by omega) (by omega)
      exact this
    rw [e]
    unfold Sm
    decide
  · rw [Int.fdiv_self hz]
    unfold Sm
    decide
theorem two_le : (2 : Nat) ≤ sizeLine := by rw [sizeLine_eq]; decide
/-! ### promises -/
def spW (v : V) (H : Hp) (Q : VK) : Prop := match v with
  | .int _ => Q (.bl true) H
  | .ref p => (∃ o t, H p = some o ∧ kindO o = some t) ∧ Q (.bl false) H
  | .non => Q (.bl false) H
  | .bl _ => Q (.bl false) H
  | .str _ => Q (.bl false) H
  | _ => False
def spWhole : Sp := fun vs H Q _ => ∃ v : V, vs = [v] ∧ spW v H Q
theorem kind_cases {o : HO} {t : String} (h : kindO o = some t) : isiB t "int" = false := by
  cases o <;> cases h <;> rfl
def spPrime : Sp := fun vs H Q _ => ∃ p : Int, vs = [.int p] ∧ p ∈ ps ∧ ∀ H', Kp H H' → Q (.bl true) H'
def spLow (CN : Addr) : Sp := fun vs H Q E => ∃ t b : Int, vs = [.int t, .int b] ∧ Sm t ∧ Sm b ∧ (b = 0 → ∀ H', Kp H H' → E (.ref CN) none H') ∧ (b ≠ 0 → ∀ q H', Kp H H' → H q = none → NumAt H' q (lowT t b) (lowB t b) → Q (.ref q) H')
def spInit (C : Addr) : Sp := fun vs H Q _ => ∃ (x dx : Addr) (p : Int), vs = [.ref x, .int p] ∧ H x = some (.ins C dx []) ∧ P0 p ∧ ∀ H', KpX x H H' → H' x = some (.ins C dx (fldF p)) → Q .non H'
/-- a thing of the kinds that are handed about -/
def Th (H : Hp) (v : V) : Prop := match v with
  | .int _ => True
  | .non => True
  | .bl _ => True
  | .str _ => True
  | .ref p => ∃ o t, H p = some o ∧ kindO o = some t
  | _ => False
def isI : V → Bool
  | .int _ => true
  | _ => false
def spMade (C CN : Addr) : Sp := fun vs H Q E => ∃ (f : Addr) (p : Int) (v u : V), vs = [.ref f, v, u] ∧ FieldAt C H f p ∧ P0 p ∧ Th H v ∧ Th H u ∧ ((isI v && isI u) = false → ∀ H', Kp H H' → E (.ref CN) none H') ∧ ∀ t b, v = .int t → u = .int b → Sm t ∧ Sm b ∧
  ((if p = 0 then b = 0 else b % p = 0) → ∀ H', Kp H H' → E (.ref CN) none H') ∧ ((if p = 0 then b ≠ 0 else b % p ≠ 0) → ∀ q H', Kp H H' → NumAt H' q (mkT p t b) (mkB p t b) → Q (.ref q) H')
def isn (p x y : Int) : Bool := if p = 0 then decide (0 < y) && (decide (lowT x y = x) && decide (lowB x y = y)) else decide (y = 1) && (decide (0 ≤ x) && decide (x < p))
def NumV (p : Int) (v : V) (H : Hp) (Q : VK) : Prop := match v with
  | .ref q => (∃ xs, H q = some (.tup xs) ∧ ((xs.length ≠ 2 ∧ xs.length < 100 ∧ Q (.bl false) H) ∨ ∃ a b, xs = [a, b] ∧ Th H a ∧ Th H b ∧ ((isI a && isI b) = false → Q (.bl false) H) ∧ ∀ x y, a = .int x → b = .int y → Sm x ∧ Sm y ∧ ∀ H', Kp H H' → Q (.bl (isn p x y)) H')) ∨
    ((∃ xs, H q = some (.lst xs)) ∧ Q (.bl false) H)
  | .int _ => Q (.bl false) H
  | .non => Q (.bl false) H
  | .bl _ => Q (.bl false) H
  | .str _ => Q (.bl false) H
  | _ => False
def spNum (C : Addr) : Sp := fun vs H Q _ => ∃ (f : Addr) (p : Int) (v : V), vs = [.ref f, v] ∧ FieldAt C H f p ∧ P0 p ∧ NumV p v H Q
def spLNum : Sp := fun vs H Q _ => ∃ (p : Int) (v : V), vs = [.int p, v] ∧ P0 p ∧ NumV p v H Q
def spLMake : Sp := fun vs H Q _ => ∃ p t b : Int, vs = [.int p, .int t, .int b] ∧ P0 p ∧ Sm t ∧ Sm b ∧ (if p = 0 then b ≠ 0 else b % p ≠ 0) ∧ (p = 0 ∨ (0 ≤ b ∧ b < p)) ∧ ∀ q H', Kp H H' → NumAt H' q (mkT p t b) (mkB p t b) → Q (.ref q) H'
def spDue : Sp := fun vs H Q _ => ∃ (p : Int) (v u : V), vs = [.int p, v, u] ∧ P0 p ∧ Th H v ∧ Th H u ∧ ((isI v && isI u) = false → Q .non H) ∧ ∀ t b, v = .int t → u = .int b → Sm t ∧ Sm b ∧ ((if p = 0 then b = 0 else b % p = 0) → Q .non H) ∧
  ((if p = 0 then b ≠ 0 else b % p ≠ 0) → ∀ q H', Kp H H' → NumAt H' q (mkT p t b) (mkB p t b) → Q (.ref q) H')
def spRoom (K : Frag) : Sp := fun vs H Q _ => ∃ (a : Addr) (ns : List Int) (k : Int), vs = [.ref a, .int k] ∧ SqL K H a (ns.map V.int) ∧ ns.length ≤ 63 ∧ 0 ≤ k ∧ k ≤ 60 ∧ ∀ l H', Kp H H' → H l = none → RoomAt H' l → Q (.ref l) H'
def spTake : Sp := fun vs H Q _ => ∃ (r : Addr) (n : Int), vs = [.ref r, .int n] ∧ 0 < n ∧ n ≤ 1000000000000000000 ∧ RoomAt H r ∧ ∀ v H', 0 ≤ v → v < n → RoomAt H' r → KpX r H H' → Q (.int v) H'
def spLLow : Sp := fun vs H Q _ => ∃ t b : Int, vs = [.int t, .int b] ∧ Sm t ∧ Sm b ∧ b ≠ 0 ∧ ∀ q H', Kp H H' → H q = none → NumAt H' q (lowT t b) (lowB t b) → Q (.ref q) H'
def spLPrime : Sp := fun vs H Q _ => ∃ r : Addr, vs = [.ref r] ∧ RoomAt H r ∧ ∀ p H', P0 p → RoomAt H' r → KpX r H H' → Q (.int p) H'
section
variable {K : Frag} {vs : List V} {H : Hp} {Q : VK} {E : XK}
abbrev g_is_whole : Gam := { gam0 with glo := [("int", .ty "int"), ("bool", .ty "bool")] }
theorem r_is_whole (h : spWhole vs H Q E) : dSs g_is_whole K m_is_whole (W0 E) (D0 Q) (start ["thing"] vs) H := by
  obtain ⟨v, rfl, h⟩ := h
  cases v with
  | int i => exact ⟨_, rfl, rfl, _, rfl, rfl, h⟩
  | non => exact ⟨_, rfl, rfl, h⟩
  | str s => exact ⟨_, rfl, rfl, h⟩
  | bl b => exact ⟨_, rfl, rfl, _, rfl, rfl, h⟩
  | ref p =>
    obtain ⟨⟨o, t, e, k⟩, h⟩ := h
    refine ⟨_, rfl, .inl (.inl ⟨o, t, e, k, rfl, ?_⟩)⟩
    rw [kind_cases k]
    exact h
  | _ => exact (show False from h).elim
theorem r__law_whole (h : spWhole vs H Q E) : dSs g_is_whole K m__law_whole (W0 E) (D0 Q) (start ["_law_thing"] vs) H := by
  obtain ⟨v, rfl, h⟩ := h
  cases v with
  | int i => exact ⟨_, rfl, rfl, _, rfl, rfl, h⟩
  | non => exact ⟨_, rfl, rfl, h⟩
  | str s => exact ⟨_, rfl, rfl, h⟩
  | bl b => exact ⟨_, rfl, rfl, _, rfl, rfl, h⟩
  | ref p =>
    obtain ⟨⟨o, t, e, k⟩, h⟩ := h
    refine ⟨_, rfl, .inl (.inl ⟨o, t, e, k, rfl, ?_⟩)⟩
    rw [kind_cases k]
    exact h
  | _ => exact (show False from h).elim
abbrev g_lowest (CN : Addr) : Gam := { gam0 with exc := [("NoNumber", CN)] }
theorem r_lowest {CN : Addr} (h : spLow CN vs H Q E) : dSs (g_lowest CN) K m_lowest (W0 E) (D0 Q) (start ["top", "bottom", "sign", "e", "one", "other"] vs) H := by
  obtain ⟨t, b, rfl, ht, hb, h0, h⟩ := h
  refine ⟨_, rfl, _, rfl, ?_⟩
  by_cases hz : b = 0
  · exact .inl ⟨by subst hz; rfl, fun d => wFrom_zero (x := "NoNumber") (C := CN) (show 3 < 6 by decide) rfl (h0 hz H (Kp.refl H)) d⟩
  · refine .inr ⟨?_, Sm.div ?_, _, rfl, _, rfl, _, _, rfl, ?_⟩
    · omega
    · show (absI b).natAbs < 2 ^ 1000; rw [absI_nat]; exact hb
    · refine ⟨fun m σ H' => H' = H ∧ ∃ x y : Int, m = y.natAbs ∧ σ = [some (.int t), some (.int b), some (.int (b.fdiv (absI b))), none, some (.int x), some (.int y)] ∧ 0 ≤ x ∧ 0 ≤ y ∧ Int.gcd x y = Int.gcd t b ∧ Sm x ∧ Sm y, ⟨_, rfl, _, _, rfl, rfl, ?_⟩, ?_⟩
      · exact start_gcd ht hb
      · rintro m σ H' ⟨rfl, x, y, rfl, rfl, h1, h2, h3, h4, h5⟩
        refine ⟨_, rfl, _, rfl, ?_⟩
        by_cases hy : y = 0
        · subst hy
          have hx : x = gcI t b := by
            unfold gcI
            rw [← h3, Int.gcd_zero_right]
            omega
          have hx0 : x ≠ 0 := by
            rw [hx]
            unfold gcI
            have := Int.gcd_ne_zero_right (a := t) hz
            omega
          refine ⟨_, rfl, _, rfl, Sm.mul ?_ ht, _, rfl, hx0, Sm.div h4, _, rfl, _, rfl, hx0, Sm.div h4, ?_, fun p hp => ?_⟩
          · exact sgn_small hz
          · exact two_le
          · subst hx
            exact h hz p _ (Kp.new hp) hp upd_same
        · have e : (!decide (y = 0)) = true := by simp [hy]
          refine ite_t e ?_
          refine ⟨fun σ' H2 => H2 = H' ∧ σ' = [some (.int t), some (.int b), some (.int (b.fdiv (absI b))), none, some (.int y), some (.int (x.fmod y))], ?_, _, rfl, _, rfl, _, rfl, hy, _, _, rfl, rfl, rfl⟩
          rintro σ' H2 ⟨rfl, rfl⟩
          obtain ⟨g1, g2, g3⟩ := step_gcd h1 h2 hy
          exact ⟨_, g2, rfl, y, _, rfl, rfl, h2, g1, g3.trans h3, h5, by unfold Sm at *; omega⟩
abbrev g_is_prime (ρ : Fs) : Gam := { gam0 with fn := [("is_whole", en ρ.is_whole ["thing"] spWhole 1)], glo := [("MOST_PRIME", .int 97)] }
theorem r_is_prime {ρ : Fs} (h : spPrime vs H Q E) : dSs (g_is_prime ρ) K m_is_prime (W0 E) (D0 Q) (start ["thing", "part"] vs) H := by
  obtain ⟨p, rfl, hp, h⟩ := h
  obtain ⟨q1, q2, q3, q4⟩ := ps_ok p hp
  refine ⟨_, rfl, _, rfl, _, rfl, _, rfl, ?_⟩
  refine ite_t (decide_eq_true q1) ⟨_, rfl, ?_⟩
  refine ite_f (by show (!decide (p ≤ 97)) = false; rw [decide_eq_true q2]; rfl) ⟨_, rfl, _, _, rfl, ⟨by decide, by decide, by omega, by omega⟩, fun D hD => ?_⟩
  refine lc_filter (fun k => decide (p % k = 0)) (by rw [sizeLine_eq]; omega) (show 1 < 2 by decide) hD (fun k k1 k2 H' R kp r => ?_) (fun H' kp e => ?_)
  · refine ⟨_, rfl, _, rfl, by omega, _, rfl, ?_⟩
    rw [Int.fmod_eq_emod_of_nonneg _ (by omega)]
    exact r
  · rw [q4] at e
    refine ⟨Nat.zero_le _, fun l hl => ?_⟩
    have ne : D ≠ l := ne_of_none e hl
    exact .inr (.inl ⟨.list [], .list [], .lst (.inl (.inl (by rw [upd_ne ne]; exact e))) .nil, .lst (.inl (.inl upd_same)) .nil, rfl, rfl, h _ (kp.trans (Kp.new hl))⟩)
abbrev g_init (ρ : Fs) (C CF : Addr) : Gam := { gam0 with fn := [("is_whole", en ρ.is_whole ["thing"] spWhole 1), ("is_prime", en ρ.is_prime ["thing"] spPrime 2)], exc := [("NoField", CF)], att := fun a f => a = C ∧ f = "own_prime" }
theorem r_init {ρ : Fs} {C CF : Addr} (h : spInit C vs H Q E) : dSs (g_init ρ C CF) K m_Field___init__ (W0 E) (D0 Q) (start ["self", "prime"] vs) H := by
  obtain ⟨x, dx, p, rfl, hx, hp, h⟩ := h
  have fin : ∀ H', Kp H H' → dSs (g_init ρ C CF) K (tlN 1 m_Field___init__) (W0 E) (D0 Q) (start ["self", "prime"] [.ref x, .int p]) H' := fun H' kp =>
    ⟨_, rfl, _, rfl, x, C, dx, [], rfl, kp _ _ hx, ⟨rfl, rfl⟩, by decide, h _ (kp.kx.trans KpX.set) upd_same⟩
  refine ⟨_, rfl, _, rfl, _, rfl, _, rfl, ?_⟩
  rcases hp with hp | hp
  · subst hp
    exact fin H (Kp.refl H)
  · obtain ⟨q1, q2, _⟩ := ps_ok p hp
    refine ite_t (by show (!decide (p = 0)) = true; rw [decide_eq_false (by omega)]; rfl) ⟨_, rfl, _, rfl, hp, fun H' kp => fin H' kp⟩
abbrev g_room : Gam := gam0
theorem r_room (h : spRoom K vs H Q E) : dSs g_room K m__law_room (W0 E) (D0 Q) (start ["_law_script", "_law_k", "_law_cell", "_law_left"] vs) H := by
  obtain ⟨a, ns, k, rfl, hs, hn, k0, k1, h⟩ := h
  have fin : ∀ c : Int, dSs g_room K (tlN 2 m__law_room) (W0 E) (D0 Q) [some (.ref a), some (.int k), some (.int c), none] H := fun c => by
    have fin2 : ∀ l : Int, 0 ≤ l → dSs g_room K (tlN 4 m__law_room) (W0 E) (D0 Q) [some (.ref a), some (.int k), some (.int c), some (.int l)] H := fun l hl => by
      have bk : Sm k := Bd.mono (j := 7) (show k.natAbs < 2 ^ 7 by omega) (by decide)
      have bkk : Sm (104729 * k) := Bd.mono (j := 40) (show (104729 * k).natAbs < 2 ^ 40 by omega) (by decide)
      have kk : 0 ≤ k * k ∧ k * k ≤ 3600 := ⟨Int.mul_nonneg k0 k0, Int.mul_le_mul k1 k1 k0 (by decide)⟩
      have e : 104729 * k * k = 104729 * (k * k) := Int.mul_assoc ..
      have c0 := Int.emod_nonneg c (b := 2147483629) (by decide)
      have c1 := Int.emod_lt_of_pos c (b := 2147483629) (by decide)
      have bb : Sm (c.fmod 2147483629 + 104729 * k * k + 7) := Bd.mono (j := 60) (show _ < 2 ^ 60 by rw [Int.fmod_eq_emod_of_nonneg _ (by decide), e]; omega) (by decide)
      have d0 := Int.emod_nonneg ((c.fmod 2147483629 + 104729 * k * k + 7) * 48271) (b := 2147483647) (by decide)
      have d1 := Int.emod_lt_of_pos ((c.fmod 2147483629 + 104729 * k * k + 7) * 48271) (b := 2147483647) (by decide)
      refine ⟨_, rfl, _, rfl, by decide, _, rfl, (show Sm 104729 by unfold Sm; decide).mul bk, _, rfl, bkk.mul bk, bb.mul (by unfold Sm; decide), by decide, two_le, fun q hq => h q _ (Kp.new hq) hq ⟨l, _, upd_same, hl, ?_, ?_⟩⟩
      · rw [Int.fmod_eq_emod_of_nonneg _ (by decide)]
        exact d0
      · rw [Int.fmod_eq_emod_of_nonneg _ (by decide)]
        exact d1
    refine ⟨_, rfl, ⟨by decide, by decide, by decide⟩, _, rfl, ?_⟩
    by_cases hc : (10 : Int) ^ (18 : Int).toNat ≤ c
    · refine ite_t (decide_eq_true hc) ⟨_, rfl, fin2 c ?_⟩
      have : (0 : Int) ≤ 10 ^ (18 : Int).toNat := by decide
      omega
    · exact ite_f (decide_eq_false hc) (fin2 0 (by decide))
  refine ⟨_, rfl, _, rfl, _, Or.inl ⟨_, hs, rfl⟩, _, rfl, ?_⟩
  rw [List.length_map]
  by_cases hk : k < ns.length
  · refine ite_t (decide_eq_true hk) ⟨_, rfl, _, rfl, _, _, .inl hs, ?_, fin (ns[k.toNat]'(by omega))⟩
    rw [atI_of k0 (by rw [List.length_map]; exact hk), List.getElem?_map, List.getElem?_eq_getElem (by omega)]
    rfl
  · exact ite_f (decide_eq_false hk) (fin 0)
theorem r_take (h : spTake vs H Q E) : dSs gam0 K m__law_take (W0 E) (D0 Q) (start ["_law_room_here", "_law_many", "_law_found"] vs) H := by
  obtain ⟨r, n, rfl, n0, n1, ⟨l, m, hr, l0, m0, m1⟩, h⟩ := h
  refine ⟨_, rfl, _, _, .inl (.inl (.inl hr)), rfl, _, rfl, ?_⟩
  have sn : Sm n := Bd.mono (j := 60) (show n.natAbs < 2 ^ 60 by omega) (by decide)
  by_cases hl : 0 < l
  · refine ite_t (decide_eq_true hl) ⟨_, rfl, _, _, .inl (.inl (.inl hr)), rfl, _, rfl, by omega, _, rfl, _, _, .inl (.inl (.inl hr)), rfl, _, rfl, by omega, sn.div, _, rfl, ?_⟩
    refine ⟨_, _, _, _, rfl, rfl, hr, rfl, _, rfl, ?_⟩
    have e : l.fmod n = l % n := Int.fmod_eq_emod_of_nonneg _ (by omega)
    have d : 0 ≤ l.fdiv n := by rw [Int.fdiv_eq_ediv_of_nonneg _ (by omega)]; exact Int.ediv_nonneg l0 (by omega)
    exact h _ _ (by rw [e]; exact Int.emod_nonneg _ (by omega)) (by rw [e]; exact Int.emod_lt_of_pos _ n0) ⟨_, _, upd_same, d, m0, m1⟩ KpX.set
  · have nxt : ∀ m : Int, 0 ≤ m → m < 2147483647 → ∃ m' : Int, (m * 48271 + 39373).fmod 2147483647 = m' ∧ 0 ≤ m' ∧ m' < 2147483647 := fun m a b => ⟨_, rfl, by rw [Int.fmod_eq_emod_of_nonneg _ (by decide)]; exact Int.emod_nonneg _ (by decide), by rw [Int.fmod_eq_emod_of_nonneg _ (by decide)]; exact Int.emod_lt_of_pos _ (by decide)⟩
    have sm : ∀ m : Int, 0 ≤ m → m < 2147483647 → Sm m := fun m a b => Bd.mono (j := 31) (show m.natAbs < 2 ^ 31 by omega) (by decide)
    obtain ⟨m', em, a0, a1⟩ := nxt m m0 m1
    refine ite_f (decide_eq_false hl) ⟨_, rfl, _, _, .inl (.inl (.inl hr)), rfl, (sm m m0 m1).mul (by unfold Sm; decide), by decide, _, rfl, _, _, _, _, rfl, rfl, hr, rfl, ?_⟩
    rw [em]
    have hr1 : upd H r (.lst [.int l, .int m']) r = some (.lst [.int l, .int m']) := upd_same
    have fin : ∀ (f : Int) (H' : Hp), RoomAt H' r → KpX r H H' → dSs gam0 K (tlN 4 m__law_take) (W0 E) (D0 Q) [some (.ref r), some (.int n), some (.int f)] H' := fun f H' hR kp => by
      have e : f.fmod n = f % n := Int.fmod_eq_emod_of_nonneg _ (by omega)
      exact ⟨_, rfl, _, rfl, by omega, h _ _ (by rw [e]; exact Int.emod_nonneg _ (by omega)) (by rw [e]; exact Int.emod_lt_of_pos _ n0) hR kp⟩
    refine ⟨_, rfl, _, _, .inl (.inl (.inl hr1)), rfl, _, rfl, _, _, .inl (.inl (.inl hr1)), rfl, (sm m' a0 a1).mul (sm m' a0 a1), by decide, by decide, PyProof.noPylong_small (by decide), _, rfl, ⟨by decide, by decide, by decide⟩, _, rfl, ?_⟩
    by_cases hn : (10 : Int) ^ (6 : Int).toNat < n
    · obtain ⟨m2, em2, b0, b1⟩ := nxt m' a0 a1
      refine ite_t (decide_eq_true hn) ⟨_, rfl, _, _, .inl (.inl (.inl hr1)), rfl, (sm m' a0 a1).mul (by unfold Sm; decide), by decide, _, rfl, _, _, _, _, rfl, rfl, hr1, rfl, ?_⟩
      rw [em2]
      have hr2 : upd (upd H r (.lst [.int l, .int m'])) r (.lst [.int l, .int m2]) r = some (.lst [.int l, .int m2]) := upd_same
      have c0 : 0 ≤ (m' * m').fmod 2147483629 ∧ (m' * m').fmod 2147483629 < 2147483629 := by
        rw [Int.fmod_eq_emod_of_nonneg _ (by decide)]
        exact ⟨Int.emod_nonneg _ (by decide), Int.emod_lt_of_pos _ (by decide)⟩
      refine ⟨_, rfl, Sm.mul ?_ (by unfold Sm; decide), _, rfl, _, _, .inl (.inl (.inl hr2)), rfl, _, rfl, _, _, .inl (.inl (.inl hr2)), rfl, (sm m2 b0 b1).mul (sm m2 b0 b1), by decide, fin _ _ ⟨l, m2, upd_same, l0, b0, b1⟩ (KpX.set.trans KpX.set)⟩
      refine Bd.mono (j := 31) ?_ (by decide)
      show (((m' * m').fmod 2147483629).fdiv 16).natAbs < 2 ^ 31
      rw [Int.fdiv_eq_ediv_of_nonneg _ (by decide)]
      omega
    · exact ite_f (decide_eq_false hn) (fin _ _ ⟨l, m', upd_same, l0, a0, a1⟩ KpX.set)
theorem r_llow (h : spLLow vs H Q E) : dSs gam0 K m__law_lowest (W0 E) (D0 Q) (start ["_law_top", "_law_base", "_law_one", "_law_other", "_law_sign"] vs) H := by
  obtain ⟨t, b, rfl, ht, hb, hz, h⟩ := h
  refine ⟨_, rfl, _, rfl, ?_⟩
  refine ⟨fun m σ H' => H' = H ∧ ∃ x y : Int, m = y.natAbs ∧ σ = [some (.int t), some (.int b), some (.int x), some (.int y), none] ∧ 0 ≤ x ∧ 0 ≤ y ∧ Int.gcd x y = Int.gcd t b ∧ Sm x ∧ Sm y, ⟨_, rfl, _, _, rfl, rfl, start_gcd ht hb⟩, ?_⟩
  rintro m σ H' ⟨rfl, x, y, rfl, rfl, h1, h2, h3, h4, h5⟩
  refine ⟨_, rfl, _, rfl, ?_⟩
  by_cases hy : y = 0
  · subst hy
    have hx : x = gcI t b := by
      unfold gcI
      rw [← h3, Int.gcd_zero_right]
      omega
    have hx0 : x ≠ 0 := by
      rw [hx]
      unfold gcI
      have := Int.gcd_ne_zero_right (a := t) hz
      omega
    have ex : lowT t b = ((if b < 0 then (-1 : Int) else 1) * t).fdiv x := by
      unfold lowT
      rw [sgn_eq hz, hx]
    have ey : lowB t b = (absI b).fdiv x := by rw [hx]; rfl
    refine ⟨two_le, fun l hl => ⟨_, rfl, ?_⟩⟩
    have el : upd H' l (.lst [.int 1, .int (-1)]) l = some (.lst [.int 1, .int (-1)]) := upd_same
    have fin : ∀ s : Int, s = (if b < 0 then (-1 : Int) else 1) → dSs gam0 K (tlN 4 m__law_lowest) (W0 E) (D0 Q) [some (.int t), some (.int b), some (.int x), some (.int 0), some (.int s)] (upd H' l (.lst [.int 1, .int (-1)])) := fun s es => by
      refine ⟨_, rfl, _, rfl, Sm.mul ?_ ht, _, rfl, hx0, Sm.div h4, _, rfl, _, rfl, hx0, Sm.div h4, two_le, fun p hp => ?_⟩
      · rw [es]
        unfold Sm
        split <;> decide
      · subst es
        have q := h p _ ((Kp.new hl).trans (Kp.new hp)) (by
          by_cases e : p = l
          · rw [e]; exact hl
          · rw [upd_ne e] at hp; exact hp) upd_same
        rw [ex, ey] at q
        exact q
    refine ⟨_, .int (if b < 0 then (-1 : Int) else 1), .inl (.inl (.inl el)), ?_, fin _ rfl⟩
    by_cases hb0 : b < 0
    · rw [if_pos hb0]
      show atI _ (if decide (b < 0) = true then (1 : Int) else 0) = _
      rw [decide_eq_true hb0]
      rfl
    · rw [if_neg hb0]
      show atI _ (if decide (b < 0) = true then (1 : Int) else 0) = _
      rw [decide_eq_false hb0]
      rfl
  · have e : (!decide (y = 0)) = true := by simp [hy]
    refine ite_t e ?_
    refine ⟨fun σ' H2 => H2 = H' ∧ σ' = [some (.int t), some (.int b), some (.int y), some (.int (x.fmod y)), none], ?_, _, rfl, _, rfl, _, rfl, hy, _, _, rfl, rfl, rfl⟩
    rintro σ' H2 ⟨rfl, rfl⟩
    obtain ⟨g1, g2, g3⟩ := step_gcd h1 h2 hy
    exact ⟨_, g2, rfl, y, _, rfl, rfl, h2, g1, g3.trans h3, h5, by unfold Sm at *; omega⟩
abbrev eTake (ρ : Fs) : FnE := en ρ._law_take ["_law_room_here", "_law_many"] spTake 1
abbrev g_lprime (ρ : Fs) : Gam := { gam0 with fn := [("_law_take", eTake ρ)] }
theorem pickI (L : List Int) {v : Int} (h0 : 0 ≤ v) (h1 : v < L.length) : ∃ p ∈ L, atI (L.map V.int) v = some (.int p) :=
  ⟨L[v.toNat]'(by omega), List.getElem_mem _, by rw [atI_of h0 (by rw [List.length_map]; exact h1), List.getElem?_map, List.getElem?_eq_getElem (by omega)]; rfl⟩
theorem RoomAt.kp {H H' : Hp} {r : Addr} (h : RoomAt H r) (k : Kp H H') : RoomAt H' r := by
  obtain ⟨l, m, e, q⟩ := h
  exact ⟨l, m, k _ _ e, q⟩
theorem RoomAt.ne {H : Hp} {r l : Addr} (h : RoomAt H r) (n : H l = none) : l ≠ r := by
  obtain ⟨_, _, e, _⟩ := h
  exact (ne_of_none e n).symm
theorem r_lprime {ρ : Fs} (h : spLPrime vs H Q E) : dSs (g_lprime ρ) K m__law_prime (W0 E) (D0 Q) (start ["_law_room_here", "_law_at", "_law_some"] vs) H := by
  obtain ⟨r, rfl, hr, h⟩ := h
  refine ⟨_, rfl, r, 9, rfl, by decide, by decide, hr, fun v H1 v0 v1 hr1 k1 => ⟨_, rfl, _, rfl, ?_⟩⟩
  by_cases h8 : v = 8
  · refine ite_t (decide_eq_true h8) ⟨by rw [sizeLine_eq]; show (20 : Nat) ≤ _; decide, fun l hl => ⟨_, rfl, _, rfl, r, 20, rfl, by decide, by decide, ?_, fun u H2 u0 u1 hr2 k2 => ?_⟩⟩
    · exact hr1.kp (Kp.new hl)
    · have e := k2 l _ (hr1.ne hl) upd_same
      obtain ⟨p, hp, ep⟩ := pickI [11, 13, 17, 19, 23, 29, 31, 37, 41, 43, 47, 53, 59, 61, 67, 71, 73, 79, 83, 89] u0 u1
      have hP : ∀ p ∈ ([11, 13, 17, 19, 23, 29, 31, 37, 41, 43, 47, 53, 59, 61, 67, 71, 73, 79, 83, 89] : List Int), p = 0 ∨ p ∈ ps := by decide
      exact ⟨_, _, .inl (.inl (.inl e)), ep, h p H2 (hP p hp) hr2 (k1.trans ((Kp.new hl).kx.trans k2))⟩
  · refine ite_f (decide_eq_false h8) ⟨by rw [sizeLine_eq]; show (8 : Nat) ≤ _; decide, fun l hl => ⟨_, rfl, ?_⟩⟩
    obtain ⟨p, hp, ep⟩ := pickI [0, 0, 2, 3, 5, 7, 97, 0] v0 (show v < 8 by omega)
    have hP : ∀ p ∈ ([0, 0, 2, 3, 5, 7, 97, 0] : List Int), p = 0 ∨ p ∈ ps := by decide
    exact ⟨_, _, .inl (.inl (.inl upd_same)), ep, h p _ (hP p hp) (hr1.kp (Kp.new hl)) (k1.trans (Kp.new hl).kx)⟩
end
end K02
namespace K02
open PySem PySem.Spec PyProof.Rows L2 Rf NumP
section
variable {K : Frag} {vs : List V} {H : Hp} {Q : VK} {E : XK}
abbrev eFn (ρ : Fs) (CN : Addr) : List (Str × FnE) := [("is_whole", en ρ.is_whole ["thing"] spWhole 1), ("lowest", en ρ.lowest ["top", "bottom"] (spLow CN) 1)]
abbrev g_made (ρ : Fs) (C CN : Addr) : Gam := { gam0 with fn := eFn ρ CN, exc := [("NoNumber", CN)], att := fun a f => a = C ∧ f = "own_prime" }
theorem r_made {ρ : Fs} {C CN : Addr} (h : spMade C CN vs H Q E) : dSs (g_made ρ C CN) K m_Field_made (W0 E) (D0 Q) (start ["self", "top", "bottom", "k"] vs) H := by
  obtain ⟨f, p, v, u, rfl, ⟨dx, hf⟩, hp, tv, tu, hno, hyes⟩ := h
  cases v with
  | int t =>
    cases u with
    | int b =>
      obtain ⟨ht, hb, h0, h⟩ := hyes t b rfl rfl
      refine ⟨_, rfl, _, rfl, _, rfl, _, rfl, _, rfl, f, C, dx, _, _, rfl, hf, ⟨rfl, rfl⟩, fld_look p, _, rfl, ?_⟩
      by_cases hz : p = 0
      · subst hz
        rw [if_pos rfl] at h0 h
        have e1 : mkT 0 t b = lowT t b := if_pos rfl
        have e2 : mkB 0 t b = lowB t b := if_pos rfl
        rw [e1, e2] at h
        exact ⟨_, rfl, _, rfl, t, b, rfl, ht, hb, h0, fun hb q H' kp _ n => h hb q H' kp n⟩
      · obtain ⟨p1, p2⟩ := hp.rng
        have hps : p ∈ ps := hp.resolve_left hz
        have pp : 0 < p := by omega
        rw [if_neg hz] at h0 h
        have b0 := Int.emod_nonneg b hz
        have b1 := Int.emod_lt_of_pos b pp
        refine ite_f (decide_eq_false hz) ⟨_, rfl, _, rfl, f, C, dx, _, _, rfl, hf, ⟨rfl, rfl⟩, fld_look p, pp, _, rfl, _, rfl, ?_⟩
        by_cases hb0 : b % p = 0
        · exact ite_t (decide_eq_true hb0) (h0 hb0 H (Kp.refl H))
        · have h' := h hb0
          have e2 : mkB p t b = 1 := if_neg hz
          refine ite_f (decide_eq_false hb0) ⟨_, rfl, _, rfl, ?_⟩
          by_cases hb1 : b % p = 1
          · have e1 : mkT p t b = t % p := by unfold mkT; rw [if_neg hz, if_pos hb1]
            rw [e1, e2] at h'
            refine ite_f (by show (!decide (b % p = 1)) = false; rw [decide_eq_true hb1]; rfl) ⟨_, rfl, _, rfl, f, C, dx, _, _, rfl, hf, ⟨rfl, rfl⟩, fld_look p, hz, two_le, fun q hq => ?_⟩
            rw [Int.fmod_eq_emod_of_nonneg _ p1]
            exact h' q _ (Kp.new hq) upd_same
          · have e1 : mkT p t b = (t * inv p (b % p)) % p := by unfold mkT; rw [if_neg hz, if_neg hb1]
            rw [e1, e2] at h'
            obtain ⟨r, er, _, i1, i2⟩ := inv_ok hps (b := b % p) (by omega) b1
            refine ite_t (by show (!decide (b % p = 1)) = true; rw [decide_eq_false hb1]; rfl) ⟨_, rfl, _, rfl, f, C, dx, _, _, rfl, hf, ⟨rfl, rfl⟩, fld_look p, _, _, rfl, ⟨by decide, by decide, by omega, by omega⟩, fun D hD => ?_⟩
            refine lc_filter (fun k => decide ((b % p * k) % p = 1)) (by rw [sizeLine_eq]; omega) (show 3 < 4 by decide) hD (fun k k1 k2 H' R kp r => ?_) (fun H' kp e => ?_)
            · refine ⟨_, rfl, _, rfl, Sm.mul ?_ ?_, _, rfl, f, C, dx, _, _, rfl, kp _ _ hf, ⟨rfl, rfl⟩, fld_look p, hz, _, rfl, ?_⟩
              · show (b % p).natAbs < 2 ^ 1000
                exact (Bd.mono (j := 7) (show (b % p).natAbs < 2 ^ 7 by omega) (by decide))
              · exact (Bd.mono (j := 7) (show k.natAbs < 2 ^ 7 by omega) (by decide))
              · rw [Int.fmod_eq_emod_of_nonneg _ p1]
                exact r
            · have e' : H' D = some (.lst ((invs p (b % p)).map V.int)) := e
              rw [er] at e'
              refine ⟨_, .int (inv p (b % p)), .inl (.inl (.inl e')), atI_head _ _, Sm.mul ht ?_, _, rfl, _, rfl, f, C, dx, _, _, rfl, kp _ _ hf, ⟨rfl, rfl⟩, fld_look p, hz, two_le, fun q hq => ?_⟩
              · exact (Bd.mono (j := 7) (show (inv p (b % p)).natAbs < 2 ^ 7 by omega) (by decide))
              · rw [Int.fmod_eq_emod_of_nonneg _ p1]
                exact h' q _ (kp.trans (Kp.new hq)) upd_same
    | non => exact ⟨_, rfl, _, rfl, _, rfl, _, rfl, hno rfl H (Kp.refl H)⟩
    | bl b => exact ⟨_, rfl, _, rfl, _, rfl, _, rfl, hno rfl H (Kp.refl H)⟩
    | str b => exact ⟨_, rfl, _, rfl, _, rfl, _, rfl, hno rfl H (Kp.refl H)⟩
    | ref b => exact ⟨_, rfl, _, rfl, _, rfl, _, rfl, tu, hno rfl H (Kp.refl H)⟩
    | _ => exact (show False from tu).elim
  | non => exact ⟨_, rfl, _, rfl, hno rfl H (Kp.refl H)⟩
  | bl b => exact ⟨_, rfl, _, rfl, hno rfl H (Kp.refl H)⟩
  | str b => exact ⟨_, rfl, _, rfl, hno rfl H (Kp.refl H)⟩
  | ref b => exact ⟨_, rfl, _, rfl, tv, hno rfl H (Kp.refl H)⟩
  | _ => exact (show False from tv).elim
abbrev eLow (ρ : Fs) : FnE := en ρ._law_lowest ["_law_top", "_law_base"] spLLow 1
abbrev g_lmake (ρ : Fs) : Gam := { gam0 with fn := [("_law_lowest", eLow ρ)] }
theorem r_lmake {ρ : Fs} (h : spLMake vs H Q E) : dSs (g_lmake ρ) K m__law_make (W0 E) (D0 Q) (start ["_law_prime_here", "_law_top", "_law_base", "_law_k"] vs) H := by
  obtain ⟨p, t, b, rfl, hp, ht, hb, hc, hr, h⟩ := h
  refine ⟨_, rfl, _, rfl, ?_⟩
  by_cases hz : p = 0
  · subst hz
    rw [if_pos rfl] at hc
    have e1 : mkT 0 t b = lowT t b := if_pos rfl
    have e2 : mkB 0 t b = lowB t b := if_pos rfl
    rw [e1, e2] at h
    exact ⟨_, rfl, _, rfl, t, b, rfl, ht, hb, hc, fun q H' kp _ n => h q H' kp n⟩
  · rw [if_neg hz] at hc
    obtain ⟨p0, p1⟩ := hp.rng
    obtain ⟨r0, r1⟩ := hr.resolve_left hz
    have hps : p ∈ ps := hp.resolve_left hz
    have eb : b % p = b := Int.emod_eq_of_lt r0 r1
    have e2 : mkB p t b = 1 := if_neg hz
    refine ite_f (decide_eq_false hz) ⟨_, rfl, _, rfl, hz, _, rfl, ?_⟩
    by_cases h1 : b % p = 1
    · have e1 : mkT p t b = t % p := by unfold mkT; rw [if_neg hz, if_pos h1]
      rw [e1, e2] at h
      refine ite_f (by show (!decide (b.fmod p = 1)) = false; rw [Int.fmod_eq_emod_of_nonneg _ p0, decide_eq_true h1]; rfl) ⟨_, rfl, _, rfl, hz, two_le, fun q hq => ?_⟩
      rw [Int.fmod_eq_emod_of_nonneg _ p0]
      exact h q _ (Kp.new hq) upd_same
    · have e1 : mkT p t b = (t * inv p (b % p)) % p := by unfold mkT; rw [if_neg hz, if_neg h1]
      rw [e1, e2] at h
      rw [eb] at h hc h1
      obtain ⟨r, er, _, i1, i2⟩ := inv_ok hps (b := b) (by omega) r1
      refine ite_t (by show (!decide (b.fmod p = 1)) = true; rw [Int.fmod_eq_emod_of_nonneg _ p0, eb, decide_eq_false h1]; rfl) ⟨_, rfl, _, rfl, _, _, rfl, ⟨by decide, by decide, by omega, by omega⟩, fun D hD => ?_⟩
      refine lc_filter (fun k => decide ((b * k) % p = 1)) (by rw [sizeLine_eq]; omega) (show 3 < 4 by decide) hD (fun k k1 k2 H' R kp r => ?_) (fun H' kp e => ?_)
      · refine ⟨_, rfl, _, rfl, Sm.mul hb ?_, _, rfl, hz, _, rfl, ?_⟩
        · exact (Bd.mono (j := 7) (show k.natAbs < 2 ^ 7 by omega) (by decide))
        · rw [Int.fmod_eq_emod_of_nonneg _ p0]
          exact r
      · have e' : H' D = some (.lst ((invs p b).map V.int)) := e
        rw [er] at e'
        refine ⟨_, .int (inv p b), .inl (.inl (.inl e')), atI_head _ _, Sm.mul ht ?_, _, rfl, _, rfl, hz, two_le, fun q hq => ?_⟩
        · exact (Bd.mono (j := 7) (show (inv p b).natAbs < 2 ^ 7 by omega) (by decide))
        · rw [Int.fmod_eq_emod_of_nonneg _ p0]
          exact h q _ (kp.trans (Kp.new hq)) upd_same
abbrev g_due (ρ : Fs) : Gam := { gam0 with fn := [("_law_whole", en ρ._law_whole ["_law_thing"] spWhole 1), ("_law_make", en ρ._law_make ["_law_prime_here", "_law_top", "_law_base"] spLMake 2)] }
theorem r_due {ρ : Fs} (h : spDue vs H Q E) : dSs (g_due ρ) K m__law_due (W0 E) (D0 Q) (start ["_law_prime_here", "_law_top", "_law_base"] vs) H := by
  obtain ⟨p, v, u, rfl, hp, tv, tu, hno, hyes⟩ := h
  cases v with
  | int t =>
    cases u with
    | int b =>
      obtain ⟨ht, hb, h0, h⟩ := hyes t b rfl rfl
      obtain ⟨p0, p1⟩ := hp.rng
      refine ⟨_, rfl, _, rfl, _, rfl, _, rfl, _, rfl, _, rfl, ?_⟩
      by_cases hz : 0 < p
      · have hz' : p ≠ 0 := by omega
        rw [if_neg hz'] at h0 h
        have ef : b.fmod p = b % p := Int.fmod_eq_emod_of_nonneg _ p0
        refine ite_t (decide_eq_true hz) ⟨_, rfl, _, rfl, hz', _, rfl, ?_⟩
        by_cases hb0 : b % p = 0
        · exact ite_t (by show decide (b.fmod p = 0) = true; rw [ef]; exact decide_eq_true hb0) (h0 hb0)
        · have hbn : b ≠ 0 := fun e => hb0 (by rw [e]; exact Int.zero_emod p)
          refine ite_f (by show decide (b.fmod p = 0) = false; rw [ef]; exact decide_eq_false hb0) ⟨_, rfl, _, rfl, ?_⟩
          refine ite_f (decide_eq_false hbn) ⟨_, rfl, _, rfl, ?_⟩
          have b0 := Int.emod_nonneg b hz'
          have b1 := Int.emod_lt_of_pos b hz
          have t0 := Int.emod_nonneg t hz'
          have t1 := Int.emod_lt_of_pos t hz
          have eb : b % p % p = b % p := Int.emod_emod _ _
          have e1 : mkT p (t % p) (b % p) = mkT p t b := by
            unfold mkT
            rw [if_neg hz', if_neg hz', eb, Int.emod_emod]
            split
            · rfl
            · rw [Int.mul_emod, Int.emod_emod, ← Int.mul_emod]
          have e2 : mkB p (t % p) (b % p) = mkB p t b := by
            unfold mkB
            rw [if_neg hz', if_neg hz']
          refine ite_t (decide_eq_true hz) ⟨_, rfl, _, rfl, _, rfl, hz', _, rfl, _, rfl, hz', p, t % p, b % p, ?_, hp, Bd.mono (j := 7) (show (t % p).natAbs < 2 ^ 7 by omega) (by decide), Bd.mono (j := 7) (show (b % p).natAbs < 2 ^ 7 by omega) (by decide), by rw [if_neg hz', eb]; exact hb0, .inr ⟨b0, b1⟩, fun q H' kp n => ?_⟩
          · show [V.int p, V.int (t.fmod p), V.int (b.fmod p)] = _
            rw [ef, Int.fmod_eq_emod_of_nonneg _ p0]
          · rw [e1, e2] at n
            exact h hb0 q H' kp n
      · have hz0 : p = 0 := by omega
        subst hz0
        rw [if_pos rfl] at h0 h
        refine ite_f (decide_eq_false hz) ⟨_, rfl, _, rfl, ?_⟩
        by_cases hb0 : b = 0
        · exact ite_t (decide_eq_true hb0) (h0 hb0)
        · refine ite_f (decide_eq_false hb0) ⟨_, rfl, _, rfl, ?_⟩
          exact ite_f rfl ⟨_, rfl, _, rfl, 0, t, b, rfl, hp, ht, hb, hb0, .inl rfl, h hb0⟩
    | non => exact ⟨_, rfl, _, rfl, _, rfl, _, rfl, hno rfl⟩
    | bl b => exact ⟨_, rfl, _, rfl, _, rfl, _, rfl, hno rfl⟩
    | str b => exact ⟨_, rfl, _, rfl, _, rfl, _, rfl, hno rfl⟩
    | ref b => exact ⟨_, rfl, _, rfl, _, rfl, _, rfl, tu, hno rfl⟩
    | _ => exact (show False from tu).elim
  | non => exact ⟨_, rfl, _, rfl, hno rfl⟩
  | bl b => exact ⟨_, rfl, _, rfl, hno rfl⟩
  | str b => exact ⟨_, rfl, _, rfl, hno rfl⟩
  | ref b => exact ⟨_, rfl, _, rfl, tv, hno rfl⟩
  | _ => exact (show False from tv).elim
theorem kind_tup {o : HO} {t : String} (h : kindO o = some t) : isiB t "tuple" = decide (t = "tuple") := by
  cases o <;> cases h <;> rfl
abbrev g_num (ρ : Fs) (C CN : Addr) : Gam := { gam0 with fn := eFn ρ CN, glo := [("tuple", .ty "tuple")], att := fun a f => a = C ∧ f = "own_prime" }
theorem eqv2 (x y z w : Int) : PyData.eqv (.tuple [.int x, .int y]) (.tuple [.int z, .int w]) = (decide (x = z) && decide (y = w)) := by
  simp only [PyData.eqv, PyData.eqvAll, Bool.and_true]
  rfl
theorem Dp.num {q : Addr} {x y : Int} (h : NumAt H q x y) : Dp K H (.ref q) (.tuple [.int x, .int y]) := .tup (.inl (.inl h)) (.cons (.int x) (.cons (.int y) .nil))
theorem r_num {ρ : Fs} {C CN : Addr} (h : spNum C vs H Q E) : dSs (g_num ρ C CN) K m_Field_is_number (W0 E) (D0 Q) (start ["self", "thing"] vs) H := by
  obtain ⟨f, p, v, rfl, ⟨dx, hf⟩, hp, h⟩ := h
  cases v with
  | ref q =>
    rcases h with ⟨xs, hq, h⟩ | ⟨⟨xs, hq⟩, h⟩
    · have hqT : SqT K H q xs := .inl (.inl hq)
      rcases h with ⟨h2, h3, h⟩ | ⟨a, b, rfl, ta, tb, hno, hyes⟩
      · refine ⟨_, rfl, .inl (.inl ⟨_, _, hq, rfl, rfl, _, rfl, _, .inr ⟨_, hqT, rfl⟩, _, rfl, ?_⟩)⟩
        exact ite_t (by show (!decide ((xs.length : Int) = 2)) = true; rw [decide_eq_false (by omega)]; rfl) h
      · have pre : ∀ {R : VK}, True := fun {_} => trivial
        cases a with
        | int x =>
          cases b with
          | int y =>
            obtain ⟨sx, sy, h⟩ := hyes x y rfl rfl
            refine ⟨_, rfl, .inl (.inl ⟨_, _, hq, rfl, rfl, _, rfl, _, .inr ⟨_, hqT, rfl⟩, _, rfl, _, rfl, _, _, .inr hqT, rfl, _, rfl, _, rfl, _, _, .inr hqT, rfl, _, rfl, _, rfl, f, C, dx, _, _, rfl, hf, ⟨rfl, rfl⟩, fld_look p, _, rfl, ?_⟩)⟩
            by_cases hz : p = 0
            · subst hz
              refine ite_f rfl ⟨_, rfl, _, _, .inr hqT, rfl, ?_⟩
              by_cases hy : 0 < y
              · refine ite_t (decide_eq_true hy) ⟨_, rfl, _, _, .inr hqT, rfl, _, rfl, _, _, .inr hqT, rfl, x, y, rfl, sx, sy, fun e => absurd e (by omega), fun _ r H' kp _ hr => ⟨_, rfl, ?_⟩⟩
                refine .inr (.inl ⟨_, _, Dp.num hr, Dp.num (kp _ _ hq), rfl, rfl, ?_⟩)
                have q := h H' kp
                rw [eqv2]
                unfold isn at q
                rw [if_pos rfl, decide_eq_true hy, Bool.true_and] at q
                exact q
              · refine ite_f (decide_eq_false hy) ?_
                have q := h H (Kp.refl H)
                unfold isn at q
                rw [if_pos rfl, decide_eq_false hy, Bool.false_and] at q
                show Q (.bl (decide (0 < y))) H
                rw [decide_eq_false hy]
                exact q
            · have q := h H (Kp.refl H)
              unfold isn at q
              rw [if_neg hz] at q
              refine ite_t (by show (!decide (p = 0)) = true; rw [decide_eq_false hz]; rfl) ⟨_, rfl, _, _, .inr hqT, rfl, ?_⟩
              by_cases hy : y = 1
              · rw [decide_eq_true hy, Bool.true_and] at q
                refine ite_t (decide_eq_true hy) ⟨_, rfl, _, _, .inr hqT, rfl, _, rfl, ?_⟩
                by_cases hx : 0 ≤ x
                · rw [decide_eq_true hx, Bool.true_and] at q
                  refine ite_t (decide_eq_true hx) ⟨_, rfl, f, C, dx, _, _, rfl, hf, ⟨rfl, rfl⟩, fld_look p, ?_⟩
                  exact q
                · rw [decide_eq_false hx, Bool.false_and] at q
                  exact ite_f (decide_eq_false hx) q
              · rw [decide_eq_false hy, Bool.false_and] at q
                refine ite_f (decide_eq_false hy) ?_
                show Q (.bl (decide (y = 1))) H
                rw [decide_eq_false hy]
                exact q
          | non => exact ⟨_, rfl, .inl (.inl ⟨_, _, hq, rfl, rfl, _, rfl, _, .inr ⟨_, hqT, rfl⟩, _, rfl, _, rfl, _, _, .inr hqT, rfl, _, rfl, _, rfl, _, _, .inr hqT, rfl, _, rfl, hno rfl⟩)⟩
          | bl b => exact ⟨_, rfl, .inl (.inl ⟨_, _, hq, rfl, rfl, _, rfl, _, .inr ⟨_, hqT, rfl⟩, _, rfl, _, rfl, _, _, .inr hqT, rfl, _, rfl, _, rfl, _, _, .inr hqT, rfl, _, rfl, hno rfl⟩)⟩
          | str b => exact ⟨_, rfl, .inl (.inl ⟨_, _, hq, rfl, rfl, _, rfl, _, .inr ⟨_, hqT, rfl⟩, _, rfl, _, rfl, _, _, .inr hqT, rfl, _, rfl, _, rfl, _, _, .inr hqT, rfl, _, rfl, hno rfl⟩)⟩
          | ref b => exact ⟨_, rfl, .inl (.inl ⟨_, _, hq, rfl, rfl, _, rfl, _, .inr ⟨_, hqT, rfl⟩, _, rfl, _, rfl, _, _, .inr hqT, rfl, _, rfl, _, rfl, _, _, .inr hqT, rfl, _, rfl, tb, hno rfl⟩)⟩
          | _ => exact (show False from tb).elim
        | non => exact ⟨_, rfl, .inl (.inl ⟨_, _, hq, rfl, rfl, _, rfl, _, .inr ⟨_, hqT, rfl⟩, _, rfl, _, rfl, _, _, .inr hqT, rfl, _, rfl, hno rfl⟩)⟩
        | bl b => exact ⟨_, rfl, .inl (.inl ⟨_, _, hq, rfl, rfl, _, rfl, _, .inr ⟨_, hqT, rfl⟩, _, rfl, _, rfl, _, _, .inr hqT, rfl, _, rfl, hno rfl⟩)⟩
        | str b => exact ⟨_, rfl, .inl (.inl ⟨_, _, hq, rfl, rfl, _, rfl, _, .inr ⟨_, hqT, rfl⟩, _, rfl, _, rfl, _, _, .inr hqT, rfl, _, rfl, hno rfl⟩)⟩
        | ref b => exact ⟨_, rfl, .inl (.inl ⟨_, _, hq, rfl, rfl, _, rfl, _, .inr ⟨_, hqT, rfl⟩, _, rfl, _, rfl, _, _, .inr hqT, rfl, _, rfl, ta, hno rfl⟩)⟩
        | _ => exact (show False from ta).elim
    · exact ⟨_, rfl, .inl (.inl ⟨_, _, hq, rfl, rfl, h⟩)⟩
  | int x => exact ⟨_, rfl, rfl, h⟩
  | non => exact ⟨_, rfl, rfl, h⟩
  | str x => exact ⟨_, rfl, rfl, h⟩
  | bl x => exact ⟨_, rfl, rfl, h⟩
  | _ => exact (show False from h).elim
abbrev g_lnum (ρ : Fs) : Gam := { gam0 with fn := [("_law_whole", en ρ._law_whole ["_law_thing"] spWhole 1), ("_law_lowest", eLow ρ)], glo := [("tuple", .ty "tuple")] }
theorem r_lnum {ρ : Fs} (h : spLNum vs H Q E) : dSs (g_lnum ρ) K m__law_is_number (W0 E) (D0 Q) (start ["_law_prime_here", "_law_thing"] vs) H := by
  obtain ⟨p, v, rfl, hp, h⟩ := h
  cases v with
  | ref q =>
    rcases h with ⟨xs, hq, h⟩ | ⟨⟨xs, hq⟩, h⟩
    · have hqT : SqT K H q xs := .inl (.inl hq)
      rcases h with ⟨h2, h3, h⟩ | ⟨a, b, rfl, ta, tb, hno, hyes⟩
      · refine ⟨_, rfl, .inl (.inl ⟨_, _, hq, rfl, rfl, _, rfl, _, .inr ⟨_, hqT, rfl⟩, _, rfl, ?_⟩)⟩
        exact ite_t (by show (!decide ((xs.length : Int) = 2)) = true; rw [decide_eq_false (by omega)]; rfl) h
      · have pre : ∀ {R : VK}, True := fun {_} => trivial
        cases a with
        | int x =>
          cases b with
          | int y =>
            obtain ⟨sx, sy, h⟩ := hyes x y rfl rfl
            refine ⟨_, rfl, .inl (.inl ⟨_, _, hq, rfl, rfl, _, rfl, _, .inr ⟨_, hqT, rfl⟩, _, rfl, _, rfl, _, _, .inr hqT, rfl, _, rfl, _, rfl, _, _, .inr hqT, rfl, _, rfl, _, rfl, _, rfl, ?_⟩)⟩
            by_cases hz : p = 0
            · subst hz
              refine ite_f rfl ⟨_, rfl, _, _, .inr hqT, rfl, ?_⟩
              by_cases hy : 0 < y
              · refine ite_t (decide_eq_true hy) ⟨_, rfl, _, _, .inr hqT, rfl, _, rfl, _, _, .inr hqT, rfl, x, y, rfl, sx, sy, by omega, fun r H' kp _ hr => ⟨_, rfl, ?_⟩⟩
                refine .inr (.inl ⟨_, _, Dp.num hr, Dp.num (kp _ _ hq), rfl, rfl, ?_⟩)
                have q := h H' kp
                rw [eqv2]
                unfold isn at q
                rw [if_pos rfl, decide_eq_true hy, Bool.true_and] at q
                exact q
              · refine ite_f (decide_eq_false hy) ?_
                have q := h H (Kp.refl H)
                unfold isn at q
                rw [if_pos rfl, decide_eq_false hy, Bool.false_and] at q
                show Q (.bl (decide (0 < y))) H
                rw [decide_eq_false hy]
                exact q
            · have q := h H (Kp.refl H)
              unfold isn at q
              rw [if_neg hz] at q
              refine ite_t (decide_eq_true (show 0 < p by have := hp.rng; omega)) ⟨_, rfl, _, _, .inr hqT, rfl, ?_⟩
              by_cases hy : y = 1
              · rw [decide_eq_true hy, Bool.true_and] at q
                refine ite_t (decide_eq_true hy) ⟨_, rfl, _, _, .inr hqT, rfl, _, rfl, ?_⟩
                by_cases hx : 0 ≤ x
                · rw [decide_eq_true hx, Bool.true_and] at q
                  refine ite_t (decide_eq_true hx) ⟨_, rfl, ?_⟩
                  exact q
                · rw [decide_eq_false hx, Bool.false_and] at q
                  exact ite_f (decide_eq_false hx) q
              · rw [decide_eq_false hy, Bool.false_and] at q
                refine ite_f (decide_eq_false hy) ?_
                show Q (.bl (decide (y = 1))) H
                rw [decide_eq_false hy]
                exact q
          | non => exact ⟨_, rfl, .inl (.inl ⟨_, _, hq, rfl, rfl, _, rfl, _, .inr ⟨_, hqT, rfl⟩, _, rfl, _, rfl, _, _, .inr hqT, rfl, _, rfl, _, rfl, _, _, .inr hqT, rfl, _, rfl, hno rfl⟩)⟩
          | bl b => exact ⟨_, rfl, .inl (.inl ⟨_, _, hq, rfl, rfl, _, rfl, _, .inr ⟨_, hqT, rfl⟩, _, rfl, _, rfl, _, _, .inr hqT, rfl, _, rfl, _, rfl, _, _, .inr hqT, rfl, _, rfl, hno rfl⟩)⟩
          | str b => exact ⟨_, rfl, .inl (.inl ⟨_, _, hq, rfl, rfl, _, rfl, _, .inr ⟨_, hqT, rfl⟩, _, rfl, _, rfl, _, _, .inr hqT, rfl, _, rfl, _, rfl, _, _, .inr hqT, rfl, _, rfl, hno rfl⟩)⟩
          | ref b => exact ⟨_, rfl, .inl (.inl ⟨_, _, hq, rfl, rfl, _, rfl, _, .inr ⟨_, hqT, rfl⟩, _, rfl, _, rfl, _, _, .inr hqT, rfl, _, rfl, _, rfl, _, _, .inr hqT, rfl, _, rfl, tb, hno rfl⟩)⟩
          | _ => exact (show False from tb).elim
        | non => exact ⟨_, rfl, .inl (.inl ⟨_, _, hq, rfl, rfl, _, rfl, _, .inr ⟨_, hqT, rfl⟩, _, rfl, _, rfl, _, _, .inr hqT, rfl, _, rfl, hno rfl⟩)⟩
        | bl b => exact ⟨_, rfl, .inl (.inl ⟨_, _, hq, rfl, rfl, _, rfl, _, .inr ⟨_, hqT, rfl⟩, _, rfl, _, rfl, _, _, .inr hqT, rfl, _, rfl, hno rfl⟩)⟩
        | str b => exact ⟨_, rfl, .inl (.inl ⟨_, _, hq, rfl, rfl, _, rfl, _, .inr ⟨_, hqT, rfl⟩, _, rfl, _, rfl, _, _, .inr hqT, rfl, _, rfl, hno rfl⟩)⟩
        | ref b => exact ⟨_, rfl, .inl (.inl ⟨_, _, hq, rfl, rfl, _, rfl, _, .inr ⟨_, hqT, rfl⟩, _, rfl, _, rfl, _, _, .inr hqT, rfl, _, rfl, ta, hno rfl⟩)⟩
        | _ => exact (show False from ta).elim
    · exact ⟨_, rfl, .inl (.inl ⟨_, _, hq, rfl, rfl, h⟩)⟩
  | int x => exact ⟨_, rfl, rfl, h⟩
  | non => exact ⟨_, rfl, rfl, h⟩
  | str x => exact ⟨_, rfl, rfl, h⟩
  | bl x => exact ⟨_, rfl, rfl, h⟩
  | _ => exact (show False from h).elim
end
end K02
namespace K02
open PySem PySem.Spec PyProof.Rows L2 Rf NumP
/-- what is known of the classes of exceptions -/
structure KF (K : Frag) (FE CF CN CS : Addr) : Prop where
  cN : ExcC K CN
  nF : PySem.W.kitOne K (.ref CN) (.ref CF) = some false
  nN : PySem.W.kitOne K (.ref CN) (.ref CN) = some true
  nS : PySem.W.kitOne K (.ref CN) (.ref CS) = some false
  nV : PySem.W.kitOne K (.ref CN) (.type "ValueError") = some true
  eN : PySem.W.exmOne K (.ref CN) (.ref FE) = some true
def TTk (CN : Addr) (tl : XK → Hp → VK → Prop) (H : Hp) (Q : VK) : Prop := ∃ (E : XK) (Q' : VK), (∀ cls d H', E cls d H' → cls = .ref CN ∧ d = none ∧ ∀ H2, Kp H' H2 → Q (.str "number") H2) ∧ (∀ v H', Q' v H' → ∀ H2, Kp H' H2 → Q (.str "told") H2) ∧ tl E H Q'
abbrev g_kind (FE CF CN CS : Addr) : Gam := { gam0 with glo := [("FalseError", .ref FE), ("NoField", .ref CF), ("NoNumber", .ref CN), ("NoSum", .ref CS), ("ValueError", .ty "ValueError")] }
section
variable {K : Frag} {FE CF CN CS : Addr}
theorem len4 {σ : L2.St} (h : σ.length = 4) : ∃ a b c d, σ = [a, b, c, d] := by
  match σ, h with
  | [a, b, c, d], _ => exact ⟨a, b, c, d, rfl⟩
theorem r_kind (F : KF K FE CF CN CS) (f c' : Addr) (q : Str) (tl : XK → Hp → VK → Prop) (H : Hp) (Q : VK) (hc : H c' = some (LamX.CodeO c' q)) (h : TTk CN tl H Q) :
    kindS (g_kind FE CF CN CS) K ["_law_call", "_law_kept", "e", "_law_kinds"] (clsOf (.ref FE)) 2 1 (hd1 m__law_kind) (tlN 2 m__law_kind) f c' q tl H Q := by
  obtain ⟨E, Q', hE, hQ, ht⟩ := h
  refine ⟨E, Q', fun cls d σ' H' he hl => ?_, fun v H' hv => ?_, rfl, hc, ht⟩
  · obtain ⟨rfl, rfl, hq⟩ := hE cls d H' he
    refine ⟨true, F.eN, fun _ a ha => ?_, fun z => by cases z⟩
    obtain ⟨s0, s1, s2, s3, rfl⟩ := len4 hl
    refine ⟨_, rfl, fun na => ?_⟩
    have ea : upd H' a (ExcO a (.ref CN) none) a = some (ExcO a (.ref CN) none) := upd_same
    refine ⟨_, rfl, _, rfl, ite_f rfl ?_⟩
    refine ⟨_, rfl, .inr ⟨a, CN, _, _, false, rfl, .own CF, ea, F.cN, F.nF, _, rfl, .inr ⟨a, CN, _, _, true, rfl, .own CN, ea, F.cN, F.nN, _, rfl, .inr ⟨a, CN, _, _, false, rfl, .own CS, ea, F.cN, F.nS, ?_⟩⟩⟩⟩
    refine ⟨by rw [sizeLine_eq]; show (3 : Nat) ≤ _; decide, fun l hl => ?_⟩
    have el : upd (upd H' a (ExcO a (.ref CN) none)) l (.lst [.bl false, .bl true, .bl false]) l = some (.lst [.bl false, .bl true, .bl false]) := upd_same
    have ea2 : upd (upd H' a (ExcO a (.ref CN) none)) l (.lst [.bl false, .bl true, .bl false]) a = some (ExcO a (.ref CN) none) := by rw [upd_ne (ne_of_none ea hl)]; exact ea
    refine ⟨_, rfl, ?_, l, _, _, rfl, rfl, .inl (.inl el), rfl, rfl, _, rfl, ?_⟩
    · exact .inl ⟨rfl, _, .inl (.inl el)⟩
    · refine ite_f rfl ⟨_, rfl, .inr ⟨a, CN, _, _, true, rfl, .ty "ValueError", ea2, F.cN, F.nV, ?_⟩⟩
      refine ⟨by rw [sizeLine_eq]; show (3 : Nat) ≤ _; decide, fun r hr => ?_⟩
      have nr : l ≠ r := ne_of_none el hr
      have er : upd (upd (upd H' a (ExcO a (.ref CN) none)) l (.lst [.bl false, .bl true, .bl false])) r (.lst [.str "field", .str "number", .str "sum"]) l = some (.lst [.bl false, .bl true, .bl false]) := by rw [upd_ne nr]; exact el
      have kp : Kp H' (upd (upd (upd H' a (ExcO a (.ref CN) none)) l (.lst [.bl false, .bl true, .bl false])) r (.lst [.str "field", .str "number", .str "sum"])) := (Kp.new na).trans ((Kp.new hl).trans (Kp.new hr))
      exact ⟨_, rfl, .inl ⟨rfl, _, .inl (.inl er)⟩, l, _, _, 1, .bl true, rfl, rfl, .inl (.inl er), rfl, rfl, rfl, rfl, fun m z hm e => (by
        obtain rfl : m = 0 := by omega
        cases e
        rfl), _, _, .inl (.inl (.inl upd_same)), rfl, hq _ kp⟩
  · refine ⟨_, rfl, _, rfl, ?_⟩
    exact hQ v H' hv H' (Kp.refl H')
end
end K02
namespace K02
open PySem PySem.Spec PyProof.Rows L2 Rf NumP
def cond (p b : Int) : Prop := if p = 0 then b ≠ 0 else b % p ≠ 0
def condL (p b : Int) : Prop := if p = 0 then b ≠ 0 else b % p = 1
theorem P0.two {p : Int} (hp : P0 p) (hz : p ≠ 0) : 2 ≤ p := by
  rcases hp with h | h
  · exact absurd h hz
  · exact (ps_ok p h).1
theorem mulmod (a b n : Int) : (a % n * b) % n = (a * b) % n := by rw [Int.mul_emod, Int.emod_emod, ← Int.mul_emod]
theorem Nu.at0 {x y : Int} (h : Nu 0 x y) : N0 x y := h
theorem Nu.atp {p x y : Int} (h : Nu p x y) (hz : p ≠ 0) : y = 1 ∧ 0 ≤ x ∧ x < p := by
  unfold Nu at h
  rw [if_neg hz] at h
  exact h
theorem mk0T (t b : Int) : mkT 0 t b = lowT t b := if_pos rfl
theorem mk0B (t b : Int) : mkB 0 t b = lowB t b := if_pos rfl
theorem mkpB {p t b : Int} (hz : p ≠ 0) : mkB p t b = 1 := if_neg hz
theorem mkp1 {p t b : Int} (hz : p ≠ 0) (h : b % p = 1) : mkT p t b = t % p := by unfold mkT; rw [if_neg hz, if_pos h]
theorem one_mod {p : Int} (h : 2 ≤ p) : (1 : Int) % p = 1 := Int.emod_eq_of_lt (by decide) (by omega)
theorem nu_mk {p t b : Int} (hp : P0 p) (h : cond p b) : Nu p (mkT p t b) (mkB p t b) := by
  by_cases hz : p = 0
  · subst hz
    rw [mk0T, mk0B]
    exact (low_ok h).1
  · have h2 := hp.two hz
    unfold Nu
    rw [if_neg hz, mkpB hz]
    refine ⟨rfl, ?_⟩
    unfold mkT
    rw [if_neg hz]
    split <;> exact ⟨Int.emod_nonneg _ hz, Int.emod_lt_of_pos _ (by omega)⟩

abbrev eMade (ρ : Fs) (C CN : Addr) : FnE := en ρ.Field_made ["self", "top", "bottom"] (spMade C CN) 2 kb_Field_made
abbrev g_right (ρ : Fs) (T : List (Addr × Str)) (C CN : Addr) : Gam := { gam0 with fn := [("_law_due", en ρ._law_due ["_law_prime_here", "_law_top", "_law_base"] spDue 3), ("_law_is_number", en ρ._law_is_number ["_law_prime_here", "_law_thing"] spLNum 2)], mt := fun a m e => a = C ∧ m = "made" ∧ e = eMade ρ C CN, tb := T, lam := [("_law_kind", TTk CN)] }
def spRight (T : List (Addr × Str)) (C : Addr) : Sp := fun vs H Q _ => ∃ (f : Addr) (p : Int) (v u : V), vs = [.ref f, .int p, v, u] ∧ LamX.Tabs T H ∧ FieldAt C H f p ∧ P0 p ∧ Th H v ∧ Th H u ∧ (∀ t, v = .int t → Bd 400 t) ∧ (∀ b, u = .int b → Bd 400 b) ∧ ∀ H', LamX.ExtN H H' → LamX.Tabs T H' → Q (.bl true) H'
theorem Kp.ext {H H' : Hp} (k : Kp H H') : LamX.ExtN H H' := fun b o e _ => k b o e
theorem Th.ext {H H' : Hp} {v : V} (h : Th H v) (e : LamX.ExtN H H') : Th H' v := by
  cases v with
  | ref p =>
    obtain ⟨o, t, h1, h2⟩ := h
    exact ⟨o, t, e _ _ h1 (fun ps z => by subst z; cases h2), h2⟩
  | _ => exact h
theorem FieldAt.ext {C : Addr} {H H' : Hp} {f : Addr} {p : Int} (h : FieldAt C H f p) (e : LamX.ExtN H H') : FieldAt C H' f p := by
  obtain ⟨dx, h⟩ := h
  exact ⟨dx, e _ _ h (fun _ z => by cases z)⟩
theorem op_no {A : Prop} {p b : Int} (c : cond p b) (h : if p = 0 then b = 0 else b % p = 0) : A := by
  exfalso
  unfold cond at c
  split at c
  · rename_i hz
    rw [if_pos hz] at h
    exact c h
  · rename_i hz
    rw [if_neg hz] at h
    exact c h
theorem eqv_self2 (x y : Int) : PyData.eqv (.tuple [.int x, .int y]) (.tuple [.int x, .int y]) = true := by rw [eqv2, decide_eq_true rfl, decide_eq_true rfl]; rfl
section
variable {K : Frag} {vs : List V} {H : Hp} {Q : VK} {E : XK}
theorem bad_yes {p : Int} {v u : V} {Y : Prop} {X : Int → Int → Prop} (sv : ∀ t, v = .int t → Bd 400 t) (su : ∀ b, u = .int b → Bd 400 b) (bad : (isI v && isI u) = false ∨ ∃ t b, v = .int t ∧ u = .int b ∧ ¬ cond p b) (k : Y) :
    ∀ t b, v = .int t → u = .int b → Sm t ∧ Sm b ∧ ((if p = 0 then b = 0 else b % p = 0) → Y) ∧ ((if p = 0 then b ≠ 0 else b % p ≠ 0) → X t b) := fun t b ev eu => by
  refine ⟨(sv t ev).sm (by decide), (su b eu).sm (by decide), fun _ => k, fun good => ?_⟩
  exfalso
  rcases bad with bad | ⟨t', b', ev', eu', nc⟩
  · subst ev eu
    cases bad
  · rw [eu] at eu'
    cases eu'
    exact nc good
theorem good_yes {p t b : Int} {Y X : Int → Int → Prop} (st : Bd 400 t) (sb : Bd 400 b) (c : cond p b) (k : X t b) :
    ∀ t' b', V.int t = .int t' → V.int b = .int b' → Sm t' ∧ Sm b' ∧ ((if p = 0 then b' = 0 else b' % p = 0) → Y t' b') ∧ ((if p = 0 then b' ≠ 0 else b' % p ≠ 0) → X t' b') := fun t' b' ev eu => by
  cases ev
  cases eu
  exact ⟨st.sm (by decide), sb.sm (by decide), op_no c, fun _ => k⟩
theorem int_int {t b : Int} {A : Prop} (z : (isI (.int t) && isI (.int b)) = false) : A := by cases z
theorem r_right {ρ : Fs} {T : List (Addr × Str)} {C CN : Addr} (h : spRight T C vs H Q E) : dSs (g_right ρ T C CN) K m__law_right (W0 E) (D0 Q) (start ["_law_field", "_law_prime_here", "_law_top", "_law_base", "_law_due_here", "_law_kind_here", "_law_found"] vs) H := by
  obtain ⟨f, p, v, u, rfl, hT, hF, hp, tv, tu, sv, su, h⟩ := h
  have badrest : ((isI v && isI u) = false ∨ ∃ t b, v = .int t ∧ u = .int b ∧ ¬ cond p b) → dSs (g_right ρ T C CN) K (tlN 1 m__law_right) (W0 E) (D0 Q) [some (.ref f), some (.int p), some v, some u, some .non, none, none] H := fun bad => by
    refine ⟨hT, fun H1 e1 T1 => ⟨fun cls d H' => cls = .ref CN ∧ d = none ∧ Kp H1 H', fun _ _ => False, ?_, fun _ _ q => q.elim, ?_⟩⟩
    · rintro cls d H' ⟨rfl, rfl, k⟩
      refine ⟨rfl, rfl, fun H2 k2 => ?_⟩
      have e2 : LamX.ExtN H H2 := e1.trans (Kp.ext (k.trans k2))
      have T2 : LamX.Tabs T H2 := T1.ext (k.trans k2)
      refine ⟨_, rfl, _, rfl, ?_⟩
      refine ite_t rfl ?_
      refine ⟨_, rfl, ?_⟩
      refine ⟨T2, fun H3 e3 T3 => ⟨fun cls d H' => cls = .ref CN ∧ d = none ∧ Kp H3 H', fun _ _ => False, ?_, fun _ _ q => q.elim, ?_⟩⟩
      · rintro cls d H4 ⟨rfl, rfl, k4⟩
        refine ⟨rfl, rfl, fun H5 k5 => ?_⟩
        show Q (.bl (decide (("number" : Str) = "number"))) H5
        rw [decide_eq_true rfl]
        exact h H5 (e2.trans (e3.trans (Kp.ext (k4.trans k5)))) (T3.ext (k4.trans k5))
      · have eA := e2.trans e3
        exact ⟨C, _, _, ⟨rfl, rfl, rfl⟩, rfl, _, rfl, f, _, _, rfl, (hF.ext eA).choose_spec, fld_no p (by decide +kernel), _, rfl, _, rfl, rfl, rfl, f, p, v, u, rfl, hF.ext eA, hp, tv.ext eA, tu.ext eA, fun _ H' k => ⟨rfl, rfl, k⟩, bad_yes sv su bad fun H' k => ⟨rfl, rfl, k⟩⟩
    · exact ⟨C, _, ⟨rfl, rfl, rfl⟩, _, rfl, f, _, _, rfl, (hF.ext e1).choose_spec, fld_no p (by decide +kernel), _, rfl, _, rfl, f, p, v, u, rfl, hF.ext e1, hp, tv.ext e1, tu.ext e1, fun _ H' k => ⟨rfl, rfl, k⟩, bad_yes sv su bad fun H' k => ⟨rfl, rfl, k⟩⟩
  refine ⟨_, rfl, _, rfl, _, rfl, p, v, u, rfl, hp, tv, tu, fun n => badrest (.inl n), fun t b ev eu => ⟨(sv t ev).sm (by decide), (su b eu).sm (by decide), fun hb => badrest (.inr ⟨t, b, ev, eu, fun c => op_no c hb⟩), fun good q H1 k1 n1 => ?_⟩⟩
  subst ev eu
  have c : cond p b := good
  have st := sv t rfl
  have sb := su b rfl
  obtain ⟨s1, s2⟩ := mk_bd hp (fun hz => by unfold cond at c; rw [if_pos hz] at c; exact c) st sb (by decide)
  have nu := nu_mk (t := t) hp c
  have e1 := Kp.ext k1
  -- the kind
  refine ⟨LamX.Tabs.ext hT k1, fun H2 e2 T2 => ⟨fun _ _ _ => False, fun _ H' => Kp H2 H', fun _ _ _ z => z.elim, fun _ H3 k3 H4 k4 => ?_, ?_⟩⟩
  · have e4 : LamX.ExtN H1 H4 := e2.trans (Kp.ext (k3.trans k4))
    have T4 : LamX.Tabs T H4 := T2.ext (k3.trans k4)
    have nq : NumAt H4 q (mkT p t b) (mkB p t b) := e4 _ _ n1 (fun _ z => by cases z)
    have F4 := hF.ext (e1.trans e4)
    refine ⟨_, rfl, _, rfl, ite_f rfl ?_⟩
    refine ⟨C, _, ⟨rfl, rfl, rfl⟩, _, rfl, f, _, _, rfl, F4.choose_spec, fld_no p (by decide +kernel), _, rfl, _, rfl, f, p, _, _, rfl, F4, hp, trivial, trivial, int_int, good_yes st sb c fun q5 H5 k5 n5 => ?_⟩
    refine ⟨_, rfl, _, rfl, ite_f (by show (!decide (("told" : Str) = "told")) = false; rw [decide_eq_true rfl]; rfl) ?_⟩
    refine ⟨_, rfl, _, rfl, .inr ⟨_, _, Dp.num n5, Dp.num (k5 _ _ nq), rfl, rfl, ?_⟩⟩
    rw [eqv_self2]
    have isY : isn p (mkT p t b) (mkB p t b) = true := by
      unfold isn
      split
      · rename_i hz
        subst hz
        have n0 := nu.at0
        obtain ⟨l1, l2⟩ := low_is n0 (t := mkT 0 t b) (b := mkB 0 t b) (by have := n0.1; omega) rfl
        rw [decide_eq_true n0.1, decide_eq_true l1, decide_eq_true l2]
        rfl
      · rename_i hz
        obtain ⟨a1, a2, a3⟩ := nu.atp hz
        rw [decide_eq_true a1, decide_eq_true a2, decide_eq_true a3]
        rfl
    refine ⟨_, rfl, _, rfl, _, rfl, p, .ref q5, rfl, hp, .inl ⟨_, n5, .inr ⟨_, _, rfl, trivial, trivial, int_int, fun x y ex ey => ?_⟩⟩⟩
    cases ex
    cases ey
    refine ⟨s1.sm (by decide), s2.sm (by decide), fun H6 k6 => ?_⟩
    rw [isY]
    have F6 := F4.ext (Kp.ext (k5.trans k6))
    refine ⟨C, _, _, ⟨rfl, rfl, rfl⟩, rfl, _, rfl, f, _, _, rfl, F6.choose_spec, fld_no p (by decide +kernel), _, rfl, _, rfl, rfl, rfl, f, p, _, _, rfl, F6, hp, trivial, trivial, int_int, good_yes st sb c fun q7 H7 k7 n7 => ?_⟩
    refine ⟨_, rfl, .inr (.inl ⟨_, _, Dp.num n7, Dp.num ((k5.trans (k6.trans k7)) _ _ nq), rfl, rfl, ?_⟩)⟩
    rw [eqv_self2]
    exact h H7 (e1.trans (e4.trans (Kp.ext (k5.trans (k6.trans k7))))) (LamX.Tabs.ext T4 (k5.trans (k6.trans k7)))
  · have F2 := hF.ext (e1.trans e2)
    exact ⟨C, _, ⟨rfl, rfl, rfl⟩, _, rfl, f, _, _, rfl, F2.choose_spec, fld_no p (by decide +kernel), _, rfl, _, rfl, f, p, _, _, rfl, F2, hp, trivial, trivial, int_int, good_yes st sb c fun q3 H3 k3 n3 => k3⟩
/-! ### things that are numbers, or none -/
/-- how the thing v is judged: where it is a tuple of two numbers, by its parts -/
def okT (H : Hp) (v : V) : Prop := match v with
  | .ref q => (∃ xs, H q = some (.tup xs) ∧ ((xs.length ≠ 2 ∧ xs.length < 100) ∨ ∃ a b, xs = [a, b] ∧ Th H a ∧ Th H b ∧ (∀ x, a = .int x → Bd 400 x) ∧ ∀ y, b = .int y → Bd 400 y)) ∨ ∃ xs, H q = some (.lst xs)
  | .int _ => True
  | .non => True
  | .bl _ => True
  | .str _ => True
  | _ => False
def numR (p : Int) : Option HO → Bool
  | some (.tup [.int x, .int y]) => isn p x y
  | _ => false
def numB (p : Int) (H : Hp) (v : V) : Bool := match v with
  | .ref q => numR p (H q)
  | _ => false
theorem okT.num {p : Int} {v : V} (h : okT H v) (k : ∀ H', Kp H H' → Q (.bl (numB p H v)) H') : NumV p v H Q := by
  cases v with
  | ref q =>
    rcases h with ⟨xs, e, h⟩ | ⟨xs, e⟩
    · refine .inl ⟨xs, e, ?_⟩
      rcases h with ⟨h2, h3⟩ | ⟨a, b, rfl, ta, tb, sa, sb⟩
      · refine .inl ⟨h2, h3, ?_⟩
        have q' := k H (Kp.refl H)
        have en : numB p H (.ref q) = false := by
          show numR p (H q) = _
          rw [e]
          match xs, h2 with
          | [], _ => rfl
          | [a], _ => cases a <;> rfl
          | [_, _], h => exact absurd rfl h
          | a :: b :: c :: r, _ => cases a <;> first | rfl | (cases b <;> rfl)
        rw [en] at q'
        exact q'
      · refine .inr ⟨a, b, rfl, ta, tb, fun hn => ?_, fun x y ea eb => ?_⟩
        · have q' := k H (Kp.refl H)
          have en : numB p H (.ref q) = false := by
            show numR p (H q) = _
            rw [e]
            cases a <;> cases b <;> first | rfl | cases hn
          rw [en] at q'
          exact q'
        · subst ea eb
          refine ⟨(sa x rfl).sm (by decide), (sb y rfl).sm (by decide), fun H' k' => ?_⟩
          have q' := k H' k'
          have en : numB p H (.ref q) = isn p x y := by
            show numR p (H q) = _
            rw [e]
            rfl
          rw [en] at q'
          exact q'
    · refine .inr ⟨⟨xs, e⟩, ?_⟩
      have q' := k H (Kp.refl H)
      have en : numB p H (.ref q) = false := by
        show numR p (H q) = _
        rw [e]
        rfl
      rw [en] at q'
      exact q'
  | int x => exact k H (Kp.refl H)
  | non => exact k H (Kp.refl H)
  | bl x => exact k H (Kp.refl H)
  | str x => exact k H (Kp.refl H)
  | _ => exact (show False from h).elim
theorem okT.ext {H' : Hp} {v : V} (h : okT H v) (e : LamX.ExtN H H') : okT H' v := by
  cases v with
  | ref q =>
    rcases h with ⟨xs, eq, h⟩ | ⟨xs, eq⟩
    · refine .inl ⟨xs, e _ _ eq (fun _ z => by cases z), ?_⟩
      rcases h with h | ⟨a, b, hx, ta, tb, sa, sb⟩
      · exact .inl h
      · exact .inr ⟨a, b, hx, ta.ext e, tb.ext e, sa, sb⟩
    · exact .inr ⟨xs, e _ _ eq (fun _ z => by cases z)⟩
  | _ => exact h
theorem numB.ext {p : Int} {H' : Hp} {v : V} (h : okT H v) (e : LamX.ExtN H H') : numB p H' v = numB p H v := by
  cases v with
  | ref q =>
    show numR p (H' q) = numR p (H q)
    rcases h with ⟨xs, eq, _⟩ | ⟨xs, eq⟩ <;> rw [eq, e _ _ eq (fun _ z => by cases z)]
  | _ => rfl
def spThings : Sp := fun vs H Q _ => ∃ (q : Addr) (x y : Int), vs = [.ref q] ∧ NumAt H q x y ∧ Bd 300 x ∧ Bd 300 y ∧ ∀ l xs H', Kp H H' → H' l = some (.lst xs) → xs.length ≤ 100 → (∀ v ∈ xs, okT H' v) → Q (.ref l) H'
theorem r_things (h : spThings vs H Q E) : dSs gam0 K m__law_things (W0 E) (D0 Q) (start ["_law_number", "_law_top", "_law_base", "_law_some"] vs) H := by
  obtain ⟨q, x, y, rfl, hq, bx, by_, h⟩ := h
  have sx : Sm x := bx.sm (by decide)
  have sy : Sm y := by_.sm (by decide)
  have s2 : Sm 2 := by unfold Sm; decide
  refine ⟨_, rfl, q, _, rfl, .inl (.inl hq), rfl, _, _, rfl, _, _, rfl, rfl, ?_⟩
  refine ⟨_, rfl, _, rfl, s2.mul sx, _, rfl, s2.mul sy, two_le, fun a1 h1 => ⟨_, rfl, _, rfl, two_le, fun a2 h2 => ⟨_, rfl, two_le, fun a3 h3 => ⟨_, rfl, _, rfl, two_le, fun a4 h4 => ?_⟩⟩⟩⟩
  have n1 := Kp.new (o := .tup [.int (2 * x), .int (2 * y)]) h1
  have n2 := Kp.new (o := .tup [.int x, .int (0 - y)]) h2
  have n3 := Kp.new (o := .tup [.int x, .int 0]) h3
  have n4 := Kp.new (o := .lst [.int x, .int y]) h4
  have p1 := n2.trans (n3.trans n4) a1 _ upd_same
  have p2 := n3.trans n4 a2 _ upd_same
  have p3 := n4 a3 _ upd_same
  have p4 := upd_same (H := upd (upd (upd H a1 (.tup [.int (2 * x), .int (2 * y)])) a2 (.tup [.int x, .int (0 - y)])) a3 (.tup [.int x, .int 0])) (a := a4) (o := HO.lst [.int x, .int y])
  have k1 := n1.trans (n2.trans (n3.trans n4))
  generalize upd (upd (upd (upd H a1 (.tup [.int (2 * x), .int (2 * y)])) a2 (.tup [.int x, .int (0 - y)])) a3 (.tup [.int x, .int 0])) a4 (.lst [.int x, .int y]) = H1 at *
  have lg : x.natAbs.log2 < 1920 := by
    by_cases h0 : x.natAbs = 0
    · rw [h0]; decide +kernel
    · have b := sx
      unfold Sm at b
      have := (Nat.log2_lt h0).mpr b
      omega
  have le : ∀ n : Nat, n ≤ 100 → n ≤ sizeLine := fun n hn => by rw [sizeLine_eq]; omega
  refine ⟨_, rfl, le 1 (by decide), fun a5 h5 => ⟨_, rfl, _, rfl, le 3 (by decide), fun a6 h6 => ⟨_, rfl, le 8 (by decide), fun l1 hl1 => ?_⟩⟩⟩
  refine ⟨_, rfl, two_le, fun a7 h7 => ⟨_, rfl, two_le, fun a8 h8 => ⟨_, rfl, lg, _, rfl, two_le, fun a9 h9 => ⟨_, rfl, _, rfl, two_le, fun b0 g0 => ⟨_, rfl, _, rfl, two_le, fun b1 g1 => ⟨le 6 (by decide), fun l2 hl2 => ?_⟩⟩⟩⟩⟩⟩
  have m5 := Kp.new (o := .tup [.int x]) h5
  have m6 := Kp.new (o := .tup [.int x, .int y, .int 1]) h6
  have ml := Kp.new (o := .lst [.ref q, .ref a1, .ref a2, .ref a3, .ref a4, .ref a5, .ref a6, .int x]) hl1
  have m7 := Kp.new (o := .tup [.bl true, .int 1]) h7
  have m8 := Kp.new (o := .tup [.int x, .bl true]) h8
  have m9 := Kp.new (o := .tup [.str (toString x), .int y]) h9
  have o0 := Kp.new (o := .tup [.int (x + 97), .int y]) g0
  have o1 := Kp.new (o := .tup [.int (0 - 1 - x), .int y]) g1
  have om := Kp.new (o := .lst [.non, .ref a7, .ref a8, .ref a9, .ref b0, .ref b1]) hl2
  have r1 := o1.trans om
  have r0 := o0.trans r1
  have r9 := m9.trans r0
  have r8 := m8.trans r9
  have r7 := m7.trans r8
  have rl := ml.trans r7
  have r6 := m6.trans rl
  have r5 := m5.trans r6
  refine .inl ⟨l1, l2, _, _, rfl, rfl, r7 l1 _ upd_same, upd_same, by rw [sizeLine_eq]; show (14 : Nat) ≤ _; decide, fun l3 hl3 => ?_⟩
  have fin := Kp.new (o := .lst ([.ref q, .ref a1, .ref a2, .ref a3, .ref a4, .ref a5, .ref a6, .int x] ++ [.non, .ref a7, .ref a8, .ref a9, .ref b0, .ref b1])) hl3
  have two : ∀ {H' : Hp} {a : Addr} {v w : V}, H' a = some (.tup [v, w]) → Th H' v → Th H' w → (∀ i, v = .int i → Bd 400 i) → (∀ i, w = .int i → Bd 400 i) → okT H' (.ref a) := fun e t1 t2 c1 c2 => .inl ⟨_, e, .inr ⟨_, _, rfl, t1, t2, c1, c2⟩⟩
  have ib : ∀ {i : Int}, Bd 400 i → ∀ j, V.int i = .int j → Bd 400 j := fun h j e => by cases e; exact h
  have nb : ∀ {b : Bool} (j : Int), V.bl b = .int j → Bd 400 j := fun j e => by cases e
  have ns : ∀ {z : Str} (j : Int), V.str z = .int j → Bd 400 j := fun j e => by cases e
  have B2 : Bd 2 2 := by unfold Bd; decide
  have B1 : Bd 300 1 := by unfold Bd; decide
  have B0 : Bd 300 0 := by unfold Bd; decide
  have bx4 : Bd 400 x := bx.mono (by decide)
  have by4 : Bd 400 y := by_.mono (by decide)
  have b97 : Bd 300 97 := by
    refine Bd.mono (j := 7) ?_ (by decide)
    unfold Bd; decide
  have b01 : Bd 300 (0 - 1) := by unfold Bd; decide
  refine h l3 _ _ ((k1.trans r5).trans fin) upd_same (by show (14 : Nat) ≤ 100; decide) (fun v hv => ?_)
  have hv' : v ∈ ([.ref q, .ref a1, .ref a2, .ref a3, .ref a4, .ref a5, .ref a6, .int x, .non, .ref a7, .ref a8, .ref a9, .ref b0, .ref b1] : List V) := hv
  simp only [List.mem_cons, List.not_mem_nil, or_false] at hv'
  rcases hv' with rfl | rfl | rfl | rfl | rfl | rfl | rfl | rfl | rfl | rfl | rfl | rfl | rfl | rfl
  · exact two (((k1.trans r5).trans fin) _ _ hq) trivial trivial (ib bx4) (ib by4)
  · exact two ((r5.trans fin) _ _ p1) trivial trivial (ib ((B2.mul bx).mono (by decide))) (ib ((B2.mul by_).mono (by decide)))
  · exact two ((r5.trans fin) _ _ p2) trivial trivial (ib bx4) (ib ((B0.sub by_).mono (by decide)))
  · exact two ((r5.trans fin) _ _ p3) trivial trivial (ib bx4) (ib (B0.mono (by decide)))
  · exact .inr ⟨_, (r5.trans fin) _ _ p4⟩
  · exact .inl ⟨_, (r6.trans fin) a5 _ upd_same, .inl ⟨by show (1 : Nat) ≠ 2; decide, by show (1 : Nat) < 100; decide⟩⟩
  · exact .inl ⟨_, (rl.trans fin) a6 _ upd_same, .inl ⟨by show (3 : Nat) ≠ 2; decide, by show (3 : Nat) < 100; decide⟩⟩
  · exact trivial
  · exact trivial
  · exact two ((r8.trans fin) a7 _ upd_same) trivial trivial nb (ib (B1.mono (by decide)))
  · exact two ((r9.trans fin) a8 _ upd_same) trivial trivial (ib bx4) nb
  · exact two ((r0.trans fin) a9 _ upd_same) trivial trivial ns (ib by4)
  · exact two ((r1.trans fin) b0 _ upd_same) trivial trivial (ib ((bx.add b97).mono (by decide))) (ib by4)
  · exact two ((om.trans fin) b1 _ upd_same) trivial trivial (ib ((b01.sub bx).mono (by decide))) (ib by4)
end
end K02
namespace K02
open PySem PySem.Spec PyProof.Rows L2 Rf NumP
abbrev g_law (ρ : Fs) (T : List (Addr × Str)) (K : Frag) (C CN : Addr) : Gam := { gam0 with fn := [("_law_room", en ρ._law_room ["_law_script", "_law_k"] (spRoom K) 1), ("_law_prime", en ρ._law_prime ["_law_room_here"] spLPrime 2), ("_law_take", eTake ρ), ("_law_right", en ρ._law_right ["_law_field", "_law_prime_here", "_law_top", "_law_base"] (spRight T C) 6), ("_law_due", en ρ._law_due ["_law_prime_here", "_law_top", "_law_base"] spDue 3), ("_law_things", en ρ._law_things ["_law_number"] spThings 1), ("_law_is_number", en ρ._law_is_number ["_law_prime_here", "_law_thing"] spLNum 2)], glo := [("bool", .ty "bool")], cl := [("Field", C, en ρ.Field___init__ ["self", "prime"] (spInit C) 3)], mt := fun a m e => a = C ∧ ((m = "made" ∧ e = eMade ρ C CN) ∨ (m = "is_number" ∧ e = en ρ.Field_is_number ["self", "thing"] (spNum C) 2)) }
def spLaw (T : List (Addr × Str)) (K : Frag) : Sp := fun vs H Q _ => ∃ (a : Addr) (ns : List Int), vs = [.ref a] ∧ SqL K H a (ns.map V.int) ∧ ns.length ≤ 63 ∧ LamX.Tabs T H ∧ ∀ H', Q (.bl true) H'
section
variable {K : Frag} {vs : List V} {H : Hp} {Q : VK} {E : XK}
theorem seqExt {H H' : Hp} {a : Addr} {xs : List V} (h : SqL K H a xs) (e : LamX.ExtN H H') : SqL K H' a xs := by
  rcases h with (h | ⟨o, h⟩) | h
  · exact .inl (.inl (e _ _ h (fun _ q => by cases q)))
  · exact .inl (.inr ⟨o, e _ _ h (fun _ q => by cases q)⟩)
  · exact .inr h
theorem pick {xs : List V} {v : Int} (h0 : 0 ≤ v) (h1 : v < xs.length) : ∃ x, x ∈ xs ∧ atI xs v = some x :=
  ⟨xs[v.toNat]'(by omega), List.getElem_mem _, by rw [atI_of h0 h1, List.getElem?_eq_getElem (by omega)]⟩
theorem r_law {ρ : Fs} {T : List (Addr × Str)} {C CN : Addr} (h : spLaw T K vs H Q E) : dSs (g_law ρ T K C CN) K m_law (W0 E) (D0 Q) (start ["_law_script", "_law_k", "_law_room_here", "_law_prime_here", "_law_field", "_law_size", "_law_by", "_law_top", "_law_base", "_law_odd", "_law_one", "_law_other", "_law_due_here", "_law_thing", "_law_known"] vs) H := by
  obtain ⟨a, ns, rfl, hs, hn, hT, h⟩ := h
  refine ⟨_, rfl, _, Or.inl ⟨_, hs, rfl⟩, _, rfl, ?_, ?_, ?_⟩
  all_goals (try rw [List.length_map])
  · split <;> split <;> omega
  · split <;> split <;> omega
  refine for_range (Pv := fun _ σ H' => LamX.ExtN H H' ∧ LamX.Tabs T H' ∧ ∃ s1 s2 s3 s4 s5 s6 s7 s8 s9 s10 s11 s12 s13 s14, σ = [some (.ref a), s1, s2, s3, s4, s5, s6, s7, s8, s9, s10, s11, s12, s13, s14]) ⟨LamX.ExtN.refl H, hT, _, _, _, _, _, _, _, _, _, _, _, _, _, _, rfl⟩ (fun i σ H0 hi hP => ?_) (fun σ H' _ => h H')
  obtain ⟨e0, T0, s1, s2, s3, s4, s5, s6, s7, s8, s9, s10, s11, s12, s13, s14, rfl⟩ := hP
  have hi60 : i < 60 := by
    revert hi
    split <;> split <;> omega
  refine ⟨_, rfl, _, rfl, a, ns, 0 + (i : Int), rfl, seqExt hs e0, hn, by omega, by omega, fun r H1 k1 nr hr1 => ?_⟩
  refine ⟨_, rfl, r, rfl, hr1, fun p H2 hp hr2 k2 => ?_⟩
  refine ⟨_, rfl, fun f dx hf hdx hne => ⟨f, dx, p, rfl, upd_same, hp, fun H5 k5 e5 => ⟨rfl, ?_⟩⟩⟩
  have K5' : Kp H2 H5 := (((Kp.new (o := .own f) hdx).kx (r := f)).trans (KpX.set.trans k5)).kp hf
  have X5 : KpX r H0 H5 := (k1.kx.trans k2).trans K5'.kx
  have hF : FieldAt C H5 f p := ⟨dx, e5⟩
  have hr5 := hr2.kp K5'
  -- size
  have p15 : (10 : Int) ^ (15 : Int).toNat = 1000000000000000 := by decide
  have p40 : (10 : Int) ^ (40 : Int).toNat = 10000000000000000000000000000000000000000 := by decide
  refine ⟨⟨by decide, by decide, by decide⟩, by rw [sizeLine_eq]; show (3 : Nat) ≤ _; decide, fun l1 hl1 => ⟨_, rfl, r, 3, rfl, by decide, by decide, hr5.kp (Kp.new hl1), fun v1 H6 v10 v11 hr6 k6 => ?_⟩⟩
  have f1 := k6 l1 _ (hr5.ne hl1) upd_same
  obtain ⟨sz, hsz, es⟩ := pickI [2, 30, (10 : Int) ^ (15 : Int).toNat] v10 v11
  have hS : ∀ b ∈ ([2, 30, (10 : Int) ^ (15 : Int).toNat] : List Int), 0 < b ∧ b ≤ 1000000000000000 := by decide
  obtain ⟨z0, z1⟩ := hS sz hsz
  refine ⟨_, _, .inl (.inl (.inl f1)), es, ?_⟩
  have X6 : KpX r H5 H6 := (Kp.new hl1).kx.trans k6
  -- by
  refine ⟨_, rfl, r, 12, rfl, by decide, by decide, hr6, fun v2 H7 v20 v21 hr7 k7 => ⟨⟨by decide, by decide, by decide⟩, by rw [sizeLine_eq]; show (4 : Nat) ≤ _; decide, fun l2 hl2 => ⟨_, rfl, r, 4, rfl, by decide, by decide, hr7.kp (Kp.new hl2), fun v3 H8 v30 v31 hr8 k8 => ?_⟩⟩⟩
  have f2 := k8 l2 _ (hr7.ne hl2) upd_same
  obtain ⟨m, hm, em⟩ := pickI [1, 1, 1, (10 : Int) ^ (40 : Int).toNat + 9] v30 v31
  have hM : ∀ b ∈ ([1, 1, 1, (10 : Int) ^ (40 : Int).toNat + 9] : List Int), b.natAbs < 2 ^ 140 := by decide
  have bm : Bd 140 m := hM m hm
  have b12 : Bd 5 (1 + v2) := show (1 + v2).natAbs < 2 ^ 5 by omega
  refine ⟨_, _, .inl (.inl (.inl f2)), em, (b12.sm (by decide)).mul (bm.sm (by decide)), ?_⟩
  have bby := b12.mul bm
  have X8 : KpX r H6 H8 := k7.trans ((Kp.new hl2).kx.trans k8)
  -- top, base
  have s2 : Sm 2 := by unfold Sm; decide
  have bs : Bd 60 sz := show sz.natAbs < 2 ^ 60 by omega
  refine ⟨_, rfl, _, rfl, s2.mul (bs.sm (by decide)), r, _, rfl, by omega, by omega, hr8, fun t1 H9 t10 t11 hr9 k9 => ⟨_, rfl, _, rfl, ?_⟩⟩
  have bt1 : Bd 60 (t1 - sz) := show (t1 - sz).natAbs < 2 ^ 60 by omega
  refine ⟨(bt1.sm (by decide)).mul (bby.sm (by decide)), ?_⟩
  refine ⟨_, rfl, _, rfl, s2.mul (bs.sm (by decide)), r, _, rfl, by omega, by omega, hr9, fun t2 H10 t20 t21 hr10 k10 => ⟨_, rfl, _, rfl, ?_⟩⟩
  have bt2 : Bd 60 (t2 - sz) := show (t2 - sz).natAbs < 2 ^ 60 by omega
  refine ⟨(bt2.sm (by decide)).mul (bby.sm (by decide)), ?_⟩
  have BT : Bd 300 ((t1 - sz) * ((1 + v2) * m)) := (bt1.mul bby).mono (by decide)
  have BB : Bd 300 ((t2 - sz) * ((1 + v2) * m)) := (bt2.mul bby).mono (by decide)
  generalize (t1 - sz) * ((1 + v2) * m) = tp at *
  generalize (t2 - sz) * ((1 + v2) * m) = bs at *
  have X10 : KpX r H8 H10 := k9.trans k10
  -- odd
  refine ⟨two_le, fun o1 ho1 => ⟨by rw [sizeLine_eq]; show (1 : Nat) ≤ _; decide, fun o2 ho2 => ⟨Nat.zero_le _, fun o3 ho3 => ⟨by rw [sizeLine_eq]; show (8 : Nat) ≤ _; decide, fun l3 hl3 => ⟨_, rfl, ?_⟩⟩⟩⟩⟩
  have n1 := Kp.new (o := .tup [.int 1, .int 1]) ho1
  have n2 := Kp.new (o := .lst [.int 2]) ho2
  have n3 := Kp.new (o := .tup []) ho3
  have n4 := Kp.new (o := .lst [.non, .bl true, .bl false, .str "1", .ref o1, .ref o2, .ref o3, .str "a"]) hl3
  have q3 := n4 o3 _ upd_same
  have q2 := n3.trans n4 o2 _ upd_same
  have q1 := n2.trans (n3.trans n4) o1 _ upd_same
  have kk := n1.trans (n2.trans (n3.trans n4))
  have hr11 := hr10.kp kk
  have nl := (hr10.kp (n1.trans (n2.trans n3))).ne hl3
  refine ⟨r, 8, rfl, by decide, by decide, hr11, fun v4 H12 v40 v41 hr12 k12 => ?_⟩
  have f3 := k12 l3 _ nl upd_same
  obtain ⟨od, hod, eod⟩ := pick (xs := [V.non, V.bl true, V.bl false, V.str "1", V.ref o1, V.ref o2, V.ref o3, V.str "a"]) v40 v41
  have w1 := k12 o1 _ (hr10.ne ho1) q1
  have w2 := k12 o2 _ ((hr10.kp n1).ne ho2) q2
  have w3 := k12 o3 _ ((hr10.kp (n1.trans n2)).ne ho3) q3
  have od1 : Th H12 od ∧ ∀ t, od ≠ .int t := by
    simp only [List.mem_cons, List.not_mem_nil, or_false] at hod
    rcases hod with rfl | rfl | rfl | rfl | rfl | rfl | rfl | rfl
    · exact ⟨trivial, fun t e => by cases e⟩
    · exact ⟨trivial, fun t e => by cases e⟩
    · exact ⟨trivial, fun t e => by cases e⟩
    · exact ⟨trivial, fun t e => by cases e⟩
    · exact ⟨⟨_, _, w1, rfl⟩, fun t e => by cases e⟩
    · exact ⟨⟨_, _, w2, rfl⟩, fun t e => by cases e⟩
    · exact ⟨⟨_, _, w3, rfl⟩, fun t e => by cases e⟩
    · exact ⟨trivial, fun t e => by cases e⟩
  obtain ⟨odT, odI⟩ := od1
  have X12 : KpX r H10 H12 := kk.kx.trans k12
  have XA : KpX r H5 H12 := X6.trans (X8.trans (X10.trans X12))
  have KA : Kp H0 H12 := (X5.trans XA).kp nr
  have hF12 : FieldAt C H12 f p := ⟨dx, XA f _ (hr2.ne hf) e5⟩
  have T12 : LamX.Tabs T H12 := LamX.Tabs.ext T0 KA
  refine ⟨_, _, .inl (.inl (.inl f3)), eod, ?_⟩
  refine ⟨_, rfl, _, rfl, two_le, fun t1 ht1 => ⟨_, rfl, _, rfl, two_le, fun t2 ht2 => ⟨_, rfl, _, rfl, two_le, fun t3 ht3 => ⟨by rw [sizeLine_eq]; show (3 : Nat) ≤ _; decide, fun l hl => ?_⟩⟩⟩⟩
  have y1 := Kp.new (o := .tup [.int tp, .int bs]) ht1
  have y2 := Kp.new (o := .tup [od, .int bs]) ht2
  have y3 := Kp.new (o := .tup [.int tp, od]) ht3
  have yl := Kp.new (o := .lst [.ref t1, .ref t2, .ref t3]) hl
  have kl := y1.trans (y2.trans (y3.trans yl))
  have g1 := (y2.trans (y3.trans yl)) t1 _ upd_same
  have g2 := (y3.trans yl) t2 _ upd_same
  have g3 := yl t3 _ upd_same
  have hFL := FieldAt.ext hF12 (Kp.ext kl)
  have TL := LamX.Tabs.ext T12 kl
  have odL := odT.ext (Kp.ext kl)
  refine .inl ⟨_, .inl (.inl upd_same), ?_⟩
  have fl := upd_same (H := upd (upd (upd H12 t1 (.tup [.int tp, .int bs])) t2 (.tup [od, .int bs])) t3 (.tup [.int tp, od])) (a := l) (o := HO.lst [.ref t1, .ref t2, .ref t3])
  have KL := KA.trans kl
  generalize upd (upd (upd (upd H12 t1 (.tup [.int tp, .int bs])) t2 (.tup [od, .int bs])) t3 (.tup [.int tp, od])) l (.lst [.ref t1, .ref t2, .ref t3]) = HL at *
  have BT4 : ∀ t, V.int tp = .int t → Bd 400 t := fun t e => by cases e; exact BT.mono (by decide)
  have BB4 : ∀ t, V.int bs = .int t → Bd 400 t := fun t e => by cases e; exact BB.mono (by decide)
  have OD4 : ∀ t, od = .int t → Bd 400 t := fun t e => (odI t e).elim
  refine for_list (K := K) (a := l) (xs := [.ref t1, .ref t2, .ref t3]) (Pv := fun _ σ H' => LamX.ExtN HL H' ∧ LamX.Tabs T H' ∧ ∃ s10 s11, σ = [some (.ref a), some (.int (0 + (i : Int))), some (.ref r), some (.int p), some (.ref f), some (.int sz), some (.int ((1 + v2) * m)), some (.int tp), some (.int bs), some od, s10, s11, s12, s13, s14]) ⟨LamX.ExtN.refl HL, TL, _, _, rfl⟩ (fun j σ H' _ hP => .inl (.inl (hP.1 _ _ fl (fun _ q => by cases q)))) (fun j v σ H' hx hP => ?_) (fun σ H' hP => ?_)
  · obtain ⟨e, T', s10, s11, rfl⟩ := hP
    rcases j with _ | _ | _ | j
    · cases Option.some.inj hx
      exact ⟨t1, [.int tp, .int bs], rfl, .inl (.inl (e _ _ g1 (fun _ q => by cases q))), rfl, _, _, rfl, _, _, rfl, rfl, _, rfl, _, rfl, _, rfl, _, rfl, f, p, _, _, rfl, T', hFL.ext e, hp, trivial, trivial, BT4, BB4, fun H2 e2 T2 => ⟨e.trans e2, T2, _, _, rfl⟩⟩
    · cases Option.some.inj hx
      exact ⟨t2, [od, .int bs], rfl, .inl (.inl (e _ _ g2 (fun _ q => by cases q))), rfl, _, _, rfl, _, _, rfl, rfl, _, rfl, _, rfl, _, rfl, _, rfl, f, p, _, _, rfl, T', hFL.ext e, hp, odL.ext e, trivial, OD4, BB4, fun H2 e2 T2 => ⟨e.trans e2, T2, _, _, rfl⟩⟩
    · cases Option.some.inj hx
      exact ⟨t3, [.int tp, od], rfl, .inl (.inl (e _ _ g3 (fun _ q => by cases q))), rfl, _, _, rfl, _, _, rfl, rfl, _, rfl, _, rfl, _, rfl, _, rfl, f, p, _, _, rfl, T', hFL.ext e, hp, trivial, odL.ext e, BT4, OD4, fun H2 e2 T2 => ⟨e.trans e2, T2, _, _, rfl⟩⟩
    · cases hx
  obtain ⟨eL, TM, s10, s11, rfl⟩ := hP
  have hFM := hFL.ext eL
  have c1 : cond p 1 := by
    unfold cond
    split
    · decide
    · rename_i hz
      rw [one_mod (hp.two hz)]
      decide
  have B1 : Bd 300 1 := by unfold Bd; decide
  have B14 : Bd 400 1 := by unfold Bd; decide
  have c0 : p = 0 → (1 : Int) ≠ 0 := fun _ => by decide
  obtain ⟨bx, by_⟩ := mk_bd hp c0 BT B1 (by decide)
  refine ⟨_, rfl, _, rfl, p, _, _, rfl, hp, trivial, trivial, int_int, fun t b et eb => ?_⟩
  cases et
  cases eb
  refine ⟨BT.sm (by decide), B1.sm (by decide), fun hb => op_no c1 hb, fun _ q H13 k13 nq => ?_⟩
  have F13 := hFM.ext (Kp.ext k13)
  refine ⟨C, _, _, ⟨rfl, .inl ⟨rfl, rfl⟩⟩, rfl, _, rfl, f, _, _, rfl, F13.choose_spec, fld_no p (by decide +kernel), _, rfl, rfl, rfl, f, p, _, _, rfl, F13, hp, trivial, trivial, int_int, good_yes (BT.mono (by decide)) B14 c1 fun q2 H14 k14 n2 => ?_⟩
  have nq2 := k14 _ _ nq
  refine ⟨_, rfl, .inr ⟨_, _, Dp.num n2, Dp.num nq2, rfl, rfl, ?_⟩⟩
  rw [eqv_self2]
  refine ⟨_, rfl, _, rfl, q, _, _, rfl, nq2, bx, by_, fun l2 xs H15 k15 fx lx okx => ?_⟩
  have KM := k13.trans (k14.trans k15)
  have hF15 := hFM.ext (Kp.ext KM)
  have T15 := TM.ext KM
  refine .inl ⟨_, .inl (.inl fx), ?_⟩
  refine for_list (K := K) (a := l2) (xs := xs) (Pv := fun _ σ H' => LamX.ExtN H15 H' ∧ LamX.Tabs T H' ∧ ∃ s13 s14, σ = [some (.ref a), some (.int (0 + (i : Int))), some (.ref r), some (.int p), some (.ref f), some (.int sz), some (.int ((1 + v2) * m)), some (.int tp), some (.int bs), some od, s10, s11, some (.ref q), s13, s14]) ⟨LamX.ExtN.refl H15, T15, _, _, rfl⟩ (fun j σ H' _ hP => .inl (.inl (hP.1 _ _ fx (fun _ q => by cases q)))) (fun j v σ H' hx hP => ?_) (fun σ H' hP => ?_)
  · obtain ⟨e, T', s13, s14, rfl⟩ := hP
    have ov : okT H' v := (okx v (List.mem_of_getElem? hx)).ext e
    have hF' := hF15.ext e
    refine ⟨C, _, ⟨rfl, .inr ⟨rfl, rfl⟩⟩, _, rfl, f, _, _, rfl, hF'.choose_spec, fld_no p (by decide +kernel), _, rfl, f, p, v, rfl, hF', hp, ov.num fun H16 k16 => ?_⟩
    refine ⟨_, rfl, rfl, _, rfl, _, rfl, _, rfl, p, v, rfl, hp, (ov.ext (Kp.ext k16)).num fun H17 k17 => ?_⟩
    rw [numB.ext ov (Kp.ext k16)]
    refine ⟨_, rfl, ite_f (by rw [decide_eq_true rfl]; rfl) ?_⟩
    exact ⟨e.trans (Kp.ext (k16.trans k17)), T'.ext (k16.trans k17), _, _, rfl⟩
  · obtain ⟨e, T', s13, s14, rfl⟩ := hP
    exact ⟨e0.trans ((Kp.ext KL).trans (eL.trans ((Kp.ext KM).trans e))), T', _, _, _, _, _, _, _, _, _, _, _, _, _, _, rfl⟩
end
end K02
namespace K02
open PySem PySem.Spec PyProof.Rows L2 Rf NumP

/-- what the top has written -/
structure Facts (K : Frag) (mg : Str → Option Value) (ρ : Fs) (C FE CF CN CS : Addr) : Prop where
  f_is_whole : F_is_whole K ρ.is_whole
  f_is_prime : F_is_prime K ρ.is_prime
  f_lowest : F_lowest K ρ.lowest
  f__law_room : F__law_room K ρ._law_room
  f__law_take : F__law_take K ρ._law_take
  f__law_lowest : F__law_lowest K ρ._law_lowest
  f__law_whole : F__law_whole K ρ._law_whole
  f__law_is_number : F__law_is_number K ρ._law_is_number
  f__law_make : F__law_make K ρ._law_make
  f__law_prime : F__law_prime K ρ._law_prime
  f__law_kind : F__law_kind K ρ._law_kind
  f__law_due : F__law_due K ρ._law_due
  f__law_right : F__law_right K ρ._law_right
  f__law_things : F__law_things K ρ._law_things
  f_Field___init__ : F_Field___init__ K ρ.Field___init__
  f_Field_made : F_Field_made K ρ.Field_made
  f_Field_is_number : F_Field_is_number K ρ.Field_is_number
  f_law : F_law K ρ.law
  g_is_whole : mg "is_whole" = some (.ref ρ.is_whole.ad)
  g_is_prime : mg "is_prime" = some (.ref ρ.is_prime.ad)
  g_lowest : mg "lowest" = some (.ref ρ.lowest.ad)
  g__law_room : mg "_law_room" = some (.ref ρ._law_room.ad)
  g__law_take : mg "_law_take" = some (.ref ρ._law_take.ad)
  g__law_lowest : mg "_law_lowest" = some (.ref ρ._law_lowest.ad)
  g__law_whole : mg "_law_whole" = some (.ref ρ._law_whole.ad)
  g__law_is_number : mg "_law_is_number" = some (.ref ρ._law_is_number.ad)
  g__law_make : mg "_law_make" = some (.ref ρ._law_make.ad)
  g__law_prime : mg "_law_prime" = some (.ref ρ._law_prime.ad)
  g__law_kind : mg "_law_kind" = some (.ref ρ._law_kind.ad)
  g__law_due : mg "_law_due" = some (.ref ρ._law_due.ad)
  g__law_right : mg "_law_right" = some (.ref ρ._law_right.ad)
  g__law_things : mg "_law_things" = some (.ref ρ._law_things.ad)
  n_isinstance : mg "isinstance" = none
  n_int : mg "int" = none
  n_bool : mg "bool" = none
  n_tuple : mg "tuple" = none
  n_range : mg "range" = none
  n_abs : mg "abs" = none
  n_len : mg "len" = none
  n_max : mg "max" = none
  n_min : mg "min" = none
  n_str : mg "str" = none
  n_ZeroDivisionError : mg "ZeroDivisionError" = none
  n_ValueError : mg "ValueError" = none
  mp : ∃ t, mg "MOST_PRIME" = some (.int 97 t)
  cls : Cls K C
  na : NoAttr K C "own_prime"
  mkF : Mk K C ρ.Field___init__.ad
  gC : mg "Field" = some (.ref C)
  m_made : Meth K C "made" ρ.Field_made.ad
  m_is_number : Meth K C "is_number" ρ.Field_is_number.ad
  xN : ExcF K mg "NoNumber" CN
  xF : ExcF K mg "NoField" CF
  gFE : mg "FalseError" = some (.ref FE)
  gCS : mg "NoSum" = some (.ref CS)
  kf : KF K FE CF CN CS
  rt : He.fAd K ("_law_right", none) = ρ._law_right.ad
section
variable {P : Program} {w : World} {K : Frag} {mg : Str → Option Value} {base : Heap} {ρ : Fs} {C FE CF CN CS : Addr}
theorem lv {a b : Nat} (h : Nat.ble a b = true) : a ≤ b := Nat.le_of_ble_eq_true h
theorem noAtt : ∀ (A : Addr) (f : Str), False → Cls K A ∧ NoAttr K A f := fun _ _ h => h.elim
theorem noMt : ∀ (A : Addr) (m : Str) (e : FnE), False → FnOkE P w K mg base e ∧ e.k ≤ k ∧ Cls K A ∧ Meth K A m e.f := fun _ _ _ h => h.elim
theorem noEq : ∀ (A : Addr) (e : FnE), False → FnOkE P w K mg base e ∧ e.k ≤ k ∧ PySem.W.findIn K (.ref A) "__eq__" = some (some (.ref e.f)) ∧ PySem.W.isFn K (.ref e.f) = true := fun _ _ h => h.elim
theorem blty {x : Str} {T : String} (h : mg x = none) (hb : bootBuiltins x = some (.type T)) (hn : x ≠ "__name__") : ∃ u, RelV (.ty T) u ∧ (mg x = some u ∨ (mg x = none ∧ bootBuiltins x = some u ∧ x ≠ "__name__")) := ⟨_, rfl, .inr ⟨h, hb, hn⟩⟩
theorem glref {x : Str} {a : Addr} (h : mg x = some (.ref a)) : ∃ u, RelV (.ref a) u ∧ (mg x = some u ∨ (mg x = none ∧ bootBuiltins x = some u ∧ x ≠ "__name__")) := ⟨_, rfl, .inl h⟩
theorem ok_is_whole (X : Facts K mg ρ C FE CF CN CS) : FnOkE P w K mg base (en ρ.is_whole ["thing"] spWhole 1) :=
  def_okF (k := 0) (n := n_is_whole) (Γ := g_is_whole) X.f_is_whole (b_is_whole X.f_is_whole) x_is_whole (gam_ok ⟨rfl, rfl, rfl, rfl, rfl⟩ trivial ⟨blty X.n_int (by decide +kernel) (by decide +kernel), blty X.n_bool (by decide +kernel) (by decide +kernel), trivial⟩ trivial noAtt noMt noEq ⟨X.n_isinstance, trivial⟩ trivial trivial) (fun vs H Q E h => by obtain ⟨_, rfl, _⟩ := h; rfl) (fun vs H Q E h => r_is_whole h) rfl
theorem ok_is_prime (X : Facts K mg ρ C FE CF CN CS) (o_is_whole : FnOkE P w K mg base (en ρ.is_whole ["thing"] spWhole 1)) : FnOkE P w K mg base (en ρ.is_prime ["thing"] spPrime 2) :=
  def_okF (k := 1) (n := n_is_prime) (Γ := g_is_prime ρ) X.f_is_prime (b_is_prime X.f_is_prime) x_is_prime (gam_ok ⟨rfl, rfl, rfl, rfl, rfl⟩ ⟨⟨o_is_whole, lv rfl, X.g_is_whole⟩, trivial⟩ ⟨let ⟨t, e⟩ := X.mp; ⟨_, ⟨t, rfl⟩, .inl e⟩, trivial⟩ trivial noAtt noMt noEq ⟨X.n_range, trivial⟩ trivial trivial) (fun vs H Q E h => by obtain ⟨_, rfl, _⟩ := h; rfl) (fun vs H Q E h => r_is_prime h) rfl
theorem ok_lowest (X : Facts K mg ρ C FE CF CN CS) : FnOkE P w K mg base (en ρ.lowest ["top", "bottom"] (spLow CN) 1) :=
  def_okF (k := 0) (n := n_lowest) (Γ := g_lowest CN) X.f_lowest (b_lowest X.f_lowest) x_lowest (gam_ok ⟨rfl, rfl, rfl, rfl, rfl⟩ trivial trivial trivial noAtt noMt noEq ⟨X.n_ZeroDivisionError, X.n_abs, trivial⟩ trivial ⟨X.xN, trivial⟩) (fun vs H Q E h => by obtain ⟨_, _, rfl, _⟩ := h; rfl) (fun vs H Q E h => r_lowest h) rfl
theorem ok_Field___init__ (X : Facts K mg ρ C FE CF CN CS) (o_is_whole : FnOkE P w K mg base (en ρ.is_whole ["thing"] spWhole 1)) (o_is_prime : FnOkE P w K mg base (en ρ.is_prime ["thing"] spPrime 2)) : FnOkE P w K mg base (en ρ.Field___init__ ["self", "prime"] (spInit C) 3) :=
  def_okF (k := 2) (n := n_Field___init__) (Γ := g_init ρ C CF) X.f_Field___init__ (b_Field___init__ X.f_Field___init__) x_Field___init__ (gam_ok ⟨rfl, rfl, rfl, rfl, rfl⟩ ⟨⟨o_is_whole, lv rfl, X.g_is_whole⟩, ⟨o_is_prime, lv rfl, X.g_is_prime⟩, trivial⟩ trivial trivial (fun A f h => by obtain ⟨rfl, rfl⟩ := h; exact ⟨X.cls, X.na⟩) noMt noEq trivial trivial ⟨X.xF, trivial⟩) (fun vs H Q E h => by obtain ⟨_, _, _, rfl, _⟩ := h; rfl) (fun vs H Q E h => r_init h) rfl
theorem ok_Field_made (X : Facts K mg ρ C FE CF CN CS) (o_is_whole : FnOkE P w K mg base (en ρ.is_whole ["thing"] spWhole 1)) (o_lowest : FnOkE P w K mg base (en ρ.lowest ["top", "bottom"] (spLow CN) 1)) : FnOkE P w K mg base (en ρ.Field_made ["self", "top", "bottom"] (spMade C CN) 2 kb_Field_made) :=
  def_okF (k := 1) (n := n_Field_made) (Γ := g_made ρ C CN) X.f_Field_made (b_Field_made X.f_Field_made) x_Field_made (gam_ok ⟨rfl, rfl, rfl, rfl, rfl⟩ ⟨⟨o_is_whole, lv rfl, X.g_is_whole⟩, ⟨o_lowest, lv rfl, X.g_lowest⟩, trivial⟩ trivial trivial (fun A f h => by obtain ⟨rfl, rfl⟩ := h; exact ⟨X.cls, X.na⟩) noMt noEq ⟨X.n_range, trivial⟩ trivial ⟨X.xN, trivial⟩) (fun vs H Q E h => by obtain ⟨_, _, _, _, rfl, _⟩ := h; rfl) (fun vs H Q E h => r_made h) rfl (hkb := kbok_Field_made X.f_Field_made)
theorem ok_Field_is_number (X : Facts K mg ρ C FE CF CN CS) (o_is_whole : FnOkE P w K mg base (en ρ.is_whole ["thing"] spWhole 1)) (o_lowest : FnOkE P w K mg base (en ρ.lowest ["top", "bottom"] (spLow CN) 1)) : FnOkE P w K mg base (en ρ.Field_is_number ["self", "thing"] (spNum C) 2) :=
  def_okF (k := 1) (n := n_Field_is_number) (Γ := g_num ρ C CN) X.f_Field_is_number (b_Field_is_number X.f_Field_is_number) x_Field_is_number (gam_ok ⟨rfl, rfl, rfl, rfl, rfl⟩ ⟨⟨o_is_whole, lv rfl, X.g_is_whole⟩, ⟨o_lowest, lv rfl, X.g_lowest⟩, trivial⟩ ⟨blty X.n_tuple (by decide +kernel) (by decide +kernel), trivial⟩ trivial (fun A f h => by obtain ⟨rfl, rfl⟩ := h; exact ⟨X.cls, X.na⟩) noMt noEq ⟨X.n_isinstance, X.n_len, trivial⟩ trivial trivial) (fun vs H Q E h => by obtain ⟨_, _, _, rfl, _⟩ := h; rfl) (fun vs H Q E h => r_num h) rfl
theorem ok__law_room (X : Facts K mg ρ C FE CF CN CS) : FnOkE P w K mg base (en ρ._law_room ["_law_script", "_law_k"] (spRoom K) 1) :=
  def_okF (k := 0) (n := n__law_room) (Γ := g_room) X.f__law_room (b__law_room X.f__law_room) x__law_room (gam_ok ⟨rfl, rfl, rfl, rfl, rfl⟩ trivial trivial trivial noAtt noMt noEq ⟨X.n_len, trivial⟩ trivial trivial) (fun vs H Q E h => by obtain ⟨_, _, _, rfl, _⟩ := h; rfl) (fun vs H Q E h => r_room h) rfl
theorem ok__law_take (X : Facts K mg ρ C FE CF CN CS) : FnOkE P w K mg base (en ρ._law_take ["_law_room_here", "_law_many"] spTake 1) :=
  def_okF (k := 0) (n := n__law_take) (Γ := gam0) X.f__law_take (b__law_take X.f__law_take) x__law_take (gam_ok ⟨rfl, rfl, rfl, rfl, rfl⟩ trivial trivial trivial noAtt noMt noEq trivial trivial trivial) (fun vs H Q E h => by obtain ⟨_, _, rfl, _⟩ := h; rfl) (fun vs H Q E h => r_take h) rfl
theorem ok__law_lowest (X : Facts K mg ρ C FE CF CN CS) : FnOkE P w K mg base (en ρ._law_lowest ["_law_top", "_law_base"] spLLow 1) :=
  def_okF (k := 0) (n := n__law_lowest) (Γ := gam0) X.f__law_lowest (b__law_lowest X.f__law_lowest) x__law_lowest (gam_ok ⟨rfl, rfl, rfl, rfl, rfl⟩ trivial trivial trivial noAtt noMt noEq ⟨X.n_abs, X.n_int, trivial⟩ trivial trivial) (fun vs H Q E h => by obtain ⟨_, _, rfl, _⟩ := h; rfl) (fun vs H Q E h => r_llow h) rfl
theorem ok__law_whole (X : Facts K mg ρ C FE CF CN CS) : FnOkE P w K mg base (en ρ._law_whole ["_law_thing"] spWhole 1) :=
  def_okF (k := 0) (n := n__law_whole) (Γ := g_is_whole) X.f__law_whole (b__law_whole X.f__law_whole) x__law_whole (gam_ok ⟨rfl, rfl, rfl, rfl, rfl⟩ trivial ⟨blty X.n_int (by decide +kernel) (by decide +kernel), blty X.n_bool (by decide +kernel) (by decide +kernel), trivial⟩ trivial noAtt noMt noEq ⟨X.n_isinstance, trivial⟩ trivial trivial) (fun vs H Q E h => by obtain ⟨_, rfl, _⟩ := h; rfl) (fun vs H Q E h => r__law_whole h) rfl
theorem ok__law_is_number (X : Facts K mg ρ C FE CF CN CS) (o__law_whole : FnOkE P w K mg base (en ρ._law_whole ["_law_thing"] spWhole 1)) (o__law_lowest : FnOkE P w K mg base (en ρ._law_lowest ["_law_top", "_law_base"] spLLow 1)) : FnOkE P w K mg base (en ρ._law_is_number ["_law_prime_here", "_law_thing"] spLNum 2) :=
  def_okF (k := 1) (n := n__law_is_number) (Γ := g_lnum ρ) X.f__law_is_number (b__law_is_number X.f__law_is_number) x__law_is_number (gam_ok ⟨rfl, rfl, rfl, rfl, rfl⟩ ⟨⟨o__law_whole, lv rfl, X.g__law_whole⟩, ⟨o__law_lowest, lv rfl, X.g__law_lowest⟩, trivial⟩ ⟨blty X.n_tuple (by decide +kernel) (by decide +kernel), trivial⟩ trivial noAtt noMt noEq ⟨X.n_isinstance, X.n_len, trivial⟩ trivial trivial) (fun vs H Q E h => by obtain ⟨_, _, rfl, _⟩ := h; rfl) (fun vs H Q E h => r_lnum h) rfl
theorem ok__law_make (X : Facts K mg ρ C FE CF CN CS) (o__law_lowest : FnOkE P w K mg base (en ρ._law_lowest ["_law_top", "_law_base"] spLLow 1)) : FnOkE P w K mg base (en ρ._law_make ["_law_prime_here", "_law_top", "_law_base"] spLMake 2) :=
  def_okF (k := 1) (n := n__law_make) (Γ := g_lmake ρ) X.f__law_make (b__law_make X.f__law_make) x__law_make (gam_ok ⟨rfl, rfl, rfl, rfl, rfl⟩ ⟨⟨o__law_lowest, lv rfl, X.g__law_lowest⟩, trivial⟩ trivial trivial noAtt noMt noEq ⟨X.n_range, trivial⟩ trivial trivial) (fun vs H Q E h => by obtain ⟨_, _, _, rfl, _⟩ := h; rfl) (fun vs H Q E h => r_lmake h) rfl
theorem ok__law_prime (X : Facts K mg ρ C FE CF CN CS) (o__law_take : FnOkE P w K mg base (en ρ._law_take ["_law_room_here", "_law_many"] spTake 1)) : FnOkE P w K mg base (en ρ._law_prime ["_law_room_here"] spLPrime 2) :=
  def_okF (k := 1) (n := n__law_prime) (Γ := g_lprime ρ) X.f__law_prime (b__law_prime X.f__law_prime) x__law_prime (gam_ok ⟨rfl, rfl, rfl, rfl, rfl⟩ ⟨⟨o__law_take, lv rfl, X.g__law_take⟩, trivial⟩ trivial trivial noAtt noMt noEq trivial trivial trivial) (fun vs H Q E h => by obtain ⟨_, rfl, _⟩ := h; rfl) (fun vs H Q E h => r_lprime h) rfl
theorem ok__law_due (X : Facts K mg ρ C FE CF CN CS) (o__law_whole : FnOkE P w K mg base (en ρ._law_whole ["_law_thing"] spWhole 1)) (o__law_make : FnOkE P w K mg base (en ρ._law_make ["_law_prime_here", "_law_top", "_law_base"] spLMake 2)) : FnOkE P w K mg base (en ρ._law_due ["_law_prime_here", "_law_top", "_law_base"] spDue 3) :=
  def_okF (k := 2) (n := n__law_due) (Γ := g_due ρ) X.f__law_due (b__law_due X.f__law_due) x__law_due (gam_ok ⟨rfl, rfl, rfl, rfl, rfl⟩ ⟨⟨o__law_whole, lv rfl, X.g__law_whole⟩, ⟨o__law_make, lv rfl, X.g__law_make⟩, trivial⟩ trivial trivial noAtt noMt noEq trivial trivial trivial) (fun vs H Q E h => by obtain ⟨_, _, _, rfl, _⟩ := h; rfl) (fun vs H Q E h => r_due h) rfl
theorem ok__law_things (X : Facts K mg ρ C FE CF CN CS) : FnOkE P w K mg base (en ρ._law_things ["_law_number"] spThings 1) :=
  def_okF (k := 0) (n := n__law_things) (Γ := gam0) X.f__law_things (b__law_things X.f__law_things) x__law_things (gam_ok ⟨rfl, rfl, rfl, rfl, rfl⟩ trivial trivial trivial noAtt noMt noEq ⟨X.n_str, trivial⟩ trivial trivial) (fun vs H Q E h => by obtain ⟨_, _, _, rfl, _⟩ := h; rfl) (fun vs H Q E h => r_things h) rfl
theorem ok_kind (X : Facts K mg ρ C FE CF CN CS) : LamOk P w K mg base 3 "_law_kind" (TTk CN) := by
  obtain ⟨oc, od, dV, kV, doc, pm, an, cdv, ct, osl, e, lk, hcd, _, _⟩ := X.f__law_kind.ex
  have hb := b__law_kind X.f__law_kind
  rw [e] at lk hb
  exact kind_ok (Γ := g_kind FE CF CN CS) (n := n__law_kind) (v := .ref FE) x__law_kind.1 x__law_kind.2 (by decide +kernel) (by decide +kernel) (by decide +kernel) (fun _ _ _ => trivial) (by decide +kernel) (by decide +kernel) rfl rfl lk hcd X.f__law_kind.kp X.g__law_kind hb
    (gam_ok ⟨rfl, rfl, rfl, rfl, rfl⟩ trivial ⟨glref X.gFE, glref X.xF.gC, glref X.xN.gC, glref X.gCS, blty X.n_ValueError (by decide +kernel) (by decide +kernel), trivial⟩ trivial noAtt noMt noEq ⟨X.n_isinstance, trivial⟩ trivial trivial) rfl rfl
    (fun f c' q tl H Q hc h => r_kind X.kf f c' q tl H Q hc h)
theorem ok_all (X : Facts K mg ρ C FE CF CN CS) (TB : LamX.TabB base mg (He.cT K ("_law_right", none)).1 (He.cT K ("_law_right", none)).2) :
    FnOkE P w K mg base (en ρ.law ["_law_script"] (spLaw [((He.cT K ("_law_right", none)).2, "_law_right.<locals>.<lambda>")] K) 7) := by
  have o1 := ok_is_whole (P := P) (w := w) (base := base) X
  have o2 := ok_is_prime X o1
  have o3 := ok_lowest (P := P) (w := w) (base := base) X
  have o4 := ok_Field___init__ X o1 o2
  have o5 := ok_Field_made X o1 o3
  have o6 := ok_Field_is_number X o1 o3
  have l1 := ok__law_room (P := P) (w := w) (base := base) X
  have l2 := ok__law_take (P := P) (w := w) (base := base) X
  have l3 := ok__law_lowest (P := P) (w := w) (base := base) X
  have l4 := ok__law_whole (P := P) (w := w) (base := base) X
  have l5 := ok__law_is_number X l4 l3
  have l6 := ok__law_make X l3
  have l7 := ok__law_due X l4 l6
  have l8 := ok__law_things (P := P) (w := w) (base := base) X
  have l9 := ok__law_prime X l2
  have rt : FnOkE P w K mg base (en ρ._law_right ["_law_field", "_law_prime_here", "_law_top", "_law_base"] (spRight [((He.cT K ("_law_right", none)).2, "_law_right.<locals>.<lambda>")] C) 6) :=
    def_okLF (k := 3) (n := n__law_right) (Γ := g_right ρ [((He.cT K ("_law_right", none)).2, "_law_right.<locals>.<lambda>")] C CN) X.f__law_right (b__law_right X.f__law_right) x__law_right
      (gam_ok ⟨rfl, rfl, rfl, rfl, rfl⟩ ⟨⟨l7, lv rfl, X.g__law_due⟩, ⟨l5, lv rfl, X.g__law_is_number⟩, trivial⟩ trivial trivial noAtt
        (fun A m e h => by
          obtain ⟨rfl, rfl, rfl⟩ := h
          exact ⟨o5, lv rfl, X.cls, X.m_made⟩) noEq trivial ⟨ok_kind X, trivial⟩ trivial)
      (fun vs H Q E h => by obtain ⟨_, _, _, _, rfl, _⟩ := h; rfl) (fun vs H Q E h => r_right h) (by decide +kernel) X.rt TB (by
        have e : ("_law_right" : Str) ++ ".<locals>." ++ "<lambda>" = "_law_right.<locals>.<lambda>" := by decide +kernel
        rw [e])
  exact def_okF (k := 6) (n := n_law) (Γ := g_law ρ [((He.cT K ("_law_right", none)).2, "_law_right.<locals>.<lambda>")] K C CN) X.f_law (b_law X.f_law) x_law
    (gam_ok ⟨rfl, rfl, rfl, rfl, rfl⟩ ⟨⟨l1, lv rfl, X.g__law_room⟩, ⟨l9, lv rfl, X.g__law_prime⟩, ⟨l2, lv rfl, X.g__law_take⟩, ⟨rt, lv rfl, X.g__law_right⟩, ⟨l7, lv rfl, X.g__law_due⟩, ⟨l8, lv rfl, X.g__law_things⟩, ⟨l5, lv rfl, X.g__law_is_number⟩, trivial⟩ ⟨blty X.n_bool (by decide +kernel) (by decide +kernel), trivial⟩ ⟨⟨o4, lv rfl, X.mkF, X.gC⟩, trivial⟩ noAtt
      (fun A m e h => by
        obtain ⟨rfl, h⟩ := h
        rcases h with ⟨rfl, rfl⟩ | ⟨rfl, rfl⟩
        · exact ⟨o5, lv rfl, X.cls, X.m_made⟩
        · exact ⟨o6, lv rfl, X.cls, X.m_is_number⟩) noEq ⟨X.n_range, ⟨X.n_max, ⟨X.n_min, ⟨X.n_len, ⟨X.n_isinstance, trivial⟩⟩⟩⟩⟩ trivial trivial)
    (fun vs H Q E h => by obtain ⟨_, _, rfl, _⟩ := h; rfl) (fun vs H Q E h => r_law h) rfl
end
end K02
namespace K02
open PySem PySem.Spec PyProof.Rows L2 Rf NumP

/-! ### the head -/
def fa : List He.Fa := [.glo "is_whole", .glo "is_prime", .glo "lowest", .glo "_law_room", .glo "_law_take", .glo "_law_lowest", .glo "_law_whole", .glo "_law_is_number", .glo "_law_make", .glo "_law_prime", .glo "_law_kind", .glo "_law_due", .glo "_law_right", .glo "_law_things", .free "isinstance", .free "int", .free "bool", .free "tuple", .free "range", .free "abs", .free "len", .free "max", .free "min", .free "str", .free "ZeroDivisionError", .free "ValueError", .int "MOST_PRIME" 97, .cls "Field", .noat "Field" "own_prime", .mkr "Field", .glo "Field", .meth "Field" "made", .meth "Field" "is_number", .exc "NoNumber", .glo "NoNumber", .exc "NoField", .glo "NoField", .glo "FalseError", .glo "NoSum", .exm "NoNumber" "FalseError" true, .glo "law"]
def fu : List He.DefD := [d_is_whole, d_is_prime, d_lowest, d__law_room, d__law_take, d__law_lowest, d__law_whole, d__law_is_number, d__law_make, d__law_prime, d__law_kind, d__law_due, d__law_right, d__law_things, d_Field___init__, d_Field_made, d_Field_is_number, d_law]
def tf : List He.Defn := [("_law_right", none)]
def ex (K : Frag) : Bool := excCB K (He.ga K "NoNumber") && (decide (PySem.W.kitOne K (.ref (He.ga K "NoNumber")) (.ref (He.ga K "NoField")) = some false) && (decide (PySem.W.kitOne K (.ref (He.ga K "NoNumber")) (.ref (He.ga K "NoNumber")) = some true) && (decide (PySem.W.kitOne K (.ref (He.ga K "NoNumber")) (.ref (He.ga K "NoSum")) = some false) && decide (PySem.W.kitOne K (.ref (He.ga K "NoNumber")) (.type "ValueError") = some true))))
abbrev R : PySem.W.OpenRow := PySem.W.OpenLaw.row PySem.Challenge.rw_falsesums_k02_numbers_made
abbrev hk : PySem.W.Hook := He.hookX 6 fa fu [] tf ex
def ob (s : PySem.W.SharedT) : He.AlX := He.obsX 6 fa fu [] tf ex (HandSHeadRun.getT s)
theorem ob_eq (s : PySem.W.SharedT) : ob s = hk.obs s.abs := He.obsX_eq (HandSHeadRun.getT_eq s)
def names : List PySem.Str := ["_wall", "FalseError", "NoField", "NoNumber", "NoSum", "MOST_PRIME", "is_whole", "is_prime", "lowest", "Field", "_law_room", "_law_take", "_law_lowest", "_law_whole", "_law_is_number", "_law_make", "_law_prime", "_law_kind", "_law_due", "_law_right", "_law_things"]
theorem run (w : World) : HandSHeadRun.RunEq R (PySem.W.view R.prog [24]) hk ob 4000 names w := by
  intro os
  kernel_rfl
theorem facts {w : World} {K : Frag} {h : Heap} {mg : Str → Option Value} (X : K.In h) (G : h.Ns mainGlobals mg) (c : He.SaysX fa fu [] tf ex w h K) :
    ∃ ρ : Fs, ρ.law.ad = He.ga K "law" ∧ Facts K mg ρ (He.ga K "Field") (He.ga K "FalseError") (He.ga K "NoField") (He.ga K "NoNumber") (He.ga K "NoSum") := by
  have d := c.t.d
  obtain ⟨fd_is_whole, F_is_whole⟩ := d.def_ 0 (d := d_is_whole) rfl
  obtain ⟨fd_is_prime, F_is_prime⟩ := d.def_ 1 (d := d_is_prime) rfl
  obtain ⟨fd_lowest, F_lowest⟩ := d.def_ 2 (d := d_lowest) rfl
  obtain ⟨fd__law_room, F__law_room⟩ := d.def_ 3 (d := d__law_room) rfl
  obtain ⟨fd__law_take, F__law_take⟩ := d.def_ 4 (d := d__law_take) rfl
  obtain ⟨fd__law_lowest, F__law_lowest⟩ := d.def_ 5 (d := d__law_lowest) rfl
  obtain ⟨fd__law_whole, F__law_whole⟩ := d.def_ 6 (d := d__law_whole) rfl
  obtain ⟨fd__law_is_number, F__law_is_number⟩ := d.def_ 7 (d := d__law_is_number) rfl
  obtain ⟨fd__law_make, F__law_make⟩ := d.def_ 8 (d := d__law_make) rfl
  obtain ⟨fd__law_prime, F__law_prime⟩ := d.def_ 9 (d := d__law_prime) rfl
  obtain ⟨fd__law_kind, F__law_kind⟩ := d.def_ 10 (d := d__law_kind) rfl
  obtain ⟨fd__law_due, F__law_due⟩ := d.def_ 11 (d := d__law_due) rfl
  obtain ⟨fd__law_right, F__law_right⟩ := d.def_ 12 (d := d__law_right) rfl
  obtain ⟨fd__law_things, F__law_things⟩ := d.def_ 13 (d := d__law_things) rfl
  obtain ⟨fd_Field___init__, F_Field___init__⟩ := d.def_ 14 (d := d_Field___init__) rfl
  obtain ⟨fd_Field_made, F_Field_made⟩ := d.def_ 15 (d := d_Field_made) rfl
  obtain ⟨fd_Field_is_number, F_Field_is_number⟩ := d.def_ 16 (d := d_Field_is_number) rfl
  obtain ⟨fd_law, F_law⟩ := d.def_ 17 (d := d_law) rfl
  obtain ⟨x1, x⟩ := He.ba c.more
  obtain ⟨x2, x⟩ := He.ba x
  obtain ⟨x3, x⟩ := He.ba x
  obtain ⟨x4, x5⟩ := He.ba x
  refine ⟨⟨⟨0, fd_law⟩, ⟨He.fAd K d_is_whole.at_, fd_is_whole⟩, ⟨He.fAd K d_is_prime.at_, fd_is_prime⟩, ⟨He.fAd K d_lowest.at_, fd_lowest⟩, ⟨He.fAd K d_Field___init__.at_, fd_Field___init__⟩, ⟨0, fd_law⟩, ⟨0, fd_law⟩, ⟨He.fAd K d_Field_made.at_, fd_Field_made⟩, ⟨He.fAd K d_Field_is_number.at_, fd_Field_is_number⟩, ⟨He.fAd K d__law_room.at_, fd__law_room⟩, ⟨He.fAd K d__law_take.at_, fd__law_take⟩, ⟨He.fAd K d__law_lowest.at_, fd__law_lowest⟩, ⟨He.fAd K d__law_whole.at_, fd__law_whole⟩, ⟨He.fAd K d__law_is_number.at_, fd__law_is_number⟩, ⟨He.fAd K d__law_make.at_, fd__law_make⟩, ⟨He.fAd K d__law_prime.at_, fd__law_prime⟩, ⟨He.fAd K d__law_kind.at_, fd__law_kind⟩, ⟨He.fAd K d__law_due.at_, fd__law_due⟩, ⟨He.fAd K d__law_right.at_, fd__law_right⟩, ⟨He.fAd K d__law_things.at_, fd__law_things⟩, ⟨He.fAd K d_law.at_, fd_law⟩⟩, rfl, ?_⟩
  exact {
    f_is_whole := F_is_whole
    f_is_prime := F_is_prime
    f_lowest := F_lowest
    f__law_room := F__law_room
    f__law_take := F__law_take
    f__law_lowest := F__law_lowest
    f__law_whole := F__law_whole
    f__law_is_number := F__law_is_number
    f__law_make := F__law_make
    f__law_prime := F__law_prime
    f__law_kind := F__law_kind
    f__law_due := F__law_due
    f__law_right := F__law_right
    f__law_things := F__law_things
    f_Field___init__ := F_Field___init__
    f_Field_made := F_Field_made
    f_Field_is_number := F_Field_is_number
    f_law := F_law
    g_is_whole := He.glo_ok X G (d.fact 0 (f := .glo "is_whole") rfl)
    g_is_prime := He.glo_ok X G (d.fact 1 (f := .glo "is_prime") rfl)
    g_lowest := He.glo_ok X G (d.fact 2 (f := .glo "lowest") rfl)
    g__law_room := He.glo_ok X G (d.fact 3 (f := .glo "_law_room") rfl)
    g__law_take := He.glo_ok X G (d.fact 4 (f := .glo "_law_take") rfl)
    g__law_lowest := He.glo_ok X G (d.fact 5 (f := .glo "_law_lowest") rfl)
    g__law_whole := He.glo_ok X G (d.fact 6 (f := .glo "_law_whole") rfl)
    g__law_is_number := He.glo_ok X G (d.fact 7 (f := .glo "_law_is_number") rfl)
    g__law_make := He.glo_ok X G (d.fact 8 (f := .glo "_law_make") rfl)
    g__law_prime := He.glo_ok X G (d.fact 9 (f := .glo "_law_prime") rfl)
    g__law_kind := He.glo_ok X G (d.fact 10 (f := .glo "_law_kind") rfl)
    g__law_due := He.glo_ok X G (d.fact 11 (f := .glo "_law_due") rfl)
    g__law_right := He.glo_ok X G (d.fact 12 (f := .glo "_law_right") rfl)
    g__law_things := He.glo_ok X G (d.fact 13 (f := .glo "_law_things") rfl)
    n_isinstance := He.free_ok X G (d.fact 14 (f := .free "isinstance") rfl)
    n_int := He.free_ok X G (d.fact 15 (f := .free "int") rfl)
    n_bool := He.free_ok X G (d.fact 16 (f := .free "bool") rfl)
    n_tuple := He.free_ok X G (d.fact 17 (f := .free "tuple") rfl)
    n_range := He.free_ok X G (d.fact 18 (f := .free "range") rfl)
    n_abs := He.free_ok X G (d.fact 19 (f := .free "abs") rfl)
    n_len := He.free_ok X G (d.fact 20 (f := .free "len") rfl)
    n_max := He.free_ok X G (d.fact 21 (f := .free "max") rfl)
    n_min := He.free_ok X G (d.fact 22 (f := .free "min") rfl)
    n_str := He.free_ok X G (d.fact 23 (f := .free "str") rfl)
    n_ZeroDivisionError := He.free_ok X G (d.fact 24 (f := .free "ZeroDivisionError") rfl)
    n_ValueError := He.free_ok X G (d.fact 25 (f := .free "ValueError") rfl)
    mp := He.int_ok X G (d.fact 26 (f := .int "MOST_PRIME" 97) rfl)
    cls := He.cls_ok (d.fact 27 (f := .cls "Field") rfl)
    na := He.noat_ok (d.fact 28 (f := .noat "Field" "own_prime") rfl)
    mkF := He.mkr_ok (d.fact 29 (f := .mkr "Field") rfl)
    gC := He.glo_ok X G (d.fact 30 (f := .glo "Field") rfl)
    m_made := He.meth_ok (d.fact 31 (f := .meth "Field" "made") rfl)
    m_is_number := He.meth_ok (d.fact 32 (f := .meth "Field" "is_number") rfl)
    xN := excF_of X G (d.fact 33 (f := .exc "NoNumber") rfl) (d.fact 34 (f := .glo "NoNumber") rfl)
    xF := excF_of X G (d.fact 35 (f := .exc "NoField") rfl) (d.fact 36 (f := .glo "NoField") rfl)
    gFE := He.glo_ok X G (d.fact 37 (f := .glo "FalseError") rfl)
    gCS := He.glo_ok X G (d.fact 38 (f := .glo "NoSum") rfl)
    kf := ⟨excC_of x1, of_decide_eq_true x2, of_decide_eq_true x3, of_decide_eq_true x4, of_decide_eq_true x5, He.exm_ok (d.fact 39 (f := .exm "NoNumber" "FalseError" true) rfl)⟩
    rt := rfl }
end K02
open PySem PySem.W PySem.Calls PyProof.Rows
theorem PySem.Challenge.cw_falsesums_k02_numbers_made_holds : PySem.Challenge.rw_falsesums_k02_numbers_made.Holds := by
  w_on; o_law
  refine HandSHeadRun.head_any (r := K02.R) (q := view K02.R.prog [24]) (H := K02.hk) (ob := K02.ob) (M := 4000) (loose := K02.names) (d := HandSHeadRun.topDef K02.R.prog 24) (kwd := []) K02.ob_eq
    (by kernel_rfl) (fun s => by kernel_rfl) K02.run (by kernel_rfl) (by kernel_rfl) (by kernel_rfl) (by rfl) (by first | assumption | decide +kernel) (by decide +kernel) ⟨rfl, rfl, rfl, rfl, rfl, by decide +kernel⟩ ?hw ?hc
  case hw => w_witness2
  case hc =>
    refine LamX.walk_ofTsE (l := PySem.Challenge.rw_falsesums_k02_numbers_made) (n := 63) (k := 7) (x := "_law_script") (CX := fun w => L2.CX K02.R.prog w) rfl (by decide +kernel) (by kernel_rfl) ⟨rfl, by decide, by decide⟩ ?F (fun w H s e s' z => by
      obtain ⟨_, _, _, _, _, _, _, _, _, _, _, _, z⟩ := z
      exact z)
    intro w mg fa h Y G hmg0
    obtain ⟨K, KX, c⟩ := Y
    have hmg : mg ("law" : PySem.Str) = some (.ref fa) := by
      have e : (HandSHeadRun.topDef K02.R.prog 24).name = ("law" : PySem.Str) := by kernel_rfl
      rw [← e]
      exact hmg0
    obtain ⟨ρ, el, X⟩ := K02.facts KX G c
    have e := hmg.symm.trans (He.glo_ok KX G (c.t.d.fact 40 (f := .glo "law") rfl))
    have ef : fa = ρ.law.ad := by
      rw [el]
      exact Value.ref.inj (Option.some.inj e)
    subst ef
    refine ⟨K, KX, ρ.law.fd, [He.cT K ("_law_right", none)], K02.spLaw [((He.cT K ("_law_right", none)).2, "_law_right.<locals>.<lambda>")] K, fun p hp => c.empty ("_law_right", none) (by decide +kernel) |> fun z => by rw [List.mem_singleton.mp hp]; exact z, fun p hp => by rw [List.mem_singleton.mp hp]; exact c.out ("_law_right", none) List.mem_cons_self,
      fun p hp => by rw [List.mem_singleton.mp hp]; exact codeHd_of_K KX (c.hd ("_law_right", none) List.mem_cons_self), fun s u => ?_, fun H a ns hl _ hT hS => ⟨a, ns, rfl, hS, hl, fun p hp => ?_, fun _ => rfl⟩, fun base _ _ TB => ?_⟩
    · exact L2.FunD.bindsA (ps := ["_law_script"]) X.f_law (fun _ _ _ _ _ _ us hl => match us, hl with | [_], _ => rfl) s [u] rfl
    · rw [List.mem_singleton.mp hp]
      exact LamX.TabS.nil (hT _ List.mem_cons_self)
    · exact (K02.ok_all X (TB _ List.mem_cons_self)).ok
