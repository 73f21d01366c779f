import PyProof.Rows.All
import Wide.All
import OpenK.AllK
import Wide.FinOn
import HandS.ForMost
import HandS.ForExc
import HandS.CallSlots
import HandS.CallRecv
import HandS.IsInst
import HandS.Flow
import HandS.OwnEq
import HandS.ExcIs
import HandS.SetFor
import HandS.Lambda
import HandS.RaiseFrom
import HandS.SuiteRaise
import HandS.RaiseOp
import HandS.ExcBuiltin
import KE.KExcRaise
import PyProof.Rows.IntOr
import PyProof.InstEq
import HandS.DictSub
import HandS.Defaults
import HandS.FStr
import HandS.RaiseMore
import KE.KStateDown
import Lean
import HandS.Ends
import HandS.More
import HandS.Words
import HandS.WordsExc
import HandS.MakeKw
import HandS.Head0
import HandS.Head1
import HandS.Head2
import HandS.HeadEnd
import HandS.HeadHook1
import HandS.HeadHook2
import HandS.HeadHook3
import HandS.HeadHook4
import HandS.HeadWalk
import HandS.EndTab
import KE.KEqSeq
import PySem.Challenge.RW_falsesums_k01_what_is_a_field
set_option Elab.async false
set_option linter.all false
set_option maxRecDepth 100000
set_option maxHeartbeats 0
/-! Rf1: a syntax of one's own beside the text's, what it means by the abstract heap, and that the text does so. -/
namespace Rf
open PySem PySem.Spec PyProof.Rows L2
abbrev Frag := PySem.W.Frag

/-! ### readings by values -/
theorem OpR.imp {X : Cx} {f : Value → Value → Sem Value} {r r' : R2} (h : OpR X f r) (hi : ∀ x y H Q, r' x y H Q → r x y H Q) : OpR X f r' :=
  fun pins s σ H x y v u Q I r1 r2 q => h pins s σ H x y v u Q I r1 r2 (hi x y H Q q)
theorem CallR.imp {X : Cx} {f : Value} {r r' : List V → Hp → VK → Prop} (h : CallR X f r) (hi : ∀ xs H Q, r' xs H Q → r xs H Q) : CallR X f r' :=
  fun pins s σ H xs us Q I r1 q => h pins s σ H xs us Q I r1 (hi xs H Q q)
theorem PE.imp {X : Cx} {e : Expr} {t t' : TE} (h : PE X e t) (hi : ∀ σ H Q, t' σ H Q → t σ H Q) : PE X e t' :=
  ⟨fun pins s σ H Q I q => h.run pins s σ H Q I (hi σ H Q q)⟩
theorem PE.or {X : Cx} {e : Expr} {t t' : TE} (h : PE X e t) (h' : PE X e t') : PE X e (fun σ H Q => t σ H Q ∨ t' σ H Q) :=
  ⟨fun pins s σ H Q I q => q.elim (h.run pins s σ H Q I) (h'.run pins s σ H Q I)⟩
theorem PE.orx {X : Cx} {e : Expr} {ι : Sort _} {t : ι → TE} (h : ∀ i, PE X e (t i)) : PE X e (fun σ H Q => ∃ i, t i σ H Q) :=
  ⟨fun pins s σ H Q I ⟨i, q⟩ => (h i).run pins s σ H Q I q⟩
theorem PE.never {X : Cx} {e : Expr} : PE X e (fun _ _ _ => False) := ⟨fun _ _ _ _ _ _ q => q.elim⟩
theorem PT.imp {X : Cx} {e : Expr} {t t' : TT} (h : PT X e t) (hi : ∀ σ H Q, t' σ H Q → t σ H Q) : PT X e t' :=
  ⟨fun pins s σ H Q I q => h.run pins s σ H Q I (hi σ H Q q)⟩
theorem PT.never {X : Cx} {e : Expr} : PT X e (fun _ _ _ => False) := ⟨fun _ _ _ _ _ _ q => q.elim⟩

/-- the type of what stands in the heap, of the kinds that are asked -/
def kindO : HO → Option String
  | .lst _ => some "list"
  | .tup _ => some "tuple"
  | .dK _ => some "dict"
  | .dT _ => some "dict"
  | _ => none
def isiB (a b : String) : Bool := a == b || (a == "bool" && b == "int")
def knownT (b : String) : Bool := b == "int" || b == "bool" || b == "str" || b == "list" || b == "tuple" || b == "dict"
def knownA (b : String) : Bool := b == "NoneType" || knownT b
theorem knownT_cases {b : String} (h : knownT b = true) : b = "int" ∨ b = "bool" ∨ b = "str" ∨ b = "list" ∨ b = "tuple" ∨ b = "dict" := by
  simpa [knownT, or_assoc] using h
theorem knownA_cases {b : String} (h : knownA b = true) : b = "NoneType" ∨ b = "int" ∨ b = "bool" ∨ b = "str" ∨ b = "list" ∨ b = "tuple" ∨ b = "dict" := by
  simpa [knownA, knownT, or_assoc] using h
theorem kit_isi {K : Frag} {a b : String} (ha : knownA a = true) (hb : knownT b = true) : PySem.W.kitOne K (.type a) (.type b) = some (isiB a b) := by
  have key : kitB a b = some (isiB a b) := by
    rcases knownA_cases ha with rfl | rfl | rfl | rfl | rfl | rfl | rfl <;> rcases knownT_cases hb with rfl | rfl | rfl | rfl | rfl | rfl <;> decide +kernel
  exact kit_ty key
/-- isinstance(x, T) -/
def rIs (K : Frag) (xs : List V) (H : Hp) (Q : VK) : Prop := match xs with
  | [.non, .ty T] => knownT T = true ∧ Q (.bl (isiB "NoneType" T)) H
  | [.bl _, .ty T] => knownT T = true ∧ Q (.bl (isiB "bool" T)) H
  | [.int _, .ty T] => knownT T = true ∧ Q (.bl (isiB "int" T)) H
  | [.str _, .ty T] => knownT T = true ∧ Q (.bl (isiB "str" T)) H
  | [.ref a, .ty T] => (∃ o t, H a = some o ∧ kindO o = some t ∧ knownT T = true ∧ Q (.bl (isiB t T)) H) ∨ rIsi K [.ref a, .ty T] H Q
  | xs => rIsi K xs H Q
theorem call_is {X : Cx} : CallR X (.builtin "isinstance") (rIs X.K) := by
  refine CallR.imp call_isi fun xs H Q h => ?_
  have go : ∀ {x : V} {t T : String}, TyX X.K H x (.type t) → knownA t = true → knownT T = true → Q (.bl (isiB t T)) H → rIsi X.K [x, .ty T] H Q :=
    fun {x t T} ty ha hb q => ⟨_, _, _, _, _, rfl, .ty T, ty, kit_isi ha hb, q⟩
  unfold rIs at h
  split at h
  · exact go (.base .non) rfl h.1 h.2
  · exact go (.base (.bl _)) rfl h.1 h.2
  · exact go (.base (.int _)) rfl h.1 h.2
  · exact go (.base (.str _)) rfl h.1 h.2
  · rcases h with ⟨o, t, e, k, hT, q⟩ | h
    · cases o with
      | lst xs => cases k; exact go (.base (.lst e)) rfl hT q
      | tup xs => cases k; exact go (.base (.tup e)) rfl hT q
      | dK xs => cases k; exact go (.base (.dK e)) rfl hT q
      | dT xs => cases k; exact go (.base (.dT e)) rfl hT q
      | _ => cases k
    · exact h
  · exact h
/-- truth -/
def rTru (K : Frag) (x : V) (H : Hp) (Q : Bool → Hp → Prop) : Prop := match x with
  | .non => Q false H
  | .bl b => Q b H
  | .int i => Q (i != 0) H
  | x => ∃ k, TruV K x H k ∧ Q k H
theorem rTru_of {K : Frag} {x : V} {H : Hp} {Q : Bool → Hp → Prop} (h : rTru K x H Q) : ∃ k, TruV K x H k ∧ Q k H := by
  cases x with
  | non => exact ⟨_, rfl, h⟩
  | bl b => exact ⟨_, rfl, h⟩
  | int i => exact ⟨_, rfl, h⟩
  | _ => exact h
/-- a op b -/
def rBin (K : Frag) (op : Operator) : R2 := fun x y H Q => match op with
  | .Add => (match x, y with
    | .int i, .int j => Q (.int (i + j)) H
    | .str i, .str j => i.length + j.length ≤ sizeLine ∧ Q (.str (i ++ j)) H
    | x, y => rCat x y H Q ∨ rCatT K x y H Q)
  | .Sub => (match x, y with
    | .int i, .int j => Q (.int (i - j)) H
    | _, _ => False)
  | .Mult => (match x, y with
    | .int i, .int j => IntMulOk i j ∧ Q (.int (i * j)) H
    | x, y => rRep x y H Q)
  | .FloorDiv => (match x, y with
    | .int i, .int j => j ≠ 0 ∧ Builtin.divisionGoesByPylong i j = false ∧ Q (.int (i.fdiv j)) H
    | _, _ => False)
  | .Mod => (match x, y with
    | .int i, .int j => j ≠ 0 ∧ Q (.int (i.fmod j)) H
    | _, _ => False)
  | .Pow => (match x, y with
    | .int i, .int j => CPow i j ∧ Q (.int (i ^ j.toNat)) H
    | _, _ => False)
  | _ => False
theorem op_bin {X : Cx} (op : Operator) : OpR X (binaryOp op) (rBin X.K op) := by
  cases op with
  | Add =>
    refine OpR.imp (OpR.or op_add (OpR.or op_add_str (OpR.or op_cat op_catT))) fun x y H Q h => ?_
    unfold rBin at h
    dsimp only at h
    split at h
    · exact .inl ⟨_, _, rfl, rfl, h⟩
    · exact .inr (.inl ⟨_, _, rfl, rfl, h.1, h.2⟩)
    · exact .inr (.inr h)
  | Sub =>
    refine OpR.imp op_sub fun x y H Q h => ?_
    unfold rBin at h
    dsimp only at h
    split at h
    · exact ⟨_, _, rfl, rfl, h⟩
    · exact h.elim
  | Mult =>
    refine OpR.imp (OpR.or (opI (C := IntMulOk) (g := fun i j => i * j) fun _ _ _ _ _ _ _ hc q => mul_int q hc) op_rep) fun x y H Q h => ?_
    unfold rBin at h
    dsimp only at h
    split at h
    · exact .inl ⟨_, _, rfl, rfl, h.1, h.2⟩
    · exact .inr h
  | FloorDiv =>
    refine OpR.imp (opI (C := fun i j => j ≠ 0 ∧ Builtin.divisionGoesByPylong i j = false) (g := fun i j => i.fdiv j) fun _ _ _ _ _ _ _ hc q => floordiv_int hc.1 q (.inl hc.2)) fun x y H Q h => ?_
    unfold rBin at h
    dsimp only at h
    split at h
    · exact ⟨_, _, rfl, rfl, ⟨h.1, h.2.1⟩, h.2.2⟩
    · exact h.elim
  | Mod =>
    refine OpR.imp op_modN fun x y H Q h => ?_
    unfold rBin at h
    dsimp only at h
    split at h
    · exact ⟨_, _, rfl, rfl, h.1, h.2⟩
    · exact h.elim
  | Pow =>
    refine OpR.imp op_pow fun x y H Q h => ?_
    unfold rBin at h
    dsimp only at h
    split at h
    · exact ⟨_, _, rfl, rfl, h.1, h.2⟩
    · exact h.elim
  | _ => exact fun pins s σ H x y v u Q I r1 r2 q => (show False from q).elim
end Rf
namespace Rf
open PySem PySem.Spec PyProof.Rows L2

/-! ### an exception that was caught and stays known -/
def ExcO (a : Addr) (cls : Value) (d : Option Addr) : HO := .ext fun h => ∃ (oe : Obj) (vs : Array Value), h.get? a = some oe ∧ Zc cls d oe ∧ oe.data = .fields vs
section
variable {X : Cx} {pins : List (Addr × Obj)} {σ : L2.St} {H : Hp} {s : Shared} {a : Addr} {oe : Obj} {cls : Value} {d : Option Addr}
theorem unsuiteK {q : Addr × Obj} {pn' : List (Addr × Obj)} (I : L2.Inv (X.suite a (q :: (X.pn ++ pins))) pn' σ H s) (ok : X.Ok) : L2.Inv X (q :: pins) σ H s :=
  ⟨ok, I.os, I.bare, I.base, I.loc, I.cell, I.free, I.freeC, fun p hp => I.pin p (List.mem_append_left _ (by
    rcases List.mem_append.mp hp with h | h
    · exact List.mem_cons_of_mem _ (List.mem_append_left _ h)
    · rcases List.mem_cons.mp h with h | h
      · rw [h]; exact List.mem_cons_self
      · exact List.mem_cons_of_mem _ (List.mem_append_right _ h))), I.hok, I.len⟩
theorem Inv.know (I : L2.Inv X ((a, oe) :: pins) σ H s) (hz : Zc cls d oe) (hv : ∃ vs, oe.data = .fields vs) (new : X.s_0.heap.get? a = none) (np : ∀ p ∈ X.pn ++ pins, p.1 ≠ a) : L2.Inv X pins σ (upd H a (ExcO a cls d)) s := by
  obtain ⟨ha, na, nL, nF, nc⟩ := I.pin (a, oe) (List.mem_append_right _ List.mem_cons_self)
  have up : ∀ {b : Addr} {u : HO}, H b = some u → upd H a (ExcO a cls d) b = some u := fun {b u} e => by
    rw [upd_ne (fun z => by rw [z, na] at e; cases e)]
    exact e
  have off : ∀ {b : Addr}, b ≠ a → H b = none → upd H a (ExcO a cls d) b = none := fun {b} ne e => by
    rw [upd_ne ne]
    exact e
  have sub : ∀ p ∈ X.pn ++ pins, p ∈ X.pn ++ ((a, oe) :: pins) := fun p hp => (List.mem_append.mp hp).elim (fun h => List.mem_append_left _ h) fun h => List.mem_append_right _ (List.mem_cons_of_mem _ h)
  refine ⟨I.ok, I.os, I.bare, ⟨I.base.keep, I.base.slot, fun b o e n hx => off (fun z => ?_) (I.base.free b o e n hx), I.base.there, fun b xs e => up (I.base.tups b xs e), fun b o u e => up (I.base.frzs b o u e), fun b ps e => ?_⟩,
    I.loc, I.cell, off (Ne.symm nL) I.free, fun x c e => off (fun z => ?_) (I.freeC x c e), fun p hp => ?_, fun b u e => ?_, I.len⟩
  · rw [z, new] at e
    cases e
  · obtain ⟨more, q⟩ := I.base.tbls b ps e
    exact ⟨more, up q⟩
  · obtain ⟨v, o, ho, hd⟩ := I.cell x c e
    rw [z, ha] at ho
    cases ho
    exact nc _ hd
  · obtain ⟨e, n, r⟩ := I.pin p (sub p hp)
    exact ⟨e, off (np p hp) n, r⟩
  · by_cases hb : b = a
    · subst hb
      rw [upd_same] at e
      cases e
      obtain ⟨vs, hv⟩ := hv
      exact ⟨⟨oe, vs, ha, hz, hv⟩, ⟨oe, ha⟩, fun h1 h2 ⟨o, vs, e1, e2, e3⟩ st => ⟨o, vs, st _ e1, e2, e3⟩⟩
    · rw [upd_ne hb] at e
      exact (I.hok b u e).stay (fun _ _ _ q => q) (fun c q => up q) fun c xs q => up q
end
/-- what the clause asks of an exception: it is taken, and known from then on -/
def keepD (a : Addr) (cls : Value) (d : Option Addr) (i : Nat) (D : Ends) : Ends where
  nx := fun σ' H' => H' a = none → D.nx (σ'.set i none) (upd H' a (ExcO a cls d))
  rt := D.rt
  bk := fun σ' H' => D.bk (σ'.set i none) H'
  ct := fun σ' H' => D.ct (σ'.set i none) H'
def wKeep (K : Frag) (c : Value) (i : Nat) (ts : Addr → TS) (Wout : WX) (D : Ends) : WX := fun cls d σ H =>
  ∃ b, PySem.W.exmOne K cls c = some b ∧ (b = true → ∀ a, H a = none → ts a (keepD a cls d i D) (σ.set i (some (.ref a))) H) ∧ (b = false → Wout cls d σ H)
/-- of states of the right length -/
def wLen (n : Nat) (W : WX) : WX := fun cls d σ H => σ.length = n → W cls d σ H
theorem recNoFrame {B h : Heap} {l : List Env} {a : Addr} {o : Obj} {vs : Array Value} (ff : h.FunFrames B l) (e : h.get? a = some o) (dd : o.data = .fields vs) : a ∉ frs l := fun hm => by
  obtain ⟨_, o2, e2, hnf⟩ := ff.mem hm
  rw [e] at e2
  cases e2
  exact hnf _ dd
section
variable {X : Cx} {x n : Str} {c : Value} {i : Nat} {body suite : List Stmt} {b₀ : Stmt} {np hp pos : Pos} {tb : WX → TS} {ts : Addr → TS} {Wout : WX}
theorem ps_try_keep (h1 : X.stack = X.env :: X.outer) (h2 : X.env.frame = some X.env.locals) (h0 : X.ex = []) (h3 : X.N.Nodup) (h4 : X.N[i]? = some n) (h5 : X.env.kindOf n = some .local) (h6 : Names X x c) (tk : Takes X Wout)
    (hb : ∀ (W : WX) (pn : List (Addr × Obj)) (xe : Value → Shared → Prop), Takes (X.tr pn xe) W → PassesOwn (model X.prog X.w) X.A X.env xe → (∀ hd : Option Value, PassesOwnAt (model X.prog X.w) (X.A.mark hd) X.A X.env xe) → PSs (X.tr pn xe) body (tb W))
    (hu : ∀ (a : Addr) (pn : List (Addr × Obj)), PSs (X.suite a pn) (b₀ :: suite) (ts a)) :
    PS X (.Try body [.ExceptHandler (some (.Name x np)) (some n) (b₀ :: suite) hp] [] [] pos) (fun D σ H => tb (wLen X.N.length (wKeep X.K c i ts Wout D)) D σ H) := by
  refine ⟨fun pins s σ H D I0 goal => ?_⟩
  have okX := I0.ok
  have frA : X.A.frames = some (X.env :: X.outer) := okX.frames.trans (by rw [h1])
  refine wpAny_Try_except (wpAny_mono ((hb (wLen X.N.length (wKeep X.K c i ts Wout D)) (X.pn ++ pins) _ (fun u s1 air => ?_) PassesOwn.looking fun _ => PassesOwnAt.looking).run [] s σ H D (I0.toTry _) goal) (fun f s1 done => ?_) (fun _ _ z => z))
  · obtain ⟨a, B, sI, pins1, σ1, H1, cls, d, rfl, J0, grd, up, sky, na, os, ag, wl⟩ := air
    obtain ⟨b, hb1, hyes, hno⟩ := wl J0.len
    have J : L2.Inv X pins σ1 H1 sI := J0.ofTry okX
    rw [show (X.tr (X.pn ++ pins) _).stack = X.env :: X.outer from h1] at sky
    refine Sky.land Zc.steady frA h2 sky fun g3 fl3 up3 => ?_
    have J3 : L2.Inv X pins σ1 H1 { s1 with heap := g3 } := J.landed grd fl3.1 (up.trans up3) os ag
    obtain ⟨o3, v3, e3, z3, d3⟩ := fl3.there
    have nfr : a ∉ frs (X.env :: X.outer) := recNoFrame fl3.2.2.1 e3 d3
    have nL : a ≠ X.env.locals := fun z => nfr (by rw [z]; exact List.mem_filterMap.mpr ⟨X.env, List.mem_cons_self, h2⟩)
    have nF : a ∉ X.fs := fun hm => nfr (by
      obtain ⟨e, he, q⟩ := List.mem_filterMap.mp hm
      exact List.mem_filterMap.mpr ⟨e, List.mem_cons_of_mem _ he, q⟩)
    have nB : B.get? a = none := fl3.2.1
    have noI : ∀ o, sI.heap.get? a = some o → False := fun o e => by
      have q := grd a o e (by rw [h1]; exact nfr)
      rw [nB] at q
      cases q
    have new : X.s_0.heap.get? a = none := by
      cases q : X.s_0.heap.get? a with
      | none => rfl
      | some o =>
        obtain ⟨o2, q2⟩ := J.base.there a o q (by rw [h0]; exact fun z => nomatch z)
        exact (noI o2 q2).elim
    have apart : ∀ p ∈ X.pn ++ pins, p.1 ≠ a := fun p hp z => noI p.2 (by rw [← z]; exact (J.pin p hp).1)
    have S3 := J3.suite e3 d3 na nL nF
    refine wpAny_handleBy_cons (codeAny_handlers_test ?_) (by intro q; cases q)
    have knows := PySem.W.exm_one (M := model X.prog X.w) J3.kIn (fun A Q E s k q => wpAny_typeOf_ref (k _ _ e3) (by rw [z3.1]; exact q)) hb1
    have test : ∀ {Q E : Value → Shared → Prop}, Q c { s1 with heap := g3 } → wpAny (model X.prog X.w) (X.A.mark (some (.ref a))) (eval (.Name x np) X.env) Q E { s1 with heap := g3 } := fun {Q E} q => by
      obtain ⟨hg, hdb, hm | ⟨hm, hv, hn⟩⟩ := h6
      · exact ld_glob S3 hg hm q hdb
      · exact ld_blt S3 hg hm hv q hn hdb
    refine test (knows.here ?_)
    cases b with
    | true =>
      refine codeAny_handlers_suite_as (HandSPX.lands_againZ fl3 fun g4 fl4 up4 => ?_)
      obtain ⟨o4, v4, e4, z4, d4⟩ := fl4.there
      have S4 := (J.landed (s' := { s1 with heap := g4 }) grd fl4.1 ((up.trans up3).trans up4) os ag).suite e4 d4 na nL nF
      refine store_ok (X := X.suite a ((a, o4) :: (X.pn ++ pins))) (v := .ref a) S4 h3 h4 (.inl h5) rfl (fun s5 S5 => ?_) (.inr h5)
      refine wpAny_mono ((hu a ((a, o4) :: (X.pn ++ pins))).run [] s5 _ H1 _ S5 (hyes rfl a na)) (fun f s6 done => ?_) (fun _ _ z => False.elim z)
      have off : ∀ {σ6 : L2.St} {H6 : Hp} {Q : Shared → Prop}, L2.Inv (X.suite a ((a, o4) :: (X.pn ++ pins))) [] σ6 H6 s6 → (∀ s7, L2.Inv X pins (σ6.set i none) H6 s7 → Q s7) →
          wpAny (model X.prog X.w) X.A (do bindName X.env n .none; unbindBehindTheSuite X.env n hp) (fun _ s7 => Q s7) X.xe s6 := fun {σ6 H6 Q} S6 hq => gone_ok (S6.unsuite okX) h3 h4 h5 hq
      cases f with
      | next =>
        obtain ⟨σ6, H6, S6, q6⟩ := done
        have S6a : L2.Inv X ((a, o4) :: pins) σ6 H6 s6 := unsuiteK S6 okX
        refine gone_ok S6a h3 h4 h5 fun s7 J7 => ⟨_, _, Inv.know J7 z4 ⟨_, d4⟩ new apart, q6 (S6a.pin (a, o4) (List.mem_append_right _ List.mem_cons_self)).2.1⟩
      | brk =>
        obtain ⟨σ6, H6, S6, q6⟩ := done
        exact off S6 fun s7 J7 => ⟨_, _, J7, q6⟩
      | cont =>
        obtain ⟨σ6, H6, S6, q6⟩ := done
        exact off S6 fun s7 J7 => ⟨_, _, J7, q6⟩
      | ret u =>
        obtain ⟨v6, σ6, H6, S6, r6, q6⟩ := done
        exact off S6 fun s7 J7 => ⟨_, _, _, J7, r6, q6⟩
    | false =>
      refine wpAny_handleBy_nil ?_
      obtain ⟨k1, k2, k3, oe, vs, T, oT, ws, e5, z5, d5, t5, r5⟩ := id fl3
      unfold PySem.passOn
      refine wpAny_bind (wpAny_field e5 d5 t5 ?_)
      rw [if_neg (show ¬ ((Value.ref T == Value.none) = true) from by simp)]
      have fin : wpAny (model X.prog X.w) X.A (setFlight (.ref a) X.env.frame) (fun _ s4 => wpAny (model X.prog X.w) X.A (throw (.ref a) : Sem Flow) (SP X pins D) X.xe s4) X.xe { s1 with heap := g3 } := by
        rw [h2]
        exact HandSPX.setFlight_upZ fl3 fun h4 hh4 up4 => wpAny_throw (tk _ _ ⟨a, B, sI, pins, σ1, H1, cls, d, rfl, J, grd, (up.trans up3).trans up4, .inr (.inr (by rw [h1]; exact hh4)), na, os, ag, hno rfl⟩)
      first
        | exact wpAny_bind (wpAny_pure (wpAny_bind fin))
        | exact wpAny_bind fin
  · cases f with
    | next => obtain ⟨σ1, H1, J1, q⟩ := done; exact wpAny_execs_nil ⟨σ1, H1, J1.ofTry okX, q⟩
    | brk => obtain ⟨σ1, H1, J1, q⟩ := done; exact ⟨σ1, H1, J1.ofTry okX, q⟩
    | cont => obtain ⟨σ1, H1, J1, q⟩ := done; exact ⟨σ1, H1, J1.ofTry okX, q⟩
    | ret u => obtain ⟨v, σ1, H1, J1, r, q⟩ := done; exact ⟨v, σ1, H1, J1.ofTry okX, r, q⟩
end
/-- isinstance(x, c), x a caught exception -/
def rIsX (K : Frag) : List V → Hp → VK → Prop := fun xs H Q => ∃ (a D : Addr) (c : V) (cv : Value) (b : Bool), xs = [.ref a, c] ∧ ClsV c cv ∧ H a = some (ExcO a (.ref D) none) ∧ ExcC K D ∧ PySem.W.kitOne K (.ref D) cv = some b ∧ Q (.bl b) H
theorem call_isX {X : Cx} : CallR X (.builtin "isinstance") (rIsX X.K) := by
  intro pins s σ H xs us Q I r h
  obtain ⟨a, D, c, cv, b, rfl, k, ha, C, e, q⟩ := h
  obtain ⟨u1, u2, rfl, r1, r2⟩ := vals2 r
  have e2 := k.eq r2
  subst e2
  cases r1
  obtain ⟨⟨oe, vs, hget, ⟨c1, c2⟩, hv⟩, _⟩ := I.hok a _ ha
  have J : PySem.W.InstAt s.heap a oe D none := by
    obtain ⟨oc, od, oda, osl⟩ := oe
    dsimp only at c1 c2 hv
    subst c1 c2 hv
    exact ⟨hget, rfl, rfl, trivial⟩
  exact PySem.W.kia_one (PySem.W.handS_kitx_exc C.hg C.hk C.hs C.hd C.ha C.hn C.ht C.hm) I.kIn J e (fun z => nomatch z) fun tk => ⟨.bl b, H, I.tok tk, rfl, q⟩
/-! ### list.count, flat items -/
def rCount (K : Frag) : V → List V → Hp → VK → Prop := fun x xs H Q => ∃ (a : Addr) (ys : List V) (y : V), x = .ref a ∧ xs = [y] ∧ SqL K H a ys ∧ flatV y = true ∧ ys.all flatV = true ∧ Q (.int ((ys.countP fun z => eqV z y : Nat) : Int)) H
theorem countP_eqU {y : V} {uy : Value} (ry : RelV y uy) : ∀ {ys : List V} {its : List Value}, Vals ys its → ys.all flatV = true → its.countP (eqU y) = ys.countP fun z => eqV z y
  | _, _, .nil, _ => rfl
  | z :: ys, u :: its, .cons r t, h => by
    have h' : (flatV z && ys.all flatV) = true := h
    rw [Bool.and_eq_true] at h'
    rw [List.countP_cons, List.countP_cons, countP_eqU ry t h'.2, eqU_of r h'.1]
theorem mt_countF {X : Cx} : MtR X "list.count" (rCount X.K) := by
  intro pins s σ H x xs v us Q I rx rxs h
  obtain ⟨a, ys, y, rfl, rfl, hs, fy, fys, q⟩ := h
  cases rx
  obtain ⟨u, rfl, ru⟩ := rxs.one
  obtain ⟨its, rv, ⟨⟨cls, dd, data, sl⟩, n, ho, hc, hdn, hd⟩, hlen⟩ := I.list hs
  simp only at hc hd
  subst hc hd
  refine call_meets PySem.F.slot_list_count ⟨_, ho, rfl⟩ PySem.F.entry_list_count (PySem.F.args_list_count_2 _ _)
    (SeqAt.list_countAt a its.toArray n dd sl u (eqU y)) ⟨ho, fun z hz => mem_eqAt ru fy rv fys z (by simpa using hz), .int ((ys.countP fun z => eqV z y : Nat) : Int), H, I.tok _, ⟨s.toks, ?_⟩, q⟩
  show Value.int ((its.toArray.toList.countP (eqU y) : Nat) : Int) s.toks = _
  rw [List.toList_toArray, countP_eqU ru rv fys]
end Rf
namespace Rf
open PySem PySem.Spec PyProof.Rows L2

/-- a name's value; nothing changes -/
theorem ld_var {X : Cx} {pins : List (Addr × Obj)} {σ : L2.St} {H : Hp} {s : Shared} {E : Value → Shared → Prop} {i : Nat} {x : Str} {v : V} {pos : Pos} {Q : Value → Shared → Prop} (I : L2.Inv X pins σ H s) (hN : X.N[i]? = some x) (hv : Vis X.env.scope x) (e : σ[i]? = some (some v))
    (q : ∀ u, RelV v u → Q u s) (hd : (x == ("__debug__" : Str)) = false) (hcd : (x == ("__classdict__" : Str)) = false) : wpAny (model X.prog X.w) X.A (eval (.Name x pos) X.env) Q E s := by
  obtain ⟨m, hn, hl⟩ := I.loc
  obtain ⟨u, r, l⟩ := hl i x v hN e hv
  rcases l with ⟨k, hm⟩ | ⟨k | k, c, hc, cell⟩
  · exact wpAny_Name (wpAny_loadName_local I.ok.kind k hn hm (q u r)) hd
  · exact wpAny_Name (wpAny_loadName_cell I.ok.kind k hc cell (q u r)) hd
  · exact wpAny_Name (wpAny_loadName_free I.ok.kind k hc cell (q u r) hcd) hd
/-- what the walk doesn't track is left out of the heap -/
theorem Inv.hide {X : Cx} {pins : List (Addr × Obj)} {σ : L2.St} {H : Hp} {s : Shared} (I : L2.Inv X pins σ H s) (l : List Addr) (k1 : ∀ z ∈ l, H z = none) (k2 : ∀ z ∈ l, z ≠ X.env.locals) (k3 : ∀ z ∈ l, ∀ o v, s.heap.get? z = some o → o.data ≠ .cell v)
    (k4 : ∀ z ∈ l, X.s_0.heap.get? z = none) (k5 : ∀ p ∈ X.pn ++ pins, p.1 ∉ l) : L2.Inv X pins σ H { s with heap := PySem.W.hideAll s.heap l } := by
  have old : ∀ b o, X.s_0.heap.get? b = some o → b ∉ l := fun b o e hb => by
    rw [k4 b hb] at e
    cases e
  have cells : ∀ {c : Addr} {v : Option Value}, s.heap.IsCell c v → (PySem.W.hideAll s.heap l).IsCell c v := fun {c v} ⟨o, ho, hd⟩ => ⟨o, PySem.W.hideAll_get l ho fun hc => k3 c hc o v ho hd, hd⟩
  refine ⟨I.ok, I.os, I.bare, ⟨fun b o e n hb hx => PySem.W.hideAll_get l (I.base.keep b o e n hb hx) (old b o e), fun b o e n hb hx => ?_, I.base.free, fun b o e hx => ?_, I.base.tups, I.base.frzs, I.base.tbls⟩, ?_, fun x c e => ?_, I.free, I.freeC, fun p hp => ?_, fun b u e => ?_, I.len⟩
  · obtain ⟨sl, q⟩ := I.base.slot b o e n hb hx
    exact ⟨sl, PySem.W.hideAll_get l q (old b o e)⟩
  · obtain ⟨o2, q⟩ := I.base.there b o e hx
    exact ⟨o2, PySem.W.hideAll_get l q (old b o e)⟩
  · obtain ⟨m, ⟨o, es, ep, e, r⟩, hl⟩ := I.loc
    refine ⟨m, ⟨o, es, ep, PySem.W.hideAll_get l e fun hb => k2 _ hb rfl, r⟩, fun i x v e1 e2 e3 => ?_⟩
    obtain ⟨u, rv, lk⟩ := hl i x v e1 e2 e3
    exact ⟨u, rv, lk.elim .inl fun ⟨k, c, e, z⟩ => .inr ⟨k, c, e, cells z⟩⟩
  · obtain ⟨v, z⟩ := I.cell x c e
    exact ⟨v, cells z⟩
  · obtain ⟨e, r⟩ := I.pin p hp
    exact ⟨PySem.W.hideAll_get l e (k5 p hp), r⟩
  · refine (I.hok b u e).stay (fun c w hc q => PySem.W.hideAll_get l q fun hl => ?_) (fun _ q => q) fun _ _ q => q
    have z := k1 c hl
    rcases hc with hc | hc
    · rw [hc, e] at z
      cases z
    · rw [hc] at z
      cases z
/-! ### raise X('..') from e, in an except suite -/
theorem pmk_six {X : Cx} {C : Addr} {bmB : List Value} {B newId initId : String} {x m : Str} {j : Nat} {p p2 pos : Pos} (F : ExcBaseFacts B newId initId bmB) (q : PySem.W.excIn X.K C bmB newId = true) (gC : X.mg x = some (.ref C)) (kC : PySem.W.keepIn X.K (.ref C) = true)
    (r : Raises X (.ref C)) (hg : Gl X x) (hdb : (x == ("__debug__" : Str)) = false) : L2H.PMk5 X (.Call (.Name x p) [.Constant (.str m) j p2] [] pos) (fun _ H Q => Q (.ref C) none H) := by
  intro pins s σ H Q I wish
  have args : PA X [.Constant (.str m) j p2] (tCons (tC (.str m)) tNil) := pa_cons pe_str pa_nil
  refine wpAny_Call_Name_kw (ld_glob I hg gC (PySem.W.callWith_K I.ok.mod.kin kC (thn (args.run pos pins s σ H (fun vs H1 => vs = [V.str m] ∧ H = H1) I ⟨rfl, rfl⟩) fun us s1 got => ?_)) hdb)
  obtain ⟨vs, H1, I1, r1, rfl, rfl⟩ := got
  refine ⟨I1.kIn, ?_⟩
  obtain ⟨u, rfl, ru⟩ := r1.one
  obtain ⟨bm, N, nm, qn, bs, hdct, sn, sub, ab, col, dd, k0, k1, k2, k3, k5, mN, hC, hN, hni, T⟩ := exc_obj I1.kIn q
  exact wpAny_call_exc_subT F T hC hN hni (fun h' e made => L2H.mk_of5 I1 made r wish (I1.hok.gone made.new)) (by show 1 ≤ sizeLine; rw [sizeLine_eq]; omega)
theorem upd_off {h : Heap} {a b : Addr} {f : Obj → Obj} (n : b ≠ a) : (h.update a f).get? b = h.get? b := Heap.get?_update_other _ _ (Ne.symm n)
theorem ps_raiseFrom {Y : Cx} {W : WX} {e : Expr} {t : L2.St → Hp → XK → Prop} {p : Addr × Obj} {v1 : Array Value} {cls1 : Value} {i : Nat} {n : Str} {cp pos : Pos} (hh : Y.A.handled = some (.ref p.1)) (hp : p ∈ Y.pn) (nbase : Y.base.get? p.1 = none) (hv : p.2.data = .fields v1) (h2 : v1[2]? = some .none) (hcl : p.2.cls = cls1)
    (rb : Raises Y cls1) (tk : Takes Y W) (he : L2H.PMk5 Y e t) (hN : Y.N[i]? = some n) (vis : Vis Y.env.scope n) (hd : (n == ("__debug__" : Str)) = false) (hcd : (n == ("__classdict__" : Str)) = false) :
    PS Y (.Raise (some e) (some (.Name n cp)) pos) (fun _ σ H => σ[i]? = some (some (.ref p.1)) ∧ t σ H fun cls d H' => W cls d σ H') := by
  refine ⟨fun pins s σ H D I ⟨slot, wish⟩ => wpAny_Raise_from (thn (he pins s σ H _ I wish) fun u s1 hu => ?_)⟩
  obtain ⟨⟨a, oe, vs, sI, H1, cls, d, rfl, J, keep, hne, ha, hz, hdat, h1, na, os, ag, r, q⟩, six⟩ := hu
  have h5 : 4 < vs.size := six a oe vs rfl ha hdat
  have I1 : L2.Inv Y pins σ H1 s1 := J.call' (ch := []) os (Un.kept keep) (J.hok.kept keep) ag (fun _ z => nomatch z)
  refine ld_var I1 hN vis slot (fun cv rc => ?_) hd hcd
  cases rc
  obtain ⟨hb, _⟩ := J.pin p (List.mem_append_left _ hp)
  have nab : p.1 ≠ a := fun z => by
    rw [z, hne] at hb
    cases hb
  have hb1 : s1.heap.get? p.1 = some p.2 := keep _ _ hb
  obtain ⟨r1, r2⟩ := r (model Y.prog Y.w) sI.heap J.kIn
  obtain ⟨c1, c2⟩ := rb (model Y.prog Y.w) Y.base J.ok.mod.kin
  have AT : RaiseAt (model Y.prog Y.w) sI.heap s1.heap a oe vs cls := ⟨ha, hz.1, hdat, keep, hne, r1, r2⟩
  have AC : RaiseAt (model Y.prog Y.w) Y.base s1.heap p.1 p.2 v1 cls1 := ⟨hb1, hcl, hv, fun b o hk => keep _ _ (J.bk b o hk), nbase, c1, c2⟩
  refine raise_from_tree AT h5 (.inr ⟨p.1, p.2, v1, cls1, rfl, _, AC⟩) ?_
  have A2 := (AT.set 3 (.ref p.1)).set 4 (.bool true)
  have f1 : ((vs.setIfInBounds 3 (Value.ref p.1)).setIfInBounds 4 (Value.bool true))[1]? = some .none := HotX.set_other (by decide) (HotX.set_other (by decide) h1)
  refine setFlight_fresh A2.at_ A2.dat f1 ?_
  have keep2 : ∀ b u, b ≠ a → s1.heap.get? b = some u → ((s1.heap.update a (Obj.mapFields (·.setIfInBounds 3 (.ref p.1)))).update a (Obj.mapFields (·.setIfInBounds 4 (.bool true)))).get? b = some u := fun b u n e => by
    rw [upd_off n, upd_off n]
    exact e
  refine HotX.raiseNew_hot (oe := (oe.mapFields (·.setIfInBounds 3 (.ref p.1))).mapFields (·.setIfInBounds 4 (.bool true))) ⟨hh, p.2, v1, keep2 _ _ nab hb1, hv, h2⟩ nab A2.at_ A2.dat (by rw [Array.size_setIfInBounds, Array.size_setIfInBounds]; omega) ?_
  have A3 := A2.set 2 (.ref p.1)
  refine tk _ _ (XE.new J (fun b u z => ?_) hne A3.at_ ⟨A3.cl, ?_⟩ A3.dat (HotX.set_other (by decide) f1) na os ag q)
  · have nb : b ≠ a := fun z2 => by
      rw [z2, hne] at z
      cases z
    exact (upd_off nb).trans (keep2 _ _ nb (keep _ _ z))
  · rw [HandSPX.dict_mapFields, HandSPX.dict_mapFields, HandSPX.dict_mapFields]
    exact hz.2.1
/-- what a clause «except x as n» asks of an exception whose context is None; out of its suite only exceptions come -/
def wFrom (K : Frag) (c : Value) (i : Nat) (ts : Addr → Value → Option Addr → TS) (D : Ends) : WX := fun cls d σ H => PySem.W.exmOne K cls c = some true ∧ ∀ a, H a = none → ts a cls d { nx := fun _ _ => False, rt := fun _ _ => False, bk := fun _ _ => False, ct := fun _ _ => False } (σ.set i (some (.ref a))) H
abbrev Cx.suiteF (X : Cx) (n : Str) (hp : Pos) (a : Addr) (pn : List (Addr × Obj)) : Cx :=
  (X.suite a pn).tr (pn ++ []) (fun u s' => AsSuiteRaised (model X.prog X.w) (X.A.mark (some (.ref a))) X.env n hp (notedBy (model X.prog X.w) (X.A.mark (some (.ref a))) X.env (cameBackBy (model X.prog X.w) X.A X.env X.xe)) u s')
section
variable {X : Cx} {x n : Str} {c : Value} {i : Nat} {body suite : List Stmt} {b₀ : Stmt} {np hp pos : Pos} {tb : WX → TS} {ts : Addr → Value → Option Addr → TS} {Wout : WX}
/-- an exception leaves the suite: its name goes, it flies on -/
theorem takes_suiteF (h1 : X.stack = X.env :: X.outer) (h2 : X.env.frame = some X.env.locals) (h0 : X.ex = []) (h3 : X.N.Nodup) (h4 : X.N[i]? = some n) (h5 : X.env.kindOf n = some .local) (pas : ∀ hd : Option Value, PassesOwnAt (model X.prog X.w) (X.A.mark hd) X.A X.env X.xe)
    (tk : Takes X Wout) {pins : List (Addr × Obj)} {q : Addr × Obj} (ok : X.Ok) : Takes (Cx.suiteF X n hp q.1 (q :: (X.pn ++ pins))) (fun cls d σ H => Wout cls d (σ.set i none) H) := by
  intro u s1 air
  obtain ⟨b, B, sI, pins1, σ1, H1, cls, d, rfl, J, grd, up, sky, na, os, ag, w⟩ := air
  have frA : (X.A.mark (some (.ref q.1))).frames = some (X.env :: X.outer) := ok.frames.trans (by rw [h1])
  have sky' : Sky B (X.env :: X.outer) b (Zc cls d) X.env.locals s1.heap := by rw [← h1]; exact sky
  have JX : L2.Inv X pins σ1 H1 sI := ⟨ok, J.os, J.bare, J.base, J.loc, J.cell, J.free, J.freeC, fun p hp => J.pin p (List.mem_append_left _ (List.mem_append_left _ (List.mem_cons_of_mem _ hp))), J.hok, J.len⟩
  show wpAny _ _ (noteFrame (.ref b) X.env) _ _ _
  have noted : ∀ g1, HandSPX.HeldZ B (X.env :: X.outer) b (Zc cls d) X.env.locals g1 → s1.heap.UpToSlots g1 →
      wpAny (model X.prog X.w) (X.A.mark (some (.ref q.1))) (do bindName X.env n .none; unbindBehindTheSuite X.env n hp)
        (fun _ s2 => wpAny (model X.prog X.w) (X.A.mark (some (.ref q.1))) (passOn "try.except-as" (.ref b) X.env : Sem Flow) (fun _ _ => False) (notedBy (model X.prog X.w) (X.A.mark (some (.ref q.1))) X.env (cameBackBy (model X.prog X.w) X.A X.env X.xe)) s2)
        (fun y s2 => wpAny (model X.prog X.w) (X.A.mark (some (.ref q.1))) (setFlight (.ref b) none) (fun _ s3 => (notedBy (model X.prog X.w) (X.A.mark (some (.ref q.1))) X.env (cameBackBy (model X.prog X.w) X.A X.env X.xe)) y s3) (notedBy (model X.prog X.w) (X.A.mark (some (.ref q.1))) X.env (cameBackBy (model X.prog X.w) X.A X.env X.xe)) s2)
        { s1 with heap := g1 } := by
    intro g1 held up1
    obtain ⟨k1, k2, k3, oe, vs, T, oT, ws, e1, z1, d1, t1, nT, nTb, eT, dT, w3⟩ := held
    have J1 : L2.Inv X pins σ1 H1 { s1 with heap := g1 } := JX.landed grd k1 (up.trans up1) os ag
    have hokB := JX.inGround grd
    have offB : ∀ {z : Addr} {o : Obj} {v : Array Value}, B.get? z = none → g1.get? z = some o → o.data = .fields v → (H1 z = none ∧ z ≠ X.env.locals ∧ z ∉ X.fs ∧ z ∉ frs X.stack ∧ X.s_0.heap.get? z = none) ∧ ∀ p ∈ X.pn ++ pins, p.1 ≠ z := fun {z o v} nz ez dz => by
      have nfr : z ∉ frs (X.env :: X.outer) := recNoFrame k3 ez dz
      have noI : ∀ o, sI.heap.get? z = some o → False := fun o e => by
        have q := grd z o e (by show z ∉ frs X.stack; rw [h1]; exact nfr)
        rw [nz] at q
        cases q
      refine ⟨⟨hokB.gone nz, fun y => nfr (by rw [y]; exact List.mem_filterMap.mpr ⟨X.env, List.mem_cons_self, h2⟩), fun hm => nfr (by
        obtain ⟨e, he, q⟩ := List.mem_filterMap.mp hm
        exact List.mem_filterMap.mpr ⟨e, List.mem_cons_of_mem _ he, q⟩), by rw [h1]; exact nfr, ?_⟩, fun p hp z2 => noI p.2 (by rw [← z2]; exact (JX.pin p hp).1)⟩
      cases q : X.s_0.heap.get? z with
      | none => rfl
      | some o =>
        obtain ⟨o2, q2⟩ := JX.base.there z o q (by rw [h0]; exact fun z => nomatch z)
        exact (noI o2 q2).elim
    obtain ⟨⟨b1, b2, b3, b4, b5⟩, b6⟩ := offB k2 e1 d1
    obtain ⟨⟨c1, c2, c3, c4, c5⟩, c6⟩ := offB nT eT dT
    have J2 : L2.Inv X ((b, oe) :: (T, oT) :: pins) σ1 H1 { s1 with heap := g1 } := ⟨J1.ok, J1.os, J1.bare, J1.base, J1.loc, J1.cell, J1.free, J1.freeC, fun p hp => by
      rcases List.mem_append.mp hp with hp | hp
      · exact J1.pin p (List.mem_append_left _ hp)
      · rcases List.mem_cons.mp hp with hp | hp
        · subst hp
          exact ⟨e1, b1, b2, b3, fun v z => by rw [d1] at z; cases z⟩
        · rcases List.mem_cons.mp hp with hp | hp
          · subst hp
            exact ⟨eT, c1, c2, c3, fun v z => by rw [dT] at z; cases z⟩
          · exact J1.pin p (List.mem_append_right _ hp), J1.hok, J1.len⟩
    refine gone_ok J2 h3 h4 h5 fun s2 I2 => ?_
    have p1 := (I2.pin (b, oe) (List.mem_append_right _ List.mem_cons_self)).1
    have p2 := (I2.pin (T, oT) (List.mem_append_right _ (List.mem_cons_of_mem _ List.mem_cons_self))).1
    dsimp only at p1 p2
    obtain ⟨G, hG⟩ : ∃ G, G = PySem.W.hideAll s2.heap (b :: T :: frs X.stack) := ⟨_, rfl⟩
    have inG : ∀ {y o}, G.get? y = some o → s2.heap.get? y = some o := fun e => PySem.W.of_hideAll _ (by rw [← hG]; exact e)
    have outG : ∀ {y}, y ∈ b :: T :: frs X.stack → G.get? y = none := fun hy => by rw [hG]; exact PySem.W.hideAll_none _ hy
    have FF : s2.heap.FunFrames G (X.env :: X.outer) := by
      rw [← h1]
      exact funFrames_none I2.stack fun y hy => outG (List.mem_cons_of_mem _ (List.mem_cons_of_mem _ hy))
    unfold PySem.passOn
    refine wpAny_bind (wpAny_field p1 d1 t1 ?_)
    rw [if_neg (show ¬ ((Value.ref T == Value.none) = true) from by simp)]
    have fin : wpAny (model X.prog X.w) (X.A.mark (some (.ref q.1))) (setFlight (.ref b) X.env.frame) (fun _ s4 => wpAny (model X.prog X.w) (X.A.mark (some (.ref q.1))) (throw (.ref b) : Sem Flow) (fun _ _ => False) (notedBy (model X.prog X.w) (X.A.mark (some (.ref q.1))) X.env (cameBackBy (model X.prog X.w) X.A X.env X.xe)) s4) (notedBy (model X.prog X.w) (X.A.mark (some (.ref q.1))) X.env (cameBackBy (model X.prog X.w) X.A X.env X.xe)) s2 := by
      rw [h2]
      have hidden2 : ∀ {y : Addr} {z : Addr}, y = z → (z = b ∨ z = T) → (PySem.W.hideAll s2.heap [b, T]).get? y = none := fun {y z} e h => by
        rw [e]
        exact PySem.W.hideAll_none _ (by rcases h with h | h <;> simp [h])
      refine HandSPX.setFlight_anyZ (base := G) (Z := Zc cls d) (fl := rawInt X.env.locals) (fun y o => inG) FF ⟨oe, vs, T, oT, ws, p1, z1, d1, t1, outG (List.mem_cons_of_mem _ List.mem_cons_self), nTb, p2, dT, w3⟩ fun g3 m1 m2 m3 m4 => wpAny_throw (pas _ _ _ (tk _ _ ?_))
      have I3 : L2.Inv X pins (σ1.set i none) H1 s2 := ⟨I2.ok, I2.os, I2.bare, I2.base, I2.loc, I2.cell, I2.free, I2.freeC, fun p hp => I2.pin p ((List.mem_append.mp hp).elim (fun h => List.mem_append_left _ h) fun h => List.mem_append_right _ (List.mem_cons_of_mem _ (List.mem_cons_of_mem _ h))), I2.hok, I2.len⟩
      have I4 := Inv.hide I3 [b, T] (fun z hz => ?_) (fun z hz => ?_) (fun z hz o v e dd => ?_) (fun z hz => ?_) (fun p hp hz => ?_)
      · refine ⟨b, G, _, pins, _, H1, cls, d, rfl, I4, fun y o e ny => ?_, fun y o e hnf => ?_, .inr (.inr ⟨m1, outG List.mem_cons_self, by rw [h1]; exact m2, m3⟩), b1, rfl, I2.bare, w⟩
        · rw [hG]
          refine PySem.W.hideAll_get _ (PySem.W.of_hideAll _ e) fun hy => ?_
          rcases List.mem_cons.mp hy with hy | hy
          · have z := hidden2 hy (.inl rfl)
            rw [z] at e
            cases e
          · rcases List.mem_cons.mp hy with hy | hy
            · have z := hidden2 hy (.inr rfl)
              rw [z] at e
              cases e
            · exact ny hy
        · exact m4 y o (PySem.W.of_hideAll _ e) hnf
      · rcases List.mem_cons.mp hz with hz | hz
        · rw [hz]; exact b1
        · obtain rfl : z = T := by simpa using hz
          exact c1
      · rcases List.mem_cons.mp hz with hz | hz
        · rw [hz]; exact b2
        · obtain rfl : z = T := by simpa using hz
          exact c2
      · rcases List.mem_cons.mp hz with hz | hz
        · rw [hz, p1] at e
          cases e
          rw [d1] at dd
          cases dd
        · obtain rfl : z = T := by simpa using hz
          rw [p2] at e
          cases e
          rw [dT] at dd
          cases dd
      · rcases List.mem_cons.mp hz with hz | hz
        · rw [hz]; exact b5
        · obtain rfl : z = T := by simpa using hz
          exact c5
      · rcases List.mem_cons.mp hz with hz | hz
        · exact b6 p hp hz
        · exact c6 p hp (by simpa using hz)
    first
      | exact wpAny_bind (wpAny_pure (wpAny_bind fin))
      | exact wpAny_bind fin
  rcases sky' with ⟨f1, f2, f3, oe, vs, f4, f5, f6, f7⟩ | fl | held
  · exact HandSPX.look_newZ Zc.steady frA f3 h2 f4 f1 f2 f6 f7 f5 noted
  · exact HandSPX.looks_onZ Zc.steady frA h2 fl noted
  · exact HandSPX.againZ h2 held.2.2.2 (noted s1.heap held (Heap.UpToSlots.refl _))
theorem ps_try_from (h1 : X.stack = X.env :: X.outer) (h2 : X.env.frame = some X.env.locals) (h0 : X.ex = []) (h3 : X.N.Nodup) (h4 : X.N[i]? = some n) (h5 : X.env.kindOf n = some .local) (pas : ∀ hd : Option Value, PassesOwnAt (model X.prog X.w) (X.A.mark hd) X.A X.env X.xe)
    (h6 : Names X x c) (tk : Takes X Wout)
    (hb : ∀ (W : WX) (pn : List (Addr × Obj)) (xe : Value → Shared → Prop), L2N.Takes (X.tr pn xe) W → PassesOwn (model X.prog X.w) X.A X.env xe → PSs (X.tr pn xe) body (tb W))
    (hu : ∀ (a : Addr) (oe : Obj) (cls : Value) (d : Option Addr) (pn : List (Addr × Obj)), L2N.Zn cls d oe → (∃ vs, oe.data = .fields vs) → X.base.get? a = none → Takes (Cx.suiteF X n hp a ((a, oe) :: pn)) (fun cls d σ H => Wout cls d (σ.set i none) H) →
      PSs (Cx.suiteF X n hp a ((a, oe) :: pn)) (b₀ :: suite) (ts a cls d)) :
    PS X (.Try body [.ExceptHandler (some (.Name x np)) (some n) (b₀ :: suite) hp] [] [] pos) (fun D σ H => tb (wFrom X.K c i ts D) D σ H) := by
  refine ⟨fun pins s σ H D I0 goal => ?_⟩
  have okX := I0.ok
  have frA : X.A.frames = some (X.env :: X.outer) := okX.frames.trans (by rw [h1])
  refine wpAny_Try_except (wpAny_mono ((hb (wFrom X.K c i ts D) (X.pn ++ pins) _ (fun u s1 air => ?_) PassesOwn.looking).run [] s σ H D (I0.toTry _) goal) (fun f s1 done => ?_) (fun _ _ z => z))
  · obtain ⟨a, B, sI, pins1, σ1, H1, cls, d, rfl, J0, grd, up, sky, na, os, ag, hb1, hyes⟩ := air
    have J : L2.Inv X pins σ1 H1 sI := J0.ofTry okX
    rw [show (X.tr (X.pn ++ pins) _).stack = X.env :: X.outer from h1] at sky
    refine L2N.Sky.land L2N.Zn.steady frA h2 sky fun g3 fl3 up3 => ?_
    have J3 : L2.Inv X pins σ1 H1 { s1 with heap := g3 } := J.landed grd fl3.1 (up.trans up3) os ag
    obtain ⟨o3, v3, e3, z3, d3⟩ := fl3.there
    have nfr : a ∉ frs (X.env :: X.outer) := recNoFrame fl3.2.2.1 e3 d3
    have nL : a ≠ X.env.locals := fun z => nfr (by rw [z]; exact List.mem_filterMap.mpr ⟨X.env, List.mem_cons_self, h2⟩)
    have nF : a ∉ X.fs := fun hm => nfr (by
      obtain ⟨e, he, q⟩ := List.mem_filterMap.mp hm
      exact List.mem_filterMap.mpr ⟨e, List.mem_cons_of_mem _ he, q⟩)
    have nB : B.get? a = none := fl3.2.1
    have nBase : X.base.get? a = none := by
      cases q : X.base.get? a with
      | none => rfl
      | some o =>
        have z := grd a o (J.bk a o q) (by rw [h1]; exact nfr)
        rw [nB] at z
        cases z
    have S3 := J3.suite e3 d3 na nL nF
    refine wpAny_handleBy_cons (codeAny_handlers_test ?_) (by intro q; cases q)
    have knows := PySem.W.exm_one (M := model X.prog X.w) J3.kIn (fun A Q E s k q => wpAny_typeOf_ref (k _ _ e3) (by rw [z3.1]; exact q)) hb1
    have test : ∀ {Q E : Value → Shared → Prop}, Q c { s1 with heap := g3 } → wpAny (model X.prog X.w) (X.A.mark (some (.ref a))) (eval (.Name x np) X.env) Q E { s1 with heap := g3 } := fun {Q E} q => by
      obtain ⟨hg, hdb, hm | ⟨hm, hv, hn⟩⟩ := h6
      · exact ld_glob S3 hg hm q hdb
      · exact ld_blt S3 hg hm hv q hn hdb
    refine test (knows.here ?_)
    refine codeAny_handlers_suite_as (HandSPX.lands_againZ fl3 fun g4 fl4 up4 => ?_)
    obtain ⟨o4, v4, e4, z4, d4⟩ := fl4.there
    have S4 := (J.landed (s' := { s1 with heap := g4 }) grd fl4.1 ((up.trans up3).trans up4) os ag).suite e4 d4 na nL nF
    refine store_ok (X := X.suite a ((a, o4) :: (X.pn ++ pins))) (v := .ref a) S4 h3 h4 (.inl h5) rfl (fun s5 S5 => ?_) (.inr h5)
    have tkS := takes_suiteF (i := i) (hp := hp) (pins := pins) (q := (a, o4)) h1 h2 h0 h3 h4 h5 pas tk okX
    refine wpAny_mono ((hu a o4 cls d (X.pn ++ pins) z4 ⟨_, d4⟩ nBase tkS).run [] s5 _ H1 _ (S5.toTry _) (hyes a na)) (fun f s6 done => ?_) (fun _ _ z => z)
    cases f with
    | next => obtain ⟨_, _, _, q⟩ := done; exact False.elim q
    | brk => obtain ⟨_, _, _, q⟩ := done; exact False.elim q
    | cont => obtain ⟨_, _, _, q⟩ := done; exact False.elim q
    | ret u => obtain ⟨_, _, _, _, _, q⟩ := done; exact False.elim q
  · cases f with
    | next => obtain ⟨σ1, H1, J1, q⟩ := done; exact wpAny_execs_nil ⟨σ1, H1, J1.ofTry okX, q⟩
    | brk => obtain ⟨σ1, H1, J1, q⟩ := done; exact ⟨σ1, H1, J1.ofTry okX, q⟩
    | cont => obtain ⟨σ1, H1, J1, q⟩ := done; exact ⟨σ1, H1, J1.ofTry okX, q⟩
    | ret u => obtain ⟨v, σ1, H1, J1, r, q⟩ := done; exact ⟨v, σ1, H1, J1.ofTry okX, r, q⟩
end
end Rf
/-! Rf1d: != of a thing with an own __eq__ and no own __ne__. -/
namespace Rf
open PySem PySem.Spec PyProof.Rows L2 Builtin
theorem slot_dict_ne : Slot "tuple_iterator" "__ne__" "object.__ne__" := PySem.F.slot_tuple_iterator_ne
section
variable {prog : Program} {w : World} {A : Around} {E : Value → Shared → Prop} {s : Shared} {K : PySem.W.Frag} {x C L f : Addr} {h₀ : Heap} {m : Str → Option Value} {ox : Obj} {od : Option Obj} {name : Str} {b tb : Value}
theorem ifBoundB_K {M : Model} {id : String} {T : String} {args : List Value} {Q : Option Value → Shared → Prop} (S : Slot T name id) (X : K.In s.heap) (I : PySem.W.InstAt s.heap x ox C od) (hs : PySem.W.findIn K (.ref C) name = some (some (.builtin id)))
    (h : wpAny M A (call (.builtin id) (.ref x :: args)) (fun v => Q (some v)) E s) : wpAny M A (callSpecialIfBound? (.ref x) name args) Q E s := by
  simp only [callSpecialIfBound?, bindSpecialIfBound?]
  refine wpAny_holding (wpAny_bind (wpAny_bind (wpAny_bind (I.type.here ((PySem.W.looks_findIn X hs).here ?_)))))
  refine wpAny_bind (wpAny_askSetting (wpAny_ite ?_))
  have fin : wpAny M A (call (.builtin id) ([.ref x] ++ args) >>= fun v => pure (some v)) Q E s := wpAny_bind (wpAny_mono h (fun v s' h' => wpAny_pure h') fun _ _ h' => h')
  rw [S.bind]
  split
  · exact wpAny_bind (wpAny_pure (wpAny_pure (by exact fin)))
  · exact wpAny_tryCatch (wpAny_bind (wpAny_pure (wpAny_pure (by exact fin))))
def BlBack (Q : Value → Shared → Prop) (v : Value) (s' : Shared) : Prop := ∃ b, v = .bool b ∧ Q (.bool (!b)) s'
theorem ne_K {Q : Value → Shared → Prop} (hu : A.units + 1 < cLine) (F : Fr h₀ L s.heap m) (X₀ : K.In h₀) (I : PySem.W.InstAt s.heap x ox C od) (hb : PySem.W.Looks (model prog w) s.heap (typeOf b) tb) (hn : PySem.W.notFirst K C tb = true)
    (he : PySem.W.findIn K (.ref C) "__ne__" = some (some (.builtin "object.__ne__"))) (hob : PySem.W.subIn K (.ref C) (.type "object") = some true)
    (hs : PySem.W.findIn K (.ref C) "__eq__" = some (some (.ref f))) (hf : PySem.W.isFn K (.ref f) = true)
    (h : wpAny (model prog w) A.in1 (call (.ref f) [.ref x, b]) (BlBack Q) E s) : wpAny (model prog w) A (richCompare .NotEq (.ref x) b) Q E s := by
  have X := X₀.keeps F.keep
  have body : wpAny (model prog w) A.in1 (Builtin.«object.__ne__» ⟨[.ref x, b], []⟩) (fun fin s' => ∃ v, fin = .done (.ret v) ∧ (∃ b, v = .bool b ∧ Q (.bool b) s')) E s := by
    unfold Builtin.«object.__ne__»
    repeat (first
      | with_reducible refine wpAny_cRoomFor hu ?_
      | (refine wpAny_bind (m := callSpecialIfBound? (.ref x) (Str.ofString "__eq__") [b])
          (PySem.W.ifBound_K X I hs hf (wpAny_mono h (fun r s' hr => by
            obtain ⟨b, rfl, hq⟩ := hr
            repeat (first | exact ⟨_, rfl, _, rfl, hq⟩ | exact wpAny_pure ⟨_, rfl, _, rfl, hq⟩ | exact wpAny_truthy_bool ⟨_, rfl, _, rfl, hq⟩ | (refine wpAny_bind (m := truthy (.bool _)) (wpAny_truthy_bool ?_)) | wp_step)) fun _ _ e => e)))
      | wp_step)
  have one : wpAny (model prog w) A (tryCompare (.ref x) "__ne__" b) (fun r s' => ∃ v, r = some v ∧ Q v s') E s := by
    unfold tryCompare
    refine wpAny_bind (ifBoundB_K slot_dict_ne X I he (wpAny_call (codeAny_call_builtin slot_dict_ne.plain PySem.F.cmpEntry_ne (PySem.W.check_slot PySem.F.cmpKind_ne PySem.F.cmpSplit_ne (I.type.andThen (PySem.W.looks_subIn X hob)) (PySem.F.cmpArgs_ne _ _) (wpAny_mono body (fun v s' hv => ?_) fun _ _ e => e)))))
    obtain ⟨v, rfl, b, rfl, q⟩ := hv
    exact wpAny_pure ⟨_, rfl, q⟩
  unfold richCompare
  simp only [oneThing_ref]
  refine wpAny_holding (wpAny_bind (wpAny_cRoomFor (Nat.lt_of_succ_lt hu) ?_))
  refine wpAny_bind (I.type.here (wpAny_bind (hb.here ?_)))
  split
  · rename_i q
    have e : PySem.W.subIn K tb (.ref C) = some false := by
      rcases Bool.or_eq_true_iff.mp hn with e | e
      · rw [beq_iff_eq.mp e] at q; simp at q
      · exact beq_iff_eq.mp e
    refine wpAny_bind ((PySem.W.looks_subIn X e).here ?_)
    simp only [Bool.false_eq_true, if_false]
    refine wpAny_bind (wpAny_mono one (fun r s' z => ?_) fun _ _ e => e)
    obtain ⟨v, rfl, hq⟩ := z
    exact wpAny_pure hq
  · refine wpAny_bind (wpAny_pure ?_)
    simp only [Bool.false_eq_true, if_false]
    refine wpAny_bind (wpAny_mono one (fun r s' z => ?_) fun _ _ e => e)
    obtain ⟨v, rfl, hq⟩ := z
    exact wpAny_pure hq
end
end Rf
namespace Rf
open PySem PySem.Spec PyProof.Rows L2

/-! ### the program's defs, as the walk knows them -/
structure FnE where
  f : Addr
  fd : FuncData
  ps : List Str
  sp : Sp
  k : Nat
  dvs : List V
  ds : List Value
  /-- other calls: so many values, these keywords, how they come in the parameters' order -/
  kb : List (Nat × List Str × (List V → List V → List V))
structure FnOkE (P : Program) (w : World) (K : Frag) (mg : Str → Option Value) (base : Heap) (e : FnE) : Prop where
  ok : FnOk P w K mg base (L2.CX P w) e.k e.f e.fd e.ps e.sp
  kp : PySem.W.keepIn K (.ref e.f) = true
  bd : ∀ j, Binds K e.fd e.ps (e.ds.drop j)
  vd : Vals e.dvs e.ds
  kb : ∀ q ∈ e.kb, ∃ g, KBn K e.fd e.ps q.1 q.2.1 g q.2.2
theorem Vals.dropV : ∀ {xs : List V} {us : List Value} (n : Nat), Vals xs us → Vals (xs.drop n) (us.drop n) := fun n h => Vals.drop n h
/-- what is known: functions by name, values by name, classes that are called, attributes, methods, own == -/
structure Gam where
  fn : List (Str × FnE)
  glo : List (Str × V)
  cl : List (Str × Addr × FnE)
  att : Addr → Str → Prop
  mt : Addr → Str → FnE → Prop
  eq : Addr → FnE → Prop
  exc : List (Str × Addr)
  /-- tables of code objects, and what their code objects are named -/
  tb : List (Addr × Str)
  /-- defs that call the lambda that they get -/
  lam : List (Str × ((XK → Hp → VK → Prop) → Hp → VK → Prop))
  /-- own __repr__ -/
  rp : Addr → FnE → Prop := fun _ _ => False
/-- the names alone -/
structure Nms where
  fn : List Str
  glo : List Str
  cl : List Str
  blt : List Str
  exc : List Str
  lam : List Str
  /-- where lambdas may be made: the prefix of their names -/
  lq : Option Str
/-- an own exception class without __init__ -/
structure ExcF (K : Frag) (mg : Str → Option Value) (x : Str) (C : Addr) : Prop where
  gC : mg x = some (.ref C)
  kC : PySem.W.keepIn K (.ref C) = true
  bC : PySem.W.subIn K (.ref C) (.type "BaseException") = some true
  tC : PySem.W.typeIn K (.ref C) = some (.type "type")
  fC : ∃ (B newId initId : String) (bmB : List Value), ExcBaseFacts B newId initId bmB ∧ PySem.W.excIn K C bmB newId = true
/-- x(lambda: ..), for a def x that calls it: TT is what x makes of the lambda's reading -/
def LamOk (P : Program) (w : World) (K : Frag) (mg : Str → Option Value) (base : Heap) (k : Nat) (x : Str) (TT : (XK → Hp → VK → Prop) → Hp → VK → Prop) : Prop :=
  ∀ (X : Cx), X.prog = P → X.w = w → X.K = K → X.mg = mg → X.base = base → ∀ (T : List (Addr × Str)) (c tb : Addr) (body : Expr) (scope : Scope) (t : XK → TE) (p lpos pos : Pos), Gl X x → LamX.TabB X.base X.mg c tb → X.env.code = .ref c → (tb, X.env.qual ++ "<lambda>") ∈ T →
    (∀ p ∈ T, p.1 = tb → p.2 = X.env.qual ++ "<lambda>") → Room (k + 2) X.A → LamX.LamS X.env.scope scope →
    (∀ (A : Around) (outer : List Env) (s : Shared) (H : Hp) (E : XK) (f c' : Addr), Room k (A.deeper (LamX.lamEnv X scope s.heap.objs.size f c')) → PE (LamX.lamCx X A outer s H E scope f c') body (t E)) →
    PE X (.Call (.Name x p) [.Lambda ⟨[], [], none, [], [], none, []⟩ body scope lpos] [] pos) (LamX.tLam T TT t)
structure GamOk (Γ : Gam) (n : Nms) (k : Nat) (P : Program) (w : World) (K : Frag) (mg : Str → Option Value) (base : Heap) : Prop where
  fnN : Γ.fn.map (·.1) = n.fn
  gloN : Γ.glo.map (·.1) = n.glo
  clN : Γ.cl.map (·.1) = n.cl
  fn : ∀ x e, (x, e) ∈ Γ.fn → FnOkE P w K mg base e ∧ e.k ≤ k ∧ mg x = some (.ref e.f)
  glo : ∀ x v, (x, v) ∈ Γ.glo → ∃ u, RelV v u ∧ (mg x = some u ∨ (mg x = none ∧ bootBuiltins x = some u ∧ x ≠ "__name__"))
  cl : ∀ x C e, (x, C, e) ∈ Γ.cl → FnOkE P w K mg base e ∧ e.k + 1 ≤ k ∧ Mk K C e.f ∧ mg x = some (.ref C)
  att : ∀ C f, Γ.att C f → Cls K C ∧ NoAttr K C f
  mt : ∀ C m e, Γ.mt C m e → FnOkE P w K mg base e ∧ e.k ≤ k ∧ Cls K C ∧ Meth K C m e.f
  eq : ∀ C e, Γ.eq C e → FnOkE P w K mg base e ∧ e.k + 1 ≤ k ∧ PySem.W.findIn K (.ref C) "__eq__" = some (some (.ref e.f)) ∧ PySem.W.isFn K (.ref e.f) = true ∧ PySem.W.findIn K (.ref C) "__ne__" = some (some (.builtin "object.__ne__")) ∧ PySem.W.subIn K (.ref C) (.type "object") = some true
  blt : ∀ x ∈ n.blt, mg x = none
  lamN : Γ.lam.map (·.1) = n.lam
  lam : ∀ x TT, (x, TT) ∈ Γ.lam → LamOk P w K mg base k x TT
  excN : Γ.exc.map (·.1) = n.exc
  exc : ∀ x C, (x, C) ∈ Γ.exc → ExcF K mg x C
  rp : ∀ C e, Γ.rp C e → FnOkE P w K mg base e ∧ e.k + 1 ≤ k ∧ PySem.W.findIn K (.ref C) "__repr__" = some (some (.ref e.f)) ∧ PySem.W.isFn K (.ref e.f) = true

theorem GamOk.noLq {Γ : Gam} {n : Nms} {k : Nat} {P : Program} {w : World} {K : Frag} {mg : Str → Option Value} {base : Heap} {q : Option Str} (h : GamOk Γ n k P w K mg base) : GamOk Γ { n with lq := q } k P w K mg base :=
  ⟨h.fnN, h.gloN, h.clN, h.fn, h.glo, h.cl, h.att, h.mt, h.eq, h.blt, h.lamN, h.lam, h.excN, h.exc, h.rp⟩
/-! ### built-in functions and types, called by their names -/
inductive BF where
  | isinstance | len | abs | max2 | min2 | int | str | list | tuple | sum | all | any
  deriving DecidableEq
def BF.name : BF → Str
  | .isinstance => "isinstance" | .len => "len" | .abs => "abs" | .max2 => "max" | .min2 => "min" | .int => "int" | .str => "str" | .list => "list" | .tuple => "tuple" | .sum => "sum" | .all => "all" | .any => "any"
def BF.val : BF → Value
  | .isinstance => .builtin "isinstance" | .len => .builtin "len" | .abs => .builtin "abs" | .max2 => .builtin "max" | .min2 => .builtin "min" | .int => .type "int" | .str => .type "str" | .list => .type "list" | .tuple => .type "tuple"
  | .sum => .builtin "sum" | .all => .builtin "all" | .any => .builtin "any"
theorem BF.boot (b : BF) : bootBuiltins b.name = some b.val := by cases b <;> decide +kernel
def rInt1 (xs : List V) (H : Hp) (Q : VK) : Prop := match xs with
  | [.int i] => Q (.int i) H
  | [.bl b] => Q (.int (if b then 1 else 0)) H
  | _ => False
def rMax2 (xs : List V) (H : Hp) (Q : VK) : Prop := match xs with
  | [.int i, .int j] => Q (.int (if j > i then j else i)) H
  | _ => False
def rMin2 (xs : List V) (H : Hp) (Q : VK) : Prop := match xs with
  | [.int i, .int j] => Q (.int (if j < i then j else i)) H
  | _ => False
def rAbs (xs : List V) (H : Hp) (Q : VK) : Prop := match xs with
  | [.int i] => Q (.int (if i < 0 then -i else i)) H
  | _ => False
def rStr1 (xs : List V) (H : Hp) (Q : VK) : Prop := match xs with
  | [.int i] => i.natAbs.log2 < 1920 ∧ Q (.str (toString i)) H
  | _ => False
def rLen (K : Frag) (xs : List V) (H : Hp) (Q : VK) : Prop := match xs with
  | [x] => ∃ n, LenV K x H n ∧ Q (.int n) H
  | _ => False
def rIsA (K : Frag) (xs : List V) (H : Hp) (Q : VK) : Prop := match xs with
  | .ref a :: r => rIs K (.ref a :: r) H Q ∨ rIsX K (.ref a :: r) H Q
  | xs => rIs K xs H Q
theorem call_isA {X : Cx} : CallR X (.builtin "isinstance") (rIsA X.K) := by
  intro pins s σ H xs us Q I r h
  unfold rIsA at h
  split at h
  · exact h.elim (call_is pins s σ H _ us Q I r) (call_isX pins s σ H _ us Q I r)
  · exact call_is pins s σ H _ us Q I r h
def BF.r (K : Frag) : BF → List V → Hp → VK → Prop
  | .isinstance => rIsA K
  | .len => rLen K
  | .abs => rAbs
  | .max2 => rMax2
  | .min2 => rMin2
  | .int => rInt1
  | .str => rStr1
  | .list => fun xs H Q => ∃ p ys, xs = [.ref p] ∧ (SqL K H p ys ∨ SqT K H p ys) ∧ ∀ l, H l = none → Q (.ref l) (upd H l (.lst ys))
  | .tuple => fun xs H Q => ∃ p ys, xs = [.ref p] ∧ ((SqL K H p ys ∧ ∀ l, H l = none → Q (.ref l) (upd H l (.tup ys))) ∨ (SqT K H p ys ∧ Q (.ref p) H))
  | .sum => rSum K
  | .all => rAll K
  | .any => rAny K
theorem BF.ok {X : Cx} (hc : X.calm = true) (b : BF) : CallR X b.val (b.r X.K) := by
  cases b with
  | isinstance => exact call_isA
  | len =>
    refine CallR.imp call_len fun xs H Q h => ?_
    match xs, h with
    | [x], ⟨n, hn, q⟩ => exact ⟨x, n, rfl, hn, q⟩
  | abs =>
    refine CallR.imp call_abs fun xs H Q h => ?_
    match xs, h with
    | [.int i], q => exact ⟨i, rfl, q⟩
  | max2 =>
    refine CallR.imp (call_max2 hc) fun xs H Q h => ?_
    match xs, h with
    | [.int i, .int j], q => exact ⟨i, j, rfl, q⟩
  | min2 =>
    refine CallR.imp (call_min2 hc) fun xs H Q h => ?_
    match xs, h with
    | [.int i, .int j], q => exact ⟨i, j, rfl, q⟩
  | int =>
    refine CallR.imp call_int1 fun xs H Q h => ?_
    match xs, h with
    | [.int i], q => exact .inl ⟨i, rfl, q⟩
    | [.bl b], q => exact .inr ⟨b, rfl, q⟩
  | str =>
    refine CallR.imp call_str_int fun xs H Q h => ?_
    match xs, h with
    | [.int i], q => exact ⟨i, rfl, q.1, q.2⟩
  | list => exact call_list_of
  | tuple => exact call_tuple_of
  | sum => exact cr_sum hc
  | all => exact cr_all hc
  | any => exact cr_any hc

/-! ### comparisons -/
theorem dec_int' {i j : Int} : decide (V.int i = V.int j) = decide (i = j) := by simp
theorem dec_str' {i j : Str} : decide (V.str i = V.str j) = decide (i = j) := by simp
theorem dec_bl' {i j : Bool} : decide (V.bl i = V.bl j) = decide (i = j) := by simp
/-- == by an own __eq__ -/
def rOwnEq (Γ : Gam) (K : Frag) : R2 := fun x y H Q => ∃ (a C dx : Addr) (fs : List (Str × V)) (e : FnE) (t : Value), x = .ref a ∧ H a = some (.ins C dx fs) ∧ Γ.eq C e ∧ TyX K H y t ∧ PySem.W.notFirst K C t = true ∧
  e.sp [x, y] H (fun v H' => ∃ b, v = .bl b ∧ Q (.bl b) H') (fun _ _ _ => False)
/-- != by an own __eq__ -/
def rOwnNe (Γ : Gam) (K : Frag) : R2 := fun x y H Q => ∃ (a C dx : Addr) (fs : List (Str × V)) (e : FnE) (t : Value), x = .ref a ∧ H a = some (.ins C dx fs) ∧ Γ.eq C e ∧ TyX K H y t ∧ PySem.W.notFirst K C t = true ∧
  e.sp [x, y] H (fun v H' => ∃ b, v = .bl b ∧ Q (.bl (!b)) H') (fun _ _ _ => False)
def rEqG (Γ : Gam) (K : Frag) : R2 := fun x y H Q => match x, y with
  | .int i, .int j => Q (.bl (decide (i = j))) H
  | .str i, .str j => Q (.bl (decide (i = j))) H
  | .bl i, .bl j => Q (.bl (decide (i = j))) H
  | .non, .non => Q (.bl true) H
  | x, y => (scal x y = true ∧ Q (.bl (decide (x = y))) H) ∨ rEqD K x y H Q ∨ rOwnEq Γ K x y H Q
def rNeG (Γ : Gam) (K : Frag) : R2 := fun x y H Q => match x, y with
  | .int i, .int j => Q (.bl (!decide (i = j))) H
  | .str i, .str j => Q (.bl (!decide (i = j))) H
  | .bl i, .bl j => Q (.bl (!decide (i = j))) H
  | .non, .non => Q (.bl false) H
  | x, y => (scal x y = true ∧ Q (.bl (!decide (x = y))) H) ∨ rNeD K x y H Q ∨ rOwnNe Γ K x y H Q
def rOrd (K : Frag) (f : Int → Int → Bool) (g : Bool) : R2 := fun x y H Q => match x, y with
  | .int i, .int j => Q (.bl (f i j)) H
  | .str i, .str j => g = true ∧ Q (.bl (decide (i.cps.toList < j.cps.toList))) H
  | x, y => g = true ∧ rLtT K x y H Q
def rIsNt (neg : Bool) : R2 := fun x y H Q => match y with
  | .non => Q (.bl (if neg then !decide (x = .non) else decide (x = .non))) H
  | _ => False
def rInG (K : Frag) (neg : Bool) : R2 := fun x y H Q => match x, y with
  | .str i, .str j => Q (.bl (if neg then !(!(Builtin.Str.occurrences j i 0 j.length 1).isEmpty) else (!(Builtin.Str.occurrences j i 0 j.length 1).isEmpty))) H
  | x, y => rIn K neg x y H Q
def rCmp (Γ : Gam) (K : Frag) : CmpOp → R2
  | .Eq => rEqG Γ K
  | .NotEq => rNeG Γ K
  | .Lt => rOrd K (fun i j => decide (i < j)) true
  | .LtE => rOrd K (fun i j => decide (i ≤ j)) false
  | .Gt => rOrd K (fun i j => decide (j < i)) false
  | .GtE => rOrd K (fun i j => decide (j ≤ i)) false
  | .Is => rIsNt false
  | .IsNot => rIsNt true
  | .In => rInG K false
  | .NotIn => rInG K true

/-- the context that the readings lean on -/
structure Cok (X : Cx) (Γ : Gam) (n : Nms) (k : Nat) (N : List Str) (sc st : Scope) (W : WX) : Prop where
  eN : X.N = N
  nd : N.Nodup
  eSc : X.env.scope = sc
  calm : X.calm = true
  room : Room k X.A
  gam : GamOk Γ n k X.prog X.w X.K X.mg X.base
  tk : Takes X W
  lcl : ∀ x, L2.Loc st x → L2.Loc sc x ∧ (X.fn x = true ∨ sc.names.lookup x = some NameKind.local)
  pas : PassesOwn (model X.prog X.w) X.A X.env X.xe
  lm : ∀ q, n.lq = some q → X.env.qual = q ∧ Room (k + 2) X.A ∧ ∃ c tb, X.env.code = .ref c ∧ LamX.TabB X.base X.mg c tb ∧ (tb, q ++ "<lambda>") ∈ Γ.tb ∧ ∀ p ∈ Γ.tb, p.1 = tb → p.2 = q ++ "<lambda>"
theorem passF {X : Cx} : Passes (L2.CX X.prog X.w) X (fun _ _ _ => False) := fun _ _ _ _ _ _ _ h => by
  obtain ⟨_, _, _, _, _, _, _, _, _, _, _, _, z⟩ := h
  exact z.elim
section
variable {X : Cx} {Γ : Gam} {n : Nms} {k : Nat} {N : List Str} {sc st : Scope} {W : WX}
theorem op_ownEq (h : Cok X Γ n k N sc st W) : OpR X (compareOp .Eq) (rOwnEq Γ X.K) := by
  intro pins s σ H x y v u Q I rx ry q
  obtain ⟨a, C, dx, fs, e, t, rfl, ha, he, ty, hn, q⟩ := q
  obtain ⟨F, hk, hs, hf, _⟩ := h.gam.eq C e he
  cases rx
  obtain ⟨mA, J, _⟩ := ins_get I.hok ha
  obtain ⟨od, J, _⟩ := J.look
  obtain ⟨m, hF⟩ := I.fr
  obtain ⟨P, Z, p, hx⟩ := kit_of I ry ty
  show wpAny _ _ (richCompare .Eq (.ref a) u) _ _ _
  refine PySem.W.cmp_K (op := .Eq) (tb := t) h.room.units0 hF I.ok.mod.kin J (Z.ty _ _ I.kIn p) hn hs hf ?_
  have hl := F.ok.len _ _ _ _ q
  have r2 : Vals [V.ref a, y] [Value.ref a, u] := .cons rfl (.cons ry .nil)
  have hb := F.bd e.ds.length
  rw [List.drop_length] at hb
  refine wpAny_mono (run_fn (us := [.ref a, u]) (vs := [.ref a, y]) (dvs := []) (ds := []) F.ok (h.room.mono (by omega)) hb .nil passF I r2 (by rw [List.append_nil]; exact q)) (fun r s' hq => ?_) fun _ _ z => z
  obtain ⟨z, H', I', rz, b, ez, q'⟩ := hq
  subst ez
  cases rz
  exact ⟨.bl b, H', I', rfl, q'⟩
theorem run_in1 {fd : FuncData} {f : Addr} {k : Nat} {ps : List Str} {sp : Sp} {E : XK} {pins : List (Addr × Obj)} {σ : L2.St} {H : Hp} {s : Shared} {Q : VK} {us : List Value} {vs : List V} (F : FnOk X.prog X.w X.K X.mg X.base (L2.CX X.prog X.w) k f fd ps sp) (hr : Room k X.A.in1) (hb : Binds X.K fd ps []) (hx : Passes (L2.CX X.prog X.w) X E)
    (I : Inv X pins σ H s) (r : Vals vs us) (h : sp vs H Q E) : wpAny (model X.prog X.w) X.A.in1 (call (.ref f) us) (EP X pins σ Q) X.xe s := by
  have hl : us.length = ps.length := by rw [← r.length]; exact F.len _ _ _ _ h
  refine wpAny_call (codeAny_mono (F.run X.A.in1 X.stack s H ⟨us, []⟩ us vs Q E hr I.env0.in1 (by have := hb s us I.kIn (by rw [List.append_nil]; exact hl); rw [List.append_nil] at this; exact this) r h) fun r s' hq => ?_)
  cases r with
  | error e => exact hx pins σ H s e s' I hq
  | ok fl =>
    cases fl with
    | ret u => exact I.after hq
    | next => exact False.elim hq
    | brk => exact False.elim hq
    | cont => exact False.elim hq
theorem op_ownNe (h : Cok X Γ n k N sc st W) : OpR X (compareOp .NotEq) (rOwnNe Γ X.K) := by
  intro pins s σ H x y v u Q I rx ry q
  obtain ⟨a, C, dx, fs, e, t, rfl, ha, he, ty, hn, q⟩ := q
  obtain ⟨F, hk, hs, hf, hne, hob⟩ := h.gam.eq C e he
  cases rx
  obtain ⟨mA, J, _⟩ := ins_get I.hok ha
  obtain ⟨od, J, _⟩ := J.look
  obtain ⟨m, hF⟩ := I.fr
  obtain ⟨P, Z, p, hx⟩ := kit_of I ry ty
  show wpAny _ _ (richCompare .NotEq (.ref a) u) _ _ _
  refine Rf.ne_K (tb := t) (by have := h.room.units; omega) hF I.ok.mod.kin J (Z.ty _ _ I.kIn p) hn hne hob hs hf ?_
  have hl := F.ok.len _ _ _ _ q
  have r2 : Vals [V.ref a, y] [Value.ref a, u] := .cons rfl (.cons ry .nil)
  have hb := F.bd e.ds.length
  rw [List.drop_length] at hb
  refine wpAny_mono (run_in1 (us := [.ref a, u]) (vs := [.ref a, y]) F.ok (h.room.mono hk).in1 hb passF I r2 q) (fun r s' hq => ?_) fun _ _ z => z
  obtain ⟨z, H', I', rz, b, ez, q'⟩ := hq
  subst ez
  cases rz
  exact ⟨b, rfl, .bl (!b), H', I', rfl, q'⟩
/-! repr -/
def rRepL (Γ : Gam) : List V → Hp → VK → Prop := fun xs H Q => match xs with
  | [.int i] => i.natAbs.log2 < 1920 ∧ Q (.str (toString i)) H
  | [.ref a] => ∃ (C dx : Addr) (fs : List (Str × V)) (e : FnE), H a = some (.ins C dx fs) ∧ Γ.rp C e ∧ e.sp [.ref a] H (fun v H' => ∃ b, v = .str b ∧ Q (.str b) H') (fun _ _ _ => False)
  | _ => False
theorem call_rep (h : Cok X Γ n k N sc st W) : CallR X (.builtin "repr") (rRepL Γ) := by
  intro pins s σ H xs us Q I r q
  unfold rRepL at q
  split at q
  · exact SkE.call_repr_int pins s σ H _ us Q I r ⟨_, rfl, q.1, q.2⟩
  · rename_i a
    obtain ⟨C, dx, fs, e, ha, he, q⟩ := q
    obtain ⟨F, hk, hs, hf⟩ := h.gam.rp C e he
    obtain ⟨u, rfl, ru⟩ := r.one
    cases (show u = Value.ref a from ru)
    obtain ⟨mA, J, _⟩ := ins_get I.hok ha
    obtain ⟨od, J, _⟩ := J.look
    obtain ⟨m, hF⟩ := I.fr
    have hb := F.bd e.ds.length
    rw [List.drop_length] at hb
    refine PySem.W.repr_K (by have := h.room.units; show X.A.units + 1 < _; omega) hF I.ok.mod.kin J hs hf ?_
    refine wpAny_mono (run_in1 (us := [.ref a]) (vs := [.ref a]) F.ok (h.room.mono hk).in1 hb passF I r q) (fun r s' hq => ?_) fun _ _ z => z
    obtain ⟨z, H', I', rz, b, ez, q'⟩ := hq
    subst ez
    obtain ⟨t, rfl⟩ := rz
    exact ⟨.str b, H', I', ⟨_, rfl⟩, q'⟩
  · exact q.elim
theorem op_cmp (h : Cok X Γ n k N sc st W) (op : CmpOp) : OpR X (compareOp op) (rCmp Γ X.K op) := by
  have hu := h.room.units
  cases op with
  | Eq =>
    refine OpR.imp (OpR.or op_eq (OpR.or (op_eqD hu) (op_ownEq h))) fun x y H Q q => ?_
    unfold rCmp rEqG at q
    dsimp only at q
    split at q
    · exact .inl ⟨rfl, by rw [dec_int']; exact q⟩
    · exact .inl ⟨rfl, by rw [dec_str']; exact q⟩
    · exact .inl ⟨rfl, by rw [dec_bl']; exact q⟩
    · exact .inl ⟨rfl, q⟩
    · exact q
  | NotEq =>
    refine OpR.imp (OpR.or op_ne (OpR.or (op_neD hu) (op_ownNe h))) fun x y H Q q => ?_
    unfold rCmp rNeG at q
    dsimp only at q
    split at q
    · exact .inl ⟨rfl, by rw [dec_int']; exact q⟩
    · exact .inl ⟨rfl, by rw [dec_str']; exact q⟩
    · exact .inl ⟨rfl, by rw [dec_bl']; exact q⟩
    · exact .inl ⟨rfl, q⟩
    · exact q
  | Lt =>
    refine OpR.imp (OpR.or op_lt (OpR.or op_lt_str (op_ltT h.room.units0))) fun x y H Q q => ?_
    unfold rCmp rOrd at q
    dsimp only at q
    split at q
    · exact .inl ⟨_, _, rfl, rfl, q⟩
    · exact .inr (.inl ⟨_, _, rfl, rfl, q.2⟩)
    · exact .inr (.inr q.2)
  | LtE =>
    refine OpR.imp op_le fun x y H Q q => ?_
    unfold rCmp rOrd at q
    dsimp only at q
    split at q
    · exact ⟨_, _, rfl, rfl, q⟩
    · exact absurd q.1 Bool.false_ne_true
    · exact absurd q.1 Bool.false_ne_true
  | Gt =>
    refine OpR.imp op_gt fun x y H Q q => ?_
    unfold rCmp rOrd at q
    dsimp only at q
    split at q
    · exact ⟨_, _, rfl, rfl, q⟩
    · exact absurd q.1 Bool.false_ne_true
    · exact absurd q.1 Bool.false_ne_true
  | GtE =>
    refine OpR.imp op_ge fun x y H Q q => ?_
    unfold rCmp rOrd at q
    dsimp only at q
    split at q
    · exact ⟨_, _, rfl, rfl, q⟩
    · exact absurd q.1 Bool.false_ne_true
    · exact absurd q.1 Bool.false_ne_true
  | Is =>
    refine OpR.imp op_isN fun x y H Q q => ?_
    unfold rCmp rIsNt at q
    dsimp only at q
    split at q
    · exact ⟨rfl, q⟩
    · exact q.elim
  | IsNot =>
    refine OpR.imp op_notN fun x y H Q q => ?_
    unfold rCmp rIsNt at q
    dsimp only at q
    split at q
    · exact ⟨rfl, q⟩
    · exact q.elim
  | In =>
    refine OpR.imp (OpR.or op_in_str op_in_seq) fun x y H Q q => ?_
    unfold rCmp rInG at q
    dsimp only at q
    split at q
    · exact .inl ⟨_, _, rfl, rfl, q⟩
    · exact .inr q
  | NotIn =>
    refine OpR.imp (OpR.or op_notin_str op_notIn_seq) fun x y H Q q => ?_
    unfold rCmp rInG at q
    dsimp only at q
    split at q
    · exact .inl ⟨_, _, rfl, rfl, q⟩
    · exact .inr q
end
end Rf
namespace Rf
open PySem PySem.Spec PyProof.Rows L2

/-! ### the syntax -/
inductive BM where
  | append | index | extend | count
  deriving DecidableEq
def BM.name : BM → Str
  | .append => "append" | .index => "index" | .extend => "extend" | .count => "count"
mutual
inductive ME where
  | var (i : Nat) (x : Str) (p : Pos)
  | non (k : Nat) (p : Pos)
  | bl (b : Bool) (k : Nat) (p : Pos)
  | int (i : Int) (k : Nat) (p : Pos)
  | str (s : Str) (k : Nat) (p : Pos)
  | glo (i : Nat) (x : Str) (p : Pos)
  | bin (a : ME) (op : Operator) (b : ME) (p : Pos)
  | neg (a : ME) (p : Pos)
  | not (a : ME) (p : Pos)
  | cmp (a : ME) (op : CmpOp) (b : ME) (p : Pos)
  | cmp2 (a : ME) (op : CmpOp) (b : ME) (op2 : CmpOp) (c : ME) (p : Pos)
  | and (es : MEs) (p : Pos)
  | or (es : MEs) (p : Pos)
  | tup (es : MEs) (k : Nat) (p : Pos)
  | lst (es : MEs) (p : Pos)
  | dic0 (p : Pos)
  | sub (a i : ME) (p : Pos)
  | att (a : ME) (f : Str) (p : Pos)
  | call (i : Nat) (x : Str) (q : Pos) (es : MEs) (p : Pos)
  | make (i : Nat) (x : Str) (q : Pos) (es : MEs) (p : Pos)
  | blt (b : BF) (q : Pos) (e : ME) (es : MEs) (p : Pos)
  | own (a : ME) (m : Str) (q : Pos) (es : MEs) (p : Pos)
  | bm (m : BM) (a : ME) (q : Pos) (e : ME) (p : Pos)
  | rep (q : Pos) (e : ME) (p : Pos)
  | fmt (e : ME) (p : Pos)
  | fst (es : MEs) (p : Pos)
  | callK (i j : Nat) (x : Str) (q : Pos) (es : MEs) (ks : List (Str × Pos)) (ws : MEs) (p : Pos)
  | makeK (i j : Nat) (x : Str) (q : Pos) (es : MEs) (ks : List (Str × Pos)) (ws : MEs) (p : Pos)
  | ownK (j : Nat) (a : ME) (m : Str) (q : Pos) (es : MEs) (ks : List (Str × Pos)) (ws : MEs) (p : Pos)
  | lam (i : Nat) (x : Str) (q : Pos) (body : ME) (scope : Scope) (lp : Pos) (p : Pos)
  | lc (elt : ME) (tg : MT) (it : MI) (ifs : MEs) (own : List (Str × Nat)) (scope : Scope) (p : Pos)
inductive MEs where
  | nil
  | cons (e : ME) (r : MEs)
inductive MT where
  | name (i : Nat) (x : Str) (p : Pos)
  | tup (ts : MTs) (k : Nat) (p : Pos)
  | sub (a i : ME) (p : Pos)
inductive MTs where
  | nil
  | cons (t : MT) (r : MTs)
inductive MI where
  | val (e : ME)
  | rng1 (q : Pos) (a : ME) (p : Pos)
  | rng2 (q : Pos) (a b : ME) (p : Pos)
  | enum (q : Pos) (a : ME) (p : Pos)
  | zip (q : Pos) (a b : ME) (p : Pos)
end

/-! ### the text -/
mutual
def eE : ME → Expr
  | .var _ x p => .Name x p
  | .non k p => .Constant .none k p
  | .bl b k p => .Constant (.bool b) k p
  | .int i k p => .Constant (.int i) k p
  | .str s k p => .Constant (.str s) k p
  | .glo _ x p => .Name x p
  | .bin a op b p => .BinOp (eE a) op (eE b) p
  | .neg a p => .UnaryOp .USub (eE a) p
  | .not a p => .UnaryOp .Not (eE a) p
  | .cmp a op b p => .Compare (eE a) [op] [eE b] p
  | .cmp2 a op b op2 c p => .Compare (eE a) [op, op2] [eE b, eE c] p
  | .and es p => .BoolOp .And (eEs es) p
  | .or es p => .BoolOp .Or (eEs es) p
  | .tup es k p => .Tuple (eEs es) k p
  | .lst es p => .List (eEs es) p
  | .dic0 p => .Dict [] [] p
  | .sub a i p => .Subscript (eE a) (eE i) p
  | .att a f p => .Attribute (eE a) f p
  | .call _ x q es p => .Call (.Name x q) (eEs es) [] p
  | .make _ x q es p => .Call (.Name x q) (eEs es) [] p
  | .blt b q e es p => .Call (.Name b.name q) (eE e :: eEs es) [] p
  | .own a m q es p => .Call (.Attribute (eE a) m q) (eEs es) [] p
  | .bm m a q e p => .Call (.Attribute (eE a) m.name q) [eE e] [] p
  | .rep q e p => .Call (.Name "repr" q) [eE e] [] p
  | .fmt e p => .FormattedValue (eE e) (-1) none p
  | .fst es p => .JoinedStr (eEs es) p
  | .callK _ _ x q es ks ws p => .Call (.Name x q) (eEs es) (eKs ws ks) p
  | .makeK _ _ x q es ks ws p => .Call (.Name x q) (eEs es) (eKs ws ks) p
  | .ownK _ a m q es ks ws p => .Call (.Attribute (eE a) m q) (eEs es) (eKs ws ks) p
  | .lam _ x q body scope lp p => .Call (.Name x q) [.Lambda ⟨[], [], none, [], [], none, []⟩ (eE body) scope lp] [] p
  | .lc elt tg it ifs _ scope p => .ListComp (eE elt) [⟨eT tg, eI it, eEs ifs, 0⟩] scope p
def eEs : MEs → List Expr
  | .nil => []
  | .cons e r => eE e :: eEs r
def eKs : MEs → List (Str × Pos) → List Keyword
  | .nil, _ => []
  | .cons e r, ks => (match ks with
    | (n, p) :: ks' => ⟨some n, eE e, p⟩ :: eKs r ks'
    | [] => [])
def eT : MT → Expr
  | .name _ x p => .Name x p
  | .tup ts k p => .Tuple (eTs ts) k p
  | .sub a i p => .Subscript (eE a) (eE i) p
def eTs : MTs → List Expr
  | .nil => []
  | .cons t r => eT t :: eTs r
def eI : MI → Expr
  | .val e => eE e
  | .rng1 q a p => .Call (.Name "range" q) [eE a] [] p
  | .rng2 q a b p => .Call (.Name "range" q) [eE a, eE b] [] p
  | .enum q a p => .Call (.Name "enumerate" q) [eE a] [] p
  | .zip q a b p => .Call (.Name "zip" q) [eE a, eE b] [] p
end

/-! ### what it means -/
def tAs : List (TE × TT) → TA
  | [] => tNil
  | d :: r => tCons d.1 (tAs r)
def tAndT : List (TE × TT) → TT
  | [] => fun _ _ _ => False
  | [d] => d.2
  | d :: r => L2.tAnd d.2 (tAndT r)
def tOrT' : List (TE × TT) → TT
  | [] => fun _ _ _ => False
  | [d] => d.2
  | d :: r => L2.tOr d.2 (tOrT' r)
def tRu (K : Frag) (t : TE) : TT := fun σ H Q => t σ H fun x H1 => rTru K x H1 Q
def tAndVs (K : Frag) : List (TE × TT) → TE
  | [] => fun _ _ _ => False
  | [d] => d.1
  | d :: r => fun σ H Q => d.1 σ H fun x H1 => rTru K x H1 fun k H2 => if k = true then tAndVs K r σ H2 Q else Q x H2
def tOrVs (K : Frag) : List (TE × TT) → TE
  | [] => fun _ _ _ => False
  | [d] => d.1
  | d :: r => fun σ H Q => d.1 σ H fun x H1 => rTru K x H1 fun k H2 => if k = true then Q x H2 else tOrVs K r σ H2 Q
def rNeg : V → Hp → VK → Prop := fun x H Q => match x with
  | .int i => Q (.int (-i)) H
  | _ => False
def rSub (K : Frag) : R2 := fun x y H Q => match x, y with
  | .ref p, .int i => (∃ xs v, (SqL K H p xs ∨ SqT K H p xs) ∧ atI xs i = some v ∧ Q v H)
  | .str z, .int i => z.length ≤ sizeLine ∧ ∃ c, atI z.cps.toList i = some c ∧ Q (.str ⟨#[c]⟩) H
  | _, _ => False
def tOfTE (K : Frag) (t : TE) : TE × TT := (t, tRu K t)
def gAtt (Γ : Gam) (ta : TE) (f : Str) : TE := fun σ H Q => ta σ H fun x H1 => ∃ a C dx fs v, x = .ref a ∧ H1 a = some (.ins C dx fs) ∧ Γ.att C f ∧ fs.lookup f = some v ∧ Q v H1
def dflt (e : FnE) (n : Nat) : List V := e.dvs.drop (n + e.dvs.length - e.ps.length)
def gCall (Γ : Gam) (W : WX) (i n : Nat) (t : TA) : TE := fun σ H Q => match Γ.fn[i]? with
  | some (_, e) => t σ H fun vs H1 => e.sp (vs ++ dflt e n) H1 Q (fun c d H' => W c d σ H')
  | none => False
def gMake (Γ : Gam) (W : WX) (i n : Nat) (t : TA) : TE := fun σ H Q => match Γ.cl[i]? with
  | some (_, C, e) => t σ H fun vs H1 => ∀ x dx, H1 x = none → H1 dx = none → dx ≠ x →
      e.sp (.ref x :: (vs ++ dflt e (n + 1))) (upd (upd H1 dx (.own x)) x (.ins C dx [])) (fun v H2 => v = .non ∧ Q (.ref x) H2) (fun c d H' => W c d σ H')
  | none => False
def gOwn (Γ : Gam) (W : WX) (m : Str) (n : Nat) (ta : TE) (t : TA) : TE := fun σ H Q => ∃ C e, Γ.mt C m e ∧ ta σ H fun x H1 => ∃ a dx fs, x = .ref a ∧ H1 a = some (.ins C dx fs) ∧ fs.lookup m = none ∧
  t σ H1 fun vs H2 => e.sp (x :: (vs ++ dflt e (n + 1))) H2 Q (fun c d H' => W c d σ H')
def gLam (Γ : Gam) (i : Nat) (t : XK → TE) : TE := fun σ H Q => match Γ.lam[i]? with
  | some (_, TT) => LamX.tLam Γ.tb TT t σ H Q
  | none => False
def gCallK (Γ : Gam) (W : WX) (i j n : Nat) (ks : List Str) (t tk : TA) : TE := fun σ H Q => match Γ.fn[i]? with
  | some (_, e) => ∃ gV, e.kb[j]? = some (n, ks, gV) ∧ t σ H fun vs H1 => tk σ H1 fun zs H2 => vs.length = n ∧ zs.length = ks.length ∧ e.sp (gV vs zs) H2 Q (fun c d H' => W c d σ H')
  | none => False
def gMakeK (Γ : Gam) (W : WX) (i j n : Nat) (ks : List Str) (t tk : TA) : TE := fun σ H Q => match Γ.cl[i]? with
  | some (_, C, e) => ∃ gV, e.kb[j]? = some (n + 1, ks, gV) ∧ t σ H fun vs H1 => tk σ H1 fun zs H2 => vs.length = n ∧ zs.length = ks.length ∧ ∀ x dx, H2 x = none → H2 dx = none → dx ≠ x →
      e.sp (gV (.ref x :: vs) zs) (upd (upd H2 dx (.own x)) x (.ins C dx [])) (fun v H3 => v = .non ∧ Q (.ref x) H3) (fun c d H' => W c d σ H')
  | none => False
def gOwnK (Γ : Gam) (W : WX) (j : Nat) (m : Str) (n : Nat) (ks : List Str) (ta : TE) (t tk : TA) : TE := fun σ H Q => ∃ C e gV, Γ.mt C m e ∧ e.kb[j]? = some (n + 1, ks, gV) ∧ ta σ H fun x H1 => ∃ a dx fs, x = .ref a ∧ H1 a = some (.ins C dx fs) ∧ fs.lookup m = none ∧
  t σ H1 fun vs H2 => tk σ H2 fun zs H3 => vs.length = n ∧ zs.length = ks.length ∧ e.sp (gV (x :: vs) zs) H3 Q (fun c d H' => W c d σ H')
def BM.r (K : Frag) : BM → V → V → Hp → VK → Prop
  | .append => fun x y H Q => ∃ l xs, x = .ref l ∧ H l = some (.lst xs) ∧ xs.length < sizeLine ∧ Q .non (upd H l (.lst (xs ++ [y])))
  | .index => fun x y H Q => rIndex K x [y] H Q
  | .extend => fun x y H Q => rExtend x [y] H Q
  | .count => fun x y H Q => rCount K x [y] H Q
def bmR (K : Frag) (m : BM) : V → List V → Hp → VK → Prop := fun x xs H Q => match xs with
  | [y] => m.r K x y H Q
  | _ => False
def iVal (K : Frag) (te : TE) : TI := fun σ H R => te σ H fun x H1 => match x with
  | .ref a => (∃ xs, SqL K H1 a xs ∧ R (Itl K a) H1) ∨ (∃ xs, SqT K H1 a xs ∧ R (Itt K a) H1)
  | _ => False
def MEs.len : MEs → Nat
  | .nil => 0
  | .cons _ r => r.len + 1
mutual
def dE (Γ : Gam) (K : Frag) : ME → WX → TE × TT
  | .var i _ _, _ => tOfTE K (tVar i)
  | .non _ _, _ => tOfTE K (tC .non)
  | .bl b _ _, _ => tOfTE K (tC (.bl b))
  | .int i _ _, _ => tOfTE K (tC (.int i))
  | .str s _ _, _ => tOfTE K (tC (.str s))
  | .glo i _ _, _ => tOfTE K (fun _ H Q => match Γ.glo[i]? with | some (_, v) => Q v H | none => False)
  | .bin a op b _, W => tOfTE K (tOp (rBin K op) (dE Γ K a W).1 (dE Γ K b W).1)
  | .neg a _, W => tOfTE K (tUn rNeg (dE Γ K a W).1)
  | .not a _, W => (fun σ H Q => (dE Γ K a W).1 σ H fun x H1 => rTru K x H1 fun k H2 => Q (.bl (!k)) H2, L2.tNot (dE Γ K a W).2)
  | .cmp a op b _, W => (tOp (rCmp Γ K op) (dE Γ K a W).1 (dE Γ K b W).1, tTest (tOp (rCmp Γ K op) (dE Γ K a W).1 (dE Γ K b W).1))
  | .cmp2 a op b op2 c _, W => (tChain (rCmp Γ K op) (rCmp Γ K op2) (dE Γ K a W).1 (dE Γ K b W).1 (dE Γ K c W).1, tTest (tChain (rCmp Γ K op) (rCmp Γ K op2) (dE Γ K a W).1 (dE Γ K b W).1 (dE Γ K c W).1))
  | .and es _, W => (tAndVs K (dEs Γ K es W), tAndT (dEs Γ K es W))
  | .or es _, W => (tOrVs K (dEs Γ K es W), tOrT' (dEs Γ K es W))
  | .tup es _ _, W => tOfTE K (tTup (tAs (dEs Γ K es W)))
  | .lst es _, W => tOfTE K (tLst (tAs (dEs Γ K es W)))
  | .dic0 _, _ => tOfTE K (fun _ H Q => ∀ p, H p = none → Q (.ref p) (upd H p (.dK [])))
  | .sub a i _, W => tOfTE K (tOp (rSub K) (dE Γ K a W).1 (dE Γ K i W).1)
  | .att a f _, W => tOfTE K (gAtt Γ (dE Γ K a W).1 f)
  | .call i _ _ es _, W => tOfTE K (gCall Γ W i es.len (tAs (dEs Γ K es W)))
  | .make i _ _ es _, W => tOfTE K (gMake Γ W i es.len (tAs (dEs Γ K es W)))
  | .blt b _ e es _, W => tOfTE K (tCB (b.r K) (tCons (dE Γ K e W).1 (tAs (dEs Γ K es W))))
  | .own a m _ es _, W => tOfTE K (gOwn Γ W m es.len (dE Γ K a W).1 (tAs (dEs Γ K es W)))
  | .bm m a _ e _, W => tOfTE K (tBM K "list" (bmR K m) (dE Γ K a W).1 (tCons (dE Γ K e W).1 tNil))
  | .rep _ e _, W => tOfTE K (tCB (rRepL Γ) (tCons (dE Γ K e W).1 tNil))
  | .fmt e _, W => tOfTE K (tFmt (dE Γ K e W).1)
  | .fst es _, W => tOfTE K (fun σ H Q => tJs ((dEs Γ K es W).map (·.1)) Str.empty σ H fun out H1 => Q (.str out) H1)
  | .callK i j _ _ es ks ws _, W => tOfTE K (gCallK Γ W i j es.len (ks.map (·.1)) (tAs (dEs Γ K es W)) (tAs (dEs Γ K ws W)))
  | .makeK i j _ _ es ks ws _, W => tOfTE K (gMakeK Γ W i j es.len (ks.map (·.1)) (tAs (dEs Γ K es W)) (tAs (dEs Γ K ws W)))
  | .ownK j a m _ es ks ws _, W => tOfTE K (gOwnK Γ W j m es.len (ks.map (·.1)) (dE Γ K a W).1 (tAs (dEs Γ K es W)) (tAs (dEs Γ K ws W)))
  | .lam i _ _ body _ _ _, _ => tOfTE K (gLam Γ i fun E => (dE Γ K body (fun c d _ H => E c d H)).1)
  | .lc elt tg it ifs own _ _, W => tOfTE K (tLc (dI Γ K it W) (dT Γ K tg (fun _ _ _ _ => False)) (match dEs Γ K ifs (fun _ _ _ _ => False) with | [] => tYes | d :: _ => d.2) (dE Γ K elt (fun _ _ _ _ => False)).1 (own.map (·.2)))
def dEs (Γ : Gam) (K : Frag) : MEs → WX → List (TE × TT)
  | .nil, _ => []
  | .cons e r, W => dE Γ K e W :: dEs Γ K r W
def dT (Γ : Gam) (K : Frag) : MT → WX → TG
  | .name i _ _, _ => gName i
  | .tup ts _ _, W => gTup K (dTs Γ K ts W).1 (dTs Γ K ts W).2
  | .sub a i _, W => gSub (dE Γ K a W).1 (dE Γ K i W).1 rSetL
def dTs (Γ : Gam) (K : Frag) : MTs → WX → Nat × TGs
  | .nil, _ => (0, gNil)
  | .cons t r, W => ((dTs Γ K r W).1 + 1, gCons (dT Γ K t W) (dTs Γ K r W).2)
def dI (Γ : Gam) (K : Frag) : MI → WX → TI
  | .val e, W => iVal K (dE Γ K e W).1
  | .rng1 _ a _, W => iRng1 (tCons (dE Γ K a W).1 tNil)
  | .rng2 _ a b _, W => iRng2 (tCons (dE Γ K a W).1 (tCons (dE Γ K b W).1 tNil))
  | .enum _ a _, W => iEnum K (tCons (dE Γ K a W).1 tNil)
  | .zip _ a b _, W => iZip K (tCons (dE Γ K a W).1 (tCons (dE Γ K b W).1 tNil))
end

/-! ### what is looked at in the text -/
def okName (sc : Scope) (x : Str) (ks : List NameKind) : Bool := (match sc.names.lookup x with | some k => ks.contains k | none => false) && !(x == ("__debug__" : Str)) && !(x == ("__classdict__" : Str)) && !(x == ("__name__" : Str)) && !(x == ("super" : Str))
def okBlt (n : Nms) (sc : Scope) (x : Str) : Bool := n.blt.contains x && okName sc x [.globalImplicit]
mutual
def isLc : ME → Bool
  | .lc .. => true
  | _ => false
end
def isTupT : MT → Bool
  | .tup .. => true
  | _ => false
mutual
def wE (N : List Str) : Nms → ME → Scope → Bool
  | n, .var i x _, sc => decide (N[i]? = some x) && okName sc x [.local, .cell, .free]
  | n, .non _ _, _ => true
  | n, .bl _ _ _, _ => true
  | n, .int _ _ _, _ => true
  | n, .str _ _ _, _ => true
  | n, .glo i x _, sc => decide (n.glo[i]? = some x) && okName sc x [.globalImplicit]
  | n, .bin a _ b _, sc => wE N n a sc && wE N n b sc
  | n, .neg a _, sc => wE N n a sc
  | n, .not a _, sc => wE N n a sc
  | n, .cmp a _ b _, sc => wE N n a sc && wE N n b sc
  | n, .cmp2 a _ b _ c _, sc => wE N n a sc && wE N n b sc && wE N n c sc
  | n, .and es _, sc => wEs N n es sc
  | n, .or es _, sc => wEs N n es sc
  | n, .tup es _ _, sc => wEs N n es sc
  | n, .lst es _, sc => wEs N n es sc
  | n, .dic0 _, _ => true
  | n, .sub a i _, sc => wE N n a sc && wE N n i sc
  | n, .att a _ _, sc => wE N n a sc
  | n, .call i x _ es _, sc => decide (n.fn[i]? = some x) && okName sc x [.globalImplicit] && wEs N n es sc
  | n, .make i x _ es _, sc => decide (n.cl[i]? = some x) && okName sc x [.globalImplicit] && wEs N n es sc
  | n, .blt b _ e es _, sc => okBlt n sc b.name && wE N n e sc && wEs N n es sc
  | n, .own a _ q es p, sc => wE N n a sc && wEs N n es sc && (q.endLine == p.line) && decide (es.len < 30)
  | n, .bm _ a q e p, sc => wE N n a sc && wE N n e sc && (q.endLine == p.line)
  | n, .rep _ e _, sc => okBlt n sc "repr" && wE N n e sc
  | n, .fmt e _, sc => wE N n e sc
  | n, .fst es _, sc => wEs N n es sc && decide (2 ≤ es.len)
  | n, .callK i _ x _ es ks ws _, sc => decide (n.fn[i]? = some x) && okName sc x [.globalImplicit] && wEs N n es sc && wEs N n ws sc && decide (ks.length = ws.len)
  | n, .makeK i _ x _ es ks ws _, sc => decide (n.cl[i]? = some x) && okName sc x [.globalImplicit] && wEs N n es sc && wEs N n ws sc && decide (ks.length = ws.len)
  | n, .ownK _ a _ q es ks ws p, sc => wE N n a sc && wEs N n es sc && wEs N n ws sc && decide (ks.length = ws.len) && (q.endLine == p.line) && decide (es.len + ws.len < 29)
  | n, .lam i x _ body scope _ _, sc => decide (n.lam[i]? = some x) && okName sc x [.globalImplicit] && n.lq.isSome && LamX.lamSB sc scope && wE N { n with lq := none } body scope
  | n, .lc elt tg it ifs own scope _, sc => wI N n it sc && (match it with | .val _ => true | .rng1 .. => true | .rng2 .. => true | _ => isTupT tg) && blkC N sc scope own && wT N n tg (relS scope sc) scope && wEs N n ifs (relS scope sc) && decide (ifs.len ≤ 1) && wE N n elt (relS scope sc)
def wEs (N : List Str) : Nms → MEs → Scope → Bool
  | n, .nil, _ => true
  | n, .cons e r, sc => wE N n e sc && wEs N n r sc
def wT (N : List Str) : Nms → MT → Scope → Scope → Bool
  | n, .name i x _, _, st => decide (N[i]? = some x) && okName st x [.local, .cell]
  | n, .tup ts _ _, sc, st => wTs N n ts sc st
  | n, .sub a i _, sc, _ => wE N n a sc && wE N n i sc
def wTs (N : List Str) : Nms → MTs → Scope → Scope → Bool
  | n, .nil, _, _ => true
  | n, .cons t r, sc, st => wT N n t sc st && wTs N n r sc st
def wI (N : List Str) : Nms → MI → Scope → Bool
  | n, .val e, sc => wE N n e sc
  | n, .rng1 _ a _, sc => okBlt n sc "range" && wE N n a sc
  | n, .rng2 _ a b _, sc => okBlt n sc "range" && wE N n a sc && wE N n b sc
  | n, .enum _ a _, sc => okBlt n sc "enumerate" && wE N n a sc
  | n, .zip _ a b _, sc => okBlt n sc "zip" && wE N n a sc && wE N n b sc
end
end Rf
namespace Rf
open PySem PySem.Spec PyProof.Rows L2

/-! ### the shapes that the rules ask of the text -/
theorem star_e (m : ME) (es : List Expr) (env : Env) : starEach (eE m :: es) env = (false, eval (eE m) env) :: starEach es env := by cases m <;> rfl
theorem star_es : ∀ (r : MEs) (env : Env), (starEach (eEs r) env).any (·.1) = false
  | .nil, _ => rfl
  | .cons e r, env => by
    show (starEach (eE e :: eEs r) env).any (·.1) = false
    rw [star_e]
    show (false || (starEach (eEs r) env).any (·.1)) = false
    rw [star_es r env]
    rfl
theorem back_any {pos : Pos} : ∀ (l : List (Bool × Sem Value)), l.any (·.1) = false → (backTo pos l).any (·.1) = false
  | [], _ => rfl
  | (b, t) :: r, h => by
    have h' : (b || r.any (·.1)) = false := h
    rw [Bool.or_eq_false_iff] at h'
    show (b || (backTo pos r).any (·.1)) = false
    rw [h'.1, back_any r h'.2]
    rfl
theorem plain_es (r : MEs) (env : Env) (pos : Pos) : (backTo pos (starEach (eEs r) env)).any (·.1) = false := back_any _ (star_es r env)
theorem all_of_any : ∀ (l : List (Bool × Sem Value)), l.any (·.1) = false → l.all (fun x => !x.1) = true
  | [], _ => rfl
  | (b, t) :: r, h => by
    have h' : (b || r.any (·.1)) = false := h
    rw [Bool.or_eq_false_iff] at h'
    show (!b && r.all (fun x => !x.1)) = true
    rw [h'.1, all_of_any r h'.2]
    rfl
theorem len_es : ∀ r : MEs, (eEs r).length = r.len
  | .nil => rfl
  | .cons e r => by show (eEs r).length + 1 = r.len + 1; rw [len_es r]
theorem okName_ks {sc : Scope} {x : Str} {ks : List NameKind} (h : okName sc x ks = true) : ∃ k ∈ ks, sc.names.lookup x = some k := by
  unfold okName at h
  simp only [Bool.and_eq_true] at h
  obtain ⟨⟨⟨⟨h, _⟩, _⟩, _⟩, _⟩ := h
  split at h
  · rename_i k e
    exact ⟨k, by simpa using h, e⟩
  · cases h
theorem okName_db {sc : Scope} {x : Str} {ks : List NameKind} (h : okName sc x ks = true) : (x == ("__debug__" : Str)) = false := by
  unfold okName at h
  simp only [Bool.and_eq_true, Bool.not_eq_true'] at h
  exact h.1.1.1.2
theorem okName_cd {sc : Scope} {x : Str} {ks : List NameKind} (h : okName sc x ks = true) : (x == ("__classdict__" : Str)) = false := by
  unfold okName at h
  simp only [Bool.and_eq_true, Bool.not_eq_true'] at h
  exact h.1.1.2
theorem okName_nm {sc : Scope} {x : Str} {ks : List NameKind} (h : okName sc x ks = true) : x ≠ "__name__" := by
  unfold okName at h
  simp only [Bool.and_eq_true, Bool.not_eq_true'] at h
  intro e
  rw [e] at h
  exact absurd h.1.2 (by decide +kernel)
theorem okName_su {sc : Scope} {x : Str} {ks : List NameKind} (h : okName sc x ks = true) : (x != ("super" : Str)) = true := by
  unfold okName at h
  simp only [Bool.and_eq_true, Bool.not_eq_true'] at h
  show (!(x == ("super" : Str))) = true
  rw [h.2]
  rfl
theorem abase {n : Nms} {N : List Str} {sc : Scope} (a : ME) (h : wE N n a sc = true) (f : Str) (env : Env) : attributeBase (eE a) f env (eval (eE a) env) = eval (eE a) env := by
  cases a with
  | call i x q es p =>
    cases es with
    | nil =>
      unfold wE at h
      simp only [Bool.and_eq_true] at h
      exact abase_call (okName_su h.1.2)
    | cons e r => rfl
  | make i x q es p =>
    cases es with
    | nil =>
      unfold wE at h
      simp only [Bool.and_eq_true] at h
      exact abase_call (okName_su h.1.2)
    | cons e r => rfl
  | callK i j x q es ks ws p =>
    cases es with
    | nil =>
      unfold wE at h
      simp only [Bool.and_eq_true] at h
      have hs := okName_su h.1.1.1.2
      cases ws with
      | nil => exact abase_call hs
      | cons e r =>
        cases ks with
        | nil => exact abase_call hs
        | cons k ks => rfl
    | cons e r => rfl
  | makeK i j x q es ks ws p =>
    cases es with
    | nil =>
      unfold wE at h
      simp only [Bool.and_eq_true] at h
      have hs := okName_su h.1.1.1.2
      cases ws with
      | nil => exact abase_call hs
      | cons e r =>
        cases ks with
        | nil => exact abase_call hs
        | cons k ks => rfl
    | cons e r => rfl
  | _ => rfl
theorem plainIx (i : ME) : PlainIx (eE i) := by intro o v; cases i <;> rfl
theorem nofold (m : ME) (env : Env) (x : Value) : foldedSetIterable (eE m) env x = pure x := by cases m <;> rfl
theorem nofoldI (m : MI) (env : Env) (x : Value) : foldedSetIterable (eI m) env x = pure x := by
  cases m with
  | val e => exact nofold e env x
  | _ => rfl
theorem nomarkE (op : CmpOp) (b : ME) : behindInMarks op (eE b) = false := by cases b <;> rfl
theorem noswap (m : ME) (t : Option Expr) (l : Nat) (env : Env) (h : isLc m = false) : swapsWith (eE m) t l env = pure false := by
  cases m with
  | lc => cases h
  | _ => rfl
theorem mcall_own {o : Expr} {m : Str} {apos pos : Pos} {args : List Expr} {env : Env} (hb : attributeBase o m env (eval o env) = eval o env)
    (hform : methodCallForm (args.length + ([] : List Keyword).length) (backTo pos (starEach args env)) (backToKw pos (keywordEach [] env)) = true) (hline : (apos.endLine == pos.line) = true) :
    eval (.Call (.Attribute o m apos) args [] pos) env = (do
      let ov ← eval o env
      standAt apos.atName
      let (f, first) ← holding [ov] (getMethod ov m (do return (← importBound o env).getD true))
      callWith pos f first (backTo pos (starEach args env)) (backToKw pos (keywordEach [] env))) := by
  refine mcall_of hb fun ov => ?_
  have hpos : methodCallPos true o env apos pos = pure pos := by
    unfold methodCallPos
    simp [hline]
  unfold methodCall
  rw [hform, hpos]
  rfl
theorem form_es (r : MEs) (env : Env) (pos : Pos) (h : r.len < 30) : methodCallForm ((eEs r).length + ([] : List Keyword).length) (backTo pos (starEach (eEs r) env)) (backToKw pos (keywordEach [] env)) = true := by
  unfold methodCallForm
  rw [all_of_any _ (plain_es r env pos), len_es]
  simp only [Bool.true_and, Bool.and_eq_true, decide_eq_true_eq]
  exact ⟨rfl, by show r.len + 0 + 0 < 30; omega⟩
theorem kw_some (pos : Pos) (env : Env) : ∀ (ws : MEs) (ks : List (Str × Pos)), (backToKw pos (keywordEach (eKs ws ks) env)).all (·.1.isSome) = true
  | .nil, ks => rfl
  | .cons e r, [] => rfl
  | .cons e r, (n, p) :: ks => by
    show (true && (backToKw pos (keywordEach (eKs r ks) env)).all (·.1.isSome)) = true
    rw [kw_some pos env r ks]
    rfl
theorem kw_none (pos : Pos) (env : Env) : ∀ (ws : MEs) (ks : List (Str × Pos)), (backToKw pos (keywordEach (eKs ws ks) env)).any (·.1.isNone) = false
  | .nil, ks => rfl
  | .cons e r, [] => rfl
  | .cons e r, (n, p) :: ks => by
    show (false || (backToKw pos (keywordEach (eKs r ks) env)).any (·.1.isNone)) = false
    rw [kw_none pos env r ks]
    rfl
theorem kw_names (pos : Pos) (env : Env) : ∀ (ws : MEs) (ks : List (Str × Pos)), ks.length = ws.len → (backToKw pos (keywordEach (eKs ws ks) env)).filterMap (·.1) = ks.map (·.1)
  | .nil, [], h => rfl
  | .nil, _ :: _, h => by cases h
  | .cons e r, [], h => by cases h
  | .cons e r, (n, p) :: ks, h => by
    show n :: (backToKw pos (keywordEach (eKs r ks) env)).filterMap (·.1) = n :: ks.map (·.1)
    rw [kw_names pos env r ks (Nat.succ.inj h)]
theorem kw_len : ∀ (ws : MEs) (ks : List (Str × Pos)), ks.length = ws.len → (eKs ws ks).length = ws.len
  | .nil, ks, h => rfl
  | .cons e r, [], h => by cases h
  | .cons e r, (n, p) :: ks, h => by
    show (eKs r ks).length + 1 = r.len + 1
    rw [kw_len r ks (Nat.succ.inj h)]
theorem form_ks (es ws : MEs) (ks : List (Str × Pos)) (env : Env) (pos : Pos) (h : es.len + ws.len < 29) (hk : ks.length = ws.len) : methodCallForm ((eEs es).length + (eKs ws ks).length) (backTo pos (starEach (eEs es) env)) (backToKw pos (keywordEach (eKs ws ks) env)) = true := by
  unfold methodCallForm
  rw [all_of_any _ (plain_es es env pos), kw_some, len_es, kw_len ws ks hk]
  simp only [Bool.true_and, decide_eq_true_eq]
  split <;> omega
theorem mcall_ownK {o : Expr} {m : Str} {apos pos : Pos} {args : List Expr} {kws : List Keyword} {env : Env} (hb : attributeBase o m env (eval o env) = eval o env)
    (hform : methodCallForm (args.length + kws.length) (backTo pos (starEach args env)) (backToKw pos (keywordEach kws env)) = true) (hline : (apos.endLine == pos.line) = true) :
    eval (.Call (.Attribute o m apos) args kws pos) env = (do
      let ov ← eval o env
      standAt apos.atName
      let (f, first) ← holding [ov] (getMethod ov m (do return (← importBound o env).getD true))
      callWith pos f first (backTo pos (starEach args env)) (backToKw pos (keywordEach kws env))) := by
  refine mcall_of hb fun ov => ?_
  have hpos : methodCallPos true o env apos pos = pure pos := by
    unfold methodCallPos
    simp [hline]
  unfold methodCall
  rw [hform, hpos]
  rfl
/-- an expression whose truth is its value's -/
def plainT : ME → Bool
  | .not .. => false
  | .cmp .. => false
  | .cmp2 .. => false
  | .and .. => false
  | .or .. => false
  | _ => true
theorem istrue_e (m : ME) (env : Env) (h : plainT m = true) (whole : Sem Value) : isTrue (eE m) env whole = (do let v ← whole; standAt (eE m).pos; holding [v] (truthy v)) := by
  cases m with
  | not => cases h
  | cmp => cases h
  | cmp2 => cases h
  | and => cases h
  | or => cases h
  | _ => rfl
end Rf
namespace Rf
open PySem PySem.Spec PyProof.Rows L2

section
variable {X : Cx} {CX : CXT} {k : Nat} {f C : Addr} {fd : FuncData} {ps : List Str} {sp : Sp} {dvs : List V} {ds : List Value} {E : XK}
/-- a class is called; what is raised is wished for at these slots -/
theorem mk_at {pins : List (Addr × Obj)} {σ : L2.St} {H : Hp} {s : Shared} {Q : VK} {us : List Value} {vs : List V} (M : Mk X.K C f) (F : FnOk X.prog X.w X.K X.mg X.base CX k f fd ps sp) (hr : Room (k + 1) X.A) (hb : Binds X.K fd ps ds)
    (hd : Vals dvs ds) (hx : PassesAt CX X σ E) (I : L2.Inv X pins σ H s) (r : Vals vs us)
    (h : ∀ x dx, H x = none → H dx = none → dx ≠ x → sp (.ref x :: (vs ++ dvs)) (upd (upd H dx (.own x)) x (.ins C dx [])) (fun v H2 => v = .non ∧ Q (.ref x) H2) E) :
    wpAny (model X.prog X.w) X.A (call (.ref C) us) (EP X pins σ Q) X.xe s := by
  have new := h (s.heap.objs.size + 1) s.heap.objs.size (I.hok.fresh (Nat.le_succ _)) (I.hok.fresh (Nat.le_refl _)) (Nat.ne_of_lt (Nat.lt_succ_self _))
  have J := L2.Inv.made (C := C) I
  have rr : Vals (V.ref (s.heap.objs.size + 1) :: (vs ++ dvs)) (Value.ref (s.heap.objs.size + 1) :: (us ++ ds)) := .cons rfl (r.append hd)
  have len : (Value.ref (s.heap.objs.size + 1) :: us ++ ds).length = ps.length := by
    have z := rr.length
    rw [F.len _ _ _ _ new] at z
    exact z.symm
  have bb := hb _ (Value.ref (s.heap.objs.size + 1) :: us) J.kIn len
  refine wpAny_call (make_map (f := f) I.kIn M.makes M.init (beq_iff_eq.mp M.fn) ?_)
  refine codeAny_mono (F.run _ X.stack _ _ ⟨Value.ref (s.heap.objs.size + 1) :: us, []⟩ _ _ _ E (hr.make C us []) (J.env0.make C us []) bb rr new) fun res s' back => ?_
  cases res with
  | error e => exact hx pins _ _ e s' J back
  | ok fl =>
    cases fl with
    | ret u =>
      obtain ⟨v, H', J', rv, ev, q⟩ := J.after back
      subst ev
      exact ⟨rv, ⟨V.ref (s.heap.objs.size + 1), H', J', rfl, q⟩⟩
    | next => exact back.elim
    | brk => exact back.elim
    | cont => exact back.elim
end

/-- the items of a list, each as an expression and as a test -/
inductive LOk (X : Cx) : MEs → List (TE × TT) → Prop
  | nil : LOk X .nil []
  | cons {e : ME} {r : MEs} {d : TE × TT} {ds : List (TE × TT)} (h : PE X (eE e) d.1) (t : PT X (eE e) d.2) (l : LOk X r ds) : LOk X (.cons e r) (d :: ds)
theorem LOk.pa {X : Cx} : ∀ {r : MEs} {ds : List (TE × TT)}, LOk X r ds → PA X (eEs r) (tAs ds)
  | _, _, .nil => pa_nil
  | _, _, .cons h _ l => pa_cons h l.pa (star_e _ _ _)
theorem LOk.andT {X : Cx} {p : Pos} : ∀ {r : MEs} {ds : List (TE × TT)}, LOk X r ds → PW X (.BoolOp .And (eEs r) p) (tAndT ds)
  | _, _, .nil => ⟨fun _ _ _ _ _ _ _ h => (show False from h).elim⟩
  | _, _, .cons _ t .nil => pw_and1 t
  | _, _, .cons _ t (.cons h' t' l) => pw_and t (LOk.andT (.cons h' t' l))
theorem LOk.orT {X : Cx} {p : Pos} : ∀ {r : MEs} {ds : List (TE × TT)}, LOk X r ds → PW X (.BoolOp .Or (eEs r) p) (tOrT' ds)
  | _, _, .nil => ⟨fun _ _ _ _ _ _ _ h => (show False from h).elim⟩
  | _, _, .cons _ t .nil => pw_or1 t
  | _, _, .cons _ t (.cons h' t' l) => pw_or t (LOk.orT (.cons h' t' l))
theorem tru_at {X : Cx} {pins : List (Addr × Obj)} {σ : L2.St} {H : Hp} {s : Shared} {x : V} {v : Value} {Q : Bool → Hp → Prop} (I : L2.Inv X pins σ H s) (r : L2.RelV x v) (q : rTru X.K x H Q) :
    wpAny (model X.prog X.w) X.A (truthy v) (TP X pins σ Q) X.xe s := tru_ok pins s σ H x v Q I r (rTru_of q)
theorem pt_ru {X : Cx} {m : ME} {t : TE} (h : PE X (eE m) t) (hp : plainT m = true) : PT X (eE m) (tRu X.K t) := by
  refine ⟨fun pins s σ H Q I hw => ?_⟩
  exact isTrue_plain (thn (h.run pins s σ H _ I hw) fun v s1 ⟨x, H1, I1, r1, q1⟩ => tru_at I1 r1 q1) (istrue_e m _ hp _)
theorem pe_not' {X : Cx} {a : Expr} {t : TE} {p : Pos} (h : PE X a t) : PE X (.UnaryOp .Not a p) (fun σ H Q => t σ H fun x H1 => rTru X.K x H1 fun k H2 => Q (.bl (!k)) H2) := by
  refine ⟨fun pins s σ H Q I hw => UnaryOp_ (thn (h.run pins s σ H _ I hw) fun v s1 ⟨x, H1, I1, r1, q1⟩ => not_of (thn (tru_at I1 r1 q1) fun c s2 ⟨H2, I2, q2⟩ => ⟨.bl (!c), H2, I2, rfl, q2⟩))⟩
/-- the truth of x, then x itself once more -/
theorem tru_keep {X : Cx} {pins : List (Addr × Obj)} {σ : L2.St} {H : Hp} {s : Shared} {x : V} {v : Value} {k : Bool} (I : L2.Inv X pins σ H s) (r : L2.RelV x v) (e : TruV X.K x H k) :
    wpAny (model X.prog X.w) X.A (truthy v) (fun c s2 => c = k ∧ L2.Inv X pins σ H s2) X.xe s :=
  thn (tru_ok pins s σ H x v (fun c H2 => c = k ∧ H2 = H) I r ⟨k, e, rfl, rfl⟩) fun c s2 ⟨H2, I2, e1, e2⟩ => ⟨e1, by rw [← e2]; exact I2⟩
theorem pe_and' {X : Cx} {a b : Expr} {rest : List Expr} {ta tb : TE} {p : Pos} (ha : PE X a ta) (hb : PE X (.BoolOp .And (b :: rest) p) tb) :
    PE X (.BoolOp .And (a :: b :: rest) p) (fun σ H Q => ta σ H fun x H1 => rTru X.K x H1 fun k H2 => if k = true then tb σ H2 Q else Q x H2) := by
  refine ⟨fun pins s σ H Q I hw => BoolOp_and (thn (ha.run pins s σ H _ I hw) fun v s1 ⟨x, H1, I1, r1, q1⟩ => ?_)⟩
  obtain ⟨k, e, q⟩ := rTru_of q1
  refine thn (tru_keep I1 r1 e) fun c s2 hc => ?_
  obtain ⟨rfl, I2⟩ := hc
  cases c with
  | true => exact hb.run pins s2 σ H1 Q I2 q
  | false => exact ⟨x, H1, I2, r1, q⟩
theorem pe_or' {X : Cx} {a b : Expr} {rest : List Expr} {ta tb : TE} {p : Pos} (ha : PE X a ta) (hb : PE X (.BoolOp .Or (b :: rest) p) tb) :
    PE X (.BoolOp .Or (a :: b :: rest) p) (fun σ H Q => ta σ H fun x H1 => rTru X.K x H1 fun k H2 => if k = true then Q x H2 else tb σ H2 Q) := by
  refine ⟨fun pins s σ H Q I hw => BoolOp_or (thn (ha.run pins s σ H _ I hw) fun v s1 ⟨x, H1, I1, r1, q1⟩ => ?_)⟩
  obtain ⟨k, e, q⟩ := rTru_of q1
  refine thn (tru_keep I1 r1 e) fun c s2 hc => ?_
  obtain ⟨rfl, I2⟩ := hc
  cases c with
  | true => exact ⟨x, H1, I2, r1, q⟩
  | false => exact hb.run pins s2 σ H1 Q I2 q
theorem LOk.andV {X : Cx} {p : Pos} : ∀ {r : MEs} {ds : List (TE × TT)}, LOk X r ds → PE X (.BoolOp .And (eEs r) p) (tAndVs X.K ds)
  | _, _, .nil => ⟨fun _ _ _ _ _ _ h => (show False from h).elim⟩
  | _, _, .cons h _ .nil => pe_one h
  | _, _, .cons h _ (.cons h' t' l) => pe_and' h (LOk.andV (.cons h' t' l))
theorem LOk.orV {X : Cx} {p : Pos} : ∀ {r : MEs} {ds : List (TE × TT)}, LOk X r ds → PE X (.BoolOp .Or (eEs r) p) (tOrVs X.K ds)
  | _, _, .nil => ⟨fun _ _ _ _ _ _ h => (show False from h).elim⟩
  | _, _, .cons h _ .nil => pe_one h
  | _, _, .cons h _ (.cons h' t' l) => pe_or' h (LOk.orV (.cons h' t' l))

/-! ### small rules of one's own -/
theorem un_neg' {X : Cx} : UnR X (unaryOp .USub) rNeg := fun pins s σ H x v Q I r q => by
  cases x with
  | int i => exact un_neg pins s σ H (.int i) v Q I r ⟨i, rfl, q⟩
  | _ => exact (show False from q).elim
theorem IxR.imp {X : Cx} {r r' : R2} (h : IxR X r) (hi : ∀ x y H Q, r' x y H Q → r x y H Q) : IxR X r' := by
  intro e1 e2 pins s σ H x y v u Q I r1 r2 q hs
  exact h e1 e2 pins s σ H x y v u Q I r1 r2 (hi x y H Q q) hs
theorem ix_sub {X : Cx} : IxR X (rSub X.K) := IxR.imp ix_seq fun x y H Q q => by
  unfold rSub at q
  split at q
  · obtain ⟨xs, v, h, e, q⟩ := q
    exact h.elim (fun h => .inl ⟨_, xs, _, v, rfl, rfl, h, e, q⟩) fun h => .inr (.inl ⟨_, xs, _, v, rfl, rfl, h, e, q⟩)
  · obtain ⟨hz, c, e, q⟩ := q
    exact .inr (.inr ⟨_, _, c, rfl, rfl, hz, e, q⟩)
  · exact q.elim
theorem att_ok {X : Cx} {Γ : Gam} {n : Nms} {k : Nat} {N : List Str} {sc st : Scope} {W : WX} (hX : Cok X Γ n k N sc st W) {e : Expr} {f : Str} {ta : TE} {p : Pos} (he : PE X e ta) (hb : attributeBase e f X.env (eval e X.env) = eval e X.env) :
    PE X (.Attribute e f p) (gAtt Γ ta f) := by
  refine ⟨fun pins s σ H Q I h => attr_of hb (thn (he.run pins s σ H _ I h) fun u s1 hh => ?_)⟩
  obtain ⟨x, H1, I1, rx, a, C, dx, fs, v, ex, ea, ht, l, q⟩ := hh
  obtain ⟨c, nn⟩ := hX.gam.att C f ht
  subst ex
  cases rx
  exact getattr_ok I1 ea c nn l fun w s2 I2 rw' => ⟨v, H1, I2, rw', q⟩

theorem lk {α : Type} {l : List (Str × α)} {ns : List Str} {i : Nat} {x : Str} (e : l.map (·.1) = ns) (h : ns[i]? = some x) : ∃ a, l[i]? = some (x, a) ∧ (x, a) ∈ l := by
  rw [← e, List.getElem?_map] at h
  cases q : l[i]? with
  | none => rw [q] at h; cases h
  | some p =>
    rw [q] at h
    obtain ⟨y, a⟩ := p
    have z : y = x := Option.some.inj h
    subst z
    exact ⟨a, rfl, List.mem_of_getElem? q⟩
section
variable {X : Cx} {Γ : Gam} {n : Nms} {k : Nat} {N : List Str} {sc st : Scope} {W : WX}
theorem gl_of (hX : Cok X Γ n k N sc st W) {x : Str} (h : okName sc x [.globalImplicit] = true) : Gl X x := by
  obtain ⟨q, hq, e⟩ := okName_ks h
  have z : q = .globalImplicit := by simpa using hq
  subst z
  show X.env.scope.names.lookup x = some .globalImplicit
  rw [hX.eSc]
  exact e
theorem vis_of (hX : Cok X Γ n k N sc st W) {x : Str} (h : okName sc x [.local, .cell, .free] = true) : Vis X.env.scope x := by
  obtain ⟨q, hq, e⟩ := okName_ks h
  rw [hX.eSc]
  simp only [List.mem_cons, List.not_mem_nil, or_false] at hq
  rcases hq with rfl | rfl | rfl
  · exact .inl e
  · exact .inr (.inl e)
  · exact .inr (.inr e)
theorem glo_ok (hX : Cok X Γ n k N sc st W) {i : Nat} {x : Str} {p : Pos} (h1 : n.glo[i]? = some x) (h2 : okName sc x [.globalImplicit] = true) :
    PE X (.Name x p) (fun _ H Q => match Γ.glo[i]? with | some (_, v) => Q v H | none => False) := by
  obtain ⟨v, e, hm⟩ := lk hX.gam.gloN h1
  obtain ⟨u, r, h⟩ := hX.gam.glo x v hm
  refine ⟨fun pins s σ H Q I q => ?_⟩
  rw [e] at q
  have q' : Q v H := q
  rcases h with h | ⟨h, hb, hn⟩
  · exact ld_glob I (gl_of hX h2) h ⟨v, H, I, r, q'⟩ (okName_db h2)
  · exact ld_blt I (gl_of hX h2) h hb ⟨v, H, I, r, q'⟩ hn (okName_db h2)
theorem ev_args {M : Model} {A : Around} {E : Value → Shared → Prop} {s : Shared} {f : Value} : ∀ {l : List (Bool × Sem Value)} {Q : Args → Shared → Prop}, l.any (·.1) = false → wpAny M A (spliced l) (fun vs s' => Q ⟨vs, []⟩ s') E s → wpAny M A (evalArgs f true l []) Q E s
  | [], Q, _, h => by
    unfold evalArgs
    show wpAny M A (spliced [] >>= _) Q E s
    exact wpAny_bind (wpAny_mono h (fun vs s' h' => wpAny_holding (wpAny_bind (wpAny_pure (wpAny_bind (wpAny_pure (wpAny_pure h')))))) fun _ _ x => x)
  | (false, x) :: r, Q, _, h => PySem.Calls.evalArgs_plain h
  | (true, x) :: r, Q, e, _ => by cases e
theorem cw_es {f : Value} {first : List Value} {es : MEs} {t : TA} {pins : List (Addr × Obj)} {s : Shared} {σ : L2.St} {H : Hp} {p : Pos} {R : List V → Hp → Prop} {Q : Value → Shared → Prop} (hk : PySem.W.keepIn X.K f = true) (ha : PA X (eEs es) t) (I : L2.Inv X pins σ H s) (h : t σ H R)
    (hf : ∀ (us : List Value) (s1 : Shared) (vs : List V) (H1 : Hp), L2.Inv X pins σ H1 s1 → Vals vs us → R vs H1 → wpAny (model X.prog X.w) X.A (call f (first ++ us)) Q X.xe s1) :
    wpAny (model X.prog X.w) X.A (callWith p f first (backTo p (starEach (eEs es) X.env)) (backToKw p (keywordEach [] X.env))) Q X.xe s := by
  refine PySem.W.callWith_of (by show ((backTo p (starEach (eEs es) X.env)).any (·.1) || false) = false; rw [plain_es]; rfl) (PySem.W.keeps_K hk) (ev_args (plain_es es X.env p) ?_)
  exact thn (ha.run p pins s σ H R I h) fun us s1 ⟨vs, H1, I1, rv, q⟩ => ⟨I1.kIn, hf us s1 vs H1 I1 rv q⟩
theorem dflt_ok {P : Program} {w : World} {K : Frag} {mg : Str → Option Value} {base : Heap} {e : FnE} (h : FnOkE P w K mg base e) (m : Nat) : Vals (dflt e m) (e.ds.drop (m + e.dvs.length - e.ps.length)) := Vals.drop _ h.vd
theorem call_ok (hX : Cok X Γ n k N sc st W) {i : Nat} {x : Str} {q p : Pos} {es : MEs} {t : TA} (h1 : n.fn[i]? = some x) (h2 : okName sc x [.globalImplicit] = true) (ha : PA X (eEs es) t) :
    PE X (.Call (.Name x q) (eEs es) [] p) (gCall Γ W i es.len t) := by
  obtain ⟨e, he, hm⟩ := lk hX.gam.fnN h1
  obtain ⟨F, hk, hg⟩ := hX.gam.fn x e hm
  refine ⟨fun pins s σ H Q I h => ?_⟩
  unfold gCall at h
  rw [he] at h
  have h' : t σ H fun vs H1 => e.sp (vs ++ dflt e es.len) H1 Q (fun c d H' => W c d σ H') := h
  have go : ∀ {us : List Value} {vs : List V} {H1 : Hp} {s1 : Shared}, L2.Inv X pins σ H1 s1 → Vals vs us → e.sp (vs ++ dflt e es.len) H1 Q (fun c d H' => W c d σ H') → wpAny (model X.prog X.w) X.A (call (.ref e.f) us) (EP X pins σ Q) X.xe s1 :=
    fun {us vs H1 s1} I1 r q => run_fnSD (E := fun σ => fun c d H' => W c d σ H') F.ok (hX.room.mono hk) (F.bd _) (dflt_ok F _) (passAt hX.tk σ) I1 r q
  refine wpAny_Call_Name_kw (ld_glob I (gl_of hX h2) hg ?_ (okName_db h2))
  exact cw_es (first := []) F.kp ha I h' fun us s1 vs H1 I1 rv q1 => go I1 rv q1
theorem make_ok (hX : Cok X Γ n k N sc st W) {i : Nat} {x : Str} {q p : Pos} {es : MEs} {t : TA} (h1 : n.cl[i]? = some x) (h2 : okName sc x [.globalImplicit] = true) (ha : PA X (eEs es) t) :
    PE X (.Call (.Name x q) (eEs es) [] p) (gMake Γ W i es.len t) := by
  obtain ⟨⟨C, e⟩, he, hm⟩ := lk hX.gam.clN h1
  obtain ⟨F, hk, M, hg⟩ := hX.gam.cl x C e hm
  refine ⟨fun pins s σ H Q I h => ?_⟩
  unfold gMake at h
  rw [he] at h
  refine wpAny_Call_Name_kw (ld_glob I (gl_of hX h2) hg ?_ (okName_db h2))
  refine cw_es (first := []) M.kp ha I (show t σ H _ from h) fun us s1 vs H1 I1 rv q1 => ?_
  exact mk_at (E := fun c d H' => W c d σ H') M F.ok (hX.room.mono hk) (F.bd _) (dflt_ok F _) (passAt hX.tk σ) I1 rv q1
theorem own_ok (hX : Cok X Γ n k N sc st W) {a : ME} {m : Str} {q p : Pos} {es : MEs} {ta : TE} {t : TA} (ho : PE X (eE a) ta) (hw : wE N n a sc = true) (hl : (q.endLine == p.line) = true) (h30 : es.len < 30) (ha : PA X (eEs es) t) :
    PE X (.Call (.Attribute (eE a) m q) (eEs es) [] p) (gOwn Γ W m es.len ta t) := by
  refine PE.orx fun C => PE.orx fun e => ⟨fun pins s σ H Q I h => ?_⟩
  obtain ⟨hm, h⟩ := h
  obtain ⟨F, hk, c, M⟩ := hX.gam.mt C m e hm
  refine PySem.W.methodCall_KW (thn (ho.run pins s σ H _ I h) fun u s1 hh => ?_) (mcall_own (abase a hw m X.env) (form_es es X.env p h30) hl)
  obtain ⟨x, H1, I1, rx, b, dx, fs, ex, ea, l, q1⟩ := hh
  subst ex
  cases rx
  refine getmeth_ok I1 ea c M l ?_
  refine cw_es (first := [.ref b]) M.kp ha I1 q1 fun us s2 vs H2 I2 rv q2 => ?_
  exact run_fnSD (us := .ref b :: us) (vs := .ref b :: vs) (E := fun σ => fun c d H' => W c d σ H') F.ok (hX.room.mono hk) (F.bd _) (dflt_ok F _) (passAt hX.tk σ) I2 (.cons rfl rv) q2
/-! ### calls with keywords -/
theorem LOk.pk {ks : List (Str × Pos)} : ∀ {r : MEs} {ds : List (TE × TT)}, LOk X r ds → ks.length = r.len → PK X (eKs r ks) (tAs ds) := by
  intro r ds l
  induction l generalizing ks with
  | nil => intro _; exact pk_nil
  | cons h t l ih =>
    intro hl
    cases ks with
    | nil => cases hl
    | cons k ks => exact pk_cons h (ih (Nat.succ.inj hl))
theorem cw_ks {f : Value} {first : List Value} {es ws : MEs} {ks : List (Str × Pos)} {ds : List (TE × TT)} {tk : TA} {pins : List (Addr × Obj)} {s : Shared} {σ : L2.St} {H : Hp} {p : Pos} {R : List V → List V → Hp → Prop} {Q : Value → Shared → Prop} (hk : PySem.W.keepIn X.K f = true) (ha : LOk X es ds) (hw : PK X (eKs ws ks) tk) (hl : ks.length = ws.len)
    (I : L2.Inv X pins σ H s) (h : tAs ds σ H fun vs H1 => tk σ H1 fun zs H2 => R vs zs H2)
    (hf : ∀ (us uw : List Value) (s1 : Shared) (vs zs : List V) (H1 : Hp), L2.Inv X pins σ H1 s1 → Vals vs us → Vals zs uw → R vs zs H1 → wpAny (model X.prog X.w) X.A (call f (first ++ us) ((ks.map (·.1)).zip uw)) Q X.xe s1) :
    wpAny (model X.prog X.w) X.A (callWith p f first (backTo p (starEach (eEs es) X.env)) (backToKw p (keywordEach (eKs ws ks) X.env))) Q X.xe s := by
  cases ha with
  | nil =>
    have h' : tk σ H fun zs H2 => R [] zs H2 := h
    refine PySem.W.callWith_KW0 (h₀ := X.base) I.ok.mod.kin hk (kw_some p X.env ws ks) (thn (hw.run p pins s σ H _ I h') fun uw s2 hh => ?_) (by
      show (([] : List (Bool × Sem Value)).any (·.1) || _) = false
      rw [kw_none]; rfl)
    obtain ⟨zs, H2, I2, rz, q2⟩ := hh
    refine ⟨I2.kIn, ?_⟩
    rw [kw_names p X.env ws ks hl]
    exact hf [] uw s2 [] zs H2 I2 .nil rz q2
  | @cons e r d ds' he te l =>
    have ha := (LOk.cons he te l).pa
    refine PySem.W.callWith_KW (h₀ := X.base) I.ok.mod.kin hk (kw_some p X.env ws ks) (thn (ha.run p pins s σ H _ I h) fun us s1 hh => ?_) (by
      show ((backTo p (starEach (eEs (.cons e r)) X.env)).any (·.1) || _) = false
      rw [plain_es, kw_none]; rfl) (star_e e _ _)
    obtain ⟨vs, H1, I1, rv, q⟩ := hh
    refine thn (hw.run p pins s1 σ H1 _ I1 q) fun uw s2 hh => ?_
    obtain ⟨zs, H2, I2, rz, q2⟩ := hh
    refine ⟨I2.kIn, ?_⟩
    rw [kw_names p X.env ws ks hl]
    exact hf us uw s2 vs zs H2 I2 rv rz q2
theorem fn_kw {e : FnE} {m : Nat} {ks : List Str} {gV : List V → List V → List V} {pins : List (Addr × Obj)} {σ : L2.St} {H : Hp} {s : Shared} {Q : VK} {us uw : List Value} {vs zs : List V} (hX : Cok X Γ n k N sc st W) (F : FnOkE X.prog X.w X.K X.mg X.base e) (hk : e.k ≤ k) {j : Nat} (hj : e.kb[j]? = some (m, ks, gV))
    (I : L2.Inv X pins σ H s) (r : Vals vs us) (rz : Vals zs uw) (l1 : vs.length = m) (l2 : zs.length = ks.length) (h : e.sp (gV vs zs) H Q (fun c d H' => W c d σ H')) : wpAny (model X.prog X.w) X.A (call (.ref e.f) us (ks.zip uw)) (EP X pins σ Q) X.xe s := by
  obtain ⟨g, hb⟩ := F.kb _ (List.mem_of_getElem? hj)
  have r2 := hb.rel r rz
  refine wpAny_call (codeAny_mono (F.ok.run X.A X.stack s H ⟨us, ks.zip uw⟩ (g us uw) (gV vs zs) Q (fun c d H' => W c d σ H') (hX.room.mono hk) I.env0 (hb.to s us uw I.kIn (r.length.symm.trans l1) (rz.length.symm.trans l2)) r2 h) fun res s2 back => ?_)
  cases res with
  | error u => exact passAt hX.tk σ pins H s u s2 I back
  | ok fl =>
    cases fl with
    | ret u => exact I.after back
    | next => exact back.elim
    | brk => exact back.elim
    | cont => exact back.elim
theorem mk_kw {e : FnE} {C : Addr} {m : Nat} {ks : List Str} {gV : List V → List V → List V} {pins : List (Addr × Obj)} {σ : L2.St} {H : Hp} {s : Shared} {Q : VK} {us uw : List Value} {vs zs : List V} (hX : Cok X Γ n k N sc st W) (F : FnOkE X.prog X.w X.K X.mg X.base e) (hk : e.k + 1 ≤ k) (M : Mk X.K C e.f) {j : Nat} (hj : e.kb[j]? = some (m + 1, ks, gV))
    (I : L2.Inv X pins σ H s) (r : Vals vs us) (rz : Vals zs uw) (l1 : vs.length = m) (l2 : zs.length = ks.length)
    (h : ∀ x dx, H x = none → H dx = none → dx ≠ x → e.sp (gV (.ref x :: vs) zs) (upd (upd H dx (.own x)) x (.ins C dx [])) (fun v H2 => v = .non ∧ Q (.ref x) H2) (fun c d H' => W c d σ H')) :
    wpAny (model X.prog X.w) X.A (call (.ref C) us (ks.zip uw)) (EP X pins σ Q) X.xe s := by
  obtain ⟨g, hb⟩ := F.kb _ (List.mem_of_getElem? hj)
  have new := h (s.heap.objs.size + 1) s.heap.objs.size (I.hok.fresh (Nat.le_succ _)) (I.hok.fresh (Nat.le_refl _)) (Nat.ne_of_lt (Nat.lt_succ_self _))
  have J := L2.Inv.made (C := C) I
  have rr : Vals (V.ref (s.heap.objs.size + 1) :: vs) (Value.ref (s.heap.objs.size + 1) :: us) := .cons rfl r
  have r2 := hb.rel rr rz
  have b2 := hb.to _ (Value.ref (s.heap.objs.size + 1) :: us) uw J.kIn (rr.length.symm.trans (congrArg Nat.succ l1)) (rz.length.symm.trans l2)
  refine wpAny_call (make_map (f := e.f) I.kIn M.makes M.init (beq_iff_eq.mp M.fn) ?_)
  refine codeAny_mono (F.ok.run _ X.stack _ _ ⟨Value.ref (s.heap.objs.size + 1) :: us, ks.zip uw⟩ _ _ _ (fun c d H' => W c d σ H') ((hX.room.mono hk).make C us (ks.zip uw)) (J.env0.make C us (ks.zip uw)) b2 r2 new) fun res s2 back => ?_
  cases res with
  | error u => exact passAt hX.tk σ pins _ _ u s2 J back
  | ok fl =>
    cases fl with
    | ret u =>
      obtain ⟨v, H', J', rv, ev, q⟩ := J.after back
      subst ev
      exact ⟨rv, ⟨V.ref (s.heap.objs.size + 1), H', J', rfl, q⟩⟩
    | next => exact back.elim
    | brk => exact back.elim
    | cont => exact back.elim
theorem callK_ok (hX : Cok X Γ n k N sc st W) {i j : Nat} {x : Str} {q p : Pos} {es ws : MEs} {ks : List (Str × Pos)} {ds dw : List (TE × TT)} (h1 : n.fn[i]? = some x) (h2 : okName sc x [.globalImplicit] = true) (ha : LOk X es ds) (hw : LOk X ws dw) (hl : ks.length = ws.len) :
    PE X (.Call (.Name x q) (eEs es) (eKs ws ks) p) (gCallK Γ W i j es.len (ks.map (·.1)) (tAs ds) (tAs dw)) := by
  obtain ⟨e, he, hm⟩ := lk hX.gam.fnN h1
  obtain ⟨F, hk, hg⟩ := hX.gam.fn x e hm
  refine ⟨fun pins s σ H Q I h => ?_⟩
  unfold gCallK at h
  rw [he] at h
  obtain ⟨gV, hj, h⟩ := h
  refine wpAny_Call_Name_kw (ld_glob I (gl_of hX h2) hg ?_ (okName_db h2))
  refine cw_ks (first := []) F.kp ha (hw.pk hl) hl I h fun us uw s1 vs zs H1 I1 rv rz q1 => ?_
  exact fn_kw hX F hk hj I1 rv rz q1.1 q1.2.1 q1.2.2
theorem makeK_ok (hX : Cok X Γ n k N sc st W) {i j : Nat} {x : Str} {q p : Pos} {es ws : MEs} {ks : List (Str × Pos)} {ds dw : List (TE × TT)} (h1 : n.cl[i]? = some x) (h2 : okName sc x [.globalImplicit] = true) (ha : LOk X es ds) (hw : LOk X ws dw) (hl : ks.length = ws.len) :
    PE X (.Call (.Name x q) (eEs es) (eKs ws ks) p) (gMakeK Γ W i j es.len (ks.map (·.1)) (tAs ds) (tAs dw)) := by
  obtain ⟨⟨C, e⟩, he, hm⟩ := lk hX.gam.clN h1
  obtain ⟨F, hk, M, hg⟩ := hX.gam.cl x C e hm
  refine ⟨fun pins s σ H Q I h => ?_⟩
  unfold gMakeK at h
  rw [he] at h
  obtain ⟨gV, hj, h⟩ := h
  refine wpAny_Call_Name_kw (ld_glob I (gl_of hX h2) hg ?_ (okName_db h2))
  refine cw_ks (first := []) M.kp ha (hw.pk hl) hl I h fun us uw s1 vs zs H1 I1 rv rz q1 => ?_
  exact mk_kw hX F hk M hj I1 rv rz q1.1 q1.2.1 q1.2.2
theorem ownK_ok (hX : Cok X Γ n k N sc st W) {j : Nat} {a : ME} {m : Str} {q p : Pos} {es ws : MEs} {ks : List (Str × Pos)} {ta : TE} {ds dw : List (TE × TT)} (ho : PE X (eE a) ta) (hw : wE N n a sc = true) (hl : (q.endLine == p.line) = true) (h30 : es.len + ws.len < 29) (ha : LOk X es ds) (hk' : LOk X ws dw) (hlk : ks.length = ws.len) :
    PE X (.Call (.Attribute (eE a) m q) (eEs es) (eKs ws ks) p) (gOwnK Γ W j m es.len (ks.map (·.1)) ta (tAs ds) (tAs dw)) := by
  refine PE.orx fun C => PE.orx fun e => PE.orx fun gV => ⟨fun pins s σ H Q I h => ?_⟩
  obtain ⟨hm, hj, h⟩ := h
  obtain ⟨F, hk, c, M⟩ := hX.gam.mt C m e hm
  refine PySem.W.methodCall_KW (thn (ho.run pins s σ H _ I h) fun u s1 hh => ?_) (mcall_ownK (abase a hw m X.env) (form_ks es ws ks X.env p h30 hlk) hl)
  obtain ⟨x, H1, I1, rx, b, dx, fs, ex, ea, l, q1⟩ := hh
  subst ex
  cases rx
  refine getmeth_ok I1 ea c M l ?_
  refine cw_ks (first := [.ref b]) F.kp ha (hk'.pk hlk) hlk I1 q1 fun us uw s2 vs zs H2 I2 rv rz q2 => ?_
  exact fn_kw (us := .ref b :: us) (vs := .ref b :: vs) hX F hk hj I2 (.cons rfl rv) rz (congrArg Nat.succ q2.1) q2.2.1 q2.2.2
end
end Rf
namespace Rf
open PySem PySem.Spec PyProof.Rows L2
section
variable {X : Cx} {Γ : Gam} {n : Nms} {k : Nat} {N : List Str} {sc st : Scope} {W : WX}
theorem MtR.imp {id : String} {r r' : V → List V → Hp → VK → Prop} (h : MtR X id r) (hi : ∀ x xs H Q, r' x xs H Q → r x xs H Q) : MtR X id r' :=
  fun pins s σ H x xs v us Q I r1 r2 q => h pins s σ H x xs v us Q I r1 r2 (hi x xs H Q q)
theorem bm_ok (m : BM) {o e : Expr} {to te : TE} {q p : Pos} (ho : PE X o to) (he : PE X e te) (hb : attributeBase o m.name X.env (eval o X.env) = eval o X.env) (hs : starEach [e] X.env = [(false, eval e X.env)]) (hl : (q.endLine == p.line) = true) :
    PE X (.Call (.Attribute o m.name q) [e] [] p) (tBM X.K "list" (bmR X.K m) to (tCons te tNil)) := by
  have ha : PA X [e] (tCons te tNil) := pa_cons he pa_nil hs
  have hf : ((backTo p (starEach [e] X.env)).all (fun x => !x.1) && (backToKw p (keywordEach [] X.env)).all (fun x => x.1.isSome) && decide (([e] : List Expr).length + ([] : List Keyword).length + (if ([] : List Keyword).isEmpty then 0 else 1) < 30)) = true := by rw [hs]; rfl
  cases m with
  | append =>
    refine pe_bm PySem.F.plainAttrs_list PySem.F.slot_list_append PySem.F.type_list_append (MtR.imp mt_append fun x xs H Q h => ?_) ho ha hb hf hl hs rfl
    match xs, h with
    | [y], ⟨l, ys, e1, e2, e3, q⟩ => exact ⟨l, ys, y, e1, rfl, e2, e3, q⟩
  | index =>
    refine pe_bm PySem.F.plainAttrs_list PySem.F.slot_list_index PySem.F.type_list_index (MtR.imp mt_index fun x xs H Q h => ?_) ho ha hb hf hl hs rfl
    match xs, h with
    | [y], h => exact h
  | extend =>
    refine pe_bm PySem.F.plainAttrs_list PySem.F.slot_list_extend PySem.F.type_list_extend (MtR.imp mt_extend fun x xs H Q h => ?_) ho ha hb hf hl hs rfl
    match xs, h with
    | [y], h => exact h
  | count =>
    refine pe_bm PySem.F.plainAttrs_list PySem.F.slot_list_count PySem.F.type_list_count (MtR.imp mt_countF fun x xs H Q h => ?_) ho ha hb hf hl hs rfl
    match xs, h with
    | [y], h => exact h
/-- a list or a tuple is walked -/
theorem val_ok {tg l : Expr} {tl : TE} (hl : PE X l tl) : PI X tg l (iVal X.K tl) := by
  refine ⟨fun pins s σ H R I h => ?_⟩
  have once : PE X l (fun σ' H' Q' => σ' = σ ∧ H' = H ∧ tl σ H Q') := ⟨fun pins s σ' H' Q' I' h' => by
    obtain ⟨e1, e2, h'⟩ := h'
    subst e1 e2
    exact hl.run pins s σ' H' Q' I' h'⟩
  refine thn (hl.run pins s σ H _ I h) fun v s1 ⟨x, H1, I1, r1, q1⟩ => ?_
  cases x with
  | ref a =>
    cases r1
    rcases q1 with ⟨xs, hq, q⟩ | ⟨xs, hq, q⟩
    · obtain ⟨its, rv, pl, hz⟩ := I1.list hq
      refine wpAny_pyIter_list pl.isList ⟨s1.heap.objs.size, [s1.heap.objs.size], _, _, H1, rfl, I1.kept (t' := s1.toks) fun b o e => Heap.get?_push_of_some _ e, turn_list a _, ⟨_, Heap.get?_push_size _ rfl, rfl, rfl⟩, fun b hb => ?_, q⟩
      obtain rfl : b = s1.heap.objs.size := by simpa using hb
      exact I1.fpOk (Nat.le_refl _) (I1.hok.fresh (Nat.le_refl _))
    · obtain ⟨its, rv, pl, hz⟩ := I1.tuple hq
      refine wpAny_pyIter_tuple (show s1.heap.IsTuple a its.toArray from pl) ⟨s1.heap.objs.size, [s1.heap.objs.size], _, _, H1, rfl, I1.kept (t' := s1.toks) fun b o e => Heap.get?_push_of_some _ e, turn_tuple a _, ⟨_, Heap.get?_push_size _ rfl, rfl, rfl⟩, fun b hb => ?_, q⟩
      obtain rfl : b = s1.heap.objs.size := by simpa using hb
      exact I1.fpOk (Nat.le_refl _) (I1.hok.fresh (Nat.le_refl _))
  | _ => exact (show False from q1).elim
/-- a comprehension's block -/
theorem Cok.blk (hX : Cok X Γ n k N sc st W) {scope : Scope} (s : Shared) (H : Hp) (C : Addr) (cl : List (Str × Addr)) (fp : List Addr) :
    Cok (X.blk s H scope (compEnvC scope cl C X.env) fp) Γ n k N (relS scope sc) scope (fun _ _ _ _ => False) := by
  refine ⟨hX.eN, hX.nd, ?_, hX.calm, hX.room, hX.gam, ?_, ?_, PassesOwn.never, hX.lm⟩
  · show relS scope X.env.scope = _
    rw [hX.eSc]
  · intro u s' h
    obtain ⟨_, _, _, _, _, _, _, _, _, _, _, _, _, _, _, _, z⟩ := h
    exact z.elim
  · intro x hx
    rcases hx with h | h
    · have h' := lookup_relS_keep (sc := sc) (by decide) h
      exact ⟨.inl h', .inr h'⟩
    · have h' := lookup_relS_keep (sc := sc) (by decide) h
      exact ⟨.inr h', .inl (by show (scope.names.lookup x == some NameKind.cell) = true; rw [h]; rfl)⟩
/-- the body of a lambda -/
theorem Cok.lam (hX : Cok X Γ n k N sc st W) {j : Nat} (hj : k ≤ j) {scope : Scope} (L : LamX.LamS X.env.scope scope) (A : Around) (outer : List Env) (s : Shared) (H : Hp) (E : XK) (f c' : Addr) (hr : Room j (A.deeper (LamX.lamEnv X scope s.heap.objs.size f c'))) :
    Cok (LamX.lamCx X A outer s H E scope f c') Γ { n with lq := none } k N scope scope (fun c d _ H => E c d H) where
  eN := hX.eN
  nd := hX.nd
  eSc := rfl
  calm := rfl
  room := hr.mono hj
  gam := hX.gam.noLq
  tk := takes_of rfl rfl rfl rfl
  lcl := fun x h => ⟨h, h.elim (fun h => absurd rfl (L.own _ (PySem.mem_of_lookup h)).1) fun h => absurd rfl (L.own _ (PySem.mem_of_lookup h)).2⟩
  pas := passes_of rfl
  lm := fun q h => nomatch h
theorem lam_ok (hX : Cok X Γ n k N sc st W) {i : Nat} {x : Str} {q lp p : Pos} {scope : Scope} {body : Expr} {t : XK → TE} (h1 : n.lam[i]? = some x) (h2 : okName sc x [.globalImplicit] = true) (h3 : n.lq.isSome = true) (h4 : LamX.lamSB sc scope = true)
    (hb : ∀ (A : Around) (outer : List Env) (s : Shared) (H : Hp) (E : XK) (f c' : Addr), Room k (A.deeper (LamX.lamEnv X scope s.heap.objs.size f c')) → PE (LamX.lamCx X A outer s H E scope f c') body (t E)) :
    PE X (.Call (.Name x q) [.Lambda ⟨[], [], none, [], [], none, []⟩ body scope lp] [] p) (gLam Γ i t) := by
  obtain ⟨TT, e, hm⟩ := lk hX.gam.lamN h1
  obtain ⟨ql, hq⟩ := Option.isSome_iff_exists.mp h3
  obtain ⟨eq, hr, c, tb, hc, hT, hin, hu⟩ := hX.lm ql hq
  subst eq
  have key := hX.gam.lam x TT hm X rfl rfl rfl rfl rfl Γ.tb c tb body scope t q lp p (gl_of hX h2) hT hc hin hu hr (by rw [hX.eSc]; exact LamX.lamS_by h4) hb
  refine ⟨fun pins s σ H Q I h => key.run pins s σ H Q I ?_⟩
  unfold gLam at h
  rw [e] at h
  exact h
end
end Rf
namespace Rf
open PySem PySem.Spec PyProof.Rows L2

theorem two {X : Cx} {m : ME} {t : TE} (h : PE X (eE m) t) (hp : plainT m = true) : PE X (eE m) (tOfTE X.K t).1 ∧ PT X (eE m) (tOfTE X.K t).2 := ⟨h, pt_ru h hp⟩
theorem blt_of {X : Cx} {Γ : Gam} {n : Nms} {k : Nat} {N : List Str} {sc st : Scope} {W : WX} (hX : Cok X Γ n k N sc st W) {x : Str} (h : okBlt n sc x = true) : Gl X x ∧ X.mg x = none ∧ x ≠ "__name__" ∧ (x == ("__debug__" : Str)) = false := by
  unfold okBlt at h
  simp only [Bool.and_eq_true] at h
  exact ⟨gl_of hX h.2, hX.gam.blt x (by simpa using h.1), okName_nm h.2, okName_db h.2⟩
theorem callB_ok {X : Cx} {Γ : Gam} {n : Nms} {k : Nat} {N : List Str} {sc st : Scope} {W : WX} (hX : Cok X Γ n k N sc st W) {b : BF} {q p : Pos} {e : ME} {es : MEs} {t : TA} (h : okBlt n sc b.name = true) (ha : PA X (eE e :: eEs es) t) :
    PE X (.Call (.Name b.name q) (eE e :: eEs es) [] p) (tCB (b.r X.K) t) := by
  obtain ⟨hg, hm, hn, hd⟩ := blt_of hX h
  have hok := BF.ok hX.calm b
  have hbo := BF.boot b
  have hs := star_e e (eEs es) X.env
  have hp := plain_es es X.env p
  generalize hv : b.val = v at hok hbo
  cases v with
  | builtin id => exact pe_callB hok hg hm hbo ha hn hd hs hp
  | type T => exact pe_callTy hok hg hm hbo ha hn hd hs hp
  | _ => cases b <;> cases hv
theorem boot_repr : bootBuiltins "repr" = some (.builtin "repr") := by decide +kernel
theorem LOk.pj {X : Cx} : ∀ {r : MEs} {ds : List (TE × TT)}, LOk X r ds → PJ X (eEs r) (ds.map (·.1))
  | _, _, .nil => .nil
  | _, _, .cons h _ l => .cons h l.pj
theorem LOk.joined {X : Cx} {p : Pos} {r : MEs} {ds : List (TE × TT)} (l : LOk X r ds) (h : 2 ≤ r.len) : PE X (.JoinedStr (eEs r) p) (fun σ H Q => tJs (ds.map (·.1)) Str.empty σ H fun out H1 => Q (.str out) H1) := by
  cases l with
  | nil => cases h
  | cons h1 t1 l1 =>
    cases l1 with
    | nil => exact absurd h (by show ¬ 2 ≤ 1; decide)
    | cons h2 t2 l2 => exact pe_joined (.cons h1 (.cons h2 l2.pj))
mutual
theorem sE (Γ : Gam) (N : List Str) : ∀ (m : ME) {n : Nms} {X : Cx} {k : Nat} {sc st : Scope} {W : WX}, Cok X Γ n k N sc st W → wE N n m sc = true → PE X (eE m) (dE Γ X.K m W).1 ∧ PT X (eE m) (dE Γ X.K m W).2
  | .var i x p, n, X, k, sc, st, W, hX, h => by
    simp only [wE, Bool.and_eq_true, decide_eq_true_eq] at h
    exact two (m := .var i x p) (pe_var (by rw [hX.eN]; exact h.1) (vis_of hX h.2) (okName_db h.2) (okName_cd h.2)) rfl
  | .non k' p, n, X, k, sc, st, W, hX, h => two (m := .non k' p) pe_non rfl
  | .bl b k' p, n, X, k, sc, st, W, hX, h => two (m := .bl b k' p) pe_bl rfl
  | .int i k' p, n, X, k, sc, st, W, hX, h => two (m := .int i k' p) pe_int rfl
  | .str s k' p, n, X, k, sc, st, W, hX, h => two (m := .str s k' p) pe_str rfl
  | .glo i x p, n, X, k, sc, st, W, hX, h => by
    simp only [wE, Bool.and_eq_true, decide_eq_true_eq] at h
    exact two (m := .glo i x p) (glo_ok hX h.1 h.2) rfl
  | .bin a op b p, n, X, k, sc, st, W, hX, h => by
    simp only [wE, Bool.and_eq_true] at h
    exact two (m := .bin a op b p) (pe_op (op_bin op) (sE Γ N a hX h.1).1 (sE Γ N b hX h.2).1) rfl
  | .neg a p, n, X, k, sc, st, W, hX, h => by
    simp only [wE] at h
    exact two (m := .neg a p) (pe_un un_neg' (sE Γ N a hX h).1) rfl
  | .not a p, n, X, k, sc, st, W, hX, h => by
    simp only [wE] at h
    exact ⟨pe_not' (sE Γ N a hX h).1, pt_not (sE Γ N a hX h).2⟩
  | .cmp a op b p, n, X, k, sc, st, W, hX, h => by
    simp only [wE, Bool.and_eq_true] at h
    exact ⟨pe_cmpR (op_cmp hX op) (sE Γ N a hX h.1).1 (sE Γ N b hX h.2).1 (nomarkE op b), pt_cmpR (op_cmp hX op) (sE Γ N a hX h.1).1 (sE Γ N b hX h.2).1 (nomarkE op b)⟩
  | .cmp2 a op b op2 c p, n, X, k, sc, st, W, hX, h => by
    simp only [wE, Bool.and_eq_true] at h
    exact ⟨pe_chain (op_cmp hX op) (op_cmp hX op2) (sE Γ N a hX h.1.1).1 (sE Γ N b hX h.1.2).1 (sE Γ N c hX h.2).1 (nomarkE op2 c), pt_chain (op_cmp hX op) (op_cmp hX op2) (sE Γ N a hX h.1.1).1 (sE Γ N b hX h.1.2).1 (sE Γ N c hX h.2).1 (nomarkE op2 c)⟩
  | .and es p, n, X, k, sc, st, W, hX, h => by
    simp only [wE] at h
    have l := sEs Γ N es hX h
    exact ⟨l.andV, l.andT.pt⟩
  | .or es p, n, X, k, sc, st, W, hX, h => by
    simp only [wE] at h
    have l := sEs Γ N es hX h
    exact ⟨l.orV, l.orT.pt⟩
  | .tup es k' p, n, X, k, sc, st, W, hX, h => by
    simp only [wE] at h
    exact two (m := .tup es k' p) (pe_tup (sEs Γ N es hX h).pa) rfl
  | .lst es p, n, X, k, sc, st, W, hX, h => by
    simp only [wE] at h
    exact two (m := .lst es p) (pe_lst (sEs Γ N es hX h).pa) rfl
  | .dic0 p, n, X, k, sc, st, W, hX, h => two (m := .dic0 p) (PE.imp pe_dnewK fun σ H Q q => q) rfl
  | .sub a i p, n, X, k, sc, st, W, hX, h => by
    simp only [wE, Bool.and_eq_true] at h
    exact two (m := .sub a i p) (pe_ix ix_sub (sE Γ N a hX h.1).1 (sE Γ N i hX h.2).1 (plainIx i)) rfl
  | .att a f p, n, X, k, sc, st, W, hX, h => by
    simp only [wE] at h
    exact two (m := .att a f p) (att_ok hX (sE Γ N a hX h).1 (abase a h f X.env)) rfl
  | .call i x q es p, n, X, k, sc, st, W, hX, h => by
    simp only [wE, Bool.and_eq_true, decide_eq_true_eq] at h
    exact two (m := .call i x q es p) (call_ok hX h.1.1 h.1.2 (sEs Γ N es hX h.2).pa) rfl
  | .make i x q es p, n, X, k, sc, st, W, hX, h => by
    simp only [wE, Bool.and_eq_true, decide_eq_true_eq] at h
    exact two (m := .make i x q es p) (make_ok hX h.1.1 h.1.2 (sEs Γ N es hX h.2).pa) rfl
  | .blt b q e es p, n, X, k, sc, st, W, hX, h => by
    simp only [wE, Bool.and_eq_true] at h
    have he := sE Γ N e hX h.1.2
    have hl := sEs Γ N es hX h.2
    exact two (m := .blt b q e es p) (callB_ok hX h.1.1 (pa_cons he.1 hl.pa (star_e e _ _))) rfl
  | .rep q e p, n, X, k, sc, st, W, hX, h => by
    simp only [wE, Bool.and_eq_true] at h
    obtain ⟨hg, hm, hn, hd⟩ := blt_of hX h.1
    exact two (m := .rep q e p) (pe_callB (call_rep hX) hg hm boot_repr (pa_cons (sE Γ N e hX h.2).1 pa_nil (star_e e [] _)) hn hd (star_e e [] X.env)) rfl
  | .fmt e p, n, X, k, sc, st, W, hX, h => by
    simp only [wE] at h
    exact two (m := .fmt e p) (pe_fmt (sE Γ N e hX h).1) rfl
  | .fst es p, n, X, k, sc, st, W, hX, h => by
    simp only [wE, Bool.and_eq_true, decide_eq_true_eq] at h
    exact two (m := .fst es p) (LOk.joined (sEs Γ N es hX h.1) h.2) rfl
  | .own a m q es p, n, X, k, sc, st, W, hX, h => by
    simp only [wE, Bool.and_eq_true, decide_eq_true_eq] at h
    exact two (m := .own a m q es p) (own_ok hX (sE Γ N a hX h.1.1.1).1 h.1.1.1 h.1.2 h.2 (sEs Γ N es hX h.1.1.2).pa) rfl
  | .bm m a q e p, n, X, k, sc, st, W, hX, h => by
    simp only [wE, Bool.and_eq_true] at h
    exact two (m := .bm m a q e p) (bm_ok m (sE Γ N a hX h.1.1).1 (sE Γ N e hX h.1.2).1 (abase a h.1.1 m.name X.env) (star_e e [] X.env) h.2) rfl
  | .callK i j x q es ks ws p, n, X, k, sc, st, W, hX, h => by
    simp only [wE, Bool.and_eq_true, decide_eq_true_eq] at h
    obtain ⟨⟨⟨⟨h1, h2⟩, h3⟩, h4⟩, h5⟩ := h
    exact two (m := .callK i j x q es ks ws p) (callK_ok hX h1 h2 (sEs Γ N es hX h3) (sEs Γ N ws hX h4) h5) rfl
  | .makeK i j x q es ks ws p, n, X, k, sc, st, W, hX, h => by
    simp only [wE, Bool.and_eq_true, decide_eq_true_eq] at h
    obtain ⟨⟨⟨⟨h1, h2⟩, h3⟩, h4⟩, h5⟩ := h
    exact two (m := .makeK i j x q es ks ws p) (makeK_ok hX h1 h2 (sEs Γ N es hX h3) (sEs Γ N ws hX h4) h5) rfl
  | .ownK j a m q es ks ws p, n, X, k, sc, st, W, hX, h => by
    simp only [wE, Bool.and_eq_true, decide_eq_true_eq] at h
    obtain ⟨⟨⟨⟨⟨h1, h2⟩, h3⟩, h4⟩, h5⟩, h6⟩ := h
    exact two (m := .ownK j a m q es ks ws p) (ownK_ok hX (sE Γ N a hX h1).1 h1 h5 h6 (sEs Γ N es hX h2) (sEs Γ N ws hX h3) h4) rfl
  | .lam i x q body scope lp p, n, X, k, sc, st, W, hX, h => by
    simp only [wE, Bool.and_eq_true, decide_eq_true_eq] at h
    obtain ⟨⟨⟨⟨h1, h2⟩, h3⟩, h4⟩, h5⟩ := h
    have L : LamX.LamS X.env.scope scope := by rw [hX.eSc]; exact LamX.lamS_by h4
    exact two (m := .lam i x q body scope lp p) (lam_ok hX (t := fun E => (dE Γ X.K body (fun c d _ H => E c d H)).1) h1 h2 h3 h4 fun A outer s H E f c' hr => (sE Γ N body (hX.lam (Nat.le_refl k) L A outer s H E f c' hr) h5).1) rfl
  | .lc elt tg it ifs own scope p, n, X, k, sc, st, W, hX, h => by
    simp only [wE, Bool.and_eq_true, decide_eq_true_eq] at h
    obtain ⟨⟨⟨⟨⟨⟨h1, h2⟩, h3⟩, h4⟩, h5⟩, h6⟩, h7⟩ := h
    refine two (m := .lc elt tg it ifs own scope p) ?_ rfl
    have hN : X.N.Nodup := by rw [hX.eN]; exact hX.nd
    have hI : PI X (eT tg) (eI it) (dI Γ X.K it W) := sI Γ N it hX h1 tg h2
    refine pe_lc hX.calm hN hI (blkOk_by (by rw [hX.eN, hX.eSc]; exact h3)) (fun s H C cl fp => (sT Γ N tg (hX.blk s H C cl fp) h4)) (fun s H C cl fp => ?_) (fun s H C cl fp => (sE Γ N elt (hX.blk s H C cl fp) h7).1) (fun x => nofoldI it _ x)
    have l := sEs Γ N ifs (hX.blk s H C cl fp) h5
    revert l
    generalize dEs Γ X.K ifs (fun _ _ _ _ => False) = ds
    intro l
    cases l with
    | nil => exact pts_nil
    | cons a b l' =>
      cases l' with
      | nil => exact pts_one b
      | cons a' b' l'' => exact absurd h6 (by simp [MEs.len])
theorem sEs (Γ : Gam) (N : List Str) : ∀ (r : MEs) {n : Nms} {X : Cx} {k : Nat} {sc st : Scope} {W : WX}, Cok X Γ n k N sc st W → wEs N n r sc = true → LOk X r (dEs Γ X.K r W)
  | .nil, n, X, k, sc, st, W, hX, h => .nil
  | .cons e r, n, X, k, sc, st, W, hX, h => by
    simp only [wEs, Bool.and_eq_true] at h
    exact .cons (sE Γ N e hX h.1).1 (sE Γ N e hX h.1).2 (sEs Γ N r hX h.2)
theorem sT (Γ : Gam) (N : List Str) : ∀ (t : MT) {n : Nms} {X : Cx} {k : Nat} {sc st : Scope} {W : WX}, Cok X Γ n k N sc st W → wT N n t sc st = true → PG X (eT t) (dT Γ X.K t W)
  | .name i x p, n, X, k, sc, st, W, hX, h => by
    simp only [wT, Bool.and_eq_true, decide_eq_true_eq] at h
    obtain ⟨q, hq, e⟩ := okName_ks h.2
    have hl : L2.Loc st x := by
      simp only [List.mem_cons, List.not_mem_nil, or_false] at hq
      rcases hq with rfl | rfl
      · exact .inl e
      · exact .inr e
    obtain ⟨l1, l2⟩ := hX.lcl x hl
    exact pg_name (by rw [hX.eN]; exact hX.nd) (by rw [hX.eN]; exact h.1) (by rw [hX.eSc]; exact l1) (by rw [hX.eSc]; exact l2)
  | .tup ts k' p, n, X, k, sc, st, W, hX, h => by
    simp only [wT] at h
    have l := sTs Γ N ts hX h
    exact pg_tup hX.calm l.1 l.2.1 l.2.2
  | .sub a i p, n, X, k, sc, st, W, hX, h => by
    simp only [wT, Bool.and_eq_true] at h
    exact pg_sub (sE Γ N a hX h.1).1 (sE Γ N i hX h.2).1 set_list (fun v => by cases i <;> rfl)
theorem sTs (Γ : Gam) (N : List Str) : ∀ (t : MTs) {n : Nms} {X : Cx} {k : Nat} {sc st : Scope} {W : WX}, Cok X Γ n k N sc st W → wTs N n t sc st = true →
    PGs X (eTs t) (dTs Γ X.K t W).2 ∧ (assignEach (eTs t) X.env).length = (dTs Γ X.K t W).1 ∧ (assignEach (eTs t) X.env).findIdx? (·.1) = none
  | .nil, n, X, k, sc, st, W, hX, h => ⟨pgs_nil, rfl, rfl⟩
  | .cons t r, n, X, k, sc, st, W, hX, h => by
    simp only [wTs, Bool.and_eq_true] at h
    have l := sTs Γ N r hX h.2
    have e : assignEach (eT t :: eTs r) X.env = (false, assign (eT t) X.env) :: assignEach (eTs r) X.env := by cases t <;> rfl
    refine ⟨pgs_cons (sT Γ N t hX h.1) l.1 ?_, ?_, ?_⟩
    · rw [e]; rfl
    · show (assignEach (eT t :: eTs r) X.env).length = _
      rw [e, List.length_cons, l.2.1]
      rfl
    · show (assignEach (eT t :: eTs r) X.env).findIdx? _ = _
      rw [e, List.findIdx?_cons, l.2.2]
      rfl
theorem sI (Γ : Gam) (N : List Str) : ∀ (it : MI) {n : Nms} {X : Cx} {k : Nat} {sc st : Scope} {W : WX}, Cok X Γ n k N sc st W → wI N n it sc = true → ∀ tg : MT, (match it with | .val _ => true | .rng1 .. => true | .rng2 .. => true | _ => isTupT tg) = true →
    PI X (eT tg) (eI it) (dI Γ X.K it W)
  | .val e, n, X, k, sc, st, W, hX, h, tg, ht => by
    simp only [wI] at h
    exact val_ok (sE Γ N e hX h).1
  | .rng1 q a p, n, X, k, sc, st, W, hX, h, tg, ht => by
    simp only [wI, Bool.and_eq_true] at h
    obtain ⟨hg, hm, _⟩ := blt_of hX h.1
    exact pi_range1 hg hm (pa_cons (sE Γ N a hX h.2).1 pa_nil (star_e a [] _)) (star_e a [] _)
  | .rng2 q a b p, n, X, k, sc, st, W, hX, h, tg, ht => by
    simp only [wI, Bool.and_eq_true] at h
    obtain ⟨hg, hm, _⟩ := blt_of hX h.1.1
    have hb : starEach [eE b] X.env = [(false, eval (eE b) X.env)] := star_e b [] _
    exact pi_range2 hg hm (pa_cons (sE Γ N a hX h.1.2).1 (pa_cons (sE Γ N b hX h.2).1 pa_nil hb) (star_e a _ _)) (by rw [star_e a, hb]) hb
  | .enum q a p, n, X, k, sc, st, W, hX, h, tg, ht => by
    simp only [wI, Bool.and_eq_true] at h
    obtain ⟨hg, hm, _⟩ := blt_of hX h.1
    cases tg with
    | tup ts k' p' => exact pi_enum hg hm (pa_cons (sE Γ N a hX h.2).1 pa_nil (star_e a [] _)) (star_e a [] _)
    | _ => cases ht
  | .zip q a b p, n, X, k, sc, st, W, hX, h, tg, ht => by
    simp only [wI, Bool.and_eq_true] at h
    obtain ⟨hg, hm, _⟩ := blt_of hX h.1.1
    have hb : starEach [eE b] X.env = [(false, eval (eE b) X.env)] := star_e b [] _
    cases tg with
    | tup ts k' p' => exact pi_zip hg hm (pa_cons (sE Γ N a hX h.1.2).1 (pa_cons (sE Γ N b hX h.2).1 pa_nil hb) (star_e a _ _)) (star_e a _ _) (by rw [hb]; rfl)
    | _ => cases ht
end
end Rf
namespace Rf
open PySem PySem.Spec PyProof.Rows L2

/-! ### statements -/
mutual
inductive MS where
  | expr (e : ME) (p : Pos)
  | ret (e : ME) (p : Pos)
  | retN (p : Pos)
  | asg (t : MT) (e : ME) (p : Pos)
  | asgL (i : Nat) (y : Str) (py : Pos) (elt : ME) (tg : MT) (it : MI) (ifs : MEs) (own : List (Str × Nat)) (scope : Scope) (lp : Pos) (p : Pos)
  | par (i : Nat) (x : Str) (px : Pos) (j : Nat) (y : Str) (py : Pos) (kt : Nat) (pt : Pos) (a b : ME) (k2 : Nat) (pt2 : Pos) (p : Pos)
  | setA (o : ME) (f : Str) (fp : Pos) (e : ME) (p : Pos)
  | aug (i : Nat) (x : Str) (px : Pos) (op : Operator) (e : ME) (p : Pos)
  | ifs (c : ME) (a b : MSs) (p : Pos)
  | whl (c : ME) (b : MSs) (p : Pos)
  | fors (t : MT) (it : MI) (b : MSs) (p : Pos)
  | pass (p : Pos)
  | brk (p : Pos)
  | cnt (p : Pos)
  | rais (i : Nat) (x : Str) (q : Pos) (m : Str) (j : Nat) (p2 : Pos) (p3 : Pos) (p : Pos)
  | trk (b : MSs) (gi : Nat) (x : Str) (np : Pos) (i : Nat) (n : Str) (j : Nat) (y : Str) (py pv pa hp p : Pos)
  | tdiv (i : Nat) (x : Str) (px : Pos) (a b : ME) (bp ap np : Pos) (j : Nat) (n : Str) (ei : Nat) (ex : Str) (q : Pos) (m : Str) (c : Nat) (p2 p3 cp rp hp p : Pos)
  | calp (a : Str) (p1 p2 p : Pos)
inductive MSs where
  | nil
  | cons (s : MS) (r : MSs)
end
mutual
def eS : MS → Stmt
  | .expr e p => .Expr (eE e) p
  | .ret e p => .Return (some (eE e)) p
  | .retN p => .Return none p
  | .asg t e p => .Assign [eT t] (eE e) p
  | .asgL _ y py elt tg it ifs _ scope lp p => .Assign [.Name y py] (.ListComp (eE elt) [⟨eT tg, eI it, eEs ifs, 0⟩] scope lp) p
  | .par _ x px _ y py kt pt a b k2 pt2 p => .Assign [.Tuple [.Name x px, .Name y py] kt pt] (.Tuple [eE a, eE b] k2 pt2) p
  | .setA o f fp e p => .Assign [.Attribute (eE o) f fp] (eE e) p
  | .aug _ x px op e p => .AugAssign (.Name x px) op (eE e) p
  | .ifs c a b p => .If (eE c) (eSs a) (eSs b) p
  | .whl c b p => .While (eE c) (eSs b) [] p
  | .fors t it b p => .For (eT t) (eI it) (eSs b) [] p
  | .pass p => .Pass p
  | .brk p => .Break p
  | .cnt p => .Continue p
  | .rais _ x q m j p2 p3 p => .Raise (some (.Call (.Name x q) [.Constant (.str m) j p2] [] p3)) none p
  | .trk b _ x np _ n _ y py pv pa hp p => .Try (eSs b) [.ExceptHandler (some (.Name x np)) (some n) [.Assign [.Name y py] (.Name n pv) pa] hp] [] [] p
  | .tdiv _ x px a b bp ap np _ n _ ex q m c p2 p3 cp rp hp p => .Try [.Assign [.Name x px] (.BinOp (eE a) .FloorDiv (eE b) bp) ap] [.ExceptHandler (some (.Name "ZeroDivisionError" np)) (some n) [.Raise (some (.Call (.Name ex q) [.Constant (.str m) c p2] [] p3)) (some (.Name n cp)) rp] hp] [] [] p
  | .calp a p1 p2 p => .Expr (.Call (.Name a p1) [] [] p2) p
def eSs : MSs → List Stmt
  | .nil => []
  | .cons s r => eS s :: eSs r
end
/-! ### op= -/
def rAug (K : Frag) (op : Operator) : R2 := fun x y H Q => match op with
  | .Add => (match x, y with
    | .int i, .int j => Q (.int (i + j)) H
    | .str i, .str j => i.length + j.length ≤ sizeLine ∧ Q (.str (i ++ j)) H
    | _, _ => False)
  | .Sub => (match x, y with
    | .int i, .int j => Q (.int (i - j)) H
    | _, _ => False)
  | .Mult => (match x, y with
    | .int i, .int j => IntMulOk i j ∧ Q (.int (i * j)) H
    | _, _ => False)
  | .Mod => (match x, y with
    | .int i, .int j => 0 < j ∧ Q (.int (i % j)) H
    | _, _ => False)
  | _ => False
theorem ip_aug {X : Cx} (op : Operator) : OpR X (inplaceOp op) (rAug X.K op) := by
  cases op with
  | Add =>
    refine OpR.imp (OpR.or iop_add iop_add_str) fun x y H Q h => ?_
    unfold rAug at h
    dsimp only at h
    split at h
    · exact .inl ⟨_, _, rfl, rfl, h⟩
    · exact .inr ⟨_, _, rfl, rfl, h.1, h.2⟩
    · exact h.elim
  | Sub =>
    refine OpR.imp iop_sub fun x y H Q h => ?_
    unfold rAug at h
    dsimp only at h
    split at h
    · exact ⟨_, _, rfl, rfl, h⟩
    · exact h.elim
  | Mult =>
    refine OpR.imp (opI (C := IntMulOk) (g := fun i j => i * j) fun _ _ _ _ _ _ _ hc q => imul_int q hc) fun x y H Q h => ?_
    unfold rAug at h
    dsimp only at h
    split at h
    · exact ⟨_, _, rfl, rfl, h.1, h.2⟩
    · exact h.elim
  | Mod =>
    refine OpR.imp iop_mod fun x y H Q h => ?_
    unfold rAug at h
    dsimp only at h
    split at h
    · exact ⟨_, _, rfl, rfl, h.1, h.2⟩
    · exact h.elim
  | _ => exact fun pins s σ H x y v u Q I r1 r2 q => (show False from q).elim
/-! ### what they mean -/
def sSetA (Γ : Gam) (ta tv : TE) (f : Str) : TS := fun D σ H => tv σ H fun y H1 => ta σ H1 fun x H2 => ∃ a C dx fs, x = .ref a ∧ H2 a = some (.ins C dx fs) ∧ Γ.att C f ∧ fs.length < 1000 ∧ D.nx σ (upd H2 a (.ins C dx (putF f y fs)))
def sRais (Γ : Gam) (W : WX) (i : Nat) : TS := fun _ σ H => match Γ.exc[i]? with
  | some (_, C) => W (.ref C) none σ H
  | none => False
def isCls : V → Bool
  | .ref _ => true
  | .ty _ => true
  | _ => false
def clsOf : V → Value
  | .ref C => .ref C
  | .ty T => .type T
  | _ => .none
/-- a // b in the body of a try -/
def tFdX (W : WX) (ta tb : TE) : TE := fun σ H Q => ta σ H fun x H1 => tb σ H1 fun y H2 => match x, y with
  | .int p, .int q => (q = 0 ∧ ∀ d, W (.type "ZeroDivisionError") d σ H2) ∨ (q ≠ 0 ∧ Builtin.divisionGoesByPylong p q = false ∧ Q (.int (p.fdiv q)) H2)
  | _, _ => False
/-- the suite of the try: another exception, from this one -/
def uTdiv (Γ : Gam) (W : WX) (j ei : Nat) : Addr → Value → Option Addr → TS := fun a cls _ _ σ H => cls = .type "ZeroDivisionError" ∧ σ[j]? = some (some (.ref a)) ∧ ∃ x C, Γ.exc[ei]? = some (x, C) ∧ W (.ref C) none (σ.set j none) H
def sTdiv (Γ : Gam) (K : Frag) (W : WX) (i j ei : Nat) (ta tb : TE) : TS := fun D σ H => tAsg (tFdX (wFrom K (.type "ZeroDivisionError") j (uTdiv Γ W j ei) D) ta tb) (gName i) D σ H
theorem exm_zero {K : Frag} : PySem.W.exmOne K (.type "ZeroDivisionError") (.type "ZeroDivisionError") = some true := by
  unfold PySem.W.exmOne
  first
    | rfl
    | decide +kernel
theorem wFrom_zero {Γ : Gam} {K : Frag} {W : WX} {j ei : Nat} {D : Ends} {σ : L2.St} {H : Hp} {x : Str} {C : Addr} (hj : j < σ.length) (e : Γ.exc[ei]? = some (x, C)) (h : W (.ref C) none (σ.set j none) H) (d : Option Addr) :
    wFrom K (.type "ZeroDivisionError") j (uTdiv Γ W j ei) D (.type "ZeroDivisionError") d σ H :=
  ⟨exm_zero, fun a _ => ⟨rfl, List.getElem?_set_self hj, x, C, e, by rw [List.set_set]; exact h⟩⟩
mutual
def dS (Γ : Gam) (K : Frag) : MS → WX → TS
  | .expr e _, W => tDrop (dE Γ K e W).1
  | .ret e _, W => tRet (dE Γ K e W).1
  | .retN _, _ => tRetN
  | .asg t e _, W => tAsg (dE Γ K e W).1 (dT Γ K t W)
  | .asgL i _ _ elt tg it ifs own _ _ _, W => tAsg (tLc (dI Γ K it W) (dT Γ K tg (fun _ _ _ _ => False)) (match dEs Γ K ifs (fun _ _ _ _ => False) with | [] => tYes | d :: _ => d.2) (dE Γ K elt (fun _ _ _ _ => False)).1 (own.map (·.2))) (gName i)
  | .par i _ _ j _ _ _ _ a b _ _ _, W => tPar i j (tCons (dE Γ K a W).1 (tCons (dE Γ K b W).1 tNil))
  | .setA o f _ e _, W => sSetA Γ (dE Γ K o W).1 (dE Γ K e W).1 f
  | .aug i _ _ op e _, W => tAug i (dE Γ K e W).1 (rAug K op)
  | .ifs c a b _, W => tIfS (dE Γ K c W).2 (dSs Γ K a W) (dSs Γ K b W)
  | .whl c b _, W => tWhile (dE Γ K c W).2 (dSs Γ K b W)
  | .fors t it b _, W => tFor (dI Γ K it W) (dT Γ K t W) (dSs Γ K b W)
  | .pass _, _ => tNext
  | .brk _, _ => tBreak
  | .cnt _, _ => tCont
  | .rais i _ _ _ _ _ _ _, W => sRais Γ W i
  | .trk b gi _ _ i _ j _ _ _ _ _ _, W => fun D σ H => match Γ.glo[gi]? with
    | some (_, v) => isCls v = true ∧ dSs Γ K b (wLen σ.length (wKeep K (clsOf v) i (fun _ => tAsg (tVar i) (gName j)) W D)) D σ H
    | none => False
  | .tdiv i _ _ a b _ _ _ j _ ei _ _ _ _ _ _ _ _ _ _, W => sTdiv Γ K W i j ei (dE Γ K a (fun _ _ _ _ => False)).1 (dE Γ K b (fun _ _ _ _ => False)).1
  | .calp _ _ _ _, _ => fun _ _ _ => False
def dSs (Γ : Gam) (K : Frag) : MSs → WX → TS
  | .nil, _ => tNext
  | .cons s .nil, W => dS Γ K s W
  | .cons s r, W => tSeq (dS Γ K s W) (dSs Γ K r W)
end
/-! ### what is looked at -/
def isTupE : ME → Bool
  | .tup .. => true
  | _ => false
def isLocalB (sc : Scope) (x : Str) : Bool := match sc.names.lookup x with | some .local => true | _ => false
def okIt (it : MI) (tg : MT) : Bool := match it with | .val _ => true | .rng1 .. => true | .rng2 .. => true | _ => isTupT tg
def okLc (N : List Str) (n : Nms) (sc : Scope) (elt : ME) (tg : MT) (it : MI) (ifs : MEs) (own : List (Str × Nat)) (scope : Scope) : Bool :=
  wI N n it sc && okIt it tg && blkC N sc scope own && wT N n tg (relS scope sc) scope && wEs N n ifs (relS scope sc) && decide (ifs.len ≤ 1) && wE N n elt (relS scope sc)
mutual
def wS (N : List Str) (n : Nms) : MS → Scope → Bool
  | .expr e _, sc => wE N n e sc && !isLc e
  | .ret e _, sc => wE N n e sc
  | .retN _, _ => true
  | .asg t e _, sc => wT N n t sc sc && wE N n e sc && !isLc e && !(isTupT t && isTupE e)
  | .asgL i y py elt tg it ifs own scope lp _, sc => decide (N[i]? = some y) && isLocalB sc y && (py.line == lp.line) && !(scope.names.any fun (n, k) => n == y && (k == .local || k == .cell)) && okLc N n sc elt tg it ifs own scope && decide (sc.kind = .function)
  | .par i x px j y py _ _ a b _ _ _, sc => decide (N[i]? = some x) && decide (N[j]? = some y) && !(i == j) && isLocalB sc x && isLocalB sc y && (py.line == px.line) && !(x == y) && !([eE a, eE b].all (foldedForSure 8)) && !([eE a, eE b].all (constantsAlone 8)) && wE N n a sc && wE N n b sc && decide (sc.kind = .function)
  | .setA o _ _ e _, sc => wE N n o sc && wE N n e sc && !isLc e
  | .aug i x _ _ e _, sc => decide (N[i]? = some x) && okName sc x [.local, .cell] && wE N n e sc
  | .ifs c a b _, sc => wE N n c sc && wSs N n a sc && wSs N n b sc
  | .whl c b _, sc => wE N n c sc && wSs N n b sc
  | .fors t it b _, sc => wI N n it sc && okIt it t && wT N n t sc sc && wSs N n b sc
  | .pass _, _ => true
  | .brk _, _ => true
  | .cnt _, _ => true
  | .rais i x _ _ _ _ _ _, sc => decide (n.exc[i]? = some x) && okName sc x [.globalImplicit]
  | .trk b gi x _ i m j y _ _ _ _ _, sc => wSs N n b sc && decide (n.glo[gi]? = some x) && okName sc x [.globalImplicit] && decide (N[i]? = some m) && isLocalB sc m && decide (N[j]? = some y) && okName sc y [.local, .cell] && okName sc m [.local]
  | .tdiv i x _ a b _ _ _ j m ei ex _ _ _ _ _ _ _ _ _, sc => decide (N[i]? = some x) && isLocalB sc x && wE N n a sc && wE N n b sc && okBlt n sc "ZeroDivisionError" && decide (N[j]? = some m) && isLocalB sc m && decide (n.exc[ei]? = some ex) && okName sc ex [.globalImplicit] && okName sc m [.local]
  | .calp _ _ _ _, _ => false
def wSs (N : List Str) (n : Nms) : MSs → Scope → Bool
  | .nil, _ => true
  | .cons s r, sc => wS N n s sc && wSs N n r sc
end
end Rf
namespace Rf
open PySem PySem.Spec PyProof.Rows L2

theorem starred_e (m : ME) : (match eE m with | .Starred .. => true | _ => false) = false := by cases m <;> rfl
theorem local_of {sc : Scope} {x : Str} (h : isLocalB sc x = true) : sc.names.lookup x = some .local := by
  unfold isLocalB at h
  split at h
  · assumption
  · cases h
section
variable {X : Cx} {Γ : Gam} {n : Nms} {k : Nat} {N : List Str} {sc st : Scope} {W : WX}
theorem swapped_none (t : MT) (e : ME) (env : Env) (h : (isTupT t && isTupE e) = false) : swappedStores [eT t] (eE e) env = pure none := by
  cases t with
  | tup ts k' p =>
    cases e with
    | tup => cases h
    | _ => rfl
  | _ => rfl
theorem swapped_par {a b : ME} {x y : Str} {px py pt pt2 : Pos} {kt k2 : Nat} {env : Env} (hk : env.scope.kind = .function) (hx : env.scope.names.lookup x = some .local) (hy : env.scope.names.lookup y = some .local) (hl : (py.line == px.line) = true) (hxy : (x == y) = false)
    (h1 : [eE a, eE b].all (foldedForSure 8) = false) (h2 : [eE a, eE b].all (constantsAlone 8) = false) :
    swappedStores [.Tuple [.Name x px, .Name y py] kt pt] (.Tuple [eE a, eE b] k2 pt2) env = pure (some [x, y]) := by
  have hb : env.blockKind = .function := by unfold Env.blockKind; rw [hk]; rfl
  have kx : env.kindOf x = some .local := hx
  have ky : env.kindOf y = some .local := hy
  have sa := starred_e a
  have sb := starred_e b
  have hn : ([eE a, eE b].any fun | .Starred .. => true | _ => false) = false := by
    show ((match eE a with | .Starred .. => true | _ => false) || ((match eE b with | .Starred .. => true | _ => false) || false)) = false
    rw [sa, sb]
    rfl
  have hyx : (y == x) = false := by
    cases q : y == x with
    | false => rfl
    | true =>
      have e : y = x := by simpa using q
      subst e
      simp at hxy
  unfold swappedStores
  simp only [hb, h1, h2, hn, kx, ky, hl, Expr.pos, List.length_cons, List.length_nil, List.head?_cons, Option.map_some, Option.getD_some, List.filterMap_cons, List.filterMap_nil, beq_self_eq_true, Bool.and_self, if_true, List.eraseDups_cons, List.eraseDups_nil, List.filter_cons, List.filter_nil, hyx, Bool.not_false, Bool.false_eq_true, if_false, pure_bind]
  simp
  intro z
  rcases z with z | z
  · exact absurd (sa.symm.trans z) Bool.false_ne_true
  · exact absurd (sb.symm.trans z) Bool.false_ne_true
theorem setA_ok (hX : Cok X Γ n k N sc st W) {o e : Expr} {f : Str} {ta tv : TE} {fp p : Pos} (ho : PE X o ta) (hv : PE X e tv) (hs : swapsWith e (some (.Attribute o f fp)) p.line X.env = pure false) :
    PS X (.Assign [.Attribute o f fp] e p) (sSetA Γ ta tv f) := by
  refine ⟨fun pins s σ H D I h => plainObj_wpAny_Assign_Attribute (thn (hv.run pins s σ H _ I h) fun u s1 hh => ?_) hs⟩
  obtain ⟨y, H1, I1, ry, q⟩ := hh
  refine thn (ho.run pins s1 σ H1 _ I1 q) fun ov s2 hh => ?_
  obtain ⟨x, H2, I2, rx, a, C, dx, fs, ex, ea, ht, l, q2⟩ := hh
  obtain ⟨c, nn⟩ := hX.gam.att C f ht
  subst ex
  cases rx
  exact setattr_ok I2 ea c nn l ry fun s3 I3 => ⟨σ, _, I3, q2⟩
theorem rais_ok (hX : Cok X Γ n k N sc st W) {i j : Nat} {x m : Str} {q p2 p3 p : Pos} (h1 : n.exc[i]? = some x) (h2 : okName sc x [.globalImplicit] = true) :
    PS X (.Raise (some (.Call (.Name x q) [.Constant (.str m) j p2] [] p3)) none p) (sRais Γ W i) := by
  obtain ⟨C, e, hm⟩ := lk hX.gam.excN h1
  have T := hX.gam.exc x C hm
  obtain ⟨B, ni, ii, bmB, F, q'⟩ := T.fC
  have h := ps_raise (pos := p) hX.calm hX.tk (pmk_own (p := q) (p2 := p2) (pos := p3) (m := m) (j := j) F q' T.gC T.kC (raises_own T.bC T.tC) (gl_of hX h2) (okName_db h2))
  refine ⟨fun pins s σ H D I hh => h.run pins s σ H D I ?_⟩
  unfold sRais at hh
  rw [e] at hh
  exact hh
theorem lc_ok (hX : Cok X Γ n k N sc st W) {elt : ME} {tg : MT} {it : MI} {ifs : MEs} {own : List (Str × Nat)} {scope : Scope} (h : okLc N n sc elt tg it ifs own scope = true) :
    PI X (eT tg) (eI it) (dI Γ X.K it W) ∧ BlkOk X.N X.env.scope scope own ∧
    (∀ (s : Shared) (H : Hp) (C : Addr) (cl : List (Str × Addr)) (fp : List Addr), PG (X.blk s H scope (compEnvC scope cl C X.env) fp) (eT tg) (dT Γ X.K tg (fun _ _ _ _ => False))) ∧
    (∀ (s : Shared) (H : Hp) (C : Addr) (cl : List (Str × Addr)) (fp : List Addr), PTs (X.blk s H scope (compEnvC scope cl C X.env) fp) (eEs ifs) (match dEs Γ X.K ifs (fun _ _ _ _ => False) with | [] => tYes | d :: _ => d.2)) ∧
    (∀ (s : Shared) (H : Hp) (C : Addr) (cl : List (Str × Addr)) (fp : List Addr), PE (X.blk s H scope (compEnvC scope cl C X.env) fp) (eE elt) (dE Γ X.K elt (fun _ _ _ _ => False)).1) := by
  unfold okLc at h
  simp only [Bool.and_eq_true, decide_eq_true_eq] at h
  obtain ⟨⟨⟨⟨⟨⟨h1, h2⟩, h3⟩, h4⟩, h5⟩, h6⟩, h7⟩ := h
  refine ⟨sI Γ N it hX h1 tg h2, blkOk_by (by rw [hX.eN, hX.eSc]; exact h3), fun s H C cl fp => (sT Γ N tg (hX.blk s H C cl fp) h4), fun s H C cl fp => ?_, fun s H C cl fp => (sE Γ N elt (hX.blk s H C cl fp) h7).1⟩
  have l := sEs Γ N ifs (hX.blk s H C cl fp) h5
  revert l
  generalize dEs Γ X.K ifs (fun _ _ _ _ => False) = ds
  intro l
  cases l with
  | nil => exact pts_nil
  | cons a b l' =>
    cases l' with
    | nil => exact pts_one b
    | cons a' b' l'' => exact absurd h6 (by simp [MEs.len])
end
/-- .. for statements -/
structure CokS (X : Cx) (Γ : Gam) (n : Nms) (k : Nat) (N : List Str) (sc : Scope) (W : WX) : Prop extends Cok X Γ n k N sc sc W where
  stk : X.stack = X.env :: X.outer
  frm : X.env.frame = some X.env.locals
  exn : X.ex = []
  pasAt : ∀ hd : Option Value, PassesOwnAt (model X.prog X.w) (X.A.mark hd) X.A X.env X.xe
theorem names_of {X : Cx} {Γ : Gam} {n : Nms} {k : Nat} {N : List Str} {sc st : Scope} {W : WX} (hX : Cok X Γ n k N sc st W) {gi : Nat} {x : Str} (h1 : n.glo[gi]? = some x) (h2 : okName sc x [.globalImplicit] = true) : ∃ v, Γ.glo[gi]? = some (x, v) ∧ (isCls v = true → Names X x (clsOf v)) := by
  obtain ⟨v, e, hm⟩ := lk hX.gam.gloN h1
  obtain ⟨u, r, h⟩ := hX.gam.glo x v hm
  refine ⟨v, e, fun hc => ⟨gl_of hX h2, okName_db h2, ?_⟩⟩
  have eu : u = clsOf v := by
    cases v with
    | ref C => exact r
    | ty T => exact r
    | _ => cases hc
  rw [← eu]
  exact h
section
variable {X : Cx} {Γ : Gam} {n : Nms} {k : Nat} {N : List Str} {sc : Scope} {W : WX}
/-- nothing comes -/
theorem CokS.tr (hX : CokS X Γ n k N sc W) {pn : List (Addr × Obj)} {xe : Value → Shared → Prop} {W' : WX} (tk : Takes (X.tr pn xe) W') (h1 : PassesOwn (model X.prog X.w) X.A X.env xe) (h2 : ∀ hd : Option Value, PassesOwnAt (model X.prog X.w) (X.A.mark hd) X.A X.env xe) :
    CokS (X.tr pn xe) Γ n k N sc W' :=
  ⟨⟨hX.eN, hX.nd, hX.eSc, hX.calm, hX.room, hX.gam, tk, hX.lcl, h1, hX.lm⟩, hX.stk, hX.frm, hX.exn, h2⟩
theorem trk_ok (hX : CokS X Γ n k N sc W) {b : MSs} {gi i j : Nat} {x m y : Str} {np py pv pa hp p : Pos} (hb : ∀ (Y : Cx) (W' : WX), CokS Y Γ n k N sc W' → PSs Y (eSs b) (dSs Γ Y.K b W')) (h2 : n.glo[gi]? = some x) (h3 : okName sc x [.globalImplicit] = true)
    (h4 : N[i]? = some m) (h5 : isLocalB sc m = true) (h6 : N[j]? = some y) (h7 : okName sc y [.local, .cell] = true) (h8 : okName sc m [.local] = true) : PS X (eS (.trk b gi x np i m j y py pv pa hp p)) (dS Γ X.K (.trk b gi x np i m j y py pv pa hp p) W) := by
  refine ⟨fun pins s σ H D I h => ?_⟩
  obtain ⟨v, ev, hv⟩ := names_of hX.toCok h2 h3
  have h' : isCls v = true ∧ dSs Γ X.K b (wLen σ.length (wKeep X.K (clsOf v) i (fun _ => tAsg (tVar i) (gName j)) W D)) D σ H := by
    unfold dS at h
    rw [ev] at h
    exact h
  obtain ⟨hc, h'⟩ := h'
  rw [I.len] at h'
  have hm := local_of h5
  have vis : Vis X.env.scope m := .inl (by rw [hX.eSc]; exact hm)
  obtain ⟨q, hq, ey⟩ := okName_ks h7
  have hl : L2.Loc sc y := by
    simp only [List.mem_cons, List.not_mem_nil, or_false] at hq
    rcases hq with rfl | rfl
    · exact .inl ey
    · exact .inr ey
  obtain ⟨l1, l2⟩ := hX.lcl y hl
  exact (ps_try_keep (tb := fun W' => dSs Γ X.K b W') (ts := fun _ => tAsg (tVar i) (gName j)) hX.stk hX.frm hX.exn (by rw [hX.eN]; exact hX.nd) (by rw [hX.eN]; exact h4) (by show X.env.scope.names.lookup m = _; rw [hX.eSc]; exact hm) (hv hc) hX.tk
    (fun W' pn xe tk q1 q2 => hb (X.tr pn xe) W' (hX.tr tk q1 q2))
    (fun a pn => pss_one (ps_asg (pe_var (by show X.N[i]? = _; rw [hX.eN]; exact h4) vis (okName_db h8) (okName_cd h8)) (pg_name (by show X.N.Nodup; rw [hX.eN]; exact hX.nd) (by show X.N[j]? = _; rw [hX.eN]; exact h6) (by show L2.Loc X.env.scope y; rw [hX.eSc]; exact l1) (by show X.fn y = true ∨ X.env.scope.names.lookup y = _; rw [hX.eSc]; exact l2)) rfl rfl rfl))).run pins s σ H D I h'
theorem pe_fdX {Y : Cx} {W : WX} {a b : Expr} {ta tb : TE} {p : Pos} (hc : Y.calm = true) (tk : L2N.Takes Y W) (ha : PE Y a ta) (hb : PE Y b tb) : PE Y (.BinOp a .FloorDiv b p) (tFdX W ta tb) := by
  refine ⟨fun pins s σ H Q I h => wpAny_BinOp (binT ha hb I (R := fun x y H2 => match x, y with
    | .int p, .int q => (q = 0 ∧ ∀ d, W (.type "ZeroDivisionError") d σ H2) ∨ (q ≠ 0 ∧ Builtin.divisionGoesByPylong p q = false ∧ Q (.int (p.fdiv q)) H2)
    | _, _ => False) h fun v u s2 x y H2 I2 rx ry q => ?_)⟩
  cases x with
  | int i =>
    cases y with
    | int j =>
      obtain ⟨t1, rfl⟩ := rx
      obtain ⟨t2, rfl⟩ := ry
      refine floordiv_int_or (I2.ok.hd hc) (fun e h' tk' ea ne => ?_) (fun e => ?_) (fun e => .inl ?_)
      · rcases q with ⟨_, q⟩ | ⟨n, _⟩
        · exact L2N.takes_newN tk I2 ne q
        · exact absurd e n
      · rcases q with ⟨z, _⟩ | ⟨_, _, q⟩
        · exact absurd z e
        · exact ⟨.int (i.fdiv j), H2, I2.tok _, ⟨_, rfl⟩, q⟩
      · rcases q with ⟨z, _⟩ | ⟨_, q, _⟩
        · exact absurd z e
        · exact q
    | _ => exact (show False from q).elim
  | _ => exact (show False from q).elim
theorem never_takes {Y : Cx} : Takes Y (fun _ _ _ _ => False) := fun _ _ ⟨_, _, _, _, _, _, _, _, _, _, _, _, _, _, _, _, z⟩ => z.elim
theorem tdiv_ok (hX : CokS X Γ n k N sc W) {a b : ME} {i j ei c : Nat} {x m ex ms : Str} {px bp ap np q p2 p3 cp rp hp p : Pos} (ha : ∀ Y : Cx, Cok Y Γ n k N sc sc (fun _ _ _ _ => False) → PE Y (eE a) (dE Γ Y.K a (fun _ _ _ _ => False)).1)
    (hb : ∀ Y : Cx, Cok Y Γ n k N sc sc (fun _ _ _ _ => False) → PE Y (eE b) (dE Γ Y.K b (fun _ _ _ _ => False)).1)
    (h1 : N[i]? = some x) (h2 : isLocalB sc x = true) (h3 : okBlt n sc "ZeroDivisionError" = true) (h4 : N[j]? = some m) (h5 : isLocalB sc m = true) (h6 : n.exc[ei]? = some ex) (h7 : okName sc ex [.globalImplicit] = true) (h8 : okName sc m [.local] = true) :
    PS X (eS (.tdiv i x px a b bp ap np j m ei ex q ms c p2 p3 cp rp hp p)) (dS Γ X.K (.tdiv i x px a b bp ap np j m ei ex q ms c p2 p3 cp rp hp p) W) := by
  obtain ⟨hg, hm, hn, hd⟩ := blt_of hX.toCok h3
  obtain ⟨C, ee, hC⟩ := lk hX.gam.excN h6
  have T := hX.gam.exc ex C hC
  obtain ⟨B, ni, ii, bmB, F, q'⟩ := T.fC
  have lx := local_of h2
  have lm := local_of h5
  have key := ps_try_from (np := np) (hp := hp) (pos := p) (Wout := W) (c := .type "ZeroDivisionError") (i := j) (b₀ := .Raise (some (.Call (.Name ex q) [.Constant (.str ms) c p2] [] p3)) (some (.Name m cp)) rp) (suite := []) (body := [.Assign [.Name x px] (.BinOp (eE a) .FloorDiv (eE b) bp) ap])
    (tb := fun W' D σ H => tAsg (tFdX W' (dE Γ X.K a (fun _ _ _ _ => False)).1 (dE Γ X.K b (fun _ _ _ _ => False)).1) (gName i) D σ H) (ts := uTdiv Γ W j ei)
    hX.stk hX.frm hX.exn (by rw [hX.eN]; exact hX.nd) (by rw [hX.eN]; exact h4) (by show X.env.scope.names.lookup m = _; rw [hX.eSc]; exact lm) hX.pasAt ⟨hg, hd, .inr ⟨hm, by decide +kernel, hn⟩⟩ hX.tk ?_ ?_
  · exact key
  · intro W' pn xe tk ps
    have hY : Cok (X.tr pn xe) Γ n k N sc sc (fun _ _ _ _ => False) := ⟨hX.eN, hX.nd, hX.eSc, hX.calm, hX.room, hX.gam, never_takes, hX.lcl, ps, hX.lm⟩
    exact pss_one (ps_asg (pe_fdX hX.calm tk (ha _ hY) (hb _ hY)) (pg_name (by show X.N.Nodup; rw [hX.eN]; exact hX.nd) (by show X.N[i]? = _; rw [hX.eN]; exact h1) (by show L2.Loc X.env.scope x; rw [hX.eSc]; exact .inl lx) (.inr (by show X.env.scope.names.lookup x = _; rw [hX.eSc]; exact lx))) rfl rfl rfl)
  · intro e oe cls d pn hz ⟨vs, hv⟩ nb tk
    refine pss_one ⟨fun pins s σ H D I h => ?_⟩
    obtain ⟨ec, slot, x', C', e', w⟩ := h
    rw [ee] at e'
    cases e'
    subst ec
    exact (ps_raiseFrom (Y := Cx.suiteF X m hp e ((e, oe) :: pn)) (p := (e, oe)) (i := j) rfl (List.mem_append_left _ List.mem_cons_self) nb hv (hz.2.2 vs hv) hz.1 exb_ZeroDivisionError.raises tk
      (pmk_six F q' T.gC T.kC (raises_own T.bC T.tC) (gl_of hX.toCok h7) (okName_db h7)) (by show X.N[j]? = _; rw [hX.eN]; exact h4) (.inl (by show X.env.scope.names.lookup m = _; rw [hX.eSc]; exact lm)) (okName_db h8) (okName_cd h8)).run pins s σ H D I ⟨slot, w⟩
end
mutual
theorem sS (Γ : Gam) (N : List Str) : ∀ (s : MS) {n : Nms} {X : Cx} {k : Nat} {sc : Scope} {W : WX}, CokS X Γ n k N sc W → wS N n s sc = true → PS X (eS s) (dS Γ X.K s W)
  | .expr e p, n, X, k, sc, W, hX, h => by
    simp only [wS, Bool.and_eq_true, Bool.not_eq_true'] at h
    exact ps_expr (sE Γ N e hX.toCok h.1).1 (noswap e _ _ _ h.2)
  | .ret e p, n, X, k, sc, W, hX, h => by
    simp only [wS] at h
    exact ps_ret (sE Γ N e hX.toCok h).1
  | .retN p, n, X, k, sc, W, hX, h => ps_retN
  | .asg t e p, n, X, k, sc, W, hX, h => by
    simp only [wS, Bool.and_eq_true, Bool.not_eq_true'] at h
    obtain ⟨⟨⟨h1, h2⟩, h3⟩, h4⟩ := h
    exact ps_asg (sE Γ N e hX.toCok h2).1 (sT Γ N t hX.toCok h1) (noswap e _ _ _ h3) (swapped_none t e _ h4) (by cases t <;> rfl)
  | .asgL i y py elt tg it ifs own scope lp p, n, X, k, sc, W, hX, h => by
    simp only [wS, Bool.and_eq_true, Bool.not_eq_true', decide_eq_true_eq] at h
    obtain ⟨⟨⟨⟨⟨h1, h2⟩, h3⟩, h4⟩, h5⟩, h6⟩ := h
    obtain ⟨l1, l2, l3, l4, l5⟩ := lc_ok hX.toCok h5
    have hy := local_of h2
    exact ps_setLc hX.calm (by rw [hX.eN]; exact hX.nd) (by rw [hX.eN]; exact h1) (by rw [hX.eSc]; exact hy) (sw_true (by rw [hX.eSc]; exact h6) (by rw [hX.eSc]; exact hy) h3 h4) l1 l2 l3 l4 l5 (fun x => nofoldI it _ x)
  | .par i x px j y py kt pt a b k2 pt2 p, n, X, k, sc, W, hX, h => by
    simp only [wS, Bool.and_eq_true, Bool.not_eq_true', decide_eq_true_eq] at h
    obtain ⟨⟨⟨⟨⟨⟨⟨⟨⟨⟨⟨h1, h2⟩, h3⟩, h4⟩, h5⟩, h6⟩, h7⟩, h8⟩, h9⟩, h10⟩, h11⟩, h12⟩ := h
    have hx := local_of h4
    have hy := local_of h5
    have hb : starEach [eE b] X.env = [(false, eval (eE b) X.env)] := star_e b [] _
    refine ps_par hX.calm (by rw [hX.eN]; exact hX.nd) (by rw [hX.eN]; exact h1) (by rw [hX.eN]; exact h2) (by intro e; subst e; simp at h3) (by rw [hX.eSc]; exact hx) (by rw [hX.eSc]; exact hy)
      (pa_cons (sE Γ N a hX.toCok h10).1 (pa_cons (sE Γ N b hX.toCok h11).1 pa_nil hb) (star_e a _ _)) (swapped_par (by rw [hX.eSc]; exact h12) (by rw [hX.eSc]; exact hx) (by rw [hX.eSc]; exact hy) h6 h7 h8 h9) rfl
  | .setA o f fp e p, n, X, k, sc, W, hX, h => by
    simp only [wS, Bool.and_eq_true, Bool.not_eq_true'] at h
    exact setA_ok hX.toCok (sE Γ N o hX.toCok h.1.1).1 (sE Γ N e hX.toCok h.1.2).1 (noswap e _ _ _ h.2)
  | .aug i x px op e p, n, X, k, sc, W, hX, h => by
    simp only [wS, Bool.and_eq_true, decide_eq_true_eq] at h
    obtain ⟨⟨h1, h2⟩, h3⟩ := h
    obtain ⟨q, hq, e1⟩ := okName_ks h2
    have hl : L2.Loc sc x := by
      simp only [List.mem_cons, List.not_mem_nil, or_false] at hq
      rcases hq with rfl | rfl
      · exact .inl e1
      · exact .inr e1
    obtain ⟨l1, l2⟩ := hX.lcl x hl
    exact ps_aug (by rw [hX.eN]; exact hX.nd) (by rw [hX.eN]; exact h1) (by rw [hX.eSc]; exact l1) (sE Γ N e hX.toCok h3).1 (ip_aug op) (by rw [hX.eSc]; exact l2)
  | .ifs c a b p, n, X, k, sc, W, hX, h => by
    simp only [wS, Bool.and_eq_true] at h
    exact ps_if (sE Γ N c hX.toCok h.1.1).2 (sSs Γ N a hX h.1.2) (sSs Γ N b hX h.2)
  | .whl c b p, n, X, k, sc, W, hX, h => by
    simp only [wS, Bool.and_eq_true] at h
    exact ps_while hX.pas (sE Γ N c hX.toCok h.1).2 (sSs Γ N b hX h.2)
  | .fors t it b p, n, X, k, sc, W, hX, h => by
    simp only [wS, Bool.and_eq_true] at h
    obtain ⟨⟨⟨h1, h2⟩, h3⟩, h4⟩ := h
    exact ps_for hX.pas hX.calm (sI Γ N it hX.toCok h1 t h2) (sT Γ N t hX.toCok h3) (sSs Γ N b hX h4) (fun x => nofoldI it _ x)
  | .pass p, n, X, k, sc, W, hX, h => ps_pass
  | .brk p, n, X, k, sc, W, hX, h => ps_break
  | .cnt p, n, X, k, sc, W, hX, h => ps_continue
  | .rais i x q m j p2 p3 p, n, X, k, sc, W, hX, h => by
    simp only [wS, Bool.and_eq_true, decide_eq_true_eq] at h
    exact rais_ok hX.toCok h.1 h.2
  | .trk b gi x np i m j y py pv pa hp p, n, X, k, sc, W, hX, h => by
    simp only [wS, Bool.and_eq_true, decide_eq_true_eq] at h
    obtain ⟨⟨⟨⟨⟨⟨⟨h1, h2⟩, h3⟩, h4⟩, h5⟩, h6⟩, h7⟩, h8⟩ := h
    exact trk_ok hX (fun Y W' hY => sSs Γ N b hY h1) h2 h3 h4 h5 h6 h7 h8
  | .tdiv i x px a b bp ap np j m ei ex q ms c p2 p3 cp rp hp p, n, X, k, sc, W, hX, h => by
    simp only [wS, Bool.and_eq_true, decide_eq_true_eq] at h
    obtain ⟨⟨⟨⟨⟨⟨⟨⟨⟨h1, h2⟩, h3⟩, h4⟩, h5⟩, h6⟩, h7⟩, h8⟩, h9⟩, h10⟩ := h
    exact tdiv_ok hX (fun Y hY => (sE Γ N a hY h3).1) (fun Y hY => (sE Γ N b hY h4).1) h1 h2 h5 h6 h7 h8 h9 h10
  | .calp a p1 p2 p, n, X, k, sc, W, hX, h => by
    simp only [wS] at h
    cases h
theorem sSs (Γ : Gam) (N : List Str) : ∀ (r : MSs) {n : Nms} {X : Cx} {k : Nat} {sc : Scope} {W : WX}, CokS X Γ n k N sc W → wSs N n r sc = true → PSs X (eSs r) (dSs Γ X.K r W)
  | .nil, n, X, k, sc, W, hX, h => pss_nil
  | .cons s .nil, n, X, k, sc, W, hX, h => by
    simp only [wSs, Bool.and_eq_true] at h
    exact pss_one (sS Γ N s hX h.1)
  | .cons s (.cons s2 r), n, X, k, sc, W, hX, h => by
    have h' : (wS N n s sc && wSs N n (.cons s2 r) sc) = true := by rw [wSs] at h; exact h
    rw [Bool.and_eq_true] at h'
    exact pss_cons (sS Γ N s hX h'.1) (sSs Γ N (.cons s2 r) hX h'.2)
end
/-! ### a def -/
theorem cok_def {P : Program} {w : World} {K : Frag} {mg : Str → Option Value} {base : Heap} {Γ : Gam} {n : Nms} {k : Nat} {N ps : List Str} {qual : Str} {sc : Scope} {f : Addr} {cd : Value} {A : Around} {outer : List Env} {s : Shared} {H : Hp} {E : XK}
    (G : GamOk Γ n k P w K mg base) (S : FnScope N ps sc) (hr : Room k (A.deeper (envOfC qual sc s.heap.objs.size f cd)))
    (hlm : ∀ q, n.lq = some q → qual ++ ".<locals>." = q ∧ Room (k + 2) (A.deeper (envOfC qual sc s.heap.objs.size f cd)) ∧ ∃ c tb, cd = .ref c ∧ LamX.TabB base mg c tb ∧ (tb, q ++ "<lambda>") ∈ Γ.tb ∧ ∀ p ∈ Γ.tb, p.1 = tb → p.2 = q ++ "<lambda>") :
    CokS (cxOf (L2.CX P w) P w K mg base N qual sc f cd A outer s H E) Γ n k N sc (fun c d _ H => E c d H) where
  eN := rfl
  nd := S.nd
  eSc := rfl
  calm := rfl
  room := hr
  gam := G
  tk := takes_of rfl rfl rfl rfl
  lcl := fun x hx => ⟨hx, .inl rfl⟩
  pas := passes_of rfl
  lm := hlm
  stk := rfl
  frm := rfl
  exn := rfl
  pasAt := L2H.passesAt_of rfl
/-- a def's text: its names, its body -/
structure Txt (N ps : List Str) (n : Nms) (st : Stmt) (m : MSs) : Prop where
  sc : FnScope N ps (defScope st)
  eq : eSs m = defBody st
  wf : wSs N n m (defScope st) = true
theorem def_ok {P : Program} {w : World} {K : Frag} {mg : Str → Option Value} {base : Heap} {Γ : Gam} {n : Nms} {k : Nat} {N ps : List Str} {x qual : Str} {st : Stmt} {m : MSs} {f : Addr} {oc : Value} {od an : Option Addr} {osl : Array (Option Value)} {dV kV doc pm cdv ct : Value} {sp : Sp}
    (T : Txt N ps n st m) (hq : n.lq = none) (lk : K.lookup f = some ⟨oc, od, .func (PySem.W.fnOf x qual (defArgs st) (defBody st) (defScope st) dV kV doc pm an cdv ct), osl⟩) (hcd : PySem.W.codeIn K cdv qual = true) (G : GamOk Γ n k P w K mg base)
    (len : ∀ vs H Q E, sp vs H Q E → vs.length = ps.length)
    (h : ∀ (vs : List V) (H : Hp) (Q : VK) (E : XK), sp vs H Q E → dSs Γ K m (fun c d _ H => E c d H) { nx := fun _ H' => Q .non H', rt := Q } (start N vs) H) :
    FnOk P w K mg base (L2.CX P w) (k + 1) f (PySem.W.fnOf x qual (defArgs st) (defBody st) (defScope st) dV kV doc pm an cdv ct) ps sp := by
  refine fn_of lk hcd T.sc len fun A outer s H vs Q E hr hsp => ⟨_, ?_, h vs H Q E hsp⟩
  have q := sSs Γ N m (X := cxOf (L2.CX P w) P w K mg base N qual (defScope st) f cdv A outer s H E) (cok_def G T.sc hr fun q e => by rw [hq] at e; cases e) T.wf
  rw [T.eq] at q
  exact q
/-- .. that makes lambdas -/
theorem def_okL {P : Program} {w : World} {K : Frag} {mg : Str → Option Value} {base : Heap} {Γ : Gam} {n : Nms} {k : Nat} {N ps : List Str} {x qual : Str} {st : Stmt} {m : MSs} {f : Addr} {oc : Value} {od an : Option Addr} {osl : Array (Option Value)} {dV kV doc pm cdv ct : Value} {sp : Sp}
    (T : Txt N ps n st m) {c tb : Addr} (hq : n.lq = some (qual ++ ".<locals>.")) (hcv : cdv = .ref c) (hT : LamX.TabB base mg c tb) (hin : (tb, qual ++ ".<locals>." ++ "<lambda>") ∈ Γ.tb) (hu : ∀ p ∈ Γ.tb, p.1 = tb → p.2 = qual ++ ".<locals>." ++ "<lambda>") (lk : K.lookup f = some ⟨oc, od, .func (PySem.W.fnOf x qual (defArgs st) (defBody st) (defScope st) dV kV doc pm an cdv ct), osl⟩) (hcd : PySem.W.codeIn K cdv qual = true) (G : GamOk Γ n k P w K mg base)
    (len : ∀ vs H Q E, sp vs H Q E → vs.length = ps.length)
    (h : ∀ (vs : List V) (H : Hp) (Q : VK) (E : XK), sp vs H Q E → dSs Γ K m (fun c d _ H => E c d H) { nx := fun _ H' => Q .non H', rt := Q } (start N vs) H) :
    FnOk P w K mg base (L2.CX P w) (k + 2 + 1) f (PySem.W.fnOf x qual (defArgs st) (defBody st) (defScope st) dV kV doc pm an cdv ct) ps sp := by
  refine fn_of lk hcd T.sc len fun A outer s H vs Q E hr hsp => ⟨_, ?_, h vs H Q E hsp⟩
  have q := sSs Γ N m (X := cxOf (L2.CX P w) P w K mg base N qual (defScope st) f cdv A outer s H E) (cok_def G T.sc (hr.mono (by omega)) fun q e => by rw [hq] at e; cases e; exact ⟨rfl, hr, c, tb, hcv, hT, hin, hu⟩) T.wf
  rw [T.eq] at q
  exact q
end Rf
namespace Rf
open PySem PySem.Spec PyProof.Rows L2

/-! ### a def that calls the lambda that it gets, in a try -/
theorem PE.weak {X : Cx} {e : Expr} {t : TE} (h : PE X e t) : PE X e (fun σ H Q => ∃ Q' : VK, (∀ v H', Q' v H' → Q v H') ∧ t σ H Q') :=
  ⟨fun pins s σ H Q I ⟨Q', hQ, q⟩ => thn (h.run pins s σ H Q' I q) fun u s1 ⟨v, H1, I1, r, q1⟩ => ⟨v, H1, I1, r, hQ v H1 q1⟩⟩
/-- what its body is to do, the lambda's reading being tl -/
def kindS (Γ : Gam) (K : Frag) (N : List Str) (c : Value) (i j : Nat) (m1 : MS) (ms : MSs) (f c' : Addr) (q : Str) (tl : XK → Hp → VK → Prop) (H : Hp) (Q : VK) : Prop :=
  dS Γ K m1 (fun _ _ _ _ => False) { nx := fun σ1 H1 => ∃ (E : XK) (Q' : VK),
    (∀ cls d σ' H', E cls d H' → wLen σ1.length (wKeep K c i (fun _ => tAsg (tVar i) (gName j)) (fun _ _ _ _ => False) { nx := dSs Γ K ms (fun _ _ _ _ => False) { nx := fun _ H' => Q .non H', rt := Q }, rt := Q }) cls d σ' H') ∧
    (∀ v H', Q' v H' → dSs Γ K ms (fun _ _ _ _ => False) { nx := fun _ H' => Q .non H', rt := Q } σ1 H') ∧ σ1[0]? = some (some (.ref f)) ∧ H1 c' = some (LamX.CodeO c' q) ∧ tl E H1 Q', rt := Q } (start N [.ref f]) H
theorem kind_ok {P : Program} {w : World} {K : Frag} {mg : Str → Option Value} {base : Heap} {Γ : Gam} {n : Nms} {k : Nat} {N : List Str} {a x xe m y : Str} {st : Stmt} {m1 : MS} {ms : MSs} {gi i j : Nat} {p1 p2 p3 np py pv pa hp p : Pos} {v : V} {xx : Str}
    {f : Addr} {oc : Value} {od an : Option Addr} {osl : Array (Option Value)} {dV kV doc pm cdv ct : Value} {TT : (XK → Hp → VK → Prop) → Hp → VK → Prop}
    (S : FnScope N [a] (defScope st)) (eq : eSs (.cons m1 (.cons (.trk (.cons (.calp a p1 p2 p3) .nil) gi xe np i m j y py pv pa hp p) ms)) = defBody st)
    (w1 : wS N n m1 (defScope st) = true) (w2 : wS N n (.trk .nil gi xe np i m j y py pv pa hp p) (defScope st) = true) (w3 : wSs N n ms (defScope st) = true) (hms : ∀ s r, ms = .cons s r → True)
    (ha : okName (defScope st) a [.local, .cell, .free] = true) (hx : (x == ("__debug__" : Str)) = false) (hq : n.lq = none) (hNa : N[0]? = some a)
    (lk : K.lookup f = some ⟨oc, od, .func (PySem.W.fnOf x x (defArgs st) (defBody st) (defScope st) dV kV doc pm an cdv ct), osl⟩) (hcd : PySem.W.codeIn K cdv x = true) (hk : PySem.W.keepIn K (.ref f) = true) (hm : mg x = some (.ref f))
    (hb : L2.Binds K (PySem.W.fnOf x x (defArgs st) (defBody st) (defScope st) dV kV doc pm an cdv ct) [a] []) (G : GamOk Γ n (k + 1) P w K mg base) (ev : Γ.glo[gi]? = some (xx, v)) (hv : isCls v = true)
    (h : ∀ (f c' : Addr) (q : Str) (tl : XK → Hp → VK → Prop) (H : Hp) (Q : VK), H c' = some (LamX.CodeO c' q) → TT tl H Q → kindS Γ K N (clsOf v) i j m1 ms f c' q tl H Q) :
    LamOk P w K mg base k x TT := by
  intro X e1 e2 e3 e4 e5 T c tb body scope t p' lp pos hg TB hcode hin hu hr L hbody
  subst e1 e2 e3 e4 e5
  have wm : okName (defScope st) m [.local] = true ∧ N[i]? = some m ∧ N[j]? = some y ∧ isLocalB (defScope st) m = true ∧ okName (defScope st) y [.local, .cell] = true ∧ n.glo[gi]? = some xe ∧ okName (defScope st) xe [.globalImplicit] = true := by
    simp only [wS, Bool.and_eq_true, decide_eq_true_eq] at w2
    obtain ⟨⟨⟨⟨⟨⟨⟨h1, h2⟩, h3⟩, h4⟩, h5⟩, h6⟩, h7⟩, h8⟩ := w2
    exact ⟨h8, h4, h6, h5, h7, h2, h3⟩
  obtain ⟨hm8, hm4, hm6, hm5, hm7, hm2, hm3⟩ := wm
  have vis : Vis (defScope st) a := by
    obtain ⟨q, hq, e⟩ := okName_ks ha
    simp only [List.mem_cons, List.not_mem_nil, or_false] at hq
    rcases hq with rfl | rfl | rfl
    · exact .inl e
    · exact .inr (.inl e)
    · exact .inr (.inr e)
  refine LamX.pe_lamcall (k := k) (Ng := N) (a := a) hg hm hk lk hcd hb S hNa vis ?_ TB hcode hin hu hr L rfl (fun _ _ _ _ _ => rfl) hbody hx (okName_db ha) (okName_cd ha)
  intro g c' s H Q tl act hc tt
  have wish := h g c' _ tl H Q hc tt
  obtain ⟨Y, hY⟩ : ∃ Y, Y = (cxOf C8.CX0 X.prog X.w X.K X.mg X.base N x (defScope st) f cdv X.A X.stack s H C8.E0).nox := ⟨_, rfl⟩
  have C : CokS Y Γ n (k + 1) N (defScope st) (fun _ _ _ _ => False) := by
    subst hY
    exact ⟨⟨rfl, S.nd, rfl, rfl, hr.deeper _, G, never_takes, fun x hx => ⟨hx, .inl rfl⟩, PassesOwn.never, fun q e => by rw [hq] at e; cases e⟩, rfl, rfl, rfl, fun _ => PassesOwnAt.never⟩
  have KY : Y.K = X.K := by subst hY; rfl
  have s1 := sS Γ N m1 C w1
  have s3 := sSs Γ N ms C w3
  rw [KY] at s1 s3
  have s2 : PS Y (eS (.trk (.cons (.calp a p1 p2 p3) .nil) gi xe np i m j y py pv pa hp p)) (fun D σ H => ∃ (E : XK) (Q' : VK), (∀ cls d σ' H', E cls d H' → wLen σ.length (wKeep X.K (clsOf v) i (fun _ => tAsg (tVar i) (gName j)) (fun _ _ _ _ => False) D) cls d σ' H') ∧
      (∀ v H', Q' v H' → D.nx σ H') ∧ σ[0]? = some (some (.ref g)) ∧ H c' = some (LamX.CodeO c' (X.env.qual ++ "<lambda>")) ∧ tl E H Q') := by
    obtain ⟨v', ev', hv'⟩ := names_of C.toCok hm2 hm3
    have : v' = v := by
      rw [ev] at ev'
      cases ev'
      rfl
    subst this
    obtain ⟨q, hq', ey⟩ := okName_ks hm7
    have hl : L2.Loc (defScope st) y := by
      simp only [List.mem_cons, List.not_mem_nil, or_false] at hq'
      rcases hq' with rfl | rfl
      · exact .inl ey
      · exact .inr ey
    obtain ⟨l1, l2⟩ := C.lcl y hl
    have lm := local_of hm5
    refine ⟨fun pins s' σ H' D I hw => ?_⟩
    have key := ps_try_keep (X := Y) (Wout := fun _ _ _ _ => False) (body := [.Expr (.Call (.Name a p1) [] [] p2) p3]) (np := np) (hp := hp) (pos := p) (b₀ := .Assign [.Name y py] (.Name m pv) pa) (suite := []) (ts := fun _ => tAsg (tVar i) (gName j))
      (tb := fun W' D σ H => ∃ (E : XK) (Q' : VK), (∀ cls d σ' H', E cls d H' → W' cls d σ' H') ∧ (∀ v H', Q' v H' → D.nx σ H') ∧ σ[0]? = some (some (.ref g)) ∧ H c' = some (LamX.CodeO c' (X.env.qual ++ "<lambda>")) ∧ tl E H Q')
      C.stk C.frm C.exn (by rw [C.eN]; exact C.nd) (by rw [C.eN]; exact hm4) (by show Y.env.scope.names.lookup m = _; rw [C.eSc]; exact lm) (hv' hv) C.tk
      (fun W' pn xe' tk q1 q2 => ?_)
      (fun a pn => pss_one (ps_asg (pe_var (by show Y.N[i]? = _; rw [C.eN]; exact hm4) (.inl (by show Y.env.scope.names.lookup m = _; rw [C.eSc]; exact lm)) (okName_db hm8) (okName_cd hm8)) (pg_name (by show Y.N.Nodup; rw [C.eN]; exact C.nd) (by show Y.N[j]? = _; rw [C.eN]; exact hm6) (by show L2.Loc Y.env.scope y; rw [C.eSc]; exact l1) (by show Y.fn y = true ∨ Y.env.scope.names.lookup y = _; rw [C.eSc]; exact l2)) rfl rfl rfl))
    · refine key.run pins s' σ H' D I ?_
      rw [← I.len]
      rw [KY]
      exact hw
    · refine pss_one ⟨fun pins s σ H D I hw => ?_⟩
      obtain ⟨E, Q', w1, w2, w3, w4, w5⟩ := hw
      subst hY
      exact (ps_expr (PE.weak (act W' pn xe' E p1 p2 tk w1)) rfl).run pins s σ H D I ⟨Q', fun v H' q => w2 v H' q, w3, w4, w5⟩
  rw [← eq]
  rw [hY] at s1 s2 s3
  exact ⟨_, pss_cons s1 (pss_cons s2 s3), wish⟩
end Rf
namespace Rf
open PySem PySem.Spec PyProof.Rows L2

/-! ### rules for readings -/
/-- all that is known stays so -/
def Kp (H H' : Hp) : Prop := ∀ b o, H b = some o → H' b = some o
theorem Kp.refl (H : Hp) : Kp H H := fun _ _ e => e
theorem Kp.trans {H H1 H2 : Hp} (a : Kp H H1) (b : Kp H1 H2) : Kp H H2 := fun c o e => b c o (a c o e)
theorem Kp.new {H : Hp} {a : Addr} {o : HO} (h : H a = none) : Kp H (upd H a o) := fun b u e => by
  rw [upd_ne (fun z => by rw [z, h] at e; cases e)]
  exact e
theorem Kp.free {H H' : Hp} (k : Kp H H') {a : Addr} (h : H' a = none) : H a = none := by
  cases q : H a with
  | none => rfl
  | some o =>
    rw [k a o q] at h
    cases h
/-- .. but what stands at r -/
def KpX (r : Addr) (H H' : Hp) : Prop := ∀ b o, b ≠ r → H b = some o → H' b = some o
theorem KpX.refl (r : Addr) (H : Hp) : KpX r H H := fun _ _ _ e => e
theorem KpX.trans {r : Addr} {H H1 H2 : Hp} (a : KpX r H H1) (b : KpX r H1 H2) : KpX r H H2 := fun c o n e => b c o n (a c o n e)
theorem Kp.kx {r : Addr} {H H' : Hp} (k : Kp H H') : KpX r H H' := fun b o _ e => k b o e
theorem KpX.set {r : Addr} {H : Hp} {o : HO} : KpX r H (upd H r o) := fun b u n e => by
  rw [upd_ne n]
  exact e
theorem KpX.kp {r : Addr} {H H' : Hp} (k : KpX r H H') (h : H r = none) : Kp H H' := fun b o e => k b o (fun z => by rw [z, h] at e; cases e) e
theorem ite_t {c : Bool} {A B : Prop} (e : c = true) (h : A) : if c = true then A else B := by rw [if_pos e]; exact h
theorem ite_f {c : Bool} {A B : Prop} (e : c = false) (h : B) : if c = true then A else B := by rw [e]; exact h
def rng (lo : Int) (n : Nat) : List Int := (List.range n).map fun i => lo + (i : Nat)
theorem rng_succ (lo : Int) (n : Nat) : rng lo (n + 1) = rng lo n ++ [lo + n] := by
  unfold rng
  rw [List.range_succ, List.map_append]
  rfl
theorem rng_len (lo : Int) (n : Nat) : (rng lo n).length = n := by simp [rng]
theorem len_filter_rng {p : Int → Bool} {lo : Int} {n : Nat} : ((rng lo n).filter p).length ≤ n := Nat.le_trans (List.length_filter_le ..) (by rw [rng_len]; exact Nat.le_refl _)
theorem set_twice {σ : L2.St} {i : Nat} {x y : Option V} : (σ.set i x).set i y = σ.set i y := List.set_set ..
/-- [k for k in range(..) if p(k)] -/
theorem lc_filter {lo : Int} {n i : Nat} {tt : TT} {σ : L2.St} {H1 : Hp} {D : Addr} {Qd : Hp → Prop} (p : Int → Bool) (hn : n < sizeLine) (hi : i < σ.length) (hD : H1 D = none)
    (ht : ∀ k : Int, lo ≤ k → k < lo + n → ∀ (H' : Hp) (R : Bool → Hp → Prop), Kp H1 H' → R (p k) H' → tt ((wipe σ [i]).set i (some (.int k))) H' R)
    (hQ : ∀ H', Kp H1 H' → H' D = some (.lst (((rng lo n).filter p).map V.int)) → Qd H') :
    ∃ W : Nat → Nat → Hp → Prop, (∃ m, W 0 m (upd H1 D (.lst []))) ∧ ∀ i' m H, W i' m H →
      ((Itr lo n).stop i' H ∧ Qd H) ∨ ((Itr lo n).go i' H ∧ ∃ Nx : Hp → Prop, (∀ H', Nx H' → ∃ m', m' < m ∧ W (i' + 1) m' H') ∧ ∀ x H', (Itr lo n).yld i' H x H' → gName i x (wipe σ [i]) H' fun σ2 H2 => wipe σ2 [i] = wipe σ [i] ∧ tt σ2 H2 fun b H3 =>
        if b = true then tVar i σ2 H3 fun y H4 => ∃ acc, H4 D = some (.lst acc) ∧ acc.length < sizeLine ∧ Nx (upd H4 D (.lst (acc ++ [y]))) else Nx H3) := by
  refine lc_range (Pv := fun j H' => Kp H1 H' ∧ H' D = some (.lst (((rng lo j).filter p).map V.int))) ⟨Kp.new hD, upd_same⟩ (fun j H' hj hP => ?_) (fun H' hP => hQ H' hP.1 hP.2)
  obtain ⟨kp, e⟩ := hP
  refine ⟨?_, ht (lo + j) (by omega) (by omega) H' _ kp ?_⟩
  · show ((σ.set i none).set i _).set i none = σ.set i none
    rw [set_twice, set_twice]
  · cases hp : p (lo + j) with
    | true =>
      refine ite_t rfl ⟨.int (lo + j), ?_, _, e, ?_, fun b o eb => ?_, ?_⟩
      · exact List.getElem?_set_self (by show i < (σ.set i none).length; rw [List.length_set]; exact hi)
      · rw [List.length_map]
        have := @len_filter_rng p lo j
        omega
      · have nb : b ≠ D := fun z => by
          rw [z, hD] at eb
          cases eb
        rw [upd_ne nb]
        exact kp b o eb
      · rw [upd_same, rng_succ, List.filter_append, List.map_append]
        have e2 : [lo + (j : Int)].filter p = [lo + (j : Int)] := by rw [List.filter_cons, if_pos hp]; rfl
        rw [e2]
        rfl
    | false =>
      refine ite_f rfl ⟨kp, ?_⟩
      rw [rng_succ, List.filter_append]
      have e2 : [lo + (j : Int)].filter p = [] := by rw [List.filter_cons, if_neg (by rw [hp]; exact Bool.false_ne_true)]; rfl
      rw [e2, List.append_nil]
      exact e
def tlN : Nat → MSs → MSs
  | n + 1, .cons _ r => tlN n r
  | _, r => r
def hd1 : MSs → MS
  | .cons s _ => s
  | .nil => .pass ⟨0, 0, 0, 0⟩
theorem atI_of {α : Type} {xs : List α} {i : Int} (h0 : 0 ≤ i) (h1 : i < xs.length) : atI xs i = xs[i.toNat]? := by
  unfold atI ixN
  rw [if_pos h0, if_pos h1]
  rfl
theorem atI_head {α : Type} (x : α) (r : List α) : atI (x :: r) 0 = some x := atI_of (Int.le_refl 0) (by simp)
/-! ### sizes -/
def Sm (i : Int) : Prop := i.natAbs < 2 ^ 1000
theorem Sm.bits {i : Int} (h : Sm i) : Builtin.Int.intBits i ≤ 1000 := by
  unfold Builtin.Int.intBits
  split
  · omega
  · rename_i h0
    have h1 : i.natAbs ≠ 0 := fun z => h0 (by simpa using z)
    have h2 := (Nat.log2_lt h1).mpr h
    omega
theorem Sm.mul {i j : Int} (h : Sm i) (k : Sm j) : IntMulOk i j := IntMulOk.of_bits (Nat.le_trans h.bits (by decide)) (Nat.le_trans k.bits (by decide))
theorem Sm.div {i j : Int} (h : Sm j) : Builtin.divisionGoesByPylong i j = false := PyProof.noPylong_of_log2 (by
  by_cases h0 : j.natAbs = 0
  · rw [h0]; decide +kernel
  · have h2 := (Nat.log2_lt h0).mpr h
    omega)
/-- below 2^k -/
def Bd (k : Nat) (i : Int) : Prop := i.natAbs < 2 ^ k
theorem Bd.mono {j k : Nat} {i : Int} (h : Bd j i) (hk : j ≤ k) : Bd k i := Nat.lt_of_lt_of_le h (Nat.pow_le_pow_right (by decide) hk)
theorem Bd.sm {k : Nat} {i : Int} (h : Bd k i) (hk : k ≤ 1000) : Sm i := h.mono hk
theorem Bd.mul {j k : Nat} {x y : Int} (h : Bd j x) (h' : Bd k y) : Bd (j + k) (x * y) := by
  unfold Bd
  rw [Int.natAbs_mul, Nat.pow_add]
  exact Nat.mul_lt_mul'' h h'
theorem Bd.add {k : Nat} {x y : Int} (h : Bd k x) (h' : Bd k y) : Bd (k + 1) (x + y) := by
  unfold Bd at *
  have := Int.natAbs_add_le x y
  rw [Nat.pow_succ]
  omega
theorem Bd.neg {k : Nat} {x : Int} (h : Bd k x) : Bd k (-x) := by
  unfold Bd
  rw [Int.natAbs_neg]
  exact h
theorem Bd.sub {k : Nat} {x y : Int} (h : Bd k x) (h' : Bd k y) : Bd (k + 1) (x - y) := by
  rw [Int.sub_eq_add_neg]
  exact h.add h'.neg
theorem Bd.le {k : Nat} {x y : Int} (h : Bd k x) (e : y.natAbs ≤ x.natAbs) : Bd k y := Nat.lt_of_le_of_lt e h
end Rf
namespace Rf
open PySem PySem.Spec PyProof.Rows L2
/-! ### the program's defs, wired -/
structure FD where
  ad : Addr
  fd : FuncData
/-- ways of calling: so many values, these keywords, how they come in the parameters' order -/
abbrev KB : Type := List (Nat × List Str × (List V → List V → List V))
abbrev en (r : FD) (ps : List Str) (sp : Sp) (k : Nat) (kb : KB := []) : FnE := ⟨r.ad, r.fd, ps, sp, k, [], [], kb⟩
/-- that a def may be called so -/
def KbOk (K : Frag) (fd : FuncData) (ps : List Str) (kb : KB) : Prop := ∀ q ∈ kb, ∃ g, KBn K fd ps q.1 q.2.1 g q.2.2
def AllF {α : Type} (p : α → Prop) : List α → Prop
  | [] => True
  | a :: r => p a ∧ AllF p r
theorem AllF.mem {α : Type} {p : α → Prop} : ∀ {l : List α}, AllF p l → ∀ a ∈ l, p a
  | [], _, a, h => by cases h
  | b :: r, ⟨h1, h2⟩, a, h => by
    rcases List.mem_cons.mp h with e | e
    · rw [e]; exact h1
    · exact AllF.mem h2 a e
theorem gam_ok {Γ : Gam} {n : Nms} {k : Nat} {P : Program} {w : World} {K : Frag} {mg : Str → Option Value} {base : Heap} (hn : Γ.fn.map (·.1) = n.fn ∧ Γ.glo.map (·.1) = n.glo ∧ Γ.cl.map (·.1) = n.cl ∧ Γ.lam.map (·.1) = n.lam ∧ Γ.exc.map (·.1) = n.exc)
    (fn : AllF (fun q : Str × FnE => FnOkE P w K mg base q.2 ∧ q.2.k ≤ k ∧ mg q.1 = some (.ref q.2.f)) Γ.fn) (glo : AllF (fun q : Str × V => ∃ u, RelV q.2 u ∧ (mg q.1 = some u ∨ (mg q.1 = none ∧ bootBuiltins q.1 = some u ∧ q.1 ≠ "__name__"))) Γ.glo)
    (cl : AllF (fun q : Str × Addr × FnE => FnOkE P w K mg base q.2.2 ∧ q.2.2.k + 1 ≤ k ∧ Mk K q.2.1 q.2.2.f ∧ mg q.1 = some (.ref q.2.1)) Γ.cl) (att : ∀ C f, Γ.att C f → Cls K C ∧ NoAttr K C f) (mt : ∀ C m e, Γ.mt C m e → FnOkE P w K mg base e ∧ e.k ≤ k ∧ Cls K C ∧ Meth K C m e.f)
    (eq : ∀ C e, Γ.eq C e → FnOkE P w K mg base e ∧ e.k + 1 ≤ k ∧ PySem.W.findIn K (.ref C) "__eq__" = some (some (.ref e.f)) ∧ PySem.W.isFn K (.ref e.f) = true ∧ PySem.W.findIn K (.ref C) "__ne__" = some (some (.builtin "object.__ne__")) ∧ PySem.W.subIn K (.ref C) (.type "object") = some true) (blt : AllF (fun x : Str => mg x = none) n.blt)
    (lam : AllF (fun q : Str × ((XK → Hp → VK → Prop) → Hp → VK → Prop) => LamOk P w K mg base k q.1 q.2) Γ.lam) (exc : AllF (fun q : Str × Addr => ExcF K mg q.1 q.2) Γ.exc) (rp : ∀ C e, Γ.rp C e → FnOkE P w K mg base e ∧ e.k + 1 ≤ k ∧ PySem.W.findIn K (.ref C) "__repr__" = some (some (.ref e.f)) ∧ PySem.W.isFn K (.ref e.f) = true := by intro _ _ h; exact h.elim) : GamOk Γ n k P w K mg base :=
  ⟨hn.1, hn.2.1, hn.2.2.1, fun x e h => fn.mem (x, e) h, fun x v h => glo.mem (x, v) h, fun x C e h => cl.mem (x, C, e) h, att, mt, eq, fun x h => blt.mem x h, hn.2.2.2.1, fun x TT h => lam.mem (x, TT) h, hn.2.2.2.2, fun x C h => exc.mem (x, C) h, rp⟩
section
variable {P : Program} {w : World} {K : Frag} {mg : Str → Option Value} {base : Heap} {Γ : Gam} {n : Nms} {k : Nat} {N ps : List Str} {x qual : Str} {st : Stmt} {m : MSs} {r : FD} {dvs : List V} {sp : Sp}
theorem okE {params : Arguments} {body : List Stmt} {scope : Scope} {k : Nat} (F : FunD K x qual params body scope dvs [] r.ad r.fd) {kb : KB} (hkb : KbOk K r.fd ps kb) (b : Binds K r.fd ps []) (ok : FnOk P w K mg base (L2.CX P w) k r.ad r.fd ps sp) : FnOkE P w K mg base (en r ps sp k kb) :=
  ⟨ok, F.kp, fun j => by
    show Binds K r.fd ps (([] : List Value).drop j)
    rw [List.drop_nil]
    exact b, .nil, hkb⟩
theorem def_okF (F : FunD K x qual (defArgs st) (defBody st) (defScope st) dvs [] r.ad r.fd) (b : Binds K r.fd ps []) (T : Txt N ps n st m) (G : GamOk Γ n k P w K mg base) (len : ∀ vs H Q E, sp vs H Q E → vs.length = ps.length)
    (h : ∀ (vs : List V) (H : Hp) (Q : VK) (E : XK), sp vs H Q E → dSs Γ K m (fun c d _ H => E c d H) { nx := fun _ H' => Q .non H', rt := Q } (start N vs) H) (hq : n.lq = none) {kb : KB} (hkb : KbOk K r.fd ps kb := by intro q hq; cases hq) : FnOkE P w K mg base (en r ps sp (k + 1) kb) := by
  refine okE F hkb b ?_
  obtain ⟨oc, od, dV, kV, doc, pm, an, cdv, ct, osl, e, lk, hcd, _, _⟩ := F.ex
  rw [e] at lk ⊢
  exact def_ok T hq lk hcd G len h
theorem def_okLF {p : He.Defn} (F : FunD K x qual (defArgs st) (defBody st) (defScope st) dvs [] r.ad r.fd) (b : Binds K r.fd ps []) (T : Txt N ps n st m) (G : GamOk Γ n k P w K mg base) (len : ∀ vs H Q E, sp vs H Q E → vs.length = ps.length)
    (h : ∀ (vs : List V) (H : Hp) (Q : VK) (E : XK), sp vs H Q E → dSs Γ K m (fun c d _ H => E c d H) { nx := fun _ H' => Q .non H', rt := Q } (start N vs) H) (hq : n.lq = some (qual ++ ".<locals>.")) (hp : He.fAd K p = r.ad) (TB : LamX.TabB base mg (He.cT K p).1 (He.cT K p).2)
    (hT : Γ.tb = [((He.cT K p).2, qual ++ ".<locals>." ++ "<lambda>")]) {kb : KB} (hkb : KbOk K r.fd ps kb := by intro q hq; cases hq) : FnOkE P w K mg base (en r ps sp (k + 2 + 1) kb) := by
  refine okE F hkb b ?_
  obtain ⟨oc, od, dV, kV, doc, pm, an, cdv, ct, osl, e, lk, hcd, _, _⟩ := F.ex
  obtain ⟨c, hc⟩ := He.codeIn_ref hcd
  have ec : He.codeOf K p = c := He.codeOf_eq (fd := r.fd) (by rw [hp]; exact lk) (by rw [e]; exact hc)
  rw [e] at lk ⊢
  refine def_okL T hq (c := c) (tb := (He.cT K p).2) hc (by rw [← ec]; exact TB) (by rw [hT]; exact List.mem_cons_self) (fun q hq _ => ?_) lk hcd G len h
  rw [hT] at hq
  rw [List.mem_singleton.mp hq]
end
theorem kb_nil {K : Frag} {fd : FuncData} {ps : List Str} : KbOk K fd ps [] := fun q hq => by cases hq
theorem kb_cons {K : Frag} {fd : FuncData} {ps : List Str} {n : Nat} {ks : List Str} {gV : List V → List V → List V} {r : KB} (h : ∃ g, KBn K fd ps n ks g gV) (t : KbOk K fd ps r) : KbOk K fd ps ((n, ks, gV) :: r) := fun q hq => by
  rcases List.mem_cons.mp hq with e | e
  · rw [e]; exact h
  · exact t q e
theorem kbN {K : Frag} {x qual : Str} {params : Arguments} {body : List Stmt} {scope : Scope} {kws : List (Str × V)} {f : Addr} {fd : FuncData} {ps : List Str} (F : FunD K x qual params body scope [] kws f fd) (n : Nat) (ks : List Str) (g : {α : Type} → List α → List α → List α)
    (hrel : ∀ {vs zs : List V} {us ws : List Value}, Vals vs us → Vals zs ws → Vals (g vs zs) (g us ws))
    (h : ∀ (kV doc pm : Value) (an : Option Addr) (cdv ct : Value) (us ws : List Value), us.length = n → ws.length = ks.length → bindArgs (PySem.W.fnOf x qual params body scope .none kV doc pm an cdv ct) ⟨us, ks.zip ws⟩ = pure (ps.zip (g us ws))) :
    KBn K fd ps n ks (fun us ws => g us ws) (fun vs zs => g vs zs) := by
  obtain ⟨oc, od, dV, kV, doc, pm, an, cdv, ct, osl, rfl, lk, hcd, hD, hK⟩ := F.ex
  rcases hD with ⟨_, rfl⟩ | ⟨e, _⟩
  · exact ⟨fun s us ws X l1 l2 => .of_eq (h kV doc pm an cdv ct us ws l1 l2), fun r1 r2 => hrel r1 r2⟩
  · exact absurd rfl e
/-! ### classes of exceptions, told by a Bool -/
def excCB (K : Frag) (D : Addr) : Bool := decide (PySem.W.findIn K (.ref D) "__getattribute__" = some (some (.builtin "BaseException.__getattribute__"))) && (decide (PySem.W.findIn K (.ref D) "__getattr__" = some none) && (decide (PySem.W.subIn K (.ref D) (.type "BaseException") = some true) && (PySem.W.hasDictIn K D &&
  (decide (PySem.W.findIn K (.ref D) "__class__" = some (some (.builtin "object.__class__"))) && (decide (PySem.W.specialIn K (.builtin "object.__class__") "__get__" = some (some (.builtin "getset_descriptor.__get__"))) && (decide (PySem.W.takesIn K (.builtin "object.__class__") = some true) && decide (PySem.W.mroIn K D (.type "object") = some true)))))))
theorem excC_of {K : Frag} {D : Addr} (h : excCB K D = true) : ExcC K D := by
  obtain ⟨h1, h⟩ := He.ba h
  obtain ⟨h2, h⟩ := He.ba h
  obtain ⟨h3, h⟩ := He.ba h
  obtain ⟨h4, h⟩ := He.ba h
  obtain ⟨h5, h⟩ := He.ba h
  obtain ⟨h6, h⟩ := He.ba h
  obtain ⟨h7, h8⟩ := He.ba h
  exact ⟨of_decide_eq_true h1, of_decide_eq_true h2, of_decide_eq_true h3, h4, of_decide_eq_true h5, of_decide_eq_true h6, of_decide_eq_true h7, of_decide_eq_true h8⟩
theorem excF_of {K : Frag} {h : Heap} {mg : Str → Option Value} {x : Str} (X : K.In h) (G : h.Ns mainGlobals mg) (c : (He.Fa.exc x).ok K = true) (c2 : (He.Fa.glo x).ok K = true) : ExcF K mg x (He.ga K x) := by
  obtain ⟨h1, h2, h3, h4⟩ := He.exc_ok c
  exact ⟨He.glo_ok X G c2, h2, h3, h4, "ValueError", _, _, _, PySem.F.excBase_ValueError, h1⟩
end Rf
/-! fractions in their lowest terms; plain -/
namespace NumP
abbrev absI (i : Int) : Int := if i < 0 then -i else i
def gcI (t b : Int) : Int := (Int.gcd t b : Nat)
def lowT (t b : Int) : Int := (b.fdiv (absI b) * t).fdiv (gcI t b)
def lowB (t b : Int) : Int := (absI b).fdiv (gcI t b)
def N0 (x y : Int) : Prop := 0 < y ∧ Int.gcd x y = 1
theorem absI_nat (i : Int) : absI i = (i.natAbs : Int) := by unfold absI; split <;> omega
theorem sgn_eq {b : Int} (hz : b ≠ 0) : b.fdiv (absI b) = if b < 0 then -1 else 1 := by
  unfold absI
  split
  · exact Int.fdiv_eq_of_eq_mul_right (a := b) (b := -b) (c := -1) (by omega) (by omega)
  · exact Int.fdiv_self hz
theorem gcI_pos {t b : Int} (hz : b ≠ 0) : 0 < gcI t b := by
  unfold gcI
  have := Int.gcd_ne_zero_right (a := t) hz
  omega
theorem low_ok {t b : Int} (hz : b ≠ 0) : N0 (lowT t b) (lowB t b) ∧ lowT t b * b = t * lowB t b ∧ lowT t b * gcI t b = (if b < 0 then -1 else 1) * t ∧ lowB t b * gcI t b = absI b := by
  have hg := gcI_pos (t := t) hz
  have d1 : gcI t b ∣ t := Int.gcd_dvd_left ..
  have d2 : gcI t b ∣ b := Int.gcd_dvd_right ..
  have e1 : lowT t b * gcI t b = (if b < 0 then -1 else 1) * t := by
    unfold lowT
    rw [sgn_eq hz]
    exact Int.fdiv_mul_cancel (Int.dvd_mul_of_dvd_right d1)
  have e2 : lowB t b * gcI t b = absI b := by
    unfold lowB
    refine Int.fdiv_mul_cancel ?_
    unfold absI
    split
    · exact (Int.dvd_neg).mpr d2
    · exact d2
  have hb : 0 < absI b := by unfold absI; split <;> omega
  have pos : 0 < lowB t b := by
    rcases Int.lt_trichotomy (lowB t b) 0 with h | h | h
    · have := Int.mul_neg_of_neg_of_pos h hg
      omega
    · rw [h] at e2
      omega
    · exact h
  refine ⟨⟨pos, ?_⟩, ?_, e1, e2⟩
  · have h1 : Int.gcd (lowT t b * gcI t b) (lowB t b * gcI t b) = Int.gcd (lowT t b) (lowB t b) * (gcI t b).natAbs := Int.gcd_mul_right ..
    rw [e1, e2] at h1
    have h2 : Int.gcd ((if b < 0 then -1 else 1) * t) (absI b) = Int.gcd t b := by
      unfold Int.gcd
      congr 1
      · split <;> omega
      · rw [absI_nat]; rfl
    rw [h2] at h1
    have h3 : (gcI t b).natAbs = Int.gcd t b := rfl
    rw [h3] at h1
    have h4 : 0 < Int.gcd t b := by unfold gcI at hg; omega
    have h5 : 1 * Int.gcd t b = Int.gcd (lowT t b) (lowB t b) * Int.gcd t b := by rw [Nat.one_mul]; exact h1
    exact (Nat.eq_of_mul_eq_mul_right h4 h5).symm
  · have h1 : lowT t b * b * gcI t b = t * lowB t b * gcI t b := by
      rw [Int.mul_right_comm, e1, Int.mul_assoc t, e2]
      unfold absI
      split <;> rename_i hb' 
      · rw [Int.neg_mul, Int.one_mul, Int.neg_mul, Int.mul_neg]
      · rw [Int.one_mul]
    exact Int.eq_of_mul_eq_mul_right (by omega) h1
theorem dvd_cop {x y z : Int} (g : Int.gcd x y = 1) (h : y ∣ x * z) : y ∣ z := by
  have h1 : y.natAbs ∣ x.natAbs * z.natAbs := by rw [← Int.natAbs_mul]; exact Int.natAbs_dvd_natAbs.mpr h
  have c : Nat.Coprime y.natAbs x.natAbs := by
    have : Nat.gcd x.natAbs y.natAbs = 1 := g
    exact (Nat.gcd_comm ..).trans this
  exact Int.natAbs_dvd_natAbs.mp (Nat.Coprime.dvd_of_dvd_mul_left c h1)
theorem low_uniq {x y x' y' : Int} (h : N0 x y) (h' : N0 x' y') (e : x * y' = x' * y) : x = x' ∧ y = y' := by
  obtain ⟨p, g⟩ := h
  obtain ⟨p', g'⟩ := h'
  have d1 : y ∣ y' := by
    have h1 : y ∣ x * y' := by rw [e]; exact Int.dvd_mul_left ..
    exact dvd_cop g h1
  have d2 : y' ∣ y := by
    have h1 : y' ∣ x' * y := by rw [← e]; exact Int.dvd_mul_left ..
    exact dvd_cop g' h1
  have ey : y = y' := Int.dvd_antisymm (by omega) (by omega) d1 d2
  refine ⟨?_, ey⟩
  subst ey
  exact Int.eq_of_mul_eq_mul_right (by omega) e
/-- the fraction that has this worth -/
theorem low_is {x y t b : Int} (h : N0 x y) (hz : b ≠ 0) (e : x * b = t * y) : lowT t b = x ∧ lowB t b = y := by
  obtain ⟨n, e2, _, _⟩ := low_ok (t := t) hz
  refine low_uniq n h ?_
  have h1 : lowT t b * y * b = x * lowB t b * b := by
    rw [Int.mul_right_comm, e2, Int.mul_right_comm t, ← e, Int.mul_right_comm]
  exact Int.eq_of_mul_eq_mul_right hz h1
theorem low_le {t b : Int} (hz : b ≠ 0) : (lowT t b).natAbs ≤ t.natAbs ∧ (lowB t b).natAbs ≤ b.natAbs := by
  obtain ⟨_, _, e1, e2⟩ := low_ok (t := t) hz
  have hg := gcI_pos (t := t) hz
  have n1 : (lowT t b).natAbs * (gcI t b).natAbs = t.natAbs := by
    rw [← Int.natAbs_mul, e1]
    split <;> omega
  have n2 : (lowB t b).natAbs * (gcI t b).natAbs = b.natAbs := by
    rw [← Int.natAbs_mul, e2, absI_nat]
    omega
  have hg2 : 1 ≤ (gcI t b).natAbs := by omega
  constructor
  · rw [← n1]
    exact Nat.le_mul_of_pos_right _ hg2
  · rw [← n2]
    exact Nat.le_mul_of_pos_right _ hg2
end NumP
namespace K01
open PySem PySem.Spec PyProof.Rows L2 Rf
def top (i : Nat) : Stmt := PySem.Challenge.pw_falsesums_k01_what_is_a_field.main.body.getD i (.Pass ⟨0, 0, 0, 0⟩)
/-- NoSum.__init__(self, number): 0 self 1 number -/
abbrev s_NoSum___init__ : Stmt := inClass (top 5) 0
def n_NoSum___init__ : Nms := { fn := [], glo := ["FalseError"], cl := [], blt := [], exc := [], lam := [], lq := none }
def m_NoSum___init__ : MSs :=
 .cons (.expr (.own (.glo 0 "FalseError" ⟨14, 8, 14, 18⟩) "__init__" ⟨14, 8, 14, 27⟩ (.cons (.var 0 "self" ⟨14, 28, 14, 32⟩) (.cons (.str "no sum" 0 ⟨14, 34, 14, 42⟩) (.nil))) ⟨14, 8, 14, 43⟩) ⟨14, 8, 14, 43⟩)
 (.cons (.setA (.var 0 "self" ⟨15, 8, 15, 12⟩) "number" ⟨15, 8, 15, 19⟩ (.var 1 "number" ⟨15, 22, 15, 28⟩) ⟨15, 8, 15, 28⟩)
 (.nil))
theorem x_NoSum___init__ : Txt ["self", "number"] ["self", "number"] n_NoSum___init__ s_NoSum___init__ m_NoSum___init__ := ⟨⟨rfl, rfl, rfl, by decide +kernel, rfl, by decide +kernel, by decide +kernel⟩, by kernel_rfl, by decide +kernel⟩
/-- is_whole(thing): 0 thing -/
abbrev s_is_whole : Stmt := top 8
def n_is_whole : Nms := { fn := [], glo := ["int", "bool"], cl := [], blt := ["isinstance"], exc := [], lam := [], lq := none }
def m_is_whole : MSs :=
 .cons (.ret (.and (.cons (.blt .isinstance ⟨19, 11, 19, 21⟩ (.var 0 "thing" ⟨19, 22, 19, 27⟩) (.cons (.glo 0 "int" ⟨19, 29, 19, 32⟩) (.nil)) ⟨19, 11, 19, 33⟩) (.cons (.not (.blt .isinstance ⟨19, 43, 19, 53⟩ (.var 0 "thing" ⟨19, 54, 19, 59⟩) (.cons (.glo 1 "bool" ⟨19, 61, 19, 65⟩) (.nil)) ⟨19, 43, 19, 66⟩) ⟨19, 39, 19, 66⟩) (.nil))) ⟨19, 11, 19, 67⟩) ⟨19, 4, 19, 67⟩)
 (.nil)
theorem x_is_whole : Txt ["thing"] ["thing"] n_is_whole s_is_whole m_is_whole := ⟨⟨rfl, rfl, rfl, by decide +kernel, rfl, by decide +kernel, by decide +kernel⟩, by kernel_rfl, by decide +kernel⟩
/-- is_prime(thing): 0 thing 1 part -/
abbrev s_is_prime : Stmt := top 9
def n_is_prime : Nms := { fn := ["is_whole"], glo := ["MOST_PRIME"], cl := [], blt := ["range"], exc := [], lam := [], lq := none }
def m_is_prime : MSs :=
 .cons (.ifs (.or (.cons (.not (.call 0 "is_whole" ⟨21, 11, 21, 19⟩ (.cons (.var 0 "thing" ⟨21, 20, 21, 25⟩) (.nil)) ⟨21, 11, 21, 26⟩) ⟨21, 7, 21, 26⟩) (.cons (.not (.cmp2 (.int 2 0 ⟨21, 34, 21, 35⟩) .LtE (.var 0 "thing" ⟨21, 39, 21, 44⟩) .LtE (.glo 0 "MOST_PRIME" ⟨21, 48, 21, 58⟩) ⟨21, 34, 21, 58⟩) ⟨21, 30, 21, 58⟩) (.nil))) ⟨21, 7, 21, 58⟩)
 (.cons (.ret (.bl false 0 ⟨22, 15, 22, 20⟩) ⟨22, 8, 22, 20⟩)
 (.nil))
 (.nil) ⟨21, 4, 22, 20⟩)
 (.cons (.ret (.cmp (.lc (.var 1 "part" ⟨23, 12, 23, 16⟩) (.name 1 "part" ⟨23, 21, 23, 25⟩) (.rng2 ⟨23, 29, 23, 34⟩ (.int 2 0 ⟨23, 35, 23, 36⟩) (.var 0 "thing" ⟨23, 38, 23, 43⟩) ⟨23, 29, 23, 44⟩) (.cons (.cmp (.bin (.var 0 "thing" ⟨23, 48, 23, 53⟩) .Mod (.var 1 "part" ⟨23, 56, 23, 60⟩) ⟨23, 48, 23, 60⟩) .Eq (.int 0 0 ⟨23, 64, 23, 65⟩) ⟨23, 48, 23, 65⟩) (.nil)) [("part", 1)] ⟨.function, [(".0", .local), ("part", .local), ("thing", .free)], false, false, []⟩ ⟨23, 11, 23, 66⟩) .Eq (.lst (.nil) ⟨23, 70, 23, 72⟩) ⟨23, 11, 23, 72⟩) ⟨23, 4, 23, 72⟩)
 (.nil))
theorem x_is_prime : Txt ["thing", "part"] ["thing"] n_is_prime s_is_prime m_is_prime := ⟨⟨rfl, rfl, rfl, by decide +kernel, rfl, by decide +kernel, by decide +kernel⟩, by kernel_rfl, by decide +kernel⟩
/-- Field.__init__(self, prime): 0 self 1 prime -/
abbrev s_Field___init__ : Stmt := inClass (top 10) 0
def n_Field___init__ : Nms := { fn := ["is_whole", "is_prime"], glo := [], cl := [], blt := [], exc := ["NoField"], lam := [], lq := none }
def m_Field___init__ : MSs :=
 .cons (.ifs (.or (.cons (.not (.call 0 "is_whole" ⟨27, 15, 27, 23⟩ (.cons (.var 1 "prime" ⟨27, 24, 27, 29⟩) (.nil)) ⟨27, 15, 27, 30⟩) ⟨27, 11, 27, 30⟩) (.cons (.and (.cons (.cmp (.var 1 "prime" ⟨27, 35, 27, 40⟩) .NotEq (.int 0 0 ⟨27, 44, 27, 45⟩) ⟨27, 35, 27, 45⟩) (.cons (.not (.call 1 "is_prime" ⟨27, 55, 27, 63⟩ (.cons (.var 1 "prime" ⟨27, 64, 27, 69⟩) (.nil)) ⟨27, 55, 27, 70⟩) ⟨27, 51, 27, 70⟩) (.nil))) ⟨27, 35, 27, 71⟩) (.nil))) ⟨27, 11, 27, 72⟩)
 (.cons (.rais 0 "NoField" ⟨28, 18, 28, 25⟩ "no prime of a field" 0 ⟨28, 26, 28, 47⟩ ⟨28, 18, 28, 48⟩ ⟨28, 12, 28, 48⟩)
 (.nil))
 (.nil) ⟨27, 8, 28, 48⟩)
 (.cons (.setA (.var 0 "self" ⟨29, 8, 29, 12⟩) "own_prime" ⟨29, 8, 29, 22⟩ (.var 1 "prime" ⟨29, 25, 29, 30⟩) ⟨29, 8, 29, 30⟩)
 (.nil))
theorem x_Field___init__ : Txt ["self", "prime"] ["self", "prime"] n_Field___init__ s_Field___init__ m_Field___init__ := ⟨⟨rfl, rfl, rfl, by decide +kernel, rfl, by decide +kernel, by decide +kernel⟩, by kernel_rfl, by decide +kernel⟩
/-- Field.__eq__(self, other): 0 self 1 other -/
abbrev s_Field___eq__ : Stmt := inClass (top 10) 1
def n_Field___eq__ : Nms := { fn := [], glo := ["Field"], cl := [], blt := ["isinstance"], exc := [], lam := [], lq := none }
def m_Field___eq__ : MSs :=
 .cons (.ret (.and (.cons (.blt .isinstance ⟨32, 15, 32, 25⟩ (.var 1 "other" ⟨32, 26, 32, 31⟩) (.cons (.glo 0 "Field" ⟨32, 33, 32, 38⟩) (.nil)) ⟨32, 15, 32, 39⟩) (.cons (.cmp (.att (.var 0 "self" ⟨32, 44, 32, 48⟩) "own_prime" ⟨32, 44, 32, 58⟩) .Eq (.att (.var 1 "other" ⟨32, 62, 32, 67⟩) "own_prime" ⟨32, 62, 32, 77⟩) ⟨32, 44, 32, 77⟩) (.nil))) ⟨32, 15, 32, 77⟩) ⟨32, 8, 32, 77⟩)
 (.nil)
theorem x_Field___eq__ : Txt ["self", "other"] ["self", "other"] n_Field___eq__ s_Field___eq__ m_Field___eq__ := ⟨⟨rfl, rfl, rfl, by decide +kernel, rfl, by decide +kernel, by decide +kernel⟩, by kernel_rfl, by decide +kernel⟩
/-- Field.__repr__(self): 0 self -/
abbrev s_Field___repr__ : Stmt := inClass (top 10) 2
def n_Field___repr__ : Nms := { fn := [], glo := [], cl := [], blt := [], exc := [], lam := [], lq := none }
def m_Field___repr__ : MSs :=
 .cons (.ret (.fst (.cons (.str "Field(" 0 ⟨35, 17, 35, 23⟩) (.cons (.fmt (.att (.var 0 "self" ⟨35, 24, 35, 28⟩) "own_prime" ⟨35, 24, 35, 38⟩) ⟨35, 23, 35, 39⟩) (.cons (.str ")" 0 ⟨35, 39, 35, 40⟩) (.nil)))) ⟨35, 15, 35, 41⟩) ⟨35, 8, 35, 41⟩)
 (.nil)
theorem x_Field___repr__ : Txt ["self"] ["self"] n_Field___repr__ s_Field___repr__ m_Field___repr__ := ⟨⟨rfl, rfl, rfl, by decide +kernel, rfl, by decide +kernel, by decide +kernel⟩, by kernel_rfl, by decide +kernel⟩
/-- Field.prime(self): 0 self -/
abbrev s_Field_prime : Stmt := inClass (top 10) 3
def n_Field_prime : Nms := { fn := [], glo := [], cl := [], blt := [], exc := [], lam := [], lq := none }
def m_Field_prime : MSs :=
 .cons (.ret (.att (.var 0 "self" ⟨38, 15, 38, 19⟩) "own_prime" ⟨38, 15, 38, 29⟩) ⟨38, 8, 38, 29⟩)
 (.nil)
theorem x_Field_prime : Txt ["self"] ["self"] n_Field_prime s_Field_prime m_Field_prime := ⟨⟨rfl, rfl, rfl, by decide +kernel, rfl, by decide +kernel, by decide +kernel⟩, by kernel_rfl, by decide +kernel⟩
/-- Field.made(self, top, bottom): 0 self 1 top 2 bottom -/
abbrev s_Field_made : Stmt := inClass (top 10) 4
-- unsupported: wall
/-- Field.plus(self, one, other): 0 self 1 one 2 other -/
abbrev s_Field_plus : Stmt := inClass (top 10) 5
-- unsupported: wall
/-- Field.minus(self, one, other): 0 self 1 one 2 other -/
abbrev s_Field_minus : Stmt := inClass (top 10) 6
-- unsupported: wall
/-- Field.times(self, one, other): 0 self 1 one 2 other -/
abbrev s_Field_times : Stmt := inClass (top 10) 7
-- unsupported: wall
/-- Field.over(self, one, other): 0 self 1 one 2 other -/
abbrev s_Field_over : Stmt := inClass (top 10) 8
-- unsupported: wall
/-- Field.is_number(self, thing): 0 self 1 thing -/
abbrev s_Field_is_number : Stmt := inClass (top 10) 9
-- unsupported: wall
/-- _law_room(_law_script, _law_k): 0 _law_script 1 _law_k 2 _law_cell 3 _law_left -/
abbrev s__law_room : Stmt := top 12
def n__law_room : Nms := { fn := [], glo := [], cl := [], blt := ["len"], exc := [], lam := [], lq := none }
def m__law_room : MSs :=
 .cons (.asg (.name 2 "_law_cell" ⟨59, 4, 59, 13⟩) (.int 0 0 ⟨59, 16, 59, 17⟩) ⟨59, 4, 59, 17⟩)
 (.cons (.ifs (.cmp (.var 1 "_law_k" ⟨60, 7, 60, 13⟩) .Lt (.blt .len ⟨60, 16, 60, 19⟩ (.var 0 "_law_script" ⟨60, 20, 60, 31⟩) (.nil) ⟨60, 16, 60, 32⟩) ⟨60, 7, 60, 32⟩)
 (.cons (.asg (.name 2 "_law_cell" ⟨61, 8, 61, 17⟩) (.sub (.var 0 "_law_script" ⟨61, 20, 61, 31⟩) (.var 1 "_law_k" ⟨61, 32, 61, 38⟩) ⟨61, 20, 61, 39⟩) ⟨61, 8, 61, 39⟩)
 (.nil))
 (.nil) ⟨60, 4, 61, 39⟩)
 (.cons (.asg (.name 3 "_law_left" ⟨62, 4, 62, 13⟩) (.int 0 0 ⟨62, 16, 62, 17⟩) ⟨62, 4, 62, 17⟩)
 (.cons (.ifs (.cmp (.var 2 "_law_cell" ⟨63, 7, 63, 16⟩) .GtE (.bin (.int 10 0 ⟨63, 20, 63, 22⟩) .Pow (.int 18 0 ⟨63, 26, 63, 28⟩) ⟨63, 20, 63, 28⟩) ⟨63, 7, 63, 28⟩)
 (.cons (.asg (.name 3 "_law_left" ⟨64, 8, 64, 17⟩) (.var 2 "_law_cell" ⟨64, 20, 64, 29⟩) ⟨64, 8, 64, 29⟩)
 (.nil))
 (.nil) ⟨63, 4, 64, 29⟩)
 (.cons (.ret (.lst (.cons (.var 3 "_law_left" ⟨65, 12, 65, 21⟩) (.cons (.bin (.bin (.bin (.bin (.bin (.var 2 "_law_cell" ⟨65, 24, 65, 33⟩) .Mod (.int 2147483629 0 ⟨65, 36, 65, 46⟩) ⟨65, 24, 65, 46⟩) .Add (.bin (.bin (.int 104729 0 ⟨65, 49, 65, 55⟩) .Mult (.var 1 "_law_k" ⟨65, 58, 65, 64⟩) ⟨65, 49, 65, 64⟩) .Mult (.var 1 "_law_k" ⟨65, 67, 65, 73⟩) ⟨65, 49, 65, 73⟩) ⟨65, 24, 65, 73⟩) .Add (.int 7 0 ⟨65, 76, 65, 77⟩) ⟨65, 24, 65, 77⟩) .Mult (.int 48271 0 ⟨65, 81, 65, 86⟩) ⟨65, 23, 65, 86⟩) .Mod (.int 2147483647 0 ⟨65, 89, 65, 99⟩) ⟨65, 23, 65, 99⟩) (.nil))) ⟨65, 11, 65, 100⟩) ⟨65, 4, 65, 100⟩)
 (.nil)))))
theorem x__law_room : Txt ["_law_script", "_law_k", "_law_cell", "_law_left"] ["_law_script", "_law_k"] n__law_room s__law_room m__law_room := ⟨⟨rfl, rfl, rfl, by decide +kernel, rfl, by decide +kernel, by decide +kernel⟩, by kernel_rfl, by decide +kernel⟩
/-- _law_take(_law_room_here, _law_many): 0 _law_room_here 1 _law_many 2 _law_found -/
abbrev s__law_take : Stmt := top 13
def n__law_take : Nms := { fn := [], glo := [], cl := [], blt := [], exc := [], lam := [], lq := none }
def m__law_take : MSs :=
 .cons (.ifs (.cmp (.sub (.var 0 "_law_room_here" ⟨67, 7, 67, 21⟩) (.int 0 0 ⟨67, 22, 67, 23⟩) ⟨67, 7, 67, 24⟩) .Gt (.int 0 0 ⟨67, 27, 67, 28⟩) ⟨67, 7, 67, 28⟩)
 (.cons (.asg (.name 2 "_law_found" ⟨68, 8, 68, 18⟩) (.bin (.sub (.var 0 "_law_room_here" ⟨68, 21, 68, 35⟩) (.int 0 0 ⟨68, 36, 68, 37⟩) ⟨68, 21, 68, 38⟩) .Mod (.var 1 "_law_many" ⟨68, 41, 68, 50⟩) ⟨68, 21, 68, 50⟩) ⟨68, 8, 68, 50⟩)
 (.cons (.asg (.sub (.var 0 "_law_room_here" ⟨69, 8, 69, 22⟩) (.int 0 0 ⟨69, 23, 69, 24⟩) ⟨69, 8, 69, 25⟩) (.bin (.sub (.var 0 "_law_room_here" ⟨69, 28, 69, 42⟩) (.int 0 0 ⟨69, 43, 69, 44⟩) ⟨69, 28, 69, 45⟩) .FloorDiv (.var 1 "_law_many" ⟨69, 49, 69, 58⟩) ⟨69, 28, 69, 58⟩) ⟨69, 8, 69, 58⟩)
 (.cons (.ret (.var 2 "_law_found" ⟨70, 15, 70, 25⟩) ⟨70, 8, 70, 25⟩)
 (.nil))))
 (.nil) ⟨67, 4, 70, 25⟩)
 (.cons (.asg (.sub (.var 0 "_law_room_here" ⟨71, 4, 71, 18⟩) (.int 1 0 ⟨71, 19, 71, 20⟩) ⟨71, 4, 71, 21⟩) (.bin (.bin (.bin (.sub (.var 0 "_law_room_here" ⟨71, 25, 71, 39⟩) (.int 1 0 ⟨71, 40, 71, 41⟩) ⟨71, 25, 71, 42⟩) .Mult (.int 48271 0 ⟨71, 45, 71, 50⟩) ⟨71, 25, 71, 50⟩) .Add (.int 39373 0 ⟨71, 53, 71, 58⟩) ⟨71, 25, 71, 58⟩) .Mod (.int 2147483647 0 ⟨71, 62, 71, 72⟩) ⟨71, 24, 71, 72⟩) ⟨71, 4, 71, 72⟩)
 (.cons (.asg (.name 2 "_law_found" ⟨72, 4, 72, 14⟩) (.bin (.bin (.bin (.sub (.var 0 "_law_room_here" ⟨72, 17, 72, 31⟩) (.int 1 0 ⟨72, 32, 72, 33⟩) ⟨72, 17, 72, 34⟩) .Mult (.sub (.var 0 "_law_room_here" ⟨72, 37, 72, 51⟩) (.int 1 0 ⟨72, 52, 72, 53⟩) ⟨72, 37, 72, 54⟩) ⟨72, 17, 72, 54⟩) .Mod (.int 2147483629 0 ⟨72, 57, 72, 67⟩) ⟨72, 17, 72, 67⟩) .FloorDiv (.int 16 0 ⟨72, 71, 72, 73⟩) ⟨72, 17, 72, 73⟩) ⟨72, 4, 72, 73⟩)
 (.cons (.ifs (.cmp (.var 1 "_law_many" ⟨73, 7, 73, 16⟩) .Gt (.bin (.int 10 0 ⟨73, 19, 73, 21⟩) .Pow (.int 6 0 ⟨73, 25, 73, 26⟩) ⟨73, 19, 73, 26⟩) ⟨73, 7, 73, 26⟩)
 (.cons (.asg (.sub (.var 0 "_law_room_here" ⟨74, 8, 74, 22⟩) (.int 1 0 ⟨74, 23, 74, 24⟩) ⟨74, 8, 74, 25⟩) (.bin (.bin (.bin (.sub (.var 0 "_law_room_here" ⟨74, 29, 74, 43⟩) (.int 1 0 ⟨74, 44, 74, 45⟩) ⟨74, 29, 74, 46⟩) .Mult (.int 48271 0 ⟨74, 49, 74, 54⟩) ⟨74, 29, 74, 54⟩) .Add (.int 39373 0 ⟨74, 57, 74, 62⟩) ⟨74, 29, 74, 62⟩) .Mod (.int 2147483647 0 ⟨74, 66, 74, 76⟩) ⟨74, 28, 74, 76⟩) ⟨74, 8, 74, 76⟩)
 (.cons (.asg (.name 2 "_law_found" ⟨75, 8, 75, 18⟩) (.bin (.bin (.var 2 "_law_found" ⟨75, 21, 75, 31⟩) .Mult (.int 2147483629 0 ⟨75, 34, 75, 44⟩) ⟨75, 21, 75, 44⟩) .Add (.bin (.bin (.sub (.var 0 "_law_room_here" ⟨75, 47, 75, 61⟩) (.int 1 0 ⟨75, 62, 75, 63⟩) ⟨75, 47, 75, 64⟩) .Mult (.sub (.var 0 "_law_room_here" ⟨75, 67, 75, 81⟩) (.int 1 0 ⟨75, 82, 75, 83⟩) ⟨75, 67, 75, 84⟩) ⟨75, 47, 75, 84⟩) .Mod (.int 2147483587 0 ⟨75, 87, 75, 97⟩) ⟨75, 47, 75, 97⟩) ⟨75, 21, 75, 97⟩) ⟨75, 8, 75, 97⟩)
 (.nil)))
 (.nil) ⟨73, 4, 75, 97⟩)
 (.cons (.ret (.bin (.var 2 "_law_found" ⟨76, 11, 76, 21⟩) .Mod (.var 1 "_law_many" ⟨76, 24, 76, 33⟩) ⟨76, 11, 76, 33⟩) ⟨76, 4, 76, 33⟩)
 (.nil)))))
theorem x__law_take : Txt ["_law_room_here", "_law_many", "_law_found"] ["_law_room_here", "_law_many"] n__law_take s__law_take m__law_take := ⟨⟨rfl, rfl, rfl, by decide +kernel, rfl, by decide +kernel, by decide +kernel⟩, by kernel_rfl, by decide +kernel⟩
/-- _law_whole(_law_thing): 0 _law_thing -/
abbrev s__law_whole : Stmt := top 14
def n__law_whole : Nms := { fn := [], glo := ["int", "bool"], cl := [], blt := ["isinstance"], exc := [], lam := [], lq := none }
def m__law_whole : MSs :=
 .cons (.ret (.and (.cons (.blt .isinstance ⟨78, 11, 78, 21⟩ (.var 0 "_law_thing" ⟨78, 22, 78, 32⟩) (.cons (.glo 0 "int" ⟨78, 34, 78, 37⟩) (.nil)) ⟨78, 11, 78, 38⟩) (.cons (.not (.blt .isinstance ⟨78, 48, 78, 58⟩ (.var 0 "_law_thing" ⟨78, 59, 78, 69⟩) (.cons (.glo 1 "bool" ⟨78, 71, 78, 75⟩) (.nil)) ⟨78, 48, 78, 76⟩) ⟨78, 44, 78, 76⟩) (.nil))) ⟨78, 11, 78, 77⟩) ⟨78, 4, 78, 77⟩)
 (.nil)
theorem x__law_whole : Txt ["_law_thing"] ["_law_thing"] n__law_whole s__law_whole m__law_whole := ⟨⟨rfl, rfl, rfl, by decide +kernel, rfl, by decide +kernel, by decide +kernel⟩, by kernel_rfl, by decide +kernel⟩
/-- _law_kind(_law_call): 0 _law_call 1 _law_kept 2 e 3 _law_kinds -/
abbrev s__law_kind : Stmt := top 15
def n__law_kind : Nms := { fn := [], glo := ["FalseError", "NoField", "NoNumber", "NoSum", "ValueError"], cl := [], blt := ["isinstance"], exc := [], lam := [], lq := none }
def m__law_kind : MSs :=
 .cons (.asg (.name 1 "_law_kept" ⟨80, 4, 80, 13⟩) (.non 0 ⟨80, 16, 80, 20⟩) ⟨80, 4, 80, 20⟩)
 (.cons (.trk (.cons (.calp "_law_call" ⟨82, 8, 82, 17⟩ ⟨82, 8, 82, 19⟩ ⟨82, 8, 82, 19⟩)
 (.nil)) 0 "FalseError" ⟨83, 11, 83, 21⟩ 2 "e" 1 "_law_kept" ⟨84, 8, 84, 17⟩ ⟨84, 20, 84, 21⟩ ⟨84, 8, 84, 21⟩ ⟨83, 4, 84, 21⟩ ⟨81, 4, 84, 21⟩)
 (.cons (.ifs (.cmp (.var 1 "_law_kept" ⟨85, 7, 85, 16⟩) .Is (.non 0 ⟨85, 20, 85, 24⟩) ⟨85, 7, 85, 24⟩)
 (.cons (.ret (.str "told" 0 ⟨86, 15, 86, 21⟩) ⟨86, 8, 86, 21⟩)
 (.nil))
 (.nil) ⟨85, 4, 86, 21⟩)
 (.cons (.asg (.name 3 "_law_kinds" ⟨87, 4, 87, 14⟩) (.lst (.cons (.blt .isinstance ⟨87, 18, 87, 28⟩ (.var 1 "_law_kept" ⟨87, 29, 87, 38⟩) (.cons (.glo 1 "NoField" ⟨87, 40, 87, 47⟩) (.nil)) ⟨87, 18, 87, 48⟩) (.cons (.blt .isinstance ⟨87, 50, 87, 60⟩ (.var 1 "_law_kept" ⟨87, 61, 87, 70⟩) (.cons (.glo 2 "NoNumber" ⟨87, 72, 87, 80⟩) (.nil)) ⟨87, 50, 87, 81⟩) (.cons (.blt .isinstance ⟨87, 83, 87, 93⟩ (.var 1 "_law_kept" ⟨87, 94, 87, 103⟩) (.cons (.glo 3 "NoSum" ⟨87, 105, 87, 110⟩) (.nil)) ⟨87, 83, 87, 111⟩) (.nil)))) ⟨87, 17, 87, 112⟩) ⟨87, 4, 87, 112⟩)
 (.cons (.ifs (.or (.cons (.cmp (.bm .count (.var 3 "_law_kinds" ⟨88, 7, 88, 17⟩) ⟨88, 7, 88, 23⟩ (.bl true 0 ⟨88, 24, 88, 28⟩) ⟨88, 7, 88, 29⟩) .NotEq (.int 1 0 ⟨88, 33, 88, 34⟩) ⟨88, 7, 88, 34⟩) (.cons (.not (.blt .isinstance ⟨88, 42, 88, 52⟩ (.var 1 "_law_kept" ⟨88, 53, 88, 62⟩) (.cons (.glo 4 "ValueError" ⟨88, 64, 88, 74⟩) (.nil)) ⟨88, 42, 88, 75⟩) ⟨88, 38, 88, 75⟩) (.nil))) ⟨88, 7, 88, 75⟩)
 (.cons (.ret (.str "other" 0 ⟨89, 15, 89, 22⟩) ⟨89, 8, 89, 22⟩)
 (.nil))
 (.nil) ⟨88, 4, 89, 22⟩)
 (.cons (.ret (.sub (.lst (.cons (.str "field" 0 ⟨90, 12, 90, 19⟩) (.cons (.str "number" 0 ⟨90, 21, 90, 29⟩) (.cons (.str "sum" 0 ⟨90, 31, 90, 36⟩) (.nil)))) ⟨90, 11, 90, 37⟩) (.bm .index (.var 3 "_law_kinds" ⟨90, 38, 90, 48⟩) ⟨90, 38, 90, 54⟩ (.bl true 0 ⟨90, 55, 90, 59⟩) ⟨90, 38, 90, 60⟩) ⟨90, 11, 90, 61⟩) ⟨90, 4, 90, 61⟩)
 (.nil))))))
theorem x__law_kind : FnScope ["_law_call", "_law_kept", "e", "_law_kinds"] ["_law_call"] (defScope s__law_kind) ∧ eSs m__law_kind = defBody s__law_kind := ⟨⟨rfl, rfl, rfl, by decide +kernel, rfl, by decide +kernel, by decide +kernel⟩, by kernel_rfl⟩
/-- _law_due(_law_thing): 0 _law_thing 1 _law_part -/
abbrev s__law_due : Stmt := top 16
def n__law_due : Nms := { fn := ["_law_whole"], glo := [], cl := [], blt := ["range"], exc := [], lam := [], lq := none }
def m__law_due : MSs :=
 .cons (.ifs (.not (.call 0 "_law_whole" ⟨92, 11, 92, 21⟩ (.cons (.var 0 "_law_thing" ⟨92, 22, 92, 32⟩) (.nil)) ⟨92, 11, 92, 33⟩) ⟨92, 7, 92, 33⟩)
 (.cons (.ret (.bl false 0 ⟨93, 15, 93, 20⟩) ⟨93, 8, 93, 20⟩)
 (.nil))
 (.nil) ⟨92, 4, 93, 20⟩)
 (.cons (.ret (.or (.cons (.cmp (.var 0 "_law_thing" ⟨94, 11, 94, 21⟩) .Eq (.int 0 0 ⟨94, 25, 94, 26⟩) ⟨94, 11, 94, 26⟩) (.cons (.and (.cons (.cmp2 (.int 2 0 ⟨94, 31, 94, 32⟩) .LtE (.var 0 "_law_thing" ⟨94, 36, 94, 46⟩) .LtE (.int 97 0 ⟨94, 50, 94, 52⟩) ⟨94, 31, 94, 52⟩) (.cons (.cmp (.lc (.var 1 "_law_part" ⟨94, 58, 94, 67⟩) (.name 1 "_law_part" ⟨94, 72, 94, 81⟩) (.rng2 ⟨94, 85, 94, 90⟩ (.int 2 0 ⟨94, 91, 94, 92⟩) (.var 0 "_law_thing" ⟨94, 94, 94, 104⟩) ⟨94, 85, 94, 105⟩) (.cons (.cmp (.bin (.var 0 "_law_thing" ⟨94, 109, 94, 119⟩) .Mod (.var 1 "_law_part" ⟨94, 122, 94, 131⟩) ⟨94, 109, 94, 131⟩) .Eq (.int 0 0 ⟨94, 135, 94, 136⟩) ⟨94, 109, 94, 136⟩) (.nil)) [("_law_part", 1)] ⟨.function, [(".0", .local), ("_law_part", .local), ("_law_thing", .free)], false, false, []⟩ ⟨94, 57, 94, 137⟩) .Eq (.lst (.nil) ⟨94, 141, 94, 143⟩) ⟨94, 57, 94, 143⟩) (.nil))) ⟨94, 31, 94, 143⟩) (.nil))) ⟨94, 11, 94, 144⟩) ⟨94, 4, 94, 144⟩)
 (.nil))
theorem x__law_due : Txt ["_law_thing", "_law_part"] ["_law_thing"] n__law_due s__law_due m__law_due := ⟨⟨rfl, rfl, rfl, by decide +kernel, rfl, by decide +kernel, by decide +kernel⟩, by kernel_rfl, by decide +kernel⟩
/-- _law_right(_law_one, _law_thing, _law_seen): 0 _law_one 1 _law_thing 2 _law_seen 3 _law_other -/
abbrev s__law_right : Stmt := top 17
def n__law_right : Nms := { fn := ["_law_whole"], glo := [], cl := [], blt := ["repr", "str"], exc := [], lam := [], lq := none }
def m__law_right : MSs :=
 .cons (.ifs (.or (.cons (.not (.call 0 "_law_whole" ⟨96, 11, 96, 21⟩ (.cons (.own (.var 0 "_law_one" ⟨96, 22, 96, 30⟩) "prime" ⟨96, 22, 96, 36⟩ (.nil) ⟨96, 22, 96, 38⟩) (.nil)) ⟨96, 11, 96, 39⟩) ⟨96, 7, 96, 39⟩) (.cons (.cmp (.own (.var 0 "_law_one" ⟨96, 43, 96, 51⟩) "prime" ⟨96, 43, 96, 57⟩ (.nil) ⟨96, 43, 96, 59⟩) .NotEq (.var 1 "_law_thing" ⟨96, 63, 96, 73⟩) ⟨96, 43, 96, 73⟩) (.cons (.cmp (.rep ⟨96, 77, 96, 81⟩ (.var 0 "_law_one" ⟨96, 82, 96, 90⟩) ⟨96, 77, 96, 91⟩) .NotEq (.bin (.bin (.str "Field(" 0 ⟨96, 95, 96, 103⟩) .Add (.blt .str ⟨96, 106, 96, 109⟩ (.var 1 "_law_thing" ⟨96, 110, 96, 120⟩) (.nil) ⟨96, 106, 96, 121⟩) ⟨96, 95, 96, 121⟩) .Add (.str ")" 0 ⟨96, 124, 96, 127⟩) ⟨96, 95, 96, 127⟩) ⟨96, 77, 96, 127⟩) (.nil)))) ⟨96, 7, 96, 127⟩)
 (.cons (.ret (.bl false 0 ⟨97, 15, 97, 20⟩) ⟨97, 8, 97, 20⟩)
 (.nil))
 (.nil) ⟨96, 4, 97, 20⟩)
 (.cons (.fors (.name 3 "_law_other" ⟨98, 8, 98, 18⟩) (.val (.var 2 "_law_seen" ⟨98, 22, 98, 31⟩))
 (.cons (.ifs (.or (.cons (.cmp (.cmp (.var 0 "_law_one" ⟨99, 12, 99, 20⟩) .Eq (.var 3 "_law_other" ⟨99, 24, 99, 34⟩) ⟨99, 12, 99, 34⟩) .NotEq (.cmp (.var 1 "_law_thing" ⟨99, 40, 99, 50⟩) .Eq (.own (.var 3 "_law_other" ⟨99, 54, 99, 64⟩) "prime" ⟨99, 54, 99, 70⟩ (.nil) ⟨99, 54, 99, 72⟩) ⟨99, 40, 99, 72⟩) ⟨99, 11, 99, 73⟩) (.cons (.cmp (.cmp (.var 0 "_law_one" ⟨99, 78, 99, 86⟩) .NotEq (.var 3 "_law_other" ⟨99, 90, 99, 100⟩) ⟨99, 78, 99, 100⟩) .NotEq (.cmp (.var 1 "_law_thing" ⟨99, 106, 99, 116⟩) .NotEq (.own (.var 3 "_law_other" ⟨99, 120, 99, 130⟩) "prime" ⟨99, 120, 99, 136⟩ (.nil) ⟨99, 120, 99, 138⟩) ⟨99, 106, 99, 138⟩) ⟨99, 77, 99, 139⟩) (.nil))) ⟨99, 11, 99, 139⟩)
 (.cons (.ret (.bl false 0 ⟨100, 19, 100, 24⟩) ⟨100, 12, 100, 24⟩)
 (.nil))
 (.nil) ⟨99, 8, 100, 24⟩)
 (.nil)) ⟨98, 4, 100, 24⟩)
 (.cons (.ret (.cmp (.lc (.var 3 "_law_other" ⟨101, 12, 101, 22⟩) (.name 3 "_law_other" ⟨101, 27, 101, 37⟩) (.val (.lst (.cons (.var 1 "_law_thing" ⟨101, 42, 101, 52⟩) (.cons (.rep ⟨101, 54, 101, 58⟩ (.var 0 "_law_one" ⟨101, 59, 101, 67⟩) ⟨101, 54, 101, 68⟩) (.cons (.tup (.cons (.var 1 "_law_thing" ⟨101, 71, 101, 81⟩) (.cons (.int 1 0 ⟨101, 83, 101, 84⟩) (.nil))) 0 ⟨101, 70, 101, 85⟩) (.cons (.lst (.cons (.var 0 "_law_one" ⟨101, 88, 101, 96⟩) (.nil)) ⟨101, 87, 101, 97⟩) (.cons (.dic0 ⟨101, 99, 101, 101⟩) (.nil)))))) ⟨101, 41, 101, 102⟩)) (.cons (.or (.cons (.cmp (.var 0 "_law_one" ⟨101, 106, 101, 114⟩) .Eq (.var 3 "_law_other" ⟨101, 118, 101, 128⟩) ⟨101, 106, 101, 128⟩) (.cons (.not (.cmp (.var 0 "_law_one" ⟨101, 136, 101, 144⟩) .NotEq (.var 3 "_law_other" ⟨101, 148, 101, 158⟩) ⟨101, 136, 101, 158⟩) ⟨101, 132, 101, 158⟩) (.nil))) ⟨101, 106, 101, 158⟩) (.nil)) [("_law_other", 3)] ⟨.function, [(".0", .local), ("_law_other", .local), ("_law_one", .free)], false, false, []⟩ ⟨101, 11, 101, 159⟩) .Eq (.lst (.nil) ⟨101, 163, 101, 165⟩) ⟨101, 11, 101, 165⟩) ⟨101, 4, 101, 165⟩)
 (.nil)))
theorem x__law_right : Txt ["_law_one", "_law_thing", "_law_seen", "_law_other"] ["_law_one", "_law_thing", "_law_seen"] n__law_right s__law_right m__law_right := ⟨⟨rfl, rfl, rfl, by decide +kernel, rfl, by decide +kernel, by decide +kernel⟩, by kernel_rfl, by decide +kernel⟩
/-- law(_law_script): 0 _law_script 1 _law_seen 2 _law_k 3 _law_room_here 4 _law_due_here 5 _law_one 6 _law_thing -/
abbrev s_law : Stmt := top 18
def n_law : Nms := { fn := ["_law_room", "_law_take", "_law_due", "_law_right"], glo := [], cl := ["Field"], blt := ["range", "max", "min", "len", "int", "repr"], exc := [], lam := ["_law_kind"], lq := some "law.<locals>." }
def m_law : MSs :=
 .cons (.asg (.name 1 "_law_seen" ⟨103, 4, 103, 13⟩) (.lst (.cons (.makeK 0 0 "Field" ⟨103, 17, 103, 22⟩ (.nil) [] (.nil) ⟨103, 17, 103, 24⟩) (.nil)) ⟨103, 16, 103, 25⟩) ⟨103, 4, 103, 25⟩)
 (.cons (.fors (.name 2 "_law_k" ⟨104, 8, 104, 14⟩) (.rng1 ⟨104, 18, 104, 23⟩ (.blt .max2 ⟨104, 24, 104, 27⟩ (.int 1 0 ⟨104, 28, 104, 29⟩) (.cons (.blt .min2 ⟨104, 31, 104, 34⟩ (.blt .len ⟨104, 35, 104, 38⟩ (.var 0 "_law_script" ⟨104, 39, 104, 50⟩) (.nil) ⟨104, 35, 104, 51⟩) (.cons (.int 40 0 ⟨104, 53, 104, 55⟩) (.nil)) ⟨104, 31, 104, 56⟩) (.nil)) ⟨104, 24, 104, 57⟩) ⟨104, 18, 104, 58⟩)
 (.cons (.asg (.name 3 "_law_room_here" ⟨105, 8, 105, 22⟩) (.call 0 "_law_room" ⟨105, 25, 105, 34⟩ (.cons (.var 0 "_law_script" ⟨105, 35, 105, 46⟩) (.cons (.var 2 "_law_k" ⟨105, 48, 105, 54⟩) (.nil))) ⟨105, 25, 105, 55⟩) ⟨105, 8, 105, 55⟩)
 (.cons (.asg (.name 6 "_law_thing" ⟨106, 8, 106, 18⟩) (.bin (.call 1 "_law_take" ⟨106, 21, 106, 30⟩ (.cons (.var 3 "_law_room_here" ⟨106, 31, 106, 45⟩) (.cons (.int 136 0 ⟨106, 47, 106, 50⟩) (.nil))) ⟨106, 21, 106, 51⟩) .Sub (.int 5 0 ⟨106, 54, 106, 55⟩) ⟨106, 21, 106, 55⟩) ⟨106, 8, 106, 55⟩)
 (.cons (.ifs (.cmp (.call 1 "_law_take" ⟨107, 11, 107, 20⟩ (.cons (.var 3 "_law_room_here" ⟨107, 21, 107, 35⟩) (.cons (.int 4 0 ⟨107, 37, 107, 38⟩) (.nil))) ⟨107, 11, 107, 39⟩) .Eq (.int 3 0 ⟨107, 43, 107, 44⟩) ⟨107, 11, 107, 44⟩)
 (.cons (.asg (.name 6 "_law_thing" ⟨108, 12, 108, 22⟩) (.sub (.lst (.cons (.non 0 ⟨108, 26, 108, 30⟩) (.cons (.bl true 0 ⟨108, 32, 108, 36⟩) (.cons (.bl false 0 ⟨108, 38, 108, 43⟩) (.cons (.str "7" 0 ⟨108, 45, 108, 48⟩) (.cons (.tup (.cons (.int 7 0 ⟨108, 51, 108, 52⟩) (.nil)) 0 ⟨108, 50, 108, 54⟩) (.cons (.lst (.cons (.int 7 0 ⟨108, 57, 108, 58⟩) (.nil)) ⟨108, 56, 108, 59⟩) (.cons (.dic0 ⟨108, 61, 108, 63⟩) (.cons (.str "" 0 ⟨108, 65, 108, 67⟩) (.cons (.bin (.int 10 0 ⟨108, 69, 108, 71⟩) .Pow (.int 20 0 ⟨108, 75, 108, 77⟩) ⟨108, 69, 108, 77⟩) (.cons (.bin (.int 7 0 ⟨108, 79, 108, 80⟩) .Pow (.int 20 0 ⟨108, 84, 108, 86⟩) ⟨108, 79, 108, 86⟩) (.nil))))))))))) ⟨108, 25, 108, 87⟩) (.call 1 "_law_take" ⟨108, 88, 108, 97⟩ (.cons (.var 3 "_law_room_here" ⟨108, 98, 108, 112⟩) (.cons (.int 10 0 ⟨108, 114, 108, 116⟩) (.nil))) ⟨108, 88, 108, 117⟩) ⟨108, 25, 108, 118⟩) ⟨108, 12, 108, 118⟩)
 (.nil))
 (.nil) ⟨107, 8, 108, 118⟩)
 (.cons (.asg (.name 4 "_law_due_here" ⟨109, 8, 109, 21⟩) (.sub (.lst (.cons (.str "field" 0 ⟨109, 25, 109, 32⟩) (.cons (.str "told" 0 ⟨109, 34, 109, 40⟩) (.nil))) ⟨109, 24, 109, 41⟩) (.blt .int ⟨109, 42, 109, 45⟩ (.call 2 "_law_due" ⟨109, 46, 109, 54⟩ (.cons (.var 6 "_law_thing" ⟨109, 55, 109, 65⟩) (.nil)) ⟨109, 46, 109, 66⟩) (.nil) ⟨109, 42, 109, 67⟩) ⟨109, 24, 109, 68⟩) ⟨109, 8, 109, 68⟩)
 (.cons (.ifs (.cmp (.lam 0 "_law_kind" ⟨110, 11, 110, 20⟩ (.make 0 "Field" ⟨110, 29, 110, 34⟩ (.cons (.var 6 "_law_thing" ⟨110, 35, 110, 45⟩) (.nil)) ⟨110, 29, 110, 46⟩) ⟨.function, [("_law_thing", .free), ("Field", .globalImplicit)], false, false, []⟩ ⟨110, 21, 110, 46⟩ ⟨110, 11, 110, 47⟩) .NotEq (.var 4 "_law_due_here" ⟨110, 51, 110, 64⟩) ⟨110, 11, 110, 64⟩)
 (.cons (.ret (.bl false 0 ⟨111, 19, 111, 24⟩) ⟨111, 12, 111, 24⟩)
 (.nil))
 (.nil) ⟨110, 8, 111, 24⟩)
 (.cons (.ifs (.cmp (.var 4 "_law_due_here" ⟨112, 11, 112, 24⟩) .Eq (.str "told" 0 ⟨112, 28, 112, 34⟩) ⟨112, 11, 112, 34⟩)
 (.cons (.asg (.name 5 "_law_one" ⟨113, 12, 113, 20⟩) (.makeK 0 1 "Field" ⟨113, 23, 113, 28⟩ (.nil) [("prime", ⟨113, 29, 113, 45⟩)] (.cons (.var 6 "_law_thing" ⟨113, 35, 113, 45⟩) (.nil)) ⟨113, 23, 113, 46⟩) ⟨113, 12, 113, 46⟩)
 (.cons (.ifs (.not (.call 3 "_law_right" ⟨114, 19, 114, 29⟩ (.cons (.var 5 "_law_one" ⟨114, 30, 114, 38⟩) (.cons (.var 6 "_law_thing" ⟨114, 40, 114, 50⟩) (.cons (.var 1 "_law_seen" ⟨114, 52, 114, 61⟩) (.nil)))) ⟨114, 19, 114, 62⟩) ⟨114, 15, 114, 62⟩)
 (.cons (.ret (.bl false 0 ⟨115, 23, 115, 28⟩) ⟨115, 16, 115, 28⟩)
 (.nil))
 (.nil) ⟨114, 12, 115, 28⟩)
 (.cons (.expr (.bm .append (.var 1 "_law_seen" ⟨116, 12, 116, 21⟩) ⟨116, 12, 116, 28⟩ (.var 5 "_law_one" ⟨116, 29, 116, 37⟩) ⟨116, 12, 116, 38⟩) ⟨116, 12, 116, 38⟩)
 (.nil))))
 (.nil) ⟨112, 8, 116, 38⟩)
 (.nil))))))) ⟨104, 4, 116, 38⟩)
 (.cons (.ret (.and (.cons (.cmp (.own (.sub (.var 1 "_law_seen" ⟨117, 11, 117, 20⟩) (.int 0 0 ⟨117, 21, 117, 22⟩) ⟨117, 11, 117, 23⟩) "prime" ⟨117, 11, 117, 29⟩ (.nil) ⟨117, 11, 117, 31⟩) .Eq (.int 0 0 ⟨117, 35, 117, 36⟩) ⟨117, 11, 117, 36⟩) (.cons (.cmp (.rep ⟨117, 41, 117, 45⟩ (.sub (.var 1 "_law_seen" ⟨117, 46, 117, 55⟩) (.int 0 0 ⟨117, 56, 117, 57⟩) ⟨117, 46, 117, 58⟩) ⟨117, 41, 117, 59⟩) .Eq (.str "Field(0)" 0 ⟨117, 63, 117, 73⟩) ⟨117, 41, 117, 73⟩) (.nil))) ⟨117, 11, 117, 73⟩) ⟨117, 4, 117, 73⟩)
 (.nil)))
theorem x_law : Txt ["_law_script", "_law_seen", "_law_k", "_law_room_here", "_law_due_here", "_law_one", "_law_thing"] ["_law_script"] n_law s_law m_law := ⟨⟨rfl, rfl, rfl, by decide +kernel, rfl, by decide +kernel, by decide +kernel⟩, by kernel_rfl, by decide +kernel⟩
structure Fs where
  NoSum___init__ : FD
  is_whole : FD
  is_prime : FD
  Field___init__ : FD
  Field___eq__ : FD
  Field___repr__ : FD
  Field_prime : FD
  _law_room : FD
  _law_take : FD
  _law_whole : FD
  _law_kind : FD
  _law_due : FD
  _law_right : FD
  law : FD
def d_NoSum___init__ : He.DefD := ⟨("NoSum", some "__init__"), "__init__", "NoSum.__init__", defArgs s_NoSum___init__, defBody s_NoSum___init__, defScope s_NoSum___init__, [], []⟩
abbrev F_NoSum___init__ (K : Frag) (r : FD) : Prop := FunD K "__init__" "NoSum.__init__" (defArgs s_NoSum___init__) (defBody s_NoSum___init__) (defScope s_NoSum___init__) [] [] r.ad r.fd
theorem b_NoSum___init__ {K : Frag} {r : FD} (F : F_NoSum___init__ K r) : Binds K r.fd ["self", "number"] [] := F.bindsN fun _ _ _ _ _ _ us hl => match us, hl with | [_, _], _ => rfl
def d_is_whole : He.DefD := ⟨("is_whole", none), "is_whole", "is_whole", defArgs s_is_whole, defBody s_is_whole, defScope s_is_whole, [], []⟩
abbrev F_is_whole (K : Frag) (r : FD) : Prop := FunD K "is_whole" "is_whole" (defArgs s_is_whole) (defBody s_is_whole) (defScope s_is_whole) [] [] r.ad r.fd
theorem b_is_whole {K : Frag} {r : FD} (F : F_is_whole K r) : Binds K r.fd ["thing"] [] := F.bindsN fun _ _ _ _ _ _ us hl => match us, hl with | [_], _ => rfl
def d_is_prime : He.DefD := ⟨("is_prime", none), "is_prime", "is_prime", defArgs s_is_prime, defBody s_is_prime, defScope s_is_prime, [], []⟩
abbrev F_is_prime (K : Frag) (r : FD) : Prop := FunD K "is_prime" "is_prime" (defArgs s_is_prime) (defBody s_is_prime) (defScope s_is_prime) [] [] r.ad r.fd
theorem b_is_prime {K : Frag} {r : FD} (F : F_is_prime K r) : Binds K r.fd ["thing"] [] := F.bindsN fun _ _ _ _ _ _ us hl => match us, hl with | [_], _ => rfl
def d_Field___init__ : He.DefD := ⟨("Field", some "__init__"), "__init__", "Field.__init__", defArgs s_Field___init__, defBody s_Field___init__, defScope s_Field___init__, [.int 0], []⟩
abbrev F_Field___init__ (K : Frag) (r : FD) : Prop := FunD K "__init__" "Field.__init__" (defArgs s_Field___init__) (defBody s_Field___init__) (defScope s_Field___init__) [.int 0] [] r.ad r.fd
theorem b_Field___init__ {K : Frag} {r : FD} (F : F_Field___init__ K r) : Binds K r.fd ["self", "prime"] [] := by
  obtain ⟨ds, hv, hb⟩ := F.binds1 (ps := ["self", "prime"]) 2 1 (by simp) rfl fun _ _ _ _ _ _ _ us its h1 h2 => match us, its, h1, h2 with | [_, _], [_], _, _ => ⟨_, rfl, rfl⟩
  cases hv
  exact hb
def d_Field___eq__ : He.DefD := ⟨("Field", some "__eq__"), "__eq__", "Field.__eq__", defArgs s_Field___eq__, defBody s_Field___eq__, defScope s_Field___eq__, [], []⟩
abbrev F_Field___eq__ (K : Frag) (r : FD) : Prop := FunD K "__eq__" "Field.__eq__" (defArgs s_Field___eq__) (defBody s_Field___eq__) (defScope s_Field___eq__) [] [] r.ad r.fd
theorem b_Field___eq__ {K : Frag} {r : FD} (F : F_Field___eq__ K r) : Binds K r.fd ["self", "other"] [] := F.bindsN fun _ _ _ _ _ _ us hl => match us, hl with | [_, _], _ => rfl
def d_Field___repr__ : He.DefD := ⟨("Field", some "__repr__"), "__repr__", "Field.__repr__", defArgs s_Field___repr__, defBody s_Field___repr__, defScope s_Field___repr__, [], []⟩
abbrev F_Field___repr__ (K : Frag) (r : FD) : Prop := FunD K "__repr__" "Field.__repr__" (defArgs s_Field___repr__) (defBody s_Field___repr__) (defScope s_Field___repr__) [] [] r.ad r.fd
theorem b_Field___repr__ {K : Frag} {r : FD} (F : F_Field___repr__ K r) : Binds K r.fd ["self"] [] := F.bindsN fun _ _ _ _ _ _ us hl => match us, hl with | [_], _ => rfl
def d_Field_prime : He.DefD := ⟨("Field", some "prime"), "prime", "Field.prime", defArgs s_Field_prime, defBody s_Field_prime, defScope s_Field_prime, [], []⟩
abbrev F_Field_prime (K : Frag) (r : FD) : Prop := FunD K "prime" "Field.prime" (defArgs s_Field_prime) (defBody s_Field_prime) (defScope s_Field_prime) [] [] r.ad r.fd
theorem b_Field_prime {K : Frag} {r : FD} (F : F_Field_prime K r) : Binds K r.fd ["self"] [] := F.bindsN fun _ _ _ _ _ _ us hl => match us, hl with | [_], _ => rfl
def d__law_room : He.DefD := ⟨("_law_room", none), "_law_room", "_law_room", defArgs s__law_room, defBody s__law_room, defScope s__law_room, [], []⟩
abbrev F__law_room (K : Frag) (r : FD) : Prop := FunD K "_law_room" "_law_room" (defArgs s__law_room) (defBody s__law_room) (defScope s__law_room) [] [] r.ad r.fd
theorem b__law_room {K : Frag} {r : FD} (F : F__law_room K r) : Binds K r.fd ["_law_script", "_law_k"] [] := F.bindsN fun _ _ _ _ _ _ us hl => match us, hl with | [_, _], _ => rfl
def d__law_take : He.DefD := ⟨("_law_take", none), "_law_take", "_law_take", defArgs s__law_take, defBody s__law_take, defScope s__law_take, [], []⟩
abbrev F__law_take (K : Frag) (r : FD) : Prop := FunD K "_law_take" "_law_take" (defArgs s__law_take) (defBody s__law_take) (defScope s__law_take) [] [] r.ad r.fd
theorem b__law_take {K : Frag} {r : FD} (F : F__law_take K r) : Binds K r.fd ["_law_room_here", "_law_many"] [] := F.bindsN fun _ _ _ _ _ _ us hl => match us, hl with | [_, _], _ => rfl
def d__law_whole : He.DefD := ⟨("_law_whole", none), "_law_whole", "_law_whole", defArgs s__law_whole, defBody s__law_whole, defScope s__law_whole, [], []⟩
abbrev F__law_whole (K : Frag) (r : FD) : Prop := FunD K "_law_whole" "_law_whole" (defArgs s__law_whole) (defBody s__law_whole) (defScope s__law_whole) [] [] r.ad r.fd
theorem b__law_whole {K : Frag} {r : FD} (F : F__law_whole K r) : Binds K r.fd ["_law_thing"] [] := F.bindsN fun _ _ _ _ _ _ us hl => match us, hl with | [_], _ => rfl
def d__law_kind : He.DefD := ⟨("_law_kind", none), "_law_kind", "_law_kind", defArgs s__law_kind, defBody s__law_kind, defScope s__law_kind, [], []⟩
abbrev F__law_kind (K : Frag) (r : FD) : Prop := FunD K "_law_kind" "_law_kind" (defArgs s__law_kind) (defBody s__law_kind) (defScope s__law_kind) [] [] r.ad r.fd
theorem b__law_kind {K : Frag} {r : FD} (F : F__law_kind K r) : Binds K r.fd ["_law_call"] [] := F.bindsN fun _ _ _ _ _ _ us hl => match us, hl with | [_], _ => rfl
def d__law_due : He.DefD := ⟨("_law_due", none), "_law_due", "_law_due", defArgs s__law_due, defBody s__law_due, defScope s__law_due, [], []⟩
abbrev F__law_due (K : Frag) (r : FD) : Prop := FunD K "_law_due" "_law_due" (defArgs s__law_due) (defBody s__law_due) (defScope s__law_due) [] [] r.ad r.fd
theorem b__law_due {K : Frag} {r : FD} (F : F__law_due K r) : Binds K r.fd ["_law_thing"] [] := F.bindsN fun _ _ _ _ _ _ us hl => match us, hl with | [_], _ => rfl
def d__law_right : He.DefD := ⟨("_law_right", none), "_law_right", "_law_right", defArgs s__law_right, defBody s__law_right, defScope s__law_right, [], []⟩
abbrev F__law_right (K : Frag) (r : FD) : Prop := FunD K "_law_right" "_law_right" (defArgs s__law_right) (defBody s__law_right) (defScope s__law_right) [] [] r.ad r.fd
theorem b__law_right {K : Frag} {r : FD} (F : F__law_right K r) : Binds K r.fd ["_law_one", "_law_thing", "_law_seen"] [] := F.bindsN fun _ _ _ _ _ _ us hl => match us, hl with | [_, _, _], _ => rfl
def d_law : He.DefD := ⟨("law", none), "law", "law", defArgs s_law, defBody s_law, defScope s_law, [], []⟩
abbrev F_law (K : Frag) (r : FD) : Prop := FunD K "law" "law" (defArgs s_law) (defBody s_law) (defScope s_law) [] [] r.ad r.fd
theorem b_law {K : Frag} {r : FD} (F : F_law K r) : Binds K r.fd ["_law_script"] [] := F.bindsN fun _ _ _ _ _ _ us hl => match us, hl with | [_], _ => rfl
def kb_Field___init__ : KB := [(1, [], fun vs zs => vs ++ ((([V.int 0] : List V).drop 0).take 1)), (1, ["prime"], fun vs zs => vs ++ zs)]
theorem kbok_Field___init__ {K : Frag} {r : FD} (F : F_Field___init__ K r) : KbOk K r.fd ["self", "prime"] kb_Field___init__ :=
  kb_cons (let ⟨_, h⟩ := F.kbindsD (ps := ["self", "prime"]) 1 [] (fun us its ws => us ++ ((its.drop 0).take 1)) (by simp) (by intro vs ds zs us its ws h1 h2 h3; repeat (first | assumption | apply Vals.append | apply Vals.take | apply Vals.drop)) (fun _ _ _ _ _ _ _ us its ws h1 h2 h3 => match us, its, ws, h1, h2, h3 with | [_], [_], [], _, _, _ => ⟨_, rfl, rfl⟩); ⟨_, h⟩) (
  kb_cons (let ⟨_, h⟩ := F.kbindsD (ps := ["self", "prime"]) 1 ["prime"] (fun us its ws => us ++ ws) (by simp) (by intro vs ds zs us its ws h1 h2 h3; repeat (first | assumption | apply Vals.append | apply Vals.take | apply Vals.drop)) (fun _ _ _ _ _ _ _ us its ws h1 h2 h3 => match us, its, ws, h1, h2, h3 with | [_], [_], [_], _, _, _ => ⟨_, rfl, rfl⟩); ⟨_, h⟩) kb_nil)
def fns : List He.DefD := [d_NoSum___init__, d_is_whole, d_is_prime, d_Field___init__, d_Field___eq__, d_Field___repr__, d_Field_prime, d__law_room, d__law_take, d__law_whole, d__law_kind, d__law_due, d__law_right, d_law]
end K01
namespace K01
open PySem PySem.Spec PyProof.Rows L2 Rf NumP
abbrev gam0 : Gam := { fn := [], glo := [], cl := [], att := fun _ _ => False, mt := fun _ _ _ => False, eq := fun _ _ => False, exc := [], tb := [], lam := [] }
abbrev D0 (Q : VK) : Ends := { nx := fun _ H' => Q .non H', rt := Q }
abbrev W0 (E : XK) : WX := fun c d _ H => E c d H
/-! ### plain -/
def fac (p : Int) : List Int := (rng 2 (p - 2).toNat).filter fun k => decide (p % k = 0)
def pr (p : Int) : Bool := decide (2 ≤ p) && (decide (p ≤ 97) && (fac p).isEmpty)
def fk (p : Int) : Bool := decide (p = 0) || pr p
def fkV : V → Bool
  | .int p => fk p
  | _ => false
abbrev fldF (v : V) : List (Str × V) := putF "own_prime" v []
def FieldAt (C : Addr) (H : Hp) (f : Addr) (p : Int) : Prop := ∃ dx, H f = some (.ins C dx (fldF (.int p)))
theorem fld_look (v : V) : (fldF v).lookup ("own_prime" : Str) = some v := by
  show List.lookup _ [(_, _)] = _
  rw [List.lookup_cons, beq_self_eq_true]
theorem fld_no (v : V) {m : Str} (h : ¬ m = "own_prime") : (fldF v).lookup m = none := by
  show List.lookup _ [(_, _)] = _
  rw [List.lookup_cons]
  have : (m == ("own_prime" : Str)) = false := by simpa using h
  rw [this]
  rfl
def Th (H : Hp) (v : V) : Prop := match v with
  | .int _ => True
  | .non => True
  | .bl _ => True
  | .str _ => True
  | .ref p => ∃ o t, H p = some o ∧ kindO o = some t
  | _ => False
theorem two_le : (2 : Nat) ≤ sizeLine := by rw [sizeLine_eq]; decide
theorem dps (K : Frag) (H : Hp) : ∀ xs : List Int, DpAll K H (xs.map V.int) (xs.map PyData.int)
  | [] => .nil
  | x :: xs => .cons (.int x) (dps K H xs)
theorem eqv0 (xs : List Int) : PyData.eqv (.list (xs.map PyData.int)) (.list []) = xs.isEmpty := by
  cases xs <;> rfl
def RoomAt (H : Hp) (r : Addr) : Prop := ∃ l m : Int, H r = some (.lst [.int l, .int m]) ∧ 0 ≤ l ∧ 0 ≤ m ∧ m < 2147483647
/-! ### promises -/
def spW (v : V) (H : Hp) (Q : VK) : Prop := match v with
  | .int _ => Q (.bl true) H
  | .ref p => (∃ o t, H p = some o ∧ kindO o = some t) ∧ Q (.bl false) H
  | .non => Q (.bl false) H
  | .bl _ => Q (.bl false) H
  | .str _ => Q (.bl false) H
  | _ => False
def spWhole : Sp := fun vs H Q _ => ∃ v : V, vs = [v] ∧ spW v H Q
theorem kind_cases {o : HO} {t : String} (h : kindO o = some t) : isiB t "int" = false := by
  cases o <;> cases h <;> rfl
def spPrime : Sp := fun vs H Q _ => ∃ p : Int, vs = [.int p] ∧ ∀ H', Kp H H' → Q (.bl (pr p)) H'
def spInit (C CF : Addr) : Sp := fun vs H Q E => ∃ (x dx : Addr) (v : V), vs = [.ref x, v] ∧ H x = some (.ins C dx []) ∧ Th H v ∧ (fkV v = true → ∀ H', KpX x H H' → H' x = some (.ins C dx (fldF v)) → Q .non H') ∧ (fkV v = false → ∀ H', Kp H H' → E (.ref CF) none H')
def spGet (C : Addr) : Sp := fun vs H Q _ => ∃ (f : Addr) (p : Int), vs = [.ref f] ∧ FieldAt C H f p ∧ Q (.int p) H
def spRepr (C : Addr) : Sp := fun vs H Q _ => ∃ (f : Addr) (p : Int), vs = [.ref f] ∧ FieldAt C H f p ∧ 0 ≤ p ∧ p ≤ 97 ∧ Q (.str ("Field(" ++ Str.ofString (toString p) ++ ")")) H
/-- other is a field with the prime q, or some other thing -/
def spEq (C : Addr) : Sp := fun vs H Q _ => ∃ (f : Addr) (p : Int) (v : V), vs = [.ref f, v] ∧ FieldAt C H f p ∧ ((Th H v ∧ Q (.bl false) H) ∨ ∃ g q, v = .ref g ∧ FieldAt C H g q ∧ Q (.bl (decide (p = q))) H)
def spDue : Sp := fun vs H Q _ => ∃ v : V, vs = [v] ∧ Th H v ∧ ∀ H', Kp H H' → Q (.bl (fkV v)) H'
def spRoom (K : Frag) : Sp := fun vs H Q _ => ∃ (a : Addr) (ns : List Int) (k : Int), vs = [.ref a, .int k] ∧ SqL K H a (ns.map V.int) ∧ ns.length ≤ 63 ∧ 0 ≤ k ∧ k ≤ 60 ∧ ∀ l H', Kp H H' → H l = none → RoomAt H' l → Q (.ref l) H'
def spTake : Sp := fun vs H Q _ => ∃ (r : Addr) (n : Int), vs = [.ref r, .int n] ∧ 0 < n ∧ n ≤ 1000000000000000000 ∧ RoomAt H r ∧ ∀ v H', 0 ≤ v → v < n → RoomAt H' r → KpX r H H' → Q (.int v) H'
theorem txt0 : ∀ i : Fin 98, (Str.empty ++ Str.ofString "Field(" ++ Str.ofString (toString ((i : Nat) : Int)) ++ Str.ofString ")" = Str.ofString "Field(" ++ Str.ofString (toString ((i : Nat) : Int)) ++ Str.ofString ")") ∧ (Str.ofString "Field(" ++ Str.ofString (toString ((i : Nat) : Int)) ++ Str.ofString ")").length ≤ 20 ∧ (Str.empty ++ Str.ofString "Field(" ++ Str.ofString (toString ((i : Nat) : Int))).length ≤ 20 := by decide +kernel
theorem txt {p : Int} (h0 : 0 ≤ p) (h1 : p ≤ 97) : (Str.empty ++ Str.ofString "Field(" ++ Str.ofString (toString p) ++ Str.ofString ")" = Str.ofString "Field(" ++ Str.ofString (toString p) ++ Str.ofString ")") ∧ (Str.ofString "Field(" ++ Str.ofString (toString p) ++ Str.ofString ")").length ≤ 20 ∧ (Str.empty ++ Str.ofString "Field(" ++ Str.ofString (toString p)).length ≤ 20 := by
  have e : ((p.toNat : Nat) : Int) = p := Int.toNat_of_nonneg h0
  have := txt0 ⟨p.toNat, by omega⟩
  simp only [e] at this
  exact this
theorem small_log {p : Int} (h0 : 0 ≤ p) (h1 : p ≤ 97) : p.natAbs.log2 < 1920 := by
  by_cases hz : p.natAbs = 0
  · rw [hz]; decide +kernel
  · have := (Nat.log2_lt (n := p.natAbs) (k := 1920) hz).mpr (Nat.lt_of_lt_of_le (show p.natAbs < 2 ^ 7 by omega) (Nat.pow_le_pow_right (by decide) (by decide)))
    exact this
section
variable {K : Frag} {vs : List V} {H : Hp} {Q : VK} {E : XK}
abbrev g_is_whole : Gam := { gam0 with glo := [("int", .ty "int"), ("bool", .ty "bool")] }
theorem r_is_whole (h : spWhole vs H Q E) : dSs g_is_whole K m_is_whole (W0 E) (D0 Q) (start ["thing"] vs) H := by
  obtain ⟨v, rfl, h⟩ := h
  cases v with
  | int i => exact ⟨_, rfl, rfl, _, rfl, rfl, h⟩
  | non => exact ⟨_, rfl, rfl, h⟩
  | str s => exact ⟨_, rfl, rfl, h⟩
  | bl b => exact ⟨_, rfl, rfl, _, rfl, rfl, h⟩
  | ref p =>
    obtain ⟨⟨o, t, e, k⟩, h⟩ := h
    refine ⟨_, rfl, .inl (.inl ⟨o, t, e, k, rfl, ?_⟩)⟩
    rw [kind_cases k]
    exact h
  | _ => exact (show False from h).elim
theorem r__law_whole (h : spWhole vs H Q E) : dSs g_is_whole K m__law_whole (W0 E) (D0 Q) (start ["_law_thing"] vs) H := by
  obtain ⟨v, rfl, h⟩ := h
  cases v with
  | int i => exact ⟨_, rfl, rfl, _, rfl, rfl, h⟩
  | non => exact ⟨_, rfl, rfl, h⟩
  | str s => exact ⟨_, rfl, rfl, h⟩
  | bl b => exact ⟨_, rfl, rfl, _, rfl, rfl, h⟩
  | ref p =>
    obtain ⟨⟨o, t, e, k⟩, h⟩ := h
    refine ⟨_, rfl, .inl (.inl ⟨o, t, e, k, rfl, ?_⟩)⟩
    rw [kind_cases k]
    exact h
  | _ => exact (show False from h).elim
abbrev g_room : Gam := gam0
theorem r_room (h : spRoom K vs H Q E) : dSs g_room K m__law_room (W0 E) (D0 Q) (start ["_law_script", "_law_k", "_law_cell", "_law_left"] vs) H := by
  obtain ⟨a, ns, k, rfl, hs, hn, k0, k1, h⟩ := h
  have fin : ∀ c : Int, dSs g_room K (tlN 2 m__law_room) (W0 E) (D0 Q) [some (.ref a), some (.int k), some (.int c), none] H := fun c => by
    have fin2 : ∀ l : Int, 0 ≤ l → dSs g_room K (tlN 4 m__law_room) (W0 E) (D0 Q) [some (.ref a), some (.int k), some (.int c), some (.int l)] H := fun l hl => by
      have bk : Sm k := Bd.mono (j := 7) (show k.natAbs < 2 ^ 7 by omega) (by decide)
      have bkk : Sm (104729 * k) := Bd.mono (j := 40) (show (104729 * k).natAbs < 2 ^ 40 by omega) (by decide)
      have kk : 0 ≤ k * k ∧ k * k ≤ 3600 := ⟨Int.mul_nonneg k0 k0, Int.mul_le_mul k1 k1 k0 (by decide)⟩
      have e : 104729 * k * k = 104729 * (k * k) := Int.mul_assoc ..
      have c0 := Int.emod_nonneg c (b := 2147483629) (by decide)
      have c1 := Int.emod_lt_of_pos c (b := 2147483629) (by decide)
      have bb : Sm (c.fmod 2147483629 + 104729 * k * k + 7) := Bd.mono (j := 60) (show _ < 2 ^ 60 by rw [Int.fmod_eq_emod_of_nonneg _ (by decide), e]; omega) (by decide)
      have d0 := Int.emod_nonneg ((c.fmod 2147483629 + 104729 * k * k + 7) * 48271) (b := 2147483647) (by decide)
      have d1 := Int.emod_lt_of_pos ((c.fmod 2147483629 + 104729 * k * k + 7) * 48271) (b := 2147483647) (by decide)
      refine ⟨_, rfl, _, rfl, by decide, _, rfl, (show Sm 104729 by unfold Sm; decide).mul bk, _, rfl, bkk.mul bk, bb.mul (by unfold Sm; decide), by decide, two_le, fun q hq => h q _ (Kp.new hq) hq ⟨l, _, upd_same, hl, ?_, ?_⟩⟩
      · rw [Int.fmod_eq_emod_of_nonneg _ (by decide)]
        exact d0
      · rw [Int.fmod_eq_emod_of_nonneg _ (by decide)]
        exact d1
    refine ⟨_, rfl, ⟨by decide, by decide, by decide⟩, _, rfl, ?_⟩
    by_cases hc : (10 : Int) ^ (18 : Int).toNat ≤ c
    · refine ite_t (decide_eq_true hc) ⟨_, rfl, fin2 c ?_⟩
      have : (0 : Int) ≤ 10 ^ (18 : Int).toNat := by decide
      omega
    · exact ite_f (decide_eq_false hc) (fin2 0 (by decide))
  refine ⟨_, rfl, _, rfl, _, Or.inl ⟨_, hs, rfl⟩, _, rfl, ?_⟩
  rw [List.length_map]
  by_cases hk : k < ns.length
  · refine ite_t (decide_eq_true hk) ⟨_, rfl, _, rfl, _, _, .inl hs, ?_, fin (ns[k.toNat]'(by omega))⟩
    rw [atI_of k0 (by rw [List.length_map]; exact hk), List.getElem?_map, List.getElem?_eq_getElem (by omega)]
    rfl
  · exact ite_f (decide_eq_false hk) (fin 0)
theorem r_take (h : spTake vs H Q E) : dSs gam0 K m__law_take (W0 E) (D0 Q) (start ["_law_room_here", "_law_many", "_law_found"] vs) H := by
  obtain ⟨r, n, rfl, n0, n1, ⟨l, m, hr, l0, m0, m1⟩, h⟩ := h
  refine ⟨_, rfl, _, _, .inl (.inl (.inl hr)), rfl, _, rfl, ?_⟩
  have sn : Sm n := Bd.mono (j := 60) (show n.natAbs < 2 ^ 60 by omega) (by decide)
  by_cases hl : 0 < l
  · refine ite_t (decide_eq_true hl) ⟨_, rfl, _, _, .inl (.inl (.inl hr)), rfl, _, rfl, by omega, _, rfl, _, _, .inl (.inl (.inl hr)), rfl, _, rfl, by omega, sn.div, _, rfl, ?_⟩
    refine ⟨_, _, _, _, rfl, rfl, hr, rfl, _, rfl, ?_⟩
    have e : l.fmod n = l % n := Int.fmod_eq_emod_of_nonneg _ (by omega)
    have d : 0 ≤ l.fdiv n := by rw [Int.fdiv_eq_ediv_of_nonneg _ (by omega)]; exact Int.ediv_nonneg l0 (by omega)
    exact h _ _ (by rw [e]; exact Int.emod_nonneg _ (by omega)) (by rw [e]; exact Int.emod_lt_of_pos _ n0) ⟨_, _, upd_same, d, m0, m1⟩ KpX.set
  · have nxt : ∀ m : Int, 0 ≤ m → m < 2147483647 → ∃ m' : Int, (m * 48271 + 39373).fmod 2147483647 = m' ∧ 0 ≤ m' ∧ m' < 2147483647 := fun m a b => ⟨_, rfl, by rw [Int.fmod_eq_emod_of_nonneg _ (by decide)]; exact Int.emod_nonneg _ (by decide), by rw [Int.fmod_eq_emod_of_nonneg _ (by decide)]; exact Int.emod_lt_of_pos _ (by decide)⟩
    have sm : ∀ m : Int, 0 ≤ m → m < 2147483647 → Sm m := fun m a b => Bd.mono (j := 31) (show m.natAbs < 2 ^ 31 by omega) (by decide)
    obtain ⟨m', em, a0, a1⟩ := nxt m m0 m1
    refine ite_f (decide_eq_false hl) ⟨_, rfl, _, _, .inl (.inl (.inl hr)), rfl, (sm m m0 m1).mul (by unfold Sm; decide), by decide, _, rfl, _, _, _, _, rfl, rfl, hr, rfl, ?_⟩
    rw [em]
    have hr1 : upd H r (.lst [.int l, .int m']) r = some (.lst [.int l, .int m']) := upd_same
    have fin : ∀ (f : Int) (H' : Hp), RoomAt H' r → KpX r H H' → dSs gam0 K (tlN 4 m__law_take) (W0 E) (D0 Q) [some (.ref r), some (.int n), some (.int f)] H' := fun f H' hR kp => by
      have e : f.fmod n = f % n := Int.fmod_eq_emod_of_nonneg _ (by omega)
      exact ⟨_, rfl, _, rfl, by omega, h _ _ (by rw [e]; exact Int.emod_nonneg _ (by omega)) (by rw [e]; exact Int.emod_lt_of_pos _ n0) hR kp⟩
    refine ⟨_, rfl, _, _, .inl (.inl (.inl hr1)), rfl, _, rfl, _, _, .inl (.inl (.inl hr1)), rfl, (sm m' a0 a1).mul (sm m' a0 a1), by decide, by decide, PyProof.noPylong_small (by decide), _, rfl, ⟨by decide, by decide, by decide⟩, _, rfl, ?_⟩
    by_cases hn : (10 : Int) ^ (6 : Int).toNat < n
    · obtain ⟨m2, em2, b0, b1⟩ := nxt m' a0 a1
      refine ite_t (decide_eq_true hn) ⟨_, rfl, _, _, .inl (.inl (.inl hr1)), rfl, (sm m' a0 a1).mul (by unfold Sm; decide), by decide, _, rfl, _, _, _, _, rfl, rfl, hr1, rfl, ?_⟩
      rw [em2]
      have hr2 : upd (upd H r (.lst [.int l, .int m'])) r (.lst [.int l, .int m2]) r = some (.lst [.int l, .int m2]) := upd_same
      have c0 : 0 ≤ (m' * m').fmod 2147483629 ∧ (m' * m').fmod 2147483629 < 2147483629 := by
        rw [Int.fmod_eq_emod_of_nonneg _ (by decide)]
        exact ⟨Int.emod_nonneg _ (by decide), Int.emod_lt_of_pos _ (by decide)⟩
      refine ⟨_, rfl, Sm.mul ?_ (by unfold Sm; decide), _, rfl, _, _, .inl (.inl (.inl hr2)), rfl, _, rfl, _, _, .inl (.inl (.inl hr2)), rfl, (sm m2 b0 b1).mul (sm m2 b0 b1), by decide, fin _ _ ⟨l, m2, upd_same, l0, b0, b1⟩ (KpX.set.trans KpX.set)⟩
      refine Bd.mono (j := 31) ?_ (by decide)
      show (((m' * m').fmod 2147483629).fdiv 16).natAbs < 2 ^ 31
      rw [Int.fdiv_eq_ediv_of_nonneg _ (by decide)]
      omega
    · exact ite_f (decide_eq_false hn) (fin _ _ ⟨l, m', upd_same, l0, a0, a1⟩ KpX.set)
theorem RoomAt.kp {H H' : Hp} {r : Addr} (h : RoomAt H r) (k : Kp H H') : RoomAt H' r := by
  obtain ⟨l, m, e, q⟩ := h
  exact ⟨l, m, k _ _ e, q⟩
theorem RoomAt.ne {H : Hp} {r l : Addr} (h : RoomAt H r) (n : H l = none) : l ≠ r := by
  obtain ⟨_, _, e, _⟩ := h
  exact (ne_of_none e n).symm

theorem Th.w {v : V} (h : Th H v) (hi : ∀ p, v = .int p → Q (.bl true) H) (hn : fkV v = false → Q (.bl false) H) : spW v H Q := by
  cases v with
  | int i => exact hi i rfl
  | non => exact hn rfl
  | str s => exact hn rfl
  | bl b => exact hn rfl
  | ref p => exact ⟨h, hn rfl⟩
  | _ => exact (show False from h).elim
abbrev g_is_prime (ρ : Fs) : Gam := { gam0 with fn := [("is_whole", en ρ.is_whole ["thing"] spWhole 1)], glo := [("MOST_PRIME", .int 97)] }
theorem r_is_prime {ρ : Fs} (h : spPrime vs H Q E) : dSs (g_is_prime ρ) K m_is_prime (W0 E) (D0 Q) (start ["thing", "part"] vs) H := by
  obtain ⟨p, rfl, h⟩ := h
  refine ⟨_, rfl, _, rfl, _, rfl, _, rfl, ?_⟩
  by_cases q1 : 2 ≤ p
  · refine ite_t (decide_eq_true q1) ⟨_, rfl, ?_⟩
    by_cases q2 : p ≤ 97
    · refine ite_f (by show (!decide (p ≤ 97)) = false; rw [decide_eq_true q2]; rfl) ⟨_, rfl, _, _, rfl, ⟨by decide, by decide, by omega, by omega⟩, fun D hD => ?_⟩
      refine lc_filter (fun k => decide (p % k = 0)) (by rw [sizeLine_eq]; omega) (show 1 < 2 by decide) hD (fun k k1 k2 H' R kp r => ?_) (fun H' kp e => ?_)
      · refine ⟨_, rfl, _, rfl, by omega, _, rfl, ?_⟩
        rw [Int.fmod_eq_emod_of_nonneg _ (by omega)]
        exact r
      · refine ⟨Nat.zero_le _, fun l hl => ?_⟩
        have ne : D ≠ l := ne_of_none e hl
        refine .inr (.inl ⟨.list ((fac p).map PyData.int), .list [], .lst (.inl (.inl (by rw [upd_ne ne]; exact e))) (dps K _ _), .lst (.inl (.inl upd_same)) .nil, PySem.W.ke_shaped_ints _, rfl, ?_⟩)
        rw [eqv0]
        have q := h _ (kp.trans (Kp.new (o := .lst []) hl))
        unfold pr at q
        rw [decide_eq_true q1, decide_eq_true q2, Bool.true_and, Bool.true_and] at q
        exact q
    · refine ite_t (by show (!decide (p ≤ 97)) = true; rw [decide_eq_false q2]; rfl) ?_
      have q := h H (Kp.refl H)
      unfold pr at q
      rw [decide_eq_false q2, Bool.false_and, Bool.and_false] at q
      exact q
  · have q := h H (Kp.refl H)
    unfold pr at q
    rw [decide_eq_false q1, Bool.false_and] at q
    exact ite_f (decide_eq_false q1) ⟨_, rfl, q⟩
abbrev g_init (ρ : Fs) (C CF : Addr) : Gam := { gam0 with fn := [("is_whole", en ρ.is_whole ["thing"] spWhole 1), ("is_prime", en ρ.is_prime ["thing"] spPrime 2)], exc := [("NoField", CF)], att := fun a f => a = C ∧ f = "own_prime" }
theorem r_init {ρ : Fs} {C CF : Addr} (h : spInit C CF vs H Q E) : dSs (g_init ρ C CF) K m_Field___init__ (W0 E) (D0 Q) (start ["self", "prime"] vs) H := by
  obtain ⟨x, dx, v, rfl, hx, tv, h, he⟩ := h
  have fin : ∀ H', fkV v = true → Kp H H' → dSs (g_init ρ C CF) K (tlN 1 m_Field___init__) (W0 E) (D0 Q) (start ["self", "prime"] [.ref x, v]) H' := fun H' hf kp =>
    ⟨_, rfl, _, rfl, x, C, dx, [], rfl, kp _ _ hx, ⟨rfl, rfl⟩, by decide, h hf _ (kp.kx.trans KpX.set) upd_same⟩
  refine ⟨_, rfl, v, rfl, tv.w (fun p e => ?_) (fun e => ?_)⟩
  · subst e
    refine ⟨_, rfl, _, rfl, ?_⟩
    by_cases hz : p = 0
    · have f1 : fkV (.int p) = true := by show (decide (p = 0) || pr p) = true; rw [decide_eq_true hz]; rfl
      exact ite_f (by show (!decide (p = 0)) = false; rw [decide_eq_true hz]; rfl) (fin H f1 (Kp.refl H))
    · have f1 : fkV (.int p) = pr p := by show (decide (p = 0) || pr p) = pr p; rw [decide_eq_false hz]; rfl
      refine ite_t (by show (!decide (p = 0)) = true; rw [decide_eq_false hz]; rfl) ⟨_, rfl, p, rfl, fun H' kp => ?_⟩
      cases e : pr p with
      | true => exact fin H' (f1.trans e) kp
      | false => exact he (f1.trans e) H' kp
  · exact he e H (Kp.refl H)
abbrev g_get (C : Addr) : Gam := { gam0 with att := fun a f => a = C ∧ f = "own_prime" }
theorem r_prime {C : Addr} (h : spGet C vs H Q E) : dSs (g_get C) K m_Field_prime (W0 E) (D0 Q) (start ["self"] vs) H := by
  obtain ⟨f, p, rfl, ⟨dx, hf⟩, h⟩ := h
  exact ⟨_, rfl, f, C, dx, _, _, rfl, hf, ⟨rfl, rfl⟩, fld_look _, h⟩
theorem r_repr {C : Addr} (h : spRepr C vs H Q E) : dSs (g_get C) K m_Field___repr__ (W0 E) (D0 Q) (start ["self"] vs) H := by
  obtain ⟨f, p, rfl, ⟨dx, hf⟩, p0, p1, h⟩ := h
  obtain ⟨t1, t2, t3⟩ := txt p0 p1
  refine ⟨_, rfl, by rw [sizeLine_eq]; decide, _, rfl, f, C, dx, _, _, rfl, hf, ⟨rfl, rfl⟩, fld_look _, .inr ⟨p, rfl, small_log p0 p1, _, rfl, by rw [sizeLine_eq]; omega, _, rfl, by rw [t1, sizeLine_eq]; omega, ?_⟩⟩
  rw [t1]
  exact h
theorem r_due {ρ : Fs} (h : spDue vs H Q E) : dSs { gam0 with fn := [("_law_whole", en ρ._law_whole ["_law_thing"] spWhole 1)] } K m__law_due (W0 E) (D0 Q) (start ["_law_thing", "_law_part"] vs) H := by
  obtain ⟨v, rfl, tv, h⟩ := h
  refine ⟨_, rfl, v, rfl, tv.w (fun p e => ?_) (fun e => ?_)⟩
  · subst e
    refine ⟨_, rfl, ?_⟩
    by_cases hz : p = 0
    · have q := h H (Kp.refl H)
      have f1 : fkV (.int p) = true := by show (decide (p = 0) || pr p) = true; rw [decide_eq_true hz]; rfl
      rw [f1] at q
      refine ite_t (decide_eq_true hz) ?_
      rw [decide_eq_true hz]
      exact q
    · have f1 : fkV (.int p) = pr p := by show (decide (p = 0) || pr p) = pr p; rw [decide_eq_false hz]; rfl
      rw [f1] at h
      refine ite_f (decide_eq_false hz) ?_
      refine ⟨_, rfl, _, rfl, ?_⟩
      by_cases q1 : 2 ≤ p
      · refine ite_t (decide_eq_true q1) ?_
        by_cases q2 : p ≤ 97
        · refine ite_t (decide_eq_true q2) ?_
          refine ⟨_, rfl, _, _, rfl, ⟨by decide, by decide, by omega, by omega⟩, fun D hD => ?_⟩
          refine lc_filter (fun k => decide (p % k = 0)) (by rw [sizeLine_eq]; omega) (show 1 < 2 by decide) hD (fun k k1 k2 H' R kp r => ?_) (fun H' kp e => ?_)
          · refine ⟨_, rfl, _, rfl, by omega, _, rfl, ?_⟩
            rw [Int.fmod_eq_emod_of_nonneg _ (by omega)]
            exact r
          · refine ⟨Nat.zero_le _, fun l hl => ?_⟩
            have ne : D ≠ l := ne_of_none e hl
            refine .inr (.inl ⟨.list ((fac p).map PyData.int), .list [], .lst (.inl (.inl (by rw [upd_ne ne]; exact e))) (dps K _ _), .lst (.inl (.inl upd_same)) .nil, PySem.W.ke_shaped_ints _, rfl, ?_⟩)
            rw [eqv0]
            have q := h _ (kp.trans (Kp.new (o := .lst []) hl))
            unfold pr at q
            rw [decide_eq_true q1, decide_eq_true q2, Bool.true_and, Bool.true_and] at q
            exact q
        · refine ite_f (decide_eq_false q2) ?_
          have q := h H (Kp.refl H)
          unfold pr at q
          rw [decide_eq_false q2, Bool.false_and, Bool.and_false] at q
          show Q (.bl (decide (p ≤ 97))) H
          rw [decide_eq_false q2]
          exact q
      · have q := h H (Kp.refl H)
        unfold pr at q
        rw [decide_eq_false q1, Bool.false_and] at q
        exact ite_f (decide_eq_false q1) q
  · have q := h H (Kp.refl H)
    rw [e] at q
    exact q
/-! ### equality -/
structure KE (K : Frag) (C : Addr) : Prop where
  k : ∀ T ∈ (["NoneType", "bool", "int", "str", "list", "tuple", "dict"] : List String), PySem.W.kitOne K (.type T) (.ref C) = some false ∧ PySem.W.notFirst K C (.type T) = true
  s : PySem.W.kitOne K (.ref C) (.ref C) = some true
  cl : Cls K C
  ha : PySem.W.findIn K (.ref C) "__class__" = some (some (.builtin "object.__class__"))
  hn : PySem.W.specialIn K (.builtin "object.__class__") "__get__" = some (some (.builtin "getset_descriptor.__get__"))
  ht : PySem.W.takesIn K (.builtin "object.__class__") = some true
  hm : PySem.W.mroIn K C (.type "object") = some true
theorem Th.ty {v : V} (h : Th H v) : ∃ T ∈ (["NoneType", "bool", "int", "str", "list", "tuple", "dict"] : List String), TyX K H v (.type T) := by
  cases v with
  | int i => exact ⟨_, by decide, .base (.int i)⟩
  | non => exact ⟨_, by decide, .base .non⟩
  | str s => exact ⟨_, by decide, .base (.str s)⟩
  | bl b => exact ⟨_, by decide, .base (.bl b)⟩
  | ref p =>
    obtain ⟨o, t, e, k⟩ := h
    cases o with
    | lst xs => cases k; exact ⟨_, by decide, .base (.lst e)⟩
    | tup xs => cases k; exact ⟨_, by decide, .base (.tup e)⟩
    | dK xs => cases k; exact ⟨_, by decide, .base (.dK e)⟩
    | dT xs => cases k; exact ⟨_, by decide, .base (.dT e)⟩
    | _ => cases k
  | _ => exact (show False from h).elim
theorem FieldAt.ty {C f : Addr} {p : Int} (h : FieldAt C H f p) (F : KE K C) : TyX K H (.ref f) (.ref C) := by
  obtain ⟨dx, e⟩ := h
  exact .base (.ins e F.cl F.ha F.hn F.ht F.hm)
theorem isA_own {v : V} {C : Addr} (h : rIsi K [v, .ref C] H Q) : rIsA K [v, .ref C] H Q := by
  cases v with
  | ref a => exact .inl h
  | _ => exact h
abbrev g_eq (C : Addr) : Gam := { gam0 with glo := [("Field", .ref C)], att := fun a f => a = C ∧ f = "own_prime" }
theorem r_eq {C : Addr} (F : KE K C) (h : spEq C vs H Q E) : dSs (g_eq C) K m_Field___eq__ (W0 E) (D0 Q) (start ["self", "other"] vs) H := by
  obtain ⟨f, p, v, rfl, ⟨dx, hf⟩, h⟩ := h
  refine ⟨_, rfl, ?_⟩
  show rIsA K [v, .ref C] H _
  rcases h with ⟨tv, h⟩ | ⟨g, q, rfl, hg, h⟩
  · obtain ⟨T, hT, ty⟩ := tv.ty (K := K)
    exact isA_own ⟨_, _, _, _, _, rfl, .own C, ty, (F.k T hT).1, h⟩
  · have ty := hg.ty F
    obtain ⟨dg, eg⟩ := hg
    exact isA_own ⟨_, _, _, _, _, rfl, .own C, ty, F.s, _, rfl, f, C, dx, _, _, rfl, hf, ⟨rfl, rfl⟩, fld_look _, _, rfl, g, C, dg, _, _, rfl, eg, ⟨rfl, rfl⟩, fld_look _, h⟩
end
end K01
namespace K01
open PySem PySem.Spec PyProof.Rows L2 Rf NumP
/-- what is known of the classes of exceptions -/
structure KF (K : Frag) (FE CF CN CS : Addr) : Prop where
  cF : ExcC K CF
  nF : PySem.W.kitOne K (.ref CF) (.ref CF) = some true
  nN : PySem.W.kitOne K (.ref CF) (.ref CN) = some false
  nS : PySem.W.kitOne K (.ref CF) (.ref CS) = some false
  nV : PySem.W.kitOne K (.ref CF) (.type "ValueError") = some true
  eF : PySem.W.exmOne K (.ref CF) (.ref FE) = some true
def TTk (CF : Addr) (tl : XK → Hp → VK → Prop) (H : Hp) (Q : VK) : Prop := ∃ (E : XK) (Q' : VK), (∀ cls d H', E cls d H' → cls = .ref CF ∧ d = none ∧ ∀ H2, Kp H' H2 → Q (.str "field") H2) ∧ (∀ v H', Q' v H' → ∀ H2, Kp H' H2 → Q (.str "told") H2) ∧ tl E H Q'
abbrev g_kind (FE CF CN CS : Addr) : Gam := { gam0 with glo := [("FalseError", .ref FE), ("NoField", .ref CF), ("NoNumber", .ref CN), ("NoSum", .ref CS), ("ValueError", .ty "ValueError")] }
section
variable {K : Frag} {FE CF CN CS : Addr}
theorem len4 {σ : L2.St} (h : σ.length = 4) : ∃ a b c d, σ = [a, b, c, d] := by
  match σ, h with
  | [a, b, c, d], _ => exact ⟨a, b, c, d, rfl⟩
theorem r_kind (F : KF K FE CF CN CS) (f c' : Addr) (q : Str) (tl : XK → Hp → VK → Prop) (H : Hp) (Q : VK) (hc : H c' = some (LamX.CodeO c' q)) (h : TTk CF tl H Q) :
    kindS (g_kind FE CF CN CS) K ["_law_call", "_law_kept", "e", "_law_kinds"] (clsOf (.ref FE)) 2 1 (hd1 m__law_kind) (tlN 2 m__law_kind) f c' q tl H Q := by
  obtain ⟨E, Q', hE, hQ, ht⟩ := h
  refine ⟨E, Q', fun cls d σ' H' he hl => ?_, fun v H' hv => ?_, rfl, hc, ht⟩
  · obtain ⟨rfl, rfl, hq⟩ := hE cls d H' he
    refine ⟨true, F.eF, fun _ a ha => ?_, fun z => by cases z⟩
    obtain ⟨s0, s1, s2, s3, rfl⟩ := len4 hl
    refine ⟨_, rfl, fun na => ?_⟩
    have ea : upd H' a (ExcO a (.ref CF) none) a = some (ExcO a (.ref CF) none) := upd_same
    refine ⟨_, rfl, _, rfl, ite_f rfl ?_⟩
    refine ⟨_, rfl, .inr ⟨a, CF, _, _, true, rfl, .own CF, ea, F.cF, F.nF, _, rfl, .inr ⟨a, CF, _, _, false, rfl, .own CN, ea, F.cF, F.nN, _, rfl, .inr ⟨a, CF, _, _, false, rfl, .own CS, ea, F.cF, F.nS, ?_⟩⟩⟩⟩
    refine ⟨by rw [sizeLine_eq]; show (3 : Nat) ≤ _; decide, fun l hl => ?_⟩
    have el : upd (upd H' a (ExcO a (.ref CF) none)) l (.lst [.bl true, .bl false, .bl false]) l = some (.lst [.bl true, .bl false, .bl false]) := upd_same
    have ea2 : upd (upd H' a (ExcO a (.ref CF) none)) l (.lst [.bl true, .bl false, .bl false]) a = some (ExcO a (.ref CF) none) := by rw [upd_ne (ne_of_none ea hl)]; exact ea
    refine ⟨_, rfl, ?_, l, _, _, rfl, rfl, .inl (.inl el), rfl, rfl, _, rfl, ?_⟩
    · exact .inl ⟨rfl, _, .inl (.inl el)⟩
    · refine ite_f rfl ⟨_, rfl, .inr ⟨a, CF, _, _, true, rfl, .ty "ValueError", ea2, F.cF, F.nV, ?_⟩⟩
      refine ⟨by rw [sizeLine_eq]; show (3 : Nat) ≤ _; decide, fun r hr => ?_⟩
      have nr : l ≠ r := ne_of_none el hr
      have er : upd (upd (upd H' a (ExcO a (.ref CF) none)) l (.lst [.bl true, .bl false, .bl false])) r (.lst [.str "field", .str "number", .str "sum"]) l = some (.lst [.bl true, .bl false, .bl false]) := by rw [upd_ne nr]; exact el
      have kp : Kp H' (upd (upd (upd H' a (ExcO a (.ref CF) none)) l (.lst [.bl true, .bl false, .bl false])) r (.lst [.str "field", .str "number", .str "sum"])) := (Kp.new na).trans ((Kp.new hl).trans (Kp.new hr))
      exact ⟨_, rfl, .inl ⟨rfl, _, .inl (.inl er)⟩, l, _, _, 0, .bl true, rfl, rfl, .inl (.inl er), rfl, rfl, rfl, rfl, fun m z hm e => (by
        omega), _, _, .inl (.inl (.inl upd_same)), rfl, hq _ kp⟩
  · refine ⟨_, rfl, _, rfl, ?_⟩
    exact hQ v H' hv H' (Kp.refl H')
end
end K01
namespace K01
open PySem PySem.Spec PyProof.Rows L2 Rf NumP
abbrev eEq (ρ : Fs) (C : Addr) : FnE := en ρ.Field___eq__ ["self", "other"] (spEq C) 1
abbrev eRp (ρ : Fs) (C : Addr) : FnE := en ρ.Field___repr__ ["self"] (spRepr C) 1
abbrev ePr (ρ : Fs) (C : Addr) : FnE := en ρ.Field_prime ["self"] (spGet C) 1
abbrev eWh (ρ : Fs) : FnE := en ρ._law_whole ["_law_thing"] spWhole 1
abbrev g_right (ρ : Fs) (C : Addr) : Gam := { gam0 with fn := [("_law_whole", eWh ρ)], mt := fun a m e => a = C ∧ m = "prime" ∧ e = ePr ρ C, eq := fun a e => a = C ∧ e = eEq ρ C, rp := fun a e => a = C ∧ e = eRp ρ C }
/-- the fields seen, and their primes -/
def Seen (C : Addr) (H : Hp) (sn : Addr) (gs : List (Addr × Int)) : Prop := H sn = some (.lst (gs.map fun g => .ref g.1)) ∧ ∀ g ∈ gs, FieldAt C H g.1 g.2
def spRight (C : Addr) : Sp := fun vs H Q _ => ∃ (f : Addr) (p : Int) (sn : Addr) (gs : List (Addr × Int)), vs = [.ref f, .int p, .ref sn] ∧ FieldAt C H f p ∧ 0 ≤ p ∧ p ≤ 97 ∧ Seen C H sn gs ∧ gs.length ≤ 64 ∧ ∀ H', Kp H H' → Q (.bl true) H'
theorem txt20 : ∀ i : Fin 98, (Str.ofString "Field(").length + (Str.ofString (toString ((i : Nat) : Int))).length ≤ 20 ∧ (Str.ofString "Field(" ++ Str.ofString (toString ((i : Nat) : Int))).length + (Str.ofString ")").length ≤ 20 := by decide +kernel
theorem txt2 {p : Int} (h0 : 0 ≤ p) (h1 : p ≤ 97) : (Str.ofString "Field(").length + (Str.ofString (toString p)).length ≤ sizeLine ∧ (Str.ofString "Field(" ++ Str.ofString (toString p)).length + (Str.ofString ")").length ≤ sizeLine := by
  have e : ((p.toNat : Nat) : Int) = p := Int.toNat_of_nonneg h0
  have := txt20 ⟨p.toNat, by omega⟩
  simp only [e] at this
  rw [sizeLine_eq]
  omega
section
variable {K : Frag} {vs : List V} {H : Hp} {Q : VK} {E : XK}
theorem FieldAt.kp {C : Addr} {H H' : Hp} {f : Addr} {p : Int} (h : FieldAt C H f p) (k : Kp H H') : FieldAt C H' f p := ⟨h.choose, k _ _ h.choose_spec⟩
theorem eq_own {Γ : Gam} {f : Addr} {v : V} (h : rOwnEq Γ K (.ref f) v H Q) : rCmp Γ K .Eq (.ref f) v H Q := by cases v <;> exact .inr (.inr h)
theorem ne_own {Γ : Gam} {f : Addr} {v : V} (h : rOwnNe Γ K (.ref f) v H Q) : rCmp Γ K .NotEq (.ref f) v H Q := by cases v <;> exact .inr (.inr h)
theorem Th.kp {H' : Hp} {v : V} (h : Th H v) (k : Kp H H') : Th H' v := by
  cases v with
  | ref p =>
    obtain ⟨o, t, h1, h2⟩ := h
    exact ⟨o, t, k _ _ h1, h2⟩
  | _ => exact h
theorem r_right {ρ : Fs} {C : Addr} (F : KE K C) (h : spRight C vs H Q E) : dSs (g_right ρ C) K m__law_right (W0 E) (D0 Q) (start ["_law_one", "_law_thing", "_law_seen", "_law_other"] vs) H := by
  obtain ⟨f, p, sn, gs, rfl, hF, p0, p1, ⟨hs, hg⟩, hl, h⟩ := h
  obtain ⟨dx, ef⟩ := id hF
  obtain ⟨t1, t2, t3⟩ := txt p0 p1
  refine ⟨C, _, ⟨rfl, rfl, rfl⟩, _, rfl, f, dx, _, rfl, ef, fld_no _ (by decide +kernel), f, p, rfl, hF, .int p, rfl, ?_⟩
  refine ⟨C, _, ⟨rfl, rfl, rfl⟩, _, rfl, f, dx, _, rfl, ef, fld_no _ (by decide +kernel), f, p, rfl, hF, _, rfl, _, rfl, ite_f (by rw [decide_eq_true rfl]; rfl) ?_⟩
  obtain ⟨u1, u2⟩ := txt2 p0 p1
  refine ⟨_, rfl, C, dx, _, _, ef, ⟨rfl, rfl⟩, f, p, rfl, hF, p0, p1, _, rfl, _, rfl, small_log p0 p1, u1, u2, _, rfl, ite_f (by rw [decide_eq_true rfl]; rfl) ?_⟩
  refine ⟨_, rfl, .inl ⟨_, .inl (.inl hs), ?_⟩⟩
  refine for_list (K := K) (a := sn) (xs := gs.map fun g => .ref g.1) (Pv := fun _ σ H' => Kp H H' ∧ ∃ s3, σ = [some (.ref f), some (.int p), some (.ref sn), s3]) ⟨Kp.refl H, _, rfl⟩ (fun j σ H' _ hP => .inl (.inl (hP.1 _ _ hs))) (fun j v σ H' hx hP => ?_) (fun σ H' hP => ?_)
  · obtain ⟨k, s3, rfl⟩ := hP
    obtain ⟨g, hgm, rfl⟩ := List.mem_map.mp (List.mem_of_getElem? hx)
    have hG := (hg g hgm).kp k
    obtain ⟨dg, eg⟩ := id hG
    have ef' := k _ _ ef
    have hF' := hF.kp k
    refine ⟨_, rfl, _, rfl, .inr (.inr ⟨f, C, dx, _, _, .ref C, rfl, ef', ⟨rfl, rfl⟩, hG.ty F, by simp [PySem.W.notFirst], f, p, _, rfl, hF', .inr ⟨g.1, g.2, rfl, hG, _, rfl, ?_⟩⟩)⟩
    refine ⟨_, rfl, C, _, ⟨rfl, rfl, rfl⟩, _, rfl, g.1, dg, _, rfl, eg, fld_no _ (by decide +kernel), g.1, g.2, rfl, hG, _, rfl, ite_f (by rw [decide_eq_true rfl]; rfl) ?_⟩
    refine ⟨_, rfl, _, rfl, .inr (.inr ⟨f, C, dx, _, _, .ref C, rfl, ef', ⟨rfl, rfl⟩, hG.ty F, by simp [PySem.W.notFirst], f, p, _, rfl, hF', .inr ⟨g.1, g.2, rfl, hG, _, rfl, ?_⟩⟩)⟩
    refine ⟨_, rfl, C, _, ⟨rfl, rfl, rfl⟩, _, rfl, g.1, dg, _, rfl, eg, fld_no _ (by decide +kernel), g.1, g.2, rfl, hG, _, rfl, ite_f (by rw [decide_eq_true rfl]; rfl) ?_⟩
    exact ⟨k, _, rfl⟩
  · obtain ⟨k, s3, rfl⟩ := hP
    have ef' := k _ _ ef
    refine ⟨_, rfl, _, rfl, C, dx, _, _, ef', ⟨rfl, rfl⟩, f, p, rfl, hF.kp k, p0, p1, _, rfl, _, rfl, two_le, fun a1 h1 => ⟨_, rfl, by rw [sizeLine_eq]; show (1 : Nat) ≤ _; decide, fun a2 h2 a3 h3 => ⟨by rw [sizeLine_eq]; show (5 : Nat) ≤ _; decide, fun l hl => ?_⟩⟩⟩
    have n1 := Kp.new (o := .tup [.int p, .int 1]) h1
    have n2 := Kp.new (o := .lst [.ref f]) h2
    have n3 := Kp.new (o := .dK []) h3
    have e1 := n2.trans n3 a1 _ upd_same
    have e2 := n3 a2 _ upd_same
    have e3 := upd_same (H := upd (upd H' a1 (.tup [.int p, .int 1])) a2 (.lst [.ref f])) (a := a3) (o := HO.dK [])
    have nn := n1.trans (n2.trans n3)
    generalize upd (upd (upd H' a1 (.tup [.int p, .int 1])) a2 (.lst [.ref f])) a3 (.dK []) = H3 at *
    have nl := Kp.new (o := .lst [.int p, .str (Str.ofString "Field(" ++ Str.ofString (toString p) ++ Str.ofString ")"), .ref a1, .ref a2, .ref a3]) hl
    have KL := k.trans (nn.trans nl)
    have el := upd_same (H := H3) (a := l) (o := HO.lst [.int p, .str (Str.ofString "Field(" ++ Str.ofString (toString p) ++ Str.ofString ")"), .ref a1, .ref a2, .ref a3])
    have th : ∀ v ∈ ([.int p, .str (Str.ofString "Field(" ++ Str.ofString (toString p) ++ Str.ofString ")"), .ref a1, .ref a2, .ref a3] : List V), Th (upd H3 l (.lst [.int p, .str (Str.ofString "Field(" ++ Str.ofString (toString p) ++ Str.ofString ")"), .ref a1, .ref a2, .ref a3])) v := fun v hv => by
      simp only [List.mem_cons, List.not_mem_nil, or_false] at hv
      rcases hv with rfl | rfl | rfl | rfl | rfl
      · exact trivial
      · exact trivial
      · exact ⟨_, _, nl _ _ e1, rfl⟩
      · exact ⟨_, _, nl _ _ e2, rfl⟩
      · exact ⟨_, _, nl _ _ e3, rfl⟩
    refine .inl ⟨_, .inl (.inl el), fun D hD => ?_⟩
    generalize upd H3 l (.lst [.int p, .str (Str.ofString "Field(" ++ Str.ofString (toString p) ++ Str.ofString ")"), .ref a1, .ref a2, .ref a3]) = HL at *
    refine lc_list (K := K) (Pv := fun _ H' => Kp HL H' ∧ H' D = some (.lst [])) ⟨Kp.new hD, upd_same⟩ (fun j H' _ hP => .inl (.inl (hP.1 _ _ el))) (fun j v H' hx hP => ?_) (fun H' hP => ?_)
    · obtain ⟨kp, eD⟩ := hP
      have kk := KL.trans kp
      have tv := (th v (List.mem_of_getElem? hx)).kp kp
      obtain ⟨T, hT, ty⟩ := tv.ty (K := K)
      refine ⟨rfl, _, rfl, _, rfl, ?_⟩
      refine eq_own ⟨f, C, dx, _, _, .type T, rfl, kk _ _ ef, ⟨rfl, rfl⟩, ty, (F.k T hT).2, f, p, v, rfl, hF.kp kk, .inl ⟨tv, _, rfl, _, rfl, ?_⟩⟩
      refine ite_f rfl ⟨_, rfl, _, rfl, ?_⟩
      refine ne_own ⟨f, C, dx, _, _, .type T, rfl, kk _ _ ef, ⟨rfl, rfl⟩, ty, (F.k T hT).2, f, p, v, rfl, hF.kp kk, .inl ⟨tv, _, rfl, _, rfl, ?_⟩⟩
      exact ite_f rfl ⟨kp, eD⟩
    · obtain ⟨kp, eD⟩ := hP
      refine ⟨Nat.zero_le _, fun l2 hl2 => ?_⟩
      have ne : D ≠ l2 := ne_of_none eD hl2
      exact .inr (.inl ⟨.list [], .list [], .lst (.inl (.inl (by rw [upd_ne ne]; exact eD))) .nil, .lst (.inl (.inl upd_same)) .nil, rfl, rfl, h _ (KL.trans (kp.trans (Kp.new hl2)))⟩)
end
end K01
namespace K01
open PySem PySem.Spec PyProof.Rows L2 Rf NumP
abbrev eTake (ρ : Fs) : FnE := en ρ._law_take ["_law_room_here", "_law_many"] spTake 1
abbrev eInit (ρ : Fs) (C CF : Addr) : FnE := en ρ.Field___init__ ["self", "prime"] (spInit C CF) 3 kb_Field___init__
abbrev g_law (ρ : Fs) (T : List (Addr × Str)) (K : Frag) (C CF : Addr) : Gam := { gam0 with fn := [("_law_room", en ρ._law_room ["_law_script", "_law_k"] (spRoom K) 1), ("_law_take", eTake ρ), ("_law_due", en ρ._law_due ["_law_thing"] spDue 2), ("_law_right", en ρ._law_right ["_law_one", "_law_thing", "_law_seen"] (spRight C) 3)], cl := [("Field", C, eInit ρ C CF)], mt := fun a m e => a = C ∧ m = "prime" ∧ e = ePr ρ C, rp := fun a e => a = C ∧ e = eRp ρ C, tb := T, lam := [("_law_kind", TTk CF)] }
def spLaw (T : List (Addr × Str)) (K : Frag) : Sp := fun vs H Q _ => ∃ (a : Addr) (ns : List Int), vs = [.ref a] ∧ SqL K H a (ns.map V.int) ∧ ns.length ≤ 63 ∧ LamX.Tabs T H ∧ ∀ H', Q (.bl true) H'
section
variable {K : Frag} {vs : List V} {H : Hp} {Q : VK} {E : XK}
theorem seqExt {H H' : Hp} {a : Addr} {xs : List V} (h : SqL K H a xs) (e : LamX.ExtN H H') : SqL K H' a xs := by
  rcases h with (h | ⟨o, h⟩) | h
  · exact .inl (.inl (e _ _ h (fun _ q => by cases q)))
  · exact .inl (.inr ⟨o, e _ _ h (fun _ q => by cases q)⟩)
  · exact .inr h
theorem pick {xs : List V} {v : Int} (h0 : 0 ≤ v) (h1 : v < xs.length) : ∃ x, x ∈ xs ∧ atI xs v = some x :=
  ⟨xs[v.toNat]'(by omega), List.getElem_mem _, by rw [atI_of h0 h1, List.getElem?_eq_getElem (by omega)]⟩
theorem Kp.ext {H H' : Hp} (k : Kp H H') : LamX.ExtN H H' := fun b o e _ => k b o e
theorem Th.ext {H' : Hp} {v : V} (h : Th H v) (e : LamX.ExtN H H') : Th H' v := by
  cases v with
  | ref p =>
    obtain ⟨o, t, h1, h2⟩ := h
    refine ⟨o, t, e _ _ h1 (fun _ q => ?_), h2⟩
    subst q
    cases h2
  | _ => exact h
theorem fk_rng {p : Int} (h : fk p = true) : 0 ≤ p ∧ p ≤ 97 := by
  unfold fk pr at h
  simp only [Bool.or_eq_true, Bool.and_eq_true, decide_eq_true_eq] at h
  omega
theorem tabs_lst {T : List (Addr × Str)} {H : Hp} {sn : Addr} {xs ys : List V} (t : LamX.Tabs T H) (e : H sn = some (.lst xs)) : LamX.Tabs T (upd H sn (.lst ys)) := fun p hp => by
  obtain ⟨ps, h1, h2, h3⟩ := t p hp
  refine ⟨ps, by rw [upd_ne (fun z => by rw [z, e] at h1; cases h1)]; exact h1, h2, fun pos cv hc => ?_⟩
  obtain ⟨c, e1, e2⟩ := h3 pos cv hc
  exact ⟨c, e1, by rw [upd_ne (fun z => by rw [z, e] at e2; cases e2)]; exact e2⟩
theorem if_rest {Γ : Gam} {m : MSs} {W : WX} {nd : Ends} {σ : L2.St} {c : Bool} (Rel : V → Hp → Prop) (S : V → L2.St) (hR : ∀ v H', Rel v H' → nd.nx (S v) H') (h1 : c = true → (∀ v H', Rel v H' → nd.nx (S v) H') → dSs Γ K m W nd σ H) (h2 : c = false → (∀ v H', Rel v H' → nd.nx (S v) H') → nd.nx σ H) : if c = true then dSs Γ K m W nd σ H else nd.nx σ H := by
  cases c with
  | true => exact ite_t rfl (h1 rfl hR)
  | false => exact ite_f rfl (h2 rfl hR)
theorem r_law {ρ : Fs} {T : List (Addr × Str)} {C CF : Addr} (h : spLaw T K vs H Q E) : dSs (g_law ρ T K C CF) K m_law (W0 E) (D0 Q) (start ["_law_script", "_law_seen", "_law_k", "_law_room_here", "_law_due_here", "_law_one", "_law_thing"] vs) H := by
  obtain ⟨a, ns, rfl, hs, hn, hT, h⟩ := h
  refine ⟨_, rfl, rfl, rfl, fun f0 dx0 hf0 hdx0 hne0 => ⟨f0, dx0, _, rfl, upd_same, trivial, fun _ H1 k1 e1 => ⟨rfl, by rw [sizeLine_eq]; show (1 : Nat) ≤ _; decide, fun sn hsn => ?_⟩, fun z => by cases z⟩⟩
  have hH1 : Kp H H1 := fun b o e => k1 b o (fun z => by rw [z, hf0] at e; cases e) ((Kp.new hdx0) b o e |> fun q => by
    rw [upd_ne (fun z => by rw [z, hf0] at e; cases e)]
    exact q)
  have hs1 : H1 f0 = some (.ins C dx0 (fldF (.int 0))) := e1
  have hsnH : H sn = none := hH1.free hsn
  have HS : Seen C (upd H1 sn (.lst [.ref f0])) sn [(f0, 0)] := ⟨upd_same, fun g hg => by
    rw [List.mem_singleton.mp hg]
    exact ⟨dx0, by rw [upd_ne (ne_of_none hs1 hsn)]; exact hs1⟩⟩
  have hE : LamX.ExtN H (upd H1 sn (.lst [.ref f0])) := (Kp.ext hH1).trans (Kp.ext (Kp.new hsn))
  refine ⟨_, rfl, _, Or.inl ⟨_, seqExt hs hE, rfl⟩, _, rfl, ?_, ?_, ?_⟩
  all_goals (try rw [List.length_map])
  · split <;> split <;> omega
  · split <;> split <;> omega
  refine for_range (Pv := fun i σ H' => LamX.ExtN H H' ∧ LamX.Tabs T H' ∧ ∃ gs s2 s3 s4 s5 s6, Seen C H' sn ((f0, 0) :: gs) ∧ gs.length ≤ i ∧ σ = [some (.ref a), some (.ref sn), s2, s3, s4, s5, s6]) ⟨hE, LamX.Tabs.ext hT (hH1.trans (Kp.new hsn)), [], _, _, _, _, _, HS, Nat.le_refl 0, rfl⟩ (fun i σ H0 hi hP => ?_) (fun σ H' hP => ?_)
  · obtain ⟨e0, T0, gs, s2, s3, s4, s5, s6, ⟨hS, hG⟩, hl, rfl⟩ := hP
    have hi40 : i < 40 := by
      revert hi
      split <;> split <;> omega
    refine ⟨_, rfl, _, rfl, a, ns, 0 + (i : Int), rfl, seqExt hs e0, hn, by omega, by omega, fun r H2 k2 nr hr2 => ?_⟩
    refine ⟨_, rfl, r, 136, rfl, by decide, by decide, hr2, fun v1 H3 v10 v11 hr3 k3 => ?_⟩
    refine ⟨_, rfl, r, 4, rfl, by decide, by decide, hr3, fun v2 H4 v20 v21 hr4 k4 => ⟨_, rfl, ?_⟩⟩
    refine if_rest (fun v H' => Th H' v ∧ RoomAt H' r ∧ KpX r H2 H') (fun v => [some (.ref a), some (.ref sn), some (.int (0 + (i : Int))), some (.ref r), s4, s5, some v]) (fun v H5 hv => ?_) (fun _ R => ?_) (fun _ R => R (.int (v1 - 5)) H4 ⟨trivial, hr4, k3.trans k4⟩)
    · obtain ⟨tv, hr5, k5⟩ := hv
      refine ⟨two_le, fun l hl => ⟨_, rfl, v, rfl, tv.kp (Kp.new hl), fun H6 k6 => ?_⟩⟩
      have f6 := k6 l _ upd_same
      refine ⟨_, _, .inl (.inl (.inl f6)), (show atI _ (if fkV v = true then 1 else 0) = some (V.str (if fkV v = true then Str.ofString "told" else Str.ofString "field")) by cases fkV v <;> rfl), ?_⟩
      have KA : Kp H0 H6 := (k2.kx.trans (k5.trans ((Kp.new (o := .lst [.str "field", .str "told"]) hl).kx.trans k6.kx))).kp nr
      have t6 : Th H6 v := (tv.kp (Kp.new hl)).kp k6
      have T6 : LamX.Tabs T H6 := LamX.Tabs.ext T0 KA
      cases hf : fkV v with
      | false =>
        refine ⟨T6, fun H7 e7 T7 => ⟨fun cls d H' => cls = .ref CF ∧ d = none ∧ Kp H7 H', fun _ _ => False, ?_, fun _ _ q => q.elim, ?_⟩⟩
        · rintro cls d H' ⟨rfl, rfl, k⟩
          refine ⟨rfl, rfl, fun H8 k8 => ⟨_, rfl, _, rfl, ?_⟩⟩
          refine ite_f (by decide +kernel) ⟨_, rfl, _, rfl, ite_f (by decide +kernel) ?_⟩
          refine ⟨e0.trans ((Kp.ext KA).trans (e7.trans (Kp.ext (k.trans k8)))), LamX.Tabs.ext T7 (k.trans k8), gs, _, _, _, _, _, ⟨?_, ?_⟩, by omega, rfl⟩
          · exact (k.trans k8) _ _ (e7 _ _ (KA _ _ hS) (fun _ q => by cases q))
          · intro g hg
            obtain ⟨dg, eg⟩ := hG g hg
            exact ⟨dg, (k.trans k8) _ _ (e7 _ _ (KA _ _ eg) (fun _ q => by cases q))⟩
        · refine ⟨_, rfl, fun f dx hff hdx hne => ?_⟩
          have K7 : Kp H7 (upd (upd H7 dx (.own f)) f (.ins C dx [])) := (((Kp.new (o := .own f) hdx).kx (r := f)).trans KpX.set).kp hff
          exact ⟨f, dx, v, rfl, upd_same, (t6.ext e7).kp K7, (fun z => by cases hf.symm.trans z), (fun _ H' k => ⟨rfl, rfl, K7.trans k⟩)⟩
      | true =>
        obtain ⟨p, rfl, hp⟩ : ∃ p, v = .int p ∧ fk p = true := by
          cases v <;> first | exact ⟨_, rfl, hf⟩ | cases hf
        obtain ⟨p0, p1⟩ := fk_rng hp
        refine ⟨T6, fun H7 e7 T7 => ⟨fun _ _ _ => False, fun _ H' => Kp H7 H', fun _ _ _ q => q.elim, ?_, ?_⟩⟩
        · intro v' H' k H8 k8
          have e08 : LamX.ExtN H0 H8 := (Kp.ext KA).trans (e7.trans (Kp.ext (k.trans k8)))
          have hS8 := e08 _ _ hS (fun _ q => by cases q)
          refine ⟨_, rfl, _, rfl, ite_f (by decide +kernel) ⟨_, rfl, _, rfl, ite_t (by decide +kernel) ?_⟩⟩
          refine ⟨_, rfl, _, rfl, rfl, rfl, fun f dx hff hdx hne => ⟨f, dx, .int p, rfl, upd_same, trivial, (fun _ H9 k9 e9 => ⟨rfl, ?_⟩), (fun z => by cases hf.symm.trans z)⟩⟩
          have K9 : Kp H8 H9 := (((Kp.new (o := .own f) hdx).kx (r := f)).trans (KpX.set.trans k9)).kp hff
          have hG8 : ∀ g ∈ (f0, 0) :: gs, FieldAt C H9 g.1 g.2 := fun g hg => by
            obtain ⟨dg, eg⟩ := hG g hg
            exact ⟨dg, K9 _ _ (e08 _ _ eg (fun _ q => by cases q))⟩
          refine ⟨_, rfl, _, rfl, _, rfl, f, p, sn, (f0, 0) :: gs, rfl, ⟨dx, e9⟩, p0, p1, ⟨K9 _ _ hS8, hG8⟩, by rw [List.length_cons]; omega, fun H10 k10 => ?_⟩
          refine ⟨_, rfl, .inl ⟨rfl, _, .inl (.inl (k10 _ _ (K9 _ _ hS8)))⟩, _, rfl, sn, _, rfl, k10 _ _ (K9 _ _ hS8), by rw [sizeLine_eq, List.length_map, List.length_cons]; omega, ?_⟩
          have hsn10 := k10 _ _ (K9 _ _ hS8)
          refine ⟨fun b o eb nt => ?_, tabs_lst (LamX.Tabs.ext T7 ((k.trans k8).trans (K9.trans k10))) hsn10, gs ++ [(f, p)], _, _, _, _, _, ⟨?_, ?_⟩, ?_, rfl⟩
          · rw [upd_ne (fun z => by rw [z, hsnH] at eb; cases eb)]
            exact k10 _ _ (K9 _ _ (e08 _ _ (e0 _ _ eb nt) nt))
          · rw [upd_same]
            simp
          · intro g hg
            have hg' : g ∈ (f0, 0) :: gs ∨ g = (f, p) := by simpa [or_assoc] using hg
            have fin : FieldAt C H10 g.1 g.2 := by
              rcases hg' with hg' | rfl
              · exact (hG8 g hg').kp k10
              · exact ⟨dx, k10 _ _ e9⟩
            obtain ⟨dg, eg⟩ := fin
            exact ⟨dg, by rw [upd_ne (fun z => by rw [z, hsn10] at eg; cases eg)]; exact eg⟩
          · rw [List.length_append]
            show gs.length + 1 ≤ i + 1
            omega
        · refine ⟨_, rfl, fun f dx hff hdx hne => ?_⟩
          have K7 : Kp H7 (upd (upd H7 dx (.own f)) f (.ins C dx [])) := (((Kp.new (o := .own f) hdx).kx (r := f)).trans KpX.set).kp hff
          exact ⟨f, dx, .int p, rfl, upd_same, trivial, (fun _ H' k _ => ⟨rfl, (((Kp.new (o := .own f) hdx).kx (r := f)).trans (KpX.set.trans k)).kp hff⟩), (fun z => by cases hf.symm.trans z)⟩
    · refine ⟨by rw [sizeLine_eq]; show (1 : Nat) ≤ _; decide, fun a1 h1 => ⟨by rw [sizeLine_eq]; show (1 : Nat) ≤ _; decide, fun a2 h2 a3 h3 => ⟨⟨by decide, by decide, by decide⟩, ⟨by decide, by decide, by decide⟩, by rw [sizeLine_eq]; show (10 : Nat) ≤ _; decide, fun l hl => ⟨_, rfl, ?_⟩⟩⟩⟩
      have n1 := Kp.new (o := .tup [.int 7]) h1
      have n2 := Kp.new (o := .lst [.int 7]) h2
      have n3 := Kp.new (o := .dK []) h3
      have n4 := Kp.new (o := .lst [.non, .bl true, .bl false, .str "7", .ref a1, .ref a2, .ref a3, .str "", .int ((10 : Int) ^ (20 : Int).toNat), .int ((7 : Int) ^ (20 : Int).toNat)]) hl
      have q3 := n4 a3 _ upd_same
      have q2 := n3.trans n4 a2 _ upd_same
      have q1 := n2.trans (n3.trans n4) a1 _ upd_same
      have kk := n1.trans (n2.trans (n3.trans n4))
      have nl := (hr4.kp (n1.trans (n2.trans n3))).ne hl
      refine ⟨r, 10, rfl, by decide, by decide, hr4.kp kk, fun v3 H5 v30 v31 hr5 k5 => ?_⟩
      have f5 := k5 l _ nl upd_same
      have w1 := k5 a1 _ (hr4.ne h1) q1
      have w2 := k5 a2 _ ((hr4.kp n1).ne h2) q2
      have w3 := k5 a3 _ ((hr4.kp (n1.trans n2)).ne h3) q3
      obtain ⟨x, hx, ex⟩ := pick (xs := [V.non, V.bl true, V.bl false, V.str "7", V.ref a1, V.ref a2, V.ref a3, V.str "", V.int ((10 : Int) ^ (20 : Int).toNat), V.int ((7 : Int) ^ (20 : Int).toNat)]) v30 v31
      refine ⟨_, _, .inl (.inl (.inl f5)), ex, R x H5 ⟨?_, hr5, k3.trans (k4.trans (kk.kx.trans k5))⟩⟩
      simp only [List.mem_cons, List.not_mem_nil, or_false] at hx
      rcases hx with rfl | rfl | rfl | rfl | rfl | rfl | rfl | rfl | rfl | rfl
      · exact trivial
      · exact trivial
      · exact trivial
      · exact trivial
      · exact ⟨_, _, w1, rfl⟩
      · exact ⟨_, _, w2, rfl⟩
      · exact ⟨_, _, w3, rfl⟩
      · exact trivial
      · exact trivial
      · exact trivial
  · obtain ⟨e0, T0, gs, s2, s3, s4, s5, s6, ⟨hS, hG⟩, hl, rfl⟩ := hP
    have g0 := hG (f0, 0) List.mem_cons_self
    obtain ⟨d0, eg⟩ := id g0
    have hat : atI (List.map (fun g : Addr × Int => V.ref g.1) ((f0, 0) :: gs)) 0 = some (.ref f0) := by
      rw [atI_of (by decide) (by rw [List.length_map, List.length_cons]; omega)]
      rfl
    refine ⟨C, _, ⟨rfl, rfl, rfl⟩, _, rfl, _, _, .inl (.inl (.inl hS)), hat, f0, d0, _, rfl, eg, fld_no _ (by decide +kernel), f0, 0, rfl, g0, ?_⟩
    refine ⟨_, rfl, _, _, .inl (.inl (.inl hS)), hat, C, d0, _, _, eg, ⟨rfl, rfl⟩, f0, 0, rfl, g0, by decide, by decide, _, rfl, ?_⟩
    have ez : (Str.ofString "Field(" ++ Str.ofString (toString (0 : Int)) ++ Str.ofString ")") = Str.ofString "Field(0)" := by decide +kernel
    show Q (.bl (decide ((Str.ofString "Field(" ++ Str.ofString (toString (0 : Int)) ++ Str.ofString ")") = Str.ofString "Field(0)"))) _
    rw [decide_eq_true ez]
    exact h _
end
end K01
namespace K01
open PySem PySem.Spec PyProof.Rows L2 Rf NumP

/-- what the top has written -/
structure Facts (K : Frag) (mg : Str → Option Value) (ρ : Fs) (C FE CF CN CS : Addr) : Prop where
  f_is_whole : F_is_whole K ρ.is_whole
  f_is_prime : F_is_prime K ρ.is_prime
  f__law_room : F__law_room K ρ._law_room
  f__law_take : F__law_take K ρ._law_take
  f__law_whole : F__law_whole K ρ._law_whole
  f__law_kind : F__law_kind K ρ._law_kind
  f__law_due : F__law_due K ρ._law_due
  f__law_right : F__law_right K ρ._law_right
  f_Field___init__ : F_Field___init__ K ρ.Field___init__
  f_Field___eq__ : F_Field___eq__ K ρ.Field___eq__
  f_Field___repr__ : F_Field___repr__ K ρ.Field___repr__
  f_Field_prime : F_Field_prime K ρ.Field_prime
  f_law : F_law K ρ.law
  g_is_whole : mg "is_whole" = some (.ref ρ.is_whole.ad)
  g_is_prime : mg "is_prime" = some (.ref ρ.is_prime.ad)
  g__law_room : mg "_law_room" = some (.ref ρ._law_room.ad)
  g__law_take : mg "_law_take" = some (.ref ρ._law_take.ad)
  g__law_whole : mg "_law_whole" = some (.ref ρ._law_whole.ad)
  g__law_kind : mg "_law_kind" = some (.ref ρ._law_kind.ad)
  g__law_due : mg "_law_due" = some (.ref ρ._law_due.ad)
  g__law_right : mg "_law_right" = some (.ref ρ._law_right.ad)
  n_isinstance : mg "isinstance" = none
  n_int : mg "int" = none
  n_bool : mg "bool" = none
  n_range : mg "range" = none
  n_len : mg "len" = none
  n_max : mg "max" = none
  n_min : mg "min" = none
  n_str : mg "str" = none
  n_repr : mg "repr" = none
  n_ValueError : mg "ValueError" = none
  mp : ∃ t, mg "MOST_PRIME" = some (.int 97 t)
  cls : Cls K C
  na : NoAttr K C "own_prime"
  mkF : Mk K C ρ.Field___init__.ad
  gC : mg "Field" = some (.ref C)
  m_prime : Meth K C "prime" ρ.Field_prime.ad
  ke : KE K C
  eqs : PySem.W.findIn K (.ref C) "__eq__" = some (some (.ref ρ.Field___eq__.ad)) ∧ PySem.W.isFn K (.ref ρ.Field___eq__.ad) = true ∧ PySem.W.findIn K (.ref C) "__ne__" = some (some (.builtin "object.__ne__")) ∧ PySem.W.subIn K (.ref C) (.type "object") = some true
  rps : PySem.W.findIn K (.ref C) "__repr__" = some (some (.ref ρ.Field___repr__.ad)) ∧ PySem.W.isFn K (.ref ρ.Field___repr__.ad) = true
  xN : ExcF K mg "NoNumber" CN
  xF : ExcF K mg "NoField" CF
  gFE : mg "FalseError" = some (.ref FE)
  gCS : mg "NoSum" = some (.ref CS)
  kf : KF K FE CF CN CS
  rt : He.fAd K ("law", none) = ρ.law.ad
section
variable {P : Program} {w : World} {K : Frag} {mg : Str → Option Value} {base : Heap} {ρ : Fs} {C FE CF CN CS : Addr}
theorem lv {a b : Nat} (h : Nat.ble a b = true) : a ≤ b := Nat.le_of_ble_eq_true h
theorem noAtt : ∀ (A : Addr) (f : Str), False → Cls K A ∧ NoAttr K A f := fun _ _ h => h.elim
theorem noMt : ∀ (A : Addr) (m : Str) (e : FnE), False → FnOkE P w K mg base e ∧ e.k ≤ k ∧ Cls K A ∧ Meth K A m e.f := fun _ _ _ h => h.elim
theorem noEq : ∀ (A : Addr) (e : FnE), False → FnOkE P w K mg base e ∧ e.k + 1 ≤ k ∧ PySem.W.findIn K (.ref A) "__eq__" = some (some (.ref e.f)) ∧ PySem.W.isFn K (.ref e.f) = true ∧ PySem.W.findIn K (.ref A) "__ne__" = some (some (.builtin "object.__ne__")) ∧ PySem.W.subIn K (.ref A) (.type "object") = some true := fun _ _ h => h.elim
theorem blty {x : Str} {T : String} (h : mg x = none) (hb : bootBuiltins x = some (.type T)) (hn : x ≠ "__name__") : ∃ u, RelV (.ty T) u ∧ (mg x = some u ∨ (mg x = none ∧ bootBuiltins x = some u ∧ x ≠ "__name__")) := ⟨_, rfl, .inr ⟨h, hb, hn⟩⟩
theorem glref {x : Str} {a : Addr} (h : mg x = some (.ref a)) : ∃ u, RelV (.ref a) u ∧ (mg x = some u ∨ (mg x = none ∧ bootBuiltins x = some u ∧ x ≠ "__name__")) := ⟨_, rfl, .inl h⟩
theorem ok_is_whole (X : Facts K mg ρ C FE CF CN CS) : FnOkE P w K mg base (en ρ.is_whole ["thing"] spWhole 1) :=
  def_okF (k := 0) (n := n_is_whole) (Γ := g_is_whole) X.f_is_whole (b_is_whole X.f_is_whole) x_is_whole (gam_ok ⟨rfl, rfl, rfl, rfl, rfl⟩ trivial ⟨blty X.n_int (by decide +kernel) (by decide +kernel), blty X.n_bool (by decide +kernel) (by decide +kernel), trivial⟩ trivial noAtt noMt noEq ⟨X.n_isinstance, trivial⟩ trivial trivial) (fun vs H Q E h => by obtain ⟨_, rfl, _⟩ := h; rfl) (fun vs H Q E h => r_is_whole h) rfl
theorem ok_is_prime (X : Facts K mg ρ C FE CF CN CS) (o_is_whole : FnOkE P w K mg base (en ρ.is_whole ["thing"] spWhole 1)) : FnOkE P w K mg base (en ρ.is_prime ["thing"] spPrime 2) :=
  def_okF (k := 1) (n := n_is_prime) (Γ := g_is_prime ρ) X.f_is_prime (b_is_prime X.f_is_prime) x_is_prime (gam_ok ⟨rfl, rfl, rfl, rfl, rfl⟩ ⟨⟨o_is_whole, lv rfl, X.g_is_whole⟩, trivial⟩ ⟨let ⟨t, e⟩ := X.mp; ⟨_, ⟨t, rfl⟩, .inl e⟩, trivial⟩ trivial noAtt noMt noEq ⟨X.n_range, trivial⟩ trivial trivial) (fun vs H Q E h => by obtain ⟨_, rfl, _⟩ := h; rfl) (fun vs H Q E h => r_is_prime h) rfl
theorem ok_Field___init__ (X : Facts K mg ρ C FE CF CN CS) (o_is_whole : FnOkE P w K mg base (en ρ.is_whole ["thing"] spWhole 1)) (o_is_prime : FnOkE P w K mg base (en ρ.is_prime ["thing"] spPrime 2)) : FnOkE P w K mg base (en ρ.Field___init__ ["self", "prime"] (spInit C CF) 3 kb_Field___init__) :=
  def_okF (k := 2) (n := n_Field___init__) (Γ := g_init ρ C CF) X.f_Field___init__ (b_Field___init__ X.f_Field___init__) x_Field___init__ (gam_ok ⟨rfl, rfl, rfl, rfl, rfl⟩ ⟨⟨o_is_whole, lv rfl, X.g_is_whole⟩, ⟨o_is_prime, lv rfl, X.g_is_prime⟩, trivial⟩ trivial trivial (fun A f h => by obtain ⟨rfl, rfl⟩ := h; exact ⟨X.cls, X.na⟩) noMt noEq trivial trivial ⟨X.xF, trivial⟩) (fun vs H Q E h => by obtain ⟨_, _, _, rfl, _⟩ := h; rfl) (fun vs H Q E h => r_init h) rfl (hkb := kbok_Field___init__ X.f_Field___init__)
theorem ok_Field___eq__ (X : Facts K mg ρ C FE CF CN CS) : FnOkE P w K mg base (en ρ.Field___eq__ ["self", "other"] (spEq C) 1) :=
  def_okF (k := 0) (n := n_Field___eq__) (Γ := g_eq C) X.f_Field___eq__ (b_Field___eq__ X.f_Field___eq__) x_Field___eq__ (gam_ok ⟨rfl, rfl, rfl, rfl, rfl⟩ trivial ⟨glref X.gC, trivial⟩ trivial (fun A f h => by obtain ⟨rfl, rfl⟩ := h; exact ⟨X.cls, X.na⟩) noMt noEq ⟨X.n_isinstance, trivial⟩ trivial trivial) (fun vs H Q E h => by obtain ⟨_, _, _, rfl, _⟩ := h; rfl) (fun vs H Q E h => r_eq X.ke h) rfl
theorem ok_Field___repr__ (X : Facts K mg ρ C FE CF CN CS) : FnOkE P w K mg base (en ρ.Field___repr__ ["self"] (spRepr C) 1) :=
  def_okF (k := 0) (n := n_Field___repr__) (Γ := g_get C) X.f_Field___repr__ (b_Field___repr__ X.f_Field___repr__) x_Field___repr__ (gam_ok ⟨rfl, rfl, rfl, rfl, rfl⟩ trivial trivial trivial (fun A f h => by obtain ⟨rfl, rfl⟩ := h; exact ⟨X.cls, X.na⟩) noMt noEq trivial trivial trivial) (fun vs H Q E h => by obtain ⟨_, _, rfl, _⟩ := h; rfl) (fun vs H Q E h => r_repr h) rfl
theorem ok_Field_prime (X : Facts K mg ρ C FE CF CN CS) : FnOkE P w K mg base (en ρ.Field_prime ["self"] (spGet C) 1) :=
  def_okF (k := 0) (n := n_Field_prime) (Γ := g_get C) X.f_Field_prime (b_Field_prime X.f_Field_prime) x_Field_prime (gam_ok ⟨rfl, rfl, rfl, rfl, rfl⟩ trivial trivial trivial (fun A f h => by obtain ⟨rfl, rfl⟩ := h; exact ⟨X.cls, X.na⟩) noMt noEq trivial trivial trivial) (fun vs H Q E h => by obtain ⟨_, _, rfl, _⟩ := h; rfl) (fun vs H Q E h => r_prime h) rfl
theorem ok__law_room (X : Facts K mg ρ C FE CF CN CS) : FnOkE P w K mg base (en ρ._law_room ["_law_script", "_law_k"] (spRoom K) 1) :=
  def_okF (k := 0) (n := n__law_room) (Γ := g_room) X.f__law_room (b__law_room X.f__law_room) x__law_room (gam_ok ⟨rfl, rfl, rfl, rfl, rfl⟩ trivial trivial trivial noAtt noMt noEq ⟨X.n_len, trivial⟩ trivial trivial) (fun vs H Q E h => by obtain ⟨_, _, _, rfl, _⟩ := h; rfl) (fun vs H Q E h => r_room h) rfl
theorem ok__law_take (X : Facts K mg ρ C FE CF CN CS) : FnOkE P w K mg base (en ρ._law_take ["_law_room_here", "_law_many"] spTake 1) :=
  def_okF (k := 0) (n := n__law_take) (Γ := gam0) X.f__law_take (b__law_take X.f__law_take) x__law_take (gam_ok ⟨rfl, rfl, rfl, rfl, rfl⟩ trivial trivial trivial noAtt noMt noEq trivial trivial trivial) (fun vs H Q E h => by obtain ⟨_, _, rfl, _⟩ := h; rfl) (fun vs H Q E h => r_take h) rfl
theorem ok__law_whole (X : Facts K mg ρ C FE CF CN CS) : FnOkE P w K mg base (en ρ._law_whole ["_law_thing"] spWhole 1) :=
  def_okF (k := 0) (n := n__law_whole) (Γ := g_is_whole) X.f__law_whole (b__law_whole X.f__law_whole) x__law_whole (gam_ok ⟨rfl, rfl, rfl, rfl, rfl⟩ trivial ⟨blty X.n_int (by decide +kernel) (by decide +kernel), blty X.n_bool (by decide +kernel) (by decide +kernel), trivial⟩ trivial noAtt noMt noEq ⟨X.n_isinstance, trivial⟩ trivial trivial) (fun vs H Q E h => by obtain ⟨_, rfl, _⟩ := h; rfl) (fun vs H Q E h => r__law_whole h) rfl
theorem ok__law_due (X : Facts K mg ρ C FE CF CN CS) (o__law_whole : FnOkE P w K mg base (en ρ._law_whole ["_law_thing"] spWhole 1)) : FnOkE P w K mg base (en ρ._law_due ["_law_thing"] spDue 2) :=
  def_okF (k := 1) (n := n__law_due) (Γ := { gam0 with fn := [("_law_whole", en ρ._law_whole ["_law_thing"] spWhole 1)] }) X.f__law_due (b__law_due X.f__law_due) x__law_due (gam_ok ⟨rfl, rfl, rfl, rfl, rfl⟩ ⟨⟨o__law_whole, lv rfl, X.g__law_whole⟩, trivial⟩ trivial trivial noAtt noMt noEq ⟨X.n_range, trivial⟩ trivial trivial) (fun vs H Q E h => by obtain ⟨_, rfl, _⟩ := h; rfl) (fun vs H Q E h => r_due h) rfl
theorem ok_kind (X : Facts K mg ρ C FE CF CN CS) : LamOk P w K mg base 4 "_law_kind" (TTk CF) := by
  obtain ⟨oc, od, dV, kV, doc, pm, an, cdv, ct, osl, e, lk, hcd, _, _⟩ := X.f__law_kind.ex
  have hb := b__law_kind X.f__law_kind
  rw [e] at lk hb
  exact kind_ok (Γ := g_kind FE CF CN CS) (n := n__law_kind) (v := .ref FE) x__law_kind.1 x__law_kind.2 (by decide +kernel) (by decide +kernel) (by decide +kernel) (fun _ _ _ => trivial) (by decide +kernel) (by decide +kernel) rfl rfl lk hcd X.f__law_kind.kp X.g__law_kind hb
    (gam_ok ⟨rfl, rfl, rfl, rfl, rfl⟩ trivial ⟨glref X.gFE, glref X.xF.gC, glref X.xN.gC, glref X.gCS, blty X.n_ValueError (by decide +kernel) (by decide +kernel), trivial⟩ trivial noAtt noMt noEq ⟨X.n_isinstance, trivial⟩ trivial trivial) rfl rfl
    (fun f c' q tl H Q hc h => r_kind X.kf f c' q tl H Q hc h)
theorem ok_all (X : Facts K mg ρ C FE CF CN CS) (TB : LamX.TabB base mg (He.cT K ("law", none)).1 (He.cT K ("law", none)).2) :
    FnOkE P w K mg base (en ρ.law ["_law_script"] (spLaw [((He.cT K ("law", none)).2, "law.<locals>.<lambda>")] K) 7) := by
  have o1 := ok_is_whole (P := P) (w := w) (base := base) X
  have o2 := ok_is_prime X o1
  have o4 := ok_Field___init__ X o1 o2
  have q1 := ok_Field___eq__ (P := P) (w := w) (base := base) X
  have q2 := ok_Field___repr__ (P := P) (w := w) (base := base) X
  have q3 := ok_Field_prime (P := P) (w := w) (base := base) X
  have l1 := ok__law_room (P := P) (w := w) (base := base) X
  have l2 := ok__law_take (P := P) (w := w) (base := base) X
  have l4 := ok__law_whole (P := P) (w := w) (base := base) X
  have l7 := ok__law_due X l4
  have rt : FnOkE P w K mg base (en ρ._law_right ["_law_one", "_law_thing", "_law_seen"] (spRight C) 3) :=
    def_okF (k := 2) (n := n__law_right) (Γ := g_right ρ C) X.f__law_right (b__law_right X.f__law_right) x__law_right
      (gam_ok ⟨rfl, rfl, rfl, rfl, rfl⟩ ⟨⟨l4, lv rfl, X.g__law_whole⟩, trivial⟩ trivial trivial noAtt
        (fun A m e h => by
          obtain ⟨rfl, rfl, rfl⟩ := h
          exact ⟨q3, lv rfl, X.cls, X.m_prime⟩) (fun A e h => by
          obtain ⟨rfl, rfl⟩ := h
          exact ⟨q1, lv rfl, X.eqs⟩) ⟨X.n_repr, ⟨X.n_str, trivial⟩⟩ trivial trivial (fun A e h => by
          obtain ⟨rfl, rfl⟩ := h
          exact ⟨q2, lv rfl, X.rps⟩))
      (fun vs H Q E h => by obtain ⟨_, _, _, _, rfl, _⟩ := h; rfl) (fun vs H Q E h => r_right X.ke h) rfl
  exact def_okLF (k := 4) (n := n_law) (Γ := g_law ρ [((He.cT K ("law", none)).2, "law.<locals>.<lambda>")] K C CF) X.f_law (b_law X.f_law) x_law
    (gam_ok ⟨rfl, rfl, rfl, rfl, rfl⟩ ⟨⟨l1, lv rfl, X.g__law_room⟩, ⟨l2, lv rfl, X.g__law_take⟩, ⟨l7, lv rfl, X.g__law_due⟩, ⟨rt, lv rfl, X.g__law_right⟩, trivial⟩ trivial ⟨⟨o4, lv rfl, X.mkF, X.gC⟩, trivial⟩ noAtt
      (fun A m e h => by
        obtain ⟨rfl, rfl, rfl⟩ := h
        exact ⟨q3, lv rfl, X.cls, X.m_prime⟩) noEq ⟨X.n_range, ⟨X.n_max, ⟨X.n_min, ⟨X.n_len, ⟨X.n_int, ⟨X.n_repr, trivial⟩⟩⟩⟩⟩⟩ ⟨ok_kind X, trivial⟩ trivial (fun A e h => by
        obtain ⟨rfl, rfl⟩ := h
        exact ⟨q2, lv rfl, X.rps⟩))
    (fun vs H Q E h => by obtain ⟨_, _, rfl, _⟩ := h; rfl) (fun vs H Q E h => r_law h) (by decide +kernel) X.rt TB (by
        have e : ("law" : Str) ++ ".<locals>." ++ "<lambda>" = "law.<locals>.<lambda>" := by decide +kernel
        rw [e])
end
end K01
namespace K01
open PySem PySem.Spec PyProof.Rows L2 Rf NumP

/-! ### the head -/
def fa : List He.Fa := [.glo "is_whole", .glo "is_prime", .glo "_law_room", .glo "_law_take", .glo "_law_whole", .glo "_law_kind", .glo "_law_due", .glo "_law_right", .free "isinstance", .free "int", .free "bool", .free "range", .free "len", .free "max", .free "min", .free "str", .free "repr", .free "ValueError", .int "MOST_PRIME" 97, .cls "Field", .noat "Field" "own_prime", .mkr "Field", .glo "Field", .meth "Field" "prime", .exc "NoNumber", .glo "NoNumber", .exc "NoField", .glo "NoField", .glo "FalseError", .glo "NoSum", .exm "NoField" "FalseError" true, .glo "law"]
def fu : List He.DefD := [d_is_whole, d_is_prime, d__law_room, d__law_take, d__law_whole, d__law_kind, d__law_due, d__law_right, d_Field___init__, d_Field___eq__, d_Field___repr__, d_Field_prime, d_law]
def tf : List He.Defn := [("law", none)]
def ex (K : Frag) : Bool := excCB K (He.ga K "NoField") && (decide (PySem.W.kitOne K (.ref (He.ga K "NoField")) (.ref (He.ga K "NoField")) = some true) && (decide (PySem.W.kitOne K (.ref (He.ga K "NoField")) (.ref (He.ga K "NoNumber")) = some false) && (decide (PySem.W.kitOne K (.ref (He.ga K "NoField")) (.ref (He.ga K "NoSum")) = some false) && (decide (PySem.W.kitOne K (.ref (He.ga K "NoField")) (.type "ValueError") = some true) && ((PySem.W.findIn K (.ref (He.ga K "Field")) "__eq__" == some (some (.ref (He.fAd K d_Field___eq__.at_)))) && (PySem.W.isFn K (.ref (He.fAd K d_Field___eq__.at_)) && ((PySem.W.findIn K (.ref (He.ga K "Field")) "__ne__" == some (some (.builtin "object.__ne__"))) && (decide (PySem.W.subIn K (.ref (He.ga K "Field")) (.type "object") = some true) && ((PySem.W.findIn K (.ref (He.ga K "Field")) "__repr__" == some (some (.ref (He.fAd K d_Field___repr__.at_)))) && (PySem.W.isFn K (.ref (He.fAd K d_Field___repr__.at_)) && (((["NoneType", "bool", "int", "str", "list", "tuple", "dict"] : List String).all fun T => decide (PySem.W.kitOne K (.type T) (.ref (He.ga K "Field")) = some false) && PySem.W.notFirst K (He.ga K "Field") (.type T)) && (decide (PySem.W.kitOne K (.ref (He.ga K "Field")) (.ref (He.ga K "Field")) = some true) && ((PySem.W.findIn K (.ref (He.ga K "Field")) "__class__" == some (some (.builtin "object.__class__"))) && ((PySem.W.specialIn K (.builtin "object.__class__") "__get__" == some (some (.builtin "getset_descriptor.__get__"))) && (decide (PySem.W.takesIn K (.builtin "object.__class__") = some true) && (decide (PySem.W.mroIn K (He.ga K "Field") (.type "object") = some true)))))))))))))))))
abbrev R : PySem.W.OpenRow := PySem.W.OpenLaw.row PySem.Challenge.rw_falsesums_k01_what_is_a_field
abbrev hk : PySem.W.Hook := He.hookX 6 fa fu [] tf ex
def ob (s : PySem.W.SharedT) : He.AlX := He.obsX 6 fa fu [] tf ex (HandSHeadRun.getT s)
theorem ob_eq (s : PySem.W.SharedT) : ob s = hk.obs s.abs := He.obsX_eq (HandSHeadRun.getT_eq s)
def names : List PySem.Str := ["_wall", "FalseError", "NoField", "NoNumber", "NoSum", "MOST_PRIME", "is_whole", "is_prime", "Field", "_law_room", "_law_take", "_law_whole", "_law_kind", "_law_due", "_law_right"]
theorem run (w : World) : HandSHeadRun.RunEq R (PySem.W.view R.prog [18]) hk ob 4000 names w := by
  intro os
  kernel_rfl
theorem facts {w : World} {K : Frag} {h : Heap} {mg : Str → Option Value} (X : K.In h) (G : h.Ns mainGlobals mg) (c : He.SaysX fa fu [] tf ex w h K) :
    ∃ ρ : Fs, ρ.law.ad = He.ga K "law" ∧ Facts K mg ρ (He.ga K "Field") (He.ga K "FalseError") (He.ga K "NoField") (He.ga K "NoNumber") (He.ga K "NoSum") := by
  have d := c.t.d
  obtain ⟨fd_is_whole, F_is_whole⟩ := d.def_ 0 (d := d_is_whole) rfl
  obtain ⟨fd_is_prime, F_is_prime⟩ := d.def_ 1 (d := d_is_prime) rfl
  obtain ⟨fd__law_room, F__law_room⟩ := d.def_ 2 (d := d__law_room) rfl
  obtain ⟨fd__law_take, F__law_take⟩ := d.def_ 3 (d := d__law_take) rfl
  obtain ⟨fd__law_whole, F__law_whole⟩ := d.def_ 4 (d := d__law_whole) rfl
  obtain ⟨fd__law_kind, F__law_kind⟩ := d.def_ 5 (d := d__law_kind) rfl
  obtain ⟨fd__law_due, F__law_due⟩ := d.def_ 6 (d := d__law_due) rfl
  obtain ⟨fd__law_right, F__law_right⟩ := d.def_ 7 (d := d__law_right) rfl
  obtain ⟨fd_Field___init__, F_Field___init__⟩ := d.def_ 8 (d := d_Field___init__) rfl
  obtain ⟨fd_Field___eq__, F_Field___eq__⟩ := d.def_ 9 (d := d_Field___eq__) rfl
  obtain ⟨fd_Field___repr__, F_Field___repr__⟩ := d.def_ 10 (d := d_Field___repr__) rfl
  obtain ⟨fd_Field_prime, F_Field_prime⟩ := d.def_ 11 (d := d_Field_prime) rfl
  obtain ⟨fd_law, F_law⟩ := d.def_ 12 (d := d_law) rfl
  obtain ⟨x1, x⟩ := He.ba c.more
  obtain ⟨x2, x⟩ := He.ba x
  obtain ⟨x3, x⟩ := He.ba x
  obtain ⟨x4, x⟩ := He.ba x
  obtain ⟨x5, x⟩ := He.ba x
  obtain ⟨x6, x⟩ := He.ba x
  obtain ⟨x7, x⟩ := He.ba x
  obtain ⟨x8, x⟩ := He.ba x
  obtain ⟨x9, x⟩ := He.ba x
  obtain ⟨x10, x⟩ := He.ba x
  obtain ⟨x11, x⟩ := He.ba x
  obtain ⟨x12, x⟩ := He.ba x
  obtain ⟨x13, x⟩ := He.ba x
  obtain ⟨x14, x⟩ := He.ba x
  obtain ⟨x15, x⟩ := He.ba x
  obtain ⟨x16, x17⟩ := He.ba x
  refine ⟨⟨⟨0, fd_law⟩, ⟨He.fAd K d_is_whole.at_, fd_is_whole⟩, ⟨He.fAd K d_is_prime.at_, fd_is_prime⟩, ⟨He.fAd K d_Field___init__.at_, fd_Field___init__⟩, ⟨He.fAd K d_Field___eq__.at_, fd_Field___eq__⟩, ⟨He.fAd K d_Field___repr__.at_, fd_Field___repr__⟩, ⟨He.fAd K d_Field_prime.at_, fd_Field_prime⟩, ⟨He.fAd K d__law_room.at_, fd__law_room⟩, ⟨He.fAd K d__law_take.at_, fd__law_take⟩, ⟨He.fAd K d__law_whole.at_, fd__law_whole⟩, ⟨He.fAd K d__law_kind.at_, fd__law_kind⟩, ⟨He.fAd K d__law_due.at_, fd__law_due⟩, ⟨He.fAd K d__law_right.at_, fd__law_right⟩, ⟨He.fAd K d_law.at_, fd_law⟩⟩, rfl, ?_⟩
  exact {
    f_is_whole := F_is_whole
    f_is_prime := F_is_prime
    f__law_room := F__law_room
    f__law_take := F__law_take
    f__law_whole := F__law_whole
    f__law_kind := F__law_kind
    f__law_due := F__law_due
    f__law_right := F__law_right
    f_Field___init__ := F_Field___init__
    f_Field___eq__ := F_Field___eq__
    f_Field___repr__ := F_Field___repr__
    f_Field_prime := F_Field_prime
    f_law := F_law
    g_is_whole := He.glo_ok X G (d.fact 0 (f := .glo "is_whole") rfl)
    g_is_prime := He.glo_ok X G (d.fact 1 (f := .glo "is_prime") rfl)
    g__law_room := He.glo_ok X G (d.fact 2 (f := .glo "_law_room") rfl)
    g__law_take := He.glo_ok X G (d.fact 3 (f := .glo "_law_take") rfl)
    g__law_whole := He.glo_ok X G (d.fact 4 (f := .glo "_law_whole") rfl)
    g__law_kind := He.glo_ok X G (d.fact 5 (f := .glo "_law_kind") rfl)
    g__law_due := He.glo_ok X G (d.fact 6 (f := .glo "_law_due") rfl)
    g__law_right := He.glo_ok X G (d.fact 7 (f := .glo "_law_right") rfl)
    n_isinstance := He.free_ok X G (d.fact 8 (f := .free "isinstance") rfl)
    n_int := He.free_ok X G (d.fact 9 (f := .free "int") rfl)
    n_bool := He.free_ok X G (d.fact 10 (f := .free "bool") rfl)
    n_range := He.free_ok X G (d.fact 11 (f := .free "range") rfl)
    n_len := He.free_ok X G (d.fact 12 (f := .free "len") rfl)
    n_max := He.free_ok X G (d.fact 13 (f := .free "max") rfl)
    n_min := He.free_ok X G (d.fact 14 (f := .free "min") rfl)
    n_str := He.free_ok X G (d.fact 15 (f := .free "str") rfl)
    n_repr := He.free_ok X G (d.fact 16 (f := .free "repr") rfl)
    n_ValueError := He.free_ok X G (d.fact 17 (f := .free "ValueError") rfl)
    mp := He.int_ok X G (d.fact 18 (f := .int "MOST_PRIME" 97) rfl)
    cls := He.cls_ok (d.fact 19 (f := .cls "Field") rfl)
    na := He.noat_ok (d.fact 20 (f := .noat "Field" "own_prime") rfl)
    mkF := He.mkr_ok (d.fact 21 (f := .mkr "Field") rfl)
    gC := He.glo_ok X G (d.fact 22 (f := .glo "Field") rfl)
    m_prime := He.meth_ok (d.fact 23 (f := .meth "Field" "prime") rfl)
    xN := excF_of X G (d.fact 24 (f := .exc "NoNumber") rfl) (d.fact 25 (f := .glo "NoNumber") rfl)
    xF := excF_of X G (d.fact 26 (f := .exc "NoField") rfl) (d.fact 27 (f := .glo "NoField") rfl)
    gFE := He.glo_ok X G (d.fact 28 (f := .glo "FalseError") rfl)
    gCS := He.glo_ok X G (d.fact 29 (f := .glo "NoSum") rfl)
    kf := ⟨excC_of x1, of_decide_eq_true x2, of_decide_eq_true x3, of_decide_eq_true x4, of_decide_eq_true x5, He.exm_ok (d.fact 30 (f := .exm "NoField" "FalseError" true) rfl)⟩
    eqs := ⟨eq_of_beq x6, x7, eq_of_beq x8, of_decide_eq_true x9⟩
    rps := ⟨eq_of_beq x10, x11⟩
    ke := ⟨fun T hT => let ⟨a, b⟩ := He.ba (List.all_eq_true.mp x12 T hT); ⟨of_decide_eq_true a, b⟩, of_decide_eq_true x13, He.cls_ok (d.fact 19 (f := .cls "Field") rfl), eq_of_beq x14, eq_of_beq x15, of_decide_eq_true x16, of_decide_eq_true x17⟩
    rt := rfl }
end K01
open PySem PySem.W PySem.Calls PyProof.Rows
theorem PySem.Challenge.cw_falsesums_k01_what_is_a_field_holds : PySem.Challenge.rw_falsesums_k01_what_is_a_field.Holds := by
  w_on; o_law
  refine HandSHeadRun.head_any (r := K01.R) (q := view K01.R.prog [18]) (H := K01.hk) (ob := K01.ob) (M := 4000) (loose := K01.names) (d := HandSHeadRun.topDef K01.R.prog 18) (kwd := []) K01.ob_eq
    (by kernel_rfl) (fun s => by kernel_rfl) K01.run (by kernel_rfl) (by kernel_rfl) (by kernel_rfl) (by rfl) (by first | assumption | decide +kernel) (by decide +kernel) ⟨rfl, rfl, rfl, rfl, rfl, by decide +kernel⟩ ?hw ?hc
  case hw => w_witness2
  case hc =>
    refine LamX.walk_ofTsE (l := PySem.Challenge.rw_falsesums_k01_what_is_a_field) (n := 63) (k := 7) (x := "_law_script") (CX := fun w => L2.CX K01.R.prog w) rfl (by decide +kernel) (by kernel_rfl) ⟨rfl, by decide, by decide⟩ ?F (fun w H s e s' z => by
      obtain ⟨_, _, _, _, _, _, _, _, _, _, _, _, z⟩ := z
      exact z)
    intro w mg fa h Y G hmg0
    obtain ⟨K, KX, c⟩ := Y
    have hmg : mg ("law" : PySem.Str) = some (.ref fa) := by
      have e : (HandSHeadRun.topDef K01.R.prog 18).name = ("law" : PySem.Str) := by kernel_rfl
      rw [← e]
      exact hmg0
    obtain ⟨ρ, el, X⟩ := K01.facts KX G c
    have e := hmg.symm.trans (He.glo_ok KX G (c.t.d.fact 31 (f := .glo "law") rfl))
    have ef : fa = ρ.law.ad := by
      rw [el]
      exact Value.ref.inj (Option.some.inj e)
    subst ef
    refine ⟨K, KX, ρ.law.fd, [He.cT K ("law", none)], K01.spLaw [((He.cT K ("law", none)).2, "law.<locals>.<lambda>")] K, fun p hp => c.empty ("law", none) (by decide +kernel) |> fun z => by rw [List.mem_singleton.mp hp]; exact z, fun p hp => by rw [List.mem_singleton.mp hp]; exact c.out ("law", none) List.mem_cons_self,
      fun p hp => by rw [List.mem_singleton.mp hp]; exact codeHd_of_K KX (c.hd ("law", none) List.mem_cons_self), fun s u => ?_, fun H a ns hl _ hT hS => ⟨a, ns, rfl, hS, hl, fun p hp => ?_, fun _ => rfl⟩, fun base _ _ TB => ?_⟩
    · exact L2.FunD.bindsA (ps := ["_law_script"]) X.f_law (fun _ _ _ _ _ _ us hl => match us, hl with | [_], _ => rfl) s [u] rfl
    · rw [List.mem_singleton.mp hp]
      exact LamX.TabS.nil (hT _ List.mem_cons_self)
    · exact (K01.ok_all X (TB _ List.mem_cons_self)).ok
