import PyProof.Rows.All
import Wide.All
import OpenK.AllK
import Wide.FinOn
import HandS.TupMul
import HandS.Deep
import HandS.Style
import HandS.ForMost
import HandS.ForExc
import HandS.CallSlots
import HandS.CallRecv
import HandS.IsInst
import HandS.Flow
import HandS.TupAny
import HandS.OwnEq
import HandS.ExcIs
import HandS.SetFor
import HandS.Lambda
import HandS.RaiseFrom
import HandS.SuiteRaise
import HandS.RaiseOp
import HandS.ExcBuiltin
import KE.KExcRaise
import PyProof.Rows.IntOr
import PyProof.InstEq
import HandS.DictSub
import HandS.Small
import HandS.Strs
import HandS.DictTup
import KE.SortData
import KE.KLam
import PyProof.DictMoreH
import HandS.SortKw
import PyProof.DefCall
import HandS.Defaults
import HandS.FStr
import HandS.RaiseMore
import KE.DataMinMax
import HandS.TupLen
import KE.KEqDict
import KE.KDictCopyH
import PyProof.ReprRoads
import HandS.TupSets
import PyProof.NeKinds
import HandS.Conv
import HandS.Codes
import HandS.NoneIn
import KE.KStateDown
import Lean
import HandS.Ends
import HandS.More
import HandS.Words
import HandS.WordsExc
import HandS.MakeKw
import HandS.Head0
import HandS.Head1
import HandS.Head2
import HandS.HeadEnd
import HandS.HeadHook1
import HandS.HeadHook2
import HandS.HeadHook3
import HandS.HeadHook4
import HandS.HeadWalk
import HandS.EndTab
import HandS.Comp
import HandS.Nested
import PyProof.SumAny
import PyProof.ListOps
import HandS.List
import PySem.Challenge.RW_falsesums_k08_sums_put_in
set_option Elab.async false
set_option linter.all false
set_option maxRecDepth 100000
set_option maxHeartbeats 0
namespace Rf
open PySem PySem.Spec PyProof.Rows L2
abbrev Frag := PySem.W.Frag

end Rf
namespace Rf
open PySem PySem.Spec PyProof.Rows L2
def excCB (K : Frag) (D : Addr) : Bool := decide (PySem.W.findIn K (.ref D) "__getattribute__" = some (some (.builtin "BaseException.__getattribute__"))) && (decide (PySem.W.findIn K (.ref D) "__getattr__" = some none) && (decide (PySem.W.subIn K (.ref D) (.type "BaseException") = some true) && (PySem.W.hasDictIn K D &&
  (decide (PySem.W.findIn K (.ref D) "__class__" = some (some (.builtin "object.__class__"))) && (decide (PySem.W.specialIn K (.builtin "object.__class__") "__get__" = some (some (.builtin "getset_descriptor.__get__"))) && (decide (PySem.W.takesIn K (.builtin "object.__class__") = some true) && decide (PySem.W.mroIn K D (.type "object") = some true)))))))
end Rf
namespace TermP
open PySem PySem.Spec PyProof.Rows L2 Rf
def keB (K : Frag) (C : Addr) : Bool := ((["NoneType", "bool", "int", "str", "list", "tuple", "dict"] : List String).all fun T => decide (PySem.W.kitOne K (.type T) (.ref C) = some false) && PySem.W.notFirst K C (.type T)) &&
  (decide (PySem.W.kitOne K (.ref C) (.ref C) = some true) && ((PySem.W.plainGet K C Str.empty && (PySem.W.hasDictIn K C && (PySem.W.plainOver K C && (PySem.W.findIn K (.ref C) "__setattr__" == some (some (.builtin "object.__setattr__")))))) &&
  ((PySem.W.findIn K (.ref C) "__class__" == some (some (.builtin "object.__class__"))) && ((PySem.W.specialIn K (.builtin "object.__class__") "__get__" == some (some (.builtin "getset_descriptor.__get__"))) &&
  (decide (PySem.W.takesIn K (.builtin "object.__class__") = some true) && decide (PySem.W.mroIn K C (.type "object") = some true))))))
def exB (K : Frag) (C FE : Addr) (l : List (Value × Bool)) : Bool := excCB K C && (decide (PySem.W.exmOne K (.ref C) (.ref FE) = some true) && l.all fun x => decide (PySem.W.kitOne K (.ref C) x.1 = some x.2))
def numB (K : Frag) (a : Addr) (x y : Int) : Bool := match K.lookup a with
  | some o => (o.cls == .type "tuple") && (match o.data with
    | .seq its _ => (match its.toList with
      | [.int i _, .int j _] => decide (i = x) && decide (j = y)
      | _ => false)
    | _ => false)
  | none => false
end TermP
namespace K08
open PySem PySem.Spec PyProof.Rows L2 Rf TermP
def conB (K : Frag) : Bool := numB K (He.ga K "ZERO") 0 1 && (exB K (He.ga K "NoFilling") (He.ga K "FalseError") [(.ref (He.ga K "NoFilling"), true), (.ref (He.ga K "NoOrder"), false), (.ref (He.ga K "NoSums"), false), (.type "ValueError", true)] && (exB K (He.ga K "NoOrder") (He.ga K "FalseError") [(.ref (He.ga K "NoFilling"), false), (.ref (He.ga K "NoOrder"), true), (.ref (He.ga K "NoSums"), false), (.type "ValueError", true)] && (exB K (He.ga K "NoSums") (He.ga K "FalseError") [(.ref (He.ga K "NoFilling"), false), (.ref (He.ga K "NoOrder"), false), (.ref (He.ga K "NoSums"), true), (.type "ValueError", true)] && (keB K (He.ga K "Field") && (keB K (He.ga K "Sum") && decide (PySem.W.kitOne K (.ref (He.ga K "Sum")) (.type "list") = some false))))))
end K08
namespace K08
open PySem PySem.Spec PyProof.Rows L2 Rf TermP
def top (i : Nat) : Stmt := PySem.Challenge.pw_falsesums_k08_sums_put_in.main.body.getD i (.Pass ⟨0, 0, 0, 0⟩)
abbrev s_is_whole : Stmt := top 14
abbrev s_is_prime : Stmt := top 15
abbrev s_lowest : Stmt := top 16
abbrev s_Field___init__ : Stmt := inClass (top 17) 0
abbrev s_Field___eq__ : Stmt := inClass (top 17) 1
abbrev s_Field_made : Stmt := inClass (top 17) 4
abbrev s_Field_plus : Stmt := inClass (top 17) 5
abbrev s_Field_times : Stmt := inClass (top 17) 7
abbrev s_Field_is_number : Stmt := inClass (top 17) 9
abbrev s_is_place : Stmt := top 20
abbrev s_is_product : Stmt := top 21
abbrev s_joined_product : Stmt := top 22
abbrev s_look_at_terms : Stmt := top 27
abbrev s_gathered : Stmt := top 28
abbrev s_Sum___init__ : Stmt := inClass (top 29) 0
abbrev s_Sum___eq__ : Stmt := inClass (top 29) 1
abbrev s_Sum_terms : Stmt := inClass (top 29) 6
abbrev s_Sum_reach : Stmt := inClass (top 29) 8
abbrev s_Sum_look_alike : Stmt := inClass (top 29) 9
abbrev s_Sum_times : Stmt := inClass (top 29) 11
abbrev s_Sum_put_in : Stmt := inClass (top 29) 14
abbrev s_Sum_put_in_put : Stmt := (defBody s_Sum_put_in).getD 2 (.Pass ⟨0, 0, 0, 0⟩)
abbrev s__law_room : Stmt := top 31
abbrev s__law_take : Stmt := top 32
abbrev s__law_lowest : Stmt := top 33
abbrev s__law_make : Stmt := top 34
abbrev s__law_plus : Stmt := top 35
abbrev s__law_times : Stmt := top 36
abbrev s__law_prime : Stmt := top 37
abbrev s__law_number : Stmt := top 38
abbrev s__law_product : Stmt := top 39
abbrev s__law_terms : Stmt := top 40
abbrev s__law_gather : Stmt := top 41
abbrev s__law_mult : Stmt := top 42
abbrev s__law_kind : Stmt := top 43
abbrev s__law_put_in : Stmt := top 44
abbrev s_law : Stmt := top 45
def d_is_whole : He.DefD := ⟨("is_whole", none), "is_whole", "is_whole", defArgs s_is_whole, defBody s_is_whole, defScope s_is_whole, [], []⟩
def d_is_prime : He.DefD := ⟨("is_prime", none), "is_prime", "is_prime", defArgs s_is_prime, defBody s_is_prime, defScope s_is_prime, [], []⟩
def d_lowest : He.DefD := ⟨("lowest", none), "lowest", "lowest", defArgs s_lowest, defBody s_lowest, defScope s_lowest, [], []⟩
def d_Field___init__ : He.DefD := ⟨("Field", some "__init__"), "__init__", "Field.__init__", defArgs s_Field___init__, defBody s_Field___init__, defScope s_Field___init__, [.int 0], []⟩
def d_Field___eq__ : He.DefD := ⟨("Field", some "__eq__"), "__eq__", "Field.__eq__", defArgs s_Field___eq__, defBody s_Field___eq__, defScope s_Field___eq__, [], []⟩
def d_Field_made : He.DefD := ⟨("Field", some "made"), "made", "Field.made", defArgs s_Field_made, defBody s_Field_made, defScope s_Field_made, [.int 1], []⟩
def d_Field_plus : He.DefD := ⟨("Field", some "plus"), "plus", "Field.plus", defArgs s_Field_plus, defBody s_Field_plus, defScope s_Field_plus, [], []⟩
def d_Field_times : He.DefD := ⟨("Field", some "times"), "times", "Field.times", defArgs s_Field_times, defBody s_Field_times, defScope s_Field_times, [], []⟩
def d_Field_is_number : He.DefD := ⟨("Field", some "is_number"), "is_number", "Field.is_number", defArgs s_Field_is_number, defBody s_Field_is_number, defScope s_Field_is_number, [], []⟩
def d_is_place : He.DefD := ⟨("is_place", none), "is_place", "is_place", defArgs s_is_place, defBody s_is_place, defScope s_is_place, [], []⟩
def d_is_product : He.DefD := ⟨("is_product", none), "is_product", "is_product", defArgs s_is_product, defBody s_is_product, defScope s_is_product, [], []⟩
def d_joined_product : He.DefD := ⟨("joined_product", none), "joined_product", "joined_product", defArgs s_joined_product, defBody s_joined_product, defScope s_joined_product, [], []⟩
def d_look_at_terms : He.DefD := ⟨("look_at_terms", none), "look_at_terms", "look_at_terms", defArgs s_look_at_terms, defBody s_look_at_terms, defScope s_look_at_terms, [], []⟩
def d_gathered : He.DefD := ⟨("gathered", none), "gathered", "gathered", defArgs s_gathered, defBody s_gathered, defScope s_gathered, [], []⟩
def d_Sum___init__ : He.DefD := ⟨("Sum", some "__init__"), "__init__", "Sum.__init__", defArgs s_Sum___init__, defBody s_Sum___init__, defScope s_Sum___init__, [.non], []⟩
def d_Sum___eq__ : He.DefD := ⟨("Sum", some "__eq__"), "__eq__", "Sum.__eq__", defArgs s_Sum___eq__, defBody s_Sum___eq__, defScope s_Sum___eq__, [], []⟩
def d_Sum_terms : He.DefD := ⟨("Sum", some "terms"), "terms", "Sum.terms", defArgs s_Sum_terms, defBody s_Sum_terms, defScope s_Sum_terms, [], []⟩
def d_Sum_reach : He.DefD := ⟨("Sum", some "reach"), "reach", "Sum.reach", defArgs s_Sum_reach, defBody s_Sum_reach, defScope s_Sum_reach, [], []⟩
def d_Sum_look_alike : He.DefD := ⟨("Sum", some "look_alike"), "look_alike", "Sum.look_alike", defArgs s_Sum_look_alike, defBody s_Sum_look_alike, defScope s_Sum_look_alike, [], []⟩
def d_Sum_times : He.DefD := ⟨("Sum", some "times"), "times", "Sum.times", defArgs s_Sum_times, defBody s_Sum_times, defScope s_Sum_times, [], []⟩
def d_Sum_put_in : He.DefD := ⟨("Sum", some "put_in"), "put_in", "Sum.put_in", defArgs s_Sum_put_in, defBody s_Sum_put_in, defScope s_Sum_put_in, [], []⟩
def d__law_room : He.DefD := ⟨("_law_room", none), "_law_room", "_law_room", defArgs s__law_room, defBody s__law_room, defScope s__law_room, [], []⟩
def d__law_take : He.DefD := ⟨("_law_take", none), "_law_take", "_law_take", defArgs s__law_take, defBody s__law_take, defScope s__law_take, [], []⟩
def d__law_lowest : He.DefD := ⟨("_law_lowest", none), "_law_lowest", "_law_lowest", defArgs s__law_lowest, defBody s__law_lowest, defScope s__law_lowest, [], []⟩
def d__law_make : He.DefD := ⟨("_law_make", none), "_law_make", "_law_make", defArgs s__law_make, defBody s__law_make, defScope s__law_make, [], []⟩
def d__law_plus : He.DefD := ⟨("_law_plus", none), "_law_plus", "_law_plus", defArgs s__law_plus, defBody s__law_plus, defScope s__law_plus, [], []⟩
def d__law_times : He.DefD := ⟨("_law_times", none), "_law_times", "_law_times", defArgs s__law_times, defBody s__law_times, defScope s__law_times, [], []⟩
def d__law_prime : He.DefD := ⟨("_law_prime", none), "_law_prime", "_law_prime", defArgs s__law_prime, defBody s__law_prime, defScope s__law_prime, [], []⟩
def d__law_number : He.DefD := ⟨("_law_number", none), "_law_number", "_law_number", defArgs s__law_number, defBody s__law_number, defScope s__law_number, [], []⟩
def d__law_product : He.DefD := ⟨("_law_product", none), "_law_product", "_law_product", defArgs s__law_product, defBody s__law_product, defScope s__law_product, [], []⟩
def d__law_terms : He.DefD := ⟨("_law_terms", none), "_law_terms", "_law_terms", defArgs s__law_terms, defBody s__law_terms, defScope s__law_terms, [], []⟩
def d__law_gather : He.DefD := ⟨("_law_gather", none), "_law_gather", "_law_gather", defArgs s__law_gather, defBody s__law_gather, defScope s__law_gather, [], []⟩
def d__law_mult : He.DefD := ⟨("_law_mult", none), "_law_mult", "_law_mult", defArgs s__law_mult, defBody s__law_mult, defScope s__law_mult, [], []⟩
def d__law_kind : He.DefD := ⟨("_law_kind", none), "_law_kind", "_law_kind", defArgs s__law_kind, defBody s__law_kind, defScope s__law_kind, [], []⟩
def d__law_put_in : He.DefD := ⟨("_law_put_in", none), "_law_put_in", "_law_put_in", defArgs s__law_put_in, defBody s__law_put_in, defScope s__law_put_in, [], []⟩
def d_law : He.DefD := ⟨("law", none), "law", "law", defArgs s_law, defBody s_law, defScope s_law, [], []⟩
/-! ### the head -/
def fa : List He.Fa := [.glo "is_whole", .glo "is_prime", .glo "lowest", .glo "is_place", .glo "is_product", .glo "joined_product", .glo "look_at_terms", .glo "gathered", .glo "_law_room", .glo "_law_take", .glo "_law_lowest", .glo "_law_make", .glo "_law_plus", .glo "_law_times", .glo "_law_prime", .glo "_law_number", .glo "_law_product", .glo "_law_terms", .glo "_law_gather", .glo "_law_mult", .glo "_law_kind", .glo "_law_put_in", .glo "law", .free "isinstance", .free "int", .free "bool", .free "range", .free "ZeroDivisionError", .free "abs", .free "len", .free "tuple", .free "sorted", .free "set", .free "enumerate", .free "list", .free "max", .free "sum", .free "ValueError", .free "min", .glo "FalseError", .glo "NoField", .glo "NoNumber", .glo "Unlike", .glo "NoOrder", .glo "NoFilling", .glo "NoSums", .glo "Field", .glo "Sum", .glo "ZERO", .int "MOST_PRIME" 97, .int "MOST_PLACES" 60, .cls "Field", .cls "Sum", .noat "Field" "own_prime", .noat "Sum" "own_field", .noat "Sum" "row", .mkr "Sum", .mkr "Field", .meth "Field" "made", .meth "Field" "is_number", .meth "Field" "plus", .meth "Sum" "look_alike", .meth "Field" "times", .meth "Sum" "reach", .meth "Sum" "times", .meth "Sum" "put_in", .meth "Sum" "terms", .exc "NoNumber", .glo "NoNumber", .exc "NoField", .glo "NoField", .exc "Unlike", .glo "Unlike", .exc "NoSums", .glo "NoSums", .glo "law"]
def fu : List He.DefD := [d_is_whole, d_is_prime, d_lowest, d_Field___init__, d_Field___eq__, d_Field_made, d_Field_plus, d_Field_times, d_Field_is_number, d_is_place, d_is_product, d_joined_product, d_look_at_terms, d_gathered, d_Sum___init__, d_Sum___eq__, d_Sum_terms, d_Sum_reach, d_Sum_look_alike, d_Sum_times, d_Sum_put_in, d__law_room, d__law_take, d__law_lowest, d__law_make, d__law_plus, d__law_times, d__law_prime, d__law_number, d__law_product, d__law_terms, d__law_gather, d__law_mult, d__law_kind, d__law_put_in, d_law]
def tf : List He.Defn := [("gathered", none), ("Sum", some "put_in"), ("law", none)]
def ex (K : Frag) : Bool := ((PySem.W.findIn K (.ref (He.ga K "Field")) "__eq__" == some (some (.ref (He.fAd K ("Field", some "__eq__"))))) && (PySem.W.isFn K (.ref (He.fAd K ("Field", some "__eq__"))) && ((PySem.W.findIn K (.ref (He.ga K "Field")) "__ne__" == some (some (.builtin "object.__ne__"))) && decide (PySem.W.subIn K (.ref (He.ga K "Field")) (.type "object") = some true)))) && (((PySem.W.findIn K (.ref (He.ga K "Sum")) "__eq__" == some (some (.ref (He.fAd K ("Sum", some "__eq__"))))) && (PySem.W.isFn K (.ref (He.fAd K ("Sum", some "__eq__"))) && ((PySem.W.findIn K (.ref (He.ga K "Sum")) "__ne__" == some (some (.builtin "object.__ne__"))) && decide (PySem.W.subIn K (.ref (He.ga K "Sum")) (.type "object") = some true)))) && ((true && decide ((He.cT K ("Sum", some "put_in")).2 ≠ (He.cT K ("gathered", none)).2) && decide ((He.cT K ("law", none)).2 ≠ (He.cT K ("gathered", none)).2)) && ((true && decide ((He.cT K ("gathered", none)).2 ≠ (He.cT K ("Sum", some "put_in")).2) && decide ((He.cT K ("law", none)).2 ≠ (He.cT K ("Sum", some "put_in")).2)) && ((true && decide ((He.cT K ("gathered", none)).2 ≠ (He.cT K ("law", none)).2) && decide ((He.cT K ("Sum", some "put_in")).2 ≠ (He.cT K ("law", none)).2)) && (conB K)))))
abbrev R : PySem.W.OpenRow := PySem.W.OpenLaw.row PySem.Challenge.rw_falsesums_k08_sums_put_in
abbrev hk : PySem.W.Hook := He.hookX 4 fa fu [] tf ex
def ob (s : PySem.W.SharedT) : He.AlX := He.obsX 4 fa fu [] tf ex (HandSHeadRun.getT s)
theorem ob_eq (s : PySem.W.SharedT) : ob s = hk.obs s.abs := He.obsX_eq (HandSHeadRun.getT_eq s)
def names : List PySem.Str := (["_wall", "FalseError", "NoField", "NoNumber", "Unlike", "NoOrder", "NoFilling", "NoSums", "NoSum", "MOST_PRIME", "ZERO", "ONE", "is_whole", "is_prime", "lowest", "Field", "MOST_PLACES", "is_place", "is_product", "joined_product", "number_text", "term_text", "written", "plain_names", "look_at_terms", "gathered", "Sum", "_law_room", "_law_take", "_law_lowest"] : List PySem.Str) ++ (["_law_make", "_law_plus", "_law_times", "_law_prime", "_law_number", "_law_product", "_law_terms", "_law_gather", "_law_mult", "_law_kind", "_law_put_in"] : List PySem.Str)
theorem run (w : World) : HandSHeadRun.RunEq R (PySem.W.view R.prog [45]) hk ob 9000 names w := by
  intro os
  kernel_rfl
end K08
/-! Rf1: a syntax of one's own beside the text's, what it means by the abstract heap, and that the text does so. -/
namespace Rf
open PySem PySem.Spec PyProof.Rows L2
/-! ### readings by values -/
theorem OpR.imp {X : Cx} {f : Value → Value → Sem Value} {r r' : R2} (h : OpR X f r) (hi : ∀ x y H Q, r' x y H Q → r x y H Q) : OpR X f r' :=
  fun pins s σ H x y v u Q I r1 r2 q => h pins s σ H x y v u Q I r1 r2 (hi x y H Q q)
theorem CallR.imp {X : Cx} {f : Value} {r r' : List V → Hp → VK → Prop} (h : CallR X f r) (hi : ∀ xs H Q, r' xs H Q → r xs H Q) : CallR X f r' :=
  fun pins s σ H xs us Q I r1 q => h pins s σ H xs us Q I r1 (hi xs H Q q)
theorem PE.imp {X : Cx} {e : Expr} {t t' : TE} (h : PE X e t) (hi : ∀ σ H Q, t' σ H Q → t σ H Q) : PE X e t' :=
  ⟨fun pins s σ H Q I q => h.run pins s σ H Q I (hi σ H Q q)⟩
theorem PE.or {X : Cx} {e : Expr} {t t' : TE} (h : PE X e t) (h' : PE X e t') : PE X e (fun σ H Q => t σ H Q ∨ t' σ H Q) :=
  ⟨fun pins s σ H Q I q => q.elim (h.run pins s σ H Q I) (h'.run pins s σ H Q I)⟩
theorem PE.orx {X : Cx} {e : Expr} {ι : Sort _} {t : ι → TE} (h : ∀ i, PE X e (t i)) : PE X e (fun σ H Q => ∃ i, t i σ H Q) :=
  ⟨fun pins s σ H Q I ⟨i, q⟩ => (h i).run pins s σ H Q I q⟩
theorem PE.never {X : Cx} {e : Expr} : PE X e (fun _ _ _ => False) := ⟨fun _ _ _ _ _ _ q => q.elim⟩
theorem PT.imp {X : Cx} {e : Expr} {t t' : TT} (h : PT X e t) (hi : ∀ σ H Q, t' σ H Q → t σ H Q) : PT X e t' :=
  ⟨fun pins s σ H Q I q => h.run pins s σ H Q I (hi σ H Q q)⟩
theorem PT.never {X : Cx} {e : Expr} : PT X e (fun _ _ _ => False) := ⟨fun _ _ _ _ _ _ q => q.elim⟩

/-- the type of what stands in the heap, of the kinds that are asked -/
def kindO : HO → Option String
  | .lst _ => some "list"
  | .tup _ => some "tuple"
  | .dK _ => some "dict"
  | .dT _ => some "dict"
  | _ => none
def isiB (a b : String) : Bool := a == b || (a == "bool" && b == "int")
def knownT (b : String) : Bool := b == "int" || b == "bool" || b == "str" || b == "list" || b == "tuple" || b == "dict"
def knownA (b : String) : Bool := b == "NoneType" || knownT b
theorem knownT_cases {b : String} (h : knownT b = true) : b = "int" ∨ b = "bool" ∨ b = "str" ∨ b = "list" ∨ b = "tuple" ∨ b = "dict" := by
  simpa [knownT, or_assoc] using h
theorem knownA_cases {b : String} (h : knownA b = true) : b = "NoneType" ∨ b = "int" ∨ b = "bool" ∨ b = "str" ∨ b = "list" ∨ b = "tuple" ∨ b = "dict" := by
  simpa [knownA, knownT, or_assoc] using h
theorem kit_isi {K : Frag} {a b : String} (ha : knownA a = true) (hb : knownT b = true) : PySem.W.kitOne K (.type a) (.type b) = some (isiB a b) := by
  have key : kitB a b = some (isiB a b) := by
    rcases knownA_cases ha with rfl | rfl | rfl | rfl | rfl | rfl | rfl <;> rcases knownT_cases hb with rfl | rfl | rfl | rfl | rfl | rfl <;> decide +kernel
  exact kit_ty key
/-- isinstance(x, T) -/
def rIs (K : Frag) (xs : List V) (H : Hp) (Q : VK) : Prop := match xs with
  | [.non, .ty T] => knownT T = true ∧ Q (.bl (isiB "NoneType" T)) H
  | [.bl _, .ty T] => knownT T = true ∧ Q (.bl (isiB "bool" T)) H
  | [.int _, .ty T] => knownT T = true ∧ Q (.bl (isiB "int" T)) H
  | [.str _, .ty T] => knownT T = true ∧ Q (.bl (isiB "str" T)) H
  | [.ref a, .ty T] => (∃ o t, H a = some o ∧ kindO o = some t ∧ knownT T = true ∧ Q (.bl (isiB t T)) H) ∨ rIsi K [.ref a, .ty T] H Q
  | xs => rIsi K xs H Q
theorem call_is {X : Cx} : CallR X (.builtin "isinstance") (rIs X.K) := by
  refine CallR.imp call_isi fun xs H Q h => ?_
  have go : ∀ {x : V} {t T : String}, TyX X.K H x (.type t) → knownA t = true → knownT T = true → Q (.bl (isiB t T)) H → rIsi X.K [x, .ty T] H Q :=
    fun {x t T} ty ha hb q => ⟨_, _, _, _, _, rfl, .ty T, ty, kit_isi ha hb, q⟩
  unfold rIs at h
  split at h
  · exact go (.base .non) rfl h.1 h.2
  · exact go (.base (.bl _)) rfl h.1 h.2
  · exact go (.base (.int _)) rfl h.1 h.2
  · exact go (.base (.str _)) rfl h.1 h.2
  · rcases h with ⟨o, t, e, k, hT, q⟩ | h
    · cases o with
      | lst xs => cases k; exact go (.base (.lst e)) rfl hT q
      | tup xs => cases k; exact go (.base (.tup e)) rfl hT q
      | dK xs => cases k; exact go (.base (.dK e)) rfl hT q
      | dT xs => cases k; exact go (.base (.dT e)) rfl hT q
      | _ => cases k
    · exact h
  · exact h
/-- truth -/
def rTru (K : Frag) (x : V) (H : Hp) (Q : Bool → Hp → Prop) : Prop := match x with
  | .non => Q false H
  | .bl b => Q b H
  | .int i => Q (i != 0) H
  | x => ∃ k, TruV K x H k ∧ Q k H
theorem rTru_of {K : Frag} {x : V} {H : Hp} {Q : Bool → Hp → Prop} (h : rTru K x H Q) : ∃ k, TruV K x H k ∧ Q k H := by
  cases x with
  | non => exact ⟨_, rfl, h⟩
  | bl b => exact ⟨_, rfl, h⟩
  | int i => exact ⟨_, rfl, h⟩
  | _ => exact h
/-- (..) * 1 of a tuple: the tuple itself -/
theorem tuple_mul1 (l : Addr) (items : Array Value) (n : Nat) (dd : Option Addr) (sl : Array (Option Value)) (u : Tok) (h0 : items.isEmpty = false) :
    Meets (Builtin.«tuple.__mul__» ⟨[.ref l, .int 1 u], []⟩) (fun _ R s => s.heap.get? l = some { cls := .type "tuple", dict := dd, data := .seq items n, slots := sl } ∧ R (.ok (.ret (Value.ref l))) s) :=
  .of_wp fun prog w A R s h => by
    obtain ⟨hp, g, d, tk, os⟩ := s
    obtain ⟨hl, h⟩ := h
    have f1 := AutoSeq1.idx_int
    have c1 : (items.isEmpty || (1 : Int) == 1) = true := by rw [h0]; rfl
    wp_walk using wpAny_loadPart' hl
    repeat (first
      | (refine wpAny_ite_true (by decide) ?_; wp_walk using wpAny_loadPart' hl)
      | (refine wpAny_ite_true (by rw [c1]) ?_; wp_walk using wpAny_loadPart' hl)
      | (refine wpAny_ite_false (by decide) ?_; wp_walk using wpAny_loadPart' hl))
    exact ⟨_, rfl, h⟩
def rRepT1 : R2 := fun x y H Q => ∃ l xs, x = .ref l ∧ y = .int 1 ∧ H l = some (.tup xs) ∧ xs ≠ [] ∧ Q (.ref l) H
theorem op_repT1 {X : Cx} : OpR X (binaryOp .Mult) rRepT1 := by
  intro pins s σ H x y v u Q I rx ry h
  obtain ⟨l, xs, rfl, rfl, hT, hne, q⟩ := h
  cases rx
  obtain ⟨t, rfl⟩ := ry
  obtain ⟨its, r, ⟨⟨cls, dd, data, sl⟩, ho, hc, n, hd⟩, hs⟩ := I.tuple (.inl (.inl hT))
  simp only at hc hd
  subst hc hd
  have hn : its ≠ [] := fun e => hne (by
    have hle : its.length = xs.length := r.length.symm
    rw [e] at hle
    exact List.eq_nil_of_length_eq_zero hle.symm)
  have hi : its.toArray.isEmpty = false := by
    cases its with
    | nil => exact absurd rfl hn
    | cons a b => rfl
  exact wpAny_binaryOp_repeat_ref (T := "tuple") (U := "int") (by decide) ⟨_, ho, rfl⟩ (fun s' => typeIs_int s' 1 t) noFill_tuple_mul F.fills_int_mul F.slot_int_rmul repeat_tuple F.slot_int_index.lookup
    (call_meets F.slot_int_rmul (typeIs_int s 1 t) F.entry_int_rmul (F.args_int_rmul_2 _ _) (int_rmul_tuple 1 t l its.toArray n dd sl)
      ⟨ho, rfl, ⟨_, ho, rfl⟩, call_meets F.slot_tuple_mul ⟨_, ho, rfl⟩ F.entry_tuple_mul (F.args_tuple_mul_2 _ _) (tuple_mul1 l its.toArray n dd sl t hi) ⟨ho, ⟨.ref l, H, I, rfl, q⟩⟩⟩)
/-- a op b -/
def rBin (K : Frag) (op : Operator) : R2 := fun x y H Q => match op with
  | .Add => (match x, y with
    | .int i, .int j => Q (.int (i + j)) H
    | .str i, .str j => i.length + j.length ≤ sizeLine ∧ Q (.str (i ++ j)) H
    | x, y => rCat x y H Q ∨ rCatA K x y H Q)
  | .Sub => (match x, y with
    | .int i, .int j => Q (.int (i - j)) H
    | _, _ => False)
  | .Mult => (match x, y with
    | .int i, .int j => IntMulOk i j ∧ Q (.int (i * j)) H
    | x, y => rRep x y H Q ∨ rRepT K x y H Q ∨ rRepT1 x y H Q)
  | .FloorDiv => (match x, y with
    | .int i, .int j => j ≠ 0 ∧ Builtin.divisionGoesByPylong i j = false ∧ Q (.int (i.fdiv j)) H
    | _, _ => False)
  | .Mod => (match x, y with
    | .int i, .int j => j ≠ 0 ∧ Q (.int (i.fmod j)) H
    | _, _ => False)
  | .Pow => (match x, y with
    | .int i, .int j => CPow i j ∧ Q (.int (i ^ j.toNat)) H
    | _, _ => False)
  | _ => False
theorem op_bin {X : Cx} (op : Operator) : OpR X (binaryOp op) (rBin X.K op) := by
  cases op with
  | Add =>
    refine OpR.imp (OpR.or op_add (OpR.or op_add_str (OpR.or op_cat op_catA))) fun x y H Q h => ?_
    unfold rBin at h
    dsimp only at h
    split at h
    · exact .inl ⟨_, _, rfl, rfl, h⟩
    · exact .inr (.inl ⟨_, _, rfl, rfl, h.1, h.2⟩)
    · exact .inr (.inr h)
  | Sub =>
    refine OpR.imp op_sub fun x y H Q h => ?_
    unfold rBin at h
    dsimp only at h
    split at h
    · exact ⟨_, _, rfl, rfl, h⟩
    · exact h.elim
  | Mult =>
    refine OpR.imp (OpR.or (opI (C := IntMulOk) (g := fun i j => i * j) fun _ _ _ _ _ _ _ hc q => mul_int q hc) (OpR.or op_rep (OpR.or op_repT op_repT1))) fun x y H Q h => ?_
    unfold rBin at h
    dsimp only at h
    split at h
    · exact .inl ⟨_, _, rfl, rfl, h.1, h.2⟩
    · exact .inr h
  | FloorDiv =>
    refine OpR.imp (opI (C := fun i j => j ≠ 0 ∧ Builtin.divisionGoesByPylong i j = false) (g := fun i j => i.fdiv j) fun _ _ _ _ _ _ _ hc q => floordiv_int hc.1 q (.inl hc.2)) fun x y H Q h => ?_
    unfold rBin at h
    dsimp only at h
    split at h
    · exact ⟨_, _, rfl, rfl, ⟨h.1, h.2.1⟩, h.2.2⟩
    · exact h.elim
  | Mod =>
    refine OpR.imp op_modN fun x y H Q h => ?_
    unfold rBin at h
    dsimp only at h
    split at h
    · exact ⟨_, _, rfl, rfl, h.1, h.2⟩
    · exact h.elim
  | Pow =>
    refine OpR.imp op_pow fun x y H Q h => ?_
    unfold rBin at h
    dsimp only at h
    split at h
    · exact ⟨_, _, rfl, rfl, h.1, h.2⟩
    · exact h.elim
  | _ => exact fun pins s σ H x y v u Q I r1 r2 q => (show False from q).elim
end Rf
namespace Rf
open PySem PySem.Spec PyProof.Rows L2

/-! ### an exception that was caught and stays known -/
def ExcO (a : Addr) (cls : Value) (d : Option Addr) : HO := .ext fun h => ∃ (oe : Obj) (vs : Array Value), h.get? a = some oe ∧ Zc cls d oe ∧ oe.data = .fields vs
section
variable {X : Cx} {pins : List (Addr × Obj)} {σ : L2.St} {H : Hp} {s : Shared} {a : Addr} {oe : Obj} {cls : Value} {d : Option Addr}
theorem unsuiteK {q : Addr × Obj} {pn' : List (Addr × Obj)} (I : L2.Inv (X.suite a (q :: (X.pn ++ pins))) pn' σ H s) (ok : X.Ok) : L2.Inv X (q :: pins) σ H s :=
  ⟨ok, I.os, I.bare, I.base, I.loc, I.cell, I.free, I.freeC, fun p hp => I.pin p (List.mem_append_left _ (by
    rcases List.mem_append.mp hp with h | h
    · exact List.mem_cons_of_mem _ (List.mem_append_left _ h)
    · rcases List.mem_cons.mp h with h | h
      · rw [h]; exact List.mem_cons_self
      · exact List.mem_cons_of_mem _ (List.mem_append_right _ h))), I.hok, I.len⟩
theorem Inv.know (I : L2.Inv X ((a, oe) :: pins) σ H s) (hz : Zc cls d oe) (hv : ∃ vs, oe.data = .fields vs) (new : X.s_0.heap.get? a = none) (np : ∀ p ∈ X.pn ++ pins, p.1 ≠ a) : L2.Inv X pins σ (upd H a (ExcO a cls d)) s := by
  obtain ⟨ha, na, nL, nF, nc⟩ := I.pin (a, oe) (List.mem_append_right _ List.mem_cons_self)
  have up : ∀ {b : Addr} {u : HO}, H b = some u → upd H a (ExcO a cls d) b = some u := fun {b u} e => by
    rw [upd_ne (fun z => by rw [z, na] at e; cases e)]
    exact e
  have off : ∀ {b : Addr}, b ≠ a → H b = none → upd H a (ExcO a cls d) b = none := fun {b} ne e => by
    rw [upd_ne ne]
    exact e
  have sub : ∀ p ∈ X.pn ++ pins, p ∈ X.pn ++ ((a, oe) :: pins) := fun p hp => (List.mem_append.mp hp).elim (fun h => List.mem_append_left _ h) fun h => List.mem_append_right _ (List.mem_cons_of_mem _ h)
  refine ⟨I.ok, I.os, I.bare, ⟨I.base.keep, I.base.slot, fun b o e n hx => off (fun z => ?_) (I.base.free b o e n hx), I.base.there, fun b xs e => up (I.base.tups b xs e), fun b o u e => up (I.base.frzs b o u e), fun b ps e => ?_⟩,
    I.loc, I.cell, off (Ne.symm nL) I.free, fun x c e => off (fun z => ?_) (I.freeC x c e), fun p hp => ?_, fun b u e => ?_, I.len⟩
  · rw [z, new] at e
    cases e
  · obtain ⟨more, q⟩ := I.base.tbls b ps e
    exact ⟨more, up q⟩
  · obtain ⟨v, o, ho, hd⟩ := I.cell x c e
    rw [z, ha] at ho
    cases ho
    exact nc _ hd
  · obtain ⟨e, n, r⟩ := I.pin p (sub p hp)
    exact ⟨e, off (np p hp) n, r⟩
  · by_cases hb : b = a
    · subst hb
      rw [upd_same] at e
      cases e
      obtain ⟨vs, hv⟩ := hv
      exact ⟨⟨oe, vs, ha, hz, hv⟩, ⟨oe, ha⟩, fun h1 h2 ⟨o, vs, e1, e2, e3⟩ st => ⟨o, vs, st _ e1, e2, e3⟩⟩
    · rw [upd_ne hb] at e
      exact (I.hok b u e).stay (fun _ _ _ q => q) (fun c q => up q) fun c xs q => up q
end
/-- what the clause asks of an exception: it is taken, and known from then on -/
def keepD (a : Addr) (cls : Value) (d : Option Addr) (i : Nat) (D : Ends) : Ends where
  nx := fun σ' H' => H' a = none → D.nx (σ'.set i none) (upd H' a (ExcO a cls d))
  rt := D.rt
  bk := fun σ' H' => D.bk (σ'.set i none) H'
  ct := fun σ' H' => D.ct (σ'.set i none) H'
def wKeep (K : Frag) (c : Value) (i : Nat) (ts : Addr → TS) (Wout : WX) (D : Ends) : WX := fun cls d σ H =>
  ∃ b, PySem.W.exmOne K cls c = some b ∧ (b = true → ∀ a, H a = none → ts a (keepD a cls d i D) (σ.set i (some (.ref a))) H) ∧ (b = false → Wout cls d σ H)
/-- of states of the right length -/
def wLen (n : Nat) (W : WX) : WX := fun cls d σ H => σ.length = n → W cls d σ H
theorem recNoFrame {B h : Heap} {l : List Env} {a : Addr} {o : Obj} {vs : Array Value} (ff : h.FunFrames B l) (e : h.get? a = some o) (dd : o.data = .fields vs) : a ∉ frs l := fun hm => by
  obtain ⟨_, o2, e2, hnf⟩ := ff.mem hm
  rw [e] at e2
  cases e2
  exact hnf _ dd
section
variable {X : Cx} {x n : Str} {c : Value} {i : Nat} {body suite : List Stmt} {b₀ : Stmt} {np hp pos : Pos} {tb : WX → TS} {ts : Addr → TS} {Wout : WX}
theorem ps_try_keep (h1 : X.stack = X.env :: X.outer) (h2 : X.env.frame = some X.env.locals) (h0 : X.ex = []) (h3 : X.N.Nodup) (h4 : X.N[i]? = some n) (h5 : X.env.kindOf n = some .local) (h6 : Names X x c) (tk : Takes X Wout)
    (hb : ∀ (W : WX) (pn : List (Addr × Obj)) (xe : Value → Shared → Prop), Takes (X.tr pn xe) W → PassesOwn (model X.prog X.w) X.A X.env xe → (∀ hd : Option Value, PassesOwnAt (model X.prog X.w) (X.A.mark hd) X.A X.env xe) → PSs (X.tr pn xe) body (tb W))
    (hu : ∀ (a : Addr) (pn : List (Addr × Obj)), PSs (X.suite a pn) (b₀ :: suite) (ts a)) :
    PS X (.Try body [.ExceptHandler (some (.Name x np)) (some n) (b₀ :: suite) hp] [] [] pos) (fun D σ H => tb (wLen X.N.length (wKeep X.K c i ts Wout D)) D σ H) := by
  refine ⟨fun pins s σ H D I0 goal => ?_⟩
  have okX := I0.ok
  have frA : X.A.frames = some (X.env :: X.outer) := okX.frames.trans (by rw [h1])
  refine wpAny_Try_except (wpAny_mono ((hb (wLen X.N.length (wKeep X.K c i ts Wout D)) (X.pn ++ pins) _ (fun u s1 air => ?_) PassesOwn.looking fun _ => PassesOwnAt.looking).run [] s σ H D (I0.toTry _) goal) (fun f s1 done => ?_) (fun _ _ z => z))
  · obtain ⟨a, B, sI, pins1, σ1, H1, cls, d, rfl, J0, grd, up, sky, na, os, ag, wl⟩ := air
    obtain ⟨b, hb1, hyes, hno⟩ := wl J0.len
    have J : L2.Inv X pins σ1 H1 sI := J0.ofTry okX
    rw [show (X.tr (X.pn ++ pins) _).stack = X.env :: X.outer from h1] at sky
    refine Sky.land Zc.steady frA h2 sky fun g3 fl3 up3 => ?_
    have J3 : L2.Inv X pins σ1 H1 { s1 with heap := g3 } := J.landed grd fl3.1 (up.trans up3) os ag
    obtain ⟨o3, v3, e3, z3, d3⟩ := fl3.there
    have nfr : a ∉ frs (X.env :: X.outer) := recNoFrame fl3.2.2.1 e3 d3
    have nL : a ≠ X.env.locals := fun z => nfr (by rw [z]; exact List.mem_filterMap.mpr ⟨X.env, List.mem_cons_self, h2⟩)
    have nF : a ∉ X.fs := fun hm => nfr (by
      obtain ⟨e, he, q⟩ := List.mem_filterMap.mp hm
      exact List.mem_filterMap.mpr ⟨e, List.mem_cons_of_mem _ he, q⟩)
    have nB : B.get? a = none := fl3.2.1
    have noI : ∀ o, sI.heap.get? a = some o → False := fun o e => by
      have q := grd a o e (by rw [h1]; exact nfr)
      rw [nB] at q
      cases q
    have new : X.s_0.heap.get? a = none := by
      cases q : X.s_0.heap.get? a with
      | none => rfl
      | some o =>
        obtain ⟨o2, q2⟩ := J.base.there a o q (by rw [h0]; exact fun z => nomatch z)
        exact (noI o2 q2).elim
    have apart : ∀ p ∈ X.pn ++ pins, p.1 ≠ a := fun p hp z => noI p.2 (by rw [← z]; exact (J.pin p hp).1)
    have S3 := J3.suite e3 d3 na nL nF
    refine wpAny_handleBy_cons (codeAny_handlers_test ?_) (by intro q; cases q)
    have knows := PySem.W.exm_one (M := model X.prog X.w) J3.kIn (fun A Q E s k q => wpAny_typeOf_ref (k _ _ e3) (by rw [z3.1]; exact q)) hb1
    have test : ∀ {Q E : Value → Shared → Prop}, Q c { s1 with heap := g3 } → wpAny (model X.prog X.w) (X.A.mark (some (.ref a))) (eval (.Name x np) X.env) Q E { s1 with heap := g3 } := fun {Q E} q => by
      obtain ⟨hg, hdb, hm | ⟨hm, hv, hn⟩⟩ := h6
      · exact ld_glob S3 hg hm q hdb
      · exact ld_blt S3 hg hm hv q hn hdb
    refine test (knows.here ?_)
    cases b with
    | true =>
      refine codeAny_handlers_suite_as (HandSPX.lands_againZ fl3 fun g4 fl4 up4 => ?_)
      obtain ⟨o4, v4, e4, z4, d4⟩ := fl4.there
      have S4 := (J.landed (s' := { s1 with heap := g4 }) grd fl4.1 ((up.trans up3).trans up4) os ag).suite e4 d4 na nL nF
      refine store_ok (X := X.suite a ((a, o4) :: (X.pn ++ pins))) (v := .ref a) S4 h3 h4 (.inl h5) rfl (fun s5 S5 => ?_) (.inr h5)
      refine wpAny_mono ((hu a ((a, o4) :: (X.pn ++ pins))).run [] s5 _ H1 _ S5 (hyes rfl a na)) (fun f s6 done => ?_) (fun _ _ z => False.elim z)
      have off : ∀ {σ6 : L2.St} {H6 : Hp} {Q : Shared → Prop}, L2.Inv (X.suite a ((a, o4) :: (X.pn ++ pins))) [] σ6 H6 s6 → (∀ s7, L2.Inv X pins (σ6.set i none) H6 s7 → Q s7) →
          wpAny (model X.prog X.w) X.A (do bindName X.env n .none; unbindBehindTheSuite X.env n hp) (fun _ s7 => Q s7) X.xe s6 := fun {σ6 H6 Q} S6 hq => gone_ok (S6.unsuite okX) h3 h4 h5 hq
      cases f with
      | next =>
        obtain ⟨σ6, H6, S6, q6⟩ := done
        have S6a : L2.Inv X ((a, o4) :: pins) σ6 H6 s6 := unsuiteK S6 okX
        refine gone_ok S6a h3 h4 h5 fun s7 J7 => ⟨_, _, Inv.know J7 z4 ⟨_, d4⟩ new apart, q6 (S6a.pin (a, o4) (List.mem_append_right _ List.mem_cons_self)).2.1⟩
      | brk =>
        obtain ⟨σ6, H6, S6, q6⟩ := done
        exact off S6 fun s7 J7 => ⟨_, _, J7, q6⟩
      | cont =>
        obtain ⟨σ6, H6, S6, q6⟩ := done
        exact off S6 fun s7 J7 => ⟨_, _, J7, q6⟩
      | ret u =>
        obtain ⟨v6, σ6, H6, S6, r6, q6⟩ := done
        exact off S6 fun s7 J7 => ⟨_, _, _, J7, r6, q6⟩
    | false =>
      refine wpAny_handleBy_nil ?_
      obtain ⟨k1, k2, k3, oe, vs, T, oT, ws, e5, z5, d5, t5, r5⟩ := id fl3
      unfold PySem.passOn
      refine wpAny_bind (wpAny_field e5 d5 t5 ?_)
      rw [if_neg (show ¬ ((Value.ref T == Value.none) = true) from by simp)]
      have fin : wpAny (model X.prog X.w) X.A (setFlight (.ref a) X.env.frame) (fun _ s4 => wpAny (model X.prog X.w) X.A (throw (.ref a) : Sem Flow) (SP X pins D) X.xe s4) X.xe { s1 with heap := g3 } := by
        rw [h2]
        exact HandSPX.setFlight_upZ fl3 fun h4 hh4 up4 => wpAny_throw (tk _ _ ⟨a, B, sI, pins, σ1, H1, cls, d, rfl, J, grd, (up.trans up3).trans up4, .inr (.inr (by rw [h1]; exact hh4)), na, os, ag, hno rfl⟩)
      first
        | exact wpAny_bind (wpAny_pure (wpAny_bind fin))
        | exact wpAny_bind fin
  · cases f with
    | next => obtain ⟨σ1, H1, J1, q⟩ := done; exact wpAny_execs_nil ⟨σ1, H1, J1.ofTry okX, q⟩
    | brk => obtain ⟨σ1, H1, J1, q⟩ := done; exact ⟨σ1, H1, J1.ofTry okX, q⟩
    | cont => obtain ⟨σ1, H1, J1, q⟩ := done; exact ⟨σ1, H1, J1.ofTry okX, q⟩
    | ret u => obtain ⟨v, σ1, H1, J1, r, q⟩ := done; exact ⟨v, σ1, H1, J1.ofTry okX, r, q⟩
end
/-- isinstance(x, c), x a caught exception -/
def rIsX (K : Frag) : List V → Hp → VK → Prop := fun xs H Q => ∃ (a D : Addr) (c : V) (cv : Value) (b : Bool), xs = [.ref a, c] ∧ ClsV c cv ∧ H a = some (ExcO a (.ref D) none) ∧ ExcC K D ∧ PySem.W.kitOne K (.ref D) cv = some b ∧ Q (.bl b) H
theorem call_isX {X : Cx} : CallR X (.builtin "isinstance") (rIsX X.K) := by
  intro pins s σ H xs us Q I r h
  obtain ⟨a, D, c, cv, b, rfl, k, ha, C, e, q⟩ := h
  obtain ⟨u1, u2, rfl, r1, r2⟩ := vals2 r
  have e2 := k.eq r2
  subst e2
  cases r1
  obtain ⟨⟨oe, vs, hget, ⟨c1, c2⟩, hv⟩, _⟩ := I.hok a _ ha
  have J : PySem.W.InstAt s.heap a oe D none := by
    obtain ⟨oc, od, oda, osl⟩ := oe
    dsimp only at c1 c2 hv
    subst c1 c2 hv
    exact ⟨hget, rfl, rfl, trivial⟩
  exact PySem.W.kia_one (PySem.W.handS_kitx_exc C.hg C.hk C.hs C.hd C.ha C.hn C.ht C.hm) I.kIn J e (fun z => nomatch z) fun tk => ⟨.bl b, H, I.tok tk, rfl, q⟩
/-! ### list.count, flat items -/
def rCount (K : Frag) : V → List V → Hp → VK → Prop := fun x xs H Q => ∃ (a : Addr) (ys : List V) (y : V), x = .ref a ∧ xs = [y] ∧ SqL K H a ys ∧ flatV y = true ∧ ys.all flatV = true ∧ Q (.int ((ys.countP fun z => eqV z y : Nat) : Int)) H
theorem countP_eqU {y : V} {uy : Value} (ry : RelV y uy) : ∀ {ys : List V} {its : List Value}, Vals ys its → ys.all flatV = true → its.countP (eqU y) = ys.countP fun z => eqV z y
  | _, _, .nil, _ => rfl
  | z :: ys, u :: its, .cons r t, h => by
    have h' : (flatV z && ys.all flatV) = true := h
    rw [Bool.and_eq_true] at h'
    rw [List.countP_cons, List.countP_cons, countP_eqU ry t h'.2, eqU_of r h'.1]
theorem mt_countF {X : Cx} : MtR X "list.count" (rCount X.K) := by
  intro pins s σ H x xs v us Q I rx rxs h
  obtain ⟨a, ys, y, rfl, rfl, hs, fy, fys, q⟩ := h
  cases rx
  obtain ⟨u, rfl, ru⟩ := rxs.one
  obtain ⟨its, rv, ⟨⟨cls, dd, data, sl⟩, n, ho, hc, hdn, hd⟩, hlen⟩ := I.list hs
  simp only at hc hd
  subst hc hd
  refine call_meets PySem.F.slot_list_count ⟨_, ho, rfl⟩ PySem.F.entry_list_count (PySem.F.args_list_count_2 _ _)
    (SeqAt.list_countAt a its.toArray n dd sl u (eqU y)) ⟨ho, fun z hz => mem_eqAt ru fy rv fys z (by simpa using hz), .int ((ys.countP fun z => eqV z y : Nat) : Int), H, I.tok _, ⟨s.toks, ?_⟩, q⟩
  show Value.int ((its.toArray.toList.countP (eqU y) : Nat) : Int) s.toks = _
  rw [List.toList_toArray, countP_eqU ru rv fys]
end Rf
namespace Rf
open PySem PySem.Spec PyProof.Rows L2

/-- a name's value; nothing changes -/
theorem ld_var {X : Cx} {pins : List (Addr × Obj)} {σ : L2.St} {H : Hp} {s : Shared} {E : Value → Shared → Prop} {i : Nat} {x : Str} {v : V} {pos : Pos} {Q : Value → Shared → Prop} (I : L2.Inv X pins σ H s) (hN : X.N[i]? = some x) (hv : Vis X.env.scope x) (e : σ[i]? = some (some v))
    (q : ∀ u, RelV v u → Q u s) (hd : (x == ("__debug__" : Str)) = false) (hcd : (x == ("__classdict__" : Str)) = false) : wpAny (model X.prog X.w) X.A (eval (.Name x pos) X.env) Q E s := by
  obtain ⟨m, hn, hl⟩ := I.loc
  obtain ⟨u, r, l⟩ := hl i x v hN e hv
  rcases l with ⟨k, hm⟩ | ⟨k | k, c, hc, cell⟩
  · exact wpAny_Name (wpAny_loadName_local I.ok.kind k hn hm (q u r)) hd
  · exact wpAny_Name (wpAny_loadName_cell I.ok.kind k hc cell (q u r)) hd
  · exact wpAny_Name (wpAny_loadName_free I.ok.kind k hc cell (q u r) hcd) hd
/-- what the walk doesn't track is left out of the heap -/
theorem Inv.hide {X : Cx} {pins : List (Addr × Obj)} {σ : L2.St} {H : Hp} {s : Shared} (I : L2.Inv X pins σ H s) (l : List Addr) (k1 : ∀ z ∈ l, H z = none) (k2 : ∀ z ∈ l, z ≠ X.env.locals) (k3 : ∀ z ∈ l, ∀ o v, s.heap.get? z = some o → o.data ≠ .cell v)
    (k4 : ∀ z ∈ l, X.s_0.heap.get? z = none) (k5 : ∀ p ∈ X.pn ++ pins, p.1 ∉ l) : L2.Inv X pins σ H { s with heap := PySem.W.hideAll s.heap l } := by
  have old : ∀ b o, X.s_0.heap.get? b = some o → b ∉ l := fun b o e hb => by
    rw [k4 b hb] at e
    cases e
  have cells : ∀ {c : Addr} {v : Option Value}, s.heap.IsCell c v → (PySem.W.hideAll s.heap l).IsCell c v := fun {c v} ⟨o, ho, hd⟩ => ⟨o, PySem.W.hideAll_get l ho fun hc => k3 c hc o v ho hd, hd⟩
  refine ⟨I.ok, I.os, I.bare, ⟨fun b o e n hb hx => PySem.W.hideAll_get l (I.base.keep b o e n hb hx) (old b o e), fun b o e n hb hx => ?_, I.base.free, fun b o e hx => ?_, I.base.tups, I.base.frzs, I.base.tbls⟩, ?_, fun x c e => ?_, I.free, I.freeC, fun p hp => ?_, fun b u e => ?_, I.len⟩
  · obtain ⟨sl, q⟩ := I.base.slot b o e n hb hx
    exact ⟨sl, PySem.W.hideAll_get l q (old b o e)⟩
  · obtain ⟨o2, q⟩ := I.base.there b o e hx
    exact ⟨o2, PySem.W.hideAll_get l q (old b o e)⟩
  · obtain ⟨m, ⟨o, es, ep, e, r⟩, hl⟩ := I.loc
    refine ⟨m, ⟨o, es, ep, PySem.W.hideAll_get l e fun hb => k2 _ hb rfl, r⟩, fun i x v e1 e2 e3 => ?_⟩
    obtain ⟨u, rv, lk⟩ := hl i x v e1 e2 e3
    exact ⟨u, rv, lk.elim .inl fun ⟨k, c, e, z⟩ => .inr ⟨k, c, e, cells z⟩⟩
  · obtain ⟨v, z⟩ := I.cell x c e
    exact ⟨v, cells z⟩
  · obtain ⟨e, r⟩ := I.pin p hp
    exact ⟨PySem.W.hideAll_get l e (k5 p hp), r⟩
  · refine (I.hok b u e).stay (fun c w hc q => PySem.W.hideAll_get l q fun hl => ?_) (fun _ q => q) fun _ _ q => q
    have z := k1 c hl
    rcases hc with hc | hc
    · rw [hc, e] at z
      cases z
    · rw [hc] at z
      cases z
/-! ### raise X('..') from e, in an except suite -/
theorem pmk_six {X : Cx} {C : Addr} {bmB : List Value} {B newId initId : String} {x m : Str} {j : Nat} {p p2 pos : Pos} (F : ExcBaseFacts B newId initId bmB) (q : PySem.W.excIn X.K C bmB newId = true) (gC : X.mg x = some (.ref C)) (kC : PySem.W.keepIn X.K (.ref C) = true)
    (r : Raises X (.ref C)) (hg : Gl X x) (hdb : (x == ("__debug__" : Str)) = false) : L2H.PMk5 X (.Call (.Name x p) [.Constant (.str m) j p2] [] pos) (fun _ H Q => Q (.ref C) none H) := by
  intro pins s σ H Q I wish
  have args : PA X [.Constant (.str m) j p2] (tCons (tC (.str m)) tNil) := pa_cons pe_str pa_nil
  refine wpAny_Call_Name_kw (ld_glob I hg gC (PySem.W.callWith_K I.ok.mod.kin kC (thn (args.run pos pins s σ H (fun vs H1 => vs = [V.str m] ∧ H = H1) I ⟨rfl, rfl⟩) fun us s1 got => ?_)) hdb)
  obtain ⟨vs, H1, I1, r1, rfl, rfl⟩ := got
  refine ⟨I1.kIn, ?_⟩
  obtain ⟨u, rfl, ru⟩ := r1.one
  obtain ⟨bm, N, nm, qn, bs, hdct, sn, sub, ab, col, dd, k0, k1, k2, k3, k5, mN, hC, hN, hni, T⟩ := exc_obj I1.kIn q
  exact wpAny_call_exc_subT F T hC hN hni (fun h' e made => L2H.mk_of5 I1 made r wish (I1.hok.gone made.new)) (by show 1 ≤ sizeLine; rw [sizeLine_eq]; omega)
theorem upd_off {h : Heap} {a b : Addr} {f : Obj → Obj} (n : b ≠ a) : (h.update a f).get? b = h.get? b := Heap.get?_update_other _ _ (Ne.symm n)
theorem ps_raiseFrom {Y : Cx} {W : WX} {e : Expr} {t : L2.St → Hp → XK → Prop} {p : Addr × Obj} {v1 : Array Value} {cls1 : Value} {i : Nat} {n : Str} {cp pos : Pos} (hh : Y.A.handled = some (.ref p.1)) (hp : p ∈ Y.pn) (nbase : Y.base.get? p.1 = none) (hv : p.2.data = .fields v1) (h2 : v1[2]? = some .none) (hcl : p.2.cls = cls1)
    (rb : Raises Y cls1) (tk : Takes Y W) (he : L2H.PMk5 Y e t) (hN : Y.N[i]? = some n) (vis : Vis Y.env.scope n) (hd : (n == ("__debug__" : Str)) = false) (hcd : (n == ("__classdict__" : Str)) = false) :
    PS Y (.Raise (some e) (some (.Name n cp)) pos) (fun _ σ H => σ[i]? = some (some (.ref p.1)) ∧ t σ H fun cls d H' => W cls d σ H') := by
  refine ⟨fun pins s σ H D I ⟨slot, wish⟩ => wpAny_Raise_from (thn (he pins s σ H _ I wish) fun u s1 hu => ?_)⟩
  obtain ⟨⟨a, oe, vs, sI, H1, cls, d, rfl, J, keep, hne, ha, hz, hdat, h1, na, os, ag, r, q⟩, six⟩ := hu
  have h5 : 4 < vs.size := six a oe vs rfl ha hdat
  have I1 : L2.Inv Y pins σ H1 s1 := J.call' (ch := []) os (Un.kept keep) (J.hok.kept keep) ag (fun _ z => nomatch z)
  refine ld_var I1 hN vis slot (fun cv rc => ?_) hd hcd
  cases rc
  obtain ⟨hb, _⟩ := J.pin p (List.mem_append_left _ hp)
  have nab : p.1 ≠ a := fun z => by
    rw [z, hne] at hb
    cases hb
  have hb1 : s1.heap.get? p.1 = some p.2 := keep _ _ hb
  obtain ⟨r1, r2⟩ := r (model Y.prog Y.w) sI.heap J.kIn
  obtain ⟨c1, c2⟩ := rb (model Y.prog Y.w) Y.base J.ok.mod.kin
  have AT : RaiseAt (model Y.prog Y.w) sI.heap s1.heap a oe vs cls := ⟨ha, hz.1, hdat, keep, hne, r1, r2⟩
  have AC : RaiseAt (model Y.prog Y.w) Y.base s1.heap p.1 p.2 v1 cls1 := ⟨hb1, hcl, hv, fun b o hk => keep _ _ (J.bk b o hk), nbase, c1, c2⟩
  refine raise_from_tree AT h5 (.inr ⟨p.1, p.2, v1, cls1, rfl, _, AC⟩) ?_
  have A2 := (AT.set 3 (.ref p.1)).set 4 (.bool true)
  have f1 : ((vs.setIfInBounds 3 (Value.ref p.1)).setIfInBounds 4 (Value.bool true))[1]? = some .none := HotX.set_other (by decide) (HotX.set_other (by decide) h1)
  refine setFlight_fresh A2.at_ A2.dat f1 ?_
  have keep2 : ∀ b u, b ≠ a → s1.heap.get? b = some u → ((s1.heap.update a (Obj.mapFields (·.setIfInBounds 3 (.ref p.1)))).update a (Obj.mapFields (·.setIfInBounds 4 (.bool true)))).get? b = some u := fun b u n e => by
    rw [upd_off n, upd_off n]
    exact e
  refine HotX.raiseNew_hot (oe := (oe.mapFields (·.setIfInBounds 3 (.ref p.1))).mapFields (·.setIfInBounds 4 (.bool true))) ⟨hh, p.2, v1, keep2 _ _ nab hb1, hv, h2⟩ nab A2.at_ A2.dat (by rw [Array.size_setIfInBounds, Array.size_setIfInBounds]; omega) ?_
  have A3 := A2.set 2 (.ref p.1)
  refine tk _ _ (XE.new J (fun b u z => ?_) hne A3.at_ ⟨A3.cl, ?_⟩ A3.dat (HotX.set_other (by decide) f1) na os ag q)
  · have nb : b ≠ a := fun z2 => by
      rw [z2, hne] at z
      cases z
    exact (upd_off nb).trans (keep2 _ _ nb (keep _ _ z))
  · rw [HandSPX.dict_mapFields, HandSPX.dict_mapFields, HandSPX.dict_mapFields]
    exact hz.2.1
/-- what a clause «except x as n» asks of an exception whose context is None; out of its suite only exceptions come -/
def wFrom (K : Frag) (c : Value) (i : Nat) (ts : Addr → Value → Option Addr → TS) (D : Ends) : WX := fun cls d σ H => PySem.W.exmOne K cls c = some true ∧ ∀ a, H a = none → ts a cls d { nx := fun _ _ => False, rt := fun _ _ => False, bk := fun _ _ => False, ct := fun _ _ => False } (σ.set i (some (.ref a))) H
abbrev Cx.suiteF (X : Cx) (n : Str) (hp : Pos) (a : Addr) (pn : List (Addr × Obj)) : Cx :=
  (X.suite a pn).tr (pn ++ []) (fun u s' => AsSuiteRaised (model X.prog X.w) (X.A.mark (some (.ref a))) X.env n hp (notedBy (model X.prog X.w) (X.A.mark (some (.ref a))) X.env (cameBackBy (model X.prog X.w) X.A X.env X.xe)) u s')
section
variable {X : Cx} {x n : Str} {c : Value} {i : Nat} {body suite : List Stmt} {b₀ : Stmt} {np hp pos : Pos} {tb : WX → TS} {ts : Addr → Value → Option Addr → TS} {Wout : WX}
/-- an exception leaves the suite: its name goes, it flies on -/
theorem takes_suiteF (h1 : X.stack = X.env :: X.outer) (h2 : X.env.frame = some X.env.locals) (h0 : X.ex = []) (h3 : X.N.Nodup) (h4 : X.N[i]? = some n) (h5 : X.env.kindOf n = some .local) (pas : ∀ hd : Option Value, PassesOwnAt (model X.prog X.w) (X.A.mark hd) X.A X.env X.xe)
    (tk : Takes X Wout) {pins : List (Addr × Obj)} {q : Addr × Obj} (ok : X.Ok) : Takes (Cx.suiteF X n hp q.1 (q :: (X.pn ++ pins))) (fun cls d σ H => Wout cls d (σ.set i none) H) := by
  intro u s1 air
  obtain ⟨b, B, sI, pins1, σ1, H1, cls, d, rfl, J, grd, up, sky, na, os, ag, w⟩ := air
  have frA : (X.A.mark (some (.ref q.1))).frames = some (X.env :: X.outer) := ok.frames.trans (by rw [h1])
  have sky' : Sky B (X.env :: X.outer) b (Zc cls d) X.env.locals s1.heap := by rw [← h1]; exact sky
  have JX : L2.Inv X pins σ1 H1 sI := ⟨ok, J.os, J.bare, J.base, J.loc, J.cell, J.free, J.freeC, fun p hp => J.pin p (List.mem_append_left _ (List.mem_append_left _ (List.mem_cons_of_mem _ hp))), J.hok, J.len⟩
  show wpAny _ _ (noteFrame (.ref b) X.env) _ _ _
  have noted : ∀ g1, HandSPX.HeldZ B (X.env :: X.outer) b (Zc cls d) X.env.locals g1 → s1.heap.UpToSlots g1 →
      wpAny (model X.prog X.w) (X.A.mark (some (.ref q.1))) (do bindName X.env n .none; unbindBehindTheSuite X.env n hp)
        (fun _ s2 => wpAny (model X.prog X.w) (X.A.mark (some (.ref q.1))) (passOn "try.except-as" (.ref b) X.env : Sem Flow) (fun _ _ => False) (notedBy (model X.prog X.w) (X.A.mark (some (.ref q.1))) X.env (cameBackBy (model X.prog X.w) X.A X.env X.xe)) s2)
        (fun y s2 => wpAny (model X.prog X.w) (X.A.mark (some (.ref q.1))) (setFlight (.ref b) none) (fun _ s3 => (notedBy (model X.prog X.w) (X.A.mark (some (.ref q.1))) X.env (cameBackBy (model X.prog X.w) X.A X.env X.xe)) y s3) (notedBy (model X.prog X.w) (X.A.mark (some (.ref q.1))) X.env (cameBackBy (model X.prog X.w) X.A X.env X.xe)) s2)
        { s1 with heap := g1 } := by
    intro g1 held up1
    obtain ⟨k1, k2, k3, oe, vs, T, oT, ws, e1, z1, d1, t1, nT, nTb, eT, dT, w3⟩ := held
    have J1 : L2.Inv X pins σ1 H1 { s1 with heap := g1 } := JX.landed grd k1 (up.trans up1) os ag
    have hokB := JX.inGround grd
    have offB : ∀ {z : Addr} {o : Obj} {v : Array Value}, B.get? z = none → g1.get? z = some o → o.data = .fields v → (H1 z = none ∧ z ≠ X.env.locals ∧ z ∉ X.fs ∧ z ∉ frs X.stack ∧ X.s_0.heap.get? z = none) ∧ ∀ p ∈ X.pn ++ pins, p.1 ≠ z := fun {z o v} nz ez dz => by
      have nfr : z ∉ frs (X.env :: X.outer) := recNoFrame k3 ez dz
      have noI : ∀ o, sI.heap.get? z = some o → False := fun o e => by
        have q := grd z o e (by show z ∉ frs X.stack; rw [h1]; exact nfr)
        rw [nz] at q
        cases q
      refine ⟨⟨hokB.gone nz, fun y => nfr (by rw [y]; exact List.mem_filterMap.mpr ⟨X.env, List.mem_cons_self, h2⟩), fun hm => nfr (by
        obtain ⟨e, he, q⟩ := List.mem_filterMap.mp hm
        exact List.mem_filterMap.mpr ⟨e, List.mem_cons_of_mem _ he, q⟩), by rw [h1]; exact nfr, ?_⟩, fun p hp z2 => noI p.2 (by rw [← z2]; exact (JX.pin p hp).1)⟩
      cases q : X.s_0.heap.get? z with
      | none => rfl
      | some o =>
        obtain ⟨o2, q2⟩ := JX.base.there z o q (by rw [h0]; exact fun z => nomatch z)
        exact (noI o2 q2).elim
    obtain ⟨⟨b1, b2, b3, b4, b5⟩, b6⟩ := offB k2 e1 d1
    obtain ⟨⟨c1, c2, c3, c4, c5⟩, c6⟩ := offB nT eT dT
    have J2 : L2.Inv X ((b, oe) :: (T, oT) :: pins) σ1 H1 { s1 with heap := g1 } := ⟨J1.ok, J1.os, J1.bare, J1.base, J1.loc, J1.cell, J1.free, J1.freeC, fun p hp => by
      rcases List.mem_append.mp hp with hp | hp
      · exact J1.pin p (List.mem_append_left _ hp)
      · rcases List.mem_cons.mp hp with hp | hp
        · subst hp
          exact ⟨e1, b1, b2, b3, fun v z => by rw [d1] at z; cases z⟩
        · rcases List.mem_cons.mp hp with hp | hp
          · subst hp
            exact ⟨eT, c1, c2, c3, fun v z => by rw [dT] at z; cases z⟩
          · exact J1.pin p (List.mem_append_right _ hp), J1.hok, J1.len⟩
    refine gone_ok J2 h3 h4 h5 fun s2 I2 => ?_
    have p1 := (I2.pin (b, oe) (List.mem_append_right _ List.mem_cons_self)).1
    have p2 := (I2.pin (T, oT) (List.mem_append_right _ (List.mem_cons_of_mem _ List.mem_cons_self))).1
    dsimp only at p1 p2
    obtain ⟨G, hG⟩ : ∃ G, G = PySem.W.hideAll s2.heap (b :: T :: frs X.stack) := ⟨_, rfl⟩
    have inG : ∀ {y o}, G.get? y = some o → s2.heap.get? y = some o := fun e => PySem.W.of_hideAll _ (by rw [← hG]; exact e)
    have outG : ∀ {y}, y ∈ b :: T :: frs X.stack → G.get? y = none := fun hy => by rw [hG]; exact PySem.W.hideAll_none _ hy
    have FF : s2.heap.FunFrames G (X.env :: X.outer) := by
      rw [← h1]
      exact funFrames_none I2.stack fun y hy => outG (List.mem_cons_of_mem _ (List.mem_cons_of_mem _ hy))
    unfold PySem.passOn
    refine wpAny_bind (wpAny_field p1 d1 t1 ?_)
    rw [if_neg (show ¬ ((Value.ref T == Value.none) = true) from by simp)]
    have fin : wpAny (model X.prog X.w) (X.A.mark (some (.ref q.1))) (setFlight (.ref b) X.env.frame) (fun _ s4 => wpAny (model X.prog X.w) (X.A.mark (some (.ref q.1))) (throw (.ref b) : Sem Flow) (fun _ _ => False) (notedBy (model X.prog X.w) (X.A.mark (some (.ref q.1))) X.env (cameBackBy (model X.prog X.w) X.A X.env X.xe)) s4) (notedBy (model X.prog X.w) (X.A.mark (some (.ref q.1))) X.env (cameBackBy (model X.prog X.w) X.A X.env X.xe)) s2 := by
      rw [h2]
      have hidden2 : ∀ {y : Addr} {z : Addr}, y = z → (z = b ∨ z = T) → (PySem.W.hideAll s2.heap [b, T]).get? y = none := fun {y z} e h => by
        rw [e]
        exact PySem.W.hideAll_none _ (by rcases h with h | h <;> simp [h])
      refine HandSPX.setFlight_anyZ (base := G) (Z := Zc cls d) (fl := rawInt X.env.locals) (fun y o => inG) FF ⟨oe, vs, T, oT, ws, p1, z1, d1, t1, outG (List.mem_cons_of_mem _ List.mem_cons_self), nTb, p2, dT, w3⟩ fun g3 m1 m2 m3 m4 => wpAny_throw (pas _ _ _ (tk _ _ ?_))
      have I3 : L2.Inv X pins (σ1.set i none) H1 s2 := ⟨I2.ok, I2.os, I2.bare, I2.base, I2.loc, I2.cell, I2.free, I2.freeC, fun p hp => I2.pin p ((List.mem_append.mp hp).elim (fun h => List.mem_append_left _ h) fun h => List.mem_append_right _ (List.mem_cons_of_mem _ (List.mem_cons_of_mem _ h))), I2.hok, I2.len⟩
      have I4 := Inv.hide I3 [b, T] (fun z hz => ?_) (fun z hz => ?_) (fun z hz o v e dd => ?_) (fun z hz => ?_) (fun p hp hz => ?_)
      · refine ⟨b, G, _, pins, _, H1, cls, d, rfl, I4, fun y o e ny => ?_, fun y o e hnf => ?_, .inr (.inr ⟨m1, outG List.mem_cons_self, by rw [h1]; exact m2, m3⟩), b1, rfl, I2.bare, w⟩
        · rw [hG]
          refine PySem.W.hideAll_get _ (PySem.W.of_hideAll _ e) fun hy => ?_
          rcases List.mem_cons.mp hy with hy | hy
          · have z := hidden2 hy (.inl rfl)
            rw [z] at e
            cases e
          · rcases List.mem_cons.mp hy with hy | hy
            · have z := hidden2 hy (.inr rfl)
              rw [z] at e
              cases e
            · exact ny hy
        · exact m4 y o (PySem.W.of_hideAll _ e) hnf
      · rcases List.mem_cons.mp hz with hz | hz
        · rw [hz]; exact b1
        · obtain rfl : z = T := by simpa using hz
          exact c1
      · rcases List.mem_cons.mp hz with hz | hz
        · rw [hz]; exact b2
        · obtain rfl : z = T := by simpa using hz
          exact c2
      · rcases List.mem_cons.mp hz with hz | hz
        · rw [hz, p1] at e
          cases e
          rw [d1] at dd
          cases dd
        · obtain rfl : z = T := by simpa using hz
          rw [p2] at e
          cases e
          rw [dT] at dd
          cases dd
      · rcases List.mem_cons.mp hz with hz | hz
        · rw [hz]; exact b5
        · obtain rfl : z = T := by simpa using hz
          exact c5
      · rcases List.mem_cons.mp hz with hz | hz
        · exact b6 p hp hz
        · exact c6 p hp (by simpa using hz)
    first
      | exact wpAny_bind (wpAny_pure (wpAny_bind fin))
      | exact wpAny_bind fin
  rcases sky' with ⟨f1, f2, f3, oe, vs, f4, f5, f6, f7⟩ | fl | held
  · exact HandSPX.look_newZ Zc.steady frA f3 h2 f4 f1 f2 f6 f7 f5 noted
  · exact HandSPX.looks_onZ Zc.steady frA h2 fl noted
  · exact HandSPX.againZ h2 held.2.2.2 (noted s1.heap held (Heap.UpToSlots.refl _))
theorem ps_try_from (h1 : X.stack = X.env :: X.outer) (h2 : X.env.frame = some X.env.locals) (h0 : X.ex = []) (h3 : X.N.Nodup) (h4 : X.N[i]? = some n) (h5 : X.env.kindOf n = some .local) (pas : ∀ hd : Option Value, PassesOwnAt (model X.prog X.w) (X.A.mark hd) X.A X.env X.xe)
    (h6 : Names X x c) (tk : Takes X Wout)
    (hb : ∀ (W : WX) (pn : List (Addr × Obj)) (xe : Value → Shared → Prop), L2N.Takes (X.tr pn xe) W → PassesOwn (model X.prog X.w) X.A X.env xe → PSs (X.tr pn xe) body (tb W))
    (hu : ∀ (a : Addr) (oe : Obj) (cls : Value) (d : Option Addr) (pn : List (Addr × Obj)), L2N.Zn cls d oe → (∃ vs, oe.data = .fields vs) → X.base.get? a = none → Takes (Cx.suiteF X n hp a ((a, oe) :: pn)) (fun cls d σ H => Wout cls d (σ.set i none) H) →
      PSs (Cx.suiteF X n hp a ((a, oe) :: pn)) (b₀ :: suite) (ts a cls d)) :
    PS X (.Try body [.ExceptHandler (some (.Name x np)) (some n) (b₀ :: suite) hp] [] [] pos) (fun D σ H => tb (wFrom X.K c i ts D) D σ H) := by
  refine ⟨fun pins s σ H D I0 goal => ?_⟩
  have okX := I0.ok
  have frA : X.A.frames = some (X.env :: X.outer) := okX.frames.trans (by rw [h1])
  refine wpAny_Try_except (wpAny_mono ((hb (wFrom X.K c i ts D) (X.pn ++ pins) _ (fun u s1 air => ?_) PassesOwn.looking).run [] s σ H D (I0.toTry _) goal) (fun f s1 done => ?_) (fun _ _ z => z))
  · obtain ⟨a, B, sI, pins1, σ1, H1, cls, d, rfl, J0, grd, up, sky, na, os, ag, hb1, hyes⟩ := air
    have J : L2.Inv X pins σ1 H1 sI := J0.ofTry okX
    rw [show (X.tr (X.pn ++ pins) _).stack = X.env :: X.outer from h1] at sky
    refine L2N.Sky.land L2N.Zn.steady frA h2 sky fun g3 fl3 up3 => ?_
    have J3 : L2.Inv X pins σ1 H1 { s1 with heap := g3 } := J.landed grd fl3.1 (up.trans up3) os ag
    obtain ⟨o3, v3, e3, z3, d3⟩ := fl3.there
    have nfr : a ∉ frs (X.env :: X.outer) := recNoFrame fl3.2.2.1 e3 d3
    have nL : a ≠ X.env.locals := fun z => nfr (by rw [z]; exact List.mem_filterMap.mpr ⟨X.env, List.mem_cons_self, h2⟩)
    have nF : a ∉ X.fs := fun hm => nfr (by
      obtain ⟨e, he, q⟩ := List.mem_filterMap.mp hm
      exact List.mem_filterMap.mpr ⟨e, List.mem_cons_of_mem _ he, q⟩)
    have nB : B.get? a = none := fl3.2.1
    have nBase : X.base.get? a = none := by
      cases q : X.base.get? a with
      | none => rfl
      | some o =>
        have z := grd a o (J.bk a o q) (by rw [h1]; exact nfr)
        rw [nB] at z
        cases z
    have S3 := J3.suite e3 d3 na nL nF
    refine wpAny_handleBy_cons (codeAny_handlers_test ?_) (by intro q; cases q)
    have knows := PySem.W.exm_one (M := model X.prog X.w) J3.kIn (fun A Q E s k q => wpAny_typeOf_ref (k _ _ e3) (by rw [z3.1]; exact q)) hb1
    have test : ∀ {Q E : Value → Shared → Prop}, Q c { s1 with heap := g3 } → wpAny (model X.prog X.w) (X.A.mark (some (.ref a))) (eval (.Name x np) X.env) Q E { s1 with heap := g3 } := fun {Q E} q => by
      obtain ⟨hg, hdb, hm | ⟨hm, hv, hn⟩⟩ := h6
      · exact ld_glob S3 hg hm q hdb
      · exact ld_blt S3 hg hm hv q hn hdb
    refine test (knows.here ?_)
    refine codeAny_handlers_suite_as (HandSPX.lands_againZ fl3 fun g4 fl4 up4 => ?_)
    obtain ⟨o4, v4, e4, z4, d4⟩ := fl4.there
    have S4 := (J.landed (s' := { s1 with heap := g4 }) grd fl4.1 ((up.trans up3).trans up4) os ag).suite e4 d4 na nL nF
    refine store_ok (X := X.suite a ((a, o4) :: (X.pn ++ pins))) (v := .ref a) S4 h3 h4 (.inl h5) rfl (fun s5 S5 => ?_) (.inr h5)
    have tkS := takes_suiteF (i := i) (hp := hp) (pins := pins) (q := (a, o4)) h1 h2 h0 h3 h4 h5 pas tk okX
    refine wpAny_mono ((hu a o4 cls d (X.pn ++ pins) z4 ⟨_, d4⟩ nBase tkS).run [] s5 _ H1 _ (S5.toTry _) (hyes a na)) (fun f s6 done => ?_) (fun _ _ z => z)
    cases f with
    | next => obtain ⟨_, _, _, q⟩ := done; exact False.elim q
    | brk => obtain ⟨_, _, _, q⟩ := done; exact False.elim q
    | cont => obtain ⟨_, _, _, q⟩ := done; exact False.elim q
    | ret u => obtain ⟨_, _, _, _, _, q⟩ := done; exact False.elim q
  · cases f with
    | next => obtain ⟨σ1, H1, J1, q⟩ := done; exact wpAny_execs_nil ⟨σ1, H1, J1.ofTry okX, q⟩
    | brk => obtain ⟨σ1, H1, J1, q⟩ := done; exact ⟨σ1, H1, J1.ofTry okX, q⟩
    | cont => obtain ⟨σ1, H1, J1, q⟩ := done; exact ⟨σ1, H1, J1.ofTry okX, q⟩
    | ret u => obtain ⟨v, σ1, H1, J1, r, q⟩ := done; exact ⟨v, σ1, H1, J1.ofTry okX, r, q⟩
end
end Rf
/-! Rf1d: != of a thing with an own __eq__ and no own __ne__. -/
namespace Rf
open PySem PySem.Spec PyProof.Rows L2 Builtin
theorem slot_dict_ne : Slot "tuple_iterator" "__ne__" "object.__ne__" := PySem.F.slot_tuple_iterator_ne
section
variable {prog : Program} {w : World} {A : Around} {E : Value → Shared → Prop} {s : Shared} {K : PySem.W.Frag} {x C L f : Addr} {h₀ : Heap} {m : Str → Option Value} {ox : Obj} {od : Option Obj} {name : Str} {b tb : Value}
theorem ifBoundB_K {M : Model} {id : String} {T : String} {args : List Value} {Q : Option Value → Shared → Prop} (S : Slot T name id) (X : K.In s.heap) (I : PySem.W.InstAt s.heap x ox C od) (hs : PySem.W.findIn K (.ref C) name = some (some (.builtin id)))
    (h : wpAny M A (call (.builtin id) (.ref x :: args)) (fun v => Q (some v)) E s) : wpAny M A (callSpecialIfBound? (.ref x) name args) Q E s := by
  simp only [callSpecialIfBound?, bindSpecialIfBound?]
  refine wpAny_holding (wpAny_bind (wpAny_bind (wpAny_bind (I.type.here ((PySem.W.looks_findIn X hs).here ?_)))))
  refine wpAny_bind (wpAny_askSetting (wpAny_ite ?_))
  have fin : wpAny M A (call (.builtin id) ([.ref x] ++ args) >>= fun v => pure (some v)) Q E s := wpAny_bind (wpAny_mono h (fun v s' h' => wpAny_pure h') fun _ _ h' => h')
  rw [S.bind]
  split
  · exact wpAny_bind (wpAny_pure (wpAny_pure (by exact fin)))
  · exact wpAny_tryCatch (wpAny_bind (wpAny_pure (wpAny_pure (by exact fin))))
def BlBack (Q : Value → Shared → Prop) (v : Value) (s' : Shared) : Prop := ∃ b, v = .bool b ∧ Q (.bool (!b)) s'
theorem ne_K {Q : Value → Shared → Prop} (hu : A.units + 1 < cLine) (F : Fr h₀ L s.heap m) (X₀ : K.In h₀) (I : PySem.W.InstAt s.heap x ox C od) (hb : PySem.W.Looks (model prog w) s.heap (typeOf b) tb) (hn : PySem.W.notFirst K C tb = true)
    (he : PySem.W.findIn K (.ref C) "__ne__" = some (some (.builtin "object.__ne__"))) (hob : PySem.W.subIn K (.ref C) (.type "object") = some true)
    (hs : PySem.W.findIn K (.ref C) "__eq__" = some (some (.ref f))) (hf : PySem.W.isFn K (.ref f) = true)
    (h : wpAny (model prog w) A.in1 (call (.ref f) [.ref x, b]) (BlBack Q) E s) : wpAny (model prog w) A (richCompare .NotEq (.ref x) b) Q E s := by
  have X := X₀.keeps F.keep
  have body : wpAny (model prog w) A.in1 (Builtin.«object.__ne__» ⟨[.ref x, b], []⟩) (fun fin s' => ∃ v, fin = .done (.ret v) ∧ (∃ b, v = .bool b ∧ Q (.bool b) s')) E s := by
    unfold Builtin.«object.__ne__»
    repeat (first
      | with_reducible refine wpAny_cRoomFor hu ?_
      | (refine wpAny_bind (m := callSpecialIfBound? (.ref x) (Str.ofString "__eq__") [b])
          (PySem.W.ifBound_K X I hs hf (wpAny_mono h (fun r s' hr => by
            obtain ⟨b, rfl, hq⟩ := hr
            repeat (first | exact ⟨_, rfl, _, rfl, hq⟩ | exact wpAny_pure ⟨_, rfl, _, rfl, hq⟩ | exact wpAny_truthy_bool ⟨_, rfl, _, rfl, hq⟩ | (refine wpAny_bind (m := truthy (.bool _)) (wpAny_truthy_bool ?_)) | wp_step)) fun _ _ e => e)))
      | wp_step)
  have one : wpAny (model prog w) A (tryCompare (.ref x) "__ne__" b) (fun r s' => ∃ v, r = some v ∧ Q v s') E s := by
    unfold tryCompare
    refine wpAny_bind (ifBoundB_K slot_dict_ne X I he (wpAny_call (codeAny_call_builtin slot_dict_ne.plain PySem.F.cmpEntry_ne (PySem.W.check_slot PySem.F.cmpKind_ne PySem.F.cmpSplit_ne (I.type.andThen (PySem.W.looks_subIn X hob)) (PySem.F.cmpArgs_ne _ _) (wpAny_mono body (fun v s' hv => ?_) fun _ _ e => e)))))
    obtain ⟨v, rfl, b, rfl, q⟩ := hv
    exact wpAny_pure ⟨_, rfl, q⟩
  unfold richCompare
  simp only [oneThing_ref]
  refine wpAny_holding (wpAny_bind (wpAny_cRoomFor (Nat.lt_of_succ_lt hu) ?_))
  refine wpAny_bind (I.type.here (wpAny_bind (hb.here ?_)))
  split
  · rename_i q
    have e : PySem.W.subIn K tb (.ref C) = some false := by
      rcases Bool.or_eq_true_iff.mp hn with e | e
      · rw [beq_iff_eq.mp e] at q; simp at q
      · exact beq_iff_eq.mp e
    refine wpAny_bind ((PySem.W.looks_subIn X e).here ?_)
    simp only [Bool.false_eq_true, if_false]
    refine wpAny_bind (wpAny_mono one (fun r s' z => ?_) fun _ _ e => e)
    obtain ⟨v, rfl, hq⟩ := z
    exact wpAny_pure hq
  · refine wpAny_bind (wpAny_pure ?_)
    simp only [Bool.false_eq_true, if_false]
    refine wpAny_bind (wpAny_mono one (fun r s' z => ?_) fun _ _ e => e)
    obtain ⟨v, rfl, hq⟩ := z
    exact wpAny_pure hq
end
end Rf
/-! Rf1e: dicts whose keys are tuples, further; sorted of data. -/
namespace Rf
open PySem PySem.Spec PyProof.Rows L2

section
variable {X : Cx} {pins : List (Addr × Obj)} {σ : L2.St} {H : Hp} {s : Shared} {a b : Addr} {r : Value} {d : V} {k : List Key} {A : Around} {E : Value → Shared → Prop}
/-! ### d.setdefault(k, x), k a tuple -/
theorem setdT_run {kvs : List (List Key × V)} {Q : Value → Shared → Prop} (room : A.units + 1 < cLine) (I : L2.Inv X pins σ H s) (ea : H a = some (.dT kvs)) (eb : H b = some (.tup (k.map kV))) (rd : L2.RelV d r) (few : kvs.length < sizeLine)
    (there : ∀ v, valV kvs k = some v → ∀ u s', L2.Inv X pins σ H s' → L2.RelV v u → Q u s')
    (new : valV kvs k = none → ∀ u s', L2.Inv X pins σ (upd H a (.dT (putK kvs k d))) s' → L2.RelV d u → Q u s') :
    wpAny (model X.prog X.w) A (call (.builtin "dict.setdefault") [.ref a, .ref b, r]) Q E s := by
  obtain ⟨z, nsys, xs, pr, dd⟩ := dt_of I.hok ea
  have lx : xs.length = kvs.length := (Paired.length pr).symm
  have q := pr.val k
  refine call_setdefault_heap (hsz := by omega) (tupleKind_room_in1 room) (key_of I.hok eb) nsys dd (fun p hp => ?_) fun hn h' dd' same => ?_
  · rw [hp] at q
    cases q0 : valV kvs k with
    | none => rw [q0] at q; exact (show False from q).elim
    | some v => rw [q0] at q; exact there v q0 _ _ (I.tok _) q
  · rw [hn] at q
    cases q0 : valV kvs k with
    | some v => rw [q0] at q; exact (show False from q).elim
    | none =>
      have lp : (putK kvs k d).length ≤ sizeLine := by have := length_putK kvs k d; omega
      obtain ⟨oq, es, ep, hq, r2, r3, r4, _, r5⟩ := dd'
      refine new q0 _ _ (d_write I (by rw [ea]; exact True.intro) same ⟨oq, hq⟩ ⟨lp, nsys, _, (pr.put k eb rd).keeps fun c ys ec => ?_, oq, es, ep, hq, r2, r3, r4, r5⟩) rd
      rw [upd_ne (ne_of ec ea fun z => nomatch z)]
      exact ec
end
def tSetdT (td ty tx : TE) : TE := fun σ H Q => td σ H fun x H1 => ∃ a, x = .ref a ∧ IsD H1 a ∧ ty σ H1 fun y H2 => tx σ H2 fun z H3 => ∃ (kvs : List (List Key × V)) (k : List Key) (b : Addr), H3 a = some (.dT kvs) ∧ y = .ref b ∧ H3 b = some (.tup (k.map kV)) ∧ kvs.length < sizeLine ∧
  (∀ v, valV kvs k = some v → Q v H3) ∧ (valV kvs k = none → Q z (upd H3 a (.dT (putK kvs k z))))
theorem pe_setdT {X : Cx} {o e f : Expr} {td ty tx : TE} {apos cpos : Pos} (room : X.A.units + 1 < cLine) (ho : PE X o td) (he : PE X e ty) (hf : PE X f tx) (m : M2 X o "setdefault" apos e f cpos) : PE X (.Call (.Attribute o "setdefault" apos) [e, f] [] cpos) (tSetdT td ty tx) := by
  constructor
  intro pins s σ H Q I goal
  refine wpAny_Call_method m.base m.few m.line PySem.F.plainAttrs_dict PySem.F.slot_dict_setdefault PySem.F.type_dict_setdefault (thn (ho.run pins s σ H _ I goal) fun u s1 ⟨x, H1, I1, rx, a, ex, isd, next⟩ => ?_)
  subst ex
  cases rx
  obtain ⟨t1, t2, _⟩ := isD_at I1 isd
  refine ⟨t1, t2, ?_⟩
  rw [m.trees]
  refine Calls.callWith_builtin rfl (Calls.evalArgs_plain (Calls.spliced_cons (thn (he.run pins s1 σ H1 _ I1 next) fun iv s2 ⟨y, H2, I2, ry, q2⟩ => Calls.spliced_cons (thn (hf.run pins s2 σ H2 _ I2 q2) fun fv s3 ⟨z, H3, I3, rz, kvs, k, b, ea, ey, eb, few, q3, q4⟩ => Calls.spliced_nil ?_))))
  subst ey
  cases ry
  exact setdT_run room I3 ea eb rz few (fun v hv u s4 I4 r4 => ⟨v, _, I4, r4, q3 v hv⟩) fun hn u s4 I4 r4 => ⟨z, _, I4, r4, q4 hn⟩

/-! ### for .. in d.items(), the keys tuples; d locked -/
/-- the pairs of the locked dict, each a new tuple -/
def ItT (d : Addr) (o : Obj) (kvs : List (List Key × V)) : It where
  go := fun i H => H d = some (.frz o (.dT kvs)) ∧ i < kvs.length
  yld := fun i H x H' => ∃ (T q : Addr) (k : List Key) (v : V), kvs[i]? = some (k, v) ∧ H q = some (.tup (k.map kV)) ∧ x = .ref T ∧ H T = none ∧ H' = upd H T (.tup [.ref q, v])
  stop := fun i H => H d = some (.frz o (.dT kvs)) ∧ kvs.length ≤ i
theorem frzT_all {X : Cx} {pins : List (Addr × Obj)} {σ : L2.St} {H : Hp} {s : Shared} {d : Addr} {o : Obj} {kvs : List (List Key × V)} (I : L2.Inv X pins σ H s) (h : H d = some (.frz o (.dT kvs))) :
    (d == sysModules) = false ∧ ∃ (es : Array DictEntry) (ep : Nat), o.data = .dict es ep ∧ DT.Raw s.heap d es ep ∧ es.size = kvs.length ∧
      ∀ (i : Nat) (k : List Key) (v : V), kvs[i]? = some (k, v) → ∃ (en : DictEntry) (q : Addr), es[i]? = some en ∧ en.key = .ref q ∧ H q = some (.tup (k.map kV)) ∧ L2.RelV v en.val := by
  obtain ⟨hd, z, nsys, xs, pr, o', es, ep, ho, ex, dat, he, _⟩ := I.hok d _ h
  have eo : o = o' := Option.some.inj (hd.symm.trans ho)
  subst eo
  refine ⟨nsys, es, ep, dat, ⟨o, hd, ex, dat⟩, (size_of_entries he).trans (Paired.length pr).symm, fun i k v e => ?_⟩
  obtain ⟨p, hp, e1, e2, e3⟩ := paired_get pr e
  have q := entry_at he i
  rw [hp] at q
  exact ⟨_, p.2.1, q, rfl, e2, e3⟩
theorem turn_itT {P : Program} {w : World} {K : PySem.W.Frag} {d : Addr} {o : Obj} {es : Array DictEntry} {ep : Nat} {kvs : List (List Key × V)} {elts : List Expr} {kk : Nat} {tpos : Pos} (it : Addr) (dat : o.data = .dict es ep) :
    Turn P w K (.Tuple elts kk tpos) (ItT d o kvs) [it] it (fun i h => ∃ ok ov, IsItemIter h it d i kvs.length ep ok ov) where
  mem := List.mem_singleton.mpr rfl
  obj := fun i h ⟨ok, ov, e⟩ b hb => by
    rw [List.mem_singleton.mp hb]
    exact ⟨_, e, fun v z => nomatch z⟩
  keep := fun i h h' ⟨ok, ov, e⟩ kp => ⟨ok, ov, kp it (List.mem_singleton.mpr rfl) _ e⟩
  item := by
    intro X p1 p2 p3 calm i pins s σ H E I free ⟨ok, ov, he⟩ ⟨hd, hi⟩
    subst p1 p2 p3
    obtain ⟨nsys, es', ep', dat', raw, sz, ent⟩ := frzT_all I hd
    obtain ⟨rfl, rfl⟩ := dict_ep dat dat'
    obtain ⟨⟨k, v⟩, hkv⟩ : ∃ p, kvs[i]? = some p := ⟨kvs[i], List.getElem?_eq_getElem hi⟩
    obtain ⟨en, q, hen, hkey, hq, rv⟩ := ent i k v hkv
    have hi' : i < es'.size := by omega
    have een : es'[i] = en := Option.some.inj ((Array.getElem?_eq_getElem hi').symm.trans hen)
    have low : it < s.heap.objs.size := Heap.lt_size he
    rw [← sz] at he
    refine DT.nextI he raw hi' fun h' ho hT hz hk => ⟨_, rfl, wpAny_letOwnedTupleGo_items (s := { s with heap := h' }) ho fun h2 back same => ?_⟩
    rw [een, hkey] at hT
    have hT2 : h2.get? s.heap.objs.size = some { cls := .type "tuple", data := .seq #[.ref q, en.val] } := (same.2 _ (Nat.ne_of_gt low)).trans hT
    have two : (2 : Nat) ≤ sizeLine := by decide
    have new : ObjOk X.prog X.w (upd H s.heap.objs.size (.tup [.ref q, v])) h2 s.heap.objs.size (.tup [.ref q, v]) := ⟨two, [.ref q, en.val], .cons rfl (.cons rv .nil), ⟨_, hT2, rfl, _, rfl⟩⟩
    have I1 := I.turnedNew (t' := s.toks) (ch := [it]) (h' := h2) (fun c oc hc e => (same.2 c (fun z => hc (List.mem_singleton.mpr z))).trans (hk c oc (fun z => hc (List.mem_singleton.mpr z)) e)) free (Nat.le_refl _) new
    refine ⟨.ref s.heap.objs.size, _, I1, rfl, ⟨_, q, k, v, hkv, hq, rfl, I.hok.fresh (Nat.le_refl _), rfl⟩, ⟨es'[i].key, es'[i].val, ?_⟩, fun c hc => ?_⟩
    · rw [← sz]
      exact back
    · rw [List.mem_singleton.mp hc, upd_ne (Nat.ne_of_lt low)]
      exact (free it (List.mem_singleton.mpr rfl)).1
  done := by
    intro X p1 p2 p3 calm i pins s σ H E I free ⟨ok, ov, he⟩ ⟨hd, hi⟩
    subst p1 p2 p3
    obtain ⟨f0, f1, f2, f3, f4, f5⟩ := free it (List.mem_singleton.mpr rfl)
    obtain ⟨nsys, es', ep', dat', raw, sz, ent⟩ := frzT_all I hd
    obtain ⟨rfl, rfl⟩ := dict_ep dat dat'
    rw [← sz] at he
    exact DT.endI (I.ok.hd calm) he raw (by omega) fun h' eb => ⟨rfl, I.turned (t' := s.toks) (fun c oc hc e => eb c oc hc e) f0 f1 f3 f4 f5⟩
  self := fun A i s Q E ⟨_, _, e⟩ h => PySem.W.kcp_self e h
def iItT (td : TE) : TI := fun σ H R => td σ H fun x H1 => ∃ d o kvs, x = .ref d ∧ H1 d = some (.frz o (.dT kvs)) ∧ R (ItT d o kvs) H1
theorem pi_itT {X : Cx} {e : Expr} {td : TE} {apos cpos tpos : Pos} {elts : List Expr} {kk : Nat} (he : PE X e td) (base : attributeBase e "items" X.env (eval e X.env) = eval e X.env) (line : (apos.endLine == cpos.line) = true) :
    PI X (.Tuple elts kk tpos) (.Call (.Attribute e "items" apos) [] [] cpos) (iItT td) := by
  constructor
  intro pins s σ H R I goal
  refine wpAny_Call_method (T := "dict") (id := "dict.items") base rfl line PySem.F.plainAttrs_dict PySem.F.slot_dict_items PySem.F.type_dict_items (thn (he.run pins s σ H _ I goal) fun u s1 ⟨x, H1, I1, rx, d, o, kvs, ex, hd, q⟩ => ?_)
  subst ex
  cases rx
  obtain ⟨nsys, es, ep, dat, raw, sz, ent⟩ := frzT_all I1 hd
  refine ⟨raw.typeIs, ?_, ?_⟩
  · intro c ec
    cases ec
    obtain ⟨ob, hob, hx, _⟩ := id raw
    exact ⟨ob, hob, hx.2.1⟩
  refine Calls.callWith_builtin rfl (PySem.evalArgs_none (DT.callItems nsys raw ?_))
  have I2 : L2.Inv X pins σ H1 { s1 with heap := s1.heap.push { cls := .type "dict_items", data := .fields #[.ref d] } } := I1.kept (t' := s1.toks) fun c oc z => Heap.get?_push_of_some _ z
  refine DT.iterI (s := { s1 with heap := s1.heap.push { cls := .type "dict_items", data := .fields #[.ref d] } }) (d := d) ⟨_, Heap.get?_push_size _ rfl, rfl, rfl⟩ (raw.push _) (pi_one (tk := s1.toks) I2 _ (turn_itT _ dat) ⟨.none, .none, ?_⟩ q)
  rw [← sz]
  exact Heap.get?_push_size _ rfl

/-! ### sorted(xs), xs a list of data -/
def sortD (xs : List V) (ds : List PyData) : List V := ((xs.zip ds).mergeSort (PySem.W.dataLe false Prod.snd)).map Prod.fst
def rSortD (K : Frag) : List V → Hp → VK → Prop := fun vs H Q => ∃ (a : Addr) (xs : List V) (ds : List PyData), vs = [.ref a] ∧ SqL K H a xs ∧ DpAll K H xs ds ∧ PySem.W.AllAlike ds ∧ PySem.W.Sortable ds ∧ (∀ d ∈ ds, d.depth ≤ 8) ∧ ∀ p, H p = none → Q (.ref p) (upd H p (.lst (sortD xs ds)))
theorem dps_len {K : Frag} {H : Hp} : ∀ {xs : List V} {ds : List PyData}, DpAll K H xs ds → xs.length = ds.length
  | _, _, .nil => rfl
  | _, _, .cons _ t => congrArg Nat.succ (dps_len t)
theorem zip_snd {α β : Type} : ∀ (xs : List α) (ys : List β), xs.length = ys.length → (xs.zip ys).map Prod.snd = ys
  | [], [], _ => rfl
  | x :: xs, y :: ys, h => by
    show y :: (xs.zip ys).map Prod.snd = y :: ys
    rw [zip_snd xs ys (Nat.succ.inj h)]
  | [], _ :: _, h => by cases h
  | _ :: _, [], h => by cases h
section
variable {X : Cx} {pins : List (Addr × Obj)} {σ : L2.St} {H : Hp} {s : Shared}
theorem each_rel : ∀ {xs : List V} {us : List Value} {ds : List PyData}, Vals xs us → xs.length = ds.length → PySem.W.EachIs (fun v (b : V × PyData) => L2.RelV b.1 v) us (xs.zip ds)
  | [], [], [], _, _ => .nil
  | _ :: _, _ :: _, _ :: _, .cons r t, h => .cons r (each_rel t (Nat.succ.inj h))
theorem each_reads (I : L2.Inv X pins σ H s) : ∀ {xs : List V} {us : List Value} {ds : List PyData}, Vals xs us → DpAll X.K H xs ds → PySem.W.EachIs (fun v (b : V × PyData) => ∃ as, Reads s.heap v b.2 as) us (xs.zip ds)
  | [], [], [], _, _ => .nil
  | _ :: _, _ :: _, _ :: _, .cons r t, .cons d e => .cons (Dp.reads I _ _ _ d r) (each_reads I t e)
theorem vals_out : ∀ {us : List Value} {bs : List (V × PyData)}, PySem.W.EachIs (fun v (b : V × PyData) => L2.RelV b.1 v) us bs → Vals (bs.map Prod.fst) us
  | _, _, .nil => .nil
  | _, _, .cons r t => .cons r (vals_out t)
end
theorem sortD_len {xs : List V} {ds : List PyData} (h : xs.length = ds.length) : (sortD xs ds).length = xs.length := by
  unfold sortD
  rw [List.length_map, List.length_mergeSort, List.length_zip, ← h, Nat.min_self]
theorem call_sortD {X : Cx} (room : X.A.units + 64 < cLine) : CallR X (.builtin "sorted") (rSortD X.K) := by
  intro pins s σ H xs us Q I r h
  obtain ⟨a, ys, ds, rfl, hs, hd, al, so, dep, q⟩ := h
  obtain ⟨u, rfl, ru⟩ := r.one
  cases (show u = Value.ref a from ru)
  obtain ⟨its, rv, pl, hz⟩ := I.list hs
  have len := dps_len hd
  have hzip : (ys.zip ds).map Prod.snd = ds := zip_snd _ _ len
  refine PySem.W.sorted_data (s := s) (enc := Prod.snd) (bs := ys.zip ds) (vs := its) pl.isList (each_rel rv len) (each_reads I rv hd) (by rw [hzip]; exact al) (by rw [hzip]; exact so) (by rw [List.length_zip, ← len, Nat.min_self]; exact hz) (fun b hb => ?_) fun out lo eo => ?_
  · have := dep b.2 (by rw [← hzip]; exact List.mem_map_of_mem hb)
    omega
  · obtain ⟨c, hc⟩ := sortedAll_at s.heap its out.toArray
    have vo := vals_out eo
    have lm : (sortD ys ds).length ≤ sizeLine := by rw [sortD_len len]; exact hz
    exact ⟨.ref (s.heap.objs.size + 1), _, I.laid (a := s.heap.objs.size + 1) (o := .lst (sortD ys ds)) (t' := s.toks) (fun _ _ z => sortedAll_old z) (Nat.le_succ _) ⟨lm, out, c, vo, hc⟩, rfl, q _ (I.hok.fresh (Nat.le_succ _))⟩
theorem PE.weak {X : Cx} {e : Expr} {t : TE} (h : PE X e t) : PE X e (fun σ H Q => ∃ Q' : VK, (∀ v H', Q' v H' → Q v H') ∧ t σ H Q') :=
  ⟨fun pins s σ H Q I ⟨Q', hQ, q⟩ => thn (h.run pins s σ H Q' I q) fun u s1 ⟨v, H1, I1, r, q1⟩ => ⟨v, H1, I1, r, hQ v H1 q1⟩⟩
/-! ### sorted(set(t)), t a tuple of ints -/
def rSetTI (K : Frag) (w : World) : List V → Hp → VK → Prop := fun vs H Q => ∃ (a : Addr) (ns : List Int), vs = [.ref a] ∧ SqT K H a (ns.map V.int) ∧ ns.length < 1000 ∧ ∀ p c, H p = none → c ≤ ns.length → Q (.ref p) (upd H p (SetO w p (fun j => decide (j ∈ ns)) c))
theorem call_setTI {X : Cx} (calm : X.calm = true) : CallR X (.type "set") (rSetTI X.K X.w) := by
  intro pins s σ H xs us Q I r h
  obtain ⟨a, ns, rfl, ht, few, q⟩ := h
  obtain ⟨u, rfl, ru⟩ := r.one
  cases (show u = Value.ref a from ru)
  obtain ⟨its, rv, pl, hz⟩ := I.tuple ht
  refine call_set_tupI (items := its.toArray) ns (I.ok.hd calm) pl (ints_of_vals rv) (show ns.length + 1 < 4096 by omega) fun h' tk c R hc kp => ?_
  exact ⟨.ref s.heap.objs.size, _, I.laid (a := s.heap.objs.size) (o := SetO X.w s.heap.objs.size (fun j => decide (j ∈ ns)) c) (t' := tk) kp (Nat.le_refl _) (setO_new R), rfl, q _ _ (I.hok.fresh (Nat.le_refl _)) hc⟩
/-- what sorted(set(t)) asks -/
def tSset (K : Frag) (te : TE) : TE := fun σ H Q => te σ H fun x H1 => ∃ (a : Addr) (ns : List Int), x = .ref a ∧ SqT K H1 a (ns.map V.int) ∧ ns.length < 64 ∧
  ∀ (l : Addr) (ms : List Int) (H' : Hp), (∀ b o, H1 b = some o → H' b = some o) → H1 l = none → H' l = some (.lst (ms.map V.int)) → ms.Pairwise (· < ·) → (∀ k, k ∈ ms ↔ k ∈ ns) → Q (.ref l) H'
theorem pe_sset {X : Cx} {e : Expr} {te : TE} {q1 q2 p1 p2 : Pos} (calm : X.calm = true) (g1 : Gl X "sorted") (m1 : X.mg "sorted" = none) (g2 : Gl X "set") (m2 : X.mg "set" = none) (he : PE X e te) (hs : starEach [e] X.env = [(false, eval e X.env)]) :
    PE X (.Call (.Name "sorted" q1) [.Call (.Name "set" q2) [e] [] p2] [] p1) (tSset X.K te) := by
  have inner := pe_callTy (pos := p2) (p := q2) (call_setTI calm) g2 m2 (by decide +kernel) (pa_cons (PE.weak he) pa_nil hs) (he := hs)
  refine PE.imp (pe_callB (pos := p1) (p := q1) (cr_sortedSet calm) g1 m1 (by decide +kernel) (pa_cons inner pa_nil rfl)) fun σ H Q h => ⟨_, fun x H1 q => ?_, h⟩
  obtain ⟨a, ns, rfl, ht, few, q⟩ := q
  refine ⟨a, ns, rfl, ht, by omega, fun p c hp hc => ⟨p, _, c, rfl, upd_same, by omega, fun ms l up mem len hl => ?_⟩⟩
  have kp : ∀ b o, H1 b = some o → upd (upd H1 p (SetO X.w p (fun j => decide (j ∈ ns)) c)) l (.lst (ms.map V.int)) b = some o := fun b o eb => by
    have n1 : b ≠ p := fun z => by rw [z, hp] at eb; cases eb
    have e2 : upd H1 p (SetO X.w p (fun j => decide (j ∈ ns)) c) b = some o := by rw [upd_ne n1]; exact eb
    rw [upd_ne (fun z => by rw [z, hl] at e2; cases e2)]
    exact e2
  refine q l ms _ kp ?_ upd_same up fun k => by rw [mem k, decide_eq_true_iff]
  cases z : H1 l with
  | none => rfl
  | some o =>
    have n1 : l ≠ p := fun w => by rw [w, hp] at z; cases z
    rw [upd_ne n1, z] at hl
    cases hl
end Rf
/-! Rf1f: sorted(rows, key=lambda row: (len(row[0]), row[0])). -/
namespace Rf
open PySem PySem.Spec PyProof.Rows L2

/-! ### all that stands, but the base's things and the def's names -/
def others (base : Heap) (L : Addr) (h : Heap) : List (Addr × Obj) := (List.range h.objs.size).filterMap fun b => if b = L then none else match base.get? b with
  | some _ => none
  | none => (h.get? b).map fun o => (b, o)
theorem others_in {base h : Heap} {L b : Addr} {o : Obj} (e : h.get? b = some o) (n : b ≠ L) (z : base.get? b = none) : (b, o) ∈ others base L h := by
  refine List.mem_filterMap.mpr ⟨b, List.mem_range.mpr (Heap.lt_size e), ?_⟩
  rw [if_neg n, z]
  show (h.get? b).map _ = _
  rw [e]
  rfl
theorem others_news {base h : Heap} {L : Addr} : News base L h (others base L h) := fun p hp => by
  obtain ⟨b, _, e⟩ := List.mem_filterMap.mp hp
  by_cases n : b = L
  · rw [if_pos n] at e
    cases e
  · rw [if_neg n] at e
    cases z : base.get? b with
    | some o => rw [z] at e; cases e
    | none =>
      rw [z] at e
      obtain ⟨o, ho, ep⟩ := Option.map_eq_some_iff.mp e
      subst ep
      exact ⟨ho, n, z⟩
theorem ns_same {h : Heap} {L : Addr} {m m' : Str → Option Value} (a : h.Ns L m) (b : h.Ns L m') : m = m' := by
  obtain ⟨o, es, ep, e1, e2, _, e3⟩ := a
  obtain ⟨o', es', ep', f1, f2, _, f3⟩ := b
  have eo : o = o' := Option.some.inj (e1.symm.trans f1)
  subst eo
  rw [e2] at f2
  cases f2
  funext x
  rw [← e3, ← f3]
section
variable {X : Cx} {pins : List (Addr × Obj)} {σ : L2.St} {H : Hp} {s : Shared}
theorem kept_but {h' : Heap} {m : Str → Option Value} (I : L2.Inv X pins σ H s) (F : Fr X.base X.env.locals h' m) (N : ∀ p ∈ others X.base X.env.locals s.heap, h'.get? p.1 = some p.2) :
    ∀ b o, b ≠ X.env.locals → s.heap.get? b = some o → h'.get? b = some o := fun b o n e => by
  cases z : X.base.get? b with
  | some o2 =>
    have e2 : o = o2 := Option.some.inj (e.symm.trans (I.bk b o2 z))
    rw [e2]
    exact F.keep b o2 z
  | none => exact N (b, o) (others_in e n z)
/-- the names stay, all else stays: so does what is known -/
theorem inv_but {h' : Heap} {m : Str → Option Value} {tk : Nat} (I : L2.Inv X pins σ H s) (hm : s.heap.Ns X.env.locals m) (hn : h'.Ns X.env.locals m) (kp : ∀ b o, b ≠ X.env.locals → s.heap.get? b = some o → h'.get? b = some o) :
    L2.Inv X pins σ H { s with heap := h', toks := tk } := by
  have nL : ∀ b u, H b = some u → b ≠ X.env.locals := fun b u e z => by
    rw [z, I.free] at e
    cases e
  refine I.step (g' := s.gens) (d' := s.drawn) (ch := []) (fun b hb => by cases hb) (fun b o n _ _ e _ => kp b o n e) (fun b o n _ _ e _ => ⟨o.slots, kp b o n e⟩) (fun _ _ _ _ n => n) (fun b o _ e => ?_) (fun _ _ e => e) (fun _ _ _ e => e)
    (fun b ps e => ⟨#[], by rw [e]; simp⟩) (fun m2 h2 => by rw [ns_same h2 hm]; exact hn) (fun b u e => ?_) I.bare
  · by_cases n : b = X.env.locals
    · obtain ⟨o', _, _, e2, _⟩ := hn
      exact ⟨o', by rw [n]; exact e2⟩
    · exact ⟨o, kp b o n e⟩
  · refine (I.hok b u e).stay (fun c v hc q => kp c v ?_ q) (fun c q => q) fun c xs q => q
    rcases hc with z | z
    · rw [z]
      exact nL b u e
    · exact nL c _ z
end
theorem got {P : Program} {w : World} {H : Hp} {h : Heap} {a : Addr} {u : HO} (x : ObjOk P w H h a u) : ∃ o, h.get? a = some o := by
  cases u with
  | lst => exact let ⟨_, _, _, _, e⟩ := x; ⟨_, e⟩
  | tup => exact let ⟨_, _, _, o, e, _⟩ := x; ⟨o, e⟩
  | dK => exact let ⟨_, _, _, _, o, _, _, e, _⟩ := x; ⟨o, e⟩
  | dT => exact let ⟨_, _, _, _, o, _, _, e, _⟩ := x; ⟨o, e⟩
  | set => exact let ⟨o, _, _, _, e, _⟩ := x; ⟨o, e⟩
  | ins => exact let ⟨_, _, _, e, _⟩ := x; ⟨_, e⟩
  | own => exact x
  | xd => exact let ⟨_, ⟨o, _, _, e, _⟩, _⟩ := x; ⟨o, e⟩
  | rng => exact let ⟨_, _, _, e⟩ := x; ⟨_, e⟩
  | frz => exact ⟨_, x.1⟩
  | tbl => exact ⟨_, x⟩
  | met => exact ⟨_, x⟩
  | ext => exact x.2.1
/-! ### the key's call -/
abbrev lenArgs (x : Str) (ap : Pos) : Arguments := ⟨[], [{ arg := x, annotation := none, pos := ap }], none, [], [], none, []⟩
abbrev lenBody (x : Str) (p1 p2 p3 p4 p5 p6 p7 p8 p9 : Pos) (k1 k2 k3 : Nat) : Expr :=
  .Tuple [.Call (.Name "len" p1) [.Subscript (.Name x p2) (.Constant (.int 0) k1 p3) p4] [] p5, .Subscript (.Name x p6) (.Constant (.int 0) k2 p7) p8] k3 p9
structure LenScope (x : Str) (scope : Scope) : Prop where
  kind : scope.kind = .function
  co : scope.isCoroutine = false
  gen : scope.isGenerator = false
  names : ∀ y ∈ scope.names, y.2 ≠ .cell
  par : scope.names.lookup x = some .local
  len : scope.names.lookup ("len" : Str) = some NameKind.globalImplicit
  db : (x == ("__debug__" : Str)) = false
def lenScopeB (x : Str) (scope : Scope) : Bool := decide (scope.kind = .function) && !scope.isCoroutine && !scope.isGenerator && (scope.names.all fun y => !decide (y.2 = .cell)) && decide (scope.names.lookup x = some .local) && decide (scope.names.lookup ("len" : Str) = some NameKind.globalImplicit) && !(x == ("__debug__" : Str))
theorem lenScope_by {x : Str} {scope : Scope} (h : lenScopeB x scope = true) : LenScope x scope := by
  unfold lenScopeB at h
  simp only [Bool.and_eq_true, Bool.not_eq_true', decide_eq_true_eq, decide_eq_false_iff_not, List.all_eq_true] at h
  obtain ⟨⟨⟨⟨⟨⟨h1, h2⟩, h3⟩, h4⟩, h5⟩, h6⟩, h7⟩ := h
  exact ⟨h1, h2, h3, h4, h5, h6, h7⟩
section
variable {prog : Program} {w : World} {A : Around} {E : Value → Shared → Prop} {s : Shared} {f t π : Addr} {x q : Str} {ap p1 p2 p3 p4 p5 p6 p7 p8 p9 : Pos} {k1 k2 k3 : Nat} {scope : Scope} {cells : List (Str × Addr)} {pm ctv : Value} {c' : Addr} {mg mb : Str → Option Value} {items fs : Array Value}
theorem bind_row {name : Str} {body : Expr} {sc : Scope} {cl : List (Str × Addr)} {cv : Value} {v : Value} (ex : x = "row") : bindArgs (PySem.W.kla_fn name q (lenArgs x ap) body sc cl pm cv ctv) ⟨[v], []⟩ = pure [(x, v)] := by
  subst ex
  rfl
theorem len_call {Q : Value → Shared → Prop} (ex : x = "row") (S : LenScope x scope) (dep : A.depth < recursionLimit) (hf : s.heap.get? f = some (PySem.W.kla_obj "<lambda>" q (lenArgs x ap) (lenBody x p1 p2 p3 p4 p5 p6 p7 p8 p9 k1 k2 k3) scope (cloFrom cells scope.names []) pm c' ctv))
    (rec : s.heap.CodeRec (.ref c') q) (lim : s.heap.NoLimit) (hg : s.heap.Ns mainGlobals mg) (hl : mg "len" = none) (hb : s.heap.Ns builtinsNs mb) (hbl : mb "len" = some (.builtin "len"))
    (ht : IsTup s.heap t items) (h0 : items[0]? = some (.ref π)) (hi : items.size ≤ sizeLine) (hπ : IsTup s.heap π fs) (hz : fs.size ≤ sizeLine)
    (h : ∀ (h' : Heap) (tk : Nat) (T : Addr) (u : Tok), s.heap.objs.size ≤ T → (∀ b o, s.heap.get? b = some o → h'.get? b = some o) → h'.get? T = some { cls := .type "tuple", data := .seq #[.int fs.size u, .ref π] } → Q (.ref T) { s with heap := h', toks := tk }) :
    wpAny (model prog w) A (call (.ref f) [.ref t]) Q E s := by
  have big : (sizeLine : Int) < 2 ^ 63 := by decide
  refine wpAny_call (codeAny_mono (R := fun r s2 => ∃ u, r = .ok (.ret u) ∧ Q u s2) ?_ fun r s2 ⟨u, er, z⟩ => by rw [er]; exact z)
  refine PySem.W.kla_callFunE dep hf rfl S.co S.gen rfl rec ?_
  rw [show bindArgs (PySem.W.kla_fn "<lambda>" q (lenArgs x ap) (lenBody x p1 p2 p3 p4 p5 p6 p7 p8 p9 k1 k2 k3) scope (cloFrom cells scope.names []) pm (.ref c') ctv) ⟨[.ref t], []⟩ = pure [(x, Value.ref t)] from bind_row ex]
  refine wpAny_pure (wpAny_newFunctionEnv S.names (fun y hy => ?_) (fun h₁ hns hsb => ⟨lim.fresh _ hsb, ?_⟩) S.kind)
  · rw [List.mem_singleton.mp hy]
    exact S.par
  have kp : ∀ b o, s.heap.get? b = some o → h₁.get? b = some o := fun b o e => hsb.extBut b o (Nat.ne_of_lt (Heap.lt_size e)) (Heap.get?_push_of_some _ e)
  have gro : s.heap.objs.size ≤ h₁.objs.size := Nat.le_of_lt hns.lt
  have tup : ∀ {a : Addr} {xs : Array Value}, IsTup s.heap a xs → IsTup h₁ a xs := fun {a xs} ⟨o, e, r⟩ => ⟨o, kp _ _ e, r⟩
  have ht1 := tup ht
  have hπ1 := tup hπ
  have g1 : h₁.Ns mainGlobals mg := let ⟨o, es, ep, e, r⟩ := hg; ⟨o, es, ep, kp _ _ e, r⟩
  have b1 : h₁.Ns builtinsNs mb := let ⟨o, es, ep, e, r⟩ := hb; ⟨o, es, ep, kp _ _ e, r⟩
  refine PySem.W.kla_codeExpr ?_
  have item : ∀ {A' : Around} {E' : Value → Shared → Prop} {Q' : Value → Shared → Prop} (tk : Nat) (pa pb pc : Pos) (kk : Nat), (∀ tk', Q' (.ref π) { s with heap := h₁, toks := tk' }) →
      wpAny (model prog w) A' (eval (.Subscript (.Name x pa) (.Constant (.int 0) kk pb) pc) (PySem.W.envX q scope s.heap.objs.size f (.ref c') (cloFrom cells scope.names []))) Q' E' { s with heap := h₁, toks := tk } := fun {A' E' Q'} tk pa pb pc kk hq => by
    refine Subscript_ (wpAny_Name (wpAny_loadName_local (v := .ref t) S.kind S.par hns ?_ ?_) S.db)
    · show [(x, Value.ref t)].reverse.lookup x = _
      simp
    refine wpAny_Constant_int ?_
    exact subscriptTail_builtinR (x := .ref π) (let ⟨o, e, c, _⟩ := ht1; ⟨o, e, c⟩) slot_tuple_getitem.lookup (getItem_tuple (j := 0) (Q := fun r s' => r = .ref π ∧ Q' r s') (s := { s with heap := h₁, toks := tk + 1 }) ht1 (by decide) (by decide)
      (by
        have : 0 < items.size := by
          cases z : items.size with
          | zero => rw [Array.getElem?_eq_none (by omega)] at h0; cases h0
          | succ n => omega
        unfold seqIndex?
        simp [this]) h0 ⟨rfl, hq _⟩)
  refine wpAny_Tuple_spliced (Calls.spliced_cons (wpAny_Call_Name_kw (Calls.Name_function_global (by exact S.kind) S.len (Calls.loadGlobal_builtin g1 hl b1 hbl ?_))))
  refine PyProof.Rows.callWith_builtin1 (Calls.spliced_cons (item _ _ _ _ _ fun tk' => Calls.spliced_nil ?_))
  refine len_tuple (s := { s with heap := h₁, toks := tk' }) hπ1 (by omega) ?_
  refine Calls.spliced_cons (item _ _ _ _ _ fun tk2 => Calls.spliced_nil ⟨by show 2 ≤ sizeLine; decide, _, rfl, ?_⟩)
  exact h _ _ _ _ gro (fun b o e => Heap.get?_push_of_some _ (kp b o e)) (Heap.get?_push_size _ rfl)
end
/-! ### the sort -/
structure LRow where
  t : Addr
  π : Addr
  ks : List Int
  v : V
def keyOf (r : LRow) : PyData := .tuple [.int (r.ks.length : Nat), .tuple (r.ks.map .int)]
def leRow : LRow → LRow → Bool := PySem.W.dataLe false keyOf
def tSortLen (T : List (Addr × Str)) (K : Frag) (te : TE) : TE := fun σ H Q => te σ H fun x H1 => LamX.Tabs T H1 ∧ ∃ (a : Addr) (rows : List LRow), x = .ref a ∧ SqL K H1 a (rows.map fun r => V.ref r.t) ∧
  (∀ r ∈ rows, H1 r.t = some (.tup [.ref r.π, r.v]) ∧ H1 r.π = some (.tup (r.ks.map V.int))) ∧ ∀ p H2, LamX.ExtN H1 H2 → LamX.Tabs T H2 → H2 p = none → Q (.ref p) (upd H2 p (.lst ((rows.mergeSort leRow).map fun r => V.ref r.t)))
theorem key_alike (rows : List LRow) : PySem.W.AllAlike (rows.map keyOf) := PySem.W.AllAlike.of fun b b' => by
  show PySem.W.alikeAll [_, _] [_, _] = true
  simp [PySem.W.alikeAll, PySem.W.alike, PySem.W.alike_ints]
theorem key_sorts (rows : List LRow) : PySem.W.Sortable (rows.map keyOf) := PySem.W.Sortable.tuples fun b => ⟨_, _, rfl⟩
theorem key_depth (r : LRow) : (keyOf r).depth ≤ 4 := by
  unfold keyOf
  simp only [PyData.depth, PyData.depthAll]
  rw [PySem.W.depth_ints]
  decide
theorem each_rows {H : Hp} {α : Type} {g : α → Addr} {rows : List α} : ∀ {us : List Value} {l : List α}, Vals (l.map fun r => V.ref (g r)) us → (∀ r ∈ l, r ∈ rows) → PySem.W.EachIs (fun v (r : α) => v = .ref (g r) ∧ r ∈ rows) us l
  | us, [], r, _ => by cases r; exact .nil
  | us, x :: l, r, h => by
    cases r with
    | cons r1 r2 => exact .cons ⟨r1, h x List.mem_cons_self⟩ (each_rows (H := H) r2 fun y hy => h y (List.mem_cons_of_mem _ hy))
theorem out_rows {α : Type} {g : α → Addr} {rows : List α} : ∀ {us : List Value} {l : List α}, PySem.W.EachIs (fun v (r : α) => v = .ref (g r) ∧ r ∈ rows) us l → Vals (l.map fun r => V.ref (g r)) us
  | _, _, .nil => .nil
  | _, _, .cons h t => .cons h.1 (out_rows t)
theorem reads_intsA {h : Heap} : ∀ {us : List Value} {ns : List Int}, Vals (ns.map V.int) us → ∃ as, ReadsAll h us (ns.map PyData.int) as
  | us, [], r => by cases r; exact ⟨_, .nil⟩
  | us, n :: ns, r => by
    cases r with
    | cons r1 r2 =>
      obtain ⟨t, rfl⟩ := r1
      obtain ⟨as, h2⟩ := reads_intsA r2
      exact ⟨_, .cons (.int n t) h2⟩
theorem boot_sorted : bootBuiltins ("sorted" : Str) = some (.builtin "sorted") := by decide +kernel
theorem boot_len : bootBuiltins ("len" : Str) = some (.builtin "len") := by decide +kernel
theorem pe_sortLen {X : Cx} {T : List (Addr × Str)} {c P : Addr} {e : Expr} {te : TE} {q1 p kp lp ap p1 p2 p3 p4 p5 p6 p7 p8 p9 : Pos} {k k1 k2 k3 : Nat} {x : Str} {scope : Scope} (ex : x = "row") (S : LenScope x scope) (hr : Room k X.A) (g1 : Gl X "sorted") (m1 : X.mg "sorted" = none) (m2 : X.mg "len" = none)
    (TB : LamX.TabB X.base X.mg c P) (hcode : X.env.code = .ref c) (hm : (P, X.env.qual ++ "<lambda>") ∈ T) (hu : ∀ z ∈ T, z.1 = P → z.2 = X.env.qual ++ "<lambda>") (free : ∀ y ∈ scope.names, y.2 ≠ .free)
    (he : PE X e te) (hs : starEach [e] X.env = [(false, eval e X.env)]) :
    PE X (.Call (.Name "sorted" q1) [e] [⟨some "key", .Lambda (lenArgs x ap) (lenBody x p1 p2 p3 p4 p5 p6 p7 p8 p9 k1 k2 k3) scope lp, kp⟩] p) (tSortLen T X.K te) := by
  constructor
  intro pins s σ H Q I goal
  have dep : X.A.depth < recursionLimit := by have := hr.dp; omega
  have un := hr.un
  refine wpAny_Call_Name_kw (ld_blt I g1 m1 boot_sorted ?_)
  suffices key : ∀ (v : Value) (s1 : Shared), EP X pins σ (fun x H1 => LamX.Tabs T H1 ∧ ∃ (a : Addr) (rows : List LRow), x = .ref a ∧ SqL X.K H1 a (rows.map fun r => V.ref r.t) ∧ (∀ r ∈ rows, H1 r.t = some (.tup [.ref r.π, r.v]) ∧ H1 r.π = some (.tup (r.ks.map V.int))) ∧
      ∀ p H2, LamX.ExtN H1 H2 → LamX.Tabs T H2 → H2 p = none → Q (.ref p) (upd H2 p (.lst ((rows.mergeSort leRow).map fun r => V.ref r.t)))) v s1 →
      wpAny (model X.prog X.w) X.A (evalAll [(do let v ← eval (.Lambda (lenArgs x ap) (lenBody x p1 p2 p3 p4 p5 p6 p7 p8 p9 k1 k2 k3) scope lp) X.env; standAt p; pure v)]) (fun kvs s2 => wpAny (model X.prog X.w) X.A (call (.builtin "sorted") [v] ([Str.ofString "key"].zip kvs)) (EP X pins σ Q) X.xe s2) X.xe s1 by
    refine PyProof.Rows.callWith_kw ?_ (by rw [hs]; rfl) (by rw [hs]; rfl)
    rw [hs]
    refine Calls.spliced_cons (thn (he.run pins s σ H _ I goal) fun v s1 hv => Calls.spliced_nil ?_)
    exact key v s1 hv
  intro v s1 hv
  obtain ⟨y, H1, I1, r1, hT, a, rows, ev, hl, hrow, hq⟩ := hv
  subst ev
  cases r1
  refine wpAny_evalAll_cons (wpAny_bind (LamX.lam_make2 I1 TB hcode hm hu hT rfl (fun y hy z => absurd z (free y hy)) fun f c' pm ctv H2 s2 I2 eN T2 hf fH fr hc => ?_))
  refine wpAny_bind (wpAny_standAt (wpAny_pure ?_))
  refine wpAny_pure ?_
  show wpAny _ _ (call (.builtin "sorted") [.ref a] [(Str.ofString "key", .ref f)]) _ _ s2
  have hl2 : SqL X.K H2 a (rows.map fun r => V.ref r.t) := by
    rcases hl with (h | ⟨o, h⟩) | h
    · exact .inl (.inl (eN _ _ h fun ps z => by cases z))
    · exact .inl (.inr ⟨o, eN _ _ h fun ps z => by cases z⟩)
    · exact .inr h
  have hrow2 : ∀ r ∈ rows, H2 r.t = some (.tup [.ref r.π, r.v]) ∧ H2 r.π = some (.tup (r.ks.map V.int)) := fun r m => ⟨eN _ _ (hrow r m).1 (fun ps z => by cases z), eN _ _ (hrow r m).2 (fun ps z => by cases z)⟩
  obtain ⟨its, rv, pl, hz⟩ := I2.list hl2
  obtain ⟨m, hm0⟩ := I2.loc
  have hns := hm0.1
  have F0 : Fr X.base X.env.locals s2.heap m := ⟨hns, I2.bk, Nat.le_trans I2.ok.bsz I2.ok.above⟩
  have len : its.length = rows.length := by rw [← rv.length, List.length_map]
  have fL : f ≠ X.env.locals := fun z => by
    obtain ⟨o, es, ep, e1, e2, _⟩ := hns
    rw [z, e1] at hf
    cases hf
    cases e2
  refine PySem.W.sorted_key_data_frame (β := LRow) (R := fun v r => v = .ref r.t ∧ r ∈ rows) (b := false) keyOf F0 others_news pl.isList (each_rows (H := H2) rv fun r h => h) (key_alike rows) (key_sorts rows) (by rw [List.length_map] at hz; exact hz) (fun r _ => by have := key_depth r; omega)
    (ksk_s1 _ _) (fun z => ksk_l1 _ _) (fun z => ksk_t1 _ _) (fun v r hv hm1 h tk own F N => ?_) fun D out cc h' tk F' N' hD lo eo => ?_
  · obtain ⟨ev2, _⟩ := hv
    subst ev2
    have kb := kept_but I2 F fun p hp => (N p (List.mem_append_left _ hp)).1
    have J : L2.Inv X pins σ H2 { s2 with heap := h, toks := tk } := inv_but I2 hns F.ns kb
    obtain ⟨ht, hπ⟩ := hrow2 r hm1
    obtain ⟨ii, ri, it, iz⟩ := J.tuple (.inl (.inl ht))
    obtain ⟨fi, rf, ft, fz⟩ := J.tuple (.inl (.inl hπ))
    obtain ⟨⟨oc, vs', tok, hoc, hdc, hvc⟩, _, _⟩ := J.hok c' _ hc
    obtain ⟨mb, b1, b2⟩ := J.mod.blt
    have il : ii.toArray.size ≤ sizeLine := by rw [List.size_toArray, ← ri.length]; exact iz
    have fl : fi.length = r.ks.length := by rw [← rf.length, List.length_map]
    have fl2 : fi.toArray.size ≤ sizeLine := by rw [List.size_toArray, ← rf.length]; exact fz
    have πL : r.π ≠ X.env.locals := fun z => by rw [z, J.free] at hπ; cases hπ
    have πb : X.base.get? r.π = none := by
      cases z : X.base.get? r.π with
      | none => rfl
      | some o => rw [(J.env0.bs _ o z).2] at hπ; cases hπ
    obtain ⟨oπ, eπ, cπ, nπ, dπ⟩ := id ft
    cases ri with
    | cons i1 i2 =>
    cases i1
    refine len_call (s := { s2 with heap := h, toks := tk }) (A := X.A.in1.in1) (π := r.π) ex S dep (kb f _ fL hf) ⟨c', oc, vs', tok, rfl, hoc, hdc, hvc⟩ J.nolimit (J.mod.glob.keeps J.bk) m2 (b1.keeps J.bk) ((b2 "len" (by decide)).trans boot_len) it rfl il ft fl2 fun h2 tk2 T2 u hT2 kp2 oT2 => ?_
    rw [List.size_toArray, fl] at oT2
    refine ⟨h2, tk2, [(T2, { cls := .type "tuple", data := .seq #[.int (r.ks.length : Nat) u, .ref r.π] }), (r.π, oπ)], rfl, fun hh hb hmo => ?_, fun z hz => ?_, F.kept kp2, fun z hz => ?_⟩
    · have e1 := hmo _ List.mem_cons_self
      have e2 := hmo (r.π, oπ) (List.mem_cons_of_mem _ List.mem_cons_self)
      obtain ⟨as, ra⟩ := reads_intsA (h := hh) rf
      exact ⟨_, Reads.tuple e1 rfl rfl (.cons (.int _ _) (.cons (Reads.tuple e2 cπ dπ ra) .nil))⟩
    · rcases List.mem_cons.mp hz with e | hz
      · rw [e]
      · rw [List.mem_singleton.mp hz]
        exact cπ
    · rcases List.mem_append.mp hz with hz | hz
      · have y := N z hz
        exact ⟨kp2 _ _ y.1, y.2⟩
      · rcases List.mem_cons.mp hz with e | hz
        · rw [e]
          have lt : X.env.locals < T2 := Nat.lt_of_lt_of_le F.ns.lt hT2
          exact ⟨oT2, Nat.ne_of_gt lt, Heap.get?_none_of_le (Nat.le_trans F.above (Nat.le_of_lt lt))⟩
        · rw [List.mem_singleton.mp hz]
          exact ⟨kp2 _ _ eπ, πL, πb⟩
  · have kb := kept_but I2 F' fun p hp => (N' p (List.mem_cons_of_mem _ hp)).1
    obtain ⟨oD, nDL, nDb⟩ := N' _ List.mem_cons_self
    have old : ∀ b o, s2.heap.get? b = some o → b ≠ D := fun b o e z => by
      rw [z] at e
      exact Nat.lt_irrefl _ (hD _ (others_in e nDL nDb))
    have nD : H2 D = none := by
      cases z : H2 D with
      | none => rfl
      | some u =>
        obtain ⟨o, e⟩ := got (I2.hok D u z)
        exact absurd rfl (old _ _ e)
    have ne : ∀ b u, H2 b = some u → b ≠ D := fun b u e z => by rw [z, nD] at e; cases e
    have nL : ∀ b u, H2 b = some u → b ≠ X.env.locals := fun b u e z => by rw [z, I2.free] at e; cases e
    have up : ∀ b u, H2 b = some u → upd H2 D (.lst ((rows.mergeSort leRow).map fun r => V.ref r.t)) b = some u := fun b u e => by rw [upd_ne (ne b u e)]; exact e
    have lm : ((rows.mergeSort leRow).map fun r => V.ref r.t).length ≤ sizeLine := by
      rw [List.length_map, List.length_mergeSort, ← len, ← rv.length]
      exact hz
    refine ⟨.ref D, _, I2.step (H' := upd H2 D (.lst ((rows.mergeSort leRow).map fun r => V.ref r.t))) (g' := s2.gens) (t' := tk) (d' := s2.drawn) (ch := []) (fun b hb => by cases hb) (fun b o n _ _ e _ => kb b o n e) (fun b o n _ _ e _ => ⟨o.slots, kb b o n e⟩) (fun b o _ e n => ?_) (fun b o _ e => ?_) (fun b xs e => up b _ e) (fun b o u e => up b _ e)
      (fun b ps e => ⟨#[], by rw [up b _ e]; simp⟩) (fun m2 h2 => by rw [ns_same h2 hns]; exact F'.ns) (fun b u e => ?_) I2.bare, rfl, hq D H2 eN T2 nD⟩
    · rw [upd_ne (old b o e)]
      exact n
    · by_cases n : b = X.env.locals
      · obtain ⟨o', _, _, e2, _⟩ := F'.ns
        exact ⟨o', by rw [n]; exact e2⟩
      · exact ⟨o, kb b o n e⟩
    · by_cases hb : b = D
      · rw [hb, upd_same] at e
        cases e
        rw [hb]
        exact ⟨lm, out, cc, out_rows eo, oD⟩
      · rw [upd_ne hb] at e
        refine (I2.hok b u e).stay (fun c v hc q => kb c v ?_ q) (fun c q => up c _ q) fun c xs q => up c _ q
        rcases hc with z | z
        · rw [z]
          exact nL b u e
        · exact nL c _ z
end Rf
/-! Rf1j: sorted(rows, key=f), f a def of the top that tells (len(row[0]), row[0]). -/
namespace Rf
open PySem PySem.Spec PyProof.Rows L2
/-- a def of the top that tells the key of a row -/
structure KeyF (K : Frag) (mg : Str → Option Value) (f : Addr) : Prop where
  ex : ∃ (x nm qual : Str) (prs : Arguments) (p1 p2 p3 p4 p5 p6 p7 p8 p9 pr : Pos) (k1 k2 k3 : Nat) (sc : Scope) (fd : FuncData), FunD K nm qual prs [.Return (some (lenBody x p1 p2 p3 p4 p5 p6 p7 p8 p9 k1 k2 k3)) pr] sc [] [] f fd ∧ Binds K fd [x] [] ∧ LenScope x sc ∧ mg "len" = none
section
variable {prog : Program} {w : World} {A : Around} {E : Value → Shared → Prop} {s : Shared} {f t π : Addr} {x nm qual : Str} {prs : Arguments} {p1 p2 p3 p4 p5 p6 p7 p8 p9 pr : Pos} {k1 k2 k3 : Nat} {scope : Scope} {mg mb : Str → Option Value} {items fs : Array Value} {fd : FuncData} {o : Obj} {dV kV doc pm cdv ct : Value} {an : Option Addr}
theorem key_call {Q : Value → Shared → Prop} (S : LenScope x scope) (dep : A.depth < recursionLimit) (efd : fd = PySem.W.fnOf nm qual prs [.Return (some (lenBody x p1 p2 p3 p4 p5 p6 p7 p8 p9 k1 k2 k3)) pr] scope dV kV doc pm an cdv ct) (hf : s.heap.get? f = some o) (hfd : o.data = .func fd)
    (bind : BindsTo s fd ⟨[.ref t], []⟩ [(x, .ref t)]) (rec : s.heap.CodeRec fd.code fd.qualname) (lim : s.heap.NoLimit) (hg : s.heap.Ns mainGlobals mg) (hl : mg "len" = none) (hb : s.heap.Ns builtinsNs mb) (hbl : mb "len" = some (.builtin "len"))
    (ht : IsTup s.heap t items) (h0 : items[0]? = some (.ref π)) (hi : items.size ≤ sizeLine) (hπ : IsTup s.heap π fs) (hz : fs.size ≤ sizeLine)
    (h : ∀ (h' : Heap) (tk : Nat) (T : Addr) (u : Tok), s.heap.objs.size ≤ T → (∀ b o, s.heap.get? b = some o → h'.get? b = some o) → h'.get? T = some { cls := .type "tuple", data := .seq #[.int fs.size u, .ref π] } → Q (.ref T) { s with heap := h', toks := tk }) :
    wpAny (model prog w) A (call (.ref f) [.ref t]) Q E s := by
  have big : (sizeLine : Int) < 2 ^ 63 := by decide
  refine wpAny_call (codeAny_mono (R := fun r s2 => ∃ u, r = .ok (.ret u) ∧ Q u s2) ?_ fun r s2 ⟨u, er, z⟩ => by rw [er]; exact z)
  subst efd
  refine codeAny_call_def dep hf hfd lim rec rfl bind S.names (fun y hy => ?_) (fun h₁ hns kp => ?_) S.co S.gen S.kind
  · rw [List.mem_singleton.mp hy]
    exact S.par
  have gro : s.heap.objs.size ≤ h₁.objs.size := Nat.le_of_lt hns.lt
  have tup : ∀ {a : Addr} {xs : Array Value}, IsTup s.heap a xs → IsTup h₁ a xs := fun {a xs} ⟨o, e, r⟩ => ⟨o, kp _ _ e, r⟩
  have ht1 := tup ht
  have hπ1 := tup hπ
  have g1 : h₁.Ns mainGlobals mg := let ⟨o, es, ep, e, r⟩ := hg; ⟨o, es, ep, kp _ _ e, r⟩
  have b1 : h₁.Ns builtinsNs mb := let ⟨o, es, ep, e, r⟩ := hb; ⟨o, es, ep, kp _ _ e, r⟩
  refine wpAny_execs_cons (wpAny_Return_some ?_)
  have item : ∀ {A' : Around} {E' : Value → Shared → Prop} {Q' : Value → Shared → Prop} (tk : Nat) (pa pb pc : Pos) (kk : Nat), (∀ tk', Q' (.ref π) { s with heap := h₁, toks := tk' }) →
      wpAny (model prog w) A' (eval (.Subscript (.Name x pa) (.Constant (.int 0) kk pb) pc) (callEnv (PySem.W.fnOf nm qual prs [.Return (some (lenBody x p1 p2 p3 p4 p5 p6 p7 p8 p9 k1 k2 k3)) pr] scope dV kV doc pm an cdv ct) s.heap.objs.size f)) Q' E' { s with heap := h₁, toks := tk } := fun {A' E' Q'} tk pa pb pc kk hq => by
    refine Subscript_ (wpAny_Name (wpAny_loadName_local (v := .ref t) S.kind S.par hns ?_ ?_) S.db)
    · show [(x, Value.ref t)].reverse.lookup x = _
      simp
    refine wpAny_Constant_int ?_
    exact subscriptTail_builtinR (x := .ref π) (let ⟨o, e, c, _⟩ := ht1; ⟨o, e, c⟩) slot_tuple_getitem.lookup (getItem_tuple (j := 0) (Q := fun r s' => r = .ref π ∧ Q' r s') (s := { s with heap := h₁, toks := tk + 1 }) ht1 (by decide) (by decide)
      (by
        have : 0 < items.size := by
          cases z : items.size with
          | zero => rw [Array.getElem?_eq_none (by omega)] at h0; cases h0
          | succ n => omega
        unfold seqIndex?
        simp [this]) h0 ⟨rfl, hq _⟩)
  refine wpAny_Tuple_spliced (Calls.spliced_cons (wpAny_Call_Name_kw (Calls.Name_function_global (by exact S.kind) S.len (Calls.loadGlobal_builtin g1 hl b1 hbl ?_))))
  refine PyProof.Rows.callWith_builtin1 (Calls.spliced_cons (item _ _ _ _ _ fun tk' => Calls.spliced_nil ?_))
  refine len_tuple (s := { s with heap := h₁, toks := tk' }) hπ1 (by omega) ?_
  refine Calls.spliced_cons (item _ _ _ _ _ fun tk2 => Calls.spliced_nil ⟨by show 2 ≤ sizeLine; decide, _, rfl, ?_⟩)
  exact h _ _ _ _ gro (fun b o e => Heap.get?_push_of_some _ (kp b o e)) (Heap.get?_push_size _ rfl)
end
/-- what sorted(rows, key=f) asks -/
def tSortKey (Kf : Addr → Prop) (K : Frag) (te tf : TE) : TE := fun σ H Q => te σ H fun x H1 => tf σ H1 fun y H2 => ∃ (a f : Addr) (rows : List LRow), x = .ref a ∧ y = .ref f ∧ Kf f ∧ SqL K H2 a (rows.map fun r => V.ref r.t) ∧
  (∀ r ∈ rows, H2 r.t = some (.tup [.ref r.π, r.v]) ∧ H2 r.π = some (.tup (r.ks.map V.int))) ∧ ∀ p, H2 p = none → Q (.ref p) (upd H2 p (.lst ((rows.mergeSort leRow).map fun r => V.ref r.t)))
theorem pe_sortKey {X : Cx} {Kf : Addr → Prop} {e e2 : Expr} {te tf : TE} {q1 p kp : Pos} {k : Nat} (hr : Room k X.A) (g1 : Gl X "sorted") (m1 : X.mg "sorted" = none) (hKf : ∀ f, Kf f → KeyF X.K X.mg f)
    (he : PE X e te) (hs : starEach [e] X.env = [(false, eval e X.env)]) (h2 : PE X e2 tf) :
    PE X (.Call (.Name "sorted" q1) [e] [⟨some "key", e2, kp⟩] p) (tSortKey Kf X.K te tf) := by
  constructor
  intro pins s σ H Q I goal
  have dep : X.A.depth < recursionLimit := by have := hr.dp; omega
  have un := hr.un
  refine wpAny_Call_Name_kw (ld_blt I g1 m1 boot_sorted ?_)
  suffices key : ∀ (v : Value) (s1 : Shared), EP X pins σ (fun x H1 => tf σ H1 fun y H2 => ∃ (a f : Addr) (rows : List LRow), x = .ref a ∧ y = .ref f ∧ Kf f ∧ SqL X.K H2 a (rows.map fun r => V.ref r.t) ∧
  (∀ r ∈ rows, H2 r.t = some (.tup [.ref r.π, r.v]) ∧ H2 r.π = some (.tup (r.ks.map V.int))) ∧ ∀ p, H2 p = none → Q (.ref p) (upd H2 p (.lst ((rows.mergeSort leRow).map fun r => V.ref r.t)))) v s1 →
      wpAny (model X.prog X.w) X.A (evalAll [(do let v ← eval e2 X.env; standAt p; pure v)]) (fun kvs s2 => wpAny (model X.prog X.w) X.A (call (.builtin "sorted") [v] ([Str.ofString "key"].zip kvs)) (EP X pins σ Q) X.xe s2) X.xe s1 by
    refine PyProof.Rows.callWith_kw ?_ (by rw [hs]; rfl) (by rw [hs]; rfl)
    rw [hs]
    refine Calls.spliced_cons (thn (he.run pins s σ H _ I goal) fun v s1 hv => Calls.spliced_nil ?_)
    exact key v s1 hv
  intro v s1 hv
  obtain ⟨y, H1, I1, r1, q1⟩ := hv
  refine wpAny_evalAll_cons (wpAny_bind (thn (h2.run pins s1 σ H1 _ I1 q1) fun v2 s2 hv2 => ?_))
  obtain ⟨z, H2, I2, r2, a, f, rows, e1, ez, hkf, hl2, hrow2, hq⟩ := hv2
  subst e1 ez
  cases r1
  cases r2
  obtain ⟨x, nm, qual, prs, p1, p2, p3, p4, p5, p6, p7, p8, p9, pr, k1, k2, k3, sc, fd, FD, bd, S, ml⟩ := (hKf f hkf).ex
  obtain ⟨oc, od, dV, kV, doc, pm, an, cdv, ct, osl, efd, lk, hcd, _, _⟩ := FD.ex
  refine wpAny_bind (wpAny_standAt (wpAny_pure ?_))
  refine wpAny_pure ?_
  show wpAny _ _ (call (.builtin "sorted") [.ref a] [(Str.ofString "key", .ref f)]) _ _ s2
  obtain ⟨its, rv, pl, hz⟩ := I2.list hl2
  obtain ⟨m, hm0⟩ := I2.loc
  have hns := hm0.1
  have F0 : Fr X.base X.env.locals s2.heap m := ⟨hns, I2.bk, Nat.le_trans I2.ok.bsz I2.ok.above⟩
  have len : its.length = rows.length := by rw [← rv.length, List.length_map]
  refine PySem.W.sorted_key_data_frame (β := LRow) (R := fun v r => v = .ref r.t ∧ r ∈ rows) (b := false) keyOf F0 others_news pl.isList (each_rows (H := H2) rv fun r h => h) (key_alike rows) (key_sorts rows) (by rw [List.length_map] at hz; exact hz) (fun r _ => by have := key_depth r; omega)
    (ksk_s1 _ _) (fun z => ksk_l1 _ _) (fun z => ksk_t1 _ _) (fun v r hv hm1 h tk own F N => ?_) fun D out cc h' tk F' N' hD lo eo => ?_
  · obtain ⟨ev2, _⟩ := hv
    subst ev2
    have kb := kept_but I2 F fun p hp => (N p (List.mem_append_left _ hp)).1
    have J : L2.Inv X pins σ H2 { s2 with heap := h, toks := tk } := inv_but I2 hns F.ns kb
    obtain ⟨ht, hπ⟩ := hrow2 r hm1
    obtain ⟨ii, ri, it, iz⟩ := J.tuple (.inl (.inl ht))
    obtain ⟨fi, rf, ft, fz⟩ := J.tuple (.inl (.inl hπ))
    obtain ⟨mb, b1, b2⟩ := J.mod.blt
    have kin : X.K.In h := J.mod.kin.keeps J.bk
    have il : ii.toArray.size ≤ sizeLine := by rw [List.size_toArray, ← ri.length]; exact iz
    have fl : fi.length = r.ks.length := by rw [← rf.length, List.length_map]
    have fl2 : fi.toArray.size ≤ sizeLine := by rw [List.size_toArray, ← rf.length]; exact fz
    have πL : r.π ≠ X.env.locals := fun z => by rw [z, J.free] at hπ; cases hπ
    have πb : X.base.get? r.π = none := by
      cases z : X.base.get? r.π with
      | none => rfl
      | some o => rw [(J.env0.bs _ o z).2] at hπ; cases hπ
    obtain ⟨oπ, eπ, cπ, nπ, dπ⟩ := id ft
    cases ri with
    | cons i1 i2 =>
    cases i1
    refine key_call (s := { s2 with heap := h, toks := tk }) (A := X.A.in1.in1) (π := r.π) S dep efd (kin _ _ lk) rfl (bd _ [.ref r.t] kin rfl) (by rw [efd]; exact PySem.W.codeRec_of kin hcd) J.nolimit (J.mod.glob.keeps J.bk) ml (b1.keeps J.bk) ((b2 "len" (by decide)).trans boot_len) it rfl il ft fl2 fun h2 tk2 T2 u hT2 kp2 oT2 => ?_
    rw [List.size_toArray, fl] at oT2
    refine ⟨h2, tk2, [(T2, { cls := .type "tuple", data := .seq #[.int (r.ks.length : Nat) u, .ref r.π] }), (r.π, oπ)], rfl, fun hh hb hmo => ?_, fun z hz => ?_, F.kept kp2, fun z hz => ?_⟩
    · have e1 := hmo _ List.mem_cons_self
      have e2 := hmo (r.π, oπ) (List.mem_cons_of_mem _ List.mem_cons_self)
      obtain ⟨as, ra⟩ := reads_intsA (h := hh) rf
      exact ⟨_, Reads.tuple e1 rfl rfl (.cons (.int _ _) (.cons (Reads.tuple e2 cπ dπ ra) .nil))⟩
    · rcases List.mem_cons.mp hz with e | hz
      · rw [e]
      · rw [List.mem_singleton.mp hz]
        exact cπ
    · rcases List.mem_append.mp hz with hz | hz
      · have y := N z hz
        exact ⟨kp2 _ _ y.1, y.2⟩
      · rcases List.mem_cons.mp hz with e | hz
        · rw [e]
          have lt : X.env.locals < T2 := Nat.lt_of_lt_of_le F.ns.lt hT2
          exact ⟨oT2, Nat.ne_of_gt lt, Heap.get?_none_of_le (Nat.le_trans F.above (Nat.le_of_lt lt))⟩
        · rw [List.mem_singleton.mp hz]
          exact ⟨kp2 _ _ eπ, πL, πb⟩
  · have kb := kept_but I2 F' fun p hp => (N' p (List.mem_cons_of_mem _ hp)).1
    obtain ⟨oD, nDL, nDb⟩ := N' _ List.mem_cons_self
    have old : ∀ b o, s2.heap.get? b = some o → b ≠ D := fun b o e z => by
      rw [z] at e
      exact Nat.lt_irrefl _ (hD _ (others_in e nDL nDb))
    have nD : H2 D = none := by
      cases z : H2 D with
      | none => rfl
      | some u =>
        obtain ⟨o, e⟩ := got (I2.hok D u z)
        exact absurd rfl (old _ _ e)
    have ne : ∀ b u, H2 b = some u → b ≠ D := fun b u e z => by rw [z, nD] at e; cases e
    have nL : ∀ b u, H2 b = some u → b ≠ X.env.locals := fun b u e z => by rw [z, I2.free] at e; cases e
    have up : ∀ b u, H2 b = some u → upd H2 D (.lst ((rows.mergeSort leRow).map fun r => V.ref r.t)) b = some u := fun b u e => by rw [upd_ne (ne b u e)]; exact e
    have lm : ((rows.mergeSort leRow).map fun r => V.ref r.t).length ≤ sizeLine := by
      rw [List.length_map, List.length_mergeSort, ← len, ← rv.length]
      exact hz
    refine ⟨.ref D, _, I2.step (H' := upd H2 D (.lst ((rows.mergeSort leRow).map fun r => V.ref r.t))) (g' := s2.gens) (t' := tk) (d' := s2.drawn) (ch := []) (fun b hb => by cases hb) (fun b o n _ _ e _ => kb b o n e) (fun b o n _ _ e _ => ⟨o.slots, kb b o n e⟩) (fun b o _ e n => ?_) (fun b o _ e => ?_) (fun b xs e => up b _ e) (fun b o u e => up b _ e)
      (fun b ps e => ⟨#[], by rw [up b _ e]; simp⟩) (fun m2 h2 => by rw [ns_same h2 hns]; exact F'.ns) (fun b u e => ?_) I2.bare, rfl, hq D nD⟩
    · rw [upd_ne (old b o e)]
      exact n
    · by_cases n : b = X.env.locals
      · obtain ⟨o', _, _, e2, _⟩ := F'.ns
        exact ⟨o', by rw [n]; exact e2⟩
      · exact ⟨o, kb b o n e⟩
    · by_cases hb : b = D
      · rw [hb, upd_same] at e
        cases e
        rw [hb]
        exact ⟨lm, out, cc, out_rows eo, oD⟩
      · rw [upd_ne hb] at e
        refine (I2.hok b u e).stay (fun c v hc q => kb c v ?_ q) (fun c q => up c _ q) fun c xs q => up c _ q
        rcases hc with z | z
        · rw [z]
          exact nL b u e
        · exact nL c _ z
end Rf
namespace Rf
open PySem PySem.Spec PyProof.Rows L2

/-! ### the program's defs, as the walk knows them -/
structure FnE where
  f : Addr
  fd : FuncData
  ps : List Str
  sp : Sp
  k : Nat
  dvs : List V
  ds : List Value
  /-- other calls: so many values, these keywords, how they come in the parameters' order -/
  kb : List (Nat × List Str × (List V → List V → List V))
  /-- it asks that no repr is under way -/
  gd : Bool := false
/-- a def, run where nothing is being shown if g -/
structure FnOkG (g : Bool) (P : Program) (w : World) (K : Frag) (mg : Str → Option Value) (base : Heap) (CX : CXT) (k : Nat) (f : Addr) (fd : FuncData) (ps : List Str) (sp : Sp) : Prop where
  len : ∀ vs H Q E, sp vs H Q E → vs.length = ps.length
  run : ∀ (A : Around) (o : List Env) (s : Shared) (H : Hp) (as : Args) (us : List Value) (vs : List V) (Q : VK) (E : XK), (g = true → A.guards = some []) → Room k A → Env0 P w K mg base A o s H → BindsTo s fd as (ps.zip us) → Vals vs us → sp vs H Q E → codeAny (model P w) A (.call (.ref f) as) (CR CX o P w H s Q E) s
theorem _root_.L2.FnOk.g {P : Program} {w : World} {K : Frag} {mg : Str → Option Value} {base : Heap} {CX : CXT} {k : Nat} {f : Addr} {fd : FuncData} {ps : List Str} {sp : Sp} (g : Bool) (F : FnOk P w K mg base CX k f fd ps sp) : FnOkG g P w K mg base CX k f fd ps sp :=
  ⟨F.len, fun A o s H as us vs Q E _ => F.run A o s H as us vs Q E⟩
/-- of a def that is called by its name -/
structure FnOkEG (P : Program) (w : World) (K : Frag) (mg : Str → Option Value) (base : Heap) (e : FnE) : Prop where
  ok : FnOkG e.gd P w K mg base (L2.CX P w) e.k e.f e.fd e.ps e.sp
  kp : PySem.W.keepIn K (.ref e.f) = true
  bd : ∀ j, Binds K e.fd e.ps (e.ds.drop j)
  vd : Vals e.dvs e.ds
  kb : ∀ q ∈ e.kb, ∃ g, KBn K e.fd e.ps q.1 q.2.1 g q.2.2
structure FnOkE (P : Program) (w : World) (K : Frag) (mg : Str → Option Value) (base : Heap) (e : FnE) : Prop where
  ok : FnOk P w K mg base (L2.CX P w) e.k e.f e.fd e.ps e.sp
  kp : PySem.W.keepIn K (.ref e.f) = true
  bd : ∀ j, Binds K e.fd e.ps (e.ds.drop j)
  vd : Vals e.dvs e.ds
  kb : ∀ q ∈ e.kb, ∃ g, KBn K e.fd e.ps q.1 q.2.1 g q.2.2
theorem FnOkE.g {P : Program} {w : World} {K : Frag} {mg : Str → Option Value} {base : Heap} {e : FnE} (h : FnOkE P w K mg base e) : FnOkEG P w K mg base e := ⟨h.ok.g e.gd, h.kp, h.bd, h.vd, h.kb⟩
theorem Vals.dropV : ∀ {xs : List V} {us : List Value} (n : Nat), Vals xs us → Vals (xs.drop n) (us.drop n) := fun n h => Vals.drop n h
/-- what is known: functions by name, values by name, classes that are called, attributes, methods, own == -/
structure Gam where
  fn : List (Str × FnE)
  glo : List (Str × V)
  cl : List (Str × Addr × FnE)
  att : Addr → Str → Prop
  mt : Addr → Str → FnE → Prop
  eq : Addr → FnE → Prop
  exc : List (Str × Addr)
  /-- tables of code objects, and what their code objects are named -/
  tb : List (Addr × Str)
  /-- defs that call the lambda that they get -/
  lam : List (Str × ((XK → Hp → VK → Prop) → Hp → VK → Prop))
  /-- own __repr__ -/
  rp : Addr → FnE → Prop := fun _ _ => False
  /-- defs that tell the key of a row -/
  kf : Addr → Prop := fun _ => False
/-- the names alone -/
structure Nms where
  fn : List Str
  glo : List Str
  cl : List Str
  blt : List Str
  exc : List Str
  lam : List Str
  /-- where lambdas may be made: the prefix of their names -/
  lq : Option Str
  /-- nothing is being shown here -/
  gd : Bool := false
  /-- the defs that ask that nothing is being shown -/
  fng : List Bool := []
/-- an own exception class without __init__ -/
structure ExcF (K : Frag) (mg : Str → Option Value) (x : Str) (C : Addr) : Prop where
  gC : mg x = some (.ref C)
  kC : PySem.W.keepIn K (.ref C) = true
  bC : PySem.W.subIn K (.ref C) (.type "BaseException") = some true
  tC : PySem.W.typeIn K (.ref C) = some (.type "type")
  fC : ∃ (B newId initId : String) (bmB : List Value), ExcBaseFacts B newId initId bmB ∧ PySem.W.excIn K C bmB newId = true
/-- x(lambda: ..), for a def x that calls it: TT is what x makes of the lambda's reading -/
def LamOk (P : Program) (w : World) (K : Frag) (mg : Str → Option Value) (base : Heap) (k : Nat) (x : Str) (TT : (XK → Hp → VK → Prop) → Hp → VK → Prop) : Prop :=
  ∀ (X : Cx), X.prog = P → X.w = w → X.K = K → X.mg = mg → X.base = base → ∀ (T : List (Addr × Str)) (c tb : Addr) (body : Expr) (scope : Scope) (t : XK → TE) (p lpos pos : Pos), Gl X x → LamX.TabB X.base X.mg c tb → X.env.code = .ref c → (tb, X.env.qual ++ "<lambda>") ∈ T →
    (∀ p ∈ T, p.1 = tb → p.2 = X.env.qual ++ "<lambda>") → Room (k + 2) X.A → LamX.LamS X.env.scope scope →
    (∀ (A : Around) (outer : List Env) (s : Shared) (H : Hp) (E : XK) (f c' : Addr), Room k (A.deeper (LamX.lamEnv X scope s.heap.objs.size f c')) → PE (LamX.lamCx X A outer s H E scope f c') body (t E)) →
    PE X (.Call (.Name x p) [.Lambda ⟨[], [], none, [], [], none, []⟩ body scope lpos] [] pos) (LamX.tLam T TT t)
structure GamOk (Γ : Gam) (n : Nms) (k : Nat) (P : Program) (w : World) (K : Frag) (mg : Str → Option Value) (base : Heap) : Prop where
  fnN : Γ.fn.map (·.1) = n.fn
  gloN : Γ.glo.map (·.1) = n.glo
  clN : Γ.cl.map (·.1) = n.cl
  fn : ∀ x e, (x, e) ∈ Γ.fn → FnOkEG P w K mg base e ∧ e.k ≤ k ∧ mg x = some (.ref e.f)
  glo : ∀ x v, (x, v) ∈ Γ.glo → ∃ u, RelV v u ∧ (mg x = some u ∨ (mg x = none ∧ bootBuiltins x = some u ∧ x ≠ "__name__"))
  cl : ∀ x C e, (x, C, e) ∈ Γ.cl → FnOkE P w K mg base e ∧ e.k + 1 ≤ k ∧ Mk K C e.f ∧ mg x = some (.ref C)
  att : ∀ C f, Γ.att C f → Cls K C ∧ NoAttr K C f
  mt : ∀ C m e, Γ.mt C m e → FnOkE P w K mg base e ∧ e.k ≤ k ∧ Cls K C ∧ Meth K C m e.f
  eq : ∀ C e, Γ.eq C e → FnOkE P w K mg base e ∧ e.k + 1 ≤ k ∧ PySem.W.findIn K (.ref C) "__eq__" = some (some (.ref e.f)) ∧ PySem.W.isFn K (.ref e.f) = true ∧ PySem.W.findIn K (.ref C) "__ne__" = some (some (.builtin "object.__ne__")) ∧ PySem.W.subIn K (.ref C) (.type "object") = some true
  blt : ∀ x ∈ n.blt, mg x = none
  lamN : Γ.lam.map (·.1) = n.lam
  lam : ∀ x TT, (x, TT) ∈ Γ.lam → LamOk P w K mg base k x TT
  excN : Γ.exc.map (·.1) = n.exc
  exc : ∀ x C, (x, C) ∈ Γ.exc → ExcF K mg x C
  rp : ∀ C e, Γ.rp C e → FnOkE P w K mg base e ∧ e.k + 1 ≤ k ∧ PySem.W.findIn K (.ref C) "__repr__" = some (some (.ref e.f)) ∧ PySem.W.isFn K (.ref e.f) = true
  gd : ∀ (i : Nat) (x : Str) (e : FnE), Γ.fn[i]? = some (x, e) → e.gd = true → n.fng.getD i false = true
  kf : ∀ f, Γ.kf f → KeyF K mg f

theorem GamOk.noLq {Γ : Gam} {n : Nms} {k : Nat} {P : Program} {w : World} {K : Frag} {mg : Str → Option Value} {base : Heap} {q : Option Str} (h : GamOk Γ n k P w K mg base) : GamOk Γ { n with lq := q, gd := false } k P w K mg base :=
  ⟨h.fnN, h.gloN, h.clN, h.fn, h.glo, h.cl, h.att, h.mt, h.eq, h.blt, h.lamN, h.lam, h.excN, h.exc, h.rp, h.gd, h.kf⟩
/-! ### built-in functions and types, called by their names -/
inductive BF where
  | isinstance | len | abs | max2 | min2 | int | str | list | tuple | sum | all | any | sorted | maxl | minl
  deriving DecidableEq
def BF.name : BF → Str
  | .isinstance => "isinstance" | .len => "len" | .abs => "abs" | .max2 => "max" | .min2 => "min" | .int => "int" | .str => "str" | .list => "list" | .tuple => "tuple" | .sum => "sum" | .all => "all" | .any => "any" | .sorted => "sorted" | .maxl => "max" | .minl => "min"
def BF.val : BF → Value
  | .isinstance => .builtin "isinstance" | .len => .builtin "len" | .abs => .builtin "abs" | .max2 => .builtin "max" | .min2 => .builtin "min" | .int => .type "int" | .str => .type "str" | .list => .type "list" | .tuple => .type "tuple"
  | .sum => .builtin "sum" | .all => .builtin "all" | .any => .builtin "any" | .sorted => .builtin "sorted" | .maxl => .builtin "max" | .minl => .builtin "min"
theorem BF.boot (b : BF) : bootBuiltins b.name = some b.val := by cases b <;> decide +kernel
/-- built-in functions called with one keyword -/
inductive BK where
  | max0
  deriving DecidableEq
def BK.name : BK → Str
  | .max0 => "max"
def BK.kw : BK → Str
  | .max0 => "default"
def BK.val : BK → String
  | .max0 => "max"
theorem BK.boot (b : BK) : bootBuiltins b.name = some (.builtin b.val) := by cases b; decide +kernel
/-- max(whole numbers, default=d) -/
def rMax0 (K : Frag) : List V → List V → Hp → VK → Prop := fun xs zs H Q => ∃ (a : Addr) (ns : List Int) (d : Int), xs = [.ref a] ∧ zs = [.int d] ∧ SqL K H a (ns.map V.int) ∧ ∀ m, (ns = [] → m = d) → (ns ≠ [] → m ∈ ns ∧ ∀ y ∈ ns, y ≤ m) → Q (.int m) H
def BK.r (K : Frag) : BK → List V → List V → Hp → VK → Prop
  | .max0 => rMax0 K
theorem reads_ints (h : Heap) : ∀ {us : List Value} {ns : List Int}, Vals (ns.map V.int) us → ∃ as, ReadsAll h us (ns.map PyData.int) as
  | _, [], .nil => ⟨_, .nil⟩
  | _, n :: ns, .cons r v => by
    obtain ⟨t, rfl⟩ := r
    obtain ⟨as, q⟩ := reads_ints h v
    exact ⟨_, .cons (.int n t) q⟩
theorem fold_max : ∀ (ns : List Int) (n : Int), ns.foldl max n ∈ n :: ns ∧ ∀ y ∈ n :: ns, y ≤ ns.foldl max n
  | [], n => ⟨List.mem_cons_self, fun y hy => by rw [List.mem_singleton.mp hy]; exact Int.le_refl _⟩
  | k :: ns, n => by
    obtain ⟨h1, h2⟩ := fold_max ns (max n k)
    refine ⟨?_, fun y hy => ?_⟩
    · rw [List.foldl_cons]
      rcases List.mem_cons.mp h1 with e | e
      · rw [e]
        by_cases c : n ≤ k
        · rw [Int.max_eq_right c]
          exact List.mem_cons_of_mem _ List.mem_cons_self
        · rw [Int.max_eq_left (by omega)]
          exact List.mem_cons_self
      · exact List.mem_cons_of_mem _ (List.mem_cons_of_mem _ e)
    · rw [List.foldl_cons]
      have hm := h2 (max n k) List.mem_cons_self
      rcases List.mem_cons.mp hy with e | hy
      · rw [e]
        exact Int.le_trans (Int.le_max_left _ _) hm
      · rcases List.mem_cons.mp hy with e | hy
        · rw [e]
          exact Int.le_trans (Int.le_max_right _ _) hm
        · exact h2 y (List.mem_cons_of_mem _ hy)
theorem BK.ok {X : Cx} (hc : X.calm = true) (room : X.A.units + 64 < cLine) (b : BK) : CallRK X (.builtin b.val) [b.kw] (b.r X.K) := by
  cases b with
  | max0 =>
    intro pins s σ H xs zs us ws Q I r1 r2 h
    obtain ⟨a, ns, d, rfl, rfl, hs, q⟩ := h
    obtain ⟨its, rv, hl, _⟩ := I.list hs
    rw [Vals.ref1 r1]
    obtain ⟨w, rfl, rw'⟩ := vals1 r2
    obtain ⟨t, rfl⟩ := rw'
    obtain ⟨as, ra⟩ := reads_ints s.heap rv
    have ha : PySem.W.AlikeAll (ns.map PyData.int) := by
      refine ⟨fun x hx y hy => ?_, fun x hx => ?_⟩
      · obtain ⟨i, _, rfl⟩ := List.mem_map.mp hx
        obtain ⟨j, _, rfl⟩ := List.mem_map.mp hy
        simp [PySem.W.alike]
      · obtain ⟨i, _, rfl⟩ := List.mem_map.mp hx
        exact fun z => by cases z
    refine PySem.W.max_list_default (I.ok.hd hc) hl.isList (by simpa using ra) ha (by rw [PySem.W.ke_depthAll]; omega) (fun e h' tk hk => ?_) (fun y ys i v h' tk bs e hi hr hk => ?_)
    · have e : ns = [] := List.map_eq_nil_iff.mp e
      exact ⟨.int d, H, I.kept hk, ⟨_, rfl⟩, q d (fun _ => rfl) fun z => absurd e z⟩
    · cases ns with
      | nil => cases e
      | cons n ns =>
        rw [List.map_cons] at e
        injection e with e1 e2
        subst e1 e2
        rw [PySem.W.maxD_ints] at hr
        cases hr
        obtain ⟨m1, m2⟩ := fold_max ns n
        exact ⟨.int _, H, I.kept hk, ⟨_, rfl⟩, q _ (fun z => by cases z) fun _ => ⟨m1, m2⟩⟩
def rInt1 (xs : List V) (H : Hp) (Q : VK) : Prop := match xs with
  | [.int i] => Q (.int i) H
  | [.bl b] => Q (.int (if b then 1 else 0)) H
  | _ => False
def rMax2 (xs : List V) (H : Hp) (Q : VK) : Prop := match xs with
  | [.int i, .int j] => Q (.int (if j > i then j else i)) H
  | _ => False
def rMin2 (xs : List V) (H : Hp) (Q : VK) : Prop := match xs with
  | [.int i, .int j] => Q (.int (if j < i then j else i)) H
  | _ => False
def rAbs (xs : List V) (H : Hp) (Q : VK) : Prop := match xs with
  | [.int i] => Q (.int (if i < 0 then -i else i)) H
  | _ => False
def rStr1 (xs : List V) (H : Hp) (Q : VK) : Prop := match xs with
  | [.int i] => i.natAbs.log2 < 1920 ∧ Q (.str (toString i)) H
  | _ => False
def rLen (K : Frag) (xs : List V) (H : Hp) (Q : VK) : Prop := match xs with
  | [x] => ∃ n, LenV K x H n ∧ Q (.int n) H
  | _ => False
def rIsA (K : Frag) (xs : List V) (H : Hp) (Q : VK) : Prop := match xs with
  | .ref a :: r => rIs K (.ref a :: r) H Q ∨ rIsX K (.ref a :: r) H Q
  | xs => rIs K xs H Q
theorem call_isA {X : Cx} : CallR X (.builtin "isinstance") (rIsA X.K) := by
  intro pins s σ H xs us Q I r h
  unfold rIsA at h
  split at h
  · exact h.elim (call_is pins s σ H _ us Q I r) (call_isX pins s σ H _ us Q I r)
  · exact call_is pins s σ H _ us Q I r h
def BF.r (K : Frag) : BF → List V → Hp → VK → Prop
  | .isinstance => rIsA K
  | .len => rLen K
  | .abs => rAbs
  | .max2 => rMax2
  | .min2 => rMin2
  | .int => rInt1
  | .str => rStr1
  | .list => fun xs H Q => ∃ p ys, xs = [.ref p] ∧ (SqL K H p ys ∨ SqT K H p ys) ∧ ∀ l, H l = none → Q (.ref l) (upd H l (.lst ys))
  | .tuple => fun xs H Q => ∃ p ys, xs = [.ref p] ∧ ((SqL K H p ys ∧ ∀ l, H l = none → Q (.ref l) (upd H l (.tup ys))) ∨ (SqT K H p ys ∧ Q (.ref p) H))
  | .sum => rSum K
  | .all => rAll K
  | .any => rAny K
  | .sorted => rSortD K
  | .maxl => rMax K
  | .minl => rMin K
theorem BF.ok {X : Cx} (hc : X.calm = true) (room : X.A.units + 64 < cLine) (b : BF) : CallR X b.val (b.r X.K) := by
  cases b with
  | isinstance => exact call_isA
  | len =>
    refine CallR.imp call_len fun xs H Q h => ?_
    match xs, h with
    | [x], ⟨n, hn, q⟩ => exact ⟨x, n, rfl, hn, q⟩
  | abs =>
    refine CallR.imp call_abs fun xs H Q h => ?_
    match xs, h with
    | [.int i], q => exact ⟨i, rfl, q⟩
  | max2 =>
    refine CallR.imp (call_max2 hc) fun xs H Q h => ?_
    match xs, h with
    | [.int i, .int j], q => exact ⟨i, j, rfl, q⟩
  | min2 =>
    refine CallR.imp (call_min2 hc) fun xs H Q h => ?_
    match xs, h with
    | [.int i, .int j], q => exact ⟨i, j, rfl, q⟩
  | int =>
    refine CallR.imp call_int1 fun xs H Q h => ?_
    match xs, h with
    | [.int i], q => exact .inl ⟨i, rfl, q⟩
    | [.bl b], q => exact .inr ⟨b, rfl, q⟩
  | str =>
    refine CallR.imp call_str_int fun xs H Q h => ?_
    match xs, h with
    | [.int i], q => exact ⟨i, rfl, q.1, q.2⟩
  | list => exact call_list_of
  | tuple => exact call_tuple_of
  | sum => exact cr_sum hc
  | all => exact cr_all hc
  | any => exact cr_any hc
  | sorted => exact call_sortD room
  | maxl => exact cr_max hc
  | minl => exact cr_min hc

/-! ### comparisons -/
theorem dec_int' {i j : Int} : decide (V.int i = V.int j) = decide (i = j) := by simp
theorem dec_str' {i j : Str} : decide (V.str i = V.str j) = decide (i = j) := by simp
theorem dec_bl' {i j : Bool} : decide (V.bl i = V.bl j) = decide (i = j) := by simp
/-- == by an own __eq__ -/
def rOwnEq (Γ : Gam) (K : Frag) : R2 := fun x y H Q => ∃ (a C dx : Addr) (fs : List (Str × V)) (e : FnE) (t : Value), x = .ref a ∧ H a = some (.ins C dx fs) ∧ Γ.eq C e ∧ TyX K H y t ∧ PySem.W.notFirst K C t = true ∧
  e.sp [x, y] H (fun v H' => ∃ b, v = .bl b ∧ Q (.bl b) H') (fun _ _ _ => False)
/-- != by an own __eq__ -/
def rOwnNe (Γ : Gam) (K : Frag) : R2 := fun x y H Q => ∃ (a C dx : Addr) (fs : List (Str × V)) (e : FnE) (t : Value), x = .ref a ∧ H a = some (.ins C dx fs) ∧ Γ.eq C e ∧ TyX K H y t ∧ PySem.W.notFirst K C t = true ∧
  e.sp [x, y] H (fun v H' => ∃ b, v = .bl b ∧ Q (.bl (!b)) H') (fun _ _ _ => False)
/-- lists of unlike lengths -/
def rEqLen (K : Frag) (r : Bool) : R2 := fun x y H Q => ∃ (a b : Addr) (xs ys : List V), x = .ref a ∧ y = .ref b ∧ SqL K H a xs ∧ SqL K H b ys ∧ xs.length ≠ ys.length ∧ Q (.bl r) H
theorem op_eqLen {X : Cx} (hu : X.A.units + 1 < cLine) : OpR X (compareOp .Eq) (rEqLen X.K false) := by
  intro pins s σ H x y v u Q I rx ry h
  obtain ⟨a, b, xs, ys, rfl, rfl, ha, hb, hl, q⟩ := h
  cases (show v = Value.ref a from rx)
  cases (show u = Value.ref b from ry)
  obtain ⟨us, r1, p1, _⟩ := I.list ha
  obtain ⟨ws, r2, p2, _⟩ := I.list hb
  exact SeqAt.RcAt.lists_lengths p1.isList p2.isList (by rw [List.size_toArray, List.size_toArray, ← r1.length, ← r2.length]; simpa using hl) (by omega) _ _ _ _ ⟨.bl false, H, I, rfl, q⟩
theorem op_neLen {X : Cx} (hu : X.A.units + 1 < cLine) : OpR X (compareOp .NotEq) (rEqLen X.K true) := by
  intro pins s σ H x y v u Q I rx ry h
  obtain ⟨a, b, xs, ys, rfl, rfl, ha, hb, hl, q⟩ := h
  cases (show v = Value.ref a from rx)
  cases (show u = Value.ref b from ry)
  obtain ⟨us, r1, p1, _⟩ := I.list ha
  obtain ⟨ws, r2, p2, _⟩ := I.list hb
  exact SeqAt.RcNeAt.lists_lengths p1.isList p2.isList (by rw [List.size_toArray, List.size_toArray, ← r1.length, ← r2.length]; simpa using hl) (by omega) _ _ _ _ ⟨.bl true, H, I, rfl, q⟩
def rEqG (Γ : Gam) (K : Frag) : R2 := fun x y H Q => match x, y with
  | .int i, .int j => Q (.bl (decide (i = j))) H
  | .str i, .str j => Q (.bl (decide (i = j))) H
  | .bl i, .bl j => Q (.bl (decide (i = j))) H
  | .non, .non => Q (.bl true) H
  | x, y => ((scal x y = true ∧ Q (.bl (decide (x = y))) H) ∨ rEqLen K false x y H Q) ∨ rEqD K x y H Q ∨ rOwnEq Γ K x y H Q
def rNeG (Γ : Gam) (K : Frag) : R2 := fun x y H Q => match x, y with
  | .int i, .int j => Q (.bl (!decide (i = j))) H
  | .str i, .str j => Q (.bl (!decide (i = j))) H
  | .bl i, .bl j => Q (.bl (!decide (i = j))) H
  | .non, .non => Q (.bl false) H
  | x, y => ((scal x y = true ∧ Q (.bl (!decide (x = y))) H) ∨ rEqLen K true x y H Q) ∨ rNeD K x y H Q ∨ rOwnNe Γ K x y H Q
def rOrd (K : Frag) (f : Int → Int → Bool) (g : Bool) : R2 := fun x y H Q => match x, y with
  | .int i, .int j => Q (.bl (f i j)) H
  | .str i, .str j => g = true ∧ Q (.bl (decide (i.cps.toList < j.cps.toList))) H
  | x, y => g = true ∧ rLtT K x y H Q
def rIsNt (neg : Bool) : R2 := fun x y H Q => match y with
  | .non => Q (.bl (if neg then !decide (x = .non) else decide (x = .non))) H
  | .bl b => ∃ c, x = .bl c ∧ Q (.bl (if neg then !decide (c = b) else decide (c = b))) H
  | _ => False
def rInG (K : Frag) (neg : Bool) : R2 := fun x y H Q => match x, y with
  | .str i, .str j => Q (.bl (if neg then !(!(Builtin.Str.occurrences j i 0 j.length 1).isEmpty) else (!(Builtin.Str.occurrences j i 0 j.length 1).isEmpty))) H
  | x, y => rIn K neg x y H Q ∨ (neg = false ∧ rInD K x y H Q) ∨ (neg = true ∧ rNotInD K x y H Q)
def rCmp (Γ : Gam) (K : Frag) : CmpOp → R2
  | .Eq => rEqG Γ K
  | .NotEq => rNeG Γ K
  | .Lt => rOrd K (fun i j => decide (i < j)) true
  | .LtE => rOrd K (fun i j => decide (i ≤ j)) false
  | .Gt => rOrd K (fun i j => decide (j < i)) false
  | .GtE => rOrd K (fun i j => decide (j ≤ i)) false
  | .Is => rIsNt false
  | .IsNot => rIsNt true
  | .In => rInG K false
  | .NotIn => rInG K true

/-- the context that the readings lean on -/
structure Cok (X : Cx) (Γ : Gam) (n : Nms) (k : Nat) (N : List Str) (sc st : Scope) (W : WX) : Prop where
  eN : X.N = N
  nd : N.Nodup
  eSc : X.env.scope = sc
  calm : X.calm = true
  room : Room k X.A
  gam : GamOk Γ n k X.prog X.w X.K X.mg X.base
  tk : Takes X W
  lcl : ∀ x, L2.Loc st x → L2.Loc sc x ∧ (X.fn x = true ∨ sc.names.lookup x = some NameKind.local)
  pas : PassesOwn (model X.prog X.w) X.A X.env X.xe
  lm : ∀ q, n.lq = some q → X.env.qual = q ∧ Room (k + 2) X.A ∧ ∃ c tb, X.env.code = .ref c ∧ LamX.TabB X.base X.mg c tb ∧ (tb, q ++ "<lambda>") ∈ Γ.tb ∧ ∀ p ∈ Γ.tb, p.1 = tb → p.2 = q ++ "<lambda>"
  gd : n.gd = true → X.A.guards = some []
theorem passF {X : Cx} : Passes (L2.CX X.prog X.w) X (fun _ _ _ => False) := fun _ _ _ _ _ _ _ h => by
  obtain ⟨_, _, _, _, _, _, _, _, _, _, _, _, z⟩ := h
  exact z.elim
section
variable {X : Cx} {Γ : Gam} {n : Nms} {k : Nat} {N : List Str} {sc st : Scope} {W : WX}
theorem op_ownEq (h : Cok X Γ n k N sc st W) : OpR X (compareOp .Eq) (rOwnEq Γ X.K) := by
  intro pins s σ H x y v u Q I rx ry q
  obtain ⟨a, C, dx, fs, e, t, rfl, ha, he, ty, hn, q⟩ := q
  obtain ⟨F, hk, hs, hf, _⟩ := h.gam.eq C e he
  cases rx
  obtain ⟨mA, J, _⟩ := ins_get I.hok ha
  obtain ⟨od, J, _⟩ := J.look
  obtain ⟨m, hF⟩ := I.fr
  obtain ⟨P, Z, p, hx⟩ := kit_of I ry ty
  show wpAny _ _ (richCompare .Eq (.ref a) u) _ _ _
  refine PySem.W.cmp_K (op := .Eq) (tb := t) h.room.units0 hF I.ok.mod.kin J (Z.ty _ _ I.kIn p) hn hs hf ?_
  have hl := F.ok.len _ _ _ _ q
  have r2 : Vals [V.ref a, y] [Value.ref a, u] := .cons rfl (.cons ry .nil)
  have hb := F.bd e.ds.length
  rw [List.drop_length] at hb
  refine wpAny_mono (run_fn (us := [.ref a, u]) (vs := [.ref a, y]) (dvs := []) (ds := []) F.ok (h.room.mono (by omega)) hb .nil passF I r2 (by rw [List.append_nil]; exact q)) (fun r s' hq => ?_) fun _ _ z => z
  obtain ⟨z, H', I', rz, b, ez, q'⟩ := hq
  subst ez
  cases rz
  exact ⟨.bl b, H', I', rfl, q'⟩
theorem run_in1 {fd : FuncData} {f : Addr} {k : Nat} {ps : List Str} {sp : Sp} {E : XK} {pins : List (Addr × Obj)} {σ : L2.St} {H : Hp} {s : Shared} {Q : VK} {us : List Value} {vs : List V} (F : FnOk X.prog X.w X.K X.mg X.base (L2.CX X.prog X.w) k f fd ps sp) (hr : Room k X.A.in1) (hb : Binds X.K fd ps []) (hx : Passes (L2.CX X.prog X.w) X E)
    (I : Inv X pins σ H s) (r : Vals vs us) (h : sp vs H Q E) : wpAny (model X.prog X.w) X.A.in1 (call (.ref f) us) (EP X pins σ Q) X.xe s := by
  have hl : us.length = ps.length := by rw [← r.length]; exact F.len _ _ _ _ h
  refine wpAny_call (codeAny_mono (F.run X.A.in1 X.stack s H ⟨us, []⟩ us vs Q E hr I.env0.in1 (by have := hb s us I.kIn (by rw [List.append_nil]; exact hl); rw [List.append_nil] at this; exact this) r h) fun r s' hq => ?_)
  cases r with
  | error e => exact hx pins σ H s e s' I hq
  | ok fl =>
    cases fl with
    | ret u => exact I.after hq
    | next => exact False.elim hq
    | brk => exact False.elim hq
    | cont => exact False.elim hq
theorem op_ownNe (h : Cok X Γ n k N sc st W) : OpR X (compareOp .NotEq) (rOwnNe Γ X.K) := by
  intro pins s σ H x y v u Q I rx ry q
  obtain ⟨a, C, dx, fs, e, t, rfl, ha, he, ty, hn, q⟩ := q
  obtain ⟨F, hk, hs, hf, hne, hob⟩ := h.gam.eq C e he
  cases rx
  obtain ⟨mA, J, _⟩ := ins_get I.hok ha
  obtain ⟨od, J, _⟩ := J.look
  obtain ⟨m, hF⟩ := I.fr
  obtain ⟨P, Z, p, hx⟩ := kit_of I ry ty
  show wpAny _ _ (richCompare .NotEq (.ref a) u) _ _ _
  refine Rf.ne_K (tb := t) (by have := h.room.units; omega) hF I.ok.mod.kin J (Z.ty _ _ I.kIn p) hn hne hob hs hf ?_
  have hl := F.ok.len _ _ _ _ q
  have r2 : Vals [V.ref a, y] [Value.ref a, u] := .cons rfl (.cons ry .nil)
  have hb := F.bd e.ds.length
  rw [List.drop_length] at hb
  refine wpAny_mono (run_in1 (us := [.ref a, u]) (vs := [.ref a, y]) F.ok (h.room.mono hk).in1 hb passF I r2 q) (fun r s' hq => ?_) fun _ _ z => z
  obtain ⟨z, H', I', rz, b, ez, q'⟩ := hq
  subst ez
  cases rz
  exact ⟨b, rfl, .bl (!b), H', I', rfl, q'⟩
/-! repr -/
def rRepL (Γ : Gam) : List V → Hp → VK → Prop := fun xs H Q => match xs with
  | [.int i] => i.natAbs.log2 < 1920 ∧ Q (.str (toString i)) H
  | [.ref a] => ∃ (C dx : Addr) (fs : List (Str × V)) (e : FnE), H a = some (.ins C dx fs) ∧ Γ.rp C e ∧ e.sp [.ref a] H (fun v H' => ∃ b, v = .str b ∧ Q (.str b) H') (fun _ _ _ => False)
  | _ => False
theorem call_rep (h : Cok X Γ n k N sc st W) : CallR X (.builtin "repr") (rRepL Γ) := by
  intro pins s σ H xs us Q I r q
  unfold rRepL at q
  split at q
  · exact SkE.call_repr_int pins s σ H _ us Q I r ⟨_, rfl, q.1, q.2⟩
  · rename_i a
    obtain ⟨C, dx, fs, e, ha, he, q⟩ := q
    obtain ⟨F, hk, hs, hf⟩ := h.gam.rp C e he
    obtain ⟨u, rfl, ru⟩ := r.one
    cases (show u = Value.ref a from ru)
    obtain ⟨mA, J, _⟩ := ins_get I.hok ha
    obtain ⟨od, J, _⟩ := J.look
    obtain ⟨m, hF⟩ := I.fr
    have hb := F.bd e.ds.length
    rw [List.drop_length] at hb
    refine PySem.W.repr_K (by have := h.room.units; show X.A.units + 1 < _; omega) hF I.ok.mod.kin J hs hf ?_
    refine wpAny_mono (run_in1 (us := [.ref a]) (vs := [.ref a]) F.ok (h.room.mono hk).in1 hb passF I r q) (fun r s' hq => ?_) fun _ _ z => z
    obtain ⟨z, H', I', rz, b, ez, q'⟩ := hq
    subst ez
    obtain ⟨t, rfl⟩ := rz
    exact ⟨.str b, H', I', ⟨_, rfl⟩, q'⟩
  · exact q.elim
theorem op_cmp (h : Cok X Γ n k N sc st W) (op : CmpOp) : OpR X (compareOp op) (rCmp Γ X.K op) := by
  have hu := h.room.units
  cases op with
  | Eq =>
    refine OpR.imp (OpR.or (OpR.or op_eq (op_eqLen (by have := h.room.un; omega))) (OpR.or (op_eqD hu) (op_ownEq h))) fun x y H Q q => ?_
    unfold rCmp rEqG at q
    dsimp only at q
    split at q
    · exact .inl (.inl ⟨rfl, by rw [dec_int']; exact q⟩)
    · exact .inl (.inl ⟨rfl, by rw [dec_str']; exact q⟩)
    · exact .inl (.inl ⟨rfl, by rw [dec_bl']; exact q⟩)
    · exact .inl (.inl ⟨rfl, q⟩)
    · exact q
  | NotEq =>
    refine OpR.imp (OpR.or (OpR.or op_ne (op_neLen (by have := h.room.un; omega))) (OpR.or (op_neD hu) (op_ownNe h))) fun x y H Q q => ?_
    unfold rCmp rNeG at q
    dsimp only at q
    split at q
    · exact .inl (.inl ⟨rfl, by rw [dec_int']; exact q⟩)
    · exact .inl (.inl ⟨rfl, by rw [dec_str']; exact q⟩)
    · exact .inl (.inl ⟨rfl, by rw [dec_bl']; exact q⟩)
    · exact .inl (.inl ⟨rfl, q⟩)
    · exact q
  | Lt =>
    refine OpR.imp (OpR.or op_lt (OpR.or op_lt_str (op_ltT h.room.units0))) fun x y H Q q => ?_
    unfold rCmp rOrd at q
    dsimp only at q
    split at q
    · exact .inl ⟨_, _, rfl, rfl, q⟩
    · exact .inr (.inl ⟨_, _, rfl, rfl, q.2⟩)
    · exact .inr (.inr q.2)
  | LtE =>
    refine OpR.imp op_le fun x y H Q q => ?_
    unfold rCmp rOrd at q
    dsimp only at q
    split at q
    · exact ⟨_, _, rfl, rfl, q⟩
    · exact absurd q.1 Bool.false_ne_true
    · exact absurd q.1 Bool.false_ne_true
  | Gt =>
    refine OpR.imp op_gt fun x y H Q q => ?_
    unfold rCmp rOrd at q
    dsimp only at q
    split at q
    · exact ⟨_, _, rfl, rfl, q⟩
    · exact absurd q.1 Bool.false_ne_true
    · exact absurd q.1 Bool.false_ne_true
  | GtE =>
    refine OpR.imp op_ge fun x y H Q q => ?_
    unfold rCmp rOrd at q
    dsimp only at q
    split at q
    · exact ⟨_, _, rfl, rfl, q⟩
    · exact absurd q.1 Bool.false_ne_true
    · exact absurd q.1 Bool.false_ne_true
  | Is =>
    refine OpR.imp (OpR.or op_isN op_isBl) fun x y H Q q => ?_
    unfold rCmp rIsNt at q
    dsimp only at q
    split at q
    · exact .inl ⟨rfl, q⟩
    · obtain ⟨c, rfl, q⟩ := q
      exact .inr ⟨_, _, rfl, rfl, q⟩
    · exact q.elim
  | IsNot =>
    refine OpR.imp (OpR.or op_notN op_notBl) fun x y H Q q => ?_
    unfold rCmp rIsNt at q
    dsimp only at q
    split at q
    · exact .inl ⟨rfl, q⟩
    · obtain ⟨c, rfl, q⟩ := q
      exact .inr ⟨_, _, rfl, rfl, q⟩
    · exact q.elim
  | In =>
    refine OpR.imp (OpR.or op_in_str (OpR.or op_in_seq (op_inD (by have := h.room.un; omega)))) fun x y H Q q => ?_
    unfold rCmp rInG at q
    dsimp only at q
    split at q
    · exact .inl ⟨_, _, rfl, rfl, q⟩
    · exact .inr (q.elim .inl fun q => .inr (q.elim (fun q => q.2) fun q => absurd q.1 (by decide)))
  | NotIn =>
    refine OpR.imp (OpR.or op_notin_str (OpR.or op_notIn_seq (op_notInD (by have := h.room.un; omega)))) fun x y H Q q => ?_
    unfold rCmp rInG at q
    dsimp only at q
    split at q
    · exact .inl ⟨_, _, rfl, rfl, q⟩
    · exact .inr (q.elim .inl fun q => .inr (q.elim (fun q => absurd q.1 (by decide)) fun q => q.2))
end
end Rf
/-! Rf1g: dicts of tuple keys: len, in, clear, alike. -/
namespace Rf
open PySem PySem.Spec PyProof.Rows L2

/-! ### two dicts whose keys are tuples, alike -/
section
variable {prog : Program} {w : World} {κ : Type} [DecidableEq κ] {knd : HeapKind prog w κ} {A : Around} {E : Value → Shared → Prop} {s : Shared} {a b : Addr} {xa xb : List (κ × Addr × Value)}
theorem dt_same {nm : String} {Q : Bool → Shared → Prop} (room : knd.room A) (na : (a == sysModules) = false) (nb : (b == sysModules) = false) (Da : s.heap.DictOfH knd a xa) (Db : s.heap.DictOfH knd b xb) (len : xa.length = xb.length)
    (all : ∀ (i : Nat) (k : κ) (p : Addr × Value), xa[i]? = some (k, p) → ∃ (j : Nat) (q : Addr × Value), xb[j]? = some (k, q) ∧ SeqAt.EqAt A s p.2 q.2 true) (fin : Q true s) : wpAny (model prog w) A (Builtin.Dict.samePairs nm a b) Q E s := by
  obtain ⟨u, ea, pa, gu, _, du, lu, isu, ndu⟩ := Da
  obtain ⟨v, eb, pb, gv, _, dv, lv, isv, ndv⟩ := Db
  have su := size_of_entries lu
  have sv := size_of_entries lv
  unfold Builtin.Dict.samePairs Builtin.Dict.showsAll
  rw [if_neg (by rw [na]; exact Bool.false_ne_true), if_neg (by rw [nb]; exact Bool.false_ne_true)]
  refine wpAny_bind (wpAny_pure (wpAny_bind (wpAny_pure (wpAny_bind (wpAny_dictEntries gu du ?_)))))
  dsimp only
  refine wpAny_bind (wpAny_dictEntries gv dv ?_)
  rw [if_neg (by rw [su, sv, len]; simp)]
  refine wpAny_bind (wpAny_dictEpoch gu du (wpAny_bind ?_))
  rw [Std.Legacy.Range.forIn_eq_forIn_range']
  simp only [Std.Legacy.Range.size, Nat.sub_zero, Nat.add_sub_cancel, Nat.div_one]
  refine wpAny_forIn_list _ (fun left z t => t = s ∧ z = (none, ()) ∧ ∀ x ∈ left, x < ea.size) _ ?_ ?_ _ _ ⟨rfl, rfl, fun x hx => by have := List.mem_range'.mp hx; omega⟩
  · rintro x left z t ⟨rfl, rfl, hl⟩
    have lt := hl x List.mem_cons_self
    refine wpAny_bind (wpAny_dictEntries gu du ?_)
    have at_ := entry_at lu x
    obtain ⟨⟨k, c, val⟩, hx⟩ : ∃ y, xa[x]? = some y := ⟨_, List.getElem?_eq_getElem (by omega)⟩
    rw [hx] at at_
    rw [at_]
    obtain ⟨j, ⟨c2, val2⟩, hj, eq⟩ := all x k (c, val) hx
    show wpAny _ _ (holding [(entryOfKey knd (k, c, val)).key, (entryOfKey knd (k, c, val)).val] _ >>= _) _ _ _
    refine wpAny_bind (wpAny_holding (wpAny_bind (wpAny_dictFind_heap room (isu _ (List.mem_of_getElem? hx)) gv dv lv isv ndv (fun no => absurd hj (no j _)) fun j' p' hj' => ?_)))
    have same : j' = j := by
      have l1 := (List.getElem?_eq_some_iff.mp hj').1
      have l2 := (List.getElem?_eq_some_iff.mp hj).1
      have e1 : (xb.map (·.1))[j']'(by rw [List.length_map]; exact l1) = k := by rw [List.getElem_map, (List.getElem?_eq_some_iff.mp hj').2]
      have e2 : (xb.map (·.1))[j]'(by rw [List.length_map]; exact l2) = k := by rw [List.getElem_map, (List.getElem?_eq_some_iff.mp hj).2]
      exact (List.getElem_inj ndv).mp (e1.trans e2.symm)
    subst same
    have at2 := entry_at lv j'
    rw [hj] at at2
    refine wpAny_bind (wpAny_dictEntries gv dv ?_)
    rw [at2]
    refine wpAny_holding (eq prog w _ _ ?_)
    show wpAny _ _ (if (!true) = true then _ else _) _ _ _
    rw [if_neg (by decide)]
    refine wpAny_bind (wpAny_dictEpoch gu du ?_)
    rw [if_neg (by simp)]
    exact wpAny_pure ⟨rfl, rfl, fun y hy => hl y (List.mem_cons_of_mem _ hy)⟩
  · rintro z t ⟨rfl, rfl, _⟩
    exact wpAny_pure fin
theorem dt_eq {Q : Value → Shared → Prop} (room : knd.room A.in1) (hu : A.units < cLine) (na : (a == sysModules) = false) (nb : (b == sysModules) = false) (Da : s.heap.DictOfH knd a xa) (Db : s.heap.DictOfH knd b xb) (len : xa.length = xb.length)
    (all : ∀ (i : Nat) (k : κ) (p : Addr × Value), xa[i]? = some (k, p) → ∃ (j : Nat) (q : Addr × Value), xb[j]? = some (k, q) ∧ SeqAt.EqAt A.in1 s p.2 q.2 true) (fin : Q (.bool true) s) : wpAny (model prog w) A (compareOp .Eq (.ref a) (.ref b)) Q E s := by
  have ta := Da.typeIs
  have tb := Db.typeIs
  refine wpAny_richCompare_same_room (op := .Eq) ta tb PySem.F.slot_dict_eq (wpAny_call_entry PySem.F.slot_dict_eq ta PySem.F.entry_dict_eq (wpAny_bind ?_) (PySem.F.args_dict_eq_2 _ _)) hu
  unfold Builtin.Dict.dictSlotArgs
  refine wpAny_bind (wpAny_notOrdered_dict ta (wpAny_pure (wpAny_bind (wpAny_isInstance (T := "dict") tb PySem.F.sub_dict_dict ?_))))
  simp only [Bool.not_true, Bool.false_eq_true, if_false]
  refine wpAny_bind (wpAny_pure (wpAny_bind (wpAny_pure (wpAny_bind (dt_same room na nb Da Db len all (wpAny_pure ⟨_, rfl, fun z => (nomatch z), ?_⟩))))))
  simpa using fin
theorem dt_ne {Q : Value → Shared → Prop} (room : knd.room A.in1) (hu : A.units < cLine) (na : (a == sysModules) = false) (nb : (b == sysModules) = false) (Da : s.heap.DictOfH knd a xa) (Db : s.heap.DictOfH knd b xb) (len : xa.length = xb.length)
    (all : ∀ (i : Nat) (k : κ) (p : Addr × Value), xa[i]? = some (k, p) → ∃ (j : Nat) (q : Addr × Value), xb[j]? = some (k, q) ∧ SeqAt.EqAt A.in1 s p.2 q.2 true) (fin : Q (.bool false) s) : wpAny (model prog w) A (compareOp .NotEq (.ref a) (.ref b)) Q E s := by
  have ta := Da.typeIs
  have tb := Db.typeIs
  refine wpAny_richCompare_same_room (op := .NotEq) ta tb PySem.F.slot_dict_ne (wpAny_call_entry PySem.F.slot_dict_ne ta PySem.F.entry_dict_ne (wpAny_bind ?_) (PySem.F.args_dict_ne_2 _ _)) hu
  unfold Builtin.Dict.dictSlotArgs
  refine wpAny_bind (wpAny_notOrdered_dict ta (wpAny_pure (wpAny_bind (wpAny_isInstance (T := "dict") tb PySem.F.sub_dict_dict ?_))))
  simp only [Bool.not_true, Bool.false_eq_true, if_false]
  refine wpAny_bind (wpAny_pure (wpAny_bind (wpAny_pure (wpAny_bind (dt_same room na nb Da Db len all (wpAny_pure ⟨_, rfl, fun z => (nomatch z), ?_⟩))))))
  simpa using fin
end
section
variable {X : Cx}
/-- two dicts of tuple keys, the values data, that hold the same -/
def rSameDT (K : Frag) (r : Bool) : R2 := fun x y H Q => ∃ (a b : Addr) (ks ls : List (List Key × V)), x = .ref a ∧ y = .ref b ∧ H a = some (.dT ks) ∧ H b = some (.dT ls) ∧ ks.length = ls.length ∧
  (∀ p ∈ ks, ∃ q ∈ ls, q.1 = p.1 ∧ ∃ d e, Dp K H p.2 d ∧ Dp K H q.2 e ∧ SeqAt.shaped d = true ∧ SeqAt.shaped e = true ∧ PyData.eqv d e = true) ∧ Q (.bl r) H
theorem kt_hits {pins : List (Addr × Obj)} {σ : L2.St} {H : Hp} {s : Shared} {A : Around} (hu : A.in1.units + 64 < cLine) (I : L2.Inv X pins σ H s) {ks ls : List (List Key × V)} {xa xb : List (List Key × Addr × Value)} (ra : KT H ks xa) (rb : KT H ls xb)
    (h : ∀ p ∈ ks, ∃ q ∈ ls, q.1 = p.1 ∧ ∃ d e, Dp X.K H p.2 d ∧ Dp X.K H q.2 e ∧ SeqAt.shaped d = true ∧ SeqAt.shaped e = true ∧ PyData.eqv d e = true) :
    ∀ (i : Nat) (k : List Key) (p : Addr × Value), xa[i]? = some (k, p) → ∃ (j : Nat) (q : Addr × Value), xb[j]? = some (k, q) ∧ SeqAt.EqAt A.in1 s p.2 q.2 true := by
  intro i k p hi
  obtain ⟨z, hz, hk⟩ : ∃ z ∈ ks, z.1 = k ∧ RelV z.2 p.2 := by
    clear rb h
    induction ra generalizing i with
    | nil => cases hi
    | @cons x y r t hd tl ih =>
      cases i with
      | zero =>
        cases hi
        exact ⟨x, List.mem_cons_self, hd.1, hd.2.2⟩
      | succ i =>
        obtain ⟨z, m, e⟩ := ih i hi
        exact ⟨z, List.mem_cons_of_mem _ m, e⟩
  obtain ⟨q, hq, eq, d, e, d1, d2, s1, s2, ev⟩ := h z hz
  obtain ⟨j, y, hj, rv⟩ : ∃ (j : Nat) (y : Addr × Value), xb[j]? = some (q.1, y) ∧ RelV q.2 y.2 := by
    clear ra h
    induction rb with
    | nil => cases hq
    | @cons x y r t hd tl ih =>
      rcases List.mem_cons.mp hq with e | m
      · subst e
        refine ⟨0, y.2, ?_, hd.2.2⟩
        rw [hd.1]
        rfl
      · obtain ⟨j, y, hj, rv⟩ := ih m
        exact ⟨j + 1, y, hj, rv⟩
  obtain ⟨as, r1⟩ := Dp.reads I d z.2 p.2 d1 hk.2
  obtain ⟨bs, r2⟩ := Dp.reads I e q.2 y.2 d2 rv
  have key := PySem.W.keq_at (A := A) r1 r2 s1 s2 hu
  rw [ev] at key
  exact ⟨j, y, by rw [hj, eq, hk.1], key⟩
theorem op_eqDT (hu : X.A.units + 66 < cLine) : OpR X (compareOp .Eq) (rSameDT X.K true) := by
  intro pins s σ H x y v u Q I rx ry h
  obtain ⟨a, b, ks, ls, rfl, rfl, ea, eb, len, hh, q⟩ := h
  cases rx
  cases ry
  obtain ⟨_, na, xa, ra, da⟩ := dt_of I.hok ea
  obtain ⟨_, nb, xb, rb, db⟩ := dt_of I.hok eb
  exact dt_eq (tupleKind_room_in1 (by omega)) (by omega) na nb da db (by rw [← Paired.length ra, ← Paired.length rb, len]) (kt_hits (by show X.A.units + 1 + 64 < _; omega) I ra rb hh) ⟨.bl true, H, I, rfl, q⟩
theorem op_neDT (hu : X.A.units + 66 < cLine) : OpR X (compareOp .NotEq) (rSameDT X.K false) := by
  intro pins s σ H x y v u Q I rx ry h
  obtain ⟨a, b, ks, ls, rfl, rfl, ea, eb, len, hh, q⟩ := h
  cases rx
  cases ry
  obtain ⟨_, na, xa, ra, da⟩ := dt_of I.hok ea
  obtain ⟨_, nb, xb, rb, db⟩ := dt_of I.hok eb
  exact dt_ne (tupleKind_room_in1 (by omega)) (by omega) na nb da db (by rw [← Paired.length ra, ← Paired.length rb, len]) (kt_hits (by show X.A.units + 1 + 64 < _; omega) I ra rb hh) ⟨.bl false, H, I, rfl, q⟩
/-- k in d -/
def rInDT (neg : Bool) : R2 := fun x y H Q => ∃ (a : Addr) (o : Option V), y = .ref a ∧ DGet H a x o ∧ Q (.bl (if neg then !o.isSome else o.isSome)) H
theorem op_inDT (hu : X.A.units + 1 < cLine) : OpR X (compareOp .In) (rInDT false) := by
  intro pins s σ H x y v u Q I rx ry h
  obtain ⟨a, o, rfl, g, q⟩ := h
  cases ry
  exact d_in hu I g rx fun s' I' => ⟨.bl o.isSome, H, I', rfl, q⟩
theorem op_notInDT (hu : X.A.units + 1 < cLine) : OpR X (compareOp .NotIn) (rInDT true) := by
  intro pins s σ H x y v u Q I rx ry h
  obtain ⟨a, o, rfl, g, q⟩ := h
  cases ry
  exact d_notIn hu I g rx fun s' I' => ⟨.bl (!o.isSome), H, I', rfl, q⟩
/-- len(d) -/
def rLenDT : List V → Hp → VK → Prop := fun xs H Q => ∃ (a : Addr) (ks : List (List Key × V)), xs = [.ref a] ∧ Rd H a (.dT ks) ∧ Q (.int ks.length) H
theorem call_lenDT : CallR X (.builtin "len") rLenDT := by
  intro pins s σ H xs us Q I r h
  obtain ⟨a, ks, rfl, e, q⟩ := h
  obtain ⟨u, rfl, ru⟩ := r.one
  cases (show u = Value.ref a from ru)
  obtain ⟨z, na, xa, ra, da⟩ := dt_rd I.hok e
  have l := Paired.length ra
  rw [sizeLine_eq] at z
  refine call_len_dictH na da (by omega) ?_
  rw [← l]
  exact ⟨.int ks.length, H, I.tok _, ⟨_, rfl⟩, q⟩
/-- d.clear() -/
def rClearDT : V → List V → Hp → VK → Prop := fun x vs H Q => ∃ (a : Addr) (ks : List (List Key × V)), x = .ref a ∧ vs = [] ∧ H a = some (.dT ks) ∧ Q .non (upd H a (.dT []))
theorem mt_clearDT : MtR X "dict.clear" rClearDT := by
  intro pins s σ H x vs v us Q I rx rv h
  obtain ⟨a, ks, rfl, rfl, e, q⟩ := h
  cases rx
  have none := rv.zero
  subst none
  obtain ⟨z, na, xa, ra, da⟩ := dt_of I.hok e
  have l := Paired.length ra
  have ty := da.typeIs
  obtain ⟨o, es, ep, h1, h2, h3, h4, h5, h6⟩ := da
  refine call_meetsIn PySem.F.slot_dict_clear ty PySem.F.entry_dict_clear (PySem.F.args_dict_clear_1 _) (PySem.meets_dict_clear_raw a) ⟨es, ep, ⟨o, h1, h2, h3⟩, by rw [size_of_entries h4]; omega, fun h' new same => ?_⟩
  obtain ⟨o', g1, g2, g3⟩ := new
  exact ⟨.non, _, d_write (ob := .dT []) (t' := s.toks) I (by rw [e]; exact True.intro) same ⟨o', g1⟩ ⟨Nat.zero_le _, na, [], .nil, o', #[], _, g1, g2, g3, rfl, List.nodup_nil⟩, rfl, q⟩
end
end Rf
/-! Rf1h: repr(x) of data, where nothing is being shown. -/
namespace Rf
open PySem PySem.Spec PyProof.Rows L2
section
variable {X : Cx}
def rRepD (K : Frag) : List V → Hp → VK → Prop := fun xs H Q => ∃ (x : V) (d : PyData), xs = [x] ∧ Dp K H x d ∧ d.showable = true ∧ d.hasDict = false ∧ d.depth ≤ 60 ∧ d.shown.length ≤ sizeLine ∧ Q (.str d.shown) H
theorem call_repD (hg : X.A.guards = some []) (hu : X.A.units + 64 < cLine) : CallR X (.builtin "repr") (rRepD X.K) := by
  intro pins s σ H xs us Q I r h
  obtain ⟨x, d, rfl, hd, h1, h2, h3, h4, q⟩ := h
  obtain ⟨u, rfl, ru⟩ := r.one
  obtain ⟨as, rd⟩ := Dp.reads I d x u hd ru
  cases rd with
  | none => exact P.repr_of_none ⟨.str _, H, I.tok _, ⟨_, rfl⟩, q⟩
  | bool b => exact P.repr_of_bool ⟨.str _, H, I.tok _, ⟨_, rfl⟩, q⟩
  | int i t => exact P.repr_of_int (by simpa [PyData.showable] using h1) ⟨.str _, H, I.tok _, ⟨_, rfl⟩, q⟩
  | str z t => exact P.repr_of_str ⟨.str _, H, I.tok _, ⟨_, rfl⟩, q⟩ h4
  | list e1 e2 e3 e4 => exact repr_of_reads' (Reads.list e1 e2 e3 e4) h1 (fun z => by rw [h2] at z; cases z) hg (by omega) (fun _ _ z => z) (fun h' t tk hk => ⟨.str _, H, I.kept (t' := tk) hk, ⟨_, rfl⟩, q⟩) h4
  | tuple e1 e2 e3 e4 => exact repr_of_reads' (Reads.tuple e1 e2 e3 e4) h1 (fun z => by rw [h2] at z; cases z) hg (by omega) (fun _ _ z => z) (fun h' t tk hk => ⟨.str _, H, I.kept (t' := tk) hk, ⟨_, rfl⟩, q⟩) h4
  | dict => exact absurd h2 (by simp [PyData.hasDict])
end
end Rf
/-! Rf1i: set(xs) and sorted(set(xs)), xs a list of tuples of ints, of which there are fewer than 63 unlike ones (the list may be longer). -/
namespace Rf
open PySem PySem.Spec PyProof.Rows L2
theorem pigeon {α : Type} [DecidableEq α] : ∀ (l D : List α), l.Nodup → (∀ x ∈ l, x ∈ D) → l.length ≤ D.length
  | [], D, _, _ => Nat.zero_le _
  | x :: l, D, hn, hs => by
    have hx := hs x List.mem_cons_self
    have ih := pigeon l (D.erase x) (List.nodup_cons.mp hn).2 fun y hy => (List.mem_erase_of_ne (fun e : y = x => (List.nodup_cons.mp hn).1 (e ▸ hy))).2 (hs y (List.mem_cons_of_mem _ hy))
    have hp := List.length_pos_of_mem hx
    rw [List.length_erase_of_mem hx] at ih
    rw [List.length_cons]
    omega
/-- an empty set, new -/
abbrev set0 (w : World) : Obj := { cls := .type "set", dict := none, data := .set #[] 0 (.fresh 0 0 (!w.params.followText "set-order")) }
section
variable {P : Program} {w : World} {A : Around} {E : Value → Shared → Prop} {s : Shared}
/-- what stands in the set S behind i of the items -/
def InS (P : Program) (w : World) (S : Addr) (ks : List (Addr × List Int)) (i : Nat) (h : Heap) : Prop := ∃ L es ep t, SetTR P w h S L es ep t ∧ Got ks i L
/-- what was on the heap is still there -/
def Kept (h h' : Heap) : Prop := ∀ b o, h.get? b = some o → h'.get? b = some o
/-- what a walk that fills a set leans on -/
structure Fil (P : Program) (w : World) (A : Around) (I S : Addr) (fp wr : List Addr) (G : Array GenState → Array GenState → Prop) (n : Nat) (Pv : Nat → Value → Prop) (St : Nat → Shared → Prop) (ks : List (Addr × List Int)) (D : List (List Int)) (b0 : Heap) : Prop where
  W : WalksS P w A.in1 I fp wr G n Pv St
  out : S ∉ fp
  len : n = ks.length
  few : D.length < 63
  inD : ∀ p ∈ ks, p.2 ∈ D
  val : ∀ i v, Pv i v → ∃ p, ks[i]? = some p ∧ v = .ref p.1
  tup : ∀ p ∈ ks, IsT P w b0 p.2 p.1
  noS : b0.get? S = none
  noW : ∀ b ∈ wr, b0.get? b = none
  room : A.in1.units < cLine
variable {I S : Addr} {fp wr : List Addr} {G : Array GenState → Array GenState → Prop} {n : Nat} {Pv : Nat → Value → Prop} {St : Nat → Shared → Prop} {ks : List (Addr × List Int)} {D : List (List Int)} {b0 : Heap} {R : Result → Shared → Prop}
theorem Fil.moved (Z : Fil P w A I S fp wr G n Pv St ks D b0) {s s' : Shared} (m : Moved wr G s s') (k : Kept b0 s.heap) : Kept b0 s'.heap := fun b o e => m.heap b o (fun hb => by rw [Z.noW b hb] at e; cases e) (k b o e)
theorem Fil.stays (Z : Fil P w A I S fp wr G n Pv St ks D b0) {i : Nat} {s s' : Shared} (m : Moved wr G s s') (k : Kept b0 s.heap) (h : InS P w S ks i s.heap) : InS P w S ks i s'.heap := by
  obtain ⟨L, es, ep, t, r, g⟩ := h
  exact ⟨L, es, ep, t, r.keep (fun o e => m.heap S o (fun z => Z.out (Z.W.sub _ z)) e) (fun p hp => isT_keep (Z.tup p (List.mem_of_mem_take (g.sub p hp))) (Z.moved m k)), g⟩
/-- one item more -/
theorem Fil.turn (Z : Fil P w A I S fp wr G n Pv St ks D b0) {i : Nat} (hi : i < n) (st : St i s) (kp : Kept b0 s.heap) (h : InS P w S ks i s.heap)
    (next : ∀ s2, St (i + 1) s2 → Kept b0 s2.heap → InS P w S ks (i + 1) s2.heap → Moved (S :: wr) G s s2 → codeAny (model P w) A (.builtin "set.update.loop" ⟨[.ref S, .ref I], []⟩) R s2) :
    codeAny (model P w) A (.builtin "set.update.loop" ⟨[.ref S, .ref I], []⟩) R s := by
  have plain := F.plain_set_update_loop
  apply codeAny_builtin F.entry_set_update_loop
  rw [Around.under_plainId plain _]
  refine (wpAny_bind (Z.W.item i s _ _ hi st fun v s1 hv st1 m1 => ?_) : wpAny _ A.in1 (pyNext (.ref I) >>= _) _ _ s)
  obtain ⟨p, hp, rfl⟩ := Z.val i v hv
  have k1 := Z.moved m1 kp
  obtain ⟨L, es, ep, t, r1, g1⟩ := Z.stays m1 kp h
  have ht : IsT P w s1.heap p.2 p.1 := isT_keep (Z.tup p (List.mem_of_getElem? hp)) k1
  have few : L.length + 1 < 64 := by
    have a := pigeon (L.map (·.2)) D r1.nd fun x hx => by
      obtain ⟨q, hq, rfl⟩ := List.mem_map.mp hx
      exact Z.inD q (List.mem_of_mem_take (g1.sub q hq))
    rw [List.length_map] at a
    have := Z.few
    omega
  refine (wpAny_bind (wpAny_holding ?_) : wpAny _ A.in1 (holding [Value.ref p.1] (setAdd S (.ref p.1)) >>= _) _ _ s1)
  unfold setAdd
  refine wpAny_holding (wpAny_bind (wpAny_pyHash_tuple Z.room ht ?_))
  refine add_at (s := { s1 with toks := s1.toks + (p.2.length + 1) }) r1 ht Z.room few fun b h2 L2 es2 ep2 t2 same r2 c1 c2 => ?_
  refine wpAny_pure ⟨plainId_quiet plain _, ?_⟩
  have out2 : ∀ c ∈ fp, h2.get? c = s1.heap.get? c := fun c hc => same.2 c fun z => Z.out (z ▸ hc)
  refine next _ (Z.W.frame _ s1 _ _ st1 (Nat.le_add_right _ _) fun c hc o e => (out2 c hc).trans e) (fun c o e => (same.2 c fun z => by rw [z, Z.noS] at e; cases e).trans (k1 c o e)) ⟨L2, es2, ep2, t2, r2, ?_⟩
    ((m1.mono fun b hb => List.mem_cons_of_mem _ hb).then_heap (Nat.le_add_right _ _) fun c o hc e => (same.2 c fun z => hc (z ▸ List.mem_cons_self)).trans e)
  by_cases c : p.2 ∈ L.map (·.2)
  · rw [c1 c]
    exact g1.same hp c
  · exact g1.more hp (c2 c)
/-- all of them -/
theorem Fil.all (Z : Fil P w A I S fp wr G n Pv St ks D b0) : ∀ (k i : Nat) (s : Shared), i + k = n → St i s → Kept b0 s.heap → InS P w S ks i s.heap → (∀ s2, Moved (S :: wr) G s s2 → InS P w S ks n s2.heap → Kept b0 s2.heap → R (.ok (.ret .none)) s2) →
    codeAny (model P w) A (.builtin "set.update.loop" ⟨[.ref S, .ref I], []⟩) R s
  | 0, i, s, e, st, kp, h, fin => by
    have e : i = n := e
    subst e
    apply codeAny_builtin F.entry_set_update_loop
    rw [Around.under_plainId F.plain_set_update_loop _]
    refine (wpAny_bind (Z.W.done s _ _ st fun s1 m1 => ?_) : wpAny _ A.in1 (pyNext (.ref I) >>= _) _ _ s)
    refine (?_ : wpAny _ A.in1 (ret Value.none) _ _ s1)
    exact wpAny_pure (fin s1 (m1.mono fun b hb => List.mem_cons_of_mem _ hb) (Z.stays m1 kp h) (Z.moved m1 kp))
  | k + 1, i, s, e, st, kp, h, fin => Z.turn (by omega) st kp h fun s2 st2 kp2 h2 m2 => Z.all k (i + 1) s2 (by omega) st2 kp2 h2 fun s3 m3 h3 kp3 => fin s3 (Moved.trans Z.W.gtrans m2 m3) h3 kp3
theorem get_past (h : Heap) {b : Addr} (hb : h.objs.size ≤ b) : h.get? b = none := by
  cases q : h.get? b with
  | none => rfl
  | some o => exact absurd (Nat.lt_of_lt_of_le (Heap.lt_size q) hb) (Nat.lt_irrefl _)
/-- set(xs) -/
theorem call_setU {l : Addr} {items : Array Value} (ks : List (Addr × List Int)) (D : List (List Int)) {Q : Value → Shared → Prop} (hh : A.handled = none) (hl : s.heap.IsList l items) (hit : items.toList = ks.map fun p => Value.ref p.1) (hk : ∀ p ∈ ks, IsT P w s.heap p.2 p.1) (few : D.length < 63) (inD : ∀ p ∈ ks, p.2 ∈ D) (hu : A.units + 3 < cLine)
    (fin : ∀ (h' : Heap) (tk : Nat), InS P w s.heap.objs.size ks ks.length h' → Kept s.heap h' → Q (.ref s.heap.objs.size) { s with heap := h', toks := tk }) : wpAny (model P w) A (call (.type "set") [.ref l]) Q E s := by
  have sz : items.size = ks.length := by rw [← Array.length_toList, hit, List.length_map]
  obtain ⟨mc, ml, mro⟩ := F.called_set.mro
  have fa := F.called_set.made; have fb := F.called_set.sub; have fc := F.called_set.notType; have fd := F.called_set.canCreate; have fe := F.typeCall_set_1 (.ref l); have ff := F.called_set.init.lookup
  refine wpAny_call (codeAny_of_tree (?_ : wpAny _ _ (callAny (.type "set") _) _ _ _))
  refine (wpAny_pure ⟨Code.quiet_builtin _ (by decide +kernel), codeAny_builtin F.entry_type_call ?_⟩)
  rw [Around.under_plain (weight_type_call_type "set" [.ref l] []) rfl] <;> skip
  repeat any_goals first | assumption | wp_step
  refine codeAny_mono (code_set_led1 (.ref l) (E := E) (Q₁ := fun v s1 => v = .ref s.heap.objs.size ∧ s1 = { s with heap := s.heap.push (set0 w) }) ⟨rfl, rfl⟩) fun r s1 hr => ?_
  match r, hr with
  | .error e, hr => exact hr
  | .ok (.ret v), hr => ?_
  obtain ⟨rfl, rfl⟩ := hr
  have hS : (s.heap.push (set0 w)).get? s.heap.objs.size = some (set0 w) := Heap.get?_push_size _ rfl
  have hT : Shared.TypeIs { s with heap := s.heap.push (set0 w) } (.ref s.heap.objs.size) "set" := ⟨_, hS, rfl⟩
  have fg := F.called_set.init.bind (.ref s.heap.objs.size)
  repeat any_goals first | assumption | wp_step
  have low : l < s.heap.objs.size := (let ⟨_, ho, _⟩ := hl; Heap.lt_size ho)
  have len0 : (s.heap.push (set0 w)).objs.size = s.heap.objs.size + 1 := Heap.size_push ..
  refine codeAny_mono (codeAny_call_builtin (R := wants (fun v s2 => v = .none ∧ ∃ h' tk, s2 = { s with heap := h', toks := tk } ∧ InS P w s.heap.objs.size ks ks.length h' ∧ Kept s.heap h') E) F.called_set.init.plain F.entry_set_init (check_set_init_1 hT ?_)) fun r2 s2 hr2 => ?_
  · have h1 : (s.heap.push (set0 w)).IsList l items := hl.push _
    obtain ⟨ol, hol, hcl, nl, hdl⟩ := hl
    obtain ⟨ocls, odict, odata, oslots⟩ := ol
    dsimp only at hcl hdl
    subst hcl hdl
    have hol' : (s.heap.push (set0 w)).get? l = some _ := Heap.get?_push_of_some _ hol
    have na := F.sub_list_set; have nb := F.sub_list_frozenset
    have nd : (Value.type "list" == Value.type "dict") = false := by decide
    unfold Builtin.«set.__init__» noKeywords Builtin.Frozenset.updateFrom
    generalize hPI : pyIter = PI
    wp_walk
    subst hPI
    refine wpAny_pyIter_list h1 (wpAny_bind (wpAny_runValue ?_))
    have hh3 : A.in1.in1.in1.handled = none := by simp [hh]
    have hneI : l ≠ (s.heap.push (set0 w)).objs.size := by rw [len0]; exact Nat.ne_of_lt (Nat.lt_succ_of_lt low)
    have Z : Fil P w A.in1.in1 (s.heap.push (set0 w)).objs.size s.heap.objs.size _ _ _ items.size _ _ ks D s.heap :=
      { W := (Walks.list hh3 _ l hneI items).toS
        out := by
          rw [len0]; simp only [List.mem_cons, List.mem_singleton, List.not_mem_nil, or_false, not_or]
          exact ⟨Nat.ne_of_lt (Nat.lt_succ_self _), Nat.ne_of_gt low⟩
        len := sz
        few := few
        inD := inD
        val := fun i v hv => by
          have q : items.toList[i]? = some v := by rw [Array.getElem?_toList]; exact hv
          rw [hit, List.getElem?_map] at q
          cases hq : ks[i]? with
          | none => rw [hq] at q; cases q
          | some p =>
            rw [hq] at q
            exact ⟨p, rfl, (Option.some.inj q).symm⟩
        tup := hk
        noS := get_past _ (Nat.le_refl _)
        noW := fun b hb => get_past _ (by
          rw [List.mem_singleton.mp hb, len0]
          exact Nat.le_succ _)
        room := hu }
    refine Z.all items.size 0 _ (Nat.zero_add _) ⟨⟨_, Heap.get?_push_size _ rfl, rfl, rfl⟩, (h1.push _)⟩ (fun b o e => Heap.get?_push_of_some _ (Heap.get?_push_of_some _ e)) ⟨[], #[], 0, _, setTR_fresh (Heap.get?_push_of_some _ hS), Got.zero ks⟩ fun s' m g' hkp => ?_
    obtain ⟨h', g2, d', tk', os'⟩ := s'
    have eg : g2 = s.gens := m.gens
    have ed : d' = s.drawn := m.drawn
    have eo : os' = s.os := m.os
    subst eg; subst ed; subst eo
    show wpAny _ _ _ _ _ _
    refine wpAny_pure ?_
    show wpAny _ _ (ret Value.none) _ _ _
    rw [sz] at g'
    exact wpAny_pure ⟨rfl, h', tk', rfl, g', hkp⟩
  · match r2, hr2 with
    | .error e, hr2 => exact hr2
    | .ok (.ret v2), hr2 => ?_
    obtain ⟨rfl, h', tk, rfl, g, k⟩ := hr2
    repeat any_goals first | assumption | wp_step
    exact fin h' tk g k
end
section
variable {X : Cx}
/-- set(xs), few unlike ones among them -/
def rSetU (K : PySem.W.Frag) (P : Program) (w : World) : List V → Hp → VK → Prop := fun xs H Q => ∃ (l : Addr) (ks : List (Addr × List Int)) (D : List (List Int)), xs = [V.ref l] ∧ SqL K H l (ks.map fun p => V.ref p.1) ∧ (∀ p ∈ ks, SqT K H p.1 (p.2.map V.int)) ∧ D.length < 63 ∧ (∀ p ∈ ks, p.2 ∈ D) ∧
  ∀ a L, H a = none → (∀ p ∈ L, p ∈ ks) → (∀ p ∈ ks, p.2 ∈ L.map (·.2)) → Q (.ref a) (upd H a (SetTO P w a L))
theorem cr_setU (hc : X.calm = true) (hu : X.A.units + 64 < cLine) : CallR X (.type "set") (rSetU X.K X.prog X.w) := by
  intro pins s σ H xs us Q I r h
  obtain ⟨l, ks, D, rfl, hl, hk, few, inD, q⟩ := h
  rw [Vals.ref1 r]
  obtain ⟨its, rv, pl, hz⟩ := I.list hl
  have hn : H s.heap.objs.size = none := I.hok.fresh (Nat.le_refl _)
  refine call_setU (P := X.prog) (w := X.w) ks D (I.ok.hd hc) pl.isList (by simpa using refs_of_vals rv) (fun p hp => I.isT (hk p hp)) few inD (by omega) fun h' tk hin k => ?_
  obtain ⟨L, es, ep, t, R, g⟩ := hin
  refine ⟨.ref s.heap.objs.size, upd H s.heap.objs.size (SetTO X.prog X.w s.heap.objs.size L), I.laid (t' := tk) k (Nat.le_refl _) (setTO_new R.t0), rfl, q _ L hn (fun p hp => ?_) fun p hp => ?_⟩
  · exact List.mem_of_mem_take (g.sub p hp)
  · exact g.all p (by rw [List.take_length]; exact hp)
/-- what sorted(set(xs)) asks, xs a list of tuples of d ints -/
def tSsetT (K : PySem.W.Frag) (te : TE) : TE := fun σ H Q => te σ H fun x H1 => ∃ (l : Addr) (ks : List (Addr × List Int)) (D : List (List Int)) (d : Nat) (B : Int), x = .ref l ∧ SqL K H1 l (ks.map fun p => V.ref p.1) ∧ (∀ p ∈ ks, SqT K H1 p.1 (p.2.map V.int)) ∧ D.length < 63 ∧ (∀ p ∈ ks, p.2 ∈ D) ∧ 1 ≤ d ∧ (∀ p ∈ ks, p.2.length = d ∧ TS.Bd B p.2) ∧
  ∀ (L : List (Addr × List Int)) (q : Addr) (H' : Hp), (∀ b o, H1 b = some o → H' b = some o) → H1 q = none → H' q = some (.lst (L.map fun p => V.ref p.1)) → (∀ p ∈ L, p ∈ ks) → (∀ p ∈ ks, p.2 ∈ L.map (·.2)) → (L.map (·.2)).Nodup → L.length < 64 → L.Pairwise (fun q r => TS.code B q.2 ≤ TS.code B r.2) → Q (.ref q) H'
theorem sqT_new {K : PySem.W.Frag} {H : Hp} {a b : Addr} {o : HO} {xs : List V} (h : SqT K H b xs) (n : H a = none) : SqT K (upd H a o) b xs := by
  have k : ∀ {u : HO}, H b = some u → upd H a o b = some u := fun {u} e => by
    rw [upd_ne (fun z => by rw [z, n] at e; cases e)]
    exact e
  rcases h with (h | ⟨f, h⟩) | h
  · exact .inl (.inl (k h))
  · exact .inl (.inr ⟨f, k h⟩)
  · exact .inr h
theorem pe_ssetT {e : Expr} {te : TE} {q1 q2 p1 p2 : Pos} (calm : X.calm = true) (hu : X.A.units + 64 < cLine) (g1 : Gl X "sorted") (m1 : X.mg "sorted" = none) (g2 : Gl X "set") (m2 : X.mg "set" = none) (he : PE X e te) (hs : starEach [e] X.env = [(false, eval e X.env)]) :
    PE X (.Call (.Name "sorted" q1) [.Call (.Name "set" q2) [e] [] p2] [] p1) (tSsetT X.K te) := by
  have inner := pe_callTy (pos := p2) (p := q2) (cr_setU calm hu) g2 m2 (by decide +kernel) (pa_cons (PE.weak he) pa_nil hs) (he := hs)
  refine PE.imp (pe_callB (pos := p1) (p := q1) (cr_sortedT calm) g1 m1 (by decide +kernel) (pa_cons inner pa_nil rfl)) fun σ H Q h => ⟨_, fun x H1 q => ?_, h⟩
  obtain ⟨l, ks, D, d, B, rfl, hl, hk, few, inD, hd, hB, q⟩ := q
  refine ⟨l, ks, D, rfl, hl, hk, few, inD, fun a L ha sub all => ⟨a, L, d, B, rfl, upd_same, fun p hp => sqT_new (hk p (sub p hp)) ha, hd, fun p hp => hB p (sub p hp), fun L' p pm nd len pw hp => ?_⟩⟩
  have np : p ≠ a := fun z => by rw [z, upd_same] at hp; cases hp
  refine q L' p _ (fun b o eb => ?_) (by rw [upd_ne np] at hp; exact hp) upd_same (fun r hr => sub r (pm.mem_iff.mp hr)) (fun r hr => (pm.map (·.2)).mem_iff.mpr (all r hr)) nd len pw
  have e2 : upd H1 a (SetTO X.prog X.w a L) b = some o := by
    rw [upd_ne (fun z => by rw [z, ha] at eb; cases eb)]
    exact eb
  rw [upd_ne (fun z => by rw [z, hp] at e2; cases e2)]
  exact e2
end
end Rf
/-! Rf1k: sorted(set(xs)), xs a list of ints, of which few are unlike -/
namespace Rf
open PySem PySem.Spec PyProof.Rows L2
section
variable {P : Program} {w : World} {A : Around} {E : Value → Shared → Prop} {s : Shared}
/-- set(xs), xs a list of ints -/
theorem call_setLI {l : Addr} {items : Array Value} (ns : List Int) {Q : Value → Shared → Prop} (hh : A.handled = none) (hl : s.heap.IsList l items) (hit : IntsAre items.toList ns) (hb : ns.length + 1 < scanBound)
    (fin : ∀ (h' : Heap) (tk c : Nat), SetR w h' s.heap.objs.size (fun j => decide (j ∈ ns)) c → Kept s.heap h' → Q (.ref s.heap.objs.size) { s with heap := h', toks := tk }) : wpAny (model P w) A (call (.type "set") [.ref l]) Q E s := by
  have sz : items.size = ns.length := Array.length_toList.symm.trans hit.length
  obtain ⟨mc, ml, mro⟩ := F.called_set.mro
  have fa := F.called_set.made; have fb := F.called_set.sub; have fc := F.called_set.notType; have fd := F.called_set.canCreate; have fe := F.typeCall_set_1 (.ref l); have ff := F.called_set.init.lookup
  refine wpAny_call (codeAny_of_tree (?_ : wpAny _ _ (callAny (.type "set") _) _ _ _))
  refine (wpAny_pure ⟨Code.quiet_builtin _ (by decide +kernel), codeAny_builtin F.entry_type_call ?_⟩)
  rw [Around.under_plain (weight_type_call_type "set" [.ref l] []) rfl] <;> skip
  repeat any_goals first | assumption | wp_step
  refine codeAny_mono (code_set_led1 (.ref l) (E := E) (Q₁ := fun v s1 => v = .ref s.heap.objs.size ∧ s1 = { s with heap := s.heap.push (set0 w) }) ⟨rfl, rfl⟩) fun r s1 hr => ?_
  match r, hr with
  | .error e, hr => exact hr
  | .ok (.ret v), hr => ?_
  obtain ⟨rfl, rfl⟩ := hr
  have hS : (s.heap.push (set0 w)).get? s.heap.objs.size = some (set0 w) := Heap.get?_push_size _ rfl
  have hT : Shared.TypeIs { s with heap := s.heap.push (set0 w) } (.ref s.heap.objs.size) "set" := ⟨_, hS, rfl⟩
  have fg := F.called_set.init.bind (.ref s.heap.objs.size)
  repeat any_goals first | assumption | wp_step
  have low : l < s.heap.objs.size := (let ⟨_, ho, _⟩ := hl; Heap.lt_size ho)
  have len0 : (s.heap.push (set0 w)).objs.size = s.heap.objs.size + 1 := Heap.size_push ..
  refine codeAny_mono (codeAny_call_builtin (R := wants (fun v s2 => v = .none ∧ ∃ h' tk c, s2 = { s with heap := h', toks := tk } ∧ SetR w h' s.heap.objs.size (fun j => decide (j ∈ ns)) c ∧ Kept s.heap h') E) F.called_set.init.plain F.entry_set_init (check_set_init_1 hT ?_)) fun r2 s2 hr2 => ?_
  · have h1 : (s.heap.push (set0 w)).IsList l items := hl.push _
    obtain ⟨ol, hol, hcl, nl, hdl⟩ := hl
    obtain ⟨ocls, odict, odata, oslots⟩ := ol
    dsimp only at hcl hdl
    subst hcl hdl
    have hol' : (s.heap.push (set0 w)).get? l = some _ := Heap.get?_push_of_some _ hol
    have na := F.sub_list_set; have nb := F.sub_list_frozenset
    have nd : (Value.type "list" == Value.type "dict") = false := by decide
    unfold Builtin.«set.__init__» noKeywords Builtin.Frozenset.updateFrom
    generalize hPI : pyIter = PI
    wp_walk
    subst hPI
    refine wpAny_pyIter_list h1 (wpAny_bind (wpAny_runValue ?_))
    have hh3 : A.in1.in1.in1.handled = none := by simp [hh]
    have hneI : l ≠ (s.heap.push (set0 w)).objs.size := by rw [len0]; exact Nat.ne_of_lt (Nat.lt_succ_of_lt low)
    have out : s.heap.objs.size ∉ [(s.heap.push (set0 w)).objs.size, l] := by
      rw [len0]; simp only [List.mem_cons, List.mem_singleton, List.not_mem_nil, or_false, not_or]
      exact ⟨Nat.ne_of_lt (Nat.lt_succ_self _), Nat.ne_of_gt low⟩
    have each : ∀ (j : Nat) (u : Value), items[j]? = some u → ∃ k t, ns[j]? = some k ∧ u = .int k t := by
      intro j u hu
      have lt : j < ns.length := sz ▸ (Array.getElem?_eq_some_iff.mp hu).1
      have at' : items.toList[j]? = some u := (Array.getElem?_toList ..).trans hu
      obtain ⟨t, eu⟩ := hit.int_at j u at'
      have ek : ns[j]? = some ns[j] := List.getElem?_eq_getElem lt
      exact ⟨ns[j], t, ek, by rw [eu, List.getD_eq_getElem?_getD, ek]; rfl⟩
    refine set_update_ints ((Walks.list hh3 _ l hneI items).toS) s.heap.objs.size out ns sz hb each (items.size - 0) 0 _ (by omega) (Nat.zero_le _) ⟨⟨_, Heap.get?_push_size _ rfl, rfl, rfl⟩, (h1.push _)⟩ ⟨0, Nat.le_refl 0, setR_new_at (Heap.get?_push_of_some _ hS)⟩ fun s' c' m _ R' => ?_
    obtain ⟨h', g2, d', tk', os'⟩ := s'
    have eg : g2 = s.gens := m.gens
    have ed : d' = s.drawn := m.drawn
    have eo : os' = s.os := m.os
    subst eg; subst ed; subst eo
    show wpAny _ _ _ _ _ _
    refine wpAny_pure ?_
    show wpAny _ _ (ret Value.none) _ _ _
    refine wpAny_pure ⟨rfl, h', tk', c', rfl, R', fun b o e => ?_⟩
    have hb0 : b < s.heap.objs.size := Heap.lt_size e
    exact m.heap b o (by
      rw [len0]
      simp only [List.mem_cons, List.mem_singleton, List.not_mem_nil, or_false, not_or]
      exact ⟨Nat.ne_of_lt hb0, Nat.ne_of_lt (Nat.lt_succ_of_lt hb0)⟩) (Heap.get?_push_of_some _ (Heap.get?_push_of_some _ e))
  · match r2, hr2 with
    | .error e, hr2 => exact hr2
    | .ok (.ret v2), hr2 => ?_
    obtain ⟨rfl, h', tk, c, rfl, g, k⟩ := hr2
    repeat any_goals first | assumption | wp_step
    exact fin h' tk c g k
theorem setR_few {w : World} {h : Heap} {a : Addr} {ns D : List Int} {c : Nat} (R : SetR w h a (fun j => decide (j ∈ ns)) c) (hD : ∀ k ∈ ns, k ∈ D) : c ≤ D.length := by
  obtain ⟨o, es, ep, t, _, _, _, _, nd, mem, _, _, sz, _⟩ := R
  have := pigeon (es.toList.map L2.keyOf) D nd fun k hk => hD k (of_decide_eq_true ((mem k).mpr hk))
  rw [List.length_map, Array.length_toList, sz] at this
  exact this
end
section
variable {X : Cx}
def rSetLI (K : PySem.W.Frag) (w : World) : List V → Hp → VK → Prop := fun vs H Q => ∃ (a : Addr) (ns D : List Int), vs = [.ref a] ∧ SqL K H a (ns.map V.int) ∧ ns.length < 4000 ∧ (∀ k ∈ ns, k ∈ D) ∧ ∀ p c, H p = none → c ≤ D.length → Q (.ref p) (upd H p (SetO w p (fun j => decide (j ∈ ns)) c))
theorem cr_setLI (calm : X.calm = true) : CallR X (.type "set") (rSetLI X.K X.w) := by
  intro pins s σ H xs us Q I r h
  obtain ⟨a, ns, D, rfl, ht, few, hD, q⟩ := h
  obtain ⟨u, rfl, ru⟩ := r.one
  cases (show u = Value.ref a from ru)
  obtain ⟨its, rv, pl, hz⟩ := I.list ht
  refine call_setLI (items := its.toArray) ns (I.ok.hd calm) pl.isList (ints_of_vals rv) (show ns.length + 1 < 4096 by omega) fun h' tk c R kp => ?_
  exact ⟨.ref s.heap.objs.size, _, I.laid (a := s.heap.objs.size) (o := SetO X.w s.heap.objs.size (fun j => decide (j ∈ ns)) c) (t' := tk) kp (Nat.le_refl _) (setO_new R), rfl, q _ _ (I.hok.fresh (Nat.le_refl _)) (setR_few R hD)⟩
/-- what sorted(set(xs)) asks, xs a list of ints with few unlike ones -/
def tSsetL (K : PySem.W.Frag) (te : TE) : TE := fun σ H Q => te σ H fun x H1 => ∃ (a : Addr) (ns D : List Int), x = .ref a ∧ SqL K H1 a (ns.map V.int) ∧ ns.length < 4000 ∧ (∀ k ∈ ns, k ∈ D) ∧ D.length < 64 ∧
  ∀ (l : Addr) (ms : List Int) (H' : Hp), (∀ b o, H1 b = some o → H' b = some o) → H1 l = none → H' l = some (.lst (ms.map V.int)) → ms.Pairwise (· < ·) → (∀ k, k ∈ ms ↔ k ∈ ns) → Q (.ref l) H'
theorem pe_ssetL {e : Expr} {te : TE} {q1 q2 p1 p2 : Pos} (calm : X.calm = true) (g1 : Gl X "sorted") (m1 : X.mg "sorted" = none) (g2 : Gl X "set") (m2 : X.mg "set" = none) (he : PE X e te) (hs : starEach [e] X.env = [(false, eval e X.env)]) :
    PE X (.Call (.Name "sorted" q1) [.Call (.Name "set" q2) [e] [] p2] [] p1) (tSsetL X.K te) := by
  have inner := pe_callTy (pos := p2) (p := q2) (cr_setLI calm) g2 m2 (by decide +kernel) (pa_cons (PE.weak he) pa_nil hs) (he := hs)
  refine PE.imp (pe_callB (pos := p1) (p := q1) (cr_sortedSet calm) g1 m1 (by decide +kernel) (pa_cons inner pa_nil rfl)) fun σ H Q h => ⟨_, fun x H1 q => ?_, h⟩
  obtain ⟨a, ns, D, rfl, ht, few, hD, d64, q⟩ := q
  refine ⟨a, ns, D, rfl, ht, few, hD, fun p c hp hc => ⟨p, _, c, rfl, upd_same, by omega, fun ms l up mem len hl => ?_⟩⟩
  have n1 : l ≠ p := fun z => by rw [z, upd_same] at hl; cases hl
  refine q l ms _ (fun b o eb => ?_) (by rw [upd_ne n1] at hl; exact hl) upd_same up fun k => by rw [mem k, decide_eq_true_iff]
  have e2 : upd H1 p (SetO X.w p (fun j => decide (j ∈ ns)) c) b = some o := by
    rw [upd_ne (fun z => by rw [z, hp] at eb; cases eb)]
    exact eb
  rw [upd_ne (fun z => by rw [z, hl] at e2; cases e2)]
  exact e2
end
end Rf
/-! Rf1m: == and != of lists whose things have an own __eq__, whatever comes. -/
namespace Rf
open PySem PySem.SeqAt
open AutoSeq1 (wpAny_loadPart')
open MeetsSeq MeetsSeq2 MeetsSeq3 SeqRoads2
/-- two lists of N things each stand here -/
def TwoL (l b : Addr) (N : Nat) (s : Shared) (P : Array Value → Array Value → Prop) : Prop :=
  ∃ (x y : Array Value) (n m : Nat), s.heap.get? l = some { cls := .type "list", data := .seq x n } ∧
    s.heap.get? b = some { cls := .type "list", data := .seq y m } ∧ x.size = N ∧ y.size = N ∧ P x y
theorem all_cut {e : Nat → Bool} {N i : Nat} (hi : i < N) (h : e i = false) : (List.range N).all e = false :=
  List.all_eq_false.mpr ⟨i, List.mem_range.mpr hi, by rw [h]; exact Bool.false_ne_true⟩
theorem all_whole {e : Nat → Bool} {N : Nat} (h : ∀ j, j < N → e j = true) : (List.range N).all e = true :=
  List.all_eq_true.mpr fun j hj => h j (List.mem_range.mp hj)
section
variable {prog : Program} {w : World} {A : Around} {R : Result → Shared → Prop} {l b : Addr} {N : Nat} {e : Nat → Bool} {I : Nat → Shared → Prop}
def TurnL (prog : Program) (w : World) (A : Around) (R : Result → Shared → Prop) (l b : Addr) (N : Nat) (e : Nat → Bool) (I : Nat → Shared → Prop) : Prop :=
  ∀ i s, I i s → TwoL l b N s fun x y => ∀ (h1 : i < x.size) (h2 : i < y.size),
    wpAny (model prog w) A.in1 (eqBool x[i] y[i]) (fun r t => r = e i ∧ I (i + 1) t) (fun er t => R (.error er) t) s
theorem loop_lEq (hl : TurnL prog w A R l b N e I) (fin : ∀ i s, I i s → R (.ok (.ret (.bool ((List.range N).all e)))) s) (k : Nat) :
    ∀ i : Nat, N - i = k → i ≤ N → (∀ j, j < i → e j = true) → ∀ s, I i s →
      wpAny (model prog w) A.in1 (Builtin.«list.__eq__.loop» ⟨[.ref l, .ref b, rawInt i, rawInt 2], []⟩) (GQ.FinOf prog w A R) (fun er t => R (.error er) t) s := by
  induction k with
  | zero =>
    intro i hk hi ok s h
    obtain ⟨x, y, n, m, gl, gb, sx, sy, _⟩ := hl _ _ h
    obtain rfl : i = N := by omega
    have hR := fin _ s h
    rw [all_whole ok] at hR
    obtain ⟨hp, g, d, tk, os⟩ := s
    wp_walk using wpAny_loadPart' gl, wpAny_loadPart' gb
    have q1 : x[((i : Nat) : Int).toNat]? = none := by simp; omega
    have q2 : y[((i : Nat) : Int).toNat]? = none := by simp; omega
    rw [q1, q2]
    wp_walk using wpAny_loadPart' gl, wpAny_loadPart' gb
    show R (.ok (.ret (.bool (x.size == y.size)))) _
    rw [sx, sy]
    simpa using hR
  | succ k ih =>
    intro i hk hi ok s h
    obtain ⟨x, y, n, m, gl, gb, sx, sy, turn⟩ := hl _ _ h
    have l1 : i < x.size := by omega
    have l2 : i < y.size := by omega
    have ht := turn l1 l2
    obtain ⟨hp, g, d, tk, os⟩ := s
    wp_walk using wpAny_loadPart' gl, wpAny_loadPart' gb
    have q1 : x[((i : Nat) : Int).toNat]? = some x[i] := by simp [l1]
    have q2 : y[((i : Nat) : Int).toNat]? = some y[i] := by simp [l2]
    have hc : ((i : Int) + 1) = ((i + 1 : Nat) : Int) := by omega
    rw [q1, q2]
    refine wpAny_bind (wpAny_mono ht (fun r t hr => ?_) fun _ _ z => z)
    obtain ⟨er, hI⟩ := hr
    subst er
    cases ev : e i with
    | true =>
      have rec' := ih (i + 1) (by omega) (by omega) (fun j hj => by
        by_cases c : j = i
        · rw [c]; exact ev
        · exact ok j (by omega)) t hI
      obtain ⟨hp2, g2, d2, tk2, os2⟩ := t
      wp_walk
      rw [hc]
      refine ⟨plainId_quiet plain_eq_loop _, codeAny_builtin entry_eq_loop ?_⟩
      rw [Around.under_plainId plain_eq_loop _]
      exact rec'
    | false =>
      have hR := fin _ t hI
      rw [all_cut (show i < N by omega) ev] at hR
      obtain ⟨x2, y2, n2, m2, gl2, gb2, sx2, sy2, _⟩ := hl _ _ hI
      obtain ⟨hp2, g2, d2, tk2, os2⟩ := t
      wp_walk using wpAny_loadPart' gl2, wpAny_loadPart' gb2
      have q3 : x2[((i : Nat) : Int).toNat]? = some (x2[i]'(by omega)) := by simp
      have q4 : y2[((i : Nat) : Int).toNat]? = some (y2[i]'(by omega)) := by simp
      rw [q3, q4]
      wp_walk
      simpa using hR
theorem body_lEq (hl : TurnL prog w A R l b N e I) (fin : ∀ i s, I i s → R (.ok (.ret (.bool ((List.range N).all e)))) s) {s : Shared} (h : I 0 s) :
    wpAny (model prog w) A.in1 (Builtin.«list.__eq__» ⟨[.ref l, .ref b], []⟩) (GQ.FinOf prog w A R) (fun er t => R (.error er) t) s := by
  obtain ⟨x, y, n, m, gl, gb, sx, sy, _⟩ := hl _ _ h
  have rec' := loop_lEq hl fin _ 0 rfl (Nat.zero_le _) (fun j hj => absurd hj (Nat.not_lt_zero j)) s h
  obtain ⟨hp, g, d, tk, os⟩ := s
  have f3 := AutoSeq1.sub_list_list
  have same : ¬ (x.size != y.size) = true := by simp [sx, sy]
  wp_walk using wpAny_loadPart' gl, wpAny_loadPart' gb
  refine ⟨plainId_quiet plain_eq_loop _, codeAny_builtin entry_eq_loop ?_⟩
  rw [Around.under_plainId plain_eq_loop _]
  exact rec'
theorem rc_lEq {E : Value → Shared → Prop} {Q : Value → Shared → Prop} {s : Shared} (hu : A.units < cLine) (hl : TurnL prog w A (wants (fun v t => v ≠ .notImplemented ∧ Q v t) E) l b N e I)
    (fin : ∀ i s, I i s → Q (.bool ((List.range N).all e)) s) (h : I 0 s) : wpAny (model prog w) A (richCompare .Eq (.ref l) (.ref b)) Q E s := by
  obtain ⟨x, y, n, m, gl, gb, _⟩ := hl _ _ h
  refine wpAny_richCompare_same_room (op := .Eq) ⟨_, gl, rfl⟩ ⟨_, gb, rfl⟩ F.slot_list_eq (GQ.call_here F.slot_list_eq ⟨_, gl, rfl⟩ F.entry_list_eq (F.args_list_eq_2 _ _) ?_) hu
  exact body_lEq hl (fun i t q => ⟨(fun z => nomatch z), fin i t q⟩) h
theorem loop_lNe (hl : TurnL prog w A R l b N e I) (fin : ∀ i s, I i s → R (.ok (.ret (.bool (!(List.range N).all e)))) s) (k : Nat) :
    ∀ i : Nat, N - i = k → i ≤ N → (∀ j, j < i → e j = true) → ∀ s, I i s →
      wpAny (model prog w) A.in1 (Builtin.«list.__eq__.loop» ⟨[.ref l, .ref b, rawInt i, rawInt 3], []⟩) (GQ.FinOf prog w A R) (fun er t => R (.error er) t) s := by
  induction k with
  | zero =>
    intro i hk hi ok s h
    obtain ⟨x, y, n, m, gl, gb, sx, sy, _⟩ := hl _ _ h
    obtain rfl : i = N := by omega
    have hR := fin _ s h
    rw [all_whole ok] at hR
    obtain ⟨hp, g, d, tk, os⟩ := s
    wp_walk using wpAny_loadPart' gl, wpAny_loadPart' gb
    have q1 : x[((i : Nat) : Int).toNat]? = none := by simp; omega
    have q2 : y[((i : Nat) : Int).toNat]? = none := by simp; omega
    rw [q1, q2]
    wp_walk using wpAny_loadPart' gl, wpAny_loadPart' gb
    show R (.ok (.ret (.bool (x.size != y.size)))) _
    rw [sx, sy]
    simpa using hR
  | succ k ih =>
    intro i hk hi ok s h
    obtain ⟨x, y, n, m, gl, gb, sx, sy, turn⟩ := hl _ _ h
    have l1 : i < x.size := by omega
    have l2 : i < y.size := by omega
    have ht := turn l1 l2
    obtain ⟨hp, g, d, tk, os⟩ := s
    wp_walk using wpAny_loadPart' gl, wpAny_loadPart' gb
    have q1 : x[((i : Nat) : Int).toNat]? = some x[i] := by simp [l1]
    have q2 : y[((i : Nat) : Int).toNat]? = some y[i] := by simp [l2]
    have hc : ((i : Int) + 1) = ((i + 1 : Nat) : Int) := by omega
    rw [q1, q2]
    refine wpAny_bind (wpAny_mono ht (fun r t hr => ?_) fun _ _ z => z)
    obtain ⟨er, hI⟩ := hr
    subst er
    cases ev : e i with
    | true =>
      have rec' := ih (i + 1) (by omega) (by omega) (fun j hj => by
        by_cases c : j = i
        · rw [c]; exact ev
        · exact ok j (by omega)) t hI
      obtain ⟨hp2, g2, d2, tk2, os2⟩ := t
      wp_walk
      rw [hc]
      refine ⟨plainId_quiet plain_eq_loop _, codeAny_builtin entry_eq_loop ?_⟩
      rw [Around.under_plainId plain_eq_loop _]
      exact rec'
    | false =>
      have hR := fin _ t hI
      rw [all_cut (show i < N by omega) ev] at hR
      obtain ⟨x2, y2, n2, m2, gl2, gb2, sx2, sy2, _⟩ := hl _ _ hI
      obtain ⟨hp2, g2, d2, tk2, os2⟩ := t
      wp_walk using wpAny_loadPart' gl2, wpAny_loadPart' gb2
      have q3 : x2[((i : Nat) : Int).toNat]? = some (x2[i]'(by omega)) := by simp
      have q4 : y2[((i : Nat) : Int).toNat]? = some (y2[i]'(by omega)) := by simp
      rw [q3, q4]
      wp_walk
      simpa using hR
theorem body_lNe (hl : TurnL prog w A R l b N e I) (fin : ∀ i s, I i s → R (.ok (.ret (.bool (!(List.range N).all e)))) s) {s : Shared} (h : I 0 s) :
    wpAny (model prog w) A.in1 (Builtin.«list.__ne__» ⟨[.ref l, .ref b], []⟩) (GQ.FinOf prog w A R) (fun er t => R (.error er) t) s := by
  obtain ⟨x, y, n, m, gl, gb, sx, sy, _⟩ := hl _ _ h
  have rec' := loop_lNe hl fin _ 0 rfl (Nat.zero_le _) (fun j hj => absurd hj (Nat.not_lt_zero j)) s h
  obtain ⟨hp, g, d, tk, os⟩ := s
  have f3 := AutoSeq1.sub_list_list
  have same : ¬ (x.size != y.size) = true := by simp [sx, sy]
  wp_walk using wpAny_loadPart' gl, wpAny_loadPart' gb
  refine ⟨plainId_quiet plain_eq_loop _, codeAny_builtin entry_eq_loop ?_⟩
  rw [Around.under_plainId plain_eq_loop _]
  exact rec'
theorem rc_lNe {E : Value → Shared → Prop} {Q : Value → Shared → Prop} {s : Shared} (hu : A.units < cLine) (hl : TurnL prog w A (wants (fun v t => v ≠ .notImplemented ∧ Q v t) E) l b N e I)
    (fin : ∀ i s, I i s → Q (.bool (!(List.range N).all e)) s) (h : I 0 s) : wpAny (model prog w) A (richCompare .NotEq (.ref l) (.ref b)) Q E s := by
  obtain ⟨x, y, n, m, gl, gb, _⟩ := hl _ _ h
  refine wpAny_richCompare_same_room (op := .NotEq) ⟨_, gl, rfl⟩ ⟨_, gb, rfl⟩ F.slot_list_ne (GQ.call_here F.slot_list_ne ⟨_, gl, rfl⟩ F.entry_list_ne (F.args_list_ne_2 _ _) ?_) hu
  exact body_lNe hl (fun i t q => ⟨(fun z => nomatch z), fin i t q⟩) h
end
end Rf
namespace Rf
open PySem PySem.Spec PyProof.Rows L2
section
variable {X : Cx} {Γ : Gam} {n : Nms} {k : Nat} {N : List Str} {sc st : Scope} {W : WX}
/-- the i-th things of both lists, compared: the same thing, or by their own __eq__ -/
def OwnAt (Γ : Gam) (K : Frag) (H : Hp) (u v : V) (d : Bool) : Prop := ∃ p q : Addr, u = .ref p ∧ v = .ref q ∧ ((p = q ∧ d = true) ∨ (p ≠ q ∧ ∀ H', Ext H H' →
  ∃ (C dx : Addr) (fs : List (Str × V)) (e : FnE) (t : Value), H' p = some (.ins C dx fs) ∧ Γ.eq C e ∧ TyX K H' v t ∧ PySem.W.notFirst K C t = true ∧ e.sp [u, v] H' (fun r H2 => r = .bl d ∧ Ext H' H2) (fun _ _ _ => False)))
/-- lists whose things have an own __eq__ -/
def rOwnL (Γ : Gam) (K : Frag) (neg : Bool) : R2 := fun x y H Q => ∃ (a b : Addr) (xs ys : List V) (d : Nat → Bool), x = .ref a ∧ y = .ref b ∧ H a = some (.lst xs) ∧ H b = some (.lst ys) ∧
  (xs.length = ys.length → ∀ (i : Nat) u v, xs[i]? = some u → ys[i]? = some v → OwnAt Γ K H u v (d i)) ∧
  ∀ H', Ext H H' → Q (.bl (if neg then !(decide (xs.length = ys.length) && (List.range xs.length).all d) else decide (xs.length = ys.length) && (List.range xs.length).all d)) H'
theorem own_turn (h : Cok X Γ n k N sc st W) {pins : List (Addr × Obj)} {σ : L2.St} {H : Hp} {s : Shared} {u v : V} {p q : Value} {d : Bool} (I : Inv X pins σ H s) (ru : RelV u p) (rv : RelV v q) {H0 : Hp} (kp : Ext H0 H) (o : OwnAt Γ X.K H0 u v d) :
    wpAny (model X.prog X.w) X.A.in1 (eqBool p q) (fun r t => r = d ∧ ∃ H', Inv X pins σ H' t ∧ Ext H0 H') X.xe s := by
  obtain ⟨a, b, rfl, rfl, o⟩ := o
  cases ru
  cases rv
  rcases o with ⟨rfl, rfl⟩ | ⟨ne, o⟩
  · exact SeqAt.EqAt.same (A := X.A.in1) (s := s) (.ref a) X.prog X.w X.xe _ ⟨rfl, H, I, kp⟩
  obtain ⟨C, dx, fs, e, t, ha, he, ty, hn, q⟩ := o H kp
  obtain ⟨F, hk, hs, hf, _⟩ := h.gam.eq C e he
  obtain ⟨mA, J, _⟩ := ins_get I.hok ha
  obtain ⟨od, J, _⟩ := J.look
  obtain ⟨m, hF⟩ := I.fr
  obtain ⟨P, Z, p, hx⟩ := kit_of I (show RelV (.ref b) (Value.ref b) from rfl) ty
  refine GQ.eqBool_refG ne ?_
  refine PySem.W.cmp_K (op := .Eq) (tb := t) (h.room.mono hk).in1.units0 hF I.ok.mod.kin J (Z.ty _ _ I.kIn p) hn hs hf ?_
  have r2 : Vals [V.ref a, V.ref b] [Value.ref a, Value.ref b] := .cons rfl (.cons rfl .nil)
  have hb := F.bd e.ds.length
  rw [List.drop_length] at hb
  refine wpAny_mono (run_in1 (us := [.ref a, .ref b]) (vs := [.ref a, .ref b]) F.ok (h.room.mono hk).in1 hb passF I r2 q) (fun r s' hq => ?_) fun _ _ z => z
  obtain ⟨z, H', I', rz, ez, k2⟩ := hq
  subst ez
  cases rz
  exact ⟨d, rfl, rfl, H', I', kp.trans k2⟩
theorem own_turns (h : Cok X Γ n k N sc st W) {pins : List (Addr × Obj)} {σ : L2.St} {H : Hp} {a b : Addr} {xs ys : List V} {d : Nat → Bool} {R : Result → Shared → Prop} (hR : ∀ er t, X.xe er t → R (.error er) t) (ha : H a = some (.lst xs)) (hb : H b = some (.lst ys)) (len : xs.length = ys.length)
    (o : ∀ (i : Nat) u v, xs[i]? = some u → ys[i]? = some v → OwnAt Γ X.K H u v (d i)) :
    TurnL X.prog X.w X.A R a b xs.length d fun _ t => ∃ H', Inv X pins σ H' t ∧ Ext H H' := by
  intro i t ⟨H1, I1, k1⟩
  obtain ⟨z, its, k, r, e⟩ := I1.hok a _ (k1 _ _ ha)
  obtain ⟨z2, its2, k2, r2, e2⟩ := I1.hok b _ (k1 _ _ hb)
  refine ⟨its.toArray, its2.toArray, k, k2, e, e2, by rw [List.size_toArray, ← r.length], by rw [List.size_toArray, ← r2.length, ← len], fun h1 h2 => ?_⟩
  have i1 : i < xs.length := by rw [r.length]; simpa using h1
  have i2 : i < ys.length := by omega
  obtain ⟨u, hu, ru⟩ := r.get (List.getElem?_eq_getElem i1)
  obtain ⟨v, hv, rv⟩ := r2.get (List.getElem?_eq_getElem i2)
  have g1 : its[i]? = some its.toArray[i] := by simpa using h1
  have g2 : its2[i]? = some its2.toArray[i] := by simpa using h2
  rw [g1] at hu
  rw [g2] at hv
  rw [Option.some.inj hu, Option.some.inj hv]
  exact wpAny_mono (own_turn h I1 ru rv k1 (o i _ _ (List.getElem?_eq_getElem i1) (List.getElem?_eq_getElem i2))) (fun _ _ z => z) hR
theorem op_ownL (h : Cok X Γ n k N sc st W) (neg : Bool) : OpR X (compareOp (if neg then .NotEq else .Eq)) (rOwnL Γ X.K neg) := by
  intro pins s σ H x y v u Q I rx ry hq
  obtain ⟨a, b, xs, ys, d, rfl, rfl, ha, hb, o, q⟩ := hq
  have h0 := h.room.units0
  by_cases len : xs.length = ys.length
  · cases rx
    cases ry
    have ts := fun (Q' : Value → Shared → Prop) => own_turns h (pins := pins) (σ := σ) (R := wants (fun v t => v ≠ .notImplemented ∧ Q' v t) X.xe) (fun _ _ z => z) ha hb len (o len)
    rw [decide_eq_true len, Bool.true_and] at q
    cases neg with
    | false => exact rc_lEq h0 (ts _) (fun i t ⟨H', I', k'⟩ => ⟨.bl _, H', I', rfl, q H' k'⟩) ⟨H, I, Ext.rfl'⟩
    | true => exact rc_lNe h0 (ts _) (fun i t ⟨H', I', k'⟩ => ⟨.bl _, H', I', rfl, q H' k'⟩) ⟨H, I, Ext.rfl'⟩
  · have q := q H (Ext.rfl')
    rw [decide_eq_false len, Bool.false_and] at q
    cases neg with
    | false => exact op_eqLen (by have := h.room.un; omega) pins s σ H _ _ v u Q I rx ry ⟨a, b, xs, ys, rfl, rfl, .inl (.inl ha), .inl (.inl hb), len, q⟩
    | true => exact op_neLen (by have := h.room.un; omega) pins s σ H _ _ v u Q I rx ry ⟨a, b, xs, ys, rfl, rfl, .inl (.inl ha), .inl (.inl hb), len, q⟩
end
end Rf
namespace Rf
open PySem PySem.Spec PyProof.Rows L2

/-! ### the syntax -/
inductive BM where
  | append | index | extend | count | popAt
  deriving DecidableEq
def BM.name : BM → Str
  | .append => "append" | .index => "index" | .extend => "extend" | .count => "count" | .popAt => "pop"
/-- further expressions of one part -/
inductive UX where
  | revL (k : Nat) (p1 p2 p3 : Pos)
  | clear (q : Pos)
  | pop (q : Pos)
  | lenD (q : Pos)
  | clearD (q : Pos)
  | reprD (q : Pos)
  | ssetT (q1 q2 p2 : Pos)
  | ssetL (q1 q2 p2 : Pos)
  | lenSet (q1 q2 p2 : Pos)
  | lrng (q1 q2 p2 : Pos)
def UX.e : UX → Expr → Pos → Expr
  | .revL k p1 p2 p3, a, p => .Subscript a (.Slice none none (some (.UnaryOp .USub (.Constant (.int 1) k p1) p2)) p3) p
  | .clear q, a, p => .Call (.Attribute a "clear" q) [] [] p
  | .pop q, a, p => .Call (.Attribute a "pop" q) [] [] p
  | .lenD q, a, p => .Call (.Name "len" q) [a] [] p
  | .clearD q, a, p => .Call (.Attribute a "clear" q) [] [] p
  | .reprD q, a, p => .Call (.Name "repr" q) [a] [] p
  | .ssetT q1 q2 p2, a, p => .Call (.Name "sorted" q1) [.Call (.Name "set" q2) [a] [] p2] [] p
  | .ssetL q1 q2 p2, a, p => .Call (.Name "sorted" q1) [.Call (.Name "set" q2) [a] [] p2] [] p
  | .lenSet q1 q2 p2, a, p => .Call (.Name "len" q1) [.Call (.Name "set" q2) [a] [] p2] [] p
  | .lrng q1 q2 p2, a, p => .Call (.Name "list" q1) [.Call (.Name "range" q2) [a] [] p2] [] p
def UX.t (_ : Gam) (K : Frag) : UX → TE → TE
  | .revL .., t => tRevL K t
  | .clear _, t => tBM0 K "list" rClear t
  | .pop _, t => tBM0 K "list" rPop t
  | .lenD _, t => tCB rLenDT (tCons t tNil)
  | .clearD _, t => tBM0 K "dict" rClearDT t
  | .reprD _, t => tCB (rRepD K) (tCons t tNil)
  | .ssetT .., t => tSsetT K t
  | .ssetL .., t => tSsetL K t
  | .lenSet .., t => tLenSetI K t
  | .lrng .., t => tLstRg (tRg1 t)
/-- further expressions of two parts -/
inductive UX2 where
  | sortKey (q1 kp : Pos)
  | lrng2 (q1 q2 p2 : Pos)
def UX2.e : UX2 → Expr → Expr → Pos → Expr
  | .sortKey q1 kp, a, b, p => .Call (.Name "sorted" q1) [a] [⟨some "key", b, kp⟩] p
  | .lrng2 q1 q2 p2, a, b, p => .Call (.Name "list" q1) [.Call (.Name "range" q2) [a, b] [] p2] [] p
def UX2.t (Γ : Gam) (K : Frag) : UX2 → TE → TE → TE
  | .sortKey .., t, u => tSortKey Γ.kf K t u
  | .lrng2 .., t, u => tLstRg (tRg2 t u)
/-- comparisons of dicts of tuple keys -/
inductive BX where
  | inD
  | notInD
  | eqD
  | neD
  | eqL
  | neL
def BX.op : BX → CmpOp
  | .inD => .In
  | .notInD => .NotIn
  | .eqD => .Eq
  | .neD => .NotEq
  | .eqL => .Eq
  | .neL => .NotEq
def BX.r (Γ : Gam) (K : Frag) : BX → R2
  | .inD => rInDT false
  | .notInD => rInDT true
  | .eqD => rSameDT K true
  | .neD => rSameDT K false
  | .eqL => rOwnL Γ K false
  | .neL => rOwnL Γ K true
mutual
inductive ME where
  | var (i : Nat) (x : Str) (p : Pos)
  | non (k : Nat) (p : Pos)
  | bl (b : Bool) (k : Nat) (p : Pos)
  | int (i : Int) (k : Nat) (p : Pos)
  | str (s : Str) (k : Nat) (p : Pos)
  | glo (i : Nat) (x : Str) (p : Pos)
  | bin (a : ME) (op : Operator) (b : ME) (p : Pos)
  | neg (a : ME) (p : Pos)
  | not (a : ME) (p : Pos)
  | cmp (a : ME) (op : CmpOp) (b : ME) (p : Pos)
  | cmp2 (a : ME) (op : CmpOp) (b : ME) (op2 : CmpOp) (c : ME) (p : Pos)
  | and (es : MEs) (p : Pos)
  | or (es : MEs) (p : Pos)
  | tup (es : MEs) (k : Nat) (p : Pos)
  | lst (es : MEs) (p : Pos)
  | dic0 (p : Pos)
  | sub (a i : ME) (p : Pos)
  | att (a : ME) (f : Str) (p : Pos)
  | call (i : Nat) (x : Str) (q : Pos) (es : MEs) (p : Pos)
  | make (i : Nat) (x : Str) (q : Pos) (es : MEs) (p : Pos)
  | blt (b : BF) (q : Pos) (e : ME) (es : MEs) (p : Pos)
  | own (a : ME) (m : Str) (q : Pos) (es : MEs) (p : Pos)
  | bm (m : BM) (a : ME) (q : Pos) (e : ME) (p : Pos)
  | rep (q : Pos) (e : ME) (p : Pos)
  | fmt (e : ME) (p : Pos)
  | fst (es : MEs) (p : Pos)
  | callK (i j : Nat) (x : Str) (q : Pos) (es : MEs) (ks : List (Str × Pos)) (ws : MEs) (p : Pos)
  | makeK (i j : Nat) (x : Str) (q : Pos) (es : MEs) (ks : List (Str × Pos)) (ws : MEs) (p : Pos)
  | ownK (j : Nat) (a : ME) (m : Str) (q : Pos) (es : MEs) (ks : List (Str × Pos)) (ws : MEs) (p : Pos)
  | lam (i : Nat) (x : Str) (q : Pos) (body : ME) (scope : Scope) (lp : Pos) (p : Pos)
  | dget (a k d : ME) (q p : Pos)
  | bltK (b : BK) (q : Pos) (e d : ME) (kp p : Pos)
  | dsetd (a k d : ME) (q p : Pos)
  | sset (q1 q2 : Pos) (e : ME) (p2 p1 : Pos)
  | sortLen (q1 : Pos) (e : ME) (kp lp ap p1 p2 p3 p4 p5 p6 p7 p8 p9 : Pos) (k1 k2 k3 : Nat) (scope : Scope) (p : Pos)
  | ife (c a b : ME) (p : Pos)
  | slc (a : ME) (lo hi : MO) (p2 p : Pos)
  | ux (o : UX) (a : ME) (p : Pos)
  | ux2 (o : UX2) (a b : ME) (p : Pos)
  | bx (o : BX) (a b : ME) (p : Pos)
  | lc (elt : ME) (tg : MT) (it : MI) (ifs : MEs) (own : List (Str × Nat)) (scope : Scope) (p : Pos)
inductive MEs where
  | nil
  | cons (e : ME) (r : MEs)
inductive MO where
  | none
  | some (e : ME)
inductive MT where
  | name (i : Nat) (x : Str) (p : Pos)
  | tup (ts : MTs) (k : Nat) (p : Pos)
  | sub (a i : ME) (p : Pos)
inductive MTs where
  | nil
  | cons (t : MT) (r : MTs)
inductive MI where
  | val (e : ME)
  | rng1 (q : Pos) (a : ME) (p : Pos)
  | rng2 (q : Pos) (a b : ME) (p : Pos)
  | enum (q : Pos) (a : ME) (p : Pos)
  | zip (q : Pos) (a b : ME) (p : Pos)
  | items (e : ME) (q p : Pos)
end

/-! ### the text -/
mutual
def eE : ME → Expr
  | .var _ x p => .Name x p
  | .non k p => .Constant .none k p
  | .bl b k p => .Constant (.bool b) k p
  | .int i k p => .Constant (.int i) k p
  | .str s k p => .Constant (.str s) k p
  | .glo _ x p => .Name x p
  | .bin a op b p => .BinOp (eE a) op (eE b) p
  | .neg a p => .UnaryOp .USub (eE a) p
  | .not a p => .UnaryOp .Not (eE a) p
  | .cmp a op b p => .Compare (eE a) [op] [eE b] p
  | .cmp2 a op b op2 c p => .Compare (eE a) [op, op2] [eE b, eE c] p
  | .and es p => .BoolOp .And (eEs es) p
  | .or es p => .BoolOp .Or (eEs es) p
  | .tup es k p => .Tuple (eEs es) k p
  | .lst es p => .List (eEs es) p
  | .dic0 p => .Dict [] [] p
  | .sub a i p => .Subscript (eE a) (eE i) p
  | .att a f p => .Attribute (eE a) f p
  | .call _ x q es p => .Call (.Name x q) (eEs es) [] p
  | .make _ x q es p => .Call (.Name x q) (eEs es) [] p
  | .blt b q e es p => .Call (.Name b.name q) (eE e :: eEs es) [] p
  | .own a m q es p => .Call (.Attribute (eE a) m q) (eEs es) [] p
  | .bm m a q e p => .Call (.Attribute (eE a) m.name q) [eE e] [] p
  | .rep q e p => .Call (.Name "repr" q) [eE e] [] p
  | .fmt e p => .FormattedValue (eE e) (-1) none p
  | .fst es p => .JoinedStr (eEs es) p
  | .callK _ _ x q es ks ws p => .Call (.Name x q) (eEs es) (eKs ws ks) p
  | .makeK _ _ x q es ks ws p => .Call (.Name x q) (eEs es) (eKs ws ks) p
  | .ownK _ a m q es ks ws p => .Call (.Attribute (eE a) m q) (eEs es) (eKs ws ks) p
  | .lam _ x q body scope lp p => .Call (.Name x q) [.Lambda ⟨[], [], none, [], [], none, []⟩ (eE body) scope lp] [] p
  | .dget a k d q p => .Call (.Attribute (eE a) "get" q) [eE k, eE d] [] p
  | .bltK b q e d kp p => .Call (.Name b.name q) [eE e] [⟨some b.kw, eE d, kp⟩] p
  | .dsetd a k d q p => .Call (.Attribute (eE a) "setdefault" q) [eE k, eE d] [] p
  | .sset q1 q2 e p2 p1 => .Call (.Name "sorted" q1) [.Call (.Name "set" q2) [eE e] [] p2] [] p1
  | .sortLen q1 e kp lp ap p1 p2 p3 p4 p5 p6 p7 p8 p9 k1 k2 k3 scope p => .Call (.Name "sorted" q1) [eE e] [⟨some "key", .Lambda (lenArgs "row" ap) (lenBody "row" p1 p2 p3 p4 p5 p6 p7 p8 p9 k1 k2 k3) scope lp, kp⟩] p
  | .ife c a b p => .IfExp (eE c) (eE a) (eE b) p
  | .slc a lo hi p2 p => .Subscript (eE a) (.Slice (eO lo) (eO hi) none p2) p
  | .ux o a p => o.e (eE a) p
  | .ux2 o a b p => o.e (eE a) (eE b) p
  | .bx o a b p => .Compare (eE a) [o.op] [eE b] p
  | .lc elt tg it ifs _ scope p => .ListComp (eE elt) [⟨eT tg, eI it, eEs ifs, 0⟩] scope p
def eEs : MEs → List Expr
  | .nil => []
  | .cons e r => eE e :: eEs r
def eKs : MEs → List (Str × Pos) → List Keyword
  | .nil, _ => []
  | .cons e r, ks => (match ks with
    | (n, p) :: ks' => ⟨some n, eE e, p⟩ :: eKs r ks'
    | [] => [])
def eO : MO → Option Expr
  | .none => none
  | .some e => some (eE e)
def eT : MT → Expr
  | .name _ x p => .Name x p
  | .tup ts k p => .Tuple (eTs ts) k p
  | .sub a i p => .Subscript (eE a) (eE i) p
def eTs : MTs → List Expr
  | .nil => []
  | .cons t r => eT t :: eTs r
def eI : MI → Expr
  | .val e => eE e
  | .rng1 q a p => .Call (.Name "range" q) [eE a] [] p
  | .rng2 q a b p => .Call (.Name "range" q) [eE a, eE b] [] p
  | .enum q a p => .Call (.Name "enumerate" q) [eE a] [] p
  | .zip q a b p => .Call (.Name "zip" q) [eE a, eE b] [] p
  | .items e q p => .Call (.Attribute (eE e) "items" q) [] [] p
end

/-! ### what it means -/
def tAs : List (TE × TT) → TA
  | [] => tNil
  | d :: r => tCons d.1 (tAs r)
def tAndT : List (TE × TT) → TT
  | [] => fun _ _ _ => False
  | [d] => d.2
  | d :: r => L2.tAnd d.2 (tAndT r)
def tOrT' : List (TE × TT) → TT
  | [] => fun _ _ _ => False
  | [d] => d.2
  | d :: r => L2.tOr d.2 (tOrT' r)
def tRu (K : Frag) (t : TE) : TT := fun σ H Q => t σ H fun x H1 => rTru K x H1 Q
def tAndVs (K : Frag) : List (TE × TT) → TE
  | [] => fun _ _ _ => False
  | [d] => d.1
  | d :: r => fun σ H Q => d.1 σ H fun x H1 => rTru K x H1 fun k H2 => if k = true then tAndVs K r σ H2 Q else Q x H2
def tOrVs (K : Frag) : List (TE × TT) → TE
  | [] => fun _ _ _ => False
  | [d] => d.1
  | d :: r => fun σ H Q => d.1 σ H fun x H1 => rTru K x H1 fun k H2 => if k = true then Q x H2 else tOrVs K r σ H2 Q
def rNeg : V → Hp → VK → Prop := fun x H Q => match x with
  | .int i => Q (.int (-i)) H
  | _ => False
def rSub (K : Frag) : R2 := fun x y H Q => match x, y with
  | .ref p, .int i => (∃ xs v, (SqL K H p xs ∨ SqT K H p xs) ∧ atI xs i = some v ∧ Q v H)
  | .ref p, .ref b => ∃ v, DGet H p (.ref b) (some v) ∧ Q v H
  | .ref p, .str x => ∃ v, DGet H p (.str x) (some v) ∧ Q v H
  | .str z, .int i => z.length ≤ sizeLine ∧ ∃ c, atI z.cps.toList i = some c ∧ Q (.str ⟨#[c]⟩) H
  | _, _ => False
def tOfTE (K : Frag) (t : TE) : TE × TT := (t, tRu K t)
def gAtt (Γ : Gam) (ta : TE) (f : Str) : TE := fun σ H Q => ta σ H fun x H1 => ∃ a C dx fs v, x = .ref a ∧ H1 a = some (.ins C dx fs) ∧ Γ.att C f ∧ fs.lookup f = some v ∧ Q v H1
def dflt (e : FnE) (n : Nat) : List V := e.dvs.drop (n + e.dvs.length - e.ps.length)
def gCall (Γ : Gam) (W : WX) (i n : Nat) (t : TA) : TE := fun σ H Q => match Γ.fn[i]? with
  | some (_, e) => t σ H fun vs H1 => e.sp (vs ++ dflt e n) H1 Q (fun c d H' => W c d σ H')
  | none => False
def gMake (Γ : Gam) (W : WX) (i n : Nat) (t : TA) : TE := fun σ H Q => match Γ.cl[i]? with
  | some (_, C, e) => t σ H fun vs H1 => ∀ x dx, H1 x = none → H1 dx = none → dx ≠ x →
      e.sp (.ref x :: (vs ++ dflt e (n + 1))) (upd (upd H1 dx (.own x)) x (.ins C dx [])) (fun v H2 => v = .non ∧ Q (.ref x) H2) (fun c d H' => W c d σ H')
  | none => False
def gOwn (Γ : Gam) (W : WX) (m : Str) (n : Nat) (ta : TE) (t : TA) : TE := fun σ H Q => ∃ C e, Γ.mt C m e ∧ ta σ H fun x H1 => ∃ a dx fs, x = .ref a ∧ H1 a = some (.ins C dx fs) ∧ fs.lookup m = none ∧
  t σ H1 fun vs H2 => e.sp (x :: (vs ++ dflt e (n + 1))) H2 Q (fun c d H' => W c d σ H')
def gLam (Γ : Gam) (i : Nat) (t : XK → TE) : TE := fun σ H Q => match Γ.lam[i]? with
  | some (_, TT) => LamX.tLam Γ.tb TT t σ H Q
  | none => False
def gCallK (Γ : Gam) (W : WX) (i j n : Nat) (ks : List Str) (t tk : TA) : TE := fun σ H Q => match Γ.fn[i]? with
  | some (_, e) => ∃ gV, e.kb[j]? = some (n, ks, gV) ∧ t σ H fun vs H1 => tk σ H1 fun zs H2 => vs.length = n ∧ zs.length = ks.length ∧ e.sp (gV vs zs) H2 Q (fun c d H' => W c d σ H')
  | none => False
def gMakeK (Γ : Gam) (W : WX) (i j n : Nat) (ks : List Str) (t tk : TA) : TE := fun σ H Q => match Γ.cl[i]? with
  | some (_, C, e) => ∃ gV, e.kb[j]? = some (n + 1, ks, gV) ∧ t σ H fun vs H1 => tk σ H1 fun zs H2 => vs.length = n ∧ zs.length = ks.length ∧ ∀ x dx, H2 x = none → H2 dx = none → dx ≠ x →
      e.sp (gV (.ref x :: vs) zs) (upd (upd H2 dx (.own x)) x (.ins C dx [])) (fun v H3 => v = .non ∧ Q (.ref x) H3) (fun c d H' => W c d σ H')
  | none => False
def gOwnK (Γ : Gam) (W : WX) (j : Nat) (m : Str) (n : Nat) (ks : List Str) (ta : TE) (t tk : TA) : TE := fun σ H Q => ∃ C e gV, Γ.mt C m e ∧ e.kb[j]? = some (n + 1, ks, gV) ∧ ta σ H fun x H1 => ∃ a dx fs, x = .ref a ∧ H1 a = some (.ins C dx fs) ∧ fs.lookup m = none ∧
  t σ H1 fun vs H2 => tk σ H2 fun zs H3 => vs.length = n ∧ zs.length = ks.length ∧ e.sp (gV (x :: vs) zs) H3 Q (fun c d H' => W c d σ H')
def BM.r (K : Frag) : BM → V → V → Hp → VK → Prop
  | .append => fun x y H Q => ∃ l xs, x = .ref l ∧ H l = some (.lst xs) ∧ xs.length < sizeLine ∧ Q .non (upd H l (.lst (xs ++ [y])))
  | .index => fun x y H Q => rIndex K x [y] H Q
  | .extend => fun x y H Q => rExtend x [y] H Q
  | .count => fun x y H Q => rCount K x [y] H Q
  | .popAt => fun x y H Q => rPopAt x [y] H Q
def bmR (K : Frag) (m : BM) : V → List V → Hp → VK → Prop := fun x xs H Q => match xs with
  | [y] => m.r K x y H Q
  | _ => False
def iVal (K : Frag) (te : TE) : TI := fun σ H R => te σ H fun x H1 => match x with
  | .ref a => (∃ xs, SqL K H1 a xs ∧ R (Itl K a) H1) ∨ (∃ xs, SqT K H1 a xs ∧ R (Itt K a) H1) ∨ (∃ o kvs, H1 a = some (.frz o (.dT kvs)) ∧ R (Itkt a o kvs) H1)
  | _ => False
/-- o[i] = v: of a list, of a dict -/
def rSetG : TSet := fun o i v H Q => rSetL o i v H Q ∨ rSetD o i v H Q
def rSl (K : Frag) : V → Option Int → Option Int → Hp → VK → Prop := fun x lo hi H Q => rSlL K x lo hi H Q ∨ rSlA K x lo hi H Q ∨ C8.rSlX x lo hi H Q
/-- a tuple, or a list, of values, taken apart -/
def SqU (K : Frag) (H : Hp) (a : Addr) (xs : List V) : Prop := Rd H a (.tup xs) ∨ SqT K H a xs ∨ SqL K H a xs
def gTupG (K : Frag) (n : Nat) (t : TGs) : TG := fun v σ H Q => ∃ a xs, v = .ref a ∧ SqU K H a xs ∧ xs.length = n ∧ t xs σ H Q
def MEs.len : MEs → Nat
  | .nil => 0
  | .cons _ r => r.len + 1
mutual
def dE (Γ : Gam) (K : Frag) : ME → WX → TE × TT
  | .var i _ _, _ => tOfTE K (tVar i)
  | .non _ _, _ => tOfTE K (tC .non)
  | .bl b _ _, _ => tOfTE K (tC (.bl b))
  | .int i _ _, _ => tOfTE K (tC (.int i))
  | .str s _ _, _ => tOfTE K (tC (.str s))
  | .glo i _ _, _ => tOfTE K (fun _ H Q => match Γ.glo[i]? with | some (_, v) => Q v H | none => False)
  | .bin a op b _, W => tOfTE K (tOp (rBin K op) (dE Γ K a W).1 (dE Γ K b W).1)
  | .neg a _, W => tOfTE K (tUn rNeg (dE Γ K a W).1)
  | .not a _, W => (fun σ H Q => (dE Γ K a W).1 σ H fun x H1 => rTru K x H1 fun k H2 => Q (.bl (!k)) H2, L2.tNot (dE Γ K a W).2)
  | .cmp a op b _, W => (tOp (rCmp Γ K op) (dE Γ K a W).1 (dE Γ K b W).1, tTest (tOp (rCmp Γ K op) (dE Γ K a W).1 (dE Γ K b W).1))
  | .cmp2 a op b op2 c _, W => (tChain (rCmp Γ K op) (rCmp Γ K op2) (dE Γ K a W).1 (dE Γ K b W).1 (dE Γ K c W).1, tTest (tChain (rCmp Γ K op) (rCmp Γ K op2) (dE Γ K a W).1 (dE Γ K b W).1 (dE Γ K c W).1))
  | .and es _, W => (tAndVs K (dEs Γ K es W), tAndT (dEs Γ K es W))
  | .or es _, W => (tOrVs K (dEs Γ K es W), tOrT' (dEs Γ K es W))
  | .tup es _ _, W => tOfTE K (tTup (tAs (dEs Γ K es W)))
  | .lst es _, W => tOfTE K (tLst (tAs (dEs Γ K es W)))
  | .dic0 _, _ => tOfTE K (fun _ H Q => (∀ p, H p = none → Q (.ref p) (upd H p (.dT []))) ∨ ∀ p, H p = none → Q (.ref p) (upd H p (.dK [])))
  | .sub a i _, W => tOfTE K (tOp (rSub K) (dE Γ K a W).1 (dE Γ K i W).1)
  | .att a f _, W => tOfTE K (gAtt Γ (dE Γ K a W).1 f)
  | .call i _ _ es _, W => tOfTE K (gCall Γ W i es.len (tAs (dEs Γ K es W)))
  | .make i _ _ es _, W => tOfTE K (gMake Γ W i es.len (tAs (dEs Γ K es W)))
  | .blt b _ e es _, W => tOfTE K (tCB (b.r K) (tCons (dE Γ K e W).1 (tAs (dEs Γ K es W))))
  | .own a m _ es _, W => tOfTE K (gOwn Γ W m es.len (dE Γ K a W).1 (tAs (dEs Γ K es W)))
  | .bm m a _ e _, W => tOfTE K (tBM K "list" (bmR K m) (dE Γ K a W).1 (tCons (dE Γ K e W).1 tNil))
  | .rep _ e _, W => tOfTE K (tCB (rRepL Γ) (tCons (dE Γ K e W).1 tNil))
  | .fmt e _, W => tOfTE K (tFmt (dE Γ K e W).1)
  | .fst es _, W => tOfTE K (fun σ H Q => tJs ((dEs Γ K es W).map (·.1)) Str.empty σ H fun out H1 => Q (.str out) H1)
  | .callK i j _ _ es ks ws _, W => tOfTE K (gCallK Γ W i j es.len (ks.map (·.1)) (tAs (dEs Γ K es W)) (tAs (dEs Γ K ws W)))
  | .makeK i j _ _ es ks ws _, W => tOfTE K (gMakeK Γ W i j es.len (ks.map (·.1)) (tAs (dEs Γ K es W)) (tAs (dEs Γ K ws W)))
  | .ownK j a m _ es ks ws _, W => tOfTE K (gOwnK Γ W j m es.len (ks.map (·.1)) (dE Γ K a W).1 (tAs (dEs Γ K es W)) (tAs (dEs Γ K ws W)))
  | .lam i _ _ body _ _ _, _ => tOfTE K (gLam Γ i fun E => (dE Γ K body (fun c d _ H => E c d H)).1)
  | .dget a k d _ _, W => tOfTE K (tDGet2 (dE Γ K a W).1 (dE Γ K k W).1 (dE Γ K d W).1)
  | .bltK b _ e d _ _, W => tOfTE K (tCKw (b.r K) (tCons (dE Γ K e W).1 tNil) (tCons (dE Γ K d W).1 tNil))
  | .dsetd a k d _ _, W => tOfTE K (tSetdT (dE Γ K a W).1 (dE Γ K k W).1 (dE Γ K d W).1)
  | .sset _ _ e _ _, W => tOfTE K (tSset K (dE Γ K e W).1)
  | .sortLen _ e _ _ _ _ _ _ _ _ _ _ _ _ _ _ _ _ _, W => tOfTE K (tSortLen Γ.tb K (dE Γ K e W).1)
  | .ife c a b _, W => (L2.tIf (dE Γ K c W).2 (dE Γ K a W).1 (dE Γ K b W).1, fun _ _ _ => False)
  | .slc a lo hi _ _, W => tOfTE K (tSl (rSl K) (dE Γ K a W).1 (dO Γ K lo W) (dO Γ K hi W))
  | .ux o a _, W => tOfTE K (o.t Γ K (dE Γ K a W).1)
  | .ux2 o a b _, W => tOfTE K (o.t Γ K (dE Γ K a W).1 (dE Γ K b W).1)
  | .bx o a b _, W => (tOp (o.r Γ K) (dE Γ K a W).1 (dE Γ K b W).1, tTest (tOp (o.r Γ K) (dE Γ K a W).1 (dE Γ K b W).1))
  | .lc elt tg it ifs own _ _, W => tOfTE K (tLc (dI Γ K it W) (dT Γ K tg (fun _ _ _ _ => False)) (match dEs Γ K ifs (fun _ _ _ _ => False) with | [] => tYes | d :: _ => d.2) (dE Γ K elt (fun _ _ _ _ => False)).1 (own.map (·.2)))
def dEs (Γ : Gam) (K : Frag) : MEs → WX → List (TE × TT)
  | .nil, _ => []
  | .cons e r, W => dE Γ K e W :: dEs Γ K r W
def dO (Γ : Gam) (K : Frag) : MO → WX → TO
  | .none, _ => tNoPart
  | .some e, W => tPart (dE Γ K e W).1
def dT (Γ : Gam) (K : Frag) : MT → WX → TG
  | .name i _ _, _ => gName i
  | .tup ts _ _, W => gTupG K (dTs Γ K ts W).1 (dTs Γ K ts W).2
  | .sub a i _, W => gSub (dE Γ K a W).1 (dE Γ K i W).1 rSetG
def dTs (Γ : Gam) (K : Frag) : MTs → WX → Nat × TGs
  | .nil, _ => (0, gNil)
  | .cons t r, W => ((dTs Γ K r W).1 + 1, gCons (dT Γ K t W) (dTs Γ K r W).2)
def dI (Γ : Gam) (K : Frag) : MI → WX → TI
  | .val e, W => iVal K (dE Γ K e W).1
  | .rng1 _ a _, W => iRng1 (tCons (dE Γ K a W).1 tNil)
  | .rng2 _ a b _, W => iRng2 (tCons (dE Γ K a W).1 (tCons (dE Γ K b W).1 tNil))
  | .enum _ a _, W => iEnum K (tCons (dE Γ K a W).1 tNil)
  | .zip _ a b _, W => iZip K (tCons (dE Γ K a W).1 (tCons (dE Γ K b W).1 tNil))
  | .items e _ _, W => iItT (dE Γ K e W).1
end

/-! ### what is looked at in the text -/
def okName (sc : Scope) (x : Str) (ks : List NameKind) : Bool := (match sc.names.lookup x with | some k => ks.contains k | none => false) && !(x == ("__debug__" : Str)) && !(x == ("__classdict__" : Str)) && !(x == ("__name__" : Str)) && !(x == ("super" : Str))
def okBlt (n : Nms) (sc : Scope) (x : Str) : Bool := n.blt.contains x && okName sc x [.globalImplicit]
def UX.w (n : Nms) (sc : Scope) : UX → Pos → Bool
  | .revL .., _ => true
  | .clear q, p => q.endLine == p.line
  | .pop q, p => q.endLine == p.line
  | .lenD _, _ => okBlt n sc "len"
  | .clearD q, p => q.endLine == p.line
  | .reprD _, _ => okBlt n sc "repr" && n.gd
  | .ssetT .., _ => okBlt n sc "sorted" && okBlt n sc "set"
  | .ssetL .., _ => okBlt n sc "sorted" && okBlt n sc "set"
  | .lenSet .., _ => okBlt n sc "len" && okBlt n sc "set"
  | .lrng .., _ => okBlt n sc "list" && okBlt n sc "range"
def UX2.w (n : Nms) (sc : Scope) : UX2 → Pos → Bool
  | .sortKey .., _ => okBlt n sc "sorted"
  | .lrng2 .., _ => okBlt n sc "list" && okBlt n sc "range"
mutual
def isLc : ME → Bool
  | .lc .. => true
  | _ => false
end
def isTupT : MT → Bool
  | .tup .. => true
  | _ => false
mutual
def wE (N : List Str) : Nms → ME → Scope → Bool
  | n, .var i x _, sc => decide (N[i]? = some x) && okName sc x [.local, .cell, .free]
  | n, .non _ _, _ => true
  | n, .bl _ _ _, _ => true
  | n, .int _ _ _, _ => true
  | n, .str _ _ _, _ => true
  | n, .glo i x _, sc => decide (n.glo[i]? = some x) && okName sc x [.globalImplicit]
  | n, .bin a _ b _, sc => wE N n a sc && wE N n b sc
  | n, .neg a _, sc => wE N n a sc
  | n, .not a _, sc => wE N n a sc
  | n, .cmp a _ b _, sc => wE N n a sc && wE N n b sc
  | n, .cmp2 a _ b _ c _, sc => wE N n a sc && wE N n b sc && wE N n c sc
  | n, .and es _, sc => wEs N n es sc
  | n, .or es _, sc => wEs N n es sc
  | n, .tup es _ _, sc => wEs N n es sc
  | n, .lst es _, sc => wEs N n es sc
  | n, .dic0 _, _ => true
  | n, .sub a i _, sc => wE N n a sc && wE N n i sc
  | n, .att a _ _, sc => wE N n a sc
  | n, .call i x _ es _, sc => decide (n.fn[i]? = some x) && okName sc x [.globalImplicit] && wEs N n es sc && (n.gd || !(n.fng.getD i false))
  | n, .make i x _ es _, sc => decide (n.cl[i]? = some x) && okName sc x [.globalImplicit] && wEs N n es sc
  | n, .blt b _ e es _, sc => okBlt n sc b.name && wE N n e sc && wEs N n es sc
  | n, .own a _ q es p, sc => wE N n a sc && wEs N n es sc && (q.endLine == p.line) && decide (es.len < 30)
  | n, .bm _ a q e p, sc => wE N n a sc && wE N n e sc && (q.endLine == p.line)
  | n, .rep _ e _, sc => okBlt n sc "repr" && wE N n e sc
  | n, .fmt e _, sc => wE N n e sc
  | n, .fst es _, sc => wEs N n es sc && decide (2 ≤ es.len)
  | n, .callK i _ x _ es ks ws _, sc => decide (n.fn[i]? = some x) && okName sc x [.globalImplicit] && wEs N n es sc && wEs N n ws sc && decide (ks.length = ws.len) && (n.gd || !(n.fng.getD i false))
  | n, .makeK i _ x _ es ks ws _, sc => decide (n.cl[i]? = some x) && okName sc x [.globalImplicit] && wEs N n es sc && wEs N n ws sc && decide (ks.length = ws.len)
  | n, .ownK _ a _ q es ks ws p, sc => wE N n a sc && wEs N n es sc && wEs N n ws sc && decide (ks.length = ws.len) && (q.endLine == p.line) && decide (es.len + ws.len < 29)
  | n, .lam i x _ body scope _ _, sc => decide (n.lam[i]? = some x) && okName sc x [.globalImplicit] && n.lq.isSome && LamX.lamSB sc scope && wE N { n with lq := none, gd := false } body scope
  | n, .bltK b _ e d _ _, sc => okBlt n sc b.name && wE N n e sc && wE N n d sc
  | n, .dget a k d q p, sc => wE N n a sc && wE N n k sc && wE N n d sc && (q.endLine == p.line)
  | n, .dsetd a k d q p, sc => wE N n a sc && wE N n k sc && wE N n d sc && (q.endLine == p.line)
  | n, .sset _ _ e _ _, sc => okBlt n sc "sorted" && okBlt n sc "set" && wE N n e sc
  | n, .sortLen _ e _ _ _ _ _ _ _ _ _ _ _ _ _ _ _ scope _, sc => okBlt n sc "sorted" && n.blt.contains "len" && n.lq.isSome && lenScopeB "row" scope && (scope.names.all fun y => !decide (y.2 = .free)) && wE N n e sc
  | n, .ife c a b _, sc => wE N n c sc && wE N n a sc && wE N n b sc
  | n, .slc a lo hi _ _, sc => wE N n a sc && wO N n lo sc && wO N n hi sc
  | n, .ux o a p, sc => wE N n a sc && o.w n sc p
  | n, .ux2 o a b p, sc => wE N n a sc && wE N n b sc && o.w n sc p
  | n, .bx _ a b _, sc => wE N n a sc && wE N n b sc
  | n, .lc elt tg it ifs own scope _, sc => wI N n it sc && (match it with | .val _ => true | .rng1 .. => true | .rng2 .. => true | _ => isTupT tg) && blkC N sc scope own && wT N n tg (relS scope sc) scope && wEs N n ifs (relS scope sc) && decide (ifs.len ≤ 1) && wE N n elt (relS scope sc)
def wEs (N : List Str) : Nms → MEs → Scope → Bool
  | n, .nil, _ => true
  | n, .cons e r, sc => wE N n e sc && wEs N n r sc
def wO (N : List Str) : Nms → MO → Scope → Bool
  | n, .none, _ => true
  | n, .some e, sc => wE N n e sc
def wT (N : List Str) : Nms → MT → Scope → Scope → Bool
  | n, .name i x _, _, st => decide (N[i]? = some x) && okName st x [.local, .cell]
  | n, .tup ts _ _, sc, st => wTs N n ts sc st
  | n, .sub a i _, sc, _ => wE N n a sc && wE N n i sc
def wTs (N : List Str) : Nms → MTs → Scope → Scope → Bool
  | n, .nil, _, _ => true
  | n, .cons t r, sc, st => wT N n t sc st && wTs N n r sc st
def wI (N : List Str) : Nms → MI → Scope → Bool
  | n, .val e, sc => wE N n e sc
  | n, .rng1 _ a _, sc => okBlt n sc "range" && wE N n a sc
  | n, .rng2 _ a b _, sc => okBlt n sc "range" && wE N n a sc && wE N n b sc
  | n, .enum _ a _, sc => okBlt n sc "enumerate" && wE N n a sc
  | n, .zip _ a b _, sc => okBlt n sc "zip" && wE N n a sc && wE N n b sc
  | n, .items e q p, sc => wE N n e sc && (q.endLine == p.line)
end
end Rf
namespace Rf
open PySem PySem.Spec PyProof.Rows L2

/-! ### the shapes that the rules ask of the text -/
theorem star_e (m : ME) (es : List Expr) (env : Env) : starEach (eE m :: es) env = (false, eval (eE m) env) :: starEach es env := by cases m <;> first | rfl | (rename_i o _ _; cases o <;> rfl) | (rename_i o _ _ _; cases o <;> rfl)
theorem star_es : ∀ (r : MEs) (env : Env), (starEach (eEs r) env).any (·.1) = false
  | .nil, _ => rfl
  | .cons e r, env => by
    show (starEach (eE e :: eEs r) env).any (·.1) = false
    rw [star_e]
    show (false || (starEach (eEs r) env).any (·.1)) = false
    rw [star_es r env]
    rfl
theorem back_any {pos : Pos} : ∀ (l : List (Bool × Sem Value)), l.any (·.1) = false → (backTo pos l).any (·.1) = false
  | [], _ => rfl
  | (b, t) :: r, h => by
    have h' : (b || r.any (·.1)) = false := h
    rw [Bool.or_eq_false_iff] at h'
    show (b || (backTo pos r).any (·.1)) = false
    rw [h'.1, back_any r h'.2]
    rfl
theorem plain_es (r : MEs) (env : Env) (pos : Pos) : (backTo pos (starEach (eEs r) env)).any (·.1) = false := back_any _ (star_es r env)
theorem all_of_any : ∀ (l : List (Bool × Sem Value)), l.any (·.1) = false → l.all (fun x => !x.1) = true
  | [], _ => rfl
  | (b, t) :: r, h => by
    have h' : (b || r.any (·.1)) = false := h
    rw [Bool.or_eq_false_iff] at h'
    show (!b && r.all (fun x => !x.1)) = true
    rw [h'.1, all_of_any r h'.2]
    rfl
theorem len_es : ∀ r : MEs, (eEs r).length = r.len
  | .nil => rfl
  | .cons e r => by show (eEs r).length + 1 = r.len + 1; rw [len_es r]
theorem okName_ks {sc : Scope} {x : Str} {ks : List NameKind} (h : okName sc x ks = true) : ∃ k ∈ ks, sc.names.lookup x = some k := by
  unfold okName at h
  simp only [Bool.and_eq_true] at h
  obtain ⟨⟨⟨⟨h, _⟩, _⟩, _⟩, _⟩ := h
  split at h
  · rename_i k e
    exact ⟨k, by simpa using h, e⟩
  · cases h
theorem okName_db {sc : Scope} {x : Str} {ks : List NameKind} (h : okName sc x ks = true) : (x == ("__debug__" : Str)) = false := by
  unfold okName at h
  simp only [Bool.and_eq_true, Bool.not_eq_true'] at h
  exact h.1.1.1.2
theorem okName_cd {sc : Scope} {x : Str} {ks : List NameKind} (h : okName sc x ks = true) : (x == ("__classdict__" : Str)) = false := by
  unfold okName at h
  simp only [Bool.and_eq_true, Bool.not_eq_true'] at h
  exact h.1.1.2
theorem okName_nm {sc : Scope} {x : Str} {ks : List NameKind} (h : okName sc x ks = true) : x ≠ "__name__" := by
  unfold okName at h
  simp only [Bool.and_eq_true, Bool.not_eq_true'] at h
  intro e
  rw [e] at h
  exact absurd h.1.2 (by decide +kernel)
theorem okName_su {sc : Scope} {x : Str} {ks : List NameKind} (h : okName sc x ks = true) : (x != ("super" : Str)) = true := by
  unfold okName at h
  simp only [Bool.and_eq_true, Bool.not_eq_true'] at h
  show (!(x == ("super" : Str))) = true
  rw [h.2]
  rfl
theorem abase {n : Nms} {N : List Str} {sc : Scope} (a : ME) (h : wE N n a sc = true) (f : Str) (env : Env) : attributeBase (eE a) f env (eval (eE a) env) = eval (eE a) env := by
  cases a with
  | call i x q es p =>
    cases es with
    | nil =>
      unfold wE at h
      simp only [Bool.and_eq_true] at h
      exact abase_call (okName_su h.1.1.2)
    | cons e r => rfl
  | make i x q es p =>
    cases es with
    | nil =>
      unfold wE at h
      simp only [Bool.and_eq_true] at h
      exact abase_call (okName_su h.1.2)
    | cons e r => rfl
  | callK i j x q es ks ws p =>
    cases es with
    | nil =>
      unfold wE at h
      simp only [Bool.and_eq_true] at h
      have hs := okName_su h.1.1.1.1.2
      cases ws with
      | nil => exact abase_call hs
      | cons e r =>
        cases ks with
        | nil => exact abase_call hs
        | cons k ks => rfl
    | cons e r => rfl
  | makeK i j x q es ks ws p =>
    cases es with
    | nil =>
      unfold wE at h
      simp only [Bool.and_eq_true] at h
      have hs := okName_su h.1.1.1.2
      cases ws with
      | nil => exact abase_call hs
      | cons e r =>
        cases ks with
        | nil => exact abase_call hs
        | cons k ks => rfl
    | cons e r => rfl
  | ux o a p => cases o <;> rfl
  | ux2 o a b p => cases o <;> rfl
  | _ => rfl
theorem plainIx (i : ME) : PlainIx (eE i) := by intro o v; cases i <;> first | rfl | (rename_i o _ _; cases o <;> rfl) | (rename_i o _ _ _; cases o <;> rfl)
theorem nofold (m : ME) (env : Env) (x : Value) : foldedSetIterable (eE m) env x = pure x := by cases m <;> first | rfl | (rename_i o _ _; cases o <;> rfl) | (rename_i o _ _ _; cases o <;> rfl)
theorem nofoldI (m : MI) (env : Env) (x : Value) : foldedSetIterable (eI m) env x = pure x := by
  cases m with
  | val e => exact nofold e env x
  | _ => rfl
theorem nomarkE (op : CmpOp) (b : ME) : behindInMarks op (eE b) = false := by cases b <;> first | rfl | (rename_i o _ _; cases o <;> rfl) | (rename_i o _ _ _; cases o <;> rfl)
theorem noswap (m : ME) (t : Option Expr) (l : Nat) (env : Env) (h : isLc m = false) : swapsWith (eE m) t l env = pure false := by
  cases m with
  | lc => cases h
  | ux o a p => cases o <;> rfl
  | ux2 o a b p => cases o <;> rfl
  | _ => rfl
theorem mcall_own {o : Expr} {m : Str} {apos pos : Pos} {args : List Expr} {env : Env} (hb : attributeBase o m env (eval o env) = eval o env)
    (hform : methodCallForm (args.length + ([] : List Keyword).length) (backTo pos (starEach args env)) (backToKw pos (keywordEach [] env)) = true) (hline : (apos.endLine == pos.line) = true) :
    eval (.Call (.Attribute o m apos) args [] pos) env = (do
      let ov ← eval o env
      standAt apos.atName
      let (f, first) ← holding [ov] (getMethod ov m (do return (← importBound o env).getD true))
      callWith pos f first (backTo pos (starEach args env)) (backToKw pos (keywordEach [] env))) := by
  refine mcall_of hb fun ov => ?_
  have hpos : methodCallPos true o env apos pos = pure pos := by
    unfold methodCallPos
    simp [hline]
  unfold methodCall
  rw [hform, hpos]
  rfl
theorem form_es (r : MEs) (env : Env) (pos : Pos) (h : r.len < 30) : methodCallForm ((eEs r).length + ([] : List Keyword).length) (backTo pos (starEach (eEs r) env)) (backToKw pos (keywordEach [] env)) = true := by
  unfold methodCallForm
  rw [all_of_any _ (plain_es r env pos), len_es]
  simp only [Bool.true_and, Bool.and_eq_true, decide_eq_true_eq]
  exact ⟨rfl, by show r.len + 0 + 0 < 30; omega⟩
theorem kw_some (pos : Pos) (env : Env) : ∀ (ws : MEs) (ks : List (Str × Pos)), (backToKw pos (keywordEach (eKs ws ks) env)).all (·.1.isSome) = true
  | .nil, ks => rfl
  | .cons e r, [] => rfl
  | .cons e r, (n, p) :: ks => by
    show (true && (backToKw pos (keywordEach (eKs r ks) env)).all (·.1.isSome)) = true
    rw [kw_some pos env r ks]
    rfl
theorem kw_none (pos : Pos) (env : Env) : ∀ (ws : MEs) (ks : List (Str × Pos)), (backToKw pos (keywordEach (eKs ws ks) env)).any (·.1.isNone) = false
  | .nil, ks => rfl
  | .cons e r, [] => rfl
  | .cons e r, (n, p) :: ks => by
    show (false || (backToKw pos (keywordEach (eKs r ks) env)).any (·.1.isNone)) = false
    rw [kw_none pos env r ks]
    rfl
theorem kw_names (pos : Pos) (env : Env) : ∀ (ws : MEs) (ks : List (Str × Pos)), ks.length = ws.len → (backToKw pos (keywordEach (eKs ws ks) env)).filterMap (·.1) = ks.map (·.1)
  | .nil, [], h => rfl
  | .nil, _ :: _, h => by cases h
  | .cons e r, [], h => by cases h
  | .cons e r, (n, p) :: ks, h => by
    show n :: (backToKw pos (keywordEach (eKs r ks) env)).filterMap (·.1) = n :: ks.map (·.1)
    rw [kw_names pos env r ks (Nat.succ.inj h)]
theorem kw_len : ∀ (ws : MEs) (ks : List (Str × Pos)), ks.length = ws.len → (eKs ws ks).length = ws.len
  | .nil, ks, h => rfl
  | .cons e r, [], h => by cases h
  | .cons e r, (n, p) :: ks, h => by
    show (eKs r ks).length + 1 = r.len + 1
    rw [kw_len r ks (Nat.succ.inj h)]
theorem form_ks (es ws : MEs) (ks : List (Str × Pos)) (env : Env) (pos : Pos) (h : es.len + ws.len < 29) (hk : ks.length = ws.len) : methodCallForm ((eEs es).length + (eKs ws ks).length) (backTo pos (starEach (eEs es) env)) (backToKw pos (keywordEach (eKs ws ks) env)) = true := by
  unfold methodCallForm
  rw [all_of_any _ (plain_es es env pos), kw_some, len_es, kw_len ws ks hk]
  simp only [Bool.true_and, decide_eq_true_eq]
  split <;> omega
theorem mcall_ownK {o : Expr} {m : Str} {apos pos : Pos} {args : List Expr} {kws : List Keyword} {env : Env} (hb : attributeBase o m env (eval o env) = eval o env)
    (hform : methodCallForm (args.length + kws.length) (backTo pos (starEach args env)) (backToKw pos (keywordEach kws env)) = true) (hline : (apos.endLine == pos.line) = true) :
    eval (.Call (.Attribute o m apos) args kws pos) env = (do
      let ov ← eval o env
      standAt apos.atName
      let (f, first) ← holding [ov] (getMethod ov m (do return (← importBound o env).getD true))
      callWith pos f first (backTo pos (starEach args env)) (backToKw pos (keywordEach kws env))) := by
  refine mcall_of hb fun ov => ?_
  have hpos : methodCallPos true o env apos pos = pure pos := by
    unfold methodCallPos
    simp [hline]
  unfold methodCall
  rw [hform, hpos]
  rfl
/-- an expression whose truth is its value's -/
def plainT : ME → Bool
  | .not .. => false
  | .cmp .. => false
  | .cmp2 .. => false
  | .and .. => false
  | .or .. => false
  | .ife .. => false
  | .bx .. => false
  | _ => true
theorem istrue_e (m : ME) (env : Env) (h : plainT m = true) (whole : Sem Value) : isTrue (eE m) env whole = (do let v ← whole; standAt (eE m).pos; holding [v] (truthy v)) := by
  cases m with
  | not => cases h
  | cmp => cases h
  | cmp2 => cases h
  | and => cases h
  | or => cases h
  | ife => cases h
  | bx => cases h
  | ux o a p => cases o <;> rfl
  | ux2 o a b p => cases o <;> rfl
  | _ => rfl
end Rf
namespace Rf
open PySem PySem.Spec PyProof.Rows L2

section
variable {X : Cx} {CX : CXT} {k : Nat} {f C : Addr} {fd : FuncData} {ps : List Str} {sp : Sp} {dvs : List V} {ds : List Value} {E : XK}
/-- a class is called; what is raised is wished for at these slots -/
theorem mk_at {pins : List (Addr × Obj)} {σ : L2.St} {H : Hp} {s : Shared} {Q : VK} {us : List Value} {vs : List V} (M : Mk X.K C f) (F : FnOk X.prog X.w X.K X.mg X.base CX k f fd ps sp) (hr : Room (k + 1) X.A) (hb : Binds X.K fd ps ds)
    (hd : Vals dvs ds) (hx : PassesAt CX X σ E) (I : L2.Inv X pins σ H s) (r : Vals vs us)
    (h : ∀ x dx, H x = none → H dx = none → dx ≠ x → sp (.ref x :: (vs ++ dvs)) (upd (upd H dx (.own x)) x (.ins C dx [])) (fun v H2 => v = .non ∧ Q (.ref x) H2) E) :
    wpAny (model X.prog X.w) X.A (call (.ref C) us) (EP X pins σ Q) X.xe s := by
  have new := h (s.heap.objs.size + 1) s.heap.objs.size (I.hok.fresh (Nat.le_succ _)) (I.hok.fresh (Nat.le_refl _)) (Nat.ne_of_lt (Nat.lt_succ_self _))
  have J := L2.Inv.made (C := C) I
  have rr : Vals (V.ref (s.heap.objs.size + 1) :: (vs ++ dvs)) (Value.ref (s.heap.objs.size + 1) :: (us ++ ds)) := .cons rfl (r.append hd)
  have len : (Value.ref (s.heap.objs.size + 1) :: us ++ ds).length = ps.length := by
    have z := rr.length
    rw [F.len _ _ _ _ new] at z
    exact z.symm
  have bb := hb _ (Value.ref (s.heap.objs.size + 1) :: us) J.kIn len
  refine wpAny_call (make_map (f := f) I.kIn M.makes M.init (beq_iff_eq.mp M.fn) ?_)
  refine codeAny_mono (F.run _ X.stack _ _ ⟨Value.ref (s.heap.objs.size + 1) :: us, []⟩ _ _ _ E (hr.make C us []) (J.env0.make C us []) bb rr new) fun res s' back => ?_
  cases res with
  | error e => exact hx pins _ _ e s' J back
  | ok fl =>
    cases fl with
    | ret u =>
      obtain ⟨v, H', J', rv, ev, q⟩ := J.after back
      subst ev
      exact ⟨rv, ⟨V.ref (s.heap.objs.size + 1), H', J', rfl, q⟩⟩
    | next => exact back.elim
    | brk => exact back.elim
    | cont => exact back.elim
end

/-- the items of a list, each as an expression and as a test -/
inductive LOk (X : Cx) : MEs → List (TE × TT) → Prop
  | nil : LOk X .nil []
  | cons {e : ME} {r : MEs} {d : TE × TT} {ds : List (TE × TT)} (h : PE X (eE e) d.1) (t : PT X (eE e) d.2) (l : LOk X r ds) : LOk X (.cons e r) (d :: ds)
theorem LOk.pa {X : Cx} : ∀ {r : MEs} {ds : List (TE × TT)}, LOk X r ds → PA X (eEs r) (tAs ds)
  | _, _, .nil => pa_nil
  | _, _, .cons h _ l => pa_cons h l.pa (star_e _ _ _)
theorem LOk.andT {X : Cx} {p : Pos} : ∀ {r : MEs} {ds : List (TE × TT)}, LOk X r ds → PW X (.BoolOp .And (eEs r) p) (tAndT ds)
  | _, _, .nil => ⟨fun _ _ _ _ _ _ _ h => (show False from h).elim⟩
  | _, _, .cons _ t .nil => pw_and1 t
  | _, _, .cons _ t (.cons h' t' l) => pw_and t (LOk.andT (.cons h' t' l))
theorem LOk.orT {X : Cx} {p : Pos} : ∀ {r : MEs} {ds : List (TE × TT)}, LOk X r ds → PW X (.BoolOp .Or (eEs r) p) (tOrT' ds)
  | _, _, .nil => ⟨fun _ _ _ _ _ _ _ h => (show False from h).elim⟩
  | _, _, .cons _ t .nil => pw_or1 t
  | _, _, .cons _ t (.cons h' t' l) => pw_or t (LOk.orT (.cons h' t' l))
theorem tru_at {X : Cx} {pins : List (Addr × Obj)} {σ : L2.St} {H : Hp} {s : Shared} {x : V} {v : Value} {Q : Bool → Hp → Prop} (I : L2.Inv X pins σ H s) (r : L2.RelV x v) (q : rTru X.K x H Q) :
    wpAny (model X.prog X.w) X.A (truthy v) (TP X pins σ Q) X.xe s := tru_ok pins s σ H x v Q I r (rTru_of q)
theorem pt_ru {X : Cx} {m : ME} {t : TE} (h : PE X (eE m) t) (hp : plainT m = true) : PT X (eE m) (tRu X.K t) := by
  refine ⟨fun pins s σ H Q I hw => ?_⟩
  exact isTrue_plain (thn (h.run pins s σ H _ I hw) fun v s1 ⟨x, H1, I1, r1, q1⟩ => tru_at I1 r1 q1) (istrue_e m _ hp _)
theorem pe_not' {X : Cx} {a : Expr} {t : TE} {p : Pos} (h : PE X a t) : PE X (.UnaryOp .Not a p) (fun σ H Q => t σ H fun x H1 => rTru X.K x H1 fun k H2 => Q (.bl (!k)) H2) := by
  refine ⟨fun pins s σ H Q I hw => UnaryOp_ (thn (h.run pins s σ H _ I hw) fun v s1 ⟨x, H1, I1, r1, q1⟩ => not_of (thn (tru_at I1 r1 q1) fun c s2 ⟨H2, I2, q2⟩ => ⟨.bl (!c), H2, I2, rfl, q2⟩))⟩
/-- the truth of x, then x itself once more -/
theorem tru_keep {X : Cx} {pins : List (Addr × Obj)} {σ : L2.St} {H : Hp} {s : Shared} {x : V} {v : Value} {k : Bool} (I : L2.Inv X pins σ H s) (r : L2.RelV x v) (e : TruV X.K x H k) :
    wpAny (model X.prog X.w) X.A (truthy v) (fun c s2 => c = k ∧ L2.Inv X pins σ H s2) X.xe s :=
  thn (tru_ok pins s σ H x v (fun c H2 => c = k ∧ H2 = H) I r ⟨k, e, rfl, rfl⟩) fun c s2 ⟨H2, I2, e1, e2⟩ => ⟨e1, by rw [← e2]; exact I2⟩
theorem pe_and' {X : Cx} {a b : Expr} {rest : List Expr} {ta tb : TE} {p : Pos} (ha : PE X a ta) (hb : PE X (.BoolOp .And (b :: rest) p) tb) :
    PE X (.BoolOp .And (a :: b :: rest) p) (fun σ H Q => ta σ H fun x H1 => rTru X.K x H1 fun k H2 => if k = true then tb σ H2 Q else Q x H2) := by
  refine ⟨fun pins s σ H Q I hw => BoolOp_and (thn (ha.run pins s σ H _ I hw) fun v s1 ⟨x, H1, I1, r1, q1⟩ => ?_)⟩
  obtain ⟨k, e, q⟩ := rTru_of q1
  refine thn (tru_keep I1 r1 e) fun c s2 hc => ?_
  obtain ⟨rfl, I2⟩ := hc
  cases c with
  | true => exact hb.run pins s2 σ H1 Q I2 q
  | false => exact ⟨x, H1, I2, r1, q⟩
theorem pe_or' {X : Cx} {a b : Expr} {rest : List Expr} {ta tb : TE} {p : Pos} (ha : PE X a ta) (hb : PE X (.BoolOp .Or (b :: rest) p) tb) :
    PE X (.BoolOp .Or (a :: b :: rest) p) (fun σ H Q => ta σ H fun x H1 => rTru X.K x H1 fun k H2 => if k = true then Q x H2 else tb σ H2 Q) := by
  refine ⟨fun pins s σ H Q I hw => BoolOp_or (thn (ha.run pins s σ H _ I hw) fun v s1 ⟨x, H1, I1, r1, q1⟩ => ?_)⟩
  obtain ⟨k, e, q⟩ := rTru_of q1
  refine thn (tru_keep I1 r1 e) fun c s2 hc => ?_
  obtain ⟨rfl, I2⟩ := hc
  cases c with
  | true => exact ⟨x, H1, I2, r1, q⟩
  | false => exact hb.run pins s2 σ H1 Q I2 q
theorem LOk.andV {X : Cx} {p : Pos} : ∀ {r : MEs} {ds : List (TE × TT)}, LOk X r ds → PE X (.BoolOp .And (eEs r) p) (tAndVs X.K ds)
  | _, _, .nil => ⟨fun _ _ _ _ _ _ h => (show False from h).elim⟩
  | _, _, .cons h _ .nil => pe_one h
  | _, _, .cons h _ (.cons h' t' l) => pe_and' h (LOk.andV (.cons h' t' l))
theorem LOk.orV {X : Cx} {p : Pos} : ∀ {r : MEs} {ds : List (TE × TT)}, LOk X r ds → PE X (.BoolOp .Or (eEs r) p) (tOrVs X.K ds)
  | _, _, .nil => ⟨fun _ _ _ _ _ _ h => (show False from h).elim⟩
  | _, _, .cons h _ .nil => pe_one h
  | _, _, .cons h _ (.cons h' t' l) => pe_or' h (LOk.orV (.cons h' t' l))

/-! ### small rules of one's own -/
theorem un_neg' {X : Cx} : UnR X (unaryOp .USub) rNeg := fun pins s σ H x v Q I r q => by
  cases x with
  | int i => exact un_neg pins s σ H (.int i) v Q I r ⟨i, rfl, q⟩
  | _ => exact (show False from q).elim
theorem IxR.imp {X : Cx} {r r' : R2} (h : IxR X r) (hi : ∀ x y H Q, r' x y H Q → r x y H Q) : IxR X r' := by
  intro e1 e2 pins s σ H x y v u Q I r1 r2 q hs
  exact h e1 e2 pins s σ H x y v u Q I r1 r2 (hi x y H Q q) hs
theorem ix_dget {X : Cx} (room : X.A.units + 1 < cLine) : IxR X (fun x y H Q => ∃ a v, x = .ref a ∧ DGet H a y (some v) ∧ Q v H) := by
  intro e1 e2 pins s σ H x y v u Q I r1 r2 q hs
  obtain ⟨a, z, rfl, g, q⟩ := q
  cases r1
  exact tail_any (dict_typeIs I g) PySem.F.slot_dict_getitem.lookup (d_getItem room I g r2 fun w' s' I' rw' => ⟨z, H, I', rw', q⟩) hs
theorem ix_sub {X : Cx} (room : X.A.units + 1 < cLine) : IxR X (rSub X.K) := IxR.imp (IxR.or ix_seq (ix_dget room)) fun x y H Q q => by
  unfold rSub at q
  split at q
  · obtain ⟨xs, v, h, e, q⟩ := q
    exact h.elim (fun h => .inl (.inl ⟨_, xs, _, v, rfl, rfl, h, e, q⟩)) fun h => .inl (.inr (.inl ⟨_, xs, _, v, rfl, rfl, h, e, q⟩))
  · obtain ⟨v, g, q⟩ := q
    exact .inr ⟨_, v, rfl, g, q⟩
  · obtain ⟨v, g, q⟩ := q
    exact .inr ⟨_, v, rfl, g, q⟩
  · obtain ⟨hz, c, e, q⟩ := q
    exact .inl (.inr (.inr ⟨_, _, c, rfl, rfl, hz, e, q⟩))
  · exact q.elim
theorem att_ok {X : Cx} {Γ : Gam} {n : Nms} {k : Nat} {N : List Str} {sc st : Scope} {W : WX} (hX : Cok X Γ n k N sc st W) {e : Expr} {f : Str} {ta : TE} {p : Pos} (he : PE X e ta) (hb : attributeBase e f X.env (eval e X.env) = eval e X.env) :
    PE X (.Attribute e f p) (gAtt Γ ta f) := by
  refine ⟨fun pins s σ H Q I h => attr_of hb (thn (he.run pins s σ H _ I h) fun u s1 hh => ?_)⟩
  obtain ⟨x, H1, I1, rx, a, C, dx, fs, v, ex, ea, ht, l, q⟩ := hh
  obtain ⟨c, nn⟩ := hX.gam.att C f ht
  subst ex
  cases rx
  exact getattr_ok I1 ea c nn l fun w s2 I2 rw' => ⟨v, H1, I2, rw', q⟩

theorem lk {α : Type} {l : List (Str × α)} {ns : List Str} {i : Nat} {x : Str} (e : l.map (·.1) = ns) (h : ns[i]? = some x) : ∃ a, l[i]? = some (x, a) ∧ (x, a) ∈ l := by
  rw [← e, List.getElem?_map] at h
  cases q : l[i]? with
  | none => rw [q] at h; cases h
  | some p =>
    rw [q] at h
    obtain ⟨y, a⟩ := p
    have z : y = x := Option.some.inj h
    subst z
    exact ⟨a, rfl, List.mem_of_getElem? q⟩
section
variable {X : Cx} {Γ : Gam} {n : Nms} {k : Nat} {N : List Str} {sc st : Scope} {W : WX}
theorem gl_of (hX : Cok X Γ n k N sc st W) {x : Str} (h : okName sc x [.globalImplicit] = true) : Gl X x := by
  obtain ⟨q, hq, e⟩ := okName_ks h
  have z : q = .globalImplicit := by simpa using hq
  subst z
  show X.env.scope.names.lookup x = some .globalImplicit
  rw [hX.eSc]
  exact e
theorem vis_of (hX : Cok X Γ n k N sc st W) {x : Str} (h : okName sc x [.local, .cell, .free] = true) : Vis X.env.scope x := by
  obtain ⟨q, hq, e⟩ := okName_ks h
  rw [hX.eSc]
  simp only [List.mem_cons, List.not_mem_nil, or_false] at hq
  rcases hq with rfl | rfl | rfl
  · exact .inl e
  · exact .inr (.inl e)
  · exact .inr (.inr e)
theorem glo_ok (hX : Cok X Γ n k N sc st W) {i : Nat} {x : Str} {p : Pos} (h1 : n.glo[i]? = some x) (h2 : okName sc x [.globalImplicit] = true) :
    PE X (.Name x p) (fun _ H Q => match Γ.glo[i]? with | some (_, v) => Q v H | none => False) := by
  obtain ⟨v, e, hm⟩ := lk hX.gam.gloN h1
  obtain ⟨u, r, h⟩ := hX.gam.glo x v hm
  refine ⟨fun pins s σ H Q I q => ?_⟩
  rw [e] at q
  have q' : Q v H := q
  rcases h with h | ⟨h, hb, hn⟩
  · exact ld_glob I (gl_of hX h2) h ⟨v, H, I, r, q'⟩ (okName_db h2)
  · exact ld_blt I (gl_of hX h2) h hb ⟨v, H, I, r, q'⟩ hn (okName_db h2)
theorem ev_args {M : Model} {A : Around} {E : Value → Shared → Prop} {s : Shared} {f : Value} : ∀ {l : List (Bool × Sem Value)} {Q : Args → Shared → Prop}, l.any (·.1) = false → wpAny M A (spliced l) (fun vs s' => Q ⟨vs, []⟩ s') E s → wpAny M A (evalArgs f true l []) Q E s
  | [], Q, _, h => by
    unfold evalArgs
    show wpAny M A (spliced [] >>= _) Q E s
    exact wpAny_bind (wpAny_mono h (fun vs s' h' => wpAny_holding (wpAny_bind (wpAny_pure (wpAny_bind (wpAny_pure (wpAny_pure h')))))) fun _ _ x => x)
  | (false, x) :: r, Q, _, h => PySem.Calls.evalArgs_plain h
  | (true, x) :: r, Q, e, _ => by cases e
theorem cw_es {f : Value} {first : List Value} {es : MEs} {t : TA} {pins : List (Addr × Obj)} {s : Shared} {σ : L2.St} {H : Hp} {p : Pos} {R : List V → Hp → Prop} {Q : Value → Shared → Prop} (hk : PySem.W.keepIn X.K f = true) (ha : PA X (eEs es) t) (I : L2.Inv X pins σ H s) (h : t σ H R)
    (hf : ∀ (us : List Value) (s1 : Shared) (vs : List V) (H1 : Hp), L2.Inv X pins σ H1 s1 → Vals vs us → R vs H1 → wpAny (model X.prog X.w) X.A (call f (first ++ us)) Q X.xe s1) :
    wpAny (model X.prog X.w) X.A (callWith p f first (backTo p (starEach (eEs es) X.env)) (backToKw p (keywordEach [] X.env))) Q X.xe s := by
  refine PySem.W.callWith_of (by show ((backTo p (starEach (eEs es) X.env)).any (·.1) || false) = false; rw [plain_es]; rfl) (PySem.W.keeps_K hk) (ev_args (plain_es es X.env p) ?_)
  exact thn (ha.run p pins s σ H R I h) fun us s1 ⟨vs, H1, I1, rv, q⟩ => ⟨I1.kIn, hf us s1 vs H1 I1 rv q⟩
theorem dflt_okG {P : Program} {w : World} {K : Frag} {mg : Str → Option Value} {base : Heap} {e : FnE} (h : FnOkEG P w K mg base e) (m : Nat) : Vals (dflt e m) (e.ds.drop (m + e.dvs.length - e.ps.length)) := Vals.drop _ h.vd
theorem dflt_ok {P : Program} {w : World} {K : Frag} {mg : Str → Option Value} {base : Heap} {e : FnE} (h : FnOkE P w K mg base e) (m : Nat) : Vals (dflt e m) (e.ds.drop (m + e.dvs.length - e.ps.length)) := Vals.drop _ h.vd
theorem run_G {g : Bool} {fd : FuncData} {f : Addr} {k : Nat} {ps : List Str} {sp : Sp} {dvs : List V} {ds : List Value} {E : L2.St → XK} {pins : List (Addr × Obj)} {σ : L2.St} {H : Hp} {s : Shared} {Q : VK} {us : List Value} {vs : List V} (F : FnOkG g X.prog X.w X.K X.mg X.base (L2.CX X.prog X.w) k f fd ps sp) (hg : g = true → X.A.guards = some []) (hr : Room k X.A) (hb : Binds X.K fd ps ds) (hd : Vals dvs ds)
    (hx : PassesAt (L2.CX X.prog X.w) X σ (E σ)) (I : Inv X pins σ H s) (r : Vals vs us) (h : sp (vs ++ dvs) H Q (E σ)) : wpAny (model X.prog X.w) X.A (call (.ref f) us) (EP X pins σ Q) X.xe s := by
  have rr := r.append hd
  refine wpAny_call (codeAny_mono (F.run X.A X.stack s H ⟨us, []⟩ _ _ Q (E σ) hg hr I.env0 (hb s us I.kIn (by rw [← rr.length]; exact F.len _ _ _ _ h)) rr h) fun z s2 back => ?_)
  match z, back with
  | .error e, back => exact hx pins H s e s2 I back
  | .ok (.ret u), back => exact I.after back
  | .ok .next, back => exact back.elim
  | .ok .brk, back => exact back.elim
  | .ok .cont, back => exact back.elim
theorem gd_of (hX : Cok X Γ n k N sc st W) {i : Nat} {x : Str} {e : FnE} (he : Γ.fn[i]? = some (x, e)) (h : (n.gd || !(n.fng.getD i false)) = true) : e.gd = true → X.A.guards = some [] := fun z => by
  have y := hX.gam.gd i x e he z
  rw [y] at h
  exact hX.gd (by simpa using h)
theorem call_ok (hX : Cok X Γ n k N sc st W) {i : Nat} {x : Str} {q p : Pos} {es : MEs} {t : TA} (h1 : n.fn[i]? = some x) (h2 : okName sc x [.globalImplicit] = true) (h0 : (n.gd || !(n.fng.getD i false)) = true) (ha : PA X (eEs es) t) :
    PE X (.Call (.Name x q) (eEs es) [] p) (gCall Γ W i es.len t) := by
  obtain ⟨e, he, hm⟩ := lk hX.gam.fnN h1
  obtain ⟨F, hk, hg⟩ := hX.gam.fn x e hm
  refine ⟨fun pins s σ H Q I h => ?_⟩
  unfold gCall at h
  rw [he] at h
  have h' : t σ H fun vs H1 => e.sp (vs ++ dflt e es.len) H1 Q (fun c d H' => W c d σ H') := h
  have go : ∀ {us : List Value} {vs : List V} {H1 : Hp} {s1 : Shared}, L2.Inv X pins σ H1 s1 → Vals vs us → e.sp (vs ++ dflt e es.len) H1 Q (fun c d H' => W c d σ H') → wpAny (model X.prog X.w) X.A (call (.ref e.f) us) (EP X pins σ Q) X.xe s1 :=
    fun {us vs H1 s1} I1 r q => run_G (E := fun σ => fun c d H' => W c d σ H') F.ok (gd_of hX he h0) (hX.room.mono hk) (F.bd _) (dflt_okG F _) (passAt hX.tk σ) I1 r q
  refine wpAny_Call_Name_kw (ld_glob I (gl_of hX h2) hg ?_ (okName_db h2))
  exact cw_es (first := []) F.kp ha I h' fun us s1 vs H1 I1 rv q1 => go I1 rv q1
theorem make_ok (hX : Cok X Γ n k N sc st W) {i : Nat} {x : Str} {q p : Pos} {es : MEs} {t : TA} (h1 : n.cl[i]? = some x) (h2 : okName sc x [.globalImplicit] = true) (ha : PA X (eEs es) t) :
    PE X (.Call (.Name x q) (eEs es) [] p) (gMake Γ W i es.len t) := by
  obtain ⟨⟨C, e⟩, he, hm⟩ := lk hX.gam.clN h1
  obtain ⟨F, hk, M, hg⟩ := hX.gam.cl x C e hm
  refine ⟨fun pins s σ H Q I h => ?_⟩
  unfold gMake at h
  rw [he] at h
  refine wpAny_Call_Name_kw (ld_glob I (gl_of hX h2) hg ?_ (okName_db h2))
  refine cw_es (first := []) M.kp ha I (show t σ H _ from h) fun us s1 vs H1 I1 rv q1 => ?_
  exact mk_at (E := fun c d H' => W c d σ H') M F.ok (hX.room.mono hk) (F.bd _) (dflt_ok F _) (passAt hX.tk σ) I1 rv q1
theorem own_ok (hX : Cok X Γ n k N sc st W) {a : ME} {m : Str} {q p : Pos} {es : MEs} {ta : TE} {t : TA} (ho : PE X (eE a) ta) (hw : wE N n a sc = true) (hl : (q.endLine == p.line) = true) (h30 : es.len < 30) (ha : PA X (eEs es) t) :
    PE X (.Call (.Attribute (eE a) m q) (eEs es) [] p) (gOwn Γ W m es.len ta t) := by
  refine PE.orx fun C => PE.orx fun e => ⟨fun pins s σ H Q I h => ?_⟩
  obtain ⟨hm, h⟩ := h
  obtain ⟨F, hk, c, M⟩ := hX.gam.mt C m e hm
  refine PySem.W.methodCall_KW (thn (ho.run pins s σ H _ I h) fun u s1 hh => ?_) (mcall_own (abase a hw m X.env) (form_es es X.env p h30) hl)
  obtain ⟨x, H1, I1, rx, b, dx, fs, ex, ea, l, q1⟩ := hh
  subst ex
  cases rx
  refine getmeth_ok I1 ea c M l ?_
  refine cw_es (first := [.ref b]) M.kp ha I1 q1 fun us s2 vs H2 I2 rv q2 => ?_
  exact run_fnSD (us := .ref b :: us) (vs := .ref b :: vs) (E := fun σ => fun c d H' => W c d σ H') F.ok (hX.room.mono hk) (F.bd _) (dflt_ok F _) (passAt hX.tk σ) I2 (.cons rfl rv) q2
/-! ### calls with keywords -/
theorem LOk.pk {ks : List (Str × Pos)} : ∀ {r : MEs} {ds : List (TE × TT)}, LOk X r ds → ks.length = r.len → PK X (eKs r ks) (tAs ds) := by
  intro r ds l
  induction l generalizing ks with
  | nil => intro _; exact pk_nil
  | cons h t l ih =>
    intro hl
    cases ks with
    | nil => cases hl
    | cons k ks => exact pk_cons h (ih (Nat.succ.inj hl))
theorem cw_ks {f : Value} {first : List Value} {es ws : MEs} {ks : List (Str × Pos)} {ds : List (TE × TT)} {tk : TA} {pins : List (Addr × Obj)} {s : Shared} {σ : L2.St} {H : Hp} {p : Pos} {R : List V → List V → Hp → Prop} {Q : Value → Shared → Prop} (hk : PySem.W.keepIn X.K f = true) (ha : LOk X es ds) (hw : PK X (eKs ws ks) tk) (hl : ks.length = ws.len)
    (I : L2.Inv X pins σ H s) (h : tAs ds σ H fun vs H1 => tk σ H1 fun zs H2 => R vs zs H2)
    (hf : ∀ (us uw : List Value) (s1 : Shared) (vs zs : List V) (H1 : Hp), L2.Inv X pins σ H1 s1 → Vals vs us → Vals zs uw → R vs zs H1 → wpAny (model X.prog X.w) X.A (call f (first ++ us) ((ks.map (·.1)).zip uw)) Q X.xe s1) :
    wpAny (model X.prog X.w) X.A (callWith p f first (backTo p (starEach (eEs es) X.env)) (backToKw p (keywordEach (eKs ws ks) X.env))) Q X.xe s := by
  cases ha with
  | nil =>
    have h' : tk σ H fun zs H2 => R [] zs H2 := h
    refine PySem.W.callWith_KW0 (h₀ := X.base) I.ok.mod.kin hk (kw_some p X.env ws ks) (thn (hw.run p pins s σ H _ I h') fun uw s2 hh => ?_) (by
      show (([] : List (Bool × Sem Value)).any (·.1) || _) = false
      rw [kw_none]; rfl)
    obtain ⟨zs, H2, I2, rz, q2⟩ := hh
    refine ⟨I2.kIn, ?_⟩
    rw [kw_names p X.env ws ks hl]
    exact hf [] uw s2 [] zs H2 I2 .nil rz q2
  | @cons e r d ds' he te l =>
    have ha := (LOk.cons he te l).pa
    refine PySem.W.callWith_KW (h₀ := X.base) I.ok.mod.kin hk (kw_some p X.env ws ks) (thn (ha.run p pins s σ H _ I h) fun us s1 hh => ?_) (by
      show ((backTo p (starEach (eEs (.cons e r)) X.env)).any (·.1) || _) = false
      rw [plain_es, kw_none]; rfl) (star_e e _ _)
    obtain ⟨vs, H1, I1, rv, q⟩ := hh
    refine thn (hw.run p pins s1 σ H1 _ I1 q) fun uw s2 hh => ?_
    obtain ⟨zs, H2, I2, rz, q2⟩ := hh
    refine ⟨I2.kIn, ?_⟩
    rw [kw_names p X.env ws ks hl]
    exact hf us uw s2 vs zs H2 I2 rv rz q2
theorem fn_kw {e : FnE} {m : Nat} {ks : List Str} {gV : List V → List V → List V} {pins : List (Addr × Obj)} {σ : L2.St} {H : Hp} {s : Shared} {Q : VK} {us uw : List Value} {vs zs : List V} (hX : Cok X Γ n k N sc st W) (F : FnOkEG X.prog X.w X.K X.mg X.base e) (hg : e.gd = true → X.A.guards = some []) (hk : e.k ≤ k) {j : Nat} (hj : e.kb[j]? = some (m, ks, gV))
    (I : L2.Inv X pins σ H s) (r : Vals vs us) (rz : Vals zs uw) (l1 : vs.length = m) (l2 : zs.length = ks.length) (h : e.sp (gV vs zs) H Q (fun c d H' => W c d σ H')) : wpAny (model X.prog X.w) X.A (call (.ref e.f) us (ks.zip uw)) (EP X pins σ Q) X.xe s := by
  obtain ⟨g, hb⟩ := F.kb _ (List.mem_of_getElem? hj)
  have r2 := hb.rel r rz
  refine wpAny_call (codeAny_mono (F.ok.run X.A X.stack s H ⟨us, ks.zip uw⟩ (g us uw) (gV vs zs) Q (fun c d H' => W c d σ H') hg (hX.room.mono hk) I.env0 (hb.to s us uw I.kIn (r.length.symm.trans l1) (rz.length.symm.trans l2)) r2 h) fun res s2 back => ?_)
  cases res with
  | error u => exact passAt hX.tk σ pins H s u s2 I back
  | ok fl =>
    cases fl with
    | ret u => exact I.after back
    | next => exact back.elim
    | brk => exact back.elim
    | cont => exact back.elim
theorem fn_kwP {e : FnE} {m : Nat} {ks : List Str} {gV : List V → List V → List V} {pins : List (Addr × Obj)} {σ : L2.St} {H : Hp} {s : Shared} {Q : VK} {us uw : List Value} {vs zs : List V} (hX : Cok X Γ n k N sc st W) (F : FnOkE X.prog X.w X.K X.mg X.base e) (hk : e.k ≤ k) {j : Nat} (hj : e.kb[j]? = some (m, ks, gV))
    (I : L2.Inv X pins σ H s) (r : Vals vs us) (rz : Vals zs uw) (l1 : vs.length = m) (l2 : zs.length = ks.length) (h : e.sp (gV vs zs) H Q (fun c d H' => W c d σ H')) : wpAny (model X.prog X.w) X.A (call (.ref e.f) us (ks.zip uw)) (EP X pins σ Q) X.xe s := by
  obtain ⟨g, hb⟩ := F.kb _ (List.mem_of_getElem? hj)
  have r2 := hb.rel r rz
  refine wpAny_call (codeAny_mono (F.ok.run X.A X.stack s H ⟨us, ks.zip uw⟩ (g us uw) (gV vs zs) Q (fun c d H' => W c d σ H') (hX.room.mono hk) I.env0 (hb.to s us uw I.kIn (r.length.symm.trans l1) (rz.length.symm.trans l2)) r2 h) fun res s2 back => ?_)
  cases res with
  | error u => exact passAt hX.tk σ pins H s u s2 I back
  | ok fl =>
    cases fl with
    | ret u => exact I.after back
    | next => exact back.elim
    | brk => exact back.elim
    | cont => exact back.elim
theorem mk_kw {e : FnE} {C : Addr} {m : Nat} {ks : List Str} {gV : List V → List V → List V} {pins : List (Addr × Obj)} {σ : L2.St} {H : Hp} {s : Shared} {Q : VK} {us uw : List Value} {vs zs : List V} (hX : Cok X Γ n k N sc st W) (F : FnOkE X.prog X.w X.K X.mg X.base e) (hk : e.k + 1 ≤ k) (M : Mk X.K C e.f) {j : Nat} (hj : e.kb[j]? = some (m + 1, ks, gV))
    (I : L2.Inv X pins σ H s) (r : Vals vs us) (rz : Vals zs uw) (l1 : vs.length = m) (l2 : zs.length = ks.length)
    (h : ∀ x dx, H x = none → H dx = none → dx ≠ x → e.sp (gV (.ref x :: vs) zs) (upd (upd H dx (.own x)) x (.ins C dx [])) (fun v H2 => v = .non ∧ Q (.ref x) H2) (fun c d H' => W c d σ H')) :
    wpAny (model X.prog X.w) X.A (call (.ref C) us (ks.zip uw)) (EP X pins σ Q) X.xe s := by
  obtain ⟨g, hb⟩ := F.kb _ (List.mem_of_getElem? hj)
  have new := h (s.heap.objs.size + 1) s.heap.objs.size (I.hok.fresh (Nat.le_succ _)) (I.hok.fresh (Nat.le_refl _)) (Nat.ne_of_lt (Nat.lt_succ_self _))
  have J := L2.Inv.made (C := C) I
  have rr : Vals (V.ref (s.heap.objs.size + 1) :: vs) (Value.ref (s.heap.objs.size + 1) :: us) := .cons rfl r
  have r2 := hb.rel rr rz
  have b2 := hb.to _ (Value.ref (s.heap.objs.size + 1) :: us) uw J.kIn (rr.length.symm.trans (congrArg Nat.succ l1)) (rz.length.symm.trans l2)
  refine wpAny_call (make_map (f := e.f) I.kIn M.makes M.init (beq_iff_eq.mp M.fn) ?_)
  refine codeAny_mono (F.ok.run _ X.stack _ _ ⟨Value.ref (s.heap.objs.size + 1) :: us, ks.zip uw⟩ _ _ _ (fun c d H' => W c d σ H') ((hX.room.mono hk).make C us (ks.zip uw)) (J.env0.make C us (ks.zip uw)) b2 r2 new) fun res s2 back => ?_
  cases res with
  | error u => exact passAt hX.tk σ pins _ _ u s2 J back
  | ok fl =>
    cases fl with
    | ret u =>
      obtain ⟨v, H', J', rv, ev, q⟩ := J.after back
      subst ev
      exact ⟨rv, ⟨V.ref (s.heap.objs.size + 1), H', J', rfl, q⟩⟩
    | next => exact back.elim
    | brk => exact back.elim
    | cont => exact back.elim
theorem callK_ok (hX : Cok X Γ n k N sc st W) {i j : Nat} {x : Str} {q p : Pos} {es ws : MEs} {ks : List (Str × Pos)} {ds dw : List (TE × TT)} (h1 : n.fn[i]? = some x) (h2 : okName sc x [.globalImplicit] = true) (h0 : (n.gd || !(n.fng.getD i false)) = true) (ha : LOk X es ds) (hw : LOk X ws dw) (hl : ks.length = ws.len) :
    PE X (.Call (.Name x q) (eEs es) (eKs ws ks) p) (gCallK Γ W i j es.len (ks.map (·.1)) (tAs ds) (tAs dw)) := by
  obtain ⟨e, he, hm⟩ := lk hX.gam.fnN h1
  obtain ⟨F, hk, hg⟩ := hX.gam.fn x e hm
  refine ⟨fun pins s σ H Q I h => ?_⟩
  unfold gCallK at h
  rw [he] at h
  obtain ⟨gV, hj, h⟩ := h
  refine wpAny_Call_Name_kw (ld_glob I (gl_of hX h2) hg ?_ (okName_db h2))
  refine cw_ks (first := []) F.kp ha (hw.pk hl) hl I h fun us uw s1 vs zs H1 I1 rv rz q1 => ?_
  exact fn_kw hX F (gd_of hX he h0) hk hj I1 rv rz q1.1 q1.2.1 q1.2.2
theorem makeK_ok (hX : Cok X Γ n k N sc st W) {i j : Nat} {x : Str} {q p : Pos} {es ws : MEs} {ks : List (Str × Pos)} {ds dw : List (TE × TT)} (h1 : n.cl[i]? = some x) (h2 : okName sc x [.globalImplicit] = true) (ha : LOk X es ds) (hw : LOk X ws dw) (hl : ks.length = ws.len) :
    PE X (.Call (.Name x q) (eEs es) (eKs ws ks) p) (gMakeK Γ W i j es.len (ks.map (·.1)) (tAs ds) (tAs dw)) := by
  obtain ⟨⟨C, e⟩, he, hm⟩ := lk hX.gam.clN h1
  obtain ⟨F, hk, M, hg⟩ := hX.gam.cl x C e hm
  refine ⟨fun pins s σ H Q I h => ?_⟩
  unfold gMakeK at h
  rw [he] at h
  obtain ⟨gV, hj, h⟩ := h
  refine wpAny_Call_Name_kw (ld_glob I (gl_of hX h2) hg ?_ (okName_db h2))
  refine cw_ks (first := []) M.kp ha (hw.pk hl) hl I h fun us uw s1 vs zs H1 I1 rv rz q1 => ?_
  exact mk_kw hX F hk M hj I1 rv rz q1.1 q1.2.1 q1.2.2
theorem ownK_ok (hX : Cok X Γ n k N sc st W) {j : Nat} {a : ME} {m : Str} {q p : Pos} {es ws : MEs} {ks : List (Str × Pos)} {ta : TE} {ds dw : List (TE × TT)} (ho : PE X (eE a) ta) (hw : wE N n a sc = true) (hl : (q.endLine == p.line) = true) (h30 : es.len + ws.len < 29) (ha : LOk X es ds) (hk' : LOk X ws dw) (hlk : ks.length = ws.len) :
    PE X (.Call (.Attribute (eE a) m q) (eEs es) (eKs ws ks) p) (gOwnK Γ W j m es.len (ks.map (·.1)) ta (tAs ds) (tAs dw)) := by
  refine PE.orx fun C => PE.orx fun e => PE.orx fun gV => ⟨fun pins s σ H Q I h => ?_⟩
  obtain ⟨hm, hj, h⟩ := h
  obtain ⟨F, hk, c, M⟩ := hX.gam.mt C m e hm
  refine PySem.W.methodCall_KW (thn (ho.run pins s σ H _ I h) fun u s1 hh => ?_) (mcall_ownK (abase a hw m X.env) (form_ks es ws ks X.env p h30 hlk) hl)
  obtain ⟨x, H1, I1, rx, b, dx, fs, ex, ea, l, q1⟩ := hh
  subst ex
  cases rx
  refine getmeth_ok I1 ea c M l ?_
  refine cw_ks (first := [.ref b]) F.kp ha (hk'.pk hlk) hlk I1 q1 fun us uw s2 vs zs H2 I2 rv rz q2 => ?_
  exact fn_kwP (us := .ref b :: us) (vs := .ref b :: vs) hX F hk hj I2 (.cons rfl rv) rz (congrArg Nat.succ q2.1) q2.2.1 q2.2.2
end
end Rf
namespace Rf
open PySem PySem.Spec PyProof.Rows L2
theorem blt_of {X : Cx} {Γ : Gam} {n : Nms} {k : Nat} {N : List Str} {sc st : Scope} {W : WX} (hX : Cok X Γ n k N sc st W) {x : Str} (h : okBlt n sc x = true) : Gl X x ∧ X.mg x = none ∧ x ≠ "__name__" ∧ (x == ("__debug__" : Str)) = false := by
  unfold okBlt at h
  simp only [Bool.and_eq_true] at h
  exact ⟨gl_of hX h.2, hX.gam.blt x (by simpa using h.1), okName_nm h.2, okName_db h.2⟩
section
variable {X : Cx} {Γ : Gam} {n : Nms} {k : Nat} {N : List Str} {sc st : Scope} {W : WX}
theorem MtR.imp {id : String} {r r' : V → List V → Hp → VK → Prop} (h : MtR X id r) (hi : ∀ x xs H Q, r' x xs H Q → r x xs H Q) : MtR X id r' :=
  fun pins s σ H x xs v us Q I r1 r2 q => h pins s σ H x xs v us Q I r1 r2 (hi x xs H Q q)
theorem bm_ok (m : BM) {o e : Expr} {to te : TE} {q p : Pos} (ho : PE X o to) (he : PE X e te) (hb : attributeBase o m.name X.env (eval o X.env) = eval o X.env) (hs : starEach [e] X.env = [(false, eval e X.env)]) (hl : (q.endLine == p.line) = true) :
    PE X (.Call (.Attribute o m.name q) [e] [] p) (tBM X.K "list" (bmR X.K m) to (tCons te tNil)) := by
  have ha : PA X [e] (tCons te tNil) := pa_cons he pa_nil hs
  have hf : ((backTo p (starEach [e] X.env)).all (fun x => !x.1) && (backToKw p (keywordEach [] X.env)).all (fun x => x.1.isSome) && decide (([e] : List Expr).length + ([] : List Keyword).length + (if ([] : List Keyword).isEmpty then 0 else 1) < 30)) = true := by rw [hs]; rfl
  cases m with
  | append =>
    refine pe_bm PySem.F.plainAttrs_list PySem.F.slot_list_append PySem.F.type_list_append (MtR.imp mt_append fun x xs H Q h => ?_) ho ha hb hf hl hs rfl
    match xs, h with
    | [y], ⟨l, ys, e1, e2, e3, q⟩ => exact ⟨l, ys, y, e1, rfl, e2, e3, q⟩
  | index =>
    refine pe_bm PySem.F.plainAttrs_list PySem.F.slot_list_index PySem.F.type_list_index (MtR.imp mt_index fun x xs H Q h => ?_) ho ha hb hf hl hs rfl
    match xs, h with
    | [y], h => exact h
  | extend =>
    refine pe_bm PySem.F.plainAttrs_list PySem.F.slot_list_extend PySem.F.type_list_extend (MtR.imp mt_extend fun x xs H Q h => ?_) ho ha hb hf hl hs rfl
    match xs, h with
    | [y], h => exact h
  | count =>
    refine pe_bm PySem.F.plainAttrs_list PySem.F.slot_list_count PySem.F.type_list_count (MtR.imp mt_countF fun x xs H Q h => ?_) ho ha hb hf hl hs rfl
    match xs, h with
    | [y], h => exact h
  | popAt =>
    refine pe_bm PySem.F.plainAttrs_list PySem.F.slot_list_pop PySem.F.type_list_pop (MtR.imp mt_popAt fun x xs H Q h => ?_) ho ha hb hf hl hs rfl
    match xs, h with
    | [y], h => exact h
/-- expressions of one part -/
theorem ux_ok (hX : Cok X Γ n k N sc st W) (o : UX) {a : Expr} {te : TE} {p : Pos} (ha : PE X a te) (hb : ∀ (f : Str) (env : Env), attributeBase a f env (eval a env) = eval a env) (hs : starEach [a] X.env = [(false, eval a X.env)]) (h : o.w n sc p = true) : PE X (o.e a p) (o.t Γ X.K te) := by
  cases o with
  | revL k p1 p2 p3 => exact pe_revL ha
  | clear q => exact pe_bm0 PySem.F.plainAttrs_list PySem.F.slot_list_clear PySem.F.type_list_clear mt_clear ha (hb _ _) h
  | lenD q =>
    obtain ⟨hg, hm, _, _⟩ := blt_of hX h
    exact pe_callB call_lenDT hg hm PySem.boot_len (pa_cons ha pa_nil hs) (by decide) (by decide) hs rfl
  | clearD q => exact pe_bm0 PySem.F.plainAttrs_dict PySem.F.slot_dict_clear PySem.F.type_dict_clear mt_clearDT ha (hb _ _) h
  | reprD q =>
    have h : (okBlt n sc "repr" && n.gd) = true := h
    rw [Bool.and_eq_true] at h
    obtain ⟨hg, hm, _, _⟩ := blt_of hX h.1
    exact pe_callB (call_repD (hX.gd h.2) hX.room.units) hg hm (by decide +kernel) (pa_cons ha pa_nil hs) (by decide) (by decide) hs rfl
  | ssetT q1 q2 p2 =>
    have h : (okBlt n sc "sorted" && okBlt n sc "set") = true := h
    rw [Bool.and_eq_true] at h
    obtain ⟨hg, hm, _, _⟩ := blt_of hX h.1
    obtain ⟨hg2, hm2, _, _⟩ := blt_of hX h.2
    exact pe_ssetT hX.calm hX.room.units hg hm hg2 hm2 ha hs
  | ssetL q1 q2 p2 =>
    have h : (okBlt n sc "sorted" && okBlt n sc "set") = true := h
    rw [Bool.and_eq_true] at h
    obtain ⟨hg, hm, _, _⟩ := blt_of hX h.1
    obtain ⟨hg2, hm2, _, _⟩ := blt_of hX h.2
    exact pe_ssetL hX.calm hg hm hg2 hm2 ha hs
  | lenSet q1 q2 p2 =>
    have h : (okBlt n sc "len" && okBlt n sc "set") = true := h
    rw [Bool.and_eq_true] at h
    obtain ⟨hg, hm, _, _⟩ := blt_of hX h.1
    obtain ⟨hg2, hm2, _, _⟩ := blt_of hX h.2
    exact pe_lenSetI hX.calm hg hm hg2 hm2 ha (by rw [hs]; rfl)
  | lrng q1 q2 p2 =>
    have h : (okBlt n sc "list" && okBlt n sc "range") = true := h
    rw [Bool.and_eq_true] at h
    obtain ⟨hg, hm, _, _⟩ := blt_of hX h.1
    obtain ⟨hg2, hm2, _, _⟩ := blt_of hX h.2
    exact pe_listRg hX.calm hg hm (prg_1 hg2 hm2 ha (by rw [hs]; rfl))
  | pop q => exact pe_bm0 PySem.F.plainAttrs_list PySem.F.slot_list_pop PySem.F.type_list_pop mt_pop ha (hb _ _) h
theorem ux2_ok (hX : Cok X Γ n k N sc st W) (o : UX2) {a b : Expr} {te tf : TE} {p : Pos} (ha : PE X a te) (hb : PE X b tf) (hs0 : ∀ es, starEach (a :: es) X.env = (false, eval a X.env) :: starEach es X.env) (hsb : starEach [b] X.env = [(false, eval b X.env)]) (h : o.w n sc p = true) : PE X (o.e a b p) (o.t Γ X.K te tf) := by
  cases o with
  | sortKey q1 kp =>
    obtain ⟨hg, hm, _, _⟩ := blt_of hX h
    exact pe_sortKey hX.room hg hm hX.gam.kf ha (hs0 []) hb
  | lrng2 q1 q2 p2 =>
    have h : (okBlt n sc "list" && okBlt n sc "range") = true := h
    rw [Bool.and_eq_true] at h
    obtain ⟨hg, hm, _, _⟩ := blt_of hX h.1
    obtain ⟨hg2, hm2, _, _⟩ := blt_of hX h.2
    exact pe_listRg hX.calm hg hm (prg_2 hg2 hm2 ha hb (hs0 _) (by rw [hsb]; rfl) (by rw [hsb]; rfl))
/-- a method of two arguments -/
theorem m2_ok {m : Str} {a k d : ME} {N : List Str} {q p : Pos} (hw : wE N n a sc = true) (hl : (q.endLine == p.line) = true) : M2 X (eE a) m q (eE k) (eE d) p := by
  have hs : starEach [eE k, eE d] X.env = [(false, eval (eE k) X.env), (false, eval (eE d) X.env)] := by rw [star_e, star_e d []]; rfl
  exact ⟨abase a hw m X.env, by rw [hs]; rfl, hl, by rw [hs]; rfl⟩
/-- a list or a tuple is walked, or a locked dict -/
theorem val_ok {tg l : Expr} {tl : TE} (hl : PE X l tl) : PI X tg l (iVal X.K tl) := by
  refine ⟨fun pins s σ H R I h => ?_⟩
  have once : PE X l (fun σ' H' Q' => σ' = σ ∧ H' = H ∧ tl σ H Q') := ⟨fun pins s σ' H' Q' I' h' => by
    obtain ⟨e1, e2, h'⟩ := h'
    subst e1 e2
    exact hl.run pins s σ' H' Q' I' h'⟩
  refine thn (hl.run pins s σ H _ I h) fun v s1 ⟨x, H1, I1, r1, q1⟩ => ?_
  cases x with
  | ref a =>
    cases r1
    rcases q1 with ⟨xs, hq, q⟩ | ⟨xs, hq, q⟩ | ⟨o, kvs, hd, q⟩
    · obtain ⟨its, rv, pl, hz⟩ := I1.list hq
      refine wpAny_pyIter_list pl.isList ⟨s1.heap.objs.size, [s1.heap.objs.size], _, _, H1, rfl, I1.kept (t' := s1.toks) fun b o e => Heap.get?_push_of_some _ e, turn_list a _, ⟨_, Heap.get?_push_size _ rfl, rfl, rfl⟩, fun b hb => ?_, q⟩
      obtain rfl : b = s1.heap.objs.size := by simpa using hb
      exact I1.fpOk (Nat.le_refl _) (I1.hok.fresh (Nat.le_refl _))
    · obtain ⟨its, rv, pl, hz⟩ := I1.tuple hq
      refine wpAny_pyIter_tuple (show s1.heap.IsTuple a its.toArray from pl) ⟨s1.heap.objs.size, [s1.heap.objs.size], _, _, H1, rfl, I1.kept (t' := s1.toks) fun b o e => Heap.get?_push_of_some _ e, turn_tuple a _, ⟨_, Heap.get?_push_size _ rfl, rfl, rfl⟩, fun b hb => ?_, q⟩
      obtain rfl : b = s1.heap.objs.size := by simpa using hb
      exact I1.fpOk (Nat.le_refl _) (I1.hok.fresh (Nat.le_refl _))
    · obtain ⟨hs, hgd, hx, es, ep, dat, hsz, ent⟩ := I1.frzT hd
      refine iter_keys hs hgd hx dat (pi_one (tk := s1.toks) I1 _ (turn_keysT _ dat) ⟨_, Heap.get?_push_size _ rfl, rfl, ?_⟩ q)
      rw [hsz] <;> rfl
  | _ => exact (show False from q1).elim
/-- a comprehension's block -/
theorem Cok.blk (hX : Cok X Γ n k N sc st W) {scope : Scope} (s : Shared) (H : Hp) (C : Addr) (cl : List (Str × Addr)) (fp : List Addr) :
    Cok (X.blk s H scope (compEnvC scope cl C X.env) fp) Γ n k N (relS scope sc) scope (fun _ _ _ _ => False) := by
  refine ⟨hX.eN, hX.nd, ?_, hX.calm, hX.room, hX.gam, ?_, ?_, PassesOwn.never, hX.lm, hX.gd⟩
  · show relS scope X.env.scope = _
    rw [hX.eSc]
  · intro u s' h
    obtain ⟨_, _, _, _, _, _, _, _, _, _, _, _, _, _, _, _, z⟩ := h
    exact z.elim
  · intro x hx
    rcases hx with h | h
    · have h' := lookup_relS_keep (sc := sc) (by decide) h
      exact ⟨.inl h', .inr h'⟩
    · have h' := lookup_relS_keep (sc := sc) (by decide) h
      exact ⟨.inr h', .inl (by show (scope.names.lookup x == some NameKind.cell) = true; rw [h]; rfl)⟩
/-- the body of a lambda -/
theorem Cok.lam (hX : Cok X Γ n k N sc st W) {j : Nat} (hj : k ≤ j) {scope : Scope} (L : LamX.LamS X.env.scope scope) (A : Around) (outer : List Env) (s : Shared) (H : Hp) (E : XK) (f c' : Addr) (hr : Room j (A.deeper (LamX.lamEnv X scope s.heap.objs.size f c'))) :
    Cok (LamX.lamCx X A outer s H E scope f c') Γ { n with lq := none, gd := false } k N scope scope (fun c d _ H => E c d H) where
  eN := hX.eN
  nd := hX.nd
  eSc := rfl
  calm := rfl
  room := hr.mono hj
  gam := hX.gam.noLq
  tk := takes_of rfl rfl rfl rfl
  lcl := fun x h => ⟨h, h.elim (fun h => absurd rfl (L.own _ (PySem.mem_of_lookup h)).1) fun h => absurd rfl (L.own _ (PySem.mem_of_lookup h)).2⟩
  pas := passes_of rfl
  lm := fun q h => nomatch h
  gd := fun h => nomatch h
theorem sortLen_ok (hX : Cok X Γ n k N sc st W) {q1 p kp lp ap p1 p2 p3 p4 p5 p6 p7 p8 p9 : Pos} {k1 k2 k3 : Nat} {scope : Scope} {e : ME} {te : TE} (h1 : Gl X "sorted" ∧ X.mg "sorted" = none) (h2 : n.blt.contains "len" = true) (h3 : n.lq.isSome = true) (h4 : lenScopeB "row" scope = true)
    (h5 : (scope.names.all fun y => !decide (y.2 = .free)) = true) (he : PE X (eE e) te) :
    PE X (.Call (.Name "sorted" q1) [eE e] [⟨some "key", .Lambda (lenArgs "row" ap) (lenBody "row" p1 p2 p3 p4 p5 p6 p7 p8 p9 k1 k2 k3) scope lp, kp⟩] p) (tSortLen Γ.tb X.K te) := by
  obtain ⟨ql, hq⟩ := Option.isSome_iff_exists.mp h3
  obtain ⟨eq, hr, c, tb, hc, hT, hin, hu⟩ := hX.lm ql hq
  subst eq
  exact pe_sortLen rfl (lenScope_by h4) hX.room h1.1 h1.2 (hX.gam.blt "len" (by simpa using h2)) hT hc hin hu (fun y hy z => by
    have := List.all_eq_true.mp h5 y hy
    rw [z] at this
    simp at this) he (star_e e [] _)
theorem lam_ok (hX : Cok X Γ n k N sc st W) {i : Nat} {x : Str} {q lp p : Pos} {scope : Scope} {body : Expr} {t : XK → TE} (h1 : n.lam[i]? = some x) (h2 : okName sc x [.globalImplicit] = true) (h3 : n.lq.isSome = true) (h4 : LamX.lamSB sc scope = true)
    (hb : ∀ (A : Around) (outer : List Env) (s : Shared) (H : Hp) (E : XK) (f c' : Addr), Room k (A.deeper (LamX.lamEnv X scope s.heap.objs.size f c')) → PE (LamX.lamCx X A outer s H E scope f c') body (t E)) :
    PE X (.Call (.Name x q) [.Lambda ⟨[], [], none, [], [], none, []⟩ body scope lp] [] p) (gLam Γ i t) := by
  obtain ⟨TT, e, hm⟩ := lk hX.gam.lamN h1
  obtain ⟨ql, hq⟩ := Option.isSome_iff_exists.mp h3
  obtain ⟨eq, hr, c, tb, hc, hT, hin, hu⟩ := hX.lm ql hq
  subst eq
  have key := hX.gam.lam x TT hm X rfl rfl rfl rfl rfl Γ.tb c tb body scope t q lp p (gl_of hX h2) hT hc hin hu hr (by rw [hX.eSc]; exact LamX.lamS_by h4) hb
  refine ⟨fun pins s σ H Q I h => key.run pins s σ H Q I ?_⟩
  unfold gLam at h
  rw [e] at h
  exact h
end
end Rf
namespace Rf
open PySem PySem.Spec PyProof.Rows L2

theorem two {X : Cx} {m : ME} {t : TE} (h : PE X (eE m) t) (hp : plainT m = true) : PE X (eE m) (tOfTE X.K t).1 ∧ PT X (eE m) (tOfTE X.K t).2 := ⟨h, pt_ru h hp⟩
theorem callB_ok {X : Cx} {Γ : Gam} {n : Nms} {k : Nat} {N : List Str} {sc st : Scope} {W : WX} (hX : Cok X Γ n k N sc st W) {b : BF} {q p : Pos} {e : ME} {es : MEs} {t : TA} (h : okBlt n sc b.name = true) (ha : PA X (eE e :: eEs es) t) :
    PE X (.Call (.Name b.name q) (eE e :: eEs es) [] p) (tCB (b.r X.K) t) := by
  obtain ⟨hg, hm, hn, hd⟩ := blt_of hX h
  have hok := BF.ok hX.calm (by have := hX.room.units; omega) b
  have hbo := BF.boot b
  have hs := star_e e (eEs es) X.env
  have hp := plain_es es X.env p
  generalize hv : b.val = v at hok hbo
  cases v with
  | builtin id => exact pe_callB hok hg hm hbo ha hn hd hs hp
  | type T => exact pe_callTy hok hg hm hbo ha hn hd hs hp
  | _ => cases b <;> cases hv
theorem set_any {X : Cx} (room : X.A.units + 1 < cLine) : PSet X rSetG := by
  intro pins s σ H o i v ov iv u Q I ro ri rv h
  exact h.elim (set_list pins s σ H o i v ov iv u Q I ro ri rv) (set_dict room pins s σ H o i v ov iv u Q I ro ri rv)
theorem boot_repr : bootBuiltins "repr" = some (.builtin "repr") := by decide +kernel
theorem LOk.pj {X : Cx} : ∀ {r : MEs} {ds : List (TE × TT)}, LOk X r ds → PJ X (eEs r) (ds.map (·.1))
  | _, _, .nil => .nil
  | _, _, .cons h _ l => .cons h l.pj
theorem LOk.joined {X : Cx} {p : Pos} {r : MEs} {ds : List (TE × TT)} (l : LOk X r ds) (h : 2 ≤ r.len) : PE X (.JoinedStr (eEs r) p) (fun σ H Q => tJs (ds.map (·.1)) Str.empty σ H fun out H1 => Q (.str out) H1) := by
  cases l with
  | nil => cases h
  | cons h1 t1 l1 =>
    cases l1 with
    | nil => exact absurd h (by show ¬ 2 ≤ 1; decide)
    | cons h2 t2 l2 => exact pe_joined (.cons h1 (.cons h2 l2.pj))
theorem pg_tupG {X : Cx} {pos : Pos} {es : List Expr} {k : Nat} {t : TGs} {n : Nat} (hc : X.calm = true) (h : PGs X es t) (hn : (assignEach es X.env).length = n) (hst : (assignEach es X.env).findIdx? (·.1) = none) : PG X (.Tuple es k pos) (gTupG X.K n t) :=
  ⟨fun pins s σ H v u Q I r hw => by
    obtain ⟨a, xs, e, hq, hl, hw⟩ := hw
    rcases hq with hq | hq | hq
    · exact (pg_tup hc h hn hst).run pins s σ H v u Q I r ⟨a, xs, e, .inl hq, hl, hw⟩
    · exact (pg_tup hc h hn hst).run pins s σ H v u Q I r ⟨a, xs, e, hq, hl, hw⟩
    · exact (pg_unl hc h hn hst).run pins s σ H v u Q I r ⟨a, xs, e, hq, hl, hw⟩⟩
mutual
theorem sE (Γ : Gam) (N : List Str) : ∀ (m : ME) {n : Nms} {X : Cx} {k : Nat} {sc st : Scope} {W : WX}, Cok X Γ n k N sc st W → wE N n m sc = true → PE X (eE m) (dE Γ X.K m W).1 ∧ PT X (eE m) (dE Γ X.K m W).2
  | .var i x p, n, X, k, sc, st, W, hX, h => by
    simp only [wE, Bool.and_eq_true, decide_eq_true_eq] at h
    exact two (m := .var i x p) (pe_var (by rw [hX.eN]; exact h.1) (vis_of hX h.2) (okName_db h.2) (okName_cd h.2)) rfl
  | .non k' p, n, X, k, sc, st, W, hX, h => two (m := .non k' p) pe_non rfl
  | .bl b k' p, n, X, k, sc, st, W, hX, h => two (m := .bl b k' p) pe_bl rfl
  | .int i k' p, n, X, k, sc, st, W, hX, h => two (m := .int i k' p) pe_int rfl
  | .str s k' p, n, X, k, sc, st, W, hX, h => two (m := .str s k' p) pe_str rfl
  | .glo i x p, n, X, k, sc, st, W, hX, h => by
    simp only [wE, Bool.and_eq_true, decide_eq_true_eq] at h
    exact two (m := .glo i x p) (glo_ok hX h.1 h.2) rfl
  | .bin a op b p, n, X, k, sc, st, W, hX, h => by
    simp only [wE, Bool.and_eq_true] at h
    exact two (m := .bin a op b p) (pe_op (op_bin op) (sE Γ N a hX h.1).1 (sE Γ N b hX h.2).1) rfl
  | .neg a p, n, X, k, sc, st, W, hX, h => by
    simp only [wE] at h
    exact two (m := .neg a p) (pe_un un_neg' (sE Γ N a hX h).1) rfl
  | .not a p, n, X, k, sc, st, W, hX, h => by
    simp only [wE] at h
    exact ⟨pe_not' (sE Γ N a hX h).1, pt_not (sE Γ N a hX h).2⟩
  | .cmp a op b p, n, X, k, sc, st, W, hX, h => by
    simp only [wE, Bool.and_eq_true] at h
    exact ⟨pe_cmpR (op_cmp hX op) (sE Γ N a hX h.1).1 (sE Γ N b hX h.2).1 (nomarkE op b), pt_cmpR (op_cmp hX op) (sE Γ N a hX h.1).1 (sE Γ N b hX h.2).1 (nomarkE op b)⟩
  | .cmp2 a op b op2 c p, n, X, k, sc, st, W, hX, h => by
    simp only [wE, Bool.and_eq_true] at h
    exact ⟨pe_chain (op_cmp hX op) (op_cmp hX op2) (sE Γ N a hX h.1.1).1 (sE Γ N b hX h.1.2).1 (sE Γ N c hX h.2).1 (nomarkE op2 c), pt_chain (op_cmp hX op) (op_cmp hX op2) (sE Γ N a hX h.1.1).1 (sE Γ N b hX h.1.2).1 (sE Γ N c hX h.2).1 (nomarkE op2 c)⟩
  | .and es p, n, X, k, sc, st, W, hX, h => by
    simp only [wE] at h
    have l := sEs Γ N es hX h
    exact ⟨l.andV, l.andT.pt⟩
  | .or es p, n, X, k, sc, st, W, hX, h => by
    simp only [wE] at h
    have l := sEs Γ N es hX h
    exact ⟨l.orV, l.orT.pt⟩
  | .tup es k' p, n, X, k, sc, st, W, hX, h => by
    simp only [wE] at h
    exact two (m := .tup es k' p) (pe_tup (sEs Γ N es hX h).pa) rfl
  | .lst es p, n, X, k, sc, st, W, hX, h => by
    simp only [wE] at h
    exact two (m := .lst es p) (pe_lst (sEs Γ N es hX h).pa) rfl
  | .dic0 p, n, X, k, sc, st, W, hX, h => two (m := .dic0 p) (PE.or (PE.imp pe_dnewT fun σ H Q q => q) (PE.imp pe_dnewK fun σ H Q q => q)) rfl
  | .sub a i p, n, X, k, sc, st, W, hX, h => by
    simp only [wE, Bool.and_eq_true] at h
    exact two (m := .sub a i p) (pe_ix (ix_sub (by have := hX.room.units; omega)) (sE Γ N a hX h.1).1 (sE Γ N i hX h.2).1 (plainIx i)) rfl
  | .att a f p, n, X, k, sc, st, W, hX, h => by
    simp only [wE] at h
    exact two (m := .att a f p) (att_ok hX (sE Γ N a hX h).1 (abase a h f X.env)) rfl
  | .call i x q es p, n, X, k, sc, st, W, hX, h => by
    simp only [wE, Bool.and_eq_true, decide_eq_true_eq] at h
    exact two (m := .call i x q es p) (call_ok hX h.1.1.1 h.1.1.2 h.2 (sEs Γ N es hX h.1.2).pa) rfl
  | .make i x q es p, n, X, k, sc, st, W, hX, h => by
    simp only [wE, Bool.and_eq_true, decide_eq_true_eq] at h
    exact two (m := .make i x q es p) (make_ok hX h.1.1 h.1.2 (sEs Γ N es hX h.2).pa) rfl
  | .blt b q e es p, n, X, k, sc, st, W, hX, h => by
    simp only [wE, Bool.and_eq_true] at h
    have he := sE Γ N e hX h.1.2
    have hl := sEs Γ N es hX h.2
    exact two (m := .blt b q e es p) (callB_ok hX h.1.1 (pa_cons he.1 hl.pa (star_e e _ _))) rfl
  | .rep q e p, n, X, k, sc, st, W, hX, h => by
    simp only [wE, Bool.and_eq_true] at h
    obtain ⟨hg, hm, hn, hd⟩ := blt_of hX h.1
    exact two (m := .rep q e p) (pe_callB (call_rep hX) hg hm boot_repr (pa_cons (sE Γ N e hX h.2).1 pa_nil (star_e e [] _)) hn hd (star_e e [] X.env)) rfl
  | .fmt e p, n, X, k, sc, st, W, hX, h => by
    simp only [wE] at h
    exact two (m := .fmt e p) (pe_fmt (sE Γ N e hX h).1) rfl
  | .fst es p, n, X, k, sc, st, W, hX, h => by
    simp only [wE, Bool.and_eq_true, decide_eq_true_eq] at h
    exact two (m := .fst es p) (LOk.joined (sEs Γ N es hX h.1) h.2) rfl
  | .own a m q es p, n, X, k, sc, st, W, hX, h => by
    simp only [wE, Bool.and_eq_true, decide_eq_true_eq] at h
    exact two (m := .own a m q es p) (own_ok hX (sE Γ N a hX h.1.1.1).1 h.1.1.1 h.1.2 h.2 (sEs Γ N es hX h.1.1.2).pa) rfl
  | .bm m a q e p, n, X, k, sc, st, W, hX, h => by
    simp only [wE, Bool.and_eq_true] at h
    exact two (m := .bm m a q e p) (bm_ok m (sE Γ N a hX h.1.1).1 (sE Γ N e hX h.1.2).1 (abase a h.1.1 m.name X.env) (star_e e [] X.env) h.2) rfl
  | .callK i j x q es ks ws p, n, X, k, sc, st, W, hX, h => by
    simp only [wE, Bool.and_eq_true, decide_eq_true_eq] at h
    obtain ⟨⟨⟨⟨⟨h1, h2⟩, h3⟩, h4⟩, h5⟩, h0⟩ := h
    exact two (m := .callK i j x q es ks ws p) (callK_ok hX h1 h2 h0 (sEs Γ N es hX h3) (sEs Γ N ws hX h4) h5) rfl
  | .makeK i j x q es ks ws p, n, X, k, sc, st, W, hX, h => by
    simp only [wE, Bool.and_eq_true, decide_eq_true_eq] at h
    obtain ⟨⟨⟨⟨h1, h2⟩, h3⟩, h4⟩, h5⟩ := h
    exact two (m := .makeK i j x q es ks ws p) (makeK_ok hX h1 h2 (sEs Γ N es hX h3) (sEs Γ N ws hX h4) h5) rfl
  | .ownK j a m q es ks ws p, n, X, k, sc, st, W, hX, h => by
    simp only [wE, Bool.and_eq_true, decide_eq_true_eq] at h
    obtain ⟨⟨⟨⟨⟨h1, h2⟩, h3⟩, h4⟩, h5⟩, h6⟩ := h
    exact two (m := .ownK j a m q es ks ws p) (ownK_ok hX (sE Γ N a hX h1).1 h1 h5 h6 (sEs Γ N es hX h2) (sEs Γ N ws hX h3) h4) rfl
  | .lam i x q body scope lp p, n, X, k, sc, st, W, hX, h => by
    simp only [wE, Bool.and_eq_true, decide_eq_true_eq] at h
    obtain ⟨⟨⟨⟨h1, h2⟩, h3⟩, h4⟩, h5⟩ := h
    have L : LamX.LamS X.env.scope scope := by rw [hX.eSc]; exact LamX.lamS_by h4
    exact two (m := .lam i x q body scope lp p) (lam_ok hX (t := fun E => (dE Γ X.K body (fun c d _ H => E c d H)).1) h1 h2 h3 h4 fun A outer s H E f c' hr => (sE Γ N body (hX.lam (Nat.le_refl k) L A outer s H E f c' hr) h5).1) rfl
  | .bltK b q e d kp p, n, X, k, sc, st, W, hX, h => by
    simp only [wE, Bool.and_eq_true] at h
    obtain ⟨hg, hm, hn, hd⟩ := blt_of hX h.1.1
    have he := sE Γ N e hX h.1.2
    have hl : LOk X (.cons d .nil) [dE Γ X.K d W] := .cons (sE Γ N d hX h.2).1 (sE Γ N d hX h.2).2 .nil
    have hk : PK X [⟨some b.kw, eE d, kp⟩] (tCons (dE Γ X.K d W).1 tNil) := LOk.pk (ks := [(b.kw, kp)]) hl rfl
    exact two (m := .bltK b q e d kp p) (pe_callBK (BK.ok hX.calm hX.room.units b) hg hm (BK.boot b) (pa_cons he.1 pa_nil (star_e e [] _)) hk hn hd (by rw [star_e e [] X.env]; rfl) (plain_es (.cons e .nil) X.env p)
      (kw_some p X.env (.cons d .nil) [(b.kw, kp)]) (kw_none p X.env (.cons d .nil) [(b.kw, kp)]) (kw_names p X.env (.cons d .nil) [(b.kw, kp)] rfl)) rfl
  | .dget a k' d q p, n, X, k, sc, st, W, hX, h => by
    simp only [wE, Bool.and_eq_true] at h
    obtain ⟨⟨⟨h1, h2⟩, h3⟩, h4⟩ := h
    exact two (m := .dget a k' d q p) (pe_dget2 (by have := hX.room.units; omega) (sE Γ N a hX h1).1 (sE Γ N k' hX h2).1 (sE Γ N d hX h3).1 (m2_ok h1 h4)) rfl
  | .dsetd a k' d q p, n, X, k, sc, st, W, hX, h => by
    simp only [wE, Bool.and_eq_true] at h
    obtain ⟨⟨⟨h1, h2⟩, h3⟩, h4⟩ := h
    exact two (m := .dsetd a k' d q p) (pe_setdT (by have := hX.room.units; omega) (sE Γ N a hX h1).1 (sE Γ N k' hX h2).1 (sE Γ N d hX h3).1 (m2_ok h1 h4)) rfl
  | .sset q1 q2 e p2 p1, n, X, k, sc, st, W, hX, h => by
    simp only [wE, Bool.and_eq_true] at h
    obtain ⟨hg, hm, _, _⟩ := blt_of hX h.1.1
    obtain ⟨hg2, hm2, _, _⟩ := blt_of hX h.1.2
    exact two (m := .sset q1 q2 e p2 p1) (pe_sset hX.calm hg hm hg2 hm2 (sE Γ N e hX h.2).1 (star_e e [] _)) rfl
  | .sortLen q1 e kp lp ap p1 p2 p3 p4 p5 p6 p7 p8 p9 k1 k2 k3 scope p, n, X, k, sc, st, W, hX, h => by
    simp only [wE, Bool.and_eq_true] at h
    obtain ⟨⟨⟨⟨⟨h1, h2⟩, h3⟩, h4⟩, h5⟩, h6⟩ := h
    obtain ⟨hg, hm, _, _⟩ := blt_of hX h1
    exact two (m := .sortLen q1 e kp lp ap p1 p2 p3 p4 p5 p6 p7 p8 p9 k1 k2 k3 scope p) (sortLen_ok hX ⟨hg, hm⟩ h2 h3 h4 h5 (sE Γ N e hX h6).1) rfl
  | .ife c a b p, n, X, k, sc, st, W, hX, h => by
    simp only [wE, Bool.and_eq_true] at h
    exact ⟨pe_ifExp (sE Γ N c hX h.1.1).2 (sE Γ N a hX h.1.2).1 (sE Γ N b hX h.2).1, PT.never⟩
  | .slc a lo hi p2 p, n, X, k, sc, st, W, hX, h => by
    simp only [wE, Bool.and_eq_true] at h
    exact two (m := .slc a lo hi p2 p) (pe_slice (SlR.or sl_list (SlR.or sl_tupA C8.sl_txt)) (sE Γ N a hX h.1.1).1 (sO Γ N lo hX h.1.2) (sO Γ N hi hX h.2)) rfl
  | .ux o a p, n, X, k, sc, st, W, hX, h => by
    simp only [wE, Bool.and_eq_true] at h
    exact two (m := .ux o a p) (ux_ok hX o (sE Γ N a hX h.1).1 (abase a h.1) (star_e a [] _) h.2) rfl
  | .ux2 o a b p, n, X, k, sc, st, W, hX, h => by
    simp only [wE, Bool.and_eq_true] at h
    exact two (m := .ux2 o a b p) (ux2_ok hX o (sE Γ N a hX h.1.1).1 (sE Γ N b hX h.1.2).1 (fun es => star_e a es _) (star_e b [] _) h.2) rfl
  | .bx o a b p, n, X, k, sc, st, W, hX, h => by
    simp only [wE, Bool.and_eq_true] at h
    have ho : OpR X (compareOp o.op) (o.r Γ X.K) := by
      have hu := hX.room.un
      cases o with
      | inD => exact op_inDT (by omega)
      | notInD => exact op_notInDT (by omega)
      | eqD => exact op_eqDT (by omega)
      | neD => exact op_neDT (by omega)
      | eqL => exact op_ownL hX false
      | neL => exact op_ownL hX true
    exact ⟨pe_cmpR ho (sE Γ N a hX h.1).1 (sE Γ N b hX h.2).1 (nomarkE o.op b), pt_cmpR ho (sE Γ N a hX h.1).1 (sE Γ N b hX h.2).1 (nomarkE o.op b)⟩
  | .lc elt tg it ifs own scope p, n, X, k, sc, st, W, hX, h => by
    simp only [wE, Bool.and_eq_true, decide_eq_true_eq] at h
    obtain ⟨⟨⟨⟨⟨⟨h1, h2⟩, h3⟩, h4⟩, h5⟩, h6⟩, h7⟩ := h
    refine two (m := .lc elt tg it ifs own scope p) ?_ rfl
    have hN : X.N.Nodup := by rw [hX.eN]; exact hX.nd
    have hI : PI X (eT tg) (eI it) (dI Γ X.K it W) := sI Γ N it hX h1 tg h2
    refine pe_lc hX.calm hN hI (blkOk_by (by rw [hX.eN, hX.eSc]; exact h3)) (fun s H C cl fp => (sT Γ N tg (hX.blk s H C cl fp) h4)) (fun s H C cl fp => ?_) (fun s H C cl fp => (sE Γ N elt (hX.blk s H C cl fp) h7).1) (fun x => nofoldI it _ x)
    have l := sEs Γ N ifs (hX.blk s H C cl fp) h5
    revert l
    generalize dEs Γ X.K ifs (fun _ _ _ _ => False) = ds
    intro l
    cases l with
    | nil => exact pts_nil
    | cons a b l' =>
      cases l' with
      | nil => exact pts_one b
      | cons a' b' l'' => exact absurd h6 (by simp [MEs.len])
theorem sEs (Γ : Gam) (N : List Str) : ∀ (r : MEs) {n : Nms} {X : Cx} {k : Nat} {sc st : Scope} {W : WX}, Cok X Γ n k N sc st W → wEs N n r sc = true → LOk X r (dEs Γ X.K r W)
  | .nil, n, X, k, sc, st, W, hX, h => .nil
  | .cons e r, n, X, k, sc, st, W, hX, h => by
    simp only [wEs, Bool.and_eq_true] at h
    exact .cons (sE Γ N e hX h.1).1 (sE Γ N e hX h.1).2 (sEs Γ N r hX h.2)
theorem sO (Γ : Gam) (N : List Str) : ∀ (o : MO) {n : Nms} {X : Cx} {k : Nat} {sc st : Scope} {W : WX}, Cok X Γ n k N sc st W → wO N n o sc = true → PO X (eO o) (dO Γ X.K o W)
  | .none, n, X, k, sc, st, W, hX, h => po_none
  | .some e, n, X, k, sc, st, W, hX, h => by
    simp only [wO] at h
    exact po_some (sE Γ N e hX h).1
theorem sT (Γ : Gam) (N : List Str) : ∀ (t : MT) {n : Nms} {X : Cx} {k : Nat} {sc st : Scope} {W : WX}, Cok X Γ n k N sc st W → wT N n t sc st = true → PG X (eT t) (dT Γ X.K t W)
  | .name i x p, n, X, k, sc, st, W, hX, h => by
    simp only [wT, Bool.and_eq_true, decide_eq_true_eq] at h
    obtain ⟨q, hq, e⟩ := okName_ks h.2
    have hl : L2.Loc st x := by
      simp only [List.mem_cons, List.not_mem_nil, or_false] at hq
      rcases hq with rfl | rfl
      · exact .inl e
      · exact .inr e
    obtain ⟨l1, l2⟩ := hX.lcl x hl
    exact pg_name (by rw [hX.eN]; exact hX.nd) (by rw [hX.eN]; exact h.1) (by rw [hX.eSc]; exact l1) (by rw [hX.eSc]; exact l2)
  | .tup ts k' p, n, X, k, sc, st, W, hX, h => by
    simp only [wT] at h
    have l := sTs Γ N ts hX h
    exact pg_tupG hX.calm l.1 l.2.1 l.2.2
  | .sub a i p, n, X, k, sc, st, W, hX, h => by
    simp only [wT, Bool.and_eq_true] at h
    exact pg_sub (sE Γ N a hX h.1).1 (sE Γ N i hX h.2).1 (set_any (by have := hX.room.units; omega)) (fun v => by cases i <;> first | rfl | (rename_i o _ _; cases o <;> rfl) | (rename_i o _ _ _; cases o <;> rfl))
theorem sTs (Γ : Gam) (N : List Str) : ∀ (t : MTs) {n : Nms} {X : Cx} {k : Nat} {sc st : Scope} {W : WX}, Cok X Γ n k N sc st W → wTs N n t sc st = true →
    PGs X (eTs t) (dTs Γ X.K t W).2 ∧ (assignEach (eTs t) X.env).length = (dTs Γ X.K t W).1 ∧ (assignEach (eTs t) X.env).findIdx? (·.1) = none
  | .nil, n, X, k, sc, st, W, hX, h => ⟨pgs_nil, rfl, rfl⟩
  | .cons t r, n, X, k, sc, st, W, hX, h => by
    simp only [wTs, Bool.and_eq_true] at h
    have l := sTs Γ N r hX h.2
    have e : assignEach (eT t :: eTs r) X.env = (false, assign (eT t) X.env) :: assignEach (eTs r) X.env := by cases t <;> rfl
    refine ⟨pgs_cons (sT Γ N t hX h.1) l.1 ?_, ?_, ?_⟩
    · rw [e]; rfl
    · show (assignEach (eT t :: eTs r) X.env).length = _
      rw [e, List.length_cons, l.2.1]
      rfl
    · show (assignEach (eT t :: eTs r) X.env).findIdx? _ = _
      rw [e, List.findIdx?_cons, l.2.2]
      rfl
theorem sI (Γ : Gam) (N : List Str) : ∀ (it : MI) {n : Nms} {X : Cx} {k : Nat} {sc st : Scope} {W : WX}, Cok X Γ n k N sc st W → wI N n it sc = true → ∀ tg : MT, (match it with | .val _ => true | .rng1 .. => true | .rng2 .. => true | _ => isTupT tg) = true →
    PI X (eT tg) (eI it) (dI Γ X.K it W)
  | .val e, n, X, k, sc, st, W, hX, h, tg, ht => by
    simp only [wI] at h
    exact val_ok (sE Γ N e hX h).1
  | .rng1 q a p, n, X, k, sc, st, W, hX, h, tg, ht => by
    simp only [wI, Bool.and_eq_true] at h
    obtain ⟨hg, hm, _⟩ := blt_of hX h.1
    exact pi_range1 hg hm (pa_cons (sE Γ N a hX h.2).1 pa_nil (star_e a [] _)) (star_e a [] _)
  | .rng2 q a b p, n, X, k, sc, st, W, hX, h, tg, ht => by
    simp only [wI, Bool.and_eq_true] at h
    obtain ⟨hg, hm, _⟩ := blt_of hX h.1.1
    have hb : starEach [eE b] X.env = [(false, eval (eE b) X.env)] := star_e b [] _
    exact pi_range2 hg hm (pa_cons (sE Γ N a hX h.1.2).1 (pa_cons (sE Γ N b hX h.2).1 pa_nil hb) (star_e a _ _)) (by rw [star_e a, hb]) hb
  | .enum q a p, n, X, k, sc, st, W, hX, h, tg, ht => by
    simp only [wI, Bool.and_eq_true] at h
    obtain ⟨hg, hm, _⟩ := blt_of hX h.1
    cases tg with
    | tup ts k' p' => exact pi_enum hg hm (pa_cons (sE Γ N a hX h.2).1 pa_nil (star_e a [] _)) (star_e a [] _)
    | _ => cases ht
  | .zip q a b p, n, X, k, sc, st, W, hX, h, tg, ht => by
    simp only [wI, Bool.and_eq_true] at h
    obtain ⟨hg, hm, _⟩ := blt_of hX h.1.1
    have hb : starEach [eE b] X.env = [(false, eval (eE b) X.env)] := star_e b [] _
    cases tg with
    | tup ts k' p' => exact pi_zip hg hm (pa_cons (sE Γ N a hX h.1.2).1 (pa_cons (sE Γ N b hX h.2).1 pa_nil hb) (star_e a _ _)) (star_e a _ _) (by rw [hb]; rfl)
    | _ => cases ht
  | .items e q p, n, X, k, sc, st, W, hX, h, tg, ht => by
    simp only [wI, Bool.and_eq_true] at h
    cases tg with
    | tup ts k' p' => exact pi_itT (sE Γ N e hX h.1).1 (abase e h.1 "items" X.env) h.2
    | _ => cases ht
end
end Rf
namespace Rf
open PySem PySem.Spec PyProof.Rows L2

/-! ### statements -/
mutual
inductive MS where
  | expr (e : ME) (p : Pos)
  | ret (e : ME) (p : Pos)
  | retN (p : Pos)
  | asg (t : MT) (e : ME) (p : Pos)
  | asgL (i : Nat) (y : Str) (py : Pos) (elt : ME) (tg : MT) (it : MI) (ifs : MEs) (own : List (Str × Nat)) (scope : Scope) (lp : Pos) (p : Pos)
  | par (i : Nat) (x : Str) (px : Pos) (j : Nat) (y : Str) (py : Pos) (kt : Nat) (pt : Pos) (a b : ME) (k2 : Nat) (pt2 : Pos) (p : Pos)
  | setA (o : ME) (f : Str) (fp : Pos) (e : ME) (p : Pos)
  | aug (i : Nat) (x : Str) (px : Pos) (op : Operator) (e : ME) (p : Pos)
  | ifs (c : ME) (a b : MSs) (p : Pos)
  | whl (c : ME) (b : MSs) (p : Pos)
  | fors (t : MT) (it : MI) (b : MSs) (p : Pos)
  | pass (p : Pos)
  | brk (p : Pos)
  | cnt (p : Pos)
  | rais (i : Nat) (x : Str) (q : Pos) (m : Str) (j : Nat) (p2 : Pos) (p3 : Pos) (p : Pos)
  | trk (b : MSs) (gi : Nat) (x : Str) (np : Pos) (i : Nat) (n : Str) (j : Nat) (y : Str) (py pv pa hp p : Pos)
  | tdiv (i : Nat) (x : Str) (px : Pos) (a b : ME) (bp ap np : Pos) (j : Nat) (n : Str) (ei : Nat) (ex : Str) (q : Pos) (m : Str) (c : Nat) (p2 p3 cp rp hp p : Pos)
  | calp (a : Str) (p1 p2 p : Pos)
  | lock (s : MS)
  | raw (s : Stmt)
  | par3 (i : Nat) (x : Str) (px : Pos) (j : Nat) (y : Str) (py : Pos) (l : Nat) (z : Str) (pz : Pos) (kt : Nat) (pt : Pos) (a b c : ME) (k2 : Nat) (pt2 : Pos) (p : Pos)
inductive MSs where
  | nil
  | cons (s : MS) (r : MSs)
end
mutual
def eS : MS → Stmt
  | .expr e p => .Expr (eE e) p
  | .ret e p => .Return (some (eE e)) p
  | .retN p => .Return none p
  | .asg t e p => .Assign [eT t] (eE e) p
  | .asgL _ y py elt tg it ifs _ scope lp p => .Assign [.Name y py] (.ListComp (eE elt) [⟨eT tg, eI it, eEs ifs, 0⟩] scope lp) p
  | .par _ x px _ y py kt pt a b k2 pt2 p => .Assign [.Tuple [.Name x px, .Name y py] kt pt] (.Tuple [eE a, eE b] k2 pt2) p
  | .setA o f fp e p => .Assign [.Attribute (eE o) f fp] (eE e) p
  | .aug _ x px op e p => .AugAssign (.Name x px) op (eE e) p
  | .ifs c a b p => .If (eE c) (eSs a) (eSs b) p
  | .whl c b p => .While (eE c) (eSs b) [] p
  | .fors t it b p => .For (eT t) (eI it) (eSs b) [] p
  | .pass p => .Pass p
  | .brk p => .Break p
  | .cnt p => .Continue p
  | .rais _ x q m j p2 p3 p => .Raise (some (.Call (.Name x q) [.Constant (.str m) j p2] [] p3)) none p
  | .trk b _ x np _ n _ y py pv pa hp p => .Try (eSs b) [.ExceptHandler (some (.Name x np)) (some n) [.Assign [.Name y py] (.Name n pv) pa] hp] [] [] p
  | .tdiv _ x px a b bp ap np _ n _ ex q m c p2 p3 cp rp hp p => .Try [.Assign [.Name x px] (.BinOp (eE a) .FloorDiv (eE b) bp) ap] [.ExceptHandler (some (.Name "ZeroDivisionError" np)) (some n) [.Raise (some (.Call (.Name ex q) [.Constant (.str m) c p2] [] p3)) (some (.Name n cp)) rp] hp] [] [] p
  | .calp a p1 p2 p => .Expr (.Call (.Name a p1) [] [] p2) p
  | .lock s => eS s
  | .raw s => s
  | .par3 _ x px _ y py _ z pz kt pt a b c k2 pt2 p => .Assign [.Tuple [.Name x px, .Name y py, .Name z pz] kt pt] (.Tuple [eE a, eE b, eE c] k2 pt2) p
def eSs : MSs → List Stmt
  | .nil => []
  | .cons s r => eS s :: eSs r
end
/-! ### op= -/
def rAug (K : Frag) (op : Operator) : R2 := fun x y H Q => match op with
  | .Add => (match x, y with
    | .int i, .int j => Q (.int (i + j)) H
    | .str i, .str j => i.length + j.length ≤ sizeLine ∧ Q (.str (i ++ j)) H
    | _, _ => False)
  | .Sub => (match x, y with
    | .int i, .int j => Q (.int (i - j)) H
    | _, _ => False)
  | .Mult => (match x, y with
    | .int i, .int j => IntMulOk i j ∧ Q (.int (i * j)) H
    | _, _ => False)
  | .Mod => (match x, y with
    | .int i, .int j => 0 < j ∧ Q (.int (i % j)) H
    | _, _ => False)
  | _ => False
theorem ip_aug {X : Cx} (op : Operator) : OpR X (inplaceOp op) (rAug X.K op) := by
  cases op with
  | Add =>
    refine OpR.imp (OpR.or iop_add iop_add_str) fun x y H Q h => ?_
    unfold rAug at h
    dsimp only at h
    split at h
    · exact .inl ⟨_, _, rfl, rfl, h⟩
    · exact .inr ⟨_, _, rfl, rfl, h.1, h.2⟩
    · exact h.elim
  | Sub =>
    refine OpR.imp iop_sub fun x y H Q h => ?_
    unfold rAug at h
    dsimp only at h
    split at h
    · exact ⟨_, _, rfl, rfl, h⟩
    · exact h.elim
  | Mult =>
    refine OpR.imp (opI (C := IntMulOk) (g := fun i j => i * j) fun _ _ _ _ _ _ _ hc q => imul_int q hc) fun x y H Q h => ?_
    unfold rAug at h
    dsimp only at h
    split at h
    · exact ⟨_, _, rfl, rfl, h.1, h.2⟩
    · exact h.elim
  | Mod =>
    refine OpR.imp iop_mod fun x y H Q h => ?_
    unfold rAug at h
    dsimp only at h
    split at h
    · exact ⟨_, _, rfl, rfl, h.1, h.2⟩
    · exact h.elim
  | _ => exact fun pins s σ H x y v u Q I r1 r2 q => (show False from q).elim
/-! ### what they mean -/
def sSetA (Γ : Gam) (ta tv : TE) (f : Str) : TS := fun D σ H => tv σ H fun y H1 => ta σ H1 fun x H2 => ∃ a C dx fs, x = .ref a ∧ H2 a = some (.ins C dx fs) ∧ Γ.att C f ∧ fs.length < 1000 ∧ D.nx σ (upd H2 a (.ins C dx (putF f y fs)))
def sRais (Γ : Gam) (W : WX) (i : Nat) : TS := fun _ σ H => match Γ.exc[i]? with
  | some (_, C) => W (.ref C) none σ H
  | none => False
def isCls : V → Bool
  | .ref _ => true
  | .ty _ => true
  | _ => false
def clsOf : V → Value
  | .ref C => .ref C
  | .ty T => .type T
  | _ => .none
/-- a // b in the body of a try -/
def tFdX (W : WX) (ta tb : TE) : TE := fun σ H Q => ta σ H fun x H1 => tb σ H1 fun y H2 => match x, y with
  | .int p, .int q => (q = 0 ∧ ∀ d, W (.type "ZeroDivisionError") d σ H2) ∨ (q ≠ 0 ∧ Builtin.divisionGoesByPylong p q = false ∧ Q (.int (p.fdiv q)) H2)
  | _, _ => False
/-- the suite of the try: another exception, from this one -/
def uTdiv (Γ : Gam) (W : WX) (j ei : Nat) : Addr → Value → Option Addr → TS := fun a cls _ _ σ H => cls = .type "ZeroDivisionError" ∧ σ[j]? = some (some (.ref a)) ∧ ∃ x C, Γ.exc[ei]? = some (x, C) ∧ W (.ref C) none (σ.set j none) H
def sTdiv (Γ : Gam) (K : Frag) (W : WX) (i j ei : Nat) (ta tb : TE) : TS := fun D σ H => tAsg (tFdX (wFrom K (.type "ZeroDivisionError") j (uTdiv Γ W j ei) D) ta tb) (gName i) D σ H
theorem exm_zero {K : Frag} : PySem.W.exmOne K (.type "ZeroDivisionError") (.type "ZeroDivisionError") = some true := by
  unfold PySem.W.exmOne
  first
    | rfl
    | decide +kernel
theorem wFrom_zero {Γ : Gam} {K : Frag} {W : WX} {j ei : Nat} {D : Ends} {σ : L2.St} {H : Hp} {x : Str} {C : Addr} (hj : j < σ.length) (e : Γ.exc[ei]? = some (x, C)) (h : W (.ref C) none (σ.set j none) H) (d : Option Addr) :
    wFrom K (.type "ZeroDivisionError") j (uTdiv Γ W j ei) D (.type "ZeroDivisionError") d σ H :=
  ⟨exm_zero, fun a _ => ⟨rfl, List.getElem?_set_self hj, x, C, e, by rw [List.set_set]; exact h⟩⟩
mutual
def dS (Γ : Gam) (K : Frag) : MS → WX → TS
  | .expr e _, W => tDrop (dE Γ K e W).1
  | .ret e _, W => tRet (dE Γ K e W).1
  | .retN _, _ => tRetN
  | .asg t e _, W => tAsg (dE Γ K e W).1 (dT Γ K t W)
  | .asgL i _ _ elt tg it ifs own _ _ _, W => tAsg (tLc (dI Γ K it W) (dT Γ K tg (fun _ _ _ _ => False)) (match dEs Γ K ifs (fun _ _ _ _ => False) with | [] => tYes | d :: _ => d.2) (dE Γ K elt (fun _ _ _ _ => False)).1 (own.map (·.2))) (gName i)
  | .par i _ _ j _ _ _ _ a b _ _ _, W => tPar i j (tCons (dE Γ K a W).1 (tCons (dE Γ K b W).1 tNil))
  | .setA o f _ e _, W => sSetA Γ (dE Γ K o W).1 (dE Γ K e W).1 f
  | .aug i _ _ op e _, W => tAug i (dE Γ K e W).1 (rAug K op)
  | .ifs c a b _, W => tIfS (dE Γ K c W).2 (dSs Γ K a W) (dSs Γ K b W)
  | .whl c b _, W => tWhile (dE Γ K c W).2 (dSs Γ K b W)
  | .fors t it b _, W => tFor (dI Γ K it W) (dT Γ K t W) (dSs Γ K b W)
  | .pass _, _ => tNext
  | .brk _, _ => tBreak
  | .cnt _, _ => tCont
  | .rais i _ _ _ _ _ _ _, W => sRais Γ W i
  | .trk b gi _ _ i _ j _ _ _ _ _ _, W => fun D σ H => match Γ.glo[gi]? with
    | some (_, v) => isCls v = true ∧ dSs Γ K b (wLen σ.length (wKeep K (clsOf v) i (fun _ => tAsg (tVar i) (gName j)) W D)) D σ H
    | none => False
  | .tdiv i _ _ a b _ _ _ j _ ei _ _ _ _ _ _ _ _ _ _, W => sTdiv Γ K W i j ei (dE Γ K a (fun _ _ _ _ => False)).1 (dE Γ K b (fun _ _ _ _ => False)).1
  | .calp _ _ _ _, _ => fun _ _ _ => False
  | .lock s, W => tLock (dS Γ K s W)
  | .raw _, _ => fun _ _ _ => False
  | .par3 i _ _ j _ _ l _ _ _ _ a b c _ _ _, W => tPar3 i j l (tCons (dE Γ K a W).1 (tCons (dE Γ K b W).1 (tCons (dE Γ K c W).1 tNil)))
def dSs (Γ : Gam) (K : Frag) : MSs → WX → TS
  | .nil, _ => tNext
  | .cons s .nil, W => dS Γ K s W
  | .cons s r, W => tSeq (dS Γ K s W) (dSs Γ K r W)
end
/-! ### what is looked at -/
def isTupE : ME → Bool
  | .tup .. => true
  | _ => false
def swNames (sc : Scope) (ts : List Expr) : List Str := ts.filterMap fun
  | .Name id pos => if sc.names.lookup id == some .local && pos.line == (ts.head?.map (·.pos.line)).getD 0 then some id else none
  | _ => none
/-- a tuple stored into a tuple of targets, not all of them plain names of the def -/
def swB (sc : Scope) : Expr → Bool
  | .Tuple ts _ _ => !(ts.length == 2 || ts.length == 3) || (swNames sc ts).length != ts.length
  | _ => false
def isCellB (sc : Scope) (x : Str) : Bool := match sc.names.lookup x with | some .cell => true | _ => false
/-- a target into which a comprehension is stored without a swap -/
def noSwT (sc : Scope) : MT → Bool
  | .tup .. => true
  | .name _ x _ => isCellB sc x
  | .sub .. => true
def isLocalB (sc : Scope) (x : Str) : Bool := match sc.names.lookup x with | some .local => true | _ => false
def okIt (it : MI) (tg : MT) : Bool := match it with | .val _ => true | .rng1 .. => true | .rng2 .. => true | _ => isTupT tg
def okLc (N : List Str) (n : Nms) (sc : Scope) (elt : ME) (tg : MT) (it : MI) (ifs : MEs) (own : List (Str × Nat)) (scope : Scope) : Bool :=
  wI N n it sc && okIt it tg && blkC N sc scope own && wT N n tg (relS scope sc) scope && wEs N n ifs (relS scope sc) && decide (ifs.len ≤ 1) && wE N n elt (relS scope sc)
mutual
def wS (N : List Str) (n : Nms) : MS → Scope → Bool
  | .expr e _, sc => wE N n e sc && !isLc e
  | .ret e _, sc => wE N n e sc
  | .retN _, _ => true
  | .asg t e _, sc => wT N n t sc sc && wE N n e sc && (!isLc e || noSwT sc t) && (!(isTupT t && isTupE e) || swB sc (eT t))
  | .asgL i y py elt tg it ifs own scope lp _, sc => decide (N[i]? = some y) && isLocalB sc y && (py.line == lp.line) && !(scope.names.any fun (n, k) => n == y && (k == .local || k == .cell)) && okLc N n sc elt tg it ifs own scope && decide (sc.kind = .function)
  | .par i x px j y py _ _ a b _ _ _, sc => decide (N[i]? = some x) && decide (N[j]? = some y) && !(i == j) && isLocalB sc x && isLocalB sc y && (py.line == px.line) && !(x == y) && !([eE a, eE b].all (foldedForSure 8)) && !([eE a, eE b].all (constantsAlone 8)) && wE N n a sc && wE N n b sc && decide (sc.kind = .function)
  | .setA o _ _ e _, sc => wE N n o sc && wE N n e sc && !isLc e
  | .aug i x _ _ e _, sc => decide (N[i]? = some x) && okName sc x [.local, .cell] && wE N n e sc
  | .ifs c a b _, sc => wE N n c sc && wSs N n a sc && wSs N n b sc
  | .whl c b _, sc => wE N n c sc && wSs N n b sc
  | .fors t it b _, sc => wI N n it sc && okIt it t && wT N n t sc sc && wSs N n b sc
  | .pass _, _ => true
  | .brk _, _ => true
  | .cnt _, _ => true
  | .rais i x _ _ _ _ _ _, sc => decide (n.exc[i]? = some x) && okName sc x [.globalImplicit]
  | .trk b gi x _ i m j y _ _ _ _ _, sc => wSs N n b sc && decide (n.glo[gi]? = some x) && okName sc x [.globalImplicit] && decide (N[i]? = some m) && isLocalB sc m && decide (N[j]? = some y) && okName sc y [.local, .cell] && okName sc m [.local]
  | .tdiv i x _ a b _ _ _ j m ei ex _ _ _ _ _ _ _ _ _, sc => decide (N[i]? = some x) && isLocalB sc x && wE N n a sc && wE N n b sc && okBlt n sc "ZeroDivisionError" && decide (N[j]? = some m) && isLocalB sc m && decide (n.exc[ei]? = some ex) && okName sc ex [.globalImplicit] && okName sc m [.local]
  | .calp _ _ _ _, _ => false
  | .lock s, sc => wS N n s sc
  | .raw _, _ => true
  | .par3 i x px j y py l z pz _ _ a b c _ _ _, sc => decide (N[i]? = some x) && decide (N[j]? = some y) && decide (N[l]? = some z) && !(i == j) && !(i == l) && !(j == l) && isLocalB sc x && isLocalB sc y && isLocalB sc z && (py.line == px.line) && (pz.line == px.line) && !(x == y) && !(x == z) && !(y == z) &&
    !([eE a, eE b, eE c].all (foldedForSure 8)) && !([eE a, eE b, eE c].all (constantsAlone 8)) && wE N n a sc && wE N n b sc && wE N n c sc && decide (sc.kind = .function)
def wSs (N : List Str) (n : Nms) : MSs → Scope → Bool
  | .nil, _ => true
  | .cons s r, sc => wS N n s sc && wSs N n r sc
end
end Rf
namespace Rf
open PySem PySem.Spec PyProof.Rows L2

theorem starred_e (m : ME) : (match eE m with | .Starred .. => true | _ => false) = false := by cases m <;> first | rfl | (rename_i o _ _; cases o <;> rfl) | (rename_i o _ _ _; cases o <;> rfl)
theorem local_of {sc : Scope} {x : Str} (h : isLocalB sc x = true) : sc.names.lookup x = some .local := by
  unfold isLocalB at h
  split at h
  · assumption
  · cases h
section
variable {X : Cx} {Γ : Gam} {n : Nms} {k : Nat} {N : List Str} {sc st : Scope} {W : WX}
theorem swapped_none (t : MT) (e : ME) (env : Env) (h : (isTupT t && isTupE e) = false) : swappedStores [eT t] (eE e) env = pure none := by
  cases t with
  | tup ts k' p =>
    cases e with
    | tup => cases h
    | ux o a p => cases o <;> rfl
    | ux2 o a b p => cases o <;> rfl
    | _ => rfl
  | _ => rfl
theorem cell_of {sc : Scope} {x : Str} (h : isCellB sc x = true) : sc.names.lookup x = some .cell := by
  unfold isCellB at h
  split at h
  · assumption
  · cases h
theorem noswap_T (t : MT) (m : ME) (l : Nat) (env : Env) (h : (!isLc m || noSwT env.scope t) = true) : swapsWith (eE m) (some (eT t)) l env = pure false := by
  cases q : isLc m with
  | false => exact noswap m _ l env q
  | true =>
    rw [q] at h
    have h' : noSwT env.scope t = true := h
    cases t with
    | tup ts k p =>
      unfold swapsWith
      cases m <;> first | rfl | (rename_i o _ _; cases o <;> rfl) | (rename_i o _ _ _; cases o <;> rfl)
    | sub a i p =>
      unfold swapsWith
      cases m <;> first | rfl | (rename_i o _ _; cases o <;> rfl) | (rename_i o _ _ _; cases o <;> rfl)
    | name i x p =>
      have hx : env.scope.names.lookup x = some .cell := cell_of h'
      have kx : env.kindOf x = some .cell := hx
      have e : (env.kindOf x == some .local) = false := by rw [kx]; rfl
      cases m with
      | lc elt tg it ifs own scope p2 =>
        show swapsWith (.ListComp _ _ _ _) (some (.Name x p)) l env = pure false
        unfold swapsWith
        simp only [pure_bind, e, Bool.and_false, Bool.false_and]
      | _ => cases q
theorem swapped_B (t : MT) (e : ME) (env : Env) (h : (!(isTupT t && isTupE e) || swB env.scope (eT t)) = true) : swappedStores [eT t] (eE e) env = pure none := by
  cases q : (isTupT t && isTupE e) with
  | false => exact swapped_none t e env q
  | true =>
    rw [q] at h
    have h' : swB env.scope (eT t) = true := h
    cases t with
    | tup ts k p =>
      cases e with
      | tup es k2 p2 =>
        have h2 : (!((eTs ts).length == 2 || (eTs ts).length == 3) || (swNames env.scope (eTs ts)).length != (eTs ts).length) = true := h'
        show swappedStores [.Tuple (eTs ts) k p] (.Tuple (eEs es) k2 p2) env = pure none
        unfold swappedStores
        simp only [pure_bind]
        split
        · rfl
        · rename_i c1
          split
          · rfl
          · rw [if_pos]
            have c2 : (!((eTs ts).length == 2 || (eTs ts).length == 3)) = false := by
              cases z : (!((eTs ts).length == 2 || (eTs ts).length == 3)) with
              | false => rfl
              | true => rw [z] at c1; simp at c1
            rw [c2] at h2
            have h3 : ((swNames env.scope (eTs ts)).length != (eTs ts).length) = true := h2
            rw [Bool.or_eq_true]
            exact .inl h3
      | _ => exact absurd q (by simp [isTupT, isTupE])
    | _ => exact absurd q (by simp [isTupT])
theorem swapped_par {a b : ME} {x y : Str} {px py pt pt2 : Pos} {kt k2 : Nat} {env : Env} (hk : env.scope.kind = .function) (hx : env.scope.names.lookup x = some .local) (hy : env.scope.names.lookup y = some .local) (hl : (py.line == px.line) = true) (hxy : (x == y) = false)
    (h1 : [eE a, eE b].all (foldedForSure 8) = false) (h2 : [eE a, eE b].all (constantsAlone 8) = false) :
    swappedStores [.Tuple [.Name x px, .Name y py] kt pt] (.Tuple [eE a, eE b] k2 pt2) env = pure (some [x, y]) := by
  have hb : env.blockKind = .function := by unfold Env.blockKind; rw [hk]; rfl
  have kx : env.kindOf x = some .local := hx
  have ky : env.kindOf y = some .local := hy
  have sa := starred_e a
  have sb := starred_e b
  have hn : ([eE a, eE b].any fun | .Starred .. => true | _ => false) = false := by
    show ((match eE a with | .Starred .. => true | _ => false) || ((match eE b with | .Starred .. => true | _ => false) || false)) = false
    rw [sa, sb]
    rfl
  have hyx : (y == x) = false := by
    cases q : y == x with
    | false => rfl
    | true =>
      have e : y = x := by simpa using q
      subst e
      simp at hxy
  unfold swappedStores
  simp only [hb, h1, h2, hn, kx, ky, hl, Expr.pos, List.length_cons, List.length_nil, List.head?_cons, Option.map_some, Option.getD_some, List.filterMap_cons, List.filterMap_nil, beq_self_eq_true, Bool.and_self, if_true, List.eraseDups_cons, List.eraseDups_nil, List.filter_cons, List.filter_nil, hyx, Bool.not_false, Bool.false_eq_true, if_false, pure_bind]
  simp
  intro z
  rcases z with z | z
  · exact absurd (sa.symm.trans z) Bool.false_ne_true
  · exact absurd (sb.symm.trans z) Bool.false_ne_true
theorem bne_of {x y : Str} (h : (x == y) = false) : (y == x) = false := by
  cases q : y == x with
  | false => rfl
  | true =>
    have e : y = x := by simpa using q
    subst e
    simp at h
theorem swapped_par3 {a b c : ME} {x y z : Str} {px py pz pt pt2 : Pos} {kt k2 : Nat} {env : Env} (hk : env.scope.kind = .function) (hx : env.scope.names.lookup x = some .local) (hy : env.scope.names.lookup y = some .local) (hz : env.scope.names.lookup z = some .local) (hl : (py.line == px.line) = true) (hl2 : (pz.line == px.line) = true) (hxy : (x == y) = false)
    (hxz : (x == z) = false) (hyz : (y == z) = false) (h1 : [eE a, eE b, eE c].all (foldedForSure 8) = false) (h2 : [eE a, eE b, eE c].all (constantsAlone 8) = false) :
    swappedStores [.Tuple [.Name x px, .Name y py, .Name z pz] kt pt] (.Tuple [eE a, eE b, eE c] k2 pt2) env = pure (some [x, y, z]) := by
  have hb : env.blockKind = .function := by unfold Env.blockKind; rw [hk]; rfl
  have kx : env.kindOf x = some .local := hx
  have ky : env.kindOf y = some .local := hy
  have kz : env.kindOf z = some .local := hz
  have sa := starred_e a
  have sb := starred_e b
  have sc := starred_e c
  have hyx := bne_of hxy
  have hzx := bne_of hxz
  have hzy := bne_of hyz
  unfold swappedStores
  simp only [hb, h1, h2, kx, ky, kz, hl, hl2, Expr.pos, List.length_cons, List.length_nil, List.head?_cons, Option.map_some, Option.getD_some, List.filterMap_cons, List.filterMap_nil, beq_self_eq_true, Bool.and_self, if_true, List.eraseDups_cons, List.eraseDups_nil, List.filter_cons, List.filter_nil, hyx, hzx, hzy, Bool.not_false, Bool.false_eq_true, if_false, pure_bind]
  simp
  intro z
  rcases z with z | z | z
  · exact absurd (sa.symm.trans z) Bool.false_ne_true
  · exact absurd (sb.symm.trans z) Bool.false_ne_true
  · exact absurd (sc.symm.trans z) Bool.false_ne_true
theorem setA_ok (hX : Cok X Γ n k N sc st W) {o e : Expr} {f : Str} {ta tv : TE} {fp p : Pos} (ho : PE X o ta) (hv : PE X e tv) (hs : swapsWith e (some (.Attribute o f fp)) p.line X.env = pure false) :
    PS X (.Assign [.Attribute o f fp] e p) (sSetA Γ ta tv f) := by
  refine ⟨fun pins s σ H D I h => plainObj_wpAny_Assign_Attribute (thn (hv.run pins s σ H _ I h) fun u s1 hh => ?_) hs⟩
  obtain ⟨y, H1, I1, ry, q⟩ := hh
  refine thn (ho.run pins s1 σ H1 _ I1 q) fun ov s2 hh => ?_
  obtain ⟨x, H2, I2, rx, a, C, dx, fs, ex, ea, ht, l, q2⟩ := hh
  obtain ⟨c, nn⟩ := hX.gam.att C f ht
  subst ex
  cases rx
  exact setattr_ok I2 ea c nn l ry fun s3 I3 => ⟨σ, _, I3, q2⟩
theorem rais_ok (hX : Cok X Γ n k N sc st W) {i j : Nat} {x m : Str} {q p2 p3 p : Pos} (h1 : n.exc[i]? = some x) (h2 : okName sc x [.globalImplicit] = true) :
    PS X (.Raise (some (.Call (.Name x q) [.Constant (.str m) j p2] [] p3)) none p) (sRais Γ W i) := by
  obtain ⟨C, e, hm⟩ := lk hX.gam.excN h1
  have T := hX.gam.exc x C hm
  obtain ⟨B, ni, ii, bmB, F, q'⟩ := T.fC
  have h := ps_raise (pos := p) hX.calm hX.tk (pmk_own (p := q) (p2 := p2) (pos := p3) (m := m) (j := j) F q' T.gC T.kC (raises_own T.bC T.tC) (gl_of hX h2) (okName_db h2))
  refine ⟨fun pins s σ H D I hh => h.run pins s σ H D I ?_⟩
  unfold sRais at hh
  rw [e] at hh
  exact hh
theorem lc_ok (hX : Cok X Γ n k N sc st W) {elt : ME} {tg : MT} {it : MI} {ifs : MEs} {own : List (Str × Nat)} {scope : Scope} (h : okLc N n sc elt tg it ifs own scope = true) :
    PI X (eT tg) (eI it) (dI Γ X.K it W) ∧ BlkOk X.N X.env.scope scope own ∧
    (∀ (s : Shared) (H : Hp) (C : Addr) (cl : List (Str × Addr)) (fp : List Addr), PG (X.blk s H scope (compEnvC scope cl C X.env) fp) (eT tg) (dT Γ X.K tg (fun _ _ _ _ => False))) ∧
    (∀ (s : Shared) (H : Hp) (C : Addr) (cl : List (Str × Addr)) (fp : List Addr), PTs (X.blk s H scope (compEnvC scope cl C X.env) fp) (eEs ifs) (match dEs Γ X.K ifs (fun _ _ _ _ => False) with | [] => tYes | d :: _ => d.2)) ∧
    (∀ (s : Shared) (H : Hp) (C : Addr) (cl : List (Str × Addr)) (fp : List Addr), PE (X.blk s H scope (compEnvC scope cl C X.env) fp) (eE elt) (dE Γ X.K elt (fun _ _ _ _ => False)).1) := by
  unfold okLc at h
  simp only [Bool.and_eq_true, decide_eq_true_eq] at h
  obtain ⟨⟨⟨⟨⟨⟨h1, h2⟩, h3⟩, h4⟩, h5⟩, h6⟩, h7⟩ := h
  refine ⟨sI Γ N it hX h1 tg h2, blkOk_by (by rw [hX.eN, hX.eSc]; exact h3), fun s H C cl fp => (sT Γ N tg (hX.blk s H C cl fp) h4), fun s H C cl fp => ?_, fun s H C cl fp => (sE Γ N elt (hX.blk s H C cl fp) h7).1⟩
  have l := sEs Γ N ifs (hX.blk s H C cl fp) h5
  revert l
  generalize dEs Γ X.K ifs (fun _ _ _ _ => False) = ds
  intro l
  cases l with
  | nil => exact pts_nil
  | cons a b l' =>
    cases l' with
    | nil => exact pts_one b
    | cons a' b' l'' => exact absurd h6 (by simp [MEs.len])
end
/-- .. for statements -/
structure CokS (X : Cx) (Γ : Gam) (n : Nms) (k : Nat) (N : List Str) (sc : Scope) (W : WX) : Prop extends Cok X Γ n k N sc sc W where
  stk : X.stack = X.env :: X.outer
  frm : X.env.frame = some X.env.locals
  exn : X.ex = []
  pasAt : ∀ hd : Option Value, PassesOwnAt (model X.prog X.w) (X.A.mark hd) X.A X.env X.xe
theorem names_of {X : Cx} {Γ : Gam} {n : Nms} {k : Nat} {N : List Str} {sc st : Scope} {W : WX} (hX : Cok X Γ n k N sc st W) {gi : Nat} {x : Str} (h1 : n.glo[gi]? = some x) (h2 : okName sc x [.globalImplicit] = true) : ∃ v, Γ.glo[gi]? = some (x, v) ∧ (isCls v = true → Names X x (clsOf v)) := by
  obtain ⟨v, e, hm⟩ := lk hX.gam.gloN h1
  obtain ⟨u, r, h⟩ := hX.gam.glo x v hm
  refine ⟨v, e, fun hc => ⟨gl_of hX h2, okName_db h2, ?_⟩⟩
  have eu : u = clsOf v := by
    cases v with
    | ref C => exact r
    | ty T => exact r
    | _ => cases hc
  rw [← eu]
  exact h
section
variable {X : Cx} {Γ : Gam} {n : Nms} {k : Nat} {N : List Str} {sc : Scope} {W : WX}
/-- nothing comes -/
theorem CokS.tr (hX : CokS X Γ n k N sc W) {pn : List (Addr × Obj)} {xe : Value → Shared → Prop} {W' : WX} (tk : Takes (X.tr pn xe) W') (h1 : PassesOwn (model X.prog X.w) X.A X.env xe) (h2 : ∀ hd : Option Value, PassesOwnAt (model X.prog X.w) (X.A.mark hd) X.A X.env xe) :
    CokS (X.tr pn xe) Γ n k N sc W' :=
  ⟨⟨hX.eN, hX.nd, hX.eSc, hX.calm, hX.room, hX.gam, tk, hX.lcl, h1, hX.lm, hX.gd⟩, hX.stk, hX.frm, hX.exn, h2⟩
theorem trk_ok (hX : CokS X Γ n k N sc W) {b : MSs} {gi i j : Nat} {x m y : Str} {np py pv pa hp p : Pos} (hb : ∀ (Y : Cx) (W' : WX), CokS Y Γ n k N sc W' → PSs Y (eSs b) (dSs Γ Y.K b W')) (h2 : n.glo[gi]? = some x) (h3 : okName sc x [.globalImplicit] = true)
    (h4 : N[i]? = some m) (h5 : isLocalB sc m = true) (h6 : N[j]? = some y) (h7 : okName sc y [.local, .cell] = true) (h8 : okName sc m [.local] = true) : PS X (eS (.trk b gi x np i m j y py pv pa hp p)) (dS Γ X.K (.trk b gi x np i m j y py pv pa hp p) W) := by
  refine ⟨fun pins s σ H D I h => ?_⟩
  obtain ⟨v, ev, hv⟩ := names_of hX.toCok h2 h3
  have h' : isCls v = true ∧ dSs Γ X.K b (wLen σ.length (wKeep X.K (clsOf v) i (fun _ => tAsg (tVar i) (gName j)) W D)) D σ H := by
    unfold dS at h
    rw [ev] at h
    exact h
  obtain ⟨hc, h'⟩ := h'
  rw [I.len] at h'
  have hm := local_of h5
  have vis : Vis X.env.scope m := .inl (by rw [hX.eSc]; exact hm)
  obtain ⟨q, hq, ey⟩ := okName_ks h7
  have hl : L2.Loc sc y := by
    simp only [List.mem_cons, List.not_mem_nil, or_false] at hq
    rcases hq with rfl | rfl
    · exact .inl ey
    · exact .inr ey
  obtain ⟨l1, l2⟩ := hX.lcl y hl
  exact (ps_try_keep (tb := fun W' => dSs Γ X.K b W') (ts := fun _ => tAsg (tVar i) (gName j)) hX.stk hX.frm hX.exn (by rw [hX.eN]; exact hX.nd) (by rw [hX.eN]; exact h4) (by show X.env.scope.names.lookup m = _; rw [hX.eSc]; exact hm) (hv hc) hX.tk
    (fun W' pn xe tk q1 q2 => hb (X.tr pn xe) W' (hX.tr tk q1 q2))
    (fun a pn => pss_one (ps_asg (pe_var (by show X.N[i]? = _; rw [hX.eN]; exact h4) vis (okName_db h8) (okName_cd h8)) (pg_name (by show X.N.Nodup; rw [hX.eN]; exact hX.nd) (by show X.N[j]? = _; rw [hX.eN]; exact h6) (by show L2.Loc X.env.scope y; rw [hX.eSc]; exact l1) (by show X.fn y = true ∨ X.env.scope.names.lookup y = _; rw [hX.eSc]; exact l2)) rfl rfl rfl))).run pins s σ H D I h'
theorem pe_fdX {Y : Cx} {W : WX} {a b : Expr} {ta tb : TE} {p : Pos} (hc : Y.calm = true) (tk : L2N.Takes Y W) (ha : PE Y a ta) (hb : PE Y b tb) : PE Y (.BinOp a .FloorDiv b p) (tFdX W ta tb) := by
  refine ⟨fun pins s σ H Q I h => wpAny_BinOp (binT ha hb I (R := fun x y H2 => match x, y with
    | .int p, .int q => (q = 0 ∧ ∀ d, W (.type "ZeroDivisionError") d σ H2) ∨ (q ≠ 0 ∧ Builtin.divisionGoesByPylong p q = false ∧ Q (.int (p.fdiv q)) H2)
    | _, _ => False) h fun v u s2 x y H2 I2 rx ry q => ?_)⟩
  cases x with
  | int i =>
    cases y with
    | int j =>
      obtain ⟨t1, rfl⟩ := rx
      obtain ⟨t2, rfl⟩ := ry
      refine floordiv_int_or (I2.ok.hd hc) (fun e h' tk' ea ne => ?_) (fun e => ?_) (fun e => .inl ?_)
      · rcases q with ⟨_, q⟩ | ⟨n, _⟩
        · exact L2N.takes_newN tk I2 ne q
        · exact absurd e n
      · rcases q with ⟨z, _⟩ | ⟨_, _, q⟩
        · exact absurd z e
        · exact ⟨.int (i.fdiv j), H2, I2.tok _, ⟨_, rfl⟩, q⟩
      · rcases q with ⟨z, _⟩ | ⟨_, q, _⟩
        · exact absurd z e
        · exact q
    | _ => exact (show False from q).elim
  | _ => exact (show False from q).elim
theorem never_takes {Y : Cx} : Takes Y (fun _ _ _ _ => False) := fun _ _ ⟨_, _, _, _, _, _, _, _, _, _, _, _, _, _, _, _, z⟩ => z.elim
theorem tdiv_ok (hX : CokS X Γ n k N sc W) {a b : ME} {i j ei c : Nat} {x m ex ms : Str} {px bp ap np q p2 p3 cp rp hp p : Pos} (ha : ∀ Y : Cx, Cok Y Γ n k N sc sc (fun _ _ _ _ => False) → PE Y (eE a) (dE Γ Y.K a (fun _ _ _ _ => False)).1)
    (hb : ∀ Y : Cx, Cok Y Γ n k N sc sc (fun _ _ _ _ => False) → PE Y (eE b) (dE Γ Y.K b (fun _ _ _ _ => False)).1)
    (h1 : N[i]? = some x) (h2 : isLocalB sc x = true) (h3 : okBlt n sc "ZeroDivisionError" = true) (h4 : N[j]? = some m) (h5 : isLocalB sc m = true) (h6 : n.exc[ei]? = some ex) (h7 : okName sc ex [.globalImplicit] = true) (h8 : okName sc m [.local] = true) :
    PS X (eS (.tdiv i x px a b bp ap np j m ei ex q ms c p2 p3 cp rp hp p)) (dS Γ X.K (.tdiv i x px a b bp ap np j m ei ex q ms c p2 p3 cp rp hp p) W) := by
  obtain ⟨hg, hm, hn, hd⟩ := blt_of hX.toCok h3
  obtain ⟨C, ee, hC⟩ := lk hX.gam.excN h6
  have T := hX.gam.exc ex C hC
  obtain ⟨B, ni, ii, bmB, F, q'⟩ := T.fC
  have lx := local_of h2
  have lm := local_of h5
  have key := ps_try_from (np := np) (hp := hp) (pos := p) (Wout := W) (c := .type "ZeroDivisionError") (i := j) (b₀ := .Raise (some (.Call (.Name ex q) [.Constant (.str ms) c p2] [] p3)) (some (.Name m cp)) rp) (suite := []) (body := [.Assign [.Name x px] (.BinOp (eE a) .FloorDiv (eE b) bp) ap])
    (tb := fun W' D σ H => tAsg (tFdX W' (dE Γ X.K a (fun _ _ _ _ => False)).1 (dE Γ X.K b (fun _ _ _ _ => False)).1) (gName i) D σ H) (ts := uTdiv Γ W j ei)
    hX.stk hX.frm hX.exn (by rw [hX.eN]; exact hX.nd) (by rw [hX.eN]; exact h4) (by show X.env.scope.names.lookup m = _; rw [hX.eSc]; exact lm) hX.pasAt ⟨hg, hd, .inr ⟨hm, by decide +kernel, hn⟩⟩ hX.tk ?_ ?_
  · exact key
  · intro W' pn xe tk ps
    have hY : Cok (X.tr pn xe) Γ n k N sc sc (fun _ _ _ _ => False) := ⟨hX.eN, hX.nd, hX.eSc, hX.calm, hX.room, hX.gam, never_takes, hX.lcl, ps, hX.lm, hX.gd⟩
    exact pss_one (ps_asg (pe_fdX hX.calm tk (ha _ hY) (hb _ hY)) (pg_name (by show X.N.Nodup; rw [hX.eN]; exact hX.nd) (by show X.N[i]? = _; rw [hX.eN]; exact h1) (by show L2.Loc X.env.scope x; rw [hX.eSc]; exact .inl lx) (.inr (by show X.env.scope.names.lookup x = _; rw [hX.eSc]; exact lx))) rfl rfl rfl)
  · intro e oe cls d pn hz ⟨vs, hv⟩ nb tk
    refine pss_one ⟨fun pins s σ H D I h => ?_⟩
    obtain ⟨ec, slot, x', C', e', w⟩ := h
    rw [ee] at e'
    cases e'
    subst ec
    exact (ps_raiseFrom (Y := Cx.suiteF X m hp e ((e, oe) :: pn)) (p := (e, oe)) (i := j) rfl (List.mem_append_left _ List.mem_cons_self) nb hv (hz.2.2 vs hv) hz.1 exb_ZeroDivisionError.raises tk
      (pmk_six F q' T.gC T.kC (raises_own T.bC T.tC) (gl_of hX.toCok h7) (okName_db h7)) (by show X.N[j]? = _; rw [hX.eN]; exact h4) (.inl (by show X.env.scope.names.lookup m = _; rw [hX.eSc]; exact lm)) (okName_db h8) (okName_cd h8)).run pins s σ H D I ⟨slot, w⟩
end
mutual
theorem sS (Γ : Gam) (N : List Str) : ∀ (s : MS) {n : Nms} {X : Cx} {k : Nat} {sc : Scope} {W : WX}, CokS X Γ n k N sc W → wS N n s sc = true → PS X (eS s) (dS Γ X.K s W)
  | .expr e p, n, X, k, sc, W, hX, h => by
    simp only [wS, Bool.and_eq_true, Bool.not_eq_true'] at h
    exact ps_expr (sE Γ N e hX.toCok h.1).1 (noswap e _ _ _ h.2)
  | .ret e p, n, X, k, sc, W, hX, h => by
    simp only [wS] at h
    exact ps_ret (sE Γ N e hX.toCok h).1
  | .retN p, n, X, k, sc, W, hX, h => ps_retN
  | .asg t e p, n, X, k, sc, W, hX, h => by
    rw [wS, Bool.and_eq_true, Bool.and_eq_true, Bool.and_eq_true] at h
    obtain ⟨⟨⟨h1, h2⟩, h3⟩, h4⟩ := h
    exact ps_asg (sE Γ N e hX.toCok h2).1 (sT Γ N t hX.toCok h1) (noswap_T t e _ _ (by rw [hX.eSc]; exact h3)) (swapped_B t e _ (by rw [hX.eSc]; exact h4)) (by cases t <;> rfl)
  | .asgL i y py elt tg it ifs own scope lp p, n, X, k, sc, W, hX, h => by
    simp only [wS, Bool.and_eq_true, Bool.not_eq_true', decide_eq_true_eq] at h
    obtain ⟨⟨⟨⟨⟨h1, h2⟩, h3⟩, h4⟩, h5⟩, h6⟩ := h
    obtain ⟨l1, l2, l3, l4, l5⟩ := lc_ok hX.toCok h5
    have hy := local_of h2
    exact ps_setLc hX.calm (by rw [hX.eN]; exact hX.nd) (by rw [hX.eN]; exact h1) (by rw [hX.eSc]; exact hy) (sw_true (by rw [hX.eSc]; exact h6) (by rw [hX.eSc]; exact hy) h3 h4) l1 l2 l3 l4 l5 (fun x => nofoldI it _ x)
  | .par i x px j y py kt pt a b k2 pt2 p, n, X, k, sc, W, hX, h => by
    simp only [wS, Bool.and_eq_true, Bool.not_eq_true', decide_eq_true_eq] at h
    obtain ⟨⟨⟨⟨⟨⟨⟨⟨⟨⟨⟨h1, h2⟩, h3⟩, h4⟩, h5⟩, h6⟩, h7⟩, h8⟩, h9⟩, h10⟩, h11⟩, h12⟩ := h
    have hx := local_of h4
    have hy := local_of h5
    have hb : starEach [eE b] X.env = [(false, eval (eE b) X.env)] := star_e b [] _
    refine ps_par hX.calm (by rw [hX.eN]; exact hX.nd) (by rw [hX.eN]; exact h1) (by rw [hX.eN]; exact h2) (by intro e; subst e; simp at h3) (by rw [hX.eSc]; exact hx) (by rw [hX.eSc]; exact hy)
      (pa_cons (sE Γ N a hX.toCok h10).1 (pa_cons (sE Γ N b hX.toCok h11).1 pa_nil hb) (star_e a _ _)) (swapped_par (by rw [hX.eSc]; exact h12) (by rw [hX.eSc]; exact hx) (by rw [hX.eSc]; exact hy) h6 h7 h8 h9) rfl
  | .setA o f fp e p, n, X, k, sc, W, hX, h => by
    simp only [wS, Bool.and_eq_true, Bool.not_eq_true'] at h
    exact setA_ok hX.toCok (sE Γ N o hX.toCok h.1.1).1 (sE Γ N e hX.toCok h.1.2).1 (noswap e _ _ _ h.2)
  | .aug i x px op e p, n, X, k, sc, W, hX, h => by
    simp only [wS, Bool.and_eq_true, decide_eq_true_eq] at h
    obtain ⟨⟨h1, h2⟩, h3⟩ := h
    obtain ⟨q, hq, e1⟩ := okName_ks h2
    have hl : L2.Loc sc x := by
      simp only [List.mem_cons, List.not_mem_nil, or_false] at hq
      rcases hq with rfl | rfl
      · exact .inl e1
      · exact .inr e1
    obtain ⟨l1, l2⟩ := hX.lcl x hl
    exact ps_aug (by rw [hX.eN]; exact hX.nd) (by rw [hX.eN]; exact h1) (by rw [hX.eSc]; exact l1) (sE Γ N e hX.toCok h3).1 (ip_aug op) (by rw [hX.eSc]; exact l2)
  | .ifs c a b p, n, X, k, sc, W, hX, h => by
    simp only [wS, Bool.and_eq_true] at h
    exact ps_if (sE Γ N c hX.toCok h.1.1).2 (sSs Γ N a hX h.1.2) (sSs Γ N b hX h.2)
  | .whl c b p, n, X, k, sc, W, hX, h => by
    simp only [wS, Bool.and_eq_true] at h
    exact ps_while hX.pas (sE Γ N c hX.toCok h.1).2 (sSs Γ N b hX h.2)
  | .fors t it b p, n, X, k, sc, W, hX, h => by
    simp only [wS, Bool.and_eq_true] at h
    obtain ⟨⟨⟨h1, h2⟩, h3⟩, h4⟩ := h
    exact ps_for hX.pas hX.calm (sI Γ N it hX.toCok h1 t h2) (sT Γ N t hX.toCok h3) (sSs Γ N b hX h4) (fun x => nofoldI it _ x)
  | .pass p, n, X, k, sc, W, hX, h => ps_pass
  | .brk p, n, X, k, sc, W, hX, h => ps_break
  | .cnt p, n, X, k, sc, W, hX, h => ps_continue
  | .rais i x q m j p2 p3 p, n, X, k, sc, W, hX, h => by
    simp only [wS, Bool.and_eq_true, decide_eq_true_eq] at h
    exact rais_ok hX.toCok h.1 h.2
  | .trk b gi x np i m j y py pv pa hp p, n, X, k, sc, W, hX, h => by
    simp only [wS, Bool.and_eq_true, decide_eq_true_eq] at h
    obtain ⟨⟨⟨⟨⟨⟨⟨h1, h2⟩, h3⟩, h4⟩, h5⟩, h6⟩, h7⟩, h8⟩ := h
    exact trk_ok hX (fun Y W' hY => sSs Γ N b hY h1) h2 h3 h4 h5 h6 h7 h8
  | .tdiv i x px a b bp ap np j m ei ex q ms c p2 p3 cp rp hp p, n, X, k, sc, W, hX, h => by
    simp only [wS, Bool.and_eq_true, decide_eq_true_eq] at h
    obtain ⟨⟨⟨⟨⟨⟨⟨⟨⟨h1, h2⟩, h3⟩, h4⟩, h5⟩, h6⟩, h7⟩, h8⟩, h9⟩, h10⟩ := h
    exact tdiv_ok hX (fun Y hY => (sE Γ N a hY h3).1) (fun Y hY => (sE Γ N b hY h4).1) h1 h2 h5 h6 h7 h8 h9 h10
  | .calp a p1 p2 p, n, X, k, sc, W, hX, h => by
    simp only [wS] at h
    cases h
  | .lock s, n, X, k, sc, W, hX, h => by
    simp only [wS] at h
    exact ps_lock (sS Γ N s hX h)
  | .raw s, n, X, k, sc, W, hX, h => ⟨fun _ _ _ _ _ _ q => (show False from q).elim⟩
  | .par3 i x px j y py l z pz kt pt a b c k2 pt2 p, n, X, k, sc, W, hX, h => by
    simp only [wS, Bool.and_eq_true, Bool.not_eq_true', decide_eq_true_eq] at h
    obtain ⟨⟨⟨⟨⟨⟨⟨⟨⟨⟨⟨⟨⟨⟨⟨⟨⟨⟨⟨h1, h2⟩, h3⟩, h4⟩, h5⟩, h6⟩, h7⟩, h8⟩, h9⟩, h10⟩, h11⟩, h12⟩, h13⟩, h14⟩, h15⟩, h16⟩, h17⟩, h18⟩, h19⟩, h20⟩ := h
    have hx := local_of h7
    have hy := local_of h8
    have hz := local_of h9
    have hc : starEach [eE c] X.env = [(false, eval (eE c) X.env)] := star_e c [] _
    have hb : starEach [eE b, eE c] X.env = (false, eval (eE b) X.env) :: starEach [eE c] X.env := star_e b _ _
    have nij : i ≠ j := fun e => by subst e; simp at h4
    have nil_ : i ≠ l := fun e => by subst e; simp at h5
    have njl : j ≠ l := fun e => by subst e; simp at h6
    exact ps_par3 hX.calm (by rw [hX.eN]; exact hX.nd) (by rw [hX.eN]; exact h1) (by rw [hX.eN]; exact h2) (by rw [hX.eN]; exact h3) nij nil_ njl (by rw [hX.eSc]; exact hx) (by rw [hX.eSc]; exact hy) (by rw [hX.eSc]; exact hz)
      (pa_cons (sE Γ N a hX.toCok h17).1 (pa_cons (sE Γ N b hX.toCok h18).1 (pa_cons (sE Γ N c hX.toCok h19).1 pa_nil hc) hb) (star_e a _ _)) (swapped_par3 (by rw [hX.eSc]; exact h20) (by rw [hX.eSc]; exact hx) (by rw [hX.eSc]; exact hy) (by rw [hX.eSc]; exact hz) h10 h11 h12 h13 h14 h15 h16) rfl
theorem sSs (Γ : Gam) (N : List Str) : ∀ (r : MSs) {n : Nms} {X : Cx} {k : Nat} {sc : Scope} {W : WX}, CokS X Γ n k N sc W → wSs N n r sc = true → PSs X (eSs r) (dSs Γ X.K r W)
  | .nil, n, X, k, sc, W, hX, h => pss_nil
  | .cons s .nil, n, X, k, sc, W, hX, h => by
    simp only [wSs, Bool.and_eq_true] at h
    exact pss_one (sS Γ N s hX h.1)
  | .cons s (.cons s2 r), n, X, k, sc, W, hX, h => by
    have h' : (wS N n s sc && wSs N n (.cons s2 r) sc) = true := by rw [wSs] at h; exact h
    rw [Bool.and_eq_true] at h'
    exact pss_cons (sS Γ N s hX h'.1) (sSs Γ N (.cons s2 r) hX h'.2)
end
/-! ### a def -/
theorem cok_def {P : Program} {w : World} {K : Frag} {mg : Str → Option Value} {base : Heap} {Γ : Gam} {n : Nms} {k : Nat} {N ps : List Str} {qual : Str} {sc : Scope} {f : Addr} {cd : Value} {A : Around} {outer : List Env} {s : Shared} {H : Hp} {E : XK}
    (G : GamOk Γ n k P w K mg base) (S : FnScope N ps sc) (hr : Room k (A.deeper (envOfC qual sc s.heap.objs.size f cd)))
    (hlm : ∀ q, n.lq = some q → qual ++ ".<locals>." = q ∧ Room (k + 2) (A.deeper (envOfC qual sc s.heap.objs.size f cd)) ∧ ∃ c tb, cd = .ref c ∧ LamX.TabB base mg c tb ∧ (tb, q ++ "<lambda>") ∈ Γ.tb ∧ ∀ p ∈ Γ.tb, p.1 = tb → p.2 = q ++ "<lambda>") (hgd : n.gd = true → (A.deeper (envOfC qual sc s.heap.objs.size f cd)).guards = some []) :
    CokS (cxOf (L2.CX P w) P w K mg base N qual sc f cd A outer s H E) Γ n k N sc (fun c d _ H => E c d H) where
  eN := rfl
  nd := S.nd
  eSc := rfl
  calm := rfl
  room := hr
  gam := G
  tk := takes_of rfl rfl rfl rfl
  lcl := fun x hx => ⟨hx, .inl rfl⟩
  pas := passes_of rfl
  lm := hlm
  gd := hgd
  stk := rfl
  frm := rfl
  exn := rfl
  pasAt := L2H.passesAt_of rfl
/-- a def's text: its names, its body -/
structure Txt (N ps : List Str) (n : Nms) (st : Stmt) (m : MSs) : Prop where
  sc : FnScope N ps (defScope st)
  eq : eSs m = defBody st
  wf : wSs N n m (defScope st) = true
theorem def_ok {P : Program} {w : World} {K : Frag} {mg : Str → Option Value} {base : Heap} {Γ : Gam} {n : Nms} {k : Nat} {N ps : List Str} {x qual : Str} {st : Stmt} {m : MSs} {f : Addr} {oc : Value} {od an : Option Addr} {osl : Array (Option Value)} {dV kV doc pm cdv ct : Value} {sp : Sp}
    (T : Txt N ps n st m) (hq : n.lq = none) (h0 : n.gd = false) (lk : K.lookup f = some ⟨oc, od, .func (PySem.W.fnOf x qual (defArgs st) (defBody st) (defScope st) dV kV doc pm an cdv ct), osl⟩) (hcd : PySem.W.codeIn K cdv qual = true) (G : GamOk Γ n k P w K mg base)
    (len : ∀ vs H Q E, sp vs H Q E → vs.length = ps.length)
    (h : ∀ (vs : List V) (H : Hp) (Q : VK) (E : XK), sp vs H Q E → dSs Γ K m (fun c d _ H => E c d H) { nx := fun _ H' => Q .non H', rt := Q } (start N vs) H) :
    FnOk P w K mg base (L2.CX P w) (k + 1) f (PySem.W.fnOf x qual (defArgs st) (defBody st) (defScope st) dV kV doc pm an cdv ct) ps sp := by
  refine fn_of lk hcd T.sc len fun A outer s H vs Q E hr hsp => ⟨_, ?_, h vs H Q E hsp⟩
  have q := sSs Γ N m (X := cxOf (L2.CX P w) P w K mg base N qual (defScope st) f cdv A outer s H E) (cok_def G T.sc hr (fun q e => by rw [hq] at e; cases e) fun z => by rw [h0] at z; cases z) T.wf
  rw [T.eq] at q
  exact q
/-- .. that makes lambdas -/
theorem def_okL {P : Program} {w : World} {K : Frag} {mg : Str → Option Value} {base : Heap} {Γ : Gam} {n : Nms} {k : Nat} {N ps : List Str} {x qual : Str} {st : Stmt} {m : MSs} {f : Addr} {oc : Value} {od an : Option Addr} {osl : Array (Option Value)} {dV kV doc pm cdv ct : Value} {sp : Sp}
    (T : Txt N ps n st m) {c tb : Addr} (hq : n.lq = some (qual ++ ".<locals>.")) (h0 : n.gd = false) (hcv : cdv = .ref c) (hT : LamX.TabB base mg c tb) (hin : (tb, qual ++ ".<locals>." ++ "<lambda>") ∈ Γ.tb) (hu : ∀ p ∈ Γ.tb, p.1 = tb → p.2 = qual ++ ".<locals>." ++ "<lambda>") (lk : K.lookup f = some ⟨oc, od, .func (PySem.W.fnOf x qual (defArgs st) (defBody st) (defScope st) dV kV doc pm an cdv ct), osl⟩) (hcd : PySem.W.codeIn K cdv qual = true) (G : GamOk Γ n k P w K mg base)
    (len : ∀ vs H Q E, sp vs H Q E → vs.length = ps.length)
    (h : ∀ (vs : List V) (H : Hp) (Q : VK) (E : XK), sp vs H Q E → dSs Γ K m (fun c d _ H => E c d H) { nx := fun _ H' => Q .non H', rt := Q } (start N vs) H) :
    FnOk P w K mg base (L2.CX P w) (k + 2 + 1) f (PySem.W.fnOf x qual (defArgs st) (defBody st) (defScope st) dV kV doc pm an cdv ct) ps sp := by
  refine fn_of lk hcd T.sc len fun A outer s H vs Q E hr hsp => ⟨_, ?_, h vs H Q E hsp⟩
  have q := sSs Γ N m (X := cxOf (L2.CX P w) P w K mg base N qual (defScope st) f cdv A outer s H E) (cok_def G T.sc (hr.mono (by omega)) (fun q e => by rw [hq] at e; cases e; exact ⟨rfl, hr, c, tb, hcv, hT, hin, hu⟩) fun z => by rw [h0] at z; cases z) T.wf
  rw [T.eq] at q
  exact q
end Rf
namespace Rf
open PySem PySem.Spec PyProof.Rows L2

/-! ### a def that calls the lambda that it gets, in a try -/
/-- what its body is to do, the lambda's reading being tl -/
def kindS (Γ : Gam) (K : Frag) (N : List Str) (c : Value) (i j : Nat) (m1 : MS) (ms : MSs) (f c' : Addr) (q : Str) (tl : XK → Hp → VK → Prop) (H : Hp) (Q : VK) : Prop :=
  dS Γ K m1 (fun _ _ _ _ => False) { nx := fun σ1 H1 => ∃ (E : XK) (Q' : VK),
    (∀ cls d σ' H', E cls d H' → wLen σ1.length (wKeep K c i (fun _ => tAsg (tVar i) (gName j)) (fun _ _ _ _ => False) { nx := dSs Γ K ms (fun _ _ _ _ => False) { nx := fun _ H' => Q .non H', rt := Q }, rt := Q }) cls d σ' H') ∧
    (∀ v H', Q' v H' → dSs Γ K ms (fun _ _ _ _ => False) { nx := fun _ H' => Q .non H', rt := Q } σ1 H') ∧ σ1[0]? = some (some (.ref f)) ∧ H1 c' = some (LamX.CodeO c' q) ∧ tl E H1 Q', rt := Q } (start N [.ref f]) H
theorem kind_ok {P : Program} {w : World} {K : Frag} {mg : Str → Option Value} {base : Heap} {Γ : Gam} {n : Nms} {k : Nat} {N : List Str} {a x xe m y : Str} {st : Stmt} {m1 : MS} {ms : MSs} {gi i j : Nat} {p1 p2 p3 np py pv pa hp p : Pos} {v : V} {xx : Str}
    {f : Addr} {oc : Value} {od an : Option Addr} {osl : Array (Option Value)} {dV kV doc pm cdv ct : Value} {TT : (XK → Hp → VK → Prop) → Hp → VK → Prop}
    (S : FnScope N [a] (defScope st)) (eq : eSs (.cons m1 (.cons (.trk (.cons (.calp a p1 p2 p3) .nil) gi xe np i m j y py pv pa hp p) ms)) = defBody st)
    (w1 : wS N n m1 (defScope st) = true) (w2 : wS N n (.trk .nil gi xe np i m j y py pv pa hp p) (defScope st) = true) (w3 : wSs N n ms (defScope st) = true) (hms : ∀ s r, ms = .cons s r → True)
    (ha : okName (defScope st) a [.local, .cell, .free] = true) (hx : (x == ("__debug__" : Str)) = false) (hq : n.lq = none) (h0 : n.gd = false) (hNa : N[0]? = some a)
    (lk : K.lookup f = some ⟨oc, od, .func (PySem.W.fnOf x x (defArgs st) (defBody st) (defScope st) dV kV doc pm an cdv ct), osl⟩) (hcd : PySem.W.codeIn K cdv x = true) (hk : PySem.W.keepIn K (.ref f) = true) (hm : mg x = some (.ref f))
    (hb : L2.Binds K (PySem.W.fnOf x x (defArgs st) (defBody st) (defScope st) dV kV doc pm an cdv ct) [a] []) (G : GamOk Γ n (k + 1) P w K mg base) (ev : Γ.glo[gi]? = some (xx, v)) (hv : isCls v = true)
    (h : ∀ (f c' : Addr) (q : Str) (tl : XK → Hp → VK → Prop) (H : Hp) (Q : VK), H c' = some (LamX.CodeO c' q) → TT tl H Q → kindS Γ K N (clsOf v) i j m1 ms f c' q tl H Q) :
    LamOk P w K mg base k x TT := by
  intro X e1 e2 e3 e4 e5 T c tb body scope t p' lp pos hg TB hcode hin hu hr L hbody
  subst e1 e2 e3 e4 e5
  have wm : okName (defScope st) m [.local] = true ∧ N[i]? = some m ∧ N[j]? = some y ∧ isLocalB (defScope st) m = true ∧ okName (defScope st) y [.local, .cell] = true ∧ n.glo[gi]? = some xe ∧ okName (defScope st) xe [.globalImplicit] = true := by
    simp only [wS, Bool.and_eq_true, decide_eq_true_eq] at w2
    obtain ⟨⟨⟨⟨⟨⟨⟨h1, h2⟩, h3⟩, h4⟩, h5⟩, h6⟩, h7⟩, h8⟩ := w2
    exact ⟨h8, h4, h6, h5, h7, h2, h3⟩
  obtain ⟨hm8, hm4, hm6, hm5, hm7, hm2, hm3⟩ := wm
  have vis : Vis (defScope st) a := by
    obtain ⟨q, hq, e⟩ := okName_ks ha
    simp only [List.mem_cons, List.not_mem_nil, or_false] at hq
    rcases hq with rfl | rfl | rfl
    · exact .inl e
    · exact .inr (.inl e)
    · exact .inr (.inr e)
  refine LamX.pe_lamcall (k := k) (Ng := N) (a := a) hg hm hk lk hcd hb S hNa vis ?_ TB hcode hin hu hr L rfl (fun _ _ _ _ _ => rfl) hbody hx (okName_db ha) (okName_cd ha)
  intro g c' s H Q tl act hc tt
  have wish := h g c' _ tl H Q hc tt
  obtain ⟨Y, hY⟩ : ∃ Y, Y = (cxOf C8.CX0 X.prog X.w X.K X.mg X.base N x (defScope st) f cdv X.A X.stack s H C8.E0).nox := ⟨_, rfl⟩
  have C : CokS Y Γ n (k + 1) N (defScope st) (fun _ _ _ _ => False) := by
    subst hY
    exact ⟨⟨rfl, S.nd, rfl, rfl, hr.deeper _, G, never_takes, fun x hx => ⟨hx, .inl rfl⟩, PassesOwn.never, (fun q e => by rw [hq] at e; cases e), fun z => by rw [h0] at z; cases z⟩, rfl, rfl, rfl, fun _ => PassesOwnAt.never⟩
  have KY : Y.K = X.K := by subst hY; rfl
  have s1 := sS Γ N m1 C w1
  have s3 := sSs Γ N ms C w3
  rw [KY] at s1 s3
  have s2 : PS Y (eS (.trk (.cons (.calp a p1 p2 p3) .nil) gi xe np i m j y py pv pa hp p)) (fun D σ H => ∃ (E : XK) (Q' : VK), (∀ cls d σ' H', E cls d H' → wLen σ.length (wKeep X.K (clsOf v) i (fun _ => tAsg (tVar i) (gName j)) (fun _ _ _ _ => False) D) cls d σ' H') ∧
      (∀ v H', Q' v H' → D.nx σ H') ∧ σ[0]? = some (some (.ref g)) ∧ H c' = some (LamX.CodeO c' (X.env.qual ++ "<lambda>")) ∧ tl E H Q') := by
    obtain ⟨v', ev', hv'⟩ := names_of C.toCok hm2 hm3
    have : v' = v := by
      rw [ev] at ev'
      cases ev'
      rfl
    subst this
    obtain ⟨q, hq', ey⟩ := okName_ks hm7
    have hl : L2.Loc (defScope st) y := by
      simp only [List.mem_cons, List.not_mem_nil, or_false] at hq'
      rcases hq' with rfl | rfl
      · exact .inl ey
      · exact .inr ey
    obtain ⟨l1, l2⟩ := C.lcl y hl
    have lm := local_of hm5
    refine ⟨fun pins s' σ H' D I hw => ?_⟩
    have key := ps_try_keep (X := Y) (Wout := fun _ _ _ _ => False) (body := [.Expr (.Call (.Name a p1) [] [] p2) p3]) (np := np) (hp := hp) (pos := p) (b₀ := .Assign [.Name y py] (.Name m pv) pa) (suite := []) (ts := fun _ => tAsg (tVar i) (gName j))
      (tb := fun W' D σ H => ∃ (E : XK) (Q' : VK), (∀ cls d σ' H', E cls d H' → W' cls d σ' H') ∧ (∀ v H', Q' v H' → D.nx σ H') ∧ σ[0]? = some (some (.ref g)) ∧ H c' = some (LamX.CodeO c' (X.env.qual ++ "<lambda>")) ∧ tl E H Q')
      C.stk C.frm C.exn (by rw [C.eN]; exact C.nd) (by rw [C.eN]; exact hm4) (by show Y.env.scope.names.lookup m = _; rw [C.eSc]; exact lm) (hv' hv) C.tk
      (fun W' pn xe' tk q1 q2 => ?_)
      (fun a pn => pss_one (ps_asg (pe_var (by show Y.N[i]? = _; rw [C.eN]; exact hm4) (.inl (by show Y.env.scope.names.lookup m = _; rw [C.eSc]; exact lm)) (okName_db hm8) (okName_cd hm8)) (pg_name (by show Y.N.Nodup; rw [C.eN]; exact C.nd) (by show Y.N[j]? = _; rw [C.eN]; exact hm6) (by show L2.Loc Y.env.scope y; rw [C.eSc]; exact l1) (by show Y.fn y = true ∨ Y.env.scope.names.lookup y = _; rw [C.eSc]; exact l2)) rfl rfl rfl))
    · refine key.run pins s' σ H' D I ?_
      rw [← I.len]
      rw [KY]
      exact hw
    · refine pss_one ⟨fun pins s σ H D I hw => ?_⟩
      obtain ⟨E, Q', w1, w2, w3, w4, w5⟩ := hw
      subst hY
      exact (ps_expr (PE.weak (act W' pn xe' E p1 p2 tk w1)) rfl).run pins s σ H D I ⟨Q', fun v H' q => w2 v H' q, w3, w4, w5⟩
  rw [← eq]
  rw [hY] at s1 s2 s3
  exact ⟨_, pss_cons s1 (pss_cons s2 s3), wish⟩
end Rf
namespace Rf
open PySem PySem.Spec PyProof.Rows L2

/-! ### rules for readings -/
/-- all that is known stays so -/
def Kp (H H' : Hp) : Prop := ∀ b o, H b = some o → H' b = some o
theorem Kp.refl (H : Hp) : Kp H H := fun _ _ e => e
theorem Kp.trans {H H1 H2 : Hp} (a : Kp H H1) (b : Kp H1 H2) : Kp H H2 := fun c o e => b c o (a c o e)
theorem Kp.new {H : Hp} {a : Addr} {o : HO} (h : H a = none) : Kp H (upd H a o) := fun b u e => by
  rw [upd_ne (fun z => by rw [z, h] at e; cases e)]
  exact e
theorem Kp.free {H H' : Hp} (k : Kp H H') {a : Addr} (h : H' a = none) : H a = none := by
  cases q : H a with
  | none => rfl
  | some o =>
    rw [k a o q] at h
    cases h
/-- .. but what stands at r -/
def KpX (r : Addr) (H H' : Hp) : Prop := ∀ b o, b ≠ r → H b = some o → H' b = some o
theorem KpX.refl (r : Addr) (H : Hp) : KpX r H H := fun _ _ _ e => e
theorem KpX.trans {r : Addr} {H H1 H2 : Hp} (a : KpX r H H1) (b : KpX r H1 H2) : KpX r H H2 := fun c o n e => b c o n (a c o n e)
theorem Kp.kx {r : Addr} {H H' : Hp} (k : Kp H H') : KpX r H H' := fun b o _ e => k b o e
theorem KpX.set {r : Addr} {H : Hp} {o : HO} : KpX r H (upd H r o) := fun b u n e => by
  rw [upd_ne n]
  exact e
theorem KpX.kp {r : Addr} {H H' : Hp} (k : KpX r H H') (h : H r = none) : Kp H H' := fun b o e => k b o (fun z => by rw [z, h] at e; cases e) e
theorem ite_t {c : Bool} {A B : Prop} (e : c = true) (h : A) : if c = true then A else B := by rw [if_pos e]; exact h
theorem ite_f {c : Bool} {A B : Prop} (e : c = false) (h : B) : if c = true then A else B := by rw [e]; exact h
def rng (lo : Int) (n : Nat) : List Int := (List.range n).map fun i => lo + (i : Nat)
theorem rng_succ (lo : Int) (n : Nat) : rng lo (n + 1) = rng lo n ++ [lo + n] := by
  unfold rng
  rw [List.range_succ, List.map_append]
  rfl
theorem rng_len (lo : Int) (n : Nat) : (rng lo n).length = n := by simp [rng]
theorem len_filter_rng {p : Int → Bool} {lo : Int} {n : Nat} : ((rng lo n).filter p).length ≤ n := Nat.le_trans (List.length_filter_le ..) (by rw [rng_len]; exact Nat.le_refl _)
theorem set_twice {σ : L2.St} {i : Nat} {x y : Option V} : (σ.set i x).set i y = σ.set i y := List.set_set ..
/-- [k for k in range(..) if p(k)] -/
theorem lc_filter {lo : Int} {n i : Nat} {tt : TT} {σ : L2.St} {H1 : Hp} {D : Addr} {Qd : Hp → Prop} (p : Int → Bool) (hn : n < sizeLine) (hi : i < σ.length) (hD : H1 D = none)
    (ht : ∀ k : Int, lo ≤ k → k < lo + n → ∀ (H' : Hp) (R : Bool → Hp → Prop), Kp H1 H' → R (p k) H' → tt ((wipe σ [i]).set i (some (.int k))) H' R)
    (hQ : ∀ H', Kp H1 H' → H' D = some (.lst (((rng lo n).filter p).map V.int)) → Qd H') :
    ∃ W : Nat → Nat → Hp → Prop, (∃ m, W 0 m (upd H1 D (.lst []))) ∧ ∀ i' m H, W i' m H →
      ((Itr lo n).stop i' H ∧ Qd H) ∨ ((Itr lo n).go i' H ∧ ∃ Nx : Hp → Prop, (∀ H', Nx H' → ∃ m', m' < m ∧ W (i' + 1) m' H') ∧ ∀ x H', (Itr lo n).yld i' H x H' → gName i x (wipe σ [i]) H' fun σ2 H2 => wipe σ2 [i] = wipe σ [i] ∧ tt σ2 H2 fun b H3 =>
        if b = true then tVar i σ2 H3 fun y H4 => ∃ acc, H4 D = some (.lst acc) ∧ acc.length < sizeLine ∧ Nx (upd H4 D (.lst (acc ++ [y]))) else Nx H3) := by
  refine lc_range (Pv := fun j H' => Kp H1 H' ∧ H' D = some (.lst (((rng lo j).filter p).map V.int))) ⟨Kp.new hD, upd_same⟩ (fun j H' hj hP => ?_) (fun H' hP => hQ H' hP.1 hP.2)
  obtain ⟨kp, e⟩ := hP
  refine ⟨?_, ht (lo + j) (by omega) (by omega) H' _ kp ?_⟩
  · show ((σ.set i none).set i _).set i none = σ.set i none
    rw [set_twice, set_twice]
  · cases hp : p (lo + j) with
    | true =>
      refine ite_t rfl ⟨.int (lo + j), ?_, _, e, ?_, fun b o eb => ?_, ?_⟩
      · exact List.getElem?_set_self (by show i < (σ.set i none).length; rw [List.length_set]; exact hi)
      · rw [List.length_map]
        have := @len_filter_rng p lo j
        omega
      · have nb : b ≠ D := fun z => by
          rw [z, hD] at eb
          cases eb
        rw [upd_ne nb]
        exact kp b o eb
      · rw [upd_same, rng_succ, List.filter_append, List.map_append]
        have e2 : [lo + (j : Int)].filter p = [lo + (j : Int)] := by rw [List.filter_cons, if_pos hp]; rfl
        rw [e2]
        rfl
    | false =>
      refine ite_f rfl ⟨kp, ?_⟩
      rw [rng_succ, List.filter_append]
      have e2 : [lo + (j : Int)].filter p = [] := by rw [List.filter_cons, if_neg (by rw [hp]; exact Bool.false_ne_true)]; rfl
      rw [e2, List.append_nil]
      exact e
def tlN : Nat → MSs → MSs
  | n + 1, .cons _ r => tlN n r
  | _, r => r
def hd1 : MSs → MS
  | .cons s _ => s
  | .nil => .pass ⟨0, 0, 0, 0⟩
theorem atI_of {α : Type} {xs : List α} {i : Int} (h0 : 0 ≤ i) (h1 : i < xs.length) : atI xs i = xs[i.toNat]? := by
  unfold atI ixN
  rw [if_pos h0, if_pos h1]
  rfl
theorem atI_head {α : Type} (x : α) (r : List α) : atI (x :: r) 0 = some x := atI_of (Int.le_refl 0) (by simp)
/-! ### sizes -/
def Sm (i : Int) : Prop := i.natAbs < 2 ^ 8000
theorem Sm.bits {i : Int} (h : Sm i) : Builtin.Int.intBits i ≤ 8000 := by
  unfold Builtin.Int.intBits
  split
  · omega
  · rename_i h0
    have h1 : i.natAbs ≠ 0 := fun z => h0 (by simpa using z)
    have h2 := (Nat.log2_lt h1).mpr h
    omega
theorem Sm.mul {i j : Int} (h : Sm i) (k : Sm j) : IntMulOk i j := IntMulOk.of_bits (Nat.le_trans h.bits (by decide)) (Nat.le_trans k.bits (by decide))
theorem Sm.div {i j : Int} (h : Sm j) : Builtin.divisionGoesByPylong i j = false := PyProof.noPylong_of_log2 (by
  by_cases h0 : j.natAbs = 0
  · rw [h0]; decide +kernel
  · have h2 := (Nat.log2_lt h0).mpr h
    omega)
/-- below 2^k -/
def Bd (k : Nat) (i : Int) : Prop := i.natAbs < 2 ^ k
theorem Bd.mono {j k : Nat} {i : Int} (h : Bd j i) (hk : j ≤ k) : Bd k i := Nat.lt_of_lt_of_le h (Nat.pow_le_pow_right (by decide) hk)
theorem Bd.sm {k : Nat} {i : Int} (h : Bd k i) (hk : k ≤ 8000) : Sm i := h.mono hk
theorem Bd.mul {j k : Nat} {x y : Int} (h : Bd j x) (h' : Bd k y) : Bd (j + k) (x * y) := by
  unfold Bd
  rw [Int.natAbs_mul, Nat.pow_add]
  exact Nat.mul_lt_mul'' h h'
theorem Bd.add {k : Nat} {x y : Int} (h : Bd k x) (h' : Bd k y) : Bd (k + 1) (x + y) := by
  unfold Bd at *
  have := Int.natAbs_add_le x y
  rw [Nat.pow_succ]
  omega
theorem Bd.neg {k : Nat} {x : Int} (h : Bd k x) : Bd k (-x) := by
  unfold Bd
  rw [Int.natAbs_neg]
  exact h
theorem Bd.sub {k : Nat} {x y : Int} (h : Bd k x) (h' : Bd k y) : Bd (k + 1) (x - y) := by
  rw [Int.sub_eq_add_neg]
  exact h.add h'.neg
theorem Bd.le {k : Nat} {x y : Int} (h : Bd k x) (e : y.natAbs ≤ x.natAbs) : Bd k y := Nat.lt_of_le_of_lt e h
end Rf
namespace Rf
open PySem PySem.Spec PyProof.Rows L2
/-! ### the program's defs, wired -/
structure FD where
  ad : Addr
  fd : FuncData
/-- ways of calling: so many values, these keywords, how they come in the parameters' order -/
abbrev KB : Type := List (Nat × List Str × (List V → List V → List V))
abbrev en (r : FD) (ps : List Str) (sp : Sp) (k : Nat) (kb : KB := []) : FnE := ⟨r.ad, r.fd, ps, sp, k, [], [], kb, false⟩
/-- .. that asks that nothing is being shown -/
abbrev enG (r : FD) (ps : List Str) (sp : Sp) (k : Nat) (kb : KB := []) : FnE := ⟨r.ad, r.fd, ps, sp, k, [], [], kb, true⟩
/-- that a def may be called so -/
def KbOk (K : Frag) (fd : FuncData) (ps : List Str) (kb : KB) : Prop := ∀ q ∈ kb, ∃ g, KBn K fd ps q.1 q.2.1 g q.2.2
def AllF {α : Type} (p : α → Prop) : List α → Prop
  | [] => True
  | a :: r => p a ∧ AllF p r
theorem AllF.mem {α : Type} {p : α → Prop} : ∀ {l : List α}, AllF p l → ∀ a ∈ l, p a
  | [], _, a, h => by cases h
  | b :: r, ⟨h1, h2⟩, a, h => by
    rcases List.mem_cons.mp h with e | e
    · rw [e]; exact h1
    · exact AllF.mem h2 a e
theorem gam_ok {Γ : Gam} {n : Nms} {k : Nat} {P : Program} {w : World} {K : Frag} {mg : Str → Option Value} {base : Heap} (hn : Γ.fn.map (·.1) = n.fn ∧ Γ.glo.map (·.1) = n.glo ∧ Γ.cl.map (·.1) = n.cl ∧ Γ.lam.map (·.1) = n.lam ∧ Γ.exc.map (·.1) = n.exc)
    (fn : AllF (fun q : Str × FnE => FnOkEG P w K mg base q.2 ∧ q.2.k ≤ k ∧ mg q.1 = some (.ref q.2.f)) Γ.fn) (glo : AllF (fun q : Str × V => ∃ u, RelV q.2 u ∧ (mg q.1 = some u ∨ (mg q.1 = none ∧ bootBuiltins q.1 = some u ∧ q.1 ≠ "__name__"))) Γ.glo)
    (cl : AllF (fun q : Str × Addr × FnE => FnOkE P w K mg base q.2.2 ∧ q.2.2.k + 1 ≤ k ∧ Mk K q.2.1 q.2.2.f ∧ mg q.1 = some (.ref q.2.1)) Γ.cl) (att : ∀ C f, Γ.att C f → Cls K C ∧ NoAttr K C f) (mt : ∀ C m e, Γ.mt C m e → FnOkE P w K mg base e ∧ e.k ≤ k ∧ Cls K C ∧ Meth K C m e.f)
    (eq : ∀ C e, Γ.eq C e → FnOkE P w K mg base e ∧ e.k + 1 ≤ k ∧ PySem.W.findIn K (.ref C) "__eq__" = some (some (.ref e.f)) ∧ PySem.W.isFn K (.ref e.f) = true ∧ PySem.W.findIn K (.ref C) "__ne__" = some (some (.builtin "object.__ne__")) ∧ PySem.W.subIn K (.ref C) (.type "object") = some true) (blt : AllF (fun x : Str => mg x = none) n.blt)
    (lam : AllF (fun q : Str × ((XK → Hp → VK → Prop) → Hp → VK → Prop) => LamOk P w K mg base k q.1 q.2) Γ.lam) (exc : AllF (fun q : Str × Addr => ExcF K mg q.1 q.2) Γ.exc) (rp : ∀ C e, Γ.rp C e → FnOkE P w K mg base e ∧ e.k + 1 ≤ k ∧ PySem.W.findIn K (.ref C) "__repr__" = some (some (.ref e.f)) ∧ PySem.W.isFn K (.ref e.f) = true := by intro _ _ h; exact h.elim) (gd : (Γ.fn.map fun q => q.2.gd) = n.fng ∨ (Γ.fn.all fun q => !q.2.gd) = true := by first | exact .inr rfl | exact .inl rfl) (kf : ∀ f, Γ.kf f → KeyF K mg f := by intro _ h; exact h.elim) : GamOk Γ n k P w K mg base :=
  ⟨hn.1, hn.2.1, hn.2.2.1, fun x e h => fn.mem (x, e) h, fun x v h => glo.mem (x, v) h, fun x C e h => cl.mem (x, C, e) h, att, mt, eq, fun x h => blt.mem x h, hn.2.2.2.1, fun x TT h => lam.mem (x, TT) h, hn.2.2.2.2, fun x C h => exc.mem (x, C) h, rp, (fun i x e he z => by
    rcases gd with g | g
    · rw [← g, List.getD_eq_getElem?_getD, List.getElem?_map, he]
      exact z
    · have := List.all_eq_true.mp g _ (List.mem_of_getElem? he)
      have z : (x, e).2.gd = true := z
      rw [z] at this
      cases this), kf⟩
section
variable {P : Program} {w : World} {K : Frag} {mg : Str → Option Value} {base : Heap} {Γ : Gam} {n : Nms} {k : Nat} {N ps : List Str} {x qual : Str} {st : Stmt} {m : MSs} {r : FD} {dvs : List V} {sp : Sp}
theorem okE {params : Arguments} {body : List Stmt} {scope : Scope} {k : Nat} (F : FunD K x qual params body scope dvs [] r.ad r.fd) {kb : KB} (hkb : KbOk K r.fd ps kb) (b : Binds K r.fd ps []) (ok : FnOk P w K mg base (L2.CX P w) k r.ad r.fd ps sp) : FnOkE P w K mg base (en r ps sp k kb) :=
  ⟨ok, F.kp, fun j => by
    show Binds K r.fd ps (([] : List Value).drop j)
    rw [List.drop_nil]
    exact b, .nil, hkb⟩
theorem def_okF (F : FunD K x qual (defArgs st) (defBody st) (defScope st) dvs [] r.ad r.fd) (b : Binds K r.fd ps []) (T : Txt N ps n st m) (G : GamOk Γ n k P w K mg base) (len : ∀ vs H Q E, sp vs H Q E → vs.length = ps.length)
    (h : ∀ (vs : List V) (H : Hp) (Q : VK) (E : XK), sp vs H Q E → dSs Γ K m (fun c d _ H => E c d H) { nx := fun _ H' => Q .non H', rt := Q } (start N vs) H) (hq : n.lq = none) (h0 : n.gd = false := by rfl) {kb : KB} (hkb : KbOk K r.fd ps kb := by intro q hq; cases hq) : FnOkE P w K mg base (en r ps sp (k + 1) kb) := by
  refine okE F hkb b ?_
  obtain ⟨oc, od, dV, kV, doc, pm, an, cdv, ct, osl, e, lk, hcd, _, _⟩ := F.ex
  rw [e] at lk ⊢
  exact def_ok T hq h0 lk hcd G len h
theorem def_okLF {p : He.Defn} (F : FunD K x qual (defArgs st) (defBody st) (defScope st) dvs [] r.ad r.fd) (b : Binds K r.fd ps []) (T : Txt N ps n st m) (G : GamOk Γ n k P w K mg base) (len : ∀ vs H Q E, sp vs H Q E → vs.length = ps.length)
    (h : ∀ (vs : List V) (H : Hp) (Q : VK) (E : XK), sp vs H Q E → dSs Γ K m (fun c d _ H => E c d H) { nx := fun _ H' => Q .non H', rt := Q } (start N vs) H) (hq : n.lq = some (qual ++ ".<locals>.")) (hp : He.fAd K p = r.ad) (TB : LamX.TabB base mg (He.cT K p).1 (He.cT K p).2)
    (hin : ((He.cT K p).2, qual ++ ".<locals>." ++ "<lambda>") ∈ Γ.tb) (hu : ∀ z ∈ Γ.tb, z.1 = (He.cT K p).2 → z.2 = qual ++ ".<locals>." ++ "<lambda>") (h0 : n.gd = false := by rfl) {kb : KB} (hkb : KbOk K r.fd ps kb := by intro q hq; cases hq) : FnOkE P w K mg base (en r ps sp (k + 2 + 1) kb) := by
  refine okE F hkb b ?_
  obtain ⟨oc, od, dV, kV, doc, pm, an, cdv, ct, osl, e, lk, hcd, _, _⟩ := F.ex
  obtain ⟨c, hc⟩ := He.codeIn_ref hcd
  have ec : He.codeOf K p = c := He.codeOf_eq (fd := r.fd) (by rw [hp]; exact lk) (by rw [e]; exact hc)
  rw [e] at lk ⊢
  refine def_okL T hq h0 (c := c) (tb := (He.cT K p).2) hc (by rw [← ec]; exact TB) hin hu lk hcd G len h
end
theorem kb_nil {K : Frag} {fd : FuncData} {ps : List Str} : KbOk K fd ps [] := fun q hq => by cases hq
theorem kb_cons {K : Frag} {fd : FuncData} {ps : List Str} {n : Nat} {ks : List Str} {gV : List V → List V → List V} {r : KB} (h : ∃ g, KBn K fd ps n ks g gV) (t : KbOk K fd ps r) : KbOk K fd ps ((n, ks, gV) :: r) := fun q hq => by
  rcases List.mem_cons.mp hq with e | e
  · rw [e]; exact h
  · exact t q e
theorem kbN {K : Frag} {x qual : Str} {params : Arguments} {body : List Stmt} {scope : Scope} {kws : List (Str × V)} {f : Addr} {fd : FuncData} {ps : List Str} (F : FunD K x qual params body scope [] kws f fd) (n : Nat) (ks : List Str) (g : {α : Type} → List α → List α → List α)
    (hrel : ∀ {vs zs : List V} {us ws : List Value}, Vals vs us → Vals zs ws → Vals (g vs zs) (g us ws))
    (h : ∀ (kV doc pm : Value) (an : Option Addr) (cdv ct : Value) (us ws : List Value), us.length = n → ws.length = ks.length → bindArgs (PySem.W.fnOf x qual params body scope .none kV doc pm an cdv ct) ⟨us, ks.zip ws⟩ = pure (ps.zip (g us ws))) :
    KBn K fd ps n ks (fun us ws => g us ws) (fun vs zs => g vs zs) := by
  obtain ⟨oc, od, dV, kV, doc, pm, an, cdv, ct, osl, rfl, lk, hcd, hD, hK⟩ := F.ex
  rcases hD with ⟨_, rfl⟩ | ⟨e, _⟩
  · exact ⟨fun s us ws X l1 l2 => .of_eq (h kV doc pm an cdv ct us ws l1 l2), fun r1 r2 => hrel r1 r2⟩
  · exact absurd rfl e
/-! ### classes of exceptions, told by a Bool -/
theorem excC_of {K : Frag} {D : Addr} (h : excCB K D = true) : ExcC K D := by
  obtain ⟨h1, h⟩ := He.ba h
  obtain ⟨h2, h⟩ := He.ba h
  obtain ⟨h3, h⟩ := He.ba h
  obtain ⟨h4, h⟩ := He.ba h
  obtain ⟨h5, h⟩ := He.ba h
  obtain ⟨h6, h⟩ := He.ba h
  obtain ⟨h7, h8⟩ := He.ba h
  exact ⟨of_decide_eq_true h1, of_decide_eq_true h2, of_decide_eq_true h3, h4, of_decide_eq_true h5, of_decide_eq_true h6, of_decide_eq_true h7, of_decide_eq_true h8⟩
theorem excF_of {K : Frag} {h : Heap} {mg : Str → Option Value} {x : Str} (X : K.In h) (G : h.Ns mainGlobals mg) (c : (He.Fa.exc x).ok K = true) (c2 : (He.Fa.glo x).ok K = true) : ExcF K mg x (He.ga K x) := by
  obtain ⟨h1, h2, h3, h4⟩ := He.exc_ok c
  exact ⟨He.glo_ok X G c2, h2, h3, h4, "ValueError", _, _, _, PySem.F.excBase_ValueError, h1⟩
end Rf
/-! Rf13: defs that ask that nothing is being shown; the head with such a law. -/
namespace Rf
open PySem PySem.Spec PyProof.Rows L2
theorem deeper_guards (A : Around) (e : Env) : (A.deeper e).guards = A.guards := rfl
/-- a def by its body, where nothing is being shown -/
theorem fn_ofG {P : Program} {w : World} {K : Frag} {mg : Str → Option Value} {base : Heap} {k : Nat} {f : Addr} {nm qual : Str} {prs : Arguments} {bd : List Stmt} {sc : Scope} {dV kV doc pm cdv ct oc : Value} {an od : Option Addr} {osl : Array (Option Value)} {N ps : List Str} {sp : Sp}
    (lk : K.lookup f = some ⟨oc, od, .func (PySem.W.fnOf nm qual prs bd sc dV kV doc pm an cdv ct), osl⟩) (hcd : PySem.W.codeIn K cdv qual = true) (S : FnScope N ps sc) (len : ∀ vs H Q E, sp vs H Q E → vs.length = ps.length)
    (body : ∀ (A : Around) (o : List Env) (s : Shared) (H : Hp) (vs : List V) (Q : VK) (E : XK), A.guards = some [] → Room k (A.deeper (envOfC qual sc s.heap.objs.size f cdv)) → sp vs H Q E → ∃ t, PSs (cxOf (L2.CX P w) P w K mg base N qual sc f cdv A o s H E) bd t ∧ t { nx := fun _ H' => Q .non H', rt := Q } (start N vs) H) :
    FnOkG true P w K mg base (L2.CX P w) (k + 1) f (PySem.W.fnOf nm qual prs bd sc dV kV doc pm an cdv ct) ps sp := by
  constructor
  · exact len
  intro A o s H as us vs Q E hg room env bind vals hsp
  have old : ∀ b u, base.get? b = some u → s.heap.get? b = some u := fun b u e => (env.bs b u e).1
  have kin := env.mod.kin.keeps old
  obtain ⟨t, run, start0⟩ := body A o s H vs Q E (hg rfl) (room.deeper _) hsp
  have names : ∀ y ∈ ps.zip us, sc.names.lookup y.1 = some .local ∨ (sc.names.lookup y.1 = some .cell ∧ ((cellsFrom (s.heap.objs.size + 1) sc.names []).lookup y.1).isSome = true) := fun y hy =>
    (S.par y.1 (List.of_mem_zip (show (y.1, y.2) ∈ ps.zip us from hy)).1).imp id fun q => ⟨q, PySem.W.cellsFrom_some _ _ _ (.inl q)⟩
  refine codeAny_call_function room.depth (kin _ _ lk) rfl S.co S.gen rfl (PySem.W.codeRec_of kin hcd) (bind _ _ _ _ (wpAny_newFunctionEnv_cells S.kind names fun _ eEnv s1 x => ?_))
  cases eEnv
  refine ⟨(env.mod.nolimit.keeps old).keeps x.toInCall.keep, codeAny_func ?_⟩
  have inv := inv_start (CX := L2.CX P w) (E := E) (f := f) (cd := cdv) (qual := qual) S room.hd env (len _ _ _ _ hsp) vals x
  refine wpAny_mono (run.run [] s1 (start N vs) H _ inv start0) (fun fl s2 hs => ?_) fun _ _ z => z
  match fl, hs with
  | .ret u, ⟨v, σ2, H2, J, rv, q⟩ => exact ⟨v, H2, J.os, J.bare, J.base, J.hok, rv, q⟩
  | .next, ⟨σ2, H2, J, q⟩ => exact ⟨V.non, H2, J.os, J.bare, J.base, J.hok, (rfl : RelV V.non Value.none), q⟩
  | .brk, ⟨_, _, _, q⟩ => exact q.elim
  | .cont, ⟨_, _, _, q⟩ => exact q.elim
section
variable {P : Program} {w : World} {K : Frag} {mg : Str → Option Value} {base : Heap} {Γ : Gam} {n : Nms} {k : Nat} {N ps : List Str} {x qual : Str} {st : Stmt} {m : MSs} {r : FD} {dvs : List V} {sp : Sp}
theorem okEG {params : Arguments} {body : List Stmt} {scope : Scope} {k : Nat} (F : FunD K x qual params body scope dvs [] r.ad r.fd) {kb : KB} (hkb : KbOk K r.fd ps kb) (b : Binds K r.fd ps []) (ok : FnOkG true P w K mg base (L2.CX P w) k r.ad r.fd ps sp) : FnOkEG P w K mg base (enG r ps sp k kb) :=
  ⟨ok, F.kp, fun j => by
    show Binds K r.fd ps (([] : List Value).drop j)
    rw [List.drop_nil]
    exact b, .nil, hkb⟩
theorem def_okFG (F : FunD K x qual (defArgs st) (defBody st) (defScope st) dvs [] r.ad r.fd) (b : Binds K r.fd ps []) (T : Txt N ps n st m) (G : GamOk Γ n k P w K mg base) (len : ∀ vs H Q E, sp vs H Q E → vs.length = ps.length)
    (h : ∀ (vs : List V) (H : Hp) (Q : VK) (E : XK), sp vs H Q E → dSs Γ K m (fun c d _ H => E c d H) { nx := fun _ H' => Q .non H', rt := Q } (start N vs) H) (hq : n.lq = none) {kb : KB} (hkb : KbOk K r.fd ps kb := by intro q hq; cases hq) : FnOkEG P w K mg base (enG r ps sp (k + 1) kb) := by
  refine okEG F hkb b ?_
  obtain ⟨oc, od, dV, kV, doc, pm, an, cdv, ct, osl, e, lk, hcd, _, _⟩ := F.ex
  rw [e] at lk ⊢
  refine fn_ofG lk hcd T.sc len fun A o s H vs Q E hg hr hsp => ⟨_, ?_, h vs H Q E hsp⟩
  have q := sSs Γ N m (X := cxOf (L2.CX P w) P w K mg base N qual (defScope st) r.ad cdv A o s H E) (cok_def G T.sc hr (fun q e => by rw [hq] at e; cases e) fun _ => hg) T.wf
  rw [T.eq] at q
  exact q
theorem def_okLFG {p : He.Defn} (F : FunD K x qual (defArgs st) (defBody st) (defScope st) dvs [] r.ad r.fd) (b : Binds K r.fd ps []) (T : Txt N ps n st m) (G : GamOk Γ n k P w K mg base) (len : ∀ vs H Q E, sp vs H Q E → vs.length = ps.length)
    (h : ∀ (vs : List V) (H : Hp) (Q : VK) (E : XK), sp vs H Q E → dSs Γ K m (fun c d _ H => E c d H) { nx := fun _ H' => Q .non H', rt := Q } (start N vs) H) (hq : n.lq = some (qual ++ ".<locals>.")) (hp : He.fAd K p = r.ad) (TB : LamX.TabB base mg (He.cT K p).1 (He.cT K p).2)
    (hin : ((He.cT K p).2, qual ++ ".<locals>." ++ "<lambda>") ∈ Γ.tb) (hu : ∀ z ∈ Γ.tb, z.1 = (He.cT K p).2 → z.2 = qual ++ ".<locals>." ++ "<lambda>") {kb : KB} (hkb : KbOk K r.fd ps kb := by intro q hq; cases hq) : FnOkEG P w K mg base (enG r ps sp (k + 2 + 1) kb) := by
  refine okEG F hkb b ?_
  obtain ⟨oc, od, dV, kV, doc, pm, an, cdv, ct, osl, e, lk, hcd, _, _⟩ := F.ex
  obtain ⟨c, hc⟩ := He.codeIn_ref hcd
  have ec : He.codeOf K p = c := He.codeOf_eq (fd := r.fd) (by rw [hp]; exact lk) (by rw [e]; exact hc)
  rw [e] at lk ⊢
  refine fn_ofG lk hcd T.sc len fun A o s H vs Q E hg hr hsp => ⟨_, ?_, h vs H Q E hsp⟩
  have q := sSs Γ N m (X := cxOf (L2.CX P w) P w K mg base N qual (defScope st) r.ad cdv A o s H E) (cok_def G T.sc (hr.mono (by omega)) (fun q e => by rw [hq] at e; cases e; exact ⟨rfl, hr, c, (He.cT K p).2, hc, (by rw [← ec]; exact TB), hin, hu⟩) fun _ => hg) T.wf
  rw [T.eq] at q
  exact q
end
/-! ### the head -/
/-- what the law's call finds: the script, the tables, and nothing else -/
structure Found0 (P : Program) (w : World) (K : Frag) (mg : Str → Option Value) (cs : List (Addr × Addr)) (a : Addr) (ns : List Int) (s : Shared) (H : Hp) (base : Heap) : Prop where
  env : Env0 P w K mg base callerA [] s H
  kin : K.In base
  nsp : base.Ns mainGlobals mg
  tbs : ∀ p ∈ cs, LamX.TabB base mg p.1 p.2
  tab : ∀ p ∈ cs, H p.2 = some (.tbl #[])
  lst : SqL K H a (ns.map V.int)
theorem found0 {P : Program} {w : World} {K : Frag} {mg mb : Str → Option Value} {a : Addr} {cs : List (Addr × Addr)} {s : Shared} {vs : List Value} {ns : List Int} (KX : K.In s.heap) (G : s.heap.Ns mainGlobals mg) (B : s.heap.Ns builtinsNs mb) (bb : ∀ x : Str, x ≠ "__name__" → mb x = bootBuiltins x) (nl : s.heap.NoLimit) (ng : s.gens = #[])
    (tabs : ∀ p ∈ cs, s.heap.get? p.2 = some { cls := .none, data := .fields #[] }) (noK : ∀ p ∈ cs, K.lookup p.2 = none) (C : ∀ p ∈ cs, PySem.W.CodeHd s.heap p.1 p.2)
    (bmod : ∃ (bm : Addr) (ob : Obj), mg "__builtins__" = some (.ref bm) ∧ bm ≠ builtinsNs ∧ s.heap.get? bm = some ob ∧ ob.cls = .type "module" ∧ ob.dict = some builtinsNs ∧ ob.data = .plain)
    (scr : s.heap.get? a = some { cls := .type "list", data := .seq vs.toArray }) (itm : IntsAre vs ns) (len : ns.length ≤ sizeLine) :
    ∃ (H : Hp) (base : Heap), Found0 P w K mg cs a ns s H base ∧ ∀ (H' : Hp) (s' : Shared), Un (frs []) [] H H' s.heap s'.heap → HOk P w H' s'.heap → OldK s.heap s'.heap := by
  have rv := vals_ints itm
  have ll := itm.length
  generalize eT : cs.map (fun p : Addr × Addr => p.2) = T
  have inT : ∀ p ∈ cs, p.2 ∈ T := fun p hp => by rw [← eT]; exact List.mem_map_of_mem hp
  have atT : ∀ b ∈ T, ∃ p ∈ cs, p.2 = b := fun b hb => by
    rw [← eT] at hb
    exact List.mem_map.mp hb
  have tabT : ∀ b ∈ T, s.heap.get? b = some { cls := .none, data := .fields #[] } := fun b hb => by
    obtain ⟨p, hp, e⟩ := atT b hb
    exact e ▸ tabs p hp
  have aT : a ∉ T := fun z => by
    have q := (tabT a z).symm.trans scr
    cases q
  let o₀ : Obj := { cls := .type "list", data := .seq vs.toArray }
  let H : Hp := fun b => if b ∈ T then some (.tbl #[]) else if b = a ∧ K.lookup a = none then some (.frz o₀ (.lst (ns.map V.int))) else none
  have HT : ∀ b ∈ T, H b = some (.tbl #[]) := fun b hb => if_pos hb
  have Hn : ∀ b, b ∉ T → ¬ (b = a ∧ K.lookup a = none) → H b = none := fun b n1 n2 => (if_neg n1).trans (if_neg n2)
  have Ha : K.lookup a = none → H a = some (.frz o₀ (.lst (ns.map V.int))) := fun k => (if_neg aT).trans (if_pos ⟨rfl, k⟩)
  -- what holds no list and no empty table is not tracked
  have other : ∀ {b : Addr} {o : Obj}, s.heap.get? b = some o → (∀ us n, o.data ≠ .seq us n) → o.data ≠ .fields #[] → H b = none := fun {b o} e n1 n2 => by
    refine Hn b (fun hb => ?_) fun hb => ?_
    · have z := (tabT b hb).symm.trans e
      cases z
      exact n2 rfl
    · have z := scr.symm.trans (hb.1 ▸ e)
      cases z
      exact n1 _ _ rfl
  have spaces : ∀ {b : Addr} {m : Str → Option Value}, s.heap.Ns b m → (hidT s.heap H).Ns b m := fun {b m} q => by
    obtain ⟨o, es, ep, e, d, r⟩ := q
    exact ⟨o, es, ep, hidT_get e (other e (fun us n z => by rw [d] at z; cases z) fun z => by rw [d] at z; cases z), d, r⟩
  have kin : K.In (hidT s.heap H) := fun b o e => hidT_get (KX b o e) (Hn b (fun hb => by
    obtain ⟨p, hp, ep⟩ := atT b hb
    rw [← ep, noK p hp] at e
    cases e) fun hb => by
    rw [hb.1, hb.2] at e
    cases e)
  have hok : HOk P w H s.heap := fun b u z => by
    by_cases hb : b ∈ T
    · cases (HT b hb).symm.trans z
      exact tabT b hb
    · by_cases h2 : b = a ∧ K.lookup a = none
      · have e := (((if_neg hb).trans (if_pos h2) : H b = _)).symm.trans z
        cases e
        rw [h2.1]
        exact ⟨scr, by rw [List.length_map]; exact len, vs, _, rv, scr⟩
      · cases (Hn b hb h2).symm.trans z
  refine ⟨H, hidT s.heap H, ⟨⟨rfl, ⟨kin, spaces G, ⟨mb, spaces B, bb⟩, let ⟨mc, h1, h2⟩ := nl; ⟨mc, spaces h1, h2⟩⟩, fun b o e => of_hidT e, Nat.le_of_eq (hidT_size _ _), trivial, fun b hb => absurd (show b ∈ ([] : List Addr) from hb) (by simp), hok, .of_eq ng⟩, kin, spaces G, fun p hp => ?_, fun p hp => HT _ (inT p hp), ?_⟩, ?_⟩
  · refine ⟨?_, ?_, fun z => ?_⟩
    · obtain ⟨o, us, fl, tf, fg, tg, inF, tx, tt, e1, r1, r2, r3, rest⟩ := C p hp
      exact ⟨o, us, fl, tf, fg, tg, inF, tx, tt, hidT_get e1 (other e1 (fun us n z => by rw [r2] at z; cases z) fun z => by rw [r2] at z; cases z; simp at r3), r1, r2, r3, rest⟩
    · obtain ⟨bm, ob, b1, b2, b3, b4, b5, b6⟩ := bmod
      refine ⟨bm, ob, b1, b2, fun q => ?_, fun q => ?_, hidT_get b3 (other b3 (fun us n z => by rw [b6] at z; cases z) fun z => by rw [b6] at z; cases z), b4, b5, b6⟩
      · obtain ⟨o, es, ep, e, hd, _⟩ := G
        rw [q, e] at b3
        cases b3
        rw [hd] at b6
        cases b6
      · rw [q, tabs p hp] at b3
        cases b3
        cases b6
    · obtain ⟨o, es, ep, e, hd, _⟩ := G
      rw [z, tabs p hp] at e
      cases e
      cases hd
  · cases hk : K.lookup a with
    | none => exact .inl (.inr ⟨o₀, Ha hk⟩)
    | some o =>
      have e := (KX a o hk).symm.trans scr
      cases e
      exact .inr ⟨_, vs.toArray, _, hk, rfl, rfl, rfl, by rw [List.size_toArray, ll]; exact len, by simpa using rv⟩
  · intro H' s' un hok'
    have same : ∀ b o, b ∉ T → s.heap.get? b = some o → s'.heap.get? b = some o := fun b o nb e => by
      by_cases h2 : b = a ∧ K.lookup a = none
      · have z : H b = some (.frz o₀ (.lst (ns.map V.int))) := h2.1 ▸ Ha h2.2
        obtain ⟨q1, _⟩ := hok b _ z
        obtain ⟨q2, _⟩ := hok' b _ (un.frzs b _ _ z)
        rw [e] at q1
        cases q1
        exact q2
      · exact un.keep b o e (Hn b nb h2) (by intro z; exact absurd (show b ∈ ([] : List Addr) from z) (by simp)) (by simp)
    have more : ∀ p ∈ cs, ∃ us : Array Value, s'.heap.get? p.2 = some { cls := .none, data := .fields us } := fun p hp => by
      obtain ⟨us, z⟩ := un.tbls p.2 #[] (HT _ (inT p hp))
      exact ⟨_, hok' p.2 _ z⟩
    refine ⟨fun b o e => ?_, fun b o e => ?_⟩
    · by_cases hb : b ∈ T
      · obtain ⟨p, hp, rfl⟩ := atT b hb
        obtain ⟨us, hu⟩ := more p hp
        rw [tabs p hp] at e
        cases e
        exact .inr (.inl ⟨((C p hp).tab (tabs p hp)).isCodeTable, rfl, #[], us, rfl, by rw [Array.empty_append]; exact hu⟩)
      · exact .inl (same b o hb e)
    · by_cases hb : b ∈ T
      · obtain ⟨p, hp, rfl⟩ := atT b hb
        obtain ⟨us, hu⟩ := more p hp
        exact ⟨_, hu⟩
      · exact ⟨o, same b o hb e⟩
/-- what is known of such a law's promise at the head's heap -/
def LawAtG (l : PySem.W.OpenLaw) (w : World) (K : Frag) (k n : Nat) (x : Str) (mg : Str → Option Value) (fa : Addr) (h : Heap) : Prop :=
  ∃ (fd : FuncData) (cs : List (Addr × Addr)) (sp : Sp), (∀ p ∈ cs, h.get? p.2 = some { cls := .none, data := .fields #[] }) ∧ (∀ p ∈ cs, K.lookup p.2 = none) ∧ (∀ p ∈ cs, PySem.W.CodeHd h p.1 p.2) ∧ (∀ (s : Shared) (u : Value), BindsTo s fd ⟨[u], []⟩ [(x, u)]) ∧
    (∀ (H : Hp) (a : Addr) (ns : List Int), ns.length ≤ n → (∀ z ∈ ns, Builtin.Int.intBits z ≤ 1048576) → (∀ p ∈ cs, H p.2 = some (.tbl #[])) → SqL K H a (ns.map V.int) → sp [.ref a] H (fun v _ => v = .bl true) fun _ _ _ => False) ∧
    ∀ base : Heap, K.In base → base.Ns mainGlobals mg → (∀ p ∈ cs, LamX.TabB base mg p.1 p.2) → FnOkG true l.prog w K mg base (L2.CX l.prog w) k fa fd [x] sp
theorem walk_G {l : PySem.W.OpenLaw} {n k : Nat} {q : Program} {loose : List Str} {XP : (Str → Option Value) → Heap → Prop} {YP : World → Heap → Prop} {d : DefRec} {x : Str} (hn : l.most = some n) (hn2 : n ≤ sizeLine) (hdf : d.params.defaults = []) (hr : Room k callerA)
    (F : ∀ (w : World) (mg : Str → Option Value) (fa : Addr) (h : Heap), YP w h → h.Ns mainGlobals mg → mg d.name = some (.ref fa) → ∃ K : Frag, K.In h ∧ LawAtG l w K k n x mg fa h) :
    PySem.W.WalkO q loose XP YP l.row.toRowW d [] (fun f vs => PySem.call f vs) := by
  refine Att.attach_callB hn hdf fun w s0 s1 mg mb fa o pm cd doc a vs ns G Y ho hd hcd hmg hobj hints hlen hbits hg => ?_
  obtain ⟨K, KX, fd, cs, sp, hT, nT, C, hb, hsp, hF⟩ := F w mg fa _ Y G.T.g hmg
  obtain ⟨H, base, E, old⟩ := found0 (P := l.prog) (w := w) KX G.T.g G.T.b G.T.builtins G.T.nolimit hg hT nT C G.T.bmain hobj hints (Nat.le_trans hlen hn2)
  refine codeAny_mono ((hF base E.kin E.nsp E.tbs).run callerA [] s1 H ⟨[.ref a], []⟩ [.ref a] [.ref a] _ _ (fun _ => rfl) hr E.env (hb s1 (.ref a)) (.cons rfl .nil) (hsp H a ns hlen hbits E.tab E.lst)) fun r s2 back => ?_
  match r, back with
  | .ok (.ret u), ⟨v, H', os, bare, un, ok', r', q⟩ =>
    have q' : v = .bl true := q
    subst q'
    cases (show u = Value.bool true from r')
    exact ⟨rfl, old H' s2 un ok', os, bare⟩
  | .ok .next, z => exact z.elim
  | .ok .brk, z => exact z.elim
  | .ok .cont, z => exact z.elim
  | .error e, z =>
    obtain ⟨_, _, _, _, _, _, _, _, _, _, _, _, z⟩ := z
    exact z.elim
end Rf
/-! Rf14: a list comprehension whose element knows the state at which its block began (a nested def is called there). -/
namespace Rf
open PySem PySem.Spec PyProof.Rows L2
section
variable {X : Cx}
/-- a block's environment, its cells those of the frame around -/
abbrev envB (X : Cx) (scope : Scope) (s : Shared) : Env :=
  compEnvC scope (cellsFrom (s.heap.objs.size + 1) scope.names (cloFrom X.env.cells scope.names [])) s.heap.objs.size X.env
abbrev Cb (X : Cx) (scope : Scope) (s : Shared) (H : Hp) (fp : List Addr) : Cx := X.blk s H scope (envB X scope s) fp
theorem comp_known {tg iter elt : Expr} {scope : Scope} {own : List (Str × Nat)} {pos : Pos} {wi : TI} {g : TG} {te : TE} {pins : List (Addr × Obj)} {s : Shared} {σ : L2.St} {H : Hp} {Q : VK}
    (calm : X.calm = true) (nd : X.N.Nodup) (I : Inv X pins σ H s) (pi : PI X tg iter wi) (bk : BlkOk X.N X.env.scope scope own) (pg : ∀ (t : Shared) (G : Hp) (fp : List Addr), PG (Cb X scope t G fp) tg g)
    (pe : ∀ (t : Shared) (G : Hp) (fp : List Addr), Inv X pins σ G t → (∀ b ∈ fp, FpOk X pins G b) → PE (Cb X scope t G fp) elt te) (nf : ∀ x, foldedSetIterable iter X.env x = pure x)
    (h : tLc wi g tYes te (own.map (·.2)) σ H Q) : wpAny (model X.prog X.w) X.A (eval (.ListComp elt [⟨tg, iter, [], 0⟩] scope pos) X.env) (EP X pins σ Q) X.xe s := by
  have frees : ∀ z ∈ scope.names, z.2 = .free → ∃ c, X.env.cells.lookup z.1 = some c :=
    fun z hz e => (bk.free z hz e).elim (fun q => I.ok.has _ (.inl q)) fun q => I.ok.has _ (.inr q)
  rw [eval_ListComp]
  refine wpAny_comprehension_free rfl nf (closure_ok frees) bk.kind (fun z hz e => (bk.uniq z hz).trans (by rw [e])) ?_
  refine thn (pi.run pins s σ H _ I h) fun xv t1 k1 => thn k1 fun itv t2 k2 => ?_
  obtain ⟨it, fp, tn, J, G2, rfl, I2, T, b2, f2, q2⟩ := k2
  refine wpAny_newObj_type (newEnv_comp ?_) (Nat.zero_le _)
  obtain ⟨D, eD⟩ : ∃ D, D = t2.heap.objs.size := ⟨_, rfl⟩
  rw [← eD]
  have dn : G2 D = none := I2.hok.fresh (Nat.le_of_eq eD.symm)
  obtain ⟨W, ⟨m0, w0⟩, turn⟩ := q2 D dn
  obtain ⟨t3, e3⟩ : ∃ t3 : Shared, t3 = { t2 with heap := t2.heap.push { cls := .type "list", data := .seq ([] : List Value).toArray } } := ⟨_, rfl⟩
  have hp3 : t3.heap = t2.heap.push { cls := .type "list", data := .seq ([] : List Value).toArray } := by rw [e3]
  have grow : ∀ b o, t2.heap.get? b = some o → t3.heap.get? b = some o := fun b o e => by
    rw [hp3]
    exact Heap.get?_push_of_some _ e
  have I3 : Inv X pins σ (upd G2 D (.lst [])) t3 := by
    rw [e3]
    refine I2.laid (t' := t2.toks) (fun b o e => Heap.get?_push_of_some _ e) (Nat.le_of_eq eD.symm) ?_
    refine ⟨Nat.zero_le _, [], 0, .nil, ?_⟩
    rw [eD]
    exact Heap.get?_push_size _ rfl
  have low : ∀ b ∈ fp, b < t2.heap.objs.size := fun b hb => by
    obtain ⟨o, e, _⟩ := T.obj _ _ b2 b hb
    exact Heap.lt_size e
  have f3 : ∀ b ∈ fp, FpOk X pins (upd G2 D (.lst [])) b ∧ b < t3.heap.objs.size := fun b hb => by
    have lt := low b hb
    obtain ⟨z, r⟩ := f2 b hb
    refine ⟨⟨?_, r⟩, by rw [hp3, Heap.size_push]; exact Nat.lt_succ_of_lt lt⟩
    rw [upd_ne (show b ≠ D from fun y => Nat.lt_irrefl _ (by rw [y, eD] at lt; exact lt))]
    exact z
  have b3 : tn 0 t3.heap := T.keep _ _ _ b2 fun b _ o e => grow b o e
  obtain ⟨G3, eG⟩ : ∃ G3, G3 = upd G2 D (.lst []) := ⟨_, rfl⟩
  rw [← eG] at I3 f3 w0
  have I4 := block_start I3 bk nd f3
  have none3 : ∀ b ∈ fp, G3 b = none := fun b hb => (f3 b hb).1.1
  have hpg := pg t3 G3 fp
  have hpe := pe t3 G3 fp I3 fun b hb => (f3 b hb).1
  obtain ⟨t4, e4⟩ : ∃ t4 : Shared, t4 = { t3 with heap := pushCells (t3.heap.push { cls := .type "dict", data := .dict #[] }) scope.names } := ⟨_, rfl⟩
  have grow4 : ∀ b o, t3.heap.get? b = some o → t4.heap.get? b = some o := fun b o e => by
    rw [e4]
    exact pushCells_keeps _ _ _ _ (Heap.get?_push_of_some _ e)
  rw [← e4] at I4
  have b4 : tn 0 t4.heap := T.keep _ _ _ b3 fun b _ o e => grow4 b o e
  rw [← e3, ← e4]
  show codeAny _ _ (.compStart (.ListComp elt [⟨tg, iter, [], 0⟩] scope pos) 0 (.ref it) (.ref D) (envB X scope t3)) _ t4
  obtain ⟨ce, ece⟩ : ∃ ce, ce = envB X scope t3 := ⟨_, rfl⟩
  have loc3 : ce.locals = t3.heap.objs.size := by rw [ece]; rfl
  show codeAny _ _ (.compStart (.ListComp elt [⟨tg, iter, [], 0⟩] scope pos) 0 (.ref it) (.ref D) (envB X scope t3)) (compPost (model X.prog X.w) X.A X.xe none (EP X pins σ Q) (.ref D) t3.heap.objs.size) t4
  have I4 : Inv (X.blk t3 G3 scope ce fp) [] (wipe σ (own.map (·.2))) G3 t4 := by rw [ece]; exact I4
  have hpg : PG (X.blk t3 G3 scope ce fp) tg g := by rw [ece]; exact hpg
  have hpe : PE (X.blk t3 G3 scope ce fp) elt te := by rw [ece]; exact hpe
  rw [← ece]
  -- an iterator's objects stand apart from the block
  have apart : ∀ {τ : L2.St} {G : Hp} {t : Shared}, Inv (X.blk t3 G3 scope ce fp) [] τ G t → (∀ b ∈ fp, G b = none) → ∀ b ∈ fp, FpOk (X.blk t3 G3 scope ce fp) [] G b := fun {τ G t} J hn b hb => by
    obtain ⟨x1, x2⟩ := J.ok.exf b hb
    exact ⟨hn b hb, x1, J.ok.exfs b hb, .inl hb, x2, fun p hp => by cases (show p ∈ ([] : List (Addr × Obj)) from hp)⟩
  -- what stands ahead of the i-th turn
  let St0 : Nat → Shared → Prop := fun n t => ∃ i G, Inv (X.blk t3 G3 scope ce fp) [] (wipe σ (own.map (·.2))) G t ∧ tn i t.heap ∧ (∀ b ∈ fp, G b = none) ∧ W i n G
  have go : codeAny (model X.prog X.w) X.A (.compLoop (.ListComp elt [⟨tg, iter, [], 0⟩] scope pos) 0 (.ref it) (.ref D) ce) (compPost (model X.prog X.w) X.A X.xe none (EP X pins σ Q) (.ref D) t3.heap.objs.size) t4 := by
    refine compLoop_any St0 (fun n t5 st => ?_) m0 ⟨0, G3, I4, b4, none3, w0⟩
    obtain ⟨i, G5, I5, b5, n5, w5⟩ := st
    rcases turn i n G5 w5 with ⟨stop, fin⟩ | ⟨more, Nx, nxt, step⟩
    · refine thnF (T.done (X.blk t3 G3 scope ce fp) rfl rfl rfl calm i [] t5 _ G5 (fun _ _ => False) I5 (apart I5 n5) b5 stop) fun r t6 hr => ?_
      obtain ⟨rfl, I6⟩ := hr
      have I7 : Inv X pins σ G5 t6 := I3.call' (ch := fp) I6.os I6.base I6.hok I6.bare fun b hb => by
        obtain ⟨⟨_, y1, _, y3, y4, y5⟩, _⟩ := f3 b hb
        exact ⟨y3, y1, y4, y5⟩
      have nL : G5 t3.heap.objs.size = none := loc3 ▸ I6.free
      obtain ⟨m, ns, _⟩ := I6.loc
      have ns : t6.heap.Ns t3.heap.objs.size m := loc3 ▸ ns
      refine ⟨m, ns, fun h'' sb => ?_⟩
      obtain ⟨z0, z1, z2, z3, z4, z5⟩ := I3.fpOk (H' := G5) (Nat.le_refl _) nL
      exact ⟨.ref D, G5, I7.turned (t' := t6.toks) (fun b o nb e => (sb.2 b nb).trans e) z0 z1 z3 z4 z5, rfl, fin⟩
    · refine thnF (T.item (X.blk t3 G3 scope ce fp) rfl rfl rfl calm i [] t5 _ G5 (fun _ _ => False) I5 (apart I5 n5) b5 more) fun r t6 hr => ?_
      obtain ⟨u, rfl, h6⟩ := hr
      refine thnF h6 fun _ t7 k7 => ?_
      obtain ⟨x, G7, I7, r7, y7, b7, n7⟩ := k7
      refine thnF (hpg.run _ t7 _ G7 x u _ (I7.pinned (apart I7 n7) (T.obj _ _ b7)) r7 (step x G7 y7)) fun _ t8 k8 => ?_
      obtain ⟨τ, G8, I8, we, q8⟩ := k8
      show wpAny _ _ (forIn ([] : List Expr) true _) _ _ t8
      refine wpAny_tests_nil ?_
      show wpAny _ _ _ _ _ t8
      refine thnF (hpe.run _ t8 τ G8 _ I8 q8) fun z t9 k9 => ?_
      obtain ⟨yv, G9, I9, r9, acc, eacc, lacc, nx⟩ := k9
      refine app_ok (X := X.blk t3 G3 scope ce fp) I9 eacc lacc r9 fun t10 I10 => ?_
      obtain ⟨m', lt, w'⟩ := nxt _ nx
      have still : ∀ b ∈ fp, ∀ o, t7.heap.get? b = some o → t10.heap.get? b = some o ∧ (upd G9 D (.lst (acc ++ [yv]))) b = none := fun b hb o e => by
        obtain ⟨p1, p2, _⟩ := I10.pin (b, o) (List.mem_append_right _ (List.mem_append_right _ (mem_pinsAt hb e)))
        exact ⟨p1, p2⟩
      have len : (wipe σ (own.map (·.2))).length = τ.length := by rw [← we, wipe_length]
      refine ⟨m', lt, i + 1, _, (I10.unpinned (pins := [])).weak len (fun j v e => ?_), T.keep _ _ _ b7 fun b hb o e => (still b hb o e).1, fun b hb => ?_, w'⟩
      · rw [← we] at e
        exact (wipe_some e).1
      · obtain ⟨o, e, _⟩ := T.obj _ _ b7 b hb
        exact (still b hb o e).2
  exact codeAny_compStart_list go (T.self X.A 0 _ _ _ b4 go)
end
end Rf
/-! Rf15: sum(lists, start=[]). -/
namespace Rf
open PySem PySem.Spec PyProof.Rows L2
section
variable {prog : Program} {w : World} {A : Around} {R : Result → Shared → Prop} {I : Addr} {fp wr : List Addr} {G : Array GenState → Array GenState → Prop} {n : Nat} {P : Nat → Value → Prop} {St : Nat → Shared → Prop}
/-- a list's items, where it stands -/
abbrev LstAt (h : Heap) (a : Addr) (xs : Array Value) : Prop := ∃ c, h.get? a = some { cls := .type "list", dict := none, data := .seq xs c, slots := #[] }
/-- the items of the lists from the i-th on, one behind the other -/
def joinFrom (its : Nat → Array Value) (n : Nat) : Nat → Array Value → Array Value
  | 0, acc => acc
  | k + 1, acc => joinFrom its n k (acc ++ its (n - (k + 1)))
theorem joinFrom_size (its : Nat → Array Value) (n : Nat) : ∀ (k : Nat) (acc : Array Value), acc.size ≤ (joinFrom its n k acc).size
  | 0, acc => Nat.le_refl _
  | k + 1, acc => Nat.le_trans (by rw [Array.size_append]; omega) (joinFrom_size its n k (acc ++ its (n - (k + 1))))
theorem sumL_loop (W : WalksS prog w A.in1 I fp wr G n P St) (live : ∀ i s, St i s → ∀ b ∈ fp, ∃ o, s.heap.get? b = some o) (as : Nat → Addr) (its : Nat → Array Value) (isl : ∀ i v, P i v → v = .ref (as i)) (aw : ∀ i, i < n → as i ∉ wr) (S : Addr) (hS : S ∉ fp) (aS : ∀ i, i < n → as i ≠ S) :
    ∀ (k i : Nat) (s : Shared) (T : Addr) (acc : Array Value) (c : Nat), n - i = k → i ≤ n → St i s → s.heap.get? S = some { cls := .type "list", dict := none, data := .seq #[.ref T] c, slots := #[] } → LstAt s.heap T acc → T ≠ S → T ∉ wr →
      (∀ j, j < n → LstAt s.heap (as j) (its j)) → (joinFrom its n k acc).size ≤ sizeLine →
      (∀ s' T', Moved (S :: wr) G s s' → LstAt s'.heap T' (joinFrom its n k acc) → (k = 0 → T' = T) → (k ≠ 0 → ∀ b ∈ fp, b < T') → R (.ok (.ret (.ref T'))) s') →
      codeAny (model prog w) A (.builtin "sum.loop" ⟨[.ref I, .ref S, rawInt 2, rawInt 0], []⟩) R s := by
  have up : ∀ b ∈ wr, b ∈ S :: wr := fun b hb => List.mem_cons_of_mem _ hb
  intro k
  induction k with
  | zero =>
    intro i s T acc c hk hi st eS eT tS tw la lim fin
    obtain rfl : i = n := by omega
    refine codeAny_builtin F.entry_sum_loop ?_
    rw [Around.under_plainId F.plain_sum_loop _]
    show wpAny _ A.in1 (seqItems? (.ref S) >>= _) _ _ s
    refine wpAny_bind (wpAny_seqItems eS rfl ?_)
    show wpAny _ A.in1 (tryCatch (pyNext (.ref I)) _ >>= _) _ _ s
    refine wpAny_bind (wpAny_tryCatch (W.done s _ _ st fun t mv => ?_))
    obtain ⟨cT, eT⟩ := eT
    exact wpAny_pure (fin t T (mv.mono up) ⟨cT, mv.heap _ _ tw eT⟩ (fun _ => rfl) fun z => absurd rfl z)
  | succ k ih =>
    intro i s T acc c hk hi st eS eT tS tw la lim fin
    have lt : i < n := by omega
    have ei : n - (k + 1) = i := by omega
    have sw : S ∉ wr := fun z => hS (W.sub _ z)
    refine codeAny_builtin F.entry_sum_loop ?_
    rw [Around.under_plainId F.plain_sum_loop _]
    show wpAny _ A.in1 (seqItems? (.ref S) >>= _) _ _ s
    refine wpAny_bind (wpAny_seqItems eS rfl ?_)
    show wpAny _ A.in1 (tryCatch (pyNext (.ref I)) _ >>= _) _ _ s
    refine wpAny_bind (wpAny_tryCatch (W.item i s _ _ lt st fun v t pv st' mv => ?_))
    obtain rfl := isl i v pv
    have eS' := mv.heap S _ sw eS
    obtain ⟨cT, eT⟩ := eT
    have eT' := mv.heap T _ tw eT
    obtain ⟨ca, ea⟩ := la i lt
    have ea' := mv.heap _ _ (aw i lt) ea
    have lim' : (joinFrom its n k (acc ++ its i)).size ≤ sizeLine := by
      have z : joinFrom its n (k + 1) acc = joinFrom its n k (acc ++ its (n - (k + 1))) := rfl
      rw [z, ei] at lim
      exact lim
    have small : acc.size + (its i).size ≤ sizeLine := by
      have q := joinFrom_size its n k (acc ++ its i)
      rw [Array.size_append] at q
      exact Nat.le_trans q lim'
    show wpAny _ A.in1 ((holding [Value.ref (as i)] (binaryOp .Add (.ref T) (.ref (as i)))).attempt >>= _) _ _ _
    refine wpAny_bind (wpAny_attempt (wpAny_holding (PySem.P.add_list eT' ea' ?_ small)))
    obtain ⟨N, eN⟩ : ∃ N, N = t.heap.objs.size := ⟨_, rfl⟩
    rw [← eN]
    have nS : N ≠ S := fun z => Nat.lt_irrefl _ (eN ▸ z ▸ Heap.lt_size eS')
    have old : ∀ b o, t.heap.get? b = some o → (t.heap.push { cls := .type "list", data := .seq (acc ++ its i) }).get? b = some o := fun b o e => Heap.get?_push_of_some _ e
    have eSp := old _ _ eS'
    show wpAny _ A.in1 (updateSeq S (fun _ => #[.ref N]) >>= _) _ _ _
    refine wpAny_bind (wpAny_updateSeq eSp rfl ?_)
    have eS2 := Heap.get?_update_self (Obj.mapSeq fun _ => #[Value.ref N]) eSp rfl
    refine wpAny_bind (wpAny_letGo ?_)
    refine wpAny_bind (wpAny_updateSeq eS2 rfl (wpAny_pure ⟨plainId_quiet F.plain_sum_loop _, ?_⟩))
    have far : ∀ b o, b ≠ S → t.heap.get? b = some o → (((t.heap.push { cls := .type "list", data := .seq (acc ++ its i) }).update S (Obj.mapSeq fun _ => #[Value.ref N])).update S (Obj.mapSeq fun _ => #[Value.ref N])).get? b = some o := fun b o nb e =>
      (Heap.get?_update_other _ _ (Ne.symm nb)).trans ((Heap.get?_update_other _ _ (Ne.symm nb)).trans (old b o e))
    have newT : (((t.heap.push { cls := .type "list", data := .seq (acc ++ its i) }).update S (Obj.mapSeq fun _ => #[Value.ref N])).update S (Obj.mapSeq fun _ => #[Value.ref N])).get? N = some { cls := .type "list", data := .seq (acc ++ its i) } := by
      refine (Heap.get?_update_other _ _ (Ne.symm nS)).trans ((Heap.get?_update_other _ _ (Ne.symm nS)).trans ?_)
      rw [eN]
      exact Heap.get?_push_size _ rfl
    have nN : t.heap.get? N = none := by
      cases e : t.heap.get? N with
      | none => rfl
      | some o => exact absurd (Heap.lt_size e) (by rw [eN]; exact Nat.lt_irrefl _)
    have Nf : N ∉ fp := fun z => by
      obtain ⟨o, e⟩ := live _ _ st' N z
      rw [nN] at e
      cases e
    have above : ∀ b ∈ fp, b < N := fun b hb => by
      obtain ⟨o, e⟩ := live _ _ st' b hb
      rw [eN]
      exact Heap.lt_size e
    have st2 := W.frame _ t (((t.heap.push { cls := .type "list", data := .seq (acc ++ its i) }).update S (Obj.mapSeq fun _ => #[Value.ref N])).update S (Obj.mapSeq fun _ => #[Value.ref N])) t.toks st' (Nat.le_refl _) fun b hb o e => far b o (fun z => hS (z ▸ hb)) e
    refine ih (i + 1) _ N (acc ++ its i) _ (by omega) lt st2 (Heap.get?_update_self _ eS2 rfl) ⟨_, newT⟩ nS ?_ (fun j hj => ?_) lim' fun s' T' mv' lT z1 z2 => ?_
    · exact fun z => Nf (W.sub _ z)
    · obtain ⟨cj, ej⟩ := la j hj
      exact ⟨cj, far _ _ (aS j hj) (mv.heap _ _ (aw j hj) ej)⟩
    · refine fin s' T' (Moved.trans W.gtrans ((mv.mono up).then_heap (Nat.le_refl _) fun b o hb e => far b o (fun z => hb (z ▸ List.mem_cons_self)) e) mv') ?_ (fun z => by cases z) fun _ => ?_
      · have z : joinFrom its n (k + 1) acc = joinFrom its n k (acc ++ its (n - (k + 1))) := rfl
        rw [z, ei]
        exact lT
      · by_cases k0 : k = 0
        · rw [z1 k0]
          exact above
        · exact z2 k0
end
section
variable {prog : Program} {w : World} {A : Around} {E : Value → Shared → Prop} {s : Shared}
theorem args_sum_start (x d : Value) : argsOk "sum" ⟨[x], [(Str.ofString "start", d)]⟩ := by
  unfold argsOk
  kernel_rfl
theorem call_sum_lists {vs : Array Value} {as : Nat → Addr} {its : Nat → Array Value} {l d : Addr} {Q : Value → Shared → Prop} (hh : A.handled = none) (hl : s.heap.IsList l vs) (hv : ∀ (i : Nat) (v : Value), vs[i]? = some v → v = Value.ref (as i)) (la : ∀ j, j < vs.size → LstAt s.heap (as j) (its j)) (ld : LstAt s.heap d #[])
    (lim : (joinFrom its vs.size vs.size #[]).size ≤ sizeLine)
    (h : ∀ h' tk T, (∀ b o, s.heap.get? b = some o → h'.get? b = some o) → LstAt h' T (joinFrom its vs.size vs.size #[]) → (T = d ∨ s.heap.objs.size ≤ T) → Q (.ref T) { s with heap := h', toks := tk }) :
    wpAny (model prog w) A (call (.builtin "sum") [.ref l] [(Str.ofString "start", .ref d)]) Q E s := by
  refine PyProof.Rows.kmk_tree F.kind_sum F.plain_sum F.entry_sum (args_sum_start _ _) ?_
  unfold Builtin.«sum»
  simp only [List.length_cons, List.length_nil]
  rw [if_neg (by decide)]
  refine wpAny_bind (wpAny_of_eq (show Builtin.Builtins.bindParams "sum" ["start"] 0 ⟨[], [(Str.ofString "start", Value.ref d)]⟩ = pure [some (Value.ref d)] from rfl) ?_)
  refine wpAny_bind (PySem.W.iter_listW (A := A.in1) hh hl fun t e W st low keep grow => ?_)
  obtain ⟨cd, ed⟩ := ld
  have ed2 := grow _ _ ed
  have ty : t.TypeIs (.ref d) "list" := ⟨_, ed2, rfl⟩
  refine wpAny_bind (wpAny_pure ?_)
  simp only [List.forIn_cons, List.forIn_nil]
  refine wpAny_bind (wpAny_bind (wpAny_bind (wpAny_isInstance (T := "list") (b := false) ty F.sub_list_str ?_)))
  simp only [Bool.false_eq_true, if_false]
  refine wpAny_pure (wpAny_bind (wpAny_bind (wpAny_isInstance (T := "list") (b := false) ty F.sub_list_bytes ?_)))
  simp only [Bool.false_eq_true, if_false]
  refine wpAny_pure (wpAny_bind (wpAny_bind (wpAny_isInstance (T := "list") (b := false) ty F.sub_list_bytearray ?_)))
  simp only [Bool.false_eq_true, if_false]
  refine wpAny_pure (wpAny_pure ?_)
  refine wpAny_bind (wpAny_newObj_type ?_)
  have big : ∀ b o, s.heap.get? b = some o → b < s.heap.objs.size := fun b o e => Heap.lt_size e
  have t2 : s.heap.objs.size < t.heap.objs.size := by
    rw [e]
    show _ < (s.heap.push _).objs.size
    rw [Heap.size_push]
    exact Nat.lt_succ_self _
  have up2 : ∀ b o, s.heap.get? b = some o → (t.heap.push { cls := .type "list", data := .seq #[Value.ref d] }).get? b = some o := fun b o eb => Heap.get?_push_of_some _ (grow b o eb)
  have lt_of : ∀ j, j < vs.size → as j < s.heap.objs.size := fun j hj => by
    obtain ⟨c, ej⟩ := la j hj
    exact big _ _ ej
  refine wpAny_pure ⟨plainId_quiet F.plain_sum_loop _, ?_⟩
  refine sumL_loop W (fun i u hu b hb => ?_) as its hv (fun i hi z => ?_) t.heap.objs.size (fun z => ?_) (fun i hi z => ?_) vs.size 0 _ d #[] _ (Nat.sub_zero _) (Nat.zero_le _) (W.frame 0 t _ t.toks st (Nat.le_refl _) fun b _ o eb => Heap.get?_push_of_some _ eb) (Heap.get?_push_size _ rfl) ⟨cd, up2 _ _ ed⟩ (fun z => ?_) (fun z => ?_) (fun j hj => ?_) lim fun s' T' mv lT z1 z2 => ?_
  · obtain ⟨⟨o1, e1, _⟩, ⟨o2, e2, _⟩⟩ := hu
    rcases List.mem_cons.mp hb with rfl | hb
    · exact ⟨o1, e1⟩
    · rw [List.mem_singleton.mp hb]
      exact ⟨o2, e2⟩
  · have := lt_of i hi
    rw [List.mem_singleton.mp z] at this
    exact Nat.lt_irrefl _ this
  · exact Nat.lt_irrefl _ (low _ z)
  · have q := lt_of i hi
    rw [z] at q
    exact Nat.lt_asymm q t2
  · have q := big _ _ ed
    rw [z] at q
    exact Nat.lt_asymm q t2
  · have := big _ _ ed
    rw [List.mem_singleton.mp z] at this
    exact Nat.lt_irrefl _ this
  · obtain ⟨c, ej⟩ := la j hj
    exact ⟨c, up2 _ _ ej⟩
  · obtain ⟨h', tk, rfl, kp⟩ := PySem.W.moved_old e rfl (Moved.drop_new (tk := t.toks) mv (Nat.le_refl _))
    refine h h' tk T' kp lT ?_
    by_cases n0 : vs.size = 0
    · exact .inl (z1 n0)
    · exact .inr (Nat.le_of_lt (z2 n0 _ List.mem_cons_self))
end
section
variable {X : Cx}
/-- sum(lists, start=[]) -/
def rSumL (xs zs : List V) (H : Hp) (Q : VK) : Prop := ∃ (l d : Addr) (rs : List Addr) (ls : List (List V)), xs = [.ref l] ∧ zs = [.ref d] ∧ H l = some (.lst (rs.map V.ref)) ∧ H d = some (.lst []) ∧ rs.length = ls.length ∧
  (∀ (i : Nat) (h : i < rs.length) (h' : i < ls.length), H rs[i] = some (.lst ls[i])) ∧ ls.flatten.length ≤ sizeLine ∧
  ∀ (p : Addr) (H' : Hp), (∀ b o, H b = some o → H' b = some o) → H' p = some (.lst ls.flatten) → (p = d ∨ H p = none) → Q (.ref p) H'
theorem join_vals {ls : List (List V)} {f : Nat → Array Value} (h : ∀ (i : Nat) (hi : i < ls.length), Vals ls[i] (f i).toList) : ∀ (k : Nat) (xs : List V) (acc : Array Value), k ≤ ls.length → Vals xs acc.toList →
    Vals (xs ++ (ls.drop (ls.length - k)).flatten) (joinFrom f ls.length k acc).toList
  | 0, xs, acc, _, r => by
    rw [Nat.sub_zero, List.drop_length]
    show Vals (xs ++ []) acc.toList
    rw [List.append_nil]
    exact r
  | k + 1, xs, acc, hk, r => by
    have lt : ls.length - (k + 1) < ls.length := by omega
    have e : ls.drop (ls.length - (k + 1)) = ls[ls.length - (k + 1)] :: ls.drop (ls.length - k) := by
      rw [List.drop_eq_getElem_cons lt]
      congr 2
      omega
    rw [e, List.flatten_cons, ← List.append_assoc]
    show Vals _ (joinFrom f ls.length k (acc ++ f (ls.length - (k + 1)))).toList
    refine join_vals h k _ _ (by omega) ?_
    rw [Array.toList_append]
    exact r.append (h _ lt)
theorem cr_sumL (calm : X.calm = true) : CallRK X (.builtin "sum") ["start"] rSumL := by
  intro pins s σ H xs zs us ws Q I r1 r2 h
  obtain ⟨l, d, rs, ls, rfl, rfl, el, ed, len, at_, lim, q⟩ := h
  obtain ⟨u, rfl, ru⟩ := r1.one
  obtain ⟨v, rfl, rv⟩ := r2.one
  obtain rfl : u = Value.ref l := ru
  obtain rfl : v = Value.ref d := rv
  obtain ⟨_, its, nl, vl, hl⟩ := I.hok l _ el
  obtain ⟨_, itd, nd, vd, hd⟩ := I.hok d _ ed
  cases vd
  have lits : its.length = ls.length := by
    rw [← vl.length, List.length_map, len]
  have each : ∀ i, i < ls.length → ∃ a : Array Value, ∃ hi : i < ls.length, LstAt s.heap (rs.getD i 0) a ∧ Vals ls[i] a.toList := fun i hi => by
    have hr : i < rs.length := by omega
    obtain ⟨_, it, n, vi, hi2⟩ := I.hok _ _ (at_ i hr hi)
    refine ⟨it.toArray, hi, ⟨n, ?_⟩, vi⟩
    rw [List.getD_eq_getElem?_getD, List.getElem?_eq_getElem hr]
    exact hi2
  let f : Nat → Array Value := fun i => if hi : i < ls.length then Classical.choose (each i hi) else #[]
  have fi : ∀ (i : Nat) (hi : i < ls.length), LstAt s.heap (rs.getD i 0) (f i) ∧ Vals ls[i] (f i).toList := fun i hi => by
    obtain ⟨_, a, b⟩ := Classical.choose_spec (each i hi)
    show LstAt s.heap (rs.getD i 0) (dite _ _ _) ∧ Vals ls[i] (dite _ _ _ : Array Value).toList
    rw [dif_pos hi]
    exact ⟨a, b⟩
  have jv := join_vals (fun i hi => (fi i hi).2) ls.length [] #[] (Nat.le_refl _) .nil
  rw [Nat.sub_self, List.drop_zero, List.nil_append] at jv
  have sz : its.toArray.size = ls.length := by rw [List.size_toArray, lits]
  refine call_sum_lists (as := fun i => rs.getD i 0) (its := f) (I.ok.hd calm) ⟨_, hl, rfl, _, rfl⟩ (fun i v hv => ?_) (fun j hj => (fi j (by omega)).1) ⟨_, hd⟩ ?_ fun h' tk T kp lT fr => ?_
  · have hv : its[i]? = some v := by simpa using hv
    have hi : i < its.length := (List.getElem?_eq_some_iff.mp hv).1
    have hr : i < rs.length := by omega
    obtain ⟨u, hu, ru⟩ := vl.get (i := i) (x := V.ref rs[i]) (by rw [List.getElem?_map, List.getElem?_eq_getElem hr]; rfl)
    rw [hu] at hv
    have ev : v = u := (Option.some.inj hv).symm
    rw [ev]
    show u = Value.ref (rs.getD i 0)
    rw [List.getD_eq_getElem?_getD, List.getElem?_eq_getElem hr]
    exact ru
  · rw [sz, ← Array.length_toList, ← jv.length]
    exact lim
  · rw [sz] at lT
    obtain ⟨c, eT⟩ := lT
    rcases fr with rfl | ge
    · have z : s.heap.get? T = some _ := hd
      have eT2 := kp _ _ hd
      rw [eT] at eT2
      have en : (joinFrom f ls.length ls.length #[]) = #[] := by
        injection eT2 with eT2
        injection eT2 with _ _ eT2 _
        injection eT2
      rw [en] at jv
      have fe : ls.flatten = [] := by
        cases hf : ls.flatten with
        | nil => rfl
        | cons => rw [hf] at jv; cases jv
      exact ⟨.ref T, H, I.kept kp, rfl, q T H (fun _ _ e => e) (by rw [fe]; exact ed) (.inl rfl)⟩
    · have nT : H T = none := I.hok.fresh ge
      refine ⟨.ref T, upd H T (.lst ls.flatten), I.laid kp ge ⟨lim, (joinFrom f ls.length ls.length #[]).toList, c, jv, by rw [Array.toArray_toList]; exact eT⟩, rfl, q T _ (fun b o e => ?_) upd_same (.inr nT)⟩
      rw [upd_ne (fun z => by rw [z, nT] at e; cases e)]
      exact e
end
end Rf
/-! Rf16: a def that makes a def, and tells an object made of the lists that this tells in a comprehension, put together. -/
namespace Rf
open PySem PySem.Spec PyProof.Rows L2 LamX NdefX
/-- the call of the def that was made here: o and oc are what stands at its object and its code object -/
def tCallF (f c' : Addr) (o oc : HO) (i : Nat) (sp : Sp) (t : TA) : TE := fun σ H Q => σ[i]? = some (some (.ref f)) ∧ H f = some o ∧ t σ H fun vs H1 => H1 f = some o ∧ H1 c' = some oc ∧ sp vs H1 Q (fun _ _ _ => False)
section
variable {Y : Cx} {F : NF} {f : Addr} {k j i : Nat} {ps fr : List Str} {ws : List (Option V)} {sp : List (Option V) → Sp} {e : Expr} {es : List Expr} {t : TA} {x : Str} {p pos : Pos}
theorem pe_callF (Fn : NOk Y.prog Y.w Y.K Y.mg Y.base (L2.CX Y.prog Y.w) k f F ps fr sp) (hr : Room j Y.A) (hk : k ≤ j) (hC : ∀ pins τ H s, Inv Y pins τ H s → CellsAt F.cl fr ws s.heap H) (hN : Y.N[i]? = some x) (hv : Vis Y.env.scope x) (ha : PA Y (e :: es) t)
    (hd : (x == ("__debug__" : Str)) = false) (hcd : (x == ("__classdict__" : Str)) = false) (he : starEach (e :: es) Y.env = (false, eval e Y.env) :: starEach es Y.env) (hpl : (backTo pos (starEach es Y.env)).any (·.1) = false) :
    PE Y (.Call (.Name x p) (e :: es) [] pos) (tCallF f F.c (FnO f F) (CodeO F.c F.qual) i (sp ws) t) := by
  refine ⟨fun pins s σ H Q I h => ?_⟩
  obtain ⟨hs, hf, ht⟩ := h
  refine wpAny_Call_Name_kw (thn ((pe_var (pos := p) hN hv hd hcd).run pins s σ H (fun v G => v = .ref f ∧ G = H) I ⟨.ref f, hs, rfl, rfl⟩) fun u s1 q1 => ?_)
  obtain ⟨v, G, I1, r1, rfl, rfl⟩ := q1
  obtain rfl : u = Value.ref f := r1
  refine PySem.W.callWith_F (first := []) (fnAt_of I1 hf) (thn (ha.run pos pins s1 σ _ _ I1 ht) fun us s2 q2 => ?_) he hpl
  obtain ⟨vs, G2, I2, rv, f2, c2, sq⟩ := q2
  refine ⟨fnAt_of I2 f2, wpAny_call (codeAny_mono (Fn.run Y.A Y.stack s2 G2 us vs ws Q _ (hr.mono hk) I2.env0 f2 c2 (hC _ _ _ _ I2) rv sq) fun r s3 back => ?_)⟩
  match r, back with
  | .error e, back => exact passF pins σ G2 s2 e s3 I2 back
  | .ok (.ret w), back => exact I2.after back
  | .ok .next, back => exact back.elim
  | .ok .brk, back => exact back.elim
  | .ok .cont, back => exact back.elim
end
/-- the cells of a def made here, in a block that began at t -/
theorem cells_blk {X : Cx} {pins : List (Addr × Obj)} {σ : L2.St} {G : Hp} {t : Shared} {cl : List (Str × Addr)} {fr : List Str} {js : List Nat} {scope : Scope} {fp : List Addr} (I : Inv X pins σ G t) (fpo : ∀ b ∈ fp, FpOk X pins G b) (all : ∀ x, X.fn x = true) (stk : X.stack = X.env :: X.outer) (frm : X.env.frame = some X.env.locals)
    (cp : Caps X cl fr js) (q : List (Addr × Obj)) (τ : L2.St) (H : Hp) (s : Shared) (J : Inv (Cb X scope t G fp) q τ H s) : CellsAt cl fr (js.map (slotAt σ)) s.heap H := by
  refine CellsAt.later (X := Cb X scope t G fp) (cells_of I cp) (fun y c e z => ?_) (fun y c e z => ?_) J
  · have e2 := cp.sub y c e
    have z : c ∈ frs X.stack := z
    rw [stk] at z
    have z2 : c = X.env.locals ∨ c ∈ frs X.outer := by
      unfold frs at z ⊢
      rw [List.filterMap_cons, frm] at z
      exact List.mem_cons.mp z
    rcases z2 with z2 | z2
    · exact I.cne y c e2 z2
    · obtain ⟨_, o, ho, _⟩ := I.ok.funs.mem z2
      exact absurd (Nat.lt_of_lt_of_le (Heap.lt_size ho) (I.ok.cab y c (all y) e2)) (Nat.lt_irrefl _)
  · exact (fpo c z).2.2.2.2.1 y c (cp.sub y c e) rfl
/-- a class called, its arguments any expressions -/
theorem make_raw {X : Cx} {Γ : Gam} {n : Nms} {k : Nat} {N : List Str} {sc st : Scope} {W : WX} (hX : Cok X Γ n k N sc st W) {i : Nat} {x : Str} {q p : Pos} {es : List Expr} {t : TA} (h1 : n.cl[i]? = some x) (h2 : okName sc x [.globalImplicit] = true) (ha : PA X es t) (hs : ∀ p, (backTo p (starEach es X.env)).any (·.1) = false) (m : Nat) (hm : m = es.length) :
    PE X (.Call (.Name x q) es [] p) (gMake Γ W i m t) := by
  obtain ⟨⟨C, e⟩, he, hmem⟩ := lk hX.gam.clN h1
  obtain ⟨F, hk, M, hg⟩ := hX.gam.cl x C e hmem
  refine ⟨fun pins s σ H Q I h => ?_⟩
  unfold gMake at h
  rw [he] at h
  refine wpAny_Call_Name_kw (ld_glob I (gl_of hX h2) hg ?_ (okName_db h2))
  refine PySem.W.callWith_of (by show ((backTo p (starEach es X.env)).any (·.1) || false) = false; rw [hs]; rfl) (PySem.W.keeps_K M.kp) (ev_args (hs p) ?_)
  refine thn (ha.run p pins s σ H _ I h) fun us s1 q1 => ?_
  obtain ⟨vs, H1, I1, rv, q⟩ := q1
  exact ⟨I1.kIn, mk_at (E := fun c d H' => W c d σ H') M F.ok (hX.room.mono hk) (F.bd _) (dflt_ok F _) (passAt hX.tk σ) I1 rv q⟩
/-! ### the text -/
structure PutD where
  nm : Str
  nargs : Arguments
  nb : MSs
  nsc : Scope
  nN : List Str
  nps : List Str
  nfr : List Str
  nn : Nms
  npos : Pos
  i : Nat
  js : List Nat
  ci : Nat
  cls : Str
  cq : Pos
  a : ME
  sq : Pos
  e1 : ME
  es : MEs
  pq : Pos
  pp : Pos
  tg : MT
  it : MI
  own : List (Str × Nat)
  scope : Scope
  lp : Pos
  lpos : Pos
  kp : Pos
  sp : Pos
  p : Pos
  rp : Pos
def PutD.nd (d : PutD) : Stmt := .FunctionDef d.nm d.nargs (eSs d.nb) [] none [] d.nsc none d.nm d.npos
def PutD.elt (d : PutD) : Expr := .Call (.Name d.nm d.pq) (eE d.e1 :: eEs d.es) [] d.pp
def PutD.lc (d : PutD) : Expr := .ListComp d.elt [⟨eT d.tg, eI d.it, [], 0⟩] d.scope d.lp
def PutD.sm (d : PutD) : Expr := .Call (.Name "sum" d.sq) [d.lc] [⟨some "start", eE (.lst .nil d.lpos), d.kp⟩] d.sp
def PutD.ret (d : PutD) : Stmt := .Return (some (.Call (.Name d.cls d.cq) [eE d.a, d.sm] [] d.p)) d.rp
/-- what is looked at in it -/
def PutD.ok (d : PutD) (N : List Str) (n : Nms) (sc : Scope) : Bool :=
  decide (N[d.i]? = some d.nm) && okName sc d.nm [.local, .cell] && (d.nsc.names.all fun y => !decide (y.2 = .free) || decide (sc.names.lookup y.1 = some .cell) || decide (sc.names.lookup y.1 = some .free)) && d.nargs.defaults.isEmpty && d.nargs.kw_defaults.isEmpty &&
  nscB d.nN d.nps d.nfr d.nsc && (d.nfr.all fun y => decide ((y, NameKind.free) ∈ d.nsc.names)) && decide (d.js.map (fun j => N[j]?) = d.nfr.map some) && wSs d.nN d.nn d.nb d.nsc && d.nn.lq.isNone && !d.nn.gd && decide (n.cl[d.ci]? = some d.cls) && okName sc d.cls [.globalImplicit] && wE N n d.a sc && okBlt n sc "sum" &&
  wI N n d.it sc && (match d.it with | .val _ => true | .rng1 .. => true | .rng2 .. => true | _ => isTupT d.tg) && blkC N sc d.scope d.own && wT N n d.tg (relS d.scope sc) d.scope && wE N n d.e1 (relS d.scope sc) && wEs N n d.es (relS d.scope sc) && okName (relS d.scope sc) d.nm [.local, .cell, .free]
abbrev noW : WX := fun _ _ _ _ => False
/-- what it does, behind what stands ahead of the def -/
def tPut (Γ : Gam) (K : Frag) (W : WX) (T : List (Addr × Str)) (d : PutD) (spn : List (Option V) → Sp) : TS := fun D σ H => LamX.Tabs T H ∧ ∀ (f c' : Addr) (o oc : HO) (H1 : Hp), ExtN H H1 → LamX.Tabs T H1 → H f = none → H1 f = some o → H1 c' = some oc → (∀ ps, o ≠ .tbl ps) → (∀ ps, oc ≠ .tbl ps) →
  gMake Γ W d.ci 2 (tCons (dE Γ K d.a W).1 (tCons (tCKw rSumL (tCons (fun σ H Q => tLc (dI Γ K d.it W) (dT Γ K d.tg noW) tYes (tCallF f c' o oc d.i (spn (d.js.map (slotAt σ))) (tCons (dE Γ K d.e1 noW).1 (tAs (dEs Γ K d.es noW)))) (d.own.map (·.2)) σ H Q) tNil) (tCons (dE Γ K (.lst .nil d.lpos) W).1 tNil)) tNil)) (σ.set d.i (some (.ref f))) H1 D.rt
section
variable {X : Cx} {Γ : Gam} {n : Nms} {k : Nat} {N : List Str} {sc : Scope} {W : WX} {d : PutD} {T : List (Addr × Str)} {c tb : Addr} {qual : Str} {kn : Nat} {spn : List (Option V) → Sp}
/-- the def as it is made -/
abbrev PutD.nf (d : PutD) (qual : Str) (cl : List (Str × Addr)) (c' : Addr) : NF := ⟨d.nm, qual ++ d.nm, d.nargs, eSs d.nb, d.nsc, cl, c'⟩
theorem put_tail (hX : CokS X Γ n k N sc W) (all : ∀ x, X.fn x = true) (hd : d.ok N n sc = true) (hq : X.env.qual = qual) (hcode : X.env.code = .ref c) (TB : TabB X.base X.mg c tb) (hin : (tb, qual ++ d.nm) ∈ T) (hu : ∀ p ∈ T, p.1 = tb → p.2 = qual ++ d.nm)
    (ann : ∀ env, annTrees d.nargs none env = []) (Fn : ∀ (cl : List (Str × Addr)) (f c' : Addr), NOk X.prog X.w X.K X.mg X.base (L2.CX X.prog X.w) (kn + 1) f (d.nf qual cl c') d.nps d.nfr spn) (hk : kn + 1 ≤ k) :
    PSs X [d.nd, d.ret] (tPut Γ X.K W T d spn) := by
  subst hq
  unfold PutD.ok at hd
  simp only [Bool.and_eq_true, decide_eq_true_eq, Bool.not_eq_true'] at hd
  obtain ⟨⟨⟨⟨⟨⟨⟨⟨⟨⟨⟨⟨⟨⟨⟨⟨⟨⟨⟨⟨⟨h1, h2⟩, h3⟩, h4⟩, h5⟩, h6⟩, h7⟩, h8⟩, h9⟩, h10⟩, h11⟩, h12⟩, h13⟩, h14⟩, h15⟩, h16⟩, h17⟩, h18⟩, h19⟩, h20⟩, h21⟩, h22⟩ := hd
  have hN : X.N.Nodup := by rw [hX.eN]; exact hX.nd
  have hi : X.N[d.i]? = some d.nm := by rw [hX.eN]; exact h1
  obtain ⟨q2, hq2, e2⟩ := okName_ks h2
  have loc : L2.Loc sc d.nm := by
    simp only [List.mem_cons, List.not_mem_nil, or_false] at hq2
    rcases hq2 with rfl | rfl
    · exact .inl e2
    · exact .inr e2
  have free : ∀ y ∈ d.nsc.names, y.2 = .free → X.env.scope.names.lookup y.1 = some .cell ∨ X.env.scope.names.lookup y.1 = some .free := fun y hy e => by
    have q := List.all_eq_true.mp h3 y hy
    simp only [Bool.or_eq_true, Bool.not_eq_true', decide_eq_false_iff_not, decide_eq_true_eq] at q
    rw [hX.eSc]
    rcases q with (q | q) | q
    · exact absurd e q
    · exact .inl q
    · exact .inr q
  have nd := ps_ndef (X := X) (T := T.map fun p => (p.1, fun _ _ => p.2)) (nm := fun _ _ => X.env.qual ++ d.nm) (body := eSs d.nb) (pos := d.npos) TB hcode (List.mem_map.mpr ⟨_, hin, rfl⟩) rfl
    (fun p hp e => by
      obtain ⟨z, hz, rfl⟩ := List.mem_map.mp hp
      funext a b
      exact hu z hz e) free (List.isEmpty_iff.mp h4) (List.isEmpty_iff.mp h5) (ann _) hN hi (by rw [hX.eSc]; exact loc) (.inl (all _))
  have lcP : ∀ f c', PE X d.lc (fun σ H Q => tLc (dI Γ X.K d.it W) (dT Γ X.K d.tg noW) tYes (tCallF f c' (FnO f (d.nf X.env.qual (cloFrom X.env.cells d.nsc.names []) c')) (CodeO c' (X.env.qual ++ d.nm)) d.i (spn (d.js.map (slotAt σ))) (tCons (dE Γ X.K d.e1 noW).1 (tAs (dEs Γ X.K d.es noW)))) (d.own.map (·.2)) σ H Q) := fun f c' =>
    ⟨fun pins s σ H Q I h => by
      refine comp_known hX.calm hN I (sI Γ N d.it hX.toCok h16 d.tg h17) (blkOk_by (by rw [hX.eN, hX.eSc]; exact h18)) (fun t G fp => sT Γ N d.tg (hX.toCok.blk t G _ _ fp) h19) (fun t G fp I' fpo => ?_) (fun x => nofoldI d.it _ x) h
      have cok := hX.toCok.blk (scope := d.scope) t G t.heap.objs.size (cellsFrom (t.heap.objs.size + 1) d.scope.names (cloFrom X.env.cells d.scope.names [])) fp
      have cp : Caps X (cloFrom X.env.cells d.nsc.names []) d.nfr d.js := Caps.made I'.ok free (fun y hy => by have q := List.all_eq_true.mp h7 y hy; simpa using q) (by rw [hX.eN]; exact h8)
      exact pe_callF (Y := Cb X d.scope t G fp) (F := d.nf X.env.qual (cloFrom X.env.cells d.nsc.names []) c') (Fn _ f c') (show Room k X.A from hX.room) hk (fun q τ H s J => cells_blk I' fpo all hX.stk hX.frm cp q τ H s J) (by show X.N[d.i]? = _; exact hi) (vis_of cok h22)
        (pa_cons (sE Γ N d.e1 cok h20).1 (sEs Γ N d.es cok h21).pa (star_e d.e1 _ _)) (okName_db h22) (okName_cd h22) (star_e d.e1 _ _) (plain_es d.es _ _)⟩
  have smP : ∀ f c', PE X d.sm (tCKw rSumL (tCons (fun σ H Q => tLc (dI Γ X.K d.it W) (dT Γ X.K d.tg noW) tYes (tCallF f c' (FnO f (d.nf X.env.qual (cloFrom X.env.cells d.nsc.names []) c')) (CodeO c' (X.env.qual ++ d.nm)) d.i (spn (d.js.map (slotAt σ))) (tCons (dE Γ X.K d.e1 noW).1 (tAs (dEs Γ X.K d.es noW)))) (d.own.map (·.2)) σ H Q) tNil) (tCons (dE Γ X.K (.lst .nil d.lpos) W).1 tNil)) := fun f c' => by
    obtain ⟨hg, hm, hn, hdb⟩ := blt_of hX.toCok h15
    have em := sE Γ N (.lst .nil d.lpos) hX.toCok (by rfl)
    have hl : LOk X (.cons (.lst .nil d.lpos) .nil) [dE Γ X.K (.lst .nil d.lpos) W] := .cons em.1 em.2 .nil
    have hkw : PK X [⟨some "start", eE (.lst .nil d.lpos), d.kp⟩] (tCons (dE Γ X.K (.lst .nil d.lpos) W).1 tNil) := LOk.pk (ks := [("start", d.kp)]) hl rfl
    exact pe_callBK (cr_sumL hX.calm) hg hm (by decide +kernel) (pa_cons (lcP f c') pa_nil rfl) hkw hn hdb rfl rfl
      (kw_some d.sp X.env (.cons (.lst .nil d.lpos) .nil) [("start", d.kp)]) (kw_none d.sp X.env (.cons (.lst .nil d.lpos) .nil) [("start", d.kp)]) (kw_names d.sp X.env (.cons (.lst .nil d.lpos) .nil) [("start", d.kp)] rfl)
  have rtP := ps_ret (pos := d.rp) (PE.orx fun f => PE.orx fun c' => make_raw (q := d.cq) (p := d.p) hX.toCok (i := d.ci) h12 h13 (pa_cons (sE Γ N d.a hX.toCok h14).1 (pa_cons (smP f c') pa_nil rfl) (star_e d.a _ _)) (fun p => back_any _ (by rw [star_e]; rfl)) 2 rfl)
  refine ⟨fun pins s σ H D I h => (pss_cons nd (pss_one rtP)).run pins s σ H D I ?_⟩
  obtain ⟨hT, h⟩ := h
  refine ⟨fun p hp => ?_, fun f c' H1 eN T1 f0 f1 c1 => ⟨f, c', ?_⟩⟩
  · obtain ⟨z, hz, rfl⟩ := List.mem_map.mp hp
    exact hT z hz
  · exact h f c' _ _ H1 eN (fun z hz => T1 _ (List.mem_map.mpr ⟨z, hz, rfl⟩)) f0 f1 c1 (fun ps => fnO_ne ps) (fun ps => codeO_ne ps)
end
/-! ### the whole def -/
/-- statements, and then what tr tells -/
def seqS (Γ : Gam) (K : Frag) (W : WX) (tr : TS) : MSs → TS
  | .nil => tr
  | .cons s r => tSeq (dS Γ K s W) (seqS Γ K W tr r)
theorem seq_ok (Γ : Gam) (N : List Str) {n : Nms} {X : Cx} {k : Nat} {sc : Scope} {W : WX} (hX : CokS X Γ n k N sc W) {rest : List Stmt} {tr : TS} (hr : PSs X rest tr) : ∀ m : MSs, wSs N n m sc = true → PSs X (eSs m ++ rest) (seqS Γ X.K W tr m)
  | .nil, _ => hr
  | .cons s r, h => by
    unfold wSs at h
    rw [Bool.and_eq_true] at h
    exact pss_cons (sS Γ N s hX h.1) (seq_ok Γ N hX hr r h.2)
section
variable {P : Program} {w : World} {K : Frag} {mg : Str → Option Value} {base : Heap} {Γ Γn : Gam} {n nn : Nms} {k kn : Nat} {N ps fr : List Str} {sp : Sp}
theorem cok_n {F : NF} {f : Addr} {A : Around} {outer : List Env} {s : Shared} {H : Hp} {E : XK} (G : GamOk Γ n k P w K mg base) (S : NScope N ps fr F.scope) (hr : Room k (A.deeper (envF F f s.heap.objs.size))) (hq : n.lq = none) (h0 : n.gd = false) :
    CokS (ncx (L2.CX P w) P w K mg base N F f A outer s H E) Γ n k N F.scope (fun c d _ H => E c d H) where
  eN := rfl
  nd := S.nd
  eSc := rfl
  calm := rfl
  room := hr
  gam := G
  tk := takes_of rfl rfl rfl rfl
  lcl := fun x hx => ⟨hx, .inr (by
    rcases hx with h | h
    · exact h
    · exact absurd rfl (S.nocell _ (PySem.mem_of_lookup h)))⟩
  pas := passes_of rfl
  lm := fun q e => by rw [hq] at e; cases e
  gd := fun z => by rw [h0] at z; cases z
  stk := rfl
  frm := rfl
  exn := rfl
  pasAt := L2H.passesAt_of rfl
theorem nok_put {F : NF} {f : Addr} {m : MSs} {spn : List (Option V) → Sp} (G : GamOk Γ n k P w K mg base) (S : NScope N ps fr F.scope) (eb : F.body = eSs m) (wf : wSs N n m F.scope = true) (hq : n.lq = none) (h0 : n.gd = false)
    (hb : ∀ (doc pm ctv : Value) (us : List Value), us.length = ps.length → bindArgs (F.fd doc pm ctv) ⟨us, []⟩ = pure (ps.zip us)) (len : ∀ ws vs H Q E, spn ws vs H Q E → vs.length = ps.length)
    (h : ∀ (vs : List V) (ws : List (Option V)) (H : Hp) (Q : VK) (E : XK), ws.length = fr.length → spn ws vs H Q E → dSs Γ K m (fun c d _ H => E c d H) { nx := fun _ H' => Q .non H', rt := Q } (startF N vs ws) H) :
    NOk P w K mg base (L2.CX P w) (k + 1) f F ps fr spn :=
  nok_of S hb len fun A outer s H vs ws Q E hr _ _ hl hsp => ⟨_, by
    rw [eb]
    exact sSs Γ N m (cok_n (f := f) (A := A) (outer := outer) (s := s) (H := H) (E := E) G S hr hq h0) wf, h vs ws H Q E hl hsp⟩
/-- a def's text: its names, its body's front, the rest -/
structure TxtP (N ps : List Str) (n : Nms) (st : Stmt) (m : MSs) (d : PutD) : Prop where
  sc : FnScope N ps (defScope st)
  eq : eSs m ++ [d.nd, d.ret] = defBody st
  wf : wSs N n m (defScope st) = true
  ok : d.ok N n (defScope st) = true
  ann : ∀ env, annTrees d.nargs none env = []
  nb : ∀ (qual : Str) (cl : List (Str × Addr)) (c' : Addr) (doc pm ctv : Value) (us : List Value), us.length = d.nps.length → bindArgs ((d.nf qual cl c').fd doc pm ctv) ⟨us, []⟩ = pure (d.nps.zip us)
theorem def_okP {x qual : Str} {st : Stmt} {m : MSs} {r : FD} {dvs : List V} {d : PutD} {spn : List (Option V) → Sp} {p : He.Defn} (F : FunD K x qual (defArgs st) (defBody st) (defScope st) dvs [] r.ad r.fd) (b : Binds K r.fd ps []) (T : TxtP N ps n st m d)
    (G : GamOk Γ n k P w K mg base) (Gn : GamOk Γn d.nn kn P w K mg base) (hk : kn + 1 ≤ k) (len : ∀ vs H Q E, sp vs H Q E → vs.length = ps.length) (lenn : ∀ ws vs H Q E, spn ws vs H Q E → vs.length = d.nps.length)
    (h : ∀ (vs : List V) (H : Hp) (Q : VK) (E : XK), sp vs H Q E → seqS Γ K (fun c d _ H => E c d H) (tPut Γ K (fun c d _ H => E c d H) Γ.tb d spn) m { nx := fun _ H' => Q .non H', rt := Q } (start N vs) H)
    (hn : ∀ (vs : List V) (ws : List (Option V)) (H : Hp) (Q : VK) (E : XK), ws.length = d.nfr.length → spn ws vs H Q E → dSs Γn K d.nb (fun c d _ H => E c d H) { nx := fun _ H' => Q .non H', rt := Q } (startF d.nN vs ws) H)
    (hq : n.lq = none) (hp : He.fAd K p = r.ad) (TB : LamX.TabB base mg (He.cT K p).1 (He.cT K p).2)
    (hin : ((He.cT K p).2, qual ++ ".<locals>." ++ d.nm) ∈ Γ.tb) (hu : ∀ z ∈ Γ.tb, z.1 = (He.cT K p).2 → z.2 = qual ++ ".<locals>." ++ d.nm) (h0 : n.gd = false := by rfl) {kb : KB} (hkb : KbOk K r.fd ps kb := by intro q hq; cases hq) : FnOkE P w K mg base (en r ps sp (k + 1) kb) := by
  refine okE F hkb b ?_
  obtain ⟨oc, od, dV, kV, doc, pm, an, cdv, ct, osl, e, lk, hcd, _, _⟩ := F.ex
  obtain ⟨c, hc⟩ := He.codeIn_ref hcd
  have ec : He.codeOf K p = c := He.codeOf_eq (fd := r.fd) (by rw [hp]; exact lk) (by rw [e]; exact hc)
  rw [e] at lk ⊢
  have okd := T.ok
  unfold PutD.ok at okd
  simp only [Bool.and_eq_true, decide_eq_true_eq, Bool.not_eq_true'] at okd
  obtain ⟨⟨⟨⟨⟨⟨⟨⟨⟨⟨⟨⟨⟨⟨⟨⟨⟨⟨⟨⟨⟨h1, h2⟩, h3⟩, h4⟩, h5⟩, h6⟩, h7⟩, h8⟩, h9⟩, h10⟩, h11⟩, h12⟩, h13⟩, h14⟩, h15⟩, h16⟩, h17⟩, h18⟩, h19⟩, h20⟩, h21⟩, h22⟩ := okd
  refine fn_of lk hcd T.sc len fun A outer s H vs Q E hr hsp => ⟨_, ?_, h vs H Q E hsp⟩
  have hX := cok_def (f := r.ad) (cd := cdv) (A := A) (outer := outer) (s := s) (H := H) (E := E) (qual := qual) G T.sc hr (fun q e => by rw [hq] at e; cases e) fun z => by rw [h0] at z; cases z
  have q := seq_ok Γ N hX (put_tail (T := Γ.tb) (c := c) (tb := (He.cT K p).2) (qual := qual ++ ".<locals>.") (kn := kn) (spn := spn) hX (fun _ => rfl) T.ok rfl hc (by rw [← ec]; exact TB) hin hu T.ann
    (fun cl f c' => nok_put (F := d.nf (qual ++ ".<locals>.") cl c') Gn (nscope_by h6) rfl h9 (by simpa using h10) h11 (T.nb _ cl c') lenn hn) hk) m T.wf
  rw [T.eq] at q
  exact q
end
end Rf
namespace K08
open PySem PySem.Spec PyProof.Rows L2 Rf
abbrev N_is_whole : List Str := ["thing"]
/-- is_whole(thing): 0 thing -/
def n_is_whole : Nms := { fn := [], glo := ["int", "bool"], cl := [], blt := ["isinstance"], exc := [], lam := [], lq := none }
def m_is_whole : MSs :=
 .cons (.ret (.and (.cons (.blt .isinstance ⟨29, 11, 29, 21⟩ (.var 0 "thing" ⟨29, 22, 29, 27⟩) (.cons (.glo 0 "int" ⟨29, 29, 29, 32⟩) (.nil)) ⟨29, 11, 29, 33⟩) (.cons (.not (.blt .isinstance ⟨29, 43, 29, 53⟩ (.var 0 "thing" ⟨29, 54, 29, 59⟩) (.cons (.glo 1 "bool" ⟨29, 61, 29, 65⟩) (.nil)) ⟨29, 43, 29, 66⟩) ⟨29, 39, 29, 66⟩) (.nil))) ⟨29, 11, 29, 67⟩) ⟨29, 4, 29, 67⟩)
 (.nil)
theorem x_is_whole : Txt ["thing"] ["thing"] n_is_whole s_is_whole m_is_whole := ⟨⟨rfl, rfl, rfl, by decide +kernel, rfl, by decide +kernel, by decide +kernel⟩, by kernel_rfl, by decide +kernel⟩
abbrev N_is_prime : List Str := ["thing", "part"]
/-- is_prime(thing): 0 thing 1 part -/
def n_is_prime : Nms := { fn := ["is_whole"], glo := ["MOST_PRIME"], cl := [], blt := ["range"], exc := [], lam := [], lq := none }
def m_is_prime : MSs :=
 .cons (.ifs (.or (.cons (.not (.call 0 "is_whole" ⟨31, 11, 31, 19⟩ (.cons (.var 0 "thing" ⟨31, 20, 31, 25⟩) (.nil)) ⟨31, 11, 31, 26⟩) ⟨31, 7, 31, 26⟩) (.cons (.not (.cmp2 (.int 2 0 ⟨31, 34, 31, 35⟩) .LtE (.var 0 "thing" ⟨31, 39, 31, 44⟩) .LtE (.glo 0 "MOST_PRIME" ⟨31, 48, 31, 58⟩) ⟨31, 34, 31, 58⟩) ⟨31, 30, 31, 58⟩) (.nil))) ⟨31, 7, 31, 58⟩)
 (.cons (.ret (.bl false 0 ⟨32, 15, 32, 20⟩) ⟨32, 8, 32, 20⟩)
 (.nil))
 (.nil) ⟨31, 4, 32, 20⟩)
 (.cons (.ret (.cmp (.lc (.var 1 "part" ⟨33, 12, 33, 16⟩) (.name 1 "part" ⟨33, 21, 33, 25⟩) (.rng2 ⟨33, 29, 33, 34⟩ (.int 2 0 ⟨33, 35, 33, 36⟩) (.var 0 "thing" ⟨33, 38, 33, 43⟩) ⟨33, 29, 33, 44⟩) (.cons (.cmp (.bin (.var 0 "thing" ⟨33, 48, 33, 53⟩) .Mod (.var 1 "part" ⟨33, 56, 33, 60⟩) ⟨33, 48, 33, 60⟩) .Eq (.int 0 0 ⟨33, 64, 33, 65⟩) ⟨33, 48, 33, 65⟩) (.nil)) [("part", 1)] ⟨.function, [(".0", .local), ("part", .local), ("thing", .free)], false, false, []⟩ ⟨33, 11, 33, 66⟩) .Eq (.lst (.nil) ⟨33, 70, 33, 72⟩) ⟨33, 11, 33, 72⟩) ⟨33, 4, 33, 72⟩)
 (.nil))
theorem x_is_prime : Txt ["thing", "part"] ["thing"] n_is_prime s_is_prime m_is_prime := ⟨⟨rfl, rfl, rfl, by decide +kernel, rfl, by decide +kernel, by decide +kernel⟩, by kernel_rfl, by decide +kernel⟩
abbrev N_lowest : List Str := ["top", "bottom", "sign", "e", "one", "other"]
/-- lowest(top, bottom): 0 top 1 bottom 2 sign 3 e 4 one 5 other -/
def n_lowest : Nms := { fn := [], glo := [], cl := [], blt := ["ZeroDivisionError", "abs"], exc := ["NoNumber"], lam := [], lq := none }
def m_lowest : MSs :=
 .cons (.tdiv 2 "sign" ⟨36, 8, 36, 12⟩ (.var 1 "bottom" ⟨36, 15, 36, 21⟩) (.blt .abs ⟨36, 25, 36, 28⟩ (.var 1 "bottom" ⟨36, 29, 36, 35⟩) (.nil) ⟨36, 25, 36, 36⟩) ⟨36, 15, 36, 36⟩ ⟨36, 8, 36, 36⟩ ⟨37, 11, 37, 28⟩ 3 "e" 0 "NoNumber" ⟨38, 14, 38, 22⟩ "by nought" 0 ⟨38, 23, 38, 34⟩ ⟨38, 14, 38, 35⟩ ⟨38, 41, 38, 42⟩ ⟨38, 8, 38, 42⟩ ⟨37, 4, 38, 42⟩ ⟨35, 4, 38, 42⟩)
 (.cons (.par 4 "one" ⟨39, 4, 39, 7⟩ 5 "other" ⟨39, 9, 39, 14⟩ 0 ⟨39, 4, 39, 14⟩ (.blt .abs ⟨39, 18, 39, 21⟩ (.var 0 "top" ⟨39, 22, 39, 25⟩) (.nil) ⟨39, 18, 39, 26⟩) (.blt .abs ⟨39, 28, 39, 31⟩ (.var 1 "bottom" ⟨39, 32, 39, 38⟩) (.nil) ⟨39, 28, 39, 39⟩) 0 ⟨39, 17, 39, 40⟩ ⟨39, 4, 39, 40⟩)
 (.cons (.whl (.cmp (.var 5 "other" ⟨40, 10, 40, 15⟩) .NotEq (.int 0 0 ⟨40, 19, 40, 20⟩) ⟨40, 10, 40, 20⟩)
 (.cons (.par 4 "one" ⟨41, 8, 41, 11⟩ 5 "other" ⟨41, 13, 41, 18⟩ 0 ⟨41, 8, 41, 18⟩ (.var 5 "other" ⟨41, 22, 41, 27⟩) (.bin (.var 4 "one" ⟨41, 29, 41, 32⟩) .Mod (.var 5 "other" ⟨41, 35, 41, 40⟩) ⟨41, 29, 41, 40⟩) 0 ⟨41, 21, 41, 41⟩ ⟨41, 8, 41, 41⟩)
 (.nil)) ⟨40, 4, 41, 41⟩)
 (.cons (.ret (.tup (.cons (.bin (.bin (.var 2 "sign" ⟨42, 12, 42, 16⟩) .Mult (.var 0 "top" ⟨42, 19, 42, 22⟩) ⟨42, 12, 42, 22⟩) .FloorDiv (.var 4 "one" ⟨42, 26, 42, 29⟩) ⟨42, 12, 42, 29⟩) (.cons (.bin (.blt .abs ⟨42, 31, 42, 34⟩ (.var 1 "bottom" ⟨42, 35, 42, 41⟩) (.nil) ⟨42, 31, 42, 42⟩) .FloorDiv (.var 4 "one" ⟨42, 46, 42, 49⟩) ⟨42, 31, 42, 49⟩) (.nil))) 0 ⟨42, 11, 42, 50⟩) ⟨42, 4, 42, 50⟩)
 (.nil))))
theorem x_lowest : Txt ["top", "bottom", "sign", "e", "one", "other"] ["top", "bottom"] n_lowest s_lowest m_lowest := ⟨⟨rfl, rfl, rfl, by decide +kernel, rfl, by decide +kernel, by decide +kernel⟩, by kernel_rfl, by decide +kernel⟩
abbrev N_Field___init__ : List Str := ["self", "prime"]
/-- Field.__init__(self, prime): 0 self 1 prime -/
def n_Field___init__ : Nms := { fn := ["is_whole", "is_prime"], glo := [], cl := [], blt := [], exc := ["NoField"], lam := [], lq := none }
def m_Field___init__ : MSs :=
 .cons (.ifs (.or (.cons (.not (.call 0 "is_whole" ⟨46, 15, 46, 23⟩ (.cons (.var 1 "prime" ⟨46, 24, 46, 29⟩) (.nil)) ⟨46, 15, 46, 30⟩) ⟨46, 11, 46, 30⟩) (.cons (.and (.cons (.cmp (.var 1 "prime" ⟨46, 35, 46, 40⟩) .NotEq (.int 0 0 ⟨46, 44, 46, 45⟩) ⟨46, 35, 46, 45⟩) (.cons (.not (.call 1 "is_prime" ⟨46, 55, 46, 63⟩ (.cons (.var 1 "prime" ⟨46, 64, 46, 69⟩) (.nil)) ⟨46, 55, 46, 70⟩) ⟨46, 51, 46, 70⟩) (.nil))) ⟨46, 35, 46, 71⟩) (.nil))) ⟨46, 11, 46, 72⟩)
 (.cons (.rais 0 "NoField" ⟨47, 18, 47, 25⟩ "no prime of a field" 0 ⟨47, 26, 47, 47⟩ ⟨47, 18, 47, 48⟩ ⟨47, 12, 47, 48⟩)
 (.nil))
 (.nil) ⟨46, 8, 47, 48⟩)
 (.cons (.setA (.var 0 "self" ⟨48, 8, 48, 12⟩) "own_prime" ⟨48, 8, 48, 22⟩ (.var 1 "prime" ⟨48, 25, 48, 30⟩) ⟨48, 8, 48, 30⟩)
 (.nil))
theorem x_Field___init__ : Txt ["self", "prime"] ["self", "prime"] n_Field___init__ s_Field___init__ m_Field___init__ := ⟨⟨rfl, rfl, rfl, by decide +kernel, rfl, by decide +kernel, by decide +kernel⟩, by kernel_rfl, by decide +kernel⟩
abbrev N_Field___eq__ : List Str := ["self", "other"]
/-- Field.__eq__(self, other): 0 self 1 other -/
def n_Field___eq__ : Nms := { fn := [], glo := ["Field"], cl := [], blt := ["isinstance"], exc := [], lam := [], lq := none }
def m_Field___eq__ : MSs :=
 .cons (.ret (.and (.cons (.blt .isinstance ⟨51, 15, 51, 25⟩ (.var 1 "other" ⟨51, 26, 51, 31⟩) (.cons (.glo 0 "Field" ⟨51, 33, 51, 38⟩) (.nil)) ⟨51, 15, 51, 39⟩) (.cons (.cmp (.att (.var 0 "self" ⟨51, 44, 51, 48⟩) "own_prime" ⟨51, 44, 51, 58⟩) .Eq (.att (.var 1 "other" ⟨51, 62, 51, 67⟩) "own_prime" ⟨51, 62, 51, 77⟩) ⟨51, 44, 51, 77⟩) (.nil))) ⟨51, 15, 51, 77⟩) ⟨51, 8, 51, 77⟩)
 (.nil)
theorem x_Field___eq__ : Txt ["self", "other"] ["self", "other"] n_Field___eq__ s_Field___eq__ m_Field___eq__ := ⟨⟨rfl, rfl, rfl, by decide +kernel, rfl, by decide +kernel, by decide +kernel⟩, by kernel_rfl, by decide +kernel⟩
abbrev N_Field_made : List Str := ["self", "top", "bottom", "k"]
/-- Field.made(self, top, bottom): 0 self 1 top 2 bottom 3 k -/
def n_Field_made : Nms := { fn := ["is_whole", "lowest"], glo := [], cl := [], blt := ["range"], exc := ["NoNumber"], lam := [], lq := none }
def m_Field_made : MSs :=
 .cons (.ifs (.or (.cons (.not (.call 0 "is_whole" ⟨60, 15, 60, 23⟩ (.cons (.var 1 "top" ⟨60, 24, 60, 27⟩) (.nil)) ⟨60, 15, 60, 28⟩) ⟨60, 11, 60, 28⟩) (.cons (.not (.call 0 "is_whole" ⟨60, 36, 60, 44⟩ (.cons (.var 2 "bottom" ⟨60, 45, 60, 51⟩) (.nil)) ⟨60, 36, 60, 52⟩) ⟨60, 32, 60, 52⟩) (.nil))) ⟨60, 11, 60, 52⟩)
 (.cons (.rais 0 "NoNumber" ⟨61, 18, 61, 26⟩ "no whole numbers" 0 ⟨61, 27, 61, 45⟩ ⟨61, 18, 61, 46⟩ ⟨61, 12, 61, 46⟩)
 (.nil))
 (.nil) ⟨60, 8, 61, 46⟩)
 (.cons (.ifs (.cmp (.att (.var 0 "self" ⟨62, 11, 62, 15⟩) "own_prime" ⟨62, 11, 62, 25⟩) .Eq (.int 0 0 ⟨62, 29, 62, 30⟩) ⟨62, 11, 62, 30⟩)
 (.cons (.ret (.call 1 "lowest" ⟨63, 19, 63, 25⟩ (.cons (.var 1 "top" ⟨63, 26, 63, 29⟩) (.cons (.var 2 "bottom" ⟨63, 31, 63, 37⟩) (.nil))) ⟨63, 19, 63, 38⟩) ⟨63, 12, 63, 38⟩)
 (.nil))
 (.nil) ⟨62, 8, 63, 38⟩)
 (.cons (.aug 2 "bottom" ⟨64, 8, 64, 14⟩ .Mod (.att (.var 0 "self" ⟨64, 18, 64, 22⟩) "own_prime" ⟨64, 18, 64, 32⟩) ⟨64, 8, 64, 32⟩)
 (.cons (.ifs (.cmp (.var 2 "bottom" ⟨65, 11, 65, 17⟩) .Eq (.int 0 0 ⟨65, 21, 65, 22⟩) ⟨65, 11, 65, 22⟩)
 (.cons (.rais 0 "NoNumber" ⟨66, 18, 66, 26⟩ "by nought" 0 ⟨66, 27, 66, 38⟩ ⟨66, 18, 66, 39⟩ ⟨66, 12, 66, 39⟩)
 (.nil))
 (.nil) ⟨65, 8, 66, 39⟩)
 (.cons (.ifs (.cmp (.var 2 "bottom" ⟨67, 11, 67, 17⟩) .NotEq (.int 1 0 ⟨67, 21, 67, 22⟩) ⟨67, 11, 67, 22⟩)
 (.cons (.aug 1 "top" ⟨68, 12, 68, 15⟩ .Mult (.sub (.lc (.var 3 "k" ⟨68, 20, 68, 21⟩) (.name 3 "k" ⟨68, 26, 68, 27⟩) (.rng2 ⟨68, 31, 68, 36⟩ (.int 1 0 ⟨68, 37, 68, 38⟩) (.att (.var 0 "self" ⟨68, 40, 68, 44⟩) "own_prime" ⟨68, 40, 68, 54⟩) ⟨68, 31, 68, 55⟩) (.cons (.cmp (.bin (.bin (.var 2 "bottom" ⟨68, 59, 68, 65⟩) .Mult (.var 3 "k" ⟨68, 68, 68, 69⟩) ⟨68, 59, 68, 69⟩) .Mod (.att (.var 0 "self" ⟨68, 72, 68, 76⟩) "own_prime" ⟨68, 72, 68, 86⟩) ⟨68, 59, 68, 86⟩) .Eq (.int 1 0 ⟨68, 90, 68, 91⟩) ⟨68, 59, 68, 91⟩) (.nil)) [("k", 3)] ⟨.function, [(".0", .local), ("k", .local), ("bottom", .free), ("self", .free)], false, false, []⟩ ⟨68, 19, 68, 92⟩) (.int 0 0 ⟨68, 93, 68, 94⟩) ⟨68, 19, 68, 95⟩) ⟨68, 12, 68, 95⟩)
 (.nil))
 (.nil) ⟨67, 8, 68, 95⟩)
 (.cons (.ret (.tup (.cons (.bin (.var 1 "top" ⟨69, 16, 69, 19⟩) .Mod (.att (.var 0 "self" ⟨69, 22, 69, 26⟩) "own_prime" ⟨69, 22, 69, 36⟩) ⟨69, 16, 69, 36⟩) (.cons (.int 1 0 ⟨69, 38, 69, 39⟩) (.nil))) 0 ⟨69, 15, 69, 40⟩) ⟨69, 8, 69, 40⟩)
 (.nil))))))
theorem x_Field_made : Txt ["self", "top", "bottom", "k"] ["self", "top", "bottom"] n_Field_made s_Field_made m_Field_made := ⟨⟨rfl, rfl, rfl, by decide +kernel, rfl, by decide +kernel, by decide +kernel⟩, by kernel_rfl, by decide +kernel⟩
abbrev N_Field_plus : List Str := ["self", "one", "other"]
/-- Field.plus(self, one, other): 0 self 1 one 2 other -/
def n_Field_plus : Nms := { fn := [], glo := [], cl := [], blt := [], exc := [], lam := [], lq := none }
def m_Field_plus : MSs :=
 .cons (.ret (.own (.var 0 "self" ⟨72, 15, 72, 19⟩) "made" ⟨72, 15, 72, 24⟩ (.cons (.bin (.bin (.sub (.var 1 "one" ⟨72, 25, 72, 28⟩) (.int 0 0 ⟨72, 29, 72, 30⟩) ⟨72, 25, 72, 31⟩) .Mult (.sub (.var 2 "other" ⟨72, 34, 72, 39⟩) (.int 1 0 ⟨72, 40, 72, 41⟩) ⟨72, 34, 72, 42⟩) ⟨72, 25, 72, 42⟩) .Add (.bin (.sub (.var 2 "other" ⟨72, 45, 72, 50⟩) (.int 0 0 ⟨72, 51, 72, 52⟩) ⟨72, 45, 72, 53⟩) .Mult (.sub (.var 1 "one" ⟨72, 56, 72, 59⟩) (.int 1 0 ⟨72, 60, 72, 61⟩) ⟨72, 56, 72, 62⟩) ⟨72, 45, 72, 62⟩) ⟨72, 25, 72, 62⟩) (.cons (.bin (.sub (.var 1 "one" ⟨72, 64, 72, 67⟩) (.int 1 0 ⟨72, 68, 72, 69⟩) ⟨72, 64, 72, 70⟩) .Mult (.sub (.var 2 "other" ⟨72, 73, 72, 78⟩) (.int 1 0 ⟨72, 79, 72, 80⟩) ⟨72, 73, 72, 81⟩) ⟨72, 64, 72, 81⟩) (.nil))) ⟨72, 15, 72, 82⟩) ⟨72, 8, 72, 82⟩)
 (.nil)
theorem x_Field_plus : Txt ["self", "one", "other"] ["self", "one", "other"] n_Field_plus s_Field_plus m_Field_plus := ⟨⟨rfl, rfl, rfl, by decide +kernel, rfl, by decide +kernel, by decide +kernel⟩, by kernel_rfl, by decide +kernel⟩
abbrev N_Field_times : List Str := ["self", "one", "other"]
/-- Field.times(self, one, other): 0 self 1 one 2 other -/
def n_Field_times : Nms := { fn := [], glo := [], cl := [], blt := [], exc := [], lam := [], lq := none }
def m_Field_times : MSs :=
 .cons (.ret (.own (.var 0 "self" ⟨78, 15, 78, 19⟩) "made" ⟨78, 15, 78, 24⟩ (.cons (.bin (.sub (.var 1 "one" ⟨78, 25, 78, 28⟩) (.int 0 0 ⟨78, 29, 78, 30⟩) ⟨78, 25, 78, 31⟩) .Mult (.sub (.var 2 "other" ⟨78, 34, 78, 39⟩) (.int 0 0 ⟨78, 40, 78, 41⟩) ⟨78, 34, 78, 42⟩) ⟨78, 25, 78, 42⟩) (.cons (.bin (.sub (.var 1 "one" ⟨78, 44, 78, 47⟩) (.int 1 0 ⟨78, 48, 78, 49⟩) ⟨78, 44, 78, 50⟩) .Mult (.sub (.var 2 "other" ⟨78, 53, 78, 58⟩) (.int 1 0 ⟨78, 59, 78, 60⟩) ⟨78, 53, 78, 61⟩) ⟨78, 44, 78, 61⟩) (.nil))) ⟨78, 15, 78, 62⟩) ⟨78, 8, 78, 62⟩)
 (.nil)
theorem x_Field_times : Txt ["self", "one", "other"] ["self", "one", "other"] n_Field_times s_Field_times m_Field_times := ⟨⟨rfl, rfl, rfl, by decide +kernel, rfl, by decide +kernel, by decide +kernel⟩, by kernel_rfl, by decide +kernel⟩
abbrev N_Field_is_number : List Str := ["self", "thing"]
/-- Field.is_number(self, thing): 0 self 1 thing -/
def n_Field_is_number : Nms := { fn := ["is_whole", "lowest"], glo := ["tuple"], cl := [], blt := ["isinstance", "len"], exc := [], lam := [], lq := none }
def m_Field_is_number : MSs :=
 .cons (.ifs (.or (.cons (.not (.blt .isinstance ⟨84, 15, 84, 25⟩ (.var 1 "thing" ⟨84, 26, 84, 31⟩) (.cons (.glo 0 "tuple" ⟨84, 33, 84, 38⟩) (.nil)) ⟨84, 15, 84, 39⟩) ⟨84, 11, 84, 39⟩) (.cons (.cmp (.blt .len ⟨84, 43, 84, 46⟩ (.var 1 "thing" ⟨84, 47, 84, 52⟩) (.nil) ⟨84, 43, 84, 53⟩) .NotEq (.int 2 0 ⟨84, 57, 84, 58⟩) ⟨84, 43, 84, 58⟩) (.cons (.not (.call 0 "is_whole" ⟨84, 67, 84, 75⟩ (.cons (.sub (.var 1 "thing" ⟨84, 76, 84, 81⟩) (.int 0 0 ⟨84, 82, 84, 83⟩) ⟨84, 76, 84, 84⟩) (.nil)) ⟨84, 67, 84, 85⟩) ⟨84, 63, 84, 85⟩) (.cons (.not (.call 0 "is_whole" ⟨84, 95, 84, 103⟩ (.cons (.sub (.var 1 "thing" ⟨84, 104, 84, 109⟩) (.int 1 0 ⟨84, 110, 84, 111⟩) ⟨84, 104, 84, 112⟩) (.nil)) ⟨84, 95, 84, 113⟩) ⟨84, 91, 84, 113⟩) (.nil))))) ⟨84, 11, 84, 114⟩)
 (.cons (.ret (.bl false 0 ⟨85, 19, 85, 24⟩) ⟨85, 12, 85, 24⟩)
 (.nil))
 (.nil) ⟨84, 8, 85, 24⟩)
 (.cons (.ifs (.cmp (.att (.var 0 "self" ⟨86, 11, 86, 15⟩) "own_prime" ⟨86, 11, 86, 25⟩) .NotEq (.int 0 0 ⟨86, 29, 86, 30⟩) ⟨86, 11, 86, 30⟩)
 (.cons (.ret (.and (.cons (.cmp (.sub (.var 1 "thing" ⟨87, 19, 87, 24⟩) (.int 1 0 ⟨87, 25, 87, 26⟩) ⟨87, 19, 87, 27⟩) .Eq (.int 1 0 ⟨87, 31, 87, 32⟩) ⟨87, 19, 87, 32⟩) (.cons (.cmp2 (.int 0 0 ⟨87, 37, 87, 38⟩) .LtE (.sub (.var 1 "thing" ⟨87, 42, 87, 47⟩) (.int 0 0 ⟨87, 48, 87, 49⟩) ⟨87, 42, 87, 50⟩) .Lt (.att (.var 0 "self" ⟨87, 53, 87, 57⟩) "own_prime" ⟨87, 53, 87, 67⟩) ⟨87, 37, 87, 67⟩) (.nil))) ⟨87, 19, 87, 67⟩) ⟨87, 12, 87, 67⟩)
 (.nil))
 (.nil) ⟨86, 8, 87, 67⟩)
 (.cons (.ret (.and (.cons (.cmp (.sub (.var 1 "thing" ⟨88, 15, 88, 20⟩) (.int 1 0 ⟨88, 21, 88, 22⟩) ⟨88, 15, 88, 23⟩) .Gt (.int 0 0 ⟨88, 26, 88, 27⟩) ⟨88, 15, 88, 27⟩) (.cons (.cmp (.call 1 "lowest" ⟨88, 32, 88, 38⟩ (.cons (.sub (.var 1 "thing" ⟨88, 39, 88, 44⟩) (.int 0 0 ⟨88, 45, 88, 46⟩) ⟨88, 39, 88, 47⟩) (.cons (.sub (.var 1 "thing" ⟨88, 49, 88, 54⟩) (.int 1 0 ⟨88, 55, 88, 56⟩) ⟨88, 49, 88, 57⟩) (.nil))) ⟨88, 32, 88, 58⟩) .Eq (.var 1 "thing" ⟨88, 62, 88, 67⟩) ⟨88, 32, 88, 67⟩) (.nil))) ⟨88, 15, 88, 67⟩) ⟨88, 8, 88, 67⟩)
 (.nil)))
theorem x_Field_is_number : Txt ["self", "thing"] ["self", "thing"] n_Field_is_number s_Field_is_number m_Field_is_number := ⟨⟨rfl, rfl, rfl, by decide +kernel, rfl, by decide +kernel, by decide +kernel⟩, by kernel_rfl, by decide +kernel⟩
abbrev N_is_place : List Str := ["thing"]
/-- is_place(thing): 0 thing -/
def n_is_place : Nms := { fn := ["is_whole"], glo := ["MOST_PLACES"], cl := [], blt := [], exc := [], lam := [], lq := none }
def m_is_place : MSs :=
 .cons (.ret (.and (.cons (.call 0 "is_whole" ⟨92, 11, 92, 19⟩ (.cons (.var 0 "thing" ⟨92, 20, 92, 25⟩) (.nil)) ⟨92, 11, 92, 26⟩) (.cons (.cmp2 (.int 0 0 ⟨92, 31, 92, 32⟩) .LtE (.var 0 "thing" ⟨92, 36, 92, 41⟩) .Lt (.glo 0 "MOST_PLACES" ⟨92, 44, 92, 55⟩) ⟨92, 31, 92, 55⟩) (.nil))) ⟨92, 11, 92, 55⟩) ⟨92, 4, 92, 55⟩)
 (.nil)
theorem x_is_place : Txt ["thing"] ["thing"] n_is_place s_is_place m_is_place := ⟨⟨rfl, rfl, rfl, by decide +kernel, rfl, by decide +kernel, by decide +kernel⟩, by kernel_rfl, by decide +kernel⟩
abbrev N_is_product : List Str := ["thing", "last", "place"]
/-- is_product(thing): 0 thing 1 last 2 place -/
def n_is_product : Nms := { fn := ["is_place"], glo := ["tuple"], cl := [], blt := ["isinstance"], exc := [], lam := [], lq := none }
def m_is_product : MSs :=
 .cons (.ifs (.not (.blt .isinstance ⟨94, 11, 94, 21⟩ (.var 0 "thing" ⟨94, 22, 94, 27⟩) (.cons (.glo 0 "tuple" ⟨94, 29, 94, 34⟩) (.nil)) ⟨94, 11, 94, 35⟩) ⟨94, 7, 94, 35⟩)
 (.cons (.ret (.bl false 0 ⟨95, 15, 95, 20⟩) ⟨95, 8, 95, 20⟩)
 (.nil))
 (.nil) ⟨94, 4, 95, 20⟩)
 (.cons (.asg (.name 1 "last" ⟨96, 4, 96, 8⟩) (.neg (.int 1 0 ⟨96, 12, 96, 13⟩) ⟨96, 11, 96, 13⟩) ⟨96, 4, 96, 13⟩)
 (.cons (.fors (.name 2 "place" ⟨97, 8, 97, 13⟩) (.val (.var 0 "thing" ⟨97, 17, 97, 22⟩))
 (.cons (.ifs (.or (.cons (.not (.call 0 "is_place" ⟨98, 15, 98, 23⟩ (.cons (.var 2 "place" ⟨98, 24, 98, 29⟩) (.nil)) ⟨98, 15, 98, 30⟩) ⟨98, 11, 98, 30⟩) (.cons (.cmp (.var 2 "place" ⟨98, 34, 98, 39⟩) .LtE (.var 1 "last" ⟨98, 43, 98, 47⟩) ⟨98, 34, 98, 47⟩) (.nil))) ⟨98, 11, 98, 47⟩)
 (.cons (.ret (.bl false 0 ⟨99, 19, 99, 24⟩) ⟨99, 12, 99, 24⟩)
 (.nil))
 (.nil) ⟨98, 8, 99, 24⟩)
 (.cons (.asg (.name 1 "last" ⟨100, 8, 100, 12⟩) (.var 2 "place" ⟨100, 15, 100, 20⟩) ⟨100, 8, 100, 20⟩)
 (.nil))) ⟨97, 4, 100, 20⟩)
 (.cons (.ret (.bl true 0 ⟨101, 11, 101, 15⟩) ⟨101, 4, 101, 15⟩)
 (.nil))))
theorem x_is_product : Txt ["thing", "last", "place"] ["thing"] n_is_product s_is_product m_is_product := ⟨⟨rfl, rfl, rfl, by decide +kernel, rfl, by decide +kernel, by decide +kernel⟩, by kernel_rfl, by decide +kernel⟩
abbrev N_joined_product : List Str := ["one", "other"]
/-- joined_product(one, other): 0 one 1 other -/
def n_joined_product : Nms := { fn := [], glo := [], cl := [], blt := ["tuple", "sorted", "set"], exc := [], lam := [], lq := none }
def m_joined_product : MSs :=
 .cons (.ret (.blt .tuple ⟨103, 11, 103, 16⟩ (.sset ⟨103, 17, 103, 23⟩ ⟨103, 24, 103, 27⟩ (.bin (.var 0 "one" ⟨103, 28, 103, 31⟩) .Add (.var 1 "other" ⟨103, 34, 103, 39⟩) ⟨103, 28, 103, 39⟩) ⟨103, 24, 103, 40⟩ ⟨103, 17, 103, 41⟩) (.nil) ⟨103, 11, 103, 42⟩) ⟨103, 4, 103, 42⟩)
 (.nil)
theorem x_joined_product : Txt ["one", "other"] ["one", "other"] n_joined_product s_joined_product m_joined_product := ⟨⟨rfl, rfl, rfl, by decide +kernel, rfl, by decide +kernel, by decide +kernel⟩, by kernel_rfl, by decide +kernel⟩
abbrev N_look_at_terms : List Str := ["field", "terms", "number", "term"]
/-- look_at_terms(field, terms): 0 field 1 terms 2 number 3 term -/
def n_look_at_terms : Nms := { fn := ["is_product"], glo := ["list", "tuple"], cl := [], blt := ["isinstance", "enumerate", "len"], exc := [], lam := [], lq := none }
def m_look_at_terms : MSs :=
 .cons (.ifs (.not (.blt .isinstance ⟨125, 11, 125, 21⟩ (.var 1 "terms" ⟨125, 22, 125, 27⟩) (.cons (.glo 0 "list" ⟨125, 29, 125, 33⟩) (.nil)) ⟨125, 11, 125, 34⟩) ⟨125, 7, 125, 34⟩)
 (.cons (.raw (PySem.Stmt.Raise (exc := (some (PySem.Expr.Call (func := (PySem.Expr.Name "NoSum" ⟨126, 14, 126, 19⟩)) (args := [(PySem.Expr.Constant PySem.Const.none 0 ⟨126, 20, 126, 24⟩)]) (keywords := []) (pos := ⟨126, 14, 126, 25⟩)))) (cause := none) (pos := ⟨126, 8, 126, 25⟩)))
 (.nil))
 (.nil) ⟨125, 4, 126, 25⟩)
 (.cons (.fors (.tup (.cons (.name 2 "number" ⟨127, 8, 127, 14⟩) (.cons (.name 3 "term" ⟨127, 16, 127, 20⟩) (.nil))) 0 ⟨127, 8, 127, 20⟩) (.enum ⟨127, 24, 127, 33⟩ (.var 1 "terms" ⟨127, 34, 127, 39⟩) ⟨127, 24, 127, 40⟩)
 (.cons (.ifs (.or (.cons (.not (.blt .isinstance ⟨128, 15, 128, 25⟩ (.var 3 "term" ⟨128, 26, 128, 30⟩) (.cons (.glo 1 "tuple" ⟨128, 32, 128, 37⟩) (.nil)) ⟨128, 15, 128, 38⟩) ⟨128, 11, 128, 38⟩) (.cons (.cmp (.blt .len ⟨128, 42, 128, 45⟩ (.var 3 "term" ⟨128, 46, 128, 50⟩) (.nil) ⟨128, 42, 128, 51⟩) .NotEq (.int 2 0 ⟨128, 55, 128, 56⟩) ⟨128, 42, 128, 56⟩) (.nil))) ⟨128, 11, 128, 56⟩)
 (.cons (.raw (PySem.Stmt.Raise (exc := (some (PySem.Expr.Call (func := (PySem.Expr.Name "NoSum" ⟨129, 18, 129, 23⟩)) (args := [(PySem.Expr.Name "number" ⟨129, 24, 129, 30⟩)]) (keywords := []) (pos := ⟨129, 18, 129, 31⟩)))) (cause := none) (pos := ⟨129, 12, 129, 31⟩)))
 (.nil))
 (.nil) ⟨128, 8, 129, 31⟩)
 (.cons (.ifs (.or (.cons (.not (.call 0 "is_product" ⟨130, 15, 130, 25⟩ (.cons (.sub (.var 3 "term" ⟨130, 26, 130, 30⟩) (.int 0 0 ⟨130, 31, 130, 32⟩) ⟨130, 26, 130, 33⟩) (.nil)) ⟨130, 15, 130, 34⟩) ⟨130, 11, 130, 34⟩) (.cons (.not (.own (.var 0 "field" ⟨130, 42, 130, 47⟩) "is_number" ⟨130, 42, 130, 57⟩ (.cons (.sub (.var 3 "term" ⟨130, 58, 130, 62⟩) (.int 1 0 ⟨130, 63, 130, 64⟩) ⟨130, 58, 130, 65⟩) (.nil)) ⟨130, 42, 130, 66⟩) ⟨130, 38, 130, 66⟩) (.nil))) ⟨130, 11, 130, 66⟩)
 (.cons (.raw (PySem.Stmt.Raise (exc := (some (PySem.Expr.Call (func := (PySem.Expr.Name "NoSum" ⟨131, 18, 131, 23⟩)) (args := [(PySem.Expr.Name "number" ⟨131, 24, 131, 30⟩)]) (keywords := []) (pos := ⟨131, 18, 131, 31⟩)))) (cause := none) (pos := ⟨131, 12, 131, 31⟩)))
 (.nil))
 (.nil) ⟨130, 8, 131, 31⟩)
 (.nil))) ⟨127, 4, 131, 31⟩)
 (.nil))
theorem x_look_at_terms : Txt ["field", "terms", "number", "term"] ["field", "terms"] n_look_at_terms s_look_at_terms m_look_at_terms := ⟨⟨rfl, rfl, rfl, by decide +kernel, rfl, by decide +kernel, by decide +kernel⟩, by kernel_rfl, by decide +kernel⟩
abbrev N_gathered : List Str := ["field", "terms", "found", "product", "number", "rows"]
/-- gathered(field, terms): 0 field 1 terms 2 found 3 product 4 number 5 rows -/
def n_gathered : Nms := { fn := [], glo := ["ZERO"], cl := [], blt := ["sorted", "len"], exc := [], lam := [], lq := some "gathered.<locals>." }
def m_gathered : MSs :=
 .cons (.asg (.name 2 "found" ⟨133, 4, 133, 9⟩) (.dic0 ⟨133, 12, 133, 14⟩) ⟨133, 4, 133, 14⟩)
 (.cons (.fors (.tup (.cons (.name 3 "product" ⟨134, 8, 134, 15⟩) (.cons (.name 4 "number" ⟨134, 17, 134, 23⟩) (.nil))) 0 ⟨134, 8, 134, 23⟩) (.val (.var 1 "terms" ⟨134, 27, 134, 32⟩))
 (.cons (.asg (.sub (.var 2 "found" ⟨135, 8, 135, 13⟩) (.var 3 "product" ⟨135, 14, 135, 21⟩) ⟨135, 8, 135, 22⟩) (.own (.var 0 "field" ⟨135, 25, 135, 30⟩) "plus" ⟨135, 25, 135, 35⟩ (.cons (.dsetd (.var 2 "found" ⟨135, 36, 135, 41⟩) (.var 3 "product" ⟨135, 53, 135, 60⟩) (.glo 0 "ZERO" ⟨135, 62, 135, 66⟩) ⟨135, 36, 135, 52⟩ ⟨135, 36, 135, 67⟩) (.cons (.var 4 "number" ⟨135, 69, 135, 75⟩) (.nil))) ⟨135, 25, 135, 76⟩) ⟨135, 8, 135, 76⟩)
 (.nil)) ⟨134, 4, 135, 76⟩)
 (.cons (.lock (.asgL 5 "rows" ⟨136, 4, 136, 8⟩ (.tup (.cons (.var 3 "product" ⟨136, 13, 136, 20⟩) (.cons (.var 4 "number" ⟨136, 22, 136, 28⟩) (.nil))) 0 ⟨136, 12, 136, 29⟩) (.tup (.cons (.name 3 "product" ⟨136, 34, 136, 41⟩) (.cons (.name 4 "number" ⟨136, 43, 136, 49⟩) (.nil))) 0 ⟨136, 34, 136, 49⟩) (.items (.var 2 "found" ⟨136, 53, 136, 58⟩) ⟨136, 53, 136, 64⟩ ⟨136, 53, 136, 66⟩) (.cons (.cmp (.var 4 "number" ⟨136, 70, 136, 76⟩) .NotEq (.glo 0 "ZERO" ⟨136, 80, 136, 84⟩) ⟨136, 70, 136, 84⟩) (.nil)) [("product", 3), ("number", 4)] ⟨.function, [(".0", .local), ("product", .local), ("number", .local), ("ZERO", .globalImplicit)], false, false, []⟩ ⟨136, 11, 136, 85⟩ ⟨136, 4, 136, 85⟩))
 (.cons (.ret (.sortLen ⟨137, 11, 137, 17⟩ (.var 5 "rows" ⟨137, 18, 137, 22⟩) ⟨137, 24, 137, 61⟩ ⟨137, 28, 137, 61⟩ ⟨137, 35, 137, 38⟩ ⟨137, 41, 137, 44⟩ ⟨137, 45, 137, 48⟩ ⟨137, 49, 137, 50⟩ ⟨137, 45, 137, 51⟩ ⟨137, 41, 137, 52⟩ ⟨137, 54, 137, 57⟩ ⟨137, 58, 137, 59⟩ ⟨137, 54, 137, 60⟩ ⟨137, 40, 137, 61⟩ 0 0 0 ⟨.function, [("row", .local), ("len", .globalImplicit)], false, false, []⟩ ⟨137, 11, 137, 62⟩) ⟨137, 4, 137, 62⟩)
 (.nil))))
theorem x_gathered : Txt ["field", "terms", "found", "product", "number", "rows"] ["field", "terms"] n_gathered s_gathered m_gathered := ⟨⟨rfl, rfl, rfl, by decide +kernel, rfl, by decide +kernel, by decide +kernel⟩, by kernel_rfl, by decide +kernel⟩
abbrev N_Sum___init__ : List Str := ["self", "field", "terms"]
/-- Sum.__init__(self, field, terms): 0 self 1 field 2 terms -/
def n_Sum___init__ : Nms := { fn := ["look_at_terms", "gathered"], glo := [], cl := [], blt := [], exc := [], lam := [], lq := none }
def m_Sum___init__ : MSs :=
 .cons (.ifs (.cmp (.var 2 "terms" ⟨141, 11, 141, 16⟩) .Is (.non 0 ⟨141, 20, 141, 24⟩) ⟨141, 11, 141, 24⟩)
 (.cons (.asg (.name 2 "terms" ⟨142, 12, 142, 17⟩) (.lst (.nil) ⟨142, 20, 142, 22⟩) ⟨142, 12, 142, 22⟩)
 (.nil))
 (.nil) ⟨141, 8, 142, 22⟩)
 (.cons (.expr (.call 0 "look_at_terms" ⟨143, 8, 143, 21⟩ (.cons (.var 1 "field" ⟨143, 22, 143, 27⟩) (.cons (.var 2 "terms" ⟨143, 29, 143, 34⟩) (.nil))) ⟨143, 8, 143, 35⟩) ⟨143, 8, 143, 35⟩)
 (.cons (.setA (.var 0 "self" ⟨144, 8, 144, 12⟩) "own_field" ⟨144, 8, 144, 22⟩ (.var 1 "field" ⟨144, 25, 144, 30⟩) ⟨144, 8, 144, 30⟩)
 (.cons (.setA (.var 0 "self" ⟨145, 8, 145, 12⟩) "row" ⟨145, 8, 145, 16⟩ (.call 1 "gathered" ⟨145, 19, 145, 27⟩ (.cons (.var 1 "field" ⟨145, 28, 145, 33⟩) (.cons (.var 2 "terms" ⟨145, 35, 145, 40⟩) (.nil))) ⟨145, 19, 145, 41⟩) ⟨145, 8, 145, 41⟩)
 (.nil))))
theorem x_Sum___init__ : Txt ["self", "field", "terms"] ["self", "field", "terms"] n_Sum___init__ s_Sum___init__ m_Sum___init__ := ⟨⟨rfl, rfl, rfl, by decide +kernel, rfl, by decide +kernel, by decide +kernel⟩, by kernel_rfl, by decide +kernel⟩
abbrev N_Sum___eq__ : List Str := ["self", "other"]
/-- Sum.__eq__(self, other): 0 self 1 other -/
def n_Sum___eq__ : Nms := { fn := [], glo := ["Sum"], cl := [], blt := ["isinstance"], exc := [], lam := [], lq := none }
def m_Sum___eq__ : MSs :=
 .cons (.ret (.and (.cons (.blt .isinstance ⟨148, 15, 148, 25⟩ (.var 1 "other" ⟨148, 26, 148, 31⟩) (.cons (.glo 0 "Sum" ⟨148, 33, 148, 36⟩) (.nil)) ⟨148, 15, 148, 37⟩) (.cons (.cmp (.att (.var 0 "self" ⟨148, 42, 148, 46⟩) "own_field" ⟨148, 42, 148, 56⟩) .Eq (.att (.var 1 "other" ⟨148, 60, 148, 65⟩) "own_field" ⟨148, 60, 148, 75⟩) ⟨148, 42, 148, 75⟩) (.cons (.cmp (.att (.var 0 "self" ⟨148, 81, 148, 85⟩) "row" ⟨148, 81, 148, 89⟩) .Eq (.att (.var 1 "other" ⟨148, 93, 148, 98⟩) "row" ⟨148, 93, 148, 102⟩) ⟨148, 81, 148, 102⟩) (.nil)))) ⟨148, 15, 148, 103⟩) ⟨148, 8, 148, 103⟩)
 (.nil)
theorem x_Sum___eq__ : Txt ["self", "other"] ["self", "other"] n_Sum___eq__ s_Sum___eq__ m_Sum___eq__ := ⟨⟨rfl, rfl, rfl, by decide +kernel, rfl, by decide +kernel, by decide +kernel⟩, by kernel_rfl, by decide +kernel⟩
abbrev N_Sum_terms : List Str := ["self"]
/-- Sum.terms(self): 0 self -/
def n_Sum_terms : Nms := { fn := [], glo := [], cl := [], blt := ["list"], exc := [], lam := [], lq := none }
def m_Sum_terms : MSs :=
 .cons (.ret (.blt .list ⟨163, 15, 163, 19⟩ (.att (.var 0 "self" ⟨163, 20, 163, 24⟩) "row" ⟨163, 20, 163, 28⟩) (.nil) ⟨163, 15, 163, 29⟩) ⟨163, 8, 163, 29⟩)
 (.nil)
theorem x_Sum_terms : Txt ["self"] ["self"] n_Sum_terms s_Sum_terms m_Sum_terms := ⟨⟨rfl, rfl, rfl, by decide +kernel, rfl, by decide +kernel, by decide +kernel⟩, by kernel_rfl, by decide +kernel⟩
abbrev N_Sum_reach : List Str := ["self", "product", "number"]
/-- Sum.reach(self): 0 self 1 product 2 number -/
def n_Sum_reach : Nms := { fn := [], glo := [], cl := [], blt := ["max"], exc := [], lam := [], lq := none }
def m_Sum_reach : MSs :=
 .cons (.ret (.bltK .max0 ⟨169, 15, 169, 18⟩ (.lc (.bin (.sub (.var 1 "product" ⟨169, 20, 169, 27⟩) (.neg (.int 1 0 ⟨169, 29, 169, 30⟩) ⟨169, 28, 169, 30⟩) ⟨169, 20, 169, 31⟩) .Add (.int 1 0 ⟨169, 34, 169, 35⟩) ⟨169, 20, 169, 35⟩) (.tup (.cons (.name 1 "product" ⟨169, 40, 169, 47⟩) (.cons (.name 2 "number" ⟨169, 49, 169, 55⟩) (.nil))) 0 ⟨169, 40, 169, 55⟩) (.val (.att (.var 0 "self" ⟨169, 59, 169, 63⟩) "row" ⟨169, 59, 169, 67⟩)) (.cons (.cmp (.var 1 "product" ⟨169, 71, 169, 78⟩) .NotEq (.tup (.nil) 0 ⟨169, 82, 169, 84⟩) ⟨169, 71, 169, 84⟩) (.nil)) [("product", 1), ("number", 2)] ⟨.function, [(".0", .local), ("product", .local), ("number", .local)], false, false, []⟩ ⟨169, 19, 169, 85⟩) (.int 0 0 ⟨169, 95, 169, 96⟩) ⟨169, 87, 169, 96⟩ ⟨169, 15, 169, 97⟩) ⟨169, 8, 169, 97⟩)
 (.nil)
theorem x_Sum_reach : Txt ["self", "product", "number"] ["self"] n_Sum_reach s_Sum_reach m_Sum_reach := ⟨⟨rfl, rfl, rfl, by decide +kernel, rfl, by decide +kernel, by decide +kernel⟩, by kernel_rfl, by decide +kernel⟩
abbrev N_Sum_look_alike : List Str := ["self", "other"]
/-- Sum.look_alike(self, other): 0 self 1 other -/
def n_Sum_look_alike : Nms := { fn := [], glo := [], cl := [], blt := [], exc := ["Unlike"], lam := [], lq := none }
def m_Sum_look_alike : MSs :=
 .cons (.ifs (.cmp (.att (.var 0 "self" ⟨172, 11, 172, 15⟩) "own_field" ⟨172, 11, 172, 25⟩) .NotEq (.att (.var 1 "other" ⟨172, 29, 172, 34⟩) "own_field" ⟨172, 29, 172, 44⟩) ⟨172, 11, 172, 44⟩)
 (.cons (.rais 0 "Unlike" ⟨173, 18, 173, 24⟩ "sums over unlike fields" 0 ⟨173, 25, 173, 50⟩ ⟨173, 18, 173, 51⟩ ⟨173, 12, 173, 51⟩)
 (.nil))
 (.nil) ⟨172, 8, 173, 51⟩)
 (.nil)
theorem x_Sum_look_alike : Txt ["self", "other"] ["self", "other"] n_Sum_look_alike s_Sum_look_alike m_Sum_look_alike := ⟨⟨rfl, rfl, rfl, by decide +kernel, rfl, by decide +kernel, by decide +kernel⟩, by kernel_rfl, by decide +kernel⟩
abbrev N_Sum_times : List Str := ["self", "other", "found", "product", "number", "more", "factor"]
/-- Sum.times(self, other): 0 self 1 other 2 found 3 product 4 number 5 more 6 factor -/
def n_Sum_times : Nms := { fn := ["joined_product"], glo := [], cl := ["Sum"], blt := [], exc := [], lam := [], lq := none }
def m_Sum_times : MSs :=
 .cons (.expr (.own (.var 0 "self" ⟨180, 8, 180, 12⟩) "look_alike" ⟨180, 8, 180, 23⟩ (.cons (.var 1 "other" ⟨180, 24, 180, 29⟩) (.nil)) ⟨180, 8, 180, 30⟩) ⟨180, 8, 180, 30⟩)
 (.cons (.asg (.name 2 "found" ⟨181, 8, 181, 13⟩) (.lst (.nil) ⟨181, 16, 181, 18⟩) ⟨181, 8, 181, 18⟩)
 (.cons (.fors (.tup (.cons (.name 3 "product" ⟨182, 12, 182, 19⟩) (.cons (.name 4 "number" ⟨182, 21, 182, 27⟩) (.nil))) 0 ⟨182, 12, 182, 27⟩) (.val (.att (.var 0 "self" ⟨182, 31, 182, 35⟩) "row" ⟨182, 31, 182, 39⟩))
 (.cons (.fors (.tup (.cons (.name 5 "more" ⟨183, 16, 183, 20⟩) (.cons (.name 6 "factor" ⟨183, 22, 183, 28⟩) (.nil))) 0 ⟨183, 16, 183, 28⟩) (.val (.att (.var 1 "other" ⟨183, 32, 183, 37⟩) "row" ⟨183, 32, 183, 41⟩))
 (.cons (.expr (.bm .append (.var 2 "found" ⟨184, 16, 184, 21⟩) ⟨184, 16, 184, 28⟩ (.tup (.cons (.call 0 "joined_product" ⟨184, 30, 184, 44⟩ (.cons (.var 3 "product" ⟨184, 45, 184, 52⟩) (.cons (.var 5 "more" ⟨184, 54, 184, 58⟩) (.nil))) ⟨184, 30, 184, 59⟩) (.cons (.own (.att (.var 0 "self" ⟨184, 61, 184, 65⟩) "own_field" ⟨184, 61, 184, 75⟩) "times" ⟨184, 61, 184, 81⟩ (.cons (.var 4 "number" ⟨184, 82, 184, 88⟩) (.cons (.var 6 "factor" ⟨184, 90, 184, 96⟩) (.nil))) ⟨184, 61, 184, 97⟩) (.nil))) 0 ⟨184, 29, 184, 98⟩) ⟨184, 16, 184, 99⟩) ⟨184, 16, 184, 99⟩)
 (.nil)) ⟨183, 12, 184, 99⟩)
 (.nil)) ⟨182, 8, 184, 99⟩)
 (.cons (.ret (.make 0 "Sum" ⟨185, 15, 185, 18⟩ (.cons (.att (.var 0 "self" ⟨185, 19, 185, 23⟩) "own_field" ⟨185, 19, 185, 33⟩) (.cons (.var 2 "found" ⟨185, 35, 185, 40⟩) (.nil))) ⟨185, 15, 185, 41⟩) ⟨185, 8, 185, 41⟩)
 (.nil))))
theorem x_Sum_times : Txt ["self", "other", "found", "product", "number", "more", "factor"] ["self", "other"] n_Sum_times s_Sum_times m_Sum_times := ⟨⟨rfl, rfl, rfl, by decide +kernel, rfl, by decide +kernel, by decide +kernel⟩, by kernel_rfl, by decide +kernel⟩
abbrev N_Sum_put_in : List Str := ["self", "sums", "one", "put", "product", "number"]
/-- Sum.put_in(self, sums): 0 self 1 sums 2 one 3 put 4 product 5 number -/
def n_Sum_put_in : Nms := { fn := [], glo := ["list", "Sum"], cl := ["Sum"], blt := ["isinstance", "len", "sum"], exc := ["NoSums"], lam := [], lq := none }
abbrev N_Sum_put_in_put : List Str := ["product", "number", "self", "sums", "found", "place"]
/-- Sum.put_in.<locals>.put(product, number): 0 product 1 number 2 self 3 sums 4 found 5 place -/
def n_Sum_put_in_put : Nms := { fn := [], glo := [], cl := ["Sum"], blt := [], exc := [], lam := [], lq := none }
def m_Sum_put_in_put : MSs :=
 .cons (.asg (.name 4 "found" ⟨201, 12, 201, 17⟩) (.make 0 "Sum" ⟨201, 20, 201, 23⟩ (.cons (.att (.var 2 "self" ⟨201, 24, 201, 28⟩) "own_field" ⟨201, 24, 201, 38⟩) (.cons (.lst (.cons (.tup (.cons (.tup (.nil) 0 ⟨201, 42, 201, 44⟩) (.cons (.var 1 "number" ⟨201, 46, 201, 52⟩) (.nil))) 0 ⟨201, 41, 201, 53⟩) (.nil)) ⟨201, 40, 201, 54⟩) (.nil))) ⟨201, 20, 201, 55⟩) ⟨201, 12, 201, 55⟩)
 (.cons (.fors (.name 5 "place" ⟨202, 16, 202, 21⟩) (.val (.var 0 "product" ⟨202, 25, 202, 32⟩))
 (.cons (.asg (.name 4 "found" ⟨203, 16, 203, 21⟩) (.own (.var 4 "found" ⟨203, 24, 203, 29⟩) "times" ⟨203, 24, 203, 35⟩ (.cons (.sub (.var 3 "sums" ⟨203, 36, 203, 40⟩) (.var 5 "place" ⟨203, 41, 203, 46⟩) ⟨203, 36, 203, 47⟩) (.nil)) ⟨203, 24, 203, 48⟩) ⟨203, 16, 203, 48⟩)
 (.nil)) ⟨202, 12, 203, 48⟩)
 (.cons (.ret (.att (.var 4 "found" ⟨204, 19, 204, 24⟩) "row" ⟨204, 19, 204, 28⟩) ⟨204, 12, 204, 28⟩)
 (.nil)))
def p_Sum_put_in : PutD := { nm := "put", nargs := defArgs s_Sum_put_in_put, nb := m_Sum_put_in_put, nsc := defScope s_Sum_put_in_put, nN := N_Sum_put_in_put, nps := ["product", "number"], nfr := ["self", "sums"], nn := n_Sum_put_in_put, npos := ⟨200, 8, 204, 28⟩, i := 3, js := [0, 1], ci := 0, cls := "Sum", cq := ⟨205, 15, 205, 18⟩, a := .att (.var 0 "self" ⟨205, 19, 205, 23⟩) "own_field" ⟨205, 19, 205, 33⟩, sq := ⟨205, 35, 205, 38⟩, it := .val (.att (.var 0 "self" ⟨205, 84, 205, 88⟩) "row" ⟨205, 84, 205, 92⟩), own := [("product", 4), ("number", 5)], tg := .tup (.cons (.name 4 "product" ⟨205, 65, 205, 72⟩) (.cons (.name 5 "number" ⟨205, 74, 205, 80⟩) (.nil))) 0 ⟨205, 65, 205, 80⟩, e1 := .var 4 "product" ⟨205, 44, 205, 51⟩, es := .cons (.var 5 "number" ⟨205, 53, 205, 59⟩) (.nil), pq := ⟨205, 40, 205, 43⟩, pp := ⟨205, 40, 205, 60⟩, scope := ⟨.function, [(".0", .local), ("product", .local), ("number", .local), ("put", .free)], false, false, []⟩, lp := ⟨205, 39, 205, 93⟩, lpos := ⟨205, 101, 205, 103⟩, kp := ⟨205, 95, 205, 103⟩, sp := ⟨205, 35, 205, 104⟩, p := ⟨205, 15, 205, 105⟩, rp := ⟨205, 8, 205, 105⟩ }
def m_Sum_put_in : MSs :=
 .cons (.ifs (.or (.cons (.not (.blt .isinstance ⟨194, 15, 194, 25⟩ (.var 1 "sums" ⟨194, 26, 194, 30⟩) (.cons (.glo 0 "list" ⟨194, 32, 194, 36⟩) (.nil)) ⟨194, 15, 194, 37⟩) ⟨194, 11, 194, 37⟩) (.cons (.cmp (.blt .len ⟨194, 41, 194, 44⟩ (.var 1 "sums" ⟨194, 45, 194, 49⟩) (.nil) ⟨194, 41, 194, 50⟩) .Lt (.own (.var 0 "self" ⟨194, 53, 194, 57⟩) "reach" ⟨194, 53, 194, 63⟩ (.nil) ⟨194, 53, 194, 65⟩) ⟨194, 41, 194, 65⟩) (.nil))) ⟨194, 11, 194, 65⟩)
 (.cons (.rais 0 "NoSums" ⟨195, 18, 195, 24⟩ "no sums for all places" 0 ⟨195, 25, 195, 49⟩ ⟨195, 18, 195, 50⟩ ⟨195, 12, 195, 50⟩)
 (.nil))
 (.nil) ⟨194, 8, 195, 50⟩)
 (.cons (.fors (.name 2 "one" ⟨196, 12, 196, 15⟩) (.val (.var 1 "sums" ⟨196, 19, 196, 23⟩))
 (.cons (.ifs (.or (.cons (.not (.blt .isinstance ⟨197, 19, 197, 29⟩ (.var 2 "one" ⟨197, 30, 197, 33⟩) (.cons (.glo 1 "Sum" ⟨197, 35, 197, 38⟩) (.nil)) ⟨197, 19, 197, 39⟩) ⟨197, 15, 197, 39⟩) (.cons (.cmp (.att (.var 2 "one" ⟨197, 43, 197, 46⟩) "own_field" ⟨197, 43, 197, 56⟩) .NotEq (.att (.var 0 "self" ⟨197, 60, 197, 64⟩) "own_field" ⟨197, 60, 197, 74⟩) ⟨197, 43, 197, 74⟩) (.nil))) ⟨197, 15, 197, 74⟩)
 (.cons (.rais 0 "NoSums" ⟨198, 22, 198, 28⟩ "no sums over the field" 0 ⟨198, 29, 198, 53⟩ ⟨198, 22, 198, 54⟩ ⟨198, 16, 198, 54⟩)
 (.nil))
 (.nil) ⟨197, 12, 198, 54⟩)
 (.nil)) ⟨196, 8, 198, 54⟩)
 (.nil))
theorem x_Sum_put_in : TxtP ["self", "sums", "one", "put", "product", "number"] ["self", "sums"] n_Sum_put_in s_Sum_put_in m_Sum_put_in p_Sum_put_in := ⟨⟨rfl, rfl, rfl, by decide +kernel, rfl, by decide +kernel, by decide +kernel⟩, by kernel_rfl, by decide +kernel, by decide +kernel, fun _ => rfl, fun _ _ _ _ _ _ us hl => match us, hl with | [_, _], _ => rfl⟩
abbrev N__law_room : List Str := ["_law_script", "_law_k", "_law_cell", "_law_left"]
/-- _law_room(_law_script, _law_k): 0 _law_script 1 _law_k 2 _law_cell 3 _law_left -/
def n__law_room : Nms := { fn := [], glo := [], cl := [], blt := ["len"], exc := [], lam := [], lq := none }
def m__law_room : MSs :=
 .cons (.asg (.name 2 "_law_cell" ⟨211, 4, 211, 13⟩) (.int 0 0 ⟨211, 16, 211, 17⟩) ⟨211, 4, 211, 17⟩)
 (.cons (.ifs (.cmp (.var 1 "_law_k" ⟨212, 7, 212, 13⟩) .Lt (.blt .len ⟨212, 16, 212, 19⟩ (.var 0 "_law_script" ⟨212, 20, 212, 31⟩) (.nil) ⟨212, 16, 212, 32⟩) ⟨212, 7, 212, 32⟩)
 (.cons (.asg (.name 2 "_law_cell" ⟨213, 8, 213, 17⟩) (.sub (.var 0 "_law_script" ⟨213, 20, 213, 31⟩) (.var 1 "_law_k" ⟨213, 32, 213, 38⟩) ⟨213, 20, 213, 39⟩) ⟨213, 8, 213, 39⟩)
 (.nil))
 (.nil) ⟨212, 4, 213, 39⟩)
 (.cons (.asg (.name 3 "_law_left" ⟨214, 4, 214, 13⟩) (.int 0 0 ⟨214, 16, 214, 17⟩) ⟨214, 4, 214, 17⟩)
 (.cons (.ifs (.cmp (.var 2 "_law_cell" ⟨215, 7, 215, 16⟩) .GtE (.bin (.int 10 0 ⟨215, 20, 215, 22⟩) .Pow (.int 18 0 ⟨215, 26, 215, 28⟩) ⟨215, 20, 215, 28⟩) ⟨215, 7, 215, 28⟩)
 (.cons (.asg (.name 3 "_law_left" ⟨216, 8, 216, 17⟩) (.var 2 "_law_cell" ⟨216, 20, 216, 29⟩) ⟨216, 8, 216, 29⟩)
 (.nil))
 (.nil) ⟨215, 4, 216, 29⟩)
 (.cons (.ret (.lst (.cons (.var 3 "_law_left" ⟨217, 12, 217, 21⟩) (.cons (.bin (.bin (.bin (.bin (.bin (.var 2 "_law_cell" ⟨217, 24, 217, 33⟩) .Mod (.int 2147483629 0 ⟨217, 36, 217, 46⟩) ⟨217, 24, 217, 46⟩) .Add (.bin (.bin (.int 104729 0 ⟨217, 49, 217, 55⟩) .Mult (.var 1 "_law_k" ⟨217, 58, 217, 64⟩) ⟨217, 49, 217, 64⟩) .Mult (.var 1 "_law_k" ⟨217, 67, 217, 73⟩) ⟨217, 49, 217, 73⟩) ⟨217, 24, 217, 73⟩) .Add (.int 7 0 ⟨217, 76, 217, 77⟩) ⟨217, 24, 217, 77⟩) .Mult (.int 48271 0 ⟨217, 81, 217, 86⟩) ⟨217, 23, 217, 86⟩) .Mod (.int 2147483647 0 ⟨217, 89, 217, 99⟩) ⟨217, 23, 217, 99⟩) (.nil))) ⟨217, 11, 217, 100⟩) ⟨217, 4, 217, 100⟩)
 (.nil)))))
theorem x__law_room : Txt ["_law_script", "_law_k", "_law_cell", "_law_left"] ["_law_script", "_law_k"] n__law_room s__law_room m__law_room := ⟨⟨rfl, rfl, rfl, by decide +kernel, rfl, by decide +kernel, by decide +kernel⟩, by kernel_rfl, by decide +kernel⟩
abbrev N__law_take : List Str := ["_law_room_here", "_law_many", "_law_found"]
/-- _law_take(_law_room_here, _law_many): 0 _law_room_here 1 _law_many 2 _law_found -/
def n__law_take : Nms := { fn := [], glo := [], cl := [], blt := [], exc := [], lam := [], lq := none }
def m__law_take : MSs :=
 .cons (.ifs (.cmp (.sub (.var 0 "_law_room_here" ⟨219, 7, 219, 21⟩) (.int 0 0 ⟨219, 22, 219, 23⟩) ⟨219, 7, 219, 24⟩) .Gt (.int 0 0 ⟨219, 27, 219, 28⟩) ⟨219, 7, 219, 28⟩)
 (.cons (.asg (.name 2 "_law_found" ⟨220, 8, 220, 18⟩) (.bin (.sub (.var 0 "_law_room_here" ⟨220, 21, 220, 35⟩) (.int 0 0 ⟨220, 36, 220, 37⟩) ⟨220, 21, 220, 38⟩) .Mod (.var 1 "_law_many" ⟨220, 41, 220, 50⟩) ⟨220, 21, 220, 50⟩) ⟨220, 8, 220, 50⟩)
 (.cons (.asg (.sub (.var 0 "_law_room_here" ⟨221, 8, 221, 22⟩) (.int 0 0 ⟨221, 23, 221, 24⟩) ⟨221, 8, 221, 25⟩) (.bin (.sub (.var 0 "_law_room_here" ⟨221, 28, 221, 42⟩) (.int 0 0 ⟨221, 43, 221, 44⟩) ⟨221, 28, 221, 45⟩) .FloorDiv (.var 1 "_law_many" ⟨221, 49, 221, 58⟩) ⟨221, 28, 221, 58⟩) ⟨221, 8, 221, 58⟩)
 (.cons (.ret (.var 2 "_law_found" ⟨222, 15, 222, 25⟩) ⟨222, 8, 222, 25⟩)
 (.nil))))
 (.nil) ⟨219, 4, 222, 25⟩)
 (.cons (.asg (.sub (.var 0 "_law_room_here" ⟨223, 4, 223, 18⟩) (.int 1 0 ⟨223, 19, 223, 20⟩) ⟨223, 4, 223, 21⟩) (.bin (.bin (.bin (.sub (.var 0 "_law_room_here" ⟨223, 25, 223, 39⟩) (.int 1 0 ⟨223, 40, 223, 41⟩) ⟨223, 25, 223, 42⟩) .Mult (.int 48271 0 ⟨223, 45, 223, 50⟩) ⟨223, 25, 223, 50⟩) .Add (.int 39373 0 ⟨223, 53, 223, 58⟩) ⟨223, 25, 223, 58⟩) .Mod (.int 2147483647 0 ⟨223, 62, 223, 72⟩) ⟨223, 24, 223, 72⟩) ⟨223, 4, 223, 72⟩)
 (.cons (.asg (.name 2 "_law_found" ⟨224, 4, 224, 14⟩) (.bin (.bin (.bin (.sub (.var 0 "_law_room_here" ⟨224, 17, 224, 31⟩) (.int 1 0 ⟨224, 32, 224, 33⟩) ⟨224, 17, 224, 34⟩) .Mult (.sub (.var 0 "_law_room_here" ⟨224, 37, 224, 51⟩) (.int 1 0 ⟨224, 52, 224, 53⟩) ⟨224, 37, 224, 54⟩) ⟨224, 17, 224, 54⟩) .Mod (.int 2147483629 0 ⟨224, 57, 224, 67⟩) ⟨224, 17, 224, 67⟩) .FloorDiv (.int 16 0 ⟨224, 71, 224, 73⟩) ⟨224, 17, 224, 73⟩) ⟨224, 4, 224, 73⟩)
 (.cons (.ifs (.cmp (.var 1 "_law_many" ⟨225, 7, 225, 16⟩) .Gt (.bin (.int 10 0 ⟨225, 19, 225, 21⟩) .Pow (.int 6 0 ⟨225, 25, 225, 26⟩) ⟨225, 19, 225, 26⟩) ⟨225, 7, 225, 26⟩)
 (.cons (.asg (.sub (.var 0 "_law_room_here" ⟨226, 8, 226, 22⟩) (.int 1 0 ⟨226, 23, 226, 24⟩) ⟨226, 8, 226, 25⟩) (.bin (.bin (.bin (.sub (.var 0 "_law_room_here" ⟨226, 29, 226, 43⟩) (.int 1 0 ⟨226, 44, 226, 45⟩) ⟨226, 29, 226, 46⟩) .Mult (.int 48271 0 ⟨226, 49, 226, 54⟩) ⟨226, 29, 226, 54⟩) .Add (.int 39373 0 ⟨226, 57, 226, 62⟩) ⟨226, 29, 226, 62⟩) .Mod (.int 2147483647 0 ⟨226, 66, 226, 76⟩) ⟨226, 28, 226, 76⟩) ⟨226, 8, 226, 76⟩)
 (.cons (.asg (.name 2 "_law_found" ⟨227, 8, 227, 18⟩) (.bin (.bin (.var 2 "_law_found" ⟨227, 21, 227, 31⟩) .Mult (.int 2147483629 0 ⟨227, 34, 227, 44⟩) ⟨227, 21, 227, 44⟩) .Add (.bin (.bin (.sub (.var 0 "_law_room_here" ⟨227, 47, 227, 61⟩) (.int 1 0 ⟨227, 62, 227, 63⟩) ⟨227, 47, 227, 64⟩) .Mult (.sub (.var 0 "_law_room_here" ⟨227, 67, 227, 81⟩) (.int 1 0 ⟨227, 82, 227, 83⟩) ⟨227, 67, 227, 84⟩) ⟨227, 47, 227, 84⟩) .Mod (.int 2147483587 0 ⟨227, 87, 227, 97⟩) ⟨227, 47, 227, 97⟩) ⟨227, 21, 227, 97⟩) ⟨227, 8, 227, 97⟩)
 (.nil)))
 (.nil) ⟨225, 4, 227, 97⟩)
 (.cons (.ret (.bin (.var 2 "_law_found" ⟨228, 11, 228, 21⟩) .Mod (.var 1 "_law_many" ⟨228, 24, 228, 33⟩) ⟨228, 11, 228, 33⟩) ⟨228, 4, 228, 33⟩)
 (.nil)))))
theorem x__law_take : Txt ["_law_room_here", "_law_many", "_law_found"] ["_law_room_here", "_law_many"] n__law_take s__law_take m__law_take := ⟨⟨rfl, rfl, rfl, by decide +kernel, rfl, by decide +kernel, by decide +kernel⟩, by kernel_rfl, by decide +kernel⟩
abbrev N__law_lowest : List Str := ["_law_top", "_law_bottom", "_law_one", "_law_other", "_law_sign"]
/-- _law_lowest(_law_top, _law_bottom): 0 _law_top 1 _law_bottom 2 _law_one 3 _law_other 4 _law_sign -/
def n__law_lowest : Nms := { fn := [], glo := [], cl := [], blt := ["abs", "int"], exc := [], lam := [], lq := none }
def m__law_lowest : MSs :=
 .cons (.asg (.name 2 "_law_one" ⟨230, 4, 230, 12⟩) (.blt .abs ⟨230, 15, 230, 18⟩ (.var 0 "_law_top" ⟨230, 19, 230, 27⟩) (.nil) ⟨230, 15, 230, 28⟩) ⟨230, 4, 230, 28⟩)
 (.cons (.asg (.name 3 "_law_other" ⟨231, 4, 231, 14⟩) (.blt .abs ⟨231, 17, 231, 20⟩ (.var 1 "_law_bottom" ⟨231, 21, 231, 32⟩) (.nil) ⟨231, 17, 231, 33⟩) ⟨231, 4, 231, 33⟩)
 (.cons (.whl (.cmp (.var 3 "_law_other" ⟨232, 10, 232, 20⟩) .NotEq (.int 0 0 ⟨232, 24, 232, 25⟩) ⟨232, 10, 232, 25⟩)
 (.cons (.par 2 "_law_one" ⟨233, 8, 233, 16⟩ 3 "_law_other" ⟨233, 18, 233, 28⟩ 0 ⟨233, 8, 233, 28⟩ (.var 3 "_law_other" ⟨233, 32, 233, 42⟩) (.bin (.var 2 "_law_one" ⟨233, 44, 233, 52⟩) .Mod (.var 3 "_law_other" ⟨233, 55, 233, 65⟩) ⟨233, 44, 233, 65⟩) 0 ⟨233, 31, 233, 66⟩ ⟨233, 8, 233, 66⟩)
 (.nil)) ⟨232, 4, 233, 66⟩)
 (.cons (.asg (.name 4 "_law_sign" ⟨234, 4, 234, 13⟩) (.sub (.lst (.cons (.int 1 0 ⟨234, 17, 234, 18⟩) (.cons (.neg (.int 1 0 ⟨234, 21, 234, 22⟩) ⟨234, 20, 234, 22⟩) (.nil))) ⟨234, 16, 234, 23⟩) (.blt .int ⟨234, 24, 234, 27⟩ (.cmp (.var 1 "_law_bottom" ⟨234, 28, 234, 39⟩) .Lt (.int 0 0 ⟨234, 42, 234, 43⟩) ⟨234, 28, 234, 43⟩) (.nil) ⟨234, 24, 234, 44⟩) ⟨234, 16, 234, 45⟩) ⟨234, 4, 234, 45⟩)
 (.cons (.ret (.tup (.cons (.bin (.bin (.var 4 "_law_sign" ⟨235, 12, 235, 21⟩) .Mult (.var 0 "_law_top" ⟨235, 24, 235, 32⟩) ⟨235, 12, 235, 32⟩) .FloorDiv (.var 2 "_law_one" ⟨235, 36, 235, 44⟩) ⟨235, 12, 235, 44⟩) (.cons (.bin (.blt .abs ⟨235, 46, 235, 49⟩ (.var 1 "_law_bottom" ⟨235, 50, 235, 61⟩) (.nil) ⟨235, 46, 235, 62⟩) .FloorDiv (.var 2 "_law_one" ⟨235, 66, 235, 74⟩) ⟨235, 46, 235, 74⟩) (.nil))) 0 ⟨235, 11, 235, 75⟩) ⟨235, 4, 235, 75⟩)
 (.nil)))))
theorem x__law_lowest : Txt ["_law_top", "_law_bottom", "_law_one", "_law_other", "_law_sign"] ["_law_top", "_law_bottom"] n__law_lowest s__law_lowest m__law_lowest := ⟨⟨rfl, rfl, rfl, by decide +kernel, rfl, by decide +kernel, by decide +kernel⟩, by kernel_rfl, by decide +kernel⟩
abbrev N__law_make : List Str := ["_law_prime_here", "_law_top", "_law_bottom", "_law_k"]
/-- _law_make(_law_prime_here, _law_top, _law_bottom): 0 _law_prime_here 1 _law_top 2 _law_bottom 3 _law_k -/
def n__law_make : Nms := { fn := ["_law_lowest"], glo := [], cl := [], blt := ["range"], exc := [], lam := [], lq := none }
def m__law_make : MSs :=
 .cons (.ifs (.cmp (.var 0 "_law_prime_here" ⟨237, 7, 237, 22⟩) .Eq (.int 0 0 ⟨237, 26, 237, 27⟩) ⟨237, 7, 237, 27⟩)
 (.cons (.ret (.call 0 "_law_lowest" ⟨238, 15, 238, 26⟩ (.cons (.var 1 "_law_top" ⟨238, 27, 238, 35⟩) (.cons (.var 2 "_law_bottom" ⟨238, 37, 238, 48⟩) (.nil))) ⟨238, 15, 238, 49⟩) ⟨238, 8, 238, 49⟩)
 (.nil))
 (.nil) ⟨237, 4, 238, 49⟩)
 (.cons (.ifs (.cmp (.bin (.var 2 "_law_bottom" ⟨239, 7, 239, 18⟩) .Mod (.var 0 "_law_prime_here" ⟨239, 21, 239, 36⟩) ⟨239, 7, 239, 36⟩) .NotEq (.int 1 0 ⟨239, 40, 239, 41⟩) ⟨239, 7, 239, 41⟩)
 (.cons (.asg (.name 1 "_law_top" ⟨240, 8, 240, 16⟩) (.bin (.var 1 "_law_top" ⟨240, 19, 240, 27⟩) .Mult (.sub (.lc (.var 3 "_law_k" ⟨240, 31, 240, 37⟩) (.name 3 "_law_k" ⟨240, 42, 240, 48⟩) (.rng2 ⟨240, 52, 240, 57⟩ (.int 1 0 ⟨240, 58, 240, 59⟩) (.var 0 "_law_prime_here" ⟨240, 61, 240, 76⟩) ⟨240, 52, 240, 77⟩) (.cons (.cmp (.bin (.bin (.var 2 "_law_bottom" ⟨240, 81, 240, 92⟩) .Mult (.var 3 "_law_k" ⟨240, 95, 240, 101⟩) ⟨240, 81, 240, 101⟩) .Mod (.var 0 "_law_prime_here" ⟨240, 104, 240, 119⟩) ⟨240, 81, 240, 119⟩) .Eq (.int 1 0 ⟨240, 123, 240, 124⟩) ⟨240, 81, 240, 124⟩) (.nil)) [("_law_k", 3)] ⟨.function, [(".0", .local), ("_law_k", .local), ("_law_bottom", .free), ("_law_prime_here", .free)], false, false, []⟩ ⟨240, 30, 240, 125⟩) (.int 0 0 ⟨240, 126, 240, 127⟩) ⟨240, 30, 240, 128⟩) ⟨240, 19, 240, 128⟩) ⟨240, 8, 240, 128⟩)
 (.nil))
 (.nil) ⟨239, 4, 240, 128⟩)
 (.cons (.ret (.tup (.cons (.bin (.var 1 "_law_top" ⟨241, 12, 241, 20⟩) .Mod (.var 0 "_law_prime_here" ⟨241, 23, 241, 38⟩) ⟨241, 12, 241, 38⟩) (.cons (.int 1 0 ⟨241, 40, 241, 41⟩) (.nil))) 0 ⟨241, 11, 241, 42⟩) ⟨241, 4, 241, 42⟩)
 (.nil)))
theorem x__law_make : Txt ["_law_prime_here", "_law_top", "_law_bottom", "_law_k"] ["_law_prime_here", "_law_top", "_law_bottom"] n__law_make s__law_make m__law_make := ⟨⟨rfl, rfl, rfl, by decide +kernel, rfl, by decide +kernel, by decide +kernel⟩, by kernel_rfl, by decide +kernel⟩
abbrev N__law_plus : List Str := ["_law_prime_here", "_law_one", "_law_other"]
/-- _law_plus(_law_prime_here, _law_one, _law_other): 0 _law_prime_here 1 _law_one 2 _law_other -/
def n__law_plus : Nms := { fn := ["_law_make"], glo := [], cl := [], blt := [], exc := [], lam := [], lq := none }
def m__law_plus : MSs :=
 .cons (.ret (.call 0 "_law_make" ⟨243, 11, 243, 20⟩ (.cons (.var 0 "_law_prime_here" ⟨243, 21, 243, 36⟩) (.cons (.bin (.bin (.sub (.var 1 "_law_one" ⟨243, 38, 243, 46⟩) (.int 0 0 ⟨243, 47, 243, 48⟩) ⟨243, 38, 243, 49⟩) .Mult (.sub (.var 2 "_law_other" ⟨243, 52, 243, 62⟩) (.int 1 0 ⟨243, 63, 243, 64⟩) ⟨243, 52, 243, 65⟩) ⟨243, 38, 243, 65⟩) .Add (.bin (.sub (.var 2 "_law_other" ⟨243, 68, 243, 78⟩) (.int 0 0 ⟨243, 79, 243, 80⟩) ⟨243, 68, 243, 81⟩) .Mult (.sub (.var 1 "_law_one" ⟨243, 84, 243, 92⟩) (.int 1 0 ⟨243, 93, 243, 94⟩) ⟨243, 84, 243, 95⟩) ⟨243, 68, 243, 95⟩) ⟨243, 38, 243, 95⟩) (.cons (.bin (.sub (.var 1 "_law_one" ⟨243, 97, 243, 105⟩) (.int 1 0 ⟨243, 106, 243, 107⟩) ⟨243, 97, 243, 108⟩) .Mult (.sub (.var 2 "_law_other" ⟨243, 111, 243, 121⟩) (.int 1 0 ⟨243, 122, 243, 123⟩) ⟨243, 111, 243, 124⟩) ⟨243, 97, 243, 124⟩) (.nil)))) ⟨243, 11, 243, 125⟩) ⟨243, 4, 243, 125⟩)
 (.nil)
theorem x__law_plus : Txt ["_law_prime_here", "_law_one", "_law_other"] ["_law_prime_here", "_law_one", "_law_other"] n__law_plus s__law_plus m__law_plus := ⟨⟨rfl, rfl, rfl, by decide +kernel, rfl, by decide +kernel, by decide +kernel⟩, by kernel_rfl, by decide +kernel⟩
abbrev N__law_times : List Str := ["_law_prime_here", "_law_one", "_law_other"]
/-- _law_times(_law_prime_here, _law_one, _law_other): 0 _law_prime_here 1 _law_one 2 _law_other -/
def n__law_times : Nms := { fn := ["_law_make"], glo := [], cl := [], blt := [], exc := [], lam := [], lq := none }
def m__law_times : MSs :=
 .cons (.ret (.call 0 "_law_make" ⟨245, 11, 245, 20⟩ (.cons (.var 0 "_law_prime_here" ⟨245, 21, 245, 36⟩) (.cons (.bin (.sub (.var 1 "_law_one" ⟨245, 38, 245, 46⟩) (.int 0 0 ⟨245, 47, 245, 48⟩) ⟨245, 38, 245, 49⟩) .Mult (.sub (.var 2 "_law_other" ⟨245, 52, 245, 62⟩) (.int 0 0 ⟨245, 63, 245, 64⟩) ⟨245, 52, 245, 65⟩) ⟨245, 38, 245, 65⟩) (.cons (.bin (.sub (.var 1 "_law_one" ⟨245, 67, 245, 75⟩) (.int 1 0 ⟨245, 76, 245, 77⟩) ⟨245, 67, 245, 78⟩) .Mult (.sub (.var 2 "_law_other" ⟨245, 81, 245, 91⟩) (.int 1 0 ⟨245, 92, 245, 93⟩) ⟨245, 81, 245, 94⟩) ⟨245, 67, 245, 94⟩) (.nil)))) ⟨245, 11, 245, 95⟩) ⟨245, 4, 245, 95⟩)
 (.nil)
theorem x__law_times : Txt ["_law_prime_here", "_law_one", "_law_other"] ["_law_prime_here", "_law_one", "_law_other"] n__law_times s__law_times m__law_times := ⟨⟨rfl, rfl, rfl, by decide +kernel, rfl, by decide +kernel, by decide +kernel⟩, by kernel_rfl, by decide +kernel⟩
abbrev N__law_prime : List Str := ["_law_room_here", "_law_at", "_law_some"]
/-- _law_prime(_law_room_here): 0 _law_room_here 1 _law_at 2 _law_some -/
def n__law_prime : Nms := { fn := ["_law_take"], glo := [], cl := [], blt := [], exc := [], lam := [], lq := none }
def m__law_prime : MSs :=
 .cons (.asg (.name 1 "_law_at" ⟨247, 4, 247, 11⟩) (.call 0 "_law_take" ⟨247, 14, 247, 23⟩ (.cons (.var 0 "_law_room_here" ⟨247, 24, 247, 38⟩) (.cons (.int 9 0 ⟨247, 40, 247, 41⟩) (.nil))) ⟨247, 14, 247, 42⟩) ⟨247, 4, 247, 42⟩)
 (.cons (.ifs (.cmp (.var 1 "_law_at" ⟨248, 7, 248, 14⟩) .Eq (.int 8 0 ⟨248, 18, 248, 19⟩) ⟨248, 7, 248, 19⟩)
 (.cons (.asg (.name 2 "_law_some" ⟨249, 8, 249, 17⟩) (.lst (.cons (.int 11 0 ⟨249, 21, 249, 23⟩) (.cons (.int 13 0 ⟨249, 25, 249, 27⟩) (.cons (.int 17 0 ⟨249, 29, 249, 31⟩) (.cons (.int 19 0 ⟨249, 33, 249, 35⟩) (.cons (.int 23 0 ⟨249, 37, 249, 39⟩) (.cons (.int 29 0 ⟨249, 41, 249, 43⟩) (.cons (.int 31 0 ⟨249, 45, 249, 47⟩) (.cons (.int 37 0 ⟨249, 49, 249, 51⟩) (.cons (.int 41 0 ⟨249, 53, 249, 55⟩) (.cons (.int 43 0 ⟨249, 57, 249, 59⟩) (.cons (.int 47 0 ⟨249, 61, 249, 63⟩) (.cons (.int 53 0 ⟨249, 65, 249, 67⟩) (.cons (.int 59 0 ⟨249, 69, 249, 71⟩) (.cons (.int 61 0 ⟨249, 73, 249, 75⟩) (.cons (.int 67 0 ⟨249, 77, 249, 79⟩) (.cons (.int 71 0 ⟨249, 81, 249, 83⟩) (.cons (.int 73 0 ⟨249, 85, 249, 87⟩) (.cons (.int 79 0 ⟨249, 89, 249, 91⟩) (.cons (.int 83 0 ⟨249, 93, 249, 95⟩) (.cons (.int 89 0 ⟨249, 97, 249, 99⟩) (.nil))))))))))))))))))))) ⟨249, 20, 249, 100⟩) ⟨249, 8, 249, 100⟩)
 (.cons (.ret (.sub (.var 2 "_law_some" ⟨250, 15, 250, 24⟩) (.call 0 "_law_take" ⟨250, 25, 250, 34⟩ (.cons (.var 0 "_law_room_here" ⟨250, 35, 250, 49⟩) (.cons (.int 20 0 ⟨250, 51, 250, 53⟩) (.nil))) ⟨250, 25, 250, 54⟩) ⟨250, 15, 250, 55⟩) ⟨250, 8, 250, 55⟩)
 (.nil)))
 (.nil) ⟨248, 4, 250, 55⟩)
 (.cons (.ret (.sub (.lst (.cons (.int 0 0 ⟨251, 12, 251, 13⟩) (.cons (.int 0 0 ⟨251, 15, 251, 16⟩) (.cons (.int 2 0 ⟨251, 18, 251, 19⟩) (.cons (.int 3 0 ⟨251, 21, 251, 22⟩) (.cons (.int 5 0 ⟨251, 24, 251, 25⟩) (.cons (.int 7 0 ⟨251, 27, 251, 28⟩) (.cons (.int 97 0 ⟨251, 30, 251, 32⟩) (.cons (.int 0 0 ⟨251, 34, 251, 35⟩) (.nil))))))))) ⟨251, 11, 251, 36⟩) (.var 1 "_law_at" ⟨251, 37, 251, 44⟩) ⟨251, 11, 251, 45⟩) ⟨251, 4, 251, 45⟩)
 (.nil)))
theorem x__law_prime : Txt ["_law_room_here", "_law_at", "_law_some"] ["_law_room_here"] n__law_prime s__law_prime m__law_prime := ⟨⟨rfl, rfl, rfl, by decide +kernel, rfl, by decide +kernel, by decide +kernel⟩, by kernel_rfl, by decide +kernel⟩
abbrev N__law_number : List Str := ["_law_room_here", "_law_prime_here"]
/-- _law_number(_law_room_here, _law_prime_here): 0 _law_room_here 1 _law_prime_here -/
def n__law_number : Nms := { fn := ["_law_take", "_law_lowest"], glo := [], cl := [], blt := [], exc := [], lam := [], lq := none }
def m__law_number : MSs :=
 .cons (.ifs (.cmp (.var 1 "_law_prime_here" ⟨253, 7, 253, 22⟩) .Gt (.int 0 0 ⟨253, 25, 253, 26⟩) ⟨253, 7, 253, 26⟩)
 (.cons (.ret (.tup (.cons (.call 0 "_law_take" ⟨254, 16, 254, 25⟩ (.cons (.var 0 "_law_room_here" ⟨254, 26, 254, 40⟩) (.cons (.var 1 "_law_prime_here" ⟨254, 42, 254, 57⟩) (.nil))) ⟨254, 16, 254, 58⟩) (.cons (.int 1 0 ⟨254, 60, 254, 61⟩) (.nil))) 0 ⟨254, 15, 254, 62⟩) ⟨254, 8, 254, 62⟩)
 (.nil))
 (.nil) ⟨253, 4, 254, 62⟩)
 (.cons (.ifs (.cmp (.call 0 "_law_take" ⟨255, 7, 255, 16⟩ (.cons (.var 0 "_law_room_here" ⟨255, 17, 255, 31⟩) (.cons (.int 8 0 ⟨255, 33, 255, 34⟩) (.nil))) ⟨255, 7, 255, 35⟩) .Eq (.int 7 0 ⟨255, 39, 255, 40⟩) ⟨255, 7, 255, 40⟩)
 (.cons (.ret (.call 1 "_law_lowest" ⟨256, 15, 256, 26⟩ (.cons (.bin (.call 0 "_law_take" ⟨256, 27, 256, 36⟩ (.cons (.var 0 "_law_room_here" ⟨256, 37, 256, 51⟩) (.cons (.bin (.int 2 0 ⟨256, 53, 256, 54⟩) .Mult (.bin (.int 10 0 ⟨256, 57, 256, 59⟩) .Pow (.int 12 0 ⟨256, 63, 256, 65⟩) ⟨256, 57, 256, 65⟩) ⟨256, 53, 256, 65⟩) (.nil))) ⟨256, 27, 256, 66⟩) .Sub (.bin (.int 10 0 ⟨256, 69, 256, 71⟩) .Pow (.int 12 0 ⟨256, 75, 256, 77⟩) ⟨256, 69, 256, 77⟩) ⟨256, 27, 256, 77⟩) (.cons (.sub (.lst (.cons (.int 1 0 ⟨256, 80, 256, 81⟩) (.cons (.int 7 0 ⟨256, 83, 256, 84⟩) (.cons (.bin (.int 10 0 ⟨256, 86, 256, 88⟩) .Pow (.int 6 0 ⟨256, 92, 256, 93⟩) ⟨256, 86, 256, 93⟩) (.cons (.bin (.bin (.int 10 0 ⟨256, 95, 256, 97⟩) .Pow (.int 12 0 ⟨256, 101, 256, 103⟩) ⟨256, 95, 256, 103⟩) .Add (.int 39 0 ⟨256, 106, 256, 108⟩) ⟨256, 95, 256, 108⟩) (.nil))))) ⟨256, 79, 256, 109⟩) (.call 0 "_law_take" ⟨256, 110, 256, 119⟩ (.cons (.var 0 "_law_room_here" ⟨256, 120, 256, 134⟩) (.cons (.int 4 0 ⟨256, 136, 256, 137⟩) (.nil))) ⟨256, 110, 256, 138⟩) ⟨256, 79, 256, 139⟩) (.nil))) ⟨256, 15, 256, 140⟩) ⟨256, 8, 256, 140⟩)
 (.nil))
 (.nil) ⟨255, 4, 256, 140⟩)
 (.cons (.ret (.call 1 "_law_lowest" ⟨257, 11, 257, 22⟩ (.cons (.bin (.call 0 "_law_take" ⟨257, 23, 257, 32⟩ (.cons (.var 0 "_law_room_here" ⟨257, 33, 257, 47⟩) (.cons (.int 19 0 ⟨257, 49, 257, 51⟩) (.nil))) ⟨257, 23, 257, 52⟩) .Sub (.int 9 0 ⟨257, 55, 257, 56⟩) ⟨257, 23, 257, 56⟩) (.cons (.sub (.lst (.cons (.int 1 0 ⟨257, 59, 257, 60⟩) (.cons (.int 1 0 ⟨257, 62, 257, 63⟩) (.cons (.int 2 0 ⟨257, 65, 257, 66⟩) (.cons (.int 3 0 ⟨257, 68, 257, 69⟩) (.nil))))) ⟨257, 58, 257, 70⟩) (.call 0 "_law_take" ⟨257, 71, 257, 80⟩ (.cons (.var 0 "_law_room_here" ⟨257, 81, 257, 95⟩) (.cons (.int 4 0 ⟨257, 97, 257, 98⟩) (.nil))) ⟨257, 71, 257, 99⟩) ⟨257, 58, 257, 100⟩) (.nil))) ⟨257, 11, 257, 101⟩) ⟨257, 4, 257, 101⟩)
 (.nil)))
theorem x__law_number : Txt ["_law_room_here", "_law_prime_here"] ["_law_room_here", "_law_prime_here"] n__law_number s__law_number m__law_number := ⟨⟨rfl, rfl, rfl, by decide +kernel, rfl, by decide +kernel, by decide +kernel⟩, by kernel_rfl, by decide +kernel⟩
abbrev N__law_product : List Str := ["_law_room_here", "_law_many", "_law_share", "_law_place"]
/-- _law_product(_law_room_here, _law_many, _law_share): 0 _law_room_here 1 _law_many 2 _law_share 3 _law_place -/
def n__law_product : Nms := { fn := ["_law_take"], glo := [], cl := [], blt := ["tuple", "range"], exc := [], lam := [], lq := none }
def m__law_product : MSs :=
 .cons (.ret (.blt .tuple ⟨259, 11, 259, 16⟩ (.lc (.var 3 "_law_place" ⟨259, 18, 259, 28⟩) (.name 3 "_law_place" ⟨259, 33, 259, 43⟩) (.rng1 ⟨259, 47, 259, 52⟩ (.var 1 "_law_many" ⟨259, 53, 259, 62⟩) ⟨259, 47, 259, 63⟩) (.cons (.cmp (.call 0 "_law_take" ⟨259, 67, 259, 76⟩ (.cons (.var 0 "_law_room_here" ⟨259, 77, 259, 91⟩) (.cons (.var 2 "_law_share" ⟨259, 93, 259, 103⟩) (.nil))) ⟨259, 67, 259, 104⟩) .Eq (.int 0 0 ⟨259, 108, 259, 109⟩) ⟨259, 67, 259, 109⟩) (.nil)) [("_law_place", 3)] ⟨.function, [(".0", .local), ("_law_place", .local), ("_law_take", .globalImplicit), ("_law_room_here", .free), ("_law_share", .free)], false, false, []⟩ ⟨259, 17, 259, 110⟩) (.nil) ⟨259, 11, 259, 111⟩) ⟨259, 4, 259, 111⟩)
 (.nil)
theorem x__law_product : Txt ["_law_room_here", "_law_many", "_law_share", "_law_place"] ["_law_room_here", "_law_many", "_law_share"] n__law_product s__law_product m__law_product := ⟨⟨rfl, rfl, rfl, by decide +kernel, rfl, by decide +kernel, by decide +kernel⟩, by kernel_rfl, by decide +kernel⟩
abbrev N__law_terms : List Str := ["_law_room_here", "_law_prime_here", "_law_many", "_law_most", "_law_found", "_law_k", "_law_product_here"]
/-- _law_terms(_law_room_here, _law_prime_here, _law_many, _law_most): 0 _law_room_here 1 _law_prime_here 2 _law_many 3 _law_most 4 _law_found 5 _law_k 6 _law_product_here -/
def n__law_terms : Nms := { fn := ["_law_take", "_law_product", "_law_number"], glo := [], cl := [], blt := ["range"], exc := [], lam := [], lq := none }
def m__law_terms : MSs :=
 .cons (.asg (.name 4 "_law_found" ⟨261, 4, 261, 14⟩) (.lst (.nil) ⟨261, 17, 261, 19⟩) ⟨261, 4, 261, 19⟩)
 (.cons (.fors (.name 5 "_law_k" ⟨262, 8, 262, 14⟩) (.rng1 ⟨262, 18, 262, 23⟩ (.call 0 "_law_take" ⟨262, 24, 262, 33⟩ (.cons (.var 0 "_law_room_here" ⟨262, 34, 262, 48⟩) (.cons (.bin (.var 3 "_law_most" ⟨262, 50, 262, 59⟩) .Add (.int 1 0 ⟨262, 62, 262, 63⟩) ⟨262, 50, 262, 63⟩) (.nil))) ⟨262, 24, 262, 64⟩) ⟨262, 18, 262, 65⟩)
 (.cons (.asg (.name 6 "_law_product_here" ⟨263, 8, 263, 25⟩) (.call 1 "_law_product" ⟨263, 28, 263, 40⟩ (.cons (.var 0 "_law_room_here" ⟨263, 41, 263, 55⟩) (.cons (.var 2 "_law_many" ⟨263, 57, 263, 66⟩) (.cons (.bin (.int 2 0 ⟨263, 68, 263, 69⟩) .Add (.call 0 "_law_take" ⟨263, 72, 263, 81⟩ (.cons (.var 0 "_law_room_here" ⟨263, 82, 263, 96⟩) (.cons (.int 2 0 ⟨263, 98, 263, 99⟩) (.nil))) ⟨263, 72, 263, 100⟩) ⟨263, 68, 263, 100⟩) (.nil)))) ⟨263, 28, 263, 101⟩) ⟨263, 8, 263, 101⟩)
 (.cons (.expr (.bm .append (.var 4 "_law_found" ⟨264, 8, 264, 18⟩) ⟨264, 8, 264, 25⟩ (.tup (.cons (.var 6 "_law_product_here" ⟨264, 27, 264, 44⟩) (.cons (.call 2 "_law_number" ⟨264, 46, 264, 57⟩ (.cons (.var 0 "_law_room_here" ⟨264, 58, 264, 72⟩) (.cons (.var 1 "_law_prime_here" ⟨264, 74, 264, 89⟩) (.nil))) ⟨264, 46, 264, 90⟩) (.nil))) 0 ⟨264, 26, 264, 91⟩) ⟨264, 8, 264, 92⟩) ⟨264, 8, 264, 92⟩)
 (.nil))) ⟨262, 4, 264, 92⟩)
 (.cons (.ret (.var 4 "_law_found" ⟨265, 11, 265, 21⟩) ⟨265, 4, 265, 21⟩)
 (.nil)))
theorem x__law_terms : Txt ["_law_room_here", "_law_prime_here", "_law_many", "_law_most", "_law_found", "_law_k", "_law_product_here"] ["_law_room_here", "_law_prime_here", "_law_many", "_law_most"] n__law_terms s__law_terms m__law_terms := ⟨⟨rfl, rfl, rfl, by decide +kernel, rfl, by decide +kernel, by decide +kernel⟩, by kernel_rfl, by decide +kernel⟩
abbrev N__law_gather : List Str := ["_law_prime_here", "_law_terms_here", "_law_found", "_law_product_here", "_law_number_here", "_law_rows", "_law_many"]
/-- _law_gather(_law_prime_here, _law_terms_here): 0 _law_prime_here 1 _law_terms_here 2 _law_found 3 _law_product_here 4 _law_number_here 5 _law_rows 6 _law_many -/
def n__law_gather : Nms := { fn := ["_law_plus"], glo := [], cl := [], blt := ["len", "sorted"], exc := [], lam := [], lq := none }
def m__law_gather : MSs :=
 .cons (.asg (.name 2 "_law_found" ⟨267, 4, 267, 14⟩) (.dic0 ⟨267, 17, 267, 19⟩) ⟨267, 4, 267, 19⟩)
 (.cons (.fors (.tup (.cons (.name 3 "_law_product_here" ⟨268, 8, 268, 25⟩) (.cons (.name 4 "_law_number_here" ⟨268, 27, 268, 43⟩) (.nil))) 0 ⟨268, 8, 268, 43⟩) (.val (.var 1 "_law_terms_here" ⟨268, 47, 268, 62⟩))
 (.cons (.asg (.sub (.var 2 "_law_found" ⟨269, 8, 269, 18⟩) (.var 3 "_law_product_here" ⟨269, 19, 269, 36⟩) ⟨269, 8, 269, 37⟩) (.call 0 "_law_plus" ⟨269, 40, 269, 49⟩ (.cons (.var 0 "_law_prime_here" ⟨269, 50, 269, 65⟩) (.cons (.dget (.var 2 "_law_found" ⟨269, 67, 269, 77⟩) (.var 3 "_law_product_here" ⟨269, 82, 269, 99⟩) (.tup (.cons (.int 0 0 ⟨269, 102, 269, 103⟩) (.cons (.int 1 0 ⟨269, 105, 269, 106⟩) (.nil))) 0 ⟨269, 101, 269, 107⟩) ⟨269, 67, 269, 81⟩ ⟨269, 67, 269, 108⟩) (.cons (.var 4 "_law_number_here" ⟨269, 110, 269, 126⟩) (.nil)))) ⟨269, 40, 269, 127⟩) ⟨269, 8, 269, 127⟩)
 (.nil)) ⟨268, 4, 269, 127⟩)
 (.cons (.lock (.asgL 5 "_law_rows" ⟨270, 4, 270, 13⟩ (.tup (.cons (.blt .len ⟨270, 18, 270, 21⟩ (.var 3 "_law_product_here" ⟨270, 22, 270, 39⟩) (.nil) ⟨270, 18, 270, 40⟩) (.cons (.var 3 "_law_product_here" ⟨270, 42, 270, 59⟩) (.cons (.sub (.var 2 "_law_found" ⟨270, 61, 270, 71⟩) (.var 3 "_law_product_here" ⟨270, 72, 270, 89⟩) ⟨270, 61, 270, 90⟩) (.nil)))) 0 ⟨270, 17, 270, 91⟩) (.name 3 "_law_product_here" ⟨270, 96, 270, 113⟩) (.val (.var 2 "_law_found" ⟨270, 117, 270, 127⟩)) (.cons (.cmp (.sub (.var 2 "_law_found" ⟨270, 131, 270, 141⟩) (.var 3 "_law_product_here" ⟨270, 142, 270, 159⟩) ⟨270, 131, 270, 160⟩) .NotEq (.tup (.cons (.int 0 0 ⟨270, 165, 270, 166⟩) (.cons (.int 1 0 ⟨270, 168, 270, 169⟩) (.nil))) 0 ⟨270, 164, 270, 170⟩) ⟨270, 131, 270, 170⟩) (.nil)) [("_law_product_here", 3)] ⟨.function, [(".0", .local), ("_law_product_here", .local), ("len", .globalImplicit), ("_law_found", .free)], false, false, []⟩ ⟨270, 16, 270, 171⟩ ⟨270, 4, 270, 171⟩))
 (.cons (.ret (.lc (.tup (.cons (.var 3 "_law_product_here" ⟨271, 13, 271, 30⟩) (.cons (.var 4 "_law_number_here" ⟨271, 32, 271, 48⟩) (.nil))) 0 ⟨271, 12, 271, 49⟩) (.tup (.cons (.name 6 "_law_many" ⟨271, 54, 271, 63⟩) (.cons (.name 3 "_law_product_here" ⟨271, 65, 271, 82⟩) (.cons (.name 4 "_law_number_here" ⟨271, 84, 271, 100⟩) (.nil)))) 0 ⟨271, 54, 271, 100⟩) (.val (.blt .sorted ⟨271, 104, 271, 110⟩ (.var 5 "_law_rows" ⟨271, 111, 271, 120⟩) (.nil) ⟨271, 104, 271, 121⟩)) (.nil) [("_law_many", 6), ("_law_product_here", 3), ("_law_number_here", 4)] ⟨.function, [(".0", .local), ("_law_many", .local), ("_law_product_here", .local), ("_law_number_here", .local)], false, false, []⟩ ⟨271, 11, 271, 122⟩) ⟨271, 4, 271, 122⟩)
 (.nil))))
theorem x__law_gather : Txt ["_law_prime_here", "_law_terms_here", "_law_found", "_law_product_here", "_law_number_here", "_law_rows", "_law_many"] ["_law_prime_here", "_law_terms_here"] n__law_gather s__law_gather m__law_gather := ⟨⟨rfl, rfl, rfl, by decide +kernel, rfl, by decide +kernel, by decide +kernel⟩, by kernel_rfl, by decide +kernel⟩
abbrev N__law_mult : List Str := ["_law_prime_here", "_law_one", "_law_other", "_law_found", "_law_product_here", "_law_number_here", "_law_more", "_law_factor", "_law_both"]
/-- _law_mult(_law_prime_here, _law_one, _law_other): 0 _law_prime_here 1 _law_one 2 _law_other 3 _law_found 4 _law_product_here 5 _law_number_here 6 _law_more 7 _law_factor 8 _law_both -/
def n__law_mult : Nms := { fn := ["_law_times", "_law_gather"], glo := [], cl := [], blt := ["tuple", "sorted", "set"], exc := [], lam := [], lq := none }
def m__law_mult : MSs :=
 .cons (.asg (.name 3 "_law_found" ⟨273, 4, 273, 14⟩) (.lst (.nil) ⟨273, 17, 273, 19⟩) ⟨273, 4, 273, 19⟩)
 (.cons (.fors (.tup (.cons (.name 4 "_law_product_here" ⟨274, 8, 274, 25⟩) (.cons (.name 5 "_law_number_here" ⟨274, 27, 274, 43⟩) (.nil))) 0 ⟨274, 8, 274, 43⟩) (.val (.var 1 "_law_one" ⟨274, 47, 274, 55⟩))
 (.cons (.fors (.tup (.cons (.name 6 "_law_more" ⟨275, 12, 275, 21⟩) (.cons (.name 7 "_law_factor" ⟨275, 23, 275, 34⟩) (.nil))) 0 ⟨275, 12, 275, 34⟩) (.val (.var 2 "_law_other" ⟨275, 38, 275, 48⟩))
 (.cons (.asg (.name 8 "_law_both" ⟨276, 12, 276, 21⟩) (.blt .tuple ⟨276, 24, 276, 29⟩ (.sset ⟨276, 30, 276, 36⟩ ⟨276, 37, 276, 40⟩ (.bin (.var 4 "_law_product_here" ⟨276, 41, 276, 58⟩) .Add (.var 6 "_law_more" ⟨276, 61, 276, 70⟩) ⟨276, 41, 276, 70⟩) ⟨276, 37, 276, 71⟩ ⟨276, 30, 276, 72⟩) (.nil) ⟨276, 24, 276, 73⟩) ⟨276, 12, 276, 73⟩)
 (.cons (.expr (.bm .append (.var 3 "_law_found" ⟨277, 12, 277, 22⟩) ⟨277, 12, 277, 29⟩ (.tup (.cons (.var 8 "_law_both" ⟨277, 31, 277, 40⟩) (.cons (.call 0 "_law_times" ⟨277, 42, 277, 52⟩ (.cons (.var 0 "_law_prime_here" ⟨277, 53, 277, 68⟩) (.cons (.var 5 "_law_number_here" ⟨277, 70, 277, 86⟩) (.cons (.var 7 "_law_factor" ⟨277, 88, 277, 99⟩) (.nil)))) ⟨277, 42, 277, 100⟩) (.nil))) 0 ⟨277, 30, 277, 101⟩) ⟨277, 12, 277, 102⟩) ⟨277, 12, 277, 102⟩)
 (.nil))) ⟨275, 8, 277, 102⟩)
 (.nil)) ⟨274, 4, 277, 102⟩)
 (.cons (.ret (.call 1 "_law_gather" ⟨278, 11, 278, 22⟩ (.cons (.var 0 "_law_prime_here" ⟨278, 23, 278, 38⟩) (.cons (.var 3 "_law_found" ⟨278, 40, 278, 50⟩) (.nil))) ⟨278, 11, 278, 51⟩) ⟨278, 4, 278, 51⟩)
 (.nil)))
theorem x__law_mult : Txt ["_law_prime_here", "_law_one", "_law_other", "_law_found", "_law_product_here", "_law_number_here", "_law_more", "_law_factor", "_law_both"] ["_law_prime_here", "_law_one", "_law_other"] n__law_mult s__law_mult m__law_mult := ⟨⟨rfl, rfl, rfl, by decide +kernel, rfl, by decide +kernel, by decide +kernel⟩, by kernel_rfl, by decide +kernel⟩
abbrev N__law_kind : List Str := ["_law_call", "_law_kept", "e", "_law_kinds"]
/-- _law_kind(_law_call): 0 _law_call 1 _law_kept 2 e 3 _law_kinds -/
def n__law_kind : Nms := { fn := [], glo := ["FalseError", "NoFilling", "NoOrder", "NoSums", "ValueError"], cl := [], blt := ["isinstance"], exc := [], lam := [], lq := none }
def m__law_kind : MSs :=
 .cons (.asg (.name 1 "_law_kept" ⟨280, 4, 280, 13⟩) (.non 0 ⟨280, 16, 280, 20⟩) ⟨280, 4, 280, 20⟩)
 (.cons (.trk (.cons (.calp "_law_call" ⟨282, 8, 282, 17⟩ ⟨282, 8, 282, 19⟩ ⟨282, 8, 282, 19⟩)
 (.nil)) 0 "FalseError" ⟨283, 11, 283, 21⟩ 2 "e" 1 "_law_kept" ⟨284, 8, 284, 17⟩ ⟨284, 20, 284, 21⟩ ⟨284, 8, 284, 21⟩ ⟨283, 4, 284, 21⟩ ⟨281, 4, 284, 21⟩)
 (.cons (.ifs (.cmp (.var 1 "_law_kept" ⟨285, 7, 285, 16⟩) .Is (.non 0 ⟨285, 20, 285, 24⟩) ⟨285, 7, 285, 24⟩)
 (.cons (.ret (.str "told" 0 ⟨286, 15, 286, 21⟩) ⟨286, 8, 286, 21⟩)
 (.nil))
 (.nil) ⟨285, 4, 286, 21⟩)
 (.cons (.asg (.name 3 "_law_kinds" ⟨287, 4, 287, 14⟩) (.lst (.cons (.blt .isinstance ⟨287, 18, 287, 28⟩ (.var 1 "_law_kept" ⟨287, 29, 287, 38⟩) (.cons (.glo 1 "NoFilling" ⟨287, 40, 287, 49⟩) (.nil)) ⟨287, 18, 287, 50⟩) (.cons (.blt .isinstance ⟨287, 52, 287, 62⟩ (.var 1 "_law_kept" ⟨287, 63, 287, 72⟩) (.cons (.glo 2 "NoOrder" ⟨287, 74, 287, 81⟩) (.nil)) ⟨287, 52, 287, 82⟩) (.cons (.blt .isinstance ⟨287, 84, 287, 94⟩ (.var 1 "_law_kept" ⟨287, 95, 287, 104⟩) (.cons (.glo 3 "NoSums" ⟨287, 106, 287, 112⟩) (.nil)) ⟨287, 84, 287, 113⟩) (.nil)))) ⟨287, 17, 287, 114⟩) ⟨287, 4, 287, 114⟩)
 (.cons (.ifs (.or (.cons (.cmp (.bm .count (.var 3 "_law_kinds" ⟨288, 7, 288, 17⟩) ⟨288, 7, 288, 23⟩ (.bl true 0 ⟨288, 24, 288, 28⟩) ⟨288, 7, 288, 29⟩) .NotEq (.int 1 0 ⟨288, 33, 288, 34⟩) ⟨288, 7, 288, 34⟩) (.cons (.not (.blt .isinstance ⟨288, 42, 288, 52⟩ (.var 1 "_law_kept" ⟨288, 53, 288, 62⟩) (.cons (.glo 4 "ValueError" ⟨288, 64, 288, 74⟩) (.nil)) ⟨288, 42, 288, 75⟩) ⟨288, 38, 288, 75⟩) (.nil))) ⟨288, 7, 288, 75⟩)
 (.cons (.ret (.str "other" 0 ⟨289, 15, 289, 22⟩) ⟨289, 8, 289, 22⟩)
 (.nil))
 (.nil) ⟨288, 4, 289, 22⟩)
 (.cons (.ret (.sub (.lst (.cons (.str "filling" 0 ⟨290, 12, 290, 21⟩) (.cons (.str "order" 0 ⟨290, 23, 290, 30⟩) (.cons (.str "sums" 0 ⟨290, 32, 290, 38⟩) (.nil)))) ⟨290, 11, 290, 39⟩) (.bm .index (.var 3 "_law_kinds" ⟨290, 40, 290, 50⟩) ⟨290, 40, 290, 56⟩ (.bl true 0 ⟨290, 57, 290, 61⟩) ⟨290, 40, 290, 62⟩) ⟨290, 11, 290, 63⟩) ⟨290, 4, 290, 63⟩)
 (.nil))))))
theorem x__law_kind : FnScope ["_law_call", "_law_kept", "e", "_law_kinds"] ["_law_call"] (defScope s__law_kind) ∧ eSs m__law_kind = defBody s__law_kind := ⟨⟨rfl, rfl, rfl, by decide +kernel, rfl, by decide +kernel, by decide +kernel⟩, by kernel_rfl⟩
abbrev N__law_put_in : List Str := ["_law_prime_here", "_law_terms_here", "_law_rows", "_law_found", "_law_product_here", "_law_number_here", "_law_part", "_law_place"]
/-- _law_put_in(_law_prime_here, _law_terms_here, _law_rows): 0 _law_prime_here 1 _law_terms_here 2 _law_rows 3 _law_found 4 _law_product_here 5 _law_number_here 6 _law_part 7 _law_place -/
def n__law_put_in : Nms := { fn := ["_law_mult", "_law_gather"], glo := [], cl := [], blt := [], exc := [], lam := [], lq := none }
def m__law_put_in : MSs :=
 .cons (.asg (.name 3 "_law_found" ⟨292, 4, 292, 14⟩) (.lst (.nil) ⟨292, 17, 292, 19⟩) ⟨292, 4, 292, 19⟩)
 (.cons (.fors (.tup (.cons (.name 4 "_law_product_here" ⟨293, 8, 293, 25⟩) (.cons (.name 5 "_law_number_here" ⟨293, 27, 293, 43⟩) (.nil))) 0 ⟨293, 8, 293, 43⟩) (.val (.var 1 "_law_terms_here" ⟨293, 47, 293, 62⟩))
 (.cons (.asg (.name 6 "_law_part" ⟨294, 8, 294, 17⟩) (.lst (.cons (.tup (.cons (.tup (.nil) 0 ⟨294, 22, 294, 24⟩) (.cons (.var 5 "_law_number_here" ⟨294, 26, 294, 42⟩) (.nil))) 0 ⟨294, 21, 294, 43⟩) (.nil)) ⟨294, 20, 294, 44⟩) ⟨294, 8, 294, 44⟩)
 (.cons (.fors (.name 7 "_law_place" ⟨295, 12, 295, 22⟩) (.val (.var 4 "_law_product_here" ⟨295, 26, 295, 43⟩))
 (.cons (.asg (.name 6 "_law_part" ⟨296, 12, 296, 21⟩) (.call 0 "_law_mult" ⟨296, 24, 296, 33⟩ (.cons (.var 0 "_law_prime_here" ⟨296, 34, 296, 49⟩) (.cons (.var 6 "_law_part" ⟨296, 51, 296, 60⟩) (.cons (.sub (.var 2 "_law_rows" ⟨296, 62, 296, 71⟩) (.var 7 "_law_place" ⟨296, 72, 296, 82⟩) ⟨296, 62, 296, 83⟩) (.nil)))) ⟨296, 24, 296, 84⟩) ⟨296, 12, 296, 84⟩)
 (.nil)) ⟨295, 8, 296, 84⟩)
 (.cons (.asg (.name 3 "_law_found" ⟨297, 8, 297, 18⟩) (.bin (.var 3 "_law_found" ⟨297, 21, 297, 31⟩) .Add (.var 6 "_law_part" ⟨297, 34, 297, 43⟩) ⟨297, 21, 297, 43⟩) ⟨297, 8, 297, 43⟩)
 (.nil)))) ⟨293, 4, 297, 43⟩)
 (.cons (.ret (.call 1 "_law_gather" ⟨298, 11, 298, 22⟩ (.cons (.var 0 "_law_prime_here" ⟨298, 23, 298, 38⟩) (.cons (.var 3 "_law_found" ⟨298, 40, 298, 50⟩) (.nil))) ⟨298, 11, 298, 51⟩) ⟨298, 4, 298, 51⟩)
 (.nil)))
theorem x__law_put_in : Txt ["_law_prime_here", "_law_terms_here", "_law_rows", "_law_found", "_law_product_here", "_law_number_here", "_law_part", "_law_place"] ["_law_prime_here", "_law_terms_here", "_law_rows"] n__law_put_in s__law_put_in m__law_put_in := ⟨⟨rfl, rfl, rfl, by decide +kernel, rfl, by decide +kernel, by decide +kernel⟩, by kernel_rfl, by decide +kernel⟩
abbrev N_law : List Str := ["_law_script", "_law_k", "_law_room_here", "_law_prime_here", "_law_field", "_law_due", "_law_rows", "_law_handed", "_law_found", "_law_plain", "_law_far", "_law_at", "_law_odd", "_law_one", "_law_reach", "_law_sums", "_law_thing", "_law_row", "_law_some", "_law_place", "_law_product_here", "_law_number_here"]
/-- law(_law_script): 0 _law_script 1 _law_k 2 _law_room_here 3 _law_prime_here 4 _law_field 5 _law_due 6 _law_rows 7 _law_handed 8 _law_found 9 _law_plain 10 _law_far 11 _law_at 12 _law_odd 13 _law_one 14 _law_reach 15 _law_sums 16 _law_thing 17 _law_row 18 _law_some 19 _law_place 20 _law_product_here 21 _law_number_here -/
def n_law : Nms := { fn := ["_law_room", "_law_prime", "_law_gather", "_law_terms", "_law_take", "_law_put_in"], glo := ["Sum"], cl := ["Field", "Sum"], blt := ["range", "max", "min", "len", "list", "isinstance", "int", "tuple"], exc := [], lam := ["_law_kind"], lq := some "law.<locals>." }
def m_law : MSs :=
 .cons (.fors (.name 1 "_law_k" ⟨300, 8, 300, 14⟩) (.rng1 ⟨300, 18, 300, 23⟩ (.blt .max2 ⟨300, 24, 300, 27⟩ (.int 1 0 ⟨300, 28, 300, 29⟩) (.cons (.blt .min2 ⟨300, 31, 300, 34⟩ (.blt .len ⟨300, 35, 300, 38⟩ (.var 0 "_law_script" ⟨300, 39, 300, 50⟩) (.nil) ⟨300, 35, 300, 51⟩) (.cons (.int 24 0 ⟨300, 53, 300, 55⟩) (.nil)) ⟨300, 31, 300, 56⟩) (.nil)) ⟨300, 24, 300, 57⟩) ⟨300, 18, 300, 58⟩)
 (.cons (.asg (.name 2 "_law_room_here" ⟨301, 8, 301, 22⟩) (.call 0 "_law_room" ⟨301, 25, 301, 34⟩ (.cons (.var 0 "_law_script" ⟨301, 35, 301, 46⟩) (.cons (.var 1 "_law_k" ⟨301, 48, 301, 54⟩) (.nil))) ⟨301, 25, 301, 55⟩) ⟨301, 8, 301, 55⟩)
 (.cons (.asg (.name 3 "_law_prime_here" ⟨302, 8, 302, 23⟩) (.call 1 "_law_prime" ⟨302, 26, 302, 36⟩ (.cons (.var 2 "_law_room_here" ⟨302, 37, 302, 51⟩) (.nil)) ⟨302, 26, 302, 52⟩) ⟨302, 8, 302, 52⟩)
 (.cons (.asg (.name 4 "_law_field" ⟨303, 8, 303, 18⟩) (.make 0 "Field" ⟨303, 21, 303, 26⟩ (.cons (.var 3 "_law_prime_here" ⟨303, 27, 303, 42⟩) (.nil)) ⟨303, 21, 303, 43⟩) ⟨303, 8, 303, 43⟩)
 (.cons (.asg (.name 5 "_law_due" ⟨304, 8, 304, 16⟩) (.call 2 "_law_gather" ⟨304, 19, 304, 30⟩ (.cons (.var 3 "_law_prime_here" ⟨304, 31, 304, 46⟩) (.cons (.call 3 "_law_terms" ⟨304, 48, 304, 58⟩ (.cons (.var 2 "_law_room_here" ⟨304, 59, 304, 73⟩) (.cons (.var 3 "_law_prime_here" ⟨304, 75, 304, 90⟩) (.cons (.int 4 0 ⟨304, 92, 304, 93⟩) (.cons (.int 5 0 ⟨304, 95, 304, 96⟩) (.nil))))) ⟨304, 48, 304, 97⟩) (.nil))) ⟨304, 19, 304, 98⟩) ⟨304, 8, 304, 98⟩)
 (.cons (.asgL 6 "_law_rows" ⟨305, 8, 305, 17⟩ (.call 2 "_law_gather" ⟨305, 21, 305, 32⟩ (.cons (.var 3 "_law_prime_here" ⟨305, 33, 305, 48⟩) (.cons (.call 3 "_law_terms" ⟨305, 50, 305, 60⟩ (.cons (.var 2 "_law_room_here" ⟨305, 61, 305, 75⟩) (.cons (.var 3 "_law_prime_here" ⟨305, 77, 305, 92⟩) (.cons (.int 5 0 ⟨305, 94, 305, 95⟩) (.cons (.int 3 0 ⟨305, 97, 305, 98⟩) (.nil))))) ⟨305, 50, 305, 99⟩) (.nil))) ⟨305, 21, 305, 100⟩) (.name 1 "_law_k" ⟨305, 105, 305, 111⟩) (.rng1 ⟨305, 115, 305, 120⟩ (.bin (.int 4 0 ⟨305, 121, 305, 122⟩) .Add (.call 4 "_law_take" ⟨305, 125, 305, 134⟩ (.cons (.var 2 "_law_room_here" ⟨305, 135, 305, 149⟩) (.cons (.int 3 0 ⟨305, 151, 305, 152⟩) (.nil))) ⟨305, 125, 305, 153⟩) ⟨305, 121, 305, 153⟩) ⟨305, 115, 305, 154⟩) (.nil) [("_law_k", 1)] ⟨.function, [(".0", .local), ("_law_k", .local), ("_law_gather", .globalImplicit), ("_law_terms", .globalImplicit), ("_law_prime_here", .free), ("_law_room_here", .free)], false, false, []⟩ ⟨305, 20, 305, 155⟩ ⟨305, 8, 305, 155⟩)
 (.cons (.asg (.name 13 "_law_one" ⟨306, 8, 306, 16⟩) (.make 1 "Sum" ⟨306, 19, 306, 22⟩ (.cons (.var 4 "_law_field" ⟨306, 23, 306, 33⟩) (.cons (.var 5 "_law_due" ⟨306, 35, 306, 43⟩) (.nil))) ⟨306, 19, 306, 44⟩) ⟨306, 8, 306, 44⟩)
 (.cons (.asg (.name 15 "_law_sums" ⟨307, 8, 307, 17⟩) (.lc (.make 1 "Sum" ⟨307, 21, 307, 24⟩ (.cons (.make 0 "Field" ⟨307, 25, 307, 30⟩ (.cons (.var 3 "_law_prime_here" ⟨307, 31, 307, 46⟩) (.nil)) ⟨307, 25, 307, 47⟩) (.cons (.var 17 "_law_row" ⟨307, 49, 307, 57⟩) (.nil))) ⟨307, 21, 307, 58⟩) (.name 17 "_law_row" ⟨307, 63, 307, 71⟩) (.val (.var 6 "_law_rows" ⟨307, 75, 307, 84⟩)) (.nil) [("_law_row", 17)] ⟨.function, [(".0", .local), ("_law_row", .local), ("Sum", .globalImplicit), ("Field", .globalImplicit), ("_law_prime_here", .free)], false, false, []⟩ ⟨307, 20, 307, 85⟩) ⟨307, 8, 307, 85⟩)
 (.cons (.asg (.name 7 "_law_handed" ⟨308, 8, 308, 19⟩) (.blt .list ⟨308, 22, 308, 26⟩ (.var 15 "_law_sums" ⟨308, 27, 308, 36⟩) (.nil) ⟨308, 22, 308, 37⟩) ⟨308, 8, 308, 37⟩)
 (.cons (.asg (.name 8 "_law_found" ⟨309, 8, 309, 18⟩) (.own (.var 13 "_law_one" ⟨309, 21, 309, 29⟩) "put_in" ⟨309, 21, 309, 36⟩ (.cons (.var 7 "_law_handed" ⟨309, 37, 309, 48⟩) (.nil)) ⟨309, 21, 309, 49⟩) ⟨309, 8, 309, 49⟩)
 (.cons (.ifs (.or (.cons (.not (.blt .isinstance ⟨310, 15, 310, 25⟩ (.var 8 "_law_found" ⟨310, 26, 310, 36⟩) (.cons (.glo 0 "Sum" ⟨310, 38, 310, 41⟩) (.nil)) ⟨310, 15, 310, 42⟩) ⟨310, 11, 310, 42⟩) (.cons (.cmp (.own (.var 8 "_law_found" ⟨310, 46, 310, 56⟩) "terms" ⟨310, 46, 310, 62⟩ (.nil) ⟨310, 46, 310, 64⟩) .NotEq (.call 5 "_law_put_in" ⟨310, 68, 310, 79⟩ (.cons (.var 3 "_law_prime_here" ⟨310, 80, 310, 95⟩) (.cons (.var 5 "_law_due" ⟨310, 97, 310, 105⟩) (.cons (.var 6 "_law_rows" ⟨310, 107, 310, 116⟩) (.nil)))) ⟨310, 68, 310, 117⟩) ⟨310, 46, 310, 117⟩) (.nil))) ⟨310, 11, 310, 117⟩)
 (.cons (.ret (.bl false 0 ⟨311, 19, 311, 24⟩) ⟨311, 12, 311, 24⟩)
 (.nil))
 (.nil) ⟨310, 8, 311, 24⟩)
 (.cons (.ifs (.or (.cons (.bx .neL (.var 7 "_law_handed" ⟨312, 11, 312, 22⟩) (.var 15 "_law_sums" ⟨312, 26, 312, 35⟩) ⟨312, 11, 312, 35⟩) (.cons (.cmp (.own (.var 13 "_law_one" ⟨312, 39, 312, 47⟩) "terms" ⟨312, 39, 312, 53⟩ (.nil) ⟨312, 39, 312, 55⟩) .NotEq (.var 5 "_law_due" ⟨312, 59, 312, 67⟩) ⟨312, 39, 312, 67⟩) (.nil))) ⟨312, 11, 312, 67⟩)
 (.cons (.ret (.bl false 0 ⟨313, 19, 313, 24⟩) ⟨313, 12, 313, 24⟩)
 (.nil))
 (.nil) ⟨312, 8, 313, 24⟩)
 (.cons (.ifs (.cmp (.lc (.own (.var 18 "_law_some" ⟨314, 12, 314, 21⟩) "terms" ⟨314, 12, 314, 27⟩ (.nil) ⟨314, 12, 314, 29⟩) (.name 18 "_law_some" ⟨314, 34, 314, 43⟩) (.val (.var 15 "_law_sums" ⟨314, 47, 314, 56⟩)) (.nil) [("_law_some", 18)] ⟨.function, [(".0", .local), ("_law_some", .local)], false, false, []⟩ ⟨314, 11, 314, 57⟩) .NotEq (.var 6 "_law_rows" ⟨314, 61, 314, 70⟩) ⟨314, 11, 314, 70⟩)
 (.cons (.ret (.bl false 0 ⟨315, 19, 315, 24⟩) ⟨315, 12, 315, 24⟩)
 (.nil))
 (.nil) ⟨314, 8, 315, 24⟩)
 (.cons (.asgL 9 "_law_plain" ⟨316, 8, 316, 18⟩ (.make 1 "Sum" ⟨316, 22, 316, 25⟩ (.cons (.var 4 "_law_field" ⟨316, 26, 316, 36⟩) (.cons (.lst (.cons (.tup (.cons (.tup (.cons (.var 19 "_law_place" ⟨316, 41, 316, 51⟩) (.nil)) 0 ⟨316, 40, 316, 53⟩) (.cons (.tup (.cons (.int 1 0 ⟨316, 56, 316, 57⟩) (.cons (.int 1 0 ⟨316, 59, 316, 60⟩) (.nil))) 0 ⟨316, 55, 316, 61⟩) (.nil))) 0 ⟨316, 39, 316, 62⟩) (.nil)) ⟨316, 38, 316, 63⟩) (.nil))) ⟨316, 22, 316, 64⟩) (.name 19 "_law_place" ⟨316, 69, 316, 79⟩) (.rng1 ⟨316, 83, 316, 88⟩ (.int 4 0 ⟨316, 89, 316, 90⟩) ⟨316, 83, 316, 91⟩) (.nil) [("_law_place", 19)] ⟨.function, [(".0", .local), ("_law_place", .local), ("Sum", .globalImplicit), ("_law_field", .free)], false, false, []⟩ ⟨316, 21, 316, 92⟩ ⟨316, 8, 316, 92⟩)
 (.cons (.ifs (.cmp (.own (.var 13 "_law_one" ⟨317, 11, 317, 19⟩) "put_in" ⟨317, 11, 317, 26⟩ (.cons (.var 9 "_law_plain" ⟨317, 27, 317, 37⟩) (.nil)) ⟨317, 11, 317, 38⟩) .NotEq (.var 13 "_law_one" ⟨317, 42, 317, 50⟩) ⟨317, 11, 317, 50⟩)
 (.cons (.ret (.bl false 0 ⟨318, 19, 318, 24⟩) ⟨318, 12, 318, 24⟩)
 (.nil))
 (.nil) ⟨317, 8, 318, 24⟩)
 (.cons (.asg (.name 10 "_law_far" ⟨319, 8, 319, 16⟩) (.make 1 "Sum" ⟨319, 19, 319, 22⟩ (.cons (.make 0 "Field" ⟨319, 23, 319, 28⟩ (.cons (.sub (.lst (.cons (.int 7 0 ⟨319, 30, 319, 31⟩) (.cons (.int 11 0 ⟨319, 33, 319, 35⟩) (.nil))) ⟨319, 29, 319, 36⟩) (.blt .int ⟨319, 37, 319, 40⟩ (.cmp (.var 3 "_law_prime_here" ⟨319, 41, 319, 56⟩) .Eq (.int 7 0 ⟨319, 60, 319, 61⟩) ⟨319, 41, 319, 61⟩) (.nil) ⟨319, 37, 319, 62⟩) ⟨319, 29, 319, 63⟩) (.nil)) ⟨319, 23, 319, 64⟩) (.cons (.slc (.sub (.var 6 "_law_rows" ⟨319, 66, 319, 75⟩) (.int 0 0 ⟨319, 76, 319, 77⟩) ⟨319, 66, 319, 78⟩) .none (.some (.int 0 0 ⟨319, 80, 319, 81⟩)) ⟨319, 79, 319, 81⟩ ⟨319, 66, 319, 82⟩) (.nil))) ⟨319, 19, 319, 83⟩) ⟨319, 8, 319, 83⟩)
 (.cons (.asg (.name 11 "_law_at" ⟨320, 8, 320, 15⟩) (.call 4 "_law_take" ⟨320, 18, 320, 27⟩ (.cons (.var 2 "_law_room_here" ⟨320, 28, 320, 42⟩) (.cons (.blt .len ⟨320, 44, 320, 47⟩ (.var 15 "_law_sums" ⟨320, 48, 320, 57⟩) (.nil) ⟨320, 44, 320, 58⟩) (.nil))) ⟨320, 18, 320, 59⟩) ⟨320, 8, 320, 59⟩)
 (.cons (.fors (.name 16 "_law_thing" ⟨321, 12, 321, 22⟩) (.val (.lst (.cons (.non 0 ⟨321, 27, 321, 31⟩) (.cons (.sub (.var 6 "_law_rows" ⟨321, 33, 321, 42⟩) (.int 0 0 ⟨321, 43, 321, 44⟩) ⟨321, 33, 321, 45⟩) (.cons (.tup (.cons (.int 0 0 ⟨321, 48, 321, 49⟩) (.cons (.int 1 0 ⟨321, 51, 321, 52⟩) (.nil))) 0 ⟨321, 47, 321, 53⟩) (.cons (.var 10 "_law_far" ⟨321, 55, 321, 63⟩) (.cons (.int 0 0 ⟨321, 65, 321, 66⟩) (.nil)))))) ⟨321, 26, 321, 67⟩))
 (.cons (.asg (.name 12 "_law_odd" ⟨322, 12, 322, 20⟩) (.bin (.bin (.slc (.var 15 "_law_sums" ⟨322, 23, 322, 32⟩) .none (.some (.var 11 "_law_at" ⟨322, 34, 322, 41⟩)) ⟨322, 33, 322, 41⟩ ⟨322, 23, 322, 42⟩) .Add (.lst (.cons (.var 16 "_law_thing" ⟨322, 46, 322, 56⟩) (.nil)) ⟨322, 45, 322, 57⟩) ⟨322, 23, 322, 57⟩) .Add (.slc (.var 15 "_law_sums" ⟨322, 60, 322, 69⟩) (.some (.bin (.var 11 "_law_at" ⟨322, 70, 322, 77⟩) .Add (.int 1 0 ⟨322, 80, 322, 81⟩) ⟨322, 70, 322, 81⟩)) .none ⟨322, 70, 322, 82⟩ ⟨322, 60, 322, 83⟩) ⟨322, 23, 322, 83⟩) ⟨322, 12, 322, 83⟩)
 (.cons (.ifs (.cmp (.lam 0 "_law_kind" ⟨323, 15, 323, 24⟩ (.own (.var 13 "_law_one" ⟨323, 33, 323, 41⟩) "put_in" ⟨323, 33, 323, 48⟩ (.cons (.var 12 "_law_odd" ⟨323, 49, 323, 57⟩) (.nil)) ⟨323, 33, 323, 58⟩) ⟨.function, [("_law_odd", .free), ("_law_one", .free)], false, false, []⟩ ⟨323, 25, 323, 58⟩ ⟨323, 15, 323, 59⟩) .NotEq (.str "sums" 0 ⟨323, 63, 323, 69⟩) ⟨323, 15, 323, 69⟩)
 (.cons (.ret (.bl false 0 ⟨324, 23, 324, 28⟩) ⟨324, 16, 324, 28⟩)
 (.nil))
 (.nil) ⟨323, 12, 324, 28⟩)
 (.nil))) ⟨321, 8, 324, 28⟩)
 (.cons (.asg (.name 14 "_law_reach" ⟨325, 8, 325, 18⟩) (.blt .maxl ⟨325, 21, 325, 24⟩ (.bin (.lc (.bin (.sub (.var 20 "_law_product_here" ⟨325, 26, 325, 43⟩) (.neg (.int 1 0 ⟨325, 45, 325, 46⟩) ⟨325, 44, 325, 46⟩) ⟨325, 26, 325, 47⟩) .Add (.int 1 0 ⟨325, 50, 325, 51⟩) ⟨325, 26, 325, 51⟩) (.tup (.cons (.name 20 "_law_product_here" ⟨325, 56, 325, 73⟩) (.cons (.name 21 "_law_number_here" ⟨325, 75, 325, 91⟩) (.nil))) 0 ⟨325, 56, 325, 91⟩) (.val (.var 5 "_law_due" ⟨325, 95, 325, 103⟩)) (.cons (.cmp (.var 20 "_law_product_here" ⟨325, 107, 325, 124⟩) .NotEq (.tup (.nil) 0 ⟨325, 128, 325, 130⟩) ⟨325, 107, 325, 130⟩) (.nil)) [("_law_product_here", 20), ("_law_number_here", 21)] ⟨.function, [(".0", .local), ("_law_product_here", .local), ("_law_number_here", .local)], false, false, []⟩ ⟨325, 25, 325, 131⟩) .Add (.lst (.cons (.int 0 0 ⟨325, 135, 325, 136⟩) (.nil)) ⟨325, 134, 325, 137⟩) ⟨325, 25, 325, 137⟩) (.nil) ⟨325, 21, 325, 138⟩) ⟨325, 8, 325, 138⟩)
 (.cons (.ifs (.and (.cons (.cmp (.var 14 "_law_reach" ⟨326, 11, 326, 21⟩) .Gt (.int 0 0 ⟨326, 24, 326, 25⟩) ⟨326, 11, 326, 25⟩) (.cons (.cmp (.lam 0 "_law_kind" ⟨326, 30, 326, 39⟩ (.own (.var 13 "_law_one" ⟨326, 48, 326, 56⟩) "put_in" ⟨326, 48, 326, 63⟩ (.cons (.slc (.var 15 "_law_sums" ⟨326, 64, 326, 73⟩) .none (.some (.bin (.var 14 "_law_reach" ⟨326, 75, 326, 85⟩) .Sub (.int 1 0 ⟨326, 88, 326, 89⟩) ⟨326, 75, 326, 89⟩)) ⟨326, 74, 326, 89⟩ ⟨326, 64, 326, 90⟩) (.nil)) ⟨326, 48, 326, 91⟩) ⟨.function, [("_law_one", .free), ("_law_reach", .free), ("_law_sums", .free)], false, false, []⟩ ⟨326, 40, 326, 91⟩ ⟨326, 30, 326, 92⟩) .NotEq (.str "sums" 0 ⟨326, 96, 326, 102⟩) ⟨326, 30, 326, 102⟩) (.nil))) ⟨326, 11, 326, 102⟩)
 (.cons (.ret (.bl false 0 ⟨327, 19, 327, 24⟩) ⟨327, 12, 327, 24⟩)
 (.nil))
 (.nil) ⟨326, 8, 327, 24⟩)
 (.cons (.ifs (.cmp (.own (.var 13 "_law_one" ⟨328, 11, 328, 19⟩) "put_in" ⟨328, 11, 328, 26⟩ (.cons (.slc (.var 15 "_law_sums" ⟨328, 27, 328, 36⟩) .none (.some (.var 14 "_law_reach" ⟨328, 38, 328, 48⟩)) ⟨328, 37, 328, 48⟩ ⟨328, 27, 328, 49⟩) (.nil)) ⟨328, 11, 328, 50⟩) .NotEq (.var 8 "_law_found" ⟨328, 54, 328, 64⟩) ⟨328, 11, 328, 64⟩)
 (.cons (.ret (.bl false 0 ⟨329, 19, 329, 24⟩) ⟨329, 12, 329, 24⟩)
 (.nil))
 (.nil) ⟨328, 8, 329, 24⟩)
 (.cons (.fors (.name 16 "_law_thing" ⟨330, 12, 330, 22⟩) (.val (.lst (.cons (.blt .tuple ⟨330, 27, 330, 32⟩ (.var 15 "_law_sums" ⟨330, 33, 330, 42⟩) (.nil) ⟨330, 27, 330, 43⟩) (.cons (.non 0 ⟨330, 45, 330, 49⟩) (.cons (.dic0 ⟨330, 51, 330, 53⟩) (.cons (.var 13 "_law_one" ⟨330, 55, 330, 63⟩) (.nil))))) ⟨330, 26, 330, 64⟩))
 (.cons (.ifs (.cmp (.lam 0 "_law_kind" ⟨331, 15, 331, 24⟩ (.own (.var 13 "_law_one" ⟨331, 33, 331, 41⟩) "put_in" ⟨331, 33, 331, 48⟩ (.cons (.var 16 "_law_thing" ⟨331, 49, 331, 59⟩) (.nil)) ⟨331, 33, 331, 60⟩) ⟨.function, [("_law_one", .free), ("_law_thing", .free)], false, false, []⟩ ⟨331, 25, 331, 60⟩ ⟨331, 15, 331, 61⟩) .NotEq (.str "sums" 0 ⟨331, 65, 331, 71⟩) ⟨331, 15, 331, 71⟩)
 (.cons (.ret (.bl false 0 ⟨332, 23, 332, 28⟩) ⟨332, 16, 332, 28⟩)
 (.nil))
 (.nil) ⟨331, 12, 332, 28⟩)
 (.nil)) ⟨330, 8, 332, 28⟩)
 (.nil)))))))))))))))))))))) ⟨300, 4, 332, 28⟩)
 (.cons (.ret (.bl true 0 ⟨333, 11, 333, 15⟩) ⟨333, 4, 333, 15⟩)
 (.nil))
theorem x_law : Txt ["_law_script", "_law_k", "_law_room_here", "_law_prime_here", "_law_field", "_law_due", "_law_rows", "_law_handed", "_law_found", "_law_plain", "_law_far", "_law_at", "_law_odd", "_law_one", "_law_reach", "_law_sums", "_law_thing", "_law_row", "_law_some", "_law_place", "_law_product_here", "_law_number_here"] ["_law_script"] n_law s_law m_law := ⟨⟨rfl, rfl, rfl, by decide +kernel, rfl, by decide +kernel, by decide +kernel⟩, by kernel_rfl, by decide +kernel⟩
structure Fs where
  is_whole : FD
  is_prime : FD
  lowest : FD
  Field___init__ : FD
  Field___eq__ : FD
  Field_made : FD
  Field_plus : FD
  Field_times : FD
  Field_is_number : FD
  is_place : FD
  is_product : FD
  joined_product : FD
  look_at_terms : FD
  gathered : FD
  Sum___init__ : FD
  Sum___eq__ : FD
  Sum_terms : FD
  Sum_reach : FD
  Sum_look_alike : FD
  Sum_times : FD
  Sum_put_in : FD
  _law_room : FD
  _law_take : FD
  _law_lowest : FD
  _law_make : FD
  _law_plus : FD
  _law_times : FD
  _law_prime : FD
  _law_number : FD
  _law_product : FD
  _law_terms : FD
  _law_gather : FD
  _law_mult : FD
  _law_kind : FD
  _law_put_in : FD
  law : FD
abbrev F_is_whole (K : Frag) (r : FD) : Prop := FunD K "is_whole" "is_whole" (defArgs s_is_whole) (defBody s_is_whole) (defScope s_is_whole) [] [] r.ad r.fd
theorem b_is_whole {K : Frag} {r : FD} (F : F_is_whole K r) : Binds K r.fd ["thing"] [] := F.bindsN fun _ _ _ _ _ _ us hl => match us, hl with | [_], _ => rfl
abbrev F_is_prime (K : Frag) (r : FD) : Prop := FunD K "is_prime" "is_prime" (defArgs s_is_prime) (defBody s_is_prime) (defScope s_is_prime) [] [] r.ad r.fd
theorem b_is_prime {K : Frag} {r : FD} (F : F_is_prime K r) : Binds K r.fd ["thing"] [] := F.bindsN fun _ _ _ _ _ _ us hl => match us, hl with | [_], _ => rfl
abbrev F_lowest (K : Frag) (r : FD) : Prop := FunD K "lowest" "lowest" (defArgs s_lowest) (defBody s_lowest) (defScope s_lowest) [] [] r.ad r.fd
theorem b_lowest {K : Frag} {r : FD} (F : F_lowest K r) : Binds K r.fd ["top", "bottom"] [] := F.bindsN fun _ _ _ _ _ _ us hl => match us, hl with | [_, _], _ => rfl
abbrev F_Field___init__ (K : Frag) (r : FD) : Prop := FunD K "__init__" "Field.__init__" (defArgs s_Field___init__) (defBody s_Field___init__) (defScope s_Field___init__) [.int 0] [] r.ad r.fd
theorem b_Field___init__ {K : Frag} {r : FD} (F : F_Field___init__ K r) : Binds K r.fd ["self", "prime"] [] := by
  obtain ⟨ds, hv, hb⟩ := F.binds1 (ps := ["self", "prime"]) 2 1 (by simp) rfl fun _ _ _ _ _ _ _ us its h1 h2 => match us, its, h1, h2 with | [_, _], [_], _, _ => ⟨_, rfl, rfl⟩
  cases hv
  exact hb
abbrev F_Field___eq__ (K : Frag) (r : FD) : Prop := FunD K "__eq__" "Field.__eq__" (defArgs s_Field___eq__) (defBody s_Field___eq__) (defScope s_Field___eq__) [] [] r.ad r.fd
theorem b_Field___eq__ {K : Frag} {r : FD} (F : F_Field___eq__ K r) : Binds K r.fd ["self", "other"] [] := F.bindsN fun _ _ _ _ _ _ us hl => match us, hl with | [_, _], _ => rfl
abbrev F_Field_made (K : Frag) (r : FD) : Prop := FunD K "made" "Field.made" (defArgs s_Field_made) (defBody s_Field_made) (defScope s_Field_made) [.int 1] [] r.ad r.fd
theorem b_Field_made {K : Frag} {r : FD} (F : F_Field_made K r) : Binds K r.fd ["self", "top", "bottom"] [] := by
  obtain ⟨ds, hv, hb⟩ := F.binds1 (ps := ["self", "top", "bottom"]) 3 1 (by simp) rfl fun _ _ _ _ _ _ _ us its h1 h2 => match us, its, h1, h2 with | [_, _, _], [_], _, _ => ⟨_, rfl, rfl⟩
  cases hv
  exact hb
abbrev F_Field_plus (K : Frag) (r : FD) : Prop := FunD K "plus" "Field.plus" (defArgs s_Field_plus) (defBody s_Field_plus) (defScope s_Field_plus) [] [] r.ad r.fd
theorem b_Field_plus {K : Frag} {r : FD} (F : F_Field_plus K r) : Binds K r.fd ["self", "one", "other"] [] := F.bindsN fun _ _ _ _ _ _ us hl => match us, hl with | [_, _, _], _ => rfl
abbrev F_Field_times (K : Frag) (r : FD) : Prop := FunD K "times" "Field.times" (defArgs s_Field_times) (defBody s_Field_times) (defScope s_Field_times) [] [] r.ad r.fd
theorem b_Field_times {K : Frag} {r : FD} (F : F_Field_times K r) : Binds K r.fd ["self", "one", "other"] [] := F.bindsN fun _ _ _ _ _ _ us hl => match us, hl with | [_, _, _], _ => rfl
abbrev F_Field_is_number (K : Frag) (r : FD) : Prop := FunD K "is_number" "Field.is_number" (defArgs s_Field_is_number) (defBody s_Field_is_number) (defScope s_Field_is_number) [] [] r.ad r.fd
theorem b_Field_is_number {K : Frag} {r : FD} (F : F_Field_is_number K r) : Binds K r.fd ["self", "thing"] [] := F.bindsN fun _ _ _ _ _ _ us hl => match us, hl with | [_, _], _ => rfl
abbrev F_is_place (K : Frag) (r : FD) : Prop := FunD K "is_place" "is_place" (defArgs s_is_place) (defBody s_is_place) (defScope s_is_place) [] [] r.ad r.fd
theorem b_is_place {K : Frag} {r : FD} (F : F_is_place K r) : Binds K r.fd ["thing"] [] := F.bindsN fun _ _ _ _ _ _ us hl => match us, hl with | [_], _ => rfl
abbrev F_is_product (K : Frag) (r : FD) : Prop := FunD K "is_product" "is_product" (defArgs s_is_product) (defBody s_is_product) (defScope s_is_product) [] [] r.ad r.fd
theorem b_is_product {K : Frag} {r : FD} (F : F_is_product K r) : Binds K r.fd ["thing"] [] := F.bindsN fun _ _ _ _ _ _ us hl => match us, hl with | [_], _ => rfl
abbrev F_joined_product (K : Frag) (r : FD) : Prop := FunD K "joined_product" "joined_product" (defArgs s_joined_product) (defBody s_joined_product) (defScope s_joined_product) [] [] r.ad r.fd
theorem b_joined_product {K : Frag} {r : FD} (F : F_joined_product K r) : Binds K r.fd ["one", "other"] [] := F.bindsN fun _ _ _ _ _ _ us hl => match us, hl with | [_, _], _ => rfl
abbrev F_look_at_terms (K : Frag) (r : FD) : Prop := FunD K "look_at_terms" "look_at_terms" (defArgs s_look_at_terms) (defBody s_look_at_terms) (defScope s_look_at_terms) [] [] r.ad r.fd
theorem b_look_at_terms {K : Frag} {r : FD} (F : F_look_at_terms K r) : Binds K r.fd ["field", "terms"] [] := F.bindsN fun _ _ _ _ _ _ us hl => match us, hl with | [_, _], _ => rfl
abbrev F_gathered (K : Frag) (r : FD) : Prop := FunD K "gathered" "gathered" (defArgs s_gathered) (defBody s_gathered) (defScope s_gathered) [] [] r.ad r.fd
theorem b_gathered {K : Frag} {r : FD} (F : F_gathered K r) : Binds K r.fd ["field", "terms"] [] := F.bindsN fun _ _ _ _ _ _ us hl => match us, hl with | [_, _], _ => rfl
abbrev F_Sum___init__ (K : Frag) (r : FD) : Prop := FunD K "__init__" "Sum.__init__" (defArgs s_Sum___init__) (defBody s_Sum___init__) (defScope s_Sum___init__) [.non] [] r.ad r.fd
theorem b_Sum___init__ {K : Frag} {r : FD} (F : F_Sum___init__ K r) : Binds K r.fd ["self", "field", "terms"] [] := by
  obtain ⟨ds, hv, hb⟩ := F.binds1 (ps := ["self", "field", "terms"]) 3 1 (by simp) rfl fun _ _ _ _ _ _ _ us its h1 h2 => match us, its, h1, h2 with | [_, _, _], [_], _, _ => ⟨_, rfl, rfl⟩
  cases hv
  exact hb
abbrev F_Sum___eq__ (K : Frag) (r : FD) : Prop := FunD K "__eq__" "Sum.__eq__" (defArgs s_Sum___eq__) (defBody s_Sum___eq__) (defScope s_Sum___eq__) [] [] r.ad r.fd
theorem b_Sum___eq__ {K : Frag} {r : FD} (F : F_Sum___eq__ K r) : Binds K r.fd ["self", "other"] [] := F.bindsN fun _ _ _ _ _ _ us hl => match us, hl with | [_, _], _ => rfl
abbrev F_Sum_terms (K : Frag) (r : FD) : Prop := FunD K "terms" "Sum.terms" (defArgs s_Sum_terms) (defBody s_Sum_terms) (defScope s_Sum_terms) [] [] r.ad r.fd
theorem b_Sum_terms {K : Frag} {r : FD} (F : F_Sum_terms K r) : Binds K r.fd ["self"] [] := F.bindsN fun _ _ _ _ _ _ us hl => match us, hl with | [_], _ => rfl
abbrev F_Sum_reach (K : Frag) (r : FD) : Prop := FunD K "reach" "Sum.reach" (defArgs s_Sum_reach) (defBody s_Sum_reach) (defScope s_Sum_reach) [] [] r.ad r.fd
theorem b_Sum_reach {K : Frag} {r : FD} (F : F_Sum_reach K r) : Binds K r.fd ["self"] [] := F.bindsN fun _ _ _ _ _ _ us hl => match us, hl with | [_], _ => rfl
abbrev F_Sum_look_alike (K : Frag) (r : FD) : Prop := FunD K "look_alike" "Sum.look_alike" (defArgs s_Sum_look_alike) (defBody s_Sum_look_alike) (defScope s_Sum_look_alike) [] [] r.ad r.fd
theorem b_Sum_look_alike {K : Frag} {r : FD} (F : F_Sum_look_alike K r) : Binds K r.fd ["self", "other"] [] := F.bindsN fun _ _ _ _ _ _ us hl => match us, hl with | [_, _], _ => rfl
abbrev F_Sum_times (K : Frag) (r : FD) : Prop := FunD K "times" "Sum.times" (defArgs s_Sum_times) (defBody s_Sum_times) (defScope s_Sum_times) [] [] r.ad r.fd
theorem b_Sum_times {K : Frag} {r : FD} (F : F_Sum_times K r) : Binds K r.fd ["self", "other"] [] := F.bindsN fun _ _ _ _ _ _ us hl => match us, hl with | [_, _], _ => rfl
abbrev F_Sum_put_in (K : Frag) (r : FD) : Prop := FunD K "put_in" "Sum.put_in" (defArgs s_Sum_put_in) (defBody s_Sum_put_in) (defScope s_Sum_put_in) [] [] r.ad r.fd
theorem b_Sum_put_in {K : Frag} {r : FD} (F : F_Sum_put_in K r) : Binds K r.fd ["self", "sums"] [] := F.bindsN fun _ _ _ _ _ _ us hl => match us, hl with | [_, _], _ => rfl
abbrev F__law_room (K : Frag) (r : FD) : Prop := FunD K "_law_room" "_law_room" (defArgs s__law_room) (defBody s__law_room) (defScope s__law_room) [] [] r.ad r.fd
theorem b__law_room {K : Frag} {r : FD} (F : F__law_room K r) : Binds K r.fd ["_law_script", "_law_k"] [] := F.bindsN fun _ _ _ _ _ _ us hl => match us, hl with | [_, _], _ => rfl
abbrev F__law_take (K : Frag) (r : FD) : Prop := FunD K "_law_take" "_law_take" (defArgs s__law_take) (defBody s__law_take) (defScope s__law_take) [] [] r.ad r.fd
theorem b__law_take {K : Frag} {r : FD} (F : F__law_take K r) : Binds K r.fd ["_law_room_here", "_law_many"] [] := F.bindsN fun _ _ _ _ _ _ us hl => match us, hl with | [_, _], _ => rfl
abbrev F__law_lowest (K : Frag) (r : FD) : Prop := FunD K "_law_lowest" "_law_lowest" (defArgs s__law_lowest) (defBody s__law_lowest) (defScope s__law_lowest) [] [] r.ad r.fd
theorem b__law_lowest {K : Frag} {r : FD} (F : F__law_lowest K r) : Binds K r.fd ["_law_top", "_law_bottom"] [] := F.bindsN fun _ _ _ _ _ _ us hl => match us, hl with | [_, _], _ => rfl
abbrev F__law_make (K : Frag) (r : FD) : Prop := FunD K "_law_make" "_law_make" (defArgs s__law_make) (defBody s__law_make) (defScope s__law_make) [] [] r.ad r.fd
theorem b__law_make {K : Frag} {r : FD} (F : F__law_make K r) : Binds K r.fd ["_law_prime_here", "_law_top", "_law_bottom"] [] := F.bindsN fun _ _ _ _ _ _ us hl => match us, hl with | [_, _, _], _ => rfl
abbrev F__law_plus (K : Frag) (r : FD) : Prop := FunD K "_law_plus" "_law_plus" (defArgs s__law_plus) (defBody s__law_plus) (defScope s__law_plus) [] [] r.ad r.fd
theorem b__law_plus {K : Frag} {r : FD} (F : F__law_plus K r) : Binds K r.fd ["_law_prime_here", "_law_one", "_law_other"] [] := F.bindsN fun _ _ _ _ _ _ us hl => match us, hl with | [_, _, _], _ => rfl
abbrev F__law_times (K : Frag) (r : FD) : Prop := FunD K "_law_times" "_law_times" (defArgs s__law_times) (defBody s__law_times) (defScope s__law_times) [] [] r.ad r.fd
theorem b__law_times {K : Frag} {r : FD} (F : F__law_times K r) : Binds K r.fd ["_law_prime_here", "_law_one", "_law_other"] [] := F.bindsN fun _ _ _ _ _ _ us hl => match us, hl with | [_, _, _], _ => rfl
abbrev F__law_prime (K : Frag) (r : FD) : Prop := FunD K "_law_prime" "_law_prime" (defArgs s__law_prime) (defBody s__law_prime) (defScope s__law_prime) [] [] r.ad r.fd
theorem b__law_prime {K : Frag} {r : FD} (F : F__law_prime K r) : Binds K r.fd ["_law_room_here"] [] := F.bindsN fun _ _ _ _ _ _ us hl => match us, hl with | [_], _ => rfl
abbrev F__law_number (K : Frag) (r : FD) : Prop := FunD K "_law_number" "_law_number" (defArgs s__law_number) (defBody s__law_number) (defScope s__law_number) [] [] r.ad r.fd
theorem b__law_number {K : Frag} {r : FD} (F : F__law_number K r) : Binds K r.fd ["_law_room_here", "_law_prime_here"] [] := F.bindsN fun _ _ _ _ _ _ us hl => match us, hl with | [_, _], _ => rfl
abbrev F__law_product (K : Frag) (r : FD) : Prop := FunD K "_law_product" "_law_product" (defArgs s__law_product) (defBody s__law_product) (defScope s__law_product) [] [] r.ad r.fd
theorem b__law_product {K : Frag} {r : FD} (F : F__law_product K r) : Binds K r.fd ["_law_room_here", "_law_many", "_law_share"] [] := F.bindsN fun _ _ _ _ _ _ us hl => match us, hl with | [_, _, _], _ => rfl
abbrev F__law_terms (K : Frag) (r : FD) : Prop := FunD K "_law_terms" "_law_terms" (defArgs s__law_terms) (defBody s__law_terms) (defScope s__law_terms) [] [] r.ad r.fd
theorem b__law_terms {K : Frag} {r : FD} (F : F__law_terms K r) : Binds K r.fd ["_law_room_here", "_law_prime_here", "_law_many", "_law_most"] [] := F.bindsN fun _ _ _ _ _ _ us hl => match us, hl with | [_, _, _, _], _ => rfl
abbrev F__law_gather (K : Frag) (r : FD) : Prop := FunD K "_law_gather" "_law_gather" (defArgs s__law_gather) (defBody s__law_gather) (defScope s__law_gather) [] [] r.ad r.fd
theorem b__law_gather {K : Frag} {r : FD} (F : F__law_gather K r) : Binds K r.fd ["_law_prime_here", "_law_terms_here"] [] := F.bindsN fun _ _ _ _ _ _ us hl => match us, hl with | [_, _], _ => rfl
abbrev F__law_mult (K : Frag) (r : FD) : Prop := FunD K "_law_mult" "_law_mult" (defArgs s__law_mult) (defBody s__law_mult) (defScope s__law_mult) [] [] r.ad r.fd
theorem b__law_mult {K : Frag} {r : FD} (F : F__law_mult K r) : Binds K r.fd ["_law_prime_here", "_law_one", "_law_other"] [] := F.bindsN fun _ _ _ _ _ _ us hl => match us, hl with | [_, _, _], _ => rfl
abbrev F__law_kind (K : Frag) (r : FD) : Prop := FunD K "_law_kind" "_law_kind" (defArgs s__law_kind) (defBody s__law_kind) (defScope s__law_kind) [] [] r.ad r.fd
theorem b__law_kind {K : Frag} {r : FD} (F : F__law_kind K r) : Binds K r.fd ["_law_call"] [] := F.bindsN fun _ _ _ _ _ _ us hl => match us, hl with | [_], _ => rfl
abbrev F__law_put_in (K : Frag) (r : FD) : Prop := FunD K "_law_put_in" "_law_put_in" (defArgs s__law_put_in) (defBody s__law_put_in) (defScope s__law_put_in) [] [] r.ad r.fd
theorem b__law_put_in {K : Frag} {r : FD} (F : F__law_put_in K r) : Binds K r.fd ["_law_prime_here", "_law_terms_here", "_law_rows"] [] := F.bindsN fun _ _ _ _ _ _ us hl => match us, hl with | [_, _, _], _ => rfl
abbrev F_law (K : Frag) (r : FD) : Prop := FunD K "law" "law" (defArgs s_law) (defBody s_law) (defScope s_law) [] [] r.ad r.fd
theorem b_law {K : Frag} {r : FD} (F : F_law K r) : Binds K r.fd ["_law_script"] [] := F.bindsN fun _ _ _ _ _ _ us hl => match us, hl with | [_], _ => rfl
def fns : List He.DefD := [d_is_whole, d_is_prime, d_lowest, d_Field___init__, d_Field___eq__, d_Field_made, d_Field_plus, d_Field_times, d_Field_is_number, d_is_place, d_is_product, d_joined_product, d_look_at_terms, d_gathered, d_Sum___init__, d_Sum___eq__, d_Sum_terms, d_Sum_reach, d_Sum_look_alike, d_Sum_times, d_Sum_put_in, d__law_room, d__law_take, d__law_lowest, d__law_make, d__law_plus, d__law_times, d__law_prime, d__law_number, d__law_product, d__law_terms, d__law_gather, d__law_mult, d__law_kind, d__law_put_in, d_law]
end K08
/-! fractions in their lowest terms; plain -/
namespace NumP
abbrev absI (i : Int) : Int := if i < 0 then -i else i
def gcI (t b : Int) : Int := (Int.gcd t b : Nat)
def lowT (t b : Int) : Int := (b.fdiv (absI b) * t).fdiv (gcI t b)
def lowB (t b : Int) : Int := (absI b).fdiv (gcI t b)
def N0 (x y : Int) : Prop := 0 < y ∧ Int.gcd x y = 1
theorem absI_nat (i : Int) : absI i = (i.natAbs : Int) := by unfold absI; split <;> omega
theorem sgn_eq {b : Int} (hz : b ≠ 0) : b.fdiv (absI b) = if b < 0 then -1 else 1 := by
  unfold absI
  split
  · exact Int.fdiv_eq_of_eq_mul_right (a := b) (b := -b) (c := -1) (by omega) (by omega)
  · exact Int.fdiv_self hz
theorem gcI_pos {t b : Int} (hz : b ≠ 0) : 0 < gcI t b := by
  unfold gcI
  have := Int.gcd_ne_zero_right (a := t) hz
  omega
theorem low_ok {t b : Int} (hz : b ≠ 0) : N0 (lowT t b) (lowB t b) ∧ lowT t b * b = t * lowB t b ∧ lowT t b * gcI t b = (if b < 0 then -1 else 1) * t ∧ lowB t b * gcI t b = absI b := by
  have hg := gcI_pos (t := t) hz
  have d1 : gcI t b ∣ t := Int.gcd_dvd_left ..
  have d2 : gcI t b ∣ b := Int.gcd_dvd_right ..
  have e1 : lowT t b * gcI t b = (if b < 0 then -1 else 1) * t := by
    unfold lowT
    rw [sgn_eq hz]
    exact Int.fdiv_mul_cancel (Int.dvd_mul_of_dvd_right d1)
  have e2 : lowB t b * gcI t b = absI b := by
    unfold lowB
    refine Int.fdiv_mul_cancel ?_
    unfold absI
    split
    · exact (Int.dvd_neg).mpr d2
    · exact d2
  have hb : 0 < absI b := by unfold absI; split <;> omega
  have pos : 0 < lowB t b := by
    rcases Int.lt_trichotomy (lowB t b) 0 with h | h | h
    · have := Int.mul_neg_of_neg_of_pos h hg
      omega
    · rw [h] at e2
      omega
    · exact h
  refine ⟨⟨pos, ?_⟩, ?_, e1, e2⟩
  · have h1 : Int.gcd (lowT t b * gcI t b) (lowB t b * gcI t b) = Int.gcd (lowT t b) (lowB t b) * (gcI t b).natAbs := Int.gcd_mul_right ..
    rw [e1, e2] at h1
    have h2 : Int.gcd ((if b < 0 then -1 else 1) * t) (absI b) = Int.gcd t b := by
      unfold Int.gcd
      congr 1
      · split <;> omega
      · rw [absI_nat]; rfl
    rw [h2] at h1
    have h3 : (gcI t b).natAbs = Int.gcd t b := rfl
    rw [h3] at h1
    have h4 : 0 < Int.gcd t b := by unfold gcI at hg; omega
    have h5 : 1 * Int.gcd t b = Int.gcd (lowT t b) (lowB t b) * Int.gcd t b := by rw [Nat.one_mul]; exact h1
    exact (Nat.eq_of_mul_eq_mul_right h4 h5).symm
  · have h1 : lowT t b * b * gcI t b = t * lowB t b * gcI t b := by
      rw [Int.mul_right_comm, e1, Int.mul_assoc t, e2]
      unfold absI
      split <;> rename_i hb' 
      · rw [Int.neg_mul, Int.one_mul, Int.neg_mul, Int.mul_neg]
      · rw [Int.one_mul]
    exact Int.eq_of_mul_eq_mul_right (by omega) h1
theorem dvd_cop {x y z : Int} (g : Int.gcd x y = 1) (h : y ∣ x * z) : y ∣ z := by
  have h1 : y.natAbs ∣ x.natAbs * z.natAbs := by rw [← Int.natAbs_mul]; exact Int.natAbs_dvd_natAbs.mpr h
  have c : Nat.Coprime y.natAbs x.natAbs := by
    have : Nat.gcd x.natAbs y.natAbs = 1 := g
    exact (Nat.gcd_comm ..).trans this
  exact Int.natAbs_dvd_natAbs.mp (Nat.Coprime.dvd_of_dvd_mul_left c h1)
theorem low_uniq {x y x' y' : Int} (h : N0 x y) (h' : N0 x' y') (e : x * y' = x' * y) : x = x' ∧ y = y' := by
  obtain ⟨p, g⟩ := h
  obtain ⟨p', g'⟩ := h'
  have d1 : y ∣ y' := by
    have h1 : y ∣ x * y' := by rw [e]; exact Int.dvd_mul_left ..
    exact dvd_cop g h1
  have d2 : y' ∣ y := by
    have h1 : y' ∣ x' * y := by rw [← e]; exact Int.dvd_mul_left ..
    exact dvd_cop g' h1
  have ey : y = y' := Int.dvd_antisymm (by omega) (by omega) d1 d2
  refine ⟨?_, ey⟩
  subst ey
  exact Int.eq_of_mul_eq_mul_right (by omega) e
/-- the fraction that has this worth -/
theorem low_is {x y t b : Int} (h : N0 x y) (hz : b ≠ 0) (e : x * b = t * y) : lowT t b = x ∧ lowB t b = y := by
  obtain ⟨n, e2, _, _⟩ := low_ok (t := t) hz
  refine low_uniq n h ?_
  have h1 : lowT t b * y * b = x * lowB t b * b := by
    rw [Int.mul_right_comm, e2, Int.mul_right_comm t, ← e, Int.mul_right_comm]
  exact Int.eq_of_mul_eq_mul_right hz h1
theorem low_le {t b : Int} (hz : b ≠ 0) : (lowT t b).natAbs ≤ t.natAbs ∧ (lowB t b).natAbs ≤ b.natAbs := by
  obtain ⟨_, _, e1, e2⟩ := low_ok (t := t) hz
  have hg := gcI_pos (t := t) hz
  have n1 : (lowT t b).natAbs * (gcI t b).natAbs = t.natAbs := by
    rw [← Int.natAbs_mul, e1]
    split <;> omega
  have n2 : (lowB t b).natAbs * (gcI t b).natAbs = b.natAbs := by
    rw [← Int.natAbs_mul, e2, absI_nat]
    omega
  have hg2 : 1 ≤ (gcI t b).natAbs := by omega
  constructor
  · rw [← n1]
    exact Nat.le_mul_of_pos_right _ hg2
  · rw [← n2]
    exact Nat.le_mul_of_pos_right _ hg2
end NumP
/-! numbers of a field: fractions in their lowest terms, or rests by a prime; plain -/
namespace NumF
open Rf NumP
def ps : List Int := [2, 3, 5, 7, 97, 11, 13, 17, 19, 23, 29, 31, 37, 41, 43, 47, 53, 59, 61, 67, 71, 73, 79, 83, 89]
def invs (p b : Int) : List Int := (rng 1 (p - 1).toNat).filter fun k => decide ((b * k) % p = 1)
def okB (p : Int) : Bool := (rng 0 p.toNat).all fun b => decide (b = 0) || !(invs p b).isEmpty
theorem ps_ok : ∀ p ∈ ps, 2 ≤ p ∧ p ≤ 97 ∧ okB p = true ∧ (rng 2 (p - 2).toNat).filter (fun k => decide (p % k = 0)) = [] := by decide +kernel
theorem mem_rng {lo k : Int} {n : Nat} (h1 : lo ≤ k) (h2 : k < lo + n) : k ∈ rng lo n := by
  unfold rng
  refine List.mem_map.mpr ⟨(k - lo).toNat, List.mem_range.mpr (by omega), by omega⟩
def inv (p b : Int) : Int := (invs p b).headD 0
theorem inv_ok {p b : Int} (hp : p ∈ ps) (h1 : 0 < b) (h2 : b < p) : ∃ r, invs p b = inv p b :: r ∧ (b * inv p b) % p = 1 ∧ 0 < inv p b ∧ inv p b < p := by
  obtain ⟨q1, q2, q3, _⟩ := ps_ok p hp
  have q := List.all_eq_true.mp q3 b (mem_rng (by omega) (by omega))
  simp only [Bool.or_eq_true, decide_eq_true_eq, Bool.not_eq_true', List.isEmpty_eq_false_iff] at q
  rcases q with q | q
  · omega
  · unfold inv
    cases e : invs p b with
    | nil => exact absurd e q
    | cons k r =>
      have hm : k ∈ invs p b := by rw [e]; exact List.mem_cons_self
      unfold invs at hm
      obtain ⟨m1, m2⟩ := List.mem_filter.mp hm
      unfold rng at m1
      obtain ⟨i, hi, rfl⟩ := List.mem_map.mp m1
      have hi' := List.mem_range.mp hi
      exact ⟨r, rfl, of_decide_eq_true m2, by show 0 < 1 + (i : Int); omega, by show 1 + (i : Int) < p; omega⟩
def P0 (p : Int) : Prop := p = 0 ∨ p ∈ ps
theorem P0.rng {p : Int} (h : P0 p) : 0 ≤ p ∧ p ≤ 97 := by
  rcases h with h | h
  · omega
  · obtain ⟨a, b, _⟩ := ps_ok p h
    omega
theorem P0.two {p : Int} (hp : P0 p) (hz : p ≠ 0) : 2 ≤ p := by
  rcases hp with h | h
  · exact absurd h hz
  · exact (ps_ok p h).1
def mkT (p t b : Int) : Int := if p = 0 then lowT t b else if b % p = 1 then t % p else (t * inv p (b % p)) % p
def mkB (p t b : Int) : Int := if p = 0 then lowB t b else 1
def Nu (p x y : Int) : Prop := if p = 0 then N0 x y else y = 1 ∧ 0 ≤ x ∧ x < p
def cond (p b : Int) : Prop := if p = 0 then b ≠ 0 else b % p ≠ 0
def condL (p b : Int) : Prop := if p = 0 then b ≠ 0 else b % p = 1
theorem cond_of {p b : Int} (h : condL p b) : cond p b := by
  unfold cond condL at *
  split at h
  · rename_i hz
    rw [if_pos hz]
    exact h
  · rename_i hz
    rw [if_neg hz, h]
    decide
theorem Nu.at0 {x y : Int} (h : Nu 0 x y) : N0 x y := h
theorem Nu.atp {p x y : Int} (h : Nu p x y) (hz : p ≠ 0) : y = 1 ∧ 0 ≤ x ∧ x < p := by
  unfold Nu at h
  rw [if_neg hz] at h
  exact h
theorem mk0T (t b : Int) : mkT 0 t b = lowT t b := if_pos rfl
theorem mk0B (t b : Int) : mkB 0 t b = lowB t b := if_pos rfl
theorem mkpB {p t b : Int} (hz : p ≠ 0) : mkB p t b = 1 := if_neg hz
theorem mkp1 {p t b : Int} (hz : p ≠ 0) (h : b % p = 1) : mkT p t b = t % p := by unfold mkT; rw [if_neg hz, if_pos h]
theorem one_mod {p : Int} (h : 2 ≤ p) : (1 : Int) % p = 1 := Int.emod_eq_of_lt (by decide) (by omega)
theorem nu_mk {p t b : Int} (hp : P0 p) (h : cond p b) : Nu p (mkT p t b) (mkB p t b) := by
  by_cases hz : p = 0
  · subst hz
    rw [mk0T, mk0B]
    exact (low_ok h).1
  · have h2 := hp.two hz
    unfold Nu
    rw [if_neg hz, mkpB hz]
    refine ⟨rfl, ?_⟩
    unfold mkT
    rw [if_neg hz]
    split <;> exact ⟨Int.emod_nonneg _ hz, Int.emod_lt_of_pos _ (by omega)⟩
theorem bot_ok {p x y z w : Int} (hp : P0 p) (n : Nu p x y) (m : Nu p z w) : condL p (y * w) := by
  unfold condL
  split
  · rename_i hz
    subst hz
    have := Int.mul_pos n.at0.1 m.at0.1
    omega
  · rename_i hz
    rw [(n.atp hz).1, (m.atp hz).1]
    exact one_mod (hp.two hz)
theorem mk_bd {p t b : Int} {k : Nat} (hp : P0 p) (h : p = 0 → b ≠ 0) (ht : Bd k t) (hb : Bd k b) (hk : 7 ≤ k) : Bd k (mkT p t b) ∧ Bd k (mkB p t b) := by
  unfold mkT mkB
  split
  · rename_i hz
    obtain ⟨l1, l2⟩ := low_le (t := t) (h hz)
    exact ⟨ht.le l1, hb.le l2⟩
  · rename_i hz
    obtain ⟨p1, p2⟩ := hp.rng
    have small : ∀ z : Int, 0 ≤ z → z < 97 → Bd k z := fun z a b => Bd.mono (j := 7) (show z.natAbs < 2 ^ 7 by omega) hk
    refine ⟨?_, small 1 (by omega) (by omega)⟩
    have lt : ∀ z : Int, z % p < 97 := fun z => by
      have := Int.emod_lt_of_pos z (b := p) (by omega)
      omega
    split <;> exact small _ (Int.emod_nonneg _ hz) (lt _)
/-! ### the ring -/
structure Fd where
  p : Int
  h : P0 p
/-- a number of the field -/
structure Nm (F : Fd) where
  t : Int
  b : Int
  ok : Nu F.p t b
variable {F : Fd}
theorem Nm.ext {x y : Nm F} (h1 : x.t = y.t) (h2 : x.b = y.b) : x = y := by
  cases x
  cases y
  cases h1
  cases h2
  rfl
instance : DecidableEq (Nm F) := fun x y => if h : x.t = y.t ∧ x.b = y.b then isTrue (Nm.ext h.1 h.2) else isFalse fun e => h ⟨congrArg Nm.t e, congrArg Nm.b e⟩
theorem Nm.bot (x y : Nm F) : condL F.p (x.b * y.b) := bot_ok F.h x.ok y.ok
def Nm.add (x y : Nm F) : Nm F := ⟨mkT F.p (x.t * y.b + y.t * x.b) (x.b * y.b), mkB F.p (x.t * y.b + y.t * x.b) (x.b * y.b), nu_mk F.h (cond_of (x.bot y))⟩
def Nm.mul (x y : Nm F) : Nm F := ⟨mkT F.p (x.t * y.t) (x.b * y.b), mkB F.p (x.t * y.t) (x.b * y.b), nu_mk F.h (cond_of (x.bot y))⟩
theorem nu_0 {p : Int} (hp : P0 p) : Nu p 0 1 := by
  by_cases hz : p = 0
  · subst hz
    exact ⟨by decide, by decide⟩
  · unfold Nu
    rw [if_neg hz]
    have := hp.two hz
    omega
theorem nu_1 {p : Int} (hp : P0 p) : Nu p 1 1 := by
  by_cases hz : p = 0
  · subst hz
    exact ⟨by decide, by decide⟩
  · unfold Nu
    rw [if_neg hz]
    have := hp.two hz
    omega
instance : Add (Nm F) := ⟨Nm.add⟩
instance : Mul (Nm F) := ⟨Nm.mul⟩
instance : Zero (Nm F) := ⟨⟨0, 1, nu_0 F.h⟩⟩
instance : One (Nm F) := ⟨⟨1, 1, nu_1 F.h⟩⟩
theorem zero_t : (0 : Nm F).t = 0 := rfl
theorem zero_b : (0 : Nm F).b = 1 := rfl
theorem one_t : (1 : Nm F).t = 1 := rfl
theorem one_b : (1 : Nm F).b = 1 := rfl
theorem Nm.atp (x : Nm F) (hz : F.p ≠ 0) : x.b = 1 ∧ 0 ≤ x.t ∧ x.t < F.p := x.ok.atp hz
theorem Nu.n0 {p x y : Int} (h : Nu p x y) (hz : p = 0) : N0 x y := by
  subst hz
  exact h
theorem Nm.at0 (x : Nm F) (hz : F.p = 0) : N0 x.t x.b := x.ok.n0 hz
theorem mk_v {p t b : Int} (hz : p = 0) (hb : b ≠ 0) : mkT p t b * b = t * mkB p t b := by
  subst hz
  rw [mk0T, mk0B]
  exact (low_ok hb).2.1
theorem add_p (x y : Nm F) (hz : F.p ≠ 0) : (x + y).t = (x.t + y.t) % F.p := by
  show mkT F.p _ _ = _
  rw [(x.atp hz).1, (y.atp hz).1, Int.mul_one, Int.mul_one, Int.mul_one, mkp1 hz (one_mod (F.h.two hz))]
theorem mul_p (x y : Nm F) (hz : F.p ≠ 0) : (x * y).t = (x.t * y.t) % F.p := by
  show mkT F.p _ _ = _
  rw [(x.atp hz).1, (y.atp hz).1, Int.mul_one, mkp1 hz (one_mod (F.h.two hz))]
theorem add_0 (x y : Nm F) (hz : F.p = 0) : (x + y).t * (x.b * y.b) = (x.t * y.b + y.t * x.b) * (x + y).b := by
  refine mk_v hz ?_
  have := Int.mul_pos (x.at0 hz).1 (y.at0 hz).1
  omega
theorem mul_0 (x y : Nm F) (hz : F.p = 0) : (x * y).t * (x.b * y.b) = (x.t * y.t) * (x * y).b := by
  refine mk_v hz ?_
  have := Int.mul_pos (x.at0 hz).1 (y.at0 hz).1
  omega
theorem eq_0 {x y : Nm F} (hz : F.p = 0) (e : x.t * y.b = y.t * x.b) : x = y := by
  obtain ⟨h1, h2⟩ := low_uniq (x.at0 hz) (y.at0 hz) e
  exact Nm.ext h1 h2
theorem eq_p {x y : Nm F} (hz : F.p ≠ 0) (e : x.t = y.t) : x = y := Nm.ext e ((x.atp hz).1.trans (y.atp hz).1.symm)
theorem pos_0 (x : Nm F) (hz : F.p = 0) : x.b ≠ 0 := by
  have := (x.at0 hz).1
  omega
theorem add_comm (x y : Nm F) : x + y = y + x := by
  refine Nm.ext ?_ ?_
  · show mkT F.p _ _ = mkT F.p _ _
    rw [Int.add_comm (x.t * y.b), Int.mul_comm x.b]
  · show mkB F.p _ _ = mkB F.p _ _
    rw [Int.add_comm (x.t * y.b), Int.mul_comm x.b]
theorem mul_comm (x y : Nm F) : x * y = y * x := by
  refine Nm.ext ?_ ?_
  · show mkT F.p _ _ = mkT F.p _ _
    rw [Int.mul_comm x.t, Int.mul_comm x.b]
  · show mkB F.p _ _ = mkB F.p _ _
    rw [Int.mul_comm x.t, Int.mul_comm x.b]
theorem add_assoc (a b c : Nm F) : a + b + c = a + (b + c) := by
  by_cases hz : F.p = 0
  · have h1 := add_0 a b hz
    have h2 := add_0 b c hz
    have h3 := add_0 (a + b) c hz
    have h4 := add_0 a (b + c) hz
    have na := pos_0 a hz
    have nb := pos_0 b hz
    have nc := pos_0 c hz
    have n1 := pos_0 (a + b) hz
    have n2 := pos_0 (b + c) hz
    refine eq_0 hz ?_
    generalize (a + b + c) = u at *
    generalize (a + (b + c)) = v at *
    generalize (a + b) = x at *
    generalize (b + c) = y at *
    have n : x.b * c.b * (a.b * y.b) * b.b ≠ 0 := Int.mul_ne_zero (Int.mul_ne_zero (Int.mul_ne_zero n1 nc) (Int.mul_ne_zero na n2)) nb
    refine Int.eq_of_mul_eq_mul_right n ?_
    grind
  · refine eq_p hz ?_
    rw [add_p _ _ hz, add_p _ _ hz, add_p _ _ hz, add_p _ _ hz, Int.emod_add_emod, Int.add_emod_emod, Int.add_assoc]
theorem mm_l (a b n : Int) : (a % n * b) % n = (a * b) % n := by rw [Int.mul_emod, Int.emod_emod, ← Int.mul_emod]
theorem mm_r (a b n : Int) : (a * (b % n)) % n = (a * b) % n := by rw [Int.mul_comm, mm_l, Int.mul_comm]
theorem mul_assoc (a b c : Nm F) : a * b * c = a * (b * c) := by
  by_cases hz : F.p = 0
  · have h1 := mul_0 a b hz
    have h2 := mul_0 b c hz
    have h3 := mul_0 (a * b) c hz
    have h4 := mul_0 a (b * c) hz
    have na := pos_0 a hz
    have nb := pos_0 b hz
    have nc := pos_0 c hz
    have n1 := pos_0 (a * b) hz
    have n2 := pos_0 (b * c) hz
    refine eq_0 hz ?_
    generalize (a * b * c) = u at *
    generalize (a * (b * c)) = v at *
    generalize (a * b) = x at *
    generalize (b * c) = y at *
    have n : x.b * c.b * (a.b * y.b) * b.b ≠ 0 := Int.mul_ne_zero (Int.mul_ne_zero (Int.mul_ne_zero n1 nc) (Int.mul_ne_zero na n2)) nb
    refine Int.eq_of_mul_eq_mul_right n ?_
    grind
  · refine eq_p hz ?_
    rw [mul_p _ _ hz, mul_p _ _ hz, mul_p _ _ hz, mul_p _ _ hz, mm_l, mm_r, Int.mul_assoc]
theorem mul_add (a b c : Nm F) : a * (b + c) = a * b + a * c := by
  by_cases hz : F.p = 0
  · have h1 := add_0 b c hz
    have h2 := mul_0 a (b + c) hz
    have h3 := mul_0 a b hz
    have h4 := mul_0 a c hz
    have h5 := add_0 (a * b) (a * c) hz
    have na := pos_0 a hz
    have nb := pos_0 b hz
    have nc := pos_0 c hz
    have n1 := pos_0 (b + c) hz
    have n2 := pos_0 (a * b) hz
    have n3 := pos_0 (a * c) hz
    refine eq_0 hz ?_
    generalize (a * b + a * c) = u at *
    generalize (a * (b + c)) = v at *
    generalize (a * b) = x at *
    generalize (a * c) = y at *
    generalize (b + c) = w at *
    have n : a.b * w.b * (x.b * y.b) * (b.b * c.b) ≠ 0 := Int.mul_ne_zero (Int.mul_ne_zero (Int.mul_ne_zero na n1) (Int.mul_ne_zero n2 n3)) (Int.mul_ne_zero nb nc)
    refine Int.eq_of_mul_eq_mul_right n ?_
    grind
  · refine eq_p hz ?_
    rw [mul_p _ _ hz, add_p _ _ hz, add_p _ _ hz, mul_p _ _ hz, mul_p _ _ hz, mm_r, Int.emod_add_emod, Int.add_emod_emod, Int.mul_add]
theorem zero_add (a : Nm F) : 0 + a = a := by
  by_cases hz : F.p = 0
  · refine eq_0 hz ?_
    have h := add_0 0 a hz
    rw [zero_t, zero_b] at h
    grind
  · refine eq_p hz ?_
    obtain ⟨h1, h2, h3⟩ := a.atp hz
    rw [add_p _ _ hz, zero_t, Int.zero_add, Int.emod_eq_of_lt h2 h3]
theorem one_mul (a : Nm F) : 1 * a = a := by
  by_cases hz : F.p = 0
  · refine eq_0 hz ?_
    have h := mul_0 1 a hz
    rw [one_t, one_b] at h
    grind
  · refine eq_p hz ?_
    obtain ⟨h1, h2, h3⟩ := a.atp hz
    rw [mul_p _ _ hz, one_t, Int.one_mul, Int.emod_eq_of_lt h2 h3]
theorem zero_mul (a : Nm F) : 0 * a = 0 := by
  by_cases hz : F.p = 0
  · refine eq_0 hz ?_
    have h := mul_0 0 a hz
    have na := pos_0 a hz
    rw [zero_t, zero_b] at h ⊢
    refine Int.eq_of_mul_eq_mul_right na ?_
    grind
  · refine eq_p hz ?_
    rw [mul_p _ _ hz, zero_t, Int.zero_mul, Int.zero_emod]
theorem add_zero (a : Nm F) : a + 0 = a := by rw [add_comm, zero_add]
theorem mul_one (a : Nm F) : a * 1 = a := by rw [mul_comm, one_mul]
theorem mul_zero (a : Nm F) : a * 0 = 0 := by rw [mul_comm, zero_mul]
theorem add_mul (a b c : Nm F) : (a + b) * c = a * c + b * c := by rw [mul_comm, mul_add, mul_comm c a, mul_comm c b]
theorem add_left_comm (a b c : Nm F) : a + (b + c) = b + (a + c) := by rw [← add_assoc, add_comm a b, add_assoc]
/-! ### sizes -/
/-- every bottom divides a power of this one -/
def MM : Int := 21000000 * 1000000000039
/-- the bottom divides MM ^ j, the worth is within 2 ^ e -/
def Sz (j e : Nat) (x : Nm F) : Prop := x.b ∣ MM ^ j ∧ x.t.natAbs ≤ 2 ^ e * x.b.natAbs
theorem mm_pow : ∀ j : Nat, (MM ^ j).natAbs < 2 ^ (65 * j + 1) ∧ 0 < MM ^ j
  | 0 => by decide
  | j + 1 => by
    obtain ⟨h1, h2⟩ := mm_pow j
    have e : MM.natAbs < 2 ^ 65 := by decide
    have e2 : (0 : Int) < MM := by decide
    constructor
    · rw [Int.pow_succ, Int.natAbs_mul, show 65 * (j + 1) + 1 = (65 * j + 1) + 65 by omega, Nat.pow_add]
      exact Nat.mul_lt_mul'' h1 e
    · rw [Int.pow_succ]
      exact Int.mul_pos h2 e2
theorem Sz.bd {j e : Nat} {x : Nm F} (h : Sz j e x) : Bd (65 * j + 1) x.b ∧ Bd (65 * j + 1 + e) x.t := by
  obtain ⟨h1, h2⟩ := h
  obtain ⟨m1, m2⟩ := mm_pow j
  have hb : x.b.natAbs ≤ (MM ^ j).natAbs := Nat.le_of_dvd (by omega) (Int.natAbs_dvd_natAbs.mpr h1)
  refine ⟨Nat.lt_of_le_of_lt hb m1, ?_⟩
  unfold Bd
  rw [Nat.pow_add, Nat.mul_comm]
  refine Nat.lt_of_le_of_lt h2 (Nat.mul_lt_mul_of_pos_left (Nat.lt_of_le_of_lt hb m1) (Nat.two_pow_pos e))
theorem Sz.mono {j k e f : Nat} {x : Nm F} (h : Sz j e x) (h1 : j ≤ k) (h2 : e ≤ f) : Sz k f x :=
  ⟨Int.dvd_trans h.1 ⟨MM ^ (k - j), by rw [← Int.pow_add]; congr 1; omega⟩, Nat.le_trans h.2 (Nat.mul_le_mul_right _ (Nat.pow_le_pow_right (by decide) h2))⟩
theorem red_dvd {x y t b m : Int} (n : N0 x y) (hb : b ≠ 0) (e : x * b = t * y) (h : b ∣ t * m) : y ∣ m := by
  have h1 : y ∣ x * m := by
    obtain ⟨c, hc⟩ := h
    refine ⟨c, ?_⟩
    refine Int.eq_of_mul_eq_mul_right hb ?_
    have : x * m * b = t * y * m := by rw [← e]; exact Int.mul_right_comm ..
    rw [this, Int.mul_right_comm, hc]
    grind
  exact dvd_cop n.2 h1
theorem sz_p (x : Nm F) (hz : F.p ≠ 0) {j e : Nat} (he : 7 ≤ e) : Sz j e x := by
  obtain ⟨h1, h2, h3⟩ := x.atp hz
  obtain ⟨p1, p2⟩ := F.h.rng
  unfold Sz
  rw [h1]
  refine ⟨Int.one_dvd _, ?_⟩
  have : 2 ^ 7 ≤ 2 ^ e := Nat.pow_le_pow_right (by decide) he
  show x.t.natAbs ≤ 2 ^ e * 1
  omega
theorem Sz.mul {j k e f : Nat} {x y : Nm F} (h : Sz j e x) (g : Sz k f y) (he : 7 ≤ e) : Sz (j + k) (e + f) (x * y) := by
  by_cases hz : F.p = 0
  · have v := mul_0 x y hz
    have hb : x.b * y.b ≠ 0 := Int.mul_ne_zero (pos_0 x hz) (pos_0 y hz)
    constructor
    · refine red_dvd ((x * y).at0 hz) hb v ?_
      rw [Int.pow_add]
      exact Int.dvd_mul_of_dvd_right (Int.mul_dvd_mul h.1 g.1)
    · have v2 := congrArg Int.natAbs v
      simp only [Int.natAbs_mul] at v2
      have b1 : x.t.natAbs * y.t.natAbs ≤ 2 ^ e * x.b.natAbs * (2 ^ f * y.b.natAbs) := Nat.mul_le_mul h.2 g.2
      have hp : 0 < x.b.natAbs * y.b.natAbs := by
        rw [← Int.natAbs_mul]
        omega
      refine Nat.le_of_mul_le_mul_right (c := x.b.natAbs * y.b.natAbs) ?_ hp
      rw [v2, Nat.pow_add]
      refine Nat.le_trans (Nat.mul_le_mul_right _ b1) (Nat.le_of_eq ?_)
      grind
  · exact sz_p _ hz (by omega)
theorem Sz.add {j e : Nat} {x y : Nm F} (h : Sz j e x) (g : Sz j e y) (he : 7 ≤ e) : Sz j (e + 1) (x + y) := by
  by_cases hz : F.p = 0
  · have v := add_0 x y hz
    have hb : x.b * y.b ≠ 0 := Int.mul_ne_zero (pos_0 x hz) (pos_0 y hz)
    constructor
    · refine red_dvd ((x + y).at0 hz) hb v ?_
      obtain ⟨c, hc⟩ := h.1
      obtain ⟨d, hd⟩ := g.1
      refine ⟨x.t * c + y.t * d, ?_⟩
      have e1 : (x.t * y.b + y.t * x.b) * MM ^ j = x.t * y.b * MM ^ j + y.t * x.b * MM ^ j := Int.add_mul ..
      rw [e1]
      have a1 : x.t * y.b * MM ^ j = x.b * y.b * (x.t * c) := by rw [hc]; grind
      have a2 : y.t * x.b * MM ^ j = x.b * y.b * (y.t * d) := by rw [hd]; grind
      rw [a1, a2, Int.mul_add]
    · have v2 := congrArg Int.natAbs v
      simp only [Int.natAbs_mul] at v2
      have t1 := Int.natAbs_add_le (x.t * y.b) (y.t * x.b)
      simp only [Int.natAbs_mul] at t1
      have b1 := Nat.mul_le_mul_right y.b.natAbs h.2
      have b2 := Nat.mul_le_mul_right x.b.natAbs g.2
      have hp : 0 < x.b.natAbs * y.b.natAbs := by
        rw [← Int.natAbs_mul]
        omega
      refine Nat.le_of_mul_le_mul_right (c := x.b.natAbs * y.b.natAbs) ?_ hp
      rw [v2]
      have t2 : (x.t * y.b + y.t * x.b).natAbs ≤ 2 ^ (e + 1) * (x.b.natAbs * y.b.natAbs) := by
        rw [Nat.pow_succ]
        have e1 : 2 ^ e * x.b.natAbs * y.b.natAbs = 2 ^ e * (x.b.natAbs * y.b.natAbs) := Nat.mul_assoc ..
        have e2 : 2 ^ e * y.b.natAbs * x.b.natAbs = 2 ^ e * (x.b.natAbs * y.b.natAbs) := by rw [Nat.mul_assoc, Nat.mul_comm y.b.natAbs]
        rw [Nat.mul_assoc (2 ^ e), Nat.mul_left_comm (2 ^ e)]
        omega
      refine Nat.le_trans (Nat.mul_le_mul_right _ t2) (Nat.le_of_eq ?_)
      grind
  · exact sz_p _ hz (by omega)
theorem Sz.zero {j e : Nat} : Sz j e (0 : Nm F) := ⟨Int.one_dvd _, Nat.zero_le _⟩
theorem Sz.one {j e : Nat} : Sz j e (1 : Nm F) := ⟨Int.one_dvd _, by
  show 1 ≤ 2 ^ e * 1
  have := Nat.two_pow_pos e
  omega⟩
end NumF
/-! sums of products, as lists of terms; plain -/
namespace SumP
open NumF
abbrev Pr := List Int
abbrev Tm (F : Fd) := Pr × Nm F
variable {F : Fd}
/-- what the terms come to, where a product is worth f -/
def L (f : Pr → Nm F) : List (Tm F) → Nm F
  | [] => 0
  | t :: r => t.2 * f t.1 + L f r
theorem L_app (f : Pr → Nm F) : ∀ a b : List (Tm F), L f (a ++ b) = L f a + L f b
  | [], b => (zero_add _).symm
  | t :: a, b => by
    show t.2 * f t.1 + L f (a ++ b) = t.2 * f t.1 + L f a + L f b
    rw [L_app f a b, add_assoc]
theorem L_perm (f : Pr → Nm F) {a b : List (Tm F)} (h : a.Perm b) : L f a = L f b := by
  induction h with
  | nil => rfl
  | cons x _ ih =>
    show _ + _ = _ + _
    rw [ih]
  | swap x y l =>
    show y.2 * f y.1 + (x.2 * f x.1 + L f l) = x.2 * f x.1 + (y.2 * f y.1 + L f l)
    rw [add_left_comm]
  | trans _ _ h1 h2 => exact h1.trans h2
theorem L_filter (f : Pr → Nm F) (p : Tm F → Bool) : ∀ a : List (Tm F), (∀ t ∈ a, p t = false → t.2 = 0) → L f (a.filter p) = L f a
  | [], _ => rfl
  | t :: a, h => by
    have ih := L_filter f p a fun t ht => h t (List.mem_cons_of_mem _ ht)
    rw [List.filter_cons]
    cases q : p t with
    | true =>
      show t.2 * f t.1 + L f (a.filter p) = _
      rw [ih]
      rfl
    | false =>
      show L f (a.filter p) = t.2 * f t.1 + L f a
      rw [ih, h t List.mem_cons_self q, zero_mul, zero_add]
theorem L_zero : ∀ a : List (Tm F), L (fun _ => 0) a = 0
  | [] => rfl
  | t :: a => by
    show t.2 * 0 + L _ a = 0
    rw [L_zero a, mul_zero, zero_add]
theorem L_add (f g : Pr → Nm F) : ∀ a : List (Tm F), L (fun x => f x + g x) a = L f a + L g a
  | [] => (zero_add _).symm
  | t :: a => by
    show t.2 * (f t.1 + g t.1) + L _ a = (t.2 * f t.1 + L f a) + (t.2 * g t.1 + L g a)
    rw [L_add f g a, mul_add, add_assoc, add_assoc, add_left_comm (t.2 * g t.1)]
theorem L_mul (c : Nm F) (f : Pr → Nm F) : ∀ a : List (Tm F), L (fun x => c * f x) a = c * L f a
  | [] => (mul_zero _).symm
  | t :: a => by
    show t.2 * (c * f t.1) + L _ a = c * (t.2 * f t.1 + L f a)
    rw [L_mul c f a, mul_add, ← mul_assoc, mul_comm t.2 c, mul_assoc]
theorem L_congr {f g : Pr → Nm F} : ∀ {a : List (Tm F)}, (∀ t ∈ a, f t.1 = g t.1) → L f a = L g a
  | [], _ => rfl
  | t :: a, h => by
    show t.2 * f t.1 + L f a = t.2 * g t.1 + L g a
    rw [h t List.mem_cons_self, L_congr fun t ht => h t (List.mem_cons_of_mem _ ht)]
/-- two lists, in either order -/
theorem L_swap (f : Pr → Pr → Nm F) (b : List (Tm F)) : ∀ a : List (Tm F), L (fun x => L (fun y => f x y) b) a = L (fun y => L (fun x => f x y) a) b
  | [] => (L_zero b).symm
  | t :: a => by
    show t.2 * L (fun y => f t.1 y) b + L (fun x => L (fun y => f x y) b) a = L (fun y => t.2 * f t.1 y + L (fun x => f x y) a) b
    rw [L_swap f b a, L_add (fun y => t.2 * f t.1 y), L_mul]
/-! ### terms put together, as a dict does -/
def acc : List (Tm F) → Pr → Nm F → List (Tm F)
  | [], k, c => [(k, 0 + c)]
  | t :: r, k, c => if t.1 = k then (k, t.2 + c) :: r else t :: acc r k c
theorem acc_L (f : Pr → Nm F) (k : Pr) (c : Nm F) : ∀ d : List (Tm F), L f (acc d k c) = c * f k + L f d
  | [] => by
    show (0 + c) * f k + 0 = c * f k + 0
    rw [zero_add]
  | t :: r => by
    unfold acc
    split
    · rename_i h
      show (t.2 + c) * f k + L f r = c * f k + (t.2 * f t.1 + L f r)
      rw [h, add_mul, add_assoc, add_left_comm]
    · show t.2 * f t.1 + L f (acc r k c) = _
      rw [acc_L f k c r, add_left_comm]
      rfl
theorem acc_mem (k : Pr) (c : Nm F) : ∀ (d : List (Tm F)) (z : Pr), z ∈ (acc d k c).map Prod.fst ↔ z = k ∨ z ∈ d.map Prod.fst
  | [], z => by simp [acc]
  | t :: r, z => by
    unfold acc
    split
    · rename_i h
      simp [h]
    · simp only [List.map_cons, List.mem_cons, acc_mem k c r z]
      grind
theorem acc_nodup (k : Pr) (c : Nm F) : ∀ d : List (Tm F), (d.map Prod.fst).Nodup → ((acc d k c).map Prod.fst).Nodup
  | [], _ => by simp [acc]
  | t :: r, h => by
    rw [List.map_cons, List.nodup_cons] at h
    unfold acc
    split
    · rename_i e
      rw [List.map_cons, List.nodup_cons, ← e]
      exact h
    · rename_i e
      rw [List.map_cons, List.nodup_cons]
      refine ⟨fun m => ?_, acc_nodup k c r h.2⟩
      rcases (acc_mem k c r _).mp m with q | q
      · exact e q
      · exact h.1 q
def gat (l : List (Tm F)) : List (Tm F) := l.foldl (fun d t => acc d t.1 t.2) []
theorem gat_snoc (l : List (Tm F)) (t : Tm F) : gat (l ++ [t]) = acc (gat l) t.1 t.2 := by
  unfold gat
  rw [List.foldl_append]
  rfl
theorem fold_L (f : Pr → Nm F) : ∀ (l d : List (Tm F)), L f (l.foldl (fun d t => acc d t.1 t.2) d) = L f l + L f d
  | [], d => (zero_add _).symm
  | t :: l, d => by
    show L f (l.foldl _ (acc d t.1 t.2)) = t.2 * f t.1 + L f l + L f d
    rw [fold_L f l, acc_L, add_left_comm, add_assoc]
theorem gat_L (f : Pr → Nm F) (l : List (Tm F)) : L f (gat l) = L f l := by
  unfold gat
  rw [fold_L]
  exact add_zero _
theorem fold_nodup : ∀ (l d : List (Tm F)), (d.map Prod.fst).Nodup → ((l.foldl (fun d t => acc d t.1 t.2) d).map Prod.fst).Nodup
  | [], d, h => h
  | t :: l, d, h => fold_nodup l _ (acc_nodup t.1 t.2 d h)
theorem gat_nodup (l : List (Tm F)) : ((gat l).map Prod.fst).Nodup := fold_nodup l [] List.nodup_nil
/-! ### the order -/
/-- one product stands ahead of another one -/
def plt (a b : Pr) : Prop := a.length < b.length ∨ (a.length = b.length ∧ a < b)
instance : DecidableRel plt := fun a b => inferInstanceAs (Decidable (_ ∨ _))
theorem plt_irr (a : Pr) : ¬ plt a a := fun h => h.elim (Nat.lt_irrefl _) fun h => List.lt_irrefl _ h.2
theorem plt_tr {a b c : Pr} (h : plt a b) (g : plt b c) : plt a c := by
  unfold plt at *
  rcases h with h | ⟨h1, h2⟩
  · rcases g with g | ⟨g1, g2⟩ <;> exact .inl (by omega)
  · rcases g with g | ⟨g1, g2⟩
    · exact .inl (by omega)
    · exact .inr ⟨by omega, List.lt_trans h2 g2⟩
theorem plt_tot {a b : Pr} (h : ¬ plt a b) (n : a ≠ b) : plt b a := by
  unfold plt at *
  by_cases h1 : a.length < b.length
  · exact absurd (.inl h1) h
  · by_cases h2 : b.length < a.length
    · exact .inl h2
    · have e : a.length = b.length := by omega
      refine .inr ⟨e.symm, ?_⟩
      have : ¬ a < b := fun q => h (.inr ⟨e, q⟩)
      by_cases q : b < a
      · exact q
      · exact absurd (List.le_antisymm (List.not_lt.mp q) (List.not_lt.mp this)) n
/-- terms in order, without noughts -/
structure Canon (l : List (Tm F)) : Prop where
  srt : l.Pairwise fun a b => plt a.1 b.1
  nz : ∀ t ∈ l, t.2 ≠ 0
/-- the number of one product -/
def one (k : Pr) : Pr → Nm F := fun x => if x = k then 1 else 0
theorem L_none {k : Pr} : ∀ {l : List (Tm F)}, (∀ t ∈ l, t.1 ≠ k) → L (one k) l = 0
  | [], _ => rfl
  | t :: l, h => by
    show t.2 * one k t.1 + L _ l = 0
    rw [L_none fun t ht => h t (List.mem_cons_of_mem _ ht)]
    unfold one
    rw [if_neg (h t List.mem_cons_self), mul_zero, zero_add]
theorem L_head {t : Tm F} {l : List (Tm F)} (h : Canon (t :: l)) : L (one t.1) (t :: l) = t.2 := by
  show t.2 * one t.1 t.1 + L _ l = t.2
  rw [L_none fun u hu e => plt_irr t.1 (by have := (List.pairwise_cons.mp h.srt).1 u hu; rw [e] at this; exact this)]
  unfold one
  rw [if_pos rfl, mul_one, add_zero]
theorem Canon.tail {t : Tm F} {l : List (Tm F)} (h : Canon (t :: l)) : Canon l := ⟨(List.pairwise_cons.mp h.srt).2, fun u hu => h.nz u (List.mem_cons_of_mem _ hu)⟩
theorem L_less {k : Pr} {t : Tm F} {l : List (Tm F)} (h : Canon (t :: l)) (lt : plt k t.1) : L (one k) (t :: l) = 0 := by
  refine L_none fun u hu e => ?_
  rcases List.mem_cons.mp hu with q | q
  · rw [q] at e
    rw [e] at lt
    exact plt_irr k lt
  · have := (List.pairwise_cons.mp h.srt).1 u q
    rw [e] at this
    exact plt_irr k (plt_tr lt this)
theorem one_no {k : Pr} {t : Tm F} {l : List (Tm F)} (h : t.1 ≠ k) : L (one k) (t :: l) = L (one k) l := by
  show t.2 * one k t.1 + L _ l = _
  unfold one
  rw [if_neg h, mul_zero, zero_add]
theorem L_tail {t : Tm F} {l : List (Tm F)} (h : Canon (t :: l)) : L (one t.1) l = 0 := L_none fun u hu e => plt_irr t.1 (by
  have := (List.pairwise_cons.mp h.srt).1 u hu
  rw [e] at this
  exact this)
/-- each product the same number, the same terms -/
theorem canon_uniq : ∀ {a b : List (Tm F)}, Canon a → Canon b → (∀ k, L (one k) a = L (one k) b) → a = b
  | [], [], _, _, _ => rfl
  | [], t :: b, _, hb, h => by
    have := h t.1
    rw [L_head hb] at this
    exact absurd this.symm (hb.nz t List.mem_cons_self)
  | t :: a, [], ha, _, h => by
    have := h t.1
    rw [L_head ha] at this
    exact absurd this (ha.nz t List.mem_cons_self)
  | t :: a, u :: b, ha, hb, h => by
    have e : t.1 = u.1 := by
      by_cases q : t.1 = u.1
      · exact q
      · by_cases lt : plt t.1 u.1
        · have := h t.1
          rw [L_head ha, L_less hb lt] at this
          exact absurd this (ha.nz t List.mem_cons_self)
        · have := h u.1
          rw [L_head hb, L_less ha (plt_tot lt q)] at this
          exact absurd this.symm (hb.nz u List.mem_cons_self)
    have e2 : t.2 = u.2 := by
      have := h t.1
      rw [L_head ha, e, L_head hb] at this
      exact this
    have r : a = b := by
      refine canon_uniq ha.tail hb.tail fun k => ?_
      by_cases q : t.1 = k
      · have h1 := L_tail ha
        have h2 := L_tail hb
        rw [← e] at h2
        rw [q] at h1 h2
        rw [h1, h2]
      · have := h k
        rw [one_no q, one_no (by rw [← e]; exact q)] at this
        exact this
    rw [r]
    exact congrArg (· :: b) (Prod.ext e e2)
/-! ### what a sum keeps -/
def leT (a b : Tm F) : Bool := !decide (plt b.1 a.1)
theorem leT_tr (a b c : Tm F) (h : leT a b = true) (g : leT b c = true) : leT a c = true := by
  unfold leT at *
  simp only [Bool.not_eq_true', decide_eq_false_iff_not] at *
  intro q
  by_cases e : a.1 = b.1
  · rw [e] at q
    exact g q
  · exact g (plt_tr q (plt_tot h (Ne.symm e)))
theorem leT_tot (a b : Tm F) : (leT a b || leT b a) = true := by
  unfold leT
  simp only [Bool.or_eq_true, Bool.not_eq_true', decide_eq_false_iff_not]
  by_cases h : plt b.1 a.1
  · exact .inr fun q => plt_irr _ (plt_tr h q)
  · exact .inl h
def nzs (l : List (Tm F)) : List (Tm F) := l.filter fun t => decide (t.2 ≠ 0)
def G (l : List (Tm F)) : List (Tm F) := (nzs (gat l)).mergeSort leT
theorem nzs_L (f : Pr → Nm F) (l : List (Tm F)) : L f (nzs l) = L f l := L_filter f _ l fun t _ h => by
  simpa using h
theorem G_L (f : Pr → Nm F) (l : List (Tm F)) : L f (G l) = L f l := by
  unfold G
  rw [L_perm f (List.mergeSort_perm ..), nzs_L, gat_L]
theorem nodup_nzs {l : List (Tm F)} (h : (l.map Prod.fst).Nodup) : ((nzs l).map Prod.fst).Nodup := h.sublist ((List.filter_sublist ..).map _)
theorem pair_srt {l : List (Tm F)} (h : l.Pairwise fun a b => leT a b = true) (n : (l.map Prod.fst).Nodup) : l.Pairwise fun a b => plt a.1 b.1 := by
  have n' : l.Pairwise fun a b => a.1 ≠ b.1 := List.pairwise_map.mp n
  refine (h.and n').imp fun {a b} q => ?_
  have q1 := q.1
  unfold leT at q1
  simp only [Bool.not_eq_true', decide_eq_false_iff_not] at q1
  exact plt_tot q1 (Ne.symm q.2)
theorem nzs_nz {l : List (Tm F)} : ∀ t ∈ nzs l, t.2 ≠ 0 := fun t ht => by
  have := (List.mem_filter.mp ht).2
  simpa using this
/-- any arrangement in order is the one -/
theorem canon_of {l m : List (Tm F)} (p : m.Perm (nzs (gat l))) (s : m.Pairwise fun a b => leT a b = true) : Canon m := by
  refine ⟨pair_srt s (((p.map _).nodup_iff).mpr (nodup_nzs (gat_nodup l))), fun t ht => nzs_nz t (p.mem_iff.mp ht)⟩
theorem G_canon (l : List (Tm F)) : Canon (G l) := canon_of (List.mergeSort_perm ..) (List.pairwise_mergeSort leT_tr leT_tot _)
theorem eq_G {l m : List (Tm F)} (c : Canon m) (h : ∀ k, L (one k) m = L (one k) l) : m = G l := canon_uniq c (G_canon l) fun k => by rw [G_L, h k]
theorem srt_G {l m : List (Tm F)} (p : m.Perm (nzs (gat l))) (s : m.Pairwise fun a b => leT a b = true) : m = G l := eq_G (canon_of p s) fun k => by rw [L_perm _ p, nzs_L, gat_L]
theorem G_congr {l m : List (Tm F)} (h : ∀ k, L (one k) l = L (one k) m) : G l = G m := eq_G (G_canon l) fun k => by rw [G_L, h k]
theorem G_id {l : List (Tm F)} (c : Canon l) : G l = l := (eq_G c fun _ => rfl).symm
theorem G_app (a b : List (Tm F)) : G (G a ++ G b) = G (a ++ b) := G_congr fun k => by rw [L_app, L_app, G_L, G_L]
theorem G_comm (a b : List (Tm F)) : G (a ++ b) = G (b ++ a) := G_congr fun k => by rw [L_app, L_app, add_comm]
/-! ### products of places -/
def ins (x : Int) : Pr → Pr
  | [] => [x]
  | y :: r => if x < y then x :: y :: r else if x = y then y :: r else y :: ins x r
def join (a b : Pr) : Pr := (a ++ b).foldr ins []
theorem ins_mem (x z : Int) : ∀ l : Pr, z ∈ ins x l ↔ z = x ∨ z ∈ l
  | [] => by simp [ins]
  | y :: r => by
    unfold ins
    split
    · simp
    · split
      · rename_i h
        simp [h]
      · simp only [List.mem_cons, ins_mem x z r]
        grind
theorem ins_srt (x : Int) : ∀ l : Pr, l.Pairwise (· < ·) → (ins x l).Pairwise (· < ·)
  | [], _ => List.pairwise_singleton ..
  | y :: r, h => by
    obtain ⟨h1, h2⟩ := List.pairwise_cons.mp h
    unfold ins
    split
    · rename_i q
      refine List.pairwise_cons.mpr ⟨fun z hz => ?_, h⟩
      rcases List.mem_cons.mp hz with e | hz
      · omega
      · have := h1 z hz
        omega
    · split
      · exact h
      · rename_i q1 q2
        refine List.pairwise_cons.mpr ⟨fun z hz => ?_, ins_srt x r h2⟩
        rcases (ins_mem x z r).mp hz with e | hz
        · omega
        · exact h1 z hz
theorem fold_mem (z : Int) : ∀ l : Pr, z ∈ l.foldr ins [] ↔ z ∈ l
  | [] => Iff.rfl
  | x :: l => by
    show z ∈ ins x (l.foldr ins []) ↔ _
    rw [ins_mem, fold_mem z l, List.mem_cons]
theorem fold_srt : ∀ l : Pr, (l.foldr ins []).Pairwise (· < ·)
  | [] => List.Pairwise.nil
  | x :: l => ins_srt x _ (fold_srt l)
theorem srt_uniq : ∀ {a b : Pr}, a.Pairwise (· < ·) → b.Pairwise (· < ·) → (∀ z, z ∈ a ↔ z ∈ b) → a = b
  | [], [], _, _, _ => rfl
  | [], y :: b, _, _, h => absurd ((h y).mpr List.mem_cons_self) List.not_mem_nil
  | x :: a, [], _, _, h => absurd ((h x).mp List.mem_cons_self) List.not_mem_nil
  | x :: a, y :: b, ha, hb, h => by
    obtain ⟨a1, a2⟩ := List.pairwise_cons.mp ha
    obtain ⟨b1, b2⟩ := List.pairwise_cons.mp hb
    have e : x = y := by
      have h1 := (h x).mp List.mem_cons_self
      have h2 := (h y).mpr List.mem_cons_self
      rcases List.mem_cons.mp h1 with q | q
      · exact q
      · rcases List.mem_cons.mp h2 with q2 | q2
        · exact q2.symm
        · have := b1 x q
          have := a1 y q2
          omega
    subst e
    refine congrArg (x :: ·) (srt_uniq a2 b2 fun z => ?_)
    have := h z
    simp only [List.mem_cons] at this
    constructor
    · intro hz
      rcases this.mp (.inr hz) with q | q
      · have := a1 z hz
        omega
      · exact q
    · intro hz
      rcases this.mpr (.inr hz) with q | q
      · have := b1 z hz
        omega
      · exact q
theorem join_mem (a b : Pr) (z : Int) : z ∈ join a b ↔ z ∈ a ∨ z ∈ b := by
  unfold join
  rw [fold_mem, List.mem_append]
theorem join_srt (a b : Pr) : (join a b).Pairwise (· < ·) := fold_srt _
theorem join_is {a b m : Pr} (s : m.Pairwise (· < ·)) (h : ∀ z, z ∈ m ↔ z ∈ a ++ b) : m = join a b := srt_uniq s (join_srt a b) fun z => by rw [h, join_mem, List.mem_append]
theorem join_comm (a b : Pr) : join a b = join b a := srt_uniq (join_srt ..) (join_srt ..) fun z => by rw [join_mem, join_mem]; exact Or.comm
theorem join_assoc (a b c : Pr) : join (join a b) c = join a (join b c) := srt_uniq (join_srt ..) (join_srt ..) fun z => by rw [join_mem, join_mem, join_mem, join_mem]; exact or_assoc
/-! ### times -/
def row (t : Tm F) (b : List (Tm F)) : List (Tm F) := b.map fun u => (join t.1 u.1, t.2 * u.2)
def mul (a b : List (Tm F)) : List (Tm F) := a.flatMap fun t => row t b
theorem row_L (f : Pr → Nm F) (t : Tm F) : ∀ b : List (Tm F), L f (row t b) = t.2 * L (fun y => f (join t.1 y)) b
  | [] => (mul_zero _).symm
  | u :: b => by
    show t.2 * u.2 * f (join t.1 u.1) + L f (row t b) = t.2 * (u.2 * f (join t.1 u.1) + L _ b)
    rw [row_L f t b, mul_add, mul_assoc]
theorem mul_L (f : Pr → Nm F) (b : List (Tm F)) : ∀ a : List (Tm F), L f (mul a b) = L (fun x => L (fun y => f (join x y)) b) a
  | [] => rfl
  | t :: a => by
    show L f (row t b ++ mul a b) = t.2 * _ + L _ a
    rw [L_app, row_L, mul_L f b a]
theorem G_mul (a b : List (Tm F)) : G (mul (G a) (G b)) = G (mul a b) := G_congr fun k => by
  rw [mul_L, mul_L, G_L]
  exact L_congr fun t _ => G_L _ b
theorem mul_cm (a b : List (Tm F)) : G (mul a b) = G (mul b a) := G_congr fun k => by
  rw [mul_L, mul_L, L_swap]
  exact L_congr fun t _ => L_congr fun u _ => by rw [join_comm]
theorem G_mul_l (a b : List (Tm F)) : G (mul (G a) b) = G (mul a b) := G_congr fun k => by rw [mul_L, mul_L, G_L]
theorem G_mul_r (a b : List (Tm F)) : G (mul a (G b)) = G (mul a b) := G_congr fun k => by
  rw [mul_L, mul_L]
  exact L_congr fun t _ => G_L _ b
theorem mul_as (a b c : List (Tm F)) : G (mul (mul a b) c) = G (mul a (mul b c)) := G_congr fun k => by
  rw [mul_L, mul_L, mul_L]
  refine L_congr fun t _ => ?_
  rw [mul_L]
  exact L_congr fun u _ => L_congr fun v _ => by rw [join_assoc]
theorem mul_ds (a b c : List (Tm F)) : G (mul a (b ++ c)) = G (mul a b ++ mul a c) := G_congr fun k => by
  rw [mul_L, L_app, mul_L, mul_L, ← L_add]
  exact L_congr fun t _ => L_app _ b c
def scl (c : Nm F) (a : List (Tm F)) : List (Tm F) := a.map fun t => (t.1, t.2 * c)
theorem scl_L (f : Pr → Nm F) (c : Nm F) : ∀ a : List (Tm F), L f (scl c a) = c * L f a
  | [] => (mul_zero _).symm
  | t :: a => by
    show t.2 * c * f t.1 + L f (scl c a) = c * (t.2 * f t.1 + L f a)
    rw [scl_L f c a, mul_add, mul_comm t.2 c, mul_assoc]
theorem G_scl (c : Nm F) (a : List (Tm F)) : G (scl c (G a)) = G (scl c a) := G_congr fun k => by rw [scl_L, scl_L, G_L]
end SumP
/-! numbers, products, terms on the heap -/
namespace TermP
open PySem PySem.Spec PyProof.Rows L2 Rf NumP NumF SumP
abbrev D0 (Q : VK) : Ends := { nx := fun _ H' => Q .non H', rt := Q }
abbrev W0 (E : XK) : WX := fun c d _ H => E c d H
variable {F : Fd} {K : Frag} {H H' : Hp}
/-! ### data -/
theorem eqvI : ∀ xs ys : List Int, PyData.eqvAll (xs.map PyData.int) (ys.map PyData.int) = decide (xs = ys)
  | [], [] => by simp [PyData.eqvAll]
  | [], _ :: _ => by simp [PyData.eqvAll]
  | _ :: _, [] => by simp [PyData.eqvAll]
  | a :: r, b :: t => by
    simp only [List.map_cons, PyData.eqvAll, PyData.eqv, eqvI r t]
    by_cases h : a = b <;> by_cases h' : r = t <;> simp [h, h']
theorem eqvT (xs ys : List Int) : PyData.eqv (.tuple (xs.map .int)) (.tuple (ys.map .int)) = decide (xs = ys) := by
  simp only [PyData.eqv]
  exact eqvI xs ys
abbrev dN (a : Nm F) : PyData := .tuple [.int a.t, .int a.b]
def dT (t : Tm F) : PyData := .tuple [.tuple (t.1.map .int), dN t.2]
theorem eqvN (a b : Nm F) : PyData.eqv (dN a) (dN b) = decide (a = b) := by
  have e := eqvT [a.t, a.b] [b.t, b.b]
  have : (([a.t, a.b] : List Int) = [b.t, b.b]) ↔ a = b := by
    constructor
    · intro h
      simp only [List.cons.injEq, and_true] at h
      exact Nm.ext h.1 h.2
    · intro h
      rw [h]
  exact e.trans (decide_eq_decide.mpr this)
theorem eqvTm (a b : Tm F) : PyData.eqv (dT a) (dT b) = decide (a = b) := by
  unfold dT
  have : PyData.eqv (.tuple [.tuple (a.1.map .int), dN a.2]) (.tuple [.tuple (b.1.map .int), dN b.2]) = (PyData.eqv (.tuple (a.1.map .int)) (.tuple (b.1.map .int)) && PyData.eqv (dN a.2) (dN b.2)) := by
    show PyData.eqvAll [_, _] [_, _] = _
    simp only [PyData.eqvAll, Bool.and_true]
  rw [this, eqvT, eqvN]
  obtain ⟨a1, a2⟩ := a
  obtain ⟨b1, b2⟩ := b
  by_cases h : a1 = b1 <;> by_cases h' : a2 = b2 <;> simp [h, h']
theorem eqvTs : ∀ l m : List (Tm F), PyData.eqvAll (l.map dT) (m.map dT) = decide (l = m)
  | [], [] => by simp [PyData.eqvAll]
  | [], _ :: _ => by simp [PyData.eqvAll]
  | _ :: _, [] => by simp [PyData.eqvAll]
  | a :: r, b :: t => by
    simp only [List.map_cons, PyData.eqvAll, eqvTm, eqvTs r t]
    by_cases h : a = b <;> by_cases h' : r = t <;> simp [h, h']
theorem eqvL (l m : List (Tm F)) : PyData.eqv (.list (l.map dT)) (.list (m.map dT)) = decide (l = m) := by
  simp only [PyData.eqv]
  exact eqvTs l m
theorem shapeT (t : Tm F) : (dT t).canLay0 = true ∧ (dT t).depth ≤ 2 := by
  unfold dT
  constructor
  · simp [PyData.canLay0, PyData.canLayAll0, PySem.W.ke_canLayAll0]
  · simp [PyData.depth, PyData.depthAll, PySem.W.ke_depthAll]
theorem shapeTs : ∀ l : List (Tm F), PyData.canLayAll0 (l.map dT) = true ∧ PyData.depthAll (l.map dT) ≤ 2
  | [] => ⟨rfl, Nat.zero_le _⟩
  | t :: r => by
    obtain ⟨a, b⟩ := shapeT t
    obtain ⟨c, d⟩ := shapeTs r
    simp only [List.map_cons, PyData.canLayAll0, PyData.depthAll, a, c, Bool.and_true]
    exact ⟨trivial, by omega⟩
theorem shapeL (l : List (Tm F)) : SeqAt.shaped (.list (l.map dT)) = true := by
  obtain ⟨a, b⟩ := shapeTs l
  simp only [SeqAt.shaped, PyData.canLay0, PyData.depth, a, Bool.true_and]
  exact decide_eq_true (show _ ≤ 64 by omega)
theorem shapeN (a : Nm F) : SeqAt.shaped (dN a) = true := rfl
/-! ### the heap -/
def NumAt (H : Hp) (q : Addr) (a : Nm F) : Prop := H q = some (.tup [.int a.t, .int a.b])
def NumK (K : Frag) (H : Hp) (q : Addr) (a : Nm F) : Prop := SqT K H q [.int a.t, .int a.b]
theorem NumAt.k {q : Addr} {a : Nm F} (h : NumAt H q a) : NumK K H q a := .inl (.inl h)
/-- all but the tables, and but x -/
def ExtX (x : Addr) (H H' : Hp) : Prop := ∀ b o, b ≠ x → H b = some o → (∀ ps, o ≠ .tbl ps) → H' b = some o
theorem Kp.ext (k : Kp H H') : LamX.ExtN H H' := fun b o e _ => k b o e
theorem ext_x {x : Addr} (k : LamX.ExtN H H') : ExtX x H H' := fun b o _ e n => k b o e n
theorem kx_x {x : Addr} (k : KpX x H H') : ExtX x H H' := fun b o n e _ => k b o n e
theorem ExtX.trans {x : Addr} {H1 H2 H3 : Hp} (a : ExtX x H1 H2) (b : ExtX x H2 H3) : ExtX x H1 H3 := fun c o n e t => b c o n (a c o n e t) t
theorem ExtX.ext {x : Addr} (k : ExtX x H H') (h : H x = none) : LamX.ExtN H H' := fun b o e n => k b o (fun z => by rw [z, h] at e; cases e) e n
theorem NumAt.ext {q : Addr} {a : Nm F} (h : NumAt H q a) (e : LamX.ExtN H H') : NumAt H' q a := e _ _ h (fun _ z => by cases z)
theorem sqL_ext {a : Addr} {xs : List V} (h : SqL K H a xs) (e : LamX.ExtN H H') : SqL K H' a xs := by
  rcases h with (h | ⟨o, h⟩) | h
  · exact .inl (.inl (e _ _ h (fun _ q => by cases q)))
  · exact .inl (.inr ⟨o, e _ _ h (fun _ q => by cases q)⟩)
  · exact .inr h
theorem sqT_ext {a : Addr} {xs : List V} (h : SqT K H a xs) (e : LamX.ExtN H H') : SqT K H' a xs := by
  rcases h with (h | ⟨o, h⟩) | h
  · exact .inl (.inl (e _ _ h (fun _ q => by cases q)))
  · exact .inl (.inr ⟨o, e _ _ h (fun _ q => by cases q)⟩)
  · exact .inr h
theorem NumK.ext {q : Addr} {a : Nm F} (h : NumK K H q a) (e : LamX.ExtN H H') : NumK K H' q a := sqT_ext h e
/-- one term on the heap -/
structure Tr (F : Fd) where
  τ : Addr
  π : Addr
  q : Addr
  t : Tm F
def ProdAt (H : Hp) (π : Addr) (ks : Pr) : Prop := H π = some (.tup (ks.map V.int))
def TrAt (H : Hp) (r : Tr F) : Prop := H r.τ = some (.tup [.ref r.π, .ref r.q]) ∧ ProdAt H r.π r.t.1 ∧ NumAt H r.q r.t.2
def vsOf (rs : List (Tr F)) : List V := rs.map fun r => .ref r.τ
def tmOf (rs : List (Tr F)) : List (Tm F) := rs.map Tr.t
def TermsAt (H : Hp) (a : Addr) (l : List (Tm F)) : Prop := ∃ rs : List (Tr F), H a = some (.lst (vsOf rs)) ∧ (∀ r ∈ rs, TrAt H r) ∧ tmOf rs = l
theorem TrAt.ext {r : Tr F} (h : TrAt H r) (e : LamX.ExtN H H') : TrAt H' r :=
  ⟨e _ _ h.1 (fun _ z => by cases z), e _ _ h.2.1 (fun _ z => by cases z), h.2.2.ext e⟩
theorem TermsAt.ext {a : Addr} {l : List (Tm F)} (h : TermsAt H a l) (e : LamX.ExtN H H') : TermsAt H' a l := by
  obtain ⟨rs, h1, h2, h3⟩ := h
  exact ⟨rs, e _ _ h1 (fun _ z => by cases z), fun r hr => (h2 r hr).ext e, h3⟩
theorem TermsAt.kp {a : Addr} {l : List (Tm F)} (h : TermsAt H a l) (e : Rf.Kp H H') : TermsAt H' a l := h.ext (Kp.ext e)
def RoomAt (H : Hp) (r : Addr) : Prop := ∃ l m : Int, H r = some (.lst [.int l, .int m]) ∧ 0 ≤ l ∧ 0 ≤ m ∧ m < 2147483647
theorem TrAt.kx {x : Addr} {r : Tr F} (h : TrAt H r) (hr : RoomAt H x) (e : KpX x H H') : TrAt H' r := by
  obtain ⟨l, m, e0, _⟩ := hr
  have ne : ∀ {b : Addr} {xs : List V}, H b = some (.tup xs) → b ≠ x := fun {b xs} q z => by
    rw [z, e0] at q
    cases q
  exact ⟨e _ _ (ne h.1) h.1, e _ _ (ne h.2.1) h.2.1, e _ _ (ne h.2.2) h.2.2⟩
theorem TermsAt.kx {x a : Addr} {l : List (Tm F)} (h : TermsAt H a l) (hr : RoomAt H x) (n : a ≠ x) (e : KpX x H H') : TermsAt H' a l := by
  obtain ⟨rs, h1, h2, h3⟩ := h
  exact ⟨rs, e _ _ n h1, fun r q => (h2 r q).kx hr e, h3⟩
theorem vs_len (rs : List (Tr F)) : (vsOf rs).length = rs.length := List.length_map ..
theorem vs_get {rs : List (Tr F)} {i : Nat} {v : V} (h : (vsOf rs)[i]? = some v) : ∃ r, rs[i]? = some r ∧ r ∈ rs ∧ v = .ref r.τ := by
  unfold vsOf at h
  rw [List.getElem?_map] at h
  cases e : rs[i]? with
  | none => rw [e] at h; cases h
  | some r =>
    rw [e] at h
    cases h
    exact ⟨r, rfl, List.mem_of_getElem? e, rfl⟩
theorem dpI : ∀ ks : List Int, DpAll K H (ks.map V.int) (ks.map PyData.int)
  | [] => .nil
  | k :: ks => .cons (.int k) (dpI ks)
theorem NumK.dp {q : Addr} {a : Nm F} (h : NumK K H q a) : Dp K H (.ref q) (dN a) := .tup h (.cons (.int _) (.cons (.int _) .nil))
theorem ProdAt.dp {π : Addr} {ks : Pr} (h : ProdAt H π ks) : Dp K H (.ref π) (.tuple (ks.map .int)) := .tup (.inl (.inl h)) (dpI ks)
theorem TrAt.dp {r : Tr F} (h : TrAt H r) : Dp K H (.ref r.τ) (dT r.t) := .tup (.inl (.inl h.1)) (.cons h.2.1.dp (.cons h.2.2.k.dp .nil))
theorem trs_dp : ∀ {rs : List (Tr F)}, (∀ r ∈ rs, TrAt H r) → DpAll K H (vsOf rs) ((tmOf rs).map dT)
  | [], _ => .nil
  | r :: rs, h => .cons (h r List.mem_cons_self).dp (trs_dp fun x hx => h x (List.mem_cons_of_mem _ hx))
theorem TermsAt.dp {a : Addr} {l : List (Tm F)} (h : TermsAt H a l) : Dp K H (.ref a) (.list (l.map dT)) := by
  obtain ⟨rs, h1, h2, rfl⟩ := h
  exact .lst (.inl (.inl h1)) (trs_dp h2)
theorem TermsAt.len {a : Addr} {l : List (Tm F)} (h : TermsAt H a l) : ∃ xs, SqL K H a xs ∧ xs.length = l.length := by
  obtain ⟨rs, h1, h2, rfl⟩ := h
  exact ⟨_, .inl (.inl h1), by rw [vs_len]; exact (List.length_map ..).symm⟩
/-! ### sizes -/
def PrOk (ks : Pr) : Prop := ks.Pairwise (· < ·) ∧ ∀ k ∈ ks, 0 ≤ k ∧ k < 60
theorem srt_len : ∀ {ks : Pr} {a b : Int}, ks.Pairwise (· < ·) → (∀ k ∈ ks, a ≤ k ∧ k < b) → (ks.length : Int) ≤ max 0 (b - a)
  | [], a, b, _, _ => by
    show (0 : Int) ≤ _
    omega
  | k :: r, a, b, h, g => by
    obtain ⟨h1, h2⟩ := List.pairwise_cons.mp h
    have q := srt_len (a := k + 1) (b := b) h2 fun x hx => by
      have := h1 x hx
      have := g x (List.mem_cons_of_mem _ hx)
      omega
    have := g k List.mem_cons_self
    rw [List.length_cons]
    omega
theorem PrOk.len {ks : Pr} (h : PrOk ks) : ks.length ≤ 60 := by
  have := srt_len h.1 h.2
  omega
theorem PrOk.join {a b : Pr} (h : PrOk a) (g : PrOk b) : PrOk (join a b) := ⟨join_srt a b, fun k hk => ((join_mem a b k).mp hk).elim (h.2 k) (g.2 k)⟩
theorem PrOk.nil : PrOk [] := ⟨.nil, fun _ h => by cases h⟩
/-- numbers with bottoms in MM^j, below 2^e, n of them at most -/
structure Wf (j e n : Nat) (l : List (Tm F)) : Prop where
  ok : ∀ t ∈ l, PrOk t.1 ∧ Sz j e t.2
  len : l.length ≤ n
  e7 : 7 ≤ e
theorem Wf.mono {j e n j' e' n' : Nat} {l : List (Tm F)} (h : Wf j e n l) (hj : j ≤ j') (he : e ≤ e') (hn : n ≤ n') : Wf j' e' n' l :=
  ⟨fun t ht => ⟨(h.ok t ht).1, (h.ok t ht).2.mono hj he⟩, Nat.le_trans h.len hn, Nat.le_trans h.e7 he⟩
theorem Wf.app {j e n m : Nat} {a b : List (Tm F)} (h : Wf j e n a) (g : Wf j e m b) : Wf j e (n + m) (a ++ b) :=
  ⟨fun t ht => (List.mem_append.mp ht).elim (h.ok t) (g.ok t), by rw [List.length_append]; have := h.len; have := g.len; omega, h.e7⟩
theorem Wf.mul {j e n k f m : Nat} {a b : List (Tm F)} (h : Wf j e n a) (g : Wf k f m b) : Wf (j + k) (e + f) (n * m) (mul a b) := by
  refine ⟨fun t ht => ?_, ?_, by have := h.e7; omega⟩
  · obtain ⟨x, hx, hz⟩ := List.mem_flatMap.mp ht
    obtain ⟨y, hy, rfl⟩ := List.mem_map.mp hz
    exact ⟨(h.ok x hx).1.join (g.ok y hy).1, (h.ok x hx).2.mul (g.ok y hy).2 h.e7⟩
  · have : (SumP.mul a b).length = a.length * b.length := by
      unfold SumP.mul
      induction a with
      | nil => simp
      | cons x r ih =>
        rw [List.flatMap_cons, List.length_append, ih ⟨fun t ht => h.ok t (List.mem_cons_of_mem _ ht), by have := h.len; rw [List.length_cons] at this; omega, h.e7⟩, List.length_cons, Nat.succ_mul]
        unfold row
        rw [List.length_map]
        omega
    rw [this]
    exact Nat.mul_le_mul h.len g.len
theorem Wf.scl {j e n k f : Nat} {a : List (Tm F)} {c : Nm F} (h : Wf j e n a) (g : Sz k f c) : Wf (j + k) (e + f) n (scl c a) := by
  refine ⟨fun t ht => ?_, by unfold SumP.scl; rw [List.length_map]; exact h.len, by have := h.e7; omega⟩
  obtain ⟨x, hx, rfl⟩ := List.mem_map.mp ht
  exact ⟨(h.ok x hx).1, (h.ok x hx).2.mul g h.e7⟩
theorem acc_len (k : Pr) (c : Nm F) : ∀ d : List (Tm F), (acc d k c).length ≤ d.length + 1
  | [] => Nat.le_refl _
  | t :: r => by
    unfold acc
    split
    · simp
    · have := acc_len k c r
      simp only [List.length_cons]
      omega
theorem Wf.acc {j e n : Nat} {d : List (Tm F)} {k : Pr} {c : Nm F} (h : Wf j e n d) (hk : PrOk k) (g : Sz j e c) : Wf j (e + 1) (n + 1) (acc d k c) := by
  refine ⟨?_, by have := acc_len k c d; have := h.len; omega, by have := h.e7; omega⟩
  have h1 := h.ok
  have h2 := h.e7
  clear h
  induction d with
  | nil =>
    intro t ht
    cases List.mem_singleton.mp ht
    exact ⟨hk, Sz.zero.add g h2⟩
  | cons x r ih =>
    intro t ht
    unfold SumP.acc at ht
    split at ht
    · rcases List.mem_cons.mp ht with rfl | ht
      · exact ⟨hk, (h1 x List.mem_cons_self).2.add g h2⟩
      · have := h1 t (List.mem_cons_of_mem _ ht)
        exact ⟨this.1, this.2.mono (Nat.le_refl _) (Nat.le_succ _)⟩
    · rcases List.mem_cons.mp ht with rfl | ht
      · have := h1 t List.mem_cons_self
        exact ⟨this.1, this.2.mono (Nat.le_refl _) (Nat.le_succ _)⟩
      · exact ih (fun t ht => h1 t (List.mem_cons_of_mem _ ht)) t ht
theorem Wf.gat {j e n : Nat} {l : List (Tm F)} (h : Wf j e n l) : ∀ i, i ≤ l.length → Wf j (e + i) i (gat (l.take i))
  | 0, _ => ⟨fun t ht => (by cases ht), Nat.le_refl _, h.e7⟩
  | i + 1, hi => by
    have hlt : i < l.length := hi
    have e : l.take (i + 1) = l.take i ++ [l[i]] := by rw [List.take_succ, List.getElem?_eq_getElem hlt]; rfl
    rw [e, gat_snoc]
    have q := h.ok l[i] (List.getElem_mem _)
    exact (h.gat i (by omega)).acc q.1 (q.2.mono (Nat.le_refl _) (by omega))
theorem Wf.G {j e n : Nat} {l : List (Tm F)} (h : Wf j e n l) : Wf j (e + n) n (G l) := by
  have q := h.gat l.length (Nat.le_refl _)
  rw [List.take_length] at q
  refine ⟨fun t ht => ?_, ?_, by have := h.e7; omega⟩
  · unfold SumP.G at ht
    have ht := (List.mem_filter.mp ((List.mergeSort_perm ..).mem_iff.mp ht)).1
    have q := q.ok t ht
    exact ⟨q.1, q.2.mono (Nat.le_refl _) (by have := h.len; omega)⟩
  · unfold SumP.G
    rw [List.length_mergeSort]
    have a := List.length_filter_le (fun t : Tm F => decide (t.2 ≠ 0)) (SumP.gat l)
    have b := q.len
    have c := h.len
    unfold nzs
    omega
/-- what the program can reckon with -/
def Wg (l : List (Tm F)) : Prop := ∃ j e n, 65 * j + e + n ≤ 1990 ∧ Wf j e n l
theorem Wf.g {j e n : Nat} {l : List (Tm F)} (h : Wf j e n l) (hj : j ≤ 8) (he : e ≤ 1000) (hn : n ≤ 300) : Wg l := ⟨j, e, n, by omega, h⟩
theorem Wf.g' {j e n : Nat} {l : List (Tm F)} (h : Wf j e n l) (hj : j ≤ 8) (he : e + n ≤ 1300) : Wg l := ⟨j, e, n, by omega, h⟩
theorem Wf.g0 {e n : Nat} {l : List (Tm F)} (h : Wf 0 e n l) (he : e + n ≤ 1990) : Wg l := ⟨0, e, n, by omega, h⟩
theorem Sz.b' {j e : Nat} {c : Nm F} (h : Sz j e c) (he : 65 * j + e ≤ 1990) : Bd 2000 c.t ∧ Bd 2000 c.b := ⟨h.bd.2.mono (by omega), h.bd.1.mono (by omega)⟩
theorem Sz.b {j e : Nat} {c : Nm F} (h : Sz j e c) (hj : j ≤ 8) (he : e ≤ 1400) : Bd 2000 c.t ∧ Bd 2000 c.b := ⟨h.bd.2.mono (by omega), h.bd.1.mono (by omega)⟩
theorem Wg.bd {l : List (Tm F)} (h : Wg l) {t : Tm F} (ht : t ∈ l) : PrOk t.1 ∧ Bd 2000 t.2.t ∧ Bd 2000 t.2.b := by
  obtain ⟨j, e, n, he, w⟩ := h
  exact ⟨(w.ok t ht).1, Sz.b' (w.ok t ht).2 (by omega)⟩
theorem Wg.len {l : List (Tm F)} (h : Wg l) : l.length ≤ 1990 := by
  obtain ⟨j, e, n, he, w⟩ := h
  exact Nat.le_trans w.len (by omega)
theorem Wg.gat {l : List (Tm F)} (h : Wg l) {i : Nat} (hi : i ≤ l.length) : (gat (l.take i)).length ≤ i ∧ ∀ t ∈ gat (l.take i), Bd 2000 t.2.t ∧ Bd 2000 t.2.b := by
  obtain ⟨j, e, n, he, w⟩ := h
  have q := w.gat i hi
  have := w.len
  exact ⟨q.len, fun t ht => Sz.b' (q.ok t ht).2 (by omega)⟩
end TermP
/-! a dict of terms; terms sorted -/
namespace TermP
open PySem PySem.Spec PyProof.Rows L2 Rf NumP NumF SumP
variable {F : Fd} {K : Frag} {H H' : Hp}
theorem putK_cons {κ : Type} [DecidableEq κ] {p : κ × V} {r : List (κ × V)} {k : κ} {v : V} (n : ((p :: r).map Prod.fst).Nodup) : putK (p :: r) k v = if p.1 = k then (k, v) :: r else p :: putK r k v := by
  have n2 := List.nodup_cons.mp (show (p.1 :: r.map Prod.fst).Nodup from n)
  unfold putK
  by_cases h : p.1 = k
  · rw [if_pos h, List.any_cons, decide_eq_true h, Bool.true_or, if_pos rfl, List.map_cons, if_pos h, h]
    congr 1
    have : ∀ l : List (κ × V), (∀ x ∈ l, x.1 ≠ k) → l.map (fun kv => if kv.1 = k then (kv.1, v) else kv) = l := fun l hl => by
      induction l with
      | nil => rfl
      | cons x t ih => rw [List.map_cons, if_neg (hl x List.mem_cons_self), ih fun y hy => hl y (List.mem_cons_of_mem _ hy)]
    exact this r fun x hx e => n2.1 (by rw [h, ← e]; exact List.mem_map_of_mem hx)
  · rw [if_neg h, List.any_cons, decide_eq_false h, Bool.false_or]
    split
    · rw [List.map_cons, if_neg h]
    · rfl
theorem putK_put {κ : Type} [DecidableEq κ] (kvs : List (κ × V)) (k : κ) (y v : V) : putK (putK kvs k y) k v = putK kvs k v := by
  have mm : ∀ l : List (κ × V), (l.map fun kv => if kv.1 = k then (kv.1, y) else kv).map (fun kv => if kv.1 = k then (kv.1, v) else kv) = l.map fun kv => if kv.1 = k then (kv.1, v) else kv := fun l => by
    rw [List.map_map]
    refine List.map_congr_left fun x _ => ?_
    show (if (if x.1 = k then (x.1, y) else x).1 = k then _ else _) = _
    by_cases h : x.1 = k
    · simp [h]
    · simp [h]
  have aa : ∀ l : List (κ × V), ((l.map fun kv => if kv.1 = k then (kv.1, y) else kv).any fun kv => decide (kv.1 = k)) = l.any fun kv => decide (kv.1 = k) := fun l => by
    rw [List.any_map]
    congr 1
    funext x
    show decide ((if x.1 = k then (x.1, y) else x).1 = k) = _
    by_cases h : x.1 = k <;> simp [h]
  unfold putK
  by_cases h : (kvs.any fun kv => decide (kv.1 = k)) = true
  · rw [if_pos h, aa, if_pos h, if_pos h, mm]
  · have h' : ((kvs ++ [(k, y)]).any fun kv => decide (kv.1 = k)) = true := by simp
    rw [if_neg h, if_pos h', if_neg h, List.map_append]
    congr 1
    · have nn : ∀ x ∈ kvs, x.1 ≠ k := fun x hx e => h (List.any_eq_true.mpr ⟨x, hx, decide_eq_true e⟩)
      have : kvs.map (fun kv => if kv.1 = k then (kv.1, v) else kv) = kvs.map id := List.map_congr_left fun x hx => if_neg (nn x hx)
      rw [this, List.map_id]
    · simp
/-- one entry of a dict of terms -/
structure Dn (F : Fd) where
  q : Addr
  t : Tm F
def ky (ks : Pr) : List Key := ks.map Sum.inl
theorem ky_kV (ks : Pr) : (ky ks).map kV = ks.map V.int := by
  unfold ky
  rw [List.map_map]
  rfl
theorem ky_inj : ∀ {a b : Pr}, ky a = ky b → a = b
  | [], [], _ => rfl
  | [], _ :: _, h => by cases h
  | _ :: _, [], h => by cases h
  | x :: a, y :: b, h => by
    have h : (Sum.inl x : Key) :: ky a = Sum.inl y :: ky b := h
    injection h with h1 h2
    injection h1 with h1
    rw [h1, ky_inj h2]
theorem ky_eq {a b : Pr} : (ky a = ky b) = (a = b) := propext ⟨ky_inj, fun h => by rw [h]⟩
def kvOf (ds : List (Dn F)) : List (List Key × V) := ds.map fun x => (ky x.t.1, .ref x.q)
def dmOf (ds : List (Dn F)) : List (Tm F) := ds.map Dn.t
def setDn : List (Dn F) → Pr → Addr → Nm F → List (Dn F)
  | [], k, q, c => [⟨q, (k, c)⟩]
  | x :: r, k, q, c => if x.t.1 = k then ⟨q, (k, c)⟩ :: r else x :: setDn r k q c
def getDn : List (Dn F) → Pr → Option (Dn F)
  | [], _ => none
  | x :: r, k => if x.t.1 = k then some x else getDn r k
def getN (ds : List (Dn F)) (k : Pr) : Nm F := match getDn ds k with
  | some x => x.t.2
  | none => 0
theorem valV_kv (k : Pr) : ∀ ds : List (Dn F), valV (kvOf ds) (ky k) = (getDn ds k).map fun x => .ref x.q
  | [] => rfl
  | x :: r => by
    unfold getDn
    by_cases h : x.t.1 = k
    · rw [if_pos h]
      exact valV_pos (p := (ky x.t.1, V.ref x.q)) (by rw [h])
    · rw [if_neg h]
      exact (valV_neg (p := (ky x.t.1, V.ref x.q)) (fun e => h (ky_inj e))).trans (valV_kv k r)
theorem kv_nodup {ds : List (Dn F)} (n : ((dmOf ds).map Prod.fst).Nodup) : ((kvOf ds).map Prod.fst).Nodup := by
  have e : (kvOf ds).map Prod.fst = ((dmOf ds).map Prod.fst).map ky := by
    unfold kvOf dmOf
    rw [List.map_map, List.map_map, List.map_map]
    rfl
  rw [e]
  exact List.Pairwise.map _ (fun a b h e => h (ky_inj e)) n
theorem putK_kv (k : Pr) (q : Addr) (c : Nm F) : ∀ ds : List (Dn F), ((dmOf ds).map Prod.fst).Nodup → putK (kvOf ds) (ky k) (.ref q) = kvOf (setDn ds k q c)
  | [], _ => rfl
  | x :: r, n => by
    have n' := kv_nodup n
    have n2 : ((dmOf r).map Prod.fst).Nodup := (List.nodup_cons.mp n).2
    have e : putK (kvOf (x :: r)) (ky k) (.ref q) = _ := putK_cons (p := (ky x.t.1, V.ref x.q)) (r := kvOf r) n'
    rw [e]
    unfold setDn
    by_cases h : x.t.1 = k
    · rw [if_pos h, if_pos (by rw [h])]
      rfl
    · rw [if_neg h, if_neg (fun e => h (ky_inj e)), putK_kv k q c r n2]
      rfl
theorem acc_dm (k : Pr) (q : Addr) (c : Nm F) : ∀ ds : List (Dn F), acc (dmOf ds) k c = dmOf (setDn ds k q (getN ds k + c))
  | [] => rfl
  | x :: r => by
    show (if x.t.1 = k then (k, x.t.2 + c) :: dmOf r else x.t :: acc (dmOf r) k c) = dmOf (if x.t.1 = k then _ else _)
    unfold getN getDn
    by_cases h : x.t.1 = k
    · rw [if_pos h, if_pos h, if_pos h]
      rfl
    · rw [if_neg h, if_neg h, if_neg h, acc_dm k q c r]
      rfl
theorem getDn_mem {k : Pr} {x : Dn F} : ∀ {ds : List (Dn F)}, getDn ds k = some x → x ∈ ds ∧ x.t.1 = k
  | [], h => by cases h
  | y :: r, h => by
    unfold getDn at h
    split at h
    · rename_i e
      cases h
      exact ⟨List.mem_cons_self, e⟩
    · obtain ⟨a, b⟩ := getDn_mem h
      exact ⟨List.mem_cons_of_mem _ a, b⟩
theorem setDn_mem {k : Pr} {q : Addr} {c : Nm F} {x : Dn F} : ∀ {ds : List (Dn F)}, x ∈ setDn ds k q c → x = ⟨q, (k, c)⟩ ∨ x ∈ ds
  | [], h => .inl (List.mem_singleton.mp h)
  | y :: r, h => by
    unfold setDn at h
    split at h
    · rcases List.mem_cons.mp h with h | h
      · exact .inl h
      · exact .inr (List.mem_cons_of_mem _ h)
    · rcases List.mem_cons.mp h with h | h
      · exact .inr (by rw [h]; exact List.mem_cons_self)
      · exact (setDn_mem h).elim .inl fun h => .inr (List.mem_cons_of_mem _ h)
theorem kv_len (ds : List (Dn F)) : (kvOf ds).length = (dmOf ds).length := by
  unfold kvOf dmOf
  rw [List.length_map, List.length_map]
/-! ### sorted -/
theorem alikeI : ∀ xs ys : List Int, PySem.W.alikeAll (xs.map PyData.int) (ys.map PyData.int) = true := PySem.W.alike_ints
theorem key_lt {a b : Pr} (ra rb : List PyData) (h : plt a b) : PySem.W.dataLt (.tuple (.int (a.length : Nat) :: .tuple (a.map .int) :: ra)) (.tuple (.int (b.length : Nat) :: .tuple (b.map .int) :: rb)) = true := by
  have ne : a ≠ b := fun e => plt_irr b (by rw [e] at h; exact h)
  rw [PySem.W.dataLt_tuple, PySem.W.dataLt_cons (by simp [PySem.W.alike]), PySem.W.dataLt_cons (by simp [PySem.W.alike, alikeI]), PySem.W.dataLt_int, eqvT, decide_eq_false ne]
  rcases h with h | ⟨h1, h2⟩
  · rw [if_neg (by simp [PyData.eqv]; omega)]
    exact decide_eq_true (by omega)
  · rw [if_pos (by simp [PyData.eqv]; omega), if_neg Bool.false_ne_true, PySem.W.dataLt_tuple]
    exact (PySem.W.dataLt_ints a b).trans (decide_eq_true h2)
theorem srt_le {α : Type} {k : α → PyData} {f : α → Tm F} {l : List α} {m : List (Tm F)} (hk : ∀ x y : α, plt (f x).1 (f y).1 → PySem.W.dataLt (k x) (k y) = true) (e : l.map f = nzs (gat m)) : (l.mergeSort (PySem.W.dataLe false k)).map f = G m := by
  refine srt_G ?_ ?_
  · rw [← e]
    exact (List.mergeSort_perm ..).map f
  · refine List.pairwise_map.mpr ((PySem.W.sort_pairwise (PySem.W.sortLe_total _ _ _) l).imp fun {a b} h => ?_)
    have h : (!PySem.W.dataLt (k b) (k a)) = true := h
    unfold leT
    by_cases p : plt (f b).1 (f a).1
    · rw [hk b a p] at h
      cases h
    · rw [decide_eq_false p]
      rfl
def toL (r : Tr F) : LRow := ⟨r.τ, r.π, r.t.1, .ref r.q⟩
theorem sort_prog {rs : List (Tr F)} {l : List (Tm F)} (e : tmOf rs = nzs (gat l)) : ∃ ss : List (Tr F), (((rs.map toL).mergeSort leRow).map fun r => V.ref r.t) = vsOf ss ∧ (∀ r ∈ ss, r ∈ rs) ∧ tmOf ss = G l := by
  refine ⟨rs.mergeSort (PySem.W.dataLe false fun r => keyOf (toL r)), ?_, fun r hr => (List.mergeSort_perm ..).mem_iff.mp hr, ?_⟩
  · have := List.map_mergeSort (r := PySem.W.dataLe false fun r => keyOf (toL r)) (s := leRow) (f := toL) (l := rs) (fun a _ b _ => rfl)
    rw [← this, List.map_map]
    rfl
  · exact srt_le (k := fun r => keyOf (toL r)) (f := Tr.t) (fun x y p => key_lt [] [] p) e
def keyD (r : Tr F) : PyData := .tuple [.int (r.t.1.length : Nat), .tuple (r.t.1.map .int), dN r.t.2]
theorem sort_law {rs : List (Tr F)} {l : List (Tm F)} (e : tmOf rs = nzs (gat l)) : ∃ ss : List (Tr F), sortD (vsOf rs) (rs.map keyD) = vsOf ss ∧ (∀ r ∈ ss, r ∈ rs) ∧ tmOf ss = G l := by
  refine ⟨rs.mergeSort (PySem.W.dataLe false keyD), ?_, fun r hr => (List.mergeSort_perm ..).mem_iff.mp hr, ?_⟩
  · unfold sortD vsOf
    have z : (rs.map fun r => V.ref r.τ).zip (rs.map keyD) = rs.map fun r => (V.ref r.τ, keyD r) := List.zip_map' ..
    rw [z]
    have := List.map_mergeSort (r := PySem.W.dataLe false keyD) (s := PySem.W.dataLe false Prod.snd) (f := fun r : Tr F => (V.ref r.τ, keyD r)) (l := rs) (fun a _ b _ => rfl)
    rw [← this, List.map_map]
    rfl
  · exact srt_le (k := keyD) (f := Tr.t) (fun x y p => key_lt [dN x.t.2] [dN y.t.2] p) e
theorem law_alike (rs : List (Tr F)) : PySem.W.AllAlike (rs.map keyD) := PySem.W.AllAlike.of fun b b' => by
  unfold keyD
  simp [PySem.W.alike, PySem.W.alikeAll, alikeI]
theorem law_sorts (rs : List (Tr F)) : PySem.W.Sortable (rs.map keyD) := PySem.W.Sortable.tuples fun b => ⟨_, _, rfl⟩
theorem law_depth (r : Tr F) : (keyD r).depth ≤ 8 := by
  unfold keyD
  simp [PyData.depth, PyData.depthAll, PySem.W.ke_depthAll]
end TermP
/-! what the defs of fields and sums are to do -/
namespace TermP
open PySem PySem.Spec PyProof.Rows L2 Rf NumP NumF SumP
variable {F : Fd} {K : Frag} {H H' : Hp}
theorem le_line {n : Nat} (h : n ≤ 3000) : n ≤ sizeLine := by rw [sizeLine_eq]; omega
theorem lt_line {n : Nat} (h : n ≤ 3000) : n < sizeLine := by rw [sizeLine_eq]; omega
/-! ### fields, sums -/
abbrev fldF (p : Int) : List (Str × V) := putF "own_prime" (.int p) []
def FieldAt (C : Addr) (H : Hp) (f : Addr) (p : Int) : Prop := ∃ dx, H f = some (.ins C dx (fldF p))
theorem fld_look (p : Int) : (fldF p).lookup ("own_prime" : Str) = some (.int p) := by
  rw [lookup_putF, if_pos rfl]
theorem fld_no (p : Int) {m : Str} (h : ¬ m = "own_prime") : (fldF p).lookup m = none := by
  rw [lookup_putF, if_neg h]
  rfl
theorem FieldAt.ext {C : Addr} {f : Addr} {p : Int} (h : FieldAt C H f p) (e : LamX.ExtN H H') : FieldAt C H' f p := by
  obtain ⟨dx, h⟩ := h
  exact ⟨dx, e _ _ h (fun _ z => by cases z)⟩
theorem FieldAt.kp {C : Addr} {f : Addr} {p : Int} (h : FieldAt C H f p) (e : Rf.Kp H H') : FieldAt C H' f p := h.ext (Kp.ext e)
abbrev sumF (f a : Addr) : List (Str × V) := putF "row" (.ref a) (putF "own_field" (.ref f) [])
theorem sum_f (f a : Addr) : (sumF f a).lookup ("own_field" : Str) = some (.ref f) := by
  rw [lookup_putF, if_neg (by decide), lookup_putF, if_pos rfl]
theorem sum_r (f a : Addr) : (sumF f a).lookup ("row" : Str) = some (.ref a) := by
  rw [lookup_putF, if_pos rfl]
theorem sum_no (f a : Addr) {m : Str} (h : ¬ m = "own_field") (h' : ¬ m = "row") : (sumF f a).lookup m = none := by
  rw [lookup_putF, if_neg h', lookup_putF, if_neg h]
  rfl
def SumAt (C S : Addr) (H : Hp) (s : Addr) (F : Fd) (l : List (Tm F)) : Prop := ∃ dx f a, H s = some (.ins S dx (sumF f a)) ∧ FieldAt C H f F.p ∧ TermsAt H a l
theorem SumAt.ext {C S s : Addr} {l : List (Tm F)} (h : SumAt C S H s F l) (e : LamX.ExtN H H') : SumAt C S H' s F l := by
  obtain ⟨dx, f, a, h1, h2, h3⟩ := h
  exact ⟨dx, f, a, e _ _ h1 (fun _ z => by cases z), h2.ext e, h3.ext e⟩
/-- a thing of the kinds that are handed about -/
def Th (H : Hp) (v : V) : Prop := match v with
  | .int _ => True
  | .non => True
  | .bl _ => True
  | .str _ => True
  | .ref p => ∃ o t, H p = some o ∧ kindO o = some t
  | _ => False
theorem Th.ext {v : V} (h : Th H v) (e : LamX.ExtN H H') : Th H' v := by
  cases v with
  | ref p =>
    obtain ⟨o, t, h1, h2⟩ := h
    exact ⟨o, t, e _ _ h1 (fun ps z => by subst z; cases h2), h2⟩
  | _ => exact h
def isI : V → Bool
  | .int _ => true
  | _ => false
/-! ### classes -/
structure KE (K : Frag) (C : Addr) : Prop where
  k : ∀ T ∈ (["NoneType", "bool", "int", "str", "list", "tuple", "dict"] : List String), PySem.W.kitOne K (.type T) (.ref C) = some false ∧ PySem.W.notFirst K C (.type T) = true
  s : PySem.W.kitOne K (.ref C) (.ref C) = some true
  cl : Cls K C
  ha : PySem.W.findIn K (.ref C) "__class__" = some (some (.builtin "object.__class__"))
  hn : PySem.W.specialIn K (.builtin "object.__class__") "__get__" = some (some (.builtin "getset_descriptor.__get__"))
  ht : PySem.W.takesIn K (.builtin "object.__class__") = some true
  hm : PySem.W.mroIn K C (.type "object") = some true
theorem ke_of {C : Addr} (h : keB K C = true) : KE K C := by
  unfold keB at h
  simp only [Bool.and_eq_true, decide_eq_true_eq, beq_iff_eq, List.all_eq_true] at h
  obtain ⟨h1, h2, ⟨h3, h4, h5, h6⟩, h7, h8, h9, h10⟩ := h
  exact ⟨h1, h2, ⟨h3, h4, h5, h6⟩, h7, h8, h9, h10⟩
/-- an exception class beside others -/
structure EF (K : Frag) (C FE : Addr) (l : List (Value × Bool)) : Prop where
  c : ExcC K C
  m : PySem.W.exmOne K (.ref C) (.ref FE) = some true
  k : ∀ x ∈ l, PySem.W.kitOne K (.ref C) x.1 = some x.2
theorem ef_of {C FE : Addr} {l : List (Value × Bool)} (h : exB K C FE l = true) : EF K C FE l := by
  unfold exB at h
  simp only [Bool.and_eq_true, decide_eq_true_eq, List.all_eq_true] at h
  exact ⟨excC_of h.1, h.2.1, h.2.2⟩
/-- a module's number -/
theorem num_of {a : Addr} {x y : Int} (h : numB K a x y = true) (H : Hp) : SqT K H a [.int x, .int y] := by
  unfold numB at h
  split at h
  · rename_i o e
    rw [Bool.and_eq_true] at h
    obtain ⟨h1, h2⟩ := h
    split at h2
    · rename_i its n ed
      split at h2
      · rename_i i t j u el
        simp only [Bool.and_eq_true, decide_eq_true_eq] at h2
        obtain ⟨rfl, rfl⟩ := h2
        refine .inr ⟨o, its, n, e, by simpa using h1, ed, ?_, ?_⟩
        · rw [← Array.length_toList, el]
          exact le_line (show 2 ≤ 3000 by decide)
        · rw [el]
          exact .cons ⟨_, rfl⟩ (.cons ⟨_, rfl⟩ .nil)
      · cases h2
    · cases h2
  · cases h
theorem RoomAt.kp {r : Addr} (h : RoomAt H r) (k : Rf.Kp H H') : RoomAt H' r := by
  obtain ⟨l, m, e, q⟩ := h
  exact ⟨l, m, k _ _ e, q⟩
theorem RoomAt.ne {r l : Addr} (h : RoomAt H r) (n : H l = none) : l ≠ r := by
  obtain ⟨_, _, e, _⟩ := h
  exact (ne_of_none e n).symm
theorem RoomAt.out {r q : Addr} (h : RoomAt H' r) (k : KpX r H H') (n : H' q = none) : H q = none := by
  cases e : H q with
  | none => rfl
  | some o =>
    by_cases y : q = r
    · obtain ⟨_, _, e2, _⟩ := h
      rw [y, e2] at n
      cases n
    · rw [k q o y e] at n
      cases n
/-! ### promises: fields -/
def spW (v : V) (H : Hp) (Q : VK) : Prop := match v with
  | .int _ => Q (.bl true) H
  | .ref p => (∃ o t, H p = some o ∧ kindO o = some t) ∧ Q (.bl false) H
  | .non => Q (.bl false) H
  | .bl _ => Q (.bl false) H
  | .str _ => Q (.bl false) H
  | _ => False
def spWhole : Sp := fun vs H Q _ => ∃ v : V, vs = [v] ∧ spW v H Q
theorem kind_cases {o : HO} {t : String} (h : kindO o = some t) : isiB t "int" = false := by
  cases o <;> cases h <;> rfl
def spPrime : Sp := fun vs H Q _ => ∃ p : Int, vs = [.int p] ∧ p ∈ ps ∧ ∀ H', Rf.Kp H H' → Q (.bl true) H'
def spLow (CN : Addr) : Sp := fun vs H Q E => ∃ t b : Int, vs = [.int t, .int b] ∧ Sm t ∧ Sm b ∧ (b = 0 → ∀ H', Rf.Kp H H' → E (.ref CN) none H') ∧ (b ≠ 0 → ∀ q H', Rf.Kp H H' → H q = none → H' q = some (.tup [.int (lowT t b), .int (lowB t b)]) → Q (.ref q) H')
def spFInit (C : Addr) : Sp := fun vs H Q _ => ∃ (x dx : Addr) (p : Int), vs = [.ref x, .int p] ∧ H x = some (.ins C dx []) ∧ P0 p ∧ ∀ H', KpX x H H' → FieldAt C H' x p → Q .non H'
def spFEq (C : Addr) : Sp := fun vs H Q _ => ∃ (f g : Addr) (p q : Int), vs = [.ref f, .ref g] ∧ FieldAt C H f p ∧ FieldAt C H g q ∧ Q (.bl (decide (p = q))) H
def spGet (C : Addr) : Sp := fun vs H Q _ => ∃ (f : Addr) (p : Int), vs = [.ref f] ∧ FieldAt C H f p ∧ Q (.int p) H
def spMade (C : Addr) : Sp := fun vs H Q _ => ∃ (f : Addr) (p t b : Int), vs = [.ref f, .int t, .int b] ∧ FieldAt C H f p ∧ P0 p ∧ Sm t ∧ Sm b ∧ cond p b ∧ ∀ q H', Rf.Kp H H' → H q = none → H' q = some (.tup [.int (mkT p t b), .int (mkB p t b)]) → Q (.ref q) H'
def spOp (K : Frag) (C : Addr) (op : ∀ {F : Fd}, Nm F → Nm F → Nm F) : Sp := fun vs H Q _ => ∃ (f u v : Addr) (F : Fd) (a b : Nm F), vs = [.ref f, .ref u, .ref v] ∧ FieldAt C H f F.p ∧ NumK K H u a ∧ NumK K H v b ∧ Bd 2000 a.t ∧ Bd 2000 a.b ∧ Bd 2000 b.t ∧ Bd 2000 b.b ∧
  ∀ q H', Rf.Kp H H' → H q = none → NumAt H' q (op a b) → Q (.ref q) H'
def isn (p x y : Int) : Bool := if p = 0 then decide (0 < y) && (decide (lowT x y = x) && decide (lowB x y = y)) else decide (y = 1) && (decide (0 ≤ x) && decide (x < p))
def NumV (p : Int) (v : V) (H : Hp) (Q : VK) : Prop := match v with
  | .ref q => (∃ xs, H q = some (.tup xs) ∧ ((xs.length ≠ 2 ∧ xs.length < 100 ∧ Q (.bl false) H) ∨ ∃ a b, xs = [a, b] ∧ Th H a ∧ Th H b ∧ ((isI a && isI b) = false → Q (.bl false) H) ∧ ∀ x y, a = .int x → b = .int y → Sm x ∧ Sm y ∧ ∀ H', Rf.Kp H H' → Q (.bl (isn p x y)) H')) ∨
    ((∃ xs, H q = some (.lst xs)) ∧ Q (.bl false) H)
  | .int _ => Q (.bl false) H
  | .non => Q (.bl false) H
  | .bl _ => Q (.bl false) H
  | .str _ => Q (.bl false) H
  | _ => False
def spNum (C : Addr) : Sp := fun vs H Q _ => ∃ (f : Addr) (p : Int) (v : V), vs = [.ref f, v] ∧ FieldAt C H f p ∧ P0 p ∧ NumV p v H Q
def spLNum : Sp := fun vs H Q _ => ∃ (p : Int) (v : V), vs = [.int p, v] ∧ P0 p ∧ NumV p v H Q
theorem isn_yes (a : Nm F) : isn F.p a.t a.b = true := by
  unfold isn
  split
  · rename_i hz
    have n0 := a.at0 hz
    obtain ⟨l1, l2⟩ := low_is n0 (t := a.t) (b := a.b) (by have := n0.1; omega) rfl
    rw [decide_eq_true n0.1, decide_eq_true l1, decide_eq_true l2]
    rfl
  · rename_i hz
    obtain ⟨a1, a2, a3⟩ := a.atp hz
    rw [decide_eq_true a1, decide_eq_true a2, decide_eq_true a3]
    rfl
theorem isn_nu {x y : Int} (h : isn F.p x y = true) : Nu F.p x y := by
  unfold isn at h
  unfold Nu
  split at h
  · rename_i hz
    rw [if_pos hz]
    simp only [Bool.and_eq_true, decide_eq_true_eq] at h
    have := (low_ok (t := x) (b := y) (by omega)).1
    rw [h.2.1, h.2.2] at this
    exact this
  · rename_i hz
    rw [if_neg hz]
    simp only [Bool.and_eq_true, decide_eq_true_eq] at h
    exact ⟨h.1, h.2⟩
/-- numbers of the field, handed to is_number -/
theorem NumAt.numV {q : Addr} {a : Nm F} {Q : VK} (h : NumAt H q a) (bt : Bd 2000 a.t) (bb : Bd 2000 a.b) (k : ∀ H', Rf.Kp H H' → Q (.bl true) H') : NumV F.p (.ref q) H Q := by
  refine .inl ⟨_, h, .inr ⟨_, _, rfl, trivial, trivial, fun z => (by cases z), fun x y ex ey => ?_⟩⟩
  cases ex
  cases ey
  refine ⟨bt.sm (by decide), bb.sm (by decide), ?_⟩
  rw [isn_yes]
  exact k
/-- a thing that may be a number, or none -/
def okT (H : Hp) (v : V) : Prop := match v with
  | .ref q => (∃ xs, H q = some (.tup xs) ∧ ((xs.length ≠ 2 ∧ xs.length < 100) ∨ ∃ a b, xs = [a, b] ∧ Th H a ∧ Th H b ∧ (∀ x, a = .int x → Bd 2000 x) ∧ ∀ y, b = .int y → Bd 2000 y)) ∨ ∃ xs, H q = some (.lst xs)
  | .int _ => True
  | .non => True
  | .bl _ => True
  | .str _ => True
  | _ => False
def numR (p : Int) : Option HO → Bool
  | some (.tup [.int x, .int y]) => isn p x y
  | _ => false
def isNum (p : Int) (H : Hp) (v : V) : Bool := match v with
  | .ref q => numR p (H q)
  | _ => false
theorem okT.num {p : Int} {v : V} {Q : VK} (h : okT H v) (k : ∀ H', Rf.Kp H H' → Q (.bl (isNum p H v)) H') : NumV p v H Q := by
  cases v with
  | ref q =>
    rcases h with ⟨xs, e, h⟩ | ⟨xs, e⟩
    · refine .inl ⟨xs, e, ?_⟩
      rcases h with ⟨h2, h3⟩ | ⟨a, b, rfl, ta, tb, sa, sb⟩
      · refine .inl ⟨h2, h3, ?_⟩
        have q' := k H (Rf.Kp.refl H)
        have en : isNum p H (.ref q) = false := by
          show numR p (H q) = _
          rw [e]
          match xs, h2 with
          | [], _ => rfl
          | [a], _ => cases a <;> rfl
          | [_, _], h => exact absurd rfl h
          | a :: b :: c :: r, _ => cases a <;> first | rfl | (cases b <;> rfl)
        rw [en] at q'
        exact q'
      · refine .inr ⟨a, b, rfl, ta, tb, fun hn => ?_, fun x y ea eb => ?_⟩
        · have q' := k H (Rf.Kp.refl H)
          have en : isNum p H (.ref q) = false := by
            show numR p (H q) = _
            rw [e]
            cases a <;> cases b <;> first | rfl | cases hn
          rw [en] at q'
          exact q'
        · subst ea eb
          refine ⟨(sa x rfl).sm (by decide), (sb y rfl).sm (by decide), fun H' k' => ?_⟩
          have q' := k H' k'
          have en : isNum p H (.ref q) = isn p x y := by
            show numR p (H q) = _
            rw [e]
            rfl
          rw [en] at q'
          exact q'
    · refine .inr ⟨⟨xs, e⟩, ?_⟩
      have q' := k H (Rf.Kp.refl H)
      have en : isNum p H (.ref q) = false := by
        show numR p (H q) = _
        rw [e]
        rfl
      rw [en] at q'
      exact q'
  | int x => exact k H (Rf.Kp.refl H)
  | non => exact k H (Rf.Kp.refl H)
  | bl x => exact k H (Rf.Kp.refl H)
  | str x => exact k H (Rf.Kp.refl H)
  | _ => exact (show False from h).elim
theorem okT.ext {v : V} (h : okT H v) (e : LamX.ExtN H H') : okT H' v := by
  cases v with
  | ref q =>
    rcases h with ⟨xs, eq, h⟩ | ⟨xs, eq⟩
    · refine .inl ⟨xs, e _ _ eq (fun _ z => by cases z), ?_⟩
      rcases h with h | ⟨a, b, hx, ta, tb, sa, sb⟩
      · exact .inl h
      · exact .inr ⟨a, b, hx, ta.ext e, tb.ext e, sa, sb⟩
    · exact .inr ⟨xs, e _ _ eq (fun _ z => by cases z)⟩
  | _ => exact h
theorem isNum.ext {p : Int} {v : V} (h : okT H v) (e : LamX.ExtN H H') : isNum p H' v = isNum p H v := by
  cases v with
  | ref q =>
    show numR p (H' q) = numR p (H q)
    rcases h with ⟨xs, eq, _⟩ | ⟨xs, eq⟩ <;> rw [eq, e _ _ eq (fun _ z => by cases z)]
  | _ => rfl
theorem isNum.num {v : V} (h : isNum F.p H v = true) : ∃ (q : Addr) (c : Nm F), v = .ref q ∧ NumAt H q c := by
  cases v with
  | ref q =>
    have h : numR F.p (H q) = true := h
    unfold numR at h
    split at h
    · rename_i x y e
      exact ⟨q, ⟨x, y, isn_nu h⟩, rfl, e⟩
    · cases h
  | _ => cases h
/-! ### promises: sums -/
def spPlace : Sp := fun vs H Q _ => ∃ k : Int, vs = [.int k] ∧ 0 ≤ k ∧ k < 60 ∧ Q (.bl true) H
def spProduct : Sp := fun vs H Q _ => ∃ (π : Addr) (ks : Pr), vs = [.ref π] ∧ ProdAt H π ks ∧ PrOk ks ∧ Q (.bl true) H
def spJoin : Sp := fun vs H Q _ => ∃ (π ρ : Addr) (a b : Pr), vs = [.ref π, .ref ρ] ∧ ProdAt H π a ∧ ProdAt H ρ b ∧ PrOk a ∧ PrOk b ∧ a.length + b.length < 64 ∧ ∀ q H', Rf.Kp H H' → ProdAt H' q (join a b) → Q (.ref q) H'
def spLook (C : Addr) : Sp := fun vs H Q _ => ∃ (f a : Addr) (F : Fd) (l : List (Tm F)), vs = [.ref f, .ref a] ∧ FieldAt C H f F.p ∧ TermsAt H a l ∧ Wg l ∧ ∀ H', Rf.Kp H H' → Q .non H'
def spGath (T : List (Addr × Str)) (C : Addr) : Sp := fun vs H Q _ => ∃ (f a : Addr) (F : Fd) (l : List (Tm F)), vs = [.ref f, .ref a] ∧ FieldAt C H f F.p ∧ TermsAt H a l ∧ Wg l ∧ LamX.Tabs T H ∧ ∀ r H', LamX.ExtN H H' → LamX.Tabs T H' → TermsAt H' r (G l) → (∀ xs, H r ≠ some (.lst xs)) → Q (.ref r) H'
/-- the list of a new sum is no list of before -/
def FreshL (H H' : Hp) (x : Addr) : Prop := ∀ S d f a, H' x = some (.ins S d (sumF f a)) → ∀ xs, H a ≠ some (.lst xs)
theorem FreshL.back {H H1 H' : Hp} {x : Addr} (f : FreshL H1 H' x) (e : LamX.ExtN H H1) : FreshL H H' x := fun S d g a ex xs h => f S d g a ex xs (e _ _ h (fun _ z => by cases z))
def spSInit (T : List (Addr × Str)) (C S : Addr) : Sp := fun vs H Q _ => ∃ (x f a dx : Addr) (F : Fd) (l : List (Tm F)), vs = [.ref x, .ref f, .ref a] ∧ H x = some (.ins S dx []) ∧ FieldAt C H f F.p ∧ TermsAt H a l ∧ Wg l ∧ LamX.Tabs T H ∧ ∀ H', ExtX x H H' → LamX.Tabs T H' → SumAt C S H' x F (G l) → FreshL H H' x → Q .non H'
def spSEq (C S : Addr) : Sp := fun vs H Q _ => ∃ (s u : Addr) (F : Fd) (l m : List (Tm F)), vs = [.ref s, .ref u] ∧ SumAt C S H s F l ∧ SumAt C S H u F m ∧ ∀ H', Rf.Kp H H' → Q (.bl (decide (l = m))) H'
def spSField (C S : Addr) : Sp := fun vs H Q _ => ∃ (s : Addr) (F : Fd) (l : List (Tm F)), vs = [.ref s] ∧ SumAt C S H s F l ∧ ∀ f, FieldAt C H f F.p → Q (.ref f) H
def spSTerms (C S : Addr) : Sp := fun vs H Q _ => ∃ (s : Addr) (F : Fd) (l : List (Tm F)), vs = [.ref s] ∧ SumAt C S H s F l ∧ ∀ a H', Rf.Kp H H' → H a = none → TermsAt H' a l → Q (.ref a) H'
def spAlike (C S CU : Addr) : Sp := fun vs H Q E => ∃ (s u : Addr) (F J : Fd) (l : List (Tm F)) (m : List (Tm J)), vs = [.ref s, .ref u] ∧ SumAt C S H s F l ∧ SumAt C S H u J m ∧ (F.p = J.p → Q .non H) ∧ (F.p ≠ J.p → E (.ref CU) none H)
/-- a sum with another one: over the same field, or over another one -/
def spTwo (T : List (Addr × Str)) (C S CU : Addr) (ok : ∀ {F : Fd}, List (Tm F) → List (Tm F) → Prop) (op : ∀ {F : Fd}, List (Tm F) → List (Tm F) → List (Tm F)) : Sp := fun vs H Q E => ∃ s u : Addr, vs = [.ref s, .ref u] ∧ LamX.Tabs T H ∧
  ((∃ (F : Fd) (l m : List (Tm F)), SumAt C S H s F l ∧ SumAt C S H u F m ∧ ok l m ∧ ∀ r H', LamX.ExtN H H' → LamX.Tabs T H' → SumAt C S H' r F (op l m) → FreshL H H' r → Q (.ref r) H') ∨
    ∃ (F J : Fd) (l : List (Tm F)) (m : List (Tm J)), SumAt C S H s F l ∧ SumAt C S H u J m ∧ F.p ≠ J.p ∧ ∀ H', Rf.Kp H H' → E (.ref CU) none H')
abbrev spSPlus (T : List (Addr × Str)) (C S CU : Addr) : Sp := spTwo T C S CU (fun l m => Wg (l ++ m)) (fun l m => G (l ++ m))
/-- products that can be joined -/
def Jn (l m : List (Tm F)) : Prop := ∀ t ∈ l, ∀ u ∈ m, t.1.length + u.1.length < 64
abbrev spSTimes (T : List (Addr × Str)) (C S CU : Addr) : Sp := spTwo T C S CU (fun l m => Wg l ∧ Wg m ∧ Wg (mul l m) ∧ Jn l m) (fun l m => G (mul l m))
def spScaled (T : List (Addr × Str)) (C S CN : Addr) : Sp := fun vs H Q E => ∃ (s : Addr) (v : V) (F : Fd) (l : List (Tm F)), vs = [.ref s, v] ∧ LamX.Tabs T H ∧ SumAt C S H s F l ∧ Wg l ∧ okT H v ∧ (isNum F.p H v = false → ∀ H', Rf.Kp H H' → E (.ref CN) none H') ∧
  ∀ (q : Addr) (c : Nm F), v = .ref q → NumAt H q c → Bd 2000 c.t ∧ Bd 2000 c.b ∧ Wg (scl c l) ∧ ∀ r H', LamX.ExtN H H' → LamX.Tabs T H' → SumAt C S H' r F (G (scl c l)) → FreshL H H' r → Q (.ref r) H'
/-! ### promises: laws -/
def spRoom (K : Frag) : Sp := fun vs H Q _ => ∃ (a : Addr) (ns : List Int) (k : Int), vs = [.ref a, .int k] ∧ SqL K H a (ns.map V.int) ∧ ns.length ≤ 63 ∧ 0 ≤ k ∧ k ≤ 60 ∧ ∀ l H', Rf.Kp H H' → H l = none → RoomAt H' l → Q (.ref l) H'
def spTake : Sp := fun vs H Q _ => ∃ (r : Addr) (n : Int), vs = [.ref r, .int n] ∧ 0 < n ∧ n ≤ 1000000000000000000 ∧ RoomAt H r ∧ ∀ v H', 0 ≤ v → v < n → RoomAt H' r → KpX r H H' → Q (.int v) H'
def spLLow : Sp := fun vs H Q _ => ∃ t b : Int, vs = [.int t, .int b] ∧ Sm t ∧ Sm b ∧ b ≠ 0 ∧ ∀ q H', Rf.Kp H H' → H q = none → H' q = some (.tup [.int (lowT t b), .int (lowB t b)]) → Q (.ref q) H'
def spLMake : Sp := fun vs H Q _ => ∃ p t b : Int, vs = [.int p, .int t, .int b] ∧ P0 p ∧ Sm t ∧ Sm b ∧ condL p b ∧ ∀ q H', Rf.Kp H H' → H q = none → H' q = some (.tup [.int (mkT p t b), .int (mkB p t b)]) → Q (.ref q) H'
def spLOp (K : Frag) (op : ∀ {F : Fd}, Nm F → Nm F → Nm F) : Sp := fun vs H Q _ => ∃ (p : Int) (u v : Addr) (F : Fd) (a b : Nm F), vs = [.int p, .ref u, .ref v] ∧ p = F.p ∧ NumK K H u a ∧ NumK K H v b ∧ Bd 2000 a.t ∧ Bd 2000 a.b ∧ Bd 2000 b.t ∧ Bd 2000 b.b ∧
  ∀ q H', Rf.Kp H H' → H q = none → NumAt H' q (op a b) → Q (.ref q) H'
/-- a number times -1 -/
def spLNeg (K : Frag) : Sp := fun vs H Q _ => ∃ (p : Int) (u v : Addr) (F : Fd) (b : Nm F), vs = [.int p, .ref u, .ref v] ∧ p = F.p ∧ SqT K H u [.int (-1), .int 1] ∧ NumK K H v b ∧ Bd 2000 b.t ∧ Bd 2000 b.b ∧
  ∀ q (c : Nm F) H', Rf.Kp H H' → H q = none → NumAt H' q c → (∀ j e, 7 ≤ e → Sz j e b → Sz j e c) → Q (.ref q) H'
def spLPrime : Sp := fun vs H Q _ => ∃ r : Addr, vs = [.ref r] ∧ RoomAt H r ∧ ∀ p H', P0 p → RoomAt H' r → KpX r H H' → Q (.int p) H'
def spLNumber : Sp := fun vs H Q _ => ∃ (r : Addr) (p : Int) (F : Fd), vs = [.ref r, .int p] ∧ p = F.p ∧ RoomAt H r ∧ ∀ (q : Addr) (a : Nm F) H', Sz 1 41 a → NumAt H' q a → H q = none → RoomAt H' r → KpX r H H' → Q (.ref q) H'
def spLProduct : Sp := fun vs H Q _ => ∃ (r : Addr) (n m : Int), vs = [.ref r, .int n, .int m] ∧ RoomAt H r ∧ 0 ≤ n ∧ n ≤ 60 ∧ 0 < m ∧ m ≤ 100 ∧ ∀ (q : Addr) (ks : Pr) H', PrOk ks → (∀ k ∈ ks, k < n) → ProdAt H' q ks → H q = none → RoomAt H' r → KpX r H H' → Q (.ref q) H'
def spLTerms : Sp := fun vs H Q _ => ∃ (r : Addr) (p n m : Int) (F : Fd), vs = [.ref r, .int p, .int n, .int m] ∧ p = F.p ∧ RoomAt H r ∧ 0 ≤ n ∧ n ≤ 60 ∧ 0 ≤ m ∧ m ≤ 100 ∧
  ∀ (a : Addr) (l : List (Tm F)) H', Wf 1 41 m.toNat l → (∀ t ∈ l, ∀ k ∈ t.1, k < n) → TermsAt H' a l → H a = none → RoomAt H' r → KpX r H H' → Q (.ref a) H'
def spLGath : Sp := fun vs H Q _ => ∃ (p : Int) (a : Addr) (F : Fd) (l : List (Tm F)), vs = [.int p, .ref a] ∧ p = F.p ∧ TermsAt H a l ∧ Wg l ∧ ∀ r H', Rf.Kp H H' → H r = none → TermsAt H' r (G l) → Q (.ref r) H'
def spLMult : Sp := fun vs H Q _ => ∃ (p : Int) (a b : Addr) (F : Fd) (l m : List (Tm F)), vs = [.int p, .ref a, .ref b] ∧ p = F.p ∧ TermsAt H a l ∧ TermsAt H b m ∧ Wg l ∧ Wg m ∧ Wg (mul l m) ∧ Jn l m ∧ ∀ r H', Rf.Kp H H' → TermsAt H' r (G (mul l m)) → Q (.ref r) H'
def spLIs (C S : Addr) : Sp := fun vs H Q _ => ∃ (s a : Addr) (p : Int) (F : Fd) (l m : List (Tm F)), vs = [.ref s, .int p, .ref a] ∧ p = F.p ∧ SumAt C S H s F l ∧ TermsAt H a m ∧ ∀ H', Rf.Kp H H' → Q (.bl (decide (l = m))) H'
end TermP
namespace K08
open PySem PySem.Spec PyProof.Rows L2 Rf NumP NumF SumP TermP

/-- addresses that the top has laid -/
structure Cn where
  T : List (Addr × Str)
  FalseError : Addr
  NoField : Addr
  NoNumber : Addr
  Unlike : Addr
  NoOrder : Addr
  NoFilling : Addr
  NoSums : Addr
  Field : Addr
  Sum : Addr
  ZERO : Addr
def zOf (K : Frag) : Cn := ⟨[((He.cT K ("gathered", none)).2, "gathered.<locals>.<lambda>"), ((He.cT K ("Sum", some "put_in")).2, "Sum.put_in.<locals>.put"), ((He.cT K ("law", none)).2, "law.<locals>.<lambda>")], He.ga K "FalseError", He.ga K "NoField", He.ga K "NoNumber", He.ga K "Unlike", He.ga K "NoOrder", He.ga K "NoFilling", He.ga K "NoSums", He.ga K "Field", He.ga K "Sum", He.ga K "ZERO"⟩
end K08
/-! rules for loops over any iterator -/
namespace TermP
open PySem PySem.Spec PyProof.Rows L2 Rf NumP NumF SumP
theorem for_it {J : It} {n : Nat} {g : TG} {tb : TS} {D : Ends} {σ : L2.St} {H : Hp} (Pv : Nat → L2.St → Hp → Prop) (h0 : Pv 0 σ H) (hgo : ∀ i σ H, i < n → Pv i σ H → J.go i H) (hst : ∀ σ H, Pv n σ H → J.stop n H)
    (hs : ∀ i x σ H H', i < n → Pv i σ H → J.yld i H x H' → g x σ H' fun σ2 H2 => tb { D with nx := Pv (i + 1), ct := Pv (i + 1), bk := D.nx } σ2 H2) (hd : ∀ σ H, Pv n σ H → D.nx σ H) :
    ∃ W : Nat → Nat → L2.St → Hp → Prop, (∃ m, W 0 m σ H) ∧ ∀ i m σ H, W i m σ H →
      (J.stop i H ∧ D.nx σ H) ∨ (J.go i H ∧ ∃ N : L2.St → Hp → Prop, (∀ σ' H', N σ' H' → ∃ m', m' < m ∧ W (i + 1) m' σ' H') ∧ ∀ x H', J.yld i H x H' → g x σ H' fun σ2 H2 => tb { D with nx := N, ct := N, bk := D.nx } σ2 H2) := by
  refine ⟨fun i m σ H => m = n - i ∧ i ≤ n ∧ Pv i σ H, ⟨n, by simp, Nat.zero_le _, h0⟩, ?_⟩
  rintro i m σ H ⟨rfl, hi, p⟩
  by_cases hlt : i < n
  · exact .inr ⟨hgo i σ H hlt p, Pv (i + 1), fun σ' H' p' => ⟨n - (i + 1), by omega, rfl, hlt, p'⟩, fun x H' y => hs i x σ H H' hlt p y⟩
  · obtain rfl : i = n := by omega
    exact .inl ⟨hst σ H p, hd σ H p⟩
theorem lc_it {J : It} {n : Nat} {g : TG} {tt : TT} {te : TE} {vs : List Nat} {σ : L2.St} {H1 : Hp} {D : Addr} {Qd : Hp → Prop} (Pv : Nat → Hp → Prop) (h0 : Pv 0 (upd H1 D (.lst []))) (hgo : ∀ i H, i < n → Pv i H → J.go i H) (hst : ∀ H, Pv n H → J.stop n H)
    (hs : ∀ i x H H', i < n → Pv i H → J.yld i H x H' → g x (wipe σ vs) H' fun σ2 H2 => wipe σ2 vs = wipe σ vs ∧ tt σ2 H2 fun b H3 =>
      if b = true then te σ2 H3 fun y H4 => ∃ acc, H4 D = some (.lst acc) ∧ acc.length < sizeLine ∧ Pv (i + 1) (upd H4 D (.lst (acc ++ [y]))) else Pv (i + 1) H3) (hd : ∀ H, Pv n H → Qd H) :
    ∃ W : Nat → Nat → Hp → Prop, (∃ m, W 0 m (upd H1 D (.lst []))) ∧ ∀ i m H, W i m H →
      (J.stop i H ∧ Qd H) ∨ (J.go i H ∧ ∃ Nx : Hp → Prop, (∀ H', Nx H' → ∃ m', m' < m ∧ W (i + 1) m' H') ∧ ∀ x H', J.yld i H x H' → g x (wipe σ vs) H' fun σ2 H2 => wipe σ2 vs = wipe σ vs ∧ tt σ2 H2 fun b H3 =>
        if b = true then te σ2 H3 fun y H4 => ∃ acc, H4 D = some (.lst acc) ∧ acc.length < sizeLine ∧ Nx (upd H4 D (.lst (acc ++ [y]))) else Nx H3) := by
  refine ⟨fun i m H => m = n - i ∧ i ≤ n ∧ Pv i H, ⟨n, by simp, Nat.zero_le _, h0⟩, ?_⟩
  rintro i m H ⟨rfl, hi, p⟩
  by_cases hlt : i < n
  · exact .inr ⟨hgo i H hlt p, Pv (i + 1), fun H' p' => ⟨n - (i + 1), by omega, rfl, hlt, p'⟩, fun x H' y => hs i x H H' hlt p y⟩
  · obtain rfl : i = n := by omega
    exact .inl ⟨hst H p, hd H p⟩
variable {F : Fd} {K : Frag} {H H' : Hp} {Q : VK} {E : XK}
theorem TermsAt.set {a x : Addr} {C d : Addr} {fs : List (Str × V)} {o : HO} {l : List (Tm F)} (h : TermsAt H a l) (hx : H x = some (.ins C d fs)) : TermsAt (upd H x o) a l := by
  have ne : ∀ {b : Addr} {u : HO}, H b = some u → (∀ C d fs, u ≠ .ins C d fs) → upd H x o b = some u := fun {b u} e n => by
    rw [upd_ne (fun z => by rw [z, hx] at e; cases e; exact n _ _ _ rfl)]
    exact e
  obtain ⟨rs, h1, h2, h3⟩ := h
  exact ⟨rs, ne h1 (fun _ _ _ z => by cases z), fun r hr => ⟨ne (h2 r hr).1 (fun _ _ _ z => by cases z), ne (h2 r hr).2.1 (fun _ _ _ z => by cases z), ne (h2 r hr).2.2 (fun _ _ _ z => by cases z)⟩, h3⟩
theorem FieldAt.set {C f x : Addr} {p : Int} {o : HO} (h : FieldAt C H f p) (n : f ≠ x) : FieldAt C (upd H x o) f p := by
  obtain ⟨dx, e⟩ := h
  exact ⟨dx, by rw [upd_ne n]; exact e⟩
theorem tabs_set {T : List (Addr × Str)} {x C d : Addr} {fs : List (Str × V)} {o : HO} (h : LamX.Tabs T H) (hx : H x = some (.ins C d fs)) : LamX.Tabs T (upd H x o) := by
  intro p hp
  obtain ⟨ps, e1, e2, e3⟩ := h p hp
  have ne : ∀ {b : Addr} {u : HO}, H b = some u → (∀ C d fs, u ≠ .ins C d fs) → upd H x o b = some u := fun {b u} e n => by
    rw [upd_ne (fun z => by rw [z, hx] at e; cases e; exact n _ _ _ rfl)]
    exact e
  refine ⟨ps, ne e1 (fun _ _ _ z => by cases z), e2, fun pos cv hc => ?_⟩
  obtain ⟨c, e4, e5⟩ := e3 pos cv hc
  exact ⟨c, e4, ne e5 (fun _ _ _ z => by cases z)⟩
theorem field_ne {C f x S dx : Addr} {p : Int} (h : FieldAt C H f p) (hx : H x = some (.ins S dx [])) : f ≠ x := fun z => by
  obtain ⟨d, e⟩ := h
  rw [z, hx] at e
  have e := Option.some.inj e
  injection e with _ _ e
  cases e
theorem ext_new {x : Addr} {H1 : Hp} (k : Rf.Kp H H1) (n : H x = none) (e : ExtX x H1 H') : LamX.ExtN H H' := fun b o h t => e b o (fun z => by rw [z, n] at h; cases h) (k b o h) t
/-- Sum(field, terms) -/
theorem mk_sum {T : List (Addr × Str)} {C S f a : Addr} {l : List (Tm F)} (hF : FieldAt C H f F.p) (hT : TermsAt H a l) (hw : Wg l) (tb : LamX.Tabs T H) (k : ∀ s H', LamX.ExtN H H' → LamX.Tabs T H' → SumAt C S H' s F (G l) → Q (.ref s) H') :
    ∀ x dx, H x = none → H dx = none → dx ≠ x → spSInit T C S [.ref x, .ref f, .ref a] (upd (upd H dx (.own x)) x (.ins S dx [])) (fun v H2 => v = .non ∧ Q (.ref x) H2) E := fun x dx hx hdx ne => by
  have kp : Rf.Kp H (upd (upd H dx (.own x)) x (.ins S dx [])) := (Rf.Kp.new hdx).trans (Rf.Kp.new (by rw [upd_ne (Ne.symm ne)]; exact hx))
  exact ⟨x, f, a, dx, F, l, rfl, upd_same, hF.kp kp, hT.kp kp, hw, LamX.Tabs.ext tb kp, fun H' e t s _ => ⟨rfl, k x H' (ext_new kp hx e) t s⟩⟩
theorem mk_sumF {T : List (Addr × Str)} {C S f a : Addr} {l : List (Tm F)} (hF : FieldAt C H f F.p) (hT : TermsAt H a l) (hw : Wg l) (tb : LamX.Tabs T H) (k : ∀ s H', LamX.ExtN H H' → LamX.Tabs T H' → SumAt C S H' s F (G l) → FreshL H H' s → Q (.ref s) H') :
    ∀ x dx, H x = none → H dx = none → dx ≠ x → spSInit T C S [.ref x, .ref f, .ref a] (upd (upd H dx (.own x)) x (.ins S dx [])) (fun v H2 => v = .non ∧ Q (.ref x) H2) E := fun x dx hx hdx ne => by
  have kp : Rf.Kp H (upd (upd H dx (.own x)) x (.ins S dx [])) := (Rf.Kp.new hdx).trans (Rf.Kp.new (by rw [upd_ne (Ne.symm ne)]; exact hx))
  exact ⟨x, f, a, dx, F, l, rfl, upd_same, hF.kp kp, hT.kp kp, hw, LamX.Tabs.ext tb kp, fun H' e t s fr => ⟨rfl, k x H' (ext_new kp hx e) t s (fr.back (Kp.ext kp))⟩⟩
/-- Field(p) -/
theorem mk_fld {C : Addr} {p : Int} (hp : P0 p) (k : ∀ f H', Rf.Kp H H' → FieldAt C H' f p → Q (.ref f) H') :
    ∀ x dx, H x = none → H dx = none → dx ≠ x → spFInit C [.ref x, .int p] (upd (upd H dx (.own x)) x (.ins C dx [])) (fun v H2 => v = .non ∧ Q (.ref x) H2) E := fun x dx hx hdx ne => by
  have kp : Rf.Kp H (upd (upd H dx (.own x)) x (.ins C dx [])) := (Rf.Kp.new hdx).trans (Rf.Kp.new (by rw [upd_ne (Ne.symm ne)]; exact hx))
  exact ⟨x, dx, p, rfl, upd_same, hp, fun H' e h => ⟨rfl, k x H' ((kp.kx.trans e).kp hx) h⟩⟩
theorem TermsAt.app {a b c : Addr} {l m : List (Tm F)} (h : TermsAt H a l) (g : TermsAt H b m) : ∃ xs ys, H a = some (.lst xs) ∧ H b = some (.lst ys) ∧ xs.length = l.length ∧ ys.length = m.length ∧ ∀ H' c, LamX.ExtN H H' → H' c = some (.lst (xs ++ ys)) → TermsAt H' c (l ++ m) := by
  obtain ⟨ra, ea, ta, rfl⟩ := h
  obtain ⟨rb, eb, tb, rfl⟩ := g
  refine ⟨_, _, ea, eb, by rw [vs_len]; exact (List.length_map ..).symm, by rw [vs_len]; exact (List.length_map ..).symm, fun H' c e h => ⟨ra ++ rb, by rw [h]; unfold vsOf; rw [List.map_append], fun r hr => (List.mem_append.mp hr).elim (fun hr => (ta r hr).ext e) fun hr => (tb r hr).ext e, by unfold tmOf; rw [List.map_append]⟩⟩
/-- one term more -/
theorem TermsAt.snoc {rs : List (Tr F)} {r : Tr F} {c : Addr} (h : ∀ r ∈ rs, TrAt H r) (g : TrAt H r) (e : H c = some (.lst (vsOf rs ++ [.ref r.τ]))) : H c = some (.lst (vsOf (rs ++ [r]))) ∧ (∀ x ∈ rs ++ [r], TrAt H x) ∧ tmOf (rs ++ [r]) = tmOf rs ++ [r.t] := by
  refine ⟨by rw [e]; unfold vsOf; rw [List.map_append]; rfl, fun x hx => (List.mem_append.mp hx).elim (h x) fun hx => by rw [List.mem_singleton.mp hx]; exact g, by unfold tmOf; rw [List.map_append]; rfl⟩
/-! ### lists of terms that grow -/
theorem TrAt.setL {r : Tr F} {c : Addr} {xs : List V} {o : HO} (h : TrAt H r) (hc : H c = some (.lst xs)) : TrAt (upd H c o) r := by
  have ne : ∀ {b : Addr} {ys : List V}, H b = some (.tup ys) → upd H c o b = some (.tup ys) := fun {b ys} e => by
    rw [upd_ne (fun z => by rw [z, hc] at e; cases e)]
    exact e
  exact ⟨ne h.1, ne h.2.1, ne h.2.2⟩
theorem grow {c : Addr} {l : List (Tm F)} {H1 H2 : Hp} {r : Tr F} (hc : H c = none) (k1 : Rf.Kp H H1) (h : TermsAt H1 c l) (k2 : Rf.Kp H1 H2) (hr : TrAt H2 r) :
    ∃ acc, H2 c = some (.lst acc) ∧ acc.length = l.length ∧ Rf.Kp H (upd H2 c (.lst (acc ++ [.ref r.τ]))) ∧ TermsAt (upd H2 c (.lst (acc ++ [.ref r.τ]))) c (l ++ [r.t]) := by
  obtain ⟨rs, e, h1, rfl⟩ := h
  have e2 := k2 _ _ e
  refine ⟨_, e2, by rw [vs_len]; exact (List.length_map ..).symm, ((k1.trans k2).kx.trans KpX.set).kp hc, rs ++ [r], ?_, fun x hx => ?_, ?_⟩
  · rw [upd_same]
    unfold vsOf
    rw [List.map_append]
    rfl
  · rcases List.mem_append.mp hx with hx | hx
    · exact ((h1 x hx).ext (Kp.ext k2)).setL e2
    · rw [List.mem_singleton.mp hx]
      exact hr.setL e2
  · unfold tmOf
    rw [List.map_append]
    rfl
theorem TermsAt.nil {c : Addr} (h : H c = some (.lst [])) : TermsAt (F := F) H c [] := ⟨[], h, fun _ h => (by cases h), rfl⟩
/-- a loop over a list of terms: each of them, in its order -/
theorem TermsAt.at {a : Addr} {l : List (Tm F)} (h : TermsAt H a l) : ∃ rs : List (Tr F), H a = some (.lst (vsOf rs)) ∧ rs.length = l.length ∧ ∀ i v, (vsOf rs)[i]? = some v → ∃ r : Tr F, v = .ref r.τ ∧ TrAt H r ∧ l[i]? = some r.t ∧ r.t ∈ l ∧ l.take (i + 1) = l.take i ++ [r.t] := by
  obtain ⟨rs, e, h1, rfl⟩ := h
  refine ⟨rs, e, (List.length_map ..).symm, fun i v hv => ?_⟩
  obtain ⟨r, er, hr, rfl⟩ := vs_get hv
  have eg : (tmOf rs)[i]? = some r.t := by
    unfold tmOf
    rw [List.getElem?_map, er]
    rfl
  exact ⟨r, rfl, h1 r hr, eg, List.mem_map_of_mem hr, by rw [List.take_succ, eg]; rfl⟩
theorem mul_snoc (a b : List (Tm F)) (t : Tm F) : mul (a ++ [t]) b = mul a b ++ row t b := by
  unfold mul
  rw [List.flatMap_append]
  congr 1
  show row t b ++ [] = _
  exact List.append_nil _
theorem row_snoc (t u : Tm F) (b : List (Tm F)) : row t (b ++ [u]) = row t b ++ [(join t.1 u.1, t.2 * u.2)] := by
  unfold row
  rw [List.map_append]
  rfl
theorem mul_pre {l m : List (Tm F)} {i j : Nat} {t : Tm F} (e : l.take (i + 1) = l.take i ++ [t]) : (mul (l.take i) m ++ row t (m.take j)).length ≤ (mul l m).length := by
  have e1 : mul l m = mul (l.take (i + 1)) m ++ mul (l.drop (i + 1)) m := by
    conv => lhs; rw [← List.take_append_drop (i + 1) l]
    unfold mul
    rw [List.flatMap_append]
  rw [e1, e, mul_snoc, List.length_append, List.length_append, List.length_append]
  have : (row t (m.take j)).length ≤ (row t m).length := by
    unfold row
    rw [List.length_map, List.length_map]
    exact List.length_take_le' ..
  omega
/-! ### a dict of terms, on the heap -/
structure DicAt (H : Hp) (d : Addr) (l : List (Tm F)) (ds : List (Dn F)) : Prop where
  e : H d = some (.dT (kvOf ds))
  dm : dmOf ds = l
  nums : ∀ x ∈ ds, NumAt H x.q x.t.2
theorem NumAt.setD {q d : Addr} {a : Nm F} {kvs : List (List Key × V)} {o : HO} (h : NumAt H q a) (hd : H d = some (.dT kvs)) : NumAt (upd H d o) q a := by
  show upd H d o q = _
  rw [upd_ne (fun z => by rw [NumAt, z, hd] at h; cases h)]
  exact h
theorem DicAt.put {d q : Addr} {l : List (Tm F)} {ds : List (Dn F)} {k : Pr} {c : Nm F} {kvs : List (List Key × V)} (h : DicAt H d (gat l) ds) (e' : H' d = some (.dT kvs)) (hp : putK kvs (ky k) (.ref q) = putK (kvOf ds) (ky k) (.ref q))
    (ns : ∀ x ∈ ds, NumAt H' x.q x.t.2) (hq : NumAt H' q (getN ds k + c)) : DicAt (upd H' d (.dT (putK kvs (ky k) (.ref q)))) d (gat (l ++ [(k, c)])) (setDn ds k q (getN ds k + c)) := by
  have nd : ((dmOf ds).map Prod.fst).Nodup := by rw [h.dm]; exact gat_nodup l
  refine ⟨?_, ?_, fun x hx => ?_⟩
  · rw [upd_same, hp, putK_kv k q (getN ds k + c) ds nd]
  · rw [← acc_dm, h.dm, gat_snoc]
  · rcases setDn_mem hx with rfl | hx
    · exact hq.setD e'
    · exact (ns x hx).setD e'
theorem getN_bd {ds : List (Dn F)} {k : Pr} (h : ∀ t ∈ dmOf ds, Bd 2000 t.2.t ∧ Bd 2000 t.2.b) : Bd 2000 (getN ds k).t ∧ Bd 2000 (getN ds k).b := by
  unfold getN
  split
  · rename_i x e
    exact h x.t (List.mem_map_of_mem (getDn_mem e).1)
  · exact ⟨Bd.mono (j := 1) (show (0 : Int).natAbs < 2 ^ 1 by decide) (by decide), Bd.mono (j := 1) (show (1 : Int).natAbs < 2 ^ 1 by decide) (by decide)⟩
/-- the heap as it is, but at d -/
theorem upd_back {d : Addr} {o u : HO} (e : H d = some u) : upd (upd H d o) d u = H := by
  funext b
  by_cases z : b = d
  · subst z
    rw [upd_same, e]
  · rw [upd_ne z, upd_ne z]
theorem nz_app (l m : List (Tm F)) : nzs (l ++ m) = nzs l ++ nzs m := List.filter_append ..
theorem nz_one (t : Tm F) : nzs [t] = if t.2 ≠ 0 then [t] else [] := by
  unfold nzs
  by_cases h : t.2 = 0 <;> simp [h]
/-- behind found.setdefault(product, ZERO), or found.get(product, ..) -/
structure SetD (K : Frag) (H H2 : Hp) (d : Addr) (ds : List (Dn F)) (k : Pr) (w : Addr) (kvs : List (List Key × V)) : Prop where
  kx : KpX d H H2
  nk : NumK K H2 w (getN ds k)
  e : H2 d = some (.dT kvs)
  len : kvs.length ≤ 3000
  pk : ∀ q, putK kvs (ky k) (.ref q) = putK (kvOf ds) (ky k) (.ref q)
  ns : ∀ x ∈ ds, NumAt H2 x.q x.t.2
theorem DicAt.setd {d Z : Addr} {L : List (Tm F)} {ds : List (Dn F)} {k : Pr} (h : DicAt H d L ds) (hl : ds.length < 3000) (hz : ∀ H, SqT K H Z [.int 0, .int 1]) :
    (∀ v, valV (kvOf ds) (ky k) = some v → ∃ w, v = .ref w ∧ SetD K H H d ds k w (kvOf ds)) ∧ (valV (kvOf ds) (ky k) = none → SetD K H (upd H d (.dT (putK (kvOf ds) (ky k) (.ref Z)))) d ds k Z (putK (kvOf ds) (ky k) (.ref Z))) := by
  have lk : (kvOf ds).length = ds.length := List.length_map ..
  rw [valV_kv]
  cases e : getDn ds k with
  | none =>
    refine ⟨fun v hv => (by cases hv), fun _ => ⟨KpX.set, ?_, upd_same, ?_, fun q => putK_put _ _ _ _, fun x hx => (h.nums x hx).setD h.e⟩⟩
    · have : getN ds k = 0 := by unfold getN; rw [e]
      rw [this]
      exact hz _
    · unfold putK
      split
      · rw [List.length_map]
        omega
      · rw [List.length_append]
        show _ + 1 ≤ _
        omega
  | some x =>
    refine ⟨fun v hv => ?_, fun z => (by cases z)⟩
    cases hv
    refine ⟨x.q, rfl, KpX.refl d H, ?_, h.e, by omega, fun q => rfl, h.nums⟩
    have : getN ds k = x.t.2 := by unfold getN; rw [e]
    rw [this]
    exact (h.nums x (getDn_mem e).1).k
theorem TermsAt.setF {a x : Addr} {od : Obj} {u o : HO} {l : List (Tm F)} (h : TermsAt H a l) (hx : H x = some (.frz od u)) : TermsAt (upd H x o) a l := by
  have ne : ∀ {b : Addr} {w : HO}, H b = some w → (∀ d z, w ≠ .frz d z) → upd H x o b = some w := fun {b w} e n => by
    rw [upd_ne (fun z => by rw [z, hx] at e; cases e; exact n _ _ rfl)]
    exact e
  obtain ⟨rs, h1, h2, h3⟩ := h
  exact ⟨rs, ne h1 (fun _ _ z => by cases z), fun r hr => ⟨ne (h2 r hr).1 (fun _ _ z => by cases z), ne (h2 r hr).2.1 (fun _ _ z => by cases z), ne (h2 r hr).2.2 (fun _ _ z => by cases z)⟩, h3⟩
theorem TermsAt.cast {c : Addr} {l m : List (Tm F)} (h : TermsAt H c l) (e : l = m) : TermsAt H c m := e ▸ h
theorem push {c : Addr} {l : List (Tm F)} {r : Tr F} (h : TermsAt H c l) (hr : TrAt H r) : ∃ acc, H c = some (.lst acc) ∧ acc.length = l.length ∧ TermsAt (upd H c (.lst (acc ++ [.ref r.τ]))) c (l ++ [r.t]) := by
  obtain ⟨rs, e, h1, rfl⟩ := h
  refine ⟨_, e, by rw [vs_len]; exact (List.length_map ..).symm, rs ++ [r], ?_, fun x hx => ?_, ?_⟩
  · rw [upd_same]
    unfold vsOf
    rw [List.map_append]
    rfl
  · rcases List.mem_append.mp hx with hx | hx
    · exact (h1 x hx).setL e
    · rw [List.mem_singleton.mp hx]
      exact hr.setL e
  · unfold tmOf
    rw [List.map_append]
    rfl
theorem RoomAt.set {r c : Addr} {o : HO} (h : RoomAt H r) (n : r ≠ c) : RoomAt (upd H c o) r := by
  obtain ⟨l, m, e, q⟩ := h
  exact ⟨l, m, by rw [upd_ne n]; exact e, q⟩
theorem kx_out {r c : Addr} {o : HO} (k : KpX r H H') (n : H c = none) : KpX r H (upd H' c o) := fun b u ne e => by
  rw [upd_ne (fun z => by rw [z, n] at e; cases e)]
  exact k b u ne e
theorem NumAt.kx {x q : Addr} {a : Nm F} (h : NumAt H q a) (hr : RoomAt H x) (e : KpX x H H') : NumAt H' q a := by
  obtain ⟨l, m, e0, _⟩ := hr
  exact e _ _ (fun z => by rw [NumAt, z, e0] at h; cases h) h
theorem ProdAt.kx {x q : Addr} {a : Pr} (h : ProdAt H q a) (hr : RoomAt H x) (e : KpX x H H') : ProdAt H' q a := by
  obtain ⟨l, m, e0, _⟩ := hr
  exact e _ _ (fun z => by rw [ProdAt, z, e0] at h; cases h) h
/-- the value of a product in a dict, or the nought at z -/
theorem DicAt.getD {d z : Addr} {L : List (Tm F)} {ds : List (Dn F)} (h : DicAt H d L ds) (k : Pr) (hz : NumAt H z (0 : Nm F)) : ∃ w, (valV (kvOf ds) (ky k)).getD (.ref z) = .ref w ∧ NumAt H w (getN ds k) := by
  rw [valV_kv]
  unfold getN
  cases e : getDn ds k with
  | none => exact ⟨z, rfl, hz⟩
  | some x => exact ⟨x.q, rfl, h.nums x (getDn_mem e).1⟩
theorem DicAt.get {d : Addr} {L : List (Tm F)} {ds : List (Dn F)} (h : DicAt H d L ds) (nd : ((dmOf ds).map Prod.fst).Nodup) {i : Nat} (hi : i < ds.length) : valV (kvOf ds) (ky ds[i].t.1) = some (.ref ds[i].q) := by
  rw [valV_kv]
  have : getDn ds ds[i].t.1 = some ds[i] := by
    clear h
    induction ds generalizing i with
    | nil => exact absurd hi (Nat.not_lt_zero _)
    | cons x r ih =>
      have n := List.nodup_cons.mp nd
      cases i with
      | zero => exact if_pos rfl
      | succ j =>
        have hj : j < r.length := Nat.lt_of_succ_lt_succ hi
        have : x.t.1 ≠ r[j].t.1 := fun e => n.1 (by rw [e]; exact List.mem_map_of_mem (List.mem_map_of_mem (List.getElem_mem hj)))
        exact (if_neg this).trans (ih n.2 hj)
  rw [this]
  rfl
/-- (len, product, number) -/
def TriAt (H : Hp) (r : Tr F) : Prop := H r.τ = some (.tup [.int (r.t.1.length : Nat), .ref r.π, .ref r.q]) ∧ ProdAt H r.π r.t.1 ∧ NumAt H r.q r.t.2
def TrisAt (H : Hp) (a : Addr) (l : List (Tm F)) : Prop := ∃ rs : List (Tr F), H a = some (.lst (vsOf rs)) ∧ (∀ r ∈ rs, TriAt H r) ∧ tmOf rs = l
theorem TriAt.kp {r : Tr F} (h : TriAt H r) (k : Rf.Kp H H') : TriAt H' r := ⟨k _ _ h.1, k _ _ h.2.1, k _ _ h.2.2⟩
theorem TriAt.setL {r : Tr F} {c : Addr} {xs : List V} {o : HO} (h : TriAt H r) (hc : H c = some (.lst xs)) : TriAt (upd H c o) r := by
  have ne : ∀ {b : Addr} {ys : List V}, H b = some (.tup ys) → upd H c o b = some (.tup ys) := fun {b ys} e => by
    rw [upd_ne (fun z => by rw [z, hc] at e; cases e)]
    exact e
  exact ⟨ne h.1, ne h.2.1, ne h.2.2⟩
theorem TriAt.setF {r : Tr F} {x : Addr} {od : Obj} {u o : HO} (h : TriAt H r) (hx : H x = some (.frz od u)) : TriAt (upd H x o) r := by
  have ne : ∀ {b : Addr} {ys : List V}, H b = some (.tup ys) → upd H x o b = some (.tup ys) := fun {b ys} e => by
    rw [upd_ne (fun z => by rw [z, hx] at e; cases e)]
    exact e
  exact ⟨ne h.1, ne h.2.1, ne h.2.2⟩
theorem TrisAt.setF {a x : Addr} {od : Obj} {u o : HO} {l : List (Tm F)} (h : TrisAt H a l) (hx : H x = some (.frz od u)) : TrisAt (upd H x o) a l := by
  obtain ⟨rs, h1, h2, h3⟩ := h
  refine ⟨rs, ?_, fun r hr => (h2 r hr).setF hx, h3⟩
  rw [upd_ne (fun z => by rw [z, hx] at h1; cases h1)]
  exact h1
theorem TrisAt.kp {a : Addr} {l : List (Tm F)} (h : TrisAt H a l) (k : Rf.Kp H H') : TrisAt H' a l := by
  obtain ⟨rs, h1, h2, h3⟩ := h
  exact ⟨rs, k _ _ h1, fun r hr => (h2 r hr).kp k, h3⟩
theorem push3 {c : Addr} {l : List (Tm F)} {r : Tr F} (h : TrisAt H c l) (hr : TriAt H r) : ∃ acc, H c = some (.lst acc) ∧ acc.length = l.length ∧ TrisAt (upd H c (.lst (acc ++ [.ref r.τ]))) c (l ++ [r.t]) := by
  obtain ⟨rs, e, h1, rfl⟩ := h
  refine ⟨_, e, by rw [vs_len]; exact (List.length_map ..).symm, rs ++ [r], ?_, fun x hx => ?_, ?_⟩
  · rw [upd_same]
    unfold vsOf
    rw [List.map_append]
    rfl
  · rcases List.mem_append.mp hx with hx | hx
    · exact (h1 x hx).setL e
    · rw [List.mem_singleton.mp hx]
      exact hr.setL e
  · unfold tmOf
    rw [List.map_append]
    rfl
theorem TriAt.dp {r : Tr F} (h : TriAt H r) : Dp K H (.ref r.τ) (keyD r) := .tup (.inl (.inl h.1)) (.cons (.int _) (.cons h.2.1.dp (.cons h.2.2.k.dp .nil)))
theorem tris_dp : ∀ {rs : List (Tr F)}, (∀ r ∈ rs, TriAt H r) → DpAll K H (vsOf rs) (rs.map keyD)
  | [], _ => .nil
  | r :: rs, h => .cons (h r List.mem_cons_self).dp (tris_dp fun x hx => h x (List.mem_cons_of_mem _ hx))
theorem tris_at {rs : List (Tr F)} {i : Nat} {v : V} (h : (vsOf rs)[i]? = some v) : ∃ r, v = .ref r.τ ∧ r ∈ rs ∧ (tmOf rs).take (i + 1) = (tmOf rs).take i ++ [r.t] := by
  obtain ⟨r, er, hr, rfl⟩ := vs_get h
  refine ⟨r, rfl, hr, ?_⟩
  unfold tmOf
  rw [List.take_succ, List.getElem?_map, er]
  rfl
theorem nz_len (l : List (Tm F)) : (nzs l).length ≤ l.length := List.length_filter_le ..
theorem G_len {l : List (Tm F)} : (G l).length ≤ l.length := by
  unfold G
  rw [List.length_mergeSort]
  refine Nat.le_trans (nz_len _) ?_
  have : ∀ (l d : List (Tm F)), (l.foldl (fun d t => acc d t.1 t.2) d).length ≤ d.length + l.length := fun l => by
    induction l with
    | nil => intro d; exact Nat.le_refl _
    | cons t r ih =>
      intro d
      have h1 := ih (acc d t.1 t.2)
      have h2 := acc_len t.1 t.2 d
      rw [List.foldl_cons, List.length_cons]
      omega
  have := this l []
  simpa [gat] using this
/-- one + other, of products -/
theorem cat_at {π ρ : Addr} {a b : Pr} {C : V → Hp → Prop} (ha : ProdAt H π a) (hb : ProdAt H ρ b) (oa : PrOk a) (ob : PrOk b) (hl : a.length + b.length < 64) (h : ∀ c H1, Rf.Kp H H1 → H1 c = some (.tup ((a ++ b).map V.int)) → (a ++ b).length < 64 → C (.ref c) H1) :
    rBin K .Add (.ref π) (.ref ρ) H C := by
  have la := oa.len
  have lb := ob.len
  have ll : (a ++ b).length < 64 := by rw [List.length_append]; omega
  by_cases ea : a = []
  · subst ea
    exact .inr ⟨π, ρ, _, _, rfl, rfl, .inl (.inl ha), .inl (.inl hb), le_line (by rw [List.length_map, List.length_map]; omega), fun _ => h ρ H (Rf.Kp.refl H) hb ll, fun z => absurd rfl z, fun z => absurd rfl z⟩
  · have ea' : a.map V.int ≠ [] := fun z => ea (List.map_eq_nil_iff.mp z)
    refine .inr ⟨π, ρ, _, _, rfl, rfl, .inl (.inl ha), .inl (.inl hb), le_line (by rw [List.length_map, List.length_map]; omega), fun z => absurd z ea', fun _ z => ?_, fun _ _ c hc => h c _ (Rf.Kp.new hc) (by rw [List.map_append]; exact upd_same) ll⟩
    have eb : b = [] := List.map_eq_nil_iff.mp z
    subst eb
    exact h π H (Rf.Kp.refl H) (by rw [List.append_nil]; exact ha) ll
theorem mk_sum' {T : List (Addr × Str)} {C S f a x dx : Addr} {l : List (Tm F)} {Q' : VK} (hF : FieldAt C H f F.p) (hT : TermsAt H a l) (hw : Wg l) (tb : LamX.Tabs T H) (hx : H x = none) (hdx : H dx = none) (ne : dx ≠ x)
    (k : ∀ H', LamX.ExtN H H' → LamX.Tabs T H' → SumAt C S H' x F (G l) → Q' .non H') : spSInit T C S [.ref x, .ref f, .ref a] (upd (upd H dx (.own x)) x (.ins S dx [])) Q' E := by
  have kp : Rf.Kp H (upd (upd H dx (.own x)) x (.ins S dx [])) := (Rf.Kp.new hdx).trans (Rf.Kp.new (by rw [upd_ne (Ne.symm ne)]; exact hx))
  exact ⟨x, f, a, dx, F, l, rfl, upd_same, hF.kp kp, hT.kp kp, hw, LamX.Tabs.ext tb kp, fun H' e t s _ => k H' (ext_new kp hx e) t s⟩
theorem mk_fld' {C x dx : Addr} {p : Int} {Q' : VK} (hp : P0 p) (hx : H x = none) (hdx : H dx = none) (ne : dx ≠ x) (k : ∀ H', Rf.Kp H H' → FieldAt C H' x p → Q' .non H') :
    spFInit C [.ref x, .int p] (upd (upd H dx (.own x)) x (.ins C dx [])) Q' E := by
  have kp : Rf.Kp H (upd (upd H dx (.own x)) x (.ins C dx [])) := (Rf.Kp.new hdx).trans (Rf.Kp.new (by rw [upd_ne (Ne.symm ne)]; exact hx))
  exact ⟨x, dx, p, rfl, upd_same, hp, fun H' e h => k H' ((kp.kx.trans e).kp hx) h⟩
theorem SumAt.ob {C S s : Addr} {l : List (Tm F)} (h : SumAt C S H s F l) {m : Str} (n1 : ¬ m = "own_field") (n2 : ¬ m = "row") : ∃ dx fs, H s = some (.ins S dx fs) ∧ fs.lookup m = none := by
  obtain ⟨dx, f, a, e, _⟩ := h
  exact ⟨dx, _, e, sum_no f a n1 n2⟩
theorem SumAt.ins {C S s : Addr} {l : List (Tm F)} (h : SumAt C S H s F l) : ∃ dx fs, H s = some (.ins S dx fs) := by
  obtain ⟨dx, f, a, e, _⟩ := h
  exact ⟨dx, _, e⟩
theorem KE.ty {C a dx : Addr} {fs : List (Str × V)} (h : KE K C) (e : H a = some (.ins C dx fs)) : TyX K H (.ref a) (.ref C) := .base (.ins e h.cl h.ha h.hn h.ht h.hm)
theorem NumAt.okT {q : Addr} {a : Nm F} (h : NumAt H q a) (b1 : Bd 2000 a.t) (b2 : Bd 2000 a.b) : TermP.okT H (.ref q) := .inl ⟨_, h, .inr ⟨_, _, rfl, trivial, trivial, fun x e => (by cases e; exact b1), fun x e => (by cases e; exact b2)⟩⟩
theorem NumAt.isN {q : Addr} {a : Nm F} (h : NumAt H q a) : isNum F.p H (.ref q) = true := by
  show numR F.p (H q) = true
  rw [show H q = _ from h]
  exact isn_yes a
theorem NumAt.uniq {q : Addr} {a b : Nm F} (h : NumAt H q a) (g : NumAt H q b) : a = b := by
  unfold NumAt at h g
  rw [h] at g
  have e := Option.some.inj g
  injection e with e
  injection e with e1 e2
  injection e1 with e1
  injection e2 with e2 _
  injection e2 with e2
  exact Nm.ext e1 e2
theorem fd_eq {F J : Fd} (h : F.p = J.p) : F = J := by
  cases F
  cases J
  cases h
  rfl
theorem new2 {x dx : Addr} {o : HO} (hx : H x = none) (hdx : H dx = none) (ne : dx ≠ x) : Rf.Kp H (upd (upd H dx (.own x)) x o) := (Rf.Kp.new hdx).trans (Rf.Kp.new (by rw [upd_ne (Ne.symm ne)]; exact hx))
theorem TermsAt.setD {a c : Addr} {xs : List V} {o : HO} {l : List (Tm F)} (h : TermsAt H a l) (hc : H c = some (.lst xs)) (n : a ≠ c) : TermsAt (upd H c o) a l := by
  obtain ⟨rs, h1, h2, h3⟩ := h
  exact ⟨rs, by rw [upd_ne n]; exact h1, fun r hr => (h2 r hr).setL hc, h3⟩
theorem sz_by {c : Nm F} {x y : Int} (hx : c.t = x) (hy : c.b = y) (h : F.p = 0 → y ≠ 0 → y ∣ MM ∧ x.natAbs ≤ 2 ^ 41) : Sz 1 41 c := by
  by_cases hz : F.p = 0
  · have n := pos_0 c hz
    rw [hy] at n
    obtain ⟨h1, h2⟩ := h hz n
    refine ⟨?_, ?_⟩
    · rw [hy, Int.pow_succ, Int.pow_zero, Int.one_mul]
      exact h1
    · rw [hx, hy]
      have : 1 ≤ y.natAbs := by omega
      exact Nat.le_trans h2 (Nat.le_mul_of_pos_right _ this)
  · exact sz_p c hz (by decide)
end TermP
/-! worths, reaches, systems, rows of 0 and 1 -/
namespace TermP
open PySem PySem.Spec PyProof.Rows L2 Rf NumP NumF SumP
variable {F : Fd} {K : Frag} {H H' : Hp}
/-! ### plain -/
/-- all places of the product have 1 -/
def onP (row : List Int) (ks : Pr) : Bool := ks.all fun k => decide (row[k.toNat]? = some 1)
def chi (row : List Int) (ks : Pr) : Nm F := if onP row ks = true then 1 else 0
/-- what a sum is worth at a row -/
def Wo (l : List (Tm F)) (row : List Int) : Nm F := L (chi row) l
theorem Wo_G (l : List (Tm F)) (row : List Int) : Wo (G l) row = Wo l row := G_L _ l
theorem Wo_snoc (l : List (Tm F)) (t : Tm F) (row : List Int) : Wo (l ++ [t]) row = if onP row t.1 = true then Wo l row + t.2 else Wo l row := by
  unfold Wo
  rw [L_app]
  show L (chi row) l + (t.2 * chi row t.1 + 0) = _
  unfold chi
  split
  · rw [mul_one, add_zero]
  · rw [mul_zero, zero_add, add_zero]
theorem Wo_sz {j e n : Nat} {l : List (Tm F)} (h : Wf j e n l) (row : List Int) : ∀ i, i ≤ l.length → Sz j (e + i) (Wo (l.take i) row)
  | 0, _ => Sz.zero
  | i + 1, hi => by
    have hlt : i < l.length := hi
    have e1 : l.take (i + 1) = l.take i ++ [l[i]] := by rw [List.take_succ, List.getElem?_eq_getElem hlt]; rfl
    rw [e1, Wo_snoc]
    have ih := Wo_sz h row i (by omega)
    have q := h.ok l[i] (List.getElem_mem _)
    split
    · exact ih.add (q.2.mono (Nat.le_refl _) (by omega)) (by have := h.e7; omega)
    · exact ih.mono (Nat.le_refl _) (by omega)
theorem Wo_bd {l : List (Tm F)} (h : Wg l) (row : List Int) {i : Nat} (hi : i ≤ l.length) : Bd 2000 (Wo (l.take i) row).t ∧ Bd 2000 (Wo (l.take i) row).b := by
  obtain ⟨j, e, n, he, w⟩ := h
  exact Sz.b' (Wo_sz w row i hi) (by have := w.len; omega)
/-- a row of 0 and 1 -/
def Bits (row : List Int) : Prop := ∀ x ∈ row, x = 0 ∨ x = 1
/-- the least number of places that a sum wants -/
structure IsReach (l : List (Tm F)) (m : Int) : Prop where
  nn : 0 ≤ m
  up : ∀ t ∈ l, ∀ k ∈ t.1, k < m
  le : ∀ n, 0 ≤ n → (∀ t ∈ l, ∀ k ∈ t.1, k < n) → m ≤ n
def lastP (ks : Pr) : Int := ks.getLastD 0
theorem last_in : ∀ {ks : Pr}, ks ≠ [] → lastP ks ∈ ks ∧ atI (ks.map V.int) (-1) = some (.int (lastP ks)) := by
  intro ks h
  have hl : 0 < ks.length := List.length_pos_iff.mpr h
  have e : lastP ks = ks[ks.length - 1] := by
    unfold lastP
    rw [List.getLastD_eq_getLast?, List.getLast?_eq_getElem?, List.getElem?_eq_getElem (by omega)]
    rfl
  refine ⟨by rw [e]; exact List.getElem_mem _, ?_⟩
  unfold atI ixN
  rw [List.length_map, if_neg (by decide), if_pos (by omega)]
  have : ((-1 : Int) + (ks.length : Nat)).toNat = ks.length - 1 := by omega
  show (ks.map V.int)[((-1 : Int) + (ks.length : Nat)).toNat]? = _
  rw [this, List.getElem?_map, List.getElem?_eq_getElem (by omega), e]
  rfl
theorem last_max {ks : Pr} (h : ks.Pairwise (· < ·)) : ∀ k ∈ ks, k ≤ lastP ks := by
  intro k hk
  obtain ⟨i, hi, rfl⟩ := List.mem_iff_getElem.mp hk
  have e : lastP ks = ks[ks.length - 1] := by
    unfold lastP
    rw [List.getLastD_eq_getLast?, List.getLast?_eq_getElem?, List.getElem?_eq_getElem (by omega)]
    rfl
  rw [e]
  by_cases c : i = ks.length - 1
  · subst c
    exact Int.le_refl _
  · exact Int.le_of_lt (List.pairwise_iff_getElem.mp h i (ks.length - 1) hi (by omega) (by omega))
/-- the ends of the products that are not empty -/
def ends (l : List (Tm F)) : List Int := (l.filter fun t => !decide (t.1 = [])).map fun t => lastP t.1 + 1
theorem reach_of {l : List (Tm F)} (h : ∀ t ∈ l, PrOk t.1) {m : Int} (h0 : ends l = [] → m = 0) (h1 : ends l ≠ [] → m ∈ ends l ∧ ∀ y ∈ ends l, y ≤ m) : IsReach l m := by
  have mem : ∀ t ∈ l, t.1 ≠ [] → lastP t.1 + 1 ∈ ends l := fun t ht ne => List.mem_map.mpr ⟨t, List.mem_filter.mpr ⟨ht, by simpa using ne⟩, rfl⟩
  have up : ∀ t ∈ l, ∀ k ∈ t.1, k < m := fun t ht k hk => by
    have ne : t.1 ≠ [] := fun z => by rw [z] at hk; cases hk
    have a := mem t ht ne
    have b := (h1 fun z => by rw [z] at a; cases a).2 _ a
    have := last_max (h t ht).1 k hk
    omega
  by_cases e : ends l = []
  · have := h0 e
    subst this
    exact ⟨Int.le_refl 0, up, fun n hn _ => hn⟩
  · obtain ⟨a, b⟩ := h1 e
    obtain ⟨t, ht, rfl⟩ := List.mem_map.mp a
    obtain ⟨ht, ne⟩ := List.mem_filter.mp ht
    have ne : t.1 ≠ [] := by simpa using ne
    have li := (last_in ne).1
    refine ⟨?_, up, fun n hn g => ?_⟩
    · have := ((h t ht).2 _ li).1
      omega
    · have := g t ht _ li
      omega
/-- all rows of n places -/
def rowsP : Nat → List (List Int)
  | 0 => [[]]
  | n + 1 => (rowsP n).flatMap fun r => [r ++ [0], r ++ [1]]
theorem rows_len : ∀ n, (rowsP n).length = 2 ^ n
  | 0 => rfl
  | n + 1 => by
    have : ∀ l : List (List Int), (l.flatMap fun r => [r ++ [0], r ++ [1]]).length = 2 * l.length := fun l => by
      induction l with
      | nil => rfl
      | cons a r ih => rw [List.flatMap_cons, List.length_append, ih]; show 2 + 2 * r.length = 2 * (r.length + 1); omega
    show ((rowsP n).flatMap _).length = _
    rw [this, rows_len n, Nat.pow_succ]
    omega
theorem rows_ok : ∀ n, ∀ r ∈ rowsP n, r.length = n ∧ Bits r
  | 0, r, h => by
    cases List.mem_singleton.mp h
    exact ⟨rfl, fun x hx => by cases hx⟩
  | n + 1, r, h => by
    obtain ⟨q, hq, hr⟩ := List.mem_flatMap.mp h
    obtain ⟨a, b⟩ := rows_ok n q hq
    have : ∀ z : Int, z = 0 ∨ z = 1 → (q ++ [z]).length = n + 1 ∧ Bits (q ++ [z]) := fun z hz => by
      refine ⟨by rw [List.length_append, a]; rfl, fun x hx => ?_⟩
      rcases List.mem_append.mp hx with hx | hx
      · exact b x hx
      · rw [List.mem_singleton.mp hx]
        exact hz
    rcases List.mem_cons.mp hr with e | hr
    · rw [e]; exact this 0 (.inl rfl)
    · rw [List.mem_singleton.mp hr]; exact this 1 (.inr rfl)
/-- what a system asks of a row -/
def Gr (ns us : List (List (Tm F))) (sided : Bool) (row : List Int) : Bool := (ns.all fun l => decide (Wo l row = 0)) && (!sided || us.all fun l => decide (0 ≤ (Wo l row).t))
/-! ### the heap -/
def RowsAt (H : Hp) (a : Addr) (rows : List (List Int)) : Prop := ∃ qs : List Addr, H a = some (.lst (qs.map V.ref)) ∧ qs.length = rows.length ∧ ∀ i (h : i < qs.length) (h' : i < rows.length), ProdAt H qs[i] rows[i]
theorem ProdAt.ext {q : Addr} {r : Pr} (h : ProdAt H q r) (e : LamX.ExtN H H') : ProdAt H' q r := e _ _ h (fun _ z => by cases z)
theorem RowsAt.ext {a : Addr} {rows : List (List Int)} (h : RowsAt H a rows) (e : LamX.ExtN H H') : RowsAt H' a rows := by
  obtain ⟨qs, h1, h2, h3⟩ := h
  exact ⟨qs, e _ _ h1 (fun _ z => by cases z), h2, fun i h h' => (h3 i h h').ext e⟩
theorem RowsAt.kp {a : Addr} {rows : List (List Int)} (h : RowsAt H a rows) (k : Rf.Kp H H') : RowsAt H' a rows := h.ext (Kp.ext k)
theorem RowsAt.nil {c : Addr} (h : H c = some (.lst [])) : RowsAt H c [] := ⟨[], h, rfl, fun i h => absurd h (Nat.not_lt_zero i)⟩
theorem ProdAt.setL {q c : Addr} {r : Pr} {xs : List V} {o : HO} (h : ProdAt H q r) (hc : H c = some (.lst xs)) : ProdAt (upd H c o) q r := by
  show upd H c o q = _
  rw [upd_ne (fun z => by rw [ProdAt, z, hc] at h; cases h)]
  exact h
theorem RowsAt.push {c : Addr} {rows : List (List Int)} {q : Addr} {r : List Int} (h : RowsAt H c rows) (hr : ProdAt H q r) : ∃ acc, H c = some (.lst acc) ∧ acc.length = rows.length ∧ RowsAt (upd H c (.lst (acc ++ [.ref q]))) c (rows ++ [r]) := by
  obtain ⟨qs, e, l, h1⟩ := h
  refine ⟨_, e, by rw [List.length_map, l], qs ++ [q], by rw [upd_same, List.map_append]; rfl, by rw [List.length_append, List.length_append, l]; rfl, fun i hi hi' => ?_⟩
  by_cases c : i < qs.length
  · rw [List.getElem_append_left c, List.getElem_append_left (by omega)]
    exact (h1 i c (by omega)).setL e
  · have : i = qs.length := by
      rw [List.length_append] at hi
      simp at hi
      omega
    subst this
    rw [List.getElem_append_right (Nat.le_refl _), List.getElem_append_right (by omega)]
    simp only [Nat.sub_self, l]
    exact hr.setL e
theorem RowsAt.at {a : Addr} {rows : List (List Int)} (h : RowsAt H a rows) : ∃ qs : List Addr, H a = some (.lst (qs.map V.ref)) ∧ qs.length = rows.length ∧ ∀ i v, (qs.map V.ref)[i]? = some v → ∃ q r, v = .ref q ∧ ProdAt H q r ∧ rows[i]? = some r ∧ r ∈ rows ∧ rows.take (i + 1) = rows.take i ++ [r] := by
  obtain ⟨qs, e, l, h1⟩ := h
  refine ⟨qs, e, l, fun i v hv => ?_⟩
  rw [List.getElem?_map] at hv
  cases eq : qs[i]? with
  | none => rw [eq] at hv; cases hv
  | some q =>
    rw [eq] at hv
    cases hv
    have hi : i < qs.length := (List.getElem?_eq_some_iff.mp eq).1
    have hq : qs[i] = q := (List.getElem?_eq_some_iff.mp eq).2
    have hi' : i < rows.length := by omega
    have p := h1 i hi hi'
    rw [hq] at p
    refine ⟨q, rows[i], rfl, p, List.getElem?_eq_getElem hi', List.getElem_mem _, ?_⟩
    rw [List.take_succ, List.getElem?_eq_getElem hi']
    rfl
theorem dpRows : ∀ {qs : List Addr} {rows : List (List Int)}, qs.length = rows.length → (∀ i (h : i < qs.length) (h' : i < rows.length), ProdAt H qs[i] rows[i]) → DpAll K H (qs.map V.ref) (rows.map fun r => PyData.tuple (r.map .int))
  | [], [], _, _ => .nil
  | q :: qs, r :: rows, l, h => .cons (h 0 (Nat.zero_lt_succ _) (Nat.zero_lt_succ _)).dp (dpRows (Nat.succ.inj l) fun i hi hi' => h (i + 1) (Nat.succ_lt_succ hi) (Nat.succ_lt_succ hi'))
  | [], _ :: _, l, _ => by cases l
  | _ :: _, [], l, _ => by cases l
def dR (rows : List (List Int)) : PyData := .list (rows.map fun r => .tuple (r.map .int))
theorem RowsAt.dp {a : Addr} {rows : List (List Int)} (h : RowsAt H a rows) : Dp K H (.ref a) (dR rows) := by
  obtain ⟨qs, e, l, h1⟩ := h
  exact .lst (.inl (.inl e)) (dpRows l h1)
theorem eqvRs : ∀ l m : List (List Int), PyData.eqvAll (l.map fun r => PyData.tuple (r.map .int)) (m.map fun r => PyData.tuple (r.map .int)) = decide (l = m)
  | [], [] => by simp [PyData.eqvAll]
  | [], _ :: _ => by simp [PyData.eqvAll]
  | _ :: _, [] => by simp [PyData.eqvAll]
  | a :: r, b :: t => by
    simp only [List.map_cons, PyData.eqvAll, eqvT, eqvRs r t]
    by_cases h : a = b <;> by_cases h' : r = t <;> simp [h, h']
theorem eqvR (l m : List (List Int)) : PyData.eqv (dR l) (dR m) = decide (l = m) := by
  simp only [dR, PyData.eqv]
  exact eqvRs l m
theorem shapeRs : ∀ l : List (List Int), PyData.canLayAll0 (l.map fun r => PyData.tuple (r.map .int)) = true ∧ PyData.depthAll (l.map fun r => PyData.tuple (r.map .int)) ≤ 2
  | [] => ⟨rfl, Nat.zero_le _⟩
  | t :: r => by
    obtain ⟨c, d⟩ := shapeRs r
    simp only [List.map_cons, PyData.canLayAll0, PyData.canLay0, PyData.depthAll, PyData.depth, PySem.W.ke_canLayAll0, PySem.W.ke_depthAll, c, Bool.and_true]
    exact ⟨trivial, by omega⟩
theorem shapeR (l : List (List Int)) : SeqAt.shaped (dR l) = true := by
  obtain ⟨a, b⟩ := shapeRs l
  simp only [SeqAt.shaped, dR, PyData.canLay0, PyData.depth, a, Bool.true_and]
  exact decide_eq_true (show _ ≤ 64 by omega)
theorem shapeP (r : List Int) : SeqAt.shaped (.tuple (r.map .int)) = true := by
  simp [SeqAt.shaped, PyData.canLay0, PyData.depth, PySem.W.ke_canLayAll0, PySem.W.ke_depthAll]
theorem inR (r : List Int) (l : List (List Int)) : ((l.map fun r => PyData.tuple (r.map .int)).any fun z => PyData.eqv z (.tuple (r.map .int))) = decide (r ∈ l) := by
  rw [List.any_map]
  have : (fun z : List Int => PyData.eqv (.tuple (z.map .int)) (.tuple (r.map .int))) = fun z => decide (z = r) := by
    funext z
    exact eqvT z r
  show (l.any fun z => PyData.eqv (.tuple (z.map .int)) (.tuple (r.map .int))) = _
  rw [this]
  by_cases h : r ∈ l
  · rw [decide_eq_true h]
    exact List.any_eq_true.mpr ⟨r, h, decide_eq_true rfl⟩
  · rw [decide_eq_false h]
    exact List.any_eq_false.mpr fun z hz => by rw [decide_eq_false (fun e : z = r => h (e ▸ hz))]; exact Bool.false_ne_true
/-- sums in a list -/
def SumsAt (C S : Addr) (H : Hp) (a : Addr) (F : Fd) (ls : List (List (Tm F))) : Prop := ∃ ss : List Addr, H a = some (.lst (ss.map V.ref)) ∧ ss.length = ls.length ∧ ∀ i (h : i < ss.length) (h' : i < ls.length), SumAt C S H ss[i] F ls[i]
theorem SumsAt.ext {C S a : Addr} {ls : List (List (Tm F))} (h : SumsAt C S H a F ls) (e : LamX.ExtN H H') : SumsAt C S H' a F ls := by
  obtain ⟨ss, h1, h2, h3⟩ := h
  exact ⟨ss, e _ _ h1 (fun _ z => by cases z), h2, fun i h h' => (h3 i h h').ext e⟩
theorem SumsAt.at {C S a : Addr} {ls : List (List (Tm F))} (h : SumsAt C S H a F ls) : ∃ ss : List Addr, H a = some (.lst (ss.map V.ref)) ∧ ss.length = ls.length ∧ ∀ i v, (ss.map V.ref)[i]? = some v → ∃ s l, v = .ref s ∧ SumAt C S H s F l ∧ ls[i]? = some l ∧ l ∈ ls ∧ ls.take (i + 1) = ls.take i ++ [l] := by
  obtain ⟨ss, e, l, h1⟩ := h
  refine ⟨ss, e, l, fun i v hv => ?_⟩
  rw [List.getElem?_map] at hv
  cases eq : ss[i]? with
  | none => rw [eq] at hv; cases hv
  | some q =>
    rw [eq] at hv
    cases hv
    have hi : i < ss.length := (List.getElem?_eq_some_iff.mp eq).1
    have hq : ss[i] = q := (List.getElem?_eq_some_iff.mp eq).2
    have hi' : i < ls.length := by omega
    have p := h1 i hi hi'
    rw [hq] at p
    refine ⟨q, ls[i], rfl, p, List.getElem?_eq_getElem hi', List.getElem_mem _, ?_⟩
    rw [List.take_succ, List.getElem?_eq_getElem hi']
    rfl
abbrev sysF (f : Addr) (n : Int) (a b : Addr) : List (Str × V) := putF "upper_sums" (.ref b) (putF "nought_sums" (.ref a) (putF "many_places" (.int n) (putF "own_field" (.ref f) [])))
theorem sys_f (f : Addr) (n : Int) (a b : Addr) : (sysF f n a b).lookup ("own_field" : Str) = some (.ref f) := by
  rw [lookup_putF, if_neg (by decide), lookup_putF, if_neg (by decide), lookup_putF, if_neg (by decide), lookup_putF, if_pos rfl]
theorem sys_n (f : Addr) (n : Int) (a b : Addr) : (sysF f n a b).lookup ("many_places" : Str) = some (.int n) := by
  rw [lookup_putF, if_neg (by decide), lookup_putF, if_neg (by decide), lookup_putF, if_pos rfl]
theorem sys_a (f : Addr) (n : Int) (a b : Addr) : (sysF f n a b).lookup ("nought_sums" : Str) = some (.ref a) := by
  rw [lookup_putF, if_neg (by decide), lookup_putF, if_pos rfl]
theorem sys_b (f : Addr) (n : Int) (a b : Addr) : (sysF f n a b).lookup ("upper_sums" : Str) = some (.ref b) := by
  rw [lookup_putF, if_pos rfl]
theorem sys_no (f : Addr) (n : Int) (a b : Addr) {m : Str} (h1 : ¬ m = "own_field") (h2 : ¬ m = "many_places") (h3 : ¬ m = "nought_sums") (h4 : ¬ m = "upper_sums") : (sysF f n a b).lookup m = none := by
  rw [lookup_putF, if_neg h4, lookup_putF, if_neg h3, lookup_putF, if_neg h2, lookup_putF, if_neg h1]
  rfl
/-- the wishes of a system: sums of no more places -/
def Ws (n : Int) (ls : List (List (Tm F))) : Prop := ∀ l ∈ ls, Wg l ∧ ∀ t ∈ l, ∀ k ∈ t.1, k < n
structure SysAt (C S Y : Addr) (H : Hp) (s : Addr) (F : Fd) (n : Int) (ns us : List (List (Tm F))) : Prop where
  ex : ∃ dx f a b, H s = some (.ins Y dx (sysF f n a b)) ∧ FieldAt C H f F.p ∧ SumsAt C S H a F ns ∧ SumsAt C S H b F us
  wn : Ws n ns
  wu : Ws n us
  ln : ns.length ≤ 200 ∧ us.length ≤ 200
  n0 : 1 ≤ n ∧ n ≤ 60
theorem SysAt.ext {C S Y s : Addr} {n : Int} {ns us : List (List (Tm F))} (h : SysAt C S Y H s F n ns us) (e : LamX.ExtN H H') : SysAt C S Y H' s F n ns us := by
  obtain ⟨⟨dx, f, a, b, h1, h2, h3, h4⟩, h5, h6, h8, h7⟩ := h
  exact ⟨⟨dx, f, a, b, e _ _ h1 (fun _ z => by cases z), h2.ext e, h3.ext e, h4.ext e⟩, h5, h6, h8, h7⟩
theorem SysAt.ob {C S Y s : Addr} {n : Int} {ns us : List (List (Tm F))} (h : SysAt C S Y H s F n ns us) {m : Str} (h1 : ¬ m = "own_field") (h2 : ¬ m = "many_places") (h3 : ¬ m = "nought_sums") (h4 : ¬ m = "upper_sums") : ∃ dx fs, H s = some (.ins Y dx fs) ∧ fs.lookup m = none := by
  obtain ⟨⟨dx, f, a, b, e, _⟩, _⟩ := h
  exact ⟨dx, _, e, sys_no f n a b h1 h2 h3 h4⟩
/-! ### promises -/
def spReach (C S : Addr) : Sp := fun vs H Q _ => ∃ (s : Addr) (F : Fd) (l : List (Tm F)), vs = [.ref s] ∧ SumAt C S H s F l ∧ Wg l ∧ ∀ m H', Rf.Kp H H' → IsReach l m → Q (.int m) H'
def spWorth (K : Frag) (C S : Addr) : Sp := fun vs H Q _ => ∃ (s b : Addr) (F : Fd) (l : List (Tm F)) (row : List Int), vs = [.ref s, .ref b] ∧ SumAt C S H s F l ∧ Wg l ∧ ProdAt H b row ∧ Bits row ∧ row.length ≤ 60 ∧ (∀ t ∈ l, ∀ k ∈ t.1, k < (row.length : Int)) ∧
  ∀ q H', Rf.Kp H H' → NumK K H' q (Wo l row) → Q (.ref q) H'
/-- things that may be handed to is_row -/
def ThingAt (H : Hp) (v : V) : Prop := Th H v ∧ ∀ q xs, v = .ref q → H q = some (.tup xs) → xs.length ≤ 100 ∧ ∀ x ∈ xs, Th H x
def bitV : V → Bool
  | .int i => decide (0 ≤ i) && decide (i ≤ 1)
  | _ => false
def rowR (n : Int) : Option HO → Bool
  | some (.tup xs) => decide ((xs.length : Int) = n) && xs.all bitV
  | _ => false
def rowB (n : Int) (H : Hp) (v : V) : Bool := match v with
  | .ref q => rowR n (H q)
  | _ => false
theorem bits_all {row : List Int} (h : Bits row) : (row.map V.int).all bitV = true := by
  rw [List.all_map]
  refine List.all_eq_true.mpr fun x hx => ?_
  rcases h x hx with e | e <;> subst e <;> rfl
theorem ProdAt.rowB {q : Addr} {row : List Int} (h : ProdAt H q row) (b : Bits row) : TermP.rowB (row.length : Nat) H (.ref q) = true := by
  show rowR _ (H q) = true
  rw [show H q = _ from h]
  show (decide _ && _) = true
  rw [bits_all b, List.length_map, decide_eq_true rfl]
  rfl
theorem ProdAt.thing {q : Addr} {row : List Int} (h : ProdAt H q row) (hl : row.length ≤ 100) : ThingAt H (.ref q) := by
  refine ⟨⟨_, _, h, rfl⟩, fun q' xs e hx => ?_⟩
  cases e
  rw [show H q = _ from h] at hx
  cases hx
  refine ⟨by rw [List.length_map]; exact hl, fun x hx => ?_⟩
  obtain ⟨i, _, rfl⟩ := List.mem_map.mp hx
  exact trivial
def spIsWish (C S : Addr) : Sp := fun vs H Q _ => ∃ (f s : Addr) (n : Int) (F : Fd) (l : List (Tm F)), vs = [.ref f, .int n, .ref s] ∧ FieldAt C H f F.p ∧ SumAt C S H s F l ∧ Wg l ∧ 0 ≤ n ∧ (∀ t ∈ l, ∀ k ∈ t.1, k < n) ∧ ∀ H', Rf.Kp H H' → Q (.bl true) H'
def spLookW (C S : Addr) : Sp := fun vs H Q _ => ∃ (f a : Addr) (n : Int) (part : Str) (F : Fd) (ls : List (List (Tm F))), vs = [.ref f, .int n, .str part, .ref a] ∧ FieldAt C H f F.p ∧ SumsAt C S H a F ls ∧ Ws n ls ∧ ls.length ≤ 200 ∧ 0 ≤ n ∧ (part = "uppers" → ls ≠ [] → F.p = 0) ∧ ∀ H', Rf.Kp H H' → Q .non H'
/-- the lists of a new system are no lists of before -/
def FreshY (H H' : Hp) (x : Addr) : Prop := ∀ Y d f n a b, H' x = some (.ins Y d (sysF f n a b)) → ∀ xs, H a ≠ some (.lst xs) ∧ H b ≠ some (.lst xs)
def spYInit (C S Y : Addr) : Sp := fun vs H Q _ => ∃ (x f a dx : Addr) (n : Int) (v : V) (F : Fd) (ns us : List (List (Tm F))), vs = [.ref x, .ref f, .int n, .ref a, v] ∧ H x = some (.ins Y dx []) ∧ FieldAt C H f F.p ∧ SumsAt C S H a F ns ∧ ((v = .non ∧ us = []) ∨ ∃ b, v = .ref b ∧ SumsAt C S H b F us) ∧
  Ws n ns ∧ Ws n us ∧ ns.length ≤ 200 ∧ us.length ≤ 200 ∧ 1 ≤ n ∧ n ≤ 60 ∧ (us ≠ [] → F.p = 0) ∧ ∀ H', KpX x H H' → SysAt C S Y H' x F n ns us → FreshY H H' x → Q .non H'
def spYPlaces (C S Y : Addr) : Sp := fun vs H Q _ => ∃ (s : Addr) (F : Fd) (n : Int) (ns us : List (List (Tm F))), vs = [.ref s] ∧ SysAt C S Y H s F n ns us ∧ Q (.int n) H
def spYNoughts (C S Y : Addr) : Sp := fun vs H Q _ => ∃ (s : Addr) (F : Fd) (n : Int) (ns us : List (List (Tm F))), vs = [.ref s] ∧ SysAt C S Y H s F n ns us ∧ ∀ a H', Rf.Kp H H' → H a = none → SumsAt C S H' a F ns → Q (.ref a) H'
def spYUppers (C S Y : Addr) : Sp := fun vs H Q _ => ∃ (s : Addr) (F : Fd) (n : Int) (ns us : List (List (Tm F))), vs = [.ref s] ∧ SysAt C S Y H s F n ns us ∧ ∀ a H', Rf.Kp H H' → H a = none → SumsAt C S H' a F us → Q (.ref a) H'
def spIsRow : Sp := fun vs H Q _ => ∃ (n : Int) (v : V), vs = [.int n, v] ∧ ThingAt H v ∧ ∀ H', Rf.Kp H H' → Q (.bl (rowB n H v)) H'
def spGrants (C S Y : Addr) : Sp := fun vs H Q _ => ∃ (s q : Addr) (sd : Bool) (F : Fd) (n : Int) (ns us : List (List (Tm F))) (row : List Int), vs = [.ref s, .ref q, .bl sd] ∧ SysAt C S Y H s F n ns us ∧ ProdAt H q row ∧ Bits row ∧ (row.length : Int) = n ∧ ∀ H', Rf.Kp H H' → Q (.bl (Gr ns us sd row)) H'
/-- is_filling of a thing -/
def fil (n : Int) (ns us : List (List (Tm F))) (sd : Bool) (H : Hp) (v : V) : Bool := rowB n H v && (match v with
  | .ref q => (match H q with
    | some (.tup xs) => Gr ns us sd (xs.map fun x => match x with | .int i => i | _ => 0)
    | _ => false)
  | _ => false)
def spIsFil (C S Y : Addr) : Sp := fun vs H Q _ => ∃ (s : Addr) (v : V) (sd : Bool) (F : Fd) (n : Int) (ns us : List (List (Tm F))), vs = [.ref s, v, .bl sd] ∧ SysAt C S Y H s F n ns us ∧ ThingAt H v ∧ ∀ H', Rf.Kp H H' → Q (.bl (fil n ns us sd H v)) H'
def spRowsOf : Sp := fun vs H Q _ => ∃ n : Nat, vs = [.int (n : Nat)] ∧ n ≤ 12 ∧ ∀ a H', Rf.Kp H H' → H a = none → RowsAt H' a (rowsP n) → Q (.ref a) H'
def spFills (C S Y CT : Addr) : Sp := fun vs H Q E => ∃ (s : Addr) (sd : Bool) (F : Fd) (n : Int) (ns us : List (List (Tm F))), vs = [.ref s, .bl sd] ∧ SysAt C S Y H s F n ns us ∧ (12 < n → ∀ H', Rf.Kp H H' → E (.ref CT) none H') ∧ (n ≤ 12 → ∀ a H', Rf.Kp H H' → H a = none → RowsAt H' a ((rowsP n.toNat).filter (Gr ns us sd)) → Q (.ref a) H')
/-! ### promises: laws -/
def spLWorth : Sp := fun vs H Q _ => ∃ (p : Int) (a b : Addr) (F : Fd) (l : List (Tm F)) (row : List Int), vs = [.int p, .ref a, .ref b] ∧ p = F.p ∧ TermsAt H a l ∧ Wg l ∧ ProdAt H b row ∧ Bits row ∧ (∀ t ∈ l, ∀ k ∈ t.1, k < (row.length : Int)) ∧ ∀ q H', Rf.Kp H H' → NumAt H' q (Wo l row) → Q (.ref q) H'
def spLFilling : Sp := fun vs H Q _ => ∃ (r : Addr) (n : Nat), vs = [.ref r, .int (n : Nat)] ∧ RoomAt H r ∧ n ≤ 60 ∧ ∀ q row H', row.length = n → Bits row → ProdAt H' q row → H q = none → RoomAt H' r → KpX r H H' → Q (.ref q) H'
/-- nothing, or a row of n places -/
def Plan (H : Hp) (n : Nat) (v : V) : Prop := v = .non ∨ ∃ q row, v = .ref q ∧ ProdAt H q row ∧ Bits row ∧ row.length = n
/-- terms that a law has drawn for a wish -/
def Wl (n : Nat) (l : List (Tm F)) : Prop := Wf 1 60 10 l ∧ ∀ t ∈ l, ∀ k ∈ t.1, k < (n : Int)
def spLWish : Sp := fun vs H Q _ => ∃ (r : Addr) (p : Int) (n : Nat) (v : V) (F : Fd), vs = [.ref r, .int p, .int (n : Nat), .int 4, v] ∧ p = F.p ∧ RoomAt H r ∧ n ≤ 60 ∧ Plan H n v ∧ ∀ a (l : List (Tm F)) H', Wl n l → TermsAt H' a l → H a = none → RoomAt H' r → KpX r H H' → Q (.ref a) H'
def spLUpper : Sp := fun vs H Q _ => ∃ (r : Addr) (n : Nat) (v : V) (F : Fd), vs = [.ref r, .int (n : Nat), .int 3, v] ∧ F.p = 0 ∧ RoomAt H r ∧ n ≤ 60 ∧ Plan H n v ∧ ∀ a (l : List (Tm F)) H', Wl n l → TermsAt H' a l → H a = none → RoomAt H' r → KpX r H H' → Q (.ref a) H'
def TListsAt (H : Hp) (a : Addr) (ls : List (List (Tm F))) : Prop := ∃ as : List Addr, H a = some (.lst (as.map V.ref)) ∧ as.length = ls.length ∧ ∀ i (h : i < as.length) (h' : i < ls.length), TermsAt H as[i] ls[i]
theorem TListsAt.ext {a : Addr} {ls : List (List (Tm F))} (h : TListsAt H a ls) (e : LamX.ExtN H H') : TListsAt H' a ls := by
  obtain ⟨ss, h1, h2, h3⟩ := h
  exact ⟨ss, e _ _ h1 (fun _ z => by cases z), h2, fun i h h' => (h3 i h h').ext e⟩
def spLWishes : Sp := fun vs H Q _ => ∃ (r : Addr) (p : Int) (n m : Nat) (F : Fd), vs = [.ref r, .int p, .int (n : Nat), .int (m : Nat)] ∧ m ≤ 4 ∧ p = F.p ∧ RoomAt H r ∧ n ≤ 60 ∧ ∀ q a b (ns us : List (List (Tm F))) H', H' q = some (.tup [.ref a, .ref b]) → TListsAt H' a ns → TListsAt H' b us → ns.length ≤ 4 → us.length ≤ 2 → (us ≠ [] → F.p = 0) → (∀ l ∈ ns, Wl n l) → (∀ l ∈ us, Wl n l) → RoomAt H' r → KpX r H H' → Q (.ref q) H'
def spLMade (T : List (Addr × Str)) (C S Y : Addr) : Sp := fun vs H Q _ => ∃ (p : Int) (n : Nat) (a b : Addr) (F : Fd) (ns us : List (List (Tm F))), vs = [.int p, .int (n : Nat), .ref a, .ref b] ∧ p = F.p ∧ 1 ≤ n ∧ n ≤ 60 ∧ LamX.Tabs T H ∧ TListsAt H a ns ∧ TListsAt H b us ∧ ns.length ≤ 4 ∧ us.length ≤ 2 ∧ (us ≠ [] → F.p = 0) ∧ (∀ l ∈ ns, Wl n l) ∧ (∀ l ∈ us, Wl n l) ∧
  ∀ s H', LamX.ExtN H H' → LamX.Tabs T H' → SysAt C S Y H' s F (n : Nat) (ns.map G) (us.map G) → Q (.ref s) H'
def spLGranted : Sp := fun vs H Q _ => ∃ (p : Int) (a b q : Addr) (F : Fd) (ns us : List (List (Tm F))) (row : List Int), vs = [.int p, .ref a, .ref b, .ref q] ∧ p = F.p ∧ TListsAt H a ns ∧ TListsAt H b us ∧ ns.length ≤ 4 ∧ us.length ≤ 2 ∧ (∀ l ∈ ns, Wl row.length l) ∧ (∀ l ∈ us, Wl row.length l) ∧ ProdAt H q row ∧ Bits row ∧ ∀ H', Rf.Kp H H' → Q (.bl (Gr ns us true row)) H'
def spLAll : Sp := fun vs H Q _ => ∃ n : Nat, vs = [.int (n : Nat)] ∧ n ≤ 12 ∧ ∀ a H', Rf.Kp H H' → H a = none → RowsAt H' a (rowsP n) → Q (.ref a) H'
def spLThings : Sp := fun vs H Q _ => ∃ (q : Addr) (row : List Int), vs = [.ref q] ∧ ProdAt H q row ∧ Bits row ∧ 1 ≤ row.length ∧ row.length ≤ 12 ∧ ∀ a xs H', Rf.Kp H H' → H' a = some (.lst xs) → xs.length ≤ 20 → (∀ x ∈ xs, ThingAt H' x ∧ rowB (row.length : Nat) H' x = false) → Q (.ref a) H'
def spLRight (C S Y : Addr) : Sp := fun vs H Q _ => ∃ (s a b : Addr) (n : Nat) (F : Fd) (ns us : List (List (Tm F))), vs = [.ref s, .int (n : Nat), .ref a, .ref b] ∧ SysAt C S Y H s F (n : Nat) ns us ∧ n ≤ 12 ∧ RowsAt H a ((rowsP n).filter (Gr ns us false)) ∧ RowsAt H b ((rowsP n).filter (Gr ns us true)) ∧ ∀ H', Rf.Kp H H' → Q (.bl true) H'
end TermP
/-! products of at most so many places, plain -/
namespace TermP
open PySem PySem.Spec PyProof.Rows L2 Rf NumP NumF SumP
/-- a product of at most d of the first n places -/
structure InP (n d : Nat) (ks : Pr) : Prop where
  asc : ks.Pairwise (· < ·)
  bd : ∀ k ∈ ks, 0 ≤ k ∧ k < (n : Int)
  le : ks.length ≤ d
/-- how many products of just k of n places -/
def Ch : Nat → Nat → Nat
  | _, 0 => 1
  | 0, _ + 1 => 0
  | n + 1, k + 1 => Ch n (k + 1) + Ch n k
theorem Ch_law : ∀ n k : Nat, Ch n (k + 1) * (k + 1) + Ch n k * k = Ch n k * n
  | 0, 0 => rfl
  | 0, k + 1 => by simp [Ch]
  | n + 1, 0 => by
    have h := Ch_law n 0
    simp only [Ch] at h ⊢
    omega
  | n + 1, k + 1 => by
    have h1 := Ch_law n k
    have h2 := Ch_law n (k + 1)
    have e1 : Ch (n + 1) (k + 1 + 1) = Ch n (k + 1 + 1) + Ch n (k + 1) := rfl
    have e2 : Ch (n + 1) (k + 1) = Ch n (k + 1) + Ch n k := rfl
    rw [e1, e2]
    generalize Ch n (k + 1 + 1) = a at *
    generalize Ch n (k + 1) = b at *
    generalize Ch n k = c at *
    grind
theorem Ch_step (n k : Nat) (h : k ≤ n) : Ch n k * (n - k) / (k + 1) = Ch n (k + 1) := by
  have e := Ch_law n k
  have : Ch n k * (n - k) = Ch n (k + 1) * (k + 1) := by
    have : Ch n k * n = Ch n k * (n - k) + Ch n k * k := by rw [← Nat.mul_add, Nat.sub_add_cancel h]
    omega
  rw [this]
  exact Nat.mul_div_cancel _ (Nat.succ_pos k)
theorem Ch_le : ∀ n k : Nat, Ch n k ≤ 2 ^ n
  | n, 0 => by
    have : Ch n 0 = 1 := by cases n <;> rfl
    rw [this]
    exact Nat.one_le_two_pow
  | 0, k + 1 => Nat.zero_le _
  | n + 1, k + 1 => by
    have h1 := Ch_le n (k + 1)
    have h2 := Ch_le n k
    show Ch n (k + 1) + Ch n k ≤ 2 ^ (n + 1)
    rw [Nat.pow_succ]
    omega
/-- how many of at most d -/
def cnt (n : Nat) : Nat → Nat
  | 0 => Ch n 0
  | d + 1 => cnt n d + Ch n (d + 1)
theorem Ch_over : ∀ n k : Nat, n < k → Ch n k = 0
  | _, 0, h => absurd h (Nat.not_lt_zero _)
  | 0, k + 1, _ => rfl
  | n + 1, k + 1, h => by
    show Ch n (k + 1) + Ch n k = 0
    rw [Ch_over n (k + 1) (by omega), Ch_over n k (by omega)]
theorem cnt_min (n : Nat) : ∀ d : Nat, cnt n (min d n) = cnt n d
  | 0 => by rw [Nat.zero_min]
  | d + 1 => by
    by_cases h : d + 1 ≤ n
    · rw [Nat.min_eq_left h]
    · have e : min (d + 1) n = min d n := by omega
      rw [e, cnt_min n d]
      show _ = cnt n d + Ch n (d + 1)
      rw [Ch_over n (d + 1) (by omega), Nat.add_zero]
/-! ### as the program writes them -/
theorem _root_.List.mem_of_dropLast {α : Type} {l : List α} {x : α} (h : x ∈ l.dropLast) : x ∈ l := (List.dropLast_subset l) h

def nxt (ks : Pr) : Int := if ks = [] then 0 else lastP ks + 1
def ext1 (n : Nat) (ks : Pr) : List Pr := (List.range ((n : Int) - nxt ks).toNat).map fun i : Nat => ks ++ [nxt ks + (i : Int)]
def lev (n : Nat) : Nat → List Pr
  | 0 => [[]]
  | k + 1 => (lev n k).flatMap (ext1 n)
def prodsP (n : Nat) : Nat → List Pr
  | 0 => lev n 0
  | d + 1 => prodsP n d ++ lev n (d + 1)
theorem nxt_le {ks : Pr} (h : ks.Pairwise (· < ·)) : ∀ k ∈ ks, k < nxt ks := fun k hk => by
  unfold nxt
  have ne : ks ≠ [] := fun z => by rw [z] at hk; cases hk
  rw [if_neg ne]
  have := last_max h k hk
  omega
theorem nxt_nn {ks : Pr} (h : ∀ k ∈ ks, 0 ≤ k) : 0 ≤ nxt ks := by
  unfold nxt
  split
  · exact Int.le_refl 0
  · rename_i ne
    have := h _ (last_in ne).1
    omega
theorem asc_snoc {ks : Pr} {x : Int} : (ks ++ [x]).Pairwise (· < ·) ↔ ks.Pairwise (· < ·) ∧ ∀ k ∈ ks, k < x := by
  rw [List.pairwise_append]
  simp
theorem lev_ok (n : Nat) : ∀ k : Nat, ∀ ks : Pr, ks ∈ lev n k ↔ ks.Pairwise (· < ·) ∧ (∀ x ∈ ks, 0 ≤ x ∧ x < (n : Int)) ∧ ks.length = k
  | 0, ks => by
    show ks ∈ [[]] ↔ _
    rw [List.mem_singleton]
    constructor
    · rintro rfl
      exact ⟨.nil, fun x hx => (by cases hx), rfl⟩
    · rintro ⟨_, _, h⟩
      exact List.eq_nil_of_length_eq_zero h
  | k + 1, ks => by
    show ks ∈ (lev n k).flatMap (ext1 n) ↔ _
    rw [List.mem_flatMap]
    constructor
    · rintro ⟨qs, hq, h⟩
      obtain ⟨a, b, c⟩ := (lev_ok n k qs).mp hq
      obtain ⟨i, hi, rfl⟩ := List.mem_map.mp h
      have hi := List.mem_range.mp hi
      have nn := nxt_nn fun x hx => (b x hx).1
      refine ⟨asc_snoc.mpr ⟨a, fun x hx => ?_⟩, fun x hx => ?_, by rw [List.length_append, c]; rfl⟩
      · have := nxt_le a x hx
        omega
      · rcases List.mem_append.mp hx with hx | hx
        · exact b x hx
        · rw [List.mem_singleton.mp hx]
          omega
    · rintro ⟨a, b, c⟩
      have ne : ks ≠ [] := fun z => by rw [z] at c; cases c
      have e := List.dropLast_concat_getLast ne
      rw [← e] at a
      obtain ⟨a1, a2⟩ := asc_snoc.mp a
      have bl := b _ (List.getLast_mem ne)
      have bd : ∀ x ∈ ks.dropLast, 0 ≤ x ∧ x < (n : Int) := fun x hx => b x (List.mem_of_dropLast hx)
      refine ⟨ks.dropLast, (lev_ok n k _).mpr ⟨a1, bd, by rw [List.length_dropLast, c]; rfl⟩, List.mem_map.mpr ⟨(ks.getLast ne - nxt ks.dropLast).toNat, ?_, ?_⟩⟩
      · have h1 : nxt ks.dropLast ≤ ks.getLast ne := by
          unfold nxt
          split
          · exact bl.1
          · rename_i z
            have := a2 _ (last_in z).1
            omega
        have := bl.2
        exact List.mem_range.mpr (by omega)
      · have h1 : nxt ks.dropLast ≤ ks.getLast ne := by
          unfold nxt
          split
          · exact bl.1
          · rename_i z
            have := a2 _ (last_in z).1
            omega
        have : nxt ks.dropLast + ((ks.getLast ne - nxt ks.dropLast).toNat : Int) = ks.getLast ne := by omega
        rw [this]
        exact e
theorem snoc_inj {a b : Pr} {x y : Int} (h : a ++ [x] = b ++ [y]) : a = b ∧ x = y := by
  have := List.append_inj' h rfl
  exact ⟨this.1, List.cons.inj this.2 |>.1⟩
theorem lev_nodup (n : Nat) : ∀ k : Nat, (lev n k).Nodup
  | 0 => List.nodup_cons.mpr ⟨fun h => (by cases h), List.nodup_nil⟩
  | k + 1 => by
    show ((lev n k).flatMap (ext1 n)).Nodup
    rw [List.Nodup, List.pairwise_flatMap]
    refine ⟨fun ks _ => ?_, (lev_nodup n k).imp fun {a b} hab x hx y hy e => ?_⟩
    · refine List.pairwise_map.mpr (List.nodup_range.imp fun {i j} hij e => hij ?_)
      have := (snoc_inj e).2
      omega
    · obtain ⟨i, _, rfl⟩ := List.mem_map.mp hx
      obtain ⟨j, _, rfl⟩ := List.mem_map.mp hy
      exact hab (snoc_inj e).1
theorem prodsP_ok (n : Nat) : ∀ d : Nat, ∀ ks : Pr, ks ∈ prodsP n d ↔ InP n d ks
  | 0, ks => by
    show ks ∈ lev n 0 ↔ _
    rw [lev_ok]
    exact ⟨fun ⟨a, b, c⟩ => ⟨a, b, Nat.le_of_eq c⟩, fun h => ⟨h.asc, h.bd, Nat.le_zero.mp h.le⟩⟩
  | d + 1, ks => by
    show ks ∈ prodsP n d ++ lev n (d + 1) ↔ _
    rw [List.mem_append, prodsP_ok n d, lev_ok]
    constructor
    · rintro (h | ⟨a, b, c⟩)
      · exact ⟨h.asc, h.bd, by have := h.le; omega⟩
      · exact ⟨a, b, Nat.le_of_eq c⟩
    · intro h
      by_cases e : ks.length = d + 1
      · exact .inr ⟨h.asc, h.bd, e⟩
      · exact .inl ⟨h.asc, h.bd, by have := h.le; omega⟩
theorem prodsP_nodup (n : Nat) : ∀ d : Nat, (prodsP n d).Nodup
  | 0 => lev_nodup n 0
  | d + 1 => by
    refine List.nodup_append.mpr ⟨prodsP_nodup n d, lev_nodup n _, fun a ha b hb e => ?_⟩
    subst e
    have h1 := ((prodsP_ok n d a).mp ha).le
    have h2 := ((lev_ok n (d + 1) a).mp hb).2.2
    omega
/-! ### as the laws write them -/
def prodsL (d : Int) : Nat → List Pr
  | 0 => [[]]
  | n + 1 => prodsL d n ++ ((prodsL d n).filter fun ks => decide ((ks.length : Int) < d)).map fun ks => ks ++ [(n : Int)]
theorem InP.snoc {n d : Nat} {ks : Pr} (h : InP n d ks) (l : ks.length < d) : InP (n + 1) d (ks ++ [(n : Int)]) := by
  refine ⟨asc_snoc.mpr ⟨h.asc, fun k hk => (h.bd k hk).2⟩, fun k hk => ?_, by rw [List.length_append]; exact l⟩
  rcases List.mem_append.mp hk with hk | hk
  · have := h.bd k hk
    omega
  · rw [List.mem_singleton.mp hk]
    omega
theorem InP.up {n d : Nat} {ks : Pr} (h : InP n d ks) : InP (n + 1) d ks := ⟨h.asc, fun k hk => (by have := h.bd k hk; omega), h.le⟩
theorem InP.cases {n d : Nat} {ks : Pr} (h : InP (n + 1) d ks) : InP n d ks ∨ ∃ qs, ks = qs ++ [(n : Int)] ∧ InP n d qs ∧ qs.length < d := by
  by_cases m : (n : Int) ∈ ks
  · have ne : ks ≠ [] := fun z => by rw [z] at m; cases m
    have e := List.dropLast_concat_getLast ne
    have a := h.asc
    rw [← e] at a
    obtain ⟨a1, a2⟩ := asc_snoc.mp a
    have bl := h.bd _ (List.getLast_mem ne)
    have eq : ks.getLast ne = (n : Int) := by
      rw [← e] at m
      rcases List.mem_append.mp m with z | z
      · have := a2 _ z
        omega
      · exact (List.mem_singleton.mp z).symm
    rw [eq] at e a2
    have ll := h.le
    have lk : ks.length = ks.dropLast.length + 1 := by rw [List.length_dropLast]; have := List.length_pos_iff.mpr ne; omega
    exact .inr ⟨ks.dropLast, e.symm, ⟨a1, fun k hk => ⟨(h.bd k (List.mem_of_dropLast hk)).1, a2 k hk⟩, by omega⟩, by omega⟩
  · refine .inl ⟨h.asc, fun k hk => ?_, h.le⟩
    have := h.bd k hk
    have : k ≠ (n : Int) := fun z => m (z ▸ hk)
    omega
theorem prodsL_ok (d : Int) : ∀ n : Nat, ∀ ks : Pr, ks ∈ prodsL d n ↔ InP n d.toNat ks
  | 0, ks => by
    show ks ∈ [[]] ↔ _
    rw [List.mem_singleton]
    constructor
    · rintro rfl
      exact ⟨.nil, fun k hk => (by cases hk), Nat.zero_le _⟩
    · intro h
      cases ks with
      | nil => rfl
      | cons x r => have := h.bd x List.mem_cons_self; omega
  | n + 1, ks => by
    show ks ∈ prodsL d n ++ _ ↔ _
    rw [List.mem_append, prodsL_ok d n]
    constructor
    · rintro (h | h)
      · exact h.up
      · obtain ⟨qs, hq, rfl⟩ := List.mem_map.mp h
        obtain ⟨hq, lq⟩ := List.mem_filter.mp hq
        have lq := of_decide_eq_true lq
        exact ((prodsL_ok d n qs).mp hq).snoc (by omega)
    · intro h
      rcases h.cases with h | ⟨qs, rfl, hq, lq⟩
      · exact .inl h
      · exact .inr (List.mem_map.mpr ⟨qs, List.mem_filter.mpr ⟨(prodsL_ok d n qs).mpr hq, decide_eq_true (by omega)⟩, rfl⟩)
theorem prodsL_nodup (d : Int) : ∀ n : Nat, (prodsL d n).Nodup
  | 0 => List.nodup_cons.mpr ⟨fun h => (by cases h), List.nodup_nil⟩
  | n + 1 => by
    refine List.nodup_append.mpr ⟨prodsL_nodup d n, ?_, fun a ha b hb e => ?_⟩
    · exact List.pairwise_map.mpr (((prodsL_nodup d n).filter _).imp fun {a b} hab e => hab (snoc_inj e).1)
    · subst e
      obtain ⟨qs, hq, rfl⟩ := List.mem_map.mp hb
      have := ((prodsL_ok d n _).mp ha).bd (n : Int) (by simp)
      omega
theorem prodsL_le (d : Int) : ∀ n : Nat, (prodsL d n).length ≤ 2 ^ n
  | 0 => Nat.le_refl 1
  | n + 1 => by
    have h := prodsL_le d n
    have f := List.length_filter_le (fun ks : Pr => decide ((ks.length : Int) < d)) (prodsL d n)
    show (prodsL d n ++ _).length ≤ _
    rw [List.length_append, List.length_map, Nat.pow_succ]
    omega
/-! ### how many -/
/-- just k of n places -/
def just : Nat → Nat → List Pr
  | _, 0 => [[]]
  | 0, _ + 1 => []
  | n + 1, k + 1 => just n (k + 1) ++ (just n k).map fun ks => ks ++ [(n : Int)]
theorem just_len : ∀ n k : Nat, (just n k).length = Ch n k
  | n, 0 => by cases n <;> rfl
  | 0, k + 1 => rfl
  | n + 1, k + 1 => by
    show (just n (k + 1) ++ _).length = Ch n (k + 1) + Ch n k
    rw [List.length_append, List.length_map, just_len n (k + 1), just_len n k]
theorem just_ok : ∀ n k : Nat, ∀ ks : Pr, ks ∈ just n k ↔ InP n k ks ∧ ks.length = k
  | n, 0, ks => by
    have : just n 0 = [[]] := by cases n <;> rfl
    rw [this, List.mem_singleton]
    constructor
    · rintro rfl
      exact ⟨⟨.nil, fun k hk => (by cases hk), Nat.le_refl _⟩, rfl⟩
    · rintro ⟨_, h⟩
      exact List.eq_nil_of_length_eq_zero h
  | 0, k + 1, ks => by
    constructor
    · intro h
      cases h
    · rintro ⟨h, l⟩
      cases ks with
      | nil => cases l
      | cons x r => have := h.bd x List.mem_cons_self; omega
  | n + 1, k + 1, ks => by
    show ks ∈ just n (k + 1) ++ _ ↔ _
    rw [List.mem_append, just_ok n (k + 1)]
    constructor
    · rintro (⟨h, l⟩ | h)
      · exact ⟨h.up, l⟩
      · obtain ⟨qs, hq, rfl⟩ := List.mem_map.mp h
        obtain ⟨hq, lq⟩ := (just_ok n k qs).mp hq
        have hq' : InP n (k + 1) qs := ⟨hq.asc, hq.bd, by omega⟩
        exact ⟨hq'.snoc (by omega), by rw [List.length_append, lq]; rfl⟩
    · rintro ⟨h, l⟩
      rcases h.cases with h | ⟨qs, rfl, hq, lq⟩
      · exact .inl ⟨h, l⟩
      · rw [List.length_append] at l
        have l : qs.length + 1 = k + 1 := l
        exact .inr (List.mem_map.mpr ⟨qs, (just_ok n k qs).mpr ⟨⟨hq.asc, hq.bd, by omega⟩, by omega⟩, rfl⟩)
theorem just_nodup : ∀ n k : Nat, (just n k).Nodup
  | n, 0 => by
    have : just n 0 = [[]] := by cases n <;> rfl
    rw [this]
    exact List.nodup_cons.mpr ⟨fun h => (by cases h), List.nodup_nil⟩
  | 0, k + 1 => List.nodup_nil
  | n + 1, k + 1 => by
    refine List.nodup_append.mpr ⟨just_nodup n (k + 1), List.pairwise_map.mpr ((just_nodup n k).imp fun {a b} hab e => hab (snoc_inj e).1), fun a ha b hb e => ?_⟩
    subst e
    obtain ⟨qs, hq, rfl⟩ := List.mem_map.mp hb
    have := ((just_ok n (k + 1) _).mp ha).1.bd (n : Int) (by simp)
    omega
theorem same_len {l m : List Pr} (hl : l.Nodup) (hm : m.Nodup) (h : ∀ x, x ∈ l ↔ x ∈ m) : l.length = m.length :=
  Nat.le_antisymm (List.Nodup.length_le_of_subset hl fun x hx => (h x).mp hx) (List.Nodup.length_le_of_subset hm fun x hx => (h x).mpr hx)
theorem lev_len (n k : Nat) : (lev n k).length = Ch n k := by
  rw [← just_len]
  refine same_len (lev_nodup n k) (just_nodup n k) fun ks => ?_
  rw [lev_ok, just_ok]
  exact ⟨fun ⟨a, b, c⟩ => ⟨⟨a, b, Nat.le_of_eq c⟩, c⟩, fun ⟨h, c⟩ => ⟨h.asc, h.bd, c⟩⟩
theorem prodsP_len (n : Nat) : ∀ d : Nat, (prodsP n d).length = cnt n d
  | 0 => lev_len n 0
  | d + 1 => by
    show (prodsP n d ++ lev n (d + 1)).length = cnt n d + Ch n (d + 1)
    rw [List.length_append, prodsP_len n d, lev_len]
theorem prods_len (n : Nat) (d : Int) : (prodsL d n).length = cnt n d.toNat := by
  rw [← prodsP_len]
  refine same_len (prodsL_nodup d n) (prodsP_nodup n _) fun ks => ?_
  rw [prodsL_ok, prodsP_ok]
theorem InP.ok {n d : Nat} {ks : Pr} (h : InP n d ks) (hn : n ≤ 60) : PrOk ks := ⟨h.asc, fun k hk => by have := h.bd k hk; omega⟩
theorem InP.min {n d : Nat} {ks : Pr} (h : InP n d ks) : InP n (min d n) ks := by
  refine ⟨h.asc, h.bd, ?_⟩
  have : ks.length ≤ n := by
    have e : (ks.map Int.toNat).Nodup := List.pairwise_map.mpr (h.asc.imp_of_mem fun {a b} ha hb hab e => by
      have := h.bd a ha
      have := h.bd b hb
      omega)
    have := List.Nodup.length_le_of_subset e (l₂ := List.range n) fun x hx => by
      obtain ⟨k, hk, rfl⟩ := List.mem_map.mp hx
      have := h.bd k hk
      exact List.mem_range.mpr (by omega)
    rw [List.length_map, List.length_range] at this
    exact this
  have := h.le
  omega
theorem cnt_60_3 : cnt 60 3 = 36051 := by decide +kernel
theorem cnt_50_3 : cnt 50 3 = 20876 := by decide +kernel
theorem cnt_49_3 : cnt 49 3 = 19650 := by decide +kernel
theorem cnt_60_2 : cnt 60 2 = 1831 := by decide +kernel
end TermP
/-! degrees, products of a degree, worths -/
namespace TermP
open PySem PySem.Spec PyProof.Rows L2 Rf NumP NumF SumP
variable {F : Fd} {K : Frag} {H H' : Hp}
/-! ### plain -/
/-- a degree -/
def degB : V → Bool
  | .int i => decide (0 ≤ i) && decide (i ≤ 300)
  | _ => false
def sumC (n : Nat) : Nat → Nat
  | 0 => 0
  | k + 1 => sumC n k + Ch n k
theorem sumC_cnt (n : Nat) : ∀ d, sumC n (d + 1) = cnt n d
  | 0 => by show 0 + Ch n 0 = Ch n 0; rw [Nat.zero_add]
  | d + 1 => by
    show sumC n (d + 1) + Ch n (d + 1) = cnt n d + Ch n (d + 1)
    rw [sumC_cnt n d]
/-- the worth that a table tells -/
def wv (l : List (Tm F)) (k : Pr) : Nm F := match l.find? fun t => decide (t.1 = k) with
  | some t => t.2
  | none => 0
theorem wv_of {l : List (Tm F)} (n : (l.map Prod.fst).Nodup) {k : Pr} {c : Nm F} (h : (k, c) ∈ l) : wv l k = c := by
  unfold wv
  induction l with
  | nil => cases h
  | cons t r ih =>
    rw [List.find?_cons]
    rcases List.mem_cons.mp h with e | m
    · subst e
      simp
    · have n2 := List.nodup_cons.mp n
      have ne : t.1 ≠ k := fun z => n2.1 (z ▸ List.mem_map_of_mem (f := Prod.fst) m)
      simp only [decide_eq_false ne]
      exact ih n2.2 m
/-- the worths of a row -/
def wof (F : Fd) (row : List Int) (ps : List Pr) : List (Tm F) := ps.map fun ks => (ks, chi row ks)
theorem wof_keys (row : List Int) (ps : List Pr) : (wof F row ps).map Prod.fst = ps := by
  unfold wof
  rw [List.map_map]
  exact List.map_id' ps
theorem wof_len (row : List Int) (ps : List Pr) : (wof F row ps).length = ps.length := List.length_map ..
theorem wof_at {row : List Int} {ps : List Pr} (n : ps.Nodup) {k : Pr} (h : k ∈ ps) : wv (wof F row ps) k = chi row k :=
  wv_of (by rw [wof_keys]; exact n) (List.mem_map.mpr ⟨k, h, rfl⟩)
/-- the most places that a product of the terms has -/
def deg (l : List (Tm F)) : Nat := l.foldr (fun t m => max t.1.length m) 0
theorem deg_le {l : List (Tm F)} {t : Tm F} (h : t ∈ l) : t.1.length ≤ deg l := by
  induction l with
  | nil => cases h
  | cons a r ih =>
    have e : deg (a :: r) = max a.1.length (deg r) := rfl
    rcases List.mem_cons.mp h with z | z
    · subst z; omega
    · have := ih z; omega
theorem deg_in {l : List (Tm F)} (h : deg l ≠ 0) : ∃ t ∈ l, t.1.length = deg l := by
  induction l with
  | nil => exact absurd rfl h
  | cons a r ih =>
    have e : deg (a :: r) = max a.1.length (deg r) := rfl
    by_cases c : deg r ≤ a.1.length
    · exact ⟨a, List.mem_cons_self, by omega⟩
    · obtain ⟨t, m, el⟩ := ih (by omega)
      exact ⟨t, List.mem_cons_of_mem _ m, by omega⟩
/-- what a sum times a product is worth by a table -/
def tot (w : Pr → Nm F) (l : List (Tm F)) (k : Pr) : Nm F := L (fun t => w (join t k)) l
/-! ### the heap -/
/-- a tuple, of the heap or of the top -/
def TyT (K : Frag) (H : Hp) (q : Addr) : Prop := (∃ xs, H q = some (.tup xs)) ∨ ∃ o, K.lookup q = some o ∧ o.cls = .type "tuple"
theorem TyT.x {q : Addr} (h : TyT K H q) : TyX K H (.ref q) (.type "tuple") := by
  rcases h with ⟨xs, h⟩ | ⟨o, h, c⟩
  · exact .base (.tup h)
  · exact .kTuple h c
theorem TyT.ext {q : Addr} (h : TyT K H q) (e : LamX.ExtN H H') : TyT K H' q := by
  rcases h with ⟨xs, h⟩ | h
  · exact .inl ⟨xs, e _ _ h (fun _ z => by cases z)⟩
  · exact .inr h
theorem TyT.setD {q d : Addr} {kvs : List (List Key × V)} {o : HO} (h : TyT K H q) (hd : H d = some (.dT kvs)) : TyT K (upd H d o) q := by
  rcases h with ⟨xs, h⟩ | h
  · exact .inl ⟨xs, by rw [upd_ne (fun z => by rw [z, hd] at h; cases h)]; exact h⟩
  · exact .inr h
structure WorAt (K : Frag) (H : Hp) (d : Addr) (l : List (Tm F)) (ds : List (Dn F)) : Prop where
  e : H d = some (.dT (kvOf ds))
  dm : dmOf ds = l
  nums : ∀ x ∈ ds, NumK K H x.q x.t.2
  ty : ∀ x ∈ ds, TyT K H x.q
theorem NumK.kp {q : Addr} {a : Nm F} (h : NumK K H q a) (k : Rf.Kp H H') : NumK K H' q a := h.ext (Kp.ext k)
theorem NumK.setD {q d : Addr} {a : Nm F} {kvs : List (List Key × V)} {o : HO} (h : NumK K H q a) (hd : H d = some (.dT kvs)) : NumK K (upd H d o) q a := by
  rcases h with (h | ⟨u, h⟩) | h
  · exact .inl (.inl (by rw [upd_ne (fun z => by rw [z, hd] at h; cases h)]; exact h))
  · exact .inl (.inr ⟨u, by rw [upd_ne (fun z => by rw [z, hd] at h; cases h)]; exact h⟩)
  · exact .inr h
theorem WorAt.len {d : Addr} {l : List (Tm F)} {ds : List (Dn F)} (h : WorAt K H d l ds) : ds.length = l.length := by rw [← h.dm]; exact (List.length_map ..).symm
theorem WorAt.kvl {d : Addr} {l : List (Tm F)} {ds : List (Dn F)} (h : WorAt K H d l ds) : (kvOf ds).length = l.length := by rw [← h.len]; exact List.length_map ..
theorem WorAt.ext {d : Addr} {l : List (Tm F)} {ds : List (Dn F)} (h : WorAt K H d l ds) (e : LamX.ExtN H H') : WorAt K H' d l ds := ⟨e _ _ h.e (fun _ z => by cases z), h.dm, fun x hx => (h.nums x hx).ext e, fun x hx => (h.ty x hx).ext e⟩
theorem WorAt.kp {d : Addr} {l : List (Tm F)} {ds : List (Dn F)} (h : WorAt K H d l ds) (k : Rf.Kp H H') : WorAt K H' d l ds := h.ext (Kp.ext k)
theorem WorAt.nil {d : Addr} (h : H d = some (.dT [])) : WorAt (F := F) K H d [] [] := ⟨h, rfl, fun x hx => (by cases hx), fun x hx => (by cases hx)⟩
theorem setDn_new {k : Pr} {q : Addr} {c : Nm F} : ∀ {ds : List (Dn F)}, k ∉ (dmOf ds).map Prod.fst → setDn ds k q c = ds ++ [⟨q, (k, c)⟩]
  | [], _ => rfl
  | x :: r, h => by
    have h2 : k ≠ x.t.1 ∧ k ∉ (dmOf r).map Prod.fst := by
      constructor
      · intro e
        exact h (by rw [e]; exact List.mem_cons_self)
      · intro m
        exact h (List.mem_cons_of_mem _ m)
    unfold setDn
    rw [if_neg (Ne.symm h2.1), setDn_new h2.2]
    rfl
theorem WorAt.put {d q : Addr} {l : List (Tm F)} {ds : List (Dn F)} {k : Pr} {c : Nm F} (h : WorAt K H d l ds) (nd : (l.map Prod.fst).Nodup) (new : k ∉ l.map Prod.fst) (hq : NumK K H q c) (hy : TyT K H q) :
    WorAt K (upd H d (.dT (putK (kvOf ds) (ky k) (.ref q)))) d (l ++ [(k, c)]) (ds ++ [⟨q, (k, c)⟩]) := by
  have nd' : ((dmOf ds).map Prod.fst).Nodup := by rw [h.dm]; exact nd
  have new' : k ∉ (dmOf ds).map Prod.fst := by rw [h.dm]; exact new
  refine ⟨?_, ?_, fun x hx => ?_, fun x hx => ?_⟩
  · rw [upd_same, putK_kv k q c ds nd', setDn_new new']
  · unfold dmOf
    rw [List.map_append, ← h.dm]
    rfl
  · rcases List.mem_append.mp hx with hx | hx
    · exact (h.nums x hx).setD h.e
    · rw [List.mem_singleton.mp hx]
      exact hq.setD h.e
  · rcases List.mem_append.mp hx with hx | hx
    · exact (h.ty x hx).setD h.e
    · rw [List.mem_singleton.mp hx]
      exact hy.setD h.e
theorem WorAt.get {d : Addr} {l : List (Tm F)} {ds : List (Dn F)} (h : WorAt K H d l ds) {k : Pr} (hk : k ∈ l.map Prod.fst) : ∃ q, valV (kvOf ds) (ky k) = some (.ref q) ∧ NumK K H q (wv l k) ∧ TyT K H q := by
  rw [valV_kv]
  rw [← h.dm] at hk ⊢
  have nums := h.nums
  have ty := h.ty
  clear h
  induction ds with
  | nil => cases hk
  | cons x r ih =>
    unfold getDn
    by_cases e : x.t.1 = k
    · rw [if_pos e]
      refine ⟨x.q, rfl, ?_⟩
      have : wv (dmOf (x :: r)) k = x.t.2 := by
        show wv (x.t :: dmOf r) k = _
        unfold wv
        rw [List.find?_cons, decide_eq_true e]
      rw [this]
      exact ⟨nums x List.mem_cons_self, ty x List.mem_cons_self⟩
    · rw [if_neg e]
      have : wv (dmOf (x :: r)) k = wv (dmOf r) k := by
        show wv (x.t :: dmOf r) k = _
        unfold wv
        rw [List.find?_cons, decide_eq_false e]
      rw [this]
      refine ih ?_ (fun y hy => nums y (List.mem_cons_of_mem _ hy)) fun y hy => ty y (List.mem_cons_of_mem _ hy)
      rcases List.mem_cons.mp hk with z | z
      · exact absurd z.symm e
      · exact z
theorem WorAt.none {d : Addr} {l : List (Tm F)} {ds : List (Dn F)} (h : WorAt K H d l ds) {k : Pr} (hk : k ∉ l.map Prod.fst) : valV (kvOf ds) (ky k) = none := by
  rw [valV_kv]
  rw [← h.dm] at hk
  clear h
  induction ds with
  | nil => rfl
  | cons x r ih =>
    unfold getDn
    by_cases e : x.t.1 = k
    · exact absurd (by rw [← e]; exact List.mem_cons_self) hk
    · rw [if_neg e]
      exact ih fun m => hk (List.mem_cons_of_mem _ m)
/-- d[k], k a tuple that stands -/
theorem WorAt.dget {d b : Addr} {l : List (Tm F)} {ds : List (Dn F)} (h : WorAt K H d l ds) {k : Pr} (hb : ProdAt H b k) (hk : k ∈ l.map Prod.fst) : ∃ q, DGet H d (.ref b) (some (.ref q)) ∧ NumK K H q (wv l k) ∧ TyT K H q := by
  obtain ⟨q, e, n⟩ := h.get hk
  exact ⟨q, .inr ⟨kvOf ds, ky k, b, .inl h.e, rfl, by rw [ky_kV]; exact hb, e.symm⟩, n⟩
/-- two tables that hold the same -/
theorem WorAt.alike {a b : Addr} {l m : List (Tm F)} {ds es : List (Dn F)} (h : WorAt K H a l ds) (g : WorAt K H b m es) (len : l.length = m.length) (all : ∀ t ∈ l, t ∈ m) :
    (kvOf ds).length = (kvOf es).length ∧ ∀ p ∈ kvOf ds, ∃ q ∈ kvOf es, q.1 = p.1 ∧ ∃ d e, Dp K H p.2 d ∧ Dp K H q.2 e ∧ SeqAt.shaped d = true ∧ SeqAt.shaped e = true ∧ PyData.eqv d e = true := by
  refine ⟨by rw [h.kvl, g.kvl, len], fun p hp => ?_⟩
  obtain ⟨x, hx, rfl⟩ := List.mem_map.mp hp
  have tm : x.t ∈ m := all _ (by rw [← h.dm]; exact List.mem_map_of_mem hx)
  rw [← g.dm] at tm
  obtain ⟨y, hy, ey⟩ := List.mem_map.mp tm
  refine ⟨_, List.mem_map_of_mem hy, by rw [ey], dN x.t.2, dN y.t.2, (h.nums x hx).dp, (g.nums y hy).dp, shapeN _, shapeN _, ?_⟩
  rw [ey, eqvN]
  exact decide_eq_true rfl
theorem RowsAt.lst {a : Addr} {rows : List (List Int)} (h : RowsAt H a rows) : ∃ qs : List Addr, H a = some (.lst (qs.map V.ref)) ∧ qs.length = rows.length ∧ ∀ {H' : Hp} {b c : Addr} {more : List (List Int)} {ps : List Addr}, H b = some (.lst (ps.map V.ref)) → RowsAt H b more → (∀ q r, ProdAt H q r → ProdAt H' q r) → H' c = some (.lst (qs.map V.ref ++ ps.map V.ref)) → RowsAt H' c (rows ++ more) := by
  obtain ⟨qs, e, l, g⟩ := h
  refine ⟨qs, e, l, fun {H' b c more ps} eb hb pres ec => ?_⟩
  obtain ⟨us, eu, lu, gu⟩ := hb
  have : us = ps := by
    rw [eb] at eu
    have e2 := HO.lst.inj (Option.some.inj eu)
    exact (List.map_inj_right (fun a b z => V.ref.inj z)).mp e2.symm
  subst this
  refine ⟨qs ++ us, by rw [ec, List.map_append], by rw [List.length_append, List.length_append, l, lu], fun i hi hi' => ?_⟩
  by_cases c : i < qs.length
  · rw [List.getElem_append_left c, List.getElem_append_left (by omega)]
    exact pres _ _ (g i c (by omega))
  · rw [List.length_append] at hi
    rw [List.getElem_append_right (by omega), List.getElem_append_right (by omega)]
    have e1 : i - rows.length = i - qs.length := by rw [l]
    simp only [e1]
    exact pres _ _ (gu (i - qs.length) (by omega) (by omega))
theorem RowsAt.setL {a c : Addr} {rows : List (List Int)} {xs : List V} {o : HO} (h : RowsAt H a rows) (hc : H c = some (.lst xs)) (n : a ≠ c) : RowsAt (upd H c o) a rows := by
  obtain ⟨qs, e, l, g⟩ := h
  exact ⟨qs, by rw [upd_ne n]; exact e, l, fun i hi hi' => (g i hi hi').setL hc⟩
theorem TListsAt.at {F : Fd} {a : Addr} {ls : List (List (Tm F))} (h : TListsAt H a ls) : ∃ ss : List Addr, H a = some (.lst (ss.map V.ref)) ∧ ss.length = ls.length ∧ ∀ i v, (ss.map V.ref)[i]? = some v → ∃ s l, v = .ref s ∧ TermsAt H s l ∧ ls[i]? = some l ∧ l ∈ ls ∧ ls.take (i + 1) = ls.take i ++ [l] := by
  obtain ⟨ss, e, l, h1⟩ := h
  refine ⟨ss, e, l, fun i v hv => ?_⟩
  rw [List.getElem?_map] at hv
  cases eq : ss[i]? with
  | none => rw [eq] at hv; cases hv
  | some q =>
    rw [eq] at hv
    cases hv
    have hi : i < ss.length := (List.getElem?_eq_some_iff.mp eq).1
    have hq : ss[i] = q := (List.getElem?_eq_some_iff.mp eq).2
    have hi' : i < ls.length := by omega
    have p := h1 i hi hi'
    rw [hq] at p
    refine ⟨q, ls[i], rfl, p, List.getElem?_eq_getElem hi', List.getElem_mem _, ?_⟩
    rw [List.take_succ, List.getElem?_eq_getElem hi']
    rfl
theorem Ch_zero (n : Nat) : Ch n 0 = 1 := by cases n <;> rfl
theorem tot_snoc (w : Pr → Nm F) (l : List (Tm F)) (t : Tm F) (k : Pr) : tot w (l ++ [t]) k = tot w l k + t.2 * w (join t.1 k) := by
  unfold tot
  rw [L_app]
  congr 1
  show t.2 * w (join t.1 k) + 0 = _
  rw [add_zero]
theorem tot_sz {w : Pr → Nm F} {j e n j2 e2 : Nat} {l : List (Tm F)} (h : Wf j e n l) (hw : ∀ k, Sz j2 e2 (w k)) (k : Pr) : ∀ i, i ≤ l.length → Sz (j + j2) (e + e2 + i) (tot w (l.take i) k)
  | 0, _ => Sz.zero
  | i + 1, hi => by
    have hlt : i < l.length := hi
    have e1 : l.take (i + 1) = l.take i ++ [l[i]] := by rw [List.take_succ, List.getElem?_eq_getElem hlt]; rfl
    rw [e1, tot_snoc]
    have ih := tot_sz h hw k i (by omega)
    have q := h.ok l[i] (List.getElem_mem _)
    have m := q.2.mul (hw (join l[i].1 k)) h.e7
    exact ih.add (m.mono (Nat.le_refl _) (by omega)) (by have := h.e7; omega)
/-! ### promises -/
def spDegree (CD : Addr) : Sp := fun vs H Q E => ∃ v : V, vs = [v] ∧ Th H v ∧ (degB v = true → Q .non H) ∧ (degB v = false → E (.ref CD) none H)
def spMany : Sp := fun vs H Q _ => ∃ n d : Nat, vs = [.int (n : Nat), .int (d : Nat)] ∧ n ≤ 60 ∧ ∀ H', Rf.Kp H H' → Q (.int (cnt n d : Nat)) H'
def spProds : Sp := fun vs H Q _ => ∃ (n : Nat) (d : Int), vs = [.int (n : Nat), .int d] ∧ n ≤ 60 ∧ -1000 ≤ d ∧ d ≤ 1000 ∧ cnt n d.toNat ≤ 20000 ∧ ∀ a H', Rf.Kp H H' → H a = none → RowsAt H' a (prodsP n (min d.toNat n)) → Q (.ref a) H'
def rowOf (H : Hp) (v : V) : List Int := match v with
  | .ref q => (match H q with
    | some (.tup xs) => xs.map fun x => match x with | .int i => i | _ => 0
    | _ => [])
  | _ => []
def spWorths (K : Frag) (C S Y CD CF CT : Addr) : Sp := fun vs H Q E => ∃ (s : Addr) (v t : V) (F : Fd) (n : Nat) (ns us : List (List (Tm F))), vs = [.ref s, v, t] ∧ SysAt C S Y H s F (n : Nat) ns us ∧ Th H v ∧ ThingAt H t ∧
  (degB v = false → E (.ref CD) none H) ∧ (degB v = true → fil (n : Nat) ns us false H t = false → ∀ H', Rf.Kp H H' → E (.ref CF) none H') ∧
  (∀ d : Nat, v = .int (d : Nat) → d ≤ 300 → fil (n : Nat) ns us false H t = true → (20000 < cnt n d → ∀ H', Rf.Kp H H' → E (.ref CT) none H') ∧
    (cnt n d ≤ 20000 → ∀ a ds H', Rf.Kp H H' → H a = none → WorAt K H' a (wof F (rowOf H t) (prodsP n (min d n))) ds → Q (.ref a) H'))
/-! ### promises: laws -/
def spLProds : Sp := fun vs H Q _ => ∃ (n : Nat) (d : Int), vs = [.int (n : Nat), .int d] ∧ n ≤ 6 ∧ -1000 ≤ d ∧ d ≤ 1000 ∧ ∀ a H', Rf.Kp H H' → H a = none → RowsAt H' a (prodsL d n) → Q (.ref a) H'
def spLDegree : Sp := fun vs H Q _ => ∃ (a : Addr) (F : Fd) (l : List (Tm F)), vs = [.ref a] ∧ TermsAt H a l ∧ Wg l ∧ ∀ H', Rf.Kp H H' → Q (.int (deg l : Nat)) H'
def spLDue (K : Frag) : Sp := fun vs H Q _ => ∃ (n : Nat) (d : Nat) (b : Addr) (row : List Int) (F : Fd), vs = [.int (n : Nat), .int (d : Nat), .ref b] ∧ n ≤ 6 ∧ d ≤ 1000 ∧ ProdAt H b row ∧ Bits row ∧ row.length = n ∧ ∀ a ds H', Rf.Kp H H' → H a = none → WorAt K H' a (wof F row (prodsL (d : Nat) n)) ds → Q (.ref a) H'
/-- all is so, of worths -/
structure IsW (F : Fd) (n d : Nat) (ns : List (List (Tm F))) (l : List (Tm F)) : Prop where
  keys : ∀ ks, ks ∈ l.map Prod.fst ↔ InP n d ks
  nd : (l.map Prod.fst).Nodup
  sz : ∀ k, Sz 2 200 (wv l k)
  one : wv l [] = 1
  zero : ∀ r ∈ ns, deg r ≤ d → ∀ ks, InP n (d - deg r) ks → tot (wv l) r ks = 0
def spLIsW (K : Frag) : Sp := fun vs H Q _ => ∃ (p : Int) (n d : Nat) (a w : Addr) (F : Fd) (ns : List (List (Tm F))) (l : List (Tm F)) (ds : List (Dn F)), vs = [.int p, .int (n : Nat), .int (d : Nat), .ref a, .ref w] ∧ p = F.p ∧ n ≤ 6 ∧ d ≤ 300 ∧ TListsAt H a ns ∧ ns.length ≤ 10 ∧ (∀ r ∈ ns, Wl n r) ∧
  WorAt K H w l ds ∧ IsW F n d ns l ∧ ∀ H', Rf.Kp H H' → Q (.bl true) H'
end TermP
namespace TermP
open PySem PySem.Spec PyProof.Rows L2 Rf NumP NumF SumP
section
variable {K : Frag} {vs : List V} {H : Hp} {Q : VK} {E : XK}
theorem start_gcd {t b : Int} (ht : Sm t) (hb : Sm b) : 0 ≤ absI t ∧ 0 ≤ absI b ∧ Int.gcd (absI t) (absI b) = Int.gcd t b ∧ Sm (absI t) ∧ Sm (absI b) := by
  unfold Sm absI at *
  refine ⟨by split <;> omega, by split <;> omega, ?_, by split <;> omega, by split <;> omega⟩
  unfold Int.gcd
  congr 1 <;> split <;> omega
theorem step_gcd {x y : Int} (hx : 0 ≤ x) (hy : 0 ≤ y) (h0 : y ≠ 0) : 0 ≤ x.fmod y ∧ (x.fmod y).natAbs < y.natAbs ∧ Int.gcd y (x.fmod y) = Int.gcd x y := by
  have e : x.fmod y = x % y := Int.fmod_eq_emod_of_nonneg x hy
  have h1 := Int.emod_nonneg x h0
  have h2 := Int.emod_lt_of_pos x (show 0 < y by omega)
  rw [e]
  refine ⟨h1, by omega, ?_⟩
  obtain ⟨a, rfl⟩ := Int.eq_ofNat_of_zero_le hx
  obtain ⟨b, rfl⟩ := Int.eq_ofNat_of_zero_le hy
  have e2 : ((a : Int) % (b : Int)) = ((a % b : Nat) : Int) := by simp
  rw [e2, Int.gcd_natCast_natCast, Int.gcd_natCast_natCast, Nat.gcd_comm b, Nat.gcd_comm a, Nat.gcd_rec b a]
theorem sgn_small {b : Int} (hz : b ≠ 0) : Sm (b.fdiv (absI b)) := by
  unfold absI
  split
  · have e : b.fdiv (-b) = -1 := by
      have := Int.fdiv_eq_of_eq_mul_right (a := b) (b := -b) (c := -1) (by omega) (by omega)
      exact this
    rw [e]
    unfold Sm
    decide
  · rw [Int.fdiv_self hz]
    unfold Sm
    decide
theorem two_le : (2 : Nat) ≤ sizeLine := by rw [sizeLine_eq]; decide
theorem pickI (L : List Int) {v : Int} (h0 : 0 ≤ v) (h1 : v < L.length) : ∃ p ∈ L, atI (L.map V.int) v = some (.int p) :=
  ⟨L[v.toNat]'(by omega), List.getElem_mem _, by rw [atI_of h0 (by rw [List.length_map]; exact h1), List.getElem?_map, List.getElem?_eq_getElem (by omega)]; rfl⟩
theorem cond_bot (a b : Nm F) : cond F.p (a.b * b.b) := cond_of (a.bot b)
theorem kind_tup {o : HO} {t : String} (h : kindO o = some t) : isiB t "tuple" = decide (t = "tuple") := by
  cases o <;> cases h <;> rfl
theorem dpP {q : Addr} {x y : Int} (h : SqT K H q [.int x, .int y]) : Dp K H (.ref q) (.tuple [.int x, .int y]) := .tup h (.cons (.int x) (.cons (.int y) .nil))
theorem eqv2 (x y z w : Int) : PyData.eqv (.tuple [.int x, .int y]) (.tuple [.int z, .int w]) = (decide (x = z) && decide (y = w)) := by
  simp only [PyData.eqv, PyData.eqvAll, Bool.and_true]
  rfl
theorem MM_7 : (7 : Int) ∣ MM ∧ (1000000 : Int) ∣ MM ∧ (1000000000039 : Int) ∣ MM ∧ (2 : Int) ∣ MM ∧ (3 : Int) ∣ MM := by decide +kernel
theorem sz_low {F : Fd} {t b : Int} (hz : F.p = 0) (a : Nm F) (ha : a.t = lowT t b ∧ a.b = lowB t b) (hb : b ≠ 0) (ht : t.natAbs < 2 ^ 41) (hm : b ∣ MM) : Sz 1 41 a := by
  obtain ⟨n, e, _, _⟩ := low_ok (t := t) hb
  obtain ⟨l1, _⟩ := low_le (t := t) hb
  unfold Sz
  rw [ha.1, ha.2]
  refine ⟨?_, ?_⟩
  · rw [Int.pow_succ, Int.pow_zero, Int.one_mul]
    exact red_dvd n hb e (Int.dvd_mul_of_dvd_right hm)
  · have : 0 < lowB t b := n.1
    have h1 : 1 ≤ (lowB t b).natAbs := by omega
    calc (lowT t b).natAbs ≤ 2 ^ 41 * 1 := by omega
      _ ≤ 2 ^ 41 * (lowB t b).natAbs := Nat.mul_le_mul_left _ h1
theorem ends_snoc {F : Fd} (l : List (Tm F)) (t : Tm F) : ends (l ++ [t]) = ends l ++ (if t.1 = [] then [] else [lastP t.1 + 1]) := by
  unfold ends
  rw [List.filter_append, List.map_append]
  congr 1
  by_cases h : t.1 = [] <;> simp [h]
theorem ins_ne {x S Y dx d b : Addr} {fs : List (Str × V)} (h : H b = some (.ins S d fs)) (n : fs ≠ []) (hx : H x = some (.ins Y dx [])) : b ≠ x := fun z => by
  rw [z, hx] at h
  have e := Option.some.inj h
  injection e with _ _ e
  exact n e.symm
theorem lst_ne {x Y dx b : Addr} {xs : List V} (h : H b = some (.lst xs)) (hx : H x = some (.ins Y dx [])) : b ≠ x := fun z => by
  rw [z, hx] at h
  cases h
theorem tup_ne {x Y dx b : Addr} {xs : List V} (h : H b = some (.tup xs)) (hx : H x = some (.ins Y dx [])) : b ≠ x := fun z => by
  rw [z, hx] at h
  cases h
theorem fieldKx {C f x Y dx : Addr} {p : Int} {H' : Hp} (h : FieldAt C H f p) (hx : H x = some (.ins Y dx [])) (k : KpX x H H') : FieldAt C H' f p := by
  obtain ⟨d, e⟩ := h
  exact ⟨d, k _ _ (ins_ne e (fun z => by cases z) hx) e⟩
theorem termsKx {F : Fd} {a x Y dx : Addr} {l : List (Tm F)} {H' : Hp} (h : TermsAt H a l) (hx : H x = some (.ins Y dx [])) (k : KpX x H H') : TermsAt H' a l := by
  obtain ⟨rs, e, h1, h2⟩ := h
  exact ⟨rs, k _ _ (lst_ne e hx) e, fun r hr => ⟨k _ _ (tup_ne (h1 r hr).1 hx) (h1 r hr).1, k _ _ (tup_ne (h1 r hr).2.1 hx) (h1 r hr).2.1, k _ _ (tup_ne (h1 r hr).2.2 hx) (h1 r hr).2.2⟩, h2⟩
theorem sumKx {F : Fd} {C S s x Y dx : Addr} {l : List (Tm F)} {H' : Hp} (h : SumAt C S H s F l) (hx : H x = some (.ins Y dx [])) (k : KpX x H H') : SumAt C S H' s F l := by
  obtain ⟨d, f, a, e, h1, h2⟩ := h
  exact ⟨d, f, a, k _ _ (ins_ne e (fun z => by cases z) hx) e, fieldKx h1 hx k, termsKx h2 hx k⟩
theorem sys_get {C S Y s : Addr} {F : Fd} {n : Int} {ns us : List (List (Tm F))} (h : SysAt C S Y H s F n ns us) : ∃ dx f a b, H s = some (.ins Y dx (sysF f n a b)) := by
  obtain ⟨⟨dx, f, a, b, e, _⟩, _⟩ := h
  exact ⟨dx, f, a, b, e⟩
theorem th_w {v : V} (h : Th H v) (hi : ∀ p, v = .int p → Q (.bl true) H) (hn : isI v = false → Q (.bl false) H) : spW v H Q := by
  cases v with
  | int i => exact hi i rfl
  | non => exact hn rfl
  | str s => exact hn rfl
  | bl b => exact hn rfl
  | ref p => exact ⟨h, hn rfl⟩
  | _ => exact (show False from h).elim
theorem bit_no {v : V} (h : isI v = false) : bitV v = false := by
  cases v with
  | int i => cases h
  | _ => rfl
def unI : V → Int
  | .int i => i
  | _ => 0
theorem unI_bits : ∀ {xs : List V}, xs.all bitV = true → (xs.map unI).map V.int = xs ∧ Bits (xs.map unI)
  | [], _ => ⟨rfl, fun x hx => by cases hx⟩
  | x :: r, h => by
    rw [List.all_cons, Bool.and_eq_true] at h
    obtain ⟨a, b⟩ := unI_bits h.2
    cases x with
    | int i =>
      have hi : 0 ≤ i ∧ i ≤ 1 := by
        have := h.1
        simp only [bitV, Bool.and_eq_true, decide_eq_true_eq] at this
        exact this
      refine ⟨by rw [List.map_cons, List.map_cons, a]; rfl, fun x hx => ?_⟩
      rcases List.mem_cons.mp hx with e | hx
      · rw [e]
        show i = 0 ∨ i = 1
        omega
      · exact b x hx
    | _ => exact absurd h.1 Bool.false_ne_true
theorem rowB_at {F : Fd} {n : Int} {v : V} {ns us : List (List (Tm F))} {sd : Bool} (h : rowB n H v = true) : ∃ q row, v = .ref q ∧ ProdAt H q row ∧ Bits row ∧ (row.length : Int) = n ∧ fil n ns us sd H v = Gr ns us sd row := by
  have h0 := h
  cases v with
  | ref q =>
    have hR : rowR n (H q) = true := h
    cases e : H q with
    | none => rw [e] at hR; cases hR
    | some o =>
      cases o with
      | tup xs =>
        rw [e] at hR
        have hR' : (decide ((xs.length : Int) = n) && xs.all bitV) = true := hR
        rw [Bool.and_eq_true] at hR'
        obtain ⟨a, b⟩ := unI_bits hR'.2
        refine ⟨q, xs.map unI, rfl, by show H q = _; rw [a, e], b, by rw [List.length_map]; exact of_decide_eq_true hR'.1, ?_⟩
        unfold fil
        rw [h0, Bool.true_and]
        simp only [e]
        rfl
      | _ => rw [e] at hR; cases hR
  | _ => cases h
theorem fil_no {F : Fd} {n : Int} {v : V} {ns us : List (List (Tm F))} {sd : Bool} (h : rowB n H v = false) : fil n ns us sd H v = false := by
  unfold fil
  rw [h]
  rfl
theorem frs {H H' : Hp} {p : Addr} (k : Rf.Kp H H') (h : H' p = none) : H p = none := by
  cases e : H p with
  | none => rfl
  | some o => rw [k _ _ e] at h; cases h
theorem cat_bit {q b : Addr} {row : List Int} {z : Int} (hq : ProdAt H q row) (hb : H b = some (.tup [.int z])) (hl : row.length ≤ 100) (h : ∀ q' H', Rf.Kp H H' → ProdAt H' q' (row ++ [z]) → Q (.ref q') H') : rCatA K (.ref q) (.ref b) H Q := by
  refine ⟨q, b, _, _, rfl, rfl, .inl (.inl hq), .inl (.inl hb), ?_, fun e => ?_, fun _ e => (by cases e), fun _ _ p hp => ?_⟩
  · rw [List.length_map]
    exact le_line (by show row.length + 1 ≤ 3000; omega)
  · have : row = [] := List.map_eq_nil_iff.mp e
    subst this
    exact h b H (Rf.Kp.refl H) hb
  · refine h p _ (Rf.Kp.new hp) ?_
    show upd H p _ p = _
    rw [upd_same, List.map_append]
    rfl
theorem mk2 {H H' : Hp} {c p q q' : Addr} {rows : List (List Int)} {r r' : List Int} {acc : List V} (h : RowsAt H c rows) (e : H c = some (.lst acc)) (pres : ∀ q r, ProdAt H q r → ProdAt H' q r) (e' : H' p = some (.lst (acc ++ [.ref q, .ref q']))) (h1 : ProdAt H' q r) (h2 : ProdAt H' q' r') : RowsAt H' p (rows ++ [r, r']) := by
  obtain ⟨qs, e0, l, g⟩ := h
  rw [e] at e0
  cases e0
  refine ⟨qs ++ [q, q'], by rw [e', List.map_append]; rfl, by rw [List.length_append, List.length_append, l]; rfl, fun i hi hi' => ?_⟩
  by_cases c : i < qs.length
  · rw [List.getElem_append_left c, List.getElem_append_left (by omega)]
    exact pres _ _ (g i c (by omega))
  · have : i = qs.length ∨ i = qs.length + 1 := by
      rw [List.length_append] at hi
      have : ([q, q'] : List Addr).length = 2 := rfl
      omega
    rcases this with e1 | e1
    · subst e1
      rw [List.getElem_append_right (Nat.le_refl _), List.getElem_append_right (by omega)]
      simp only [Nat.sub_self, l]
      exact h1
    · subst e1
      rw [List.getElem_append_right (by omega), List.getElem_append_right (by omega)]
      simp only [l, Nat.add_sub_cancel_left]
      exact h2
def wid (rows : List (List Int)) : List (List Int) := rows.flatMap fun r => [r ++ [0], r ++ [1]]
theorem wid_len (l : List (List Int)) : (wid l).length = 2 * l.length := by
  unfold wid
  induction l with
  | nil => rfl
  | cons a r ih => rw [List.flatMap_cons, List.length_append, ih]; show 2 + 2 * r.length = 2 * (r.length + 1); omega
theorem wid_snoc (l : List (List Int)) (r : List Int) : wid (l ++ [r]) = wid l ++ [r ++ [0], r ++ [1]] := by
  unfold wid
  rw [List.flatMap_append]
  rfl
theorem rows_sm {n : Nat} (h : n ≤ 12) : (rowsP n).length ≤ 4096 := by
  rw [rows_len]
  exact Nat.pow_le_pow_right (by decide) h
theorem line4 {n : Nat} (h : n ≤ 10000) : n ≤ sizeLine := Nat.le_trans h (by decide)
theorem line_lt {n : Nat} (h : n ≤ 10000) : n < sizeLine := Nat.lt_of_le_of_lt h (by decide)
def negN {F : Fd} (b : Nm F) : Nm F := ⟨mkT F.p (-1 * b.t) (1 * b.b), mkB F.p (-1 * b.t) (1 * b.b), nu_mk F.h (cond_of (bot_ok F.h (nu_1 F.h) b.ok))⟩
theorem negN_sz {F : Fd} {b : Nm F} {j e : Nat} (he : 7 ≤ e) (h : Sz j e b) : Sz j e (negN b) := by
  by_cases hz : F.p = 0
  · have n0 := b.at0 hz
    have l := low_is (x := -b.t) (y := b.b) (t := -1 * b.t) (b := 1 * b.b) ⟨n0.1, by have := n0.2; rw [← this]; simp [Int.gcd]⟩ (by have := n0.1; omega) (by rw [Int.one_mul, Int.neg_one_mul])
    have e1 : (negN b).t = -b.t := by show mkT F.p _ _ = _; rw [hz, mk0T]; exact l.1
    have e2 : (negN b).b = b.b := by show mkB F.p _ _ = _; rw [hz, mk0B]; exact l.2
    unfold Sz
    rw [e1, e2, Int.natAbs_neg]
    exact h
  · exact sz_p _ hz he
def offP (row : List Int) (ks : Pr) : Pr := ks.filter fun k => !decide (row[k.toNat]? = some 1)
theorem off_nil (row : List Int) (ks : Pr) : onP row ks = decide (offP row ks = []) := by
  unfold onP offP
  induction ks with
  | nil => rfl
  | cons a r ih =>
    rw [List.all_cons, ih]
    by_cases h : row[a.toNat]? = some 1
    · rw [List.filter_cons_of_neg (by simp [h]), decide_eq_true h, Bool.true_and]
    · rw [List.filter_cons_of_pos (by simp [h]), decide_eq_false h, Bool.false_and]
      rfl
theorem gat_in {F : Fd} (l : List (Tm F)) : ∀ i, i ≤ l.length → ∀ z, z ∈ (gat (l.take i)).map Prod.fst → z ∈ l.map Prod.fst
  | 0, _, z, h => by cases h
  | i + 1, hi, z, h => by
    have hlt : i < l.length := hi
    have e : l.take (i + 1) = l.take i ++ [l[i]] := by rw [List.take_succ, List.getElem?_eq_getElem hlt]; rfl
    rw [e, gat_snoc] at h
    rcases (acc_mem _ _ _ _).mp h with rfl | h
    · exact List.mem_map_of_mem (List.getElem_mem _)
    · exact gat_in l i (by omega) z h
theorem G_in {F : Fd} {l : List (Tm F)} {t : Tm F} (h : t ∈ G l) : ∃ u ∈ l, u.1 = t.1 := by
  unfold SumP.G at h
  have ht := (List.mem_filter.mp ((List.mergeSort_perm ..).mem_iff.mp h)).1
  have q := gat_in l l.length (Nat.le_refl _) t.1 (by rw [List.take_length]; exact List.mem_map_of_mem ht)
  obtain ⟨u, hu, e⟩ := List.mem_map.mp q
  exact ⟨u, hu, e⟩
theorem G_lt {F : Fd} {l : List (Tm F)} {n : Int} (h : ∀ t ∈ l, ∀ k ∈ t.1, k < n) : ∀ t ∈ G l, ∀ k ∈ t.1, k < n := fun t ht k hk => by
  obtain ⟨u, hu, e⟩ := G_in ht
  exact h u hu k (by rw [e]; exact hk)
theorem terms_ne {F : Fd} {a r : Addr} {l : List (Tm F)} (h : TermsAt H a l) (hr : RoomAt H r) : a ≠ r := by
  rintro rfl
  obtain ⟨rs, e, _⟩ := h
  obtain ⟨x, y, e', _⟩ := hr
  rw [e] at e'
  have e2 : vsOf rs = [.int x, .int y] := HO.lst.inj (Option.some.inj e')
  unfold vsOf at e2
  cases rs with
  | nil => cases e2
  | cons a b => rw [List.map_cons] at e2; cases (List.cons.inj e2).1
theorem plan_kx {r : Addr} {H' : Hp} {n : Nat} {v : V} (h : Plan H n v) (hr : RoomAt H r) (k : KpX r H H') : Plan H' n v := by
  rcases h with h | ⟨q, row, e, hq, b⟩
  · exact .inl h
  · exact .inr ⟨q, row, e, hq.kx hr k, b⟩
theorem negN_0 {F : Fd} (b : Nm F) (hz : F.p = 0) : (negN b).t = 0 - b.t ∧ (negN b).b = b.b := by
  have n0 := b.at0 hz
  have l := low_is (x := -b.t) (y := b.b) (t := -1 * b.t) (b := 1 * b.b) ⟨n0.1, by have := n0.2; rw [← this]; simp [Int.gcd]⟩ (by have := n0.1; omega) (by rw [Int.one_mul, Int.neg_one_mul])
  refine ⟨?_, ?_⟩
  · show mkT F.p _ _ = _
    rw [hz, mk0T, l.1]
    omega
  · show mkB F.p _ _ = _
    rw [hz, mk0B]
    exact l.2
def negs {F : Fd} (l : List (Tm F)) : List (Tm F) := l.map fun t => (t.1, negN t.2)
theorem negs_wf {F : Fd} {j e n : Nat} {l : List (Tm F)} (h : Wf j e n l) : Wf j e n (negs l) := by
  refine ⟨fun t ht => ?_, by unfold negs; rw [List.length_map]; exact h.len, h.e7⟩
  obtain ⟨u, hu, rfl⟩ := List.mem_map.mp ht
  exact ⟨(h.ok u hu).1, negN_sz h.e7 (h.ok u hu).2⟩
theorem negs_lt {F : Fd} {l : List (Tm F)} {n : Int} (h : ∀ t ∈ l, ∀ k ∈ t.1, k < n) : ∀ t ∈ negs l, ∀ k ∈ t.1, k < n := fun t ht k hk => by
  obtain ⟨u, hu, rfl⟩ := List.mem_map.mp ht
  exact h u hu k hk
/-- lists of terms, none of them the list itself -/
def TLs {F : Fd} (H : Hp) (a : Addr) (ls : List (List (Tm F))) : Prop := ∃ as : List Addr, H a = some (.lst (as.map V.ref)) ∧ as.length = ls.length ∧ (∀ i (h : i < as.length) (h' : i < ls.length), TermsAt H as[i] ls[i]) ∧ ∀ b ∈ as, b ≠ a
theorem TLs.out {F : Fd} {a : Addr} {ls : List (List (Tm F))} (h : TLs H a ls) : TListsAt H a ls := by
  obtain ⟨as, e, l, g, _⟩ := h
  exact ⟨as, e, l, g⟩
theorem TLs.nil {F : Fd} {a : Addr} (h : H a = some (.lst [])) : TLs (F := F) H a [] := ⟨[], h, rfl, fun i h => absurd h (Nat.not_lt_zero i), fun b h => by cases h⟩
theorem TLs.kx {F : Fd} {a r : Addr} {H' : Hp} {ls : List (List (Tm F))} (h : TLs H a ls) (hr : RoomAt H r) (n : a ≠ r) (k : KpX r H H') : TLs H' a ls := by
  obtain ⟨as, e, l, g, m⟩ := h
  exact ⟨as, k _ _ n e, l, fun i h1 h2 => (g i h1 h2).kx hr (terms_ne (g i h1 h2) hr) k, m⟩
theorem terms_setL {F : Fd} {a c : Addr} {l : List (Tm F)} {xs : List V} {o : HO} (h : TermsAt H a l) (hc : H c = some (.lst xs)) (n : a ≠ c) : TermsAt (upd H c o) a l := by
  obtain ⟨rs, e, h1, h2⟩ := h
  exact ⟨rs, by rw [upd_ne n]; exact e, fun r hr => (h1 r hr).setL hc, h2⟩
theorem TLs.push {F : Fd} {a c : Addr} {ls : List (List (Tm F))} {l : List (Tm F)} (h : TLs H c ls) (hl : TermsAt H a l) (n : a ≠ c) : ∃ acc, H c = some (.lst acc) ∧ acc.length = ls.length ∧ TLs (upd H c (.lst (acc ++ [.ref a]))) c (ls ++ [l]) := by
  obtain ⟨as, e, le, g, m⟩ := h
  refine ⟨_, e, by rw [List.length_map, le], as ++ [a], by rw [upd_same, List.map_append]; rfl, by rw [List.length_append, List.length_append, le]; rfl, fun i hi hi' => ?_, fun b hb => ?_⟩
  · by_cases c : i < as.length
    · rw [List.getElem_append_left c, List.getElem_append_left (by omega)]
      exact terms_setL (g i c (by omega)) e (m _ (List.getElem_mem _))
    · have : i = as.length := by
        rw [List.length_append] at hi
        simp at hi
        omega
      subst this
      rw [List.getElem_append_right (Nat.le_refl _), List.getElem_append_right (by omega)]
      simp only [Nat.sub_self, le]
      exact terms_setL hl e n
  · rcases List.mem_append.mp hb with hb | hb
    · exact m b hb
    · rw [List.mem_singleton.mp hb]
      exact n
/-- what the draws of wishes keep -/
def WsP {F : Fd} (r : Addr) (n : Nat) (H H' : Hp) (D : Addr) (ls : List (List (Tm F))) : Prop := KpX r H H' ∧ RoomAt H' r ∧ TLs H' D ls ∧ ∀ l ∈ ls, Wl n l
theorem Wl.g {F : Fd} {n : Nat} {l : List (Tm F)} (h : Wl n l) : Wg l := h.1.g (by decide) (by decide) (by decide)
theorem all_snoc {α : Type} (f : α → Bool) (l : List α) (x : α) : (l ++ [x]).all f = (l.all f && f x) := by
  rw [List.all_append]
  show (l.all f && (f x && true)) = _
  rw [Bool.and_true]
/-- a list is empty just if all were right -/
def Emp (H : Hp) (D : Addr) (i : Nat) (b : Bool) : Prop := ∃ ks : List V, H D = some (.lst ks) ∧ ks.length ≤ i ∧ (ks = [] ↔ b = true)
/-- sums in a list that is no list of theirs -/
def SLs {F : Fd} (C S : Addr) (H : Hp) (D : Addr) (ls : List (List (Tm F))) : Prop := ∃ ss : List Addr, H D = some (.lst (ss.map V.ref)) ∧ ss.length = ls.length ∧ (∀ i (h : i < ss.length) (h' : i < ls.length), SumAt C S H ss[i] F ls[i]) ∧ ∀ s ∈ ss, ∃ d f a, H s = some (.ins S d (sumF f a)) ∧ a ≠ D
theorem SLs.out {F : Fd} {C S D : Addr} {ls : List (List (Tm F))} (h : SLs C S H D ls) : SumsAt C S H D F ls := by
  obtain ⟨ss, e, l, g, _⟩ := h
  exact ⟨ss, e, l, g⟩
theorem SLs.nil {F : Fd} {C S D : Addr} (h : H D = some (.lst [])) : SLs (F := F) C S H D [] := ⟨[], h, rfl, fun i h => absurd h (Nat.not_lt_zero i), fun b h => by cases h⟩
theorem SLs.ext {F : Fd} {C S D : Addr} {H' : Hp} {ls : List (List (Tm F))} (h : SLs C S H D ls) (e : LamX.ExtN H H') : SLs C S H' D ls := by
  obtain ⟨ss, h1, h2, h3, h4⟩ := h
  exact ⟨ss, e _ _ h1 (fun _ z => by cases z), h2, fun i h h' => (h3 i h h').ext e, fun s hs => by
    obtain ⟨d, f, a, h5, h6⟩ := h4 s hs
    exact ⟨d, f, a, e _ _ h5 (fun _ z => by cases z), h6⟩⟩
theorem sum_at {F : Fd} {C S s d f a : Addr} {l : List (Tm F)} (h : SumAt C S H s F l) (e : H s = some (.ins S d (sumF f a))) : FieldAt C H f F.p ∧ TermsAt H a l := by
  obtain ⟨d', f', a', e', h1, h2⟩ := h
  rw [e] at e'
  have e1 := Option.some.inj e'
  injection e1 with _ _ e1
  have e2 := congrArg (List.lookup ("own_field" : Str)) e1
  have e3 := congrArg (List.lookup ("row" : Str)) e1
  rw [sum_f, sum_f] at e2
  rw [sum_r, sum_r] at e3
  cases e2
  cases e3
  exact ⟨h1, h2⟩
theorem sum_setL {F : Fd} {C S s c d f a : Addr} {l : List (Tm F)} {xs : List V} {o : HO} (h : SumAt C S H s F l) (e : H s = some (.ins S d (sumF f a))) (hc : H c = some (.lst xs)) (n : a ≠ c) : SumAt C S (upd H c o) s F l ∧ upd H c o s = some (.ins S d (sumF f a)) := by
  obtain ⟨⟨df, ef⟩, h2⟩ := sum_at h e
  have ne : s ≠ c := fun z => by rw [z, hc] at e; cases e
  have nf : f ≠ c := fun z => by rw [z, hc] at ef; cases ef
  have e' : upd H c o s = some (.ins S d (sumF f a)) := by rw [upd_ne ne]; exact e
  exact ⟨⟨d, f, a, e', ⟨df, by rw [upd_ne nf]; exact ef⟩, terms_setL h2 hc n⟩, e'⟩
theorem SLs.push {F : Fd} {C S D x d f a : Addr} {ls : List (List (Tm F))} {l : List (Tm F)} (h : SLs C S H D ls) (hl : SumAt C S H x F l) (ex : H x = some (.ins S d (sumF f a))) (n : a ≠ D) : ∃ acc, H D = some (.lst acc) ∧ acc.length = ls.length ∧ SLs C S (upd H D (.lst (acc ++ [.ref x]))) D (ls ++ [l]) := by
  obtain ⟨ss, e, le, g, m⟩ := h
  refine ⟨_, e, by rw [List.length_map, le], ss ++ [x], by rw [upd_same, List.map_append]; rfl, by rw [List.length_append, List.length_append, le]; rfl, fun i hi hi' => ?_, fun b hb => ?_⟩
  · by_cases c : i < ss.length
    · rw [List.getElem_append_left c, List.getElem_append_left (by omega)]
      obtain ⟨d', f', a', e', n'⟩ := m _ (List.getElem_mem c)
      exact (sum_setL (g i c (by omega)) e' e n').1
    · have : i = ss.length := by
        rw [List.length_append] at hi
        simp at hi
        omega
      subst this
      rw [List.getElem_append_right (Nat.le_refl _), List.getElem_append_right (by omega)]
      simp only [Nat.sub_self, le]
      exact (sum_setL hl ex e n).1
  · rcases List.mem_append.mp hb with hb | hb
    · obtain ⟨d', f', a', e', n'⟩ := m b hb
      exact ⟨d', f', a', by rw [upd_ne (fun z => by rw [z, e] at e'; cases e')]; exact e', n'⟩
    · rw [List.mem_singleton.mp hb]
      exact ⟨d, f, a, (sum_setL hl ex e n).2, n⟩
theorem tabs_setL {T : List (Addr × Str)} {x : Addr} {xs : List V} {o : HO} (h : LamX.Tabs T H) (hx : H x = some (.lst xs)) : LamX.Tabs T (upd H x o) := by
  intro p hp
  obtain ⟨ps, e1, e2, e3⟩ := h p hp
  have ne : ∀ {b : Addr} {u : HO}, H b = some u → (∀ xs, u ≠ .lst xs) → upd H x o b = some u := fun {b u} e n => by
    rw [upd_ne (fun z => by rw [z, hx] at e; cases e; exact n _ rfl)]
    exact e
  refine ⟨ps, ne e1 (fun _ z => by cases z), e2, fun pos cv hc => ?_⟩
  obtain ⟨c, e4, e5⟩ := e3 pos cv hc
  exact ⟨c, e4, ne e5 (fun _ z => by cases z)⟩
theorem extn_out {H' : Hp} {D : Addr} {o : HO} (e : LamX.ExtN H H') (n : H D = none) : LamX.ExtN H (upd H' D o) := fun b u h t => by
  rw [upd_ne (fun z => by rw [z, n] at h; cases h)]
  exact e b u h t
/-- one more sum made -/
theorem made_step {T : List (Addr × Str)} {F : Fd} {C S D x dx : Addr} {H2 H3 : Hp} {ls : List (List (Tm F))} {l : List (Tm F)} (hS : SLs C S H2 D ls) (hx : H2 x = none) (hdx : H2 dx = none) (ne : dx ≠ x)
    (e3 : ExtX x (upd (upd H2 dx (.own x)) x (.ins S dx [])) H3) (t3 : LamX.Tabs T H3) (S3 : SumAt C S H3 x F l) (fr : FreshL (upd (upd H2 dx (.own x)) x (.ins S dx [])) H3 x) :
    ∃ acc, H3 D = some (.lst acc) ∧ acc.length = ls.length ∧ LamX.ExtN H2 H3 ∧ LamX.Tabs T (upd H3 D (.lst (acc ++ [.ref x]))) ∧ SLs C S (upd H3 D (.lst (acc ++ [.ref x]))) D (ls ++ [l]) := by
  have e23 : LamX.ExtN H2 H3 := ext_new (new2 hx hdx ne) hx e3
  obtain ⟨ss, eD, _⟩ := id hS
  obtain ⟨d, f, a, ex, h1, h2⟩ := id S3
  have na : a ≠ D := fun z => fr S d f a ex _ (by rw [z]; exact (new2 hx hdx ne) _ _ eD)
  obtain ⟨acc, e, la, h⟩ := (hS.ext e23).push S3 ex na
  exact ⟨acc, e, la, e23, tabs_setL t3 e, h⟩
theorem wl_ws {F : Fd} {n : Nat} {ls : List (List (Tm F))} (h : ∀ l ∈ ls, Wl n l) : Ws (n : Nat) (ls.map G) := fun l hl => by
  obtain ⟨m, hm, rfl⟩ := List.mem_map.mp hl
  exact ⟨(h m hm).1.G.g (by decide) (by decide) (by decide), G_lt (h m hm).2⟩
/-- a thing that is no row of n places -/
def Bad (n : Nat) (H : Hp) (v : V) : Prop := ThingAt H v ∧ rowB (n : Nat) H v = false
theorem Bad.kp {n : Nat} {H' : Hp} {v : V} (h : Bad n H v) (k : Rf.Kp H H') : Bad n H' v := by
  obtain ⟨⟨h1, h2⟩, h3⟩ := h
  cases v with
  | ref q =>
    obtain ⟨o, t, e, ko⟩ := id h1
    have e' := k _ _ e
    refine ⟨⟨h1.ext (Kp.ext k), fun q' xs eq hx => ?_⟩, ?_⟩
    · cases eq
      rw [e'] at hx
      cases hx
      obtain ⟨a, b⟩ := h2 q xs rfl e
      exact ⟨a, fun x hx => (b x hx).ext (Kp.ext k)⟩
    · have h3' : rowR (n : Nat) (H q) = false := h3
      show rowR (n : Nat) (H' q) = false
      rw [e']
      rw [e] at h3'
      exact h3'
  | _ => exact ⟨⟨h1.ext (Kp.ext k), fun q xs e => by cases e⟩, h3⟩
theorem bad_tup {n : Nat} {q : Addr} {xs : List V} (e : H q = some (.tup xs)) (hl : xs.length ≤ 100) (ht : ∀ x ∈ xs, Th H x) (hb : xs.length ≠ n ∨ xs.all bitV = false) : Bad n H (.ref q) := by
  refine ⟨⟨⟨_, _, e, rfl⟩, fun q' ys eq hx => ?_⟩, ?_⟩
  · cases eq
    rw [e] at hx
    cases hx
    exact ⟨hl, ht⟩
  · show rowR (n : Nat) (H q) = false
    rw [e]
    show (decide ((xs.length : Int) = (n : Nat)) && xs.all bitV) = false
    rcases hb with hb | hb
    · rw [decide_eq_false (by omega)]
      rfl
    · rw [hb, Bool.and_false]
theorem bad_o {n : Nat} {q : Addr} {o : HO} {t : String} (e : H q = some o) (ko : kindO o = some t) (ht : t ≠ "tuple") : Bad n H (.ref q) := by
  have nt : ∀ xs, o ≠ .tup xs := fun xs z => by rw [z] at ko; cases ko; exact ht rfl
  refine ⟨⟨⟨_, _, e, ko⟩, fun q' ys eq hx => ?_⟩, ?_⟩
  · cases eq
    rw [e] at hx
    exact absurd (Option.some.inj hx) (nt ys)
  · show rowR (n : Nat) (H q) = false
    rw [e]
    cases o with
    | tup xs => exact absurd rfl (nt xs)
    | _ => rfl
theorem bad_v {n : Nat} {v : V} (h : Th H v) (hn : ∀ q, v ≠ .ref q) : Bad n H v := by
  cases v with
  | ref q => exact absurd rfl (hn q)
  | _ => exact ⟨⟨h, fun q xs e => by cases e⟩, rfl⟩
/-- (v,) + a row -/
theorem cat_pre {b t : Addr} {v : V} {row : List Int} (hb : H b = some (.tup [v])) (ht : ProdAt H t row) (hl : row.length ≤ 100) (h : ∀ q' H', Rf.Kp H H' → H' q' = some (.tup (v :: row.map V.int)) → Q (.ref q') H') : rCatA K (.ref b) (.ref t) H Q := by
  refine ⟨b, t, _, _, rfl, rfl, .inl (.inl hb), .inl (.inl ht), ?_, fun e => (by cases e), fun _ e => ?_, fun _ _ p hp => ?_⟩
  · rw [List.length_map]
    exact le_line (by show 1 + row.length ≤ 3000; omega)
  · have : row = [] := List.map_eq_nil_iff.mp e
    subst this
    exact h b H (Rf.Kp.refl H) hb
  · exact h p _ (Rf.Kp.new hp) upd_same
/-- a row without its first place -/
theorem cut_row {q : Addr} {row : List Int} (hq : ProdAt H q row) (h1 : 1 ≤ row.length) (h : ∀ t H', Rf.Kp H H' → ProdAt H' t (row.drop 1) → Q (.ref t) H') : rSl K (.ref q) (some 1) none H Q := by
  have e1 : HT.sIx (row.map V.int).length 0 (some 1) = 1 := by
    have := HT.sIx_nat (row.map V.int).length 0 1
    rw [List.length_map] at this ⊢
    exact this.trans (by omega)
  refine .inr (.inl ⟨q, _, rfl, .inl (.inl hq), fun z => ?_, fun _ p hp => ?_⟩)
  · exact absurd (e1.symm.trans z.1) (by decide)
  · refine h p _ (Rf.Kp.new hp) ?_
    show upd H p _ p = _
    rw [upd_same]
    unfold cutV
    rw [e1, HT.sIx_none, List.take_of_length_le (by rw [List.length_drop]; exact Nat.le_refl _), List.map_drop]
def AB (n : Nat) (H : Hp) (xs : List V) : Prop := ∀ x ∈ xs, Bad n H x
theorem AB.kp {n : Nat} {H' : Hp} {xs : List V} (h : AB n H xs) (k : Rf.Kp H H') : AB n H' xs := fun x hx => (h x hx).kp k
theorem AB.snoc {n : Nat} {xs : List V} {x : V} (h : AB n H xs) (b : Bad n H x) : AB n H (xs ++ [x]) := fun y hy => by
  rcases List.mem_append.mp hy with hy | hy
  · exact h y hy
  · rw [List.mem_singleton.mp hy]
    exact b
theorem th_ints {r : List Int} : ∀ x ∈ r.map V.int, Th H x := fun x hx => by
  obtain ⟨i, _, rfl⟩ := List.mem_map.mp hx
  exact trivial
theorem th_cons {v : V} {xs : List V} (h : Th H v) (g : ∀ x ∈ xs, Th H x) : ∀ x ∈ v :: xs, Th H x := fun x hx => by
  rcases List.mem_cons.mp hx with e | hx
  · rw [e]
    exact h
  · exact g x hx
theorem bad_pre {n : Nat} {q : Addr} {v : V} {r : List Int} (e : H q = some (.tup (v :: r.map V.int))) (hl : r.length ≤ 60) (hv : Th H v) (hb : bitV v = false) : Bad n H (.ref q) :=
  bad_tup e (by rw [List.length_cons, List.length_map]; omega) (th_cons hv th_ints) (.inr (by rw [List.all_cons, hb]; rfl))
theorem unI_ints (row : List Int) : (row.map V.int).map unI = row := by
  rw [List.map_map]
  exact List.map_id' row
theorem fil_row {F : Fd} {q : Addr} {row : List Int} {n : Nat} {ns us : List (List (Tm F))} {sd : Bool} (hq : ProdAt H q row) (b : Bits row) (hl : row.length = n) : fil (n : Nat) ns us sd H (.ref q) = Gr ns us sd row := by
  have h0 : rowB (n : Nat) H (.ref q) = true := by rw [← hl]; exact hq.rowB b
  have eq : H q = some (.tup (row.map V.int)) := hq
  unfold fil
  rw [h0, Bool.true_and]
  simp only [eq]
  show Gr ns us sd ((row.map V.int).map unI) = _
  rw [unI_ints]
theorem in_fil {f : List Int → Bool} {n : Nat} {r : List Int} (h : r ∈ rowsP n) : decide (r ∈ (rowsP n).filter f) = f r := by
  cases e : f r with
  | true => exact decide_eq_true (List.mem_filter.mpr ⟨h, e⟩)
  | false => exact decide_eq_false fun z => by rw [(List.mem_filter.mp z).2] at e; cases e
def dB (x y : Bool) : PyData := .list [.bool x, .bool y, .bool x]
theorem dpB {x y : Bool} {L : Addr} (e : H L = some (.lst [.bl x, .bl y, .bl x])) : Dp K H (.ref L) (dB x y) := .lst (.inl (.inl e)) (.cons (.bl _) (.cons (.bl _) (.cons (.bl _) .nil)))
theorem shapeB (x y : Bool) : SeqAt.shaped (dB x y) = true := rfl
theorem eqvB (x y : Bool) : PyData.eqv (dB x y) (dB x y) = true := by
  cases x <;> cases y <;> rfl
theorem rep_row {z : Addr} {v : Int} {n : Nat} (hz : H z = some (.tup [.int v])) (h1 : 1 ≤ n) (h2 : n ≤ 12) (h : ∀ q H', Rf.Kp H H' → ProdAt H' q (List.replicate n v) → Q (.ref q) H') : rBin K .Mult (.ref z) (.int (n : Nat)) H Q := by
  by_cases e : n = 1
  · subst e
    exact .inr (.inr ⟨z, _, rfl, rfl, hz, by simp, h z H (Rf.Kp.refl H) hz⟩)
  · refine .inr (.inl ⟨z, (n : Nat), _, rfl, rfl, .inl (.inl hz), by simp, by omega, by omega, by show 1 ≤ 1000; decide, fun p hp => h p _ (Rf.Kp.new hp) ?_⟩)
    have er : ∀ m : Nat, (List.replicate m [V.int v]).flatten = (List.replicate m v).map V.int := fun m => by
      induction m with
      | zero => rfl
      | succ m ih => rw [List.replicate_succ, List.flatten_cons, ih]; rfl
    show upd H p _ p = _
    rw [upd_same, Int.toNat_natCast, er]
theorem rows2 {L q0 q1 : Addr} {r0 r1 : List Int} (e : H L = some (.lst [.ref q0, .ref q1])) (h0 : ProdAt H q0 r0) (h1 : ProdAt H q1 r1) : RowsAt H L [r0, r1] := by
  refine ⟨[q0, q1], e, rfl, fun i hi hi' => ?_⟩
  match i, hi with
  | 0, _ => exact h0
  | 1, _ => exact h1
theorem row2_ok {n : Nat} {r : List Int} (h : r ∈ [List.replicate n 0, List.replicate n (1 : Int)]) : r.length = n ∧ Bits r := by
  rcases List.mem_cons.mp h with e | h
  · rw [e]
    exact ⟨List.length_replicate, fun x hx => .inl (List.eq_of_mem_replicate hx)⟩
  · rw [List.mem_singleton.mp h]
    exact ⟨List.length_replicate, fun x hx => .inr (List.eq_of_mem_replicate hx)⟩
theorem rep60 {z : Addr} {v : Int} (hz : H z = some (.tup [.int v])) (h : ∀ q H', Rf.Kp H H' → ProdAt H' q (List.replicate 60 v) → Q (.ref q) H') : rBin K .Mult (.ref z) (.int 60) H Q := by
  refine .inr (.inl ⟨z, 60, _, rfl, rfl, .inl (.inl hz), by simp, by decide, by decide, by show 1 ≤ 1000; decide, fun p hp => h p _ (Rf.Kp.new hp) ?_⟩)
  show upd H p _ p = _
  rw [upd_same]
  rfl
/-- the rows that the law holds due -/
theorem gr_due {F : Fd} (ns us : List (List (Tm F))) (row : List Int) : Gr ns [] true row = Gr (ns.map G) (us.map G) false row := by
  unfold Gr
  rw [List.all_map]
  have : (fun l : List (Tm F) => decide (Wo l row = 0)) = (fun l => decide (Wo l row = 0)) ∘ G := by
    funext l
    show _ = decide (Wo (G l) row = 0)
    rw [Wo_G]
  rw [← this]
  rfl
theorem gr_all {F : Fd} (ns us : List (List (Tm F))) (row : List Int) : (Gr [] us true row && Gr (ns.map G) (us.map G) false row) = Gr (ns.map G) (us.map G) true row := by
  have e : (us.map G).all (fun l => decide (0 ≤ (Wo l row).t)) = us.all fun l => decide (0 ≤ (Wo l row).t) := by
    rw [List.all_map]
    congr 1
    funext l
    show decide (0 ≤ (Wo (G l) row).t) = _
    rw [Wo_G]
  unfold Gr
  rw [e]
  cases (us.all fun l => decide (0 ≤ (Wo l row).t)) <;> cases ((ns.map G).all fun l => decide (Wo l row = 0)) <;> rfl
theorem tl_nil {F : Fd} {u : Addr} (h : H u = some (.lst [])) : TListsAt (F := F) H u [] := ⟨[], h, rfl, fun i hi => absurd hi (Nat.not_lt_zero i)⟩
abbrev F2 : Fd := ⟨2, .inr (by decide +kernel)⟩
/-- the wide systems so far -/
def Wide (C Y : Addr) (H : Hp) (D : Addr) (i : Nat) : Prop := ∃ ys : List Addr, H D = some (.lst (ys.map V.ref)) ∧ ys.length = i ∧ ∀ (j : Nat) (y : Addr), ys[j]? = some y → ∃ (m : Int) (dx f a b : Addr), ([12, 13, 60] : List Int)[j]? = some m ∧ H y = some (.ins Y dx (sysF f m a b)) ∧ FieldAt C H f 2 ∧ H a = some (.lst []) ∧ H b = some (.lst []) ∧ a ≠ D ∧ b ≠ D
theorem Wide.list {C Y D : Addr} {i : Nat} (h : Wide C Y H D i) : ∃ xs, H D = some (.lst xs) := by
  obtain ⟨ys, e, _⟩ := h
  exact ⟨_, e⟩
theorem Wide.kp {C Y D : Addr} {i : Nat} {H' : Hp} (h : Wide C Y H D i) (k : Rf.Kp H H') : Wide C Y H' D i := by
  obtain ⟨ys, e, l, g⟩ := h
  refine ⟨ys, k _ _ e, l, fun j y ey => ?_⟩
  obtain ⟨m, dx, f, a, b, h1, h2, h3, h4, h5, h6⟩ := g j y ey
  exact ⟨m, dx, f, a, b, h1, k _ _ h2, h3.kp k, k _ _ h4, k _ _ h5, h6⟩
theorem sys0 {C S Y y dx f a b : Addr} {m : Int} (m1 : 1 ≤ m) (m60 : m ≤ 60) (h2 : H y = some (.ins Y dx (sysF f m a b))) (h3 : FieldAt C H f 2) (h4 : H a = some (.lst [])) (h5 : H b = some (.lst [])) : SysAt C S Y H y F2 m [] [] :=
  ⟨⟨dx, f, a, b, h2, h3, ⟨[], h4, rfl, fun i hi => absurd hi (Nat.not_lt_zero i)⟩, ⟨[], h5, rfl, fun i hi => absurd hi (Nat.not_lt_zero i)⟩⟩, fun l hl => (by cases hl), fun l hl => (by cases hl), ⟨Nat.zero_le _, Nat.zero_le _⟩, m1, m60⟩
theorem Wide.push {C S Y D y : Addr} {i : Nat} {m : Int} {H0 : Hp} {xs : List V} (h : Wide C Y H D i) (hm : ([12, 13, 60] : List Int)[i]? = some m) (hY : SysAt C S Y H y F2 m [] []) (fr : FreshY H0 H y) (eD : H0 D = some (.lst xs)) : ∃ acc, H D = some (.lst acc) ∧ acc.length = i ∧ Wide C Y (upd H D (.lst (acc ++ [.ref y]))) D (i + 1) := by
  obtain ⟨ys, e, l, g⟩ := h
  have keep : ∀ {x : Addr} {o u : HO}, H x = some o → x ≠ D → upd H D u x = some o := fun {x o u} ex n => by rw [upd_ne n]; exact ex
  have fkeep : ∀ {f : Addr} {u : HO}, FieldAt C H f 2 → FieldAt C (upd H D u) f 2 := fun {f u} hf => by
    obtain ⟨d, ef⟩ := hf
    exact ⟨d, keep ef (fun z => by rw [z, e] at ef; cases ef)⟩
  refine ⟨_, e, by rw [List.length_map, l], ys ++ [y], by rw [upd_same, List.map_append]; rfl, by rw [List.length_append, l]; rfl, fun j y' ey => ?_⟩
  by_cases c : j < ys.length
  · rw [List.getElem?_append_left c] at ey
    obtain ⟨m, dx, f, a, b, h1, h2, h3, h4, h5, h6, h7⟩ := g j y' ey
    exact ⟨m, dx, f, a, b, h1, keep h2 (fun z => by rw [z, e] at h2; cases h2), fkeep h3, keep h4 h6, keep h5 h7, h6, h7⟩
  · have hj := (List.getElem?_eq_some_iff.mp ey).1
    rw [List.length_append] at hj
    have hj' : j < ys.length + 1 := hj
    have ej : j = ys.length := by omega
    subst ej
    rw [List.getElem?_append_right (Nat.le_refl _), Nat.sub_self] at ey
    cases ey
    obtain ⟨⟨dx, f, a, b, h2, h3, ⟨sa, h4, la, _⟩, ⟨sb, h5, lb, _⟩⟩, _⟩ := hY
    have za : sa = [] := List.eq_nil_of_length_eq_zero la
    have zb : sb = [] := List.eq_nil_of_length_eq_zero lb
    subst za
    subst zb
    have fa := fr Y dx f m a b h2
    have na : a ≠ D := fun z => (fa xs).1 (by rw [z]; exact eD)
    have nb : b ≠ D := fun z => (fa xs).2 (by rw [z]; exact eD)
    exact ⟨m, dx, f, a, b, by rw [l]; exact hm, keep h2 (fun z => by rw [z, e] at h2; cases h2), fkeep h3, keep h4 na, keep h5 nb, na, nb⟩
theorem le_big {n : Nat} (h : n ≤ 100000) : n ≤ sizeLine := by rw [sizeLine_eq]; omega
theorem ext1_len (n : Nat) (ks : Pr) : (ext1 n ks).length = ((n : Int) - nxt ks).toNat := by
  unfold ext1
  rw [List.length_map, List.length_range]
theorem ext1_at (n : Nat) (ks : Pr) {j : Nat} (h : j < ((n : Int) - nxt ks).toNat) : (ext1 n ks).take (j + 1) = (ext1 n ks).take j ++ [ks ++ [nxt ks + (j : Int)]] := by
  have e : (ext1 n ks)[j]? = some (ks ++ [nxt ks + (j : Int)]) := by
    unfold ext1
    rw [List.getElem?_map, List.getElem?_range h]
    rfl
  rw [List.take_succ, e]
  rfl
theorem lev_pre (n k : Nat) {l : List Pr} (h : (l.flatMap (ext1 n)).length ≤ (lev n (k + 1)).length) (hc : TermP.cnt n (k + 1) ≤ 20000) : (l.flatMap (ext1 n)).length ≤ 20000 := by
  rw [lev_len] at h
  have : TermP.cnt n (k + 1) = TermP.cnt n k + Ch n (k + 1) := rfl
  omega
theorem cnt_up (n : Nat) : ∀ {i j : Nat}, i ≤ j → TermP.cnt n i ≤ TermP.cnt n j
  | i, 0, h => by
    have : i = 0 := by omega
    subst this
    exact Nat.le_refl _
  | i, j + 1, h => by
    by_cases e : i = j + 1
    · subst e
      exact Nat.le_refl _
    · have := cnt_up n (show i ≤ j by omega)
      show _ ≤ TermP.cnt n j + Ch n (j + 1)
      omega
theorem fm_take {n : Nat} {l : List Pr} (i : Nat) : ((l.take i).flatMap (ext1 n)).length ≤ (l.flatMap (ext1 n)).length := by
  conv => rhs; rw [← List.take_append_drop i l, List.flatMap_append, List.length_append]
  omega
theorem onP_no {row : List Int} {ks : Pr} (bits : Bits row) (ok : ∀ k ∈ ks, 0 ≤ k ∧ k < (row.length : Int)) : (inV (.int 0) ((ks.map fun k => row.getD k.toNat 0).map V.int)) = !onP row ks := by
  unfold inV onP
  rw [List.any_map, List.any_map, List.not_all_eq_any_not]
  have : ∀ k ∈ ks, (((fun y => eqV y (.int 0)) ∘ V.int) ∘ fun k : Int => row.getD k.toNat 0) k = !decide (row[k.toNat]? = some 1) := fun k hk => by
    have b := ok k hk
    have lt : k.toNat < row.length := by omega
    show (row.getD k.toNat 0 == 0) = _
    rw [List.getD_eq_getElem?_getD, List.getElem?_eq_getElem lt, Option.getD_some]
    rcases bits _ (List.getElem_mem lt) with e | e <;> rw [e] <;> rfl
  clear ok
  induction ks with
  | nil => rfl
  | cons a r ih => rw [List.any_cons, List.any_cons, this a List.mem_cons_self, ih fun k hk => this k (List.mem_cons_of_mem _ hk)]
theorem rIn_l {x : V} {D : Addr} {xs : List V} (e : H D = some (.lst xs)) (fx : flatV x = true) (fs : xs.all flatV = true) (q : Q (.bl (inV x xs)) H) : rIn K false x (.ref D) H Q := ⟨D, xs, rfl, .inl (.inl (.inl e)), fx, fs, q⟩
theorem flat_ints (l : List Int) : (l.map V.int).all flatV = true := by
  rw [List.all_map]
  exact List.all_eq_true.mpr fun _ _ => rfl
theorem onP_join (row : List Int) (a b : Pr) : onP row (join a b) = (onP row a && onP row b) := by
  unfold onP
  rw [Bool.eq_iff_iff]
  simp only [List.all_eq_true, Bool.and_eq_true]
  exact ⟨fun h => ⟨fun k hk => h k ((join_mem a b k).mpr (.inl hk)), fun k hk => h k ((join_mem a b k).mpr (.inr hk))⟩, fun h k hk => ((join_mem a b k).mp hk).elim (h.1 k) (h.2 k)⟩
theorem chi_join {F : Fd} (row : List Int) (a b : Pr) : (chi row (join a b) : Nm F) = chi row b * chi row a := by
  unfold chi
  rw [onP_join]
  cases onP row a <;> cases onP row b
  · exact (mul_zero _).symm
  · exact (mul_zero _).symm
  · exact (zero_mul _).symm
  · exact (mul_one _).symm
theorem wof_sz {F : Fd} (row : List Int) (ps : List Pr) (k : Pr) : Sz 2 200 (wv (wof F row ps) k) := by
  unfold wv
  split
  · rename_i t e
    obtain ⟨ks, _, rfl⟩ := List.mem_map.mp (List.mem_of_find?_eq_some e)
    show Sz 2 200 (chi row ks)
    unfold chi
    split
    · exact Sz.one
    · exact Sz.zero
  · exact Sz.zero
theorem isw_row {F : Fd} {n d : Nat} {ns : List (List (Tm F))} {row : List Int} (hn : n ≤ 6) (wn : ∀ r ∈ ns, Wl n r) (gr : Gr (ns.map G) [] false row = true) : IsW F n d ns (wof F row (prodsP n (min d n))) := by
  have key : ∀ ks, ks ∈ prodsP n (min d n) ↔ InP n d ks := fun ks => by
    rw [prodsP_ok]
    exact ⟨fun h => ⟨h.asc, h.bd, by have := h.le; omega⟩, fun h => h.min⟩
  refine ⟨fun ks => by rw [wof_keys, key], by rw [wof_keys]; exact prodsP_nodup _ _, wof_sz _ _, ?_, fun r hr hd ks hk => ?_⟩
  · rw [wof_at (prodsP_nodup _ _) ((key []).mpr ⟨.nil, fun k hk => (by cases hk), Nat.zero_le _⟩)]
    rfl
  · have e : tot (wv (wof F row (prodsP n (min d n)))) r ks = L (fun t => chi row ks * chi row t) r := by
      unfold tot
      refine L_congr fun t ht => ?_
      obtain ⟨o1, o2⟩ := (wn r hr).1.ok t ht
      have tn := (wn r hr).2 t ht
      have dl := deg_le ht
      have inj : InP n d (join t.1 ks) := by
        refine ⟨join_srt _ _, fun k hk' => ?_, ?_⟩
        · rcases (join_mem _ _ k).mp hk' with z | z
          · exact ⟨(o1.2 k z).1, tn k z⟩
          · exact hk.bd k z
        · have nd : (join t.1 ks).Nodup := (join_srt t.1 ks).imp fun {a b} h e => by omega
          have := List.Nodup.length_le_of_subset nd (l₂ := t.1 ++ ks) fun k hk => List.mem_append.mpr ((join_mem _ _ k).mp hk)
          rw [List.length_append] at this
          have := hk.le
          omega
      rw [wof_at (prodsP_nodup _ _) ((key _).mpr inj), chi_join]
    rw [e, L_mul]
    have : Wo r row = 0 := by
      unfold Gr at gr
      rw [Bool.and_eq_true, List.all_eq_true] at gr
      have := of_decide_eq_true (gr.1 (G r) (List.mem_map_of_mem hr))
      rw [Wo_G] at this
      exact this
    show chi row ks * Wo r row = 0
    rw [this, mul_zero]
theorem cnt_sm {n d : Nat} (hn : n ≤ 6) : TermP.cnt n d ≤ 64 := by
  have e := prods_len n (d : Nat)
  rw [Int.toNat_natCast] at e
  rw [← e]
  exact Nat.le_trans (prodsL_le _ n) (Nat.pow_le_pow_right (n := 2) (by decide) hn)
theorem fil_prod {F : Fd} {n : Nat} {q : Addr} {row : List Int} {ns us : List (List (Tm F))} {sd : Bool} (hq : ProdAt H q row) (b : Bits row) (l : row.length = n) : fil (n : Nat) ns us sd H (.ref q) = Gr ns us sd row := by
  have hb := hq.rowB b
  rw [l] at hb
  obtain ⟨q', row', e, hq', _, _, ef⟩ := rowB_at (ns := ns) (us := us) (sd := sd) hb
  cases e
  have : row' = row := by
    have hq' : H q = _ := hq'
    rw [show H q = _ from hq] at hq'
    have e := HO.tup.inj (Option.some.inj hq')
    exact ((List.map_inj_right (fun a b z => V.int.inj z)).mp e).symm
  rw [ef, this]
theorem rowOf_prod {q : Addr} {row : List Int} (hq : ProdAt H q row) : TermP.rowOf H (.ref q) = row := by
  unfold TermP.rowOf
  have e : H q = some (.tup (row.map V.int)) := hq
  simp only [e]
  rw [List.map_map]
  exact List.map_id' row
theorem dg_ok {d : Nat} (hd : d ≤ 300) : degB (.int (d : Nat)) = true := by
  show (decide ((0 : Int) ≤ (d : Nat)) && decide (((d : Nat) : Int) ≤ 300)) = true
  rw [decide_eq_true (show (0 : Int) ≤ (d : Nat) by omega), decide_eq_true (show ((d : Nat) : Int) ≤ 300 by omega)]
  rfl
theorem d_eq {d d' : Nat} (e : V.int (d : Nat) = V.int (d' : Nat)) : d = d' := by
  have := V.int.inj e
  omega
end
end TermP
namespace TermP
open PySem PySem.Spec PyProof.Rows L2 Rf NumP NumF SumP
section
variable {K : Frag} {vs : List V} {H : Hp} {Q : VK} {E : XK}
/-- a row without its last place -/
theorem cut_last {q : Addr} {row : List Int} (hq : ProdAt H q row) (h1 : 1 ≤ row.length) (h : ∀ t H', Rf.Kp H H' → ProdAt H' t (row.take (row.length - 1)) → Q (.ref t) H') : rSl K (.ref q) none (some (-1)) H Q := by
  have e1 : HT.sIx (row.map V.int).length (row.map V.int).length (some (-1)) = row.length - 1 := by
    rw [List.length_map]
    show (if (-1 : Int) < 0 then ((-1 : Int) + (row.length : Int)).toNat else min ((-1 : Int)).toNat row.length) = _
    rw [if_pos (by decide)]
    omega
  refine .inr (.inl ⟨q, _, rfl, .inl (.inl hq), fun z => ?_, fun _ p hp => ?_⟩)
  · have := e1.symm.trans z.2
    rw [List.length_map] at this
    omega
  · refine h p _ (Rf.Kp.new hp) ?_
    show upd H p _ p = _
    rw [upd_same]
    unfold cutV
    rw [e1, HT.sIx_none, List.drop_zero, List.map_take, Nat.sub_zero]
/-- one tuple behind the other -/
theorem cat_any {a b : Addr} {xs ys : List V} (ha : H a = some (.tup xs)) (hb : H b = some (.tup ys)) (hl : xs.length + ys.length ≤ 3000) (ny : ys ≠ []) (h : ∀ q' H', Rf.Kp H H' → H' q' = some (.tup (xs ++ ys)) → Q (.ref q') H') : rCatA K (.ref a) (.ref b) H Q := by
  refine ⟨a, b, _, _, rfl, rfl, .inl (.inl ha), .inl (.inl hb), le_line hl, fun e => ?_, fun _ e => absurd e ny, fun _ _ p hp => h p _ (Rf.Kp.new hp) upd_same⟩
  subst e
  exact h b H (Rf.Kp.refl H) hb
/-- (v,) * n -/
theorem rep_n {z : Addr} {v : Int} {n : Nat} {i : Int} (ei : i = (n : Nat)) (h1 : 2 ≤ n) (h2 : n ≤ 1000) (hz : H z = some (.tup [.int v])) (h : ∀ q H', Rf.Kp H H' → ProdAt H' q (List.replicate n v) → Q (.ref q) H') : rBin K .Mult (.ref z) (.int i) H Q := by
  subst ei
  refine .inr (.inl ⟨z, (n : Nat), _, rfl, rfl, .inl (.inl hz), by simp, by omega, by omega, by show 1 ≤ 1000; decide, fun p hp => h p _ (Rf.Kp.new hp) ?_⟩)
  have er : ∀ m : Nat, (List.replicate m [V.int v]).flatten = (List.replicate m v).map V.int := fun m => by
    induction m with
    | zero => rfl
    | succ m ih => rw [List.replicate_succ, List.flatten_cons, ih]; rfl
  show upd H p _ p = _
  rw [upd_same, Int.toNat_natCast, er]
theorem bits_rep {n : Nat} {v : Int} (h : v = 0 ∨ v = 1) : Bits (List.replicate n v) := fun x hx => by rw [List.eq_of_mem_replicate hx]; exact h
theorem bad_ext {n : Nat} {H' : Hp} {v : V} (h : Bad n H v) (k : LamX.ExtN H H') : Bad n H' v := by
  obtain ⟨⟨h1, h2⟩, h3⟩ := h
  cases v with
  | ref q =>
    obtain ⟨o, t, e, ko⟩ := id h1
    have e' := k _ _ e (fun ps z => by subst z; cases ko)
    refine ⟨⟨h1.ext k, fun q' xs eq hx => ?_⟩, ?_⟩
    · cases eq
      rw [e'] at hx
      cases hx
      obtain ⟨a, b⟩ := h2 q xs rfl e
      exact ⟨a, fun x hx => (b x hx).ext k⟩
    · have h3' : rowR (n : Nat) (H q) = false := h3
      show rowR (n : Nat) (H' q) = false
      rw [e']
      rw [e] at h3'
      exact h3'
  | _ => exact ⟨⟨h1.ext k, fun q xs e => by cases e⟩, h3⟩
/-! a room that changes -/
variable {F : Fd}
theorem FieldAt.kx {C f r : Addr} {p : Int} {H' : Hp} (h : FieldAt C H f p) (hr : RoomAt H r) (k : KpX r H H') : FieldAt C H' f p := by
  obtain ⟨d, e⟩ := h
  obtain ⟨x, y, er, _⟩ := hr
  exact ⟨d, k _ _ (fun z => by rw [z, er] at e; cases e) e⟩
theorem TermsAt.kr {a r : Addr} {l : List (Tm F)} {H' : Hp} (h : TermsAt H a l) (hr : RoomAt H r) (k : KpX r H H') : TermsAt H' a l := h.kx hr (terms_ne h hr) k
theorem SumAt.kr {C S s r : Addr} {l : List (Tm F)} {H' : Hp} (h : SumAt C S H s F l) (hr : RoomAt H r) (k : KpX r H H') : SumAt C S H' s F l := by
  obtain ⟨d, f, a, e, h1, h2⟩ := h
  refine ⟨d, f, a, k _ _ (fun z => ?_) e, h1.kx hr k, h2.kr hr k⟩
  obtain ⟨x, y, er, _⟩ := hr
  rw [z, er] at e
  cases e
theorem refs_ne {a r : Addr} {ss : List Addr} (h : H a = some (.lst (ss.map V.ref))) (hr : RoomAt H r) : a ≠ r := by
  rintro rfl
  obtain ⟨x, y, e', _⟩ := hr
  rw [h] at e'
  have e2 : ss.map V.ref = [.int x, .int y] := HO.lst.inj (Option.some.inj e')
  cases ss with
  | nil => cases e2
  | cons a b => rw [List.map_cons] at e2; cases (List.cons.inj e2).1
theorem SumsAt.kr {C S a r : Addr} {ls : List (List (Tm F))} {H' : Hp} (h : SumsAt C S H a F ls) (hr : RoomAt H r) (k : KpX r H H') : SumsAt C S H' a F ls := by
  obtain ⟨ss, e, l, g⟩ := h
  exact ⟨ss, k _ _ (refs_ne e hr) e, l, fun i h h' => (g i h h').kr hr k⟩
theorem TListsAt.kr {a r : Addr} {ls : List (List (Tm F))} {H' : Hp} (h : TListsAt H a ls) (hr : RoomAt H r) (k : KpX r H H') : TListsAt H' a ls := by
  obtain ⟨ss, e, l, g⟩ := h
  exact ⟨ss, k _ _ (refs_ne e hr) e, l, fun i h h' => (g i h h').kr hr k⟩
theorem SysAt.kr {C S Y s r : Addr} {n : Int} {ns us : List (List (Tm F))} {H' : Hp} (h : SysAt C S Y H s F n ns us) (hr : RoomAt H r) (k : KpX r H H') : SysAt C S Y H' s F n ns us := by
  obtain ⟨⟨dx, f, a, b, h1, h2, h3, h4⟩, h5, h6, h8, h7⟩ := h
  refine ⟨⟨dx, f, a, b, k _ _ (fun z => ?_) h1, h2.kx hr k, h3.kr hr k, h4.kr hr k⟩, h5, h6, h8, h7⟩
  obtain ⟨x, y, er, _⟩ := hr
  rw [z, er] at h1
  cases h1
theorem RoomAt.ext {r : Addr} {H' : Hp} (h : RoomAt H r) (e : LamX.ExtN H H') : RoomAt H' r := by
  obtain ⟨l, m, h1, q⟩ := h
  exact ⟨l, m, e _ _ h1 (fun _ z => by cases z), q⟩
theorem ext_kx {r : Addr} {H0 H' : Hp} (e : LamX.ExtN H0 H) (n : H0 r = none) (k : KpX r H H') : LamX.ExtN H0 H' := fun b o h t => k b o (fun z => by rw [z, n] at h; cases h) (e b o h t)
theorem Tabs_kx {T : List (Addr × Str)} {r : Addr} {H' : Hp} (h : LamX.Tabs T H) (hr : RoomAt H r) (k : KpX r H H') : LamX.Tabs T H' := by
  obtain ⟨x, y, er, _⟩ := hr
  intro p hp
  obtain ⟨ps, e1, e2, e3⟩ := h p hp
  have ne : ∀ {b : Addr} {u : HO}, H b = some u → (∀ xs, u ≠ .lst xs) → H' b = some u := fun {b u} e n => k b u (fun z => by rw [z, er] at e; cases e; exact n _ rfl) e
  refine ⟨ps, ne e1 (fun _ z => by cases z), e2, fun pos cv hc => ?_⟩
  obtain ⟨c, e4, e5⟩ := e3 pos cv hc
  exact ⟨c, e4, ne e5 (fun _ z => by cases z)⟩
end
end TermP
/-! terms whose numbers may stand at the top; products and brackets of any things -/
namespace TermP
open PySem PySem.Spec PyProof.Rows L2 Rf NumP NumF SumP
variable {F : Fd} {K : Frag} {H H' : Hp}
/-! ### terms with numbers of the top -/
structure NumG (K : Frag) (H : Hp) (q : Addr) (a : Nm F) : Prop where
  k : NumK K H q a
  t : TyT K H q
theorem NumAt.gg {q : Addr} {a : Nm F} (h : NumAt H q a) : NumG K H q a := ⟨h.k, .inl ⟨_, h⟩⟩
theorem NumG.ext {q : Addr} {a : Nm F} (h : NumG K H q a) (e : LamX.ExtN H H') : NumG K H' q a := ⟨h.k.ext e, h.t.ext e⟩
def TrG (K : Frag) (H : Hp) (r : Tr F) : Prop := H r.τ = some (.tup [.ref r.π, .ref r.q]) ∧ ProdAt H r.π r.t.1 ∧ NumG K H r.q r.t.2
def TermsG (K : Frag) (H : Hp) (a : Addr) (l : List (Tm F)) : Prop := ∃ rs : List (Tr F), H a = some (.lst (vsOf rs)) ∧ (∀ r ∈ rs, TrG K H r) ∧ tmOf rs = l
theorem TrAt.gg {r : Tr F} (h : TrAt H r) : TrG K H r := ⟨h.1, h.2.1, h.2.2.gg⟩
theorem TermsAt.gg {a : Addr} {l : List (Tm F)} (h : TermsAt H a l) : TermsG K H a l := by
  obtain ⟨rs, h1, h2, h3⟩ := h
  exact ⟨rs, h1, fun r hr => (h2 r hr).gg, h3⟩
theorem TrG.ext {r : Tr F} (h : TrG K H r) (e : LamX.ExtN H H') : TrG K H' r := ⟨e _ _ h.1 (fun _ z => by cases z), e _ _ h.2.1 (fun _ z => by cases z), h.2.2.ext e⟩
theorem TermsG.ext {a : Addr} {l : List (Tm F)} (h : TermsG K H a l) (e : LamX.ExtN H H') : TermsG K H' a l := by
  obtain ⟨rs, h1, h2, h3⟩ := h
  exact ⟨rs, e _ _ h1 (fun _ z => by cases z), fun r hr => (h2 r hr).ext e, h3⟩
theorem TermsG.kp {a : Addr} {l : List (Tm F)} (h : TermsG K H a l) (e : Rf.Kp H H') : TermsG K H' a l := h.ext (Kp.ext e)
theorem TermsG.at {a : Addr} {l : List (Tm F)} (h : TermsG K H a l) : ∃ rs : List (Tr F), H a = some (.lst (vsOf rs)) ∧ rs.length = l.length ∧ ∀ i v, (vsOf rs)[i]? = some v → ∃ r : Tr F, v = .ref r.τ ∧ TrG K H r ∧ l[i]? = some r.t ∧ r.t ∈ l ∧ l.take (i + 1) = l.take i ++ [r.t] := by
  obtain ⟨rs, e, h1, rfl⟩ := h
  refine ⟨rs, e, (List.length_map ..).symm, fun i v hv => ?_⟩
  obtain ⟨r, er, hr, rfl⟩ := vs_get hv
  have eg : (tmOf rs)[i]? = some r.t := by
    unfold tmOf
    rw [List.getElem?_map, er]
    rfl
  exact ⟨r, rfl, h1 r hr, eg, List.mem_map_of_mem hr, by rw [List.take_succ, eg]; rfl⟩
theorem NumG.setI {q x : Addr} {a : Nm F} {C d : Addr} {fs : List (Str × V)} {o : HO} (h : NumG K H q a) (hx : H x = some (.ins C d fs)) : NumG K (upd H x o) q a := by
  refine ⟨?_, ?_⟩
  · rcases h.k with (h | ⟨u, h⟩) | h
    · exact .inl (.inl (by rw [upd_ne (fun z => by rw [z, hx] at h; cases h)]; exact h))
    · exact .inl (.inr ⟨u, by rw [upd_ne (fun z => by rw [z, hx] at h; cases h)]; exact h⟩)
    · exact .inr h
  · rcases h.t with ⟨xs, h⟩ | h
    · exact .inl ⟨xs, by rw [upd_ne (fun z => by rw [z, hx] at h; cases h)]; exact h⟩
    · exact .inr h
theorem TermsG.set {a x : Addr} {C d : Addr} {fs : List (Str × V)} {o : HO} {l : List (Tm F)} (h : TermsG K H a l) (hx : H x = some (.ins C d fs)) : TermsG K (upd H x o) a l := by
  have ne : ∀ {b : Addr} {u : HO}, H b = some u → (∀ C d fs, u ≠ .ins C d fs) → upd H x o b = some u := fun {b u} e n => by
    rw [upd_ne (fun z => by rw [z, hx] at e; cases e; exact n _ _ _ rfl)]
    exact e
  obtain ⟨rs, h1, h2, h3⟩ := h
  exact ⟨rs, ne h1 (fun _ _ _ z => by cases z), fun r hr => ⟨ne (h2 r hr).1 (fun _ _ _ z => by cases z), ne (h2 r hr).2.1 (fun _ _ _ z => by cases z), (h2 r hr).2.2.setI hx⟩, h3⟩
/-! ### products of things -/
def plB : V → Bool
  | .int i => decide (0 ≤ i) && decide (i < 60)
  | _ => false
def ascB : Int → List V → Bool
  | _, [] => true
  | last, x :: r => plB x && (match x with
    | .int i => decide (last < i) && ascB i r
    | _ => false)
def prodR : Option HO → Bool
  | some (.tup xs) => ascB (-1) xs
  | _ => false
def prodB (H : Hp) (v : V) : Bool := match v with
  | .ref q => prodR (H q)
  | _ => false
def itemsR : Option HO → List V
  | some (.tup xs) => xs
  | _ => []
def itemsOf (H : Hp) (v : V) : List V := match v with
  | .ref q => itemsR (H q)
  | _ => []
/-- a thing, its items things if it is a tuple -/
def ThS (H : Hp) (v : V) : Prop := Th H v ∧ ∀ q xs, v = .ref q → H q = some (.tup xs) → xs.length ≤ 60 ∧ ∀ x ∈ xs, Th H x
def brR (H : Hp) : Option HO → Bool
  | some (.tup [a, b]) => prodB H a && (prodB H b && ((itemsOf H a).filter fun x => inV x (itemsOf H b)).isEmpty)
  | _ => false
def brB (H : Hp) (v : V) : Bool := match v with
  | .ref q => brR H (H q)
  | _ => false
def BrTh (H : Hp) (v : V) : Prop := Th H v ∧ ∀ q xs, v = .ref q → H q = some (.tup xs) → xs.length ≤ 60 ∧ ∀ a b, xs = [a, b] → ThS H a ∧ ThS H b
theorem asc_ints : ∀ (ns : List Int) (l : Int), ascB l (ns.map V.int) = (decide (ns.Pairwise (· < ·)) && (decide (∀ k ∈ ns, l < k) && decide (∀ k ∈ ns, 0 ≤ k ∧ k < 60)))
  | [], l => by simp [ascB]
  | k :: r, l => by
    have ih := asc_ints r k
    show (plB (.int k) && (decide (l < k) && ascB k (r.map V.int))) = _
    rw [ih]
    show ((decide (0 ≤ k) && decide (k < 60)) && _) = _
    rw [Bool.eq_iff_iff]
    simp only [Bool.and_eq_true, decide_eq_true_eq, List.pairwise_cons, List.forall_mem_cons]
    constructor
    · rintro ⟨⟨a, b⟩, c, d, e, f⟩
      exact ⟨⟨e, d⟩, ⟨c, fun x hx => Int.lt_trans c (e x hx)⟩, ⟨a, b⟩, f⟩
    · rintro ⟨⟨e, d⟩, ⟨c, _⟩, ⟨a, b⟩, f⟩
      exact ⟨⟨a, b⟩, c, d, e, f⟩
theorem asc_all : ∀ {xs : List V} {l : Int}, ascB l xs = true → ∃ ns : List Int, xs = ns.map V.int
  | [], _, _ => ⟨[], rfl⟩
  | x :: r, l, h => by
    have h : (plB x && (match (generalizing := false) x with | .int i => decide (l < i) && ascB i r | _ => false)) = true := h
    rw [Bool.and_eq_true] at h
    cases x with
    | int i =>
      have h2 : (decide (l < i) && ascB i r) = true := h.2
      rw [Bool.and_eq_true] at h2
      obtain ⟨ns, e⟩ := asc_all h2.2
      exact ⟨i :: ns, by rw [e]; rfl⟩
    | _ => exact absurd h.2 Bool.false_ne_true
theorem asc_ok {xs : List V} (h : ascB (-1) xs = true) : ∃ ks : Pr, xs = ks.map V.int ∧ PrOk ks := by
  obtain ⟨ns, rfl⟩ := asc_all h
  rw [asc_ints] at h
  simp only [Bool.and_eq_true, decide_eq_true_eq] at h
  exact ⟨ns, rfl, h.1, h.2.2⟩
theorem asc_of {ks : Pr} (h : PrOk ks) : ascB (-1) (ks.map V.int) = true := by
  rw [asc_ints]
  simp only [Bool.and_eq_true, decide_eq_true_eq]
  exact ⟨h.1, fun k hk => by have := h.2 k hk; omega, h.2⟩
theorem prodB_ok {v : V} (h : prodB H v = true) : ∃ (q : Addr) (ks : Pr), v = .ref q ∧ ProdAt H q ks ∧ PrOk ks := by
  cases v with
  | ref q =>
    have h : prodR (H q) = true := h
    cases e : H q with
    | none => rw [e] at h; cases h
    | some o =>
      cases o with
      | tup xs =>
        rw [e] at h
        obtain ⟨ks, rfl, ok⟩ := asc_ok h
        exact ⟨q, ks, rfl, e, ok⟩
      | _ => rw [e] at h; cases h
  | _ => cases h
theorem ProdAt.prodB {q : Addr} {ks : Pr} (h : ProdAt H q ks) (ok : PrOk ks) : TermP.prodB H (.ref q) = true := by
  show prodR (H q) = true
  rw [show H q = _ from h]
  exact asc_of ok
theorem ThS.ext {v : V} (h : ThS H v) (e : LamX.ExtN H H') : ThS H' v := by
  obtain ⟨h1, h2⟩ := h
  refine ⟨h1.ext e, fun q xs ev hx => ?_⟩
  subst ev
  obtain ⟨o, t, eo, ko⟩ := id h1
  have e' := e _ _ eo (fun ps z => by subst z; cases ko)
  rw [e'] at hx
  cases hx
  obtain ⟨a, b⟩ := h2 q xs rfl eo
  exact ⟨a, fun x hx => (b x hx).ext e⟩
theorem th_same {q : Addr} (h : Th H (.ref q)) (e : LamX.ExtN H H') : H' q = H q := by
  obtain ⟨o, t, eo, ko⟩ := h
  rw [eo, e _ _ eo (fun ps z => by subst z; cases ko)]
theorem prodB_ext {v : V} (h : Th H v) (e : LamX.ExtN H H') : prodB H' v = prodB H v := by
  cases v with
  | ref q =>
    show prodR (H' q) = prodR (H q)
    rw [th_same h e]
  | _ => rfl
theorem items_ext {v : V} (h : Th H v) (e : LamX.ExtN H H') : itemsOf H' v = itemsOf H v := by
  cases v with
  | ref q =>
    show itemsR (H' q) = itemsR (H q)
    rw [th_same h e]
  | _ => rfl
theorem BrTh.ext {v : V} (h : BrTh H v) (e : LamX.ExtN H H') : BrTh H' v := by
  obtain ⟨h1, h2⟩ := h
  refine ⟨h1.ext e, fun q xs ev hx => ?_⟩
  subst ev
  rw [th_same h1 e] at hx
  obtain ⟨a, b⟩ := h2 q xs rfl hx
  exact ⟨a, fun x y exy => ⟨(b x y exy).1.ext e, (b x y exy).2.ext e⟩⟩
theorem brB_ext {v : V} (h : BrTh H v) (e : LamX.ExtN H H') : brB H' v = brB H v := by
  cases v with
  | ref q =>
    show brR H' (H' q) = brR H (H q)
    rw [th_same h.1 e]
    cases eo : H q with
    | none => rfl
    | some o =>
      cases o with
      | tup xs =>
        match xs, eo with
        | [a, b], eo =>
          obtain ⟨ha, hb⟩ := (h.2 q _ rfl eo).2 a b rfl
          show (prodB H' a && (prodB H' b && _)) = (prodB H a && (prodB H b && _))
          rw [prodB_ext ha.1 e, prodB_ext hb.1 e, items_ext ha.1 e, items_ext hb.1 e]
        | [], _ => rfl
        | [_], _ => rfl
        | _ :: _ :: _ :: _, _ => rfl
      | _ => rfl
  | _ => rfl
/-! ### promises -/
def spNumG (K : Frag) (C : Addr) : Sp := fun vs H Q E => spNum C vs H Q E ∨ ∃ (f q : Addr) (F : Fd) (c : Nm F), vs = [.ref f, .ref q] ∧ FieldAt C H f F.p ∧ NumG K H q c ∧ Bd 2000 c.t ∧ Bd 2000 c.b ∧ ∀ H', Rf.Kp H H' → Q (.bl true) H'
def spLookG (K : Frag) (C : Addr) : Sp := fun vs H Q _ => ∃ (f a : Addr) (F : Fd) (l : List (Tm F)), vs = [.ref f, .ref a] ∧ FieldAt C H f F.p ∧ TermsG K H a l ∧ Wg l ∧ ∀ H', Rf.Kp H H' → Q .non H'
def spGathG (K : Frag) (T : List (Addr × Str)) (C : Addr) : Sp := fun vs H Q _ => ∃ (f a : Addr) (F : Fd) (l : List (Tm F)), vs = [.ref f, .ref a] ∧ FieldAt C H f F.p ∧ TermsG K H a l ∧ Wg l ∧ LamX.Tabs T H ∧ ∀ r H', LamX.ExtN H H' → LamX.Tabs T H' → TermsAt H' r (G l) → (∀ xs, H r ≠ some (.lst xs)) → Q (.ref r) H'
def spSInitG (K : Frag) (T : List (Addr × Str)) (C S : Addr) : Sp := fun vs H Q _ => ∃ (x f a dx : Addr) (F : Fd) (l : List (Tm F)), vs = [.ref x, .ref f, .ref a] ∧ H x = some (.ins S dx []) ∧ FieldAt C H f F.p ∧ TermsG K H a l ∧ Wg l ∧ LamX.Tabs T H ∧ ∀ H', ExtX x H H' → LamX.Tabs T H' → SumAt C S H' x F (G l) → FreshL H H' x → Q .non H'
def spPlaceT : Sp := fun vs H Q _ => ∃ v : V, vs = [v] ∧ Th H v ∧ Q (.bl (plB v)) H
def spProdT : Sp := fun vs H Q _ => ∃ v : V, vs = [v] ∧ ThS H v ∧ Q (.bl (prodB H v)) H
def spBracket : Sp := fun vs H Q _ => ∃ v : V, vs = [v] ∧ BrTh H v ∧ ∀ H', Rf.Kp H H' → Q (.bl (brB H v)) H'
def spLIsProd : Sp := fun vs H Q _ => ∃ v : V, vs = [v] ∧ ThS H v ∧ ∀ H', Rf.Kp H H' → Q (.bl (prodB H v)) H'
/-- Sum(field, terms) -/
theorem mk_sumG {T : List (Addr × Str)} {C S f a : Addr} {l : List (Tm F)} {Q : VK} {E : XK} (hF : FieldAt C H f F.p) (hT : TermsG K H a l) (hw : Wg l) (tb : LamX.Tabs T H) (k : ∀ s H', LamX.ExtN H H' → LamX.Tabs T H' → SumAt C S H' s F (G l) → Q (.ref s) H') :
    ∀ x dx, H x = none → H dx = none → dx ≠ x → spSInitG K T C S [.ref x, .ref f, .ref a] (upd (upd H dx (.own x)) x (.ins S dx [])) (fun v H2 => v = .non ∧ Q (.ref x) H2) E := fun x dx hx hdx ne => by
  have kp : Rf.Kp H (upd (upd H dx (.own x)) x (.ins S dx [])) := (Rf.Kp.new hdx).trans (Rf.Kp.new (by rw [upd_ne (Ne.symm ne)]; exact hx))
  exact ⟨x, f, a, dx, F, l, rfl, upd_same, hF.kp kp, hT.kp kp, hw, LamX.Tabs.ext tb kp, fun H' e t s _ => ⟨rfl, k x H' (ext_new kp hx e) t s⟩⟩
theorem mk_sumGF {T : List (Addr × Str)} {C S f a : Addr} {l : List (Tm F)} {Q : VK} {E : XK} (hF : FieldAt C H f F.p) (hT : TermsG K H a l) (hw : Wg l) (tb : LamX.Tabs T H) (k : ∀ s H', LamX.ExtN H H' → LamX.Tabs T H' → SumAt C S H' s F (G l) → FreshL H H' s → Q (.ref s) H') :
    ∀ x dx, H x = none → H dx = none → dx ≠ x → spSInitG K T C S [.ref x, .ref f, .ref a] (upd (upd H dx (.own x)) x (.ins S dx [])) (fun v H2 => v = .non ∧ Q (.ref x) H2) E := fun x dx hx hdx ne => by
  have kp : Rf.Kp H (upd (upd H dx (.own x)) x (.ins S dx [])) := (Rf.Kp.new hdx).trans (Rf.Kp.new (by rw [upd_ne (Ne.symm ne)]; exact hx))
  exact ⟨x, f, a, dx, F, l, rfl, upd_same, hF.kp kp, hT.kp kp, hw, LamX.Tabs.ext tb kp, fun H' e t s fr => ⟨rfl, k x H' (ext_new kp hx e) t s (fr.back (Kp.ext kp))⟩⟩
/-! ### lists beside the empty one -/
theorem eq_nil {Γ : Gam} {Q : VK} {D e : Addr} {xs : List V} (hD : H D = some (.lst xs)) (he : H e = some (.lst [])) (q : Q (.bl xs.isEmpty) H) : rEqG Γ K (.ref D) (.ref e) H Q := by
  cases xs with
  | nil => exact .inr (.inl ⟨.list [], .list [], .lst (.inl (.inl hD)) .nil, .lst (.inl (.inl he)) .nil, rfl, rfl, q⟩)
  | cons x r => exact .inl (.inr ⟨D, e, _, _, rfl, rfl, .inl (.inl hD), .inl (.inl he), fun z => (by cases z), q⟩)
theorem ne_nil {Γ : Gam} {Q : VK} {D e : Addr} {xs : List V} (hD : H D = some (.lst xs)) (he : H e = some (.lst [])) (q : Q (.bl (!xs.isEmpty)) H) : rNeG Γ K (.ref D) (.ref e) H Q := by
  cases xs with
  | nil => exact .inr (.inl ⟨.list [], .list [], .lst (.inl (.inl hD)) .nil, .lst (.inl (.inl he)) .nil, rfl, rfl, q⟩)
  | cons x r => exact .inl (.inr ⟨D, e, _, _, rfl, rfl, .inl (.inl hD), .inl (.inl he), fun z => (by cases z), q⟩)
theorem rIn_t {Q : VK} {x : V} {p : Addr} {xs : List V} (e : SqT K H p xs) (fx : flatV x = true) (fs : xs.all flatV = true) (q : Q (.bl (inV x xs)) H) : rIn K false x (.ref p) H Q := ⟨p, xs, rfl, .inr e, fx, fs, q⟩
theorem shapeLI (r : List Int) : SeqAt.shaped (.list (r.map .int)) = true := by
  simp [SeqAt.shaped, PyData.canLay0, PyData.depth, PySem.W.ke_canLayAll0, PySem.W.ke_depthAll]
theorem eqvLI (xs ys : List Int) : PyData.eqv (.list (xs.map .int)) (.list (ys.map .int)) = decide (xs = ys) := by
  simp only [PyData.eqv]
  exact eqvI xs ys
/-! ### what a bracket is worth -/
abbrev F0 : Fd := ⟨0, .inl rfl⟩
theorem chi_join' (row : List Int) (a b : Pr) : (chi row (join a b) : Nm F) = chi row a * chi row b := by
  unfold chi
  rw [onP_join]
  cases onP row a <;> cases onP row b
  · exact (mul_zero _).symm
  · exact (zero_mul _).symm
  · exact (mul_zero _).symm
  · exact (mul_one _).symm
theorem Wo_mul (a b : List (Tm F)) (row : List Int) : Wo (mul a b) row = Wo a row * Wo b row := by
  unfold Wo
  rw [mul_L]
  have : (fun x => L (fun y => chi row (join x y)) b) = fun x => L (chi row) b * chi row x := by
    funext x
    rw [show (fun y => (chi row (join x y) : Nm F)) = fun y => chi row x * chi row y from funext fun y => chi_join' row x y, L_mul, mul_comm]
  rw [this, L_mul, mul_comm]
/-- 1 less a place -/
def lack (k : Int) : List (Tm F0) := [([], 1), ([k], ⟨-1, 1, by show N0 (-1) 1; exact ⟨by decide, by decide⟩⟩)]
def brT (held lacked : Pr) : List (Tm F0) := lacked.foldl (fun l k => G (mul l (lack k))) (G [(held, 1)])
/-- one more sum told by a def -/
theorem made_step2 {T : List (Addr × Str)} {F : Fd} {C S D x : Addr} {H2 H3 : Hp} {ls : List (List (Tm F))} {l : List (Tm F)} (hS : SLs C S H2 D ls)
    (e23 : LamX.ExtN H2 H3) (t3 : LamX.Tabs T H3) (S3 : SumAt C S H3 x F l) (fr : FreshL H2 H3 x) :
    ∃ acc, H3 D = some (.lst acc) ∧ acc.length = ls.length ∧ LamX.Tabs T (upd H3 D (.lst (acc ++ [.ref x]))) ∧ SLs C S (upd H3 D (.lst (acc ++ [.ref x]))) D (ls ++ [l]) := by
  obtain ⟨ss, eD, _⟩ := id hS
  obtain ⟨d, f, a, ex, h1, h2⟩ := id S3
  have na : a ≠ D := fun z => fr S d f a ex _ (by rw [z]; exact eD)
  obtain ⟨acc, e, la, h⟩ := (hS.ext e23).push S3 ex na
  exact ⟨acc, e, la, tabs_setL t3 e, h⟩
theorem SumsAt.nil {C S a : Addr} {F : Fd} (h : H a = some (.lst [])) : SumsAt C S H a F [] := ⟨[], h, rfl, fun i hi => absurd hi (Nat.not_lt_zero i)⟩
/-- lists of sums, one behind the other -/
theorem SumsAt.cat {C S a b : Addr} {F : Fd} {ns ms : List (List (Tm F))} (h : SumsAt C S H a F ns) (g : SumsAt C S H b F ms) : ∃ xs zs : List V, H a = some (.lst xs) ∧ H b = some (.lst zs) ∧ xs.length = ns.length ∧ zs.length = ms.length ∧
    ∀ {H' : Hp} {c : Addr}, LamX.ExtN H H' → H' c = some (.lst (xs ++ zs)) → SumsAt C S H' c F (ns ++ ms) := by
  obtain ⟨ss, e1, l1, g1⟩ := h
  obtain ⟨ts, e2, l2, g2⟩ := g
  refine ⟨_, _, e1, e2, by rw [List.length_map, l1], by rw [List.length_map, l2], fun {H' c} e ec => ⟨ss ++ ts, by rw [ec, List.map_append], by rw [List.length_append, List.length_append, l1, l2], fun i hi hi' => ?_⟩⟩
  by_cases c : i < ss.length
  · rw [List.getElem_append_left c, List.getElem_append_left (by omega)]
    exact (g1 i c (by omega)).ext e
  · rw [List.getElem_append_right (by omega), List.getElem_append_right (by omega)]
    simp only [l1]
    have hi2 : i - ns.length < ts.length := by
      rw [List.length_append] at hi
      omega
    exact (g2 (i - ns.length) hi2 (by omega)).ext e
/-- the other way about -/
theorem SumsAt.rev {C S a : Addr} {F : Fd} {ns : List (List (Tm F))} (h : SumsAt C S H a F ns) : ∃ xs : List V, H a = some (.lst xs) ∧ xs.length = ns.length ∧ ∀ {H' : Hp} {c : Addr}, LamX.ExtN H H' → H' c = some (.lst xs.reverse) → SumsAt C S H' c F ns.reverse := by
  obtain ⟨ss, e1, l1, g1⟩ := h
  refine ⟨_, e1, by rw [List.length_map, l1], fun {H' c} e ec => ⟨ss.reverse, by rw [ec, List.map_reverse], by rw [List.length_reverse, List.length_reverse, l1], fun i hi hi' => ?_⟩⟩
  rw [List.getElem_reverse, List.getElem_reverse]
  rw [List.length_reverse] at hi
  simp only [l1]
  exact (g1 (ns.length - 1 - i) (by omega) (by omega)).ext e
/-- a list of sums in the making, their rows none of the lists X -/
def SLx {F : Fd} (C S : Addr) (X : List Addr) (H : Hp) (D : Addr) (ls : List (List (Tm F))) : Prop := ∃ ss : List Addr, H D = some (.lst (ss.map V.ref)) ∧ ss.length = ls.length ∧ (∀ i (h : i < ss.length) (h' : i < ls.length), SumAt C S H ss[i] F ls[i]) ∧ ∀ s ∈ ss, ∃ d f a, H s = some (.ins S d (sumF f a)) ∧ a ∉ D :: X
theorem SLx.out {F : Fd} {C S D : Addr} {X : List Addr} {ls : List (List (Tm F))} (h : SLx C S X H D ls) : SumsAt C S H D F ls := by
  obtain ⟨ss, e, l, g, _⟩ := h
  exact ⟨ss, e, l, g⟩
theorem SLx.nil {F : Fd} {C S D : Addr} {X : List Addr} (h : H D = some (.lst [])) : SLx (F := F) C S X H D [] := ⟨[], h, rfl, fun i h => absurd h (Nat.not_lt_zero i), fun b h => by cases h⟩
theorem SLx.ext {F : Fd} {C S D : Addr} {X : List Addr} {H' : Hp} {ls : List (List (Tm F))} (h : SLx C S X H D ls) (e : LamX.ExtN H H') : SLx C S X H' D ls := by
  obtain ⟨ss, h1, h2, h3, h4⟩ := h
  exact ⟨ss, e _ _ h1 (fun _ z => by cases z), h2, fun i h h' => (h3 i h h').ext e, fun s hs => by
    obtain ⟨d, f, a, h5, h6⟩ := h4 s hs
    exact ⟨d, f, a, e _ _ h5 (fun _ z => by cases z), h6⟩⟩
theorem SLx.push {F : Fd} {C S D x d f a : Addr} {X : List Addr} {ls : List (List (Tm F))} {l : List (Tm F)} (h : SLx C S X H D ls) (hl : SumAt C S H x F l) (ex : H x = some (.ins S d (sumF f a))) (n : a ∉ D :: X) : ∃ acc, H D = some (.lst acc) ∧ acc.length = ls.length ∧ SLx C S X (upd H D (.lst (acc ++ [.ref x]))) D (ls ++ [l]) := by
  obtain ⟨ss, e, le, g, m⟩ := h
  have nD : ∀ {b : Addr}, b ∉ D :: X → b ≠ D := fun {b} hb z => hb (by rw [z]; exact List.mem_cons_self)
  refine ⟨_, e, by rw [List.length_map, le], ss ++ [x], by rw [upd_same, List.map_append]; rfl, by rw [List.length_append, List.length_append, le]; rfl, fun i hi hi' => ?_, fun b hb => ?_⟩
  · by_cases c : i < ss.length
    · rw [List.getElem_append_left c, List.getElem_append_left (by omega)]
      obtain ⟨d', f', a', e', n'⟩ := m _ (List.getElem_mem c)
      exact (sum_setL (g i c (by omega)) e' e (nD n')).1
    · have : i = ss.length := by
        rw [List.length_append] at hi
        simp at hi
        omega
      subst this
      rw [List.getElem_append_right (Nat.le_refl _), List.getElem_append_right (by omega)]
      simp only [Nat.sub_self, le]
      exact (sum_setL hl ex e (nD n)).1
  · rcases List.mem_append.mp hb with hb | hb
    · obtain ⟨d', f', a', e', n'⟩ := m b hb
      exact ⟨d', f', a', by rw [upd_ne (fun z => by rw [z, e] at e'; cases e')]; exact e', n'⟩
    · rw [List.mem_singleton.mp hb]
      exact ⟨d, f, a, (sum_setL hl ex e (nD n)).2, n⟩
/-- one more sum, told by a def; the lists X stood ahead of it -/
theorem made_stepX {T : List (Addr × Str)} {F : Fd} {C S D x : Addr} {X : List Addr} {H2 H3 : Hp} {ls : List (List (Tm F))} {l : List (Tm F)} (hS : SLx C S X H2 D ls) (hX : ∀ c ∈ X, ∃ xs, H2 c = some (.lst xs))
    (e23 : LamX.ExtN H2 H3) (t3 : LamX.Tabs T H3) (S3 : SumAt C S H3 x F l) (fr : FreshL H2 H3 x) :
    ∃ acc, H3 D = some (.lst acc) ∧ acc.length = ls.length ∧ LamX.Tabs T (upd H3 D (.lst (acc ++ [.ref x]))) ∧ SLx C S X (upd H3 D (.lst (acc ++ [.ref x]))) D (ls ++ [l]) := by
  obtain ⟨ss, eD, _⟩ := id hS
  obtain ⟨d, f, a, ex, h1, h2⟩ := id S3
  have na : a ∉ D :: X := fun z => by
    rcases List.mem_cons.mp z with z | z
    · exact fr S d f a ex _ (by rw [z]; exact eD)
    · obtain ⟨xs, e⟩ := hX a z
      exact fr S d f a ex _ e
  obtain ⟨acc, e, la, h⟩ := (hS.ext e23).push S3 ex na
  exact ⟨acc, e, la, tabs_setL t3 e, h⟩
theorem SLx.setL {F : Fd} {C S D c : Addr} {X : List Addr} {ls : List (List (Tm F))} {xs : List V} {o : HO} (h : SLx C S X H D ls) (hc : H c = some (.lst xs)) (n : c ∈ X) (ne : c ≠ D) : SLx C S X (upd H c o) D ls := by
  obtain ⟨ss, e, le, g, m⟩ := h
  refine ⟨ss, by rw [upd_ne (Ne.symm ne)]; exact e, le, fun i hi hi' => ?_, fun b hb => ?_⟩
  · obtain ⟨d', f', a', e', n'⟩ := m _ (List.getElem_mem hi)
    exact (sum_setL (g i hi hi') e' hc (fun z => n' (by rw [z]; exact List.mem_cons_of_mem _ n))).1
  · obtain ⟨d', f', a', e', n'⟩ := m b hb
    exact ⟨d', f', a', by rw [upd_ne (fun z => by rw [z, hc] at e'; cases e')]; exact e', n'⟩
theorem SLx.kr {F : Fd} {C S D r : Addr} {X : List Addr} {H' : Hp} {ls : List (List (Tm F))} (h : SLx C S X H D ls) (hr : RoomAt H r) (k : KpX r H H') : SLx C S X H' D ls := by
  obtain ⟨ss, e, le, g, m⟩ := h
  obtain ⟨y, z, er, _⟩ := id hr
  refine ⟨ss, k _ _ (fun q => ?_) e, le, fun i hi hi' => (g i hi hi').kr hr k, fun b hb => ?_⟩
  · rw [q, er] at e
    have := Option.some.inj e
    injection this with this
    match ss, this with
    | [], h => cases h
    | _ :: _, h => cases h
  · obtain ⟨d', f', a', e', n'⟩ := m b hb
    exact ⟨d', f', a', k _ _ (fun q => by rw [q, er] at e'; cases e') e', n'⟩
end TermP
/-! PutP: sums put in for the places of a sum. -/
namespace TermP
open PySem PySem.Spec PyProof.Rows L2 Rf NumP NumF SumP
variable {F : Fd}
/-- a product's places put in, one behind the other -/
def stp (ls : List (List (Tm F))) (ks : Pr) (c : Nm F) : List (Tm F) := ks.foldl (fun acc k => G (mul acc (ls.getD k.toNat []))) [(([] : Pr), c)]
def putT (ls : List (List (Tm F))) (l : List (Tm F)) : List (Tm F) := l.flatMap fun t => stp ls t.1 t.2
theorem stp_snoc (ls : List (List (Tm F))) (ks : Pr) (k : Int) (c : Nm F) : stp ls (ks ++ [k]) c = G (mul (stp ls ks c) (ls.getD k.toNat [])) := by
  unfold stp
  rw [List.foldl_append]
  rfl
theorem stp_take (ls : List (List (Tm F))) (ks : Pr) (c : Nm F) {i : Nat} (h : i < ks.length) : stp ls (ks.take (i + 1)) c = G (mul (stp ls (ks.take i) c) (ls.getD (ks[i]).toNat [])) := by
  have e : ks.take (i + 1) = ks.take i ++ [ks[i]] := by rw [List.take_succ, List.getElem?_eq_getElem h]; rfl
  rw [e, stp_snoc]
theorem putT_snoc (ls : List (List (Tm F))) (l : List (Tm F)) (t : Tm F) : putT ls (l ++ [t]) = putT ls l ++ stp ls t.1 t.2 := by
  unfold putT
  rw [List.flatMap_append, List.flatMap_cons, List.flatMap_nil, List.append_nil]
def eP : Nat → Nat
  | 0 => 46
  | i + 1 => eP i + 44 + 3 ^ i * 3
theorem getD_mem {α : Type} {ls : List α} {d : α} {n : Nat} (h : n < ls.length) : ls.getD n d ∈ ls := by
  rw [List.getD_eq_getElem?_getD, List.getElem?_eq_getElem h]
  exact List.getElem_mem h
theorem snoc_of {α : Type} {ks : List α} {i : Nat} (h : ks.length = i + 1) : ∃ a k, ks = a ++ [k] := by
  have ne : ks ≠ [] := fun z => by rw [z] at h; cases h
  exact ⟨ks.dropLast, ks.getLast ne, (List.dropLast_concat_getLast ne).symm⟩
theorem stp_wf {ls : List (List (Tm F))} {c : Nm F} (hc : Sz 1 46 c) (hl : ∀ m ∈ ls, Wf 1 44 3 m) : ∀ (i : Nat) (ks : Pr), ks.length = i → (∀ k ∈ ks, 0 ≤ k ∧ k < (ls.length : Int)) → Wf (1 + i) (eP i) (3 ^ i) (stp ls ks c)
  | 0, ks, h, _ => by
    obtain rfl := List.eq_nil_of_length_eq_zero h
    refine ⟨fun t ht => ?_, Nat.le_refl _, by decide⟩
    rw [List.mem_singleton.mp ht]
    exact ⟨⟨.nil, fun k hk => by cases hk⟩, hc⟩
  | i + 1, ks, h, hk => by
    obtain ⟨a, k, rfl⟩ := snoc_of h
    rw [stp_snoc]
    have q := stp_wf hc hl i a (by rw [List.length_append] at h; simpa using h) fun k hm => hk k (List.mem_append_left _ hm)
    have hb := hk k (List.mem_append_right _ List.mem_cons_self)
    have w := (q.mul (hl _ (getD_mem (d := []) (n := k.toNat) (by omega)))).G
    have e1 : 1 + i + 1 = 1 + (i + 1) := by omega
    have e2 : 3 ^ i * 3 = 3 ^ (i + 1) := (Nat.pow_succ ..).symm
    rw [e1] at w
    rw [e2] at w
    have e3 : eP i + 44 + 3 ^ (i + 1) = eP (i + 1) := by rw [← e2]; rfl
    rw [e3] at w
    exact w
theorem mul_lt {a b : List (Tm F)} {n : Int} (h : ∀ t ∈ a, ∀ k ∈ t.1, k < n) (g : ∀ t ∈ b, ∀ k ∈ t.1, k < n) : ∀ t ∈ mul a b, ∀ k ∈ t.1, k < n := fun t ht k hk => by
  obtain ⟨x, hx, hz⟩ := List.mem_flatMap.mp ht
  obtain ⟨y, hy, rfl⟩ := List.mem_map.mp hz
  exact ((join_mem x.1 y.1 k).mp hk).elim (h x hx k) (g y hy k)
theorem stp_lt {ls : List (List (Tm F))} {c : Nm F} {n : Int} (hl : ∀ m ∈ ls, ∀ t ∈ m, ∀ k ∈ t.1, k < n) : ∀ (i : Nat) (ks : Pr), ks.length = i → (∀ k ∈ ks, 0 ≤ k ∧ k < (ls.length : Int)) → ∀ t ∈ stp ls ks c, ∀ k ∈ t.1, k < n
  | 0, ks, h, _ => by
    obtain rfl := List.eq_nil_of_length_eq_zero h
    intro t ht k hk
    rw [List.mem_singleton.mp ht] at hk
    cases hk
  | i + 1, ks, h, hk => by
    obtain ⟨a, k, rfl⟩ := snoc_of h
    rw [stp_snoc]
    have hb := hk k (List.mem_append_right _ List.mem_cons_self)
    exact G_lt (mul_lt (stp_lt hl i a (by rw [List.length_append] at h; simpa using h) fun k hm => hk k (List.mem_append_left _ hm)) (hl _ (getD_mem (d := []) (by omega))))
/-- the sums may be put in -/
structure PutOk (ls : List (List (Tm F))) (l : List (Tm F)) : Prop where
  inn : ∀ t ∈ l, ∀ k ∈ t.1, 0 ≤ k ∧ k < (ls.length : Int)
  nz : ∀ t ∈ l, t.2 ≠ 0
  wg : ∀ t ∈ l, ∀ i, i ≤ t.1.length → Wg (stp ls (t.1.take i) t.2)
  ml : ∀ t ∈ l, ∀ i (h : i < t.1.length), Wg (ls.getD (t.1[i]).toNat []) ∧ Wg (mul (stp ls (t.1.take i) t.2) (ls.getD (t.1[i]).toNat [])) ∧ Jn (stp ls (t.1.take i) t.2) (ls.getD (t.1[i]).toNat [])
  all : Wg (putT ls l)
  wl : Wg l
  ln : l.length ≤ 5
  cn : Canon l
theorem pr_len {ks : Pr} {n : Nat} (h : PrOk ks) (g : ∀ k ∈ ks, k < (n : Int)) : ks.length ≤ n := by
  have q := srt_len (a := 0) (b := (n : Int)) h.1 fun k hk => ⟨(h.2 k hk).1, g k hk⟩
  omega
theorem wf_flat {ls : List (List (Tm F))} {j e n : Nat} (he : 7 ≤ e) : ∀ l : List (Tm F), (∀ t ∈ l, Wf j e n (stp ls t.1 t.2)) → Wf j e (l.length * n) (putT ls l)
  | [], _ => ⟨fun t ht => (by cases ht), by simp [putT], he⟩
  | t :: l, h => by
    have q := (h t List.mem_cons_self).app (wf_flat (ls := ls) he l fun u hu => h u (List.mem_cons_of_mem _ hu))
    have e1 : putT ls (t :: l) = stp ls t.1 t.2 ++ putT ls l := by unfold putT; rw [List.flatMap_cons]
    rw [e1, List.length_cons, Nat.succ_mul, Nat.add_comm]
    exact q
theorem eP_le : ∀ i, i ≤ 4 → eP i ≤ 342 ∧ 3 ^ i ≤ 81
  | 0, _ => by decide
  | 1, _ => by decide
  | 2, _ => by decide
  | 3, _ => by decide
  | 4, _ => by decide
  | i + 5, h => absurd h (by omega)
theorem put_ok {l : List (Tm F)} {ls : List (List (Tm F))} (cl : Canon l) (wl : Wf 1 46 5 l) (pl : ∀ t ∈ l, ∀ k ∈ t.1, k < 4) (hi : ∀ t ∈ l, ∀ k ∈ t.1, k < (ls.length : Int)) (hw : ∀ m ∈ ls, Wf 1 44 3 m) (hp : ∀ m ∈ ls, ∀ t ∈ m, ∀ k ∈ t.1, k < 5) : PutOk ls l := by
  have h4 : ∀ t ∈ l, t.1.length ≤ 4 := fun t ht => pr_len (n := 4) (wl.ok t ht).1 (pl t ht)
  have inn : ∀ t ∈ l, ∀ k ∈ t.1, 0 ≤ k ∧ k < (ls.length : Int) := fun t ht k hk => ⟨((wl.ok t ht).1.2 k hk).1, hi t ht k hk⟩
  have st : ∀ t ∈ l, ∀ i, i ≤ t.1.length → Wf (1 + i) (eP i) (3 ^ i) (stp ls (t.1.take i) t.2) := fun t ht i hle =>
    stp_wf (wl.ok t ht).2 hw i _ (by rw [List.length_take]; omega) fun k hk => inn t ht k (List.mem_of_mem_take hk)
  have b5 : ∀ m ∈ ls, ∀ t ∈ m, t.1.length ≤ 5 := fun m hm t ht => pr_len (n := 5) ((hw m hm).ok t ht).1 (hp m hm t ht)
  have s5 : ∀ t ∈ l, ∀ i, i ≤ t.1.length → ∀ u ∈ stp ls (t.1.take i) t.2, u.1.length ≤ 5 := fun t ht i hle u hu =>
    pr_len (n := 5) ((st t ht i hle).ok u hu).1 (stp_lt hp i _ (by rw [List.length_take]; omega) (fun k hk => inn t ht k (List.mem_of_mem_take hk)) u hu)
  refine ⟨inn, cl.nz, fun t ht i hle => ?_, fun t ht i hlt => ?_, ?_, ?_, wl.len, cl⟩
  · obtain ⟨e1, e2⟩ := eP_le i (Nat.le_trans hle (h4 t ht))
    have := h4 t ht
    exact ⟨_, _, _, by omega, st t ht i hle⟩
  · have hm := getD_mem (d := []) (ls := ls) (n := (t.1[i]).toNat) (by have := inn t ht _ (List.getElem_mem hlt); omega)
    obtain ⟨e1, e2⟩ := eP_le i (by have := h4 t ht; omega)
    refine ⟨(hw _ hm).g (by decide) (by decide) (by decide), ⟨_, _, _, ?_, (st t ht i (Nat.le_of_lt hlt)).mul (hw _ hm)⟩, fun u hu v hv => ?_⟩
    · have := h4 t ht
      omega
    · have := s5 t ht i (Nat.le_of_lt hlt) u hu
      have := b5 _ hm v hv
      omega
  · refine ⟨5, 342, l.length * 81, ?_, wf_flat (by decide) l fun t ht => ?_⟩
    · have := wl.len
      omega
    · have q := st t ht t.1.length (Nat.le_refl _)
      rw [List.take_length] at q
      have h := h4 t ht
      obtain ⟨e1, e2⟩ := eP_le _ h
      exact q.mono (by omega) e1 e2
  · exact wl.g (by decide) (by decide) (by decide)
/-- what lies behind the greatest place does not count -/
theorem stp_same {ls ms : List (List (Tm F))} {ks : Pr} (c : Nm F) (h : ∀ k ∈ ks, ls.getD k.toNat [] = ms.getD k.toNat []) : stp ls ks c = stp ms ks c := by
  unfold stp
  generalize ([(([] : Pr), c)] : List (Tm F)) = a
  induction ks generalizing a with
  | nil => rfl
  | cons k r ih =>
    show List.foldl _ (G (mul a (ls.getD k.toNat []))) r = List.foldl _ (G (mul a (ms.getD k.toNat []))) r
    rw [h k List.mem_cons_self]
    exact ih (fun z hz => h z (List.mem_cons_of_mem _ hz)) _
theorem putT_same {ls ms : List (List (Tm F))} {l : List (Tm F)} (h : ∀ t ∈ l, ∀ k ∈ t.1, ls.getD k.toNat [] = ms.getD k.toNat []) : putT ls l = putT ms l := by
  unfold putT
  induction l with
  | nil => rfl
  | cons t r ih => rw [List.flatMap_cons, List.flatMap_cons, stp_same t.2 (h t List.mem_cons_self), ih fun u hu => h u (List.mem_cons_of_mem _ hu)]
theorem one_mul_nm (c : Nm F) : c * 1 = c := mul_one c
/-- each place put in for itself -/
def selfT (F : Fd) (n : Nat) : List (List (Tm F)) := (List.range n).map fun p : Nat => [([((p : Nat) : Int)], (1 : Nm F))]
theorem plain_get {n : Nat} {k : Int} (h0 : 0 ≤ k) (h1 : k < (n : Int)) : (selfT F n).getD k.toNat [] = [([k], 1)] := by
  unfold selfT
  rw [List.getD_eq_getElem?_getD, List.getElem?_map, List.getElem?_range (by omega)]
  show [([((k.toNat : Nat) : Int)], (1 : Nm F))] = _
  rw [Int.toNat_of_nonneg h0]
theorem G_one {k : Pr} {c : Nm F} (h : c ≠ 0) : G [(k, c)] = [(k, c)] := G_id ⟨List.pairwise_singleton .., fun t ht => by rw [List.mem_singleton.mp ht]; exact h⟩
theorem stp_plain {n : Nat} {c : Nm F} (hc : c ≠ 0) : ∀ (i : Nat) (ks : Pr), ks.length = i → PrOk ks → (∀ k ∈ ks, k < (n : Int)) → stp (selfT F n) ks c = [(ks, c)]
  | 0, ks, h, _, _ => by
    obtain rfl := List.eq_nil_of_length_eq_zero h
    rfl
  | i + 1, ks, h, hp, hk => by
    obtain ⟨a, k, rfl⟩ := snoc_of h
    have hm := List.mem_append_right a (List.mem_cons_self (a := k) (l := []))
    have hb := hk k hm
    have h0 := (hp.2 k hm).1
    have q := stp_plain hc i a (by rw [List.length_append] at h; simpa using h) ⟨(List.pairwise_append.mp hp.1).1, fun k hm => hp.2 k (List.mem_append_left _ hm)⟩ fun k hm => hk k (List.mem_append_left _ hm)
    have hj : join a [k] = a ++ [k] := (join_is hp.1 fun z => Iff.rfl).symm
    rw [stp_snoc, q, plain_get h0 hb]
    show G [(join a [k], c * 1)] = _
    rw [hj, one_mul_nm, G_one hc]
theorem putT_plain {n : Nat} {l : List (Tm F)} (cl : Canon l) (hp : ∀ t ∈ l, PrOk t.1) (hk : ∀ t ∈ l, ∀ k ∈ t.1, k < (n : Int)) : putT (selfT F n) l = l := by
  have h : ∀ l : List (Tm F), (∀ t ∈ l, t.2 ≠ 0 ∧ PrOk t.1 ∧ ∀ k ∈ t.1, k < (n : Int)) → putT (selfT F n) l = l := fun l => by
    induction l with
    | nil => intro _; rfl
    | cons t r ih =>
      intro h
      obtain ⟨h1, h2, h3⟩ := h t List.mem_cons_self
      have e1 : putT (selfT F n) (t :: r) = stp (selfT F n) t.1 t.2 ++ putT (selfT F n) r := by unfold putT; rw [List.flatMap_cons]
      rw [e1, stp_plain h1 _ t.1 rfl h2 h3, ih fun u hu => h u (List.mem_cons_of_mem _ hu)]
      rfl
  exact h l fun t ht => ⟨cl.nz t ht, hp t ht, hk t ht⟩
/-! ### lists of terms, put together -/
theorem flat_of {H : Hp} : ∀ (as : List Addr) (Ls : List (List (Tm F))), as.length = Ls.length → (∀ i (h : i < as.length) (h' : i < Ls.length), TermsAt H as[i] Ls[i]) →
    ∃ tss : List (List (Tr F)), tss.length = as.length ∧ (∀ i (h : i < as.length) (h' : i < tss.length), H as[i] = some (.lst (vsOf tss[i]))) ∧ (∀ r ∈ tss.flatten, TrAt H r) ∧ tmOf tss.flatten = Ls.flatten
  | [], [], _, _ => ⟨[], rfl, fun i h => absurd h (Nat.not_lt_zero i), fun r hr => by simp at hr, rfl⟩
  | a :: as, l :: Ls, hl, h => by
    obtain ⟨ts, e1, e2, e3⟩ := h 0 (Nat.zero_lt_succ _) (Nat.zero_lt_succ _)
    obtain ⟨tss, g1, g2, g3, g4⟩ := flat_of as Ls (Nat.succ.inj hl) fun i hi hi' => h (i + 1) (Nat.succ_lt_succ hi) (Nat.succ_lt_succ hi')
    refine ⟨ts :: tss, by rw [List.length_cons, List.length_cons, g1], fun i hi hi' => ?_, fun r hr => ?_, ?_⟩
    · cases i with
      | zero => exact e1
      | succ i => exact g2 i (Nat.lt_of_succ_lt_succ hi) (Nat.lt_of_succ_lt_succ hi')
    · rw [List.flatten_cons] at hr
      exact (List.mem_append.mp hr).elim (e2 r) (g3 r)
    · rw [List.flatten_cons, List.flatten_cons]
      unfold tmOf at e3 g4 ⊢
      rw [List.map_append, e3, g4]
      rfl
theorem TListsAt.flat {H : Hp} {a : Addr} {Ls : List (List (Tm F))} (h : TListsAt H a Ls) : ∃ (rs : List Addr) (vss : List (List V)), H a = some (.lst (rs.map V.ref)) ∧ rs.length = vss.length ∧ (∀ i (h : i < rs.length) (h' : i < vss.length), H rs[i] = some (.lst vss[i])) ∧
    vss.flatten.length = Ls.flatten.length ∧ ∀ H' p, Rf.Kp H H' → H' p = some (.lst vss.flatten) → TermsAt H' p Ls.flatten := by
  obtain ⟨as, e, l, g⟩ := h
  obtain ⟨tss, g1, g2, g3, g4⟩ := flat_of as Ls l g
  have ef : (tss.map vsOf).flatten = vsOf tss.flatten := by
    show (tss.map (List.map fun r : Tr F => V.ref r.τ)).flatten = tss.flatten.map _
    rw [List.map_flatten]
  refine ⟨as, tss.map vsOf, e, by rw [List.length_map, g1], fun i hi hi' => ?_, ?_, fun H' p k ep => ⟨tss.flatten, by rw [ep, ef], fun r hr => (g3 r hr).ext (Kp.ext k), g4⟩⟩
  · rw [List.getElem_map]
    exact g2 i hi (by rw [g1]; exact hi)
  · rw [ef, ← g4]
    unfold vsOf tmOf
    rw [List.length_map, List.length_map]
/-! ### promises -/
variable {K : Frag}
/-- put, within put_in: self, sums; product, number -/
def spPut (T : List (Addr × Str)) (C S : Addr) : List (Option V) → Sp := fun ws vs H Q _ => ∃ (s b π q : Addr) (F : Fd) (l : List (Tm F)) (ls : List (List (Tm F))) (t : Tm F), ws = [some (.ref s), some (.ref b)] ∧ vs = [.ref π, .ref q] ∧ SumAt C S H s F l ∧ SumsAt C S H b F ls ∧
  ProdAt H π t.1 ∧ NumAt H q t.2 ∧ t ∈ l ∧ PutOk ls l ∧ LamX.Tabs T H ∧ ∀ r H', LamX.ExtN H H' → LamX.Tabs T H' → TermsAt H' r (stp ls t.1 t.2) → (∀ xs, H r ≠ some (.lst xs)) → Q (.ref r) H'
/-- what is no sum over the field -/
def OddS (C S : Addr) (H : Hp) (F : Fd) (v : V) : Prop := Th H v ∨ ∃ (u : Addr) (J : Fd) (m : List (Tm J)), v = .ref u ∧ SumAt C S H u J m ∧ J.p ≠ F.p
/-- what put_in refuses -/
def BadS (C S : Addr) (H : Hp) (F : Fd) (l : List (Tm F)) (v : V) : Prop :=
  (Th H v ∧ ∀ q xs, v = .ref q → H q ≠ some (.lst xs)) ∨ (∃ (u : Addr) (J : Fd) (m : List (Tm J)), v = .ref u ∧ SumAt C S H u J m) ∨
  ∃ (b : Addr) (xs : List V), v = .ref b ∧ H b = some (.lst xs) ∧ xs.length ≤ 100 ∧ ((∃ t ∈ l, ∃ k ∈ t.1, (xs.length : Int) ≤ k) ∨
    ∃ i : Nat, ∃ y : V, xs[i]? = some y ∧ OddS C S H F y ∧ ∀ j : Nat, j < i → ∀ z : V, xs[j]? = some z → ∃ (u : Addr) (m : List (Tm F)), z = .ref u ∧ SumAt C S H u F m)
def spPutIn (T : List (Addr × Str)) (C S CN : Addr) : Sp := fun vs H Q E => ∃ (s : Addr) (v : V) (F : Fd) (l : List (Tm F)), vs = [.ref s, v] ∧ LamX.Tabs T H ∧ SumAt C S H s F l ∧ Wg l ∧
  ((∃ (b : Addr) (ls : List (List (Tm F))), v = .ref b ∧ SumsAt C S H b F ls ∧ ls.length ≤ 100 ∧ PutOk ls l ∧ ∀ r H', LamX.ExtN H H' → LamX.Tabs T H' → SumAt C S H' r F (G (putT ls l)) → Q (.ref r) H') ∨
   (BadS C S H F l v ∧ ∀ H', Rf.Kp H H' → E (.ref CN) none H'))
/-- the law's own -/
def spLPutIn : Sp := fun vs H Q _ => ∃ (p : Int) (a b : Addr) (F : Fd) (l : List (Tm F)) (ls : List (List (Tm F))), vs = [.int p, .ref a, .ref b] ∧ p = F.p ∧ TermsAt H a l ∧ TListsAt H b ls ∧ PutOk ls l ∧ ∀ r H', Rf.Kp H H' → TermsAt H' r (G (putT ls l)) → Q (.ref r) H'
end TermP
namespace K08
open PySem PySem.Spec PyProof.Rows L2 Rf NumP NumF SumP TermP
abbrev sp_is_whole (z : Cn) (K : Frag) : Sp := spWhole
abbrev sp_is_prime (z : Cn) (K : Frag) : Sp := spPrime
abbrev sp_lowest (z : Cn) (K : Frag) : Sp := spLow z.NoNumber
abbrev sp_Field___init__ (z : Cn) (K : Frag) : Sp := spFInit z.Field
abbrev sp_Field___eq__ (z : Cn) (K : Frag) : Sp := spFEq z.Field
abbrev sp_Field_made (z : Cn) (K : Frag) : Sp := spMade z.Field
abbrev sp_Field_plus (z : Cn) (K : Frag) : Sp := spOp K z.Field fun a b => a + b
abbrev sp_Field_times (z : Cn) (K : Frag) : Sp := spOp K z.Field fun a b => a * b
abbrev sp_Field_is_number (z : Cn) (K : Frag) : Sp := spNum z.Field
abbrev sp_is_place (z : Cn) (K : Frag) : Sp := spPlace
abbrev sp_is_product (z : Cn) (K : Frag) : Sp := spProduct
abbrev sp_joined_product (z : Cn) (K : Frag) : Sp := spJoin
abbrev sp_look_at_terms (z : Cn) (K : Frag) : Sp := spLook z.Field
abbrev sp_gathered (z : Cn) (K : Frag) : Sp := spGath z.T z.Field
abbrev sp_Sum___init__ (z : Cn) (K : Frag) : Sp := spSInit z.T z.Field z.Sum
abbrev sp_Sum___eq__ (z : Cn) (K : Frag) : Sp := spSEq z.Field z.Sum
abbrev sp_Sum_terms (z : Cn) (K : Frag) : Sp := spSTerms z.Field z.Sum
abbrev sp_Sum_reach (z : Cn) (K : Frag) : Sp := spReach z.Field z.Sum
abbrev sp_Sum_look_alike (z : Cn) (K : Frag) : Sp := spAlike z.Field z.Sum z.Unlike
abbrev sp_Sum_times (z : Cn) (K : Frag) : Sp := spSTimes z.T z.Field z.Sum z.Unlike
abbrev sp_Sum_put_in (z : Cn) (K : Frag) : Sp := spPutIn z.T z.Field z.Sum z.NoSums
abbrev sp__law_room (z : Cn) (K : Frag) : Sp := spRoom K
abbrev sp__law_take (z : Cn) (K : Frag) : Sp := spTake
abbrev sp__law_lowest (z : Cn) (K : Frag) : Sp := spLLow
abbrev sp__law_make (z : Cn) (K : Frag) : Sp := spLMake
abbrev sp__law_plus (z : Cn) (K : Frag) : Sp := spLOp K fun a b => a + b
abbrev sp__law_times (z : Cn) (K : Frag) : Sp := spLOp K fun a b => a * b
abbrev sp__law_prime (z : Cn) (K : Frag) : Sp := spLPrime
abbrev sp__law_number (z : Cn) (K : Frag) : Sp := spLNumber
abbrev sp__law_product (z : Cn) (K : Frag) : Sp := spLProduct
abbrev sp__law_terms (z : Cn) (K : Frag) : Sp := spLTerms
abbrev sp__law_gather (z : Cn) (K : Frag) : Sp := spLGath
abbrev sp__law_mult (z : Cn) (K : Frag) : Sp := spLMult
abbrev sp__law_put_in (z : Cn) (K : Frag) : Sp := spLPutIn
abbrev spn_Sum_put_in (z : Cn) (K : Frag) : List (Option V) → Sp := spPut z.T z.Field z.Sum
def sp_law (z : Cn) (K : Frag) : Sp := fun vs H Q _ => ∃ (a : Addr) (ns : List Int), vs = [.ref a] ∧ SqL K H a (ns.map V.int) ∧ ns.length ≤ 63 ∧ LamX.Tabs z.T H ∧ ∀ H', Q (.bl true) H'
def TT__law_kind (z : Cn) (tl : XK → Hp → VK → Prop) (H : Hp) (Q : VK) : Prop := ∃ (E : XK) (Q' : VK),
  (∀ cls d H', E cls d H' → d = none ∧ ((cls = .ref z.NoFilling ∧ ∀ H2, Rf.Kp H' H2 → Q (.str "filling") H2) ∨ (cls = .ref z.NoOrder ∧ ∀ H2, Rf.Kp H' H2 → Q (.str "order") H2) ∨ (cls = .ref z.NoSums ∧ ∀ H2, Rf.Kp H' H2 → Q (.str "sums") H2))) ∧
  (∀ v H', Q' v H' → ∀ H2, Rf.Kp H' H2 → Q (.str "told") H2) ∧ tl E H Q'
/-- what else the readings lean on -/
structure Con (z : Cn) (K : Frag) : Prop where
  zero : ∀ H, SqT K H z.ZERO [.int 0, .int 1]
  eNoFilling : EF K z.NoFilling z.FalseError [(.ref z.NoFilling, true), (.ref z.NoOrder, false), (.ref z.NoSums, false), (.type "ValueError", true)]
  eNoOrder : EF K z.NoOrder z.FalseError [(.ref z.NoFilling, false), (.ref z.NoOrder, true), (.ref z.NoSums, false), (.type "ValueError", true)]
  eNoSums : EF K z.NoSums z.FalseError [(.ref z.NoFilling, false), (.ref z.NoOrder, false), (.ref z.NoSums, true), (.type "ValueError", true)]
  kF : KE K z.Field
  kS : KE K z.Sum
  sl : PySem.W.kitOne K (.ref z.Sum) (.type "list") = some false
theorem con_of {K : Frag} (h : conB K = true) : Con (zOf K) K := by
  unfold conB at h
  simp only [Bool.and_eq_true, decide_eq_true_eq] at h
  obtain ⟨h1, h2, h3, h4, h5, h6, h7⟩ := h
  exact ⟨num_of h1, ef_of h2, ef_of h3, ef_of h4, ke_of h5, ke_of h6, h7⟩
end K08
namespace K08
open PySem PySem.Spec PyProof.Rows L2 Rf NumP NumF SumP TermP

abbrev attR (z : Cn) : Addr → Str → Prop := fun C f => (C = z.Field ∧ f = "own_prime") ∨ (C = z.Sum ∧ f = "own_field") ∨ (C = z.Sum ∧ f = "row")
abbrev g_is_whole (ρ : Fs) (z : Cn) (K : Frag) : Gam := { fn := [], glo := [("int", .ty "int"), ("bool", .ty "bool")], cl := [], att := attR z, mt := fun C m e => False, eq := fun C e => False, exc := [], tb := z.T, lam := [], rp := fun C e => False }
abbrev e_is_whole (ρ : Fs) (z : Cn) (K : Frag) : FnE := en ρ.is_whole ["thing"] (sp_is_whole z K) 1
abbrev g_lowest (ρ : Fs) (z : Cn) (K : Frag) : Gam := { fn := [], glo := [], cl := [], att := attR z, mt := fun C m e => False, eq := fun C e => False, exc := [("NoNumber", z.NoNumber)], tb := z.T, lam := [], rp := fun C e => False }
abbrev e_lowest (ρ : Fs) (z : Cn) (K : Frag) : FnE := en ρ.lowest ["top", "bottom"] (sp_lowest z K) 1
abbrev g_Field___eq__ (ρ : Fs) (z : Cn) (K : Frag) : Gam := { fn := [], glo := [("Field", .ref z.Field)], cl := [], att := attR z, mt := fun C m e => False, eq := fun C e => False, exc := [], tb := z.T, lam := [], rp := fun C e => False }
abbrev e_Field___eq__ (ρ : Fs) (z : Cn) (K : Frag) : FnE := en ρ.Field___eq__ ["self", "other"] (sp_Field___eq__ z K) 1
abbrev g_joined_product (ρ : Fs) (z : Cn) (K : Frag) : Gam := { fn := [], glo := [], cl := [], att := attR z, mt := fun C m e => False, eq := fun C e => False, exc := [], tb := z.T, lam := [], rp := fun C e => False }
abbrev e_joined_product (ρ : Fs) (z : Cn) (K : Frag) : FnE := en ρ.joined_product ["one", "other"] (sp_joined_product z K) 1
abbrev g_Sum_terms (ρ : Fs) (z : Cn) (K : Frag) : Gam := { fn := [], glo := [], cl := [], att := attR z, mt := fun C m e => False, eq := fun C e => False, exc := [], tb := z.T, lam := [], rp := fun C e => False }
abbrev e_Sum_terms (ρ : Fs) (z : Cn) (K : Frag) : FnE := en ρ.Sum_terms ["self"] (sp_Sum_terms z K) 1
abbrev g_Sum_reach (ρ : Fs) (z : Cn) (K : Frag) : Gam := { fn := [], glo := [], cl := [], att := attR z, mt := fun C m e => False, eq := fun C e => False, exc := [], tb := z.T, lam := [], rp := fun C e => False }
abbrev e_Sum_reach (ρ : Fs) (z : Cn) (K : Frag) : FnE := en ρ.Sum_reach ["self"] (sp_Sum_reach z K) 1
abbrev g__law_room (ρ : Fs) (z : Cn) (K : Frag) : Gam := { fn := [], glo := [], cl := [], att := attR z, mt := fun C m e => False, eq := fun C e => False, exc := [], tb := z.T, lam := [], rp := fun C e => False }
abbrev e__law_room (ρ : Fs) (z : Cn) (K : Frag) : FnE := en ρ._law_room ["_law_script", "_law_k"] (sp__law_room z K) 1
abbrev g__law_take (ρ : Fs) (z : Cn) (K : Frag) : Gam := { fn := [], glo := [], cl := [], att := attR z, mt := fun C m e => False, eq := fun C e => False, exc := [], tb := z.T, lam := [], rp := fun C e => False }
abbrev e__law_take (ρ : Fs) (z : Cn) (K : Frag) : FnE := en ρ._law_take ["_law_room_here", "_law_many"] (sp__law_take z K) 1
abbrev g__law_lowest (ρ : Fs) (z : Cn) (K : Frag) : Gam := { fn := [], glo := [], cl := [], att := attR z, mt := fun C m e => False, eq := fun C e => False, exc := [], tb := z.T, lam := [], rp := fun C e => False }
abbrev e__law_lowest (ρ : Fs) (z : Cn) (K : Frag) : FnE := en ρ._law_lowest ["_law_top", "_law_bottom"] (sp__law_lowest z K) 1
abbrev g__law_kind (ρ : Fs) (z : Cn) (K : Frag) : Gam := { fn := [], glo := [("FalseError", .ref z.FalseError), ("NoFilling", .ref z.NoFilling), ("NoOrder", .ref z.NoOrder), ("NoSums", .ref z.NoSums), ("ValueError", .ty "ValueError")], cl := [], att := attR z, mt := fun C m e => False, eq := fun C e => False, exc := [], tb := z.T, lam := [], rp := fun C e => False }
abbrev g_is_prime (ρ : Fs) (z : Cn) (K : Frag) : Gam := { fn := [("is_whole", e_is_whole ρ z K)], glo := [("MOST_PRIME", .int 97)], cl := [], att := attR z, mt := fun C m e => False, eq := fun C e => False, exc := [], tb := z.T, lam := [], rp := fun C e => False }
abbrev e_is_prime (ρ : Fs) (z : Cn) (K : Frag) : FnE := en ρ.is_prime ["thing"] (sp_is_prime z K) 2
abbrev g_Field_made (ρ : Fs) (z : Cn) (K : Frag) : Gam := { fn := [("is_whole", e_is_whole ρ z K), ("lowest", e_lowest ρ z K)], glo := [], cl := [], att := attR z, mt := fun C m e => False, eq := fun C e => False, exc := [("NoNumber", z.NoNumber)], tb := z.T, lam := [], rp := fun C e => False }
abbrev e_Field_made (ρ : Fs) (z : Cn) (K : Frag) : FnE := en ρ.Field_made ["self", "top", "bottom"] (sp_Field_made z K) 2
abbrev g_Field_is_number (ρ : Fs) (z : Cn) (K : Frag) : Gam := { fn := [("is_whole", e_is_whole ρ z K), ("lowest", e_lowest ρ z K)], glo := [("tuple", .ty "tuple")], cl := [], att := attR z, mt := fun C m e => False, eq := fun C e => False, exc := [], tb := z.T, lam := [], rp := fun C e => False }
abbrev e_Field_is_number (ρ : Fs) (z : Cn) (K : Frag) : FnE := en ρ.Field_is_number ["self", "thing"] (sp_Field_is_number z K) 2
abbrev g_is_place (ρ : Fs) (z : Cn) (K : Frag) : Gam := { fn := [("is_whole", e_is_whole ρ z K)], glo := [("MOST_PLACES", .int 60)], cl := [], att := attR z, mt := fun C m e => False, eq := fun C e => False, exc := [], tb := z.T, lam := [], rp := fun C e => False }
abbrev e_is_place (ρ : Fs) (z : Cn) (K : Frag) : FnE := en ρ.is_place ["thing"] (sp_is_place z K) 2
abbrev g__law_make (ρ : Fs) (z : Cn) (K : Frag) : Gam := { fn := [("_law_lowest", e__law_lowest ρ z K)], glo := [], cl := [], att := attR z, mt := fun C m e => False, eq := fun C e => False, exc := [], tb := z.T, lam := [], rp := fun C e => False }
abbrev e__law_make (ρ : Fs) (z : Cn) (K : Frag) : FnE := en ρ._law_make ["_law_prime_here", "_law_top", "_law_bottom"] (sp__law_make z K) 2
abbrev g__law_prime (ρ : Fs) (z : Cn) (K : Frag) : Gam := { fn := [("_law_take", e__law_take ρ z K)], glo := [], cl := [], att := attR z, mt := fun C m e => False, eq := fun C e => False, exc := [], tb := z.T, lam := [], rp := fun C e => False }
abbrev e__law_prime (ρ : Fs) (z : Cn) (K : Frag) : FnE := en ρ._law_prime ["_law_room_here"] (sp__law_prime z K) 2
abbrev g__law_number (ρ : Fs) (z : Cn) (K : Frag) : Gam := { fn := [("_law_take", e__law_take ρ z K), ("_law_lowest", e__law_lowest ρ z K)], glo := [], cl := [], att := attR z, mt := fun C m e => False, eq := fun C e => False, exc := [], tb := z.T, lam := [], rp := fun C e => False }
abbrev e__law_number (ρ : Fs) (z : Cn) (K : Frag) : FnE := en ρ._law_number ["_law_room_here", "_law_prime_here"] (sp__law_number z K) 2
abbrev g__law_product (ρ : Fs) (z : Cn) (K : Frag) : Gam := { fn := [("_law_take", e__law_take ρ z K)], glo := [], cl := [], att := attR z, mt := fun C m e => False, eq := fun C e => False, exc := [], tb := z.T, lam := [], rp := fun C e => False }
abbrev e__law_product (ρ : Fs) (z : Cn) (K : Frag) : FnE := en ρ._law_product ["_law_room_here", "_law_many", "_law_share"] (sp__law_product z K) 2
abbrev g_Field___init__ (ρ : Fs) (z : Cn) (K : Frag) : Gam := { fn := [("is_whole", e_is_whole ρ z K), ("is_prime", e_is_prime ρ z K)], glo := [], cl := [], att := attR z, mt := fun C m e => False, eq := fun C e => False, exc := [("NoField", z.NoField)], tb := z.T, lam := [], rp := fun C e => False }
abbrev e_Field___init__ (ρ : Fs) (z : Cn) (K : Frag) : FnE := en ρ.Field___init__ ["self", "prime"] (sp_Field___init__ z K) 3
abbrev g_Field_plus (ρ : Fs) (z : Cn) (K : Frag) : Gam := { fn := [], glo := [], cl := [], att := attR z, mt := fun C m e => (C = z.Field ∧ m = "made" ∧ e = e_Field_made ρ z K), eq := fun C e => False, exc := [], tb := z.T, lam := [], rp := fun C e => False }
abbrev e_Field_plus (ρ : Fs) (z : Cn) (K : Frag) : FnE := en ρ.Field_plus ["self", "one", "other"] (sp_Field_plus z K) 3
abbrev g_Field_times (ρ : Fs) (z : Cn) (K : Frag) : Gam := { fn := [], glo := [], cl := [], att := attR z, mt := fun C m e => (C = z.Field ∧ m = "made" ∧ e = e_Field_made ρ z K), eq := fun C e => False, exc := [], tb := z.T, lam := [], rp := fun C e => False }
abbrev e_Field_times (ρ : Fs) (z : Cn) (K : Frag) : FnE := en ρ.Field_times ["self", "one", "other"] (sp_Field_times z K) 3
abbrev g_is_product (ρ : Fs) (z : Cn) (K : Frag) : Gam := { fn := [("is_place", e_is_place ρ z K)], glo := [("tuple", .ty "tuple")], cl := [], att := attR z, mt := fun C m e => False, eq := fun C e => False, exc := [], tb := z.T, lam := [], rp := fun C e => False }
abbrev e_is_product (ρ : Fs) (z : Cn) (K : Frag) : FnE := en ρ.is_product ["thing"] (sp_is_product z K) 3
abbrev g_Sum___eq__ (ρ : Fs) (z : Cn) (K : Frag) : Gam := { fn := [], glo := [("Sum", .ref z.Sum)], cl := [], att := attR z, mt := fun C m e => False, eq := fun C e => (C = z.Field ∧ e = e_Field___eq__ ρ z K), exc := [], tb := z.T, lam := [], rp := fun C e => False }
abbrev e_Sum___eq__ (ρ : Fs) (z : Cn) (K : Frag) : FnE := en ρ.Sum___eq__ ["self", "other"] (sp_Sum___eq__ z K) 3
abbrev g_Sum_look_alike (ρ : Fs) (z : Cn) (K : Frag) : Gam := { fn := [], glo := [], cl := [], att := attR z, mt := fun C m e => False, eq := fun C e => (C = z.Field ∧ e = e_Field___eq__ ρ z K), exc := [("Unlike", z.Unlike)], tb := z.T, lam := [], rp := fun C e => False }
abbrev e_Sum_look_alike (ρ : Fs) (z : Cn) (K : Frag) : FnE := en ρ.Sum_look_alike ["self", "other"] (sp_Sum_look_alike z K) 3
abbrev g__law_plus (ρ : Fs) (z : Cn) (K : Frag) : Gam := { fn := [("_law_make", e__law_make ρ z K)], glo := [], cl := [], att := attR z, mt := fun C m e => False, eq := fun C e => False, exc := [], tb := z.T, lam := [], rp := fun C e => False }
abbrev e__law_plus (ρ : Fs) (z : Cn) (K : Frag) : FnE := en ρ._law_plus ["_law_prime_here", "_law_one", "_law_other"] (sp__law_plus z K) 3
abbrev g__law_times (ρ : Fs) (z : Cn) (K : Frag) : Gam := { fn := [("_law_make", e__law_make ρ z K)], glo := [], cl := [], att := attR z, mt := fun C m e => False, eq := fun C e => False, exc := [], tb := z.T, lam := [], rp := fun C e => False }
abbrev e__law_times (ρ : Fs) (z : Cn) (K : Frag) : FnE := en ρ._law_times ["_law_prime_here", "_law_one", "_law_other"] (sp__law_times z K) 3
abbrev g__law_terms (ρ : Fs) (z : Cn) (K : Frag) : Gam := { fn := [("_law_take", e__law_take ρ z K), ("_law_product", e__law_product ρ z K), ("_law_number", e__law_number ρ z K)], glo := [], cl := [], att := attR z, mt := fun C m e => False, eq := fun C e => False, exc := [], tb := z.T, lam := [], rp := fun C e => False }
abbrev e__law_terms (ρ : Fs) (z : Cn) (K : Frag) : FnE := en ρ._law_terms ["_law_room_here", "_law_prime_here", "_law_many", "_law_most"] (sp__law_terms z K) 3
abbrev g_look_at_terms (ρ : Fs) (z : Cn) (K : Frag) : Gam := { fn := [("is_product", e_is_product ρ z K)], glo := [("list", .ty "list"), ("tuple", .ty "tuple")], cl := [], att := attR z, mt := fun C m e => (C = z.Field ∧ m = "is_number" ∧ e = e_Field_is_number ρ z K), eq := fun C e => False, exc := [], tb := z.T, lam := [], rp := fun C e => False }
abbrev e_look_at_terms (ρ : Fs) (z : Cn) (K : Frag) : FnE := en ρ.look_at_terms ["field", "terms"] (sp_look_at_terms z K) 4
abbrev g__law_gather (ρ : Fs) (z : Cn) (K : Frag) : Gam := { fn := [("_law_plus", e__law_plus ρ z K)], glo := [], cl := [], att := attR z, mt := fun C m e => False, eq := fun C e => False, exc := [], tb := z.T, lam := [], rp := fun C e => False }
abbrev e__law_gather (ρ : Fs) (z : Cn) (K : Frag) : FnE := en ρ._law_gather ["_law_prime_here", "_law_terms_here"] (sp__law_gather z K) 4
abbrev g__law_mult (ρ : Fs) (z : Cn) (K : Frag) : Gam := { fn := [("_law_times", e__law_times ρ z K), ("_law_gather", e__law_gather ρ z K)], glo := [], cl := [], att := attR z, mt := fun C m e => False, eq := fun C e => False, exc := [], tb := z.T, lam := [], rp := fun C e => False }
abbrev e__law_mult (ρ : Fs) (z : Cn) (K : Frag) : FnE := en ρ._law_mult ["_law_prime_here", "_law_one", "_law_other"] (sp__law_mult z K) 5
abbrev g_gathered (ρ : Fs) (z : Cn) (K : Frag) : Gam := { fn := [], glo := [("ZERO", .ref z.ZERO)], cl := [], att := attR z, mt := fun C m e => (C = z.Field ∧ m = "plus" ∧ e = e_Field_plus ρ z K), eq := fun C e => False, exc := [], tb := z.T, lam := [], rp := fun C e => False }
abbrev e_gathered (ρ : Fs) (z : Cn) (K : Frag) : FnE := en ρ.gathered ["field", "terms"] (sp_gathered z K) 6
abbrev g__law_put_in (ρ : Fs) (z : Cn) (K : Frag) : Gam := { fn := [("_law_mult", e__law_mult ρ z K), ("_law_gather", e__law_gather ρ z K)], glo := [], cl := [], att := attR z, mt := fun C m e => False, eq := fun C e => False, exc := [], tb := z.T, lam := [], rp := fun C e => False }
abbrev e__law_put_in (ρ : Fs) (z : Cn) (K : Frag) : FnE := en ρ._law_put_in ["_law_prime_here", "_law_terms_here", "_law_rows"] (sp__law_put_in z K) 6
abbrev g_Sum___init__ (ρ : Fs) (z : Cn) (K : Frag) : Gam := { fn := [("look_at_terms", e_look_at_terms ρ z K), ("gathered", e_gathered ρ z K)], glo := [], cl := [], att := attR z, mt := fun C m e => False, eq := fun C e => False, exc := [], tb := z.T, lam := [], rp := fun C e => False }
abbrev e_Sum___init__ (ρ : Fs) (z : Cn) (K : Frag) : FnE := en ρ.Sum___init__ ["self", "field", "terms"] (sp_Sum___init__ z K) 7
abbrev g_Sum_times (ρ : Fs) (z : Cn) (K : Frag) : Gam := { fn := [("joined_product", e_joined_product ρ z K)], glo := [], cl := [("Sum", z.Sum, e_Sum___init__ ρ z K)], att := attR z, mt := fun C m e => (C = z.Sum ∧ m = "look_alike" ∧ e = e_Sum_look_alike ρ z K) ∨ (C = z.Field ∧ m = "times" ∧ e = e_Field_times ρ z K), eq := fun C e => False, exc := [], tb := z.T, lam := [], rp := fun C e => False }
abbrev e_Sum_times (ρ : Fs) (z : Cn) (K : Frag) : FnE := en ρ.Sum_times ["self", "other"] (sp_Sum_times z K) 9
abbrev g_Sum_put_in_put (ρ : Fs) (z : Cn) (K : Frag) : Gam := { fn := [], glo := [], cl := [("Sum", z.Sum, e_Sum___init__ ρ z K)], att := attR z, mt := fun C m e => (C = z.Sum ∧ m = "times" ∧ e = e_Sum_times ρ z K), eq := fun C e => False, exc := [], tb := z.T, lam := [], rp := fun C e => False }
abbrev g_Sum_put_in (ρ : Fs) (z : Cn) (K : Frag) : Gam := { fn := [], glo := [("list", .ty "list"), ("Sum", .ref z.Sum)], cl := [("Sum", z.Sum, e_Sum___init__ ρ z K)], att := attR z, mt := fun C m e => (C = z.Sum ∧ m = "reach" ∧ e = e_Sum_reach ρ z K), eq := fun C e => (C = z.Field ∧ e = e_Field___eq__ ρ z K), exc := [("NoSums", z.NoSums)], tb := z.T, lam := [], rp := fun C e => False }
abbrev e_Sum_put_in (ρ : Fs) (z : Cn) (K : Frag) : FnE := en ρ.Sum_put_in ["self", "sums"] (sp_Sum_put_in z K) 11
abbrev g_law (ρ : Fs) (z : Cn) (K : Frag) : Gam := { fn := [("_law_room", e__law_room ρ z K), ("_law_prime", e__law_prime ρ z K), ("_law_gather", e__law_gather ρ z K), ("_law_terms", e__law_terms ρ z K), ("_law_take", e__law_take ρ z K), ("_law_put_in", e__law_put_in ρ z K)], glo := [("Sum", .ref z.Sum)], cl := [("Field", z.Field, e_Field___init__ ρ z K), ("Sum", z.Sum, e_Sum___init__ ρ z K)], att := attR z, mt := fun C m e => (C = z.Sum ∧ m = "put_in" ∧ e = e_Sum_put_in ρ z K) ∨ (C = z.Sum ∧ m = "terms" ∧ e = e_Sum_terms ρ z K), eq := fun C e => (C = z.Sum ∧ e = e_Sum___eq__ ρ z K), exc := [], tb := z.T, lam := [("_law_kind", TT__law_kind z)], rp := fun C e => False }
abbrev e_law (ρ : Fs) (z : Cn) (K : Frag) : FnE := en ρ.law ["_law_script"] (sp_law z K) 14
end K08
namespace K08
open PySem PySem.Spec PyProof.Rows L2 Rf NumP NumF SumP TermP
section
variable {K : Frag} {vs : List V} {H : Hp} {Q : VK} {E : XK} {zn : Cn} {ρ : Fs}
theorem aP : attR zn zn.Field "own_prime" := .inl ⟨rfl, rfl⟩
theorem aO : attR zn zn.Sum "own_field" := .inr (.inl ⟨rfl, rfl⟩)
theorem aR : attR zn zn.Sum "row" := .inr (.inr ⟨rfl, rfl⟩)
theorem r_is_whole (cn : Con zn K) (h : sp_is_whole zn K vs H Q E) : dSs (g_is_whole ρ zn K) K m_is_whole (W0 E) (D0 Q) (start N_is_whole vs) H := by
  obtain ⟨v, rfl, h⟩ := h
  cases v with
  | int i => exact ⟨_, rfl, rfl, _, rfl, rfl, h⟩
  | non => exact ⟨_, rfl, rfl, h⟩
  | str s => exact ⟨_, rfl, rfl, h⟩
  | bl b => exact ⟨_, rfl, rfl, _, rfl, rfl, h⟩
  | ref p =>
    obtain ⟨⟨o, t, e, k⟩, h⟩ := h
    refine ⟨_, rfl, .inl (.inl ⟨o, t, e, k, rfl, ?_⟩)⟩
    rw [kind_cases k]
    exact h
  | _ => exact (show False from h).elim
theorem r_lowest (cn : Con zn K) (h : sp_lowest zn K vs H Q E) : dSs (g_lowest ρ zn K) K m_lowest (W0 E) (D0 Q) (start N_lowest vs) H := by
  obtain ⟨t, b, rfl, ht, hb, h0, h⟩ := h
  refine ⟨_, rfl, _, rfl, ?_⟩
  by_cases hz : b = 0
  · exact .inl ⟨by subst hz; rfl, fun d => wFrom_zero (x := "NoNumber") (C := zn.NoNumber) (show 3 < 6 by decide) rfl (h0 hz H (Rf.Kp.refl H)) d⟩
  · refine .inr ⟨?_, Sm.div ?_, _, rfl, _, rfl, _, _, rfl, ?_⟩
    · omega
    · show (absI b).natAbs < 2 ^ 8000; rw [absI_nat]; exact hb
    · refine ⟨fun m σ H' => H' = H ∧ ∃ x y : Int, m = y.natAbs ∧ σ = [some (.int t), some (.int b), some (.int (b.fdiv (absI b))), none, some (.int x), some (.int y)] ∧ 0 ≤ x ∧ 0 ≤ y ∧ Int.gcd x y = Int.gcd t b ∧ Sm x ∧ Sm y, ⟨_, rfl, _, _, rfl, rfl, ?_⟩, ?_⟩
      · exact start_gcd ht hb
      · rintro m σ H' ⟨rfl, x, y, rfl, rfl, h1, h2, h3, h4, h5⟩
        refine ⟨_, rfl, _, rfl, ?_⟩
        by_cases hy : y = 0
        · subst hy
          have hx : x = gcI t b := by
            unfold gcI
            rw [← h3, Int.gcd_zero_right]
            omega
          have hx0 : x ≠ 0 := by
            rw [hx]
            unfold gcI
            have := Int.gcd_ne_zero_right (a := t) hz
            omega
          refine ⟨_, rfl, _, rfl, Sm.mul ?_ ht, _, rfl, hx0, Sm.div h4, _, rfl, _, rfl, hx0, Sm.div h4, ?_, fun p hp => ?_⟩
          · exact sgn_small hz
          · exact two_le
          · subst hx
            exact h hz p _ (Rf.Kp.new hp) hp upd_same
        · have e : (!decide (y = 0)) = true := by simp [hy]
          refine ite_t e ?_
          refine ⟨fun σ' H2 => H2 = H' ∧ σ' = [some (.int t), some (.int b), some (.int (b.fdiv (absI b))), none, some (.int y), some (.int (x.fmod y))], ?_, _, rfl, _, rfl, _, rfl, hy, _, _, rfl, rfl, rfl⟩
          rintro σ' H2 ⟨rfl, rfl⟩
          obtain ⟨g1, g2, g3⟩ := step_gcd h1 h2 hy
          exact ⟨_, g2, rfl, y, _, rfl, rfl, h2, g1, g3.trans h3, h5, by unfold Sm at *; omega⟩
theorem r_is_prime (cn : Con zn K) (h : sp_is_prime zn K vs H Q E) : dSs (g_is_prime ρ zn K) K m_is_prime (W0 E) (D0 Q) (start N_is_prime vs) H := by
  obtain ⟨p, rfl, hp, h⟩ := h
  obtain ⟨q1, q2, q3, q4⟩ := ps_ok p hp
  refine ⟨_, rfl, _, rfl, _, rfl, _, rfl, ?_⟩
  refine ite_t (decide_eq_true q1) ⟨_, rfl, ?_⟩
  refine ite_f (by show (!decide (p ≤ 97)) = false; rw [decide_eq_true q2]; rfl) ⟨_, rfl, _, _, rfl, ⟨by decide, by decide, by omega, by omega⟩, fun D hD => ?_⟩
  refine lc_filter (fun k => decide (p % k = 0)) (by rw [sizeLine_eq]; omega) (show 1 < 2 by decide) hD (fun k k1 k2 H' R kp r => ?_) (fun H' kp e => ?_)
  · refine ⟨_, rfl, _, rfl, by omega, _, rfl, ?_⟩
    rw [Int.fmod_eq_emod_of_nonneg _ (by omega)]
    exact r
  · rw [q4] at e
    refine ⟨Nat.zero_le _, fun l hl => ?_⟩
    have ne : D ≠ l := ne_of_none e hl
    exact .inr (.inl ⟨.list [], .list [], .lst (.inl (.inl (by rw [upd_ne ne]; exact e))) .nil, .lst (.inl (.inl upd_same)) .nil, rfl, rfl, h _ (kp.trans (Rf.Kp.new hl))⟩)
theorem r_Field___init__ (cn : Con zn K) (h : sp_Field___init__ zn K vs H Q E) : dSs (g_Field___init__ ρ zn K) K m_Field___init__ (W0 E) (D0 Q) (start N_Field___init__ vs) H := by
  obtain ⟨x, dx, p, rfl, hx, hp, h⟩ := h
  have fin : ∀ H', Rf.Kp H H' → dSs (g_Field___init__ ρ zn K) K (tlN 1 m_Field___init__) (W0 E) (D0 Q) (start N_Field___init__ [.ref x, .int p]) H' := fun H' kp =>
    ⟨_, rfl, _, rfl, x, _, dx, [], rfl, kp _ _ hx, aP, by decide, h _ (kp.kx.trans KpX.set) ⟨dx, upd_same⟩⟩
  refine ⟨_, rfl, _, rfl, _, rfl, _, rfl, ?_⟩
  rcases hp with hp | hp
  · subst hp
    exact fin H (Rf.Kp.refl H)
  · obtain ⟨q1, q2, _⟩ := ps_ok p hp
    refine ite_t (by show (!decide (p = 0)) = true; rw [decide_eq_false (by omega)]; rfl) ⟨_, rfl, _, rfl, hp, fun H' kp => fin H' kp⟩
theorem r_Field___eq__ (cn : Con zn K) (h : sp_Field___eq__ zn K vs H Q E) : dSs (g_Field___eq__ ρ zn K) K m_Field___eq__ (W0 E) (D0 Q) (start N_Field___eq__ vs) H := by
  obtain ⟨f, g, p, q, rfl, ⟨dx, hf⟩, ⟨dg, hg⟩, h⟩ := h
  refine ⟨_, rfl, ?_⟩
  show rIsA K [.ref g, .ref zn.Field] H _
  exact .inl ⟨_, _, _, _, _, rfl, .own zn.Field, .base (.ins hg cn.kF.cl cn.kF.ha cn.kF.hn cn.kF.ht cn.kF.hm), cn.kF.s, _, rfl, f, _, dx, _, _, rfl, hf, aP, fld_look _, _, rfl, g, _, dg, _, _, rfl, hg, aP, fld_look _, h⟩
theorem r_Field_made (cn : Con zn K) (h : sp_Field_made zn K vs H Q E) : dSs (g_Field_made ρ zn K) K m_Field_made (W0 E) (D0 Q) (start N_Field_made vs) H := by
  obtain ⟨f, p, t, b, rfl, ⟨dx, hf⟩, hp, ht, hb, hc, h⟩ := h
  refine ⟨_, rfl, _, rfl, _, rfl, _, rfl, _, rfl, f, _, dx, _, _, rfl, hf, aP, fld_look p, _, rfl, ?_⟩
  by_cases hz : p = 0
  · subst hz
    have hb0 : b ≠ 0 := hc
    rw [mk0T, mk0B] at h
    exact ⟨_, rfl, _, rfl, t, b, rfl, ht, hb, fun e => absurd e hb0, fun _ q H' kp n e => h q H' kp n e⟩
  · obtain ⟨p1, p2⟩ := hp.rng
    have hps : p ∈ ps := hp.resolve_left hz
    have pp : 0 < p := by omega
    have hb0 : b % p ≠ 0 := by
      unfold NumF.cond at hc
      rw [if_neg hz] at hc
      exact hc
    have b0 := Int.emod_nonneg b hz
    have b1 := Int.emod_lt_of_pos b pp
    have e2 : mkB p t b = 1 := if_neg hz
    refine ite_f (decide_eq_false hz) ⟨_, rfl, _, rfl, f, _, dx, _, _, rfl, hf, aP, fld_look p, pp, _, rfl, _, rfl, ?_⟩
    refine ite_f (decide_eq_false hb0) ⟨_, rfl, _, rfl, ?_⟩
    by_cases hb1 : b % p = 1
    · have e1 : mkT p t b = t % p := mkp1 hz hb1
      rw [e1, e2] at h
      refine ite_f (by show (!decide (b % p = 1)) = false; rw [decide_eq_true hb1]; rfl) ⟨_, rfl, _, rfl, f, _, dx, _, _, rfl, hf, aP, fld_look p, hz, two_le, fun q hq => ?_⟩
      rw [Int.fmod_eq_emod_of_nonneg _ p1]
      exact h q _ (Rf.Kp.new hq) hq upd_same
    · have e1 : mkT p t b = (t * inv p (b % p)) % p := by unfold mkT; rw [if_neg hz, if_neg hb1]
      rw [e1, e2] at h
      obtain ⟨r, er, _, i1, i2⟩ := inv_ok hps (b := b % p) (by omega) b1
      refine ite_t (by show (!decide (b % p = 1)) = true; rw [decide_eq_false hb1]; rfl) ⟨_, rfl, _, rfl, f, _, dx, _, _, rfl, hf, aP, fld_look p, _, _, rfl, ⟨by decide, by decide, by omega, by omega⟩, fun D hD => ?_⟩
      refine lc_filter (fun k => decide ((b % p * k) % p = 1)) (by rw [sizeLine_eq]; omega) (show 3 < 4 by decide) hD (fun k k1 k2 H' R kp r => ?_) (fun H' kp e => ?_)
      · refine ⟨_, rfl, _, rfl, Sm.mul ?_ ?_, _, rfl, f, _, dx, _, _, rfl, kp _ _ hf, aP, fld_look p, hz, _, rfl, ?_⟩
        · exact (Bd.mono (j := 7) (show (b % p).natAbs < 2 ^ 7 by omega) (by decide))
        · exact (Bd.mono (j := 7) (show k.natAbs < 2 ^ 7 by omega) (by decide))
        · rw [Int.fmod_eq_emod_of_nonneg _ p1]
          exact r
      · have e' : H' D = some (.lst ((invs p (b % p)).map V.int)) := e
        rw [er] at e'
        refine ⟨_, .int (inv p (b % p)), .inl (.inl (.inl e')), atI_head _ _, Sm.mul ht ?_, _, rfl, _, rfl, f, _, dx, _, _, rfl, kp _ _ hf, aP, fld_look p, hz, two_le, fun q hq => ?_⟩
        · exact (Bd.mono (j := 7) (show (inv p (b % p)).natAbs < 2 ^ 7 by omega) (by decide))
        · rw [Int.fmod_eq_emod_of_nonneg _ p1]
          exact h q _ (kp.trans (Rf.Kp.new hq)) (kp.free hq) upd_same
theorem r_Field_plus (cn : Con zn K) (h : sp_Field_plus zn K vs H Q E) : dSs (g_Field_plus ρ zn K) K m_Field_plus (W0 E) (D0 Q) (start N_Field_plus vs) H := by
  obtain ⟨f, u, v, F, a, b, rfl, hF, hu, hv, bx, by_, bz, bw, h⟩ := h
  obtain ⟨dx, hf⟩ := id hF
  have s : ∀ {i : Int}, Bd 2000 i → Sm i := fun h => h.sm (by decide)
  refine ⟨zn.Field, _, ⟨rfl, rfl, rfl⟩, _, rfl, f, dx, _, rfl, hf, fld_no _ (by decide +kernel), _, rfl, _, _, .inr hu, rfl, _, rfl, _, _, .inr hv, rfl, (s bx).mul (s bw), _, rfl, _, _, .inr hv, rfl, _, rfl, _, _, .inr hu, rfl, (s bz).mul (s by_), _, rfl, _, _, .inr hu, rfl, _, rfl, _, _, .inr hv, rfl, (s by_).mul (s bw), ?_⟩
  exact ⟨f, F.p, _, _, rfl, hF, F.h, Bd.sm ((bx.mul bw).add (bz.mul by_)) (by decide), Bd.sm (by_.mul bw) (by decide), cond_bot a b, h⟩
theorem r_Field_is_number (cn : Con zn K) (h : sp_Field_is_number zn K vs H Q E) : dSs (g_Field_is_number ρ zn K) K m_Field_is_number (W0 E) (D0 Q) (start N_Field_is_number vs) H := by
  obtain ⟨f, p, v, rfl, ⟨dx, hf⟩, hp, h⟩ := h
  cases v with
  | ref q =>
    rcases h with ⟨xs, hq, h⟩ | ⟨⟨xs, hq⟩, h⟩
    · have hqT : SqT K H q xs := .inl (.inl hq)
      rcases h with ⟨h2, h3, h⟩ | ⟨a, b, rfl, ta, tb, hno, hyes⟩
      · refine ⟨_, rfl, .inl (.inl ⟨_, _, hq, rfl, rfl, _, rfl, _, .inr ⟨_, hqT, rfl⟩, _, rfl, ?_⟩)⟩
        exact ite_t (by show (!decide ((xs.length : Int) = 2)) = true; rw [decide_eq_false (by omega)]; rfl) h
      · have pre : ∀ {R : VK}, True := fun {_} => trivial
        cases a with
        | int x =>
          cases b with
          | int y =>
            obtain ⟨sx, sy, h⟩ := hyes x y rfl rfl
            refine ⟨_, rfl, .inl (.inl ⟨_, _, hq, rfl, rfl, _, rfl, _, .inr ⟨_, hqT, rfl⟩, _, rfl, _, rfl, _, _, .inr hqT, rfl, _, rfl, _, rfl, _, _, .inr hqT, rfl, _, rfl, _, rfl, f, _, dx, _, _, rfl, hf, aP, fld_look p, _, rfl, ?_⟩)⟩
            by_cases hz : p = 0
            · subst hz
              refine ite_f rfl ⟨_, rfl, _, _, .inr hqT, rfl, ?_⟩
              by_cases hy : 0 < y
              · refine ite_t (decide_eq_true hy) ⟨_, rfl, _, _, .inr hqT, rfl, _, rfl, _, _, .inr hqT, rfl, x, y, rfl, sx, sy, fun e => absurd e (by omega), fun _ r H' kp _ hr => ⟨_, rfl, ?_⟩⟩
                refine .inr (.inl ⟨_, _, dpP (.inl (.inl hr)), dpP (.inl (.inl (kp _ _ hq))), rfl, rfl, ?_⟩)
                have q := h H' kp
                rw [eqv2 (lowT x y)]
                unfold isn at q
                rw [if_pos rfl, decide_eq_true hy, Bool.true_and] at q
                exact q
              · refine ite_f (decide_eq_false hy) ?_
                have q := h H (Rf.Kp.refl H)
                unfold isn at q
                rw [if_pos rfl, decide_eq_false hy, Bool.false_and] at q
                show Q (.bl (decide (0 < y))) H
                rw [decide_eq_false hy]
                exact q
            · have q := h H (Rf.Kp.refl H)
              unfold isn at q
              rw [if_neg hz] at q
              refine ite_t (by show (!decide (p = 0)) = true; rw [decide_eq_false hz]; rfl) ⟨_, rfl, _, _, .inr hqT, rfl, ?_⟩
              by_cases hy : y = 1
              · rw [decide_eq_true hy, Bool.true_and] at q
                refine ite_t (decide_eq_true hy) ⟨_, rfl, _, _, .inr hqT, rfl, _, rfl, ?_⟩
                by_cases hx : 0 ≤ x
                · rw [decide_eq_true hx, Bool.true_and] at q
                  refine ite_t (decide_eq_true hx) ⟨_, rfl, f, _, dx, _, _, rfl, hf, aP, fld_look p, ?_⟩
                  exact q
                · rw [decide_eq_false hx, Bool.false_and] at q
                  exact ite_f (decide_eq_false hx) q
              · rw [decide_eq_false hy, Bool.false_and] at q
                refine ite_f (decide_eq_false hy) ?_
                show Q (.bl (decide (y = 1))) H
                rw [decide_eq_false hy]
                exact q
          | non => exact ⟨_, rfl, .inl (.inl ⟨_, _, hq, rfl, rfl, _, rfl, _, .inr ⟨_, hqT, rfl⟩, _, rfl, _, rfl, _, _, .inr hqT, rfl, _, rfl, _, rfl, _, _, .inr hqT, rfl, _, rfl, hno rfl⟩)⟩
          | bl b => exact ⟨_, rfl, .inl (.inl ⟨_, _, hq, rfl, rfl, _, rfl, _, .inr ⟨_, hqT, rfl⟩, _, rfl, _, rfl, _, _, .inr hqT, rfl, _, rfl, _, rfl, _, _, .inr hqT, rfl, _, rfl, hno rfl⟩)⟩
          | str b => exact ⟨_, rfl, .inl (.inl ⟨_, _, hq, rfl, rfl, _, rfl, _, .inr ⟨_, hqT, rfl⟩, _, rfl, _, rfl, _, _, .inr hqT, rfl, _, rfl, _, rfl, _, _, .inr hqT, rfl, _, rfl, hno rfl⟩)⟩
          | ref b => exact ⟨_, rfl, .inl (.inl ⟨_, _, hq, rfl, rfl, _, rfl, _, .inr ⟨_, hqT, rfl⟩, _, rfl, _, rfl, _, _, .inr hqT, rfl, _, rfl, _, rfl, _, _, .inr hqT, rfl, _, rfl, tb, hno rfl⟩)⟩
          | _ => exact (show False from tb).elim
        | non => exact ⟨_, rfl, .inl (.inl ⟨_, _, hq, rfl, rfl, _, rfl, _, .inr ⟨_, hqT, rfl⟩, _, rfl, _, rfl, _, _, .inr hqT, rfl, _, rfl, hno rfl⟩)⟩
        | bl b => exact ⟨_, rfl, .inl (.inl ⟨_, _, hq, rfl, rfl, _, rfl, _, .inr ⟨_, hqT, rfl⟩, _, rfl, _, rfl, _, _, .inr hqT, rfl, _, rfl, hno rfl⟩)⟩
        | str b => exact ⟨_, rfl, .inl (.inl ⟨_, _, hq, rfl, rfl, _, rfl, _, .inr ⟨_, hqT, rfl⟩, _, rfl, _, rfl, _, _, .inr hqT, rfl, _, rfl, hno rfl⟩)⟩
        | ref b => exact ⟨_, rfl, .inl (.inl ⟨_, _, hq, rfl, rfl, _, rfl, _, .inr ⟨_, hqT, rfl⟩, _, rfl, _, rfl, _, _, .inr hqT, rfl, _, rfl, ta, hno rfl⟩)⟩
        | _ => exact (show False from ta).elim
    · exact ⟨_, rfl, .inl (.inl ⟨_, _, hq, rfl, rfl, h⟩)⟩
  | int x => exact ⟨_, rfl, rfl, h⟩
  | non => exact ⟨_, rfl, rfl, h⟩
  | str x => exact ⟨_, rfl, rfl, h⟩
  | bl x => exact ⟨_, rfl, rfl, h⟩
  | _ => exact (show False from h).elim
theorem r__law_room (cn : Con zn K) (h : sp__law_room zn K vs H Q E) : dSs (g__law_room ρ zn K) K m__law_room (W0 E) (D0 Q) (start N__law_room vs) H := by
  obtain ⟨a, ns, k, rfl, hs, hn, k0, k1, h⟩ := h
  have fin : ∀ c : Int, dSs (g__law_room ρ zn K) K (tlN 2 m__law_room) (W0 E) (D0 Q) [some (.ref a), some (.int k), some (.int c), none] H := fun c => by
    have fin2 : ∀ l : Int, 0 ≤ l → dSs (g__law_room ρ zn K) K (tlN 4 m__law_room) (W0 E) (D0 Q) [some (.ref a), some (.int k), some (.int c), some (.int l)] H := fun l hl => by
      have bk : Sm k := Bd.mono (j := 7) (show k.natAbs < 2 ^ 7 by omega) (by decide)
      have bkk : Sm (104729 * k) := Bd.mono (j := 40) (show (104729 * k).natAbs < 2 ^ 40 by omega) (by decide)
      have kk : 0 ≤ k * k ∧ k * k ≤ 3600 := ⟨Int.mul_nonneg k0 k0, Int.mul_le_mul k1 k1 k0 (by decide)⟩
      have e : 104729 * k * k = 104729 * (k * k) := Int.mul_assoc ..
      have c0 := Int.emod_nonneg c (b := 2147483629) (by decide)
      have c1 := Int.emod_lt_of_pos c (b := 2147483629) (by decide)
      have bb : Sm (c.fmod 2147483629 + 104729 * k * k + 7) := Bd.mono (j := 60) (show _ < 2 ^ 60 by rw [Int.fmod_eq_emod_of_nonneg _ (by decide), e]; omega) (by decide)
      have d0 := Int.emod_nonneg ((c.fmod 2147483629 + 104729 * k * k + 7) * 48271) (b := 2147483647) (by decide)
      have d1 := Int.emod_lt_of_pos ((c.fmod 2147483629 + 104729 * k * k + 7) * 48271) (b := 2147483647) (by decide)
      refine ⟨_, rfl, _, rfl, by decide, _, rfl, (show Sm 104729 by unfold Sm; decide).mul bk, _, rfl, bkk.mul bk, bb.mul (by unfold Sm; decide), by decide, two_le, fun q hq => h q _ (Rf.Kp.new hq) hq ⟨l, _, upd_same, hl, ?_, ?_⟩⟩
      · rw [Int.fmod_eq_emod_of_nonneg _ (by decide)]
        exact d0
      · rw [Int.fmod_eq_emod_of_nonneg _ (by decide)]
        exact d1
    refine ⟨_, rfl, ⟨by decide, by decide, by decide⟩, _, rfl, ?_⟩
    by_cases hc : (10 : Int) ^ (18 : Int).toNat ≤ c
    · refine ite_t (decide_eq_true hc) ⟨_, rfl, fin2 c ?_⟩
      have : (0 : Int) ≤ 10 ^ (18 : Int).toNat := by decide
      omega
    · exact ite_f (decide_eq_false hc) (fin2 0 (by decide))
  refine ⟨_, rfl, _, rfl, _, Or.inl ⟨_, hs, rfl⟩, _, rfl, ?_⟩
  rw [List.length_map]
  by_cases hk : k < ns.length
  · refine ite_t (decide_eq_true hk) ⟨_, rfl, _, rfl, _, _, .inl hs, ?_, fin (ns[k.toNat]'(by omega))⟩
    rw [atI_of k0 (by rw [List.length_map]; exact hk), List.getElem?_map, List.getElem?_eq_getElem (by omega)]
    rfl
  · exact ite_f (decide_eq_false hk) (fin 0)
theorem r__law_take (cn : Con zn K) (h : sp__law_take zn K vs H Q E) : dSs (g__law_take ρ zn K) K m__law_take (W0 E) (D0 Q) (start N__law_take vs) H := by
  obtain ⟨r, n, rfl, n0, n1, ⟨l, m, hr, l0, m0, m1⟩, h⟩ := h
  refine ⟨_, rfl, _, _, .inl (.inl (.inl hr)), rfl, _, rfl, ?_⟩
  have sn : Sm n := Bd.mono (j := 60) (show n.natAbs < 2 ^ 60 by omega) (by decide)
  by_cases hl : 0 < l
  · refine ite_t (decide_eq_true hl) ⟨_, rfl, _, _, .inl (.inl (.inl hr)), rfl, _, rfl, by omega, _, rfl, _, _, .inl (.inl (.inl hr)), rfl, _, rfl, by omega, sn.div, _, rfl, ?_⟩
    refine .inl ⟨_, _, _, _, rfl, rfl, hr, rfl, _, rfl, ?_⟩
    have e : l.fmod n = l % n := Int.fmod_eq_emod_of_nonneg _ (by omega)
    have d : 0 ≤ l.fdiv n := by rw [Int.fdiv_eq_ediv_of_nonneg _ (by omega)]; exact Int.ediv_nonneg l0 (by omega)
    exact h _ _ (by rw [e]; exact Int.emod_nonneg _ (by omega)) (by rw [e]; exact Int.emod_lt_of_pos _ n0) ⟨_, _, upd_same, d, m0, m1⟩ KpX.set
  · have nxt : ∀ m : Int, 0 ≤ m → m < 2147483647 → ∃ m' : Int, (m * 48271 + 39373).fmod 2147483647 = m' ∧ 0 ≤ m' ∧ m' < 2147483647 := fun m a b => ⟨_, rfl, by rw [Int.fmod_eq_emod_of_nonneg _ (by decide)]; exact Int.emod_nonneg _ (by decide), by rw [Int.fmod_eq_emod_of_nonneg _ (by decide)]; exact Int.emod_lt_of_pos _ (by decide)⟩
    have sm : ∀ m : Int, 0 ≤ m → m < 2147483647 → Sm m := fun m a b => Bd.mono (j := 31) (show m.natAbs < 2 ^ 31 by omega) (by decide)
    obtain ⟨m', em, a0, a1⟩ := nxt m m0 m1
    refine ite_f (decide_eq_false hl) ⟨_, rfl, _, _, .inl (.inl (.inl hr)), rfl, (sm m m0 m1).mul (by unfold Sm; decide), by decide, _, rfl, .inl ⟨_, _, _, _, rfl, rfl, hr, rfl, ?_⟩⟩
    rw [em]
    have hr1 : upd H r (.lst [.int l, .int m']) r = some (.lst [.int l, .int m']) := upd_same
    have fin : ∀ (f : Int) (H' : Hp), RoomAt H' r → KpX r H H' → dSs (g__law_take ρ zn K) K (tlN 4 m__law_take) (W0 E) (D0 Q) [some (.ref r), some (.int n), some (.int f)] H' := fun f H' hR kp => by
      have e : f.fmod n = f % n := Int.fmod_eq_emod_of_nonneg _ (by omega)
      exact ⟨_, rfl, _, rfl, by omega, h _ _ (by rw [e]; exact Int.emod_nonneg _ (by omega)) (by rw [e]; exact Int.emod_lt_of_pos _ n0) hR kp⟩
    refine ⟨_, rfl, _, _, .inl (.inl (.inl hr1)), rfl, _, rfl, _, _, .inl (.inl (.inl hr1)), rfl, (sm m' a0 a1).mul (sm m' a0 a1), by decide, by decide, PyProof.noPylong_small (by decide), _, rfl, ⟨by decide, by decide, by decide⟩, _, rfl, ?_⟩
    by_cases hn : (10 : Int) ^ (6 : Int).toNat < n
    · obtain ⟨m2, em2, b0, b1⟩ := nxt m' a0 a1
      refine ite_t (decide_eq_true hn) ⟨_, rfl, _, _, .inl (.inl (.inl hr1)), rfl, (sm m' a0 a1).mul (by unfold Sm; decide), by decide, _, rfl, .inl ⟨_, _, _, _, rfl, rfl, hr1, rfl, ?_⟩⟩
      rw [em2]
      have hr2 : upd (upd H r (.lst [.int l, .int m'])) r (.lst [.int l, .int m2]) r = some (.lst [.int l, .int m2]) := upd_same
      have c0 : 0 ≤ (m' * m').fmod 2147483629 ∧ (m' * m').fmod 2147483629 < 2147483629 := by
        rw [Int.fmod_eq_emod_of_nonneg _ (by decide)]
        exact ⟨Int.emod_nonneg _ (by decide), Int.emod_lt_of_pos _ (by decide)⟩
      refine ⟨_, rfl, Sm.mul ?_ (by unfold Sm; decide), _, rfl, _, _, .inl (.inl (.inl hr2)), rfl, _, rfl, _, _, .inl (.inl (.inl hr2)), rfl, (sm m2 b0 b1).mul (sm m2 b0 b1), by decide, fin _ _ ⟨l, m2, upd_same, l0, b0, b1⟩ (KpX.set.trans KpX.set)⟩
      refine Bd.mono (j := 31) ?_ (by decide)
      show (((m' * m').fmod 2147483629).fdiv 16).natAbs < 2 ^ 31
      rw [Int.fdiv_eq_ediv_of_nonneg _ (by decide)]
      omega
    · exact ite_f (decide_eq_false hn) (fin _ _ ⟨l, m', upd_same, l0, a0, a1⟩ KpX.set)
theorem r__law_lowest (cn : Con zn K) (h : sp__law_lowest zn K vs H Q E) : dSs (g__law_lowest ρ zn K) K m__law_lowest (W0 E) (D0 Q) (start N__law_lowest vs) H := by
  obtain ⟨t, b, rfl, ht, hb, hz, h⟩ := h
  refine ⟨_, rfl, _, rfl, ?_⟩
  refine ⟨fun m σ H' => H' = H ∧ ∃ x y : Int, m = y.natAbs ∧ σ = [some (.int t), some (.int b), some (.int x), some (.int y), none] ∧ 0 ≤ x ∧ 0 ≤ y ∧ Int.gcd x y = Int.gcd t b ∧ Sm x ∧ Sm y, ⟨_, rfl, _, _, rfl, rfl, start_gcd ht hb⟩, ?_⟩
  rintro m σ H' ⟨rfl, x, y, rfl, rfl, h1, h2, h3, h4, h5⟩
  refine ⟨_, rfl, _, rfl, ?_⟩
  by_cases hy : y = 0
  · subst hy
    have hx : x = gcI t b := by
      unfold gcI
      rw [← h3, Int.gcd_zero_right]
      omega
    have hx0 : x ≠ 0 := by
      rw [hx]
      unfold gcI
      have := Int.gcd_ne_zero_right (a := t) hz
      omega
    have ex : lowT t b = ((if b < 0 then (-1 : Int) else 1) * t).fdiv x := by
      unfold lowT
      rw [sgn_eq hz, hx]
    have ey : lowB t b = (absI b).fdiv x := by rw [hx]; rfl
    refine ⟨two_le, fun l hl => ⟨_, rfl, ?_⟩⟩
    have el : upd H' l (.lst [.int 1, .int (-1)]) l = some (.lst [.int 1, .int (-1)]) := upd_same
    have fin : ∀ s : Int, s = (if b < 0 then (-1 : Int) else 1) → dSs (g__law_lowest ρ zn K) K (tlN 4 m__law_lowest) (W0 E) (D0 Q) [some (.int t), some (.int b), some (.int x), some (.int 0), some (.int s)] (upd H' l (.lst [.int 1, .int (-1)])) := fun s es => by
      refine ⟨_, rfl, _, rfl, Sm.mul ?_ ht, _, rfl, hx0, Sm.div h4, _, rfl, _, rfl, hx0, Sm.div h4, two_le, fun p hp => ?_⟩
      · rw [es]
        unfold Sm
        split <;> decide
      · subst es
        have q := h p _ ((Rf.Kp.new hl).trans (Rf.Kp.new hp)) (by
          by_cases e : p = l
          · rw [e]; exact hl
          · rw [upd_ne e] at hp; exact hp) upd_same
        rw [ex, ey] at q
        exact q
    refine ⟨_, .int (if b < 0 then (-1 : Int) else 1), .inl (.inl (.inl el)), ?_, fin _ rfl⟩
    by_cases hb0 : b < 0
    · rw [if_pos hb0]
      show atI _ (if decide (b < 0) = true then (1 : Int) else 0) = _
      rw [decide_eq_true hb0]
      rfl
    · rw [if_neg hb0]
      show atI _ (if decide (b < 0) = true then (1 : Int) else 0) = _
      rw [decide_eq_false hb0]
      rfl
  · have e : (!decide (y = 0)) = true := by simp [hy]
    refine ite_t e ?_
    refine ⟨fun σ' H2 => H2 = H' ∧ σ' = [some (.int t), some (.int b), some (.int y), some (.int (x.fmod y)), none], ?_, _, rfl, _, rfl, _, rfl, hy, _, _, rfl, rfl, rfl⟩
    rintro σ' H2 ⟨rfl, rfl⟩
    obtain ⟨g1, g2, g3⟩ := step_gcd h1 h2 hy
    exact ⟨_, g2, rfl, y, _, rfl, rfl, h2, g1, g3.trans h3, h5, by unfold Sm at *; omega⟩
theorem r__law_make (cn : Con zn K) (h : sp__law_make zn K vs H Q E) : dSs (g__law_make ρ zn K) K m__law_make (W0 E) (D0 Q) (start N__law_make vs) H := by
  obtain ⟨p, t, b, rfl, hp, ht, hb, hc, h⟩ := h
  refine ⟨_, rfl, _, rfl, ?_⟩
  by_cases hz : p = 0
  · subst hz
    have hb0 : b ≠ 0 := hc
    rw [mk0T, mk0B] at h
    exact ⟨_, rfl, _, rfl, t, b, rfl, ht, hb, hb0, h⟩
  · have hc : b % p = 1 := by
      unfold condL at hc
      rw [if_neg hz] at hc
      exact hc
    obtain ⟨p0, p1⟩ := hp.rng
    rw [mkp1 hz hc, mkpB hz] at h
    refine ite_f (decide_eq_false hz) ⟨_, rfl, _, rfl, hz, _, rfl, ?_⟩
    refine ite_f (by show (!decide (b.fmod p = 1)) = false; rw [Int.fmod_eq_emod_of_nonneg _ p0, decide_eq_true hc]; rfl) ⟨_, rfl, _, rfl, hz, two_le, fun q hq => ?_⟩
    rw [Int.fmod_eq_emod_of_nonneg _ p0]
    exact h q _ (Rf.Kp.new hq) hq upd_same
theorem r__law_plus (cn : Con zn K) (h : sp__law_plus zn K vs H Q E) : dSs (g__law_plus ρ zn K) K m__law_plus (W0 E) (D0 Q) (start N__law_plus vs) H := by
  obtain ⟨p, u, v, F, a, b, rfl, rfl, hu, hv, bx, by_, bz, bw, h⟩ := h
  have s : ∀ {i : Int}, Bd 2000 i → Sm i := fun h => h.sm (by decide)
  refine ⟨_, rfl, _, rfl, _, _, .inr hu, rfl, _, rfl, _, _, .inr hv, rfl, (s bx).mul (s bw), _, rfl, _, _, .inr hv, rfl, _, rfl, _, _, .inr hu, rfl, (s bz).mul (s by_), _, rfl, _, _, .inr hu, rfl, _, rfl, _, _, .inr hv, rfl, (s by_).mul (s bw), ?_⟩
  exact ⟨F.p, _, _, rfl, F.h, Bd.sm ((bx.mul bw).add (bz.mul by_)) (by decide), Bd.sm (by_.mul bw) (by decide), a.bot b, h⟩
theorem r__law_prime (cn : Con zn K) (h : sp__law_prime zn K vs H Q E) : dSs (g__law_prime ρ zn K) K m__law_prime (W0 E) (D0 Q) (start N__law_prime vs) H := by
  obtain ⟨r, rfl, hr, h⟩ := h
  refine ⟨_, rfl, r, 9, rfl, by decide, by decide, hr, fun v H1 v0 v1 hr1 k1 => ⟨_, rfl, _, rfl, ?_⟩⟩
  by_cases h8 : v = 8
  · refine ite_t (decide_eq_true h8) ⟨by rw [sizeLine_eq]; show (20 : Nat) ≤ _; decide, fun l hl => ⟨_, rfl, _, rfl, r, 20, rfl, by decide, by decide, ?_, fun u H2 u0 u1 hr2 k2 => ?_⟩⟩
    · exact hr1.kp (Rf.Kp.new hl)
    · have e := k2 l _ (hr1.ne hl) upd_same
      obtain ⟨p, hp, ep⟩ := pickI [11, 13, 17, 19, 23, 29, 31, 37, 41, 43, 47, 53, 59, 61, 67, 71, 73, 79, 83, 89] u0 u1
      have hP : ∀ p ∈ ([11, 13, 17, 19, 23, 29, 31, 37, 41, 43, 47, 53, 59, 61, 67, 71, 73, 79, 83, 89] : List Int), p = 0 ∨ p ∈ ps := by decide
      exact ⟨_, _, .inl (.inl (.inl e)), ep, h p H2 (hP p hp) hr2 (k1.trans ((Rf.Kp.new hl).kx.trans k2))⟩
  · refine ite_f (decide_eq_false h8) ⟨by rw [sizeLine_eq]; show (8 : Nat) ≤ _; decide, fun l hl => ⟨_, rfl, ?_⟩⟩
    obtain ⟨p, hp, ep⟩ := pickI [0, 0, 2, 3, 5, 7, 97, 0] v0 (show v < 8 by omega)
    have hP : ∀ p ∈ ([0, 0, 2, 3, 5, 7, 97, 0] : List Int), p = 0 ∨ p ∈ ps := by decide
    exact ⟨_, _, .inl (.inl (.inl upd_same)), ep, h p _ (hP p hp) (hr1.kp (Rf.Kp.new hl)) (k1.trans (Rf.Kp.new hl).kx)⟩
theorem r__law_number (cn : Con zn K) (h : sp__law_number zn K vs H Q E) : dSs (g__law_number ρ zn K) K m__law_number (W0 E) (D0 Q) (start N__law_number vs) H := by
  obtain ⟨r, p, F, rfl, rfl, hr, h⟩ := h
  obtain ⟨p0, p1⟩ := F.h.rng
  refine ⟨_, rfl, _, rfl, ?_⟩
  have low : ∀ (t b : Int) (H' : Hp), F.p = 0 → b ≠ 0 → t.natAbs < 2 ^ 41 → Bd 41 b → b ∣ MM → RoomAt H' r → KpX r H H' → spLLow [.int t, .int b] H' Q (fun c d H' => W0 E c d (start N__law_number [.ref r, .int F.p]) H') := fun t b H' hz hb bt bb hm hR kp => by
    refine ⟨t, b, rfl, Bd.sm (k := 41) bt (by decide), bb.sm (by decide), hb, fun q H2 k2 nq e => ?_⟩
    have n : Nu F.p (lowT t b) (lowB t b) := by
      rw [hz]
      exact (low_ok hb).1
    exact h q ⟨_, _, n⟩ H2 (sz_low hz _ ⟨rfl, rfl⟩ hb bt hm) e (hR.out kp nq) (hR.kp k2) (kp.trans k2.kx)
  by_cases hz : 0 < F.p
  · refine ite_t (decide_eq_true hz) ⟨_, rfl, _, rfl, r, F.p, rfl, hz, by omega, hr, fun v H1 v0 v1 hr1 k1 => ⟨two_le, fun q hq => ?_⟩⟩
    have n : Nu F.p v 1 := by
      unfold Nu
      rw [if_neg (by omega)]
      exact ⟨rfl, v0, v1⟩
    exact h q ⟨_, _, n⟩ _ (sz_p _ (by omega) (by decide)) upd_same (hr1.out k1 hq) (hr1.kp (Rf.Kp.new hq)) (k1.trans (Rf.Kp.new hq).kx)
  · have hz0 : F.p = 0 := by omega
    refine ite_f (decide_eq_false hz) ⟨_, rfl, r, 8, rfl, by decide, by decide, hr, fun v H1 v0 v1 hr1 k1 => ⟨_, rfl, ?_⟩⟩
    by_cases h7 : v = 7
    · have e12 : (10 : Int) ^ (12 : Int).toNat = 1000000000000 := by decide
      have e6 : (10 : Int) ^ (6 : Int).toNat = 1000000 := by decide
      refine ite_t (decide_eq_true h7) ⟨_, rfl, ⟨by decide, by decide, by decide⟩, IntMulOk.of_left (by decide), r, _, rfl, by decide, by decide, hr1, fun t H2 t0 t1 hr2 k2 => ⟨⟨by decide, by decide, by decide⟩, ⟨by decide, by decide, by decide⟩, ⟨by decide, by decide, by decide⟩, by rw [sizeLine_eq]; show (4 : Nat) ≤ _; decide, fun l hl => ⟨_, rfl, r, 4, rfl, by decide, by decide, hr2.kp (Rf.Kp.new hl), fun u H3 u0 u1 hr3 k3 => ?_⟩⟩⟩
      have e := k3 l _ (hr2.ne hl) upd_same
      obtain ⟨b, hb, eb⟩ := pickI [1, 7, (10 : Int) ^ (6 : Int).toNat, (10 : Int) ^ (12 : Int).toNat + 39] u0 u1
      have hB : ∀ b ∈ ([1, 7, (10 : Int) ^ (6 : Int).toNat, (10 : Int) ^ (12 : Int).toNat + 39] : List Int), b ≠ 0 ∧ b.natAbs < 2 ^ 41 ∧ b ∣ MM := by decide +kernel
      rw [e12] at t1
      exact ⟨_, _, .inl (.inl (.inl e)), eb, low _ b H3 hz0 (hB b hb).1 (show _ < 2 ^ 41 by rw [e12]; omega) (hB b hb).2.1 (hB b hb).2.2 hr3 (k1.trans (k2.trans ((Rf.Kp.new hl).kx.trans k3)))⟩
    · refine ite_f (decide_eq_false h7) ⟨_, rfl, r, 19, rfl, by decide, by decide, hr1, fun t H2 t0 t1 hr2 k2 => ⟨by rw [sizeLine_eq]; show (4 : Nat) ≤ _; decide, fun l hl => ⟨_, rfl, r, 4, rfl, by decide, by decide, hr2.kp (Rf.Kp.new hl), fun u H3 u0 u1 hr3 k3 => ?_⟩⟩⟩
      have e := k3 l _ (hr2.ne hl) upd_same
      obtain ⟨b, hb, eb⟩ := pickI [1, 1, 2, 3] u0 u1
      have hB : ∀ b ∈ ([1, 1, 2, 3] : List Int), b ≠ 0 ∧ b.natAbs < 2 ^ 41 ∧ b ∣ MM := by decide +kernel
      exact ⟨_, _, .inl (.inl (.inl e)), eb, low _ b H3 hz0 (hB b hb).1 (show (t - 9).natAbs < 2 ^ 41 by omega) (hB b hb).2.1 (hB b hb).2.2 hr3 (k1.trans (k2.trans ((Rf.Kp.new hl).kx.trans k3)))⟩
theorem r_is_place (cn : Con zn K) (h : sp_is_place zn K vs H Q E) : dSs (g_is_place ρ zn K) K m_is_place (W0 E) (D0 Q) (start N_is_place vs) H := by
  obtain ⟨k, rfl, k0, k1, h⟩ := h
  refine ⟨_, rfl, _, rfl, _, rfl, _, rfl, ?_⟩
  refine ite_t (c := decide (0 ≤ k)) (decide_eq_true k0) ?_
  show Q (.bl (decide (k < 60))) H
  rw [decide_eq_true k1]
  exact h
theorem r_is_product (cn : Con zn K) (h : sp_is_product zn K vs H Q E) : dSs (g_is_product ρ zn K) K m_is_product (W0 E) (D0 Q) (start N_is_product vs) H := by
  obtain ⟨π, ks, rfl, hp, ok, h⟩ := h
  refine ⟨_, rfl, .inl (.inl ⟨_, _, hp, rfl, rfl, ?_⟩)⟩
  refine ⟨_, rfl, .inr (.inl ⟨_, .inl (.inl hp), ?_⟩)⟩
  refine for_tup (K := K) (a := π) (xs := ks.map V.int) (Pv := fun i σ H' => H' = H ∧ ∃ (last : Int) (s : Option V), σ = [some (.ref π), some (.int last), s] ∧ ∀ k ∈ ks.drop i, last < k) ⟨rfl, -1, none, rfl, fun k hk => ?_⟩ (fun i σ H' _ hP => by obtain ⟨rfl, _⟩ := hP; exact .inl (.inl hp)) (fun i v σ H' hx hP => ?_) (fun σ H' hP => by obtain ⟨rfl, _⟩ := hP; exact h)
  · have := (ok.2 k hk).1
    omega
  · obtain ⟨rfl, last, s, rfl, hl⟩ := hP
    rw [List.getElem?_map] at hx
    cases e : ks[i]? with
    | none => rw [e] at hx; cases hx
    | some k =>
      rw [e] at hx
      cases hx
      have hlt : i < ks.length := (List.getElem?_eq_some_iff.mp e).1
      have ek : ks[i] = k := (List.getElem?_eq_some_iff.mp e).2
      have hd : ks.drop i = k :: ks.drop (i + 1) := by rw [← ek]; exact List.drop_eq_getElem_cons hlt
      have hk : k ∈ ks := List.mem_of_getElem? e
      have lt := hl k (by rw [hd]; exact List.mem_cons_self)
      have ok2 := ok.2 k hk
      refine ⟨_, rfl, k, rfl, ok2.1, by omega, _, rfl, _, rfl, _, rfl, ?_⟩
      refine ite_f (c := decide (k ≤ last)) (decide_eq_false (by omega)) ⟨_, rfl, rfl, k, _, rfl, fun j hj => ?_⟩
      have pw : (ks.drop i).Pairwise (· < ·) := ok.1.sublist (List.drop_sublist ..)
      rw [hd] at pw
      exact (List.pairwise_cons.mp pw).1 j hj
theorem r_look_at_terms (cn : Con zn K) (h : sp_look_at_terms zn K vs H Q E) : dSs (g_look_at_terms ρ zn K) K m_look_at_terms (W0 E) (D0 Q) (start N_look_at_terms vs) H := by
  obtain ⟨f, a, F, l, rfl, hF, ⟨rs, ha, hrs, rfl⟩, hw, h⟩ := h
  refine ⟨_, rfl, .inl (.inl ⟨_, _, ha, rfl, rfl, ?_⟩)⟩
  refine ⟨_, rfl, _, _, rfl, .inl (.inl ha), ?_⟩
  refine for_it (J := Ite K a) (n := rs.length) (Pv := fun _ σ H' => Rf.Kp H H' ∧ ∃ s t, σ = [some (.ref f), some (.ref a), s, t]) ⟨Rf.Kp.refl H, _, _, rfl⟩ (fun i σ H' hi hP => ⟨_, _, .inl (.inl (hP.1 _ _ ha)), List.getElem?_eq_getElem (by rw [vs_len]; exact hi)⟩) (fun σ H' hP => ⟨_, .inl (.inl (hP.1 _ _ ha)), by rw [vs_len]; exact Nat.le_refl _⟩) (fun i x σ H' H2 hi hP hy => ?_) (fun σ H' hP => h H' hP.1)
  obtain ⟨kp, s, t, rfl⟩ := hP
  obtain ⟨T, y, rfl, nT, rfl, hx⟩ := hy
  obtain ⟨r, er, hr, rfl⟩ := vs_get (hx _ (.inl (.inl (kp _ _ ha))))
  have k2 := kp.trans (Rf.Kp.new (o := .tup [.int (i : Nat), .ref r.τ]) nT)
  obtain ⟨h1, h2, h3⟩ := (hrs r hr).ext (Kp.ext k2)
  obtain ⟨o1, o2, o3⟩ := hw.bd (t := r.t) (List.mem_map_of_mem hr)
  have hF2 := hF.kp k2
  obtain ⟨df, ef⟩ := id hF2
  refine ⟨T, _, rfl, .inl (.inl upd_same), rfl, _, _, rfl, _, _, rfl, rfl, ?_⟩
  refine ⟨_, rfl, .inl (.inl ⟨_, _, h1, rfl, rfl, _, rfl, _, .inr ⟨_, .inl (.inl h1), rfl⟩, _, rfl, ?_⟩)⟩
  refine ite_f (c := !decide (((2 : Nat) : Int) = 2)) rfl ?_
  refine ⟨_, rfl, _, _, .inr (.inl (.inl h1)), rfl, _, _, rfl, h2, o1, ?_⟩
  refine ⟨zn.Field, _, ⟨rfl, rfl, rfl⟩, _, rfl, f, df, _, rfl, ef, fld_no _ (by decide +kernel), _, rfl, _, _, .inr (.inl (.inl h1)), rfl, f, F.p, _, rfl, hF2, F.h, NumAt.numV h3 o2 o3 fun H3 k3 => ?_⟩
  exact ⟨k2.trans k3, _, _, rfl⟩
theorem r_Sum___init__ (cn : Con zn K) (h : sp_Sum___init__ zn K vs H Q E) : dSs (g_Sum___init__ ρ zn K) K m_Sum___init__ (W0 E) (D0 Q) (start N_Sum___init__ vs) H := by
  obtain ⟨x, f, a, dx, F, l, rfl, hx, hF, hT, hw, tb, h⟩ := h
  refine ⟨_, rfl, _, rfl, ite_f (c := false) rfl ?_⟩
  refine ⟨_, rfl, _, rfl, f, a, F, l, rfl, hF, hT, hw, fun H1 k1 => ?_⟩
  refine ⟨_, rfl, _, rfl, x, _, dx, [], rfl, k1 _ _ hx, aO, by decide, ?_⟩
  have hx1 := k1 _ _ hx
  have nf := field_ne hF hx
  have x1 : ExtX x H (upd H1 x (.ins zn.Sum dx (putF "own_field" (.ref f) []))) := kx_x (k1.kx.trans KpX.set)
  refine ⟨_, rfl, _, rfl, f, a, F, l, rfl, (hF.kp k1).set nf, (hT.kp k1).set hx1, hw, tabs_set (LamX.Tabs.ext tb k1) hx1, fun r H2 e2 t2 m2 nr => ?_⟩
  have hx2 := e2 _ _ (upd_same (H := H1) (a := x) (o := .ins zn.Sum dx (putF "own_field" (.ref f) []))) (fun _ z => by cases z)
  refine ⟨_, rfl, x, _, dx, _, rfl, hx2, aR, show (1 : Nat) < 1000 by decide, ?_⟩
  exact h _ (x1.trans ((ext_x e2).trans (kx_x KpX.set))) (tabs_set t2 hx2) ⟨dx, f, r, upd_same, (((hF.kp k1).set nf).ext e2).set nf, m2.set hx2⟩ (fun S d f' a' e xs z => by
    rw [upd_same] at e
    injection e with e
    injection e with _ _ e
    have e3 := congrArg (List.lookup ("row" : Str)) e
    rw [show List.lookup ("row" : Str) (sumF f' a') = _ from sum_r f' a', show List.lookup ("row" : Str) (putF "row" (.ref r) (putF "own_field" (.ref f) [])) = _ from sum_r f r] at e3
    have e4 : r = a' := V.ref.inj (Option.some.inj e3)
    refine nr xs ?_
    rw [e4, upd_ne (fun w => by rw [w, hx] at z; cases z)]
    exact k1 _ _ z)
theorem r_gathered (cn : Con zn K) (h : sp_gathered zn K vs H Q E) : dSs (g_gathered ρ zn K) K m_gathered (W0 E) (D0 Q) (start N_gathered vs) H := by
  obtain ⟨f, a, F, l, rfl, hF, ha, hw, tb, h⟩ := h
  obtain ⟨ra, ea, la, ga⟩ := ha.at
  obtain ⟨df, ef⟩ := id hF
  have lw := hw.len
  refine .inl fun d hd => ?_
  have k0 := Rf.Kp.new (o := .dT []) hd
  refine ⟨_, rfl, .inl ⟨_, .inl (.inl (k0 _ _ ea)), ?_⟩⟩
  refine for_list (K := K) (a := a) (xs := vsOf ra) (Pv := fun i σ H' => Rf.Kp H H' ∧ (∃ ds : List (Dn F), DicAt H' d (gat (l.take i)) ds) ∧ ∃ s3 s4 s5, σ = [some (.ref f), some (.ref a), some (.ref d), s3, s4, s5]) ⟨k0, ⟨[], upd_same, rfl, fun _ h => (by cases h)⟩, _, _, _, rfl⟩ (fun i σ H' _ hP => .inl (.inl (hP.1 _ _ ea))) (fun i v σ H1 hx hP => ?_) (fun σ H1 hP => ?_)
  · obtain ⟨k1, ⟨ds, hds⟩, s3, s4, s5, rfl⟩ := hP
    obtain ⟨r, rfl, hr, hi, hm, tk⟩ := ga i v hx
    obtain ⟨r1, r2, r3⟩ := hr.ext (Kp.ext k1)
    obtain ⟨o1, o2, o3⟩ := hw.bd hm
    have hlt : i < l.length := (List.getElem?_eq_some_iff.mp hi).1
    obtain ⟨gl, gb⟩ := hw.gat (Nat.le_of_lt hlt)
    have ld : ds.length = (gat (l.take i)).length := by rw [← hds.dm]; exact (List.length_map ..).symm
    obtain ⟨g1, g2⟩ := getN_bd (k := r.t.1) (by rw [hds.dm]; exact gb)
    have lk : (kvOf ds).length = ds.length := List.length_map ..
    refine ⟨r.τ, _, rfl, .inl (.inl r1), rfl, _, _, rfl, _, _, rfl, rfl, ?_⟩
    refine ⟨zn.Field, _, ⟨rfl, rfl, rfl⟩, _, rfl, f, df, _, rfl, k1 _ _ ef, fld_no _ (by decide +kernel), _, rfl, d, rfl, .inr ⟨_, .inl hds.e⟩, _, rfl, kvOf ds, ky r.t.1, r.π, hds.e, rfl, by rw [ky_kV]; exact r2, lt_line (by omega), ?_⟩
    have S := hds.setd (K := K) (Z := zn.ZERO) (k := r.t.1) (by omega) cn.zero
    refine ⟨fun v hv => ?_, fun hn => ?_⟩
    · obtain ⟨w, rfl, sd⟩ := S.1 v hv
      have k2 : Rf.Kp H H1 := (k1.kx.trans sd.kx).kp hd
      have t2 := hr.ext (Kp.ext k2)
      refine ⟨_, rfl, f, w, r.q, F, getN ds r.t.1, r.t.2, rfl, hF.kp k2, sd.nk, t2.2.2.k, g1, g2, o2, o3, fun q H3 k3 nq hq => ?_⟩
      have e3 := k3 _ _ sd.e
      refine ⟨_, rfl, _, rfl, .inr ⟨d, _, rfl, DPut.t e3 (by rw [ky_kV]; exact k3 _ _ t2.2.1) (lt_line sd.len), ?_⟩⟩
      have D := hds.put (q := q) (k := r.t.1) (c := r.t.2) e3 (sd.pk q) (fun x hx => (sd.ns x hx).ext (Kp.ext k3)) hq
      refine ⟨((k2.trans k3).kx.trans KpX.set).kp hd, ⟨setDn ds r.t.1 q (getN ds r.t.1 + r.t.2), ?_⟩, _, _, _, rfl⟩
      have : l.take (i + 1) = l.take i ++ [(r.t.1, r.t.2)] := tk
      rw [this]
      exact D
    · have sd := S.2 hn
      have k2 : Rf.Kp H (upd H1 d (.dT (putK (kvOf ds) (ky r.t.1) (.ref zn.ZERO)))) := (k1.kx.trans sd.kx).kp hd
      have t2 := hr.ext (Kp.ext k2)
      refine ⟨_, rfl, f, zn.ZERO, r.q, F, getN ds r.t.1, r.t.2, rfl, hF.kp k2, sd.nk, t2.2.2.k, g1, g2, o2, o3, fun q H3 k3 nq hq => ?_⟩
      have e3 := k3 _ _ sd.e
      refine ⟨_, rfl, _, rfl, .inr ⟨d, _, rfl, DPut.t e3 (by rw [ky_kV]; exact k3 _ _ t2.2.1) (lt_line sd.len), ?_⟩⟩
      have D := hds.put (q := q) (k := r.t.1) (c := r.t.2) e3 (sd.pk q) (fun x hx => (sd.ns x hx).ext (Kp.ext k3)) hq
      refine ⟨((k2.trans k3).kx.trans KpX.set).kp hd, ⟨setDn ds r.t.1 q (getN ds r.t.1 + r.t.2), ?_⟩, _, _, _, rfl⟩
      have : l.take (i + 1) = l.take i ++ [(r.t.1, r.t.2)] := tk
      rw [this]
      exact D
  · obtain ⟨k1, ⟨ds, hds⟩, s3, s4, s5, rfl⟩ := hP
    rw [vs_len, la, List.take_length] at hds
    obtain ⟨gl, _⟩ := hw.gat (Nat.le_refl l.length)
    rw [List.take_length] at gl
    have ld : ds.length = (gat l).length := by rw [← hds.dm]; exact (List.length_map ..).symm
    have lk : (kvOf ds).length = ds.length := List.length_map ..
    refine ⟨d, _, hds.e, trivial, fun od => ?_⟩
    refine ⟨_, rfl, d, od, kvOf ds, rfl, upd_same, fun D hD => ?_⟩
    have k2 := Rf.Kp.new (o := .lst []) hD
    refine lc_it (n := ds.length) (Pv := fun i H' => Rf.Kp (upd H1 d (.frz od (.dT (kvOf ds)))) H' ∧ TermsAt H' D (nzs ((dmOf ds).take i))) ⟨k2, TermsAt.nil upd_same⟩ (fun i H' hi hP => ⟨hP.1 _ _ upd_same, by omega⟩) (fun H' hP => ⟨hP.1 _ _ upd_same, by omega⟩) (fun i x H2 H3 hi hP hy => ?_) (fun H2 hP => ?_)
    · obtain ⟨k3, t3⟩ := hP
      obtain ⟨T, q, k, v, ek, hq, rfl, nT, rfl⟩ := hy
      have ex : (kvOf ds)[i]? = some (ky ds[i].t.1, .ref ds[i].q) := by
        unfold kvOf
        rw [List.getElem?_map, List.getElem?_eq_getElem hi]
        rfl
      rw [ex] at ek
      cases ek
      rw [ky_kV] at hq
      have hx := hds.nums ds[i] (List.getElem_mem _)
      have k4 := Rf.Kp.new (o := .tup [.ref q, .ref ds[i].q]) nT
      have hx3 : NumAt (upd H2 T (.tup [.ref q, .ref ds[i].q])) ds[i].q ds[i].t.2 := k4 _ _ (k3 _ _ (hx.setD hds.e))
      have tk : (dmOf ds).take (i + 1) = (dmOf ds).take i ++ [ds[i].t] := by
        unfold dmOf
        rw [List.take_succ, List.getElem?_map, List.getElem?_eq_getElem hi]
        rfl
      refine ⟨T, _, rfl, .inl (.inl upd_same), rfl, _, _, rfl, _, _, rfl, rfl, rfl, ?_⟩
      refine ⟨_, rfl, .inr (.inl ⟨dN ds[i].t.2, dN (0 : Nm F), hx3.k.dp, NumK.dp (cn.zero _), rfl, rfl, _, rfl, ?_⟩)⟩
      rw [eqvN]
      by_cases h0 : ds[i].t.2 = 0
      · refine ite_f (by rw [decide_eq_true h0]; rfl) ⟨k3.trans k4, ?_⟩
        rw [tk, nz_app, nz_one, if_neg (by simpa using h0), List.append_nil]
        exact t3.kp k4
      · refine ite_t (by rw [decide_eq_false h0]; rfl) ⟨_, rfl, _, rfl, two_le, fun τ hτ => ?_⟩
        have k5 := Rf.Kp.new (o := .tup [.ref q, .ref ds[i].q]) hτ
        obtain ⟨acc, e6, l6, k6, t6⟩ := grow (r := ⟨τ, q, ds[i].q, (ds[i].t.1, ds[i].t.2)⟩) hD k3 t3 (k4.trans k5) ⟨upd_same, k5 _ _ (k4 _ _ hq), k5 _ _ hx3⟩
        have ln : (nzs ((dmOf ds).take i)).length ≤ ds.length := by
          refine Nat.le_trans (List.length_filter_le ..) (Nat.le_trans (List.length_take_le' ..) ?_)
          unfold dmOf
          rw [List.length_map]
          exact Nat.le_refl _
        refine ⟨acc, e6, lt_line (by omega), k6, ?_⟩
        rw [tk, nz_app, nz_one, if_pos h0]
        exact t6
    · obtain ⟨k3, t3⟩ := hP
      have fd := k3 _ _ (upd_same (H := H1) (a := d) (o := .frz od (.dT (kvOf ds))))
      refine ⟨fd, ?_⟩
      have ld2 : (dmOf ds).take ds.length = dmOf ds := List.take_of_length_le (Nat.le_of_eq (List.length_map ..))
      rw [ld2, hds.dm] at t3
      have t4 := t3.setF (o := .dT (kvOf ds)) fd
      have k5 : Rf.Kp H1 (upd H2 d (.dT (kvOf ds))) := fun b o e => by
        by_cases z : b = d
        · rw [z, upd_same, ← hds.e, ← z]
          exact e
        · rw [upd_ne z]
          exact k3 _ _ (by rw [upd_ne z]; exact e)
      generalize upd H2 d (.dT (kvOf ds)) = H5 at t4 k5
      have k6 := k1.trans k5
      obtain ⟨rs, e5, h5, m5⟩ := t4
      obtain ⟨ss, es, hss, ms⟩ := sort_prog m5
      refine ⟨_, rfl, LamX.Tabs.ext tb k6, D, rs.map toL, rfl, .inl (.inl (by rw [e5, List.map_map]; rfl)), fun r hr => ?_, fun p H6 e6 t6 hp => ?_⟩
      · obtain ⟨r', hr', rfl⟩ := List.mem_map.mp hr
        exact ⟨(h5 r' hr').1, (h5 r' hr').2.1⟩
      · have k7 := Rf.Kp.new (o := .lst (vsOf ss)) hp
        rw [es]
        exact h p _ ((Kp.ext k6).trans (e6.trans (Kp.ext k7))) (LamX.Tabs.ext t6 k7) ⟨ss, upd_same, fun r hr => (h5 r (hss r hr)).ext (e6.trans (Kp.ext k7)), ms⟩ (fun xs z => by
          have := e6 _ _ (k6 _ _ z) (fun _ w => by cases w)
          rw [hp] at this
          cases this)
theorem r__law_product (cn : Con zn K) (h : sp__law_product zn K vs H Q E) : dSs (g__law_product ρ zn K) K m__law_product (W0 E) (D0 Q) (start N__law_product vs) H := by
  obtain ⟨r, n, m, rfl, hr, n0, n1, m0, m1, h⟩ := h
  refine ⟨_, rfl, n, rfl, by omega, by omega, fun D hD => ?_⟩
  have nD : D ≠ r := hr.ne hD
  refine lc_range (Pv := fun j H' => KpX r H H' ∧ RoomAt H' r ∧ ∃ ks : Pr, H' D = some (.lst (ks.map V.int)) ∧ ks.Pairwise (· < ·) ∧ (∀ k ∈ ks, 0 ≤ k ∧ k < (j : Int)) ∧ ks.length ≤ j) ⟨kx_out (KpX.refl r H) hD, hr.set (Ne.symm nD), [], upd_same, .nil, fun k hk => (by cases hk), Nat.le_refl _⟩ (fun j H1 hj hP => ?_) (fun H1 hP => ?_)
  · obtain ⟨k1, hr1, ks, e1, p1, b1, l1⟩ := hP
    refine ⟨rfl, _, rfl, _, rfl, r, m, rfl, m0, by omega, hr1, fun v H2 v0 v1 hr2 k2 => ⟨_, rfl, ?_⟩⟩
    have e2 := k2 _ _ nD e1
    by_cases hv : v = 0
    · refine ite_t (c := decide (v = 0)) (decide_eq_true hv) ⟨_, rfl, _, e2, ?_, kx_out (k1.trans k2) hD, hr2.set (Ne.symm nD), ks ++ [0 + (j : Int)], by rw [upd_same, List.map_append]; rfl, ?_, fun k hk => ?_, by rw [List.length_append]; exact Nat.succ_le_succ l1⟩
      · rw [List.length_map]
        exact lt_line (by omega)
      · refine List.pairwise_append.mpr ⟨p1, List.pairwise_singleton .., fun a ha b hb => ?_⟩
        rw [List.mem_singleton.mp hb]
        have := (b1 a ha).2
        omega
      · rcases List.mem_append.mp hk with hk | hk
        · have := b1 k hk
          omega
        · rw [List.mem_singleton.mp hk]
          omega
    · refine ite_f (c := decide (v = 0)) (decide_eq_false hv) ⟨k1.trans k2, hr2, ks, e2, p1, fun k hk => ?_, by omega⟩
      have := b1 k hk
      omega
  · obtain ⟨k1, hr1, ks, e1, p1, b1, l1⟩ := hP
    refine ⟨D, _, rfl, .inl ⟨.inl (.inl e1), fun q hq => ?_⟩⟩
    refine h q ks _ ⟨p1, fun k hk => ?_⟩ (fun k hk => ?_) upd_same (hr1.out k1 hq) (hr1.kp (Rf.Kp.new hq)) (k1.trans (Rf.Kp.new hq).kx)
    · have := b1 k hk
      omega
    · have := b1 k hk
      omega
theorem r__law_terms (cn : Con zn K) (h : sp__law_terms zn K vs H Q E) : dSs (g__law_terms ρ zn K) K m__law_terms (W0 E) (D0 Q) (start N__law_terms vs) H := by
  obtain ⟨r, p, n, m, F, rfl, rfl, hr, n0, n1, m0, m1, h⟩ := h
  refine ⟨le_line (Nat.zero_le _), fun c hc => ?_⟩
  have nc : c ≠ r := hr.ne hc
  have k0 := Rf.Kp.new (o := .lst []) hc
  refine ⟨_, rfl, _, rfl, r, m + 1, rfl, by omega, by omega, hr.kp k0, fun v H1 v0 v1 hr1 k1 => ⟨v, rfl, by omega, by omega, ?_⟩⟩
  have kx1 : KpX r H H1 := k0.kx.trans k1
  refine for_range (Pv := fun i σ H' => KpX r H H' ∧ RoomAt H' r ∧ (∃ l : List (Tm F), Wf 1 41 i l ∧ (∀ t ∈ l, ∀ k ∈ t.1, k < n) ∧ TermsAt H' c l) ∧ ∃ s5 s6, σ = [some (.ref r), some (.int F.p), some (.int n), some (.int m), some (.ref c), s5, s6]) ⟨kx1, hr1, ⟨[], ⟨fun t ht => (by cases ht), Nat.le_refl _, by decide⟩, fun t ht => (by cases ht), TermsAt.nil (k1 _ _ nc upd_same)⟩, _, _, rfl⟩ (fun i σ H2 hi hP => ?_) (fun σ H2 hP => ?_)
  · obtain ⟨k2, hr2, ⟨l, wl, bl, tl⟩, s5, s6, rfl⟩ := hP
    refine ⟨_, rfl, _, rfl, _, rfl, r, 2, rfl, by decide, by decide, hr2, fun u H3 u0 u1 hr3 k3 => ?_⟩
    refine ⟨r, n, 2 + u, rfl, hr3, n0, n1, by omega, by omega, fun q ks H4 ok lt hq nq hr4 k4 => ?_⟩
    have t4 := (tl.kx hr2 nc k3).kx hr3 nc k4
    obtain ⟨xs, e4, _⟩ := id t4
    refine ⟨_, rfl, .inl ⟨rfl, _, .inl (.inl e4)⟩, _, rfl, _, rfl, _, rfl, r, F.p, F, rfl, rfl, hr4, fun q' a H5 sz hq' nq' hr5 k5 => ⟨two_le, fun τ hτ => ?_⟩⟩
    have t5 := t4.kx hr4 nc k5
    have k6 := Rf.Kp.new (o := .tup [.ref q, .ref q']) hτ
    obtain ⟨acc, e6, l6, t6⟩ := push (r := ⟨τ, q, q', (ks, a)⟩) (t5.kp k6) ⟨upd_same, k6 _ _ (hq.kx hr4 k5), k6 _ _ hq'⟩
    have lw := wl.len
    have hi' : i < 101 := by omega
    refine ⟨c, acc, rfl, e6, lt_line (by omega), kx_out ((((k2.trans k3).trans k4).trans k5).trans k6.kx) hc, (hr5.kp k6).set (Ne.symm nc), ⟨_, ⟨fun t ht => ?_, ?_, by decide⟩, fun t ht => ?_, t6⟩, _, _, rfl⟩
    · rcases List.mem_append.mp ht with ht | ht
      · exact wl.ok t ht
      · rw [List.mem_singleton.mp ht]
        exact ⟨ok, sz⟩
    · rw [List.length_append]
      exact Nat.succ_le_succ lw
    · rcases List.mem_append.mp ht with ht | ht
      · exact bl t ht
      · rw [List.mem_singleton.mp ht]
        exact lt
  · obtain ⟨k2, hr2, ⟨l, wl, bl, tl⟩, s5, s6, rfl⟩ := hP
    exact ⟨_, rfl, h c l H2 (wl.mono (Nat.le_refl _) (Nat.le_refl _) (by omega)) bl tl hc hr2 k2⟩
theorem r__law_gather (cn : Con zn K) (h : sp__law_gather zn K vs H Q E) : dSs (g__law_gather ρ zn K) K m__law_gather (W0 E) (D0 Q) (start N__law_gather vs) H := by
  obtain ⟨p, a, F, l, rfl, rfl, ha, hw, h⟩ := h
  obtain ⟨ra, ea, la, ga⟩ := ha.at
  have lw := hw.len
  refine .inl fun d hd => ?_
  have k0 := Rf.Kp.new (o := .dT []) hd
  refine ⟨_, rfl, .inl ⟨_, .inl (.inl (k0 _ _ ea)), ?_⟩⟩
  refine for_list (K := K) (a := a) (xs := vsOf ra) (Pv := fun i σ H' => Rf.Kp H H' ∧ (∃ ds : List (Dn F), DicAt H' d (gat (l.take i)) ds) ∧ ∃ s3 s4 s5 s6, σ = [some (.int F.p), some (.ref a), some (.ref d), s3, s4, s5, s6]) ⟨k0, ⟨[], upd_same, rfl, fun _ h => (by cases h)⟩, _, _, _, _, rfl⟩ (fun i σ H' _ hP => .inl (.inl (hP.1 _ _ ea))) (fun i v σ H1 hx hP => ?_) (fun σ H1 hP => ?_)
  · obtain ⟨k1, ⟨ds, hds⟩, s3, s4, s5, s6, rfl⟩ := hP
    obtain ⟨r, rfl, hr, hi, hm, tk⟩ := ga i v hx
    obtain ⟨r1, r2, r3⟩ := hr.ext (Kp.ext k1)
    obtain ⟨o1, o2, o3⟩ := hw.bd hm
    have hlt : i < l.length := (List.getElem?_eq_some_iff.mp hi).1
    obtain ⟨gl, gb⟩ := hw.gat (Nat.le_of_lt hlt)
    have ld : ds.length = (gat (l.take i)).length := by rw [← hds.dm]; exact (List.length_map ..).symm
    obtain ⟨g1, g2⟩ := getN_bd (k := r.t.1) (by rw [hds.dm]; exact gb)
    have lk : (kvOf ds).length = ds.length := List.length_map ..
    refine ⟨r.τ, _, rfl, .inl (.inl r1), rfl, _, _, rfl, _, _, rfl, rfl, ?_⟩
    refine ⟨_, rfl, _, rfl, d, rfl, .inr ⟨_, .inl hds.e⟩, _, rfl, two_le, fun z hz => ?_⟩
    have k2 := Rf.Kp.new (o := .tup [.int 0, .int 1]) hz
    have d2 : DicAt (upd H1 z (.tup [.int 0, .int 1])) d (gat (l.take i)) ds := ⟨k2 _ _ hds.e, hds.dm, fun x hx => k2 _ _ (hds.nums x hx)⟩
    obtain ⟨w, ew, nw⟩ := d2.getD (z := z) r.t.1 upd_same
    refine ⟨_, .inr ⟨kvOf ds, ky r.t.1, r.π, .inl d2.e, rfl, by rw [ky_kV]; exact k2 _ _ r2, rfl⟩, ?_⟩
    rw [ew]
    refine ⟨_, rfl, F.p, w, r.q, F, getN ds r.t.1, r.t.2, rfl, rfl, nw.k, NumAt.k (k2 _ _ r3), g1, g2, o2, o3, fun q H3 k3 nq hq => ?_⟩
    have e3 := k3 _ _ d2.e
    refine ⟨_, rfl, _, rfl, .inr ⟨d, _, rfl, DPut.t e3 (by rw [ky_kV]; exact k3 _ _ (k2 _ _ r2)) (lt_line (by omega)), ?_⟩⟩
    have D := hds.put (q := q) (k := r.t.1) (c := r.t.2) e3 rfl (fun x hx => k3 _ _ (d2.nums x hx)) hq
    refine ⟨(((k1.trans k2).trans k3).kx.trans KpX.set).kp hd, ⟨setDn ds r.t.1 q (getN ds r.t.1 + r.t.2), ?_⟩, _, _, _, _, rfl⟩
    have : l.take (i + 1) = l.take i ++ [(r.t.1, r.t.2)] := tk
    rw [this]
    exact D
  · obtain ⟨k1, ⟨ds, hds⟩, s3, s4, s5, s6, rfl⟩ := hP
    rw [vs_len, la, List.take_length] at hds
    obtain ⟨gl, _⟩ := hw.gat (Nat.le_refl l.length)
    rw [List.take_length] at gl
    have ld : ds.length = (gat l).length := by rw [← hds.dm]; exact (List.length_map ..).symm
    have lk : (kvOf ds).length = ds.length := List.length_map ..
    have nd : ((dmOf ds).map Prod.fst).Nodup := by rw [hds.dm]; exact gat_nodup l
    refine ⟨d, _, hds.e, trivial, fun od => ?_⟩
    refine ⟨_, rfl, .inr (.inr ⟨od, kvOf ds, upd_same, fun D hD => ?_⟩)⟩
    have k2 := Rf.Kp.new (o := .lst []) hD
    refine lc_it (n := ds.length) (Pv := fun i H' => Rf.Kp (upd H1 d (.frz od (.dT (kvOf ds)))) H' ∧ TrisAt H' D (nzs ((dmOf ds).take i))) ⟨k2, [], upd_same, fun _ h => (by cases h), rfl⟩ (fun i H' hi hP => ⟨hP.1 _ _ upd_same, by omega⟩) (fun H' hP => ⟨hP.1 _ _ upd_same, by omega⟩) (fun i x H2 H3 hi hP hy => ?_) (fun H2 hP => ?_)
    · obtain ⟨k3, t3⟩ := hP
      obtain ⟨rfl, k, v, q, ek, rfl, hq⟩ := hy
      have ex : (kvOf ds)[i]? = some (ky ds[i].t.1, .ref ds[i].q) := by
        unfold kvOf
        rw [List.getElem?_map, List.getElem?_eq_getElem hi]
        rfl
      rw [ex] at ek
      cases ek
      have hq' := hq
      rw [ky_kV] at hq'
      have hx := hds.nums ds[i] (List.getElem_mem _)
      have hx2 : NumAt H3 ds[i].q ds[i].t.2 := k3 _ _ (hx.setD hds.e)
      have fd := k3 _ _ (upd_same (H := H1) (a := d) (o := .frz od (.dT (kvOf ds))))
      have gv := hds.get nd hi
      have tk : (dmOf ds).take (i + 1) = (dmOf ds).take i ++ [ds[i].t] := by
        unfold dmOf
        rw [List.take_succ, List.getElem?_map, List.getElem?_eq_getElem hi]
        rfl
      refine ⟨rfl, _, rfl, _, rfl, _, .inr ⟨kvOf ds, ky ds[i].t.1, q, .inr ⟨od, fd⟩, rfl, hq, gv.symm⟩, two_le, fun z hz => ?_⟩
      have k4 := Rf.Kp.new (o := .tup [.int 0, .int 1]) hz
      refine .inr (.inl ⟨dN ds[i].t.2, dN (0 : Nm F), NumK.dp (NumAt.k (k4 _ _ hx2)), NumK.dp (.inl (.inl upd_same)), rfl, rfl, _, rfl, ?_⟩)
      rw [eqvN]
      by_cases h0 : ds[i].t.2 = 0
      · refine ite_f (by rw [decide_eq_true h0]; rfl) ⟨k3.trans k4, ?_⟩
        rw [tk, nz_app, nz_one, if_neg (by simpa using h0), List.append_nil]
        exact t3.kp k4
      · refine ite_t (by rw [decide_eq_false h0]; rfl) ⟨_, rfl, _, .inr ⟨_, .inl (.inl (k4 _ _ hq')), rfl⟩, _, rfl, _, rfl, _, rfl, _, .inr ⟨kvOf ds, ky ds[i].t.1, q, .inr ⟨od, k4 _ _ fd⟩, rfl, k4 _ _ hq, gv.symm⟩, le_line (show 3 ≤ 3000 by decide), fun τ hτ => ?_⟩
        have k5 := Rf.Kp.new (o := .tup [.int ((ds[i].t.1.map V.int).length : Nat), .ref q, .ref ds[i].q]) hτ
        obtain ⟨acc, e6, l6, t6⟩ := push3 (r := ⟨τ, q, ds[i].q, (ds[i].t.1, ds[i].t.2)⟩) (t3.kp (k4.trans k5)) ⟨by rw [upd_same, List.length_map], k5 _ _ (k4 _ _ hq'), k5 _ _ (k4 _ _ hx2)⟩
        have ln : (nzs ((dmOf ds).take i)).length ≤ ds.length := by
          refine Nat.le_trans (List.length_filter_le ..) (Nat.le_trans (List.length_take_le' ..) ?_)
          unfold dmOf
          rw [List.length_map]
          exact Nat.le_refl _
        refine ⟨acc, e6, lt_line (by omega), (((k3.trans k4).trans k5).kx.trans KpX.set).kp hD, ?_⟩
        rw [tk, nz_app, nz_one, if_pos h0]
        exact t6
    · obtain ⟨k3, t3⟩ := hP
      have fd := k3 _ _ (upd_same (H := H1) (a := d) (o := .frz od (.dT (kvOf ds))))
      refine ⟨fd, ?_⟩
      have ld2 : (dmOf ds).take ds.length = dmOf ds := List.take_of_length_le (Nat.le_of_eq (List.length_map ..))
      rw [ld2, hds.dm] at t3
      have t4 := t3.setF (o := .dT (kvOf ds)) fd
      have k5 : Rf.Kp H1 (upd H2 d (.dT (kvOf ds))) := fun b o e => by
        by_cases z : b = d
        · rw [z, upd_same, ← hds.e, ← z]
          exact e
        · rw [upd_ne z]
          exact k3 _ _ (by rw [upd_ne z]; exact e)
      generalize upd H2 d (.dT (kvOf ds)) = H5 at t4 k5
      have k6 := k1.trans k5
      obtain ⟨rs, e5, h5, m5⟩ := t4
      obtain ⟨ss, es, hss, ms⟩ := sort_law m5
      refine ⟨_, rfl, D, vsOf rs, rs.map keyD, rfl, .inl (.inl e5), tris_dp h5, law_alike rs, law_sorts rs, fun x hx => ?_, fun S hS => ?_⟩
      · obtain ⟨r', _, rfl⟩ := List.mem_map.mp hx
        exact law_depth r'
      rw [es]
      have k7 := Rf.Kp.new (o := .lst (vsOf ss)) hS
      have lG : (G l).length ≤ l.length := G_len
      refine .inl ⟨_, .inl (.inl upd_same), fun O hO => ?_⟩
      have k8 := Rf.Kp.new (o := .lst []) hO
      have k68 := k6.trans (k7.trans k8)
      have hO6 : H O = none := (k6.trans k7).free hO
      refine lc_list (K := K) (a := S) (xs := vsOf ss) (Pv := fun i H' => Rf.Kp (upd H5 S (.lst (vsOf ss))) H' ∧ TermsAt H' O ((tmOf ss).take i)) ⟨k8, TermsAt.nil upd_same⟩ (fun i H' _ hP => .inl (.inl (hP.1 _ _ upd_same))) (fun i x H6 hx hP => ?_) (fun H6 hP => ?_)
      · obtain ⟨k9, t9⟩ := hP
        obtain ⟨r, rfl, hr, tk⟩ := tris_at hx
        obtain ⟨r1, r2, r3⟩ := (h5 r (hss r hr)).kp (k7.trans k9)
        refine ⟨r.τ, _, rfl, .inl (.inl r1), rfl, _, _, rfl, _, _, rfl, _, _, rfl, rfl, rfl, ?_⟩
        refine ⟨_, rfl, _, rfl, two_le, fun τ hτ => ?_⟩
        have kt := Rf.Kp.new (o := .tup [.ref r.π, .ref r.q]) hτ
        obtain ⟨acc, e10, l10, t10⟩ := push (r := ⟨τ, r.π, r.q, r.t⟩) (t9.kp kt) ⟨upd_same, kt _ _ r2, kt _ _ r3⟩
        have ln : ((tmOf ss).take i).length ≤ l.length := by
          refine Nat.le_trans (List.length_take_le' ..) ?_
          rw [ms]
          exact lG
        refine ⟨acc, e10, lt_line (by omega), ((k9.trans kt).kx.trans KpX.set).kp hO, ?_⟩
        rw [tk]
        exact t10
      · obtain ⟨k9, t9⟩ := hP
        have : (tmOf ss).take (vsOf ss).length = G l := by
          rw [← ms]
          exact List.take_of_length_le (by rw [vs_len]; exact Nat.le_of_eq (List.length_map ..))
        rw [this] at t9
        exact h O H6 (k6.trans (k7.trans k9)) hO6 t9
end
end K08
namespace K08
open PySem PySem.Spec PyProof.Rows L2 Rf NumP NumF SumP TermP
section
variable {K : Frag} {vs : List V} {H : Hp} {Q : VK} {E : XK} {zn : Cn} {ρ : Fs}
theorem r_Field_times (cn : Con zn K) (h : sp_Field_times zn K vs H Q E) : dSs (g_Field_times ρ zn K) K m_Field_times (W0 E) (D0 Q) (start N_Field_times vs) H := by
  obtain ⟨f, u, v, F, a, b, rfl, hF, hu, hv, bx, by_, bz, bw, h⟩ := h
  obtain ⟨dx, hf⟩ := id hF
  have s : ∀ {i : Int}, Bd 2000 i → Sm i := fun h => h.sm (by decide)
  refine ⟨zn.Field, _, ⟨rfl, rfl, rfl⟩, _, rfl, f, dx, _, rfl, hf, fld_no _ (by decide +kernel), _, rfl, _, _, .inr hu, rfl, _, rfl, _, _, .inr hv, rfl, (s bx).mul (s bz), _, rfl, _, _, .inr hu, rfl, _, rfl, _, _, .inr hv, rfl, (s by_).mul (s bw), ?_⟩
  exact ⟨f, F.p, _, _, rfl, hF, F.h, Bd.sm (bx.mul bz) (by decide), Bd.sm (by_.mul bw) (by decide), cond_bot a b, h⟩
theorem r__law_times (cn : Con zn K) (h : sp__law_times zn K vs H Q E) : dSs (g__law_times ρ zn K) K m__law_times (W0 E) (D0 Q) (start N__law_times vs) H := by
  obtain ⟨p, u, v, F, a, b, rfl, rfl, hu, hv, bx, by_, bz, bw, h⟩ := h
  have s : ∀ {i : Int}, Bd 2000 i → Sm i := fun h => h.sm (by decide)
  refine ⟨_, rfl, _, rfl, _, _, .inr hu, rfl, _, rfl, _, _, .inr hv, rfl, (s bx).mul (s bz), _, rfl, _, _, .inr hu, rfl, _, rfl, _, _, .inr hv, rfl, (s by_).mul (s bw), ?_⟩
  exact ⟨F.p, _, _, rfl, F.h, Bd.sm (bx.mul bz) (by decide), Bd.sm (by_.mul bw) (by decide), a.bot b, h⟩
theorem r_joined_product (cn : Con zn K) (h : sp_joined_product zn K vs H Q E) : dSs (g_joined_product ρ zn K) K m_joined_product (W0 E) (D0 Q) (start N_joined_product vs) H := by
  obtain ⟨π, q, a, b, rfl, ha, hb, oa, ob, hl, h⟩ := h
  have la := oa.len
  have lb := ob.len
  have fin : ∀ (c : Addr) (H1 : Hp), Rf.Kp H H1 → H1 c = some (.tup ((a ++ b).map V.int)) → ∃ (a_1 : Addr) (ns : List Int), V.ref c = .ref a_1 ∧ SqT K H1 a_1 (ns.map V.int) ∧ ns.length < 64 ∧
      ∀ (l : Addr) (ms : List Int) (H' : Hp), (∀ b o, H1 b = some o → H' b = some o) → H1 l = none → H' l = some (.lst (ms.map V.int)) → ms.Pairwise (· < ·) → (∀ k, k ∈ ms ↔ k ∈ ns) → ∃ p ys, [V.ref l] = [V.ref p] ∧ ((SqL K H' p ys ∧ ∀ l, H' l = none → Q (.ref l) (upd H' l (.tup ys))) ∨ (SqT K H' p ys ∧ Q (.ref p) H')) := fun c H1 k1 e => by
    refine ⟨c, a ++ b, rfl, .inl (.inl e), by rw [List.length_append]; omega, fun l ms H' kp _ el srt mem => ⟨l, _, rfl, .inl ⟨.inl (.inl el), fun r hr => ?_⟩⟩⟩
    have := join_is srt mem
    subst this
    exact h r _ (k1.trans (Rf.Kp.trans kp (Rf.Kp.new hr))) upd_same
  refine ⟨_, rfl, _, rfl, ?_⟩
  by_cases ea : a = []
  · subst ea
    exact .inr ⟨π, q, _, _, rfl, rfl, .inl (.inl ha), .inl (.inl hb), le_line (by rw [List.length_map, List.length_map]; omega), fun _ => fin q H (Rf.Kp.refl H) hb, fun z => absurd rfl z, fun z => absurd rfl z⟩
  · have ea' : a.map V.int ≠ [] := fun z => ea (List.map_eq_nil_iff.mp z)
    refine .inr ⟨π, q, _, _, rfl, rfl, .inl (.inl ha), .inl (.inl hb), le_line (by rw [List.length_map, List.length_map]; omega), fun z => absurd z ea', fun _ z => ?_, fun _ _ c hc => fin c _ (Rf.Kp.new hc) (by rw [List.map_append]; exact upd_same)⟩
    have eb : b = [] := List.map_eq_nil_iff.mp z
    subst eb
    exact fin π H (Rf.Kp.refl H) (by rw [List.append_nil]; exact ha)
theorem r_Sum_terms (cn : Con zn K) (h : sp_Sum_terms zn K vs H Q E) : dSs (g_Sum_terms ρ zn K) K m_Sum_terms (W0 E) (D0 Q) (start N_Sum_terms vs) H := by
  obtain ⟨s, F, l, rfl, ⟨dx, f, a, hs, hF, ⟨rs, ha, hrs, rfl⟩⟩, h⟩ := h
  exact ⟨_, rfl, s, _, dx, _, _, rfl, hs, aR, sum_r f a, _, _, rfl, .inl (.inl (.inl ha)), fun c hc => h c _ (Rf.Kp.new hc) hc ⟨rs, upd_same, fun r hr => (hrs r hr).ext (Kp.ext (Rf.Kp.new hc)), rfl⟩⟩
theorem r_Sum_look_alike (cn : Con zn K) (h : sp_Sum_look_alike zn K vs H Q E) : dSs (g_Sum_look_alike ρ zn K) K m_Sum_look_alike (W0 E) (D0 Q) (start N_Sum_look_alike vs) H := by
  obtain ⟨s, u, F, J, l, m, rfl, ⟨dx, f, a, hs, hF, _⟩, ⟨dy, g, b, hu, hG, _⟩, h1, h2⟩ := h
  obtain ⟨df, ef⟩ := id hF
  obtain ⟨dg, eg⟩ := id hG
  refine ⟨_, rfl, s, _, dx, _, _, rfl, hs, aO, sum_f f a, _, rfl, u, _, dy, _, _, rfl, hu, aO, sum_f g b, ?_⟩
  refine .inr (.inr ⟨f, _, df, _, _, .ref zn.Field, rfl, ef, ⟨rfl, rfl⟩, .base (.ins eg cn.kF.cl cn.kF.ha cn.kF.hn cn.kF.ht cn.kF.hm), by simp [PySem.W.notFirst], f, g, _, _, rfl, hF, hG, _, rfl, _, rfl, ?_⟩)
  by_cases e : F.p = J.p
  · exact ite_f (c := !decide (F.p = J.p)) (by rw [decide_eq_true e]; rfl) (h1 e)
  · exact ite_t (c := !decide (F.p = J.p)) (by rw [decide_eq_false e]; rfl) (h2 e)
theorem r_Sum_times (cn : Con zn K) (h : sp_Sum_times zn K vs H Q E) : dSs (g_Sum_times ρ zn K) K m_Sum_times (W0 E) (D0 Q) (start N_Sum_times vs) H := by
  obtain ⟨s, u, rfl, tb, ⟨F, l, m, hs, hu, ok, h⟩ | ⟨F, J, l, m, hs, hu, ne, h⟩⟩ := h
  · obtain ⟨dx, f, a, es, hF, ha⟩ := id hs
    obtain ⟨dy, g, b, eu, hG, hb⟩ := id hu
    obtain ⟨w1, w2, w3, jn⟩ := ok
    obtain ⟨ra, ea, la, ga⟩ := ha.at
    obtain ⟨rb, eb, lb, gb⟩ := hb.at
    obtain ⟨df, ef⟩ := id hF
    refine ⟨zn.Sum, _, .inl ⟨rfl, rfl, rfl⟩, _, rfl, s, dx, _, rfl, es, sum_no f a (by decide +kernel) (by decide +kernel), _, rfl, s, u, F, F, _, _, rfl, hs, hu, fun _ => ?_, fun z => absurd rfl z⟩
    refine ⟨le_line (Nat.zero_le _), fun c hc => ?_⟩
    have k0 := Rf.Kp.new (o := .lst []) hc
    refine ⟨_, rfl, s, _, dx, _, _, rfl, k0 _ _ es, aR, sum_r f a, .inl ⟨_, .inl (.inl (k0 _ _ ea)), ?_⟩⟩
    refine for_list (K := K) (a := a) (xs := vsOf ra) (Pv := fun i σ H' => Rf.Kp H H' ∧ TermsAt H' c (mul (l.take i) m) ∧ ∃ s1 s2 s3 s4, σ = [some (.ref s), some (.ref u), some (.ref c), s1, s2, s3, s4]) ⟨k0, TermsAt.nil upd_same, _, _, _, _, rfl⟩ (fun i σ H' _ hP => .inl (.inl (hP.1 _ _ ea))) (fun i v σ H1 hx hP => ?_) (fun σ H' hP => ?_)
    · obtain ⟨k1, t1, s1, s2, s3, s4, rfl⟩ := hP
      obtain ⟨r, rfl, hr, _, hm, tk⟩ := ga i v hx
      obtain ⟨r1, r2, r3⟩ := hr.ext (Kp.ext k1)
      refine ⟨r.τ, _, rfl, .inl (.inl r1), rfl, _, _, rfl, _, _, rfl, rfl, ?_⟩
      refine ⟨_, rfl, u, _, dy, _, _, rfl, k1 _ _ eu, aR, sum_r g b, .inl ⟨_, .inl (.inl (k1 _ _ eb)), ?_⟩⟩
      refine for_list (K := K) (a := b) (xs := vsOf rb) (Pv := fun j σ H' => Rf.Kp H H' ∧ TermsAt H' c (mul (l.take i) m ++ row r.t (m.take j)) ∧ ∃ s3 s4, σ = [some (.ref s), some (.ref u), some (.ref c), some (.ref r.π), some (.ref r.q), s3, s4]) ⟨k1, by rw [List.take_zero]; show TermsAt H1 c (_ ++ []); rw [List.append_nil]; exact t1, _, _, rfl⟩ (fun j σ H' _ hP => .inl (.inl (hP.1 _ _ eb))) (fun j v σ H2 hx hP => ?_) (fun σ H' hP => ?_)
      · obtain ⟨k2, t2, s3, s4, rfl⟩ := hP
        obtain ⟨p, rfl, hp, _, hm', tk'⟩ := gb j v hx
        obtain ⟨p1, p2, p3⟩ := hp.ext (Kp.ext k2)
        obtain ⟨q1, q2, q3⟩ := hr.ext (Kp.ext k2)
        obtain ⟨o1, o2, o3⟩ := w1.bd hm
        obtain ⟨o4, o5, o6⟩ := w2.bd hm'
        refine ⟨p.τ, _, rfl, .inl (.inl p1), rfl, _, _, rfl, _, _, rfl, rfl, ?_⟩
        obtain ⟨rs2, e2, _⟩ := id t2
        refine ⟨_, rfl, .inl ⟨rfl, _, .inl (.inl e2)⟩, _, rfl, _, rfl, r.π, p.π, _, _, rfl, q2, p2, o1, o4, jn _ hm _ hm', fun π' H3 k3 hπ => ?_⟩
        have k23 := k2.trans k3
        refine ⟨zn.Field, _, .inr ⟨rfl, rfl, rfl⟩, _, rfl, s, _, dx, _, _, rfl, k23 _ _ es, aO, sum_f f a, f, df, _, rfl, k23 _ _ ef, fld_no _ (by decide +kernel), _, rfl, _, rfl, f, r.q, p.q, F, _, _, rfl, hF.kp k23, (q3.ext (Kp.ext k3)).k, (p3.ext (Kp.ext k3)).k, o2, o3, o5, o6, fun q' H4 k4 nq hq => ?_⟩
        refine ⟨two_le, fun τ' hτ => ?_⟩
        have k5 := Rf.Kp.new (o := .tup [.ref π', .ref q']) hτ
        obtain ⟨acc, e6, l6, k6, t6⟩ := grow (r := ⟨τ', π', q', (join r.t.1 p.t.1, r.t.2 * p.t.2)⟩) hc k2 t2 ((k3.trans k4).trans k5) ⟨upd_same, k5 _ _ (k4 _ _ hπ), k5 _ _ hq⟩
        have lm := mul_pre (m := m) (j := j) tk
        have lw := w3.len
        refine ⟨c, acc, rfl, e6, lt_line (by omega), k6, ?_, _, _, rfl⟩
        rw [tk', row_snoc, ← List.append_assoc]
        exact t6
      · obtain ⟨k2, t2, s3, s4, rfl⟩ := hP
        rw [vs_len, lb, List.take_length, ← mul_snoc, ← tk] at t2
        exact ⟨k2, t2, _, _, _, _, rfl⟩
    · obtain ⟨k1, t1, s1, s2, s3, s4, rfl⟩ := hP
      rw [vs_len, la, List.take_length] at t1
      refine ⟨_, rfl, s, _, dx, _, _, rfl, k1 _ _ es, aO, sum_f f a, _, rfl, ?_⟩
      exact mk_sumF (E := E) (hF.kp k1) t1 w3 (LamX.Tabs.ext tb k1) fun r H' e t hs fr => h r H' ((Kp.ext k1).trans e) t hs (fr.back (Kp.ext k1))
  · obtain ⟨dx, f, a, es, _⟩ := id hs
    exact ⟨zn.Sum, _, .inl ⟨rfl, rfl, rfl⟩, _, rfl, s, dx, _, rfl, es, sum_no f a (by decide +kernel) (by decide +kernel), _, rfl, s, u, F, J, l, m, rfl, hs, hu, fun z => absurd z ne, fun _ => h H (Rf.Kp.refl H)⟩
theorem r__law_mult (cn : Con zn K) (h : sp__law_mult zn K vs H Q E) : dSs (g__law_mult ρ zn K) K m__law_mult (W0 E) (D0 Q) (start N__law_mult vs) H := by
  obtain ⟨p, a, b, F, l, m, rfl, rfl, ha, hb, w1, w2, w3, jn, h⟩ := h
  obtain ⟨ra, ea, la, ga⟩ := ha.at
  obtain ⟨rb, eb, lb, gb⟩ := hb.at
  have lw := w3.len
  refine ⟨le_line (Nat.zero_le _), fun c hc => ?_⟩
  have k0 := Rf.Kp.new (o := .lst []) hc
  refine ⟨_, rfl, .inl ⟨_, .inl (.inl (k0 _ _ ea)), ?_⟩⟩
  refine for_list (K := K) (a := a) (xs := vsOf ra) (Pv := fun i σ H' => Rf.Kp H H' ∧ TermsAt H' c (mul (l.take i) m) ∧ ∃ s1 s2 s3 s4 s5, σ = [some (.int F.p), some (.ref a), some (.ref b), some (.ref c), s1, s2, s3, s4, s5]) ⟨k0, TermsAt.nil upd_same, _, _, _, _, _, rfl⟩ (fun i σ H' _ hP => .inl (.inl (hP.1 _ _ ea))) (fun i v σ H1 hx hP => ?_) (fun σ H' hP => ?_)
  · obtain ⟨k1, t1, s1, s2, s3, s4, s5, rfl⟩ := hP
    obtain ⟨r, rfl, hr, _, hm, tk⟩ := ga i v hx
    obtain ⟨r1, r2, r3⟩ := hr.ext (Kp.ext k1)
    refine ⟨r.τ, _, rfl, .inl (.inl r1), rfl, _, _, rfl, _, _, rfl, rfl, ?_⟩
    refine ⟨_, rfl, .inl ⟨_, .inl (.inl (k1 _ _ eb)), ?_⟩⟩
    refine for_list (K := K) (a := b) (xs := vsOf rb) (Pv := fun j σ H' => Rf.Kp H H' ∧ TermsAt H' c (mul (l.take i) m ++ row r.t (m.take j)) ∧ ∃ s3 s4 s5, σ = [some (.int F.p), some (.ref a), some (.ref b), some (.ref c), some (.ref r.π), some (.ref r.q), s3, s4, s5]) ⟨k1, by rw [List.take_zero]; show TermsAt H1 c (_ ++ []); rw [List.append_nil]; exact t1, _, _, _, rfl⟩ (fun j σ H' _ hP => .inl (.inl (hP.1 _ _ eb))) (fun j v σ H2 hx hP => ?_) (fun σ H' hP => ?_)
    · obtain ⟨k2, t2, s3, s4, s5, rfl⟩ := hP
      obtain ⟨p, rfl, hp, _, hm', tk'⟩ := gb j v hx
      obtain ⟨p1, p2, p3⟩ := hp.ext (Kp.ext k2)
      obtain ⟨q1, q2, q3⟩ := hr.ext (Kp.ext k2)
      obtain ⟨o1, o2, o3⟩ := w1.bd hm
      obtain ⟨o4, o5, o6⟩ := w2.bd hm'
      refine ⟨p.τ, _, rfl, .inl (.inl p1), rfl, _, _, rfl, _, _, rfl, rfl, ?_⟩
      refine ⟨_, rfl, _, rfl, cat_at q2 p2 o1 o4 (jn _ hm _ hm') fun c0 H0 kc0 hc0 ll => ⟨c0, r.t.1 ++ p.t.1, rfl, .inl (.inl hc0), ll, fun c1 ms Hc kc1 _ hc' srt mem => ⟨c1, _, rfl, .inl ⟨.inl (.inl hc'), fun π' hπ' => ?_⟩⟩⟩⟩
      obtain rfl := join_is srt mem
      have kc : Rf.Kp H2 Hc := kc0.trans kc1
      have k3 := kc.trans (Rf.Kp.new (o := .tup ((join r.t.1 p.t.1).map V.int)) hπ')
      have hπ : ProdAt (upd Hc π' (.tup ((join r.t.1 p.t.1).map V.int))) π' (join r.t.1 p.t.1) := upd_same
      generalize upd Hc π' (.tup ((join r.t.1 p.t.1).map V.int)) = H3 at k3 hπ
      obtain ⟨rs2, e2, _⟩ := t2.kp k3
      refine ⟨_, rfl, .inl ⟨rfl, _, .inl (.inl e2)⟩, _, rfl, _, rfl, _, rfl, _, rfl, F.p, r.q, p.q, F, _, _, rfl, rfl, (q3.ext (Kp.ext k3)).k, (p3.ext (Kp.ext k3)).k, o2, o3, o5, o6, fun q' H4 k4 nq hq => ?_⟩
      refine ⟨two_le, fun τ' hτ => ?_⟩
      have k5 := Rf.Kp.new (o := .tup [.ref π', .ref q']) hτ
      obtain ⟨acc, e6, l6, k6, t6⟩ := grow (r := ⟨τ', π', q', (join r.t.1 p.t.1, r.t.2 * p.t.2)⟩) hc k2 t2 ((k3.trans k4).trans k5) ⟨upd_same, k5 _ _ (k4 _ _ hπ), k5 _ _ hq⟩
      have lm := mul_pre (m := m) (j := j) tk
      refine ⟨c, acc, rfl, e6, lt_line (by omega), k6, ?_, _, _, _, rfl⟩
      rw [tk', row_snoc, ← List.append_assoc]
      exact t6
    · obtain ⟨k2, t2, s3, s4, s5, rfl⟩ := hP
      rw [vs_len, lb, List.take_length, ← mul_snoc, ← tk] at t2
      exact ⟨k2, t2, _, _, _, _, _, rfl⟩
  · obtain ⟨k1, t1, s1, s2, s3, s4, s5, rfl⟩ := hP
    rw [vs_len, la, List.take_length] at t1
    exact ⟨_, rfl, _, rfl, F.p, c, F, _, rfl, rfl, t1, w3, fun r H' k _ t => h r H' (k1.trans k) t⟩
theorem len4 {σ : L2.St} (h : σ.length = 4) : ∃ a b c d, σ = [a, b, c, d] := by
  match σ, h with
  | [a, b, c, d], _ => exact ⟨a, b, c, d, rfl⟩
theorem r_Sum_reach (cn : Con zn K) (h : sp_Sum_reach zn K vs H Q E) : dSs (g_Sum_reach ρ zn K) K m_Sum_reach (W0 E) (D0 Q) (start N_Sum_reach vs) H := by
  obtain ⟨s, F, l, rfl, ⟨dx, f, a, hs, hF, ha⟩, hw, h⟩ := h
  obtain ⟨ra, ea, la, ga⟩ := ha.at
  have lw := hw.len
  refine ⟨_, rfl, s, _, dx, _, _, rfl, hs, aR, sum_r f a, .inl ⟨_, .inl (.inl ea), fun D hD => ?_⟩⟩
  have k0 := Rf.Kp.new (o := .lst []) hD
  refine lc_list (K := K) (a := a) (xs := vsOf ra) (Pv := fun i H' => Rf.Kp H H' ∧ H' D = some (.lst ((ends (l.take i)).map V.int))) ⟨k0, upd_same⟩ (fun i H' _ hP => .inl (.inl (hP.1 _ _ ea))) (fun i x H1 hx hP => ?_) (fun H1 hP => ?_)
  · obtain ⟨k1, e1⟩ := hP
    obtain ⟨r, rfl, hr, hi, hm, tk⟩ := ga i x hx
    obtain ⟨r1, r2, r3⟩ := hr.ext (Kp.ext k1)
    refine ⟨r.τ, _, rfl, .inl (.inl r1), rfl, _, _, rfl, _, _, rfl, rfl, rfl, ?_⟩
    refine ⟨_, rfl, le_line (Nat.zero_le _), fun e he => ?_⟩
    have k2 := Rf.Kp.new (o := .tup []) he
    have p2 : ProdAt (upd H1 e (.tup [])) r.π r.t.1 := k2 _ _ r2
    refine .inr (.inl ⟨_, .tuple (([] : List Int).map .int), p2.dp, .tup (.inl (.inl upd_same)) .nil, shapeP _, rfl, _, rfl, ?_⟩)
    rw [eqvT]
    have nD : D ≠ e := ne_of_none e1 he
    by_cases hz : r.t.1 = []
    · refine ite_f (by rw [decide_eq_true hz]; rfl) ⟨k1.trans k2, ?_⟩
      rw [tk, ends_snoc, if_pos hz, List.append_nil]
      exact k2 _ _ e1
    · refine ite_t (by rw [decide_eq_false hz]; rfl) ⟨_, rfl, _, _, .inr (.inl (.inl p2)), (last_in hz).2, _, k2 _ _ e1, ?_, ((k1.trans k2).kx.trans KpX.set).kp hD, ?_⟩
      · rw [List.length_map]
        have : (ends (l.take i)).length ≤ l.length := by
          unfold ends
          rw [List.length_map]
          exact Nat.le_trans (List.length_filter_le ..) (List.length_take_le' ..)
        exact lt_line (by omega)
      · rw [upd_same, tk, ends_snoc, if_neg hz, List.map_append]
        rfl
  · obtain ⟨k1, e1⟩ := hP
    rw [vs_len, la, List.take_length] at e1
    exact ⟨D, ends l, 0, rfl, rfl, .inl (.inl e1), fun m h0 h1 => h m H1 k1 (reach_of (fun t ht => (hw.bd ht).1) h0 h1)⟩
theorem r_Sum___eq__ (cn : Con zn K) (h : sp_Sum___eq__ zn K vs H Q E) : dSs (g_Sum___eq__ ρ zn K) K m_Sum___eq__ (W0 E) (D0 Q) (start N_Sum___eq__ vs) H := by
  obtain ⟨s, u, F, l, m, rfl, hs, hu, h⟩ := h
  obtain ⟨dx, f, a, es, hF, ha⟩ := id hs
  obtain ⟨dy, g, b, eu, hG, hb⟩ := id hu
  obtain ⟨df, ef⟩ := id hF
  obtain ⟨dg, eg⟩ := id hG
  refine ⟨_, rfl, ?_⟩
  show rIsA K [.ref u, .ref zn.Sum] H _
  refine .inl ⟨_, _, _, _, _, rfl, .own zn.Sum, cn.kS.ty eu, cn.kS.s, ?_⟩
  refine ⟨_, rfl, s, _, dx, _, _, rfl, es, aO, sum_f f a, _, rfl, u, _, dy, _, _, rfl, eu, aO, sum_f g b, ?_⟩
  refine .inr (.inr ⟨f, _, df, _, _, .ref zn.Field, rfl, ef, ⟨rfl, rfl⟩, cn.kF.ty eg, by simp [PySem.W.notFirst], f, g, _, _, rfl, hF, hG, _, rfl, ?_⟩)
  refine ite_t (c := decide (F.p = F.p)) (decide_eq_true rfl) ?_
  refine ⟨_, rfl, s, _, dx, _, _, rfl, es, aR, sum_r f a, _, rfl, u, _, dy, _, _, rfl, eu, aR, sum_r g b, ?_⟩
  unfold rCmp
  refine .inr (.inl ⟨_, _, ha.dp, hb.dp, shapeL _, shapeL _, ?_⟩)
  rw [eqvL]
  exact h H (Rf.Kp.refl H)
end
end K08
namespace K08
open PySem PySem.Spec PyProof.Rows L2 Rf NumP NumF SumP TermP
section
variable {K : Frag} {vs : List V} {H : Hp} {Q : VK} {E : XK} {zn : Cn} {ρ : Fs}
theorem r__law_kind (cn : Con zn K) (f c' : Addr) (q : Str) (tl : XK → Hp → VK → Prop) (H : Hp) (Q : VK) (hc : H c' = some (LamX.CodeO c' q)) (h : TT__law_kind zn tl H Q) :
    kindS (g__law_kind ρ zn K) K N__law_kind (clsOf (.ref zn.FalseError)) 2 1 (hd1 m__law_kind) (tlN 2 m__law_kind) f c' q tl H Q := by
  obtain ⟨E, Q', hE, hQ, ht⟩ := h
  refine ⟨E, Q', fun cls d σ' H' he hl => ?_, fun v H' hv => ?_, rfl, hc, ht⟩
  · obtain ⟨rfl, hh⟩ := hE cls d H' he
    obtain ⟨s0, s1, s2, s3, rfl⟩ := len4 hl
    rcases hh with ⟨rfl, hq⟩ | ⟨rfl, hq⟩ | ⟨rfl, hq⟩
    · have F := cn.eNoFilling
      have k0 : PySem.W.kitOne K (.ref zn.NoFilling) (.ref zn.NoFilling) = some true := F.k (_, true) (by simp)
      have k1 : PySem.W.kitOne K (.ref zn.NoFilling) (.ref zn.NoOrder) = some false := F.k (_, false) (by simp)
      have k2 : PySem.W.kitOne K (.ref zn.NoFilling) (.ref zn.NoSums) = some false := F.k (_, false) (by simp)
      have kV : PySem.W.kitOne K (.ref zn.NoFilling) (.type "ValueError") = some true := F.k (_, true) (by simp)
      refine ⟨true, F.m, fun _ a ha => ?_, fun z => by cases z⟩
      refine ⟨_, rfl, fun na => ?_⟩
      have ea : upd H' a (ExcO a (.ref zn.NoFilling) none) a = some (ExcO a (.ref zn.NoFilling) none) := upd_same
      refine ⟨_, rfl, _, rfl, ite_f rfl ?_⟩
      refine ⟨_, rfl, .inr ⟨a, _, _, _, true, rfl, .own _, ea, F.c, k0, _, rfl, .inr ⟨a, _, _, _, false, rfl, .own _, ea, F.c, k1, _, rfl, .inr ⟨a, _, _, _, false, rfl, .own _, ea, F.c, k2, ?_⟩⟩⟩⟩
      refine ⟨le_line (show 3 ≤ 3000 by decide), fun l hl => ?_⟩
      have el : (upd (upd H' a (ExcO a (.ref zn.NoFilling) none)) l (.lst [.bl true, .bl false, .bl false])) l = some (.lst [.bl true, .bl false, .bl false]) := upd_same
      have ea2 : (upd (upd H' a (ExcO a (.ref zn.NoFilling) none)) l (.lst [.bl true, .bl false, .bl false])) a = some (ExcO a (.ref zn.NoFilling) none) := by rw [upd_ne (ne_of_none ea hl)]; exact ea
      refine ⟨_, rfl, ?_, l, _, _, rfl, rfl, .inl (.inl el), rfl, rfl, _, rfl, ?_⟩
      · exact .inl ⟨rfl, _, .inl (.inl el)⟩
      · refine ite_f rfl ⟨_, rfl, .inr ⟨a, _, _, _, true, rfl, .ty "ValueError", ea2, F.c, kV, ?_⟩⟩
        refine ⟨le_line (show 3 ≤ 3000 by decide), fun r hr => ?_⟩
        have nr : l ≠ r := ne_of_none el hr
        have er : upd (upd (upd H' a (ExcO a (.ref zn.NoFilling) none)) l (.lst [.bl true, .bl false, .bl false])) r (.lst [.str "filling", .str "order", .str "sums"]) l = some (.lst [.bl true, .bl false, .bl false]) := by rw [upd_ne nr]; exact el
        have kp : Rf.Kp H' (upd (upd (upd H' a (ExcO a (.ref zn.NoFilling) none)) l (.lst [.bl true, .bl false, .bl false])) r (.lst [.str "filling", .str "order", .str "sums"])) := (Rf.Kp.new na).trans ((Rf.Kp.new hl).trans (Rf.Kp.new hr))
        exact ⟨_, rfl, .inl ⟨rfl, _, .inl (.inl er)⟩, l, _, _, 0, .bl true, rfl, rfl, .inl (.inl er), rfl, rfl, rfl, rfl, fun m z hm e => absurd hm (Nat.not_lt_zero m), _, _, .inl (.inl (.inl upd_same)), rfl, hq _ kp⟩
    · have F := cn.eNoOrder
      have k0 : PySem.W.kitOne K (.ref zn.NoOrder) (.ref zn.NoFilling) = some false := F.k (_, false) (by simp)
      have k1 : PySem.W.kitOne K (.ref zn.NoOrder) (.ref zn.NoOrder) = some true := F.k (_, true) (by simp)
      have k2 : PySem.W.kitOne K (.ref zn.NoOrder) (.ref zn.NoSums) = some false := F.k (_, false) (by simp)
      have kV : PySem.W.kitOne K (.ref zn.NoOrder) (.type "ValueError") = some true := F.k (_, true) (by simp)
      refine ⟨true, F.m, fun _ a ha => ?_, fun z => by cases z⟩
      refine ⟨_, rfl, fun na => ?_⟩
      have ea : upd H' a (ExcO a (.ref zn.NoOrder) none) a = some (ExcO a (.ref zn.NoOrder) none) := upd_same
      refine ⟨_, rfl, _, rfl, ite_f rfl ?_⟩
      refine ⟨_, rfl, .inr ⟨a, _, _, _, false, rfl, .own _, ea, F.c, k0, _, rfl, .inr ⟨a, _, _, _, true, rfl, .own _, ea, F.c, k1, _, rfl, .inr ⟨a, _, _, _, false, rfl, .own _, ea, F.c, k2, ?_⟩⟩⟩⟩
      refine ⟨le_line (show 3 ≤ 3000 by decide), fun l hl => ?_⟩
      have el : (upd (upd H' a (ExcO a (.ref zn.NoOrder) none)) l (.lst [.bl false, .bl true, .bl false])) l = some (.lst [.bl false, .bl true, .bl false]) := upd_same
      have ea2 : (upd (upd H' a (ExcO a (.ref zn.NoOrder) none)) l (.lst [.bl false, .bl true, .bl false])) a = some (ExcO a (.ref zn.NoOrder) none) := by rw [upd_ne (ne_of_none ea hl)]; exact ea
      refine ⟨_, rfl, ?_, l, _, _, rfl, rfl, .inl (.inl el), rfl, rfl, _, rfl, ?_⟩
      · exact .inl ⟨rfl, _, .inl (.inl el)⟩
      · refine ite_f rfl ⟨_, rfl, .inr ⟨a, _, _, _, true, rfl, .ty "ValueError", ea2, F.c, kV, ?_⟩⟩
        refine ⟨le_line (show 3 ≤ 3000 by decide), fun r hr => ?_⟩
        have nr : l ≠ r := ne_of_none el hr
        have er : upd (upd (upd H' a (ExcO a (.ref zn.NoOrder) none)) l (.lst [.bl false, .bl true, .bl false])) r (.lst [.str "filling", .str "order", .str "sums"]) l = some (.lst [.bl false, .bl true, .bl false]) := by rw [upd_ne nr]; exact el
        have kp : Rf.Kp H' (upd (upd (upd H' a (ExcO a (.ref zn.NoOrder) none)) l (.lst [.bl false, .bl true, .bl false])) r (.lst [.str "filling", .str "order", .str "sums"])) := (Rf.Kp.new na).trans ((Rf.Kp.new hl).trans (Rf.Kp.new hr))
        exact ⟨_, rfl, .inl ⟨rfl, _, .inl (.inl er)⟩, l, _, _, 1, .bl true, rfl, rfl, .inl (.inl er), rfl, rfl, rfl, rfl, fun m z hm e => (by
          match m, hm with
          | 0, _ => cases e; rfl), _, _, .inl (.inl (.inl upd_same)), rfl, hq _ kp⟩
    · have F := cn.eNoSums
      have k0 : PySem.W.kitOne K (.ref zn.NoSums) (.ref zn.NoFilling) = some false := F.k (_, false) (by simp)
      have k1 : PySem.W.kitOne K (.ref zn.NoSums) (.ref zn.NoOrder) = some false := F.k (_, false) (by simp)
      have k2 : PySem.W.kitOne K (.ref zn.NoSums) (.ref zn.NoSums) = some true := F.k (_, true) (by simp)
      have kV : PySem.W.kitOne K (.ref zn.NoSums) (.type "ValueError") = some true := F.k (_, true) (by simp)
      refine ⟨true, F.m, fun _ a ha => ?_, fun z => by cases z⟩
      refine ⟨_, rfl, fun na => ?_⟩
      have ea : upd H' a (ExcO a (.ref zn.NoSums) none) a = some (ExcO a (.ref zn.NoSums) none) := upd_same
      refine ⟨_, rfl, _, rfl, ite_f rfl ?_⟩
      refine ⟨_, rfl, .inr ⟨a, _, _, _, false, rfl, .own _, ea, F.c, k0, _, rfl, .inr ⟨a, _, _, _, false, rfl, .own _, ea, F.c, k1, _, rfl, .inr ⟨a, _, _, _, true, rfl, .own _, ea, F.c, k2, ?_⟩⟩⟩⟩
      refine ⟨le_line (show 3 ≤ 3000 by decide), fun l hl => ?_⟩
      have el : (upd (upd H' a (ExcO a (.ref zn.NoSums) none)) l (.lst [.bl false, .bl false, .bl true])) l = some (.lst [.bl false, .bl false, .bl true]) := upd_same
      have ea2 : (upd (upd H' a (ExcO a (.ref zn.NoSums) none)) l (.lst [.bl false, .bl false, .bl true])) a = some (ExcO a (.ref zn.NoSums) none) := by rw [upd_ne (ne_of_none ea hl)]; exact ea
      refine ⟨_, rfl, ?_, l, _, _, rfl, rfl, .inl (.inl el), rfl, rfl, _, rfl, ?_⟩
      · exact .inl ⟨rfl, _, .inl (.inl el)⟩
      · refine ite_f rfl ⟨_, rfl, .inr ⟨a, _, _, _, true, rfl, .ty "ValueError", ea2, F.c, kV, ?_⟩⟩
        refine ⟨le_line (show 3 ≤ 3000 by decide), fun r hr => ?_⟩
        have nr : l ≠ r := ne_of_none el hr
        have er : upd (upd (upd H' a (ExcO a (.ref zn.NoSums) none)) l (.lst [.bl false, .bl false, .bl true])) r (.lst [.str "filling", .str "order", .str "sums"]) l = some (.lst [.bl false, .bl false, .bl true]) := by rw [upd_ne nr]; exact el
        have kp : Rf.Kp H' (upd (upd (upd H' a (ExcO a (.ref zn.NoSums) none)) l (.lst [.bl false, .bl false, .bl true])) r (.lst [.str "filling", .str "order", .str "sums"])) := (Rf.Kp.new na).trans ((Rf.Kp.new hl).trans (Rf.Kp.new hr))
        exact ⟨_, rfl, .inl ⟨rfl, _, .inl (.inl er)⟩, l, _, _, 2, .bl true, rfl, rfl, .inl (.inl er), rfl, rfl, rfl, rfl, fun m z hm e => (by
          match m, hm with
          | 0, _ => cases e; rfl
          | 1, _ => cases e; rfl), _, _, .inl (.inl (.inl upd_same)), rfl, hq _ kp⟩
  · refine ⟨_, rfl, _, rfl, ?_⟩
    exact hQ v H' hv H' (Rf.Kp.refl H')
end
end K08
namespace K08
open PySem PySem.Spec PyProof.Rows L2 Rf NumP NumF SumP TermP
section
variable {K : Frag} {vs : List V} {H : Hp} {Q : VK} {E : XK} {zn : Cn} {ρ : Fs}
theorem rn_Sum_put_in {ws : List (Option V)} (cn : Con zn K) (hl : ws.length = p_Sum_put_in.nfr.length) (h : spn_Sum_put_in zn K ws vs H Q E) :
    dSs (g_Sum_put_in_put ρ zn K) K p_Sum_put_in.nb (W0 E) (D0 Q) (NdefX.startF p_Sum_put_in.nN vs ws) H := by
  obtain ⟨s, b, π, q, F, l, ls, t, rfl, rfl, hs, hb, hp, hq, ht, ok, tb, h⟩ := h
  obtain ⟨dx, f, a, es, hF, ha⟩ := id hs
  obtain ⟨ss, eb, lss, gs⟩ := id hb
  show dSs (g_Sum_put_in_put ρ zn K) K m_Sum_put_in_put (W0 E) (D0 Q) [some (.ref π), some (.ref q), some (.ref s), some (.ref b), none, none] H
  refine ⟨_, rfl, s, _, dx, _, _, rfl, es, aO, sum_f f a, ?_⟩
  refine ⟨le_line (Nat.zero_le _), fun e he => ?_⟩
  refine ⟨_, rfl, two_le, fun τ hτ => ?_⟩
  refine ⟨le_line (show 1 ≤ 3000 by decide), fun D hD => ?_⟩
  have k1 : Rf.Kp H (upd (upd (upd H e (.tup [])) τ (.tup [.ref e, .ref q])) D (.lst [.ref τ])) := (Rf.Kp.new he).trans ((Rf.Kp.new hτ).trans (Rf.Kp.new hD))
  have a1 : TermsAt (upd (upd (upd H e (.tup [])) τ (.tup [.ref e, .ref q])) D (.lst [.ref τ])) D [(([] : Pr), t.2)] := by
    refine ⟨[⟨τ, e, q, ([], t.2)⟩], upd_same, fun r hr => ?_, rfl⟩
    rw [List.mem_singleton.mp hr]
    exact ⟨(Rf.Kp.new hD) _ _ upd_same, (Rf.Kp.new hD) _ _ ((Rf.Kp.new hτ) _ _ upd_same), k1 _ _ hq⟩
  have w0 : Wg (stp ls (t.1.take 0) t.2) := ok.wg t ht 0 (Nat.zero_le _)
  refine fun x d hx hd n1 => ⟨x, f, D, d, F, _, rfl, upd_same, hF.kp (k1.trans (new2 hx hd n1)), a1.kp (new2 hx hd n1), w0, LamX.Tabs.ext tb (k1.trans (new2 hx hd n1)), fun H1 e1 t1 S1 fr => ⟨rfl, ?_⟩⟩
  have fr := fr.back (Kp.ext (k1.trans (new2 hx hd n1)))
  have e1 : LamX.ExtN H H1 := (Kp.ext k1).trans (ext_new (new2 hx hd n1) hx e1)
  rw [G_one (ok.nz t ht)] at S1
  clear k1 a1 he hτ hD hx hd n1
  have hp1 := hp.ext e1
  refine ⟨_, rfl, .inr (.inl ⟨_, .inl (.inl hp1), ?_⟩)⟩
  refine for_tup (K := K) (a := π) (xs := t.1.map V.int) (Pv := fun i σ H' => LamX.ExtN H H' ∧ LamX.Tabs zn.T H' ∧ ∃ (x : Addr) (w : Option V), SumAt zn.Field zn.Sum H' x F (stp ls (t.1.take i) t.2) ∧ FreshL H H' x ∧ σ = [some (.ref π), some (.ref q), some (.ref s), some (.ref b), some (.ref x), w]) ⟨e1, t1, x, none, S1, fr, rfl⟩ (fun i σ H' _ hP => .inl (.inl (hp.ext hP.1))) (fun i v σ H' hx hP => ?_) (fun σ H' hP => ?_)
  · obtain ⟨e2, t2, x, w, Sx, fx, rfl⟩ := hP
    rw [List.getElem?_map] at hx
    cases e : t.1[i]? with
    | none => rw [e] at hx; cases hx
    | some k =>
      rw [e] at hx
      cases hx
      have hlt : i < t.1.length := (List.getElem?_eq_some_iff.mp e).1
      have ek : t.1[i] = k := (List.getElem?_eq_some_iff.mp e).2
      have hk := ok.inn t ht k (List.mem_of_getElem? e)
      have hn : k.toNat < ss.length := by omega
      obtain ⟨m1, m2, m3⟩ := ok.ml t ht i hlt
      have e0 : t.1.take i = t.1.take i := rfl
      rw [ek] at m1 m2 m3
      have Sk : SumAt zn.Field zn.Sum H' ss[k.toNat] F (ls.getD k.toNat []) := by
        have q := (gs k.toNat hn (by omega)).ext e2
        rw [List.getD_eq_getElem?_getD, List.getElem?_eq_getElem (by omega)]
        exact q
      have eat : atI (ss.map V.ref) k = some (.ref ss[k.toNat]) := by
        rw [atI_of hk.1 (by rw [List.length_map]; omega), List.getElem?_map, List.getElem?_eq_getElem hn]
        rfl
      obtain ⟨dx, fs, es, nf⟩ := Sx.ob (m := "times") (by decide +kernel) (by decide +kernel)
      refine ⟨zn.Sum, _, ⟨rfl, rfl, rfl⟩, _, rfl, x, dx, fs, rfl, es, nf, _, rfl, _, rfl, _, _, .inl (.inl (.inl (e2 _ _ eb (fun _ z => by cases z)))), eat, ?_⟩
      refine ⟨x, ss[k.toNat], rfl, t2, .inl ⟨F, _, _, Sx, Sk, ⟨ok.wg t ht i (Nat.le_of_lt hlt), m1, m2, m3⟩, fun r H4 e4 t4 R fr => ?_⟩⟩
      refine ⟨e2.trans e4, t4, r, _, ?_, fr.back e2, rfl⟩
      rw [stp_take _ _ _ hlt, ek]
      exact R
  · obtain ⟨e2, t2, x, w, Sx, fx, rfl⟩ := hP
    rw [List.length_map, List.take_length] at Sx
    obtain ⟨dy, g, c, eu, hG, hc⟩ := id Sx
    exact ⟨_, rfl, x, _, dy, _, _, rfl, eu, aR, sum_r g c, h c H' e2 t2 hc (fx _ _ _ _ eu)⟩
theorem Th.ty' {v : V} (h : Th H v) : ∃ T ∈ (["NoneType", "bool", "int", "str", "list", "tuple", "dict"] : List String), TyX K H v (.type T) := by
  cases v with
  | int i => exact ⟨_, by decide, .base (.int i)⟩
  | non => exact ⟨_, by decide, .base .non⟩
  | str s => exact ⟨_, by decide, .base (.str s)⟩
  | bl b => exact ⟨_, by decide, .base (.bl b)⟩
  | ref p =>
    obtain ⟨o, t, e, k⟩ := h
    cases o with
    | lst xs => cases k; exact ⟨_, by decide, .base (.lst e)⟩
    | tup xs => cases k; exact ⟨_, by decide, .base (.tup e)⟩
    | dK xs => cases k; exact ⟨_, by decide, .base (.dK e)⟩
    | dT xs => cases k; exact ⟨_, by decide, .base (.dT e)⟩
    | _ => cases k
  | _ => exact (show False from h).elim
/-- isinstance(v, Sum) of a thing of another kind -/
theorem th_sum {v : V} {R : VK} (cn : Con zn K) (h : Th H v) (q : R (.bl false) H) : rIsA K [v, .ref zn.Sum] H R := by
  obtain ⟨T, hT, ty⟩ := Th.ty' (K := K) h
  have k := (cn.kS.k T hT).1
  cases v with
  | ref p => exact .inl ⟨_, _, _, _, _, rfl, .own zn.Sum, ty, k, q⟩
  | int i => exact ⟨_, _, _, _, _, rfl, .own zn.Sum, ty, k, q⟩
  | non => exact ⟨_, _, _, _, _, rfl, .own zn.Sum, ty, k, q⟩
  | str s => exact ⟨_, _, _, _, _, rfl, .own zn.Sum, ty, k, q⟩
  | bl b => exact ⟨_, _, _, _, _, rfl, .own zn.Sum, ty, k, q⟩
  | _ => exact (show False from h).elim
/-- isinstance(v, list) of a thing that is none -/
theorem th_list {v : V} {R : VK} (h : Th H v) (n : ∀ q xs, v = .ref q → H q ≠ some (.lst xs)) (q : R (.bl false) H) : rIsA K [v, .ty "list"] H R := by
  cases v with
  | ref p =>
    obtain ⟨o, t, e, k⟩ := h
    refine .inl (.inl ⟨o, t, e, k, rfl, ?_⟩)
    cases o with
    | lst xs => exact absurd e (n p xs rfl)
    | tup xs => cases k; exact q
    | dK xs => cases k; exact q
    | dT xs => cases k; exact q
    | _ => cases k
  | int i => exact ⟨rfl, q⟩
  | non => exact ⟨rfl, q⟩
  | str s => exact ⟨rfl, q⟩
  | bl b => exact ⟨rfl, q⟩
  | _ => exact (show False from h).elim
theorem r_Sum_put_in (cn : Con zn K) (h : sp_Sum_put_in zn K vs H Q E) :
    seqS (g_Sum_put_in ρ zn K) K (W0 E) (tPut (g_Sum_put_in ρ zn K) K (W0 E) (g_Sum_put_in ρ zn K).tb p_Sum_put_in (spn_Sum_put_in zn K)) m_Sum_put_in (D0 Q) (start N_Sum_put_in vs) H := by
  obtain ⟨s, v, F, l, rfl, tb, hs, wl, hh⟩ := h
  obtain ⟨dx, f, a, es, hF, ha⟩ := id hs
  obtain ⟨df, ef⟩ := id hF
  obtain ⟨dr, fr, er, nr⟩ := hs.ob (m := "reach") (by decide +kernel) (by decide +kernel)
  rcases hh with ⟨b, ls, rfl, hb, l100, ok, h⟩ | ⟨bad, h⟩
  · obtain ⟨ss, eb, lss, gs⟩ := id hb
    refine ⟨_, rfl, .inl (.inl ⟨_, _, eb, rfl, rfl, ?_⟩)⟩
    refine ⟨_, rfl, _, .inl ⟨_, .inl (.inl eb), rfl⟩, zn.Sum, _, ⟨rfl, rfl, rfl⟩, _, rfl, s, dr, fr, rfl, er, nr, s, F, l, rfl, hs, wl, fun m H1 k1 hm => ⟨_, rfl, ?_⟩⟩
    have hle : m ≤ (ss.length : Int) := hm.le _ (by omega) fun t ht k hk => by have := ok.inn t ht k hk; omega
    refine ite_f (decide_eq_false (by rw [List.length_map]; omega)) ?_
    refine ⟨_, rfl, .inl ⟨_, .inl (.inl (k1 _ _ eb)), ?_⟩⟩
    refine for_list (K := K) (a := b) (xs := ss.map V.ref) (Pv := fun i σ H' => H' = H1 ∧ ∃ w, σ = [some (.ref s), some (.ref b), w, none, none, none]) ⟨rfl, none, rfl⟩ (fun i σ H' _ hP => by obtain ⟨rfl, _⟩ := hP; exact .inl (.inl (k1 _ _ eb))) (fun i v σ H' hx hP => ?_) (fun σ H' hP => ?_)
    · obtain ⟨rfl, w, rfl⟩ := hP
      rw [List.getElem?_map] at hx
      cases e : ss[i]? with
      | none => rw [e] at hx; cases hx
      | some u =>
        rw [e] at hx
        cases hx
        obtain ⟨hi, eu0⟩ := List.getElem?_eq_some_iff.mp e
        have Su := (gs i hi (by omega)).ext (Kp.ext k1)
        rw [eu0] at Su
        obtain ⟨dy, g, c, eu, hG, hc⟩ := id Su
        obtain ⟨dg, eg⟩ := id hG
        refine ⟨_, rfl, ?_⟩
        show rIsA K [.ref u, .ref zn.Sum] H' _
        refine .inl ⟨_, _, _, _, _, rfl, .own zn.Sum, cn.kS.ty eu, cn.kS.s, ?_⟩
        have es1 := k1 _ _ es
        have hF1 := hF.kp k1
        have ef1 := k1 _ _ ef
        refine ⟨_, rfl, u, _, dy, _, _, rfl, eu, aO, sum_f g c, _, rfl, s, _, dx, _, _, rfl, es1, aO, sum_f f a, ?_⟩
        refine .inr (.inr ⟨g, _, dg, _, _, .ref zn.Field, rfl, eg, ⟨rfl, rfl⟩, cn.kF.ty ef1, by simp [PySem.W.notFirst], g, f, _, _, rfl, hG, hF1, _, rfl, _, rfl, ?_⟩)
        exact ite_f (c := !decide (F.p = F.p)) (by rw [decide_eq_true rfl]; rfl) ⟨rfl, _, rfl⟩
    · obtain ⟨rfl, w, rfl⟩ := hP
      refine ⟨LamX.Tabs.ext tb k1, fun fa c' o oc H2 eN T1 f0 f1 c1 no noc => ?_⟩
      have e12 : LamX.ExtN H H2 := (Kp.ext k1).trans eN
      have hs2 := hs.ext e12
      have es2 := e12 _ _ es (fun _ z => by cases z)
      have ha2 := ha.ext e12
      obtain ⟨ra, ea, la, ga⟩ := ha2.at
      refine ⟨_, rfl, s, _, dx, _, _, rfl, es2, aO, sum_f f a, ?_⟩
      refine ⟨_, rfl, s, _, dx, _, _, rfl, es2, aR, sum_r f a, .inl ⟨_, .inl (.inl ea), fun D hD => ?_⟩⟩
      have b2 := hb.ext e12
      have nD : ∀ {z : Addr} {u : HO}, H2 z = some u → z ≠ D := fun h => ne_of_none h hD
      refine lc_list (K := K) (a := a) (xs := vsOf ra) (Pv := fun i H' => LamX.ExtN H2 H' ∧ LamX.Tabs zn.T H' ∧ TLs H' D ((l.take i).map fun t => stp ls t.1 t.2)) ⟨Kp.ext (Rf.Kp.new hD), LamX.Tabs.ext T1 (Rf.Kp.new hD), TLs.nil upd_same⟩ (fun i H' _ hP => .inl (.inl (hP.1 _ _ ea (fun _ z => by cases z)))) (fun i x H' hx hP => ?_) (fun H' hP => ?_)
      · obtain ⟨e3, t3, tl⟩ := hP
        obtain ⟨r, rfl, hr, hi, hm', tk⟩ := ga i x hx
        obtain ⟨r1, r2, r3⟩ := hr.ext e3
        refine ⟨r.τ, _, rfl, .inl (.inl r1), rfl, _, _, rfl, _, _, rfl, rfl, rfl, ?_⟩
        refine ⟨rfl, e3 _ _ f1 no, _, rfl, _, rfl, e3 _ _ f1 no, e3 _ _ c1 noc, ?_⟩
        refine ⟨s, b, r.π, r.q, F, l, ls, r.t, rfl, rfl, hs2.ext e3, b2.ext e3, r2, r3, hm', ok, t3, fun u H4 e4 t4 R fr => ?_⟩
        obtain ⟨as, eD, la', g', ne'⟩ := id tl
        have tl4 : TLs H4 D ((l.take i).map fun t => stp ls t.1 t.2) := ⟨as, e4 _ _ eD (fun _ z => by cases z), la', fun j h1 h2 => (g' j h1 h2).ext e4, ne'⟩
        obtain ⟨acc, e6, l6, t6⟩ := tl4.push R (fun z => fr _ (by rw [z]; exact eD))
        have l5 := ok.ln
        refine ⟨acc, e6, lt_line (by rw [l6, List.length_map]; have := List.length_take_le' i l; omega), ?_, ?_, ?_⟩
        · intro b' o' ho hn
          rw [upd_ne (nD ho)]
          exact e4 _ _ (e3 _ _ ho hn) hn
        · exact tabs_setL t4 e6
        · rw [tk, List.map_append]
          exact t6
      · obtain ⟨e3, t3, tl⟩ := hP
        rw [vs_len, la, List.take_length] at tl
        have eflat : (l.map fun t => stp ls t.1 t.2).flatten = putT ls l := by
          unfold putT
          rw [List.flatMap_def]
        obtain ⟨rs, vss, f1', f2', f3', f4', f5'⟩ := tl.out.flat
        rw [eflat] at f4' f5'
        have wp := ok.all
        refine ⟨le_line (Nat.zero_le _), fun e he => ?_⟩
        have ke := Rf.Kp.new (o := .lst []) he
        refine ⟨D, e, rs, vss, rfl, rfl, ke _ _ f1', upd_same, f2', fun i h1 h2 => ke _ _ (f3' i h1 h2), ?_, fun p H5 k5 ep _ => ?_⟩
        · rw [f4']
          have := wp.len
          exact le_line (by omega)
        have k6 : LamX.ExtN H2 H5 := e3.trans (Kp.ext (ke.trans k5))
        have tp := f5' H5 p (ke.trans k5) ep
        have hF5 : FieldAt zn.Field H5 f F.p := hF.ext (e12.trans k6)
        have t5 := LamX.Tabs.ext t3 (ke.trans k5)
        exact fun x d hx hd n1 => ⟨x, f, p, d, F, _, rfl, upd_same, hF5.kp (new2 hx hd n1), tp.kp (new2 hx hd n1), wp, LamX.Tabs.ext t5 (new2 hx hd n1), fun H6 e6 t6 S6 _ => ⟨rfl, h x H6 ((e12.trans k6).trans (ext_new (new2 hx hd n1) hx e6)) t6 S6⟩⟩
  · rcases bad with ⟨th, nl⟩ | ⟨u, J, m, rfl, hu⟩ | ⟨b, xs, rfl, eb, l100, bad⟩
    · refine ⟨_, rfl, ?_⟩
      show rIsA K [v, .ty "list"] H _
      exact th_list th nl (h H (Rf.Kp.refl H))
    · obtain ⟨dy, g, c, eu, _⟩ := id hu
      refine ⟨_, rfl, ?_⟩
      show rIsA K [.ref u, .ty "list"] H _
      exact .inl (.inr ⟨_, _, _, _, _, rfl, .ty "list", cn.kS.ty eu, cn.sl, h H (Rf.Kp.refl H)⟩)
    · refine ⟨_, rfl, .inl (.inl ⟨_, _, eb, rfl, rfl, ?_⟩)⟩
      refine ⟨_, rfl, _, .inl ⟨_, .inl (.inl eb), rfl⟩, zn.Sum, _, ⟨rfl, rfl, rfl⟩, _, rfl, s, dr, fr, rfl, er, nr, s, F, l, rfl, hs, wl, fun m H1 k1 hm => ⟨_, rfl, ?_⟩⟩
      by_cases hlt : (xs.length : Int) < m
      · exact ite_t (decide_eq_true hlt) (h H1 k1)
      · refine ite_f (decide_eq_false hlt) ?_
        rcases bad with ⟨t, ht, k, hk, hle⟩ | ⟨i, y, hy, odd, good⟩
        · exact absurd (hm.up t ht k hk) (by omega)
        refine ⟨_, rfl, .inl ⟨_, .inl (.inl (k1 _ _ eb)), ?_⟩⟩
        have es1 := k1 _ _ es
        have hF1 := hF.kp k1
        have ef1 := k1 _ _ ef
        have hi : i < xs.length := (List.getElem?_eq_some_iff.mp hy).1
        refine for_list (K := K) (a := b) (xs := xs) (Pv := fun j σ H' => H' = H1 ∧ j ≤ i ∧ ∃ w, σ = [some (.ref s), some (.ref b), w, none, none, none]) ⟨rfl, Nat.zero_le _, none, rfl⟩ (fun j σ H' _ hP => by obtain ⟨rfl, _⟩ := hP; exact .inl (.inl (k1 _ _ eb))) (fun j v σ H' hx hP => ?_) (fun σ H' hP => absurd hP.2.1 (by omega))
        obtain ⟨rfl, hji, w, rfl⟩ := hP
        have key : (∃ (u : Addr) (J : Fd) (n : List (Tm J)), v = .ref u ∧ SumAt zn.Field zn.Sum H u J n ∧ (J.p = F.p → j < i)) ∨ Th H v := by
          by_cases lt : j < i
          · obtain ⟨u, n, ev, Su⟩ := good j lt v hx
            exact .inl ⟨u, F, n, ev, Su, fun _ => lt⟩
          · obtain rfl : j = i := by omega
            rw [hx] at hy
            cases hy
            rcases odd with th | ⟨u, J, n, ev, Su, ne⟩
            · exact .inr th
            · exact .inl ⟨u, J, n, ev, Su, fun e => absurd e ne⟩
        rcases key with ⟨u, J, n, rfl, Su, hj⟩ | th
        · have Su := Su.ext (Kp.ext k1)
          obtain ⟨dy, g, c, eu, hG, hc⟩ := id Su
          obtain ⟨dg, eg⟩ := id hG
          refine ⟨_, rfl, ?_⟩
          show rIsA K [.ref u, .ref zn.Sum] H' _
          refine .inl ⟨_, _, _, _, _, rfl, .own zn.Sum, cn.kS.ty eu, cn.kS.s, ?_⟩
          refine ⟨_, rfl, u, _, dy, _, _, rfl, eu, aO, sum_f g c, _, rfl, s, _, dx, _, _, rfl, es1, aO, sum_f f a, ?_⟩
          refine .inr (.inr ⟨g, _, dg, _, _, .ref zn.Field, rfl, eg, ⟨rfl, rfl⟩, cn.kF.ty ef1, by simp [PySem.W.notFirst], g, f, _, _, rfl, hG, hF1, _, rfl, _, rfl, ?_⟩)
          by_cases e : J.p = F.p
          · exact ite_f (c := !decide (J.p = F.p)) (by rw [decide_eq_true e]; rfl) ⟨rfl, hj e, _, rfl⟩
          · exact ite_t (c := !decide (J.p = F.p)) (by rw [decide_eq_false e]; rfl) (h H' k1)
        · refine ⟨_, rfl, ?_⟩
          show rIsA K [v, .ref zn.Sum] H' _
          exact th_sum cn (th.ext (Kp.ext k1)) (h H' k1)
theorem r__law_put_in (cn : Con zn K) (h : sp__law_put_in zn K vs H Q E) : dSs (g__law_put_in ρ zn K) K m__law_put_in (W0 E) (D0 Q) (start N__law_put_in vs) H := by
  obtain ⟨p, a, b, F, l, ls, rfl, rfl, ha, hb, ok, h⟩ := h
  obtain ⟨ra, ea, la, ga⟩ := ha.at
  obtain ⟨ss, eb, lss, gs⟩ := id hb
  have wp := ok.all.len
  refine ⟨le_line (Nat.zero_le _), fun c0 hc0 => ?_⟩
  have k0 := Rf.Kp.new (o := .lst []) hc0
  refine ⟨_, rfl, .inl ⟨_, .inl (.inl (k0 _ _ ea)), ?_⟩⟩
  refine for_list (K := K) (a := a) (xs := vsOf ra) (Pv := fun i σ H' => Rf.Kp H H' ∧ ∃ c s4 s5 s6 s7, TermsAt H' c (putT ls (l.take i)) ∧ σ = [some (.int F.p), some (.ref a), some (.ref b), some (.ref c), s4, s5, s6, s7]) ⟨k0, c0, none, none, none, none, TermsAt.nil upd_same, rfl⟩ (fun i σ H' _ hP => .inl (.inl (hP.1 _ _ ea))) (fun i x σ H' hx hP => ?_) (fun σ H' hP => ?_)
  · obtain ⟨k1, c, s4, s5, s6, s7, tc, rfl⟩ := hP
    obtain ⟨r, rfl, hr, hi, hm, tk⟩ := ga i x hx
    obtain ⟨r1, r2, r3⟩ := hr.ext (Kp.ext k1)
    refine ⟨r.τ, _, rfl, .inl (.inl r1), rfl, _, _, rfl, _, _, rfl, rfl, ?_⟩
    refine ⟨le_line (Nat.zero_le _), fun e he => ?_⟩
    refine ⟨_, rfl, two_le, fun τ hτ => ?_⟩
    refine ⟨le_line (show 1 ≤ 3000 by decide), fun D hD => ?_⟩
    have k2 : Rf.Kp H' (upd (upd (upd H' e (.tup [])) τ (.tup [.ref e, .ref r.q])) D (.lst [.ref τ])) := (Rf.Kp.new he).trans ((Rf.Kp.new hτ).trans (Rf.Kp.new hD))
    have a1 : TermsAt (upd (upd (upd H' e (.tup [])) τ (.tup [.ref e, .ref r.q])) D (.lst [.ref τ])) D [(([] : Pr), r.t.2)] := by
      refine ⟨[⟨τ, e, r.q, ([], r.t.2)⟩], upd_same, fun x hx => ?_, rfl⟩
      rw [List.mem_singleton.mp hx]
      exact ⟨(Rf.Kp.new hD) _ _ upd_same, (Rf.Kp.new hD) _ _ ((Rf.Kp.new hτ) _ _ upd_same), k2 _ _ r3⟩
    have hp2 : ProdAt _ r.π r.t.1 := k2 _ _ r2
    refine ⟨_, rfl, .inr (.inl ⟨_, .inl (.inl hp2), ?_⟩)⟩
    have k12 := k1.trans k2
    refine for_tup (K := K) (a := r.π) (xs := r.t.1.map V.int) (Pv := fun j σ H' => Rf.Kp H H' ∧ ∃ d s7, TermsAt H' c (putT ls (l.take i)) ∧ TermsAt H' d (stp ls (r.t.1.take j) r.t.2) ∧ ProdAt H' r.π r.t.1 ∧ σ = [some (.int F.p), some (.ref a), some (.ref b), some (.ref c), some (.ref r.π), some (.ref r.q), some (.ref d), s7]) ⟨k12, D, s7, tc.ext (Kp.ext k2), a1, hp2, rfl⟩ (fun j σ H' _ hP => by obtain ⟨_, _, _, _, _, q, _⟩ := hP; exact .inl (.inl q)) (fun j v σ H2 hx hP => ?_) (fun σ H2 hP => ?_)
    · obtain ⟨k3, d, s7, tc3, td, hp3, rfl⟩ := hP
      rw [List.getElem?_map] at hx
      cases e : r.t.1[j]? with
      | none => rw [e] at hx; cases hx
      | some k =>
        rw [e] at hx
        cases hx
        have hlt : j < r.t.1.length := (List.getElem?_eq_some_iff.mp e).1
        have ek : r.t.1[j] = k := (List.getElem?_eq_some_iff.mp e).2
        have hk := ok.inn r.t hm k (List.mem_of_getElem? e)
        have hn : k.toNat < ss.length := by omega
        obtain ⟨m1, m2, m3⟩ := ok.ml r.t hm j hlt
        rw [ek] at m1 m2 m3
        have Sk : TermsAt H2 ss[k.toNat] (ls.getD k.toNat []) := by
          have q := (gs k.toNat hn (by omega)).ext (Kp.ext k3)
          rw [List.getD_eq_getElem?_getD, List.getElem?_eq_getElem (by omega)]
          exact q
        have eat : atI (ss.map V.ref) k = some (.ref ss[k.toNat]) := by
          rw [atI_of hk.1 (by rw [List.length_map]; omega), List.getElem?_map, List.getElem?_eq_getElem hn]
          rfl
        refine ⟨_, rfl, _, rfl, _, rfl, _, rfl, _, _, .inl (.inl (.inl (k3 _ _ eb))), eat, ?_⟩
        refine ⟨F.p, d, ss[k.toNat], F, _, _, rfl, rfl, td, Sk, ok.wg r.t hm j (Nat.le_of_lt hlt), m1, m2, m3, fun u H4 k4 U => ?_⟩
        refine ⟨k3.trans k4, u, _, tc3.ext (Kp.ext k4), ?_, k4 _ _ hp3, rfl⟩
        rw [stp_take _ _ _ hlt, ek]
        exact U
    · obtain ⟨k3, d, s7, tc3, td, hp3, rfl⟩ := hP
      rw [List.length_map, List.take_length] at td
      obtain ⟨xs, ys, ex, ey, lx, ly, hab⟩ := tc3.app td (c := c)
      have e5 : putT ls (l.take (i + 1)) = putT ls (l.take i) ++ stp ls r.t.1 r.t.2 := by rw [tk, putT_snoc]
      have le5 : (putT ls (l.take (i + 1))).length ≤ (putT ls l).length := by
        have e6 : putT ls l = putT ls (l.take (i + 1)) ++ putT ls (l.drop (i + 1)) := by
          unfold putT
          rw [← List.flatMap_append, List.take_append_drop]
        rw [e6, List.length_append]
        omega
      rw [e5, List.length_append] at le5
      refine ⟨_, rfl, _, rfl, .inl ⟨c, d, _, _, rfl, rfl, ex, ey, le_line (by omega), fun c' hc' => ?_⟩⟩
      have k5 := Rf.Kp.new (o := .lst (xs ++ ys)) hc'
      refine ⟨k3.trans k5, c', _, _, _, _, ?_, rfl⟩
      rw [e5]
      exact hab _ c' (Kp.ext k5) upd_same
  · obtain ⟨k1, c, s4, s5, s6, s7, tc, rfl⟩ := hP
    rw [vs_len, la, List.take_length] at tc
    exact ⟨_, rfl, _, rfl, F.p, c, F, _, rfl, rfl, tc, ok.all, fun r H2 k2 _ t => h r H2 (k1.trans k2) t⟩
end
end K08
namespace K08
open PySem PySem.Spec PyProof.Rows L2 Rf NumP NumF SumP TermP
section
variable {K : Frag} {vs : List V} {H : Hp} {Q : VK} {E : XK} {zn : Cn} {ρ : Fs}
/-- the body of law's loop -/
def bodyL : MSs := match m_law with | .cons (.fors _ _ b _) _ => b | _ => .nil
/-- what is at hand in a turn -/
structure Rd8 (z : Cn) {F : Fd} (r f du rw fo one sm : Addr) (ws : List V) (d : List (Tm F)) (ls : List (List (Tm F))) (H : Hp) : Prop where
  T : LamX.Tabs z.T H
  hr : RoomAt H r
  hF : FieldAt z.Field H f F.p
  td : TermsAt H du d
  tr : TListsAt H rw ls
  s1 : SumAt z.Field z.Sum H one F d
  ss : SumsAt z.Field z.Sum H sm F ls
  es : H sm = some (.lst ws)
  fo : SumAt z.Field z.Sum H fo F (G (putT ls d))
theorem Rd8.ext {z : Cn} {F : Fd} {r f du rw fo one sm : Addr} {ws : List V} {d : List (Tm F)} {ls : List (List (Tm F))} {H H' : Hp} (R : Rd8 z r f du rw fo one sm ws d ls H) (e : LamX.ExtN H H') (t : LamX.Tabs z.T H') : Rd8 z r f du rw fo one sm ws d ls H' :=
  ⟨t, by
    obtain ⟨l, m, h, q⟩ := R.hr
    exact ⟨l, m, e _ _ h (fun _ z => by cases z), q⟩, R.hF.ext e, R.td.ext e, R.tr.ext e, R.s1.ext e, R.ss.ext e, e _ _ R.es (fun _ z => by cases z), R.fo.ext e⟩
theorem Rd8.kp {z : Cn} {F : Fd} {r f du rw fo one sm : Addr} {ws : List V} {d : List (Tm F)} {ls : List (List (Tm F))} {H H' : Hp} (R : Rd8 z r f du rw fo one sm ws d ls H) (k : Rf.Kp H H') : Rd8 z r f du rw fo one sm ws d ls H' := R.ext (Kp.ext k) (LamX.Tabs.ext R.T k)
theorem Rd8.kr {z : Cn} {F : Fd} {r f du rw fo one sm : Addr} {ws : List V} {d : List (Tm F)} {ls : List (List (Tm F))} {H H' : Hp} (R : Rd8 z r f du rw fo one sm ws d ls H) (k : KpX r H H') (hr : RoomAt H' r) : Rd8 z r f du rw fo one sm ws d ls H' :=
  ⟨Tabs_kx R.T R.hr k, hr, R.hF.kx R.hr k, R.td.kr R.hr k, R.tr.kr R.hr k, R.s1.kr R.hr k, R.ss.kr R.hr k, by
    obtain ⟨ss, e, _⟩ := R.ss
    exact k _ _ (refs_ne e R.hr) R.es, R.fo.kr R.hr k⟩
/-- what is known of the drawn things -/
structure Dr8 {F : Fd} (d : List (Tm F)) (ls : List (List (Tm F))) : Prop where
  cd : Canon d
  wd : Wf 1 46 5 d
  pd : ∀ t ∈ d, ∀ k ∈ t.1, k < 4
  l4 : 4 ≤ ls.length
  l6 : ls.length ≤ 6
  cl : ∀ m ∈ ls, Canon m
  wl : ∀ m ∈ ls, Wf 1 44 3 m
  pl : ∀ m ∈ ls, ∀ t ∈ m, ∀ k ∈ t.1, k < 5
theorem Dr8.ok {F : Fd} {d : List (Tm F)} {ls : List (List (Tm F))} (D : Dr8 d ls) : PutOk ls d := put_ok D.cd D.wd D.pd (fun t ht k hk => by have := D.pd t ht k hk; have := D.l4; omega) D.wl D.pl
/-! lists of lists of terms, as data -/
def dLL {F : Fd} (Ls : List (List (Tm F))) : List PyData := Ls.map fun l => .list (l.map dT)
theorem dLL_eqv {F : Fd} : ∀ Ls : List (List (Tm F)), PyData.eqvAll (dLL Ls) (dLL Ls) = true
  | [] => rfl
  | l :: Ls => by
    show PyData.eqvAll (PyData.list (l.map dT) :: dLL Ls) (PyData.list (l.map dT) :: dLL Ls) = true
    simp only [PyData.eqvAll]
    rw [eqvL, decide_eq_true rfl, dLL_eqv Ls]
    rfl
theorem dLL_shape {F : Fd} : ∀ Ls : List (List (Tm F)), PyData.canLayAll0 (dLL Ls) = true ∧ PyData.depthAll (dLL Ls) ≤ 4
  | [] => ⟨rfl, by simp [dLL, PyData.depthAll]⟩
  | l :: Ls => by
    obtain ⟨a, b⟩ := dLL_shape Ls
    obtain ⟨c, d⟩ := shapeTs l
    show PyData.canLayAll0 (PyData.list (l.map dT) :: dLL Ls) = true ∧ PyData.depthAll (PyData.list (l.map dT) :: dLL Ls) ≤ 4
    simp only [PyData.canLayAll0, PyData.depthAll, PyData.canLay0, PyData.depth, a, c, Bool.and_true]
    exact ⟨trivial, by omega⟩
theorem dLL_sh {F : Fd} (Ls : List (List (Tm F))) : SeqAt.shaped (.list (dLL Ls)) = true := by
  obtain ⟨a, b⟩ := dLL_shape Ls
  simp only [SeqAt.shaped, PyData.canLay0, PyData.depth, a, Bool.true_and]
  exact decide_eq_true (show _ ≤ 64 by omega)
theorem dLL_all {F : Fd} {H : Hp} : ∀ (as : List Addr) (Ls : List (List (Tm F))), as.length = Ls.length → (∀ i (h : i < as.length) (h' : i < Ls.length), TermsAt H as[i] Ls[i]) → DpAll K H (as.map V.ref) (dLL Ls)
  | [], [], _, _ => .nil
  | a :: as, l :: Ls, hl, h => .cons (h 0 (Nat.zero_lt_succ _) (Nat.zero_lt_succ _)).dp (dLL_all as Ls (Nat.succ.inj hl) fun i hi hi' => h (i + 1) (Nat.succ_lt_succ hi) (Nat.succ_lt_succ hi'))
theorem TLdp {F : Fd} {H : Hp} {a : Addr} {Ls : List (List (Tm F))} (h : TListsAt H a Ls) : Dp K H (.ref a) (.list (dLL Ls)) := by
  obtain ⟨as, e, l, g⟩ := h
  exact .lst (.inl (.inl e)) (dLL_all as Ls l g)
theorem tail1 (cn : Con zn K) {F : Fd} {D0 : Ends} {a r f du rw hd fo one sm : Addr} {s1 s9 s10 s11 s12 s14 s16 s17 s18 s19 s20 s21 : Option V} {ws : List V} {d : List (Tm F)} {ls : List (List (Tm F))} (R : Rd8 zn r f du rw fo one sm ws d ls H) (Dr : Dr8 d ls) (eh : H hd = some (.lst ws))
    (nx : ∀ H' s18, LamX.ExtN H H' → LamX.Tabs zn.T H' → dSs (g_law ρ zn K) K (tlN 12 bodyL) (W0 E) D0 [some (.ref a), s1, some (.ref r), some (.int F.p), some (.ref f), some (.ref du), some (.ref rw), some (.ref hd), some (.ref fo), s9, s10, s11, s12, some (.ref one), s14, some (.ref sm), s16, s17, s18, s19, s20, s21] H') :
    dSs (g_law ρ zn K) K (tlN 9 bodyL) (W0 E) D0 [some (.ref a), s1, some (.ref r), some (.int F.p), some (.ref f), some (.ref du), some (.ref rw), some (.ref hd), some (.ref fo), s9, s10, s11, s12, some (.ref one), s14, some (.ref sm), s16, s17, s18, s19, s20, s21] H := by
  have ok := Dr.ok
  obtain ⟨dx, g, c, eo, _⟩ := id R.fo
  refine ⟨_, rfl, ?_⟩
  show rIsA K [.ref fo, .ref zn.Sum] H _
  refine .inl ⟨_, _, _, _, _, rfl, .own zn.Sum, cn.kS.ty eo, cn.kS.s, ?_⟩
  obtain ⟨dt, ft, et, nt⟩ := R.fo.ob (m := "terms") (by decide +kernel) (by decide +kernel)
  refine ⟨zn.Sum, _, .inr ⟨rfl, rfl, rfl⟩, _, rfl, fo, dt, ft, rfl, et, nt, fo, F, _, rfl, R.fo, fun g1 H1 k1 ng1 tg1 => ?_⟩
  have R1 := R.kp k1
  refine ⟨_, rfl, _, rfl, _, rfl, F.p, du, rw, F, d, ls, rfl, rfl, R1.td, R1.tr, ok, fun g2 H2 k2 tg2 => ?_⟩
  have R2 := R1.kp k2
  have tg1 := tg1.kp k2
  refine .inr (.inl ⟨_, _, tg1.dp, tg2.dp, shapeL _, shapeL _, _, rfl, ?_⟩)
  rw [eqvL, decide_eq_true rfl]
  refine ite_f rfl ?_
  -- the list handed in stays
  have ehd : H2 hd = some (.lst ws) := k2 _ _ (k1 _ _ eh)
  obtain ⟨ss, ess, lss, gss⟩ := id R2.ss
  have ews : ws = ss.map V.ref := by
    have q := R2.es
    rw [ess] at q
    cases q
    rfl
  refine ⟨_, rfl, _, rfl, ?_⟩
  dsimp only [BX.r]
  refine ⟨hd, sm, ws, ws, fun _ => true, rfl, rfl, ehd, R2.es, fun _ i u v hu hv => ?_, fun H3 k3 => ?_⟩
  · rw [hu] at hv
    cases hv
    rw [ews, List.getElem?_map] at hu
    obtain ⟨x, _, rfl⟩ := Option.map_eq_some_iff.mp hu
    exact ⟨x, x, rfl, rfl, .inl ⟨rfl, rfl⟩⟩
  have er : (List.range ws.length).all (fun _ => true) = true := List.all_eq_true.mpr fun _ _ => rfl
  rw [er, decide_eq_true rfl]
  have k3 : Rf.Kp H2 H3 := k3
  have R3 := R2.kp k3
  obtain ⟨do_, fo_, eo_, no_⟩ := R3.s1.ob (m := "terms") (by decide +kernel) (by decide +kernel)
  refine ⟨_, rfl, zn.Sum, _, .inr ⟨rfl, rfl, rfl⟩, _, rfl, one, do_, fo_, rfl, eo_, no_, one, F, _, rfl, R3.s1, fun g3 H4 k4 ng3 tg3 => ?_⟩
  have R4 := R3.kp k4
  refine ⟨_, rfl, .inr (.inl ⟨_, _, tg3.dp, R4.td.dp, shapeL _, shapeL _, _, rfl, ?_⟩)⟩
  rw [eqvL, decide_eq_true rfl]
  refine ite_f rfl ?_
  -- the sums stay
  have e4 := R4.es
  have t4 := R4.T
  obtain ⟨s4, es4, ls4, gs4⟩ := R4.ss.at
  refine ⟨_, rfl, .inl ⟨_, .inl (.inl es4), fun D hD => ?_⟩⟩
  have kD := Rf.Kp.new (o := .lst []) hD
  refine lc_list (K := K) (a := sm) (xs := s4.map V.ref) (Pv := fun i H' => Rf.Kp H4 H' ∧ TLs H' D (ls.take i)) ⟨kD, TLs.nil upd_same⟩ (fun i H' _ hP => .inl (.inl (hP.1 _ _ es4))) (fun i x H5 hx hP => ?_) (fun H5 hP => ?_)
  · obtain ⟨k5, tl⟩ := hP
    obtain ⟨u, l, rfl, Su, hi, hm, tk⟩ := gs4 i x hx
    have Su := Su.ext (Kp.ext k5)
    obtain ⟨du_, fu_, eu_, nu_⟩ := Su.ob (m := "terms") (by decide +kernel) (by decide +kernel)
    refine ⟨rfl, zn.Sum, _, .inr ⟨rfl, rfl, rfl⟩, _, rfl, u, du_, fu_, rfl, eu_, nu_, u, F, _, rfl, Su, fun g5 H6 k6 ng5 tg5 => ?_⟩
    obtain ⟨as, eD, la', g', ne'⟩ := id tl
    have tl6 : TLs H6 D (ls.take i) := ⟨as, k6 _ _ eD, la', fun j h1 h2 => (g' j h1 h2).ext (Kp.ext k6), ne'⟩
    obtain ⟨acc, e6, l6, t6⟩ := tl6.push tg5 (fun z => by rw [z, eD] at ng5; cases ng5)
    have l5 := Dr.l6
    refine ⟨acc, e6, lt_line (by rw [l6]; have := List.length_take_le' i ls; omega), ((k5.trans k6).kx.trans KpX.set).kp hD, ?_⟩
    rw [tk]
    exact t6
  obtain ⟨k5, tl⟩ := hP
  rw [List.length_map, ls4, List.take_length] at tl
  have R5 := R4.kp k5
  refine ⟨_, rfl, .inr (.inl ⟨_, _, TLdp tl.out, TLdp R5.tr, dLL_sh _, dLL_sh _, _, rfl, ?_⟩)⟩
  have ee : PyData.eqv (.list (dLL ls)) (.list (dLL ls)) = true := by
    simp only [PyData.eqv]
    exact dLL_eqv ls
  rw [ee]
  refine ite_f rfl ?_
  exact nx H5 _ (Kp.ext (k1.trans (k2.trans (k3.trans (k4.trans k5))))) R5.T
end
end K08
namespace K08
open PySem PySem.Spec PyProof.Rows L2 Rf NumP NumF SumP TermP
section
variable {K : Frag} {vs : List V} {H : Hp} {Q : VK} {E : XK} {zn : Cn} {ρ : Fs}
theorem nm_one {F : Fd} : (1 : Nm F) ≠ 0 := fun h => absurd (show (1 : Int) = 0 from congrArg Nm.t h) (by decide)
theorem plain_take {F : Fd} {n j : Nat} (h : j < n) : (selfT F n).take (j + 1) = (selfT F n).take j ++ [[([(j : Int)], 1)]] := by
  have e : (selfT F n)[j]? = some [([(j : Int)], 1)] := by
    unfold selfT
    rw [List.getElem?_map, List.getElem?_range h]
    rfl
  rw [List.take_succ, e]
  rfl
theorem plain_wf {F : Fd} {n : Nat} (hn : n ≤ 5) : ∀ m ∈ selfT F n, Wf 1 44 3 m ∧ ∀ t ∈ m, ∀ k ∈ t.1, k < 5 := fun m hm => by
  obtain ⟨p, hp, rfl⟩ := List.mem_map.mp hm
  have hp := List.mem_range.mp hp
  refine ⟨⟨fun t ht => ?_, (show 1 ≤ 3 by decide), by decide⟩, fun t ht k hk => ?_⟩
  · rw [List.mem_singleton.mp ht]
    exact ⟨⟨List.pairwise_singleton .., fun k hk => by rw [List.mem_singleton.mp hk]; omega⟩, Sz.one⟩
  · rw [List.mem_singleton.mp ht] at hk
    rw [List.mem_singleton.mp hk]
    omega
def farP (p : Int) : Int := if p = 7 then 11 else 7
theorem far_ok (p : Int) : P0 (farP p) ∧ p ≠ farP p := by
  unfold farP
  split
  · rename_i h
    subst h
    exact ⟨.inr (by decide), by decide⟩
  · rename_i h
    exact ⟨.inr (by decide), h⟩
theorem cutTo {xs : List V} {k : Nat} (h : k ≤ xs.length) : cutV xs none (some (k : Nat)) = xs.take k := by
  unfold cutV
  have e1 : HT.sIx xs.length 0 none = 0 := rfl
  have e2 : HT.sIx xs.length xs.length (some ((k : Nat) : Int)) = k := by rw [HT.sIx_nat, Nat.min_eq_left h]
  rw [e1, e2, List.drop_zero, Nat.sub_zero]
theorem cutFrom {xs : List V} {k : Nat} (h : k ≤ xs.length) : cutV xs (some (k : Nat)) none = xs.drop k := by
  unfold cutV
  have e1 : HT.sIx xs.length 0 (some ((k : Nat) : Int)) = k := by rw [HT.sIx_nat, Nat.min_eq_left h]
  have e2 : HT.sIx xs.length xs.length none = xs.length := rfl
  rw [e1, e2]
  exact List.take_of_length_le (by rw [List.length_drop]; omega)
theorem wg_nil' {F : Fd} : Wg ([] : List (Tm F)) := Wf.g0 (e := 7) (n := 0) ⟨fun t ht => (by cases ht), Nat.le_refl _, by decide⟩ (by decide)
theorem G_nil' {F : Fd} : G ([] : List (Tm F)) = [] := G_id ⟨.nil, fun t ht => by cases ht⟩
theorem dl {F : Fd} {l m : List (Tm F)} (e : l = m) : decide (l = m) = true := decide_eq_true e
theorem tail2 (cn : Con zn K) {F : Fd} {D0 : Ends} {a r f du rw hd fo one sm : Addr} {s1 s9 s10 s11 s12 s14 s16 s17 s18 s19 s20 s21 : Option V} {ws : List V} {d : List (Tm F)} {ls : List (List (Tm F))} (R : Rd8 zn r f du rw fo one sm ws d ls H) (Dr : Dr8 d ls) (lw : ws.length = ls.length)
    (nx : ∀ H' s9 fa (J : Fd) (at_ : Int), LamX.ExtN H H' → LamX.Tabs zn.T H' → SumAt zn.Field zn.Sum H' fa J [] → J.p ≠ F.p → 0 ≤ at_ → at_ < (ws.length : Int) → ∀ H'', KpX r H' H'' → RoomAt H'' r → dSs (g_law ρ zn K) K (tlN 16 bodyL) (W0 E) D0 [some (.ref a), s1, some (.ref r), some (.int F.p), some (.ref f), some (.ref du), some (.ref rw), some (.ref hd), some (.ref fo), s9, some (.ref fa), some (.int at_), s12, some (.ref one), s14, some (.ref sm), s16, s17, s18, s19, s20, s21] H'') :
    dSs (g_law ρ zn K) K (tlN 12 bodyL) (W0 E) D0 [some (.ref a), s1, some (.ref r), some (.int F.p), some (.ref f), some (.ref du), some (.ref rw), some (.ref hd), some (.ref fo), s9, s10, s11, s12, some (.ref one), s14, some (.ref sm), s16, s17, s18, s19, s20, s21] H := by
  refine ⟨4, rfl, by decide, by decide, fun D hD => ?_⟩
  have kD := Rf.Kp.new (o := .lst []) hD
  refine lc_range (Pv := fun j H' => LamX.ExtN H H' ∧ LamX.Tabs zn.T H' ∧ SLs zn.Field zn.Sum H' D ((selfT F 4).take j)) ⟨Kp.ext kD, LamX.Tabs.ext R.T kD, SLs.nil upd_same⟩ (fun j H1 hj hP => ?_) (fun H1 hP => ?_)
  · obtain ⟨e1, t1, hS⟩ := hP
    have hj : j < 4 := hj
    refine ⟨rfl, _, rfl, _, rfl, le_line (show 1 ≤ 3000 by decide), fun u0 h0 => ⟨two_le, fun u1 h1 => ⟨two_le, fun u2 h2 => ⟨le_line (show 1 ≤ 3000 by decide), fun L hL => ?_⟩⟩⟩⟩
    have k0 := Rf.Kp.new (o := .tup [.int (0 + (j : Int))]) h0
    have k1 := Rf.Kp.new (o := .tup [.int 1, .int 1]) h1
    have k2 := Rf.Kp.new (o := .tup [.ref u0, .ref u1]) h2
    have k3 := Rf.Kp.new (o := .lst [.ref u2]) hL
    have kk := k0.trans (k1.trans (k2.trans k3))
    have tl : TermsAt (F := F) (upd (upd (upd (upd H1 u0 (.tup [.int (0 + (j : Int))])) u1 (.tup [.int 1, .int 1])) u2 (.tup [.ref u0, .ref u1])) L (.lst [.ref u2])) L [([(j : Int)], 1)] := by
      refine ⟨[⟨u2, u0, u1, ([(j : Int)], 1)⟩], upd_same, fun x hx => ?_, rfl⟩
      rw [List.mem_singleton.mp hx]
      refine ⟨k3 _ _ upd_same, k3 _ _ (k2 _ _ (k1 _ _ ?_)), k3 _ _ (k2 _ _ upd_same)⟩
      rw [upd_same, Int.zero_add]
      rfl
    generalize upd (upd (upd (upd H1 u0 (.tup [.int (0 + (j : Int))])) u1 (.tup [.int 1, .int 1])) u2 (.tup [.ref u0, .ref u1])) L (.lst [.ref u2]) = H2 at kk tl
    obtain ⟨w1, _⟩ := plain_wf (F := F) (n := 4) (by decide) [([(j : Int)], 1)] (List.mem_map.mpr ⟨j, List.mem_range.mpr hj, rfl⟩)
    refine fun x dx hx hdx ne => ⟨x, f, L, dx, F, _, rfl, upd_same, ((R.hF.ext e1).kp kk).kp (new2 hx hdx ne), tl.kp (new2 hx hdx ne), w1.g (by decide) (by decide) (by decide), LamX.Tabs.ext t1 (kk.trans (new2 hx hdx ne)), fun H3 e3 t3 S3 fr => ⟨rfl, ?_⟩⟩
    obtain ⟨acc, e, lac, e23, tt, hS'⟩ := made_step (hS.ext (Kp.ext kk)) hx hdx ne e3 t3 S3 fr
    refine ⟨acc, e, lt_line (by rw [lac]; have := List.length_take_le j (selfT F 4); omega), extn_out (e1.trans ((Kp.ext kk).trans e23)) hD, tt, ?_⟩
    rw [plain_take hj]
    rw [G_one nm_one] at hS'
    exact hS'
  obtain ⟨e1, t1, hS⟩ := hP
  have R1 := R.ext e1 t1
  have hS : SumsAt zn.Field zn.Sum H1 D F (selfT F 4) := hS.out
  have lT : (selfT F 4).length = 4 := by unfold selfT; rw [List.length_map, List.length_range]
  have okT : PutOk (selfT F 4) d := put_ok Dr.cd Dr.wd Dr.pd (fun t ht k hk => by rw [lT]; exact Dr.pd t ht k hk) (fun m hm => (plain_wf (by decide) m hm).1) (fun m hm => (plain_wf (by decide) m hm).2)
  have ep : G (putT (selfT F 4) d) = d := by
    rw [putT_plain Dr.cd (fun t ht => (Dr.wd.ok t ht).1) (fun t ht k hk => Dr.pd t ht k hk), G_id Dr.cd]
  obtain ⟨dx, fs, es, nf⟩ := R1.s1.ob (m := "put_in") (by decide +kernel) (by decide +kernel)
  refine ⟨zn.Sum, _, .inl ⟨rfl, rfl, rfl⟩, _, rfl, one, dx, fs, rfl, es, nf, _, rfl, one, .ref D, F, d, rfl, t1, R1.s1, Dr.ok.wl, .inl ⟨D, _, rfl, hS, by rw [lT]; decide, okT, fun u H2 e2 t2 U => ?_⟩⟩
  rw [ep] at U
  have R2 := R1.ext e2 t2
  obtain ⟨d1, f1, es1⟩ := R2.s1.ins
  obtain ⟨d2, f2, es2⟩ := U.ins
  refine ⟨_, rfl, .inr (.inr ⟨u, zn.Sum, d2, f2, _, .ref zn.Sum, rfl, es2, ⟨rfl, rfl⟩, cn.kS.ty es1, by simp [PySem.W.notFirst], u, one, F, _, _, rfl, U, R2.s1, fun H3 k3 => ⟨_, rfl, _, rfl, ?_⟩⟩)⟩
  rw [dl rfl]
  refine ite_f rfl ?_
  have R3 := R2.kp k3
  have e03 := e1.trans (e2.trans (Kp.ext k3))
  -- a sum far away
  obtain ⟨fp, fne⟩ := far_ok F.p
  obtain ⟨J, hJ⟩ : ∃ J : Fd, J.p = farP F.p := ⟨⟨_, fp⟩, rfl⟩
  refine ⟨two_le, fun oo hoo => ⟨_, rfl, _, .int (farP F.p), .inl (.inl (.inl upd_same)), ?_, fun xf df hxf hdf nxf => ⟨xf, df, farP F.p, rfl, upd_same, fp, fun H4 k4 hG => ⟨rfl, ?_⟩⟩⟩⟩
  · unfold farP
    by_cases hz : F.p = 7
    · rw [if_pos hz]
      show atI _ (if decide (F.p = 7) = true then (1 : Int) else 0) = _
      rw [decide_eq_true hz]
      rfl
    · rw [if_neg hz]
      show atI _ (if decide (F.p = 7) = true then (1 : Int) else 0) = _
      rw [decide_eq_false hz]
      rfl
  have kl := Rf.Kp.new (o := .lst [.int 7, .int 11]) hoo
  have k4 := kl.trans (((new2 hxf hdf nxf).kx.trans k4).kp hxf)
  have R4 := R3.kp k4
  rw [← hJ] at hG
  obtain ⟨rs, er, lr, gr⟩ := id R4.tr
  have l4 := Dr.l4
  have hr0 : 0 < rs.length := by omega
  have ar : atI (rs.map V.ref) 0 = some (.ref rs[0]) := by
    rw [atI_of (by decide) (by rw [List.length_map]; omega), List.getElem?_map]
    show Option.map V.ref rs[0]? = _
    rw [List.getElem?_eq_getElem hr0]
    rfl
  obtain ⟨ts, et, _⟩ := gr 0 hr0 (by omega)
  refine ⟨_, rfl, _, _, .inl (.inl (.inl er)), ar, ?_⟩
  refine ⟨0, rfl, .inl ⟨rs[0], _, rfl, .inl (.inl et), fun oe hoe => ?_⟩⟩
  have ec : cutV (vsOf ts) none (some 0) = [] := by
    rw [show (0 : Int) = ((0 : Nat) : Int) from rfl, cutTo (Nat.zero_le _)]
    rfl
  rw [ec]
  have ke := Rf.Kp.new (o := .lst []) hoe
  refine fun xs ds hxs hds nxs => ⟨xs, xf, oe, ds, J, [], rfl, upd_same, (hG.kp ke).kp (new2 hxs hds nxs), (TermsAt.nil upd_same).kp (new2 hxs hds nxs), wg_nil', LamX.Tabs.ext (R4.kp ke).T (new2 hxs hds nxs), fun H5 e5 t5 SF _ => ⟨rfl, ?_⟩⟩
  have e5 := ext_new (new2 hxs hds nxs) hxs e5
  have R5 := (R4.kp ke).ext e5 t5
  rw [G_nil'] at SF
  have e05 := e03.trans ((Kp.ext k4).trans ((Kp.ext ke).trans e5))
  refine ⟨_, rfl, _, rfl, _, .inl ⟨_, .inl (.inl R5.es), rfl⟩, r, (ws.length : Nat), rfl, by omega, ?_, R5.hr, fun v H6 v0 v1 hr6 k6 => ?_⟩
  · have := Dr.l6
    omega
  exact nx H5 _ xs J v e05 t5 SF (by rw [hJ]; exact fun z => fne z.symm) v0 v1 H6 k6 hr6
end
end K08
namespace K08
open PySem PySem.Spec PyProof.Rows L2 Rf NumP NumF SumP TermP
section
variable {K : Frag} {vs : List V} {H : Hp} {Q : VK} {E : XK} {zn : Cn} {ρ : Fs}
theorem odd_ext {F : Fd} {C S : Addr} {H H' : Hp} {v : V} (h : OddS C S H F v) (e : LamX.ExtN H H') : OddS C S H' F v := by
  rcases h with h | ⟨u, J, m, ev, hs, n⟩
  · exact .inl (h.ext e)
  · exact .inr ⟨u, J, m, ev, hs.ext e, n⟩
theorem tail3 (cn : Con zn K) {F J : Fd} {D0 : Ends} {a r f du rw hd fo one sm fa : Addr} {at_ : Int} {s1 s9 s12 s14 s16 s17 s18 s19 s20 s21 : Option V} {ws : List V} {d : List (Tm F)} {ls : List (List (Tm F))} (R : Rd8 zn r f du rw fo one sm ws d ls H) (Dr : Dr8 d ls) (lw : ws.length = ls.length)
    (SF : SumAt zn.Field zn.Sum H fa J []) (nJ : J.p ≠ F.p) (a0 : 0 ≤ at_) (a1 : at_ < (ws.length : Int))
    (nx : ∀ H' s12 s16, LamX.ExtN H H' → LamX.Tabs zn.T H' → dSs (g_law ρ zn K) K (tlN 17 bodyL) (W0 E) D0 [some (.ref a), s1, some (.ref r), some (.int F.p), some (.ref f), some (.ref du), some (.ref rw), some (.ref hd), some (.ref fo), s9, some (.ref fa), some (.int at_), s12, some (.ref one), s14, some (.ref sm), s16, s17, s18, s19, s20, s21] H') :
    dSs (g_law ρ zn K) K (tlN 16 bodyL) (W0 E) D0 [some (.ref a), s1, some (.ref r), some (.int F.p), some (.ref f), some (.ref du), some (.ref rw), some (.ref hd), some (.ref fo), s9, some (.ref fa), some (.int at_), s12, some (.ref one), s14, some (.ref sm), s16, s17, s18, s19, s20, s21] H := by
  obtain ⟨rs, er, lr, gr⟩ := id R.tr
  have l4 := Dr.l4
  have l6 := Dr.l6
  have hr0 : 0 < rs.length := by omega
  have ar : atI (rs.map V.ref) 0 = some (.ref rs[0]) := by
    rw [atI_of (by decide) (by rw [List.length_map]; omega), List.getElem?_map]
    show Option.map V.ref rs[0]? = _
    rw [List.getElem?_eq_getElem hr0]
    rfl
  obtain ⟨ts, et, _⟩ := gr 0 hr0 (by omega)
  refine ⟨_, rfl, _, _, .inl (.inl (.inl er)), ar, two_le, fun u hu => ⟨_, rfl, le_line (show 5 ≤ 3000 by decide), fun L hL => ?_⟩⟩
  have k1 := Rf.Kp.new (o := .tup [.int 0, .int 1]) hu
  have k2 := Rf.Kp.new (o := .lst [.non, .ref rs[0], .ref u, .ref fa, .int 0]) hL
  have k12 := k1.trans k2
  have eu : upd (upd H u (.tup [.int 0, .int 1])) L (.lst [.non, .ref rs[0], .ref u, .ref fa, .int 0]) u = some (.tup [.int 0, .int 1]) := k2 _ _ upd_same
  have eL : upd (upd H u (.tup [.int 0, .int 1])) L (.lst [.non, .ref rs[0], .ref u, .ref fa, .int 0]) L = some (.lst [.non, .ref rs[0], .ref u, .ref fa, .int 0]) := upd_same
  generalize upd (upd H u (.tup [.int 0, .int 1])) L (.lst [.non, .ref rs[0], .ref u, .ref fa, .int 0]) = Hs at k12 eu eL ⊢
  have Rs := R.kp k12
  have odd : ∀ v ∈ ([.non, .ref rs[0], .ref u, .ref fa, .int 0] : List V), OddS zn.Field zn.Sum Hs F v := fun v hv => by
    simp only [List.mem_cons, List.not_mem_nil, or_false] at hv
    rcases hv with rfl | rfl | rfl | rfl | rfl
    · exact .inl trivial
    · exact .inl ⟨_, _, k12 _ _ et, rfl⟩
    · exact .inl ⟨_, _, eu, rfl⟩
    · exact .inr ⟨fa, J, [], rfl, SF.ext (Kp.ext k12), nJ⟩
    · exact .inl trivial
  refine .inl ⟨_, .inl (.inl eL), ?_⟩
  refine for_list (K := K) (a := L) (xs := [.non, .ref rs[0], .ref u, .ref fa, .int 0]) (Pv := fun i σ H' => LamX.ExtN Hs H' ∧ LamX.Tabs zn.T H' ∧ ∃ s12 s16, σ = [some (.ref a), s1, some (.ref r), some (.int F.p), some (.ref f), some (.ref du), some (.ref rw), some (.ref hd), some (.ref fo), s9, some (.ref fa), some (.int at_), s12, some (.ref one), s14, some (.ref sm), s16, s17, s18, s19, s20, s21]) ⟨LamX.ExtN.refl Hs, Rs.T, _, _, rfl⟩ (fun i σ H' _ hP => .inl (.inl (hP.1 _ _ eL (fun _ z => by cases z)))) (fun i v σ H1 hx hP => ?_) (fun σ H1 hP => ?_)
  rotate_left
  · obtain ⟨e1, t1, s12, s16, rfl⟩ := hP
    exact nx H1 _ _ ((Kp.ext k12).trans e1) t1
  obtain ⟨e1, t1, s12, s16, rfl⟩ := hP
  have ov := odd v (List.mem_of_getElem? hx)
  have R1 := Rs.ext e1 t1
  obtain ⟨n, rfl⟩ : ∃ n : Nat, at_ = (n : Nat) := ⟨at_.toNat, by omega⟩
  have hn : n < ws.length := by omega
  have hn' : n ≤ ws.length := by omega
  refine ⟨_, rfl, _, rfl, _, rfl, .inl ⟨sm, ws, rfl, .inl (.inl R1.es), fun p1 hp1 => ?_⟩⟩
  rw [cutTo hn']
  have q1 := Rf.Kp.new (o := .lst (ws.take n)) hp1
  refine ⟨_, rfl, le_line (show 1 ≤ 3000 by decide), fun p2 hp2 => ?_⟩
  have q2 := Rf.Kp.new (o := .lst [v]) hp2
  refine .inl ⟨p1, p2, _, _, rfl, rfl, q2 _ _ upd_same, upd_same, le_line (by rw [List.length_take]; show min n ws.length + 1 ≤ 3000; omega), fun p3 hp3 => ?_⟩
  have q3 := Rf.Kp.new (o := .lst (ws.take n ++ [v])) hp3
  have q123 := q1.trans (q2.trans q3)
  have e3 : upd (upd (upd H1 p1 (.lst (ws.take n))) p2 (.lst [v])) p3 (.lst (ws.take n ++ [v])) p3 = some (.lst (ws.take n ++ [v])) := upd_same
  generalize upd (upd (upd H1 p1 (.lst (ws.take n))) p2 (.lst [v])) p3 (.lst (ws.take n ++ [v])) = H2 at q123 e3 ⊢
  refine ⟨_, rfl, _, rfl, _, rfl, .inl ⟨sm, ws, rfl, .inl (.inl (q123 _ _ R1.es)), fun p4 hp4 => ?_⟩⟩
  have ec : cutV ws (some ((n : Int) + 1)) none = ws.drop (n + 1) := by
    rw [show ((n : Int) + 1) = ((n + 1 : Nat) : Int) from rfl, cutFrom (by omega)]
  rw [ec]
  have q4 := Rf.Kp.new (o := .lst (ws.drop (n + 1))) hp4
  have lt3 : (ws.take n ++ [v]).length = n + 1 := by rw [List.length_append, List.length_take]; show min n ws.length + 1 = _; omega
  refine .inl ⟨p3, p4, _, _, rfl, rfl, q4 _ _ e3, upd_same, le_line (by rw [lt3, List.length_drop]; omega), fun p5 hp5 => ?_⟩
  have q5 := Rf.Kp.new (o := .lst (ws.take n ++ [v] ++ ws.drop (n + 1))) hp5
  have q45 := q4.trans q5
  have e5 : upd (upd H2 p4 (.lst (ws.drop (n + 1)))) p5 (.lst (ws.take n ++ [v] ++ ws.drop (n + 1))) p5 = some (.lst (ws.take n ++ [v] ++ ws.drop (n + 1))) := upd_same
  generalize upd (upd H2 p4 (.lst (ws.drop (n + 1)))) p5 (.lst (ws.take n ++ [v] ++ ws.drop (n + 1))) = H3 at q45 e5 ⊢
  have q15 := q123.trans q45
  have R3 := R1.kp q15
  have e3s := e1.trans (Kp.ext q15)
  refine ⟨R3.T, fun H4 e4 t4 => ⟨fun cls d H' => cls = .ref zn.NoSums ∧ d = none ∧ LamX.ExtN H4 H' ∧ LamX.Tabs zn.T H', fun _ _ => False, ?_, fun _ _ z => z.elim, ?_⟩⟩
  rotate_left
  · have R4 := R3.ext e4 t4
    obtain ⟨dx, fs, es, nf⟩ := R4.s1.ob (m := "put_in") (by decide +kernel) (by decide +kernel)
    refine ⟨zn.Sum, _, .inl ⟨rfl, rfl, rfl⟩, _, rfl, one, dx, fs, rfl, es, nf, _, rfl, one, .ref p5, F, d, rfl, t4, R4.s1, Dr.ok.wl, .inr ⟨.inr (.inr ⟨p5, _, rfl, e4 _ _ e5 (fun _ z => by cases z), ?_, .inr ⟨n, v, ?_, odd_ext ov (e3s.trans e4), fun j hj z hz => ?_⟩⟩), fun H' k => ⟨rfl, rfl, Kp.ext k, LamX.Tabs.ext t4 k⟩⟩⟩
    · rw [List.length_append, lt3, List.length_drop]
      omega
    · rw [List.getElem?_append_left (by omega), List.getElem?_append_right (by rw [List.length_take]; omega), List.length_take, Nat.min_eq_left hn']
      simp
    · rw [List.getElem?_append_left (by omega), List.getElem?_append_left (by rw [List.length_take]; omega), List.getElem?_take_of_lt hj] at hz
      obtain ⟨ss, ess, lss, gss⟩ := R4.ss
      have q := R4.es
      rw [ess] at q
      cases q
      rw [List.getElem?_map] at hz
      obtain ⟨x, hx', rfl⟩ := Option.map_eq_some_iff.mp hz
      obtain ⟨i1, rfl⟩ := List.getElem?_eq_some_iff.mp hx'
      exact ⟨_, _, rfl, gss j i1 (by omega)⟩
  rintro cls d' H5 ⟨rfl, rfl, e5', t5⟩
  refine ⟨rfl, .inr (.inr ⟨rfl, fun H6 k6 => ?_⟩)⟩
  refine ⟨_, rfl, ite_f (c := !decide (("sums" : Str) = "sums")) (by rw [decide_eq_true rfl]; rfl) ?_⟩
  exact ⟨e3s.trans (e4.trans (e5'.trans (Kp.ext k6))), LamX.Tabs.ext t5 k6, _, _, rfl⟩
end
end K08
namespace K08
open PySem PySem.Spec PyProof.Rows L2 Rf NumP NumF SumP TermP
section
variable {K : Frag} {vs : List V} {H : Hp} {Q : VK} {E : XK} {zn : Cn} {ρ : Fs}
theorem reach_max {F : Fd} {d : List (Tm F)} (h : ∀ t ∈ d, PrOk t.1) {m : Int} (h0 : m ∈ ends d ++ [0]) (h1 : ∀ y ∈ ends d ++ [0], y ≤ m) : IsReach d m := by
  refine reach_of h (fun e => ?_) fun ne => ⟨?_, fun y hy => h1 y (List.mem_append_left _ hy)⟩
  · rw [e] at h0
    exact List.mem_singleton.mp h0
  · rcases List.mem_append.mp h0 with h0 | h0
    · exact h0
    · have m0 := List.mem_singleton.mp h0
      obtain ⟨y, hy⟩ := List.exists_mem_of_ne_nil _ ne
      have q := h1 y (List.mem_append_left _ hy)
      obtain ⟨t, ht, rfl⟩ := List.mem_map.mp hy
      obtain ⟨ht, nt⟩ := List.mem_filter.mp ht
      have nt : t.1 ≠ [] := by simpa using nt
      have := ((h t ht).2 _ (last_in nt).1).1
      omega
theorem short_of {F : Fd} {d : List (Tm F)} {m : Int} (h : IsReach d m) (h0 : 0 < m) : ∃ t ∈ d, ∃ k ∈ t.1, m - 1 ≤ k := Classical.byContradiction fun n => by
  have q := h.le (m - 1) (by omega) fun t ht k hk => Int.lt_of_not_ge fun g => n ⟨t, ht, k, hk, g⟩
  omega
theorem sums_take {C S a c : Addr} {F : Fd} {H H' : Hp} {ls : List (List (Tm F))} {ws : List V} {n : Nat} (h : SumsAt C S H a F ls) (e : H a = some (.lst ws)) (x : LamX.ExtN H H') (ec : H' c = some (.lst (ws.take n))) : SumsAt C S H' c F (ls.take n) := by
  obtain ⟨ss, e1, l1, g1⟩ := h
  rw [e1] at e
  cases e
  refine ⟨ss.take n, by rw [ec, List.map_take], by rw [List.length_take, List.length_take, l1], fun i hi hi' => ?_⟩
  rw [List.getElem_take, List.getElem_take]
  rw [List.length_take] at hi
  exact (g1 i (by omega) (by omega)).ext x
theorem tail4 (cn : Con zn K) {F : Fd} {D0 : Ends} {a r f du rw hd fo one sm : Addr} {s1 s9 s10 s11 s12 s14 s16 s17 s18 s19 s20 s21 : Option V} {ws : List V} {d : List (Tm F)} {ls : List (List (Tm F))} (R : Rd8 zn r f du rw fo one sm ws d ls H) (Dr : Dr8 d ls) (lw : ws.length = ls.length)
    (nx : ∀ H' s14, LamX.ExtN H H' → LamX.Tabs zn.T H' → dSs (g_law ρ zn K) K (tlN 20 bodyL) (W0 E) D0 [some (.ref a), s1, some (.ref r), some (.int F.p), some (.ref f), some (.ref du), some (.ref rw), some (.ref hd), some (.ref fo), s9, s10, s11, s12, some (.ref one), s14, some (.ref sm), s16, s17, s18, s19, s20, s21] H') :
    dSs (g_law ρ zn K) K (tlN 17 bodyL) (W0 E) D0 [some (.ref a), s1, some (.ref r), some (.int F.p), some (.ref f), some (.ref du), some (.ref rw), some (.ref hd), some (.ref fo), s9, s10, s11, s12, some (.ref one), s14, some (.ref sm), s16, s17, s18, s19, s20, s21] H := by
  have l4 := Dr.l4
  have l6 := Dr.l6
  obtain ⟨ra, ea, la, ga⟩ := R.td.at
  have ld := Dr.wd.len
  refine ⟨_, rfl, .inl ⟨_, .inl (.inl ea), fun D hD => ?_⟩⟩
  have k0 := Rf.Kp.new (o := .lst []) hD
  refine lc_list (K := K) (a := du) (xs := vsOf ra) (Pv := fun i H' => Rf.Kp H H' ∧ H' D = some (.lst ((ends (d.take i)).map V.int))) ⟨k0, upd_same⟩ (fun i H' _ hP => .inl (.inl (hP.1 _ _ ea))) (fun i x H1 hx hP => ?_) (fun H1 hP => ?_)
  · obtain ⟨k1, e1⟩ := hP
    obtain ⟨t, rfl, hr, hi, hm, tk⟩ := ga i x hx
    obtain ⟨r1, r2, r3⟩ := hr.ext (Kp.ext k1)
    refine ⟨t.τ, _, rfl, .inl (.inl r1), rfl, _, _, rfl, _, _, rfl, rfl, rfl, ?_⟩
    refine ⟨_, rfl, le_line (Nat.zero_le _), fun e he => ?_⟩
    have k2 := Rf.Kp.new (o := .tup []) he
    have p2 : ProdAt (upd H1 e (.tup [])) t.π t.t.1 := k2 _ _ r2
    refine .inr (.inl ⟨_, .tuple (([] : List Int).map .int), p2.dp, .tup (.inl (.inl upd_same)) .nil, shapeP _, rfl, _, rfl, ?_⟩)
    rw [eqvT]
    have nD : D ≠ e := ne_of_none e1 he
    by_cases hz : t.t.1 = []
    · refine ite_f (by rw [decide_eq_true hz]; rfl) ⟨k1.trans k2, ?_⟩
      rw [tk, ends_snoc, if_pos hz, List.append_nil]
      exact k2 _ _ e1
    · refine ite_t (by rw [decide_eq_false hz]; rfl) ⟨_, rfl, _, _, .inr (.inl (.inl p2)), (last_in hz).2, _, k2 _ _ e1, ?_, ((k1.trans k2).kx.trans KpX.set).kp hD, ?_⟩
      · rw [List.length_map]
        have : (ends (d.take i)).length ≤ d.length := by
          unfold ends
          rw [List.length_map]
          exact Nat.le_trans (List.length_filter_le ..) (List.length_take_le' ..)
        exact lt_line (by omega)
      · rw [upd_same, tk, ends_snoc, if_neg hz, List.map_append]
        rfl
  obtain ⟨k1, e1⟩ := hP
  rw [vs_len, la, List.take_length] at e1
  have le5 : (ends d).length ≤ d.length := by
    unfold ends
    rw [List.length_map]
    exact List.length_filter_le ..
  refine ⟨le_line (show 1 ≤ 3000 by decide), fun z hz => ?_⟩
  have k2 := Rf.Kp.new (o := .lst [.int 0]) hz
  refine .inl ⟨D, z, _, _, rfl, rfl, k2 _ _ e1, upd_same, le_line (by rw [List.length_map]; show _ + 1 ≤ 3000; omega), fun c hc => ?_⟩
  have k3 := Rf.Kp.new (o := .lst ((ends d).map V.int ++ [.int 0])) hc
  have em : (ends d).map V.int ++ [V.int 0] = (ends d ++ [0]).map V.int := by rw [List.map_append]; rfl
  refine ⟨c, ends d ++ [0], rfl, .inl (.inl (by rw [← em]; exact upd_same)), by rw [List.length_append]; exact Nat.succ_pos _, fun m hm hmx => ?_⟩
  have rc := reach_max (fun t ht => (Dr.wd.ok t ht).1) hm hmx
  have k13 := k1.trans (k2.trans k3)
  generalize upd (upd H1 z (.lst [.int 0])) c (.lst ((ends d).map V.int ++ [.int 0])) = H2 at k13 ⊢
  have R2 := R.kp k13
  have m0 := rc.nn
  have m4 : m ≤ 4 := rc.le 4 (by decide) Dr.pd
  obtain ⟨n, rfl⟩ : ∃ n : Nat, m = (n : Nat) := ⟨m.toNat, by omega⟩
  -- the rest, from where nothing was refused
  have rest : ∀ H3, LamX.ExtN H H3 → LamX.Tabs zn.T H3 → dSs (g_law ρ zn K) K (tlN 19 bodyL) (W0 E) D0 [some (.ref a), s1, some (.ref r), some (.int F.p), some (.ref f), some (.ref du), some (.ref rw), some (.ref hd), some (.ref fo), s9, s10, s11, s12, some (.ref one), some (.int (n : Nat)), some (.ref sm), s16, s17, s18, s19, s20, s21] H3 := fun H3 e3 t3 => by
    have R3 := R.ext e3 t3
    obtain ⟨dx, fs, es, nf⟩ := R3.s1.ob (m := "put_in") (by decide +kernel) (by decide +kernel)
    refine ⟨zn.Sum, _, .inl ⟨rfl, rfl, rfl⟩, _, rfl, one, dx, fs, rfl, es, nf, _, rfl, _, rfl, _, rfl, .inl ⟨sm, ws, rfl, .inl (.inl R3.es), fun p hp => ?_⟩⟩
    rw [cutTo (show n ≤ ws.length by omega)]
    have kp := Rf.Kp.new (o := .lst (ws.take n)) hp
    have Sp := sums_take R3.ss R3.es (Kp.ext kp) (upd_same (H := H3) (a := p) (o := .lst (ws.take n)))
    have R4 := R3.kp kp
    have lt : (ls.take n).length = n := by rw [List.length_take]; omega
    have okN : PutOk (ls.take n) d := put_ok Dr.cd Dr.wd Dr.pd (fun t ht k hk => by rw [lt]; exact rc.up t ht k hk) (fun m hm => Dr.wl m (List.mem_of_mem_take hm)) (fun m hm => Dr.pl m (List.mem_of_mem_take hm))
    have eN : putT (ls.take n) d = putT ls d := putT_same fun t ht k hk => by
      have a := rc.up t ht k hk
      have b := ((Dr.wd.ok t ht).1.2 k hk).1
      rw [List.getD_eq_getElem?_getD, List.getD_eq_getElem?_getD, List.getElem?_take_of_lt (by omega)]
    refine ⟨one, .ref p, F, d, rfl, R4.T, R4.s1, Dr.ok.wl, .inl ⟨p, _, rfl, Sp, by rw [lt]; omega, okN, fun u H4 e4 t4 U => ?_⟩⟩
    rw [eN] at U
    have R5 := R4.ext e4 t4
    obtain ⟨d1, f1, es1⟩ := R5.fo.ins
    obtain ⟨d2, f2, es2⟩ := U.ins
    refine ⟨_, rfl, .inr (.inr ⟨u, zn.Sum, d2, f2, _, .ref zn.Sum, rfl, es2, ⟨rfl, rfl⟩, cn.kS.ty es1, by simp [PySem.W.notFirst], u, fo, F, _, _, rfl, U, R5.fo, fun H5 k5 => ⟨_, rfl, _, rfl, ?_⟩⟩)⟩
    rw [dl rfl]
    refine ite_f rfl ?_
    exact nx H5 _ (e3.trans ((Kp.ext kp).trans (e4.trans (Kp.ext k5)))) (LamX.Tabs.ext t4 k5)
  refine ⟨_, rfl, _, rfl, ?_⟩
  by_cases hp : 0 < n
  · refine ite_t (decide_eq_true (by omega)) ?_
    refine ⟨R2.T, fun H4 e4 t4 => ⟨fun cls d H' => cls = .ref zn.NoSums ∧ d = none ∧ LamX.ExtN H4 H' ∧ LamX.Tabs zn.T H', fun _ _ => False, ?_, fun _ _ z => z.elim, ?_⟩⟩
    rotate_left
    · have R4 := R2.ext e4 t4
      obtain ⟨dx, fs, es, nf⟩ := R4.s1.ob (m := "put_in") (by decide +kernel) (by decide +kernel)
      refine ⟨zn.Sum, _, .inl ⟨rfl, rfl, rfl⟩, _, rfl, one, dx, fs, rfl, es, nf, _, rfl, _, rfl, _, rfl, .inl ⟨sm, ws, rfl, .inl (.inl R4.es), fun p hp' => ?_⟩⟩
      have ec : cutV ws none (some ((n : Int) - 1)) = ws.take (n - 1) := by
        rw [show ((n : Int) - 1) = ((n - 1 : Nat) : Int) by omega, cutTo (by omega)]
      rw [ec]
      have kp := Rf.Kp.new (o := .lst (ws.take (n - 1))) hp'
      have R5 := R4.kp kp
      obtain ⟨t, ht, k, hk, hge⟩ := short_of rc (by omega)
      refine ⟨one, .ref p, F, d, rfl, R5.T, R5.s1, Dr.ok.wl, .inr ⟨.inr (.inr ⟨p, _, rfl, upd_same, by rw [List.length_take]; omega, .inl ⟨t, ht, k, hk, by rw [List.length_take]; omega⟩⟩), fun H' k => ⟨rfl, rfl, Kp.ext (kp.trans k), LamX.Tabs.ext R5.T k⟩⟩⟩
    rintro cls d' H5 ⟨rfl, rfl, e5', t5⟩
    refine ⟨rfl, .inr (.inr ⟨rfl, fun H6 k6 => ?_⟩)⟩
    refine ⟨_, rfl, ite_f (c := !decide (("sums" : Str) = "sums")) (by rw [decide_eq_true rfl]; rfl) ?_⟩
    exact rest H6 ((Kp.ext k13).trans (e4.trans (e5'.trans (Kp.ext k6)))) (LamX.Tabs.ext t5 k6)
  · refine ite_f (decide_eq_false (by omega)) ?_
    exact rest H2 (Kp.ext k13) R2.T
end
end K08
namespace K08
open PySem PySem.Spec PyProof.Rows L2 Rf NumP NumF SumP TermP
section
variable {K : Frag} {vs : List V} {H : Hp} {Q : VK} {E : XK} {zn : Cn} {ρ : Fs}
theorem tail5 (cn : Con zn K) {F : Fd} {D0 : Ends} {a r f du rw hd fo one sm : Addr} {s1 s9 s10 s11 s12 s14 s16 s17 s18 s19 s20 s21 : Option V} {ws : List V} {d : List (Tm F)} {ls : List (List (Tm F))} (R : Rd8 zn r f du rw fo one sm ws d ls H) (Dr : Dr8 d ls) (lw : ws.length = ls.length)
    (nx : ∀ H' s16, LamX.ExtN H H' → LamX.Tabs zn.T H' → D0.nx [some (.ref a), s1, some (.ref r), some (.int F.p), some (.ref f), some (.ref du), some (.ref rw), some (.ref hd), some (.ref fo), s9, s10, s11, s12, some (.ref one), s14, some (.ref sm), s16, s17, s18, s19, s20, s21] H') :
    dSs (g_law ρ zn K) K (tlN 20 bodyL) (W0 E) D0 [some (.ref a), s1, some (.ref r), some (.int F.p), some (.ref f), some (.ref du), some (.ref rw), some (.ref hd), some (.ref fo), s9, s10, s11, s12, some (.ref one), s14, some (.ref sm), s16, s17, s18, s19, s20, s21] H := by
  refine ⟨_, rfl, sm, ws, rfl, .inl ⟨.inl (.inl R.es), fun tp htp => .inl fun dd hdd => ⟨_, rfl, le_line (show 4 ≤ 3000 by decide), fun L hL => ?_⟩⟩⟩
  have k1 := Rf.Kp.new (o := .tup ws) htp
  have k2 := Rf.Kp.new (o := .dT []) hdd
  have k3 := Rf.Kp.new (o := .lst [.ref tp, .non, .ref dd, .ref one]) hL
  have k13 := k1.trans (k2.trans k3)
  have et : upd (upd (upd H tp (.tup ws)) dd (.dT [])) L (.lst [.ref tp, .non, .ref dd, .ref one]) tp = some (.tup ws) := k3 _ _ (k2 _ _ upd_same)
  have ed : upd (upd (upd H tp (.tup ws)) dd (.dT [])) L (.lst [.ref tp, .non, .ref dd, .ref one]) dd = some (.dT []) := k3 _ _ upd_same
  have eL : upd (upd (upd H tp (.tup ws)) dd (.dT [])) L (.lst [.ref tp, .non, .ref dd, .ref one]) L = some (.lst [.ref tp, .non, .ref dd, .ref one]) := upd_same
  generalize upd (upd (upd H tp (.tup ws)) dd (.dT [])) L (.lst [.ref tp, .non, .ref dd, .ref one]) = Hs at k13 et ed eL ⊢
  have Rs := R.kp k13
  have bad : ∀ v ∈ ([.ref tp, .non, .ref dd, .ref one] : List V), ∀ H', LamX.ExtN Hs H' → BadS zn.Field zn.Sum H' F d v := fun v hv H' e => by
    simp only [List.mem_cons, List.not_mem_nil, or_false] at hv
    rcases hv with rfl | rfl | rfl | rfl
    · have et' := e _ _ et (fun _ z => by cases z)
      exact .inl ⟨⟨_, _, et', rfl⟩, fun q xs eq z => by
        cases eq
        rw [et'] at z
        cases z⟩
    · exact .inl ⟨trivial, fun q xs eq => by cases eq⟩
    · have ed' := e _ _ ed (fun _ z => by cases z)
      exact .inl ⟨⟨_, _, ed', rfl⟩, fun q xs eq z => by
        cases eq
        rw [ed'] at z
        cases z⟩
    · exact .inr (.inl ⟨one, F, d, rfl, Rs.s1.ext e⟩)
  refine .inl ⟨_, .inl (.inl eL), ?_⟩
  refine for_list (K := K) (a := L) (xs := [.ref tp, .non, .ref dd, .ref one]) (Pv := fun i σ H' => LamX.ExtN Hs H' ∧ LamX.Tabs zn.T H' ∧ ∃ s16, σ = [some (.ref a), s1, some (.ref r), some (.int F.p), some (.ref f), some (.ref du), some (.ref rw), some (.ref hd), some (.ref fo), s9, s10, s11, s12, some (.ref one), s14, some (.ref sm), s16, s17, s18, s19, s20, s21]) ⟨LamX.ExtN.refl Hs, Rs.T, _, rfl⟩ (fun i σ H' _ hP => .inl (.inl (hP.1 _ _ eL (fun _ z => by cases z)))) (fun i v σ H1 hx hP => ?_) (fun σ H1 hP => ?_)
  rotate_left
  · obtain ⟨e1, t1, s16, rfl⟩ := hP
    exact nx H1 _ ((Kp.ext k13).trans e1) t1
  obtain ⟨e1, t1, s16, rfl⟩ := hP
  have bv := bad v (List.mem_of_getElem? hx)
  have R1 := Rs.ext e1 t1
  refine ⟨R1.T, fun H4 e4 t4 => ⟨fun cls d H' => cls = .ref zn.NoSums ∧ d = none ∧ LamX.ExtN H4 H' ∧ LamX.Tabs zn.T H', fun _ _ => False, ?_, fun _ _ z => z.elim, ?_⟩⟩
  rotate_left
  · have R4 := R1.ext e4 t4
    obtain ⟨dx, fs, es, nf⟩ := R4.s1.ob (m := "put_in") (by decide +kernel) (by decide +kernel)
    exact ⟨zn.Sum, _, .inl ⟨rfl, rfl, rfl⟩, _, rfl, one, dx, fs, rfl, es, nf, _, rfl, one, v, F, d, rfl, t4, R4.s1, Dr.ok.wl, .inr ⟨bv H4 (e1.trans e4), fun H' k => ⟨rfl, rfl, Kp.ext k, LamX.Tabs.ext t4 k⟩⟩⟩
  rintro cls d' H5 ⟨rfl, rfl, e5', t5⟩
  refine ⟨rfl, .inr (.inr ⟨rfl, fun H6 k6 => ?_⟩)⟩
  refine ⟨_, rfl, ite_f (c := !decide (("sums" : Str) = "sums")) (by rw [decide_eq_true rfl]; rfl) ?_⟩
  exact ⟨e1.trans (e4.trans (e5'.trans (Kp.ext k6))), LamX.Tabs.ext t5 k6, _, rfl⟩
end
end K08
namespace K08
open PySem PySem.Spec PyProof.Rows L2 Rf NumP NumF SumP TermP
section
variable {K : Frag} {vs : List V} {H : Hp} {Q : VK} {E : XK} {zn : Cn} {ρ : Fs}
theorem ext_kx {r : Addr} {H0 H1 H2 : Hp} (e : LamX.ExtN H0 H1) (k : KpX r H1 H2) (n : H0 r = none) : LamX.ExtN H0 H2 := fun b o h t => k b o (fun z => by rw [z, n] at h; cases h) (e b o h t)
theorem r_law (cn : Con zn K) (h : sp_law zn K vs H Q E) : dSs (g_law ρ zn K) K m_law (W0 E) (D0 Q) (start N_law vs) H := by
  obtain ⟨a, ns, rfl, hs, hn, hT, h⟩ := h
  refine ⟨_, rfl, _, Or.inl ⟨_, hs, rfl⟩, _, rfl, ?_, ?_, ?_⟩
  all_goals (try rw [List.length_map])
  · split <;> split <;> omega
  · split <;> split <;> omega
  refine for_range (Pv := fun _ σ H' => LamX.ExtN H H' ∧ LamX.Tabs zn.T H' ∧ ∃ s1 s2 s3 s4 s5 s6 s7 s8 s9 s10 s11 s12 s13 s14 s15 s16 s17 s18 s19 s20 s21, σ = [some (.ref a), s1, s2, s3, s4, s5, s6, s7, s8, s9, s10, s11, s12, s13, s14, s15, s16, s17, s18, s19, s20, s21]) ⟨LamX.ExtN.refl H, hT, _, _, _, _, _, _, _, _, _, _, _, _, _, _, _, _, _, _, _, _, _, rfl⟩ (fun i σ H0 hi hP => ?_) (fun σ H' _ => h H')
  obtain ⟨e0, T0, s1, s2, s3, s4, s5, s6, s7, s8, s9, s10, s11, s12, s13, s14, s15, s16, s17, s18, s19, s20, s21, rfl⟩ := hP
  have hi60 : i < 60 := by
    revert hi
    split <;> split <;> omega
  refine ⟨_, rfl, _, rfl, a, ns, 0 + (i : Int), rfl, sqL_ext hs e0, hn, by omega, by omega, fun r H1 k1 nr hr1 => ?_⟩
  refine ⟨_, rfl, r, rfl, hr1, fun p H2 hp hr2 k2 => ?_⟩
  obtain ⟨F, rfl⟩ : ∃ F : Fd, p = F.p := ⟨⟨p, hp⟩, rfl⟩
  refine ⟨_, rfl, fun f dx hf hdx hne => ⟨f, dx, F.p, rfl, upd_same, hp, fun H3 k3 hF => ⟨rfl, ?_⟩⟩⟩
  have K3 : Rf.Kp H2 H3 := ((new2 hf hdx hne).kx.trans k3).kp hf
  have hr3 := hr2.kp K3
  -- the sum's terms
  refine ⟨_, rfl, _, rfl, _, rfl, r, F.p, 4, 5, F, rfl, rfl, hr3, by decide, by decide, by decide, by decide, fun b l0 H4 wf0 pl0 tb0 nb hr4 k4 => ⟨F.p, b, F, l0, rfl, rfl, tb0, wf0.g (by decide) (by decide) (by decide), fun du H5 k5 ndu td => ?_⟩⟩
  have hF5 : FieldAt zn.Field H5 f F.p := (hF.kx hr3 k4).kp k5
  have hr5 := hr4.kp k5
  have K5 : KpX r H0 H5 := k1.kx.trans (k2.trans (K3.kx.trans (k4.trans k5.kx)))
  clear k1 hr1 k2 hr2 hf hdx hne k3 hF K3 hr3 k4 k5 hr4 tb0 nb
  -- the sums put in
  refine ⟨_, rfl, r, 3, rfl, by decide, by decide, hr5, fun v H6 v0 v1 hr6 k6 => ?_⟩
  refine ⟨4 + v, rfl, by omega, by omega, fun D hD => ?_⟩
  have nD : D ≠ r := hr6.ne hD
  have td6 := td.kr hr5 k6
  have hF6 := hF5.kx hr5 k6
  refine lc_range (Pv := fun j H' => KpX r H6 H' ∧ RoomAt H' r ∧ ∃ Ls : List (List (Tm F)), TLs H' D Ls ∧ Ls.length = j ∧ ∀ m ∈ Ls, ∃ l, m = G l ∧ Wf 1 41 3 l ∧ ∀ t ∈ l, ∀ k ∈ t.1, k < 5) ⟨kx_out (KpX.refl r H6) hD, hr6.set (Ne.symm nD), [], TLs.nil upd_same, rfl, fun x hx => (by cases hx)⟩ (fun j H7 hj hP => ?_) (fun H7 hP => ?_)
  · obtain ⟨k7, hr7, Ls, tl, lL, aL⟩ := hP
    refine ⟨rfl, _, rfl, _, rfl, _, rfl, r, F.p, 5, 3, F, rfl, rfl, hr7, by decide, by decide, by decide, by decide, fun b l H8 wf pl tb nb hr8 k8 => ⟨F.p, b, F, l, rfl, rfl, tb, wf.g (by decide) (by decide) (by decide), fun u H9 k9 nu tu => ?_⟩⟩
    have tl8 := tl.kx hr7 nD k8
    have tl9 := tl8.kx hr8 nD k9.kx
    obtain ⟨as, e8, _⟩ := id tl8
    obtain ⟨acc, e, la, t'⟩ := tl9.push tu (fun z => by rw [z, e8] at nu; cases nu)
    refine ⟨acc, e, lt_line (by omega), kx_out (k7.trans (k8.trans k9.kx)) hD, (hr8.kp k9).set (Ne.symm nD), Ls ++ [G l], t', by rw [List.length_append, lL]; rfl, fun m hm => ?_⟩
    rcases List.mem_append.mp hm with hm | hm
    · exact aL m hm
    · exact ⟨l, List.mem_singleton.mp hm, wf, pl⟩
  obtain ⟨k7, hr7, ls, tl, lL, aL⟩ := hP
  have td7 := td6.kr hr6 k7
  have hF7 := hF6.kx hr6 k7
  have K7 : Rf.Kp H0 H7 := (K5.trans (k6.trans k7)).kp nr
  have T7 := LamX.Tabs.ext T0 K7
  have Dr : Dr8 (G l0) ls := ⟨G_canon l0, wf0.G, G_lt pl0, by omega, by omega, fun m hm => by obtain ⟨l, rfl, _⟩ := aL m hm; exact G_canon l, fun m hm => by obtain ⟨l, rfl, w, _⟩ := aL m hm; exact w.G, fun m hm => by obtain ⟨l, rfl, _, p⟩ := aL m hm; exact G_lt p⟩
  clear K5 hr5 td k6 hr6 hF5 hF6 td6 hD nD k7
  -- the sum
  refine ⟨_, rfl, _, rfl, fun one dx hx hdx ne => ⟨one, f, du, dx, F, G l0, rfl, upd_same, hF7.kp (new2 hx hdx ne), td7.kp (new2 hx hdx ne), Dr.ok.wl, LamX.Tabs.ext T7 (new2 hx hdx ne), fun H8 e8 t8 S1 _ => ⟨rfl, ?_⟩⟩⟩
  have e78 := ext_new (new2 hx hdx ne) hx e8
  rw [G_id (G_canon l0)] at S1
  have tr8 := tl.out.ext e78
  have td8 := td7.ext e78
  have hF8 := hF7.ext e78
  have hr8 : RoomAt H8 r := by
    obtain ⟨l, m, q1, q2⟩ := hr7
    exact ⟨l, m, e78 _ _ q1 (fun _ z => by cases z), q2⟩
  clear hx hdx ne e8
  obtain ⟨sa, ea, la, ga⟩ := TListsAt.at tr8
  refine ⟨_, rfl, .inl ⟨_, .inl (.inl ea), fun D2 hD2 => ?_⟩⟩
  refine lc_list (K := K) (a := D) (xs := sa.map V.ref) (Pv := fun i H' => LamX.ExtN H8 H' ∧ LamX.Tabs zn.T H' ∧ SLs zn.Field zn.Sum H' D2 (ls.take i)) ⟨Kp.ext (Rf.Kp.new hD2), LamX.Tabs.ext t8 (Rf.Kp.new hD2), SLs.nil upd_same⟩ (fun i H' _ hP => .inl (.inl (hP.1 _ _ ea (fun _ z => by cases z)))) (fun i x H9 hx hP => ?_) (fun H9 hP => ?_)
  · obtain ⟨e9, t9, hS⟩ := hP
    obtain ⟨s, l, rfl, hs', hi', hm, tk⟩ := ga i x hx
    refine ⟨rfl, _, rfl, fun g dg hg hdg neg => ⟨g, dg, F.p, rfl, upd_same, F.h, fun H10 k10 hG => ⟨rfl, ?_⟩⟩⟩
    have k10 : Rf.Kp H9 H10 := ((new2 hg hdg neg).kx.trans k10).kp hg
    refine ⟨_, rfl, fun x dx hx hdx ne => ⟨x, g, s, dx, F, l, rfl, upd_same, hG.kp (new2 hx hdx ne), ((hs'.ext e9).kp k10).kp (new2 hx hdx ne), (Dr.wl l hm).g (by decide) (by decide) (by decide), LamX.Tabs.ext t9 (k10.trans (new2 hx hdx ne)), fun H11 e11 t11 S3 fr => ⟨rfl, ?_⟩⟩⟩
    obtain ⟨acc, e, lac, e23, tt, hS'⟩ := made_step (hS.ext (Kp.ext k10)) hx hdx ne e11 t11 S3 fr
    refine ⟨acc, e, lt_line (by rw [lac]; have := List.length_take_le' i ls; have := Dr.l6; omega), extn_out (e9.trans ((Kp.ext k10).trans e23)) hD2, tt, ?_⟩
    rw [G_id (Dr.cl l hm)] at hS'
    rw [tk]
    exact hS'
  obtain ⟨e9, t9, hS⟩ := hP
  rw [List.length_map, la, List.take_length] at hS
  have ss9 := hS.out
  obtain ⟨ss, es9, lss, gss⟩ := id ss9
  refine ⟨_, rfl, D2, _, rfl, .inl (.inl (.inl es9)), fun hd hhd => ?_⟩
  have kh := Rf.Kp.new (o := .lst (ss.map V.ref)) hhd
  have ehd : upd H9 hd (.lst (ss.map V.ref)) hd = some (.lst (ss.map V.ref)) := upd_same
  generalize upd H9 hd (.lst (ss.map V.ref)) = H10 at kh ehd ⊢
  have e10 := e9.trans (Kp.ext kh)
  have t10 := LamX.Tabs.ext t9 kh
  have S10 := S1.ext e10
  have ssh : SumsAt zn.Field zn.Sum H10 hd F ls := ⟨ss, ehd, lss, fun j h1 h2 => (gss j h1 h2).ext (Kp.ext kh)⟩
  have l6 := Dr.l6
  obtain ⟨dx, fs, es, nf⟩ := S10.ob (m := "put_in") (by decide +kernel) (by decide +kernel)
  refine ⟨zn.Sum, _, .inl ⟨rfl, rfl, rfl⟩, _, rfl, one, dx, fs, rfl, es, nf, _, rfl, one, .ref hd, F, G l0, rfl, t10, S10, Dr.ok.wl, .inl ⟨hd, ls, rfl, ssh, by omega, Dr.ok, fun fo H11 e11 t11 U => ?_⟩⟩
  have e811 := e10.trans e11
  have lw : (ss.map V.ref).length = ls.length := by rw [List.length_map, lss]
  have hr11 : RoomAt H11 r := by
    obtain ⟨l, m, q1, q2⟩ := hr8
    exact ⟨l, m, e811 _ _ q1 (fun _ z => by cases z), q2⟩
  have R : Rd8 zn r f du D fo one D2 (ss.map V.ref) (G l0) ls H11 := ⟨t11, hr11, hF8.ext e811, td8.ext e811, tr8.ext e811, S1.ext e811, ss9.ext ((Kp.ext kh).trans e11), ((Kp.ext kh).trans e11) _ _ es9 (fun _ z => by cases z), U⟩
  have e011 : LamX.ExtN H0 H11 := (Kp.ext K7).trans (e78.trans e811)
  refine tail1 cn R Dr (e11 _ _ ehd (fun _ z => by cases z)) fun H12 _ e12 t12 => ?_
  have R12 := R.ext e12 t12
  refine tail2 cn R12 Dr lw fun H13 s9' fa J at_ e13 t13 SF nJ a0 a1 H14 k14 hr14 => ?_
  have R13 := R12.ext e13 t13
  have R14 := R13.kr k14 hr14
  have e014 : LamX.ExtN H0 H14 := ext_kx (e011.trans (e12.trans e13)) k14 nr
  refine tail3 cn R14 Dr lw (SF.kr R13.hr k14) nJ a0 a1 fun H15 s12' s16' e15 t15 => ?_
  have R15 := R14.ext e15 t15
  refine tail4 cn R15 Dr lw fun H16 s14' e16 t16 => ?_
  have R16 := R15.ext e16 t16
  refine tail5 cn R16 Dr lw fun H17 s16'' e17 t17 => ?_
  exact ⟨e0.trans (e014.trans (e15.trans (e16.trans e17))), t17, _, _, _, _, _, _, _, _, _, _, _, _, _, _, _, _, _, _, _, _, _, rfl⟩
end
end K08
namespace K08
open PySem PySem.Spec PyProof.Rows L2 Rf NumP NumF SumP TermP

/-- what the top has written -/
structure Facts (K : Frag) (mg : Str → Option Value) (ρ : Fs) (z : Cn) : Prop where
  f_is_whole : F_is_whole K ρ.is_whole
  f_is_prime : F_is_prime K ρ.is_prime
  f_lowest : F_lowest K ρ.lowest
  f_Field___init__ : F_Field___init__ K ρ.Field___init__
  f_Field___eq__ : F_Field___eq__ K ρ.Field___eq__
  f_Field_made : F_Field_made K ρ.Field_made
  f_Field_plus : F_Field_plus K ρ.Field_plus
  f_Field_times : F_Field_times K ρ.Field_times
  f_Field_is_number : F_Field_is_number K ρ.Field_is_number
  f_is_place : F_is_place K ρ.is_place
  f_is_product : F_is_product K ρ.is_product
  f_joined_product : F_joined_product K ρ.joined_product
  f_look_at_terms : F_look_at_terms K ρ.look_at_terms
  f_gathered : F_gathered K ρ.gathered
  f_Sum___init__ : F_Sum___init__ K ρ.Sum___init__
  f_Sum___eq__ : F_Sum___eq__ K ρ.Sum___eq__
  f_Sum_terms : F_Sum_terms K ρ.Sum_terms
  f_Sum_reach : F_Sum_reach K ρ.Sum_reach
  f_Sum_look_alike : F_Sum_look_alike K ρ.Sum_look_alike
  f_Sum_times : F_Sum_times K ρ.Sum_times
  f_Sum_put_in : F_Sum_put_in K ρ.Sum_put_in
  f__law_room : F__law_room K ρ._law_room
  f__law_take : F__law_take K ρ._law_take
  f__law_lowest : F__law_lowest K ρ._law_lowest
  f__law_make : F__law_make K ρ._law_make
  f__law_plus : F__law_plus K ρ._law_plus
  f__law_times : F__law_times K ρ._law_times
  f__law_prime : F__law_prime K ρ._law_prime
  f__law_number : F__law_number K ρ._law_number
  f__law_product : F__law_product K ρ._law_product
  f__law_terms : F__law_terms K ρ._law_terms
  f__law_gather : F__law_gather K ρ._law_gather
  f__law_mult : F__law_mult K ρ._law_mult
  f__law_kind : F__law_kind K ρ._law_kind
  f__law_put_in : F__law_put_in K ρ._law_put_in
  f_law : F_law K ρ.law
  g_is_whole : mg "is_whole" = some (.ref ρ.is_whole.ad)
  g_is_prime : mg "is_prime" = some (.ref ρ.is_prime.ad)
  g_lowest : mg "lowest" = some (.ref ρ.lowest.ad)
  g_is_place : mg "is_place" = some (.ref ρ.is_place.ad)
  g_is_product : mg "is_product" = some (.ref ρ.is_product.ad)
  g_joined_product : mg "joined_product" = some (.ref ρ.joined_product.ad)
  g_look_at_terms : mg "look_at_terms" = some (.ref ρ.look_at_terms.ad)
  g_gathered : mg "gathered" = some (.ref ρ.gathered.ad)
  g__law_room : mg "_law_room" = some (.ref ρ._law_room.ad)
  g__law_take : mg "_law_take" = some (.ref ρ._law_take.ad)
  g__law_lowest : mg "_law_lowest" = some (.ref ρ._law_lowest.ad)
  g__law_make : mg "_law_make" = some (.ref ρ._law_make.ad)
  g__law_plus : mg "_law_plus" = some (.ref ρ._law_plus.ad)
  g__law_times : mg "_law_times" = some (.ref ρ._law_times.ad)
  g__law_prime : mg "_law_prime" = some (.ref ρ._law_prime.ad)
  g__law_number : mg "_law_number" = some (.ref ρ._law_number.ad)
  g__law_product : mg "_law_product" = some (.ref ρ._law_product.ad)
  g__law_terms : mg "_law_terms" = some (.ref ρ._law_terms.ad)
  g__law_gather : mg "_law_gather" = some (.ref ρ._law_gather.ad)
  g__law_mult : mg "_law_mult" = some (.ref ρ._law_mult.ad)
  g__law_kind : mg "_law_kind" = some (.ref ρ._law_kind.ad)
  g__law_put_in : mg "_law_put_in" = some (.ref ρ._law_put_in.ad)
  g_law : mg "law" = some (.ref ρ.law.ad)
  n_isinstance : mg "isinstance" = none
  n_int : mg "int" = none
  n_bool : mg "bool" = none
  n_range : mg "range" = none
  n_ZeroDivisionError : mg "ZeroDivisionError" = none
  n_abs : mg "abs" = none
  n_len : mg "len" = none
  n_tuple : mg "tuple" = none
  n_sorted : mg "sorted" = none
  n_set : mg "set" = none
  n_enumerate : mg "enumerate" = none
  n_list : mg "list" = none
  n_max : mg "max" = none
  n_sum : mg "sum" = none
  n_ValueError : mg "ValueError" = none
  n_min : mg "min" = none
  c_FalseError : mg "FalseError" = some (.ref z.FalseError)
  c_NoField : mg "NoField" = some (.ref z.NoField)
  c_NoNumber : mg "NoNumber" = some (.ref z.NoNumber)
  c_Unlike : mg "Unlike" = some (.ref z.Unlike)
  c_NoOrder : mg "NoOrder" = some (.ref z.NoOrder)
  c_NoFilling : mg "NoFilling" = some (.ref z.NoFilling)
  c_NoSums : mg "NoSums" = some (.ref z.NoSums)
  c_Field : mg "Field" = some (.ref z.Field)
  c_Sum : mg "Sum" = some (.ref z.Sum)
  c_ZERO : mg "ZERO" = some (.ref z.ZERO)
  i_MOST_PRIME : ∃ t, mg "MOST_PRIME" = some (.int 97 t)
  i_MOST_PLACES : ∃ t, mg "MOST_PLACES" = some (.int 60 t)
  cls_Field : Cls K z.Field
  cls_Sum : Cls K z.Sum
  na_Field_own_prime : NoAttr K z.Field "own_prime"
  na_Sum_own_field : NoAttr K z.Sum "own_field"
  na_Sum_row : NoAttr K z.Sum "row"
  mk_Sum : Mk K z.Sum ρ.Sum___init__.ad
  mk_Field : Mk K z.Field ρ.Field___init__.ad
  m_Field_made : Meth K z.Field "made" ρ.Field_made.ad
  m_Field_is_number : Meth K z.Field "is_number" ρ.Field_is_number.ad
  m_Field_plus : Meth K z.Field "plus" ρ.Field_plus.ad
  m_Sum_look_alike : Meth K z.Sum "look_alike" ρ.Sum_look_alike.ad
  m_Field_times : Meth K z.Field "times" ρ.Field_times.ad
  m_Sum_reach : Meth K z.Sum "reach" ρ.Sum_reach.ad
  m_Sum_times : Meth K z.Sum "times" ρ.Sum_times.ad
  m_Sum_put_in : Meth K z.Sum "put_in" ρ.Sum_put_in.ad
  m_Sum_terms : Meth K z.Sum "terms" ρ.Sum_terms.ad
  eq_Field : PySem.W.findIn K (.ref z.Field) "__eq__" = some (some (.ref ρ.Field___eq__.ad)) ∧ PySem.W.isFn K (.ref ρ.Field___eq__.ad) = true ∧ PySem.W.findIn K (.ref z.Field) "__ne__" = some (some (.builtin "object.__ne__")) ∧ PySem.W.subIn K (.ref z.Field) (.type "object") = some true
  eq_Sum : PySem.W.findIn K (.ref z.Sum) "__eq__" = some (some (.ref ρ.Sum___eq__.ad)) ∧ PySem.W.isFn K (.ref ρ.Sum___eq__.ad) = true ∧ PySem.W.findIn K (.ref z.Sum) "__ne__" = some (some (.builtin "object.__ne__")) ∧ PySem.W.subIn K (.ref z.Sum) (.type "object") = some true
  x_NoNumber : ExcF K mg "NoNumber" z.NoNumber
  x_NoField : ExcF K mg "NoField" z.NoField
  x_Unlike : ExcF K mg "Unlike" z.Unlike
  x_NoSums : ExcF K mg "NoSums" z.NoSums
  rt_gathered : He.fAd K ("gathered", none) = ρ.gathered.ad
  rt_Sum_put_in : He.fAd K ("Sum", some "put_in") = ρ.Sum_put_in.ad
  rt_law : He.fAd K ("law", none) = ρ.law.ad
  in_gathered : ((He.cT K ("gathered", none)).2, ("gathered.<locals>.<lambda>" : Str)) ∈ z.T
  in_Sum_put_in : ((He.cT K ("Sum", some "put_in")).2, ("Sum.put_in.<locals>.put" : Str)) ∈ z.T
  in_law : ((He.cT K ("law", none)).2, ("law.<locals>.<lambda>" : Str)) ∈ z.T
  un_gathered : ∀ w ∈ z.T, w.1 = (He.cT K ("gathered", none)).2 → w.2 = ("gathered.<locals>.<lambda>" : Str)
  un_Sum_put_in : ∀ w ∈ z.T, w.1 = (He.cT K ("Sum", some "put_in")).2 → w.2 = ("Sum.put_in.<locals>.put" : Str)
  un_law : ∀ w ∈ z.T, w.1 = (He.cT K ("law", none)).2 → w.2 = ("law.<locals>.<lambda>" : Str)
  con : Con z K
section
variable {P : Program} {w : World} {K : Frag} {mg : Str → Option Value} {base : Heap} {ρ : Fs} {z : Cn}
theorem lv {a b : Nat} (h : Nat.ble a b = true) : a ≤ b := Nat.le_of_ble_eq_true h
theorem noMt {k : Nat} : ∀ (A : Addr) (m : Str) (e : FnE), False → FnOkE P w K mg base e ∧ e.k ≤ k ∧ Cls K A ∧ Meth K A m e.f := fun _ _ _ h => h.elim
theorem noEq {k : Nat} : ∀ (A : Addr) (e : FnE), False → FnOkE P w K mg base e ∧ e.k + 1 ≤ k ∧ PySem.W.findIn K (.ref A) "__eq__" = some (some (.ref e.f)) ∧ PySem.W.isFn K (.ref e.f) = true ∧ PySem.W.findIn K (.ref A) "__ne__" = some (some (.builtin "object.__ne__")) ∧ PySem.W.subIn K (.ref A) (.type "object") = some true := fun _ _ h => h.elim
theorem noRp {k : Nat} : ∀ (A : Addr) (e : FnE), False → FnOkE P w K mg base e ∧ e.k + 1 ≤ k ∧ PySem.W.findIn K (.ref A) "__repr__" = some (some (.ref e.f)) ∧ PySem.W.isFn K (.ref e.f) = true := fun _ _ h => h.elim
theorem blty {x : Str} {T : String} (h : mg x = none) (hb : bootBuiltins x = some (.type T)) (hn : x ≠ "__name__") : ∃ u, RelV (.ty T) u ∧ (mg x = some u ∨ (mg x = none ∧ bootBuiltins x = some u ∧ x ≠ "__name__")) := ⟨_, rfl, .inr ⟨h, hb, hn⟩⟩
theorem glref {x : Str} {a : Addr} (h : mg x = some (.ref a)) : ∃ u, RelV (.ref a) u ∧ (mg x = some u ∨ (mg x = none ∧ bootBuiltins x = some u ∧ x ≠ "__name__")) := ⟨_, rfl, .inl h⟩
theorem glint {x : Str} {i : Int} (h : ∃ t, mg x = some (.int i t)) : ∃ u, RelV (.int i) u ∧ (mg x = some u ∨ (mg x = none ∧ bootBuiltins x = some u ∧ x ≠ "__name__")) := let ⟨t, e⟩ := h; ⟨_, ⟨t, rfl⟩, .inl e⟩
theorem att_ok (X : Facts K mg ρ z) : ∀ C f, attR z C f → Cls K C ∧ NoAttr K C f := by
  intro C f h
  rcases h with ⟨rfl, rfl⟩ | ⟨rfl, rfl⟩ | ⟨rfl, rfl⟩
  · exact ⟨X.cls_Field, X.na_Field_own_prime⟩
  · exact ⟨X.cls_Sum, X.na_Sum_own_field⟩
  · exact ⟨X.cls_Sum, X.na_Sum_row⟩
theorem ok_is_whole (X : Facts K mg ρ z) : FnOkE P w K mg base (e_is_whole ρ z K) :=
  def_okF (k := 0) (n := n_is_whole) (Γ := g_is_whole ρ z K) X.f_is_whole (b_is_whole X.f_is_whole) x_is_whole (gam_ok ⟨rfl, rfl, rfl, rfl, rfl⟩ trivial ⟨blty X.n_int (by decide +kernel) (by decide +kernel), blty X.n_bool (by decide +kernel) (by decide +kernel), trivial⟩ trivial (att_ok X) noMt noEq ⟨X.n_isinstance, trivial⟩ trivial trivial noRp) (fun vs H Q E h => by first | (obtain ⟨rfl, _⟩ := h; rfl) | (obtain ⟨_, rfl, _⟩ := h; rfl) | (obtain ⟨_, _, rfl, _⟩ := h; rfl) | (obtain ⟨_, _, _, rfl, _⟩ := h; rfl) | (obtain ⟨_, _, _, _, rfl, _⟩ := h; rfl) | (obtain ⟨_, _, _, _, _, rfl, _⟩ := h; rfl) | (obtain ⟨_, _, _, _, _, _, rfl, _⟩ := h; rfl) | (obtain ⟨_, _, _, _, _, _, _, rfl, _⟩ := h; rfl) | (obtain ⟨_, _, _, _, _, _, _, _, rfl, _⟩ := h; rfl) | (obtain ⟨_, _, _, _, _, _, _, _, _, rfl, _⟩ := h; rfl) | (obtain ⟨_, _, _, _, _, _, _, _, _, _, rfl, _⟩ := h; rfl) | (obtain ⟨_, _, _, _, _, _, _, _, _, _, _, rfl, _⟩ := h; rfl) | (obtain ⟨_, _, _, _, _, _, _, _, _, _, _, _, rfl, _⟩ := h; rfl) | (obtain ⟨_, _, _, _, _, _, _, _, _, _, _, _, _, rfl, _⟩ := h; rfl)) (fun vs H Q E h => r_is_whole X.con h) rfl
theorem ok_lowest (X : Facts K mg ρ z) : FnOkE P w K mg base (e_lowest ρ z K) :=
  def_okF (k := 0) (n := n_lowest) (Γ := g_lowest ρ z K) X.f_lowest (b_lowest X.f_lowest) x_lowest (gam_ok ⟨rfl, rfl, rfl, rfl, rfl⟩ trivial trivial trivial (att_ok X) noMt noEq ⟨X.n_ZeroDivisionError, X.n_abs, trivial⟩ trivial ⟨X.x_NoNumber, trivial⟩ noRp) (fun vs H Q E h => by first | (obtain ⟨rfl, _⟩ := h; rfl) | (obtain ⟨_, rfl, _⟩ := h; rfl) | (obtain ⟨_, _, rfl, _⟩ := h; rfl) | (obtain ⟨_, _, _, rfl, _⟩ := h; rfl) | (obtain ⟨_, _, _, _, rfl, _⟩ := h; rfl) | (obtain ⟨_, _, _, _, _, rfl, _⟩ := h; rfl) | (obtain ⟨_, _, _, _, _, _, rfl, _⟩ := h; rfl) | (obtain ⟨_, _, _, _, _, _, _, rfl, _⟩ := h; rfl) | (obtain ⟨_, _, _, _, _, _, _, _, rfl, _⟩ := h; rfl) | (obtain ⟨_, _, _, _, _, _, _, _, _, rfl, _⟩ := h; rfl) | (obtain ⟨_, _, _, _, _, _, _, _, _, _, rfl, _⟩ := h; rfl) | (obtain ⟨_, _, _, _, _, _, _, _, _, _, _, rfl, _⟩ := h; rfl) | (obtain ⟨_, _, _, _, _, _, _, _, _, _, _, _, rfl, _⟩ := h; rfl) | (obtain ⟨_, _, _, _, _, _, _, _, _, _, _, _, _, rfl, _⟩ := h; rfl)) (fun vs H Q E h => r_lowest X.con h) rfl
theorem ok_Field___eq__ (X : Facts K mg ρ z) : FnOkE P w K mg base (e_Field___eq__ ρ z K) :=
  def_okF (k := 0) (n := n_Field___eq__) (Γ := g_Field___eq__ ρ z K) X.f_Field___eq__ (b_Field___eq__ X.f_Field___eq__) x_Field___eq__ (gam_ok ⟨rfl, rfl, rfl, rfl, rfl⟩ trivial ⟨glref X.c_Field, trivial⟩ trivial (att_ok X) noMt noEq ⟨X.n_isinstance, trivial⟩ trivial trivial noRp) (fun vs H Q E h => by first | (obtain ⟨rfl, _⟩ := h; rfl) | (obtain ⟨_, rfl, _⟩ := h; rfl) | (obtain ⟨_, _, rfl, _⟩ := h; rfl) | (obtain ⟨_, _, _, rfl, _⟩ := h; rfl) | (obtain ⟨_, _, _, _, rfl, _⟩ := h; rfl) | (obtain ⟨_, _, _, _, _, rfl, _⟩ := h; rfl) | (obtain ⟨_, _, _, _, _, _, rfl, _⟩ := h; rfl) | (obtain ⟨_, _, _, _, _, _, _, rfl, _⟩ := h; rfl) | (obtain ⟨_, _, _, _, _, _, _, _, rfl, _⟩ := h; rfl) | (obtain ⟨_, _, _, _, _, _, _, _, _, rfl, _⟩ := h; rfl) | (obtain ⟨_, _, _, _, _, _, _, _, _, _, rfl, _⟩ := h; rfl) | (obtain ⟨_, _, _, _, _, _, _, _, _, _, _, rfl, _⟩ := h; rfl) | (obtain ⟨_, _, _, _, _, _, _, _, _, _, _, _, rfl, _⟩ := h; rfl) | (obtain ⟨_, _, _, _, _, _, _, _, _, _, _, _, _, rfl, _⟩ := h; rfl)) (fun vs H Q E h => r_Field___eq__ X.con h) rfl
theorem ok_joined_product (X : Facts K mg ρ z) : FnOkE P w K mg base (e_joined_product ρ z K) :=
  def_okF (k := 0) (n := n_joined_product) (Γ := g_joined_product ρ z K) X.f_joined_product (b_joined_product X.f_joined_product) x_joined_product (gam_ok ⟨rfl, rfl, rfl, rfl, rfl⟩ trivial trivial trivial (att_ok X) noMt noEq ⟨X.n_tuple, X.n_sorted, X.n_set, trivial⟩ trivial trivial noRp) (fun vs H Q E h => by first | (obtain ⟨rfl, _⟩ := h; rfl) | (obtain ⟨_, rfl, _⟩ := h; rfl) | (obtain ⟨_, _, rfl, _⟩ := h; rfl) | (obtain ⟨_, _, _, rfl, _⟩ := h; rfl) | (obtain ⟨_, _, _, _, rfl, _⟩ := h; rfl) | (obtain ⟨_, _, _, _, _, rfl, _⟩ := h; rfl) | (obtain ⟨_, _, _, _, _, _, rfl, _⟩ := h; rfl) | (obtain ⟨_, _, _, _, _, _, _, rfl, _⟩ := h; rfl) | (obtain ⟨_, _, _, _, _, _, _, _, rfl, _⟩ := h; rfl) | (obtain ⟨_, _, _, _, _, _, _, _, _, rfl, _⟩ := h; rfl) | (obtain ⟨_, _, _, _, _, _, _, _, _, _, rfl, _⟩ := h; rfl) | (obtain ⟨_, _, _, _, _, _, _, _, _, _, _, rfl, _⟩ := h; rfl) | (obtain ⟨_, _, _, _, _, _, _, _, _, _, _, _, rfl, _⟩ := h; rfl) | (obtain ⟨_, _, _, _, _, _, _, _, _, _, _, _, _, rfl, _⟩ := h; rfl)) (fun vs H Q E h => r_joined_product X.con h) rfl
theorem ok_Sum_terms (X : Facts K mg ρ z) : FnOkE P w K mg base (e_Sum_terms ρ z K) :=
  def_okF (k := 0) (n := n_Sum_terms) (Γ := g_Sum_terms ρ z K) X.f_Sum_terms (b_Sum_terms X.f_Sum_terms) x_Sum_terms (gam_ok ⟨rfl, rfl, rfl, rfl, rfl⟩ trivial trivial trivial (att_ok X) noMt noEq ⟨X.n_list, trivial⟩ trivial trivial noRp) (fun vs H Q E h => by first | (obtain ⟨rfl, _⟩ := h; rfl) | (obtain ⟨_, rfl, _⟩ := h; rfl) | (obtain ⟨_, _, rfl, _⟩ := h; rfl) | (obtain ⟨_, _, _, rfl, _⟩ := h; rfl) | (obtain ⟨_, _, _, _, rfl, _⟩ := h; rfl) | (obtain ⟨_, _, _, _, _, rfl, _⟩ := h; rfl) | (obtain ⟨_, _, _, _, _, _, rfl, _⟩ := h; rfl) | (obtain ⟨_, _, _, _, _, _, _, rfl, _⟩ := h; rfl) | (obtain ⟨_, _, _, _, _, _, _, _, rfl, _⟩ := h; rfl) | (obtain ⟨_, _, _, _, _, _, _, _, _, rfl, _⟩ := h; rfl) | (obtain ⟨_, _, _, _, _, _, _, _, _, _, rfl, _⟩ := h; rfl) | (obtain ⟨_, _, _, _, _, _, _, _, _, _, _, rfl, _⟩ := h; rfl) | (obtain ⟨_, _, _, _, _, _, _, _, _, _, _, _, rfl, _⟩ := h; rfl) | (obtain ⟨_, _, _, _, _, _, _, _, _, _, _, _, _, rfl, _⟩ := h; rfl)) (fun vs H Q E h => r_Sum_terms X.con h) rfl
theorem ok_Sum_reach (X : Facts K mg ρ z) : FnOkE P w K mg base (e_Sum_reach ρ z K) :=
  def_okF (k := 0) (n := n_Sum_reach) (Γ := g_Sum_reach ρ z K) X.f_Sum_reach (b_Sum_reach X.f_Sum_reach) x_Sum_reach (gam_ok ⟨rfl, rfl, rfl, rfl, rfl⟩ trivial trivial trivial (att_ok X) noMt noEq ⟨X.n_max, trivial⟩ trivial trivial noRp) (fun vs H Q E h => by first | (obtain ⟨rfl, _⟩ := h; rfl) | (obtain ⟨_, rfl, _⟩ := h; rfl) | (obtain ⟨_, _, rfl, _⟩ := h; rfl) | (obtain ⟨_, _, _, rfl, _⟩ := h; rfl) | (obtain ⟨_, _, _, _, rfl, _⟩ := h; rfl) | (obtain ⟨_, _, _, _, _, rfl, _⟩ := h; rfl) | (obtain ⟨_, _, _, _, _, _, rfl, _⟩ := h; rfl) | (obtain ⟨_, _, _, _, _, _, _, rfl, _⟩ := h; rfl) | (obtain ⟨_, _, _, _, _, _, _, _, rfl, _⟩ := h; rfl) | (obtain ⟨_, _, _, _, _, _, _, _, _, rfl, _⟩ := h; rfl) | (obtain ⟨_, _, _, _, _, _, _, _, _, _, rfl, _⟩ := h; rfl) | (obtain ⟨_, _, _, _, _, _, _, _, _, _, _, rfl, _⟩ := h; rfl) | (obtain ⟨_, _, _, _, _, _, _, _, _, _, _, _, rfl, _⟩ := h; rfl) | (obtain ⟨_, _, _, _, _, _, _, _, _, _, _, _, _, rfl, _⟩ := h; rfl)) (fun vs H Q E h => r_Sum_reach X.con h) rfl
theorem ok__law_room (X : Facts K mg ρ z) : FnOkE P w K mg base (e__law_room ρ z K) :=
  def_okF (k := 0) (n := n__law_room) (Γ := g__law_room ρ z K) X.f__law_room (b__law_room X.f__law_room) x__law_room (gam_ok ⟨rfl, rfl, rfl, rfl, rfl⟩ trivial trivial trivial (att_ok X) noMt noEq ⟨X.n_len, trivial⟩ trivial trivial noRp) (fun vs H Q E h => by first | (obtain ⟨rfl, _⟩ := h; rfl) | (obtain ⟨_, rfl, _⟩ := h; rfl) | (obtain ⟨_, _, rfl, _⟩ := h; rfl) | (obtain ⟨_, _, _, rfl, _⟩ := h; rfl) | (obtain ⟨_, _, _, _, rfl, _⟩ := h; rfl) | (obtain ⟨_, _, _, _, _, rfl, _⟩ := h; rfl) | (obtain ⟨_, _, _, _, _, _, rfl, _⟩ := h; rfl) | (obtain ⟨_, _, _, _, _, _, _, rfl, _⟩ := h; rfl) | (obtain ⟨_, _, _, _, _, _, _, _, rfl, _⟩ := h; rfl) | (obtain ⟨_, _, _, _, _, _, _, _, _, rfl, _⟩ := h; rfl) | (obtain ⟨_, _, _, _, _, _, _, _, _, _, rfl, _⟩ := h; rfl) | (obtain ⟨_, _, _, _, _, _, _, _, _, _, _, rfl, _⟩ := h; rfl) | (obtain ⟨_, _, _, _, _, _, _, _, _, _, _, _, rfl, _⟩ := h; rfl) | (obtain ⟨_, _, _, _, _, _, _, _, _, _, _, _, _, rfl, _⟩ := h; rfl)) (fun vs H Q E h => r__law_room X.con h) rfl
theorem ok__law_take (X : Facts K mg ρ z) : FnOkE P w K mg base (e__law_take ρ z K) :=
  def_okF (k := 0) (n := n__law_take) (Γ := g__law_take ρ z K) X.f__law_take (b__law_take X.f__law_take) x__law_take (gam_ok ⟨rfl, rfl, rfl, rfl, rfl⟩ trivial trivial trivial (att_ok X) noMt noEq trivial trivial trivial noRp) (fun vs H Q E h => by first | (obtain ⟨rfl, _⟩ := h; rfl) | (obtain ⟨_, rfl, _⟩ := h; rfl) | (obtain ⟨_, _, rfl, _⟩ := h; rfl) | (obtain ⟨_, _, _, rfl, _⟩ := h; rfl) | (obtain ⟨_, _, _, _, rfl, _⟩ := h; rfl) | (obtain ⟨_, _, _, _, _, rfl, _⟩ := h; rfl) | (obtain ⟨_, _, _, _, _, _, rfl, _⟩ := h; rfl) | (obtain ⟨_, _, _, _, _, _, _, rfl, _⟩ := h; rfl) | (obtain ⟨_, _, _, _, _, _, _, _, rfl, _⟩ := h; rfl) | (obtain ⟨_, _, _, _, _, _, _, _, _, rfl, _⟩ := h; rfl) | (obtain ⟨_, _, _, _, _, _, _, _, _, _, rfl, _⟩ := h; rfl) | (obtain ⟨_, _, _, _, _, _, _, _, _, _, _, rfl, _⟩ := h; rfl) | (obtain ⟨_, _, _, _, _, _, _, _, _, _, _, _, rfl, _⟩ := h; rfl) | (obtain ⟨_, _, _, _, _, _, _, _, _, _, _, _, _, rfl, _⟩ := h; rfl)) (fun vs H Q E h => r__law_take X.con h) rfl
theorem ok__law_lowest (X : Facts K mg ρ z) : FnOkE P w K mg base (e__law_lowest ρ z K) :=
  def_okF (k := 0) (n := n__law_lowest) (Γ := g__law_lowest ρ z K) X.f__law_lowest (b__law_lowest X.f__law_lowest) x__law_lowest (gam_ok ⟨rfl, rfl, rfl, rfl, rfl⟩ trivial trivial trivial (att_ok X) noMt noEq ⟨X.n_abs, X.n_int, trivial⟩ trivial trivial noRp) (fun vs H Q E h => by first | (obtain ⟨rfl, _⟩ := h; rfl) | (obtain ⟨_, rfl, _⟩ := h; rfl) | (obtain ⟨_, _, rfl, _⟩ := h; rfl) | (obtain ⟨_, _, _, rfl, _⟩ := h; rfl) | (obtain ⟨_, _, _, _, rfl, _⟩ := h; rfl) | (obtain ⟨_, _, _, _, _, rfl, _⟩ := h; rfl) | (obtain ⟨_, _, _, _, _, _, rfl, _⟩ := h; rfl) | (obtain ⟨_, _, _, _, _, _, _, rfl, _⟩ := h; rfl) | (obtain ⟨_, _, _, _, _, _, _, _, rfl, _⟩ := h; rfl) | (obtain ⟨_, _, _, _, _, _, _, _, _, rfl, _⟩ := h; rfl) | (obtain ⟨_, _, _, _, _, _, _, _, _, _, rfl, _⟩ := h; rfl) | (obtain ⟨_, _, _, _, _, _, _, _, _, _, _, rfl, _⟩ := h; rfl) | (obtain ⟨_, _, _, _, _, _, _, _, _, _, _, _, rfl, _⟩ := h; rfl) | (obtain ⟨_, _, _, _, _, _, _, _, _, _, _, _, _, rfl, _⟩ := h; rfl)) (fun vs H Q E h => r__law_lowest X.con h) rfl
theorem ok__law_kind (k : Nat) (X : Facts K mg ρ z) : LamOk P w K mg base k "_law_kind" (TT__law_kind z) := by
  obtain ⟨oc, od, dV, kV, doc, pm, an, cdv, ct, osl, e, lk, hcd, _, _⟩ := X.f__law_kind.ex
  have hb := b__law_kind X.f__law_kind
  rw [e] at lk hb
  exact kind_ok (Γ := g__law_kind ρ z K) (n := n__law_kind) (v := .ref z.FalseError) x__law_kind.1 x__law_kind.2 (by decide +kernel) (by decide +kernel) (by decide +kernel) (fun _ _ _ => trivial) (by decide +kernel) (by decide +kernel) rfl rfl rfl lk hcd X.f__law_kind.kp X.g__law_kind hb
    (gam_ok ⟨rfl, rfl, rfl, rfl, rfl⟩ trivial ⟨glref X.c_FalseError, glref X.c_NoFilling, glref X.c_NoOrder, glref X.c_NoSums, blty X.n_ValueError (by decide +kernel) (by decide +kernel), trivial⟩ trivial (att_ok X) noMt noEq ⟨X.n_isinstance, trivial⟩ trivial trivial noRp) rfl rfl
    (fun f c q tl H Q hc h => r__law_kind X.con f c q tl H Q hc h)
theorem ok_is_prime (X : Facts K mg ρ z) (o_is_whole : FnOkE P w K mg base (e_is_whole ρ z K)) : FnOkE P w K mg base (e_is_prime ρ z K) :=
  def_okF (k := 1) (n := n_is_prime) (Γ := g_is_prime ρ z K) X.f_is_prime (b_is_prime X.f_is_prime) x_is_prime (gam_ok ⟨rfl, rfl, rfl, rfl, rfl⟩ ⟨⟨o_is_whole.g, lv rfl, X.g_is_whole⟩, trivial⟩ ⟨glint X.i_MOST_PRIME, trivial⟩ trivial (att_ok X) noMt noEq ⟨X.n_range, trivial⟩ trivial trivial noRp) (fun vs H Q E h => by first | (obtain ⟨rfl, _⟩ := h; rfl) | (obtain ⟨_, rfl, _⟩ := h; rfl) | (obtain ⟨_, _, rfl, _⟩ := h; rfl) | (obtain ⟨_, _, _, rfl, _⟩ := h; rfl) | (obtain ⟨_, _, _, _, rfl, _⟩ := h; rfl) | (obtain ⟨_, _, _, _, _, rfl, _⟩ := h; rfl) | (obtain ⟨_, _, _, _, _, _, rfl, _⟩ := h; rfl) | (obtain ⟨_, _, _, _, _, _, _, rfl, _⟩ := h; rfl) | (obtain ⟨_, _, _, _, _, _, _, _, rfl, _⟩ := h; rfl) | (obtain ⟨_, _, _, _, _, _, _, _, _, rfl, _⟩ := h; rfl) | (obtain ⟨_, _, _, _, _, _, _, _, _, _, rfl, _⟩ := h; rfl) | (obtain ⟨_, _, _, _, _, _, _, _, _, _, _, rfl, _⟩ := h; rfl) | (obtain ⟨_, _, _, _, _, _, _, _, _, _, _, _, rfl, _⟩ := h; rfl) | (obtain ⟨_, _, _, _, _, _, _, _, _, _, _, _, _, rfl, _⟩ := h; rfl)) (fun vs H Q E h => r_is_prime X.con h) rfl
theorem ok_Field_made (X : Facts K mg ρ z) (o_is_whole : FnOkE P w K mg base (e_is_whole ρ z K)) (o_lowest : FnOkE P w K mg base (e_lowest ρ z K)) : FnOkE P w K mg base (e_Field_made ρ z K) :=
  def_okF (k := 1) (n := n_Field_made) (Γ := g_Field_made ρ z K) X.f_Field_made (b_Field_made X.f_Field_made) x_Field_made (gam_ok ⟨rfl, rfl, rfl, rfl, rfl⟩ ⟨⟨o_is_whole.g, lv rfl, X.g_is_whole⟩, ⟨o_lowest.g, lv rfl, X.g_lowest⟩, trivial⟩ trivial trivial (att_ok X) noMt noEq ⟨X.n_range, trivial⟩ trivial ⟨X.x_NoNumber, trivial⟩ noRp) (fun vs H Q E h => by first | (obtain ⟨rfl, _⟩ := h; rfl) | (obtain ⟨_, rfl, _⟩ := h; rfl) | (obtain ⟨_, _, rfl, _⟩ := h; rfl) | (obtain ⟨_, _, _, rfl, _⟩ := h; rfl) | (obtain ⟨_, _, _, _, rfl, _⟩ := h; rfl) | (obtain ⟨_, _, _, _, _, rfl, _⟩ := h; rfl) | (obtain ⟨_, _, _, _, _, _, rfl, _⟩ := h; rfl) | (obtain ⟨_, _, _, _, _, _, _, rfl, _⟩ := h; rfl) | (obtain ⟨_, _, _, _, _, _, _, _, rfl, _⟩ := h; rfl) | (obtain ⟨_, _, _, _, _, _, _, _, _, rfl, _⟩ := h; rfl) | (obtain ⟨_, _, _, _, _, _, _, _, _, _, rfl, _⟩ := h; rfl) | (obtain ⟨_, _, _, _, _, _, _, _, _, _, _, rfl, _⟩ := h; rfl) | (obtain ⟨_, _, _, _, _, _, _, _, _, _, _, _, rfl, _⟩ := h; rfl) | (obtain ⟨_, _, _, _, _, _, _, _, _, _, _, _, _, rfl, _⟩ := h; rfl)) (fun vs H Q E h => r_Field_made X.con h) rfl
theorem ok_Field_is_number (X : Facts K mg ρ z) (o_is_whole : FnOkE P w K mg base (e_is_whole ρ z K)) (o_lowest : FnOkE P w K mg base (e_lowest ρ z K)) : FnOkE P w K mg base (e_Field_is_number ρ z K) :=
  def_okF (k := 1) (n := n_Field_is_number) (Γ := g_Field_is_number ρ z K) X.f_Field_is_number (b_Field_is_number X.f_Field_is_number) x_Field_is_number (gam_ok ⟨rfl, rfl, rfl, rfl, rfl⟩ ⟨⟨o_is_whole.g, lv rfl, X.g_is_whole⟩, ⟨o_lowest.g, lv rfl, X.g_lowest⟩, trivial⟩ ⟨blty X.n_tuple (by decide +kernel) (by decide +kernel), trivial⟩ trivial (att_ok X) noMt noEq ⟨X.n_isinstance, X.n_len, trivial⟩ trivial trivial noRp) (fun vs H Q E h => by first | (obtain ⟨rfl, _⟩ := h; rfl) | (obtain ⟨_, rfl, _⟩ := h; rfl) | (obtain ⟨_, _, rfl, _⟩ := h; rfl) | (obtain ⟨_, _, _, rfl, _⟩ := h; rfl) | (obtain ⟨_, _, _, _, rfl, _⟩ := h; rfl) | (obtain ⟨_, _, _, _, _, rfl, _⟩ := h; rfl) | (obtain ⟨_, _, _, _, _, _, rfl, _⟩ := h; rfl) | (obtain ⟨_, _, _, _, _, _, _, rfl, _⟩ := h; rfl) | (obtain ⟨_, _, _, _, _, _, _, _, rfl, _⟩ := h; rfl) | (obtain ⟨_, _, _, _, _, _, _, _, _, rfl, _⟩ := h; rfl) | (obtain ⟨_, _, _, _, _, _, _, _, _, _, rfl, _⟩ := h; rfl) | (obtain ⟨_, _, _, _, _, _, _, _, _, _, _, rfl, _⟩ := h; rfl) | (obtain ⟨_, _, _, _, _, _, _, _, _, _, _, _, rfl, _⟩ := h; rfl) | (obtain ⟨_, _, _, _, _, _, _, _, _, _, _, _, _, rfl, _⟩ := h; rfl)) (fun vs H Q E h => r_Field_is_number X.con h) rfl
theorem ok_is_place (X : Facts K mg ρ z) (o_is_whole : FnOkE P w K mg base (e_is_whole ρ z K)) : FnOkE P w K mg base (e_is_place ρ z K) :=
  def_okF (k := 1) (n := n_is_place) (Γ := g_is_place ρ z K) X.f_is_place (b_is_place X.f_is_place) x_is_place (gam_ok ⟨rfl, rfl, rfl, rfl, rfl⟩ ⟨⟨o_is_whole.g, lv rfl, X.g_is_whole⟩, trivial⟩ ⟨glint X.i_MOST_PLACES, trivial⟩ trivial (att_ok X) noMt noEq trivial trivial trivial noRp) (fun vs H Q E h => by first | (obtain ⟨rfl, _⟩ := h; rfl) | (obtain ⟨_, rfl, _⟩ := h; rfl) | (obtain ⟨_, _, rfl, _⟩ := h; rfl) | (obtain ⟨_, _, _, rfl, _⟩ := h; rfl) | (obtain ⟨_, _, _, _, rfl, _⟩ := h; rfl) | (obtain ⟨_, _, _, _, _, rfl, _⟩ := h; rfl) | (obtain ⟨_, _, _, _, _, _, rfl, _⟩ := h; rfl) | (obtain ⟨_, _, _, _, _, _, _, rfl, _⟩ := h; rfl) | (obtain ⟨_, _, _, _, _, _, _, _, rfl, _⟩ := h; rfl) | (obtain ⟨_, _, _, _, _, _, _, _, _, rfl, _⟩ := h; rfl) | (obtain ⟨_, _, _, _, _, _, _, _, _, _, rfl, _⟩ := h; rfl) | (obtain ⟨_, _, _, _, _, _, _, _, _, _, _, rfl, _⟩ := h; rfl) | (obtain ⟨_, _, _, _, _, _, _, _, _, _, _, _, rfl, _⟩ := h; rfl) | (obtain ⟨_, _, _, _, _, _, _, _, _, _, _, _, _, rfl, _⟩ := h; rfl)) (fun vs H Q E h => r_is_place X.con h) rfl
theorem ok__law_make (X : Facts K mg ρ z) (o__law_lowest : FnOkE P w K mg base (e__law_lowest ρ z K)) : FnOkE P w K mg base (e__law_make ρ z K) :=
  def_okF (k := 1) (n := n__law_make) (Γ := g__law_make ρ z K) X.f__law_make (b__law_make X.f__law_make) x__law_make (gam_ok ⟨rfl, rfl, rfl, rfl, rfl⟩ ⟨⟨o__law_lowest.g, lv rfl, X.g__law_lowest⟩, trivial⟩ trivial trivial (att_ok X) noMt noEq ⟨X.n_range, trivial⟩ trivial trivial noRp) (fun vs H Q E h => by first | (obtain ⟨rfl, _⟩ := h; rfl) | (obtain ⟨_, rfl, _⟩ := h; rfl) | (obtain ⟨_, _, rfl, _⟩ := h; rfl) | (obtain ⟨_, _, _, rfl, _⟩ := h; rfl) | (obtain ⟨_, _, _, _, rfl, _⟩ := h; rfl) | (obtain ⟨_, _, _, _, _, rfl, _⟩ := h; rfl) | (obtain ⟨_, _, _, _, _, _, rfl, _⟩ := h; rfl) | (obtain ⟨_, _, _, _, _, _, _, rfl, _⟩ := h; rfl) | (obtain ⟨_, _, _, _, _, _, _, _, rfl, _⟩ := h; rfl) | (obtain ⟨_, _, _, _, _, _, _, _, _, rfl, _⟩ := h; rfl) | (obtain ⟨_, _, _, _, _, _, _, _, _, _, rfl, _⟩ := h; rfl) | (obtain ⟨_, _, _, _, _, _, _, _, _, _, _, rfl, _⟩ := h; rfl) | (obtain ⟨_, _, _, _, _, _, _, _, _, _, _, _, rfl, _⟩ := h; rfl) | (obtain ⟨_, _, _, _, _, _, _, _, _, _, _, _, _, rfl, _⟩ := h; rfl)) (fun vs H Q E h => r__law_make X.con h) rfl
theorem ok__law_prime (X : Facts K mg ρ z) (o__law_take : FnOkE P w K mg base (e__law_take ρ z K)) : FnOkE P w K mg base (e__law_prime ρ z K) :=
  def_okF (k := 1) (n := n__law_prime) (Γ := g__law_prime ρ z K) X.f__law_prime (b__law_prime X.f__law_prime) x__law_prime (gam_ok ⟨rfl, rfl, rfl, rfl, rfl⟩ ⟨⟨o__law_take.g, lv rfl, X.g__law_take⟩, trivial⟩ trivial trivial (att_ok X) noMt noEq trivial trivial trivial noRp) (fun vs H Q E h => by first | (obtain ⟨rfl, _⟩ := h; rfl) | (obtain ⟨_, rfl, _⟩ := h; rfl) | (obtain ⟨_, _, rfl, _⟩ := h; rfl) | (obtain ⟨_, _, _, rfl, _⟩ := h; rfl) | (obtain ⟨_, _, _, _, rfl, _⟩ := h; rfl) | (obtain ⟨_, _, _, _, _, rfl, _⟩ := h; rfl) | (obtain ⟨_, _, _, _, _, _, rfl, _⟩ := h; rfl) | (obtain ⟨_, _, _, _, _, _, _, rfl, _⟩ := h; rfl) | (obtain ⟨_, _, _, _, _, _, _, _, rfl, _⟩ := h; rfl) | (obtain ⟨_, _, _, _, _, _, _, _, _, rfl, _⟩ := h; rfl) | (obtain ⟨_, _, _, _, _, _, _, _, _, _, rfl, _⟩ := h; rfl) | (obtain ⟨_, _, _, _, _, _, _, _, _, _, _, rfl, _⟩ := h; rfl) | (obtain ⟨_, _, _, _, _, _, _, _, _, _, _, _, rfl, _⟩ := h; rfl) | (obtain ⟨_, _, _, _, _, _, _, _, _, _, _, _, _, rfl, _⟩ := h; rfl)) (fun vs H Q E h => r__law_prime X.con h) rfl
theorem ok__law_number (X : Facts K mg ρ z) (o__law_take : FnOkE P w K mg base (e__law_take ρ z K)) (o__law_lowest : FnOkE P w K mg base (e__law_lowest ρ z K)) : FnOkE P w K mg base (e__law_number ρ z K) :=
  def_okF (k := 1) (n := n__law_number) (Γ := g__law_number ρ z K) X.f__law_number (b__law_number X.f__law_number) x__law_number (gam_ok ⟨rfl, rfl, rfl, rfl, rfl⟩ ⟨⟨o__law_take.g, lv rfl, X.g__law_take⟩, ⟨o__law_lowest.g, lv rfl, X.g__law_lowest⟩, trivial⟩ trivial trivial (att_ok X) noMt noEq trivial trivial trivial noRp) (fun vs H Q E h => by first | (obtain ⟨rfl, _⟩ := h; rfl) | (obtain ⟨_, rfl, _⟩ := h; rfl) | (obtain ⟨_, _, rfl, _⟩ := h; rfl) | (obtain ⟨_, _, _, rfl, _⟩ := h; rfl) | (obtain ⟨_, _, _, _, rfl, _⟩ := h; rfl) | (obtain ⟨_, _, _, _, _, rfl, _⟩ := h; rfl) | (obtain ⟨_, _, _, _, _, _, rfl, _⟩ := h; rfl) | (obtain ⟨_, _, _, _, _, _, _, rfl, _⟩ := h; rfl) | (obtain ⟨_, _, _, _, _, _, _, _, rfl, _⟩ := h; rfl) | (obtain ⟨_, _, _, _, _, _, _, _, _, rfl, _⟩ := h; rfl) | (obtain ⟨_, _, _, _, _, _, _, _, _, _, rfl, _⟩ := h; rfl) | (obtain ⟨_, _, _, _, _, _, _, _, _, _, _, rfl, _⟩ := h; rfl) | (obtain ⟨_, _, _, _, _, _, _, _, _, _, _, _, rfl, _⟩ := h; rfl) | (obtain ⟨_, _, _, _, _, _, _, _, _, _, _, _, _, rfl, _⟩ := h; rfl)) (fun vs H Q E h => r__law_number X.con h) rfl
theorem ok__law_product (X : Facts K mg ρ z) (o__law_take : FnOkE P w K mg base (e__law_take ρ z K)) : FnOkE P w K mg base (e__law_product ρ z K) :=
  def_okF (k := 1) (n := n__law_product) (Γ := g__law_product ρ z K) X.f__law_product (b__law_product X.f__law_product) x__law_product (gam_ok ⟨rfl, rfl, rfl, rfl, rfl⟩ ⟨⟨o__law_take.g, lv rfl, X.g__law_take⟩, trivial⟩ trivial trivial (att_ok X) noMt noEq ⟨X.n_tuple, X.n_range, trivial⟩ trivial trivial noRp) (fun vs H Q E h => by first | (obtain ⟨rfl, _⟩ := h; rfl) | (obtain ⟨_, rfl, _⟩ := h; rfl) | (obtain ⟨_, _, rfl, _⟩ := h; rfl) | (obtain ⟨_, _, _, rfl, _⟩ := h; rfl) | (obtain ⟨_, _, _, _, rfl, _⟩ := h; rfl) | (obtain ⟨_, _, _, _, _, rfl, _⟩ := h; rfl) | (obtain ⟨_, _, _, _, _, _, rfl, _⟩ := h; rfl) | (obtain ⟨_, _, _, _, _, _, _, rfl, _⟩ := h; rfl) | (obtain ⟨_, _, _, _, _, _, _, _, rfl, _⟩ := h; rfl) | (obtain ⟨_, _, _, _, _, _, _, _, _, rfl, _⟩ := h; rfl) | (obtain ⟨_, _, _, _, _, _, _, _, _, _, rfl, _⟩ := h; rfl) | (obtain ⟨_, _, _, _, _, _, _, _, _, _, _, rfl, _⟩ := h; rfl) | (obtain ⟨_, _, _, _, _, _, _, _, _, _, _, _, rfl, _⟩ := h; rfl) | (obtain ⟨_, _, _, _, _, _, _, _, _, _, _, _, _, rfl, _⟩ := h; rfl)) (fun vs H Q E h => r__law_product X.con h) rfl
theorem ok_Field___init__ (X : Facts K mg ρ z) (o_is_whole : FnOkE P w K mg base (e_is_whole ρ z K)) (o_is_prime : FnOkE P w K mg base (e_is_prime ρ z K)) : FnOkE P w K mg base (e_Field___init__ ρ z K) :=
  def_okF (k := 2) (n := n_Field___init__) (Γ := g_Field___init__ ρ z K) X.f_Field___init__ (b_Field___init__ X.f_Field___init__) x_Field___init__ (gam_ok ⟨rfl, rfl, rfl, rfl, rfl⟩ ⟨⟨o_is_whole.g, lv rfl, X.g_is_whole⟩, ⟨o_is_prime.g, lv rfl, X.g_is_prime⟩, trivial⟩ trivial trivial (att_ok X) noMt noEq trivial trivial ⟨X.x_NoField, trivial⟩ noRp) (fun vs H Q E h => by first | (obtain ⟨rfl, _⟩ := h; rfl) | (obtain ⟨_, rfl, _⟩ := h; rfl) | (obtain ⟨_, _, rfl, _⟩ := h; rfl) | (obtain ⟨_, _, _, rfl, _⟩ := h; rfl) | (obtain ⟨_, _, _, _, rfl, _⟩ := h; rfl) | (obtain ⟨_, _, _, _, _, rfl, _⟩ := h; rfl) | (obtain ⟨_, _, _, _, _, _, rfl, _⟩ := h; rfl) | (obtain ⟨_, _, _, _, _, _, _, rfl, _⟩ := h; rfl) | (obtain ⟨_, _, _, _, _, _, _, _, rfl, _⟩ := h; rfl) | (obtain ⟨_, _, _, _, _, _, _, _, _, rfl, _⟩ := h; rfl) | (obtain ⟨_, _, _, _, _, _, _, _, _, _, rfl, _⟩ := h; rfl) | (obtain ⟨_, _, _, _, _, _, _, _, _, _, _, rfl, _⟩ := h; rfl) | (obtain ⟨_, _, _, _, _, _, _, _, _, _, _, _, rfl, _⟩ := h; rfl) | (obtain ⟨_, _, _, _, _, _, _, _, _, _, _, _, _, rfl, _⟩ := h; rfl)) (fun vs H Q E h => r_Field___init__ X.con h) rfl
theorem ok_Field_plus (X : Facts K mg ρ z) (o_Field_made : FnOkE P w K mg base (e_Field_made ρ z K)) : FnOkE P w K mg base (e_Field_plus ρ z K) :=
  def_okF (k := 2) (n := n_Field_plus) (Γ := g_Field_plus ρ z K) X.f_Field_plus (b_Field_plus X.f_Field_plus) x_Field_plus (gam_ok ⟨rfl, rfl, rfl, rfl, rfl⟩ trivial trivial trivial (att_ok X) (by
      intro A m e h
      obtain ⟨rfl, rfl, rfl⟩ := h
      exact ⟨o_Field_made, lv rfl, X.cls_Field, X.m_Field_made⟩) noEq trivial trivial trivial noRp) (fun vs H Q E h => by first | (obtain ⟨rfl, _⟩ := h; rfl) | (obtain ⟨_, rfl, _⟩ := h; rfl) | (obtain ⟨_, _, rfl, _⟩ := h; rfl) | (obtain ⟨_, _, _, rfl, _⟩ := h; rfl) | (obtain ⟨_, _, _, _, rfl, _⟩ := h; rfl) | (obtain ⟨_, _, _, _, _, rfl, _⟩ := h; rfl) | (obtain ⟨_, _, _, _, _, _, rfl, _⟩ := h; rfl) | (obtain ⟨_, _, _, _, _, _, _, rfl, _⟩ := h; rfl) | (obtain ⟨_, _, _, _, _, _, _, _, rfl, _⟩ := h; rfl) | (obtain ⟨_, _, _, _, _, _, _, _, _, rfl, _⟩ := h; rfl) | (obtain ⟨_, _, _, _, _, _, _, _, _, _, rfl, _⟩ := h; rfl) | (obtain ⟨_, _, _, _, _, _, _, _, _, _, _, rfl, _⟩ := h; rfl) | (obtain ⟨_, _, _, _, _, _, _, _, _, _, _, _, rfl, _⟩ := h; rfl) | (obtain ⟨_, _, _, _, _, _, _, _, _, _, _, _, _, rfl, _⟩ := h; rfl)) (fun vs H Q E h => r_Field_plus X.con h) rfl
theorem ok_Field_times (X : Facts K mg ρ z) (o_Field_made : FnOkE P w K mg base (e_Field_made ρ z K)) : FnOkE P w K mg base (e_Field_times ρ z K) :=
  def_okF (k := 2) (n := n_Field_times) (Γ := g_Field_times ρ z K) X.f_Field_times (b_Field_times X.f_Field_times) x_Field_times (gam_ok ⟨rfl, rfl, rfl, rfl, rfl⟩ trivial trivial trivial (att_ok X) (by
      intro A m e h
      obtain ⟨rfl, rfl, rfl⟩ := h
      exact ⟨o_Field_made, lv rfl, X.cls_Field, X.m_Field_made⟩) noEq trivial trivial trivial noRp) (fun vs H Q E h => by first | (obtain ⟨rfl, _⟩ := h; rfl) | (obtain ⟨_, rfl, _⟩ := h; rfl) | (obtain ⟨_, _, rfl, _⟩ := h; rfl) | (obtain ⟨_, _, _, rfl, _⟩ := h; rfl) | (obtain ⟨_, _, _, _, rfl, _⟩ := h; rfl) | (obtain ⟨_, _, _, _, _, rfl, _⟩ := h; rfl) | (obtain ⟨_, _, _, _, _, _, rfl, _⟩ := h; rfl) | (obtain ⟨_, _, _, _, _, _, _, rfl, _⟩ := h; rfl) | (obtain ⟨_, _, _, _, _, _, _, _, rfl, _⟩ := h; rfl) | (obtain ⟨_, _, _, _, _, _, _, _, _, rfl, _⟩ := h; rfl) | (obtain ⟨_, _, _, _, _, _, _, _, _, _, rfl, _⟩ := h; rfl) | (obtain ⟨_, _, _, _, _, _, _, _, _, _, _, rfl, _⟩ := h; rfl) | (obtain ⟨_, _, _, _, _, _, _, _, _, _, _, _, rfl, _⟩ := h; rfl) | (obtain ⟨_, _, _, _, _, _, _, _, _, _, _, _, _, rfl, _⟩ := h; rfl)) (fun vs H Q E h => r_Field_times X.con h) rfl
theorem ok_is_product (X : Facts K mg ρ z) (o_is_place : FnOkE P w K mg base (e_is_place ρ z K)) : FnOkE P w K mg base (e_is_product ρ z K) :=
  def_okF (k := 2) (n := n_is_product) (Γ := g_is_product ρ z K) X.f_is_product (b_is_product X.f_is_product) x_is_product (gam_ok ⟨rfl, rfl, rfl, rfl, rfl⟩ ⟨⟨o_is_place.g, lv rfl, X.g_is_place⟩, trivial⟩ ⟨blty X.n_tuple (by decide +kernel) (by decide +kernel), trivial⟩ trivial (att_ok X) noMt noEq ⟨X.n_isinstance, trivial⟩ trivial trivial noRp) (fun vs H Q E h => by first | (obtain ⟨rfl, _⟩ := h; rfl) | (obtain ⟨_, rfl, _⟩ := h; rfl) | (obtain ⟨_, _, rfl, _⟩ := h; rfl) | (obtain ⟨_, _, _, rfl, _⟩ := h; rfl) | (obtain ⟨_, _, _, _, rfl, _⟩ := h; rfl) | (obtain ⟨_, _, _, _, _, rfl, _⟩ := h; rfl) | (obtain ⟨_, _, _, _, _, _, rfl, _⟩ := h; rfl) | (obtain ⟨_, _, _, _, _, _, _, rfl, _⟩ := h; rfl) | (obtain ⟨_, _, _, _, _, _, _, _, rfl, _⟩ := h; rfl) | (obtain ⟨_, _, _, _, _, _, _, _, _, rfl, _⟩ := h; rfl) | (obtain ⟨_, _, _, _, _, _, _, _, _, _, rfl, _⟩ := h; rfl) | (obtain ⟨_, _, _, _, _, _, _, _, _, _, _, rfl, _⟩ := h; rfl) | (obtain ⟨_, _, _, _, _, _, _, _, _, _, _, _, rfl, _⟩ := h; rfl) | (obtain ⟨_, _, _, _, _, _, _, _, _, _, _, _, _, rfl, _⟩ := h; rfl)) (fun vs H Q E h => r_is_product X.con h) rfl
theorem ok_Sum___eq__ (X : Facts K mg ρ z) (o_Field___eq__ : FnOkE P w K mg base (e_Field___eq__ ρ z K)) : FnOkE P w K mg base (e_Sum___eq__ ρ z K) :=
  def_okF (k := 2) (n := n_Sum___eq__) (Γ := g_Sum___eq__ ρ z K) X.f_Sum___eq__ (b_Sum___eq__ X.f_Sum___eq__) x_Sum___eq__ (gam_ok ⟨rfl, rfl, rfl, rfl, rfl⟩ trivial ⟨glref X.c_Sum, trivial⟩ trivial (att_ok X) noMt (by
      intro A e h
      obtain ⟨rfl, rfl⟩ := h
      exact ⟨o_Field___eq__, lv rfl, X.eq_Field⟩) ⟨X.n_isinstance, trivial⟩ trivial trivial noRp) (fun vs H Q E h => by first | (obtain ⟨rfl, _⟩ := h; rfl) | (obtain ⟨_, rfl, _⟩ := h; rfl) | (obtain ⟨_, _, rfl, _⟩ := h; rfl) | (obtain ⟨_, _, _, rfl, _⟩ := h; rfl) | (obtain ⟨_, _, _, _, rfl, _⟩ := h; rfl) | (obtain ⟨_, _, _, _, _, rfl, _⟩ := h; rfl) | (obtain ⟨_, _, _, _, _, _, rfl, _⟩ := h; rfl) | (obtain ⟨_, _, _, _, _, _, _, rfl, _⟩ := h; rfl) | (obtain ⟨_, _, _, _, _, _, _, _, rfl, _⟩ := h; rfl) | (obtain ⟨_, _, _, _, _, _, _, _, _, rfl, _⟩ := h; rfl) | (obtain ⟨_, _, _, _, _, _, _, _, _, _, rfl, _⟩ := h; rfl) | (obtain ⟨_, _, _, _, _, _, _, _, _, _, _, rfl, _⟩ := h; rfl) | (obtain ⟨_, _, _, _, _, _, _, _, _, _, _, _, rfl, _⟩ := h; rfl) | (obtain ⟨_, _, _, _, _, _, _, _, _, _, _, _, _, rfl, _⟩ := h; rfl)) (fun vs H Q E h => r_Sum___eq__ X.con h) rfl
theorem ok_Sum_look_alike (X : Facts K mg ρ z) (o_Field___eq__ : FnOkE P w K mg base (e_Field___eq__ ρ z K)) : FnOkE P w K mg base (e_Sum_look_alike ρ z K) :=
  def_okF (k := 2) (n := n_Sum_look_alike) (Γ := g_Sum_look_alike ρ z K) X.f_Sum_look_alike (b_Sum_look_alike X.f_Sum_look_alike) x_Sum_look_alike (gam_ok ⟨rfl, rfl, rfl, rfl, rfl⟩ trivial trivial trivial (att_ok X) noMt (by
      intro A e h
      obtain ⟨rfl, rfl⟩ := h
      exact ⟨o_Field___eq__, lv rfl, X.eq_Field⟩) trivial trivial ⟨X.x_Unlike, trivial⟩ noRp) (fun vs H Q E h => by first | (obtain ⟨rfl, _⟩ := h; rfl) | (obtain ⟨_, rfl, _⟩ := h; rfl) | (obtain ⟨_, _, rfl, _⟩ := h; rfl) | (obtain ⟨_, _, _, rfl, _⟩ := h; rfl) | (obtain ⟨_, _, _, _, rfl, _⟩ := h; rfl) | (obtain ⟨_, _, _, _, _, rfl, _⟩ := h; rfl) | (obtain ⟨_, _, _, _, _, _, rfl, _⟩ := h; rfl) | (obtain ⟨_, _, _, _, _, _, _, rfl, _⟩ := h; rfl) | (obtain ⟨_, _, _, _, _, _, _, _, rfl, _⟩ := h; rfl) | (obtain ⟨_, _, _, _, _, _, _, _, _, rfl, _⟩ := h; rfl) | (obtain ⟨_, _, _, _, _, _, _, _, _, _, rfl, _⟩ := h; rfl) | (obtain ⟨_, _, _, _, _, _, _, _, _, _, _, rfl, _⟩ := h; rfl) | (obtain ⟨_, _, _, _, _, _, _, _, _, _, _, _, rfl, _⟩ := h; rfl) | (obtain ⟨_, _, _, _, _, _, _, _, _, _, _, _, _, rfl, _⟩ := h; rfl)) (fun vs H Q E h => r_Sum_look_alike X.con h) rfl
theorem ok__law_plus (X : Facts K mg ρ z) (o__law_make : FnOkE P w K mg base (e__law_make ρ z K)) : FnOkE P w K mg base (e__law_plus ρ z K) :=
  def_okF (k := 2) (n := n__law_plus) (Γ := g__law_plus ρ z K) X.f__law_plus (b__law_plus X.f__law_plus) x__law_plus (gam_ok ⟨rfl, rfl, rfl, rfl, rfl⟩ ⟨⟨o__law_make.g, lv rfl, X.g__law_make⟩, trivial⟩ trivial trivial (att_ok X) noMt noEq trivial trivial trivial noRp) (fun vs H Q E h => by first | (obtain ⟨rfl, _⟩ := h; rfl) | (obtain ⟨_, rfl, _⟩ := h; rfl) | (obtain ⟨_, _, rfl, _⟩ := h; rfl) | (obtain ⟨_, _, _, rfl, _⟩ := h; rfl) | (obtain ⟨_, _, _, _, rfl, _⟩ := h; rfl) | (obtain ⟨_, _, _, _, _, rfl, _⟩ := h; rfl) | (obtain ⟨_, _, _, _, _, _, rfl, _⟩ := h; rfl) | (obtain ⟨_, _, _, _, _, _, _, rfl, _⟩ := h; rfl) | (obtain ⟨_, _, _, _, _, _, _, _, rfl, _⟩ := h; rfl) | (obtain ⟨_, _, _, _, _, _, _, _, _, rfl, _⟩ := h; rfl) | (obtain ⟨_, _, _, _, _, _, _, _, _, _, rfl, _⟩ := h; rfl) | (obtain ⟨_, _, _, _, _, _, _, _, _, _, _, rfl, _⟩ := h; rfl) | (obtain ⟨_, _, _, _, _, _, _, _, _, _, _, _, rfl, _⟩ := h; rfl) | (obtain ⟨_, _, _, _, _, _, _, _, _, _, _, _, _, rfl, _⟩ := h; rfl)) (fun vs H Q E h => r__law_plus X.con h) rfl
theorem ok__law_times (X : Facts K mg ρ z) (o__law_make : FnOkE P w K mg base (e__law_make ρ z K)) : FnOkE P w K mg base (e__law_times ρ z K) :=
  def_okF (k := 2) (n := n__law_times) (Γ := g__law_times ρ z K) X.f__law_times (b__law_times X.f__law_times) x__law_times (gam_ok ⟨rfl, rfl, rfl, rfl, rfl⟩ ⟨⟨o__law_make.g, lv rfl, X.g__law_make⟩, trivial⟩ trivial trivial (att_ok X) noMt noEq trivial trivial trivial noRp) (fun vs H Q E h => by first | (obtain ⟨rfl, _⟩ := h; rfl) | (obtain ⟨_, rfl, _⟩ := h; rfl) | (obtain ⟨_, _, rfl, _⟩ := h; rfl) | (obtain ⟨_, _, _, rfl, _⟩ := h; rfl) | (obtain ⟨_, _, _, _, rfl, _⟩ := h; rfl) | (obtain ⟨_, _, _, _, _, rfl, _⟩ := h; rfl) | (obtain ⟨_, _, _, _, _, _, rfl, _⟩ := h; rfl) | (obtain ⟨_, _, _, _, _, _, _, rfl, _⟩ := h; rfl) | (obtain ⟨_, _, _, _, _, _, _, _, rfl, _⟩ := h; rfl) | (obtain ⟨_, _, _, _, _, _, _, _, _, rfl, _⟩ := h; rfl) | (obtain ⟨_, _, _, _, _, _, _, _, _, _, rfl, _⟩ := h; rfl) | (obtain ⟨_, _, _, _, _, _, _, _, _, _, _, rfl, _⟩ := h; rfl) | (obtain ⟨_, _, _, _, _, _, _, _, _, _, _, _, rfl, _⟩ := h; rfl) | (obtain ⟨_, _, _, _, _, _, _, _, _, _, _, _, _, rfl, _⟩ := h; rfl)) (fun vs H Q E h => r__law_times X.con h) rfl
theorem ok__law_terms (X : Facts K mg ρ z) (o__law_take : FnOkE P w K mg base (e__law_take ρ z K)) (o__law_product : FnOkE P w K mg base (e__law_product ρ z K)) (o__law_number : FnOkE P w K mg base (e__law_number ρ z K)) : FnOkE P w K mg base (e__law_terms ρ z K) :=
  def_okF (k := 2) (n := n__law_terms) (Γ := g__law_terms ρ z K) X.f__law_terms (b__law_terms X.f__law_terms) x__law_terms (gam_ok ⟨rfl, rfl, rfl, rfl, rfl⟩ ⟨⟨o__law_take.g, lv rfl, X.g__law_take⟩, ⟨o__law_product.g, lv rfl, X.g__law_product⟩, ⟨o__law_number.g, lv rfl, X.g__law_number⟩, trivial⟩ trivial trivial (att_ok X) noMt noEq ⟨X.n_range, trivial⟩ trivial trivial noRp) (fun vs H Q E h => by first | (obtain ⟨rfl, _⟩ := h; rfl) | (obtain ⟨_, rfl, _⟩ := h; rfl) | (obtain ⟨_, _, rfl, _⟩ := h; rfl) | (obtain ⟨_, _, _, rfl, _⟩ := h; rfl) | (obtain ⟨_, _, _, _, rfl, _⟩ := h; rfl) | (obtain ⟨_, _, _, _, _, rfl, _⟩ := h; rfl) | (obtain ⟨_, _, _, _, _, _, rfl, _⟩ := h; rfl) | (obtain ⟨_, _, _, _, _, _, _, rfl, _⟩ := h; rfl) | (obtain ⟨_, _, _, _, _, _, _, _, rfl, _⟩ := h; rfl) | (obtain ⟨_, _, _, _, _, _, _, _, _, rfl, _⟩ := h; rfl) | (obtain ⟨_, _, _, _, _, _, _, _, _, _, rfl, _⟩ := h; rfl) | (obtain ⟨_, _, _, _, _, _, _, _, _, _, _, rfl, _⟩ := h; rfl) | (obtain ⟨_, _, _, _, _, _, _, _, _, _, _, _, rfl, _⟩ := h; rfl) | (obtain ⟨_, _, _, _, _, _, _, _, _, _, _, _, _, rfl, _⟩ := h; rfl)) (fun vs H Q E h => r__law_terms X.con h) rfl
theorem ok_look_at_terms (X : Facts K mg ρ z) (o_is_product : FnOkE P w K mg base (e_is_product ρ z K)) (o_Field_is_number : FnOkE P w K mg base (e_Field_is_number ρ z K)) : FnOkE P w K mg base (e_look_at_terms ρ z K) :=
  def_okF (k := 3) (n := n_look_at_terms) (Γ := g_look_at_terms ρ z K) X.f_look_at_terms (b_look_at_terms X.f_look_at_terms) x_look_at_terms (gam_ok ⟨rfl, rfl, rfl, rfl, rfl⟩ ⟨⟨o_is_product.g, lv rfl, X.g_is_product⟩, trivial⟩ ⟨blty X.n_list (by decide +kernel) (by decide +kernel), blty X.n_tuple (by decide +kernel) (by decide +kernel), trivial⟩ trivial (att_ok X) (by
      intro A m e h
      obtain ⟨rfl, rfl, rfl⟩ := h
      exact ⟨o_Field_is_number, lv rfl, X.cls_Field, X.m_Field_is_number⟩) noEq ⟨X.n_isinstance, X.n_enumerate, X.n_len, trivial⟩ trivial trivial noRp) (fun vs H Q E h => by first | (obtain ⟨rfl, _⟩ := h; rfl) | (obtain ⟨_, rfl, _⟩ := h; rfl) | (obtain ⟨_, _, rfl, _⟩ := h; rfl) | (obtain ⟨_, _, _, rfl, _⟩ := h; rfl) | (obtain ⟨_, _, _, _, rfl, _⟩ := h; rfl) | (obtain ⟨_, _, _, _, _, rfl, _⟩ := h; rfl) | (obtain ⟨_, _, _, _, _, _, rfl, _⟩ := h; rfl) | (obtain ⟨_, _, _, _, _, _, _, rfl, _⟩ := h; rfl) | (obtain ⟨_, _, _, _, _, _, _, _, rfl, _⟩ := h; rfl) | (obtain ⟨_, _, _, _, _, _, _, _, _, rfl, _⟩ := h; rfl) | (obtain ⟨_, _, _, _, _, _, _, _, _, _, rfl, _⟩ := h; rfl) | (obtain ⟨_, _, _, _, _, _, _, _, _, _, _, rfl, _⟩ := h; rfl) | (obtain ⟨_, _, _, _, _, _, _, _, _, _, _, _, rfl, _⟩ := h; rfl) | (obtain ⟨_, _, _, _, _, _, _, _, _, _, _, _, _, rfl, _⟩ := h; rfl)) (fun vs H Q E h => r_look_at_terms X.con h) rfl
theorem ok__law_gather (X : Facts K mg ρ z) (o__law_plus : FnOkE P w K mg base (e__law_plus ρ z K)) : FnOkE P w K mg base (e__law_gather ρ z K) :=
  def_okF (k := 3) (n := n__law_gather) (Γ := g__law_gather ρ z K) X.f__law_gather (b__law_gather X.f__law_gather) x__law_gather (gam_ok ⟨rfl, rfl, rfl, rfl, rfl⟩ ⟨⟨o__law_plus.g, lv rfl, X.g__law_plus⟩, trivial⟩ trivial trivial (att_ok X) noMt noEq ⟨X.n_len, X.n_sorted, trivial⟩ trivial trivial noRp) (fun vs H Q E h => by first | (obtain ⟨rfl, _⟩ := h; rfl) | (obtain ⟨_, rfl, _⟩ := h; rfl) | (obtain ⟨_, _, rfl, _⟩ := h; rfl) | (obtain ⟨_, _, _, rfl, _⟩ := h; rfl) | (obtain ⟨_, _, _, _, rfl, _⟩ := h; rfl) | (obtain ⟨_, _, _, _, _, rfl, _⟩ := h; rfl) | (obtain ⟨_, _, _, _, _, _, rfl, _⟩ := h; rfl) | (obtain ⟨_, _, _, _, _, _, _, rfl, _⟩ := h; rfl) | (obtain ⟨_, _, _, _, _, _, _, _, rfl, _⟩ := h; rfl) | (obtain ⟨_, _, _, _, _, _, _, _, _, rfl, _⟩ := h; rfl) | (obtain ⟨_, _, _, _, _, _, _, _, _, _, rfl, _⟩ := h; rfl) | (obtain ⟨_, _, _, _, _, _, _, _, _, _, _, rfl, _⟩ := h; rfl) | (obtain ⟨_, _, _, _, _, _, _, _, _, _, _, _, rfl, _⟩ := h; rfl) | (obtain ⟨_, _, _, _, _, _, _, _, _, _, _, _, _, rfl, _⟩ := h; rfl)) (fun vs H Q E h => r__law_gather X.con h) rfl
theorem ok__law_mult (X : Facts K mg ρ z) (o__law_times : FnOkE P w K mg base (e__law_times ρ z K)) (o__law_gather : FnOkE P w K mg base (e__law_gather ρ z K)) : FnOkE P w K mg base (e__law_mult ρ z K) :=
  def_okF (k := 4) (n := n__law_mult) (Γ := g__law_mult ρ z K) X.f__law_mult (b__law_mult X.f__law_mult) x__law_mult (gam_ok ⟨rfl, rfl, rfl, rfl, rfl⟩ ⟨⟨o__law_times.g, lv rfl, X.g__law_times⟩, ⟨o__law_gather.g, lv rfl, X.g__law_gather⟩, trivial⟩ trivial trivial (att_ok X) noMt noEq ⟨X.n_tuple, X.n_sorted, X.n_set, trivial⟩ trivial trivial noRp) (fun vs H Q E h => by first | (obtain ⟨rfl, _⟩ := h; rfl) | (obtain ⟨_, rfl, _⟩ := h; rfl) | (obtain ⟨_, _, rfl, _⟩ := h; rfl) | (obtain ⟨_, _, _, rfl, _⟩ := h; rfl) | (obtain ⟨_, _, _, _, rfl, _⟩ := h; rfl) | (obtain ⟨_, _, _, _, _, rfl, _⟩ := h; rfl) | (obtain ⟨_, _, _, _, _, _, rfl, _⟩ := h; rfl) | (obtain ⟨_, _, _, _, _, _, _, rfl, _⟩ := h; rfl) | (obtain ⟨_, _, _, _, _, _, _, _, rfl, _⟩ := h; rfl) | (obtain ⟨_, _, _, _, _, _, _, _, _, rfl, _⟩ := h; rfl) | (obtain ⟨_, _, _, _, _, _, _, _, _, _, rfl, _⟩ := h; rfl) | (obtain ⟨_, _, _, _, _, _, _, _, _, _, _, rfl, _⟩ := h; rfl) | (obtain ⟨_, _, _, _, _, _, _, _, _, _, _, _, rfl, _⟩ := h; rfl) | (obtain ⟨_, _, _, _, _, _, _, _, _, _, _, _, _, rfl, _⟩ := h; rfl)) (fun vs H Q E h => r__law_mult X.con h) rfl
theorem ok_gathered (X : Facts K mg ρ z) (o_Field_plus : FnOkE P w K mg base (e_Field_plus ρ z K)) (TB : LamX.TabB base mg (He.cT K ("gathered", none)).1 (He.cT K ("gathered", none)).2) : FnOkE P w K mg base (e_gathered ρ z K) :=
  def_okLF (k := 3) (n := n_gathered) (Γ := g_gathered ρ z K) X.f_gathered (b_gathered X.f_gathered) x_gathered (gam_ok ⟨rfl, rfl, rfl, rfl, rfl⟩ trivial ⟨glref X.c_ZERO, trivial⟩ trivial (att_ok X) (by
      intro A m e h
      obtain ⟨rfl, rfl, rfl⟩ := h
      exact ⟨o_Field_plus, lv rfl, X.cls_Field, X.m_Field_plus⟩) noEq ⟨X.n_sorted, X.n_len, trivial⟩ trivial trivial noRp) (fun vs H Q E h => by first | (obtain ⟨rfl, _⟩ := h; rfl) | (obtain ⟨_, rfl, _⟩ := h; rfl) | (obtain ⟨_, _, rfl, _⟩ := h; rfl) | (obtain ⟨_, _, _, rfl, _⟩ := h; rfl) | (obtain ⟨_, _, _, _, rfl, _⟩ := h; rfl) | (obtain ⟨_, _, _, _, _, rfl, _⟩ := h; rfl) | (obtain ⟨_, _, _, _, _, _, rfl, _⟩ := h; rfl) | (obtain ⟨_, _, _, _, _, _, _, rfl, _⟩ := h; rfl) | (obtain ⟨_, _, _, _, _, _, _, _, rfl, _⟩ := h; rfl) | (obtain ⟨_, _, _, _, _, _, _, _, _, rfl, _⟩ := h; rfl) | (obtain ⟨_, _, _, _, _, _, _, _, _, _, rfl, _⟩ := h; rfl) | (obtain ⟨_, _, _, _, _, _, _, _, _, _, _, rfl, _⟩ := h; rfl) | (obtain ⟨_, _, _, _, _, _, _, _, _, _, _, _, rfl, _⟩ := h; rfl) | (obtain ⟨_, _, _, _, _, _, _, _, _, _, _, _, _, rfl, _⟩ := h; rfl)) (fun vs H Q E h => r_gathered X.con h) (by decide +kernel) X.rt_gathered TB (by
    have e : ("gathered" : Str) ++ ".<locals>." ++ "<lambda>" = ("gathered.<locals>.<lambda>" : Str) := by decide +kernel
    rw [e]
    exact X.in_gathered) (by
    have e : ("gathered" : Str) ++ ".<locals>." ++ "<lambda>" = ("gathered.<locals>.<lambda>" : Str) := by decide +kernel
    rw [e]
    exact X.un_gathered)
theorem ok__law_put_in (X : Facts K mg ρ z) (o__law_mult : FnOkE P w K mg base (e__law_mult ρ z K)) (o__law_gather : FnOkE P w K mg base (e__law_gather ρ z K)) : FnOkE P w K mg base (e__law_put_in ρ z K) :=
  def_okF (k := 5) (n := n__law_put_in) (Γ := g__law_put_in ρ z K) X.f__law_put_in (b__law_put_in X.f__law_put_in) x__law_put_in (gam_ok ⟨rfl, rfl, rfl, rfl, rfl⟩ ⟨⟨o__law_mult.g, lv rfl, X.g__law_mult⟩, ⟨o__law_gather.g, lv rfl, X.g__law_gather⟩, trivial⟩ trivial trivial (att_ok X) noMt noEq trivial trivial trivial noRp) (fun vs H Q E h => by first | (obtain ⟨rfl, _⟩ := h; rfl) | (obtain ⟨_, rfl, _⟩ := h; rfl) | (obtain ⟨_, _, rfl, _⟩ := h; rfl) | (obtain ⟨_, _, _, rfl, _⟩ := h; rfl) | (obtain ⟨_, _, _, _, rfl, _⟩ := h; rfl) | (obtain ⟨_, _, _, _, _, rfl, _⟩ := h; rfl) | (obtain ⟨_, _, _, _, _, _, rfl, _⟩ := h; rfl) | (obtain ⟨_, _, _, _, _, _, _, rfl, _⟩ := h; rfl) | (obtain ⟨_, _, _, _, _, _, _, _, rfl, _⟩ := h; rfl) | (obtain ⟨_, _, _, _, _, _, _, _, _, rfl, _⟩ := h; rfl) | (obtain ⟨_, _, _, _, _, _, _, _, _, _, rfl, _⟩ := h; rfl) | (obtain ⟨_, _, _, _, _, _, _, _, _, _, _, rfl, _⟩ := h; rfl) | (obtain ⟨_, _, _, _, _, _, _, _, _, _, _, _, rfl, _⟩ := h; rfl) | (obtain ⟨_, _, _, _, _, _, _, _, _, _, _, _, _, rfl, _⟩ := h; rfl)) (fun vs H Q E h => r__law_put_in X.con h) rfl
theorem ok_Sum___init__ (X : Facts K mg ρ z) (o_look_at_terms : FnOkE P w K mg base (e_look_at_terms ρ z K)) (o_gathered : FnOkE P w K mg base (e_gathered ρ z K)) : FnOkE P w K mg base (e_Sum___init__ ρ z K) :=
  def_okF (k := 6) (n := n_Sum___init__) (Γ := g_Sum___init__ ρ z K) X.f_Sum___init__ (b_Sum___init__ X.f_Sum___init__) x_Sum___init__ (gam_ok ⟨rfl, rfl, rfl, rfl, rfl⟩ ⟨⟨o_look_at_terms.g, lv rfl, X.g_look_at_terms⟩, ⟨o_gathered.g, lv rfl, X.g_gathered⟩, trivial⟩ trivial trivial (att_ok X) noMt noEq trivial trivial trivial noRp) (fun vs H Q E h => by first | (obtain ⟨rfl, _⟩ := h; rfl) | (obtain ⟨_, rfl, _⟩ := h; rfl) | (obtain ⟨_, _, rfl, _⟩ := h; rfl) | (obtain ⟨_, _, _, rfl, _⟩ := h; rfl) | (obtain ⟨_, _, _, _, rfl, _⟩ := h; rfl) | (obtain ⟨_, _, _, _, _, rfl, _⟩ := h; rfl) | (obtain ⟨_, _, _, _, _, _, rfl, _⟩ := h; rfl) | (obtain ⟨_, _, _, _, _, _, _, rfl, _⟩ := h; rfl) | (obtain ⟨_, _, _, _, _, _, _, _, rfl, _⟩ := h; rfl) | (obtain ⟨_, _, _, _, _, _, _, _, _, rfl, _⟩ := h; rfl) | (obtain ⟨_, _, _, _, _, _, _, _, _, _, rfl, _⟩ := h; rfl) | (obtain ⟨_, _, _, _, _, _, _, _, _, _, _, rfl, _⟩ := h; rfl) | (obtain ⟨_, _, _, _, _, _, _, _, _, _, _, _, rfl, _⟩ := h; rfl) | (obtain ⟨_, _, _, _, _, _, _, _, _, _, _, _, _, rfl, _⟩ := h; rfl)) (fun vs H Q E h => r_Sum___init__ X.con h) rfl
theorem ok_Sum_times (X : Facts K mg ρ z) (o_joined_product : FnOkE P w K mg base (e_joined_product ρ z K)) (o_Sum___init__ : FnOkE P w K mg base (e_Sum___init__ ρ z K)) (o_Sum_look_alike : FnOkE P w K mg base (e_Sum_look_alike ρ z K)) (o_Field_times : FnOkE P w K mg base (e_Field_times ρ z K)) : FnOkE P w K mg base (e_Sum_times ρ z K) :=
  def_okF (k := 8) (n := n_Sum_times) (Γ := g_Sum_times ρ z K) X.f_Sum_times (b_Sum_times X.f_Sum_times) x_Sum_times (gam_ok ⟨rfl, rfl, rfl, rfl, rfl⟩ ⟨⟨o_joined_product.g, lv rfl, X.g_joined_product⟩, trivial⟩ trivial ⟨⟨o_Sum___init__, lv rfl, X.mk_Sum, X.c_Sum⟩, trivial⟩ (att_ok X) (by
      intro A m e h
      rcases h with ⟨rfl, rfl, rfl⟩ | ⟨rfl, rfl, rfl⟩
      · exact ⟨o_Sum_look_alike, lv rfl, X.cls_Sum, X.m_Sum_look_alike⟩
      · exact ⟨o_Field_times, lv rfl, X.cls_Field, X.m_Field_times⟩) noEq trivial trivial trivial noRp) (fun vs H Q E h => by first | (obtain ⟨rfl, _⟩ := h; rfl) | (obtain ⟨_, rfl, _⟩ := h; rfl) | (obtain ⟨_, _, rfl, _⟩ := h; rfl) | (obtain ⟨_, _, _, rfl, _⟩ := h; rfl) | (obtain ⟨_, _, _, _, rfl, _⟩ := h; rfl) | (obtain ⟨_, _, _, _, _, rfl, _⟩ := h; rfl) | (obtain ⟨_, _, _, _, _, _, rfl, _⟩ := h; rfl) | (obtain ⟨_, _, _, _, _, _, _, rfl, _⟩ := h; rfl) | (obtain ⟨_, _, _, _, _, _, _, _, rfl, _⟩ := h; rfl) | (obtain ⟨_, _, _, _, _, _, _, _, _, rfl, _⟩ := h; rfl) | (obtain ⟨_, _, _, _, _, _, _, _, _, _, rfl, _⟩ := h; rfl) | (obtain ⟨_, _, _, _, _, _, _, _, _, _, _, rfl, _⟩ := h; rfl) | (obtain ⟨_, _, _, _, _, _, _, _, _, _, _, _, rfl, _⟩ := h; rfl) | (obtain ⟨_, _, _, _, _, _, _, _, _, _, _, _, _, rfl, _⟩ := h; rfl)) (fun vs H Q E h => r_Sum_times X.con h) rfl
theorem ok_Sum_put_in (X : Facts K mg ρ z) (o_Sum___init__ : FnOkE P w K mg base (e_Sum___init__ ρ z K)) (o_Sum_reach : FnOkE P w K mg base (e_Sum_reach ρ z K)) (o_Field___eq__ : FnOkE P w K mg base (e_Field___eq__ ρ z K)) (o_Sum_times : FnOkE P w K mg base (e_Sum_times ρ z K)) (TB : LamX.TabB base mg (He.cT K ("Sum", some "put_in")).1 (He.cT K ("Sum", some "put_in")).2) : FnOkE P w K mg base (e_Sum_put_in ρ z K) :=
  def_okP (k := 10) (kn := 9) (n := n_Sum_put_in) (Γ := g_Sum_put_in ρ z K) (Γn := g_Sum_put_in_put ρ z K) (d := p_Sum_put_in) (spn := spn_Sum_put_in z K) X.f_Sum_put_in (b_Sum_put_in X.f_Sum_put_in) x_Sum_put_in (gam_ok ⟨rfl, rfl, rfl, rfl, rfl⟩ trivial ⟨blty X.n_list (by decide +kernel) (by decide +kernel), glref X.c_Sum, trivial⟩ ⟨⟨o_Sum___init__, lv rfl, X.mk_Sum, X.c_Sum⟩, trivial⟩ (att_ok X) (by
      intro A m e h
      obtain ⟨rfl, rfl, rfl⟩ := h
      exact ⟨o_Sum_reach, lv rfl, X.cls_Sum, X.m_Sum_reach⟩) (by
      intro A e h
      obtain ⟨rfl, rfl⟩ := h
      exact ⟨o_Field___eq__, lv rfl, X.eq_Field⟩) ⟨X.n_isinstance, X.n_len, X.n_sum, trivial⟩ trivial ⟨X.x_NoSums, trivial⟩ noRp) (gam_ok ⟨rfl, rfl, rfl, rfl, rfl⟩ trivial trivial ⟨⟨o_Sum___init__, lv rfl, X.mk_Sum, X.c_Sum⟩, trivial⟩ (att_ok X) (by
      intro A m e h
      obtain ⟨rfl, rfl, rfl⟩ := h
      exact ⟨o_Sum_times, lv rfl, X.cls_Sum, X.m_Sum_times⟩) noEq trivial trivial trivial noRp) (lv rfl) (fun vs H Q E h => by first | (obtain ⟨rfl, _⟩ := h; rfl) | (obtain ⟨_, rfl, _⟩ := h; rfl) | (obtain ⟨_, _, rfl, _⟩ := h; rfl) | (obtain ⟨_, _, _, rfl, _⟩ := h; rfl) | (obtain ⟨_, _, _, _, rfl, _⟩ := h; rfl) | (obtain ⟨_, _, _, _, _, rfl, _⟩ := h; rfl) | (obtain ⟨_, _, _, _, _, _, rfl, _⟩ := h; rfl) | (obtain ⟨_, _, _, _, _, _, _, rfl, _⟩ := h; rfl) | (obtain ⟨_, _, _, _, _, _, _, _, rfl, _⟩ := h; rfl) | (obtain ⟨_, _, _, _, _, _, _, _, _, rfl, _⟩ := h; rfl) | (obtain ⟨_, _, _, _, _, _, _, _, _, _, rfl, _⟩ := h; rfl) | (obtain ⟨_, _, _, _, _, _, _, _, _, _, _, rfl, _⟩ := h; rfl) | (obtain ⟨_, _, _, _, _, _, _, _, _, _, _, _, rfl, _⟩ := h; rfl) | (obtain ⟨_, _, _, _, _, _, _, _, _, _, _, _, _, rfl, _⟩ := h; rfl)) (fun ws vs H Q E h => by first | (obtain ⟨rfl, _⟩ := h; rfl) | (obtain ⟨_, rfl, _⟩ := h; rfl) | (obtain ⟨_, _, rfl, _⟩ := h; rfl) | (obtain ⟨_, _, _, rfl, _⟩ := h; rfl) | (obtain ⟨_, _, _, _, rfl, _⟩ := h; rfl) | (obtain ⟨_, _, _, _, _, rfl, _⟩ := h; rfl) | (obtain ⟨_, _, _, _, _, _, rfl, _⟩ := h; rfl) | (obtain ⟨_, _, _, _, _, _, _, rfl, _⟩ := h; rfl) | (obtain ⟨_, _, _, _, _, _, _, _, rfl, _⟩ := h; rfl) | (obtain ⟨_, _, _, _, _, _, _, _, _, rfl, _⟩ := h; rfl) | (obtain ⟨_, _, _, _, _, _, _, _, _, _, rfl, _⟩ := h; rfl) | (obtain ⟨_, _, _, _, _, _, _, _, _, _, _, rfl, _⟩ := h; rfl) | (obtain ⟨_, _, _, _, _, _, _, _, _, _, _, _, rfl, _⟩ := h; rfl) | (obtain ⟨_, _, _, _, _, _, _, _, _, _, _, _, _, rfl, _⟩ := h; rfl)) (fun vs H Q E h => r_Sum_put_in X.con h) (fun vs ws H Q E hl h => rn_Sum_put_in X.con hl h) rfl X.rt_Sum_put_in TB (by
    have e : ("Sum.put_in" : Str) ++ ".<locals>." ++ p_Sum_put_in.nm = ("Sum.put_in.<locals>.put" : Str) := by decide +kernel
    rw [e]
    exact X.in_Sum_put_in) (by
    have e : ("Sum.put_in" : Str) ++ ".<locals>." ++ p_Sum_put_in.nm = ("Sum.put_in.<locals>.put" : Str) := by decide +kernel
    rw [e]
    exact X.un_Sum_put_in)
theorem ok_law (X : Facts K mg ρ z) (o__law_room : FnOkE P w K mg base (e__law_room ρ z K)) (o__law_prime : FnOkE P w K mg base (e__law_prime ρ z K)) (o__law_gather : FnOkE P w K mg base (e__law_gather ρ z K)) (o__law_terms : FnOkE P w K mg base (e__law_terms ρ z K)) (o__law_take : FnOkE P w K mg base (e__law_take ρ z K)) (o__law_put_in : FnOkE P w K mg base (e__law_put_in ρ z K)) (o_Field___init__ : FnOkE P w K mg base (e_Field___init__ ρ z K)) (o_Sum___init__ : FnOkE P w K mg base (e_Sum___init__ ρ z K)) (o_Sum_put_in : FnOkE P w K mg base (e_Sum_put_in ρ z K)) (o_Sum_terms : FnOkE P w K mg base (e_Sum_terms ρ z K)) (o_Sum___eq__ : FnOkE P w K mg base (e_Sum___eq__ ρ z K)) (o__law_kind : LamOk P w K mg base 11 "_law_kind" (TT__law_kind z)) (TB : LamX.TabB base mg (He.cT K ("law", none)).1 (He.cT K ("law", none)).2) : FnOkE P w K mg base (e_law ρ z K) :=
  def_okLF (k := 11) (n := n_law) (Γ := g_law ρ z K) X.f_law (b_law X.f_law) x_law (gam_ok ⟨rfl, rfl, rfl, rfl, rfl⟩ ⟨⟨o__law_room.g, lv rfl, X.g__law_room⟩, ⟨o__law_prime.g, lv rfl, X.g__law_prime⟩, ⟨o__law_gather.g, lv rfl, X.g__law_gather⟩, ⟨o__law_terms.g, lv rfl, X.g__law_terms⟩, ⟨o__law_take.g, lv rfl, X.g__law_take⟩, ⟨o__law_put_in.g, lv rfl, X.g__law_put_in⟩, trivial⟩ ⟨glref X.c_Sum, trivial⟩ ⟨⟨o_Field___init__, lv rfl, X.mk_Field, X.c_Field⟩, ⟨o_Sum___init__, lv rfl, X.mk_Sum, X.c_Sum⟩, trivial⟩ (att_ok X) (by
      intro A m e h
      rcases h with ⟨rfl, rfl, rfl⟩ | ⟨rfl, rfl, rfl⟩
      · exact ⟨o_Sum_put_in, lv rfl, X.cls_Sum, X.m_Sum_put_in⟩
      · exact ⟨o_Sum_terms, lv rfl, X.cls_Sum, X.m_Sum_terms⟩) (by
      intro A e h
      obtain ⟨rfl, rfl⟩ := h
      exact ⟨o_Sum___eq__, lv rfl, X.eq_Sum⟩) ⟨X.n_range, X.n_max, X.n_min, X.n_len, X.n_list, X.n_isinstance, X.n_int, X.n_tuple, trivial⟩ ⟨o__law_kind, trivial⟩ trivial noRp) (fun vs H Q E h => by first | (obtain ⟨rfl, _⟩ := h; rfl) | (obtain ⟨_, rfl, _⟩ := h; rfl) | (obtain ⟨_, _, rfl, _⟩ := h; rfl) | (obtain ⟨_, _, _, rfl, _⟩ := h; rfl) | (obtain ⟨_, _, _, _, rfl, _⟩ := h; rfl) | (obtain ⟨_, _, _, _, _, rfl, _⟩ := h; rfl) | (obtain ⟨_, _, _, _, _, _, rfl, _⟩ := h; rfl) | (obtain ⟨_, _, _, _, _, _, _, rfl, _⟩ := h; rfl) | (obtain ⟨_, _, _, _, _, _, _, _, rfl, _⟩ := h; rfl) | (obtain ⟨_, _, _, _, _, _, _, _, _, rfl, _⟩ := h; rfl) | (obtain ⟨_, _, _, _, _, _, _, _, _, _, rfl, _⟩ := h; rfl) | (obtain ⟨_, _, _, _, _, _, _, _, _, _, _, rfl, _⟩ := h; rfl) | (obtain ⟨_, _, _, _, _, _, _, _, _, _, _, _, rfl, _⟩ := h; rfl) | (obtain ⟨_, _, _, _, _, _, _, _, _, _, _, _, _, rfl, _⟩ := h; rfl)) (fun vs H Q E h => r_law X.con h) (by decide +kernel) X.rt_law TB (by
    have e : ("law" : Str) ++ ".<locals>." ++ "<lambda>" = ("law.<locals>.<lambda>" : Str) := by decide +kernel
    rw [e]
    exact X.in_law) (by
    have e : ("law" : Str) ++ ".<locals>." ++ "<lambda>" = ("law.<locals>.<lambda>" : Str) := by decide +kernel
    rw [e]
    exact X.un_law)
theorem ok_all (X : Facts K mg ρ z) (TB_gathered : LamX.TabB base mg (He.cT K ("gathered", none)).1 (He.cT K ("gathered", none)).2) (TB_Sum_put_in : LamX.TabB base mg (He.cT K ("Sum", some "put_in")).1 (He.cT K ("Sum", some "put_in")).2) (TB_law : LamX.TabB base mg (He.cT K ("law", none)).1 (He.cT K ("law", none)).2) : FnOkE P w K mg base (e_law ρ z K) := by
  have o_is_whole := ok_is_whole (P := P) (w := w) (base := base) X
  have o_lowest := ok_lowest (P := P) (w := w) (base := base) X
  have o_Field___eq__ := ok_Field___eq__ (P := P) (w := w) (base := base) X
  have o_joined_product := ok_joined_product (P := P) (w := w) (base := base) X
  have o_Sum_terms := ok_Sum_terms (P := P) (w := w) (base := base) X
  have o_Sum_reach := ok_Sum_reach (P := P) (w := w) (base := base) X
  have o__law_room := ok__law_room (P := P) (w := w) (base := base) X
  have o__law_take := ok__law_take (P := P) (w := w) (base := base) X
  have o__law_lowest := ok__law_lowest (P := P) (w := w) (base := base) X
  have o_is_prime := ok_is_prime (P := P) (w := w) (base := base) X o_is_whole
  have o_Field_made := ok_Field_made (P := P) (w := w) (base := base) X o_is_whole o_lowest
  have o_Field_is_number := ok_Field_is_number (P := P) (w := w) (base := base) X o_is_whole o_lowest
  have o_is_place := ok_is_place (P := P) (w := w) (base := base) X o_is_whole
  have o__law_make := ok__law_make (P := P) (w := w) (base := base) X o__law_lowest
  have o__law_prime := ok__law_prime (P := P) (w := w) (base := base) X o__law_take
  have o__law_number := ok__law_number (P := P) (w := w) (base := base) X o__law_take o__law_lowest
  have o__law_product := ok__law_product (P := P) (w := w) (base := base) X o__law_take
  have o_Field___init__ := ok_Field___init__ (P := P) (w := w) (base := base) X o_is_whole o_is_prime
  have o_Field_plus := ok_Field_plus (P := P) (w := w) (base := base) X o_Field_made
  have o_Field_times := ok_Field_times (P := P) (w := w) (base := base) X o_Field_made
  have o_is_product := ok_is_product (P := P) (w := w) (base := base) X o_is_place
  have o_Sum___eq__ := ok_Sum___eq__ (P := P) (w := w) (base := base) X o_Field___eq__
  have o_Sum_look_alike := ok_Sum_look_alike (P := P) (w := w) (base := base) X o_Field___eq__
  have o__law_plus := ok__law_plus (P := P) (w := w) (base := base) X o__law_make
  have o__law_times := ok__law_times (P := P) (w := w) (base := base) X o__law_make
  have o__law_terms := ok__law_terms (P := P) (w := w) (base := base) X o__law_take o__law_product o__law_number
  have o_look_at_terms := ok_look_at_terms (P := P) (w := w) (base := base) X o_is_product o_Field_is_number
  have o__law_gather := ok__law_gather (P := P) (w := w) (base := base) X o__law_plus
  have o__law_mult := ok__law_mult (P := P) (w := w) (base := base) X o__law_times o__law_gather
  have o_gathered := ok_gathered (P := P) (w := w) (base := base) X o_Field_plus TB_gathered
  have o__law_put_in := ok__law_put_in (P := P) (w := w) (base := base) X o__law_mult o__law_gather
  have o_Sum___init__ := ok_Sum___init__ (P := P) (w := w) (base := base) X o_look_at_terms o_gathered
  have o_Sum_times := ok_Sum_times (P := P) (w := w) (base := base) X o_joined_product o_Sum___init__ o_Sum_look_alike o_Field_times
  have o_Sum_put_in := ok_Sum_put_in (P := P) (w := w) (base := base) X o_Sum___init__ o_Sum_reach o_Field___eq__ o_Sum_times TB_Sum_put_in
  exact ok_law X o__law_room o__law_prime o__law_gather o__law_terms o__law_take o__law_put_in o_Field___init__ o_Sum___init__ o_Sum_put_in o_Sum_terms o_Sum___eq__ (ok__law_kind 11 X) TB_law
end
end K08
namespace K08
open PySem PySem.Spec PyProof.Rows L2 Rf NumP NumF SumP TermP

theorem facts {w : World} {K : Frag} {h : Heap} {mg : Str → Option Value} (X : K.In h) (G : h.Ns mainGlobals mg) (c : He.SaysX fa fu [] tf ex w h K) :
    ∃ ρ : Fs, ρ.law.ad = He.ga K "law" ∧ Facts K mg ρ (zOf K) := by
  have d := c.t.d
  obtain ⟨fd_is_whole, F_is_whole⟩ := d.def_ 0 (d := d_is_whole) rfl
  obtain ⟨fd_is_prime, F_is_prime⟩ := d.def_ 1 (d := d_is_prime) rfl
  obtain ⟨fd_lowest, F_lowest⟩ := d.def_ 2 (d := d_lowest) rfl
  obtain ⟨fd_Field___init__, F_Field___init__⟩ := d.def_ 3 (d := d_Field___init__) rfl
  obtain ⟨fd_Field___eq__, F_Field___eq__⟩ := d.def_ 4 (d := d_Field___eq__) rfl
  obtain ⟨fd_Field_made, F_Field_made⟩ := d.def_ 5 (d := d_Field_made) rfl
  obtain ⟨fd_Field_plus, F_Field_plus⟩ := d.def_ 6 (d := d_Field_plus) rfl
  obtain ⟨fd_Field_times, F_Field_times⟩ := d.def_ 7 (d := d_Field_times) rfl
  obtain ⟨fd_Field_is_number, F_Field_is_number⟩ := d.def_ 8 (d := d_Field_is_number) rfl
  obtain ⟨fd_is_place, F_is_place⟩ := d.def_ 9 (d := d_is_place) rfl
  obtain ⟨fd_is_product, F_is_product⟩ := d.def_ 10 (d := d_is_product) rfl
  obtain ⟨fd_joined_product, F_joined_product⟩ := d.def_ 11 (d := d_joined_product) rfl
  obtain ⟨fd_look_at_terms, F_look_at_terms⟩ := d.def_ 12 (d := d_look_at_terms) rfl
  obtain ⟨fd_gathered, F_gathered⟩ := d.def_ 13 (d := d_gathered) rfl
  obtain ⟨fd_Sum___init__, F_Sum___init__⟩ := d.def_ 14 (d := d_Sum___init__) rfl
  obtain ⟨fd_Sum___eq__, F_Sum___eq__⟩ := d.def_ 15 (d := d_Sum___eq__) rfl
  obtain ⟨fd_Sum_terms, F_Sum_terms⟩ := d.def_ 16 (d := d_Sum_terms) rfl
  obtain ⟨fd_Sum_reach, F_Sum_reach⟩ := d.def_ 17 (d := d_Sum_reach) rfl
  obtain ⟨fd_Sum_look_alike, F_Sum_look_alike⟩ := d.def_ 18 (d := d_Sum_look_alike) rfl
  obtain ⟨fd_Sum_times, F_Sum_times⟩ := d.def_ 19 (d := d_Sum_times) rfl
  obtain ⟨fd_Sum_put_in, F_Sum_put_in⟩ := d.def_ 20 (d := d_Sum_put_in) rfl
  obtain ⟨fd__law_room, F__law_room⟩ := d.def_ 21 (d := d__law_room) rfl
  obtain ⟨fd__law_take, F__law_take⟩ := d.def_ 22 (d := d__law_take) rfl
  obtain ⟨fd__law_lowest, F__law_lowest⟩ := d.def_ 23 (d := d__law_lowest) rfl
  obtain ⟨fd__law_make, F__law_make⟩ := d.def_ 24 (d := d__law_make) rfl
  obtain ⟨fd__law_plus, F__law_plus⟩ := d.def_ 25 (d := d__law_plus) rfl
  obtain ⟨fd__law_times, F__law_times⟩ := d.def_ 26 (d := d__law_times) rfl
  obtain ⟨fd__law_prime, F__law_prime⟩ := d.def_ 27 (d := d__law_prime) rfl
  obtain ⟨fd__law_number, F__law_number⟩ := d.def_ 28 (d := d__law_number) rfl
  obtain ⟨fd__law_product, F__law_product⟩ := d.def_ 29 (d := d__law_product) rfl
  obtain ⟨fd__law_terms, F__law_terms⟩ := d.def_ 30 (d := d__law_terms) rfl
  obtain ⟨fd__law_gather, F__law_gather⟩ := d.def_ 31 (d := d__law_gather) rfl
  obtain ⟨fd__law_mult, F__law_mult⟩ := d.def_ 32 (d := d__law_mult) rfl
  obtain ⟨fd__law_kind, F__law_kind⟩ := d.def_ 33 (d := d__law_kind) rfl
  obtain ⟨fd__law_put_in, F__law_put_in⟩ := d.def_ 34 (d := d__law_put_in) rfl
  obtain ⟨fd_law, F_law⟩ := d.def_ 35 (d := d_law) rfl
  have x0 := c.more
  unfold ex at x0
  obtain ⟨y_eq_Field, x1⟩ := He.ba x0
  obtain ⟨y_eq_Sum, x2⟩ := He.ba x1
  obtain ⟨y_un_gathered, x3⟩ := He.ba x2
  obtain ⟨y_un_Sum_put_in, x4⟩ := He.ba x3
  obtain ⟨y_un_law, x5⟩ := He.ba x4
  have y_con := x5
  refine ⟨⟨⟨He.fAd K d_is_whole.at_, fd_is_whole⟩, ⟨He.fAd K d_is_prime.at_, fd_is_prime⟩, ⟨He.fAd K d_lowest.at_, fd_lowest⟩, ⟨He.fAd K d_Field___init__.at_, fd_Field___init__⟩, ⟨He.fAd K d_Field___eq__.at_, fd_Field___eq__⟩, ⟨He.fAd K d_Field_made.at_, fd_Field_made⟩, ⟨He.fAd K d_Field_plus.at_, fd_Field_plus⟩, ⟨He.fAd K d_Field_times.at_, fd_Field_times⟩, ⟨He.fAd K d_Field_is_number.at_, fd_Field_is_number⟩, ⟨He.fAd K d_is_place.at_, fd_is_place⟩, ⟨He.fAd K d_is_product.at_, fd_is_product⟩, ⟨He.fAd K d_joined_product.at_, fd_joined_product⟩, ⟨He.fAd K d_look_at_terms.at_, fd_look_at_terms⟩, ⟨He.fAd K d_gathered.at_, fd_gathered⟩, ⟨He.fAd K d_Sum___init__.at_, fd_Sum___init__⟩, ⟨He.fAd K d_Sum___eq__.at_, fd_Sum___eq__⟩, ⟨He.fAd K d_Sum_terms.at_, fd_Sum_terms⟩, ⟨He.fAd K d_Sum_reach.at_, fd_Sum_reach⟩, ⟨He.fAd K d_Sum_look_alike.at_, fd_Sum_look_alike⟩, ⟨He.fAd K d_Sum_times.at_, fd_Sum_times⟩, ⟨He.fAd K d_Sum_put_in.at_, fd_Sum_put_in⟩, ⟨He.fAd K d__law_room.at_, fd__law_room⟩, ⟨He.fAd K d__law_take.at_, fd__law_take⟩, ⟨He.fAd K d__law_lowest.at_, fd__law_lowest⟩, ⟨He.fAd K d__law_make.at_, fd__law_make⟩, ⟨He.fAd K d__law_plus.at_, fd__law_plus⟩, ⟨He.fAd K d__law_times.at_, fd__law_times⟩, ⟨He.fAd K d__law_prime.at_, fd__law_prime⟩, ⟨He.fAd K d__law_number.at_, fd__law_number⟩, ⟨He.fAd K d__law_product.at_, fd__law_product⟩, ⟨He.fAd K d__law_terms.at_, fd__law_terms⟩, ⟨He.fAd K d__law_gather.at_, fd__law_gather⟩, ⟨He.fAd K d__law_mult.at_, fd__law_mult⟩, ⟨He.fAd K d__law_kind.at_, fd__law_kind⟩, ⟨He.fAd K d__law_put_in.at_, fd__law_put_in⟩, ⟨He.fAd K d_law.at_, fd_law⟩⟩, rfl, ?_⟩
  exact {
    f_is_whole := F_is_whole
    f_is_prime := F_is_prime
    f_lowest := F_lowest
    f_Field___init__ := F_Field___init__
    f_Field___eq__ := F_Field___eq__
    f_Field_made := F_Field_made
    f_Field_plus := F_Field_plus
    f_Field_times := F_Field_times
    f_Field_is_number := F_Field_is_number
    f_is_place := F_is_place
    f_is_product := F_is_product
    f_joined_product := F_joined_product
    f_look_at_terms := F_look_at_terms
    f_gathered := F_gathered
    f_Sum___init__ := F_Sum___init__
    f_Sum___eq__ := F_Sum___eq__
    f_Sum_terms := F_Sum_terms
    f_Sum_reach := F_Sum_reach
    f_Sum_look_alike := F_Sum_look_alike
    f_Sum_times := F_Sum_times
    f_Sum_put_in := F_Sum_put_in
    f__law_room := F__law_room
    f__law_take := F__law_take
    f__law_lowest := F__law_lowest
    f__law_make := F__law_make
    f__law_plus := F__law_plus
    f__law_times := F__law_times
    f__law_prime := F__law_prime
    f__law_number := F__law_number
    f__law_product := F__law_product
    f__law_terms := F__law_terms
    f__law_gather := F__law_gather
    f__law_mult := F__law_mult
    f__law_kind := F__law_kind
    f__law_put_in := F__law_put_in
    f_law := F_law
    g_is_whole := He.glo_ok X G (d.fact 0 (f := .glo "is_whole") rfl)
    g_is_prime := He.glo_ok X G (d.fact 1 (f := .glo "is_prime") rfl)
    g_lowest := He.glo_ok X G (d.fact 2 (f := .glo "lowest") rfl)
    g_is_place := He.glo_ok X G (d.fact 3 (f := .glo "is_place") rfl)
    g_is_product := He.glo_ok X G (d.fact 4 (f := .glo "is_product") rfl)
    g_joined_product := He.glo_ok X G (d.fact 5 (f := .glo "joined_product") rfl)
    g_look_at_terms := He.glo_ok X G (d.fact 6 (f := .glo "look_at_terms") rfl)
    g_gathered := He.glo_ok X G (d.fact 7 (f := .glo "gathered") rfl)
    g__law_room := He.glo_ok X G (d.fact 8 (f := .glo "_law_room") rfl)
    g__law_take := He.glo_ok X G (d.fact 9 (f := .glo "_law_take") rfl)
    g__law_lowest := He.glo_ok X G (d.fact 10 (f := .glo "_law_lowest") rfl)
    g__law_make := He.glo_ok X G (d.fact 11 (f := .glo "_law_make") rfl)
    g__law_plus := He.glo_ok X G (d.fact 12 (f := .glo "_law_plus") rfl)
    g__law_times := He.glo_ok X G (d.fact 13 (f := .glo "_law_times") rfl)
    g__law_prime := He.glo_ok X G (d.fact 14 (f := .glo "_law_prime") rfl)
    g__law_number := He.glo_ok X G (d.fact 15 (f := .glo "_law_number") rfl)
    g__law_product := He.glo_ok X G (d.fact 16 (f := .glo "_law_product") rfl)
    g__law_terms := He.glo_ok X G (d.fact 17 (f := .glo "_law_terms") rfl)
    g__law_gather := He.glo_ok X G (d.fact 18 (f := .glo "_law_gather") rfl)
    g__law_mult := He.glo_ok X G (d.fact 19 (f := .glo "_law_mult") rfl)
    g__law_kind := He.glo_ok X G (d.fact 20 (f := .glo "_law_kind") rfl)
    g__law_put_in := He.glo_ok X G (d.fact 21 (f := .glo "_law_put_in") rfl)
    g_law := He.glo_ok X G (d.fact 22 (f := .glo "law") rfl)
    n_isinstance := He.free_ok X G (d.fact 23 (f := .free "isinstance") rfl)
    n_int := He.free_ok X G (d.fact 24 (f := .free "int") rfl)
    n_bool := He.free_ok X G (d.fact 25 (f := .free "bool") rfl)
    n_range := He.free_ok X G (d.fact 26 (f := .free "range") rfl)
    n_ZeroDivisionError := He.free_ok X G (d.fact 27 (f := .free "ZeroDivisionError") rfl)
    n_abs := He.free_ok X G (d.fact 28 (f := .free "abs") rfl)
    n_len := He.free_ok X G (d.fact 29 (f := .free "len") rfl)
    n_tuple := He.free_ok X G (d.fact 30 (f := .free "tuple") rfl)
    n_sorted := He.free_ok X G (d.fact 31 (f := .free "sorted") rfl)
    n_set := He.free_ok X G (d.fact 32 (f := .free "set") rfl)
    n_enumerate := He.free_ok X G (d.fact 33 (f := .free "enumerate") rfl)
    n_list := He.free_ok X G (d.fact 34 (f := .free "list") rfl)
    n_max := He.free_ok X G (d.fact 35 (f := .free "max") rfl)
    n_sum := He.free_ok X G (d.fact 36 (f := .free "sum") rfl)
    n_ValueError := He.free_ok X G (d.fact 37 (f := .free "ValueError") rfl)
    n_min := He.free_ok X G (d.fact 38 (f := .free "min") rfl)
    c_FalseError := He.glo_ok X G (d.fact 39 (f := .glo "FalseError") rfl)
    c_NoField := He.glo_ok X G (d.fact 40 (f := .glo "NoField") rfl)
    c_NoNumber := He.glo_ok X G (d.fact 41 (f := .glo "NoNumber") rfl)
    c_Unlike := He.glo_ok X G (d.fact 42 (f := .glo "Unlike") rfl)
    c_NoOrder := He.glo_ok X G (d.fact 43 (f := .glo "NoOrder") rfl)
    c_NoFilling := He.glo_ok X G (d.fact 44 (f := .glo "NoFilling") rfl)
    c_NoSums := He.glo_ok X G (d.fact 45 (f := .glo "NoSums") rfl)
    c_Field := He.glo_ok X G (d.fact 46 (f := .glo "Field") rfl)
    c_Sum := He.glo_ok X G (d.fact 47 (f := .glo "Sum") rfl)
    c_ZERO := He.glo_ok X G (d.fact 48 (f := .glo "ZERO") rfl)
    i_MOST_PRIME := He.int_ok X G (d.fact 49 (f := .int "MOST_PRIME" 97) rfl)
    i_MOST_PLACES := He.int_ok X G (d.fact 50 (f := .int "MOST_PLACES" 60) rfl)
    cls_Field := He.cls_ok (d.fact 51 (f := .cls "Field") rfl)
    cls_Sum := He.cls_ok (d.fact 52 (f := .cls "Sum") rfl)
    na_Field_own_prime := He.noat_ok (d.fact 53 (f := .noat "Field" "own_prime") rfl)
    na_Sum_own_field := He.noat_ok (d.fact 54 (f := .noat "Sum" "own_field") rfl)
    na_Sum_row := He.noat_ok (d.fact 55 (f := .noat "Sum" "row") rfl)
    mk_Sum := He.mkr_ok (d.fact 56 (f := .mkr "Sum") rfl)
    mk_Field := He.mkr_ok (d.fact 57 (f := .mkr "Field") rfl)
    m_Field_made := He.meth_ok (d.fact 58 (f := .meth "Field" "made") rfl)
    m_Field_is_number := He.meth_ok (d.fact 59 (f := .meth "Field" "is_number") rfl)
    m_Field_plus := He.meth_ok (d.fact 60 (f := .meth "Field" "plus") rfl)
    m_Sum_look_alike := He.meth_ok (d.fact 61 (f := .meth "Sum" "look_alike") rfl)
    m_Field_times := He.meth_ok (d.fact 62 (f := .meth "Field" "times") rfl)
    m_Sum_reach := He.meth_ok (d.fact 63 (f := .meth "Sum" "reach") rfl)
    m_Sum_times := He.meth_ok (d.fact 64 (f := .meth "Sum" "times") rfl)
    m_Sum_put_in := He.meth_ok (d.fact 65 (f := .meth "Sum" "put_in") rfl)
    m_Sum_terms := He.meth_ok (d.fact 66 (f := .meth "Sum" "terms") rfl)
    x_NoNumber := excF_of X G (d.fact 67 (f := .exc "NoNumber") rfl) (d.fact 68 (f := .glo "NoNumber") rfl)
    x_NoField := excF_of X G (d.fact 69 (f := .exc "NoField") rfl) (d.fact 70 (f := .glo "NoField") rfl)
    x_Unlike := excF_of X G (d.fact 71 (f := .exc "Unlike") rfl) (d.fact 72 (f := .glo "Unlike") rfl)
    x_NoSums := excF_of X G (d.fact 73 (f := .exc "NoSums") rfl) (d.fact 74 (f := .glo "NoSums") rfl)
    eq_Field := let ⟨a, b⟩ := He.ba y_eq_Field; let ⟨b, c⟩ := He.ba b; let ⟨c, d⟩ := He.ba c; ⟨eq_of_beq a, b, eq_of_beq c, of_decide_eq_true d⟩
    eq_Sum := let ⟨a, b⟩ := He.ba y_eq_Sum; let ⟨b, c⟩ := He.ba b; let ⟨c, d⟩ := He.ba c; ⟨eq_of_beq a, b, eq_of_beq c, of_decide_eq_true d⟩
    con := con_of y_con
    rt_gathered := rfl
    in_gathered := List.mem_cons_self
    un_gathered := fun u hu eu => by
      have hy := y_un_gathered
      simp only [Bool.and_eq_true, decide_eq_true_eq, true_and] at hy
      simp only [zOf, List.mem_cons, List.not_mem_nil, or_false] at hu
      rcases hu with rfl | rfl | rfl
      · rfl
      · exact absurd eu hy.1
      · exact absurd eu hy.2
    rt_Sum_put_in := rfl
    in_Sum_put_in := List.mem_cons_of_mem _ List.mem_cons_self
    un_Sum_put_in := fun u hu eu => by
      have hy := y_un_Sum_put_in
      simp only [Bool.and_eq_true, decide_eq_true_eq, true_and] at hy
      simp only [zOf, List.mem_cons, List.not_mem_nil, or_false] at hu
      rcases hu with rfl | rfl | rfl
      · exact absurd eu hy.1
      · rfl
      · exact absurd eu hy.2
    rt_law := rfl
    in_law := (by simp [zOf])
    un_law := fun u hu eu => by
      have hy := y_un_law
      simp only [Bool.and_eq_true, decide_eq_true_eq, true_and] at hy
      simp only [zOf, List.mem_cons, List.not_mem_nil, or_false] at hu
      rcases hu with rfl | rfl | rfl
      · exact absurd eu hy.1
      · exact absurd eu hy.2
      · rfl
  }
end K08
open PySem PySem.W PySem.Calls PyProof.Rows
theorem PySem.Challenge.cw_falsesums_k08_sums_put_in_holds : PySem.Challenge.rw_falsesums_k08_sums_put_in.Holds := by
  w_on; o_law
  refine HandSHeadRun.head_any (r := K08.R) (q := view K08.R.prog [45]) (H := K08.hk) (ob := K08.ob) (M := 9000) (loose := K08.names) (d := HandSHeadRun.topDef K08.R.prog 45) (kwd := []) K08.ob_eq
    (by kernel_rfl) (fun s => by kernel_rfl) K08.run (by kernel_rfl) (by kernel_rfl) (by kernel_rfl) (by rfl) (by first | assumption | decide +kernel) (by decide +kernel) ⟨rfl, rfl, rfl, rfl, rfl, by decide +kernel⟩ ?hw ?hc
  case hw => w_witness2
  case hc =>
    refine LamX.walk_ofTsE (l := PySem.Challenge.rw_falsesums_k08_sums_put_in) (n := 63) (k := 14) (x := "_law_script") (CX := fun w => L2.CX K08.R.prog w) rfl (by decide +kernel) (by kernel_rfl) ⟨rfl, by decide, by decide⟩ ?F (fun w H s e s' z => by
      obtain ⟨_, _, _, _, _, _, _, _, _, _, _, _, z⟩ := z
      exact z)
    intro w mg fa h Y G hmg0
    obtain ⟨K, KX, c⟩ := Y
    have hmg : mg ("law" : PySem.Str) = some (.ref fa) := by
      have e : (HandSHeadRun.topDef K08.R.prog 45).name = ("law" : PySem.Str) := by kernel_rfl
      rw [← e]
      exact hmg0
    obtain ⟨ρ, el, X⟩ := K08.facts KX G c
    have e := hmg.symm.trans (He.glo_ok KX G (c.t.d.fact 75 (f := .glo "law") rfl))
    have ef : fa = ρ.law.ad := by
      rw [el]
      exact Value.ref.inj (Option.some.inj e)
    subst ef
    refine ⟨K, KX, ρ.law.fd, [He.cT K ("gathered", none), He.cT K ("Sum", some "put_in"), He.cT K ("law", none)], K08.sp_law (K08.zOf K) K, (fun p hp => by
      simp only [List.mem_cons, List.not_mem_nil, or_false] at hp
      rcases hp with rfl | rfl | rfl
      · exact c.empty ("gathered", none) (by decide +kernel)
      · exact c.empty ("Sum", some "put_in") (by decide +kernel)
      · exact c.empty ("law", none) (by decide +kernel)), (fun p hp => by
      simp only [List.mem_cons, List.not_mem_nil, or_false] at hp
      rcases hp with rfl | rfl | rfl
      · exact c.out ("gathered", none) (by decide +kernel)
      · exact c.out ("Sum", some "put_in") (by decide +kernel)
      · exact c.out ("law", none) (by decide +kernel)),
      (fun p hp => by
      simp only [List.mem_cons, List.not_mem_nil, or_false] at hp
      rcases hp with rfl | rfl | rfl
      · exact codeHd_of_K KX (c.hd ("gathered", none) (by decide +kernel))
      · exact codeHd_of_K KX (c.hd ("Sum", some "put_in") (by decide +kernel))
      · exact codeHd_of_K KX (c.hd ("law", none) (by decide +kernel))), fun s u => ?_, fun H a ns hl _ hT hS => ⟨a, ns, rfl, hS, hl, (fun p hp => by
      simp only [K08.zOf, List.mem_cons, List.not_mem_nil, or_false] at hp
      rcases hp with rfl | rfl | rfl
      · exact LamX.TabS.nil (hT (He.cT K ("gathered", none)) (by simp))
      · exact LamX.TabS.nil (hT (He.cT K ("Sum", some "put_in")) (by simp))
      · exact LamX.TabS.nil (hT (He.cT K ("law", none)) (by simp))), fun _ => rfl⟩, fun base _ _ TB => ?_⟩
    · exact L2.FunD.bindsA (ps := ["_law_script"]) X.f_law (fun _ _ _ _ _ _ us hl => match us, hl with | [_], _ => rfl) s [u] rfl
    · exact (K08.ok_all X (TB (He.cT K ("gathered", none)) (by simp)) (TB (He.cT K ("Sum", some "put_in")) (by simp)) (TB (He.cT K ("law", none)) (by simp))).ok
