import PyProof.Rows.All
import Wide.All
import OpenK.AllK
import Wide.FinOn
import HandS.ForExc
import HandS.Comp
import HandS.Wide
import HandS.WideBits
import HandS.ExcInit
import HandS.Lambda
import HandS.HotCalls
import HandS.Ends
import HandS.EndBits
import HandS.Words
import HandS.WordsExc
import HandS.Head0
import HandS.Head1
import HandS.Head2
import HandS.HeadEnd
import HandS.HeadHook1
import HandS.HeadHook2
import KE.KExcIs
import HandS.ExcValue
import HandS.ExcField
import PyProof.Rows.CountFlat
import PyProof.SeqIndex
import HandS.EndTab
import HandS.HeadWalk
import HandS.HeadHook3
import HandS.HeadHook4
import PySem.Challenge.RW_robintrees_k07_progressions_refused
import KE.KExcInit
import HandS.Text
import KE.DataEq
import KE.DataAny
import HandS.Defaults
import HandS.MakeKw
import HandS.IsInst
import HandS.FStr
import HandS.RaiseMore
import KE.KCallOwn
import KE.KFmtOwn
import PyProof.ReprRoads
import PyProof.NoPylong
import HandS.OwnEq
import HandS.Iter
import HandS.Zip
import HandS.TupAny
import HandS.Dict
import HandS.Style
import HandS.Star
import KE.GoesEnum
import KE.GoesMore
import PyProof.EnumMake
import KE.GoesZip
import HandS.NoneIn
import PyProof.ReprHeads
import KE.KTryMore
import PyProof.IsiBase
import PyProof.FactsAll.set
import PyProof.FactsAll.tuple_2
import PyProof.ReprHeadsTuple
import KE.KIsAll
import KE.KRevSl
set_option Elab.async false
set_option linter.all false
set_option maxRecDepth 100000
set_option maxHeartbeats 4000000
/-! the checks of the written part, the hooks: before all else (the law's head is proved behind these alone, while memory is free). -/
namespace PySem.HandSPX
open PySem PySem.Spec L2 PyProof.Rows
def oexB (K : W.Frag) (C : Addr) (newId : String) (tl : List Value) : Bool :=
  W.excInitIn K C tl newId && (W.hasDictIn K C && (decide (W.findIn K (.ref C) "__setattr__" = some (some (.builtin "object.__setattr__"))) && decide (W.instIn K (.ref C) (.type "type") = some true)))
end PySem.HandSPX
namespace RT
open PySem PySem.Spec L2
open PyProof.Rows hiding St
/-- a class, told -/
inductive Tg where
  | ty (n : String) | cl (c : Nat)
  deriving DecidableEq
abbrev IsTab := List (Tg × Tg × Bool)
abbrev Chk := PySem.W.Frag → Bool
def obsR (c : Chk) (fn : List He.DefD) (K : PySem.W.Frag) : He.AlD := (c K && fn.all fun d => d.ok K, fn.map fun d => He.fnW K d.at_)
def SaysR (c : Chk) (fn : List He.DefD) (K : PySem.W.Frag) : Prop := obsR c fn K = He.valD fn
def obsRG (n : Nat) (c : Chk) (fn : List He.DefD) (g : Addr → Option Obj) : He.AlD := obsR c fn (He.frG g (He.asD g n))
def hookR (n : Nat) (c : Chk) (fn : List He.DefD) : PySem.W.Hook where
  α := He.AlD
  obs := fun s => obsRG n c fn s.heap.get?
  val := fun _ => He.valD fn
  says := fun _ h => ∃ K : PySem.W.Frag, K.In h ∧ SaysR c fn K
  of := fun _ _ e => ⟨_, He.frG_in, e⟩
  keeps := fun _ _ _ ⟨K, hK, q⟩ k => ⟨K, PySem.W.Frag.In.keeps hK k, q⟩
theorem obsRG_eq {n : Nat} {c : Chk} {fn : List He.DefD} {g : Addr → Option Obj} {s : Shared} (h : ∀ a, g a = s.heap.get? a) : obsRG n c fn g = (hookR n c fn).obs s := by
  have e : g = s.heap.get? := funext h
  rw [e] <;> rfl
def ckGlo (x : Str) : Chk := fun K => (He.Fa.glo x).ok K
def ckFree (x : Str) : Chk := fun K => (He.Fa.free x).ok K
def ckCls (x : Str) : Chk := fun K => (He.Fa.cls x).ok K && (He.eqO (PySem.W.findIn K (.ref (He.ga K x)) "__class__") (some (some (.builtin "object.__class__"))) && (He.eqO (PySem.W.specialIn K (.builtin "object.__class__") "__get__") (some (some (.builtin "getset_descriptor.__get__"))) &&
  (decide (PySem.W.takesIn K (.builtin "object.__class__") = some true) && decide (PySem.W.mroIn K (He.ga K x) (.type "object") = some true))))
def ckNo (x f : Str) : Chk := fun K => (He.Fa.noat x f).ok K
def ckMk (x : Str) : Chk := fun K => (He.Fa.mkr x).ok K
def ckDu (x m : Str) : Chk := fun K => He.eqO (PySem.W.findIn K (.ref (He.ga K x)) m) (some (some (.ref (He.fAd K (x, some m))))) && PySem.W.isFn K (.ref (He.fAd K (x, some m)))
def ckMeth (x m : Str) : Chk := fun K => (He.Fa.meth x m).ok K
def ckNe (x : Str) : Chk := fun K => He.eqO (PySem.W.findIn K (.ref (He.ga K x)) "__ne__") (some (some (.builtin "object.__ne__"))) && decide (PySem.W.mroIn K (He.ga K x) (.type "object") = some true)
def ckFm (x : Str) : Chk := fun K => He.eqO (PySem.W.findIn K (.ref (He.ga K x)) "__format__") (some (some (.builtin "object.__format__"))) && decide (PySem.W.mroIn K (He.ga K x) (.type "object") = some true)
def ckSelf (x : Str) : Chk := fun K => PySem.W.selfFirst K (He.ga K x)
def tgvK (cn : List Str) (K : PySem.W.Frag) : Tg → Value
  | .ty n => .type n
  | .cl c => .ref ((cn.map (He.ga K)).getD c 0)
def ckIs (cn : List Str) (tab : IsTab) : Chk := fun K => tab.all fun t => decide (PySem.W.kitOne K (tgvK cn K t.1) (tgvK cn K t.2.1) = some t.2.2)
def ckNd (cn : List Str) : Chk := fun K => decide (cn.map (He.ga K)).Nodup
/-- all kinds of right operands -/
def eqTags (nc : Nat) : List Tg := [.ty "NoneType", .ty "bool", .ty "int", .ty "str", .ty "tuple", .ty "list", .ty "dict"] ++ (List.range nc).map Tg.cl
def ckFirst (cn : List Str) (c : Nat) : Chk := fun K => (eqTags cn.length).all fun a => PySem.W.notFirst K ((cn.map (He.ga K)).getD c 0) (tgvK cn K a)
def ckFn (x m : Str) : Chk := fun K => PySem.W.fnIn K (He.fAd K (x, some m))
/-- .. as a check tells it -/
def ckGint (x : Str) (i : Int) : Chk := fun K => match PySem.W.nsIn K mainGlobals x with
  | some (some (.int j _)) => j == i
  | _ => false
def ckFirstX (cn xn : List Str) (c : Nat) : Chk := fun K => (eqTags cn.length).all fun a => PySem.W.notFirst K (((cn ++ xn).map (He.ga K)).getD c 0) (tgvK (cn ++ xn) K a)
def tailOf : Nat → String × String × List Value
  | 0 => ("ValueError.__new__", "ValueError.__init__", [.type "ValueError", .type "Exception", .type "BaseException", .type "object"])
  | 1 => ("LookupError.__new__", "LookupError.__init__", [.type "LookupError", .type "Exception", .type "BaseException", .type "object"])
  | _ => ("ArithmeticError.__new__", "ArithmeticError.__init__", [.type "ArithmeticError", .type "Exception", .type "BaseException", .type "object"])
def ckXb (x : Str) (i : Nat) : Chk := fun K => HandSPX.oexB K (He.ga K x) (tailOf i).1 (tailOf i).2.2
def ckXmk (x : Str) : Chk := fun K => He.eqO (PySem.W.findIn K (.ref (He.ga K x)) "__init__") (some (some (.ref (He.fAd K (x, some "__init__"))))) && (PySem.W.isFn K (.ref (He.fAd K (x, some "__init__"))) && PySem.W.keepIn K (.ref (He.ga K x)))
def ckXmk0 (x : Str) (i : Nat) : Chk := fun K => PySem.W.excIn K (He.ga K x) (tailOf i).2.2 (tailOf i).1 && PySem.W.keepIn K (.ref (He.ga K x))
def ckXno (x f : Str) : Chk := fun K => decide (PySem.W.findIn K (.ref (He.ga K x)) f = some none)
def ckXi (x : Str) : Chk := fun K => (PySem.W.clsIn K (He.ga K x)).isSome && (xfB K (He.ga K x) && (He.eqO (PySem.W.findIn K (.ref (He.ga K x)) "__class__") (some (some (.builtin "object.__class__"))) &&
  (He.eqO (PySem.W.specialIn K (.builtin "object.__class__") "__get__") (some (some (.builtin "getset_descriptor.__get__"))) && (decide (PySem.W.takesIn K (.builtin "object.__class__") = some true) && decide (PySem.W.mroIn K (He.ga K x) (.type "object") = some true)))))
/-- which classes an except clause takes -/
def ckExm (cn : List Str) (cs : List Nat) (xs : List Str) : Chk := fun K => cs.all fun c => decide (PySem.W.exmAny K (.ref ((cn.map (He.ga K)).getD c 0)) (xs.map fun x => Value.ref (He.ga K x)) = some true)
/-- a class that may be raised -/
def ckXrs (x : Str) : Chk := fun K => decide (PySem.W.subIn K (.ref (He.ga K x)) (.type "BaseException") = some true) && decide (PySem.W.typeIn K (.ref (He.ga K x)) = some (.type "type"))
def ckDq (x : Str) : Chk := fun K => decide (PySem.W.subIn K (.ref (He.ga K x)) (.type "collections.deque") = some false)
def ckTab (tf : List (He.Defn × Str)) : Chk := fun K => decide ((tf.map fun p => (He.cT K p.1).2).Nodup)
def ckGstr (x : Str) (i : Str) : Chk := fun K => match PySem.W.nsIn K mainGlobals x with
  | some (some (.str j _)) => j == i
  | _ => false
abbrev hookRT (n : Nat) (c : Chk) (fn : List He.DefD) (tf : List He.Defn) : PySem.W.Hook := He.hookX n [] fn [] tf c
end RT
set_option Elab.async false
set_option linter.all false
set_option maxRecDepth 100000
set_option maxHeartbeats 0
/-! printed by gen.py: the mirror of the law and of what it reaches, its derivation, its facts -/
namespace K07
open PySem PySem.Spec L2 RT
open PyProof.Rows hiding St
abbrev PW : Program := PySem.Challenge.pw_robintrees_k07_progressions_refused
def top (i : Nat) : Stmt := PW.main.body.getD i (.Pass ⟨0, 0, 0, 0⟩)
def clsBody (s : Stmt) : List Stmt := match s with
  | .ClassDef _ _ _ b _ _ _ _ _ _ _ => b
  | _ => []
def mth (i j : Nat) : Stmt := (clsBody (top i)).getD j (.Pass ⟨0, 0, 0, 0⟩)
abbrev s_Progressionq_eqq : Stmt := mth 35 1
def d_Progressionq_eqq : He.DefD := ⟨("Progression", some "__eq__"), "__eq__", "Progression.__eq__", defArgs s_Progressionq_eqq, defBody s_Progressionq_eqq, defScope s_Progressionq_eqq, [], []⟩
def N_Progressionq_eqq : List Str := ["self", "other"]
def P_Progressionq_eqq : List Str := ["self", "other"]
abbrev s_Progressionq_strq : Stmt := mth 35 3
def d_Progressionq_strq : He.DefD := ⟨("Progression", some "__str__"), "__str__", "Progression.__str__", defArgs s_Progressionq_strq, defBody s_Progressionq_strq, defScope s_Progressionq_strq, [], []⟩
def N_Progressionq_strq : List Str := ["self"]
def P_Progressionq_strq : List Str := ["self"]
abbrev s_Progressionq_reprq : Stmt := mth 35 2
def d_Progressionq_reprq : He.DefD := ⟨("Progression", some "__repr__"), "__repr__", "Progression.__repr__", defArgs s_Progressionq_reprq, defBody s_Progressionq_reprq, defScope s_Progressionq_reprq, [], []⟩
def N_Progressionq_reprq : List Str := ["self"]
def P_Progressionq_reprq : List Str := ["self"]
abbrev s_is_integer : Stmt := top 29
def d_is_integer : He.DefD := ⟨("is_integer", none), "is_integer", "is_integer", defArgs s_is_integer, defBody s_is_integer, defScope s_is_integer, [], []⟩
def N_is_integer : List Str := ["value", "low"]
def P_is_integer : List Str := ["value", "low"]
abbrev s_Progressionq_containsq : Stmt := mth 35 4
def d_Progressionq_containsq : He.DefD := ⟨("Progression", some "__contains__"), "__contains__", "Progression.__contains__", defArgs s_Progressionq_containsq, defBody s_Progressionq_containsq, defScope s_Progressionq_containsq, [], []⟩
def N_Progressionq_containsq : List Str := ["self", "value"]
def P_Progressionq_containsq : List Str := ["self", "value"]
abbrev s_InvalidNumberq_initq : Stmt := mth 2 0
def d_InvalidNumberq_initq : He.DefD := ⟨("InvalidNumber", some "__init__"), "__init__", "InvalidNumber.__init__", defArgs s_InvalidNumberq_initq, defBody s_InvalidNumberq_initq, defScope s_InvalidNumberq_initq, [], []⟩
def N_InvalidNumberq_initq : List Str := ["self", "number"]
def P_InvalidNumberq_initq : List Str := ["self", "number"]
abbrev s_check_number : Stmt := top 31
def d_check_number : He.DefD := ⟨("check_number", none), "check_number", "check_number", defArgs s_check_number, defBody s_check_number, defScope s_check_number, [], []⟩
def N_check_number : List Str := ["number"]
def P_check_number : List Str := ["number"]
abbrev s_Progressionq_getitemq : Stmt := mth 35 5
def d_Progressionq_getitemq : He.DefD := ⟨("Progression", some "__getitem__"), "__getitem__", "Progression.__getitem__", defArgs s_Progressionq_getitemq, defBody s_Progressionq_getitemq, defScope s_Progressionq_getitemq, [], []⟩
def N_Progressionq_getitemq : List Str := ["self", "index"]
def P_Progressionq_getitemq : List Str := ["self", "index"]
abbrev s_InvalidStepq_initq : Stmt := mth 3 0
def d_InvalidStepq_initq : He.DefD := ⟨("InvalidStep", some "__init__"), "__init__", "InvalidStep.__init__", defArgs s_InvalidStepq_initq, defBody s_InvalidStepq_initq, defScope s_InvalidStepq_initq, [], []⟩
def N_InvalidStepq_initq : List Str := ["self", "step"]
def P_InvalidStepq_initq : List Str := ["self", "step"]
abbrev s_is_between : Stmt := top 30
def d_is_between : He.DefD := ⟨("is_between", none), "is_between", "is_between", defArgs s_is_between, defBody s_is_between, defScope s_is_between, [], []⟩
def N_is_between : List Str := ["value", "low", "high"]
def P_is_between : List Str := ["value", "low", "high"]
abbrev s_Progressionq_initq : Stmt := mth 35 0
def d_Progressionq_initq : He.DefD := ⟨("Progression", some "__init__"), "__init__", "Progression.__init__", defArgs s_Progressionq_initq, defBody s_Progressionq_initq, defScope s_Progressionq_initq, [.int 0], []⟩
def N_Progressionq_initq : List Str := ["self", "step", "first"]
def P_Progressionq_initq : List Str := ["self", "step", "first"]
abbrev s_made : Stmt := top 36
def d_made : He.DefD := ⟨("made", none), "made", "made", defArgs s_made, defBody s_made, defScope s_made, [], []⟩
def N_made : List Str := ["pair"]
def P_made : List Str := ["pair"]
abbrev s_gcd : Stmt := top 32
def d_gcd : He.DefD := ⟨("gcd", none), "gcd", "gcd", defArgs s_gcd, defBody s_gcd, defScope s_gcd, [], []⟩
def N_gcd : List Str := ["one", "other"]
def P_gcd : List Str := ["one", "other"]
abbrev s_inverse : Stmt := top 33
def d_inverse : He.DefD := ⟨("inverse", none), "inverse", "inverse", defArgs s_inverse, defBody s_inverse, defScope s_inverse, [], []⟩
def N_inverse : List Str := ["number", "modulus", "rest", "other", "times", "before", "quotient"]
def P_inverse : List Str := ["number", "modulus"]
abbrev s_meet : Stmt := top 34
def d_meet : He.DefD := ⟨("meet", none), "meet", "meet", defArgs s_meet, defBody s_meet, defScope s_meet, [], []⟩
def N_meet : List Str := ["one", "other", "share", "gap", "modulus", "times"]
def P_meet : List Str := ["one", "other"]
abbrev s_Progressionq_andq : Stmt := mth 35 7
def d_Progressionq_andq : He.DefD := ⟨("Progression", some "__and__"), "__and__", "Progression.__and__", defArgs s_Progressionq_andq, defBody s_Progressionq_andq, defScope s_Progressionq_andq, [], []⟩
def N_Progressionq_andq : List Str := ["self", "other"]
def P_Progressionq_andq : List Str := ["self", "other"]
abbrev s__law_whole : Stmt := top 46
def d__law_whole : He.DefD := ⟨("_law_whole", none), "_law_whole", "_law_whole", defArgs s__law_whole, defBody s__law_whole, defScope s__law_whole, [], []⟩
def N__law_whole : List Str := ["_law_thing", "_law_least"]
def P__law_whole : List Str := ["_law_thing", "_law_least"]
abbrev s__law_kind : Stmt := top 45
def d__law_kind : He.DefD := ⟨("_law_kind", none), "_law_kind", "_law_kind", defArgs s__law_kind, defBody s__law_kind, defScope s__law_kind, [], []⟩
def N__law_kind : List Str := ["_law_e", "_law_found", "_law_bases", "_law_own", "_law_at"]
def P__law_kind : List Str := ["_law_e"]
abbrev s__law_caught : Stmt := top 47
def d__law_caught : He.DefD := ⟨("_law_caught", none), "_law_caught", "_law_caught", defArgs s__law_caught, defBody s__law_caught, defScope s__law_caught, [], []⟩
def N__law_caught : List Str := ["_law_act", "_law_e", "_law_at"]
def P__law_caught : List Str := ["_law_act"]
abbrev s__law_made_right : Stmt := top 48
def d__law_made_right : He.DefD := ⟨("_law_made_right", none), "_law_made_right", "_law_made_right", defArgs s__law_made_right, defBody s__law_made_right, defScope s__law_made_right, [], []⟩
def N__law_made_right : List Str := ["_law_pace", "_law_begin", "_law_due"]
def P__law_made_right : List Str := ["_law_pace", "_law_begin"]
abbrev s__law_draw : Stmt := top 43
def d__law_draw : He.DefD := ⟨("_law_draw", none), "_law_draw", "_law_draw", defArgs s__law_draw, defBody s__law_draw, defScope s__law_draw, [], []⟩
def N__law_draw : List Str := ["_law_pool_here", "_law_many", "_law_state", "_law_digit"]
def P__law_draw : List Str := ["_law_pool_here", "_law_many"]
abbrev s__law_pair : Stmt := top 44
def d__law_pair : He.DefD := ⟨("_law_pair", none), "_law_pair", "_law_pair", defArgs s__law_pair, defBody s__law_pair, defScope s__law_pair, [], []⟩
def N__law_pair : List Str := ["_law_pool_here", "_law_far", "_law_pace"]
def P__law_pair : List Str := ["_law_pool_here"]
abbrev s_Progression_below : Stmt := mth 35 8
def d_Progression_below : He.DefD := ⟨("Progression", some "below"), "below", "Progression.below", defArgs s_Progression_below, defBody s_Progression_below, defScope s_Progression_below, [], []⟩
def N_Progression_below : List Str := ["self", "end"]
def P_Progression_below : List Str := ["self", "end"]
abbrev s_Progression_after : Stmt := mth 35 9
def d_Progression_after : He.DefD := ⟨("Progression", some "after"), "after", "Progression.after", defArgs s_Progression_after, defBody s_Progression_after, defScope s_Progression_after, [], []⟩
def N_Progression_after : List Str := ["self", "number"]
def P_Progression_after : List Str := ["self", "number"]
abbrev s__law_asked_right : Stmt := top 49
def d__law_asked_right : He.DefD := ⟨("_law_asked_right", none), "_law_asked_right", "_law_asked_right", defArgs s__law_asked_right, defBody s__law_asked_right, defScope s__law_asked_right, [], []⟩
def N__law_asked_right : List Str := ["_law_line", "_law_odd", "_law_due", "_law_told"]
def P__law_asked_right : List Str := ["_law_line", "_law_odd"]
abbrev s_InvalidProgressionsq_initq : Stmt := mth 5 0
def d_InvalidProgressionsq_initq : He.DefD := ⟨("InvalidProgressions", some "__init__"), "__init__", "InvalidProgressions.__init__", defArgs s_InvalidProgressionsq_initq, defBody s_InvalidProgressionsq_initq, defScope s_InvalidProgressionsq_initq, [], []⟩
def N_InvalidProgressionsq_initq : List Str := ["self", "index"]
def P_InvalidProgressionsq_initq : List Str := ["self", "index"]
abbrev s_check_progressions : Stmt := top 37
def d_check_progressions : He.DefD := ⟨("check_progressions", none), "check_progressions", "check_progressions", defArgs s_check_progressions, defBody s_check_progressions, defScope s_check_progressions, [], []⟩
def N_check_progressions : List Str := ["progressions", "index", "progression"]
def P_check_progressions : List Str := ["progressions"]
abbrev s_common : Stmt := top 38
def d_common : He.DefD := ⟨("common", none), "common", "common", defArgs s_common, defBody s_common, defScope s_common, [], []⟩
def N_common : List Str := ["progressions", "found", "progression"]
def P_common : List Str := ["progressions"]
abbrev s_apart : Stmt := top 39
def d_apart : He.DefD := ⟨("apart", none), "apart", "apart", defArgs s_apart, defBody s_apart, defScope s_apart, [], []⟩
def N_apart : List Str := ["progressions", "low", "one", "high", "other"]
def P_apart : List Str := ["progressions"]
abbrev s_InvalidProgressionq_initq : Stmt := mth 4 0
def d_InvalidProgressionq_initq : He.DefD := ⟨("InvalidProgression", some "__init__"), "__init__", "InvalidProgression.__init__", defArgs s_InvalidProgressionq_initq, defBody s_InvalidProgressionq_initq, defScope s_InvalidProgressionq_initq, [], []⟩
def N_InvalidProgressionq_initq : List Str := ["self", "value"]
def P_InvalidProgressionq_initq : List Str := ["self", "value"]
abbrev s_Progression_inside : Stmt := mth 35 10
def d_Progression_inside : He.DefD := ⟨("Progression", some "inside"), "inside", "Progression.inside", defArgs s_Progression_inside, defBody s_Progression_inside, defScope s_Progression_inside, [], []⟩
def N_Progression_inside : List Str := ["self", "other"]
def P_Progression_inside : List Str := ["self", "other"]
abbrev s__law_several_right : Stmt := top 50
def d__law_several_right : He.DefD := ⟨("_law_several_right", none), "_law_several_right", "_law_several_right", defArgs s__law_several_right, defBody s__law_several_right, defScope s__law_several_right, [], []⟩
def N__law_several_right : List Str := ["_law_line", "_law_odd", "_law_more", "_law_told", "_law_at"]
def P__law_several_right : List Str := ["_law_line", "_law_odd", "_law_more"]
abbrev s__law_right : Stmt := top 51
def d__law_right : He.DefD := ⟨("_law_right", none), "_law_right", "_law_right", defArgs s__law_right, defBody s__law_right, defScope s__law_right, [], []⟩
def N__law_right : List Str := ["_law_pool_here", "_law_pair_here", "_law_line", "_law_odds", "_law_odd", "_law_more", "_law_pace", "_law_begin", "_law_one"]
def P__law_right : List Str := ["_law_pool_here"]
abbrev s__law_pool : Stmt := top 42
def d__law_pool : He.DefD := ⟨("_law_pool", none), "_law_pool", "_law_pool", defArgs s__law_pool, defBody s__law_pool, defScope s__law_pool, [], []⟩
def N__law_pool : List Str := ["_law_figure", "_law_digits"]
def P__law_pool : List Str := ["_law_figure"]
abbrev s__law_cell : Stmt := top 41
def d__law_cell : He.DefD := ⟨("_law_cell", none), "_law_cell", "_law_cell", defArgs s__law_cell, defBody s__law_cell, defScope s__law_cell, [], []⟩
def N__law_cell : List Str := ["_law_script", "_law_k", "_law_state", "_law_figure"]
def P__law_cell : List Str := ["_law_script", "_law_k"]
abbrev s_law : Stmt := top 52
def d_law : He.DefD := ⟨("law", none), "law", "law", defArgs s_law, defBody s_law, defScope s_law, [], []⟩
def N_law : List Str := ["_law_script", "_law_some", "_law_pace", "_law_begin", "_law_k"]
def P_law : List Str := ["_law_script"]
def DEFS : List He.DefD := [d_Progressionq_eqq, d_Progressionq_strq, d_Progressionq_reprq, d_is_integer, d_Progressionq_containsq, d_InvalidNumberq_initq, d_check_number, d_Progressionq_getitemq, d_InvalidStepq_initq, d_is_between, d_Progressionq_initq, d_made, d_gcd, d_inverse, d_meet, d_Progressionq_andq, d__law_whole, d__law_kind, d__law_caught, d__law_made_right, d__law_draw, d__law_pair, d_Progression_below, d_Progression_after, d__law_asked_right, d_InvalidProgressionsq_initq, d_check_progressions, d_common, d_apart, d_InvalidProgressionq_initq, d_Progression_inside, d__law_several_right, d__law_right, d__law_pool, d__law_cell, d_law]
def CN : List Str := ["Progression"]
def XN : List Str := ["InvalidNumber", "InvalidStep", "InvalidProgression", "InvalidProgressions", "InvalidName", "InvalidArity", "InvalidTargets", "InvalidText", "InvalidTree", "InvalidTable", "InvalidSetting", "InvalidSightings", "InvalidDeed", "InvalidDeeds", "UnknownName", "NameTaken", "NotFull", "Unexplained", "LastServer", "NothingToUndo", "TooManyNames", "TooDeep", "TooLong", "TooManyRequests", "RobinError", "SearchError", "SizeError"]
def XC : List Nat := [1, 2, 3, 4, 5, 6, 7, 8, 9, 10, 11, 12, 13, 14, 15, 16, 17, 18, 19, 20, 21, 22, 23, 24, 25, 26, 27]
def FL : List Str := ["step", "first", "number", "value", "index", "name", "arity", "text", "deed", "numbers", "count", "found", "below", "after", "inside"]
def TAB : IsTab := [((.ty "NoneType"), (.ty "int"), false), ((.ty "bool"), (.ty "int"), true), ((.ty "int"), (.ty "int"), true), ((.ty "str"), (.ty "int"), false), ((.ty "tuple"), (.ty "int"), false), ((.ty "list"), (.ty "int"), false), ((.ty "dict"), (.ty "int"), false), ((.ty "slice"), (.ty "int"), false), ((.cl 0), (.ty "int"), false), ((.ty "NoneType"), (.ty "bool"), false), ((.ty "bool"), (.ty "bool"), true), ((.ty "int"), (.ty "bool"), false), ((.ty "str"), (.ty "bool"), false), ((.ty "tuple"), (.ty "bool"), false), ((.ty "list"), (.ty "bool"), false), ((.ty "dict"), (.ty "bool"), false), ((.ty "slice"), (.ty "bool"), false), ((.cl 0), (.ty "bool"), false), ((.ty "NoneType"), (.cl 0), false), ((.ty "bool"), (.cl 0), false), ((.ty "int"), (.cl 0), false), ((.ty "str"), (.cl 0), false), ((.ty "tuple"), (.cl 0), false), ((.ty "list"), (.cl 0), false), ((.ty "dict"), (.cl 0), false), ((.ty "slice"), (.cl 0), false), ((.cl 0), (.cl 0), true), ((.cl 1), (.cl 1), true), ((.cl 2), (.cl 1), false), ((.cl 3), (.cl 1), false), ((.cl 4), (.cl 1), false), ((.cl 5), (.cl 1), false), ((.cl 6), (.cl 1), false), ((.cl 7), (.cl 1), false), ((.cl 8), (.cl 1), false), ((.cl 9), (.cl 1), false), ((.cl 10), (.cl 1), false), ((.cl 11), (.cl 1), false), ((.cl 12), (.cl 1), false), ((.cl 13), (.cl 1), false), ((.cl 14), (.cl 1), false), ((.cl 15), (.cl 1), false), ((.cl 16), (.cl 1), false), ((.cl 17), (.cl 1), false), ((.cl 18), (.cl 1), false), ((.cl 19), (.cl 1), false), ((.cl 20), (.cl 1), false), ((.cl 21), (.cl 1), false), ((.cl 22), (.cl 1), false), ((.cl 23), (.cl 1), false), ((.cl 24), (.cl 1), false), ((.cl 25), (.cl 1), false), ((.cl 26), (.cl 1), false), ((.cl 27), (.cl 1), false), ((.cl 1), (.cl 2), false), ((.cl 2), (.cl 2), true), ((.cl 3), (.cl 2), false), ((.cl 4), (.cl 2), false), ((.cl 5), (.cl 2), false), ((.cl 6), (.cl 2), false), ((.cl 7), (.cl 2), false), ((.cl 8), (.cl 2), false), ((.cl 9), (.cl 2), false), ((.cl 10), (.cl 2), false), ((.cl 11), (.cl 2), false), ((.cl 12), (.cl 2), false), ((.cl 13), (.cl 2), false), ((.cl 14), (.cl 2), false), ((.cl 15), (.cl 2), false), ((.cl 16), (.cl 2), false), ((.cl 17), (.cl 2), false), ((.cl 18), (.cl 2), false), ((.cl 19), (.cl 2), false), ((.cl 20), (.cl 2), false), ((.cl 21), (.cl 2), false), ((.cl 22), (.cl 2), false), ((.cl 23), (.cl 2), false), ((.cl 24), (.cl 2), false), ((.cl 25), (.cl 2), false), ((.cl 26), (.cl 2), false), ((.cl 27), (.cl 2), false), ((.cl 1), (.cl 3), false), ((.cl 2), (.cl 3), false), ((.cl 3), (.cl 3), true), ((.cl 4), (.cl 3), false), ((.cl 5), (.cl 3), false), ((.cl 6), (.cl 3), false), ((.cl 7), (.cl 3), false), ((.cl 8), (.cl 3), false), ((.cl 9), (.cl 3), false), ((.cl 10), (.cl 3), false), ((.cl 11), (.cl 3), false), ((.cl 12), (.cl 3), false), ((.cl 13), (.cl 3), false), ((.cl 14), (.cl 3), false), ((.cl 15), (.cl 3), false), ((.cl 16), (.cl 3), false), ((.cl 17), (.cl 3), false), ((.cl 18), (.cl 3), false), ((.cl 19), (.cl 3), false), ((.cl 20), (.cl 3), false), ((.cl 21), (.cl 3), false), ((.cl 22), (.cl 3), false), ((.cl 23), (.cl 3), false), ((.cl 24), (.cl 3), false), ((.cl 25), (.cl 3), false), ((.cl 26), (.cl 3), false), ((.cl 27), (.cl 3), false), ((.cl 1), (.cl 25), true), ((.cl 2), (.cl 25), true), ((.cl 3), (.cl 25), true), ((.cl 4), (.cl 25), true), ((.cl 5), (.cl 25), true), ((.cl 6), (.cl 25), true), ((.cl 7), (.cl 25), true), ((.cl 8), (.cl 25), true), ((.cl 9), (.cl 25), true), ((.cl 10), (.cl 25), true), ((.cl 11), (.cl 25), true), ((.cl 12), (.cl 25), true), ((.cl 13), (.cl 25), true), ((.cl 14), (.cl 25), true), ((.cl 15), (.cl 25), false), ((.cl 16), (.cl 25), false), ((.cl 17), (.cl 25), false), ((.cl 18), (.cl 25), false), ((.cl 19), (.cl 25), false), ((.cl 20), (.cl 25), false), ((.cl 21), (.cl 25), false), ((.cl 22), (.cl 25), false), ((.cl 23), (.cl 25), false), ((.cl 24), (.cl 25), false), ((.cl 25), (.cl 25), true), ((.cl 26), (.cl 25), false), ((.cl 27), (.cl 25), false), ((.cl 1), (.cl 26), false), ((.cl 2), (.cl 26), false), ((.cl 3), (.cl 26), false), ((.cl 4), (.cl 26), false), ((.cl 5), (.cl 26), false), ((.cl 6), (.cl 26), false), ((.cl 7), (.cl 26), false), ((.cl 8), (.cl 26), false), ((.cl 9), (.cl 26), false), ((.cl 10), (.cl 26), false), ((.cl 11), (.cl 26), false), ((.cl 12), (.cl 26), false), ((.cl 13), (.cl 26), false), ((.cl 14), (.cl 26), false), ((.cl 15), (.cl 26), true), ((.cl 16), (.cl 26), true), ((.cl 17), (.cl 26), true), ((.cl 18), (.cl 26), true), ((.cl 19), (.cl 26), true), ((.cl 20), (.cl 26), true), ((.cl 21), (.cl 26), false), ((.cl 22), (.cl 26), false), ((.cl 23), (.cl 26), false), ((.cl 24), (.cl 26), false), ((.cl 25), (.cl 26), false), ((.cl 26), (.cl 26), true), ((.cl 27), (.cl 26), false), ((.cl 1), (.cl 27), false), ((.cl 2), (.cl 27), false), ((.cl 3), (.cl 27), false), ((.cl 4), (.cl 27), false), ((.cl 5), (.cl 27), false), ((.cl 6), (.cl 27), false), ((.cl 7), (.cl 27), false), ((.cl 8), (.cl 27), false), ((.cl 9), (.cl 27), false), ((.cl 10), (.cl 27), false), ((.cl 11), (.cl 27), false), ((.cl 12), (.cl 27), false), ((.cl 13), (.cl 27), false), ((.cl 14), (.cl 27), false), ((.cl 15), (.cl 27), false), ((.cl 16), (.cl 27), false), ((.cl 17), (.cl 27), false), ((.cl 18), (.cl 27), false), ((.cl 19), (.cl 27), false), ((.cl 20), (.cl 27), false), ((.cl 21), (.cl 27), true), ((.cl 22), (.cl 27), true), ((.cl 23), (.cl 27), true), ((.cl 24), (.cl 27), true), ((.cl 25), (.cl 27), false), ((.cl 26), (.cl 27), false), ((.cl 27), (.cl 27), true), ((.cl 1), (.ty "ValueError"), true), ((.cl 2), (.ty "ValueError"), true), ((.cl 3), (.ty "ValueError"), true), ((.cl 4), (.ty "ValueError"), true), ((.cl 5), (.ty "ValueError"), true), ((.cl 6), (.ty "ValueError"), true), ((.cl 7), (.ty "ValueError"), true), ((.cl 8), (.ty "ValueError"), true), ((.cl 9), (.ty "ValueError"), true), ((.cl 10), (.ty "ValueError"), true), ((.cl 11), (.ty "ValueError"), true), ((.cl 12), (.ty "ValueError"), true), ((.cl 13), (.ty "ValueError"), true), ((.cl 14), (.ty "ValueError"), true), ((.cl 15), (.ty "ValueError"), false), ((.cl 16), (.ty "ValueError"), false), ((.cl 17), (.ty "ValueError"), false), ((.cl 18), (.ty "ValueError"), false), ((.cl 19), (.ty "ValueError"), false), ((.cl 20), (.ty "ValueError"), false), ((.cl 21), (.ty "ValueError"), false), ((.cl 22), (.ty "ValueError"), false), ((.cl 23), (.ty "ValueError"), false), ((.cl 24), (.ty "ValueError"), false), ((.cl 25), (.ty "ValueError"), true), ((.cl 26), (.ty "ValueError"), false), ((.cl 27), (.ty "ValueError"), false), ((.cl 1), (.ty "LookupError"), false), ((.cl 2), (.ty "LookupError"), false), ((.cl 3), (.ty "LookupError"), false), ((.cl 4), (.ty "LookupError"), false), ((.cl 5), (.ty "LookupError"), false), ((.cl 6), (.ty "LookupError"), false), ((.cl 7), (.ty "LookupError"), false), ((.cl 8), (.ty "LookupError"), false), ((.cl 9), (.ty "LookupError"), false), ((.cl 10), (.ty "LookupError"), false), ((.cl 11), (.ty "LookupError"), false), ((.cl 12), (.ty "LookupError"), false), ((.cl 13), (.ty "LookupError"), false), ((.cl 14), (.ty "LookupError"), false), ((.cl 15), (.ty "LookupError"), true), ((.cl 16), (.ty "LookupError"), true), ((.cl 17), (.ty "LookupError"), true), ((.cl 18), (.ty "LookupError"), true), ((.cl 19), (.ty "LookupError"), true), ((.cl 20), (.ty "LookupError"), true), ((.cl 21), (.ty "LookupError"), false), ((.cl 22), (.ty "LookupError"), false), ((.cl 23), (.ty "LookupError"), false), ((.cl 24), (.ty "LookupError"), false), ((.cl 25), (.ty "LookupError"), false), ((.cl 26), (.ty "LookupError"), true), ((.cl 27), (.ty "LookupError"), false), ((.cl 1), (.ty "ArithmeticError"), false), ((.cl 2), (.ty "ArithmeticError"), false), ((.cl 3), (.ty "ArithmeticError"), false), ((.cl 4), (.ty "ArithmeticError"), false), ((.cl 5), (.ty "ArithmeticError"), false), ((.cl 6), (.ty "ArithmeticError"), false), ((.cl 7), (.ty "ArithmeticError"), false), ((.cl 8), (.ty "ArithmeticError"), false), ((.cl 9), (.ty "ArithmeticError"), false), ((.cl 10), (.ty "ArithmeticError"), false), ((.cl 11), (.ty "ArithmeticError"), false), ((.cl 12), (.ty "ArithmeticError"), false), ((.cl 13), (.ty "ArithmeticError"), false), ((.cl 14), (.ty "ArithmeticError"), false), ((.cl 15), (.ty "ArithmeticError"), false), ((.cl 16), (.ty "ArithmeticError"), false), ((.cl 17), (.ty "ArithmeticError"), false), ((.cl 18), (.ty "ArithmeticError"), false), ((.cl 19), (.ty "ArithmeticError"), false), ((.cl 20), (.ty "ArithmeticError"), false), ((.cl 21), (.ty "ArithmeticError"), true), ((.cl 22), (.ty "ArithmeticError"), true), ((.cl 23), (.ty "ArithmeticError"), true), ((.cl 24), (.ty "ArithmeticError"), true), ((.cl 25), (.ty "ArithmeticError"), false), ((.cl 26), (.ty "ArithmeticError"), false), ((.cl 27), (.ty "ArithmeticError"), true), ((.cl 1), (.cl 4), false), ((.cl 2), (.cl 4), false), ((.cl 3), (.cl 4), false), ((.cl 4), (.cl 4), true), ((.cl 5), (.cl 4), false), ((.cl 6), (.cl 4), false), ((.cl 7), (.cl 4), false), ((.cl 8), (.cl 4), false), ((.cl 9), (.cl 4), false), ((.cl 10), (.cl 4), false), ((.cl 11), (.cl 4), false), ((.cl 12), (.cl 4), false), ((.cl 13), (.cl 4), false), ((.cl 14), (.cl 4), false), ((.cl 15), (.cl 4), false), ((.cl 16), (.cl 4), false), ((.cl 17), (.cl 4), false), ((.cl 18), (.cl 4), false), ((.cl 19), (.cl 4), false), ((.cl 20), (.cl 4), false), ((.cl 21), (.cl 4), false), ((.cl 22), (.cl 4), false), ((.cl 23), (.cl 4), false), ((.cl 24), (.cl 4), false), ((.cl 25), (.cl 4), false), ((.cl 26), (.cl 4), false), ((.cl 27), (.cl 4), false), ((.cl 1), (.cl 5), false), ((.cl 2), (.cl 5), false), ((.cl 3), (.cl 5), false), ((.cl 4), (.cl 5), false), ((.cl 5), (.cl 5), true), ((.cl 6), (.cl 5), false), ((.cl 7), (.cl 5), false), ((.cl 8), (.cl 5), false), ((.cl 9), (.cl 5), false), ((.cl 10), (.cl 5), false), ((.cl 11), (.cl 5), false), ((.cl 12), (.cl 5), false), ((.cl 13), (.cl 5), false), ((.cl 14), (.cl 5), false), ((.cl 15), (.cl 5), false), ((.cl 16), (.cl 5), false), ((.cl 17), (.cl 5), false), ((.cl 18), (.cl 5), false), ((.cl 19), (.cl 5), false), ((.cl 20), (.cl 5), false), ((.cl 21), (.cl 5), false), ((.cl 22), (.cl 5), false), ((.cl 23), (.cl 5), false), ((.cl 24), (.cl 5), false), ((.cl 25), (.cl 5), false), ((.cl 26), (.cl 5), false), ((.cl 27), (.cl 5), false), ((.cl 1), (.cl 6), false), ((.cl 2), (.cl 6), false), ((.cl 3), (.cl 6), false), ((.cl 4), (.cl 6), false), ((.cl 5), (.cl 6), false), ((.cl 6), (.cl 6), true), ((.cl 7), (.cl 6), false), ((.cl 8), (.cl 6), false), ((.cl 9), (.cl 6), false), ((.cl 10), (.cl 6), false), ((.cl 11), (.cl 6), false), ((.cl 12), (.cl 6), false), ((.cl 13), (.cl 6), false), ((.cl 14), (.cl 6), false), ((.cl 15), (.cl 6), false), ((.cl 16), (.cl 6), false), ((.cl 17), (.cl 6), false), ((.cl 18), (.cl 6), false), ((.cl 19), (.cl 6), false), ((.cl 20), (.cl 6), false), ((.cl 21), (.cl 6), false), ((.cl 22), (.cl 6), false), ((.cl 23), (.cl 6), false), ((.cl 24), (.cl 6), false), ((.cl 25), (.cl 6), false), ((.cl 26), (.cl 6), false), ((.cl 27), (.cl 6), false), ((.cl 1), (.cl 7), false), ((.cl 2), (.cl 7), false), ((.cl 3), (.cl 7), false), ((.cl 4), (.cl 7), false), ((.cl 5), (.cl 7), false), ((.cl 6), (.cl 7), false), ((.cl 7), (.cl 7), true), ((.cl 8), (.cl 7), false), ((.cl 9), (.cl 7), false), ((.cl 10), (.cl 7), false), ((.cl 11), (.cl 7), false), ((.cl 12), (.cl 7), false), ((.cl 13), (.cl 7), false), ((.cl 14), (.cl 7), false), ((.cl 15), (.cl 7), false), ((.cl 16), (.cl 7), false), ((.cl 17), (.cl 7), false), ((.cl 18), (.cl 7), false), ((.cl 19), (.cl 7), false), ((.cl 20), (.cl 7), false), ((.cl 21), (.cl 7), false), ((.cl 22), (.cl 7), false), ((.cl 23), (.cl 7), false), ((.cl 24), (.cl 7), false), ((.cl 25), (.cl 7), false), ((.cl 26), (.cl 7), false), ((.cl 27), (.cl 7), false), ((.cl 1), (.cl 8), false), ((.cl 2), (.cl 8), false), ((.cl 3), (.cl 8), false), ((.cl 4), (.cl 8), false), ((.cl 5), (.cl 8), false), ((.cl 6), (.cl 8), false), ((.cl 7), (.cl 8), false), ((.cl 8), (.cl 8), true), ((.cl 9), (.cl 8), false), ((.cl 10), (.cl 8), false), ((.cl 11), (.cl 8), false), ((.cl 12), (.cl 8), false), ((.cl 13), (.cl 8), false), ((.cl 14), (.cl 8), false), ((.cl 15), (.cl 8), false), ((.cl 16), (.cl 8), false), ((.cl 17), (.cl 8), false), ((.cl 18), (.cl 8), false), ((.cl 19), (.cl 8), false), ((.cl 20), (.cl 8), false), ((.cl 21), (.cl 8), false), ((.cl 22), (.cl 8), false), ((.cl 23), (.cl 8), false), ((.cl 24), (.cl 8), false), ((.cl 25), (.cl 8), false), ((.cl 26), (.cl 8), false), ((.cl 27), (.cl 8), false), ((.cl 1), (.cl 9), false), ((.cl 2), (.cl 9), false), ((.cl 3), (.cl 9), false), ((.cl 4), (.cl 9), false), ((.cl 5), (.cl 9), false), ((.cl 6), (.cl 9), false), ((.cl 7), (.cl 9), false), ((.cl 8), (.cl 9), false), ((.cl 9), (.cl 9), true), ((.cl 10), (.cl 9), false), ((.cl 11), (.cl 9), false), ((.cl 12), (.cl 9), false), ((.cl 13), (.cl 9), false), ((.cl 14), (.cl 9), false), ((.cl 15), (.cl 9), false), ((.cl 16), (.cl 9), false), ((.cl 17), (.cl 9), false), ((.cl 18), (.cl 9), false), ((.cl 19), (.cl 9), false), ((.cl 20), (.cl 9), false), ((.cl 21), (.cl 9), false), ((.cl 22), (.cl 9), false), ((.cl 23), (.cl 9), false), ((.cl 24), (.cl 9), false), ((.cl 25), (.cl 9), false), ((.cl 26), (.cl 9), false), ((.cl 27), (.cl 9), false), ((.cl 1), (.cl 10), false), ((.cl 2), (.cl 10), false), ((.cl 3), (.cl 10), false), ((.cl 4), (.cl 10), false), ((.cl 5), (.cl 10), false), ((.cl 6), (.cl 10), false), ((.cl 7), (.cl 10), false), ((.cl 8), (.cl 10), false), ((.cl 9), (.cl 10), false), ((.cl 10), (.cl 10), true), ((.cl 11), (.cl 10), false), ((.cl 12), (.cl 10), false), ((.cl 13), (.cl 10), false), ((.cl 14), (.cl 10), false), ((.cl 15), (.cl 10), false), ((.cl 16), (.cl 10), false), ((.cl 17), (.cl 10), false), ((.cl 18), (.cl 10), false), ((.cl 19), (.cl 10), false), ((.cl 20), (.cl 10), false), ((.cl 21), (.cl 10), false), ((.cl 22), (.cl 10), false), ((.cl 23), (.cl 10), false), ((.cl 24), (.cl 10), false), ((.cl 25), (.cl 10), false), ((.cl 26), (.cl 10), false), ((.cl 27), (.cl 10), false), ((.cl 1), (.cl 11), false), ((.cl 2), (.cl 11), false), ((.cl 3), (.cl 11), false), ((.cl 4), (.cl 11), false), ((.cl 5), (.cl 11), false), ((.cl 6), (.cl 11), false), ((.cl 7), (.cl 11), false), ((.cl 8), (.cl 11), false), ((.cl 9), (.cl 11), false), ((.cl 10), (.cl 11), false), ((.cl 11), (.cl 11), true), ((.cl 12), (.cl 11), false), ((.cl 13), (.cl 11), false), ((.cl 14), (.cl 11), false), ((.cl 15), (.cl 11), false), ((.cl 16), (.cl 11), false), ((.cl 17), (.cl 11), false), ((.cl 18), (.cl 11), false), ((.cl 19), (.cl 11), false), ((.cl 20), (.cl 11), false), ((.cl 21), (.cl 11), false), ((.cl 22), (.cl 11), false), ((.cl 23), (.cl 11), false), ((.cl 24), (.cl 11), false), ((.cl 25), (.cl 11), false), ((.cl 26), (.cl 11), false), ((.cl 27), (.cl 11), false), ((.cl 1), (.cl 12), false), ((.cl 2), (.cl 12), false), ((.cl 3), (.cl 12), false), ((.cl 4), (.cl 12), false), ((.cl 5), (.cl 12), false), ((.cl 6), (.cl 12), false), ((.cl 7), (.cl 12), false), ((.cl 8), (.cl 12), false), ((.cl 9), (.cl 12), false), ((.cl 10), (.cl 12), false), ((.cl 11), (.cl 12), false), ((.cl 12), (.cl 12), true), ((.cl 13), (.cl 12), false), ((.cl 14), (.cl 12), false), ((.cl 15), (.cl 12), false), ((.cl 16), (.cl 12), false), ((.cl 17), (.cl 12), false), ((.cl 18), (.cl 12), false), ((.cl 19), (.cl 12), false), ((.cl 20), (.cl 12), false), ((.cl 21), (.cl 12), false), ((.cl 22), (.cl 12), false), ((.cl 23), (.cl 12), false), ((.cl 24), (.cl 12), false), ((.cl 25), (.cl 12), false), ((.cl 26), (.cl 12), false), ((.cl 27), (.cl 12), false), ((.cl 1), (.cl 13), false), ((.cl 2), (.cl 13), false), ((.cl 3), (.cl 13), false), ((.cl 4), (.cl 13), false), ((.cl 5), (.cl 13), false), ((.cl 6), (.cl 13), false), ((.cl 7), (.cl 13), false), ((.cl 8), (.cl 13), false), ((.cl 9), (.cl 13), false), ((.cl 10), (.cl 13), false), ((.cl 11), (.cl 13), false), ((.cl 12), (.cl 13), false), ((.cl 13), (.cl 13), true), ((.cl 14), (.cl 13), false), ((.cl 15), (.cl 13), false), ((.cl 16), (.cl 13), false), ((.cl 17), (.cl 13), false), ((.cl 18), (.cl 13), false), ((.cl 19), (.cl 13), false), ((.cl 20), (.cl 13), false), ((.cl 21), (.cl 13), false), ((.cl 22), (.cl 13), false), ((.cl 23), (.cl 13), false), ((.cl 24), (.cl 13), false), ((.cl 25), (.cl 13), false), ((.cl 26), (.cl 13), false), ((.cl 27), (.cl 13), false), ((.cl 1), (.cl 14), false), ((.cl 2), (.cl 14), false), ((.cl 3), (.cl 14), false), ((.cl 4), (.cl 14), false), ((.cl 5), (.cl 14), false), ((.cl 6), (.cl 14), false), ((.cl 7), (.cl 14), false), ((.cl 8), (.cl 14), false), ((.cl 9), (.cl 14), false), ((.cl 10), (.cl 14), false), ((.cl 11), (.cl 14), false), ((.cl 12), (.cl 14), false), ((.cl 13), (.cl 14), false), ((.cl 14), (.cl 14), true), ((.cl 15), (.cl 14), false), ((.cl 16), (.cl 14), false), ((.cl 17), (.cl 14), false), ((.cl 18), (.cl 14), false), ((.cl 19), (.cl 14), false), ((.cl 20), (.cl 14), false), ((.cl 21), (.cl 14), false), ((.cl 22), (.cl 14), false), ((.cl 23), (.cl 14), false), ((.cl 24), (.cl 14), false), ((.cl 25), (.cl 14), false), ((.cl 26), (.cl 14), false), ((.cl 27), (.cl 14), false), ((.cl 1), (.cl 15), false), ((.cl 2), (.cl 15), false), ((.cl 3), (.cl 15), false), ((.cl 4), (.cl 15), false), ((.cl 5), (.cl 15), false), ((.cl 6), (.cl 15), false), ((.cl 7), (.cl 15), false), ((.cl 8), (.cl 15), false), ((.cl 9), (.cl 15), false), ((.cl 10), (.cl 15), false), ((.cl 11), (.cl 15), false), ((.cl 12), (.cl 15), false), ((.cl 13), (.cl 15), false), ((.cl 14), (.cl 15), false), ((.cl 15), (.cl 15), true), ((.cl 16), (.cl 15), false), ((.cl 17), (.cl 15), false), ((.cl 18), (.cl 15), false), ((.cl 19), (.cl 15), false), ((.cl 20), (.cl 15), false), ((.cl 21), (.cl 15), false), ((.cl 22), (.cl 15), false), ((.cl 23), (.cl 15), false), ((.cl 24), (.cl 15), false), ((.cl 25), (.cl 15), false), ((.cl 26), (.cl 15), false), ((.cl 27), (.cl 15), false), ((.cl 1), (.cl 16), false), ((.cl 2), (.cl 16), false), ((.cl 3), (.cl 16), false), ((.cl 4), (.cl 16), false), ((.cl 5), (.cl 16), false), ((.cl 6), (.cl 16), false), ((.cl 7), (.cl 16), false), ((.cl 8), (.cl 16), false), ((.cl 9), (.cl 16), false), ((.cl 10), (.cl 16), false), ((.cl 11), (.cl 16), false), ((.cl 12), (.cl 16), false), ((.cl 13), (.cl 16), false), ((.cl 14), (.cl 16), false), ((.cl 15), (.cl 16), false), ((.cl 16), (.cl 16), true), ((.cl 17), (.cl 16), false), ((.cl 18), (.cl 16), false), ((.cl 19), (.cl 16), false), ((.cl 20), (.cl 16), false), ((.cl 21), (.cl 16), false), ((.cl 22), (.cl 16), false), ((.cl 23), (.cl 16), false), ((.cl 24), (.cl 16), false), ((.cl 25), (.cl 16), false), ((.cl 26), (.cl 16), false), ((.cl 27), (.cl 16), false), ((.cl 1), (.cl 17), false), ((.cl 2), (.cl 17), false), ((.cl 3), (.cl 17), false), ((.cl 4), (.cl 17), false), ((.cl 5), (.cl 17), false), ((.cl 6), (.cl 17), false), ((.cl 7), (.cl 17), false), ((.cl 8), (.cl 17), false), ((.cl 9), (.cl 17), false), ((.cl 10), (.cl 17), false), ((.cl 11), (.cl 17), false), ((.cl 12), (.cl 17), false), ((.cl 13), (.cl 17), false), ((.cl 14), (.cl 17), false), ((.cl 15), (.cl 17), false), ((.cl 16), (.cl 17), false), ((.cl 17), (.cl 17), true), ((.cl 18), (.cl 17), false), ((.cl 19), (.cl 17), false), ((.cl 20), (.cl 17), false), ((.cl 21), (.cl 17), false), ((.cl 22), (.cl 17), false), ((.cl 23), (.cl 17), false), ((.cl 24), (.cl 17), false), ((.cl 25), (.cl 17), false), ((.cl 26), (.cl 17), false), ((.cl 27), (.cl 17), false), ((.cl 1), (.cl 18), false), ((.cl 2), (.cl 18), false), ((.cl 3), (.cl 18), false), ((.cl 4), (.cl 18), false), ((.cl 5), (.cl 18), false), ((.cl 6), (.cl 18), false), ((.cl 7), (.cl 18), false), ((.cl 8), (.cl 18), false), ((.cl 9), (.cl 18), false), ((.cl 10), (.cl 18), false), ((.cl 11), (.cl 18), false), ((.cl 12), (.cl 18), false), ((.cl 13), (.cl 18), false), ((.cl 14), (.cl 18), false), ((.cl 15), (.cl 18), false), ((.cl 16), (.cl 18), false), ((.cl 17), (.cl 18), false), ((.cl 18), (.cl 18), true), ((.cl 19), (.cl 18), false), ((.cl 20), (.cl 18), false), ((.cl 21), (.cl 18), false), ((.cl 22), (.cl 18), false), ((.cl 23), (.cl 18), false), ((.cl 24), (.cl 18), false), ((.cl 25), (.cl 18), false), ((.cl 26), (.cl 18), false), ((.cl 27), (.cl 18), false), ((.cl 1), (.cl 19), false), ((.cl 2), (.cl 19), false), ((.cl 3), (.cl 19), false), ((.cl 4), (.cl 19), false), ((.cl 5), (.cl 19), false), ((.cl 6), (.cl 19), false), ((.cl 7), (.cl 19), false), ((.cl 8), (.cl 19), false), ((.cl 9), (.cl 19), false), ((.cl 10), (.cl 19), false), ((.cl 11), (.cl 19), false), ((.cl 12), (.cl 19), false), ((.cl 13), (.cl 19), false), ((.cl 14), (.cl 19), false), ((.cl 15), (.cl 19), false), ((.cl 16), (.cl 19), false), ((.cl 17), (.cl 19), false), ((.cl 18), (.cl 19), false), ((.cl 19), (.cl 19), true), ((.cl 20), (.cl 19), false), ((.cl 21), (.cl 19), false), ((.cl 22), (.cl 19), false), ((.cl 23), (.cl 19), false), ((.cl 24), (.cl 19), false), ((.cl 25), (.cl 19), false), ((.cl 26), (.cl 19), false), ((.cl 27), (.cl 19), false), ((.cl 1), (.cl 20), false), ((.cl 2), (.cl 20), false), ((.cl 3), (.cl 20), false), ((.cl 4), (.cl 20), false), ((.cl 5), (.cl 20), false), ((.cl 6), (.cl 20), false), ((.cl 7), (.cl 20), false), ((.cl 8), (.cl 20), false), ((.cl 9), (.cl 20), false), ((.cl 10), (.cl 20), false), ((.cl 11), (.cl 20), false), ((.cl 12), (.cl 20), false), ((.cl 13), (.cl 20), false), ((.cl 14), (.cl 20), false), ((.cl 15), (.cl 20), false), ((.cl 16), (.cl 20), false), ((.cl 17), (.cl 20), false), ((.cl 18), (.cl 20), false), ((.cl 19), (.cl 20), false), ((.cl 20), (.cl 20), true), ((.cl 21), (.cl 20), false), ((.cl 22), (.cl 20), false), ((.cl 23), (.cl 20), false), ((.cl 24), (.cl 20), false), ((.cl 25), (.cl 20), false), ((.cl 26), (.cl 20), false), ((.cl 27), (.cl 20), false), ((.cl 1), (.cl 21), false), ((.cl 2), (.cl 21), false), ((.cl 3), (.cl 21), false), ((.cl 4), (.cl 21), false), ((.cl 5), (.cl 21), false), ((.cl 6), (.cl 21), false), ((.cl 7), (.cl 21), false), ((.cl 8), (.cl 21), false), ((.cl 9), (.cl 21), false), ((.cl 10), (.cl 21), false), ((.cl 11), (.cl 21), false), ((.cl 12), (.cl 21), false), ((.cl 13), (.cl 21), false), ((.cl 14), (.cl 21), false), ((.cl 15), (.cl 21), false), ((.cl 16), (.cl 21), false), ((.cl 17), (.cl 21), false), ((.cl 18), (.cl 21), false), ((.cl 19), (.cl 21), false), ((.cl 20), (.cl 21), false), ((.cl 21), (.cl 21), true), ((.cl 22), (.cl 21), false), ((.cl 23), (.cl 21), false), ((.cl 24), (.cl 21), false), ((.cl 25), (.cl 21), false), ((.cl 26), (.cl 21), false), ((.cl 27), (.cl 21), false), ((.cl 1), (.cl 22), false), ((.cl 2), (.cl 22), false), ((.cl 3), (.cl 22), false), ((.cl 4), (.cl 22), false), ((.cl 5), (.cl 22), false), ((.cl 6), (.cl 22), false), ((.cl 7), (.cl 22), false), ((.cl 8), (.cl 22), false), ((.cl 9), (.cl 22), false), ((.cl 10), (.cl 22), false), ((.cl 11), (.cl 22), false), ((.cl 12), (.cl 22), false), ((.cl 13), (.cl 22), false), ((.cl 14), (.cl 22), false), ((.cl 15), (.cl 22), false), ((.cl 16), (.cl 22), false), ((.cl 17), (.cl 22), false), ((.cl 18), (.cl 22), false), ((.cl 19), (.cl 22), false), ((.cl 20), (.cl 22), false), ((.cl 21), (.cl 22), false), ((.cl 22), (.cl 22), true), ((.cl 23), (.cl 22), false), ((.cl 24), (.cl 22), false), ((.cl 25), (.cl 22), false), ((.cl 26), (.cl 22), false), ((.cl 27), (.cl 22), false), ((.cl 1), (.cl 23), false), ((.cl 2), (.cl 23), false), ((.cl 3), (.cl 23), false), ((.cl 4), (.cl 23), false), ((.cl 5), (.cl 23), false), ((.cl 6), (.cl 23), false), ((.cl 7), (.cl 23), false), ((.cl 8), (.cl 23), false), ((.cl 9), (.cl 23), false), ((.cl 10), (.cl 23), false), ((.cl 11), (.cl 23), false), ((.cl 12), (.cl 23), false), ((.cl 13), (.cl 23), false), ((.cl 14), (.cl 23), false), ((.cl 15), (.cl 23), false), ((.cl 16), (.cl 23), false), ((.cl 17), (.cl 23), false), ((.cl 18), (.cl 23), false), ((.cl 19), (.cl 23), false), ((.cl 20), (.cl 23), false), ((.cl 21), (.cl 23), false), ((.cl 22), (.cl 23), false), ((.cl 23), (.cl 23), true), ((.cl 24), (.cl 23), false), ((.cl 25), (.cl 23), false), ((.cl 26), (.cl 23), false), ((.cl 27), (.cl 23), false), ((.cl 1), (.cl 24), false), ((.cl 2), (.cl 24), false), ((.cl 3), (.cl 24), false), ((.cl 4), (.cl 24), false), ((.cl 5), (.cl 24), false), ((.cl 6), (.cl 24), false), ((.cl 7), (.cl 24), false), ((.cl 8), (.cl 24), false), ((.cl 9), (.cl 24), false), ((.cl 10), (.cl 24), false), ((.cl 11), (.cl 24), false), ((.cl 12), (.cl 24), false), ((.cl 13), (.cl 24), false), ((.cl 14), (.cl 24), false), ((.cl 15), (.cl 24), false), ((.cl 16), (.cl 24), false), ((.cl 17), (.cl 24), false), ((.cl 18), (.cl 24), false), ((.cl 19), (.cl 24), false), ((.cl 20), (.cl 24), false), ((.cl 21), (.cl 24), false), ((.cl 22), (.cl 24), false), ((.cl 23), (.cl 24), false), ((.cl 24), (.cl 24), true), ((.cl 25), (.cl 24), false), ((.cl 26), (.cl 24), false), ((.cl 27), (.cl 24), false)]
def TF : List (He.Defn × Str) := [(("_law_made_right", none), "_law_made_right" ++ ".<locals>." ++ "<lambda>"), (("law", none), "law" ++ ".<locals>." ++ "<lambda>"), (("_law_asked_right", none), "_law_asked_right" ++ ".<locals>." ++ "<lambda>"), (("_law_several_right", none), "_law_several_right" ++ ".<locals>." ++ "<lambda>")]
def FAS : List Chk := [ckCls "Progression",
  ckNo "Progression" "first",
  ckNo "Progression" "step",
  ckGlo "Progression",
  ckFree "isinstance",
  ckFree "bool",
  ckFree "int",
  ckGlo "is_integer",
  ckXb "InvalidNumber" 0,
  ckXno "InvalidNumber" "number",
  ckXmk "InvalidNumber",
  ckXrs "InvalidNumber",
  ckGlo "InvalidNumber",
  ckGlo "check_number",
  ckXb "InvalidStep" 0,
  ckXno "InvalidStep" "step",
  ckXmk "InvalidStep",
  ckXrs "InvalidStep",
  ckGlo "InvalidStep",
  ckGlo "is_between",
  ckMk "Progression",
  ckGlo "gcd",
  ckGlo "inverse",
  ckGlo "meet",
  ckGlo "made",
  ckGlo "_law_whole",
  ckFree "repr",
  ckGlo "InvalidProgression",
  ckGlo "InvalidArity",
  ckGlo "InvalidName",
  ckGlo "InvalidProgressions",
  ckGlo "InvalidTree",
  ckGlo "InvalidText",
  ckGlo "InvalidTargets",
  ckGlo "InvalidSightings",
  ckGlo "InvalidSetting",
  ckGlo "InvalidTable",
  ckGlo "UnknownName",
  ckGlo "InvalidDeeds",
  ckGlo "InvalidDeed",
  ckGlo "Unexplained",
  ckGlo "NotFull",
  ckGlo "NameTaken",
  ckGlo "TooManyNames",
  ckGlo "NothingToUndo",
  ckGlo "LastServer",
  ckGlo "TooManyRequests",
  ckGlo "TooLong",
  ckGlo "TooDeep",
  ckGlo "SizeError",
  ckGlo "SearchError",
  ckGlo "RobinError",
  ckFree "ArithmeticError",
  ckFree "LookupError",
  ckFree "ValueError",
  ckGlo "_law_kind",
  ckXi "InvalidNumber",
  ckXi "NotFull",
  ckXno "NotFull" "number",
  ckXi "InvalidStep",
  ckXi "TooLong",
  ckXno "TooLong" "step",
  ckXi "InvalidProgression",
  ckXno "InvalidProgression" "value",
  ckXi "InvalidTree",
  ckXno "InvalidTree" "value",
  ckXi "InvalidProgressions",
  ckXno "InvalidProgressions" "index",
  ckXi "InvalidTargets",
  ckXno "InvalidTargets" "index",
  ckXi "InvalidTable",
  ckXno "InvalidTable" "index",
  ckXi "InvalidSetting",
  ckXno "InvalidSetting" "index",
  ckXi "InvalidSightings",
  ckXno "InvalidSightings" "index",
  ckXi "InvalidDeeds",
  ckXno "InvalidDeeds" "index",
  (ckExm (CN ++ XN) XC ["RobinError", "SearchError", "SizeError"]),
  ckTab TF,
  ckGlo "_law_caught",
  ckGlo "_law_made_right",
  ckFree "len",
  ckFree "min",
  ckFree "max",
  ckFree "range",
  ckFree "divmod",
  ckGlo "_law_draw",
  ckGlo "_law_pair",
  ckGlo "_law_asked_right",
  ckFree "all",
  ckFree "str",
  ckFree "enumerate",
  ckXb "InvalidProgressions" 0,
  ckXmk "InvalidProgressions",
  ckXrs "InvalidProgressions",
  ckGlo "check_progressions",
  ckGlo "common",
  ckGlo "apart",
  ckXb "InvalidProgression" 0,
  ckXmk "InvalidProgression",
  ckXrs "InvalidProgression",
  ckGlo "_law_several_right",
  ckFree "abs",
  ckGlo "_law_cell",
  ckGlo "_law_pool",
  ckGlo "_law_right",
  ckIs (CN ++ XN) TAB,
  ckNd CN,
  ckXi "InvalidName",
  ckXi "InvalidArity",
  ckXi "InvalidText",
  ckXi "InvalidDeed",
  ckXi "UnknownName",
  ckXi "NameTaken",
  ckXi "Unexplained",
  ckXi "LastServer",
  ckXi "NothingToUndo",
  ckXi "TooManyNames",
  ckXi "TooDeep",
  ckXi "TooManyRequests",
  ckXi "RobinError",
  ckXi "SearchError",
  ckXi "SizeError",
  ckDu "Progression" "__eq__",
  ckDu "Progression" "__str__",
  ckDu "Progression" "__repr__",
  ckDu "Progression" "__contains__",
  ckDu "Progression" "__getitem__",
  ckFn "Progression" "__getitem__",
  ckDq "Progression",
  ckDu "Progression" "__and__",
  ckSelf "Progression",
  ckNe "Progression",
  ckFirstX CN XN 0,
  ckMeth "Progression" "below",
  ckMeth "Progression" "after",
  ckMeth "Progression" "inside",
  ckFm "Progression",
  ckGlo "law"]
def CHK : Chk := fun K => FAS.all fun f => f K
abbrev RR : PySem.W.OpenRow := PySem.W.OpenLaw.row PySem.Challenge.rw_robintrees_k07_progressions_refused
def TFN : List He.Defn := [("_law_made_right", none), ("law", none), ("_law_asked_right", none), ("_law_several_right", none)]
abbrev hk : PySem.W.Hook := hookRT 5 CHK DEFS TFN
def ob (s : PySem.W.SharedT) : He.AlX := He.obsX 5 [] DEFS [] TFN CHK (HandSHeadRun.getT s)
theorem ob_eq (s : PySem.W.SharedT) : ob s = hk.obs s.abs := He.obsX_eq (HandSHeadRun.getT_eq s)
theorem head (w : World) : HandSHeadRun.RunEq RR (PySem.W.view RR.prog [52]) hk ob 20000 (("RobinError" : Str) :: ("InvalidNumber" : Str) :: ("InvalidStep" : Str) :: ("InvalidProgression" : Str) :: ("InvalidProgressions" : Str) :: ("InvalidName" : Str) :: ("InvalidArity" : Str) :: ("InvalidTargets" : Str) :: ("InvalidText" : Str) :: ("InvalidTree" : Str) :: ("InvalidTable" : Str) :: ("InvalidSetting" : Str) :: ("InvalidSightings" : Str) :: ("InvalidDeed" : Str) :: ("InvalidDeeds" : Str) :: ("SearchError" : Str) :: ("UnknownName" : Str) :: ("NameTaken" : Str) :: ("NotFull" : Str) :: ("Unexplained" : Str) :: ("LastServer" : Str) :: ("NothingToUndo" : Str) :: ("SizeError" : Str) :: ("TooManyNames" : Str) :: ("TooDeep" : Str) :: ("TooLong" : Str) :: ("TooManyRequests" : Str) :: ("is_integer" : Str) :: ("is_between" : Str) :: ("check_number" : Str) :: ("gcd" : Str) :: ("inverse" : Str) :: ("meet" : Str) :: ("Progression" : Str) :: ("made" : Str) :: ("check_progressions" : Str) :: ("common" : Str) :: ("apart" : Str) :: ("_law_cell" : Str) :: ("_law_pool" : Str) :: ("_law_draw" : Str) :: ("_law_pair" : Str) :: ("_law_kind" : Str) :: ("_law_whole" : Str) :: ("_law_caught" : Str) :: ("_law_made_right" : Str) :: ("_law_asked_right" : Str) :: ("_law_several_right" : Str) :: ("_law_right" : Str) :: ([] : List Str)) w := by
  intro os
  kernel_rfl
end K07
set_option Elab.async false
set_option linter.all false
set_option maxRecDepth 100000
set_option maxHeartbeats 4000000
/-! own exception classes as values: made by position or by name, over any of the built-in bases; fields set. -/
namespace PySem
namespace HandSPX
open Builtin Builtin.ObjectAttr

section
variable {M : Model} {A : Around} {E : Value → Shared → Prop} {h : Heap} {g : Array GenState} {d : Drawn} {t : Nat} {os : OsState}
variable {nm q : Str} {C N : Addr} {bs bm bmB : List Value} {hdct : Bool} {sn : List Str} {sub : List Value} {ab : Bool} {col : Option Bool} {dd : Option Addr} {k0 k1 k2 k3 k5 : Option Value} {B newId initId : String}

theorem check_new_kw (F : ExcBaseFacts B newId initId bmB) (hT : ∀ X : String, bm.contains (.type X) = bmB.contains (.type X)) {rest : List Value} {kw : List (Str × Value)} {Q : Unit → Shared → Prop}
    (hC : h.get? C = some (excClassObj nm q C N bs bm hdct sn sub ab col dd k0 k1 k2 k3 k5 newId)) (hq : Q () ⟨h, g, d, t, os⟩) : wpAny M A (checkBuiltinCall newId ⟨.ref C :: rest, kw⟩) Q E ⟨h, g, d, t, os⟩ := by
  have hcont : (Value.ref C :: bm).contains (.type B) = true := by rw [List.contains_cons, hT, F.hasB, Bool.or_true]
  have hstar := F.noStar
  simp only [checkBuiltinCall, F.newKind, F.newSplit, F.newRow]
  repeat (first | refine wpAny_loadPart_at hC ?_ | (refine wpAny_isSubtype_exc hC ?_; rw [hcont]) | refine wpAny_staticBase_exc hC ?_ | refine wpAny_madeBy_exc hC ?_ | simp only [bne_self_eq_false, Bool.false_eq_true, if_false] | wp_step)
  exact hq
end

section
variable {prog : Program} {w : World} {A : Around} {E : Value → Shared → Prop} {R : Result → Shared → Prop} {h : Heap} {g : Array GenState} {d : Drawn} {t : Nat} {os : OsState}
variable {nm q : Str} {C N : Addr} {bs bm bmB : List Value} {hdct : Bool} {sn : List Str} {sub : List Value} {ab : Bool} {col : Option Bool} {dd : Option Addr} {k0 k1 k2 k3 k5 : Option Value} {B newId initId : String}

theorem new_kw (F : ExcBaseFacts B newId initId bmB) (hT : ∀ X : String, bm.contains (.type X) = bmB.contains (.type X)) {rest : List Value} {kw : List (Str × Value)}
    (hC : h.get? C = some (excClassObj nm q C N bs bm hdct sn sub ab col dd k0 k1 k2 k3 k5 newId))
    (hq : R (.ok (.ret (.ref (h.objs.size + 1)))) ⟨(h.push { cls := .type "tuple", data := .seq rest.toArray }).push
      { cls := .ref C, data := .fields #[.ref h.objs.size, .none, .none, .none, .bool false, .none] }, g, d, t, os⟩) (hrest : rest.length ≤ sizeLine) :
    codeAny (model prog w) A (.builtin newId ⟨.ref C :: rest, kw⟩) R ⟨h, g, d, t, os⟩ := by
  have hends := F.ends
  have hcB : (Value.ref C :: bm).contains (.type B) = true := by rw [List.contains_cons, hT, F.hasB, Bool.or_true]
  have hcA : (Value.ref C :: bm).contains (.type "AttributeError") = false := by rw [List.contains_cons, hT, F.noAttr]; rfl
  have hcN : (Value.ref C :: bm).contains (.type "NameError") = false := by rw [List.contains_cons, hT, F.noName]; rfl
  refine codeAny_builtinAt F.entry ?_
  unfold Builtin.«BaseException.__new__»
  refine wpAt_bind ?_
  show wpAt _ _ _ (stack >>= _) _ _ _
  refine wpAt_bind (wpAt_stack fun p below => wpAt_of_wpAny ?_)
  wp_walk
  refine wpAt_of_wpAny ?_
  rw [F.owner]
  repeat (first | with_reducible refine wpAny_madeHere_exc F.canon hC ?_ | with_reducible refine wpAny_loadPart_at hC ?_ | (with_reducible refine wpAny_isSubtype_exc hC ?_; first | rw [hcB] | rw [hcA] | rw [hcN]) | wp_step)
  show R _ _
  rw [Heap.size_push]
  exact hq

theorem type_call_kw (F : ExcBaseFacts B newId initId bmB) (hT : ∀ X : String, bm.contains (.type X) = bmB.contains (.type X)) {rest : List Value} {kw : List (Str × Value)} {fI : Addr} {Q : Fin → Shared → Prop}
    (hC : h.get? C = some (excClassObj nm q C N bs bm hdct sn sub ab col dd k0 k1 k2 k3 k5 newId))
    (hi : W.Looks (model prog w) h (typeLookup (.ref C) "__init__") (some (.ref fI))) (hb : ∀ self, W.Looks (model prog w) h (bindSpecial (.ref fI) self) (.ref fI, [self])) (hrest : rest.length ≤ sizeLine)
    (hq : codeAny (model prog w) A (.call (.ref fI) ⟨.ref (h.objs.size + 1) :: rest, kw⟩)
      (fun r s' => match r with | .ok (.ret v) => v = .none ∧ Q (.done (.ret (.ref (h.objs.size + 1)))) s' | .ok _ => False | .error e => E e s')
      ⟨(h.push (W.kdv_tup rest)).push (excO C h.objs.size), g, d, t, os⟩) :
    wpAny (model prog w) A (Builtin.«type.__call__» ⟨.ref C :: rest, kw⟩) Q E ⟨h, g, d, t, os⟩ := by
  repeat (first | with_reducible refine wpAny_loadPart_at hC ?_ | with_reducible refine wpAny_madeBy_exc hC ?_ | wp_step)
  refine codeAny_call_builtin_code (Code.quiet_builtin _ F.quiet) (check_new_kw F hT hC ?_)
  refine new_kw F hT hC ?_ hrest
  show wpAny _ _ _ _ _ _
  have k : ∀ b o, h.get? b = some o → ((h.push (W.kdv_tup rest)).push (excO C h.objs.size)).get? b = some o := fun b o e => Heap.get?_push_of_some _ (Heap.get?_push_of_some _ e)
  have hC₁ := k _ _ hC
  have hget : ((h.push (W.kdv_tup rest)).push (excO C h.objs.size)).get? (h.objs.size + 1) = some (excO C h.objs.size) := by heap_get
  have hcC : (Value.ref C :: bm).contains (.ref C) = true := by simp
  have i1 := hi.keeps k
  have b1 := (hb (.ref (h.objs.size + 1))).keeps k
  unfold isInstance
  repeat (first | with_reducible refine wpAny_loadPart_at hget ?_ | (with_reducible refine wpAny_isSubtype_exc hC₁ ?_; rw [hcC]) | wp_step)
  show wpAny _ _ (typeLookup (.ref C) _) _ _ _
  refine i1.at ?_
  refine wpAny_holding (wpAny_bind (b1.at ?_))
  refine wpAny_bind (wpAny_call (codeAny_mono hq fun r s' z => ?_))
  rcases r with e | (v | _ | _ | _) <;> first | exact z | exact z.elim | skip
  obtain ⟨rfl, z⟩ := z
  first
    | exact wpAny_pure (wpAny_pure z)
    | (wp_walk; exact z)

theorem call_kw (F : ExcBaseFacts B newId initId bmB) (hT : ∀ X : String, bm.contains (.type X) = bmB.contains (.type X)) {rest : List Value} {kw : List (Str × Value)} {fI : Addr}
    (hC : h.get? C = some (excClassObj nm q C N bs bm hdct sn sub ab col dd k0 k1 k2 k3 k5 newId)) (typ : W.Looks (model prog w) h (isInstance (.ref C) (.type "type")) true)
    (hi : W.Looks (model prog w) h (typeLookup (.ref C) "__init__") (some (.ref fI))) (hb : ∀ self, W.Looks (model prog w) h (bindSpecial (.ref fI) self) (.ref fI, [self])) (hrest : rest.length ≤ sizeLine)
    (hq : codeAny (model prog w) (A.under (.builtin "type.__call__" ⟨.ref C :: rest, kw⟩)) (.call (.ref fI) ⟨.ref (h.objs.size + 1) :: rest, kw⟩) (W.InitBack (h.objs.size + 1) R)
      ⟨(h.push (W.kdv_tup rest)).push (excO C h.objs.size), g, d, t, os⟩) :
    codeAny (model prog w) A (.call (.ref C) ⟨rest, kw⟩) R ⟨h, g, d, t, os⟩ := by
  have f1 := tc_lookup
  have f2 := tc_bind (.ref C)
  have hTy : (⟨h, g, d, t, os⟩ : Shared).TypeIs (.ref C) "type" := ⟨_, hC, rfl⟩
  refine codeAny_of_tree ?_
  show wpAny _ _ (callAny (.ref C) _) _ _ _
  repeat (any_goals (first | assumption | with_reducible refine wpAny_loadPart_at hC ?_ | wp_step))
  refine ⟨rfl, ?_⟩
  refine codeAny_call_builtin_at (Code.quiet_builtin _ (by decide +kernel)) entry_typeCall (W.check_slot tc_kind tc_split typ (W.tc_args _ _ _) (type_call_kw F hT hC hi hb hrest ?_))
  refine codeAny_mono hq fun r s' z => ?_
  rcases r with e | (v | _ | _ | _) <;> exact z
end
open PySem.W in
/-- what is wanted of a built-in base -/
structure TlF (B newId initId : String) (tl : List Value) : Prop where
  F : ExcBaseFacts B newId initId tl
  SF : StoreFacts B tl "object.__setattr__" "object"
theorem tl_ve : TlF "ValueError" "ValueError.__new__" "ValueError.__init__" [.type "ValueError", .type "Exception", .type "BaseException", .type "object"] := ⟨F.excBase_ValueError, F.store_ValueError⟩
theorem tl_le : TlF "LookupError" "LookupError.__new__" "LookupError.__init__" [.type "LookupError", .type "Exception", .type "BaseException", .type "object"] := ⟨F.excBase_LookupError, F.store_LookupError⟩
theorem tl_ae : TlF "ArithmeticError" "ArithmeticError.__new__" "ArithmeticError.__init__" [.type "ArithmeticError", .type "Exception", .type "BaseException", .type "object"] := ⟨F.excBase_ArithmeticError, F.store_ArithmeticError⟩
/-- what the written part says of the class -/
structure OexG (K : W.Frag) (C : Addr) (newId : String) (tl : List Value) : Prop where
  cls : ∃ nm q N bs bm sn sub ab col dd k0 k1 k2 k3 k5, K.lookup C = some (excClassObj nm q C N bs bm true sn sub ab col dd k0 k1 k2 k3 k5 newId) ∧ W.excTail tl bm = true
  sa : W.findIn K (.ref C) "__setattr__" = some (some (.builtin "object.__setattr__"))
  typ : W.instIn K (.ref C) (.type "type") = some true
theorem oexB_ok {K : W.Frag} {C : Addr} {newId : String} {tl : List Value} (h : oexB K C newId tl = true) : OexG K C newId tl := by
  simp only [oexB, Bool.and_eq_true, decide_eq_true_eq] at h
  obtain ⟨h1, hd, h2, h3⟩ := h
  refine ⟨?_, h2, h3⟩
  unfold W.excInitIn at h1
  split at h1
  case h_2 => cases h1
  case h_1 dd cd sl ho =>
    split at h1
    case h_2 => cases h1
    case h_1 a b c d e f g hm hs =>
      simp only [Bool.and_eq_true, beq_iff_eq, Bool.not_eq_true'] at h1
      have hd : cd.hasDict = true := by
        obtain ⟨cd', hc, hh⟩ := W.any_some hd
        rw [W.clsIn, ho] at hc
        cases hc
        exact hh
      cases cd
      cases sl
      simp_all
      exact ⟨_, _, _, _, _, ⟨rfl, rfl, rfl, rfl, rfl⟩, h1.2⟩
section
variable {prog : Program} {w : World} {A : Around} {R : Result → Shared → Prop} {s : Shared} {B newId initId : String} {tl : List Value}
/-- the first field of an exception that is being made -/
theorem exc_osaT {K : W.Frag} {name : Str} {tk : Tok} {v : Value} {x C t1 : Addr} (T : TlF B newId initId tl) (O : OexG K C newId tl)
    (X : K.In s.heap) (hx : s.heap.get? x = some (excO C t1)) (ha : W.findIn K (.ref C) name = some none)
    (hq : ∀ h' tk' dx, (∀ b o, b ≠ x → s.heap.get? b = some o → h'.get? b = some o) → s.heap.objs.size ≤ dx → dx ≠ x → h'.get? x = some { excO C t1 with dict := some dx } →
      h'.Ns1 dx (fun y => if y = name then some v else none) → R (.ok (.ret .none)) { s with heap := h', toks := tk' }) :
    codeAny (model prog w) A (.call (.builtin "object.__setattr__") ⟨[.ref x, .str name tk, v], []⟩) R s := by
  obtain ⟨nm, q, N, bs, bm, sn, sub, ab, col, dd, k0, k1, k2, k3, k5, hC, hbm⟩ := O.cls
  have hc : W.clsIn K C = some { name := nm, bases := bs, mro := .ref C :: bm, ns := N, qualname := q, hasDict := true, slotNames := sn, subclasses := sub, abstract := ab, collection := col, hasDel := false } := by
    rw [W.clsIn, hC]
  refine W.osa_openX (bmB := tl) (r := none) (od := none) T.SF X ⟨hx, rfl, rfl, trivial⟩ ?_ ?_ fun b => ?_
  · rw [W.excOver, hc]
    simp [hbm]
  · rw [W.takerIn, ha]
    rfl
  obtain ⟨hp, g, d, t, os⟩ := s
  have hxs : x ≠ hp.objs.size := Nat.ne_of_lt (Heap.lt_size hx)
  have L := W.looks_clsIn (M := model prog w) X hc
  show wpAny _ _ (storeInOwnDict _ _ _ _ _ _) _ _ _
  unfold storeInOwnDict ownDictForStores
  repeat (first | with_reducible refine store_in_new ?_ ?_ | with_reducible refine wpAny_loadPart_at hx ?_ | with_reducible refine L.at ?_ | wp_step)
  · exact ⟨_, #[], _, (Heap.get?_update_ne _ _ _ _ hxs.symm).trans (Heap.get?_push_at rfl rfl), rfl, fun e he => absurd he (by simp), fun _ => rfl⟩
  intro h' tk' hn' sb
  refine hq h' tk' hp.objs.size (fun b o hb ho => (sb.2 b (Nat.ne_of_lt (Heap.lt_size ho))).trans ?_) (Nat.le_refl _) hxs.symm ?_ hn'
  · rw [Heap.get?_update_ne _ _ _ _ hb]
    exact Heap.get?_push_of_some _ ho
  · rw [sb.2 x hxs, Heap.get?_update_self _ (Heap.get?_push_of_some _ hx) rfl]
end
end HandSPX
end PySem
set_option Elab.async false
set_option linter.all false
set_option maxRecDepth 100000
set_option maxHeartbeats 4000000
/-! RT, part a: values as trees, a heap of cells, how they lie in HandS's abstract heap. -/
namespace RT
open PySem PySem.Spec L2
open PyProof.Rows hiding St

/-- a value as a tree; ref l: the mutable cell l -/
inductive T where
  | non | bl (b : Bool) | int (i : Int) | str (s : Str)
  | tup (xs : List T) | lst (xs : List T)
  | ref (l : Nat)
  | obj (c : Nat) (fs : List (Nat × T))
  | fn (k : Nat)
  | emp
  | ty (n : String)
  | cl (c : Nat)
  | exo (c : Nat) (fs : List (Nat × T))
  /-- the exception that is handled; a lambda with what it captured -/
  | xh (c : Nat) (fs : List (Nat × T))
  | clo (cs : List (Nat × T))
  /-- slice(i, j, None) -/
  | slc (i j : Int)
/-- a mutable cell -/
inductive Cell where
  | lst (xs : List T)
  | ins (c : Nat) (fs : List (Nat × T))
  | exn (c : Nat) (fs : List (Nat × T))
  | dct (kvs : List (L2.Key × T))
/-- the heap of cells; none: gone (frozen) -/
abbrev Hm := List (Option Cell)
/-- how a run ends -/
inductive R (A : Type) where
  | ok (a : A) (h : Hm)
  | exc (e : T) (h : Hm)
  | bad
def R.bind {A B : Type} : R A → (A → Hm → R B) → R B
  | .ok a h, f => f a h
  | .exc e h, _ => .exc e h
  | .bad, _ => .bad

/-- a lambda: its object, its code's, its name, the slots of its maker -/
structure Lam where
  f : Addr
  c : Addr
  q : Str
  σ : L2.St
/-- what is fixed: the written part, classes' and functions' places, fields' names -/
structure Sta where
  K : PySem.W.Frag
  cls : Nat → Addr
  fld : Nat → Str
  nf : Nat
  inj : ∀ i j, i < nf → j < nf → fld i = fld j → i = j
  gl : Nat → Addr
  nc : Nat
  cinj : ∀ i j, i < nc → j < nc → cls i = cls j → i = j
  /-- tables of code objects, with their names -/
  T : List (Addr × Str) := []
  /-- the exception that is handled, as it stands -/
  mo : Option (Addr × Obj) := none
  /-- the lambda that a def got -/
  lam : Option Lam := none
mutual
/-- no cell is named within -/
def T.noRef : T → Bool
  | .ref _ => false
  | .tup xs => T.noRefs xs
  | .lst xs => T.noRefs xs
  | .obj _ fs => T.noRefF fs
  | .non => true
  | .bl _ => true
  | .int _ => true
  | .str _ => true
  | .fn _ => true
  | .emp => true
  | .ty _ => true
  | .cl _ => true
  | .exo _ fs => T.noRefF fs
  | .xh _ _ => false
  | .clo _ => false
  | .slc _ _ => true
def T.noRefs : List T → Bool
  | [] => true
  | x :: r => x.noRef && T.noRefs r
def T.noRefF : List (Nat × T) → Bool
  | [] => true
  | (_, x) :: r => x.noRef && T.noRefF r
end
def Cell.noRef : Cell → Bool
  | .lst xs => T.noRefs xs
  | .ins _ fs => T.noRefF fs
  | .exn _ fs => T.noRefF fs
  | .dct kvs => T.noRefs (kvs.map (·.2))
/-- the ghost state: cells' addresses; frozen addresses -/
structure Gh where
  mu : List Addr
  Z : Addr → Prop

/-- a sequence that is frozen at a -/
def FzT (S : Sta) (H : Hp) (G : Gh) (a : Addr) (vs : List V) : Prop := (G.Z a ∧ Rd H a (.tup vs)) ∨ ∀ H, SqT S.K H a vs
def FzL (S : Sta) (H : Hp) (G : Gh) (a : Addr) (vs : List V) : Prop := (G.Z a ∧ Rd H a (.lst vs)) ∨ ∃ (us : List Value) (n : Nat), S.K.lookup a = some { cls := .type "list", data := .seq us.toArray n } ∧ us.length ≤ sizeLine ∧ Vals vs us
/-- a slice object stands at a -/
def SlcO (a : Addr) (i j : Int) : HO := .ext fun h => ∃ t u, h.get? a = some { cls := .type "slice", data := .fields #[.int i t, .int j u, .none] }
mutual
/-- a tree lies at a value -/
inductive RelT (S : Sta) (H : Hp) (G : Gh) : T → V → Prop where
  | non : RelT S H G .non .non
  | bl (b) : RelT S H G (.bl b) (.bl b)
  | int (i) : RelT S H G (.int i) (.int i)
  | str (s) : RelT S H G (.str s) (.str s)
  | tup {xs a vs} : FzT S H G a vs → RelTs S H G xs vs → RelT S H G (.tup xs) (.ref a)
  | lst {xs a vs} : FzL S H G a vs → RelTs S H G xs vs → RelT S H G (.lst xs) (.ref a)
  | ref {l a} : G.mu[l]? = some a → RelT S H G (.ref l) (.ref a)
  | obj {c fs a dx vs} : G.Z a → H a = some (.ins (S.cls c) dx vs) → RelFs S H G fs vs → RelT S H G (.obj c fs) (.ref a)
  | fn (k) : RelT S H G (.fn k) (.ref (S.gl k))
  | emp {a} : G.Z a → H a = some (.dK []) → RelT S H G .emp (.ref a)
  | ty (n) : RelT S H G (.ty n) (.ty n)
  | cl (c) : RelT S H G (.cl c) (.ref (S.cls c))
  | exo0 {c a} : G.Z a → H a = some (L2.exo a (S.cls c) none) → RelT S H G (.exo c []) (.ref a)
  | exo {c f fs a dx vs} : G.Z a → G.Z dx → H a = some (L2.exo a (S.cls c) (some dx)) → H dx = some (.xd vs) → RelFs S H G (f :: fs) vs → RelT S H G (.exo c (f :: fs)) (.ref a)
  | exh0 {c a oe ws} : S.mo = some (a, oe) → oe.cls = .ref (S.cls c) → oe.dict = none → oe.data = .fields ws → RelT S H G (.xh c []) (.ref a)
  | exh {c f fs a oe ws dx vs} : S.mo = some (a, oe) → oe.cls = .ref (S.cls c) → oe.dict = some dx → oe.data = .fields ws → G.Z dx → H dx = some (.xd vs) → RelFs S H G (f :: fs) vs → RelT S H G (.xh c (f :: fs)) (.ref a)
  | clo {L cs} : S.lam = some L → H L.c = some (LamX.CodeO L.c L.q) → RelCs S H G L.σ cs → RelT S H G (.clo cs) (.ref L.f)
  | slc {a i j} : G.Z a → H a = some (SlcO a i j) → RelT S H G (.slc i j) (.ref a)
inductive RelTs (S : Sta) (H : Hp) (G : Gh) : List T → List V → Prop where
  | nil : RelTs S H G [] []
  | cons {t v ts vs} : RelT S H G t v → RelTs S H G ts vs → RelTs S H G (t :: ts) (v :: vs)
inductive RelFs (S : Sta) (H : Hp) (G : Gh) : List (Nat × T) → List (Str × V) → Prop where
  | nil : RelFs S H G [] []
  | cons {f t v ts vs} : f < S.nf → RelT S H G t v → RelFs S H G ts vs → RelFs S H G ((f, t) :: ts) ((S.fld f, v) :: vs)
inductive RelCs (S : Sta) (H : Hp) (G : Gh) : L2.St → List (Nat × T) → Prop where
  | nil {σ} : RelCs S H G σ []
  | cons {σ i t v ts} : σ[i]? = some (some v) → RelT S H G t v → RelCs S H G σ ts → RelCs S H G σ ((i, t) :: ts)
end

/-- the heap, the ghost state have gone on; what stands outside of the cells is kept, but for X -/
structure StepX (X : Addr → Prop) (H : Hp) (G : Gh) (H' : Hp) (G' : Gh) : Prop where
  mu : ∃ more, G'.mu = G.mu ++ more
  Z : ∀ a, G.Z a → G'.Z a
  keep : ∀ a, G.Z a → (∀ ps, H a ≠ some (.tbl ps)) → H' a = H a
  there : ∀ a, H a ≠ none → H' a ≠ none
  frame : ∀ a, H a ≠ none → (∀ ps, H a ≠ some (.tbl ps)) → a ∉ G.mu → ¬ X a → H' a = H a
  fresh : ∀ a, a ∈ G'.mu → a ∈ G.mu ∨ H a = none
  fz : ∀ a, G'.Z a → G.Z a ∨ a ∈ G.mu ∨ H a = none
  codes : ∀ c q, H c = some (LamX.CodeO c q) → H' c = some (LamX.CodeO c q)
abbrev Step (H : Hp) (G : Gh) (H' : Hp) (G' : Gh) : Prop := StepX (fun _ => False) H G H' G'
theorem StepX.refl {X : Addr → Prop} {H : Hp} {G : Gh} : StepX X H G H G := ⟨⟨[], by simp⟩, fun _ h => h, fun _ _ _ => rfl, fun _ h => h, fun _ _ _ _ _ => rfl, fun _ h => .inl h, fun _ h => .inl h, fun _ _ t => t⟩
theorem Step.refl {H : Hp} {G : Gh} : Step H G H G := StepX.refl
theorem StepX.trans {X : Addr → Prop} {H H1 H2 : Hp} {G G1 G2 : Gh} (a : StepX X H G H1 G1) (b : StepX X H1 G1 H2 G2) : StepX X H G H2 G2 := by
  obtain ⟨⟨m1, e1⟩, z1, k1, t1, f1, r1, q1, tb1⟩ := a
  obtain ⟨⟨m2, e2⟩, z2, k2, t2, f2, r2, q2, tb2⟩ := b
  have back : ∀ a, H1 a = none → H a = none := fun a h => by
    cases q : H a with
    | none => rfl
    | some o => exact absurd h (t1 a (by rw [q]; simp))
  refine ⟨⟨m1 ++ m2, by rw [e2, e1, List.append_assoc]⟩, fun a h => z2 a (z1 a h), fun a h nt => (k2 a (z1 a h) (by rw [k1 a h nt]; exact nt)).trans (k1 a h nt), fun a h => t2 a (t1 a h), fun a h nt n x => ?_, fun a h => ?_, fun a h => ?_, fun P q t => tb2 P q (tb1 P q t)⟩
  · refine (f2 a (t1 a h) (fun ps => by rw [f1 a h nt n x]; exact nt ps) (fun m => ?_) x).trans (f1 a h nt n x)
    rcases r1 a m with m | m
    · exact n m
    · exact h m
  · rcases r2 a h with m | m
    · exact r1 a m
    · exact .inr (back a m)
  · rcases q2 a h with m | m | m
    · exact q1 a m
    · rcases r1 a m with m | m
      · exact .inr (.inl m)
      · exact .inr (.inr m)
    · exact .inr (.inr (back a m))
theorem Step.trans {H H1 H2 : Hp} {G G1 G2 : Gh} (a : Step H G H1 G1) (b : Step H1 G1 H2 G2) : Step H G H2 G2 := StepX.trans a b
theorem StepX.wide {X Y : Addr → Prop} {H H1 : Hp} {G G1 : Gh} (a : StepX X H G H1 G1) (h : ∀ a, X a → Y a) : StepX Y H G H1 G1 := ⟨a.mu, a.Z, a.keep, a.there, fun b h1 nt h2 h3 => a.frame b h1 nt h2 fun z => h3 (h b z), a.fresh, a.fz, a.codes⟩
theorem StepX.get {X : Addr → Prop} {H H1 : Hp} {G G1 : Gh} (s : StepX X H G H1 G1) {l : Nat} {a : Addr} (h : G.mu[l]? = some a) : G1.mu[l]? = some a := by
  obtain ⟨m, e⟩ := s.mu
  rw [e, List.getElem?_append_left (List.getElem?_eq_some_iff.mp h).1]
  exact h
theorem nt_of {H : Hp} {a : Addr} {o : HO} (e : H a = some o) (n : ∀ ps, o ≠ .tbl ps) : ∀ ps, H a ≠ some (.tbl ps) := fun ps z => n ps (Option.some.inj (e.symm.trans z))
theorem rd_nt {H : Hp} {a : Addr} {o : HO} (r : Rd H a o) (n : ∀ ps, o ≠ .tbl ps) : ∀ ps, H a ≠ some (.tbl ps) := by
  rcases r with r | ⟨ob, r⟩
  · exact nt_of r n
  · exact nt_of r fun ps z => by cases z
theorem FzT.step {S : Sta} {X : Addr → Prop} {H H' : Hp} {G G' : Gh} (s : StepX X H G H' G') {a : Addr} {vs : List V} (h : FzT S H G a vs) : FzT S H' G' a vs := by
  rcases h with ⟨z, r⟩ | h
  · refine .inl ⟨s.Z a z, ?_⟩
    have r' := r
    unfold Rd at r' ⊢
    rw [s.keep a z (rd_nt r fun ps z => by cases z)]
    exact r'
  · exact .inr h
theorem FzL.step {S : Sta} {X : Addr → Prop} {H H' : Hp} {G G' : Gh} (s : StepX X H G H' G') {a : Addr} {vs : List V} (h : FzL S H G a vs) : FzL S H' G' a vs := by
  rcases h with ⟨z, r⟩ | h
  · refine .inl ⟨s.Z a z, ?_⟩
    have r' := r
    unfold Rd at r' ⊢
    rw [s.keep a z (rd_nt r fun ps z => by cases z)]
    exact r'
  · exact .inr h
theorem FzT.sq {S : Sta} {H : Hp} {G : Gh} {a : Addr} {vs : List V} (h : FzT S H G a vs) : SqT S.K H a vs := by
  rcases h with ⟨_, r⟩ | h
  · exact .inl r
  · exact h H
theorem FzL.sq {S : Sta} {H : Hp} {G : Gh} {a : Addr} {vs : List V} (h : FzL S H G a vs) : SqL S.K H a vs := by
  rcases h with ⟨_, r⟩ | ⟨us, n, e, l, r⟩
  · exact .inl r
  · exact .inr ⟨_, us.toArray, n, e, rfl, rfl, rfl, by simpa using l, by simpa using r⟩
mutual
theorem RelT.step {S : Sta} {X : Addr → Prop} {H H' : Hp} {G G' : Gh} (s : StepX X H G H' G') : ∀ {t : T} {v : V}, RelT S H G t v → RelT S H' G' t v
  | _, _, .non => .non
  | _, _, .bl b => .bl b
  | _, _, .int b => .int b
  | _, _, .str b => .str b
  | _, _, .tup h r => .tup (h.step s) (r.step s)
  | _, _, .lst h r => .lst (h.step s) (r.step s)
  | _, _, .ref h => .ref (s.get h)
  | _, _, .obj z h r => .obj (s.Z _ z) ((s.keep _ z (nt_of h fun ps z => by cases z)).trans h) (r.step s)
  | _, _, .fn k => .fn k
  | _, _, .emp z h => .emp (s.Z _ z) ((s.keep _ z (nt_of h fun ps z => by cases z)).trans h)
  | _, _, .ty n => .ty n
  | _, _, .cl c => .cl c
  | _, _, .exo0 z h => .exo0 (s.Z _ z) ((s.keep _ z (nt_of h fun _ => exo_tbl)).trans h)
  | _, _, .exo z zd h hd r => .exo (s.Z _ z) (s.Z _ zd) ((s.keep _ z (nt_of h fun _ => exo_tbl)).trans h) ((s.keep _ zd (nt_of hd fun ps z => by cases z)).trans hd) (r.step s)
  | _, _, .exh0 a b c d => .exh0 a b c d
  | _, _, .exh a b c d zd hd r => .exh a b c d (s.Z _ zd) ((s.keep _ zd (nt_of hd fun ps z => by cases z)).trans hd) (r.step s)
  | _, _, .clo a b r => .clo a (s.codes _ _ b) (r.step s)
  | _, _, .slc z h => .slc (s.Z _ z) ((s.keep _ z (nt_of h fun ps z => by unfold SlcO at z; cases z)).trans h)
theorem RelTs.step {S : Sta} {X : Addr → Prop} {H H' : Hp} {G G' : Gh} (s : StepX X H G H' G') : ∀ {t : List T} {v : List V}, RelTs S H G t v → RelTs S H' G' t v
  | _, _, .nil => .nil
  | _, _, .cons h r => .cons (h.step s) (r.step s)
theorem RelFs.step {S : Sta} {X : Addr → Prop} {H H' : Hp} {G G' : Gh} (s : StepX X H G H' G') : ∀ {t : List (Nat × T)} {v : List (Str × V)}, RelFs S H G t v → RelFs S H' G' t v
  | _, _, .nil => .nil
  | _, _, .cons f h r => .cons f (h.step s) (r.step s)
theorem RelCs.step {S : Sta} {X : Addr → Prop} {H H' : Hp} {G G' : Gh} (s : StepX X H G H' G') : ∀ {σ : L2.St} {t : List (Nat × T)}, RelCs S H G σ t → RelCs S H' G' σ t
  | _, _, .nil => .nil
  | _, _, .cons e h r => .cons e (h.step s) (r.step s)
end
theorem FzT.indep {S : Sta} {H : Hp} {G G' : Gh} (s : ∀ a, G.Z a → G'.Z a) {a : Addr} {vs : List V} (h : FzT S H G a vs) : FzT S H G' a vs := h.elim (fun h => .inl ⟨s _ h.1, h.2⟩) .inr
theorem FzL.indep {S : Sta} {H : Hp} {G G' : Gh} (s : ∀ a, G.Z a → G'.Z a) {a : Addr} {vs : List V} (h : FzL S H G a vs) : FzL S H G' a vs := h.elim (fun h => .inl ⟨s _ h.1, h.2⟩) .inr
theorem band {a b : Bool} (h : (a && b) = true) : a = true ∧ b = true := Bool.and_eq_true_iff.mp h
mutual
theorem RelT.indep {S : Sta} {H : Hp} {G G' : Gh} (s : ∀ a, G.Z a → G'.Z a) : ∀ {t : T} {v : V}, RelT S H G t v → t.noRef = true → RelT S H G' t v
  | _, _, .non, _ => .non
  | _, _, .bl b, _ => .bl b
  | _, _, .int b, _ => .int b
  | _, _, .str b, _ => .str b
  | _, _, .tup h r, n => .tup (h.indep s) (r.indep s (by rw [T.noRef] at n; exact n))
  | _, _, .lst h r, n => .lst (h.indep s) (r.indep s (by rw [T.noRef] at n; exact n))
  | _, _, .ref h, n => by rw [T.noRef] at n; cases n
  | _, _, .obj z h r, n => .obj (s _ z) h (r.indep s (by rw [T.noRef] at n; exact n))
  | _, _, .fn k, _ => .fn k
  | _, _, .emp z h, _ => .emp (s _ z) h
  | _, _, .ty n, _ => .ty n
  | _, _, .cl c, _ => .cl c
  | _, _, .exo0 z h, _ => .exo0 (s _ z) h
  | _, _, .exo z zd h hd r, n => .exo (s _ z) (s _ zd) h hd (r.indep s (by rw [T.noRef] at n; exact n))
  | _, _, .exh0 a b c d, n => by rw [T.noRef] at n; cases n
  | _, _, .exh a b c d zd hd r, n => by rw [T.noRef] at n; cases n
  | _, _, .clo a b r, n => by rw [T.noRef] at n; cases n
  | _, _, .slc z h, _ => .slc (s _ z) h
theorem RelTs.indep {S : Sta} {H : Hp} {G G' : Gh} (s : ∀ a, G.Z a → G'.Z a) : ∀ {t : List T} {v : List V}, RelTs S H G t v → T.noRefs t = true → RelTs S H G' t v
  | _, _, .nil, _ => .nil
  | _, _, .cons h r, n => .cons (h.indep s (by rw [T.noRefs] at n; exact (band n).1)) (r.indep s (by rw [T.noRefs] at n; exact (band n).2))
theorem RelFs.indep {S : Sta} {H : Hp} {G G' : Gh} (s : ∀ a, G.Z a → G'.Z a) : ∀ {t : List (Nat × T)} {v : List (Str × V)}, RelFs S H G t v → T.noRefF t = true → RelFs S H G' t v
  | _, _, .nil, _ => .nil
  | _, _, .cons f h r, n => .cons f (h.indep s (by rw [T.noRefF] at n; exact (band n).1)) (r.indep s (by rw [T.noRefF] at n; exact (band n).2))
end

theorem nodup_at {A : Type} {N : List A} (hN : N.Nodup) {i j : Nat} {x : A} (a : N[i]? = some x) (b : N[j]? = some x) : i = j := by
  obtain ⟨h1, e1⟩ := List.getElem?_eq_some_iff.mp a
  obtain ⟨h2, e2⟩ := List.getElem?_eq_some_iff.mp b
  exact (List.getElem_inj hN).mp (e1.trans e2.symm)
/-- what stands at a cell's address -/
inductive CellAt (S : Sta) (H : Hp) (G : Gh) (a : Addr) : Cell → HO → Prop where
  | lst {xs vs} : RelTs S H G xs vs → CellAt S H G a (.lst xs) (.lst vs)
  | ins {c fs dx vs} : RelFs S H G fs vs → CellAt S H G a (.ins c fs) (.ins (S.cls c) dx vs)
  | exn0 {c} : CellAt S H G a (.exn c []) (L2.exo a (S.cls c) none)
  | exn {c f fs dx vs} : G.Z dx → H dx = some (.xd vs) → RelFs S H G (f :: fs) vs → CellAt S H G a (.exn c (f :: fs)) (L2.exo a (S.cls c) (some dx))
  | dct {kvs vs} : RelTs S H G (kvs.map (·.2)) vs → CellAt S H G a (.dct kvs) (.dK ((kvs.map (·.1)).zip vs))
theorem CellAt.step {S : Sta} {X : Addr → Prop} {H H' : Hp} {G G' : Gh} (s : StepX X H G H' G') {a : Addr} {c : Cell} {o : HO} (h : CellAt S H G a c o) : CellAt S H' G' a c o := by
  cases h with
  | lst r => exact .lst (r.step s)
  | ins r => exact .ins (r.step s)
  | exn0 => exact .exn0
  | exn z h r => exact .exn (s.Z _ z) ((s.keep _ z (nt_of h fun ps z => by cases z)).trans h) (r.step s)
  | dct r => exact .dct (r.step s)

/-- neither a table of code objects nor a code object -/
def NoTab (o : HO) : Prop := (∀ ps, o ≠ .tbl ps) ∧ ∀ c q, o ≠ LamX.CodeO c q
theorem noTab_lst (xs : List V) : NoTab (.lst xs) := ⟨(fun _ z => by cases z), (fun c q z => by unfold LamX.CodeO at z; cases z)⟩
theorem noTab_ins (C dx : Addr) (fs : List (Str × V)) : NoTab (.ins C dx fs) := ⟨(fun _ z => by cases z), (fun c q z => by unfold LamX.CodeO at z; cases z)⟩
theorem noTab_dK (kvs : List (L2.Key × V)) : NoTab (.dK kvs) := ⟨(fun _ z => by cases z), (fun c q z => by unfold LamX.CodeO at z; cases z)⟩
theorem noTab_exo (e C : Addr) (d : Option Addr) : NoTab (L2.exo e C d) := by
  refine ⟨fun _ z => exo_tbl z, fun c q z => ?_⟩
  unfold L2.exo LamX.CodeO at z
  have z := HO.ext.inj z
  have sz : (⟨Array.replicate e ⟨.none, none, .freed, #[]⟩, {}⟩ : Heap).objs.size = e := by simp
  have no : ∀ b o, (⟨Array.replicate e ⟨.none, none, .freed, #[]⟩, {}⟩ : Heap).get? b ≠ some o := fun b o q => by
    obtain ⟨q1, q2⟩ := Heap.get?_some_iff.mp q
    have q1 : (Array.replicate e (⟨.none, none, .freed, #[]⟩ : Obj))[b]? = some o := q1
    rw [Array.getElem?_replicate] at q1
    split at q1
    · cases q1; cases q2
    · cases q1
  have hz := congrFun z ((⟨Array.replicate e ⟨.none, none, .freed, #[]⟩, {}⟩ : Heap).push { cls := .ref C, dict := d, data := .fields #[.ref 0, .none, .none, .none, .bool false, .none] })
  obtain ⟨oc, vs, t, p1, p2, p3⟩ := Eq.mp hz ⟨0, PySem.Heap.get?_push_at sz.symm rfl⟩
  rcases PySem.Heap.get?_push_cases p1 with ⟨_, q⟩ | q
  · subst q
    have p2 : Data.fields #[.ref 0, .none, .none, .none, .bool false, .none] = Data.fields vs := p2
    cases p2
    cases p3
  · exact no _ _ q
theorem tabS_upd {H : Hp} {P a : Addr} {q : Str} {o o' : HO} (t : LamX.TabS H P q) (e : H a = some o') (n : NoTab o') : LamX.TabS (upd H a o) P q := by
  obtain ⟨ps, h1, h2, h3⟩ := t
  refine ⟨ps, ?_, h2, fun pos cv hc => ?_⟩
  · rw [upd_ne]
    · exact h1
    · rintro rfl
      rw [h1] at e
      exact n.1 ps (Option.some.inj e).symm
  · obtain ⟨c, e1, e2⟩ := h3 pos cv hc
    refine ⟨c, e1, ?_⟩
    rw [upd_ne]
    · exact e2
    · rintro rfl
      rw [e2] at e
      exact n.2 _ _ (Option.some.inj e).symm
theorem cell_tab {S : Sta} {H : Hp} {G : Gh} {a : Addr} {c : Cell} {o : HO} (h : CellAt S H G a c o) : NoTab o := by
  cases h with
  | lst r => exact noTab_lst _
  | ins r => exact noTab_ins _ _ _
  | exn0 => exact noTab_exo _ _ _
  | exn _ _ _ => exact noTab_exo _ _ _
  | dct _ => exact noTab_dK _
/-- the cells lie in the heap -/
structure RepH (S : Sta) (H : Hp) (G : Gh) (h : Hm) : Prop where
  len : h.length = G.mu.length
  cell : ∀ (l : Nat) (c : Cell), h[l]? = some (some c) → ∃ a o, G.mu[l]? = some a ∧ H a = some o ∧ CellAt S H G a c o ∧ ¬ G.Z a ∧ c.noRef = true
  nd : G.mu.Nodup
  there : ∀ a, a ∈ G.mu ∨ G.Z a → H a ≠ none
  tabs : ∀ p ∈ S.T, LamX.TabS H p.1 p.2

/-- nothing of what is tracked here was touched -/
def Grown (H H' : Hp) : Prop := ∀ a o, H a = some o → H' a = some o
theorem Grown.step {H H' : Hp} {G : Gh} (g : Grown H H') (z : ∀ a, G.Z a → H a ≠ none) : Step H G H' G := by
  have same : ∀ a, H a ≠ none → H' a = H a := fun a h => by
    cases q : H a with
    | none => exact absurd q h
    | some o => exact g a o q
  refine ⟨⟨[], by simp⟩, fun _ h => h, fun a h _ => same a (z a h), fun a h => by rw [same a h]; exact h, fun a h _ _ _ => same a h, fun a h => .inl h, fun a h => .inl h, fun c q e => g _ _ e⟩
theorem RepH.grown {S : Sta} {H H' : Hp} {G : Gh} {h : Hm} (r : RepH S H G h) (g : Grown H H') : RepH S H' G h := by
  have st := g.step fun a z => r.there a (.inr z)
  refine ⟨r.len, fun l c e => ?_, r.nd, fun a h => st.there a (r.there a h), fun p hp => (r.tabs p hp).ext g⟩
  obtain ⟨a, o, h1, h2, h3, h4, h5⟩ := r.cell l c e
  exact ⟨a, o, h1, g a o h2, h3.step st, h4, h5⟩
theorem grown_upd {H : Hp} {p : Addr} {o : HO} (h : H p = none) : Grown H (upd H p o) := fun a u e => by
  rw [upd_ne (ne_of_none e h)]; exact e

/-- a further frozen address -/
def Gh.fz (G : Gh) (p : Addr) : Gh := ⟨G.mu, fun a => a = p ∨ G.Z a⟩
/-- a further cell -/
def Gh.ad (G : Gh) (p : Addr) : Gh := ⟨G.mu ++ [p], G.Z⟩
section
variable {S : Sta} {H : Hp} {G : Gh} {h : Hm} {p : Addr} {o : HO}
theorem RepH.fresh (r : RepH S H G h) (hp : H p = none) : p ∉ G.mu ∧ ¬ G.Z p := ⟨fun m => r.there p (.inl m) hp, fun z => r.there p (.inr z) hp⟩
/-- a new object, frozen -/
theorem RepH.newF (r : RepH S H G h) (hp : H p = none) : Step H G (upd H p o) (G.fz p) ∧ RepH S (upd H p o) (G.fz p) h := by
  have g := grown_upd (o := o) hp
  have st0 := g.step fun a z => r.there a (.inr z)
  have st : Step H G (upd H p o) (G.fz p) := ⟨⟨[], by simp [Gh.fz]⟩, fun a z => .inr z, st0.keep, st0.there, st0.frame, fun a z => .inl z, fun a z => by
    rcases z with z | z
    · subst z; exact .inr (.inr hp)
    · exact .inl z, st0.codes⟩
  refine ⟨st, r.len, fun l c e => ?_, r.nd, fun a q => ?_, fun p hp => (r.tabs p hp).ext g⟩
  · obtain ⟨a, u, h1, h2, h3, h4, h5⟩ := r.cell l c e
    refine ⟨a, u, h1, g a u h2, h3.step st, fun z => ?_, h5⟩
    rcases z with z | z
    · exact (ne_of_none h2 hp) z
    · exact h4 z
  · rcases q with q | q | q
    · exact st.there a (r.there a (.inl q))
    · subst q; rw [upd_same]; simp
    · exact st.there a (r.there a (.inr q))
/-- a new object, a cell -/
theorem RepH.newC (r : RepH S H G h) (hp : H p = none) {c : Cell} (hc : CellAt S H G p c o) (hn : c.noRef = true) : Step H G (upd H p o) (G.ad p) ∧ RepH S (upd H p o) (G.ad p) (h ++ [some c]) := by
  have g := grown_upd (o := o) hp
  have st0 := g.step fun a z => r.there a (.inr z)
  have st : Step H G (upd H p o) (G.ad p) := ⟨⟨[p], rfl⟩, fun a z => z, st0.keep, st0.there, st0.frame, fun a z => by
    have z' : a ∈ G.mu ++ [p] := z
    rcases List.mem_append.mp z' with z | z
    · exact .inl z
    · simp at z; subst z; exact .inr hp, fun a z => .inl z, st0.codes⟩
  obtain ⟨n1, n2⟩ := r.fresh hp
  refine ⟨st, by simp [Gh.ad, r.len], fun l c' e => ?_, ?_, fun a q => ?_, fun p hp => (r.tabs p hp).ext g⟩
  · by_cases hl : l < h.length
    · rw [List.getElem?_append_left hl] at e
      obtain ⟨a, u, h1, h2, h3, h4, h5⟩ := r.cell l c' e
      exact ⟨a, u, st.get h1, g a u h2, h3.step st, h4, h5⟩
    · have el : l = h.length := by
        have := (List.getElem?_eq_some_iff.mp e).1
        simp at this; omega
      subst el
      rw [List.getElem?_append_right (Nat.le_refl _)] at e
      simp at e
      subst e
      refine ⟨p, o, ?_, upd_same, hc.step st, n2, hn⟩
      show (G.mu ++ [p])[h.length]? = some p
      rw [r.len, List.getElem?_append_right (Nat.le_refl _)]
      simp
  · show (G.mu ++ [p]).Nodup
    rw [List.nodup_append]
    exact ⟨r.nd, by simp, fun a ha b hb => by simp at hb; subst hb; exact fun e => n1 (e ▸ ha)⟩
  · have q' : a ∈ G.mu ++ [p] ∨ G.Z a := q
    rcases q' with q' | q'
    · rcases List.mem_append.mp q' with q' | q'
      · exact st.there a (r.there a (.inl q'))
      · simp at q'; subst q'; rw [upd_same]; simp
    · exact st.there a (r.there a (.inr q'))
/-- a cell is written -/
theorem RepH.set (r : RepH S H G h) {l : Nat} {a : Addr} (ha : G.mu[l]? = some a) {c0 c : Cell} (h0 : h[l]? = some (some c0)) (hc : CellAt S H G a c o) (hn : c.noRef = true) : Step H G (upd H a o) G ∧ RepH S (upd H a o) G (h.set l (some c)) := by
  obtain ⟨a', o', h1, h2, h3q, h4, _⟩ := r.cell l c0 h0
  rw [ha] at h1; cases h1
  have hl : l < h.length := (List.getElem?_eq_some_iff.mp h0).1
  have st : Step H G (upd H a o) G := by
    refine ⟨⟨[], by simp⟩, fun _ z => z, fun b z _ => ?_, fun b q => ?_, fun b _ _ n _ => ?_, fun _ z => .inl z, fun _ z => .inl z, fun c q e => by
      rw [upd_ne]
      · exact e
      · rintro rfl
        rw [h2] at e
        exact (cell_tab h3q).2 _ _ (Option.some.inj e)⟩
    · exact upd_ne fun e => h4 (e ▸ z)
    · by_cases e : b = a
      · subst e; rw [upd_same]; simp
      · rw [upd_ne e]; exact q
    · exact upd_ne fun e => n (e ▸ List.mem_of_getElem? ha)
  refine ⟨st, by simp [r.len], fun l' c' e => ?_, r.nd, fun b q => st.there b (r.there b q), fun p hp => tabS_upd (r.tabs p hp) h2 (cell_tab h3q)⟩
  by_cases el : l' = l
  · subst el
    rw [List.getElem?_set_self hl] at e
    simp at e; subst e
    exact ⟨a, o, ha, upd_same, hc.step st, h4, hn⟩
  · rw [List.getElem?_set_ne (Ne.symm el)] at e
    obtain ⟨b, u, k1, k2, k3, k4, k5⟩ := r.cell l' c' e
    refine ⟨b, u, k1, ?_, k3.step st, k4, k5⟩
    rw [upd_ne]
    · exact k2
    · rintro rfl
      exact el (nodup_at r.nd k1 ha)
/-- a cell is frozen: it goes, its address stays as it is -/
theorem RepH.freeze (r : RepH S H G h) {l : Nat} {a : Addr} (ha : G.mu[l]? = some a) (hn : H a ≠ none) : Step H G H (G.fz a) ∧ RepH S H (G.fz a) (h.set l none) := by
  have st : Step H G H (G.fz a) := ⟨⟨[], by simp [Gh.fz]⟩, fun _ z => .inr z, fun _ _ _ => rfl, fun _ q => q, fun _ _ _ _ _ => rfl, fun _ z => .inl z, fun b z => by
    rcases z with z | z
    · subst z; exact .inr (.inl (List.mem_of_getElem? ha))
    · exact .inl z, fun _ _ t => t⟩
  refine ⟨st, by simp [r.len, Gh.fz], fun l' c' e => ?_, r.nd, fun b q => ?_, fun p hp => r.tabs p hp⟩
  · have el : l' ≠ l := by
      rintro rfl
      by_cases hl : l' < h.length
      · rw [List.getElem?_set_self hl] at e; simp at e
      · rw [List.getElem?_eq_none (by simpa using hl)] at e; cases e
    rw [List.getElem?_set_ne (Ne.symm el)] at e
    obtain ⟨b, u, k1, k2, k3, k4, k5⟩ := r.cell l' c' e
    refine ⟨b, u, k1, k2, k3.step st, fun z => ?_, k5⟩
    rcases z with z | z
    · subst z; exact el (nodup_at r.nd k1 ha)
    · exact k4 z
  · rcases q with q | q | q
    · exact r.there b (.inl q)
    · subst q; exact hn
    · exact r.there b (.inr q)
/-- the first n cells alone -/
def Gh.cut (G : Gh) (n : Nat) : Gh := ⟨G.mu.take n, G.Z⟩
theorem CellAt.indep {G' : Gh} (s : ∀ a, G.Z a → G'.Z a) {a : Addr} {c : Cell} (q : CellAt S H G a c o) (hn : c.noRef = true) : CellAt S H G' a c o := by
  cases q with
  | lst r => exact .lst (r.indep s hn)
  | ins r => exact .ins (r.indep s hn)
  | exn0 => exact .exn0
  | exn z h r => exact .exn (s _ z) h (r.indep s hn)
  | dct r => exact .dct (r.indep s hn)
theorem RepH.cut (r : RepH S H G h) (n : Nat) : RepH S H (G.cut n) (h.take n) := by
  refine ⟨by simp [Gh.cut, r.len], fun l c e => ?_, ?_, fun b q => ?_, r.tabs⟩
  · by_cases hl : l < n
    · rw [List.getElem?_take_of_lt hl] at e
      obtain ⟨a, u, h1, h2, h3, h4, h5⟩ := r.cell l c e
      exact ⟨a, u, by show (G.mu.take n)[l]? = _; rw [List.getElem?_take_of_lt hl]; exact h1, h2, CellAt.indep (G := G) (G' := G.cut n) (fun _ z => z) h3 h5, h4, h5⟩
    · rw [List.getElem?_eq_none (by rw [List.length_take]; omega)] at e; cases e
  · exact r.nd.sublist (List.take_sublist _ _)
  · rcases q with q | q
    · exact r.there b (.inl (List.mem_of_mem_take q))
    · exact r.there b (.inr q)
theorem Step.cut {H0 : Hp} {G0 : Gh} (s : Step H0 G0 H G) : Step H0 G0 H (G.cut G0.mu.length) := by
  obtain ⟨⟨m, e⟩, z, k, t, f, r, q, tb⟩ := s
  exact ⟨⟨[], by show G.mu.take _ = _; rw [e]; simp⟩, z, k, t, f, fun a h => r a (List.mem_of_mem_take h), q, tb⟩
/-- cells are forgotten -/
theorem RepH.sub (r : RepH S H G h) {h' : Hm} (hl : h'.length = h.length) (hs : ∀ (l : Nat) (c : Cell), h'[l]? = some (some c) → h[l]? = some (some c)) : RepH S H G h' :=
  ⟨hl.trans r.len, fun l c e => r.cell l c (hs l c e), r.nd, r.there, r.tabs⟩
end
/-! ### fields -/
theorem RelFs.look {S : Sta} {H : Hp} {G : Gh} {f : Nat} (hf : f < S.nf) : ∀ {fs : List (Nat × T)} {vs : List (Str × V)}, RelFs S H G fs vs → ∀ {t : T}, fs.lookup f = some t → ∃ v, vs.lookup (S.fld f) = some v ∧ RelT S H G t v
  | _, _, .nil, _, e => by simp at e
  | _, _, .cons (f := g) (ts := ts) hg r rs, t, e => by
    by_cases q : f = g
    · subst q
      rw [List.lookup_cons_self] at e
      cases e
      exact ⟨_, List.lookup_cons_self, r⟩
    · have hb : (f == g) = false := beq_eq_false_iff_ne.mpr q
      have hb2 : (S.fld f == S.fld g) = false := beq_eq_false_iff_ne.mpr fun z => q (S.inj _ _ hf hg z)
      simp only [List.lookup, hb] at e
      obtain ⟨v, h1, h2⟩ := RelFs.look hf rs e
      exact ⟨v, by simp only [List.lookup, hb2]; exact h1, h2⟩
theorem RelFs.lookN {S : Sta} {H : Hp} {G : Gh} {f : Nat} (hf : f < S.nf) : ∀ {fs : List (Nat × T)} {vs : List (Str × V)}, RelFs S H G fs vs → fs.lookup f = none → vs.lookup (S.fld f) = none
  | _, _, .nil, _ => rfl
  | _, _, .cons (f := g) (ts := ts) hg r rs, e => by
    by_cases q : f = g
    · subst q
      rw [List.lookup_cons_self] at e
      cases e
    · have hb : (f == g) = false := beq_eq_false_iff_ne.mpr q
      have hb2 : (S.fld f == S.fld g) = false := beq_eq_false_iff_ne.mpr fun z => q (S.inj _ _ hf hg z)
      simp only [List.lookup, hb] at e
      simp only [List.lookup, hb2]
      exact RelFs.lookN hf rs e
theorem RelFs.length {S : Sta} {H : Hp} {G : Gh} : ∀ {fs : List (Nat × T)} {vs : List (Str × V)}, RelFs S H G fs vs → fs.length = vs.length
  | _, _, .nil => rfl
  | _, _, .cons _ _ r => by simp [RelFs.length r]
/-- a field stored -/
def putT (f : Nat) (t : T) : List (Nat × T) → List (Nat × T)
  | [] => [(f, t)]
  | (g, x) :: r => if g = f then (g, t) :: r else (g, x) :: putT f t r
theorem RelFs.put {S : Sta} {H : Hp} {G : Gh} {f : Nat} (hf : f < S.nf) {t : T} {v : V} (q : RelT S H G t v) : ∀ {fs : List (Nat × T)} {vs : List (Str × V)}, RelFs S H G fs vs → RelFs S H G (putT f t fs) (putF (S.fld f) v vs)
  | _, _, .nil => .cons hf q .nil
  | _, _, .cons (f := g) hg r rs => by
    unfold putT putF
    by_cases z : g = f
    · subst z
      rw [if_pos rfl, if_pos rfl]
      exact .cons hg q rs
    · rw [if_neg z, if_neg fun e => z (S.inj _ _ hg hf e)]
      exact .cons hg r (RelFs.put hf q rs)
theorem noRefF_put {f : Nat} {t : T} (h : t.noRef = true) : ∀ {fs : List (Nat × T)}, T.noRefF fs = true → T.noRefF (putT f t fs) = true
  | [], _ => by simp [putT, T.noRefF, h]
  | (g, x) :: r, e => by
    rw [T.noRefF] at e
    unfold putT
    split
    · rw [T.noRefF, h, (band e).2]; rfl
    · rw [T.noRefF, (band e).1, noRefF_put h (band e).2]; rfl
/-! ### lists of trees -/
section
variable {S : Sta} {H : Hp} {G : Gh}
theorem RelTs.length : ∀ {ts : List T} {vs : List V}, RelTs S H G ts vs → ts.length = vs.length
  | _, _, .nil => rfl
  | _, _, .cons _ r => by simp [RelTs.length r]
theorem RelTs.get : ∀ {ts : List T} {vs : List V} {i : Nat} {t : T}, RelTs S H G ts vs → ts[i]? = some t → ∃ v, vs[i]? = some v ∧ RelT S H G t v
  | _, _, _, _, .nil, e => by simp at e
  | _, _, 0, _, .cons r _, e => by simp at e; subst e; exact ⟨_, by simp, r⟩
  | _, _, i + 1, t, .cons _ r, e => by
    obtain ⟨v, h1, h2⟩ := RelTs.get (i := i) (t := t) r (by simpa using e)
    exact ⟨v, by simpa using h1, h2⟩
theorem RelTs.get' : ∀ {ts : List T} {vs : List V} {i : Nat} {v : V}, RelTs S H G ts vs → vs[i]? = some v → ∃ t, ts[i]? = some t ∧ RelT S H G t v
  | _, _, _, _, .nil, e => by simp at e
  | _, _, 0, _, .cons r _, e => by simp at e; subst e; exact ⟨_, by simp, r⟩
  | _, _, i + 1, t, .cons _ r, e => by
    obtain ⟨v, h1, h2⟩ := RelTs.get' (i := i) (v := t) r (by simpa using e)
    exact ⟨v, by simpa using h1, h2⟩
theorem RelTs.app : ∀ {ts : List T} {vs : List V} {us : List T} {ws : List V}, RelTs S H G ts vs → RelTs S H G us ws → RelTs S H G (ts ++ us) (vs ++ ws)
  | _, _, _, _, .nil, s => s
  | _, _, _, _, .cons r t, s => .cons r (RelTs.app t s)
theorem RelTs.set {t : T} {v : V} (r : RelT S H G t v) : ∀ {ts : List T} {vs : List V} (i : Nat), RelTs S H G ts vs → RelTs S H G (ts.set i t) (vs.set i v)
  | _, _, _, .nil => .nil
  | _, _, 0, .cons _ q => .cons r q
  | _, _, i + 1, .cons q s => .cons q (RelTs.set r i s)
theorem RelTs.take : ∀ {ts : List T} {vs : List V} (n : Nat), RelTs S H G ts vs → RelTs S H G (ts.take n) (vs.take n)
  | _, _, 0, _ => by simp; exact .nil
  | _, _, _ + 1, .nil => .nil
  | _, _, n + 1, .cons r t => .cons r (RelTs.take n t)
theorem RelTs.drop : ∀ {ts : List T} {vs : List V} (n : Nat), RelTs S H G ts vs → RelTs S H G (ts.drop n) (vs.drop n)
  | _, _, 0, r => r
  | _, _, _ + 1, .nil => .nil
  | _, _, n + 1, .cons _ t => RelTs.drop n t
theorem RelTs.erase : ∀ {ts : List T} {vs : List V} (n : Nat), RelTs S H G ts vs → RelTs S H G (ts.eraseIdx n) (vs.eraseIdx n)
  | _, _, 0, .nil => .nil
  | _, _, 0, .cons r t => t
  | _, _, _ + 1, .nil => .nil
  | _, _, n + 1, .cons r t => .cons r (RelTs.erase n t)
theorem RelTs.ints : ∀ ns : List Int, RelTs S H G (ns.map T.int) (ns.map V.int)
  | [] => .nil
  | _ :: r => .cons (.int _) (RelTs.ints r)
end
end RT
set_option Elab.async false
set_option linter.all false
set_option maxRecDepth 100000
set_option maxHeartbeats 4000000
/-! RT, part b: contexts, judgements; names, constants, operators, tests. -/
namespace RT
open PySem PySem.Spec L2
open PyProof.Rows hiding St

abbrev StT := List (Option T)
abbrev ET := StT → Hm → R T
abbrev BT := StT → Hm → R Bool
abbrev AT := StT → Hm → R (List T)
/-- how a statement ends -/
inductive SO where
  | nx (s : StT) | brk (s : StT) | cont (s : StT) | ret (t : T) | rse (e : T) (s : StT)
abbrev SM := StT → Hm → R SO

def RelSt (S : Sta) (H : Hp) (G : Gh) (a : StT) (b : St) : Prop := a.length = b.length ∧ ∀ (i : Nat) t, a[i]? = some (some t) → ∃ v, b[i]? = some (some v) ∧ RelT S H G t v
theorem RelSt.step {S : Sta} {X : Addr → Prop} {H H' : Hp} {G G' : Gh} (s : StepX X H G H' G') {a : StT} {b : St} (r : RelSt S H G a b) : RelSt S H' G' a b :=
  ⟨r.1, fun i t e => let ⟨v, h1, h2⟩ := r.2 i t e; ⟨v, h1, h2.step s⟩⟩
theorem RelSt.set {S : Sta} {H : Hp} {G : Gh} {a : StT} {b : St} (r : RelSt S H G a b) (i : Nat) {t : T} {v : V} (h : RelT S H G t v) : RelSt S H G (a.set i (some t)) (b.set i (some v)) := by
  refine ⟨by simp [r.1], fun j u e => ?_⟩
  by_cases hj : i = j
  · subst hj
    by_cases hi : i < a.length
    · rw [List.getElem?_set_self hi] at e
      simp at e; subst e
      exact ⟨v, List.getElem?_set_self (by rw [← r.1]; exact hi), h⟩
    · rw [List.getElem?_eq_none (by simpa using hi)] at e; cases e
  · rw [List.getElem?_set_ne hj] at e
    obtain ⟨w, h1, h2⟩ := r.2 j u e
    exact ⟨w, by rw [List.getElem?_set_ne hj]; exact h1, h2⟩
theorem RelSt.unset {S : Sta} {H : Hp} {G : Gh} {a : StT} {b : St} (r : RelSt S H G a b) (i : Nat) (x : Option V) : RelSt S H G (a.set i none) (b.set i x) := by
  refine ⟨by simp [r.1], fun j u e => ?_⟩
  by_cases hj : i = j
  · subst hj
    by_cases hi : i < a.length
    · rw [List.getElem?_set_self hi] at e; simp at e
    · rw [List.getElem?_eq_none (by simpa using hi)] at e; cases e
  · rw [List.getElem?_set_ne hj] at e
    obtain ⟨w, h1, h2⟩ := r.2 j u e
    exact ⟨w, by rw [List.getElem?_set_ne hj]; exact h1, h2⟩
/-- an exception lies: an own class, its fields in its own dict -/
def RelX (S : Sta) (H : Hp) (G : Gh) (e : T) (cls : Value) (d : Option Addr) : Prop := ∃ c fs, e = .obj c fs ∧ cls = .ref (S.cls c) ∧ ((fs = [] ∧ d = none) ∨ ∃ dd vs, d = some dd ∧ G.Z dd ∧ H dd = some (.xd vs) ∧ RelFs S H G fs vs)
theorem RelX.step {S : Sta} {H H' : Hp} {G G' : Gh} (s : Step H G H' G') {e : T} {cls : Value} {d : Option Addr} (r : RelX S H G e cls d) : RelX S H' G' e cls d := by
  obtain ⟨c, fs, h1, h2, h⟩ := r
  refine ⟨c, fs, h1, h2, ?_⟩
  rcases h with h | ⟨dd, vs, e1, z, e2, r⟩
  · exact .inl h
  · exact .inr ⟨dd, vs, e1, s.Z _ z, (s.keep _ z (nt_of e2 fun ps z => by cases z)).trans e2, r.step s⟩

/-- the running guards: none from level 100 on, any below -/
def GdK (k : Nat) (A : Around) : Prop := 100 ≤ k → A.guards = some []
theorem GdK.mono {j k : Nat} {A : Around} (h : GdK k A) (q : j ≤ k) : GdK j A := fun w => h (Nat.le_trans w q)
theorem GdK.none {k : Nat} {A : Around} (h : GdK k A) (q : 100 ≤ k) : A.guards = some [] := h q
theorem GdK.of {k : Nat} {A : Around} (h : A.guards = some []) : GdK k A := fun _ => h
theorem GdK.low {k : Nat} {A : Around} (h : k < 100) : GdK k A := fun w => absurd w (by omega)
/-- room, and nothing handled but what is told -/
structure RoomM (m : Option (Addr × Obj)) (k : Nat) (A : Around) : Prop where
  w : L2H.RoomH k A
  hd : m = none → A.handled = none
theorem RoomM.mono {m : Option (Addr × Obj)} {j k : Nat} {A : Around} (r : RoomM m k A) (h : j ≤ k) : RoomM m j A := ⟨r.w.mono h, r.hd⟩
theorem RoomM.cold {m : Option (Addr × Obj)} {k : Nat} {A : Around} (r : RoomM m k A) (e : m = none) : Room k A := ⟨r.hd e, r.w.dp, r.w.un⟩
theorem RoomM.of {m : Option (Addr × Obj)} {k : Nat} {A : Around} (r : Room k A) : RoomM m k A := ⟨⟨r.dp, r.un⟩, fun _ => r.hd⟩
theorem RoomM.deeper {m : Option (Addr × Obj)} {k : Nat} {A : Around} (r : RoomM m (k + 1) A) (env : Env) : RoomM m k (A.deeper env) := ⟨r.w.deeper env, r.hd⟩
theorem RoomM.depth {m : Option (Addr × Obj)} {k : Nat} {A : Around} (r : RoomM m k A) : A.depth < recursionLimit := r.w.depth
theorem RoomM.in1 {m : Option (Addr × Obj)} {k : Nat} {A : Around} (r : RoomM m (k + 1) A) : RoomM m k A.in1 := by
  obtain ⟨⟨d, u⟩, h⟩ := r
  refine ⟨⟨?_, ?_⟩, h⟩
  · show A.depth + 3 * k + 5 < _
    omega
  · show A.units + 1 + 16 * k + 200 < _
    omega
theorem RoomM.make {m : Option (Addr × Obj)} {k : Nat} {A : Around} (r : RoomM m (k + 1) A) (C : Addr) (us : List Value) (kw : List (Str × Value)) : RoomM m k (A.under (.builtin "type.__call__" ⟨.ref C :: us, kw⟩)) := by
  obtain ⟨⟨d, u⟩, h⟩ := r
  refine ⟨⟨?_, ?_⟩, h⟩
  · rw [make_depth]; omega
  · rw [make_units]; omega
theorem RoomM.un {m : Option (Addr × Obj)} {k : Nat} {A : Around} (r : RoomM m k A) : A.units + 16 * k + 200 < cLine := r.w.un
theorem RoomM.dp {m : Option (Addr × Obj)} {k : Nat} {A : Around} (r : RoomM m k A) : A.depth + 3 * k + 5 < recursionLimit := r.w.dp
theorem RoomM.units0 {m : Option (Addr × Obj)} {k : Nat} {A : Around} (r : RoomM m k A) : A.units < cLine := by have := r.w.un; omega
/-- what is handled stands where it is known -/
def PinM (m : Option (Addr × Obj)) (outer : List Env) (H : Hp) (s : Shared) : Prop := ∀ p, m = some p → L2H.PinOk outer H s p
/-- where one stands -/
structure RC where
  X : Cx
  S : Sta
  W : WX
  k : Nat
structure RC.Ok (C : RC) : Prop where
  K : C.S.K = C.X.K
  calm : C.S.mo = none → C.X.calm = true
  room : RoomM C.S.mo C.k C.X.A
  pn : ∀ p, C.S.mo = some p → p ∈ C.X.pn
  gd : GdK C.k C.X.A
  nd : C.X.N.Nodup
  tk : Takes C.X C.W

theorem RC.Ok.pinM {C : RC} (ok : C.Ok) {pins : List (Addr × Obj)} {σ : St} {H : Hp} {s : Shared} (I : Inv C.X pins σ H s) : PinM C.S.mo C.X.stack H s := fun p e => by
  obtain ⟨p1, p2, p3, p4, p5⟩ := I.pin p (List.mem_append_left _ (ok.pn p e))
  exact ⟨p1, p2, fun hm => (List.mem_cons.mp (I.stkSub p.1 hm)).elim p3 p4, p5⟩
/-- what a run's end must give -/
def Out (C : RC) (σ : St) (H : Hp) (G : Gh) {A B : Type} (Rel : Hp → Gh → A → B → Prop) (r : R A) (Q : B → Hp → Prop) : Prop := match r with
  | .ok t h' => ∀ v H' G', Step H G H' G' → RepH C.S H' G' h' → Rel H' G' t v → Q v H'
  | .exc e h' => ∀ cls d H' G', Step H G H' G' → RepH C.S H' G' h' → RelX C.S H' G' e cls d → C.W cls d σ H'
  | .bad => False
theorem Out.step {C : RC} {σ : St} {H H1 : Hp} {G G1 : Gh} {A B : Type} {Rel : Hp → Gh → A → B → Prop} {r : R A} {Q : B → Hp → Prop} (s : Step H G H1 G1) (h : Out C σ H G Rel r Q) : Out C σ H1 G1 Rel r Q := by
  cases r with
  | ok t h' => exact fun v H' G' st => h v H' G' (s.trans st)
  | exc e h' => exact fun c d H' G' st => h c d H' G' (s.trans st)
  | bad => exact h
theorem Out.mono {C : RC} {σ : St} {H : Hp} {G : Gh} {A B : Type} {Rel : Hp → Gh → A → B → Prop} {r : R A} {Q Q' : B → Hp → Prop} (h : Out C σ H G Rel r Q) (q : ∀ v H, Q v H → Q' v H) : Out C σ H G Rel r Q' := by
  cases r with
  | ok t h' => exact fun v H' G' st rp rl => q _ _ (h v H' G' st rp rl)
  | exc e h' => exact h
  | bad => exact h
/-- what is known behind a first run -/
def Got (C : RC) (σ : St) (H : Hp) (G : Gh) {A B A' B' : Type} (Rel : Hp → Gh → A → B → Prop) (Rel' : Hp → Gh → A' → B' → Prop) (f : A → Hm → R A') (Q : B' → Hp → Prop) (v : B) (H' : Hp) : Prop :=
  ∃ t G' h', Step H G H' G' ∧ RepH C.S H' G' h' ∧ Rel H' G' t v ∧ Out C σ H' G' Rel' (f t h') Q
theorem Out.bind {C : RC} {σ : St} {H : Hp} {G : Gh} {A B A' B' : Type} {Rel : Hp → Gh → A → B → Prop} {Rel' : Hp → Gh → A' → B' → Prop} {r : R A} {f : A → Hm → R A'} {Q : B' → Hp → Prop} (h : Out C σ H G Rel' (r.bind f) Q) :
    Out C σ H G Rel r (Got C σ H G Rel Rel' f Q) := by
  cases r with
  | ok t h' => exact fun v H' G' st rp rl => ⟨t, G', h', st, rp, rl, Out.step st h⟩
  | exc e h' => exact h
  | bad => exact h
abbrev relE (C : RC) : Hp → Gh → T → V → Prop := fun H G t v => RelT C.S H G t v
abbrev relB : Hp → Gh → Bool → Bool → Prop := fun _ _ a b => a = b
abbrev relA (C : RC) : Hp → Gh → List T → List V → Prop := fun H G t v => RelTs C.S H G t v

/-! ### judgements -/
section
variable (C : RC)
def liE (r : ET) : TE := fun σ H Q => ∃ a G h, RepH C.S H G h ∧ RelSt C.S H G a σ ∧ Out C σ H G (relE C) (r a h) Q
def liB (r : BT) : TT := fun σ H Q => ∃ a G h, RepH C.S H G h ∧ RelSt C.S H G a σ ∧ Out C σ H G relB (r a h) Q
def liA (r : AT) : TA := fun σ H Q => ∃ a G h, RepH C.S H G h ∧ RelSt C.S H G a σ ∧ Out C σ H G (relA C) (r a h) Q
def JE (e : Expr) (r : ET) : Prop := PE C.X e (liE C r)
def JB (e : Expr) (r : BT) : Prop := PT C.X e (liB C r)
def JW (e : Expr) (r : BT) : Prop := PW C.X e (liB C r)
def JA (es : List Expr) (r : AT) : Prop := PA C.X es (liA C r)
end
section
variable {C : RC}
theorem JE.run {e : Expr} {r : ET} (j : JE C e r) {pins : List (Addr × Obj)} {s : Shared} {σ : St} {H : Hp} {G : Gh} {h : Hm} {a : StT} {Q : VK} (I : Inv C.X pins σ H s) (rp : RepH C.S H G h) (rs : RelSt C.S H G a σ)
    (o : Out C σ H G (relE C) (r a h) Q) : wpAny (model C.X.prog C.X.w) C.X.A (eval e C.X.env) (EP C.X pins σ Q) C.X.xe s := PE.run j pins s σ H Q I ⟨a, G, h, rp, rs, o⟩
theorem JB.run {e : Expr} {r : BT} (j : JB C e r) {pins : List (Addr × Obj)} {s : Shared} {σ : St} {H : Hp} {G : Gh} {h : Hm} {a : StT} {Q : Bool → Hp → Prop} (I : Inv C.X pins σ H s) (rp : RepH C.S H G h) (rs : RelSt C.S H G a σ)
    (o : Out C σ H G relB (r a h) Q) : wpAny (model C.X.prog C.X.w) C.X.A (isTrue e C.X.env (eval e C.X.env)) (TP C.X pins σ Q) C.X.xe s := PT.run j pins s σ H Q I ⟨a, G, h, rp, rs, o⟩
theorem JW.jb {e : Expr} {r : BT} (j : JW C e r) : JB C e r := PW.pt j
theorem JA.run {es : List Expr} {r : AT} (j : JA C es r) (pos : Pos) {pins : List (Addr × Obj)} {s : Shared} {σ : St} {H : Hp} {G : Gh} {h : Hm} {a : StT} {Q : List V → Hp → Prop} (I : Inv C.X pins σ H s) (rp : RepH C.S H G h) (rs : RelSt C.S H G a σ)
    (o : Out C σ H G (relA C) (r a h) Q) : wpAny (model C.X.prog C.X.w) C.X.A (spliced (backTo pos (starEach es C.X.env))) (AP C.X pins σ Q) C.X.xe s := PA.run j pos pins s σ H Q I ⟨a, G, h, rp, rs, o⟩
/-- an ordinary end -/
theorem out_ok {σ : St} {H : Hp} {G : Gh} {t : T} {h : Hm} {Q : VK} (o : Out C σ H G (relE C) (.ok t h) Q) {v : V} (rp : RepH C.S H G h) (rv : RelT C.S H G t v) : Q v H := o v H G Step.refl rp rv

/-! ### names and constants -/
def eVar (i : Nat) : ET := fun a h => match a[i]? with
  | some (some t) => .ok t h
  | _ => .bad
def eC (t : T) : ET := fun _ h => .ok t h
theorem je_var (ok : C.Ok) {i : Nat} {x : Str} {pos : Pos} (hN : C.X.N[i]? = some x) (hv : Vis C.X.env.scope x) (hd : (x == ("__debug__" : Str)) = false := by decide) (hcd : (x == ("__classdict__" : Str)) = false := by decide) : JE C (.Name x pos) (eVar i) := by
  refine ⟨fun pins s σ H Q I hw => ?_⟩
  obtain ⟨a, G, h, rp, rs, o⟩ := hw
  refine (pe_var hN hv hd hcd).run pins s σ H Q I ?_
  unfold eVar at o
  split at o
  · rename_i t e
    obtain ⟨v, h1, h2⟩ := rs.2 i t e
    exact ⟨v, h1, out_ok o rp h2⟩
  · exact False.elim o
theorem je_c {e : Expr} {v : V} (t : T) (hp : PE C.X e (tC v)) (hr : ∀ H G, RelT C.S H G t v) : JE C e (eC t) := by
  refine ⟨fun pins s σ H Q I hw => ?_⟩
  obtain ⟨a, G, h, rp, rs, o⟩ := hw
  exact hp.run pins s σ H Q I (out_ok o rp (hr H G))
theorem je_int {i : Int} {j pos} : JE C (.Constant (.int i) j pos) (eC (.int i)) := je_c _ pe_int fun _ _ => .int i
theorem je_bl {b j pos} : JE C (.Constant (.bool b) j pos) (eC (.bl b)) := je_c _ pe_bl fun _ _ => .bl b
theorem je_non {j pos} : JE C (.Constant .none j pos) (eC .non) := je_c _ pe_non fun _ _ => .non
theorem je_str {x j pos} : JE C (.Constant (.str x) j pos) (eC (.str x)) := je_c _ pe_str fun _ _ => .str x
/-- a module's constant -/
theorem je_glob {x : Str} {v : V} {u : Value} {pos : Pos} (t : T) (hg : Gl C.X x) (hm : C.X.mg x = some u) (r : RelV v u) (hr : ∀ H G, RelT C.S H G t v) (hd : (x == ("__debug__" : Str)) = false := by decide) : JE C (.Name x pos) (eC t) :=
  je_c t (pe_glob hg hm r hd) hr

/-! ### operations on values -/
abbrev O2 := T → T → Hm → R T
abbrev O1 := T → Hm → R T
def OpT (C : RC) (f : Value → Value → Sem Value) (o : O2) : Prop :=
  ∀ (pins : List (Addr × Obj)) (s : Shared) (σ : St) (H : Hp) (G : Gh) (h : Hm) (x y : T) (vx vy : V) (u w : Value) (Q : VK), Inv C.X pins σ H s → RepH C.S H G h → RelT C.S H G x vx → RelT C.S H G y vy → RelV vx u → RelV vy w →
    Out C σ H G (relE C) (o x y h) Q → wpAny (model C.X.prog C.X.w) C.X.A (f u w) (EP C.X pins σ Q) C.X.xe s
def UnT (C : RC) (f : Value → Sem Value) (o : O1) : Prop :=
  ∀ (pins : List (Addr × Obj)) (s : Shared) (σ : St) (H : Hp) (G : Gh) (h : Hm) (x : T) (vx : V) (u : Value) (Q : VK), Inv C.X pins σ H s → RepH C.S H G h → RelT C.S H G x vx → RelV vx u →
    Out C σ H G (relE C) (o x h) Q → wpAny (model C.X.prog C.X.w) C.X.A (f u) (EP C.X pins σ Q) C.X.xe s
def TrT (C : RC) (o : T → Hm → R Bool) : Prop :=
  ∀ (pins : List (Addr × Obj)) (s : Shared) (σ : St) (H : Hp) (G : Gh) (h : Hm) (x : T) (vx : V) (u : Value) (Q : Bool → Hp → Prop), Inv C.X pins σ H s → RepH C.S H G h → RelT C.S H G x vx → RelV vx u →
    Out C σ H G relB (o x h) Q → wpAny (model C.X.prog C.X.w) C.X.A (truthy u) (TP C.X pins σ Q) C.X.xe s
def CaT (C : RC) (f : Value) (o : List T → Hm → R T) : Prop :=
  ∀ (pins : List (Addr × Obj)) (s : Shared) (σ : St) (H : Hp) (G : Gh) (h : Hm) (xs : List T) (vs : List V) (us : List Value) (Q : VK), Inv C.X pins σ H s → RepH C.S H G h → RelTs C.S H G xs vs → Vals vs us →
    Out C σ H G (relE C) (o xs h) Q → wpAny (model C.X.prog C.X.w) C.X.A (call f us) (EP C.X pins σ Q) C.X.xe s
/-- from a rule of HandS -/
theorem OpT.of {f : Value → Value → Sem Value} {o : O2} {r : R2} (hr : OpR C.X f r) (hi : ∀ σ H G h x y vx vy Q, RepH C.S H G h → RelT C.S H G x vx → RelT C.S H G y vy → Out C σ H G (relE C) (o x y h) Q → r vx vy H Q) : OpT C f o :=
  fun pins s σ H G h x y vx vy u w Q I rp rx ry vu vw ho => hr pins s σ H vx vy u w Q I vu vw (hi σ H G h x y vx vy Q rp rx ry ho)
theorem UnT.of {f : Value → Sem Value} {o : O1} {r : V → Hp → VK → Prop} (hr : UnR C.X f r) (hi : ∀ σ H G h x vx Q, RepH C.S H G h → RelT C.S H G x vx → Out C σ H G (relE C) (o x h) Q → r vx H Q) : UnT C f o :=
  fun pins s σ H G h x vx u Q I rp rx vu ho => hr pins s σ H vx u Q I vu (hi σ H G h x vx Q rp rx ho)
theorem CaT.of {f : Value} {o : List T → Hm → R T} {r : List V → Hp → VK → Prop} (hr : CallR C.X f r) (hi : ∀ σ H G h xs vs Q, RepH C.S H G h → RelTs C.S H G xs vs → Out C σ H G (relE C) (o xs h) Q → r vs H Q) : CaT C f o :=
  fun pins s σ H G h xs vs us Q I rp rx vu ho => hr pins s σ H vs us Q I vu (hi σ H G h xs vs Q rp rx ho)

def eOp (o : O2) (a b : ET) : ET := fun st h => (a st h).bind fun x h1 => (b st h1).bind fun y h2 => o x y h2
def eUn (o : O1) (a : ET) : ET := fun st h => (a st h).bind fun x h1 => o x h1
theorem two {a b : Expr} {ra rb : ET} {o : O2} (ja : JE C a ra) (jb : JE C b rb) {f : Value → Value → Sem Value} (ho : OpT C f o) {pins : List (Addr × Obj)} {s : Shared} {σ : St} {H : Hp} {Q : VK} (I : Inv C.X pins σ H s)
    (hw : liE C (eOp o ra rb) σ H Q) :
    wpAny (model C.X.prog C.X.w) C.X.A (eval a C.X.env) (fun v s₁ => wpAny (model C.X.prog C.X.w) C.X.A (eval b C.X.env) (fun u s₂ => wpAny (model C.X.prog C.X.w) C.X.A (f v u) (EP C.X pins σ Q) C.X.xe s₂) C.X.xe s₁) C.X.xe s := by
  obtain ⟨st, G, h, rp, rs, ho'⟩ := hw
  refine thn (ja.run I rp rs (Out.bind (Rel := relE C) ho')) fun v s1 ⟨x, H1, I1, r1, tx, G1, h1, st1, rp1, rx, o1⟩ => ?_
  refine thn (jb.run I1 rp1 (rs.step st1) (Out.bind (Rel := relE C) o1)) fun u s2 ⟨y, H2, I2, r2, ty, G2, h2, st2, rp2, ry, o2⟩ => ?_
  exact ho pins s2 σ H2 G2 h2 tx ty x y v u Q I2 rp2 (rx.step st2) ry r1 r2 o2
theorem je_op {op : Operator} {o : O2} (ho : OpT C (binaryOp op) o) {a b : Expr} {ra rb : ET} {pos : Pos} (ja : JE C a ra) (jb : JE C b rb) : JE C (.BinOp a op b pos) (eOp o ra rb) :=
  ⟨fun pins s σ H Q I hw => wpAny_BinOp (two ja jb ho I hw)⟩
theorem je_un {op : UnaryOp} {o : O1} (ho : UnT C (unaryOp op) o) {a : Expr} {ra : ET} {pos : Pos} (ja : JE C a ra) : JE C (.UnaryOp op a pos) (eUn o ra) := by
  refine ⟨fun pins s σ H Q I hw => ?_⟩
  obtain ⟨st, G, h, rp, rs, o1⟩ := hw
  refine UnaryOp_ (thn (ja.run I rp rs (Out.bind (Rel := relE C) o1)) fun v s1 ⟨x, H1, I1, r1, tx, G1, h1, st1, rp1, rx, o2⟩ => ?_)
  exact ho pins s1 σ H1 G1 h1 tx x v Q I1 rp1 rx r1 o2
/-- a comparison -/
theorem je_cmp {op : CmpOp} {o : O2} (ho : OpT C (compareOp op) o) {a b : Expr} {ra rb : ET} {pos : Pos} (ja : JE C a ra) (jb : JE C b rb) (hm : behindInMarks op b = false) : JE C (.Compare a [op] [b] pos) (eOp o ra rb) :=
  ⟨fun pins s σ H Q I hw => wpAny_Compare1 (two ja jb ho I hw) hm⟩
/-- the truth of a value that is a bool -/
def asB : T → Hm → R Bool := fun t h => match t with
  | .bl b => .ok b h
  | _ => .bad
def bE (r : ET) : BT := fun st h => (r st h).bind asB
theorem out_asB {σ : St} {H H1 : Hp} {G G1 : Gh} {t : T} {h : Hm} {Q : Bool → Hp → Prop} {v : V} (o : Out C σ H G relB (asB t h) Q) (st : Step H G H1 G1) (rp : RepH C.S H1 G1 h) (rv : RelT C.S H1 G1 t v) : ∃ b, v = .bl b ∧ Q b H1 := by
  cases t with
  | bl b => cases rv; exact ⟨b, rfl, o b H1 G1 st rp rfl⟩
  | _ => exact False.elim o
/-- an expression whose value is a bool, as a test -/
theorem jb_val {e : Expr} {r : ET} (j : JE C e r) (he : ∀ whole, isTrue e C.X.env whole = (do let v ← whole; standAt e.pos; holding [v] (truthy v)) := by intro _; rfl) : JB C e (bE r) := by
  refine ⟨fun pins s σ H Q I hw => ?_⟩
  obtain ⟨a, G, h, rp, rs, o⟩ := hw
  refine isTrue_plain (thn (j.run I rp rs (Out.bind (Rel := relE C) o)) fun v s1 ⟨x, H1, I1, r1, tx, G1, h1, st1, rp1, rx, o1⟩ => ?_) (he _)
  obtain ⟨b, rfl, q⟩ := out_asB o1 Step.refl rp1 rx
  cases r1
  exact wpAny_truthy_bool ⟨H1, I1, q⟩
theorem jb_cmp {op : CmpOp} {o : O2} (ho : OpT C (compareOp op) o) {a b : Expr} {ra rb : ET} {pos : Pos} (ja : JE C a ra) (jb : JE C b rb) (hm : behindInMarks op b = false) : JB C (.Compare a [op] [b] pos) (bE (eOp o ra rb)) := by
  refine ⟨fun pins s σ H Q I hw => ?_⟩
  obtain ⟨st, G, h, rp, rs, o1⟩ := hw
  have hw' : liE C (eOp o ra rb) σ H (Got C σ H G (relE C) relB asB Q) := ⟨st, G, h, rp, rs, Out.bind (Rel := relE C) o1⟩
  refine wpAny_isTrue_Compare1 (thn (two ja jb ho I hw') fun v s1 h1 => thn h1 fun u s2 h2 => thn h2 fun c s3 ⟨x, H3, I3, r3, tx, G3, h3, st3, rp3, rx, o3⟩ => ?_) hm
  obtain ⟨b', rfl, q⟩ := out_asB o3 Step.refl rp3 rx
  cases r3
  exact wpAny_truthy_bool ⟨H3, I3, q⟩
/-- any expression as a test, by a rule of truth -/
def bT (o : T → Hm → R Bool) (r : ET) : BT := fun st h => (r st h).bind o
theorem jb_truth {o : T → Hm → R Bool} (ho : TrT C o) {e : Expr} {r : ET} (j : JE C e r) (he : ∀ whole, isTrue e C.X.env whole = (do let v ← whole; standAt e.pos; holding [v] (truthy v)) := by intro _; rfl) : JB C e (bT o r) := by
  refine ⟨fun pins s σ H Q I hw => ?_⟩
  obtain ⟨a, G, h, rp, rs, o1⟩ := hw
  refine isTrue_plain (thn (j.run I rp rs (Out.bind (Rel := relE C) o1)) fun v s1 ⟨x, H1, I1, r1, tx, G1, h1, st1, rp1, rx, o2⟩ => ?_) (he _)
  exact ho pins s1 σ H1 G1 h1 tx x v Q I1 rp1 rx r1 o2

/-! ### and, or, not -/
def bAnd (a b : BT) : BT := fun st h => (a st h).bind fun c h1 => if c then b st h1 else .ok false h1
def bOr (a b : BT) : BT := fun st h => (a st h).bind fun c h1 => if c then .ok true h1 else b st h1
def bNot (a : BT) : BT := fun st h => (a st h).bind fun c h1 => .ok (!c) h1
variable {a b : Expr} {rest : List Expr} {pos : Pos} {ra rb : BT}
theorem jw_one {op} (ja : JB C a ra) : JW C (.BoolOp op [a] pos) ra := by
  refine ⟨fun wh pins s σ H Q I hw => ?_⟩
  cases op with
  | And => exact (pw_and1 (tA := liB C ra) ja).run wh pins s σ H Q I hw
  | Or => exact (pw_or1 (tA := liB C ra) ja).run wh pins s σ H Q I hw
theorem jw_and (ja : JB C a ra) (jb : JW C (.BoolOp .And (b :: rest) pos) rb) : JW C (.BoolOp .And (a :: b :: rest) pos) (bAnd ra rb) := by
  refine ⟨fun wh pins s σ H Q I hw => ?_⟩
  obtain ⟨st, G, h, rp, rs, o⟩ := hw
  refine (pw_and (tA := liB C ra) (tB' := liB C rb) ja jb).run wh pins s σ H Q I ⟨st, G, h, rp, rs, (Out.bind (Rel := relB) o).mono fun c H1 ⟨t, G1, h1, st1, rp1, e, o1⟩ => ?_⟩
  subst e
  cases t with
  | true => exact ⟨st, G1, h1, rp1, rs.step st1, o1⟩
  | false => exact o1 _ _ _ Step.refl rp1 rfl
theorem jw_or (ja : JB C a ra) (jb : JW C (.BoolOp .Or (b :: rest) pos) rb) : JW C (.BoolOp .Or (a :: b :: rest) pos) (bOr ra rb) := by
  refine ⟨fun wh pins s σ H Q I hw => ?_⟩
  obtain ⟨st, G, h, rp, rs, o⟩ := hw
  refine (pw_or (tA := liB C ra) (tB' := liB C rb) ja jb).run wh pins s σ H Q I ⟨st, G, h, rp, rs, (Out.bind (Rel := relB) o).mono fun c H1 ⟨t, G1, h1, st1, rp1, e, o1⟩ => ?_⟩
  subst e
  cases t with
  | false => exact ⟨st, G1, h1, rp1, rs.step st1, o1⟩
  | true => exact o1 _ _ _ Step.refl rp1 rfl
theorem jb_not (ja : JB C a ra) : JB C (.UnaryOp .Not a pos) (bNot ra) := by
  refine ⟨fun pins s σ H Q I hw => ?_⟩
  obtain ⟨st, G, h, rp, rs, o⟩ := hw
  refine (pt_not (tA := liB C ra) ja).run pins s σ H Q I ⟨st, G, h, rp, rs, (Out.bind (Rel := relB) o).mono fun c H1 ⟨t, G1, h1, st1, rp1, e, o1⟩ => ?_⟩
  subst e
  exact o1 _ _ _ Step.refl rp1 rfl
/-- .. as values, all but the last bools -/
def eAnd (a b : ET) : ET := fun st h => (bE a st h).bind fun c h1 => if c then b st h1 else .ok (.bl false) h1
def eOr (a b : ET) : ET := fun st h => (bE a st h).bind fun c h1 => if c then .ok (.bl true) h1 else b st h1
def eNot (a : ET) : ET := fun st h => (bE a st h).bind fun c h1 => .ok (.bl (!c)) h1
/-- a value that is a bool, told -/
theorem run_bE {e : Expr} {r : ET} (j : JE C e r) {A B : Type} {Rel : Hp → Gh → A → B → Prop} {pins : List (Addr × Obj)} {s : Shared} {σ : St} {H : Hp} {G : Gh} {h : Hm} {st : StT} {f : Bool → Hm → R A} {Q : B → Hp → Prop} (I : Inv C.X pins σ H s) (rp : RepH C.S H G h) (rs : RelSt C.S H G st σ)
    (o : Out C σ H G Rel ((bE r st h).bind f) Q) : wpAny (model C.X.prog C.X.w) C.X.A (eval e C.X.env) (EP C.X pins σ fun v H1 => ∃ b G1 h1, v = .bl b ∧ Step H G H1 G1 ∧ RepH C.S H1 G1 h1 ∧ Out C σ H1 G1 Rel (f b h1) Q) C.X.xe s := by
  refine j.run I rp rs ?_
  have o' := Out.bind (Rel := relB) o
  refine (Out.bind (Rel := relE C) o').mono fun v H1 ⟨t, G1, h1, st1, rp1, rx, o1⟩ => ?_
  obtain ⟨b, rfl, t2, G2, h2, st2, rp2, e, o2⟩ := out_asB o1 Step.refl rp1 rx
  subst e
  exact ⟨t2, G2, h2, rfl, st2, rp2, o2⟩
variable {ea eb : ET}
theorem je_one {op} (ja : JE C a ea) : JE C (.BoolOp op [a] pos) ea := pe_one ja
theorem je_and (ja : JE C a ea) (jb : JE C (.BoolOp .And (b :: rest) pos) eb) : JE C (.BoolOp .And (a :: b :: rest) pos) (eAnd ea eb) := by
  refine ⟨fun pins s σ H Q I hw => ?_⟩
  obtain ⟨st, G, h, rp, rs, o⟩ := hw
  refine BoolOp_and (thn (run_bE ja I rp rs o) fun v s1 ⟨x, H1, I1, r1, c, G1, h1, e, st1, rp1, o1⟩ => ?_)
  subst e
  cases r1
  refine wpAny_truthy_bool ?_
  cases c with
  | true => exact jb.run I1 rp1 (rs.step st1) o1
  | false => exact ⟨.bl false, H1, I1, rfl, out_ok o1 rp1 (.bl false)⟩
theorem je_or (ja : JE C a ea) (jb : JE C (.BoolOp .Or (b :: rest) pos) eb) : JE C (.BoolOp .Or (a :: b :: rest) pos) (eOr ea eb) := by
  refine ⟨fun pins s σ H Q I hw => ?_⟩
  obtain ⟨st, G, h, rp, rs, o⟩ := hw
  refine BoolOp_or (thn (run_bE ja I rp rs o) fun v s1 ⟨x, H1, I1, r1, c, G1, h1, e, st1, rp1, o1⟩ => ?_)
  subst e
  cases r1
  refine wpAny_truthy_bool ?_
  cases c with
  | false => exact jb.run I1 rp1 (rs.step st1) o1
  | true => exact ⟨.bl true, H1, I1, rfl, out_ok o1 rp1 (.bl true)⟩
/-- not, as a value: of anything with a truth -/
def eNotT (o : T → Hm → R Bool) (a : ET) : ET := fun st h => (a st h).bind fun x h1 => (o x h1).bind fun c h2 => .ok (.bl (!c)) h2
theorem je_not {o : T → Hm → R Bool} (ho : TrT C o) (ja : JE C a ea) : JE C (.UnaryOp .Not a pos) (eNotT o ea) := by
  refine ⟨fun pins s σ H Q I hw => ?_⟩
  obtain ⟨st, G, h, rp, rs, o1⟩ := hw
  refine UnaryOp_ (thn (ja.run I rp rs (Out.bind (Rel := relE C) o1)) fun v s1 ⟨x, H1, I1, r1, tx, G1, h1, st1, rp1, rx, o2⟩ => ?_)
  refine not_of (thn (ho pins s1 σ H1 G1 h1 tx x v _ I1 rp1 rx r1 (Out.bind (Rel := relB) o2)) fun c s2 ⟨H2, I2, t, G2, h2, st2, rp2, e, o3⟩ => ?_)
  subst e
  exact ⟨.bl (!t), H2, I2, rfl, out_ok o3 rp2 (.bl _)⟩
/-- a if t else b -/
def eIf (t : BT) (a b : ET) : ET := fun st h => (t st h).bind fun c h1 => if c then a st h1 else b st h1
theorem je_if {c : Expr} {rc : BT} (jc : JB C c rc) (ja : JE C a ea) (jb : JE C b eb) : JE C (.IfExp c a b pos) (eIf rc ea eb) := by
  refine ⟨fun pins s σ H Q I hw => ?_⟩
  obtain ⟨st, G, h, rp, rs, o⟩ := hw
  refine wpAny_IfExp (thn (jc.run I rp rs (Out.bind (Rel := relB) o)) fun d s1 ⟨H1, I1, t, G1, h1, st1, rp1, e, o1⟩ => ?_)
  subst e
  cases t with
  | true => exact ja.run I1 rp1 (rs.step st1) o1
  | false => exact jb.run I1 rp1 (rs.step st1) o1

/-! ### arguments, displays -/
def aNil : AT := fun _ h => .ok [] h
def aCons (a : ET) (r : AT) : AT := fun st h => (a st h).bind fun x h1 => (r st h1).bind fun xs h2 => .ok (x :: xs) h2
theorem ja_nil : JA C [] aNil := by
  refine ⟨fun pos pins s σ H Q I hw => ?_⟩
  obtain ⟨st, G, h, rp, rs, o⟩ := hw
  exact pa_nil.run pos pins s σ H Q I (o [] H G Step.refl rp .nil)
theorem ja_cons {es : List Expr} {r : AT} (ja : JE C a ea) (jr : JA C es r) (hs : starEach (a :: es) C.X.env = (false, eval a C.X.env) :: starEach es C.X.env := by rfl) : JA C (a :: es) (aCons ea r) := by
  refine ⟨fun pos pins s σ H Q I hw => ?_⟩
  obtain ⟨st, G, h, rp, rs, o⟩ := hw
  rw [hs]
  show wpAny _ _ (spliced ((false, eval a C.X.env) :: backTo pos (starEach es C.X.env))) _ _ s
  refine Calls.spliced_cons (thn (ja.run I rp rs (Out.bind (Rel := relE C) o)) fun u s1 ⟨x, H1, I1, r1, tx, G1, h1, st1, rp1, rx, o1⟩ => ?_)
  refine thn (jr.run pos I1 rp1 (rs.step st1) (Out.bind (Rel := relA C) o1)) fun us s2 ⟨xs, H2, I2, r2, txs, G2, h2, st2, rp2, rxs, o2⟩ => ?_
  exact ⟨x :: xs, H2, I2, .cons r1 r2, o2 _ _ _ Step.refl rp2 (.cons (rx.step st2) rxs)⟩
def eTup (r : AT) : ET := fun st h => (r st h).bind fun xs h1 => if xs.length ≤ sizeLine then .ok (.tup xs) h1 else .bad
/-- a list that is never changed -/
def eLst (r : AT) : ET := fun st h => (r st h).bind fun xs h1 => if xs.length ≤ sizeLine then .ok (.lst xs) h1 else .bad
/-- a list that is a cell -/
def eLstM (r : AT) : ET := fun st h => (r st h).bind fun xs h1 => if decide (xs.length ≤ sizeLine) && T.noRefs xs then .ok (.ref h1.length) (h1 ++ [some (.lst xs)]) else .bad
theorem je_tup {es : List Expr} {r : AT} {k} (j : JA C es r) : JE C (.Tuple es k pos) (eTup r) := by
  refine ⟨fun pins s σ H Q I hw => ?_⟩
  obtain ⟨st, G, h, rp, rs, o⟩ := hw
  refine (pe_tup (t := liA C r) j).run pins s σ H Q I ⟨st, G, h, rp, rs, (Out.bind (Rel := relA C) o).mono fun xs H1 ⟨txs, G1, h1, st1, rp1, rxs, o1⟩ => ?_⟩
  dsimp only at o1
  split at o1
  · rename_i hl
    refine ⟨by rw [← rxs.length]; exact hl, fun p hp => ?_⟩
    obtain ⟨st2, rp2⟩ := rp1.newF (o := .tup xs) hp
    exact o1 _ _ _ st2 rp2 (.tup (.inl ⟨.inl rfl, .inl upd_same⟩) (rxs.step st2))
  · exact False.elim o1
theorem je_lst {es : List Expr} {r : AT} (j : JA C es r) : JE C (.List es pos) (eLst r) := by
  refine ⟨fun pins s σ H Q I hw => ?_⟩
  obtain ⟨st, G, h, rp, rs, o⟩ := hw
  refine (pe_lst (t := liA C r) j).run pins s σ H Q I ⟨st, G, h, rp, rs, (Out.bind (Rel := relA C) o).mono fun xs H1 ⟨txs, G1, h1, st1, rp1, rxs, o1⟩ => ?_⟩
  dsimp only at o1
  split at o1
  · rename_i hl
    refine ⟨by rw [← rxs.length]; exact hl, fun p hp => ?_⟩
    obtain ⟨st2, rp2⟩ := rp1.newF (o := .lst xs) hp
    exact o1 _ _ _ st2 rp2 (.lst (.inl ⟨.inl rfl, .inl upd_same⟩) (rxs.step st2))
  · exact False.elim o1
theorem je_lstM {es : List Expr} {r : AT} (j : JA C es r) : JE C (.List es pos) (eLstM r) := by
  refine ⟨fun pins s σ H Q I hw => ?_⟩
  obtain ⟨st, G, h, rp, rs, o⟩ := hw
  refine (pe_lst (t := liA C r) j).run pins s σ H Q I ⟨st, G, h, rp, rs, (Out.bind (Rel := relA C) o).mono fun xs H1 ⟨txs, G1, h1, st1, rp1, rxs, o1⟩ => ?_⟩
  dsimp only at o1
  split at o1
  · rename_i hl
    obtain ⟨hl, hn⟩ := band hl
    refine ⟨by rw [← rxs.length]; exact of_decide_eq_true hl, fun p hp => ?_⟩
    obtain ⟨st2, rp2⟩ := rp1.newC (o := .lst xs) hp (.lst rxs) hn
    refine o1 _ _ _ st2 rp2 (.ref ?_)
    show (G1.mu ++ [p])[h1.length]? = some p
    rw [rp1.len, List.getElem?_append_right (Nat.le_refl _)]
    simp
  · exact False.elim o1
/-- {} that is never changed -/
def eEmp : ET := fun _ h => .ok .emp h
end
end RT
set_option Elab.async false
set_option linter.all false
set_option maxRecDepth 100000
set_option maxHeartbeats 4000000
/-! RT, part c: operators and comparisons of plain values; trees as data of the library. -/
namespace RT
open PySem PySem.Spec L2
open PyProof.Rows hiding St

/-! ### trees as data -/
mutual
def T.toD : T → Option PyData
  | .non => some .none
  | .bl b => some (.bool b)
  | .int i => some (.int i)
  | .str s => some (.str s)
  | .tup xs => (T.toDs xs).map .tuple
  | .lst xs => (T.toDs xs).map .list
  | .ref _ => none
  | .obj _ _ => none
  | .fn _ => none
  | .emp => none
  | .ty _ => none
  | .cl _ => none
  | .exo _ _ => none
  | .xh _ _ => none
  | .clo _ => none
  | .slc _ _ => none
def T.toDs : List T → Option (List PyData)
  | [] => some []
  | x :: r => match x.toD, T.toDs r with
    | some d, some ds => some (d :: ds)
    | _, _ => none
end
theorem toDs_cons {x : T} {r : List T} {ds : List PyData} (e : T.toDs (x :: r) = some ds) : ∃ d ds', x.toD = some d ∧ T.toDs r = some ds' ∧ ds = d :: ds' := by
  rw [T.toDs] at e
  split at e
  · rename_i d ds' h1 h2
    cases e
    exact ⟨d, ds', h1, h2, rfl⟩
  · cases e
/-- a value, a list that is a cell too -/
def T.toDh (h : Hm) (t : T) : Option PyData := match t with
  | .ref l => (match h[l]? with
    | some (some (.lst xs)) => (T.toDs xs).map .list
    | _ => none)
  | t => t.toD
mutual
theorem plain_toD : ∀ {t : T} {d : PyData}, t.toD = some d → d.plain = true ∧ d.hasDict = false
  | .non, d, e => by rw [T.toD] at e; cases e; exact ⟨rfl, by simp [PyData.hasDict]⟩
  | .bl b, d, e => by rw [T.toD] at e; cases e; exact ⟨rfl, by simp [PyData.hasDict]⟩
  | .int b, d, e => by rw [T.toD] at e; cases e; exact ⟨rfl, by simp [PyData.hasDict]⟩
  | .str b, d, e => by rw [T.toD] at e; cases e; exact ⟨rfl, by simp [PyData.hasDict]⟩
  | .tup xs, d, e => by
    rw [T.toD] at e
    cases q : T.toDs xs with
    | none => rw [q] at e; cases e
    | some ds =>
      rw [q] at e; cases e
      have := plain_toDs q
      exact ⟨by simp [PyData.plain, this.1], by simp [PyData.hasDict, this.2]⟩
  | .lst xs, d, e => by
    rw [T.toD] at e
    cases q : T.toDs xs with
    | none => rw [q] at e; cases e
    | some ds =>
      rw [q] at e; cases e
      have := plain_toDs q
      exact ⟨by simp [PyData.plain, this.1], by simp [PyData.hasDict, this.2]⟩
  | .ref _, d, e => by rw [T.toD] at e; cases e
  | .obj _ _, d, e => by rw [T.toD] at e; cases e
  | .fn _, d, e => by rw [T.toD] at e; cases e
  | .emp, d, e => by rw [T.toD] at e; cases e
  | .ty _, d, e => by rw [T.toD] at e; cases e
  | .cl _, d, e => by rw [T.toD] at e; cases e
  | .exo _ _, d, e => by rw [T.toD] at e; cases e
  | .xh _ _, d, e => by rw [T.toD] at e; cases e
  | .clo _, d, e => by rw [T.toD] at e; cases e
  | .slc _ _, d, e => by rw [T.toD] at e; cases e
theorem plain_toDs : ∀ {t : List T} {d : List PyData}, T.toDs t = some d → PyData.plainAll d = true ∧ PyData.hasDictAll d = false
  | [], d, e => by rw [T.toDs] at e; cases e; exact ⟨rfl, by simp [PyData.hasDictAll]⟩
  | x :: r, d, e => by
    obtain ⟨a, ds, h1, h2, rfl⟩ := toDs_cons e
    have p1 := plain_toD h1
    have p2 := plain_toDs h2
    exact ⟨by simp [PyData.plainAll, p1.1, p2.1], by simp [PyData.hasDictAll, p1.2, p2.2]⟩
end
section
variable {C : RC} {pins : List (Addr × Obj)} {σ : St} {H : Hp} {G : Gh} {s : Shared}
mutual
theorem reads_of (K : C.S.K = C.X.K) (I : Inv C.X pins σ H s) : ∀ {t : T} {v : V} {u : Value} {d : PyData}, RelT C.S H G t v → RelV v u → t.toD = some d → ∃ as, Reads s.heap u d as
  | .non, _, _, _, w, r, e => by cases w; rw [T.toD] at e; cases e; cases r; exact ⟨_, .none⟩
  | .bl b, _, _, _, w, r, e => by cases w; rw [T.toD] at e; cases e; cases r; exact ⟨_, .bool b⟩
  | .int b, _, _, _, w, r, e => by cases w; rw [T.toD] at e; cases e; obtain ⟨t, rfl⟩ := r; exact ⟨_, .int b t⟩
  | .str b, _, _, _, w, r, e => by cases w; rw [T.toD] at e; cases e; obtain ⟨t, rfl⟩ := r; exact ⟨_, .str b t⟩
  | .tup xs, _, _, _, w, r, e => by
    cases w with
    | tup hz hr =>
      cases r
      rw [T.toD] at e
      cases q : T.toDs xs with
      | none => rw [q] at e; cases e
      | some ds =>
        rw [q] at e; cases e
        have sq := hz.sq
        rw [K] at sq
        obtain ⟨its, rv, ⟨o, ho, hc, n, hd⟩, _⟩ := I.tuple sq
        obtain ⟨as, ra⟩ := readsAll_of K I hr rv q
        exact ⟨as, .tuple ho hc hd (by simpa using ra)⟩
  | .lst xs, _, _, _, w, r, e => by
    cases w with
    | lst hz hr =>
      cases r
      rw [T.toD] at e
      cases q : T.toDs xs with
      | none => rw [q] at e; cases e
      | some ds =>
        rw [q] at e; cases e
        have sq := hz.sq
        rw [K] at sq
        obtain ⟨its, rv, ⟨o, n, ho, hc, hdi, hd⟩, _⟩ := I.list sq
        obtain ⟨as, ra⟩ := readsAll_of K I hr rv q
        exact ⟨_, .list ho hc hd (by simpa using ra)⟩
  | .ref _, _, _, _, _, _, e => by rw [T.toD] at e; cases e
  | .obj _ _, _, _, _, _, _, e => by rw [T.toD] at e; cases e
  | .fn _, _, _, _, _, _, e => by rw [T.toD] at e; cases e
  | .emp, _, _, _, _, _, e => by rw [T.toD] at e; cases e
  | .ty _, _, _, _, _, _, e => by rw [T.toD] at e; cases e
  | .cl _, _, _, _, _, _, e => by rw [T.toD] at e; cases e
  | .exo _ _, _, _, _, _, _, e => by rw [T.toD] at e; cases e
  | .xh _ _, _, _, _, _, _, e => by rw [T.toD] at e; cases e
  | .clo _, _, _, _, _, _, e => by rw [T.toD] at e; cases e
  | .slc _ _, _, _, _, _, _, e => by rw [T.toD] at e; cases e
theorem readsAll_of (K : C.S.K = C.X.K) (I : Inv C.X pins σ H s) : ∀ {t : List T} {v : List V} {u : List Value} {d : List PyData}, RelTs C.S H G t v → Vals v u → T.toDs t = some d → ∃ as, ReadsAll s.heap u d as
  | [], _, _, _, w, r, e => by cases w; rw [T.toDs] at e; cases e; cases r; exact ⟨_, .nil⟩
  | x :: xs, _, _, _, w, r, e => by
    cases w with
    | cons h1 h2 =>
      obtain ⟨a, ds, e1, e2, rfl⟩ := toDs_cons e
      cases r with
      | cons r1 r2 =>
        obtain ⟨as, q1⟩ := reads_of K I h1 r1 e1
        obtain ⟨bs, q2⟩ := readsAll_of K I h2 r2 e2
        exact ⟨_, .cons q1 q2⟩
end
theorem readsH_of (K : C.S.K = C.X.K) (I : Inv C.X pins σ H s) {h : Hm} (rp : RepH C.S H G h) {t : T} {v : V} {u : Value} {d : PyData} (r : RelT C.S H G t v) (rv : RelV v u) (e : t.toDh h = some d) : (∃ as, Reads s.heap u d as) ∧ d.plain = true ∧ d.hasDict = false := by
  cases t with
  | ref l =>
    unfold T.toDh at e
    dsimp only at e
    split at e
    · rename_i xs q
      cases q2 : T.toDs xs with
      | none => rw [q2] at e; cases e
      | some ds =>
        rw [q2] at e; cases e
        cases r with
        | ref hl =>
          cases rv
          obtain ⟨a', o, h1, h2, h3, _, _⟩ := rp.cell l _ q
          rw [hl] at h1; cases h1
          cases h3 with
          | lst rs =>
            obtain ⟨_, its, n, rv, ho⟩ := (show ObjOk C.X.prog C.X.w H s.heap _ (.lst _) from I.hok _ _ h2)
            obtain ⟨as, ra⟩ := readsAll_of K I rs rv q2
            have p := plain_toDs q2
            exact ⟨⟨_, .list ho rfl rfl (by simpa using ra)⟩, by simp [PyData.plain, p.1], by simp [PyData.hasDict, p.2]⟩
    · cases e
  | _ => exact ⟨reads_of K I r rv e, plain_toD e⟩
end

/-! ### ints that fit -/
set_option exponentiation.threshold 2000 in
def LIM : Nat := 2 ^ 1900
def fit (i : Int) : Bool := decide (i.natAbs < LIM)
theorem fit_lt {i : Int} (h : fit i = true) : i.natAbs < 2 ^ 1900 := of_decide_eq_true h
theorem fit_of {i : Int} (h1 : -(10 ^ 200) ≤ i) (h2 : i ≤ 10 ^ 200) : fit i = true := by
  have e : (10 : Nat) ^ 200 < LIM := by decide +kernel
  have e' : ((10 : Int) ^ 200) = ((10 ^ 200 : Nat) : Int) := by decide +kernel
  unfold fit
  rw [e'] at h1 h2
  exact decide_eq_true (Nat.lt_of_le_of_lt (by omega) e)
theorem fit_log {i : Int} (h : fit i = true) : i.natAbs.log2 < 1920 := by
  by_cases z : i.natAbs = 0
  · rw [z]; decide
  · have := (Nat.log2_lt z).mpr (fit_lt h)
    omega

/-! ### operators -/
def opAdd : O2 := fun x y h => match x, y with
  | .int i, .int j => .ok (.int (i + j)) h
  | .str a, .str b => if a.length + b.length ≤ sizeLine then .ok (.str (a ++ b)) h else .bad
  | _, _ => .bad
def opSub : O2 := fun x y h => match x, y with
  | .int i, .int j => .ok (.int (i - j)) h
  | _, _ => .bad
def opMul : O2 := fun x y h => match x, y with
  | .int i, .int j => if fit i && fit j then .ok (.int (i * j)) h else .bad
  | _, _ => .bad
def opMod : O2 := fun x y h => match x, y with
  | .int i, .int j => if 0 < j then .ok (.int (i % j)) h else .bad
  | _, _ => .bad
def opFdiv : O2 := fun x y h => match x, y with
  | .int i, .int j => if decide (0 < j) && fit j then .ok (.int (i / j)) h else .bad
  | _, _ => .bad
def opPow : O2 := fun x y h => match x, y with
  | .int i, .int j => if decide (0 ≤ j) && (decide (j ≤ 1000) && decide (i.natAbs < 2 ^ 64)) then .ok (.int (i ^ j.toNat)) h else .bad
  | _, _ => .bad
def opShl : O2 := fun x y h => match x, y with
  | .int i, .int j => if decide (0 ≤ j) && (decide (j ≤ 1000) && decide (i.natAbs < 2 ^ 64)) then .ok (.int (i * 2 ^ j.toNat)) h else .bad
  | _, _ => .bad
def opNeg : O1 := fun x h => match x with
  | .int i => .ok (.int (-i)) h
  | _ => .bad
def opLt : O2 := fun x y h => match x, y with
  | .int i, .int j => .ok (.bl (decide (i < j))) h
  | .str a, .str b => .ok (.bl (decide (a.cps.toList < b.cps.toList))) h
  | _, _ => .bad
def opLe : O2 := fun x y h => match x, y with
  | .int i, .int j => .ok (.bl (decide (i ≤ j))) h
  | .str a, .str b => .ok (.bl (!decide (b.cps.toList < a.cps.toList))) h
  | _, _ => .bad
def opGt : O2 := fun x y h => match x, y with
  | .int i, .int j => .ok (.bl (decide (j < i))) h
  | .str a, .str b => .ok (.bl (decide (b.cps.toList < a.cps.toList))) h
  | _, _ => .bad
def opGe : O2 := fun x y h => match x, y with
  | .int i, .int j => .ok (.bl (decide (j ≤ i))) h
  | .str a, .str b => .ok (.bl (!decide (a.cps.toList < b.cps.toList))) h
  | _, _ => .bad
def opEq : O2 := fun x y h => match x.toDh h, y.toDh h with
  | some a, some b => if min a.depth b.depth ≤ 150 then .ok (.bl (PyData.eqv a b)) h else .bad
  | _, _ => .bad
def opNe : O2 := fun x y h => match x.toDh h, y.toDh h with
  | some a, some b => if min a.depth b.depth ≤ 150 then .ok (.bl (!PyData.eqv a b)) h else .bad
  | _, _ => .bad
def opIsN : O2 := fun x y h => match y with
  | .non => .ok (.bl (match x with | .non => true | _ => false)) h
  | _ => .bad
def opNotN : O2 := fun x y h => match y with
  | .non => .ok (.bl (match x with | .non => false | _ => true)) h
  | _ => .bad
/-- a text of one sign -/
def sign? (s : Str) : Option Nat := match s.cps.toList with
  | [c] => some c
  | _ => none
theorem sign_of {s : Str} {c : Nat} (h : sign? s = some c) : s = ⟨#[c]⟩ := by
  unfold sign? at h
  split at h
  · rename_i d e
    cases h
    obtain ⟨a⟩ := s
    have e' : a.toList = [c] := e
    have : a = [c].toArray := by rw [← e']
    rw [this]
  · cases h
/-- in: a sign in a text; an item of a list or tuple of data -/
def opIn : O2 := fun x y h => match y with
  | .str z => (match x with
    | .str a => (match sign? a with
      | some c => .ok (.bl (decide (c ∈ z.cps.toList))) h
      | none => .bad)
    | _ => .bad)
  | y => (match x.toD, y.toDh h with
    | some a, some (.list ds) => if min (PyData.depthAll ds) a.depth ≤ 150 then .ok (.bl (ds.any fun y => PyData.eqv y a)) h else .bad
    | some a, some (.tuple ds) => if min (PyData.depthAll ds) a.depth ≤ 150 then .ok (.bl (ds.any fun y => PyData.eqv y a)) h else .bad
    | _, _ => .bad)
def opNotIn : O2 := fun x y h => match y with
  | .str z => (match x with
    | .str a => (match sign? a with
      | some c => .ok (.bl (!decide (c ∈ z.cps.toList))) h
      | none => .bad)
    | _ => .bad)
  | y => (match x.toD, y.toDh h with
    | some a, some (.list ds) => if min (PyData.depthAll ds) a.depth ≤ 150 then .ok (.bl (!ds.any fun y => PyData.eqv y a)) h else .bad
    | some a, some (.tuple ds) => if min (PyData.depthAll ds) a.depth ≤ 150 then .ok (.bl (!ds.any fun y => PyData.eqv y a)) h else .bad
    | _, _ => .bad)
section
variable {C : RC}
theorem op_addT : OpT C (binaryOp .Add) opAdd := by
  refine OpT.of (op_add.or op_add_str) fun σ H G h x y vx vy Q rp rx ry o => ?_
  unfold opAdd at o
  split at o
  · cases rx; cases ry; exact .inl ⟨_, _, rfl, rfl, out_ok o rp (.int _)⟩
  · cases rx; cases ry
    split at o
    · rename_i hl; exact .inr ⟨_, _, rfl, rfl, hl, out_ok o rp (.str _)⟩
    · exact False.elim o
  · exact False.elim o
theorem op_subT : OpT C (binaryOp .Sub) opSub := by
  refine OpT.of op_sub fun σ H G h x y vx vy Q rp rx ry o => ?_
  unfold opSub at o
  split at o
  · cases rx; cases ry; exact ⟨_, _, rfl, rfl, out_ok o rp (.int _)⟩
  · exact False.elim o
theorem op_mulT : OpT C (binaryOp .Mult) opMul := by
  refine OpT.of op_mulX fun σ H G h x y vx vy Q rp rx ry o => ?_
  unfold opMul at o
  split at o
  · cases rx; cases ry
    split at o
    · rename_i hf
      obtain ⟨f1, f2⟩ := Bool.and_eq_true_iff.mp hf
      exact ⟨_, _, rfl, rfl, mulx_ok (fit_lt f1) (fit_lt f2) (by omega), out_ok o rp (.int _)⟩
    · exact False.elim o
  · exact False.elim o
theorem op_modT : OpT C (binaryOp .Mod) opMod := by
  refine OpT.of op_mod fun σ H G h x y vx vy Q rp rx ry o => ?_
  unfold opMod at o
  split at o
  · cases rx; cases ry
    split at o
    · rename_i hf; exact ⟨_, _, rfl, rfl, hf, out_ok o rp (.int _)⟩
    · exact False.elim o
  · exact False.elim o
theorem op_fdivT : OpT C (binaryOp .FloorDiv) opFdiv := by
  refine OpT.of op_fdivW fun σ H G h x y vx vy Q rp rx ry o => ?_
  unfold opFdiv at o
  split at o
  · cases rx; cases ry
    split at o
    · rename_i hf
      obtain ⟨f1, f2⟩ := Bool.and_eq_true_iff.mp hf
      exact ⟨_, _, rfl, rfl, wide_div (of_decide_eq_true f1) (fit_lt f2) (by omega) (by omega), out_ok o rp (.int _)⟩
    · exact False.elim o
  · exact False.elim o
theorem op_powT : OpT C (binaryOp .Pow) opPow := by
  refine OpT.of op_pow fun σ H G h x y vx vy Q rp rx ry o => ?_
  unfold opPow at o
  split at o
  · cases rx; cases ry
    split at o
    · rename_i hf
      obtain ⟨f1, f2⟩ := Bool.and_eq_true_iff.mp hf
      obtain ⟨f2, f3⟩ := Bool.and_eq_true_iff.mp f2
      have h2 := of_decide_eq_true f2
      exact ⟨_, _, rfl, rfl, ⟨of_decide_eq_true f1, by omega, of_decide_eq_true f3⟩, out_ok o rp (.int _)⟩
    · exact False.elim o
  · exact False.elim o
theorem op_shlT : OpT C (binaryOp .LShift) opShl := by
  refine OpT.of op_shl fun σ H G h x y vx vy Q rp rx ry o => ?_
  unfold opShl at o
  split at o
  · cases rx; cases ry
    split at o
    · rename_i hf
      obtain ⟨f1, f2⟩ := Bool.and_eq_true_iff.mp hf
      obtain ⟨f2, f3⟩ := Bool.and_eq_true_iff.mp f2
      have h2 := of_decide_eq_true f2
      exact ⟨_, _, rfl, rfl, ⟨of_decide_eq_true f1, by omega, of_decide_eq_true f3⟩, out_ok o rp (.int _)⟩
    · exact False.elim o
  · exact False.elim o
theorem un_negT : UnT C (unaryOp .USub) opNeg := by
  refine UnT.of un_neg fun σ H G h x vx Q rp rx o => ?_
  unfold opNeg at o
  split at o
  · cases rx; exact ⟨_, rfl, out_ok o rp (.int _)⟩
  · exact False.elim o
theorem op_ltT' : OpT C (compareOp .Lt) opLt := by
  refine OpT.of (op_lt.or op_lt_str) fun σ H G h x y vx vy Q rp rx ry o => ?_
  unfold opLt at o
  split at o
  · cases rx; cases ry; exact .inl ⟨_, _, rfl, rfl, out_ok o rp (.bl _)⟩
  · cases rx; cases ry; exact .inr ⟨_, _, rfl, rfl, out_ok o rp (.bl _)⟩
  · exact False.elim o
theorem op_leT : OpT C (compareOp .LtE) opLe := by
  refine OpT.of (op_le.or op_le_str) fun σ H G h x y vx vy Q rp rx ry o => ?_
  unfold opLe at o
  split at o
  · cases rx; cases ry; exact .inl ⟨_, _, rfl, rfl, out_ok o rp (.bl _)⟩
  · cases rx; cases ry; exact .inr ⟨_, _, rfl, rfl, out_ok o rp (.bl _)⟩
  · exact False.elim o
theorem op_gtT : OpT C (compareOp .Gt) opGt := by
  refine OpT.of (op_gt.or op_gt_str) fun σ H G h x y vx vy Q rp rx ry o => ?_
  unfold opGt at o
  split at o
  · cases rx; cases ry; exact .inl ⟨_, _, rfl, rfl, out_ok o rp (.bl _)⟩
  · cases rx; cases ry; exact .inr ⟨_, _, rfl, rfl, out_ok o rp (.bl _)⟩
  · exact False.elim o
theorem op_geT : OpT C (compareOp .GtE) opGe := by
  refine OpT.of (op_ge.or op_ge_str) fun σ H G h x y vx vy Q rp rx ry o => ?_
  unfold opGe at o
  split at o
  · cases rx; cases ry; exact .inl ⟨_, _, rfl, rfl, out_ok o rp (.bl _)⟩
  · cases rx; cases ry; exact .inr ⟨_, _, rfl, rfl, out_ok o rp (.bl _)⟩
  · exact False.elim o
theorem RC.Ok.units (ok : C.Ok) : C.X.A.units + 200 < cLine := by have := ok.room.un; omega
/-- == and != of data -/
theorem op_eqT (ok : C.Ok) : OpT C (compareOp .Eq) opEq := by
  intro pins s σ H G h x y vx vy u w Q I rp rx ry vu vw o
  unfold opEq at o
  split at o
  · rename_i a b e1 e2
    split at o
    · rename_i hd
      obtain ⟨⟨as, r1⟩, p1, _⟩ := readsH_of ok.K I rp rx vu e1
      obtain ⟨⟨bs, r2⟩, p2, _⟩ := readsH_of ok.K I rp ry vw e2
      exact PySem.SeqAt.eq_plain r1 r2 p1 p2 (by have := ok.units; omega) ⟨.bl _, H, I, rfl, out_ok o rp (.bl _)⟩
    · exact False.elim o
  · exact False.elim o
theorem op_neT (ok : C.Ok) : OpT C (compareOp .NotEq) opNe := by
  intro pins s σ H G h x y vx vy u w Q I rp rx ry vu vw o
  unfold opNe at o
  split at o
  · rename_i a b e1 e2
    split at o
    · rename_i hd
      obtain ⟨⟨as, r1⟩, p1, _⟩ := readsH_of ok.K I rp rx vu e1
      obtain ⟨⟨bs, r2⟩, p2, _⟩ := readsH_of ok.K I rp ry vw e2
      exact PySem.SeqAt.ne_plain r1 r2 p1 p2 (by have := ok.units; omega) ⟨.bl _, H, I, rfl, out_ok o rp (.bl _)⟩
    · exact False.elim o
  · exact False.elim o
theorem op_isNT : OpT C (compareOp .Is) opIsN := by
  refine OpT.of op_isN fun σ H G h x y vx vy Q rp rx ry o => ?_
  unfold opIsN at o
  split at o
  · cases ry
    refine ⟨rfl, ?_⟩
    cases rx <;> exact out_ok o rp (.bl _)
  · exact False.elim o
theorem op_notNT : OpT C (compareOp .IsNot) opNotN := by
  refine OpT.of op_notN fun σ H G h x y vx vy Q rp rx ry o => ?_
  unfold opNotN at o
  split at o
  · cases ry
    refine ⟨rfl, ?_⟩
    cases rx <;> exact out_ok o rp (.bl _)
  · exact False.elim o
theorem op_inT (ok : C.Ok) : OpT C (compareOp .In) opIn := by
  intro pins s σ H G h x y vx vy u w Q I rp rx ry vu vw o
  unfold opIn at o
  split at o
  · split at o
    · split at o
      · rename_i hs
        cases rx; cases ry
        cases sign_of hs
        exact op_in_sign pins s σ H _ _ u w Q I vu vw ⟨_, _, rfl, rfl, out_ok o rp (.bl _)⟩
      · exact False.elim o
    · exact False.elim o
  · split at o
    · rename_i a ds e1 e2
      split at o
      · rename_i hd
        obtain ⟨as, r1⟩ := reads_of ok.K I rx vu e1
        obtain ⟨p1, _⟩ := plain_toD e1
        obtain ⟨⟨bs, r2⟩, p2, _⟩ := readsH_of ok.K I rp ry vw e2
        exact PySem.SeqAt.in_list_data r2 r1 p2 p1 (by have := ok.units; omega) ⟨.bl _, H, I, rfl, out_ok o rp (.bl _)⟩
      · exact False.elim o
    · rename_i a ds e1 e2
      split at o
      · rename_i hd
        obtain ⟨as, r1⟩ := reads_of ok.K I rx vu e1
        obtain ⟨p1, _⟩ := plain_toD e1
        obtain ⟨⟨bs, r2⟩, p2, _⟩ := readsH_of ok.K I rp ry vw e2
        exact PySem.SeqAt.in_tuple_data r2 r1 p2 p1 (by have := ok.units; omega) ⟨.bl _, H, I, rfl, out_ok o rp (.bl _)⟩
      · exact False.elim o
    · exact False.elim o
theorem op_notInT (ok : C.Ok) : OpT C (compareOp .NotIn) opNotIn := by
  intro pins s σ H G h x y vx vy u w Q I rp rx ry vu vw o
  unfold opNotIn at o
  split at o
  · split at o
    · split at o
      · rename_i hs
        cases rx; cases ry
        cases sign_of hs
        exact op_notIn_sign pins s σ H _ _ u w Q I vu vw ⟨_, _, rfl, rfl, out_ok o rp (.bl _)⟩
      · exact False.elim o
    · exact False.elim o
  · split at o
    · rename_i a ds e1 e2
      split at o
      · rename_i hd
        obtain ⟨as, r1⟩ := reads_of ok.K I rx vu e1
        obtain ⟨p1, _⟩ := plain_toD e1
        obtain ⟨⟨bs, r2⟩, p2, _⟩ := readsH_of ok.K I rp ry vw e2
        exact PySem.SeqAt.notIn_list_data r2 r1 p2 p1 (by have := ok.units; omega) ⟨.bl _, H, I, rfl, out_ok o rp (.bl _)⟩
      · exact False.elim o
    · rename_i a ds e1 e2
      split at o
      · rename_i hd
        obtain ⟨as, r1⟩ := reads_of ok.K I rx vu e1
        obtain ⟨p1, _⟩ := plain_toD e1
        obtain ⟨⟨bs, r2⟩, p2, _⟩ := readsH_of ok.K I rp ry vw e2
        exact PySem.SeqAt.notIn_tuple_data r2 r1 p2 p1 (by have := ok.units; omega) ⟨.bl _, H, I, rfl, out_ok o rp (.bl _)⟩
      · exact False.elim o
    · exact False.elim o
end
end RT
set_option Elab.async false
set_option linter.all false
set_option maxRecDepth 100000
set_option maxHeartbeats 4000000
/-! RT, part d: statements; defs and their promises; calls. -/
namespace RT
open PySem PySem.Spec L2
open PyProof.Rows hiding St

/-! ### statements -/
def R.th {A : Type} (r : R A) (a : StT) (f : A → Hm → R SO) : R SO := match r with
  | .ok x h => f x h
  | .exc e h => .ok (.rse e a) h
  | .bad => .bad
def OutS (C : RC) (H : Hp) (G : Gh) (r : R SO) (D : Ends) : Prop := match r with
  | .ok (.nx a) h => ∀ σ H' G', Step H G H' G' → RepH C.S H' G' h → RelSt C.S H' G' a σ → D.nx σ H'
  | .ok (.brk a) h => ∀ σ H' G', Step H G H' G' → RepH C.S H' G' h → RelSt C.S H' G' a σ → D.bk σ H'
  | .ok (.cont a) h => ∀ σ H' G', Step H G H' G' → RepH C.S H' G' h → RelSt C.S H' G' a σ → D.ct σ H'
  | .ok (.ret t) h => ∀ v H' G', Step H G H' G' → RepH C.S H' G' h → RelT C.S H' G' t v → D.rt v H'
  | .ok (.rse e a) h => ∀ cls d σ H' G', Step H G H' G' → RepH C.S H' G' h → RelSt C.S H' G' a σ → RelX C.S H' G' e cls d → C.W cls d σ H'
  | .exc _ _ => False
  | .bad => False
theorem OutS.step {C : RC} {H H1 : Hp} {G G1 : Gh} {r : R SO} {D : Ends} (s : Step H G H1 G1) (o : OutS C H G r D) : OutS C H1 G1 r D := by
  cases r with
  | ok x h =>
    cases x with
    | nx a => exact fun σ H' G' st => o σ H' G' (s.trans st)
    | brk a => exact fun σ H' G' st => o σ H' G' (s.trans st)
    | cont a => exact fun σ H' G' st => o σ H' G' (s.trans st)
    | ret a => exact fun σ H' G' st => o σ H' G' (s.trans st)
    | rse e a => exact fun c d σ H' G' st => o c d σ H' G' (s.trans st)
  | exc e h => exact o
  | bad => exact o
/-- what is known behind a first run -/
def GotS (C : RC) (H : Hp) (G : Gh) {A B : Type} (Rel : Hp → Gh → A → B → Prop) (f : A → Hm → R SO) (D : Ends) (v : B) (H' : Hp) : Prop :=
  ∃ t G' h', Step H G H' G' ∧ RepH C.S H' G' h' ∧ Rel H' G' t v ∧ OutS C H' G' (f t h') D
theorem OutS.bind {C : RC} {σ : St} {H : Hp} {G : Gh} {A B : Type} {Rel : Hp → Gh → A → B → Prop} {r : R A} {a : StT} {f : A → Hm → R SO} {D : Ends} (rs : RelSt C.S H G a σ) (o : OutS C H G (r.th a f) D) :
    Out C σ H G Rel r (GotS C H G Rel f D) := by
  cases r with
  | ok t h' => exact fun v H' G' st rp rl => ⟨t, G', h', st, rp, rl, OutS.step st o⟩
  | exc e h' => exact fun c d H' G' st rp x => o c d σ H' G' st rp (rs.step st) x
  | bad => exact o
section
variable (C : RC)
def liS (r : SM) : TS := fun D σ H => ∃ a G h, RepH C.S H G h ∧ RelSt C.S H G a σ ∧ OutS C H G (r a h) D
def JS (st : Stmt) (r : SM) : Prop := PS C.X st (liS C r)
def JSs (st : List Stmt) (r : SM) : Prop := PSs C.X st (liS C r)
end
def sNext : SM := fun a h => .ok (.nx a) h
def sSeq (r1 r2 : SM) : SM := fun a h => match r1 a h with
  | .ok (.nx a') h' => r2 a' h'
  | r => r
section
variable {C : RC} {pos : Pos}
theorem JS.run {st : Stmt} {r : SM} (j : JS C st r) {pins : List (Addr × Obj)} {s : Shared} {σ : St} {H : Hp} {G : Gh} {h : Hm} {a : StT} {D : Ends} (I : Inv C.X pins σ H s) (rp : RepH C.S H G h) (rs : RelSt C.S H G a σ) (o : OutS C H G (r a h) D) :
    wpAny (model C.X.prog C.X.w) C.X.A (exec st C.X.env) (SP C.X pins D) C.X.xe s := PS.run j pins s σ H D I ⟨a, G, h, rp, rs, o⟩
theorem JSs.run {st : List Stmt} {r : SM} (j : JSs C st r) {pins : List (Addr × Obj)} {s : Shared} {σ : St} {H : Hp} {G : Gh} {h : Hm} {a : StT} {D : Ends} (I : Inv C.X pins σ H s) (rp : RepH C.S H G h) (rs : RelSt C.S H G a σ) (o : OutS C H G (r a h) D) :
    wpAny (model C.X.prog C.X.w) C.X.A (execs st C.X.env) (SP C.X pins D) C.X.xe s := PSs.run j pins s σ H D I ⟨a, G, h, rp, rs, o⟩
theorem jss_nil : JSs C [] sNext := by
  refine ⟨fun pins s σ H D I hw => ?_⟩
  obtain ⟨a, G, h, rp, rs, o⟩ := hw
  exact pss_nil.run pins s σ H D I (o σ H G Step.refl rp rs)
theorem jss_one {st : Stmt} {r : SM} (j : JS C st r) : JSs C [st] r := pss_one j
theorem jss_cons {st : Stmt} {rest : List Stmt} {r1 r2 : SM} (j1 : JS C st r1) (j2 : JSs C rest r2) : JSs C (st :: rest) (sSeq r1 r2) := by
  refine ⟨fun pins s σ H D I hw => ?_⟩
  obtain ⟨a, G, h, rp, rs, o⟩ := hw
  refine (pss_cons (t := liS C r1) (u := liS C r2) j1 j2).run pins s σ H D I ⟨a, G, h, rp, rs, ?_⟩
  unfold sSeq at o
  cases q : r1 a h with
  | ok x h' =>
    rw [q] at o
    cases x with
    | nx a' => exact fun σ' H' G' st rp' rs' => ⟨a', G', h', rp', rs', OutS.step st o⟩
    | brk a' => exact o
    | cont a' => exact o
    | ret a' => exact o
    | rse e a' => exact o
  | exc e h' => rw [q] at o; exact o
  | bad => rw [q] at o; exact o
theorem js_pass : JS C (.Pass pos) sNext := by
  refine ⟨fun pins s σ H D I hw => ?_⟩
  obtain ⟨a, G, h, rp, rs, o⟩ := hw
  exact ps_pass.run pins s σ H D I (o σ H G Step.refl rp rs)
def sBreak : SM := fun a h => .ok (.brk a) h
def sCont : SM := fun a h => .ok (.cont a) h
theorem js_break : JS C (.Break pos) sBreak := by
  refine ⟨fun pins s σ H D I hw => ?_⟩
  obtain ⟨a, G, h, rp, rs, o⟩ := hw
  exact ps_break.run pins s σ H D I (o σ H G Step.refl rp rs)
theorem js_cont : JS C (.Continue pos) sCont := by
  refine ⟨fun pins s σ H D I hw => ?_⟩
  obtain ⟨a, G, h, rp, rs, o⟩ := hw
  exact ps_continue.run pins s σ H D I (o σ H G Step.refl rp rs)
theorem js_doc {x j p pos'} : JS C (.Expr (.Constant (.str x) j p) pos') sNext := by
  refine ⟨fun pins s σ H D I hw => ?_⟩
  obtain ⟨a, G, h, rp, rs, o⟩ := hw
  exact ps_doc.run pins s σ H D I (o σ H G Step.refl rp rs)
/-- a statement that is never reached -/
def sBad : SM := fun _ _ => .bad
theorem js_bad {st : Stmt} : JS C st sBad := by
  refine ⟨fun pins s σ H D I hw => ?_⟩
  obtain ⟨a, G, h, rp, rs, o⟩ := hw
  exact False.elim o
def sRet (e : ET) : SM := fun a h => (e a h).th a fun t h1 => .ok (.ret t) h1
def sRetN : SM := fun _ h => .ok (.ret .non) h
def sExpr (e : ET) : SM := fun a h => (e a h).th a fun _ h1 => .ok (.nx a) h1
theorem js_ret {e : Expr} {r : ET} (j : JE C e r) : JS C (.Return (some e) pos) (sRet r) := by
  refine ⟨fun pins s σ H D I hw => ?_⟩
  obtain ⟨a, G, h, rp, rs, o⟩ := hw
  refine (ps_ret (te := liE C r) j).run pins s σ H D I ⟨a, G, h, rp, rs, (OutS.bind (Rel := relE C) rs o).mono fun v H1 ⟨t, G1, h1, st1, rp1, rv, o1⟩ => ?_⟩
  exact o1 v H1 G1 Step.refl rp1 rv
theorem js_retN : JS C (.Return none pos) sRetN := by
  refine ⟨fun pins s σ H D I hw => ?_⟩
  obtain ⟨a, G, h, rp, rs, o⟩ := hw
  exact ps_retN.run pins s σ H D I (o .non H G Step.refl rp .non)
theorem js_expr {e : Expr} {r : ET} (j : JE C e r) (hs : swapsWith e none pos.line C.X.env = pure false := by rfl) : JS C (.Expr e pos) (sExpr r) := by
  refine ⟨fun pins s σ H D I hw => ?_⟩
  obtain ⟨a, G, h, rp, rs, o⟩ := hw
  refine (ps_expr (te := liE C r) j hs).run pins s σ H D I ⟨a, G, h, rp, rs, (OutS.bind (Rel := relE C) rs o).mono fun v H1 ⟨t, G1, h1, st1, rp1, rv, o1⟩ => ?_⟩
  exact o1 σ H1 G1 Step.refl rp1 (rs.step st1)
def sIf (c : BT) (x y : SM) : SM := fun a h => (c a h).th a fun b h1 => if b then x a h1 else y a h1
theorem js_if {c : Expr} {x y : List Stmt} {rc : BT} {rx ry : SM} (jc : JB C c rc) (jx : JSs C x rx) (jy : JSs C y ry) : JS C (.If c x y pos) (sIf rc rx ry) := by
  refine ⟨fun pins s σ H D I hw => ?_⟩
  obtain ⟨a, G, h, rp, rs, o⟩ := hw
  refine (ps_if (tc := liB C rc) (t := liS C rx) (u := liS C ry) jc jx jy).run pins s σ H D I ⟨a, G, h, rp, rs, (OutS.bind (Rel := relB) rs o).mono fun v H1 ⟨t, G1, h1, st1, rp1, e, o1⟩ => ?_⟩
  subst e
  cases t with
  | true => exact ⟨a, G1, h1, rp1, rs.step st1, o1⟩
  | false => exact ⟨a, G1, h1, rp1, rs.step st1, o1⟩

/-! ### targets -/
abbrev GT := T → StT → Hm → R StT
def OutG (C : RC) (σ : St) (H : Hp) (G : Gh) (r : R StT) (Q : St → Hp → Prop) : Prop := match r with
  | .ok a h => ∀ σ' H' G', Step H G H' G' → RepH C.S H' G' h → RelSt C.S H' G' a σ' → Q σ' H'
  | .exc e h => ∀ cls d σ' H' G', Step H G H' G' → RepH C.S H' G' h → σ'.length = σ.length → RelX C.S H' G' e cls d → C.W cls d σ' H'
  | .bad => False
def liG (C : RC) (g : GT) : TG := fun v σ H Q => ∃ t a G h, RepH C.S H G h ∧ RelSt C.S H G a σ ∧ RelT C.S H G t v ∧ ∃ a' h', g t a h = .ok a' h' ∧ ∀ σ' H' G', Step H G H' G' → RepH C.S H' G' h' → RelSt C.S H' G' a' σ' → Q σ' H'
def JG (C : RC) (tg : Expr) (g : GT) : Prop := PG C.X tg (liG C g)
def liGs (C : RC) (g : List T → StT → Hm → R StT) : TGs := fun vs σ H Q => ∃ ts a G h, RepH C.S H G h ∧ RelSt C.S H G a σ ∧ RelTs C.S H G ts vs ∧ ∃ a' h', g ts a h = .ok a' h' ∧ ∀ σ' H' G', Step H G H' G' → RepH C.S H' G' h' → RelSt C.S H' G' a' σ' → Q σ' H'
def JGs (C : RC) (ts : List Expr) (g : List T → StT → Hm → R StT) : Prop := PGs C.X ts (liGs C g)
def gNm (i : Nat) : GT := fun t a h => .ok (a.set i (some t)) h
def gsNil : List T → StT → Hm → R StT := fun ts a h => match ts with
  | [] => .ok a h
  | _ => .bad
def gsCons (g : GT) (r : List T → StT → Hm → R StT) : List T → StT → Hm → R StT := fun ts a h => match ts with
  | t :: ts => (g t a h).bind fun a' h' => r ts a' h'
  | [] => .bad
/-- a tuple of targets of n names -/
def gTp (n : Nat) (g : List T → StT → Hm → R StT) : GT := fun t a h => match t with
  | .tup xs => if xs.length = n then g xs a h else .bad
  | _ => .bad
theorem jg_name (ok : C.Ok) {i : Nat} {x : Str} (hi : C.X.N[i]? = some x) (hx : Loc C.X.env.scope x) (hf : C.X.fn x = true ∨ C.X.env.scope.names.lookup x = some .local := by first | exact .inl rfl | exact .inr rfl | assumption) : JG C (.Name x pos) (gNm i) := by
  refine ⟨fun pins s σ H v u Q I r hw => ?_⟩
  obtain ⟨t, a, G, h, rp, rs, rt, a', h', e, q⟩ := hw
  refine (pg_name ok.nd hi hx hf).run pins s σ H v u Q I r ?_
  have e' : R.ok (a.set i (some t)) h = R.ok a' h' := e
  cases e'
  exact q _ H G Step.refl rp (rs.set i rt)
theorem jgs_nil : JGs C [] gsNil := by
  refine ⟨fun pins s σ H vs us Q I r hw => ?_⟩
  obtain ⟨ts, a, G, h, rp, rs, rt, a', h', e, q⟩ := hw
  refine pgs_nil.run pins s σ H vs us Q I r ?_
  cases rt with
  | nil =>
    have e' : R.ok a h = R.ok a' h' := e
    cases e'
    exact ⟨rfl, q _ H G Step.refl rp rs⟩
  | cons _ _ =>
    have e' : (R.bad : R StT) = R.ok a' h' := e
    cases e'
theorem bind_ok {A B : Type} {r : R A} {f : A → Hm → R B} {b : B} {h' : Hm} (e : r.bind f = .ok b h') : ∃ a h, r = .ok a h ∧ f a h = .ok b h' := by
  cases r with
  | ok a h => exact ⟨a, h, rfl, e⟩
  | exc x h => cases e
  | bad => cases e
theorem jgs_cons {e : Expr} {es : List Expr} {g : GT} {gs : List T → StT → Hm → R StT} (j : JG C e g) (js : JGs C es gs)
    (hs : (assignEach (e :: es) C.X.env).map (·.2) = assign e C.X.env :: (assignEach es C.X.env).map (·.2) := by rfl) : JGs C (e :: es) (gsCons g gs) := by
  refine ⟨fun pins s σ H vs us Q I r hw => ?_⟩
  obtain ⟨ts, a, G, h, rp, rs, rt, a', h', e', q⟩ := hw
  refine (pgs_cons (t := liG C g) (u := liGs C gs) j js hs).run pins s σ H vs us Q I r ?_
  cases rt with
  | nil =>
    have e2 : (R.bad : R StT) = R.ok a' h' := e'
    cases e2
  | cons r1 r2 =>
    obtain ⟨a1, h1, e1, e2⟩ := bind_ok (r := g _ a h) e'
    refine ⟨_, _, rfl, _, a, G, h, rp, rs, r1, a1, h1, e1, fun σ1 H1 G1 st1 rp1 rs1 => ?_⟩
    exact ⟨_, a1, G1, h1, rp1, rs1, r2.step st1, a', h', e2, fun σ' H' G' st => q σ' H' G' (st1.trans st)⟩
theorem jg_tup (ok : C.Ok) (hc : C.S.mo = none) {es : List Expr} {k : Nat} {n : Nat} {gs : List T → StT → Hm → R StT} (j : JGs C es gs)
    (hn : (assignEach es C.X.env).length = n := by rfl) (hst : (assignEach es C.X.env).findIdx? (·.1) = none := by rfl) : JG C (.Tuple es k pos) (gTp n gs) := by
  refine ⟨fun pins s σ H v u Q I r hw => ?_⟩
  obtain ⟨t, a, G, h, rp, rs, rt, a', h', e, q⟩ := hw
  refine (pg_tup (t := liGs C gs) (ok.calm hc) j hn hst).run pins s σ H v u Q I r ?_
  unfold gTp at e
  cases rt with
  | tup hz hr =>
    dsimp only at e
    split at e
    · rename_i hl
      refine ⟨_, _, rfl, by rw [← ok.K]; exact hz.sq, by rw [← hr.length]; exact hl, _, a, G, h, rp, rs, hr, a', h', e, q⟩
    · cases e
  | _ => cases e
/-- target = value -/
def sAsg (e : ET) (g : GT) : SM := fun a h => (e a h).th a fun t h1 => match g t a h1 with
  | .ok a' h' => .ok (.nx a') h'
  | _ => .bad
theorem js_asg {tg e : Expr} {r : ET} {g : GT} (j : JE C e r) (jg : JG C tg g) (hs : swapsWithSole [tg] e pos.line C.X.env = pure false := by rfl) (hw : swappedStores [tg] e C.X.env = pure none := by rfl)
    (h1 : (assignEach [tg] C.X.env).map (·.2) = [assign tg C.X.env] := by rfl) : JS C (.Assign [tg] e pos) (sAsg r g) := by
  refine ⟨fun pins s σ H D I hw' => ?_⟩
  obtain ⟨a, G, h, rp, rs, o⟩ := hw'
  refine (ps_asg (te := liE C r) (g := liG C g) j jg hs hw h1).run pins s σ H D I ⟨a, G, h, rp, rs, (OutS.bind (Rel := relE C) rs o).mono fun v H1 ⟨t, G1, h1, st1, rp1, rv, o1⟩ => ?_⟩
  dsimp only at o1
  split at o1
  · rename_i a' h' e
    exact ⟨t, a, G1, h1, rp1, rs.step st1, rv, a', h', e, o1⟩
  · exact False.elim o1
/-- name = value -/
def sSet (i : Nat) (e : ET) : SM := fun a h => (e a h).th a fun t h1 => .ok (.nx (a.set i (some t))) h1
theorem js_set (ok : C.Ok) {i : Nat} {x : Str} {e : Expr} {r : ET} {pos' : Pos} (hi : C.X.N[i]? = some x) (hx : Loc C.X.env.scope x) (j : JE C e r) (hs : swapsWith e (some (.Name x pos')) pos.line C.X.env = pure false := by rfl)
    (hf : C.X.fn x = true ∨ C.X.env.scope.names.lookup x = some .local := by first | exact .inl rfl | exact .inr rfl | assumption) : JS C (.Assign [.Name x pos'] e pos) (sSet i r) := by
  refine ⟨fun pins s σ H D I hw' => ?_⟩
  obtain ⟨a, G, h, rp, rs, o⟩ := hw'
  refine (ps_set (te := liE C r) ok.nd hi hx j hs hf).run pins s σ H D I ⟨a, G, h, rp, rs, (OutS.bind (Rel := relE C) rs o).mono fun v H1 ⟨t, G1, h1, st1, rp1, rv, o1⟩ => ?_⟩
  exact o1 _ H1 G1 Step.refl rp1 ((rs.step st1).set i rv)
/-- a, b = x, y, plain local names -/
def sPar (i j : Nat) (e : AT) : SM := fun a h => (e a h).th a fun ts h1 => match ts with
  | [x, y] => .ok (.nx ((a.set i (some x)).set j (some y))) h1
  | _ => .bad
theorem js_par (ok : C.Ok) (hc : C.S.mo = none) {i j : Nat} {x y : Str} {a b : Expr} {r : AT} {px py pt : Pos} {kt k2 pt2} (hi : C.X.N[i]? = some x) (hj : C.X.N[j]? = some y) (hij : i ≠ j)
    (hx : C.X.env.scope.names.lookup x = some .local) (hy : C.X.env.scope.names.lookup y = some .local) (ja : JA C [a, b] r)
    (hw : swappedStores [.Tuple [.Name x px, .Name y py] kt pt] (.Tuple [a, b] k2 pt2) C.X.env = pure (some [x, y]))
    (hs : swapsWithSole [.Tuple [.Name x px, .Name y py] kt pt] (.Tuple [a, b] k2 pt2) pos.line C.X.env = pure false := by rfl) :
    JS C (.Assign [.Tuple [.Name x px, .Name y py] kt pt] (.Tuple [a, b] k2 pt2) pos) (sPar i j r) := by
  refine ⟨fun pins s σ H D I hw' => ?_⟩
  obtain ⟨st, G, h, rp, rs, o⟩ := hw'
  refine (ps_par (ta := liA C r) (ok.calm hc) ok.nd hi hj hij hx hy ja hw hs).run pins s σ H D I ⟨st, G, h, rp, rs, (OutS.bind (Rel := relA C) rs o).mono fun v H1 ⟨t, G1, h1, st1, rp1, rv, o1⟩ => ?_⟩
  cases rv with
  | nil => exact False.elim o1
  | cons q1 q2 =>
    cases q2 with
    | nil => exact False.elim o1
    | cons q3 q4 =>
      cases q4 with
      | nil => exact ⟨_, _, rfl, o1 _ H1 G1 Step.refl rp1 (((rs.step st1).set i q1).set j q3)⟩
      | cons _ _ => exact False.elim o1
/-- name op= value -/
def sAug (i : Nat) (o : O2) (e : ET) : SM := fun a h => match a[i]? with
  | some (some x) => (e a h).th a fun y h1 => (o x y h1).th a fun z h2 => .ok (.nx (a.set i (some z))) h2
  | _ => .bad
theorem js_aug (ok : C.Ok) {i : Nat} {x : Str} {e : Expr} {r : ET} {op : Operator} {o : O2} {pos' : Pos} (hi : C.X.N[i]? = some x) (hx : Loc C.X.env.scope x) (j : JE C e r) (ho : OpT C (inplaceOp op) o)
    (hf : C.X.fn x = true ∨ C.X.env.scope.names.lookup x = some .local := by first | exact .inl rfl | exact .inr rfl | assumption) : JS C (.AugAssign (.Name x pos') op e pos) (sAug i o r) := by
  refine ⟨fun pins s σ H D I hw' => ?_⟩
  obtain ⟨a, G, h, rp, rs, o1⟩ := hw'
  unfold sAug at o1
  split at o1
  · rename_i tx ex
    obtain ⟨v, e1, rx⟩ := rs.2 i tx ex
    obtain ⟨m, hn, hl⟩ := I.loc
    have vis : Vis C.X.env.scope x := by rcases hx with k | k; exact .inl k; exact .inr (.inl k)
    obtain ⟨u, ru, l⟩ := hl i x v hi e1 vis
    refine wpAny_AugAssign_Name ?_
    have go : wpAny (model C.X.prog C.X.w) C.X.A (eval e C.X.env) (fun w s₂ => wpAny (model C.X.prog C.X.w) C.X.A (inplaceOp op u w) (fun r s₃ => wpAny (model C.X.prog C.X.w) C.X.A (storeName C.X.env x r) (fun _ => SP C.X pins D .next) C.X.xe s₃) C.X.xe s₂) C.X.xe s := by
      refine thn (j.run I rp rs (OutS.bind (Rel := relE C) rs o1)) fun w s1 ⟨vy, H1, I1, r1, ty, G1, h1, st1, rp1, ry, o2⟩ => ?_
      refine thn (ho pins s1 σ H1 G1 h1 tx ty v vy u w _ I1 rp1 (rx.step st1) ry ru r1 (OutS.bind (Rel := relE C) (rs.step st1) o2)) fun z s2 ⟨vz, H2, I2, r2, tz, G2, h2, st2, rp2, rz, o3⟩ => ?_
      exact store_ok I2 ok.nd hi hx r2 (fun s3 I3 => ⟨_, H2, I3, o3 _ H2 G2 Step.refl rp2 (((rs.step st1).step st2).set i rz)⟩) hf
    rcases l with ⟨hk, hm⟩ | ⟨hk, c, hc, hcell⟩
    · exact wpAny_loadName_local I.ok.kind hk hn hm go
    · rcases hk with hk | hk
      · exact wpAny_loadName_cell I.ok.kind hk hc hcell go
      · rcases hx with k | k
        · have : C.X.env.scope.names.lookup x = some .free := hk
          rw [k] at this; cases this
        · have : C.X.env.scope.names.lookup x = some .free := hk
          rw [k] at this; cases this
  · exact False.elim o1

/-! ### while -/
def whileN (c : BT) (b : SM) : Nat → SM
  | 0, _, _ => .bad
  | n + 1, a, h => (c a h).th a fun t h1 => if t then (match b a h1 with
    | .ok (.nx a') h' => whileN c b n a' h'
    | .ok (.cont a') h' => whileN c b n a' h'
    | .ok (.brk a') h' => .ok (.nx a') h'
    | r => r) else .ok (.nx a) h1
def R.isBad {A : Type} : R A → Bool
  | .bad => true
  | _ => false
open Classical in
/-- the loop, however many turns it takes -/
noncomputable def sWhile (c : BT) (b : SM) : SM := fun a h => if e : ∃ n, (whileN c b n a h).isBad = false then whileN c b (Classical.choose e) a h else .bad
theorem js_whileN {c : Expr} {body : List Stmt} {rc : BT} {rb : SM} (hp : PassesOwn (model C.X.prog C.X.w) C.X.A C.X.env C.X.xe) (jc : JB C c rc) (jb : JSs C body rb) (n : Nat) : JS C (.While c body [] pos) (whileN rc rb n) := by
  refine ⟨fun pins s σ H D I hw => ?_⟩
  refine (ps_while (tc := liB C rc) (tb := liS C rb) hp jc jb).run pins s σ H D I ?_
  refine ⟨fun m σ H => ∃ a G h, RepH C.S H G h ∧ RelSt C.S H G a σ ∧ OutS C H G (whileN rc rb m a h) D, ⟨n, hw⟩, fun m σ1 H1 w => ?_⟩
  obtain ⟨a, G, h, rp, rs, o⟩ := w
  cases m with
  | zero => exact False.elim o
  | succ m =>
    refine ⟨a, G, h, rp, rs, (OutS.bind (Rel := relB) rs o).mono fun v H2 ⟨t, G2, h2, st2, rp2, e, o2⟩ => ?_⟩
    subst e
    dsimp only at o2
    cases t with
    | false => exact o2 σ1 H2 G2 Step.refl rp2 (rs.step st2)
    | true =>
      refine ⟨fun σ' H' => ∃ a' G' h', RepH C.S H' G' h' ∧ RelSt C.S H' G' a' σ' ∧ OutS C H' G' (whileN rc rb m a' h') D, fun σ' H' z => ⟨m, Nat.lt_succ_self _, z⟩, a, G2, h2, rp2, rs.step st2, ?_⟩
      rw [if_pos rfl] at o2
      cases q : rb a h2 with
      | ok x h' =>
        rw [q] at o2
        cases x with
        | nx a' => exact fun σ' H' G' st rp' rs' => ⟨a', G', h', rp', rs', OutS.step st o2⟩
        | cont a' => exact fun σ' H' G' st rp' rs' => ⟨a', G', h', rp', rs', OutS.step st o2⟩
        | brk a' => exact o2
        | ret a' => exact o2
        | rse e a' => exact o2
      | exc e h' => rw [q] at o2; exact o2
      | bad => rw [q] at o2; exact o2
theorem js_while {c : Expr} {body : List Stmt} {rc : BT} {rb : SM} (hp : PassesOwn (model C.X.prog C.X.w) C.X.A C.X.env C.X.xe) (jc : JB C c rc) (jb : JSs C body rb) : JS C (.While c body [] pos) (sWhile rc rb) := by
  refine ⟨fun pins s σ H D I hw => ?_⟩
  obtain ⟨a, G, h, rp, rs, o⟩ := hw
  unfold sWhile at o
  split at o
  · exact (js_whileN hp jc jb _).run I rp rs o
  · exact False.elim o
end
end RT
set_option Elab.async false
set_option linter.all false
set_option maxRecDepth 100000
set_option maxHeartbeats 4000000
/-! RT, part e: defs and their promises; calls of defs, of methods, of classes; fields. -/
namespace RT
open PySem PySem.Spec L2
open PyProof.Rows hiding St

/-! ### a def's run -/
/-- the slots at the entry -/
def st0 (n : Nat) (ts : List T) : StT := ts.map some ++ List.replicate (n - ts.length) none
def endOf : R SO → R T
  | .ok (.ret t) h => .ok t h
  | .ok (.nx _) h => .ok .non h
  | .ok (.rse e _) h => .exc e h
  | _ => .bad
/-- the first n cells stay; a value that names a further one keeps them all -/
def fin (n : Nat) : R T → R T
  | .ok t h => if t.noRef then .ok t (h.take n) else .ok t h
  | .exc e h => if e.noRef then .exc e (h.take n) else .bad
  | .bad => .bad
/-- a list that is a cell: frozen -/
def frz : R T → R T
  | .ok t h => (match t with
    | .ref l => (match h[l]? with
      | some (some (.lst xs)) => .ok (.lst xs) (h.set l none)
      | _ => .bad)
    | t => .ok t h)
  | r => r
/-- a def of n names -/
def run (n : Nat) (b : SM) : List T → Hm → R T := fun ts h => fin h.length (endOf (b (st0 n ts) h))
def runF (n : Nat) (b : SM) : List T → Hm → R T := fun ts h => fin h.length (frz (endOf (b (st0 n ts) h)))
/-- how a run's end is told to a caller -/
def EndT (S : Sta) (H : Hp) (G : Gh) (r : R T) (Q : VK) (E : XK) : Prop := match r with
  | .ok t h' => ∀ v H' G', Step H G H' G' → RepH S H' G' h' → RelT S H' G' t v → Q v H'
  | .exc e h' => ∀ cls d H' G', Step H G H' G' → RepH S H' G' h' → RelX S H' G' e cls d → E cls d H'
  | .bad => False
def spT (S : Sta) (n : Nat) (f : List T → Hm → R T) : Sp := fun vs H Q E => ∃ ts G h, RepH S H G h ∧ RelTs S H G ts vs ∧ vs.length = n ∧ EndT S H G (f ts h) Q E
theorem EndT.step {S : Sta} {H H1 : Hp} {G G1 : Gh} {r : R T} {Q : VK} {E : XK} (s : Step H G H1 G1) (o : EndT S H G r Q E) : EndT S H1 G1 r Q E := by
  cases r with
  | ok t h => exact fun v H' G' st => o v H' G' (s.trans st)
  | exc t h => exact fun c d H' G' st => o c d H' G' (s.trans st)
  | bad => exact o
theorem RelX.indep {S : Sta} {H : Hp} {G G' : Gh} (s : ∀ a, G.Z a → G'.Z a) {e : T} {cls : Value} {d : Option Addr} (r : RelX S H G e cls d) (hn : e.noRef = true) : RelX S H G' e cls d := by
  obtain ⟨c, fs, rfl, h2, h⟩ := r
  refine ⟨c, fs, rfl, h2, ?_⟩
  rcases h with h | ⟨dd, vs, e1, z, e2, r⟩
  · exact .inl h
  · exact .inr ⟨dd, vs, e1, s _ z, e2, RelFs.indep (G' := G') s r (by rw [T.noRef] at hn; exact hn)⟩
/-- the cut at the end -/
theorem EndT.fin {S : Sta} {H : Hp} {G : Gh} {r : R T} {n : Nat} (hn : G.mu.length = n) {Q : VK} {E : XK} (o : EndT S H G (fin n r) Q E) : EndT S H G r Q E := by
  cases r with
  | ok t h =>
    unfold RT.fin at o
    dsimp only at o
    split at o
    · rename_i nr
      refine fun v H' G' st rp rv => o v H' (G'.cut n) ?_ (rp.cut n) (RelT.indep (G := G') (G' := G'.cut n) (fun _ z => z) rv nr)
      rw [← hn]; exact st.cut
    · exact o
  | exc e h =>
    unfold RT.fin at o
    dsimp only at o
    split at o
    · rename_i nr
      refine fun c d H' G' st rp rx => o c d H' (G'.cut n) ?_ (rp.cut n) (RelX.indep (G := G') (G' := G'.cut n) (fun _ z => z) rx nr)
      rw [← hn]; exact st.cut
    · exact False.elim o
  | bad => exact o
theorem EndT.frz {S : Sta} {H : Hp} {G : Gh} {r : R T} {Q : VK} {E : XK} (o : EndT S H G (frz r) Q E) : EndT S H G r Q E := by
  cases r with
  | ok t h =>
    unfold RT.frz at o
    dsimp only at o
    split at o
    · rename_i l
      split at o
      · rename_i xs q
        intro v H' G' st rp rv
        cases rv with
        | ref hl =>
          obtain ⟨a, u, h1, h2, h3, h4, h5⟩ := rp.cell l _ q
          rw [hl] at h1; cases h1
          cases h3 with
          | lst rs =>
            obtain ⟨st2, rp2⟩ := rp.freeze hl (by rw [h2]; simp)
            exact o _ H' _ (st.trans st2) rp2 (.lst (.inl ⟨.inl rfl, .inl h2⟩) (rs.step st2))
      · exact False.elim o
    · exact o
  | exc e h => exact o
  | bad => exact o
/-- what a body's end wants, of a caller's wishes -/
theorem EndT.outS {C : RC} {H : Hp} {G : Gh} {r : R SO} {Q : VK} {E : XK} (hW : ∀ cls d σ H, E cls d H → C.W cls d σ H) (o : EndT C.S H G (endOf r) Q E) : OutS C H G r { nx := fun _ H' => Q .non H', rt := Q } := by
  cases r with
  | ok x h =>
    cases x with
    | nx a => exact fun σ H' G' st rp rs => o .non H' G' st rp .non
    | ret t => exact o
    | rse e a => exact fun c d σ H' G' st rp rs rx => hW c d σ H' (o c d H' G' st rp rx)
    | brk a => exact False.elim o
    | cont a => exact False.elim o
  | exc e h => exact False.elim o
  | bad => exact False.elim o

/-! ### a def keeps its promise -/
structure FnG (mo : Option (Addr × Obj)) (P : Program) (w : World) (K : PySem.W.Frag) (mg : Str → Option Value) (base : Heap) (k : Nat) (f : Addr) (fd : FuncData) (ps : List Str) (sp : Sp) : Prop where
  len : ∀ vs H Q E, sp vs H Q E → vs.length = ps.length
  run : ∀ (A : Around) (outer : List Env) (s : Shared) (H : Hp) (args : Args) (us : List Value) (vs : List V) (Q : VK) (E : XK), RoomM mo k A → PinM mo outer H s → GdK k A → Env0 P w K mg base A outer s H → BindsTo s fd args (ps.zip us) → Vals vs us → sp vs H Q E →
    codeAny (model P w) A (.call (.ref f) args) (CR (L2.CX P w) outer P w H s Q E) s
theorem FnG.mono {mo : Option (Addr × Obj)} {P : Program} {w : World} {K : PySem.W.Frag} {mg : Str → Option Value} {base : Heap} {j k : Nat} {f : Addr} {fd : FuncData} {ps : List Str} {sp : Sp} (F : FnG mo P w K mg base j f fd ps sp) (h : j ≤ k) : FnG mo P w K mg base k f fd ps sp :=
  ⟨F.len, fun A outer s H args us vs Q E hr hq hd => F.run A outer s H args us vs Q E (hr.mono h) hq (hd.mono h)⟩
theorem FnG.ok {mo : Option (Addr × Obj)} {P : Program} {w : World} {K : PySem.W.Frag} {mg : Str → Option Value} {base : Heap} {k : Nat} {f : Addr} {fd : FuncData} {ps : List Str} {sp : Sp} {A : Around} (F : FnG mo P w K mg base k f fd ps sp) : True := trivial
/-- .. where m is handled -/
abbrev cxM (m : Option (Addr × Obj)) (CX : CXT) (P : Program) (w : World) (K : PySem.W.Frag) (mg : Str → Option Value) (base : Heap) (N : List Str) (qual : Str) (scope : Scope) (f : Addr) (cd : Value) (A : Around) (outer : List Env) (s : Shared) (H : Hp) (E : XK) : Cx :=
  { cxOf CX P w K mg base N qual scope f cd A outer s H E with calm := m.isNone, pn := m.toList }
/-- the context of a def's body -/
abbrev bodyC (P : Program) (w : World) (S : Sta) (mg : Str → Option Value) (base : Heap) (N : List Str) (qual : Str) (scope : Scope) (f : Addr) (cd : Value) (A : Around) (outer : List Env) (s : Shared) (H : Hp) (E : XK) (k : Nat) : RC :=
  ⟨cxM S.mo (L2.CX P w) P w S.K mg base N qual scope f cd A outer s H E, S, fun cls d _ H => E cls d H, k⟩
/-- a def's code object -/
def cdA (K : PySem.W.Frag) (f : Addr) : Addr := match K.lookup f with
  | some ⟨_, _, .func fd, _⟩ => (match fd.code with
    | .ref c => c
    | _ => 0)
  | _ => 0
theorem codeIn_cd {K : PySem.W.Frag} {cd : Value} {q : Str} (h : PySem.W.codeIn K cd q = true) : ∃ c, cd = .ref c := by
  cases cd with
  | ref c => exact ⟨c, rfl⟩
  | _ => cases h
theorem fn_ofG {P : Program} {w : World} {S : Sta} {mg : Str → Option Value} {base : Heap} {k : Nat} {f : Addr} {x qual : Str} {params : Arguments} {body : List Stmt} {scope : Scope} {dvs : List V} {kws : List (Str × V)} {fd : FuncData} {N ps : List Str} {b : SM} {g : List T → Hm → R T}
    (F : FunD S.K x qual params body scope dvs kws f fd) (Sc : FnScope N ps scope)
    (hg : ∀ ts H G h Q E, EndT S H G (g ts h) Q E → G.mu.length = h.length → EndT S H G (endOf (b (st0 N.length ts) h)) Q E)
    (hbody : ∀ (C : RC), C.Ok → C.X.prog = P → C.X.w = w → C.S = S → C.X.mg = mg → C.X.base = base → C.X.N = N → C.X.env.scope = scope → C.k = k → (∀ y, C.X.fn y = true) → PassesOwn (model C.X.prog C.X.w) C.X.A C.X.env C.X.xe → C.X.stack = C.X.env :: C.X.outer → C.X.env.frame = some C.X.env.locals → C.X.ex = [] → HOk C.X.prog C.X.w C.X.H_0 C.X.s_0.heap → C.X.env.qual = qual ++ ".<locals>." → C.X.env.code = .ref (cdA S.K f) → JSs C body b) :
    FnG S.mo P w S.K mg base (k + 1) f fd ps (spT S ps.length g) := by
  obtain ⟨oc, od, dV, kV, doc, pm, an, cdv, ct, osl, rfl, lk, hcd, _, _⟩ := F.ex
  refine ⟨fun vs H Q E ⟨ts, G, h, _, _, l, _⟩ => l, fun A outer s H args us vs Q E hr hpin gd e0 hb r hsp => ?_⟩
  obtain ⟨ts, G, h, rp, rt, hl, o⟩ := hsp
  have KX : S.K.In s.heap := e0.mod.kin.keeps fun b o e => (e0.bs b o e).1
  have lim : s.heap.NoLimit := e0.mod.nolimit.keeps fun b o e => (e0.bs b o e).1
  have hkind : ∀ y ∈ ps.zip us, scope.names.lookup y.1 = some .local ∨ (scope.names.lookup y.1 = some .cell ∧ ((cellsFrom (s.heap.objs.size + 1) scope.names []).lookup y.1).isSome = true) := fun ⟨n, v⟩ hy => by
    rcases Sc.par n (List.of_mem_zip hy).1 with q | q
    · exact .inl q
    · exact .inr ⟨q, PySem.W.cellsFrom_some _ _ _ (.inl q)⟩
  refine codeAny_call_function hr.depth (KX _ _ lk) rfl Sc.co Sc.gen rfl (PySem.W.codeRec_of KX hcd) (hb _ _ _ _ ?_)
  refine wpAny_newFunctionEnv_cells Sc.kind hkind fun env he s1 x => ?_
  subst he
  refine ⟨lim.keeps x.toInCall.keep, codeAny_func ?_⟩
  have ok : (bodyC P w S mg base N qual scope f cdv A outer s H E k).Ok := by
    refine ⟨rfl, fun e => by show S.mo.isNone = true; rw [show S.mo = none from e]; rfl, hr.deeper _, fun p e => by show p ∈ S.mo.toList; rw [show S.mo = some p from e]; simp, (GdK.mono (A := A) gd (Nat.le_succ k)), Sc.nd, ?_⟩
    exact takes_of (X := cxM S.mo (L2.CX P w) P w S.K mg base N qual scope f cdv A outer s H E) rfl rfl rfl rfl
  have jb := hbody (bodyC P w S mg base N qual scope f cdv A outer s H E k) ok rfl rfl rfl rfl rfl rfl rfl rfl (fun _ => rfl) (passes_of (X := cxM S.mo (L2.CX P w) P w S.K mg base N qual scope f cdv A outer s H E) rfl) rfl rfl rfl e0.hok rfl (by
    obtain ⟨c, hc⟩ := codeIn_cd hcd
    subst hc
    show Value.ref c = .ref (cdA S.K f)
    unfold cdA
    rw [lk] <;> rfl)
  have I : Inv (bodyC P w S mg base N qual scope f cdv A outer s H E k).X [] (L2.start N vs) H s1 := by
    show Inv (cxM S.mo (L2.CX P w) P w S.K mg base N qual scope f cdv A outer s H E) [] (L2.start N vs) H s1
    cases em : S.mo with
    | none => exact inv_start Sc (hr.hd em) e0 hl r x
    | some p => exact L2H.inv_startH Sc (hpin p em) e0 hl r x
  have rs : RelSt S H G (st0 N.length ts) (L2.start N vs) := by
    have l2 := rt.length
    refine ⟨by simp [st0, L2.start, l2], fun i t e => ?_⟩
    have hi : i < ts.length := by
      by_cases hi : i < ts.length
      · exact hi
      · unfold st0 at e
        rw [List.getElem?_append_right (by simpa using hi), List.getElem?_replicate] at e
        split at e <;> cases e
    have e1 : ts[i]? = some t := by
      unfold st0 at e
      rw [List.getElem?_append_left (by simpa using hi), List.getElem?_map] at e
      cases q : ts[i]? with
      | none => rw [q] at e; cases e
      | some a => rw [q] at e; cases e; rfl
    obtain ⟨v, h1, h2⟩ := rt.get e1
    refine ⟨v, ?_, h2⟩
    unfold L2.start
    rw [List.getElem?_append_left (by simp; omega), List.getElem?_map, h1]
    rfl
  have o2 : OutS (bodyC P w S mg base N qual scope f cdv A outer s H E k) H G (b (st0 N.length ts) h) { nx := fun _ H' => Q .non H', rt := Q } := EndT.outS (fun _ _ _ _ z => z) (hg ts H G h Q E o rp.len.symm)
  refine wpAny_mono (jb.run I rp rs o2) (fun fl s' hs => ?_) fun e s' hs => hs
  have fin : ∀ {σ' : St} {H' : Hp} {v : V} {u : Value}, Inv (bodyC P w S mg base N qual scope f cdv A outer s H E k).X [] σ' H' s' → RelV v u → Q v H' → CE outer P w H s Q u s' :=
    fun {σ' H' v u} J rv q => ⟨v, H', J.os, J.bare, J.base, J.hok, rv, q⟩
  cases fl with
  | ret u =>
    obtain ⟨v, σ', H', J, rv, q⟩ := hs
    exact fin J rv q
  | next =>
    obtain ⟨σ', H', J, q⟩ := hs
    exact fin (v := V.non) (u := Value.none) J rfl q
  | brk =>
    obtain ⟨_, _, _, q⟩ := hs
    exact False.elim q
  | cont =>
    obtain ⟨_, _, _, q⟩ := hs
    exact False.elim q
/-- a def whose mirror is run n b -/
theorem fn_run {S : Sta} {n : Nat} {b : SM} (ts : List T) (H : Hp) (G : Gh) (h : Hm) (Q : VK) (E : XK) (o : EndT S H G (run n b ts h) Q E) (e : G.mu.length = h.length) : EndT S H G (endOf (b (st0 n ts) h)) Q E := EndT.fin e o
theorem fn_runF {S : Sta} {n : Nat} {b : SM} (ts : List T) (H : Hp) (G : Gh) (h : Hm) (Q : VK) (E : XK) (o : EndT S H G (runF n b ts h) Q E) (e : G.mu.length = h.length) : EndT S H G (endOf (b (st0 n ts) h)) Q E := EndT.frz (EndT.fin e o)

/-! ### how arguments come to parameters -/
structure BindT (S : Sta) (fd : FuncData) (ps : List Str) (n : Nat) (ks : List Str) (arr : List T → List T → List T) : Prop where
  ex : ∃ (gU : List Value → List Value → List Value) (gV : List V → List V → List V),
    (∀ (s : Shared) (us ws : List Value), S.K.In s.heap → us.length = n → ws.length = ks.length → BindsTo s fd ⟨us, ks.zip ws⟩ (ps.zip (gU us ws))) ∧
    (∀ {vs us vz ws}, Vals vs us → Vals vz ws → Vals (gV vs vz) (gU us ws)) ∧
    (∀ {H G ts vs tz vz}, RelTs S H G ts vs → RelTs S H G tz vz → RelTs S H G (arr ts tz) (gV vs vz)) ∧
    (∀ vs vz, vs.length = n → vz.length = ks.length → (gV vs vz).length = ps.length)
/-- all are given by position -/
def arrP (ts : List T) (_ : List T) : List T := ts
theorem BindT.pos {S : Sta} {fd : FuncData} {ps : List Str} (h : Binds S.K fd ps []) : BindT S fd ps ps.length [] arrP :=
  ⟨fun us _ => us, fun vs _ => vs, fun s us ws X hl _ => by
    have := h s us X (by simpa using hl)
    simpa using this, fun r _ => r, fun r _ => r, fun _ _ h _ => h⟩
/-- the last ones by their defaults -/
def arrD (ds : List T) (ts : List T) (_ : List T) : List T := ts ++ ds
theorem BindT.dfl {S : Sta} {fd : FuncData} {ps : List Str} {dvs : List V} {dus : List Value} {n : Nat} (ds : List T) (h : Binds S.K fd ps dus) (hv : Vals dvs dus) (hd : ∀ H G, RelTs S H G ds dvs) (hn : n + dvs.length = ps.length) : BindT S fd ps n [] (arrD ds) :=
  ⟨fun us _ => us ++ dus, fun vs _ => vs ++ dvs, fun s us ws X hl _ => h s us X (by simp [hl, ← hv.length, hn]), fun r _ => r.append hv, fun r _ => r.app (hd _ _), fun _ _ h _ => by simp [h, hn]⟩
theorem BindT.kw {S : Sta} {fd : FuncData} {ps ks : List Str} {n : Nat} {g : List Value → List Value → List Value} {gV : List V → List V → List V} (arr : List T → List T → List T) (h : KBn S.K fd ps n ks g gV)
    (hr : ∀ {H G ts vs tz vz}, RelTs S H G ts vs → RelTs S H G tz vz → RelTs S H G (arr ts tz) (gV vs vz)) (hl : ∀ vs vz, vs.length = n → vz.length = ks.length → (gV vs vz).length = ps.length) : BindT S fd ps n ks arr :=
  ⟨g, gV, h.to, h.rel, hr, hl⟩

/-! ### what may be called -/
abbrev O3 := List T → List T → Hm → R T
def CaK (C : RC) (f : Value) (n : Nat) (ks : List Str) (o : O3) : Prop :=
  ∀ (pins : List (Addr × Obj)) (s : Shared) (σ : St) (H : Hp) (G : Gh) (h : Hm) (xs zs : List T) (vs vz : List V) (us ws : List Value) (Q : VK), Inv C.X pins σ H s → RepH C.S H G h → RelTs C.S H G xs vs → RelTs C.S H G zs vz → Vals vs us → Vals vz ws →
    us.length = n → ws.length = ks.length → Out C σ H G (relE C) (o xs zs h) Q → wpAny (model C.X.prog C.X.w) C.X.A (call f us (ks.zip ws)) (EP C.X pins σ Q) C.X.xe s
theorem Out.endT {C : RC} {σ : St} {H : Hp} {G : Gh} {r : R T} {Q : VK} (o : Out C σ H G (relE C) r Q) : EndT C.S H G r Q (fun cls d H' => C.W cls d σ H') := by
  cases r with
  | ok t h => exact o
  | exc e h => exact o
  | bad => exact o
/-- a def, called with n positional arguments and keywords ks -/
structure FnC (P : Program) (w : World) (S : Sta) (mg : Str → Option Value) (base : Heap) (k : Nat) (f : Addr) (n : Nat) (ks : List Str) (o : O3) : Prop where
  run : ∀ (A : Around) (outer : List Env) (s : Shared) (H : Hp) (G : Gh) (h : Hm) (xs zs : List T) (vs vz : List V) (us ws : List Value) (Q : VK) (E : XK), RoomM S.mo k A → PinM S.mo outer H s → GdK k A → Env0 P w S.K mg base A outer s H → S.K.In s.heap → RepH S H G h → RelTs S H G xs vs → RelTs S H G zs vz → Vals vs us → Vals vz ws →
    us.length = n → ws.length = ks.length → EndT S H G (o xs zs h) Q E → codeAny (model P w) A (.call (.ref f) ⟨us, ks.zip ws⟩) (CR (L2.CX P w) outer P w H s Q E) s
theorem FnC.mono {P : Program} {w : World} {S : Sta} {mg : Str → Option Value} {base : Heap} {j k : Nat} {f : Addr} {n : Nat} {ks : List Str} {o : O3} (F : FnC P w S mg base j f n ks o) (h : j ≤ k) : FnC P w S mg base k f n ks o :=
  ⟨fun A outer s H G hh xs zs vs vz us ws Q E hr hq hd => F.run A outer s H G hh xs zs vs vz us ws Q E (hr.mono h) hq (hd.mono h)⟩
theorem FnG.toC {P : Program} {w : World} {S : Sta} {mg : Str → Option Value} {base : Heap} {k : Nat} {f : Addr} {fd : FuncData} {ps ks : List Str} {n : Nat} {arr : List T → List T → List T} {g : List T → Hm → R T}
    (F : FnG S.mo P w S.K mg base k f fd ps (spT S ps.length g)) (B : BindT S fd ps n ks arr) : FnC P w S mg base k f n ks (fun xs zs h => g (arr xs zs) h) := by
  refine ⟨fun A outer s H G h xs zs vs vz us ws Q E hr hpin gd e0 KX rp rx rz vu vw l1 l2 o => ?_⟩
  obtain ⟨gU, gV, b1, b2, b3, b4⟩ := B.ex
  exact F.run A outer s H ⟨us, ks.zip ws⟩ (gU us ws) (gV vs vz) Q E hr hpin gd e0 (b1 s us ws KX l1 l2) (b2 vu vw) ⟨_, G, h, rp, b3 rx rz, b4 _ _ (by rw [vu.length]; exact l1) (by rw [vw.length]; exact l2), o⟩
theorem CaK.fnC {C : RC} (ok : C.Ok) {k : Nat} {f : Addr} {ks : List Str} {n : Nat} {o : O3}
    (F : FnC C.X.prog C.X.w C.S C.X.mg C.X.base k f n ks o) (hk : k ≤ C.k) : CaK C (.ref f) n ks o := by
  intro pins s σ H G h xs zs vs vz us ws Q I rp rx rz vu vw l1 l2 o
  have KX : C.S.K.In s.heap := by rw [ok.K]; exact I.kIn
  have e0 : Env0 C.X.prog C.X.w C.S.K C.X.mg C.X.base C.X.A C.X.stack s H := by rw [ok.K]; exact I.env0
  refine wpAny_call (codeAny_mono (F.run C.X.A C.X.stack s H G h xs zs vs vz us ws Q (fun cls d H' => C.W cls d σ H') (ok.room.mono hk) (ok.pinM I) (ok.gd.mono hk) e0 KX rp rx rz vu vw l1 l2 o.endT) fun r s' hq => ?_)
  cases r with
  | error e => exact ok.tk e s' (XE.of_call I (fun _ _ _ z => z) hq)
  | ok fl =>
    cases fl with
    | ret u => exact I.after hq
    | next => exact False.elim hq
    | brk => exact False.elim hq
    | cont => exact False.elim hq
theorem CaK.fn {C : RC} (ok : C.Ok) {k : Nat} {f : Addr} {fd : FuncData} {ps ks : List Str} {n : Nat} {arr : List T → List T → List T} {g : List T → Hm → R T}
    (F : FnG C.S.mo C.X.prog C.X.w C.S.K C.X.mg C.X.base k f fd ps (spT C.S ps.length g)) (B : BindT C.S fd ps n ks arr) (hk : k ≤ C.k) : CaK C (.ref f) n ks (fun xs zs h => g (arr xs zs) h) := CaK.fnC ok (F.toC B) hk
/-- a class that is made: __init__ at a new cell, which is frozen behind it -/
def mkFin (c n : Nat) : R T → R T
  | .ok t h => (match t, h[n]? with
    | .non, some (some (.ins c' fs)) => if c' = c then .ok (.obj c fs) (h.take n) else .bad
    | _, _ => .bad)
  | .exc e h => if e.noRef then .exc e (h.take n) else .bad
  | .bad => .bad
def mkC (c : Nat) (o : O3) : O3 := fun xs zs h => mkFin c h.length (o (.ref h.length :: xs) zs (h ++ [some (.ins c [])]))
def mkO (c : Nat) (g : List T → Hm → R T) (arr : List T → List T → List T) : O3 := fun xs zs h => mkFin c h.length (g (arr (.ref h.length :: xs) zs) (h ++ [some (.ins c [])]))
theorem guards_make {k : Nat} {A : Around} {C : Addr} {us : List Value} {kw : List (Str × Value)} (h : GdK k A) : GdK k (A.under (.builtin "type.__call__" ⟨.ref C :: us, kw⟩)) := fun w => by
  show pushGuards (Code.guards (.builtin "type.__call__" ⟨.ref C :: us, kw⟩)) A.guards = some []
  rw [h w]
  first | rfl | simp [pushGuards, Code.guards, Code.isGuard, guardIds]
theorem CaK.makeC {C : RC} (ok : C.Ok) {k c : Nat} {f : Addr} {ks : List Str} {n : Nat} {oo : O3} (M : Mk C.S.K (C.S.cls c) f)
    (F : FnC C.X.prog C.X.w C.S C.X.mg C.X.base k f (n + 1) ks oo) (hk : k + 1 ≤ C.k) : CaK C (.ref (C.S.cls c)) n ks (mkC c oo) := by
  intro pins s σ H G h xs zs vs vz us ws Q I rp rx rz vu vw l1 l2 o
  have hr : RoomM C.S.mo (k + 1) C.X.A := ok.room.mono hk
  have I2 := Inv.made (C := C.S.cls c) I
  have f1 : H s.heap.objs.size = none := I.hok.fresh (Nat.le_refl _)
  have f2 : (upd H s.heap.objs.size (.own (s.heap.objs.size + 1))) (s.heap.objs.size + 1) = none := by
    rw [upd_ne (Nat.succ_ne_self _)]; exact I.hok.fresh (Nat.le_succ _)
  have g1 := grown_upd (o := .own (s.heap.objs.size + 1)) f1
  have st1 := g1.step fun a z => rp.there a (.inr z)
  have rp1 := rp.grown g1
  obtain ⟨st2, rp2⟩ := rp1.newC (o := .ins (C.S.cls c) s.heap.objs.size []) (c := .ins c []) f2 (.ins .nil) rfl
  have st3 := st1.trans st2
  have eref : (G.ad (s.heap.objs.size + 1)).mu[h.length]? = some (s.heap.objs.size + 1) := by
    show (G.mu ++ [s.heap.objs.size + 1])[h.length]? = _
    rw [rp.len, List.getElem?_append_right (Nat.le_refl _)]; simp
  have rx' : RelTs C.S _ (G.ad (s.heap.objs.size + 1)) (.ref h.length :: xs) (.ref (s.heap.objs.size + 1) :: vs) := .cons (.ref eref) (rx.step st3)
  have KX : C.S.K.In { s with heap := (s.heap.push PySem.W.emptyDict).push (PySem.W.instObj (C.S.cls c) s.heap.objs.size) }.heap := by rw [ok.K]; exact I2.kIn
  have e0 := I2.env0.make (C.S.cls c) us (ks.zip ws)
  rw [← ok.K] at e0
  have hmu : (G.ad (s.heap.objs.size + 1)).mu.length = h.length + 1 := by simp [Gh.ad, rp.len]
  have hend : EndT C.S (upd (upd H s.heap.objs.size (.own (s.heap.objs.size + 1))) (s.heap.objs.size + 1) (.ins (C.S.cls c) s.heap.objs.size [])) (G.ad (s.heap.objs.size + 1)) (oo (.ref h.length :: xs) zs (h ++ [some (.ins c [])])) (fun v H2 => v = .non ∧ Q (.ref (s.heap.objs.size + 1)) H2) (fun cls d H' => C.W cls d σ H') := by
    have o2 := Out.endT o
    unfold mkC at o2
    cases q : oo (.ref h.length :: xs) zs (h ++ [some (.ins c [])]) with
    | ok t h' =>
      rw [q] at o2
      unfold mkFin at o2
      dsimp only at o2
      split at o2
      · rename_i c' fs e2
        split at o2
        · rename_i ec
          subst ec
          intro v H' G' st rp' rv
          cases rv
          refine ⟨rfl, ?_⟩
          obtain ⟨a, u, h1, h2, h3, h4, h5⟩ := rp'.cell _ _ e2
          rw [st.get eref] at h1; cases h1
          cases h3 with
          | ins rf =>
            obtain ⟨st4, rp4⟩ := rp'.freeze (st.get eref) (by rw [h2]; simp)
            have cutl : ((h'.set h.length none).take h.length) = h'.take h.length := by rw [List.take_set_of_le (Nat.le_refl _)]
            have rp5 := rp4.cut h.length
            rw [cutl] at rp5
            have st5 := ((st3.trans st).trans st4).cut
            rw [← rp.len] at st5
            exact o2 _ H' _ st5 rp5 (.obj (.inl rfl) h2 (RelFs.indep (G := G') (G' := (G'.fz (s.heap.objs.size + 1)).cut h.length) (fun _ z => .inr z) rf h5))
        · exact False.elim o2
      · exact False.elim o2
    | exc e h' =>
      rw [q] at o2
      unfold mkFin at o2
      dsimp only at o2
      split at o2
      · rename_i nr
        intro cl d H' G' st rp' rx
        have st5 := (st3.trans st).cut
        rw [← rp.len] at st5
        exact o2 cl d H' _ st5 (rp'.cut h.length) (RelX.indep (G := G') (G' := G'.cut h.length) (fun _ z => z) rx nr)
      · exact False.elim o2
    | bad => rw [q] at o2; exact o2
  have l1' : (Value.ref (s.heap.objs.size + 1) :: us).length = n + 1 := by simp [l1]
  have vu' : Vals (V.ref (s.heap.objs.size + 1) :: vs) (Value.ref (s.heap.objs.size + 1) :: us) := .cons rfl vu
  refine wpAny_call (make_map (f := f) I.kIn (by rw [← ok.K]; exact M.makes) (by rw [← ok.K]; exact M.init) (by rw [← ok.K]; exact beq_iff_eq.mp M.fn) (codeAny_mono (F.run _ C.X.stack _ _ (G.ad (s.heap.objs.size + 1)) (h ++ [some (.ins c [])]) (.ref h.length :: xs) zs _ _ (Value.ref (s.heap.objs.size + 1) :: us) ws _ (fun cls d H' => C.W cls d σ H')
    (hr.make _ us (ks.zip ws)) (ok.pinM I2) (guards_make (ok.gd.mono (Nat.le_trans (Nat.le_succ k) hk))) e0 KX rp2 rx' (rz.step st3) vu' vw l1' l2 hend) fun r s' hq' => ?_))
  cases r with
  | error e => exact ok.tk e s' (XE.of_call I2 (fun _ _ _ z => z) hq')
  | ok fl =>
    cases fl with
    | ret u =>
      obtain ⟨v, H', I3, rv, ev, q3⟩ := I2.after hq'
      subst ev
      exact ⟨rv, ⟨V.ref (s.heap.objs.size + 1), H', I3, rfl, q3⟩⟩
    | next => exact False.elim hq'
    | brk => exact False.elim hq'
    | cont => exact False.elim hq'

theorem CaK.make {C : RC} (ok : C.Ok) {k c : Nat} {f : Addr} {fd : FuncData} {ps ks : List Str} {n : Nat} {arr : List T → List T → List T} {g : List T → Hm → R T} (M : Mk C.S.K (C.S.cls c) f)
    (F : FnG C.S.mo C.X.prog C.X.w C.S.K C.X.mg C.X.base k f fd ps (spT C.S ps.length g)) (B : BindT C.S fd ps (n + 1) ks arr) (hk : k + 1 ≤ C.k) : CaK C (.ref (C.S.cls c)) n ks (mkO c g arr) := CaK.makeC ok M (F.toC B) hk

/-! ### calls, as written -/
section
variable {C : RC} {f : Value} {n : Nat} {ks : List Str} {o : O3} {x : Str} {p pos : Pos} {e : Expr} {es : List Expr} {kws : List Keyword} {ra rk : AT}
/-- the values of the keywords -/
def JK (C : RC) (kws : List Keyword) (r : AT) : Prop := PK C.X kws (liA C r)
theorem jk_nil : JK C [] aNil := by
  refine ⟨fun pos pins s σ H Q I hw => ?_⟩
  obtain ⟨st, G, h, rp, rs, o⟩ := hw
  exact pk_nil.run pos pins s σ H Q I (o [] H G Step.refl rp .nil)
theorem jk_cons {r : ET} {rr : AT} {nm : Option Str} {kpos : Pos} (ja : JE C e r) (jr : JK C kws rr) : JK C (⟨nm, e, kpos⟩ :: kws) (aCons r rr) := by
  refine ⟨fun pos pins s σ H Q I hw => ?_⟩
  obtain ⟨st, G, h, rp, rs, o⟩ := hw
  refine (pk_cons (te := liE C r) (t := liA C rr) ja jr).run pos pins s σ H Q I ⟨st, G, h, rp, rs, (Out.bind (Rel := relE C) o).mono fun v H1 ⟨t, G1, h1, st1, rp1, rv, o1⟩ => ?_⟩
  refine ⟨st, G1, h1, rp1, rs.step st1, (Out.bind (Rel := relA C) o1).mono fun vs H2 ⟨ts, G2, h2, st2, rp2, rvs, o2⟩ => ?_⟩
  exact o2 _ _ _ Step.refl rp2 (.cons (rv.step st2) rvs)
def eCall (n : Nat) (o : O3) (ra : AT) : ET := fun st h => (ra st h).bind fun xs h1 => if xs.length = n then o xs [] h1 else .bad
def eCallK (n m : Nat) (o : O3) (ra rk : AT) : ET := fun st h => (ra st h).bind fun xs h1 => (rk st h1).bind fun zs h2 => if xs.length = n ∧ zs.length = m then o xs zs h2 else .bad
theorem run_args (hc : CaK C f n [] o) {pins : List (Addr × Obj)} {s : Shared} {σ : St} {H : Hp} {G : Gh} {h : Hm} {xs : List T} {vs : List V} {us : List Value} {Q : VK} (I : Inv C.X pins σ H s) (rp : RepH C.S H G h) (rx : RelTs C.S H G xs vs) (vu : Vals vs us)
    (ho : Out C σ H G (relE C) (if xs.length = n then o xs [] h else .bad) Q) : wpAny (model C.X.prog C.X.w) C.X.A (call f us) (EP C.X pins σ Q) C.X.xe s := by
  split at ho
  · rename_i hl
    exact hc pins s σ H G h xs [] vs [] us [] Q I rp rx .nil vu .nil (by rw [← vu.length, ← rx.length]; exact hl) rfl ho
  · exact False.elim ho
/-- f(e, ..) -/
theorem je_call (hc : CaK C f n [] o) (hg : Gl C.X x) (hm : C.X.mg x = some f) (hk : PySem.W.keepIn C.X.K f = true) (ja : JA C (e :: es) ra) (hdb : (x == ("__debug__" : Str)) = false := by decide)
    (he : starEach (e :: es) C.X.env = (false, eval e C.X.env) :: starEach es C.X.env := by rfl) (hpl : (backTo pos (starEach es C.X.env)).any (·.1) = false := by rfl) : JE C (.Call (.Name x p) (e :: es) [] pos) (eCall n o ra) := by
  refine ⟨fun pins s σ H Q I hw => ?_⟩
  obtain ⟨st, G, h, rp, rs, ho⟩ := hw
  refine wpAny_Call_Name_kw (ld_glob I hg hm ?_ hdb)
  refine PySem.W.callWith_K (h₀ := C.X.base) I.ok.mod.kin hk (thn (ja.run pos I rp rs (Out.bind (Rel := relA C) ho)) fun us s1 ⟨vs, H1, I1, vu, xs, G1, h1, st1, rp1, rx, o1⟩ => ⟨I1.kIn, ?_⟩) he hpl
  exact run_args hc I1 rp1 rx vu o1
theorem je_call0 (hc : CaK C f n [] o) (hg : Gl C.X x) (hm : C.X.mg x = some f) (hk : PySem.W.keepIn C.X.K f = true) (hdb : (x == ("__debug__" : Str)) = false := by decide) : JE C (.Call (.Name x p) [] [] pos) (eCall n o aNil) := by
  refine ⟨fun pins s σ H Q I hw => ?_⟩
  obtain ⟨st, G, h, rp, rs, ho⟩ := hw
  refine wpAny_Call_Name_kw (ld_glob I hg hm ?_ hdb)
  exact PySem.W.callWith_K0 I.kIn hk (run_args (us := []) hc I rp .nil .nil ho)
theorem je_callK (hc : CaK C f n ks o) (hg : Gl C.X x) (hm : C.X.mg x = some f) (hk : PySem.W.keepIn C.X.K f = true) (ja : JA C (e :: es) ra) (jk : JK C kws rk) (hall : (backToKw pos (keywordEach kws C.X.env)).all (·.1.isSome) = true := by rfl)
    (hks : (backToKw pos (keywordEach kws C.X.env)).filterMap (·.1) = ks := by rfl) (hdb : (x == ("__debug__" : Str)) = false := by decide) (he : starEach (e :: es) C.X.env = (false, eval e C.X.env) :: starEach es C.X.env := by rfl)
    (hpl : ((backTo pos (starEach (e :: es) C.X.env)).any (·.1) || (backToKw pos (keywordEach kws C.X.env)).any (·.1.isNone)) = false := by rfl) : JE C (.Call (.Name x p) (e :: es) kws pos) (eCallK n ks.length o ra rk) := by
  refine ⟨fun pins s σ H Q I hw => ?_⟩
  obtain ⟨st, G, h, rp, rs, ho⟩ := hw
  refine wpAny_Call_Name_kw (ld_glob I hg hm ?_ hdb)
  refine PySem.W.callWith_KW (h₀ := C.X.base) I.ok.mod.kin hk hall (thn (ja.run pos I rp rs (Out.bind (Rel := relA C) ho)) fun us s1 ⟨vs, H1, I1, vu, xs, G1, h1, st1, rp1, rx, o1⟩ => ?_) hpl he
  refine thn (PK.run jk pos pins s1 σ H1 _ I1 ⟨st, G1, h1, rp1, rs.step st1, Out.bind (Rel := relA C) o1⟩) fun ws s2 ⟨vz, H2, I2, vw, zs, G2, h2, st2, rp2, rz, o2⟩ => ⟨I2.kIn, ?_⟩
  rw [hks]
  dsimp only at o2
  split at o2
  · rename_i hl
    exact hc pins s2 σ H2 G2 h2 xs zs vs vz us ws Q I2 rp2 (rx.step st2) rz vu vw (by rw [← vu.length, ← rx.length]; exact hl.1) (by rw [← vw.length, ← rz.length]; exact hl.2) o2
  · exact False.elim o2
theorem je_callK0 (hc : CaK C f n ks o) (hg : Gl C.X x) (hm : C.X.mg x = some f) (hk : PySem.W.keepIn C.X.K f = true) (jk : JK C kws rk) (hall : (backToKw pos (keywordEach kws C.X.env)).all (·.1.isSome) = true := by rfl)
    (hks : (backToKw pos (keywordEach kws C.X.env)).filterMap (·.1) = ks := by rfl) (hdb : (x == ("__debug__" : Str)) = false := by decide)
    (hpl : ((backTo pos (starEach [] C.X.env)).any (·.1) || (backToKw pos (keywordEach kws C.X.env)).any (·.1.isNone)) = false := by rfl) : JE C (.Call (.Name x p) [] kws pos) (eCallK n ks.length o aNil rk) := by
  refine ⟨fun pins s σ H Q I hw => ?_⟩
  obtain ⟨st, G, h, rp, rs, ho⟩ := hw
  refine wpAny_Call_Name_kw (ld_glob I hg hm ?_ hdb)
  refine PySem.W.callWith_KW0 (h₀ := C.X.base) I.ok.mod.kin hk hall ?_ hpl
  refine thn (PK.run jk pos pins s σ H _ I ⟨st, G, h, rp, rs, Out.bind (Rel := relA C) ho⟩) fun ws s2 ⟨vz, H2, I2, vw, zs, G2, h2, st2, rp2, rz, o2⟩ => ⟨I2.kIn, ?_⟩
  rw [hks]
  dsimp only at o2
  split at o2
  · rename_i hl
    exact hc pins s2 σ H2 G2 h2 [] zs [] vz [] ws Q I2 rp2 .nil rz .nil vw hl.1 (by rw [← vw.length, ← rz.length]; exact hl.2) o2
  · exact False.elim o2
end
end RT
set_option Elab.async false
set_option linter.all false
set_option maxRecDepth 100000
set_option maxHeartbeats 4000000
/-! RT, part f: fields and methods; built-in functions; lists and tuples. -/
namespace RT
open PySem PySem.Spec L2
open PyProof.Rows hiding St

/-! ### instances -/
def insOf (t : T) (h : Hm) : Option (Nat × List (Nat × T)) := match t with
  | .obj c fs => some (c, fs)
  | .ref l => (match h[l]? with
    | some (some (.ins c fs)) => some (c, fs)
    | _ => none)
  | _ => none
theorem insOf_rel {S : Sta} {H : Hp} {G : Gh} {h : Hm} (rp : RepH S H G h) {t : T} {v : V} (r : RelT S H G t v) {c : Nat} {fs : List (Nat × T)} (e : insOf t h = some (c, fs)) : ∃ a dx vs, v = .ref a ∧ H a = some (.ins (S.cls c) dx vs) ∧ RelFs S H G fs vs := by
  cases r with
  | obj z q rf =>
    unfold insOf at e
    cases e
    exact ⟨_, _, _, rfl, q, rf⟩
  | ref hl =>
    unfold insOf at e
    dsimp only at e
    split at e
    · rename_i c' fs' q
      cases e
      obtain ⟨a, o, h1, h2, h3, _, _⟩ := rp.cell _ _ q
      rw [hl] at h1; cases h1
      cases h3 with
      | ins rf => exact ⟨_, _, _, rfl, h2, rf⟩
    · cases e
  | _ => cases e
section
variable {C : RC} {pos : Pos} {e o : Expr} {re ro : ET} {f : Str} {fi : Nat}
/-- e.f, a field, the classes cs -/
def eFld (cs : List Nat) (fi : Nat) (re : ET) : ET := fun st h => (re st h).bind fun x h1 => match insOf x h1 with
  | some (c, fs) => if cs.contains c then (match fs.lookup fi with
    | some t => .ok t h1
    | none => .bad) else .bad
  | none => .bad
theorem je_fld (ok : C.Ok) {cs : List Nat} (j : JE C e re) (ef : C.S.fld fi = f) (hf : fi < C.S.nf) (hc : ∀ c ∈ cs, Cls C.S.K (C.S.cls c) ∧ NoAttr C.S.K (C.S.cls c) f)
    (hb : attributeBase e f C.X.env (eval e C.X.env) = eval e C.X.env := by rfl) : JE C (.Attribute e f pos) (eFld cs fi re) := by
  refine ⟨fun pins s σ H Q I hw => ?_⟩
  obtain ⟨st, G, h, rp, rs, ho⟩ := hw
  refine attr_of hb (thn (j.run I rp rs (Out.bind (Rel := relE C) ho)) fun u s1 ⟨v, H1, I1, ru, x, G1, h1, st1, rp1, rx, o1⟩ => ?_)
  dsimp only at o1
  split at o1
  · rename_i c fs e1
    split at o1
    · rename_i hcs
      split at o1
      · rename_i t e2
        obtain ⟨a, dx, vs, rfl, ea, rf⟩ := insOf_rel rp1 rx e1
        obtain ⟨v', l1, rt⟩ := rf.look hf e2
        obtain ⟨c1, c2⟩ := hc c (List.contains_iff_mem.mp hcs)
        rw [ok.K] at c1 c2
        cases ru
        exact getattr_ok I1 ea c1 c2 (by rw [← ef]; exact l1) fun u' s2 I2 ru' => ⟨v', H1, I2, ru', out_ok o1 rp1 rt⟩
      · exact False.elim o1
    · exact False.elim o1
  · exact False.elim o1
/-- o.f = e, o an instance that is a cell -/
def sFldT (cs : List Nat) (fi : Nat) (re ro : ET) : SM := fun a h => (re a h).th a fun y h1 => (ro a h1).th a fun x h2 => match x with
  | .ref l => (match h2[l]? with
    | some (some (.ins c fs)) => if cs.contains c && (y.noRef && decide (fs.length < 1000)) then .ok (.nx a) (h2.set l (some (.ins c (putT fi y fs)))) else .bad
    | _ => .bad)
  | _ => .bad
theorem js_fld (ok : C.Ok) {cs : List Nat} {pos' : Pos} (jo : JE C o ro) (je : JE C e re) (ef : C.S.fld fi = f) (hf : fi < C.S.nf) (hc : ∀ c ∈ cs, Cls C.S.K (C.S.cls c) ∧ NoAttr C.S.K (C.S.cls c) f)
    (hs : swapsWith e (some (.Attribute o f pos')) pos.line C.X.env = pure false := by rfl) : JS C (.Assign [.Attribute o f pos'] e pos) (sFldT cs fi re ro) := by
  refine ⟨fun pins s σ H D I hw => ?_⟩
  obtain ⟨a, G, h, rp, rs, ho⟩ := hw
  refine plainObj_wpAny_Assign_Attribute (thn (je.run I rp rs (OutS.bind (Rel := relE C) rs ho)) fun u s1 ⟨v, H1, I1, ru, y, G1, h1, st1, rp1, ry, o1⟩ => ?_) hs
  refine thn (jo.run I1 rp1 (rs.step st1) (OutS.bind (Rel := relE C) (rs.step st1) o1)) fun u2 s2 ⟨v2, H2, I2, ru2, x, G2, h2, st2, rp2, rx, o2⟩ => ?_
  dsimp only at o2
  split at o2
  · rename_i l
    split at o2
    · rename_i c fs q
      split at o2
      · rename_i hcs
        obtain ⟨k1, k2⟩ := band hcs
        obtain ⟨k2, k3⟩ := band k2
        cases rx with
        | ref hl =>
          cases ru2
          obtain ⟨a', o', h1', h2', h3', _, hnr⟩ := rp2.cell _ _ q
          rw [hl] at h1'; cases h1'
          cases h3' with
          | ins rf =>
            obtain ⟨c1, c2⟩ := hc c (List.contains_iff_mem.mp k1)
            rw [ok.K] at c1 c2
            refine setattr_ok I2 h2' c1 c2 (by rw [← rf.length]; exact of_decide_eq_true k3) ru fun s3 I3 => ?_
            obtain ⟨st3, rp3⟩ := rp2.set hl q (.ins (rf.put hf (ry.step st2))) (noRefF_put k2 hnr)
            rw [ef] at st3 rp3
            exact ⟨σ, _, I3, o2 σ _ _ st3 rp3 (((rs.step st1).step st2).step st3)⟩
      · exact False.elim o2
    · exact False.elim o2
  · exact False.elim o2

/-! ### methods of own classes -/
/-- o.m(..): ms: what m is in each class -/
def eMeth (mi n m : Nat) (ms : Nat → Option O3) (ro : ET) (ra rk : AT) : ET := fun st h => (ro st h).bind fun x h1 => match insOf x h1 with
  | some (c, fs) => (match ms c, fs.lookup mi with
    | some g, none => (ra st h1).bind fun xs h2 => (rk st h2).bind fun zs h3 => if xs.length = n ∧ zs.length = m then g (x :: xs) zs h3 else .bad
    | _, _ => .bad)
  | none => .bad
/-- what a method is, class by class -/
def MsOk (C : RC) (f : Str) (n : Nat) (ks : List Str) (ms : Nat → Option O3) : Prop := ∀ c g, ms c = some g → Cls C.S.K (C.S.cls c) ∧ ∃ a, Meth C.S.K (C.S.cls c) f a ∧ CaK C (.ref a) (n + 1) ks g
theorem meth_run (ok : C.Ok) {n : Nat} {ks : List Str} {ms : Nat → Option O3} {ra rk : AT} {args : List Expr} {kws : List Keyword} {apos : Pos} (jo : JE C o ro) (ef : C.S.fld fi = f) (hf : fi < C.S.nf) (hm : MsOk C f n ks ms) {pl : Sem Bool}
    {pins : List (Addr × Obj)} {s : Shared} {σ : St} {H : Hp} {Q : VK} (I : Inv C.X pins σ H s) (hw : liE C (eMeth fi n ks.length ms ro ra rk) σ H Q)
    (ht : eval (.Call (.Attribute o f apos) args kws pos) C.X.env = (do
      let ov ← eval o C.X.env
      standAt apos.atName
      let (f, first) ← holding [ov] (getMethod ov f pl)
      callWith pos f first (backTo pos (starEach args C.X.env)) (backToKw pos (keywordEach kws C.X.env))))
    (go : ∀ (a x : Addr) (g : O3) (tx : T) (G1 : Gh) (h1 : Hm) (st : StT) (H1 : Hp) (s1 : Shared), Inv C.X pins σ H1 s1 → RepH C.S H1 G1 h1 → RelSt C.S H1 G1 st σ → RelT C.S H1 G1 tx (.ref x) → PySem.W.keepIn C.X.K (.ref a) = true → CaK C (.ref a) (n + 1) ks g →
      Out C σ H1 G1 (relE C) ((ra st h1).bind fun xs h2 => (rk st h2).bind fun zs h3 => if xs.length = n ∧ zs.length = ks.length then g (tx :: xs) zs h3 else .bad) Q →
      wpAny (model C.X.prog C.X.w) C.X.A (callWith pos (.ref a) [.ref x] (backTo pos (starEach args C.X.env)) (backToKw pos (keywordEach kws C.X.env))) (EP C.X pins σ Q) C.X.xe s1) :
    wpAny (model C.X.prog C.X.w) C.X.A (eval (.Call (.Attribute o f apos) args kws pos) C.X.env) (EP C.X pins σ Q) C.X.xe s := by
  obtain ⟨st, G, h, rp, rs, ho⟩ := hw
  refine PySem.W.methodCall_KW (pl := pl) (thn (jo.run I rp rs (Out.bind (Rel := relE C) ho)) fun u s1 ⟨v, H1, I1, ru, x, G1, h1, st1, rp1, rx, o1⟩ => ?_) ht
  dsimp only at o1
  split at o1
  · rename_i c fs e1
    split at o1
    · rename_i g eg el
      obtain ⟨a, dx, vs, rfl, ea, rf⟩ := insOf_rel rp1 rx e1
      have l1 := rf.lookN hf el
      obtain ⟨c1, fa, c2, c3⟩ := hm c g eg
      rw [ok.K] at c1 c2
      cases ru
      refine getmeth_ok I1 ea c1 c2 (by rw [← ef]; exact l1) ?_
      exact go fa a g x G1 h1 st H1 s1 I1 rp1 (rs.step st1) rx c2.kp c3 o1
    · exact False.elim o1
  · exact False.elim o1
theorem je_meth (ok : C.Ok) {n : Nat} {ms : Nat → Option O3} {ra : AT} {es : List Expr} {e1 : Expr} {apos : Pos} (jo : JE C o ro) (ef : C.S.fld fi = f) (hf : fi < C.S.nf) (hm : MsOk C f n [] ms) (ja : JA C (e1 :: es) ra) {pl : Sem Bool}
    (hst : starEach (e1 :: es) C.X.env = (false, eval e1 C.X.env) :: starEach es C.X.env := by rfl) (hpl : (backTo pos (starEach es C.X.env)).any (·.1) = false := by rfl)
    (ht : eval (.Call (.Attribute o f apos) (e1 :: es) [] pos) C.X.env = (do
      let ov ← eval o C.X.env
      standAt apos.atName
      let (f, first) ← holding [ov] (getMethod ov f pl)
      callWith pos f first (backTo pos (starEach (e1 :: es) C.X.env)) (backToKw pos (keywordEach [] C.X.env))) := by rfl) : JE C (.Call (.Attribute o f apos) (e1 :: es) [] pos) (eMeth fi n 0 ms ro ra aNil) := by
  refine ⟨fun pins s σ H Q I hw => ?_⟩
  refine meth_run ok jo ef hf hm I hw ht fun a x g tx G1 h1 st H1 s1 I1 rp1 rs1 rx kp ck o1 => ?_
  refine PySem.W.callWith_K (first := [.ref x]) (h₀ := C.X.base) I.ok.mod.kin kp (thn (ja.run pos I1 rp1 rs1 (Out.bind (Rel := relA C) o1)) fun us s2 ⟨vs, H2, I2, vu, xs, G2, h2, st2, rp2, rxs, o2⟩ => ⟨I2.kIn, ?_⟩) hst hpl
  have o3 : Out C σ H2 G2 (relE C) (if xs.length = n ∧ ([] : List T).length = ([] : List Str).length then g (tx :: xs) [] h2 else .bad) Q := o2
  split at o3
  · rename_i hl
    exact ck pins s2 σ H2 G2 h2 (tx :: xs) [] (.ref x :: vs) [] (.ref x :: us) [] Q I2 rp2 (.cons (rx.step st2) rxs) .nil (.cons rfl vu) .nil (by simp [← vu.length, ← rxs.length, hl.1]) rfl o3
  · exact False.elim o3
theorem je_meth0 (ok : C.Ok) {ms : Nat → Option O3} {apos : Pos} (jo : JE C o ro) (ef : C.S.fld fi = f) (hf : fi < C.S.nf) (hm : MsOk C f 0 [] ms) {pl : Sem Bool}
    (ht : eval (.Call (.Attribute o f apos) [] [] pos) C.X.env = (do
      let ov ← eval o C.X.env
      standAt apos.atName
      let (f, first) ← holding [ov] (getMethod ov f pl)
      callWith pos f first (backTo pos (starEach [] C.X.env)) (backToKw pos (keywordEach [] C.X.env))) := by rfl) : JE C (.Call (.Attribute o f apos) [] [] pos) (eMeth fi 0 0 ms ro aNil aNil) := by
  refine ⟨fun pins s σ H Q I hw => ?_⟩
  refine meth_run ok jo ef hf hm I hw ht fun a x g tx G1 h1 st H1 s1 I1 rp1 rs1 rx kp ck o1 => ?_
  have o3 : Out C σ H1 G1 (relE C) (g [tx] [] h1) Q := o1
  exact PySem.W.callWith_K0 (first := [.ref x]) I1.kIn kp (ck pins s1 σ H1 G1 h1 [tx] [] [.ref x] [] [.ref x] [] Q I1 rp1 (.cons rx .nil) .nil (.cons rfl .nil) .nil rfl rfl o3)
theorem je_methK0 (ok : C.Ok) {ks : List Str} {ms : Nat → Option O3} {rk : AT} {kws : List Keyword} {apos : Pos} (jo : JE C o ro) (ef : C.S.fld fi = f) (hf : fi < C.S.nf) (hm : MsOk C f 0 ks ms) (jk : JK C kws rk) {pl : Sem Bool}
    (hall : (backToKw pos (keywordEach kws C.X.env)).all (·.1.isSome) = true := by rfl) (hks : (backToKw pos (keywordEach kws C.X.env)).filterMap (·.1) = ks := by rfl)
    (hpl : ((backTo pos (starEach [] C.X.env)).any (·.1) || (backToKw pos (keywordEach kws C.X.env)).any (·.1.isNone)) = false := by rfl)
    (ht : eval (.Call (.Attribute o f apos) [] kws pos) C.X.env = (do
      let ov ← eval o C.X.env
      standAt apos.atName
      let (f, first) ← holding [ov] (getMethod ov f pl)
      callWith pos f first (backTo pos (starEach [] C.X.env)) (backToKw pos (keywordEach kws C.X.env))) := by rfl) : JE C (.Call (.Attribute o f apos) [] kws pos) (eMeth fi 0 ks.length ms ro aNil rk) := by
  refine ⟨fun pins s σ H Q I hw => ?_⟩
  refine meth_run ok jo ef hf hm I hw ht fun a x g tx G1 h1 st H1 s1 I1 rp1 rs1 rx kp ck o1 => ?_
  refine PySem.W.callWith_KW0 (first := [.ref x]) (h₀ := C.X.base) I.ok.mod.kin kp hall ?_ hpl
  refine thn (PK.run jk pos pins s1 σ H1 _ I1 ⟨st, G1, h1, rp1, rs1, Out.bind (Rel := relA C) o1⟩) fun ws s2 ⟨vz, H2, I2, vw, zs, G2, h2, st2, rp2, rz, o2⟩ => ⟨I2.kIn, ?_⟩
  rw [hks]
  have o3 : Out C σ H2 G2 (relE C) (if ([] : List T).length = 0 ∧ zs.length = ks.length then g [tx] zs h2 else .bad) Q := o2
  split at o3
  · rename_i hl
    exact ck pins s2 σ H2 G2 h2 [tx] zs [.ref x] vz [.ref x] ws Q I2 rp2 (.cons (rx.step st2) .nil) rz (.cons rfl .nil) vw rfl (by rw [← vw.length, ← rz.length]; exact hl.2) o3
  · exact False.elim o3
end

/-! ### built-in functions and types, by name -/
section
variable {C : RC} {pos p : Pos} {x : Str} {e : Expr} {es : List Expr} {ra : AT} {g : List T → Hm → R T}
def eCB (g : List T → Hm → R T) (ra : AT) : ET := fun st h => (ra st h).bind g
theorem je_callB {id : String} (hc : CaT C (.builtin id) g) (hg : Gl C.X x) (hm : C.X.mg x = none) (hv : bootBuiltins x = some (.builtin id)) (ja : JA C (e :: es) ra) (hn : x ≠ "__name__" := by decide) (hdb : (x == ("__debug__" : Str)) = false := by decide)
    (he : starEach (e :: es) C.X.env = (false, eval e C.X.env) :: starEach es C.X.env := by rfl) (hpl : (backTo pos (starEach es C.X.env)).any (·.1) = false := by rfl) : JE C (.Call (.Name x p) (e :: es) [] pos) (eCB g ra) := by
  refine ⟨fun pins s σ H Q I hw => ?_⟩
  obtain ⟨st, G, h, rp, rs, ho⟩ := hw
  refine wpAny_Call_Name_kw (ld_blt I hg hm hv ?_ hn hdb)
  exact PyProof.Rows.callWith_builtin1 (thn (ja.run pos I rp rs (Out.bind (Rel := relA C) ho)) fun us s1 ⟨vs, H1, I1, vu, xs, G1, h1, st1, rp1, rx, o1⟩ => hc pins s1 σ H1 G1 h1 xs vs us Q I1 rp1 rx vu o1) he hpl
theorem je_callTy {Ty : String} (hc : CaT C (.type Ty) g) (hg : Gl C.X x) (hm : C.X.mg x = none) (hv : bootBuiltins x = some (.type Ty)) (ja : JA C (e :: es) ra) (hn : x ≠ "__name__" := by decide) (hdb : (x == ("__debug__" : Str)) = false := by decide)
    (he : starEach (e :: es) C.X.env = (false, eval e C.X.env) :: starEach es C.X.env := by rfl) (hpl : (backTo pos (starEach es C.X.env)).any (·.1) = false := by rfl) : JE C (.Call (.Name x p) (e :: es) [] pos) (eCB g ra) := by
  refine ⟨fun pins s σ H Q I hw => ?_⟩
  obtain ⟨st, G, h, rp, rs, ho⟩ := hw
  refine wpAny_Call_Name_kw (ld_blt I hg hm hv ?_ hn hdb)
  exact PyProof.Rows.callWith_type1 (thn (ja.run pos I rp rs (Out.bind (Rel := relA C) ho)) fun us s1 ⟨vs, H1, I1, vu, xs, G1, h1, st1, rp1, rx, o1⟩ => hc pins s1 σ H1 G1 h1 xs vs us Q I1 rp1 rx vu o1) he hpl
end

/-! ### sequences -/
/-- the items of a list or tuple -/
def seqOf (t : T) (h : Hm) : Option (List T) := match t with
  | .lst xs => some xs
  | .tup xs => some xs
  | .ref l => (match h[l]? with
    | some (some (.lst xs)) => some xs
    | _ => none)
  | _ => none
section
variable {C : RC}
theorem seqOf_rel (ok : C.Ok) {H : Hp} {G : Gh} {h : Hm} (rp : RepH C.S H G h) {t : T} {v : V} (r : RelT C.S H G t v) {xs : List T} (e : seqOf t h = some xs) : ∃ a vs, v = .ref a ∧ (SqL C.X.K H a vs ∨ SqT C.X.K H a vs) ∧ RelTs C.S H G xs vs := by
  cases r with
  | tup hz rs => cases e; refine ⟨_, _, rfl, .inr ?_, rs⟩; rw [← ok.K]; exact hz.sq
  | lst hz rs => cases e; refine ⟨_, _, rfl, .inl ?_, rs⟩; rw [← ok.K]; exact hz.sq
  | ref hl =>
    unfold seqOf at e
    dsimp only at e
    split at e
    · rename_i xs' q
      cases e
      obtain ⟨a, o, h1, h2, h3, _, _⟩ := rp.cell _ _ q
      rw [hl] at h1; cases h1
      cases h3 with
      | lst rs => exact ⟨_, _, rfl, .inl (.inl (.inl h2)), rs⟩
    · cases e
  | _ => cases e
/-- the lists alone -/
def lstOf (t : T) (h : Hm) : Option (List T) := match t with
  | .lst xs => some xs
  | .ref l => (match h[l]? with
    | some (some (.lst xs)) => some xs
    | _ => none)
  | _ => none
theorem lstOf_rel (ok : C.Ok) {H : Hp} {G : Gh} {h : Hm} (rp : RepH C.S H G h) {t : T} {v : V} (r : RelT C.S H G t v) {xs : List T} (e : lstOf t h = some xs) : ∃ a vs, v = .ref a ∧ SqL C.X.K H a vs ∧ RelTs C.S H G xs vs := by
  cases r with
  | lst hz rs => cases e; refine ⟨_, _, rfl, ?_, rs⟩; rw [← ok.K]; exact hz.sq
  | ref hl =>
    unfold lstOf at e
    dsimp only at e
    split at e
    · rename_i xs' q
      cases e
      obtain ⟨a, o, h1, h2, h3, _, _⟩ := rp.cell _ _ q
      rw [hl] at h1; cases h1
      cases h3 with
      | lst rs => exact ⟨_, _, rfl, .inl (.inl h2), rs⟩
    · cases e
  | _ => cases e
theorem noRefs_get : ∀ {xs : List T} {i : Nat} {t : T}, T.noRefs xs = true → xs[i]? = some t → t.noRef = true
  | [], _, _, _, e => by simp at e
  | x :: r, 0, t, h, e => by simp at e; subst e; rw [T.noRefs] at h; exact (band h).1
  | x :: r, i + 1, t, h, e => by rw [T.noRefs] at h; exact noRefs_get (band h).2 (by simpa using e)
theorem noRefs_set {t : T} (ht : t.noRef = true) : ∀ {xs : List T} {i : Nat}, T.noRefs xs = true → T.noRefs (xs.set i t) = true
  | [], _, _ => rfl
  | x :: r, 0, h => by rw [T.noRefs] at h; show T.noRefs (t :: r) = true; rw [T.noRefs, ht, (band h).2]; rfl
  | x :: r, i + 1, h => by rw [T.noRefs] at h; show T.noRefs (x :: r.set i t) = true; rw [T.noRefs, (band h).1, noRefs_set ht (band h).2]; rfl
theorem noRefs_app : ∀ {xs ys : List T}, T.noRefs xs = true → T.noRefs ys = true → T.noRefs (xs ++ ys) = true
  | [], _, _, h => h
  | x :: r, ys, h, h2 => by rw [T.noRefs] at h; show T.noRefs (x :: (r ++ ys)) = true; rw [T.noRefs, (band h).1, noRefs_app (band h).2 h2]; rfl
theorem noRefs_erase : ∀ {xs : List T} {i : Nat}, T.noRefs xs = true → T.noRefs (xs.eraseIdx i) = true
  | [], _, _ => rfl
  | x :: r, 0, h => by rw [T.noRefs] at h; exact (band h).2
  | x :: r, i + 1, h => by rw [T.noRefs] at h; show T.noRefs (x :: r.eraseIdx i) = true; rw [T.noRefs, (band h).1, noRefs_erase (band h).2]; rfl
theorem RelTs.atI {S : Sta} {H : Hp} {G : Gh} {ts : List T} {vs : List V} {i : Int} {t : T} (r : RelTs S H G ts vs) (e : L2.atI ts i = some t) : ∃ v, L2.atI vs i = some v ∧ RelT S H G t v := by
  unfold L2.atI at e ⊢
  rw [r.length] at e
  cases q : ixN vs.length i with
  | none => rw [q] at e; cases e
  | some j =>
    rw [q] at e
    exact r.get e
/-- xs[i] -/
def opIx : O2 := fun x y h => match y with
  | .int i => (match x with
    | .str z => if z.length ≤ sizeLine then (match L2.atI z.cps.toList i with
      | some c => .ok (.str ⟨#[c]⟩) h
      | none => .bad) else .bad
    | x => (match seqOf x h with
      | some xs => (match L2.atI xs i with
        | some t => .ok t h
        | none => .bad)
      | none => .bad))
  | _ => .bad
theorem je_ix (ok : C.Ok) {a b : Expr} {ra rb : ET} {pos : Pos} (ja : JE C a ra) (jb : JE C b rb) (hs : PlainIx b := by intro _ _; rfl) : JE C (.Subscript a b pos) (eOp opIx ra rb) := by
  refine ⟨fun pins s σ H Q I hw => ?_⟩
  obtain ⟨st, G, h, rp, rs, o⟩ := hw
  refine (pe_ix ix_seq (ta := liE C ra) (tb := liE C rb) ja jb hs).run pins s σ H Q I ⟨st, G, h, rp, rs, (Out.bind (Rel := relE C) o).mono fun v H1 ⟨x, G1, h1, st1, rp1, rx, o1⟩ => ?_⟩
  refine ⟨st, G1, h1, rp1, rs.step st1, (Out.bind (Rel := relE C) o1).mono fun w H2 ⟨y, G2, h2, st2, rp2, ry, o2⟩ => ?_⟩
  have rx2 := rx.step st2
  unfold opIx at o2
  dsimp only at o2
  split at o2
  · rename_i i
    cases ry
    split at o2
    · rename_i z _
      cases rx2
      split at o2
      · rename_i hz
        split at o2
        · rename_i c ec
          exact .inr (.inr ⟨z, i, c, rfl, rfl, hz, ec, out_ok o2 rp2 (.str _)⟩)
        · exact False.elim o2
      · exact False.elim o2
    · split at o2
      · rename_i xs exs
        split at o2
        · rename_i t et
          obtain ⟨a', vs, rfl, sq, rxs⟩ := seqOf_rel ok rp2 rx2 exs
          obtain ⟨v', e', rt⟩ := rxs.atI et
          rcases sq with sq | sq
          · exact .inl ⟨a', vs, i, v', rfl, rfl, sq, e', out_ok o2 rp2 rt⟩
          · exact .inr (.inl ⟨a', vs, i, v', rfl, rfl, sq, e', out_ok o2 rp2 rt⟩)
        · exact False.elim o2
      · exact False.elim o2
  · exact False.elim o2
/-- len -/
def gLen : List T → Hm → R T := fun xs h => match xs with
  | [.str z] => if z.length ≤ sizeLine then .ok (.int (z.length : Nat)) h else .bad
  | [x] => (match seqOf x h with
    | some ys => .ok (.int (ys.length : Nat)) h
    | none => .bad)
  | _ => .bad
theorem RelTs.one {S : Sta} {H : Hp} {G : Gh} {t : T} {vs : List V} (r : RelTs S H G [t] vs) : ∃ v, vs = [v] ∧ RelT S H G t v := by
  cases r with
  | cons a b => cases b; exact ⟨_, rfl, a⟩
theorem RelTs.two {S : Sta} {H : Hp} {G : Gh} {t u : T} {vs : List V} (r : RelTs S H G [t, u] vs) : ∃ v w, vs = [v, w] ∧ RelT S H G t v ∧ RelT S H G u w := by
  cases r with
  | cons a b =>
    obtain ⟨w, rfl, q⟩ := b.one
    exact ⟨_, w, rfl, a, q⟩
theorem ca_len (ok : C.Ok) : CaT C (.builtin "len") gLen := by
  refine CaT.of (call_len.or call_len) fun σ H G h xs vs Q rp rx o => ?_
  unfold gLen at o
  split at o
  · rename_i z
    obtain ⟨v, rfl, rv⟩ := rx.one
    cases rv
    split at o
    · rename_i hz; exact .inl ⟨_, _, rfl, ⟨hz, rfl⟩, out_ok o rp (.int _)⟩
    · exact False.elim o
  · rename_i x _
    obtain ⟨v, rfl, rv⟩ := rx.one
    split at o
    · rename_i ys e
      obtain ⟨a, ws, rfl, sq, rs⟩ := seqOf_rel ok rp rv e
      refine .inl ⟨_, ws.length, rfl, ?_, by rw [← rs.length]; exact out_ok o rp (.int _)⟩
      rcases sq with sq | sq
      · exact .inl ⟨ws, sq, rfl⟩
      · exact .inr ⟨ws, sq, rfl⟩
    · exact False.elim o
  · exact False.elim o
/-- list(x): a new list, never changed; a new cell -/
def gList : List T → Hm → R T := fun xs h => match xs with
  | [x] => (match seqOf x h with
    | some ys => .ok (.lst ys) h
    | none => .bad)
  | _ => .bad
def gListM : List T → Hm → R T := fun xs h => match xs with
  | [x] => (match seqOf x h with
    | some ys => if T.noRefs ys then .ok (.ref h.length) (h ++ [some (.lst ys)]) else .bad
    | none => .bad)
  | _ => .bad
theorem ca_list (ok : C.Ok) : CaT C (.type "list") gList := by
  refine CaT.of call_list_of fun σ H G h xs vs Q rp rx o => ?_
  unfold gList at o
  split at o
  · obtain ⟨v, rfl, rv⟩ := rx.one
    split at o
    · rename_i ys e
      obtain ⟨a, ws, rfl, sq, rs⟩ := seqOf_rel ok rp rv e
      refine ⟨a, ws, rfl, sq, fun l hl => ?_⟩
      obtain ⟨st2, rp2⟩ := rp.newF (o := .lst ws) hl
      exact o _ _ _ st2 rp2 (.lst (.inl ⟨.inl rfl, .inl upd_same⟩) (rs.step st2))
    · exact False.elim o
  · exact False.elim o
theorem ca_listM (ok : C.Ok) : CaT C (.type "list") gListM := by
  refine CaT.of call_list_of fun σ H G h xs vs Q rp rx o => ?_
  unfold gListM at o
  split at o
  · obtain ⟨v, rfl, rv⟩ := rx.one
    split at o
    · rename_i ys e
      split at o
      · rename_i hn
        obtain ⟨a, ws, rfl, sq, rs⟩ := seqOf_rel ok rp rv e
        refine ⟨a, ws, rfl, sq, fun l hl => ?_⟩
        obtain ⟨st2, rp2⟩ := rp.newC (o := .lst ws) hl (.lst rs) hn
        refine o _ _ _ st2 rp2 (.ref ?_)
        show (G.mu ++ [l])[h.length]? = some l
        rw [rp.len, List.getElem?_append_right (Nat.le_refl _)]
        simp
      · exact False.elim o
    · exact False.elim o
  · exact False.elim o
/-- tuple(x) -/
def gTuple : List T → Hm → R T := fun xs h => match xs with
  | [x] => (match seqOf x h with
    | some ys => .ok (.tup ys) h
    | none => .bad)
  | _ => .bad
theorem ca_tuple (ok : C.Ok) : CaT C (.type "tuple") gTuple := by
  refine CaT.of call_tuple_of fun σ H G h xs vs Q rp rx o => ?_
  unfold gTuple at o
  split at o
  · rename_i x
    obtain ⟨v, rfl, rv⟩ := rx.one
    split at o
    · rename_i ys e
      have new : ∀ {a : Addr} {ws : List V}, RelTs C.S H G ys ws → ∀ l, H l = none → Q (.ref l) (upd H l (.tup ws)) := fun {a ws} rs l hl => by
        obtain ⟨st2, rp2⟩ := rp.newF (o := .tup ws) hl
        exact o _ _ _ st2 rp2 (.tup (.inl ⟨.inl rfl, .inl upd_same⟩) (rs.step st2))
      cases rv with
      | tup hz rs =>
        cases e
        exact ⟨_, _, rfl, .inr ⟨by rw [← ok.K]; exact hz.sq, out_ok o rp (.tup hz rs)⟩⟩
      | lst hz rs =>
        cases e
        exact ⟨_, _, rfl, .inl ⟨by rw [← ok.K]; exact hz.sq, new (a := 0) rs⟩⟩
      | ref hl =>
        unfold seqOf at e
        dsimp only at e
        split at e
        · rename_i xs' q
          cases e
          obtain ⟨a, o', h1, h2, h3, _, _⟩ := rp.cell _ _ q
          rw [hl] at h1; cases h1
          cases h3 with
          | lst rs => exact ⟨_, _, rfl, .inl ⟨.inl (.inl h2), new (a := 0) rs⟩⟩
        · cases e
      | _ => cases e
    · exact False.elim o
  · exact False.elim o
end
end RT
set_option Elab.async false
set_option linter.all false
set_option maxRecDepth 100000
set_option maxHeartbeats 4000000
/-! RT, part g: built-in functions, isinstance, texts of values; own special methods. -/
namespace RT
open PySem PySem.Spec L2
open PyProof.Rows hiding St

/-! ### built-in functions of ints -/
section
variable {C : RC}
def gAbs : List T → Hm → R T := fun xs h => match xs with
  | [.int i] => .ok (.int (if i < 0 then -i else i)) h
  | _ => .bad
theorem ca_abs : CaT C (.builtin "abs") gAbs := by
  refine CaT.of call_abs fun σ H G h xs vs Q rp rx o => ?_
  unfold gAbs at o
  split at o
  · obtain ⟨v, rfl, rv⟩ := rx.one
    cases rv
    exact ⟨_, rfl, out_ok o rp (.int _)⟩
  · exact False.elim o
def gMax : List T → Hm → R T := fun xs h => match xs with
  | [.int i, .int j] => .ok (.int (if j > i then j else i)) h
  | _ => .bad
theorem ca_max (ok : C.Ok) (hc : C.S.mo = none) : CaT C (.builtin "max") gMax := by
  refine CaT.of (call_max2 (ok.calm hc)) fun σ H G h xs vs Q rp rx o => ?_
  unfold gMax at o
  split at o
  · obtain ⟨v, w, rfl, rv, rw'⟩ := rx.two
    cases rv; cases rw'
    exact ⟨_, _, rfl, out_ok o rp (.int _)⟩
  · exact False.elim o
def gMin : List T → Hm → R T := fun xs h => match xs with
  | [.int i, .int j] => .ok (.int (if j < i then j else i)) h
  | _ => .bad
theorem ca_min (ok : C.Ok) (hc : C.S.mo = none) : CaT C (.builtin "min") gMin := by
  refine CaT.of (call_min2 (ok.calm hc)) fun σ H G h xs vs Q rp rx o => ?_
  unfold gMin at o
  split at o
  · obtain ⟨v, w, rfl, rv, rw'⟩ := rx.two
    cases rv; cases rw'
    exact ⟨_, _, rfl, out_ok o rp (.int _)⟩
  · exact False.elim o
def gDivmod : List T → Hm → R T := fun xs h => match xs with
  | [.int i, .int j] => if decide (0 < j) && fit j then .ok (.tup [.int (i / j), .int (i % j)]) h else .bad
  | _ => .bad
theorem ca_divmod : CaT C (.builtin "divmod") gDivmod := by
  refine CaT.of call_divmodW fun σ H G h xs vs Q rp rx o => ?_
  unfold gDivmod at o
  split at o
  · obtain ⟨v, w, rfl, rv, rw'⟩ := rx.two
    cases rv; cases rw'
    split at o
    · rename_i i j hf
      obtain ⟨f1, f2⟩ := band hf
      refine ⟨_, _, rfl, ⟨of_decide_eq_true f1, PyProof.noPylong_of_log2 (Nat.lt_of_lt_of_le (fit_log f2) (by decide))⟩, fun p hp => ?_⟩
      obtain ⟨st2, rp2⟩ := rp.newF (o := .tup [.int (i / j), .int (i % j)]) hp
      exact o _ _ _ st2 rp2 (.tup (.inl ⟨.inl rfl, .inl upd_same⟩) (.cons (.int _) (.cons (.int _) .nil)))
    · exact False.elim o
  · exact False.elim o
end

/-! ### isinstance -/
def tagOf (h : Hm) (t : T) : Option Tg := match t with
  | .non => some (.ty "NoneType")
  | .bl _ => some (.ty "bool")
  | .int _ => some (.ty "int")
  | .str _ => some (.ty "str")
  | .tup _ => some (.ty "tuple")
  | .lst _ => some (.ty "list")
  | .emp => some (.ty "dict")
  | .obj c _ => some (.cl c)
  | .ref l => (match h[l]? with
    | some (some (.lst _)) => some (.ty "list")
    | some (some (.ins c _)) => some (.cl c)
    | _ => none)
  | _ => none
def asTg (t : T) : Option Tg := match t with
  | .ty n => some (.ty n)
  | .cl c => some (.cl c)
  | _ => none
def Tg.val (S : Sta) : Tg → Value
  | .ty n => .type n
  | .cl c => .ref (S.cls c)
def isLook (tab : IsTab) (a b : Tg) : Option Bool := match tab with
  | [] => none
  | (x, y, r) :: tl => if x = a ∧ y = b then some r else isLook tl a b
/-- what isinstance wants to know of an own class -/
structure ClsI (K : PySem.W.Frag) (a : Addr) : Prop where
  cl : Cls K a
  ha : PySem.W.findIn K (.ref a) "__class__" = some (some (.builtin "object.__class__"))
  hn : PySem.W.specialIn K (.builtin "object.__class__") "__get__" = some (some (.builtin "getset_descriptor.__get__"))
  htk : PySem.W.takesIn K (.builtin "object.__class__") = some true
  hm : PySem.W.mroIn K a (.type "object") = some true
structure IsOk (S : Sta) (tab : IsTab) : Prop where
  tab : ∀ a b r, isLook tab a b = some r → PySem.W.kitOne S.K (a.val S) (b.val S) = some r
  cls : ∀ c, c < S.nc → ClsI S.K (S.cls c)
def Tg.lt (n : Nat) : Tg → Bool
  | .cl c => decide (c < n)
  | _ => true
def gIsi (nc : Nat) (tab : IsTab) : List T → Hm → R T := fun xs h => match xs with
  | [x, c] => (match tagOf h x, asTg c with
    | some a, some b => if a.lt nc then (match isLook tab a b with
      | some r => .ok (.bl r) h
      | none => .bad) else .bad
    | _, _ => .bad)
  | _ => .bad
section
variable {C : RC}
theorem tyx_of (ok : C.Ok) {tab : IsTab} (io : IsOk C.S tab) {σ : St} {H : Hp} {G : Gh} {h : Hm} (rp : RepH C.S H G h) {t : T} {v : V} (r : RelT C.S H G t v) {a : Tg} (e : tagOf h t = some a) (hl : a.lt C.S.nc = true) : TyX C.X.K H v (a.val C.S) := by
  have own : ∀ {p : Addr} {c : Nat} {dx : Addr} {vs : List (Str × V)}, c < C.S.nc → H p = some (.ins (C.S.cls c) dx vs) → TyX C.X.K H (.ref p) (.ref (C.S.cls c)) := fun {p c dx vs} hc q => by
    have k := io.cls c hc
    rw [ok.K] at k
    exact .base (.ins q k.cl k.ha k.hn k.htk k.hm)
  cases r with
  | non => cases e; exact .base .non
  | bl b => cases e; exact .base (.bl b)
  | int b => cases e; exact .base (.int b)
  | str b => cases e; exact .base (.str b)
  | tup hz _ =>
    cases e
    have sq := hz.sq
    rw [ok.K] at sq
    rcases sq with sq | ⟨o, _, _, e1, e2, _⟩
    · rcases sq with sq | ⟨o, sq⟩
      · exact .base (.tup sq)
      · exact .fTuple sq
    · exact .kTuple e1 e2
  | lst hz _ =>
    cases e
    have sq := hz.sq
    rw [ok.K] at sq
    rcases sq with sq | ⟨o, _, _, e1, e2, _⟩
    · rcases sq with sq | ⟨o, sq⟩
      · exact .base (.lst sq)
      · exact .base (.frz sq)
    · exact .kList e1 e2
  | obj z q _ => cases e; exact own (of_decide_eq_true hl) q
  | emp z q => cases e; exact .base (.dK q)
  | fn k => cases e
  | ty n => cases e
  | cl c => cases e
  | exo0 _ _ => cases e
  | exo _ _ _ _ _ => cases e
  | exh0 _ _ _ _ => cases e
  | exh _ _ _ _ _ _ _ => cases e
  | clo _ _ _ => cases e
  | slc _ _ => cases e
  | ref hl' =>
    unfold tagOf at e
    dsimp only at e
    split at e
    · rename_i xs q
      cases e
      obtain ⟨a, o, h1, h2, h3, _, _⟩ := rp.cell _ _ q
      rw [hl'] at h1; cases h1
      cases h3 with
      | lst rs => exact .base (.lst h2)
    · rename_i c fs q
      cases e
      obtain ⟨a, o, h1, h2, h3, _, _⟩ := rp.cell _ _ q
      rw [hl'] at h1; cases h1
      cases h3 with
      | ins rf => exact own (of_decide_eq_true hl) h2
    · cases e
theorem ca_isi (ok : C.Ok) {tab : IsTab} (io : IsOk C.S tab) : CaT C (.builtin "isinstance") (gIsi C.S.nc tab) := by
  refine CaT.of call_isi fun σ H G h xs vs Q rp rx o => ?_
  unfold gIsi at o
  split at o
  · rename_i x c
    obtain ⟨v, w, rfl, rv, rw'⟩ := rx.two
    split at o
    · rename_i a b ea eb
      split at o
      · rename_i hl
        split at o
        · rename_i r er
          have k := io.tab a b r er
          rw [ok.K] at k
          refine ⟨v, w, a.val C.S, b.val C.S, r, rfl, ?_, tyx_of (σ := σ) ok io rp rv ea hl, k, out_ok o rp (.bl _)⟩
          cases c with
          | ty n => cases eb; cases rw'; exact .ty n
          | cl c => cases eb; cases rw'; exact .own _
          | _ => cases eb
        · exact False.elim o
      · exact False.elim o
    · exact False.elim o
  · exact False.elim o
/-- a built-in type, by name -/
theorem je_ty {x : Str} {n : String} {pos : Pos} (hg : Gl C.X x) (hm : C.X.mg x = none) (hv : bootBuiltins x = some (.type n)) (hn : x ≠ "__name__" := by decide) (hd : (x == ("__debug__" : Str)) = false := by decide) : JE C (.Name x pos) (eC (.ty n)) := by
  refine ⟨fun pins s σ H Q I hw => ?_⟩
  obtain ⟨a, G, h, rp, rs, o⟩ := hw
  exact ld_blt I hg hm hv ⟨.ty n, H, I, rfl, out_ok o rp (.ty n)⟩ hn hd
theorem je_cl {x : Str} (c : Nat) {pos : Pos} (hg : Gl C.X x) (hm : C.X.mg x = some (.ref (C.S.cls c))) (hd : (x == ("__debug__" : Str)) = false := by decide) : JE C (.Name x pos) (eC (.cl c)) :=
  je_glob (v := .ref (C.S.cls c)) (.cl c) hg hm rfl (fun _ _ => .cl c) hd
end

/-! ### calls anywhere below -/
/-- somewhere below the running body -/
structure Blw (C : RC) (n : Nat) (A : Around) : Prop where
  room : RoomM C.S.mo n A
  fr : A.frames = C.X.A.frames
  gd : GdK n A
section
variable {C : RC}
theorem Blw.in1 {n : Nat} {A : Around} (b : Blw C (n + 1) A) : Blw C n A.in1 := ⟨b.room.in1, b.fr, GdK.mono (A := A) b.gd (Nat.le_succ n)⟩
theorem Blw.mono {n m : Nat} {A : Around} (b : Blw C m A) (h : n ≤ m) : Blw C n A := ⟨b.room.mono h, b.fr, b.gd.mono h⟩
theorem RC.Ok.blw (ok : C.Ok) {n : Nat} (h : n ≤ C.k) : Blw C n C.X.A := ⟨ok.room.mono h, rfl, ok.gd.mono h⟩
def CaA (C : RC) (k : Nat) (f : Value) (n : Nat) (o : List T → Hm → R T) : Prop :=
  ∀ (A : Around) (pins : List (Addr × Obj)) (s : Shared) (σ : St) (H : Hp) (G : Gh) (h : Hm) (xs : List T) (vs : List V) (us : List Value) (Q : VK), Blw C k A → Inv C.X pins σ H s → RepH C.S H G h → RelTs C.S H G xs vs → Vals vs us →
    us.length = n → Out C σ H G (relE C) (o xs h) Q → wpAny (model C.X.prog C.X.w) A (call f us) (EP C.X pins σ Q) C.X.xe s
theorem CaA.fnC (ok : C.Ok) {k : Nat} {f : Addr} {n : Nat} {oo : O3} (F : FnC C.X.prog C.X.w C.S C.X.mg C.X.base k f n [] oo) : CaA C k (.ref f) n (fun xs h => oo xs [] h) := by
  intro A pins s σ H G h xs vs us Q bl I rp rx vu l1 o
  have KX : C.S.K.In s.heap := by rw [ok.K]; exact I.kIn
  have e0 : Env0 C.X.prog C.X.w C.S.K C.X.mg C.X.base A C.X.stack s H := by
    rw [ok.K]
    have e := I.env0
    exact ⟨by rw [bl.fr]; exact e.frames, e.mod, e.bs, e.bsz, e.funs, e.frf, e.hok, e.bare⟩
  refine wpAny_call (codeAny_mono (F.run A C.X.stack s H G h xs [] vs [] us [] Q (fun cls d H' => C.W cls d σ H') bl.room (ok.pinM I) bl.gd e0 KX rp rx .nil vu .nil l1 rfl o.endT) fun r s' hq => ?_)
  cases r with
  | error e => exact ok.tk e s' (XE.of_call I (fun _ _ _ z => z) hq)
  | ok fl =>
    cases fl with
    | ret u => exact I.after hq
    | next => exact False.elim hq
    | brk => exact False.elim hq
    | cont => exact False.elim hq
theorem CaA.fn (ok : C.Ok) {k : Nat} {f : Addr} {fd : FuncData} {ps : List Str} {n : Nat} {arr : List T → List T → List T} {g : List T → Hm → R T}
    (F : FnG C.S.mo C.X.prog C.X.w C.S.K C.X.mg C.X.base k f fd ps (spT C.S ps.length g)) (B : BindT C.S fd ps n [] arr) : CaA C k (.ref f) n (fun xs h => g (arr xs []) h) := CaA.fnC ok (F.toC B)
/-- a special method, class by class -/
abbrev Ms := Nat → Option (List T → Hm → R T)
def DuOk (C : RC) (k : Nat) (f : Str) (n : Nat) (ms : Ms) : Prop := ∀ c g, ms c = some g → ∃ a, PySem.W.findIn C.S.K (.ref (C.S.cls c)) f = some (some (.ref a)) ∧ PySem.W.isFn C.S.K (.ref a) = true ∧ CaA C k (.ref a) n g
theorem inst_of {pins : List (Addr × Obj)} {s : Shared} {σ : St} {H : Hp} {a c dx : Addr} {fs : List (Str × V)} (I : Inv C.X pins σ H s) (e : H a = some (.ins c dx fs)) : ∃ ox od, PySem.W.InstAt s.heap a ox c od := by
  obtain ⟨mA, J, _⟩ := ins_get I.hok e
  obtain ⟨od, J, _⟩ := J.look
  exact ⟨_, _, J⟩

/-! ### texts -/
def asStr : T → Hm → R T := fun t h => match t with
  | .str a => .ok (.str a) h
  | _ => .bad
theorem out_asStr {σ : St} {H H1 : Hp} {G G1 : Gh} {t : T} {h : Hm} {Q : VK} {v : V} (o : Out C σ H G (relE C) (asStr t h) Q) (st : Step H G H1 G1) (rp : RepH C.S H1 G1 h) (rv : RelT C.S H1 G1 t v) : ∃ a, v = .str a ∧ Q v H1 := by
  cases t with
  | str b => cases rv; exact ⟨b, rfl, o _ H1 G1 st rp (.str b)⟩
  | _ => exact False.elim o
/-- a special method's text -/
def dunS (ms : Ms) (x : T) (h : Hm) : R T := match insOf x h with
  | some (c, _) => (match ms c with
    | some g => (g [x] h).bind asStr
    | none => .bad)
  | none => .bad
theorem dunS_run (ok : C.Ok) {k : Nat} {f : Str} {ms : Ms} (hm : DuOk C k f 1 ms) {A : Around} (bl : Blw C k A) {pins : List (Addr × Obj)} {s : Shared} {σ : St} {H : Hp} {G : Gh} {h : Hm} {x : T} {v : V} {Q : VK} (I : Inv C.X pins σ H s) (rp : RepH C.S H G h) (rx : RelT C.S H G x v)
    (o : Out C σ H G (relE C) (dunS ms x h) Q) : ∃ a c dx fs, v = .ref a ∧ H a = some (.ins c dx fs) ∧ ∃ fa, PySem.W.findIn C.X.K (.ref c) f = some (some (.ref fa)) ∧ PySem.W.isFn C.X.K (.ref fa) = true ∧
      ∀ s', Inv C.X pins σ H s' → wpAny (model C.X.prog C.X.w) A (call (.ref fa) [.ref a]) (PySem.W.StrBack (EP C.X pins σ Q)) C.X.xe s' := by
  unfold dunS at o
  split at o
  · rename_i c fs' e
    split at o
    · rename_i g eg
      obtain ⟨a, dx, vs, rfl, ea, _⟩ := insOf_rel rp rx e
      obtain ⟨fa, q1, q2, q3⟩ := hm c g eg
      rw [ok.K] at q1 q2
      refine ⟨a, _, dx, vs, rfl, ea, fa, q1, q2, fun s' I' => ?_⟩
      refine wpAny_mono (q3 A pins s' σ H G h [x] [.ref a] [.ref a] _ bl I' rp (.cons rx .nil) (.cons rfl .nil) rfl (Out.bind (Rel := relE C) o)) (fun u s2 hu => ?_) fun _ _ z => z
      obtain ⟨y, H2, I2, r2, t2, G2, h2, st2, rp2, ry, o2⟩ := hu
      obtain ⟨b, rfl, q⟩ := out_asStr o2 Step.refl rp2 ry
      obtain ⟨tk, rfl⟩ := _root_.id r2
      exact ⟨_, H2, I2, r2, q⟩
    · exact False.elim o
  · exact False.elim o
/-- repr of data -/
def showD (x : T) (h : Hm) : R T := match x.toDh h with
  | some d => if d.showable && (decide (d.shown.length ≤ sizeLine) && decide (d.depth ≤ 100)) then .ok (.str d.shown) h else .bad
  | none => .bad
def isInt : T → Bool
  | .int _ => true
  | _ => false
def gStr (ms : Ms) : List T → Hm → R T := fun xs h => match xs with
  | [.int i] => if decide (i.natAbs.log2 < 1920) then .ok (.str (toString i)) h else .bad
  | [.str a] => .ok (.str a) h
  | [.non] => .ok (.str "None") h
  | [.bl b] => .ok (.str (if b then "True" else "False")) h
  | [.lst ys] => showD (.lst ys) h
  | [.tup ys] => showD (.tup ys) h
  | [x] => dunS ms x h
  | _ => .bad
def gRepr (ms : Ms) : List T → Hm → R T := fun xs h => match xs with
  | [.int i] => if decide (i.natAbs.log2 < 1920) then .ok (.str (toString i)) h else .bad
  | [.non] => .ok (.str "None") h
  | [.bl b] => .ok (.str (if b then "True" else "False")) h
  | [.str x] => if (reprText x).length ≤ sizeLine then .ok (.str (reprText x)) h else .bad
  | [.lst ys] => showD (.lst ys) h
  | [.tup ys] => showD (.tup ys) h
  | [x] => dunS ms x h
  | _ => .bad
theorem showD_of {σ : St} {H : Hp} {G : Gh} {h : Hm} {x : T} {Q : VK} (o : Out C σ H G (relE C) (showD x h) Q) (rp : RepH C.S H G h) : ∃ d, x.toDh h = some d ∧ d.showable = true ∧ d.shown.length ≤ sizeLine ∧ d.depth ≤ 100 ∧ Q (.str d.shown) H := by
  unfold showD at o
  split at o
  · rename_i d e
    split at o
    · rename_i hc
      obtain ⟨h1, h2⟩ := band hc
      obtain ⟨h2, h3⟩ := band h2
      exact ⟨d, e, h1, of_decide_eq_true h2, of_decide_eq_true h3, out_ok o rp (.str _)⟩
    · exact False.elim o
  · exact False.elim o
theorem refOf {S : Sta} {H : Hp} {G : Gh} {x : T} {v : V} (r : RelT S H G x v) (h : (∃ ys, x = .lst ys) ∨ ∃ ys, x = .tup ys) : ∃ a, v = .ref a := by
  rcases h with ⟨ys, rfl⟩ | ⟨ys, rfl⟩ <;> cases r <;> exact ⟨_, rfl⟩
theorem kept_of {pins : List (Addr × Obj)} {s : Shared} {σ : St} {H : Hp} {h' : Heap} {tk : Nat} (I : Inv C.X pins σ H s) (k : ∀ b o, s.heap.get? b = some o → h'.get? b = some o) : Inv C.X pins σ H { s with heap := h', toks := tk } := I.kept k
theorem ca_str (ok : C.Ok) {k : Nat} {ms : Ms} (hm : DuOk C k "__str__" 1 ms) (hk : k + 2 ≤ C.k) (hg : 100 ≤ C.k) : CaT C (.type "str") (gStr ms) := by
  intro pins s σ H G h xs vs us Q I rp rx vu o
  unfold gStr at o
  have shows : ∀ x, ((∃ ys, x = T.lst ys) ∨ ∃ ys, x = T.tup ys) → RelTs C.S H G [x] vs → Out C σ H G (relE C) (showD x h) Q → wpAny (model C.X.prog C.X.w) C.X.A (call (.type "str") us) (EP C.X pins σ Q) C.X.xe s := fun x hx rx o => by
    obtain ⟨v, rfl, rv⟩ := rx.one
    obtain ⟨u, rfl, r1⟩ := vals1 vu
    obtain ⟨a, rfl⟩ := refOf rv hx
    cases r1
    obtain ⟨d, e, s1, s2, s3, q⟩ := showD_of o rp
    obtain ⟨⟨as, ra⟩, _, nd⟩ := readsH_of ok.K I rp rv rfl e
    exact str_of_reads ra s1 (by rw [nd]; exact fun z => absurd z (by simp)) (ok.gd.none hg) (by have := ok.room.un; omega) (fun _ _ z => z) (fun h' u tk kk => ⟨.str d.shown, H, kept_of I kk, ⟨_, rfl⟩, q⟩) s2
  split at o
  · rename_i i
    obtain ⟨v, rfl, rv⟩ := rx.one
    cases rv
    split at o
    · rename_i hf
      exact call_str_int pins s σ H _ us Q I vu ⟨i, rfl, of_decide_eq_true hf, out_ok o rp (.str _)⟩
    · exact False.elim o
  · rename_i a
    obtain ⟨v, rfl, rv⟩ := rx.one
    cases rv
    exact SkE.call_str_str pins s σ H _ us Q I vu ⟨a, rfl, out_ok o rp (.str _)⟩
  · obtain ⟨v, rfl, rv⟩ := rx.one
    cases rv
    obtain ⟨u, rfl, r1⟩ := vals1 vu
    cases r1
    exact PySem.P.str_of_none ⟨.str _, H, I.tok _, ⟨_, rfl⟩, out_ok o rp (.str _)⟩
  · rename_i b
    obtain ⟨v, rfl, rv⟩ := rx.one
    cases rv
    obtain ⟨u, rfl, r1⟩ := vals1 vu
    cases r1
    exact PySem.P.str_of_bool ⟨.str _, H, I.tok _, ⟨_, rfl⟩, out_ok o rp (.str _)⟩
  · exact shows _ (.inl ⟨_, rfl⟩) rx o
  · exact shows _ (.inr ⟨_, rfl⟩) rx o
  · obtain ⟨v, rfl, rv⟩ := rx.one
    obtain ⟨u, rfl, r1⟩ := vals1 vu
    obtain ⟨a, c, dx, fs, rfl, ea, fa, q1, q2, q3⟩ := dunS_run ok hm (A := C.X.A.in1.in1) (ok.blw hk).in1.in1 I rp rv o
    cases r1
    obtain ⟨ox, od, J⟩ := inst_of I ea
    exact PySem.W.kso_call (by have := ok.room.un; show C.X.A.units + 1 + 1 < _; omega) I.kIn J q1 q2 (q3 s I)
  · exact False.elim o
theorem ca_repr (ok : C.Ok) {k : Nat} {ms : Ms} (hm : DuOk C k "__repr__" 1 ms) (hk : k + 2 ≤ C.k) (hg : 100 ≤ C.k) : CaT C (.builtin "repr") (gRepr ms) := by
  intro pins s σ H G h xs vs us Q I rp rx vu o
  unfold gRepr at o
  have shows : ∀ x, ((∃ ys, x = T.lst ys) ∨ ∃ ys, x = T.tup ys) → RelTs C.S H G [x] vs → Out C σ H G (relE C) (showD x h) Q → wpAny (model C.X.prog C.X.w) C.X.A (call (.builtin "repr") us) (EP C.X pins σ Q) C.X.xe s := fun x hx rx o => by
    obtain ⟨v, rfl, rv⟩ := rx.one
    obtain ⟨u, rfl, r1⟩ := vals1 vu
    obtain ⟨a, rfl⟩ := refOf rv hx
    cases r1
    obtain ⟨d, e, s1, s2, s3, q⟩ := showD_of o rp
    obtain ⟨⟨as, ra⟩, _, nd⟩ := readsH_of ok.K I rp rv rfl e
    exact repr_of_reads' ra s1 (by rw [nd]; exact fun z => absurd z (by simp)) (ok.gd.none hg) (by have := ok.room.un; omega) (fun _ _ z => z) (fun h' u tk kk => ⟨.str d.shown, H, kept_of I kk, ⟨_, rfl⟩, q⟩) s2
  split at o
  · rename_i i
    obtain ⟨v, rfl, rv⟩ := rx.one
    cases rv
    split at o
    · rename_i hf
      exact SkE.call_repr_int pins s σ H _ us Q I vu ⟨i, rfl, of_decide_eq_true hf, out_ok o rp (.str _)⟩
    · exact False.elim o
  · obtain ⟨v, rfl, rv⟩ := rx.one
    cases rv
    obtain ⟨u, rfl, r1⟩ := vals1 vu
    cases r1
    exact PySem.P.repr_of_none ⟨.str _, H, I.tok _, ⟨_, rfl⟩, out_ok o rp (.str _)⟩
  · rename_i b
    obtain ⟨v, rfl, rv⟩ := rx.one
    cases rv
    obtain ⟨u, rfl, r1⟩ := vals1 vu
    cases r1
    exact PySem.P.repr_of_bool ⟨.str _, H, I.tok _, ⟨_, rfl⟩, out_ok o rp (.str _)⟩
  · rename_i a
    obtain ⟨v, rfl, rv⟩ := rx.one
    cases rv
    obtain ⟨u, rfl, t, rfl⟩ := vals1 vu
    split at o
    · rename_i hf
      exact PySem.P.repr_of_str ⟨.str _, H, I.tok _, ⟨_, rfl⟩, out_ok o rp (.str _)⟩ hf
    · exact False.elim o
  · exact shows _ (.inl ⟨_, rfl⟩) rx o
  · exact shows _ (.inr ⟨_, rfl⟩) rx o
  · obtain ⟨v, rfl, rv⟩ := rx.one
    obtain ⟨u, rfl, r1⟩ := vals1 vu
    obtain ⟨a, c, dx, fs, rfl, ea, fa, q1, q2, q3⟩ := dunS_run ok hm (A := C.X.A.in1) (ok.blw (by omega : k + 1 ≤ C.k)).in1 I rp rv o
    cases r1
    obtain ⟨ox, od, J⟩ := inst_of I ea
    obtain ⟨m, hF⟩ := I.fr
    exact PySem.W.repr_K (by have := ok.room.un; show C.X.A.units + 1 < _; omega) hF I.ok.mod.kin J q1 q2 (q3 s I)
  · exact False.elim o

/-! ### the same below level 100: no lists, no tuples -/
def contT : List T → Bool
  | [.lst _] => true
  | [.tup _] => true
  | _ => false
def gStrL (ms : Ms) : List T → Hm → R T := fun xs h => if contT xs = true then .bad else gStr ms xs h
def gReprL (ms : Ms) : List T → Hm → R T := fun xs h => if contT xs = true then .bad else gRepr ms xs h
theorem ca_strL (ok : C.Ok) {k : Nat} {ms : Ms} (hm : DuOk C k "__str__" 1 ms) (hk : k + 2 ≤ C.k) : CaT C (.type "str") (gStrL ms) := by
  intro pins s σ H G h xs vs us Q I rp rx vu o
  unfold gStrL at o
  split at o
  · exact False.elim o
  rename_i hcont
  unfold gStr at o
  split at o
  · rename_i i
    obtain ⟨v, rfl, rv⟩ := rx.one
    cases rv
    split at o
    · rename_i hf
      exact call_str_int pins s σ H _ us Q I vu ⟨i, rfl, of_decide_eq_true hf, out_ok o rp (.str _)⟩
    · exact False.elim o
  · rename_i a
    obtain ⟨v, rfl, rv⟩ := rx.one
    cases rv
    exact SkE.call_str_str pins s σ H _ us Q I vu ⟨a, rfl, out_ok o rp (.str _)⟩
  · obtain ⟨v, rfl, rv⟩ := rx.one
    cases rv
    obtain ⟨u, rfl, r1⟩ := vals1 vu
    cases r1
    exact PySem.P.str_of_none ⟨.str _, H, I.tok _, ⟨_, rfl⟩, out_ok o rp (.str _)⟩
  · rename_i b
    obtain ⟨v, rfl, rv⟩ := rx.one
    cases rv
    obtain ⟨u, rfl, r1⟩ := vals1 vu
    cases r1
    exact PySem.P.str_of_bool ⟨.str _, H, I.tok _, ⟨_, rfl⟩, out_ok o rp (.str _)⟩
  · exact absurd rfl hcont
  · exact absurd rfl hcont
  · obtain ⟨v, rfl, rv⟩ := rx.one
    obtain ⟨u, rfl, r1⟩ := vals1 vu
    obtain ⟨a, c, dx, fs, rfl, ea, fa, q1, q2, q3⟩ := dunS_run ok hm (A := C.X.A.in1.in1) (ok.blw hk).in1.in1 I rp rv o
    cases r1
    obtain ⟨ox, od, J⟩ := inst_of I ea
    exact PySem.W.kso_call (by have := ok.room.un; show C.X.A.units + 1 + 1 < _; omega) I.kIn J q1 q2 (q3 s I)
  · exact False.elim o
theorem ca_reprL (ok : C.Ok) {k : Nat} {ms : Ms} (hm : DuOk C k "__repr__" 1 ms) (hk : k + 2 ≤ C.k) : CaT C (.builtin "repr") (gReprL ms) := by
  intro pins s σ H G h xs vs us Q I rp rx vu o
  unfold gReprL at o
  split at o
  · exact False.elim o
  rename_i hcont
  unfold gRepr at o
  split at o
  · rename_i i
    obtain ⟨v, rfl, rv⟩ := rx.one
    cases rv
    split at o
    · rename_i hf
      exact SkE.call_repr_int pins s σ H _ us Q I vu ⟨i, rfl, of_decide_eq_true hf, out_ok o rp (.str _)⟩
    · exact False.elim o
  · obtain ⟨v, rfl, rv⟩ := rx.one
    cases rv
    obtain ⟨u, rfl, r1⟩ := vals1 vu
    cases r1
    exact PySem.P.repr_of_none ⟨.str _, H, I.tok _, ⟨_, rfl⟩, out_ok o rp (.str _)⟩
  · rename_i b
    obtain ⟨v, rfl, rv⟩ := rx.one
    cases rv
    obtain ⟨u, rfl, r1⟩ := vals1 vu
    cases r1
    exact PySem.P.repr_of_bool ⟨.str _, H, I.tok _, ⟨_, rfl⟩, out_ok o rp (.str _)⟩
  · rename_i a
    obtain ⟨v, rfl, rv⟩ := rx.one
    cases rv
    obtain ⟨u, rfl, t, rfl⟩ := vals1 vu
    split at o
    · rename_i hf
      exact PySem.P.repr_of_str ⟨.str _, H, I.tok _, ⟨_, rfl⟩, out_ok o rp (.str _)⟩ hf
    · exact False.elim o
  · exact absurd rfl hcont
  · exact absurd rfl hcont
  · obtain ⟨v, rfl, rv⟩ := rx.one
    obtain ⟨u, rfl, r1⟩ := vals1 vu
    obtain ⟨a, c, dx, fs, rfl, ea, fa, q1, q2, q3⟩ := dunS_run ok hm (A := C.X.A.in1) (ok.blw (by omega : k + 1 ≤ C.k)).in1 I rp rv o
    cases r1
    obtain ⟨ox, od, J⟩ := inst_of I ea
    obtain ⟨m, hF⟩ := I.fr
    exact PySem.W.repr_K (by have := ok.room.un; show C.X.A.units + 1 < _; omega) hF I.ok.mod.kin J q1 q2 (q3 s I)
  · exact False.elim o

/-! ### f-strings -/
/-- {e} -/
def oFmt (ms : Ms) : T → Hm → R T := fun x h => match x with
  | .str a => if decide (a.length ≤ sizeLine) then .ok (.str a) h else .bad
  | .int i => if decide (i.natAbs.log2 < 1920) then .ok (.str (toString i)) h else .bad
  | .lst ys => showD (.lst ys) h
  | .tup ys => showD (.tup ys) h
  | x => dunS ms x h
def eFmt (ms : Ms) (r : ET) : ET := fun st h => (r st h).bind (oFmt ms)
structure FmOk (C : RC) (k : Nat) (ms : Ms) : Prop where
  str : DuOk C k "__str__" 1 ms
  fmt : ∀ c g, ms c = some g → PySem.W.findIn C.S.K (.ref (C.S.cls c)) "__format__" = some (some (.builtin "object.__format__")) ∧ PySem.W.mroIn C.S.K (C.S.cls c) (.type "object") = some true
theorem je_fmt (ok : C.Ok) {k : Nat} {ms : Ms} (hm : FmOk C k ms) (hk : k + 2 ≤ C.k) (hg : 100 ≤ C.k) {e : Expr} {r : ET} {pos : Pos} (j : JE C e r) : JE C (.FormattedValue e (-1) none pos) (eFmt ms r) := by
  refine ⟨fun pins s0 σ H0 Q I0 hw => ?_⟩
  obtain ⟨st, G0, h0, rp0, rs, o0⟩ := hw
  refine wpAny_FormattedValue_plain (thn (j.run I0 rp0 rs (Out.bind (Rel := relE C) o0)) fun u s ⟨v, H, I, ru, x, G, h, st1, rp, rx, o⟩ => ?_)
  have shows : ((∃ ys, x = T.lst ys) ∨ ∃ ys, x = T.tup ys) → Out C σ H G (relE C) (showD x h) Q → wpAny (model C.X.prog C.X.w) C.X.A (formatField u Str.empty) (EP C.X pins σ Q) C.X.xe s := fun hx o => by
    obtain ⟨a, rfl⟩ := refOf rx hx
    cases ru
    obtain ⟨d, e, s1, s2, s3, q⟩ := showD_of o rp
    obtain ⟨⟨as, ra⟩, _, nd⟩ := readsH_of ok.K I rp rx rfl e
    exact formatField_of_reads ra s1 (by rw [nd]; exact fun z => absurd z (by simp)) (ok.gd.none hg) (by have := ok.room.un; omega) (fun _ _ z => z) (fun h' u tk kk => ⟨.str d.shown, H, kept_of I kk, ⟨_, rfl⟩, q⟩) s2
  unfold oFmt at o
  split at o
  · rename_i a
    cases rx
    obtain ⟨t, rfl⟩ := _root_.id ru
    split at o
    · rename_i hf
      have q := out_ok o rp (.str a)
      exact PySem.wpAny_formatField_str ⟨.str a, H, I, ⟨_, rfl⟩, q⟩ ⟨.str a, H, I.tok _, ⟨_, rfl⟩, q⟩ (of_decide_eq_true hf)
    · exact False.elim o
  · rename_i i
    cases rx
    obtain ⟨t, rfl⟩ := _root_.id ru
    split at o
    · rename_i hf
      exact PySem.wpAny_formatField_int (of_decide_eq_true hf) ⟨.str (toString i), H, I.tok _, ⟨_, rfl⟩, out_ok o rp (.str _)⟩
    · exact False.elim o
  · exact shows (.inl ⟨_, rfl⟩) o
  · exact shows (.inr ⟨_, rfl⟩) o
  · have o' := o
    unfold dunS at o'
    split at o'
    · rename_i c fs' e
      split at o'
      · rename_i g eg
        obtain ⟨a, dx, vs, rfl, ea, _⟩ := insOf_rel rp rx e
        obtain ⟨f1, f2⟩ := hm.fmt c g eg
        rw [ok.K] at f1 f2
        obtain ⟨a', c', dx', fs'', e1, ea', fa, q1, q2, q3⟩ := dunS_run ok hm.str (A := C.X.A.in1) (ok.blw (by omega : k + 1 ≤ C.k)).in1 I rp rx o
        cases e1
        rw [ea] at ea'
        cases ea'
        cases ru
        obtain ⟨ox, od, J⟩ := inst_of I ea
        exact PySem.W.kfo_fieldS (by have := ok.room.un; show C.X.A.units + 1 < _; omega) I.kIn J f1 f2 q1 q2 (q3 _ (I.tok _))
      · exact False.elim o'
    · exact False.elim o'
def oFmtL (ms : Ms) : T → Hm → R T := fun x h => if contT [x] = true then .bad else oFmt ms x h
def eFmtL (ms : Ms) (r : ET) : ET := fun st h => (r st h).bind (oFmtL ms)
theorem je_fmtL (ok : C.Ok) {k : Nat} {ms : Ms} (hm : FmOk C k ms) (hk : k + 2 ≤ C.k) {e : Expr} {r : ET} {pos : Pos} (j : JE C e r) : JE C (.FormattedValue e (-1) none pos) (eFmtL ms r) := by
  refine ⟨fun pins s0 σ H0 Q I0 hw => ?_⟩
  obtain ⟨st, G0, h0, rp0, rs, o0⟩ := hw
  refine wpAny_FormattedValue_plain (thn (j.run I0 rp0 rs (Out.bind (Rel := relE C) o0)) fun u s ⟨v, H, I, ru, x, G, h, st1, rp, rx, o⟩ => ?_)
  unfold oFmtL at o
  split at o
  · exact False.elim o
  rename_i hcont
  unfold oFmt at o
  split at o
  · rename_i a
    cases rx
    obtain ⟨t, rfl⟩ := _root_.id ru
    split at o
    · rename_i hf
      have q := out_ok o rp (.str a)
      exact PySem.wpAny_formatField_str ⟨.str a, H, I, ⟨_, rfl⟩, q⟩ ⟨.str a, H, I.tok _, ⟨_, rfl⟩, q⟩ (of_decide_eq_true hf)
    · exact False.elim o
  · rename_i i
    cases rx
    obtain ⟨t, rfl⟩ := _root_.id ru
    split at o
    · rename_i hf
      exact PySem.wpAny_formatField_int (of_decide_eq_true hf) ⟨.str (toString i), H, I.tok _, ⟨_, rfl⟩, out_ok o rp (.str _)⟩
    · exact False.elim o
  · exact absurd rfl hcont
  · exact absurd rfl hcont
  · have o' := o
    unfold dunS at o'
    split at o'
    · rename_i c fs' e
      split at o'
      · rename_i g eg
        obtain ⟨a, dx, vs, rfl, ea, _⟩ := insOf_rel rp rx e
        obtain ⟨f1, f2⟩ := hm.fmt c g eg
        rw [ok.K] at f1 f2
        obtain ⟨a', c', dx', fs'', e1, ea', fa, q1, q2, q3⟩ := dunS_run ok hm.str (A := C.X.A.in1) (ok.blw (by omega : k + 1 ≤ C.k)).in1 I rp rx o
        cases e1
        rw [ea] at ea'
        cases ea'
        cases ru
        obtain ⟨ox, od, J⟩ := inst_of I ea
        exact PySem.W.kfo_fieldS (by have := ok.room.un; show C.X.A.units + 1 < _; omega) I.kIn J f1 f2 q1 q2 (q3 _ (I.tok _))
      · exact False.elim o'
    · exact False.elim o'
/-- the parts, one behind the other -/
inductive JP (C : RC) : List Expr → List ET → Prop where
  | nil : JP C [] []
  | cons {e : Expr} {r : ET} {es : List Expr} {rs : List ET} (h : JE C e r) (t : JP C es rs) : JP C (e :: es) (r :: rs)
def eJs : List ET → Str → StT → Hm → R T
  | [], acc, _, h => .ok (.str acc) h
  | r :: rs, acc, st, h => (r st h).bind fun x h1 => match x with
    | .str y => if decide ((acc ++ y).length ≤ sizeLine) then eJs rs (acc ++ y) st h1 else .bad
    | _ => .bad
def eJoin (rs : List ET) : ET := fun st h => eJs rs Str.empty st h
theorem jp_run {es : List Expr} {rs : List ET} (j : JP C es rs) {pins : List (Addr × Obj)} {σ : St} : ∀ (acc : Str) (s : Shared) (H : Hp) (G : Gh) (h : Hm) (st : StT) (Q : VK) (Rr : Str → Shared → Prop), acc.length ≤ sizeLine → Inv C.X pins σ H s → RepH C.S H G h → RelSt C.S H G st σ →
    Out C σ H G (relE C) (eJs rs acc st h) Q → (∀ out s1 H1, out.length ≤ sizeLine → Inv C.X pins σ H1 s1 → Q (.str out) H1 → Rr out s1) → Joins (model C.X.prog C.X.w) C.X.A C.X.xe (evalEach es C.X.env) acc Rr s := by
  induction j with
  | nil =>
    intro acc s H G h st Q Rr hz I rp rs o k
    have e0 : evalEach [] C.X.env = [] := by first | rfl | simp [evalEach]
    rw [e0]
    exact k acc s H hz I (out_ok o rp (.str _))
  | @cons e r es rs he t ih =>
    intro acc s H G h st Q Rr hz I rp rst o k
    have e0 : evalEach (e :: es) C.X.env = eval e C.X.env :: evalEach es C.X.env := by first | rfl | simp [evalEach]
    rw [e0]
    refine thn (he.run I rp rst (Out.bind (Rel := relE C) o)) fun u s1 ⟨v, H1, I1, r1, x, G1, h1, st1, rp1, rx, o1⟩ => ?_
    dsimp only at o1
    split at o1
    · rename_i y
      cases rx
      obtain ⟨tk, rfl⟩ := _root_.id r1
      split at o1
      · rename_i hl
        exact ⟨y, tk, rfl, of_decide_eq_true hl, ih (acc ++ y) s1 H1 G1 h1 st Q Rr (of_decide_eq_true hl) I1 rp1 (rst.step st1) o1 k⟩
      · exact False.elim o1
    · exact False.elim o1
theorem je_join {v1 v2 : Expr} {rest : List Expr} {rs : List ET} {pos : Pos} (j : JP C (v1 :: v2 :: rest) rs) : JE C (.JoinedStr (v1 :: v2 :: rest) pos) (eJoin rs) := by
  refine ⟨fun pins s σ H Q I hw => ?_⟩
  obtain ⟨st, G, h, rp, rst, o⟩ := hw
  exact wpAny_JoinedStr (jp_run j Str.empty s H G h st Q _ (Nat.zero_le _) I rp rst o fun out s1 H1 hz I1 q1 => ⟨hz, .str out, H1, I1.tok _, ⟨_, rfl⟩, q1⟩)
theorem je_join1 {e : Expr} {r : ET} {pos : Pos} (j : JE C e r) : JE C (.JoinedStr [e] pos) r := ⟨fun pins s σ H Q I hw => wpAny_JoinedStr_one (PE.run j pins s σ H Q I hw)⟩
end
end RT
set_option Elab.async false
set_option linter.all false
set_option maxRecDepth 100000
set_option maxHeartbeats 4000000
/-! RT, part h: own == and !=, in with own ==. -/
namespace RTL
open PySem PySem.SeqAt
open AutoSeq1 (wpAny_loadPart')
open MeetsSeq MeetsSeq2 MeetsSeq3 SeqRoads2
section
variable {prog : Program} {w : World} {A : Around} {R : Result → Shared → Prop}
/-- at each turn the list is read anew -/
def InI (prog : Program) (w : World) (A : Around) (E : Value → Shared → Prop) (l : Addr) (x : Value) (N : Nat) (I : Nat → Shared → Prop) (Yes : Shared → Prop) : Prop :=
  ∀ i s, I i s → ∃ (items : Array Value) (n : Nat) (dd : Option Addr) (sl : Array (Option Value)), s.heap.get? l = some { cls := .type "list", dict := dd, data := .seq items n, slots := sl } ∧ items.size = N ∧
    ∀ (h1 : i < items.size), wpAny (model prog w) A.in1 (eqBool items[i] x) (fun r s' => if r then Yes s' else I (i + 1) s') E s
theorem in_loopG (l : Addr) (x : Value) (N : Nat) (I : Nat → Shared → Prop) (Yes : Shared → Prop) (hl : InI prog w A (fun e s' => R (.error e) s') l x N I Yes)
    (yes : ∀ s, Yes s → R (.ok (.ret (.bool true))) s) (fin : ∀ s, I N s → R (.ok (.ret (.bool false))) s) (k : Nat) :
    ∀ i : Nat, N - i = k → i ≤ N → ∀ s, I i s →
      wpAny (model prog w) A.in1 (Builtin.«list.__contains__.loop» ⟨[.ref l, x, rawInt i], []⟩) (GQ.FinOf prog w A R) (fun e s' => R (.error e) s') s := by
  induction k with
  | zero =>
    intro i hk hi s h
    obtain ⟨items, n, dd, sl, hl1, hs1, _⟩ := hl _ _ h
    have hi' : i = N := by omega
    have hR : R (.ok (.ret (.bool false))) s := fin s (hi' ▸ h)
    obtain ⟨hp, g, d, tk, os⟩ := s
    wp_walk using wpAny_loadPart' hl1
    have hi1 : items[((i : Nat) : Int).toNat]? = none := by simp; omega
    rw [hi1]
    wp_walk
    exact hR
  | succ k ih =>
    intro i hk hi s h
    obtain ⟨items, n, dd, sl, hl1, hs1, turn⟩ := hl _ _ h
    have hlt : i < items.size := by omega
    have ht := turn hlt
    obtain ⟨hp, g, d, tk, os⟩ := s
    wp_walk using wpAny_loadPart' hl1
    have hi1 : items[((i : Nat) : Int).toNat]? = some items[i] := by simp [hlt]
    have hc : ((i : Int) + 1) = ((i + 1 : Nat) : Int) := by omega
    rw [hi1]
    refine wpAny_bind (wpAny_mono ht (fun r s2 h2 => ?_) fun _ _ x => x)
    cases r with
    | true =>
      have h2' := yes s2 h2
      obtain ⟨hp2, g2, d2, tk2, os2⟩ := s2
      wp_walk
      exact h2'
    | false =>
      have hrec := ih (i + 1) (by omega) (by omega) s2 h2
      obtain ⟨hp2, g2, d2, tk2, os2⟩ := s2
      wp_walk
      rw [hc]
      exact ⟨plainId_quiet plain_contains_loop _, codeAny_builtin entry_contains_loop (by
        rw [Around.under_plainId plain_contains_loop _]
        exact hrec)⟩
theorem list_inG (l : Addr) (x : Value) (N : Nat) (I : Nat → Shared → Prop) (Yes : Shared → Prop) (hl : InI prog w A (fun e s' => R (.error e) s') l x N I Yes)
    (yes : ∀ s, Yes s → R (.ok (.ret (.bool true))) s) (fin : ∀ s, I N s → R (.ok (.ret (.bool false))) s) {s : Shared} (h : I 0 s) :
    wpAny (model prog w) A.in1 (Builtin.«list.__contains__» ⟨[.ref l, x], []⟩) (GQ.FinOf prog w A R) (fun e s' => R (.error e) s') s := by
  obtain ⟨items, n, dd, sl, hl1, hs1, _⟩ := hl _ _ h
  have hrec := in_loopG (A := A) (R := R) l x N I Yes hl yes fin _ 0 rfl (Nat.zero_le _) s h
  obtain ⟨hp, g, d, tk, os⟩ := s
  wp_walk using wpAny_loadPart' hl1
  exact ⟨plainId_quiet plain_contains_loop _, codeAny_builtin entry_contains_loop (by
    rw [Around.under_plainId plain_contains_loop _]
    exact hrec)⟩
/-- a tuple's items, one by one -/
theorem tuple_inG (l : Addr) (x : Value) (items : Array Value) (n : Nat) (dd : Option Addr) (sl : Array (Option Value)) (I : Nat → Shared → Prop) (Yes : Shared → Prop)
    (turn : ∀ i (h1 : i < items.size) s, I i s → wpAny (model prog w) A.in1 (eqBool items[i] x) (fun r s' => if r then Yes s' else I (i + 1) s') (fun e s' => R (.error e) s') s)
    (yes : ∀ s, Yes s → R (.ok (.ret (.bool true))) s) (fin : ∀ s, I items.size s → R (.ok (.ret (.bool false))) s) {s : Shared}
    (hl1 : s.heap.get? l = some { cls := .type "tuple", dict := dd, data := .seq items n, slots := sl }) (h : I 0 s) :
    wpAny (model prog w) A.in1 (Builtin.«tuple.__contains__» ⟨[.ref l, x], []⟩) (GQ.FinOf prog w A R) (fun e s' => R (.error e) s') s := by
  have h0 := h
  obtain ⟨hp, g, d, tk, os⟩ := s
  wp_walk using wpAny_loadPart' hl1, wpAny_forIn_array _ (fun rest b s' => b.1 = none ∧ ∃ i, rest = items.toList.drop i ∧ i ≤ items.size ∧ I i s') _
  case turn =>
    rintro y rest b s' ⟨hb, i, hz, hi, hI⟩
    have hlt : i < items.toList.length := by
      rcases Nat.lt_or_ge i items.toList.length with h' | h'
      · exact h'
      · rw [List.drop_of_length_le h'] at hz; cases hz
    have h1 : i < items.size := by simpa using hlt
    rw [List.drop_eq_getElem_cons hlt] at hz
    injection hz with hyx hrest
    have hy : y = items[i] := by simpa using hyx
    subst hy
    refine wpAny_bind (wpAny_mono (turn i h1 s' hI) (fun r s2 q2 => ?_) fun _ _ x => x)
    cases r with
    | true =>
      have q2' := yes s2 q2
      wp_walk
      exact q2'
    | false =>
      wp_walk
      exact ⟨rfl, i + 1, hrest, h1, q2⟩
  case fin =>
    rintro ⟨b1, b2⟩ s' ⟨hb, i, hz, hi, hI⟩
    simp only at hb
    subst hb
    have hge : items.size ≤ i := by
      rcases Nat.lt_or_ge i items.toList.length with h' | h'
      · rw [List.drop_eq_getElem_cons h'] at hz; cases hz
      · simpa using h'
    have hi' : i = items.size := by omega
    have hR : R (.ok (.ret (.bool false))) s' := fin s' (hi' ▸ hI)
    wp_walk
    exact hR
  case h =>
    exact ⟨rfl, 0, rfl, Nat.zero_le _, h0⟩
end
section
variable {prog : Program} {w : World} {A : Around} {E : Value → Shared → Prop} {s : Shared}
theorem contains_listG {l : Addr} {x : Value} {N : Nat} {Q : Bool → Shared → Prop} (I : Nat → Shared → Prop) (Yes : Shared → Prop) (hl : InI prog w A E l x N I Yes)
    (yes : ∀ s, Yes s → Q true s) (fin : ∀ s, I N s → Q false s) (h : I 0 s) : wpAny (model prog w) A (contains (.ref l) x) Q E s := by
  obtain ⟨items, n, dd, sl, hl1, _, _⟩ := hl _ _ h
  refine wpAny_contains_slot (T := "list") ⟨_, hl1, rfl⟩ F.slot_list_contains (wpAny_mono (Q := fun v s' => ∃ b, v = .bool b ∧ Q b s') (GQ.call_here F.slot_list_contains ⟨_, hl1, rfl⟩ F.entry_list_contains (F.args_list_contains_2 _ _) (list_inG (R := wants (fun v s' => ∃ b, v = .bool b ∧ Q b s') E) l x N I Yes hl (fun s' q => ⟨true, rfl, yes s' q⟩) (fun s' q => ⟨false, rfl, fin s' q⟩) h)) (fun v s' hv => ?_) fun _ _ e => e)
  obtain ⟨b, rfl, hq⟩ := hv
  exact wpAny_truthy_bool hq
theorem contains_tupG {l : Addr} {x : Value} {items : Array Value} {Q : Bool → Shared → Prop} (I : Nat → Shared → Prop) (Yes : Shared → Prop) (ht : s.heap.IsTuple l items)
    (turn : ∀ i (h1 : i < items.size) s, I i s → wpAny (model prog w) A.in1 (eqBool items[i] x) (fun r s' => if r then Yes s' else I (i + 1) s') E s)
    (yes : ∀ s, Yes s → Q true s) (fin : ∀ s, I items.size s → Q false s) (h : I 0 s) : wpAny (model prog w) A (contains (.ref l) x) Q E s := by
  obtain ⟨⟨cls, dd, data, sl⟩, ho, hc, n, hd⟩ := id ht
  simp only at hc hd
  subst hc hd
  refine wpAny_contains_slot (T := "tuple") ⟨_, ho, rfl⟩ F.slot_tuple_contains (wpAny_mono (Q := fun v s' => ∃ b, v = .bool b ∧ Q b s') (GQ.call_here F.slot_tuple_contains ⟨_, ho, rfl⟩ F.entry_tuple_contains (F.args_tuple_contains_2 _ _) (tuple_inG (R := wants (fun v s' => ∃ b, v = .bool b ∧ Q b s') E) l x items n dd sl I Yes turn (fun s' q => ⟨true, rfl, yes s' q⟩) (fun s' q => ⟨false, rfl, fin s' q⟩) ho h)) (fun v s' hv => ?_) fun _ _ e => e)
  obtain ⟨b, rfl, hq⟩ := hv
  exact wpAny_truthy_bool hq
end
end RTL
namespace RT
open PySem PySem.Spec L2
open PyProof.Rows hiding St

section
variable {prog : Program} {w : World} {A : Around} {E : Value → Shared → Prop} {s : Shared} {K : PySem.W.Frag} {x C f : Addr} {ox : Obj} {od : Option Obj} {b tb : Value}
theorem ifBound_ne {M : Model} {args : List Value} {Q : Option Value → Shared → Prop} (X : K.In s.heap) (I : PySem.W.InstAt s.heap x ox C od) (hs : PySem.W.findIn K (.ref C) "__ne__" = some (some (.builtin "object.__ne__")))
    (h : wpAny M A (call (.builtin "object.__ne__") (.ref x :: args)) (fun v => Q (some v)) E s) : wpAny M A (callSpecialIfBound? (.ref x) "__ne__" args) Q E s := by
  simp only [callSpecialIfBound?, bindSpecialIfBound?]
  refine wpAny_holding (wpAny_bind (wpAny_bind (wpAny_bind (I.type.here ((PySem.W.looks_findIn X hs).here ?_)))))
  refine wpAny_bind (wpAny_askSetting (wpAny_ite ?_))
  have fin : wpAny M A (call (.builtin "object.__ne__") ([.ref x] ++ args) >>= fun v => pure (some v)) Q E s := wpAny_bind (wpAny_mono h (fun v s' h' => wpAny_pure h') fun _ _ h' => h')
  split
  · exact wpAny_bind (wpAny_of_eq (F.cmp_object.ne.bind _) (wpAny_pure (by exact fin)))
  · exact wpAny_tryCatch (wpAny_bind (wpAny_of_eq (F.cmp_object.ne.bind _) (wpAny_pure (by exact fin))))
/-- x != b, by an own == -/
theorem ne_K {Q : Value → Shared → Prop} (hu : A.units + 1 < cLine) (X : K.In s.heap) (I : PySem.W.InstAt s.heap x ox C od) (hb : PySem.W.Looks (model prog w) s.heap (typeOf b) tb) (hn : PySem.W.notFirst K C tb = true)
    (hs : PySem.W.findIn K (.ref C) "__eq__" = some (some (.ref f))) (hf : PySem.W.isFn K (.ref f) = true) (hne : PySem.W.findIn K (.ref C) "__ne__" = some (some (.builtin "object.__ne__"))) (hm : PySem.W.mroIn K C (.type "object") = some true)
    (h : wpAny (model prog w) A.in1 (call (.ref f) [.ref x, b]) (fun v s' => ∃ r, v = .bool r ∧ Q (.bool (!r)) s') E s) : wpAny (model prog w) A (richCompare .NotEq (.ref x) b) Q E s := by
  have body : wpAny (model prog w) A.in1 (Builtin.«object.__ne__» ⟨[.ref x, b], []⟩) (fun fin s' => ∃ r, fin = .done (.ret (.bool (!r))) ∧ Q (.bool (!r)) s') E s := by
    unfold Builtin.«object.__ne__»
    refine wpAny_bind (m := slotArgs "__ne__" 1 _) (wpAny_pure ?_)
    refine wpAny_bind (m := cRoomFor _ _) (wpAny_cRoomFor hu ?_)
    refine wpAny_bind (m := callSpecialIfBound? (.ref x) (Str.ofString "__eq__") _) (PySem.W.ifBound_K X I hs hf (wpAny_mono h (fun r s' hr => ?_) fun _ _ y => y))
    obtain ⟨r, rfl, q⟩ := hr
    refine wpAny_bind (m := truthy (.bool r)) (wpAny_truthy_bool ?_)
    exact wpAny_pure ⟨r, rfl, q⟩
  have one : wpAny (model prog w) A (tryCompare (.ref x) "__ne__" b) (fun r s' => ∃ v, r = some v ∧ Q v s') E s := by
    unfold tryCompare
    refine wpAny_bind (ifBound_ne X I hne (wpAny_call (codeAny_call_builtin F.cmp_object.ne.plain F.cmpEntry_ne (PySem.W.check_slot F.cmpKind_ne F.cmpSplit_ne (I.type.andThen (PySem.W.looks_mroIn X hm)) (F.cmpArgs_ne _ _) ?_))))
    refine wpAny_mono body (fun fin s' z => ?_) fun _ _ z => z
    obtain ⟨r, rfl, q⟩ := z
    exact wpAny_pure ⟨_, rfl, q⟩
  unfold richCompare
  simp only [oneThing_ref]
  refine wpAny_holding (wpAny_bind (wpAny_cRoomFor (by omega) ?_))
  refine wpAny_bind (I.type.here (wpAny_bind (hb.here ?_)))
  split
  · rename_i q
    have e : PySem.W.subIn K tb (.ref C) = some false := by
      rcases Bool.or_eq_true_iff.mp hn with e | e
      · rw [beq_iff_eq.mp e] at q; simp at q
      · exact beq_iff_eq.mp e
    refine wpAny_bind ((PySem.W.looks_subIn X e).here ?_)
    simp only [Bool.false_eq_true, if_false]
    refine wpAny_bind (wpAny_mono one (fun r s' z => ?_) fun _ _ e => e)
    obtain ⟨v, rfl, hq⟩ := z
    exact wpAny_pure hq
  · refine wpAny_bind (wpAny_pure ?_)
    simp only [Bool.false_eq_true, if_false]
    refine wpAny_bind (wpAny_mono one (fun r s' z => ?_) fun _ _ e => e)
    obtain ⟨v, rfl, hq⟩ := z
    exact wpAny_pure hq
end

/-! ### own == as a plain function -/
abbrev Oe := Nat → Option (T → T → Option Bool)
def gPure (f : T → T → Option Bool) : List T → Hm → R T := fun xs h => match xs with
  | [x, y] => (match f x y with
    | some b => .ok (.bl b) h
    | none => .bad)
  | _ => .bad
/-- classes of values that may stand at the right -/
def Tg.okEq (n : Nat) : Tg → Bool
  | .cl c => decide (c < n)
  | .ty s => ["NoneType", "bool", "int", "str", "tuple", "list", "dict"].contains s
theorem tagOf_ok {h : Hm} {t : T} {a : Tg} {n : Nat} (e : tagOf h t = some a) (hl : a.lt n = true) : a.okEq n = true := by
  cases a with
  | cl c => exact hl
  | ty s =>
    cases t with
    | ref l =>
      unfold tagOf at e
      dsimp only at e
      split at e <;> first | (cases e; rfl) | cases e
    | _ => unfold tagOf at e; dsimp only at e; first | (cases e; rfl) | cases e
section
variable {C : RC}
theorem CaA.pure {k : Nat} {f : Value} {g : List T → Hm → R T} {p : T → T → Option Bool} (c : CaA C k f 2 g) (hp : ∀ x y h b, p x y = some b → g [x, y] h = .ok (.bl b) h) : CaA C k f 2 (gPure p) := by
  intro A pins s σ H G h xs vs us Q bl I rp rx vu l o
  unfold gPure at o
  split at o
  · rename_i x y
    split at o
    · rename_i b e
      refine c A pins s σ H G h [x, y] vs us Q bl I rp rx vu l ?_
      rw [hp x y h b e]
      exact o
    · exact False.elim o
  · exact False.elim o
structure OeOk (C : RC) (k : Nat) (ow : Oe) : Prop where
  call : ∀ c f, ow c = some f → ∃ a, PySem.W.findIn C.S.K (.ref (C.S.cls c)) "__eq__" = some (some (.ref a)) ∧ PySem.W.isFn C.S.K (.ref a) = true ∧ CaA C k (.ref a) 2 (gPure f)
  ne : ∀ c f, ow c = some f → PySem.W.findIn C.S.K (.ref (C.S.cls c)) "__ne__" = some (some (.builtin "object.__ne__")) ∧ PySem.W.mroIn C.S.K (C.S.cls c) (.type "object") = some true
  first : ∀ c f a, ow c = some f → Tg.okEq C.S.nc a = true → PySem.W.notFirst C.S.K (C.S.cls c) (a.val C.S) = true
  refl : ∀ c f x, ow c = some f → f x x ≠ some false

def opEqK (nc : Nat) (ow : Oe) : O2 := fun x y h => match insOf x h with
  | some (c, _) => (match ow c, tagOf h y with
    | some f, some a => if a.lt nc then (match f x y with
      | some b => .ok (.bl b) h
      | none => .bad) else .bad
    | _, _ => .bad)
  | none => opEq x y h
def opNeK (nc : Nat) (ow : Oe) : O2 := fun x y h => match insOf x h with
  | some (c, _) => (match ow c, tagOf h y with
    | some f, some a => if a.lt nc then (match f x y with
      | some b => .ok (.bl (!b)) h
      | none => .bad) else .bad
    | _, _ => .bad)
  | none => opNe x y h
/-- the call of the own == -/
theorem pure_run {k : Nat} {fa : Addr} {f : T → T → Option Bool} (c : CaA C k (.ref fa) 2 (gPure f)) {A : Around} (bl : Blw C k A) {pins : List (Addr × Obj)} {s : Shared} {σ : St} {H : Hp} {G : Gh} {h : Hm} {x y : T} {vx vy : V} {u w : Value} {b : Bool}
    (I : Inv C.X pins σ H s) (rp : RepH C.S H G h) (rx : RelT C.S H G x vx) (ry : RelT C.S H G y vy) (ru : RelV vx u) (rw' : RelV vy w) (e : f x y = some b) :
    wpAny (model C.X.prog C.X.w) A (call (.ref fa) [u, w]) (fun v s' => v = .bool b ∧ ∃ H' G', Inv C.X pins σ H' s' ∧ Step H G H' G' ∧ RepH C.S H' G' h) C.X.xe s := by
  refine wpAny_mono (c A pins s σ H G h [x, y] [vx, vy] [u, w] (fun v H' => v = .bl b ∧ ∃ G', Step H G H' G' ∧ RepH C.S H' G' h) bl I rp (.cons rx (.cons ry .nil)) (.cons ru (.cons rw' .nil)) rfl ?_) (fun v s' hv => ?_) fun _ _ z => z
  · unfold gPure
    dsimp only
    rw [e]
    intro v H' G' st rp' rv
    cases rv
    exact ⟨rfl, G', st, rp'⟩
  · obtain ⟨v', H', I', rv, rfl, G', st, rp'⟩ := hv
    cases rv
    exact ⟨rfl, H', G', I', st, rp'⟩
theorem op_eqK (ok : C.Ok) {tab : IsTab} (io : IsOk C.S tab) {k : Nat} {ow : Oe} (oe : OeOk C k ow) (hk : k ≤ C.k) : OpT C (compareOp .Eq) (opEqK C.S.nc ow) := by
  intro pins s σ H G h x y vx vy u w Q I rp rx ry vu vw o
  unfold opEqK at o
  split at o
  · rename_i c fs e
    split at o
    · rename_i f a ef ea
      split at o
      · rename_i hl
        split at o
        · rename_i b eb
          obtain ⟨p, dx, vs, rfl, ep, _⟩ := insOf_rel rp rx e
          obtain ⟨fa, q1, q2, q3⟩ := oe.call c f ef
          have q4 := oe.first c f a ef (tagOf_ok ea hl)
          rw [ok.K] at q1 q2 q4
          obtain ⟨P, Z, hP, _⟩ := kit_of I vw (tyx_of (σ := σ) ok io rp ry ea hl)
          have ru : RelV (.ref p) u := vu
          cases vu
          obtain ⟨ox, od, J⟩ := inst_of I ep
          obtain ⟨m, hF⟩ := I.fr
          refine PySem.W.cmp_ofEq (PySem.W.cmp_K (op := .Eq) (tb := a.val C.S) ok.room.units0 hF I.ok.mod.kin J (Z.ty _ _ I.kIn hP) q4 q1 q2 ?_)
          refine wpAny_mono (pure_run q3 (ok.blw hk) I rp rx ry ru vw eb) (fun v s' hv => ?_) fun _ _ z => z
          obtain ⟨rfl, H', G', I', st, rp'⟩ := hv
          exact ⟨.bl b, H', I', rfl, o (.bl b) H' G' st rp' (.bl b)⟩
        · exact False.elim o
      · exact False.elim o
    · exact False.elim o
  · exact op_eqT ok pins s σ H G h x y vx vy u w Q I rp rx ry vu vw o
theorem op_neK (ok : C.Ok) {tab : IsTab} (io : IsOk C.S tab) {k : Nat} {ow : Oe} (oe : OeOk C k ow) (hk : k + 1 ≤ C.k) : OpT C (compareOp .NotEq) (opNeK C.S.nc ow) := by
  intro pins s σ H G h x y vx vy u w Q I rp rx ry vu vw o
  unfold opNeK at o
  split at o
  · rename_i c fs e
    split at o
    · rename_i f a ef ea
      split at o
      · rename_i hl
        split at o
        · rename_i b eb
          obtain ⟨p, dx, vs, rfl, ep, _⟩ := insOf_rel rp rx e
          obtain ⟨fa, q1, q2, q3⟩ := oe.call c f ef
          obtain ⟨n1, n2⟩ := oe.ne c f ef
          have q4 := oe.first c f a ef (tagOf_ok ea hl)
          rw [ok.K] at q1 q2 q4 n1 n2
          obtain ⟨P, Z, hP, _⟩ := kit_of I vw (tyx_of (σ := σ) ok io rp ry ea hl)
          have ru : RelV (.ref p) u := vu
          cases vu
          obtain ⟨ox, od, J⟩ := inst_of I ep
          refine PySem.W.cmp_ofNotEq (ne_K (tb := a.val C.S) (by have := ok.room.un; omega) I.kIn J (Z.ty _ _ I.kIn hP) q4 q1 q2 n1 n2 ?_)
          refine wpAny_mono (pure_run q3 (ok.blw hk).in1 I rp rx ry ru vw eb) (fun v s' hv => ?_) fun _ _ z => z
          obtain ⟨rfl, H', G', I', st, rp'⟩ := hv
          exact ⟨b, rfl, .bl (!b), H', I', rfl, o (.bl (!b)) H' G' st rp' (.bl (!b))⟩
        · exact False.elim o
      · exact False.elim o
    · exact False.elim o
  · exact op_neT ok pins s σ H G h x y vx vy u w Q I rp rx ry vu vw o

/-! ### in: items by their own == -/
mutual
theorem toD_inj : ∀ {t t' : T} {d : PyData}, t.toD = some d → t'.toD = some d → t = t'
  | .non, t', d, e, e' => by rw [T.toD] at e; cases e; cases t' <;> rw [T.toD] at e' <;> first | cases e' | (rw [Option.map_eq_some_iff] at e'; obtain ⟨_, _, z⟩ := e'; cases z) <;> rfl
  | .bl b, t', d, e, e' => by rw [T.toD] at e; cases e; cases t' <;> rw [T.toD] at e' <;> first | (cases e'; rfl) | cases e' | (rw [Option.map_eq_some_iff] at e'; obtain ⟨_, _, z⟩ := e'; cases z)
  | .int b, t', d, e, e' => by rw [T.toD] at e; cases e; cases t' <;> rw [T.toD] at e' <;> first | (cases e'; rfl) | cases e' | (rw [Option.map_eq_some_iff] at e'; obtain ⟨_, _, z⟩ := e'; cases z)
  | .str b, t', d, e, e' => by rw [T.toD] at e; cases e; cases t' <;> rw [T.toD] at e' <;> first | (cases e'; rfl) | cases e' | (rw [Option.map_eq_some_iff] at e'; obtain ⟨_, _, z⟩ := e'; cases z)
  | .tup xs, t', d, e, e' => by
    rw [T.toD, Option.map_eq_some_iff] at e
    obtain ⟨ds, q, rfl⟩ := e
    cases t' <;> rw [T.toD] at e' <;> first | cases e' | skip
    · rw [Option.map_eq_some_iff] at e'
      obtain ⟨ds', q', z⟩ := e'
      cases z
      rw [toDs_inj q q']
    · rw [Option.map_eq_some_iff] at e'
      obtain ⟨_, _, z⟩ := e'
      cases z
  | .lst xs, t', d, e, e' => by
    rw [T.toD, Option.map_eq_some_iff] at e
    obtain ⟨ds, q, rfl⟩ := e
    cases t' <;> rw [T.toD] at e' <;> first | cases e' | skip
    · rw [Option.map_eq_some_iff] at e'
      obtain ⟨_, _, z⟩ := e'
      cases z
    · rw [Option.map_eq_some_iff] at e'
      obtain ⟨ds', q', z⟩ := e'
      cases z
      rw [toDs_inj q q']
  | .ref _, _, _, e, _ => by rw [T.toD] at e; cases e
  | .obj _ _, _, _, e, _ => by rw [T.toD] at e; cases e
  | .fn _, _, _, e, _ => by rw [T.toD] at e; cases e
  | .emp, _, _, e, _ => by rw [T.toD] at e; cases e
  | .ty _, _, _, e, _ => by rw [T.toD] at e; cases e
  | .cl _, _, _, e, _ => by rw [T.toD] at e; cases e
  | .exo _ _, _, _, e, _ => by rw [T.toD] at e; cases e
  | .xh _ _, _, _, e, _ => by rw [T.toD] at e; cases e
  | .clo _, _, _, e, _ => by rw [T.toD] at e; cases e
  | .slc _ _, _, _, e, _ => by rw [T.toD] at e; cases e
theorem toDs_inj : ∀ {t t' : List T} {d : List PyData}, T.toDs t = some d → T.toDs t' = some d → t = t'
  | [], t', d, e, e' => by
    rw [T.toDs] at e; cases e
    cases t' with
    | nil => rfl
    | cons y r => obtain ⟨_, _, _, _, z⟩ := toDs_cons e'; cases z
  | x :: r, t', d, e, e' => by
    obtain ⟨a, ds, e1, e2, rfl⟩ := toDs_cons e
    cases t' with
    | nil => rw [T.toDs] at e'; cases e'
    | cons y r' =>
      obtain ⟨a', ds', e1', e2', z⟩ := toDs_cons e'
      cases z
      rw [toD_inj e1 e1', toDs_inj e2 e2']
end
end
end RT
set_option Elab.async false
set_option linter.all false
set_option maxRecDepth 100000
set_option maxHeartbeats 4000000
/-! RT, part i: in; own contains, getitem, and, len. -/
namespace RT
open PySem PySem.Spec L2
open PyProof.Rows hiding St

theorem relV_ex (v : V) : ∃ u, RelV v u := by
  cases v with
  | non => exact ⟨_, rfl⟩
  | bl b => exact ⟨_, rfl⟩
  | int i => exact ⟨.int i 0, 0, rfl⟩
  | str i => exact ⟨.str i 0, 0, rfl⟩
  | byt i => exact ⟨.bytes i 0, 0, rfl⟩
  | flt i => exact ⟨.float i 0, 0, rfl⟩
  | ref a => exact ⟨_, rfl⟩
  | ty a => exact ⟨_, rfl⟩
def dataFs : List (Nat × T) → Bool
  | [] => true
  | (_, t) :: r => t.toD.isSome && dataFs r
def itemEq (nc : Nat) (ow : Oe) (y x : T) : Option Bool := match y.toD, x.toD with
  | some a, some b => if min a.depth b.depth ≤ 150 then some (PyData.eqv a b) else none
  | none, some _ => (match y with
    | .obj c _ => (match ow c with
      | some f => f y x
      | none => none)
    | _ => none)
  | none, none => (match y, x with
    | .obj c fs, .obj c' fs' => if (decide (c < nc) && decide (c' < nc)) && (dataFs fs && dataFs fs') then (match ow c with
      | some f => f y x
      | none => none) else none
    | _, _ => none)
  | some _, none => none
def anyEq (nc : Nat) (ow : Oe) (x : T) : List T → Option Bool
  | [] => some false
  | y :: r => match itemEq nc ow y x with
    | some true => some true
    | some false => anyEq nc ow x r
    | none => none
section
variable {C : RC}
theorem data_unique (ok : C.Ok) {pins : List (Addr × Obj)} {s : Shared} {σ : St} {H : Hp} {G : Gh} (I : Inv C.X pins σ H s) {t t' : T} {v : V} (r : RelT C.S H G t v) (r' : RelT C.S H G t' v) (e : t.toD.isSome = true) (e' : t'.toD.isSome = true) : t = t' := by
  obtain ⟨d, e⟩ := Option.isSome_iff_exists.mp e
  obtain ⟨d', e'⟩ := Option.isSome_iff_exists.mp e'
  obtain ⟨u, ru⟩ := relV_ex v
  obtain ⟨as, q⟩ := reads_of ok.K I r ru e
  obtain ⟨as', q'⟩ := reads_of ok.K I r' ru e'
  have z := PySem.SeqAt.plain_unique d d' u as as' (plain_toD e).1 q q'
  subst z
  exact toD_inj e e'
theorem fields_unique (ok : C.Ok) {pins : List (Addr × Obj)} {s : Shared} {σ : St} {H : Hp} {G : Gh} (I : Inv C.X pins σ H s) : ∀ {fs fs' : List (Nat × T)} {vs : List (Str × V)}, RelFs C.S H G fs vs → RelFs C.S H G fs' vs → dataFs fs = true → dataFs fs' = true → fs = fs'
  | _, _, _, .nil, h, _, _ => by cases h; rfl
  | _, _, _, .cons (f := f) hf r rs, h, e, e' => by
    generalize hv : (C.S.fld f, _) :: _ = vs at h
    cases h with
    | nil => cases hv
    | cons hf' r' rs' =>
      injection hv with h1 h2
      injection h1 with h3 h4
      subst h4
      subst h2
      rw [dataFs] at e e'
      obtain ⟨a1, a2⟩ := band e
      obtain ⟨b1, b2⟩ := band e'
      have := C.S.inj _ _ hf hf' h3
      subst this
      rw [data_unique ok I r r' a1 b1, fields_unique ok I rs rs' a2 b2]
/-- a tracked address is not of the written part -/
theorem notK (ok : C.Ok) {pins : List (Addr × Obj)} {s : Shared} {σ : St} {H : Hp} (I : Inv C.X pins σ H s) {p : Addr} {u : HO} (e : H p = some u) {o : Obj} (q : C.S.K.lookup p = some o) : False := by
  rw [ok.K] at q
  have := (I.bs p o (I.ok.mod.kin p o q)).2
  rw [e] at this
  cases this
theorem obj_not_data (ok : C.Ok) {pins : List (Addr × Obj)} {s : Shared} {σ : St} {H : Hp} {G : Gh} (I : Inv C.X pins σ H s) {p c dx : Addr} {vs : List (Str × V)} (e : H p = some (.ins c dx vs)) {x : T} (r : RelT C.S H G x (.ref p)) (hd : x.toD.isSome = true) : False := by
  cases r with
  | tup hz _ =>
    rcases hz with ⟨_, q⟩ | q
    · rcases q with q | ⟨o, q⟩ <;> rw [e] at q <;> cases q
    · rcases q (fun _ => none) with q | ⟨o, _, _, q, _⟩
      · rcases q with q | ⟨o, q⟩ <;> cases q
      · exact notK ok I e q
  | lst hz _ =>
    rcases hz with ⟨_, q⟩ | q
    · rcases q with q | ⟨o, q⟩ <;> rw [e] at q <;> cases q
    · obtain ⟨_, _, q, _⟩ := q
      exact notK ok I e q
  | ref _ => rw [T.toD] at hd; cases hd
  | obj _ _ _ => rw [T.toD] at hd; cases hd
  | fn _ => rw [T.toD] at hd; cases hd
  | emp _ _ => rw [T.toD] at hd; cases hd
  | cl _ => rw [T.toD] at hd; cases hd
  | exo0 _ _ => rw [T.toD] at hd; cases hd
  | exo _ _ _ _ _ => rw [T.toD] at hd; cases hd
  | exh0 _ _ _ _ => rw [T.toD] at hd; cases hd
  | exh _ _ _ _ _ _ _ => rw [T.toD] at hd; cases hd
  | clo _ _ _ => rw [T.toD] at hd; cases hd
  | slc _ _ => rw [T.toD] at hd; cases hd
theorem tag_of_data {h : Hm} {x : T} (hd : x.toD.isSome = true) (nc : Nat) : ∃ a, tagOf h x = some a ∧ a.lt nc = true := by
  cases x with
  | ref _ => rw [T.toD] at hd; cases hd
  | obj _ _ => rw [T.toD] at hd; cases hd
  | fn _ => rw [T.toD] at hd; cases hd
  | emp => rw [T.toD] at hd; cases hd
  | cl _ => rw [T.toD] at hd; cases hd
  | ty _ => rw [T.toD] at hd; cases hd
  | exo _ _ => rw [T.toD] at hd; cases hd
  | xh _ _ => rw [T.toD] at hd; cases hd
  | clo _ => rw [T.toD] at hd; cases hd
  | slc _ _ => rw [T.toD] at hd; cases hd
  | _ => exact ⟨_, rfl, rfl⟩
theorem eqBool_own {M : Model} {A : Around} {E : Value → Shared → Prop} {s : Shared} {p : Addr} {w : Value} {Q : Bool → Shared → Prop} (hne : w ≠ .ref p) (h : wpAny M A (richCompare .Eq (.ref p) w) (fun v s' => ∃ r, v = .bool r ∧ Q r s') E s) : wpAny M A (eqBool (.ref p) w) Q E s := by
  unfold eqBool
  refine wpAny_holding ?_
  refine wpAny_ite_split (fun hab => absurd (eq_of_beq hab).symm hne) (fun _ => ?_)
  refine wpAny_bind (wpAny_mono h (fun v s' hv => ?_) fun _ _ x => x)
  obtain ⟨r, rfl, q⟩ := hv
  exact wpAny_truthy_bool q
theorem item_run (ok : C.Ok) {tab : IsTab} (io : IsOk C.S tab) {k : Nat} {ow : Oe} (oe : OeOk C k ow) {A : Around} (bl : Blw C k A) {pins : List (Addr × Obj)} {s : Shared} {σ : St} {H : Hp} {G : Gh} {h : Hm} {y x : T} {vy vx : V} {u w : Value} {b : Bool}
    (I : Inv C.X pins σ H s) (rp : RepH C.S H G h) (ry : RelT C.S H G y vy) (rx : RelT C.S H G x vx) (ru : RelV vy u) (rw' : RelV vx w) (e : itemEq C.S.nc ow y x = some b) :
    wpAny (model C.X.prog C.X.w) A (eqBool u w) (fun r s' => r = b ∧ ∃ H' G', Inv C.X pins σ H' s' ∧ Step H G H' G' ∧ RepH C.S H' G' h) C.X.xe s := by
  have here : ∃ H' G', Inv C.X pins σ H' s ∧ Step H G H' G' ∧ RepH C.S H' G' h := ⟨H, G, I, Step.refl, rp⟩
  have call : ∀ (c : Nat) (fs : List (Nat × T)) (f : T → T → Option Bool) (a : Tg), y = .obj c fs → ow c = some f → f y x = some b → tagOf h x = some a → a.lt C.S.nc = true → (∀ p, vy = .ref p → w ≠ .ref p) →
      wpAny (model C.X.prog C.X.w) A (eqBool u w) (fun r s' => r = b ∧ ∃ H' G', Inv C.X pins σ H' s' ∧ Step H G H' G' ∧ RepH C.S H' G' h) C.X.xe s := by
    intro c fs f a ey ef eb ea hl hne
    obtain ⟨p, dx, vs, rfl, ep, _⟩ := insOf_rel (c := c) (fs := fs) rp ry (by rw [ey]; rfl)
    obtain ⟨fa, q1, q2, q3⟩ := oe.call c f ef
    have q4 := oe.first c f a ef (tagOf_ok ea hl)
    rw [ok.K] at q1 q2 q4
    obtain ⟨P, Z, hP, _⟩ := kit_of I rw' (tyx_of (σ := σ) ok io rp rx ea hl)
    have ru' : RelV (.ref p) u := ru
    cases ru
    obtain ⟨ox, od, J⟩ := inst_of I ep
    obtain ⟨m, hF⟩ := I.fr
    refine eqBool_own (hne p rfl) (PySem.W.cmp_K (op := .Eq) (tb := a.val C.S) bl.room.units0 hF I.ok.mod.kin J (Z.ty _ _ I.kIn hP) q4 q1 q2 ?_)
    refine wpAny_mono (pure_run q3 bl I rp ry rx ru' rw' eb) (fun v s' hv => ?_) fun _ _ z => z
    obtain ⟨rfl, H', G', I', st, rp'⟩ := hv
    exact ⟨b, rfl, rfl, H', G', I', st, rp'⟩
  unfold itemEq at e
  split at e
  · rename_i a d ea ed
    split at e
    · rename_i hd
      cases e
      obtain ⟨as, r1⟩ := reads_of ok.K I ry ru ea
      obtain ⟨bs, r2⟩ := reads_of ok.K I rx rw' ed
      exact PySem.SeqAt.eqAt_plain a d A s u w as bs r1 r2 (plain_toD ea).1 (plain_toD ed).1 (by have := bl.room.un; omega) C.X.prog C.X.w C.X.xe _ ⟨rfl, here⟩
    · cases e
  · rename_i d ea ed
    split at e
    · rename_i c fs
      split at e
      · rename_i f ef
        obtain ⟨a, ea', hl⟩ := tag_of_data (h := h) (x := x) (by rw [ed]; rfl) C.S.nc
        refine call c fs f a rfl ef e ea' hl fun p hp hw => ?_
        subst hp
        obtain ⟨p', dx, vs, e1, ep, _⟩ := insOf_rel (c := c) (fs := fs) rp ry rfl
        cases e1
        cases vx with
        | ref q =>
          cases rw'
          cases hw
          exact obj_not_data ok I ep rx (by rw [ed]; rfl)
        | int i => obtain ⟨t, z⟩ := rw'; rw [z] at hw; cases hw
        | str i => obtain ⟨t, z⟩ := rw'; rw [z] at hw; cases hw
        | byt i => obtain ⟨t, z⟩ := rw'; rw [z] at hw; cases hw
        | flt i => obtain ⟨t, z⟩ := rw'; rw [z] at hw; cases hw
        | non => cases rw'; cases hw
        | bl i => cases rw'; cases hw
        | ty i => cases rw'; cases hw
      · cases e
    · cases e
  · rename_i ea ed
    split at e
    · rename_i c fs c' fs'
      split at e
      · rename_i hc
        obtain ⟨hc, hd⟩ := band hc
        obtain ⟨c1, c2⟩ := band hc
        obtain ⟨d1, d2⟩ := band hd
        split at e
        · rename_i f ef
          by_cases hw : u = w
          · subst hw
            obtain ⟨p, dx, vs, e1, ep, rf⟩ := insOf_rel (c := c) (fs := fs) rp ry rfl
            obtain ⟨p', dx', vs', e1', ep', rf'⟩ := insOf_rel (c := c') (fs := fs') rp rx rfl
            subst e1
            subst e1'
            cases ru
            cases rw'
            rw [ep] at ep'
            injection ep' with ep'
            injection ep' with h1 h2 h3
            subst h3
            have := C.S.cinj _ _ (of_decide_eq_true c1) (of_decide_eq_true c2) h1
            subst this
            have := fields_unique ok I rf rf' d1 d2
            subst this
            have hb : b = true := by
              cases b with
              | true => rfl
              | false => exact absurd e (oe.refl _ f _ ef)
            subst hb
            exact PySem.SeqAt.EqAt.same (A := A) (s := s) (.ref p) C.X.prog C.X.w C.X.xe _ ⟨rfl, here⟩
          · refine call c fs f (.cl c') rfl ef e rfl c2 fun p hp hw' => ?_
            subst hp
            cases ru
            exact hw hw'.symm
        · cases e
      · cases e
    · cases e
  · cases e

/-! ### in -/
theorem any_run (ok : C.Ok) {tab : IsTab} (io : IsOk C.S tab) {k : Nat} {ow : Oe} (oe : OeOk C k ow) {A : Around} (bl : Blw C k A) {pins : List (Addr × Obj)} {σ : St} {H : Hp} {G : Gh} {h : Hm} {ys : List T} {x : T} {vs : List V} {vx : V} {w : Value} {s : Shared} {us : List Value} {i : Nat}
    (ry : RelTs C.S H G ys vs) (rx : RelT C.S H G x vx) (rw' : RelV vx w) (b : Bool) (I : Inv C.X pins σ H s) (rp : RepH C.S H G h) (vu : Vals vs us) (ea : anyEq C.S.nc ow x (ys.drop i) = some b) (hi : i < us.length) :
      wpAny (model C.X.prog C.X.w) A (eqBool us[i] w) (fun r s' => if r then (b = true ∧ ∃ H' G', Inv C.X pins σ H' s' ∧ Step H G H' G' ∧ RepH C.S H' G' h)
        else (anyEq C.S.nc ow x (ys.drop (i + 1)) = some b ∧ ∃ H' G', Inv C.X pins σ H' s' ∧ Step H G H' G' ∧ RepH C.S H' G' h)) C.X.xe s := by
  have hi1 : i < vs.length := by rw [vu.length]; exact hi
  have hi2 : i < ys.length := by rw [ry.length]; exact hi1
  rw [List.drop_eq_getElem_cons hi2] at ea
  rw [anyEq] at ea
  obtain ⟨v, e1, r1⟩ := ry.get (List.getElem?_eq_getElem hi2)
  obtain ⟨u, e2, r2⟩ := vu.get e1
  rw [List.getElem?_eq_getElem hi] at e2
  cases e2
  cases q : itemEq C.S.nc ow ys[i] x with
  | none => rw [q] at ea; cases ea
  | some c =>
    rw [q] at ea
    refine wpAny_mono (item_run ok io oe bl I rp r1 rx r2 rw' q) (fun r s' hr => ?_) fun _ _ z => z
    obtain ⟨rfl, H2, G2, I2, st2, rp2⟩ := hr
    cases r with
    | true =>
      dsimp only at ea
      cases ea
      exact ⟨rfl, H2, G2, I2, st2, rp2⟩
    | false => exact ⟨ea, H2, G2, I2, st2, rp2⟩
theorem seq_cases {t : T} {h : Hm} {xs : List T} (e : seqOf t h = some xs) : lstOf t h = some xs ∨ t = .tup xs := by
  cases t with
  | tup ys => cases e; exact .inr rfl
  | lst ys => cases e; exact .inl rfl
  | ref l => exact .inl e
  | _ => cases e
/-- the walk over a list's or tuple's items -/
theorem cont_run (ok : C.Ok) {tab : IsTab} (io : IsOk C.S tab) {k : Nat} {ow : Oe} (oe : OeOk C k ow) (hk : k + 1 ≤ C.k) {pins : List (Addr × Obj)} {σ : St} {H : Hp} {G : Gh} {h : Hm} {ys : List T} {x y : T} {vx vy : V} {u w : Value} {s : Shared}
    (I : Inv C.X pins σ H s) (rp : RepH C.S H G h) (rx : RelT C.S H G x vx) (ry : RelT C.S H G y vy) (ru : RelV vx u) (rw' : RelV vy w) (ey : seqOf y h = some ys) {b : Bool} (eb : anyEq C.S.nc ow x ys = some b) :
    wpAny (model C.X.prog C.X.w) C.X.A (contains w u) (fun r s' => r = b ∧ ∃ H' G', Inv C.X pins σ H' s' ∧ Step H G H' G' ∧ RepH C.S H' G' h) C.X.xe s := by
  have bl : Blw C k C.X.A.in1 := (ok.blw hk).in1
  have start : anyEq C.S.nc ow x (ys.drop 0) = some b ∧ ∃ H' G', Inv C.X pins σ H' s ∧ Step H G H' G' ∧ RepH C.S H' G' h := ⟨by simpa using eb, H, G, I, Step.refl, rp⟩
  have fin : ∀ (n : Nat) (s' : Shared), n = ys.length → (anyEq C.S.nc ow x (ys.drop n) = some b ∧ ∃ H' G', Inv C.X pins σ H' s' ∧ Step H G H' G' ∧ RepH C.S H' G' h) → false = b ∧ ∃ H' G', Inv C.X pins σ H' s' ∧ Step H G H' G' ∧ RepH C.S H' G' h := fun n s' hn z => by
    obtain ⟨e, z⟩ := z
    rw [hn, List.drop_length, anyEq] at e
    cases e
    exact ⟨rfl, z⟩
  rcases seq_cases ey with ey | ey
  · obtain ⟨a, vs, rfl, sq, rs⟩ := lstOf_rel ok rp ry ey
    cases rw'
    refine RTL.contains_listG (N := ys.length) (fun i s' => anyEq C.S.nc ow x (ys.drop i) = some b ∧ ∃ H' G', Inv C.X pins σ H' s' ∧ Step H G H' G' ∧ RepH C.S H' G' h) (fun s' => b = true ∧ ∃ H' G', Inv C.X pins σ H' s' ∧ Step H G H' G' ∧ RepH C.S H' G' h) ?_ (fun s' q => ⟨q.1.symm, q.2⟩) (fun s' q => fin _ s' rfl q) start
    rintro i s' ⟨ea, H1, G1, I1, st1, rp1⟩
    obtain ⟨a', vs', e', sq', rs'⟩ := lstOf_rel ok rp1 (ry.step st1) ey
    cases e'
    obtain ⟨its, rv, ⟨⟨cls, dd, data, sl⟩, n, ho, hc, hdi, hd⟩, _⟩ := I1.list sq'
    simp only at hc hd
    subst hc hd
    refine ⟨its.toArray, n, dd, sl, ho, by rw [List.size_toArray, ← rv.length, ← rs'.length], fun h1 => ?_⟩
    have hi : i < its.length := by simpa using h1
    have q := any_run (A := C.X.A.in1) ok io oe bl rs' (rx.step st1) ru b I1 rp1 rv ea hi
    refine wpAny_mono q (fun r s2 hr => ?_) fun _ _ z => z
    cases r with
    | true =>
      obtain ⟨z, H2, G2, I2, st2, rp2⟩ := hr
      exact ⟨z, H2, G2, I2, st1.trans st2, rp2⟩
    | false =>
      obtain ⟨z, H2, G2, I2, st2, rp2⟩ := hr
      exact ⟨z, H2, G2, I2, st1.trans st2, rp2⟩
  · subst ey
    cases ry with
    | tup hz rs =>
      cases rw'
      have sq := hz.sq
      rw [ok.K] at sq
      obtain ⟨its, rv, ht, _⟩ := I.tuple sq
      refine RTL.contains_tupG (items := its.toArray) (fun i s' => anyEq C.S.nc ow x (ys.drop i) = some b ∧ ∃ H' G', Inv C.X pins σ H' s' ∧ Step H G H' G' ∧ RepH C.S H' G' h) (fun s' => b = true ∧ ∃ H' G', Inv C.X pins σ H' s' ∧ Step H G H' G' ∧ RepH C.S H' G' h) ht ?_ (fun s' q => ⟨q.1.symm, q.2⟩) (fun s' q => fin _ s' (by rw [List.size_toArray, ← rv.length, ← rs.length]) q) start
      rintro i h1 s' ⟨ea, H1, G1, I1, st1, rp1⟩
      have hi : i < its.length := by simpa using h1
      have q := any_run (A := C.X.A.in1) ok io oe bl (rs.step st1) (rx.step st1) ru b I1 rp1 rv ea hi
      refine wpAny_mono q (fun r s2 hr => ?_) fun _ _ z => z
      cases r with
      | true =>
        obtain ⟨z, H2, G2, I2, st2, rp2⟩ := hr
        exact ⟨z, H2, G2, I2, st1.trans st2, rp2⟩
      | false =>
        obtain ⟨z, H2, G2, I2, st2, rp2⟩ := hr
        exact ⟨z, H2, G2, I2, st1.trans st2, rp2⟩
/-- an own class's answer -/
def dunB (ms : Ms) (o : T) (xs : List T) (h : Hm) : R T := match insOf o h with
  | some (c, _) => (match ms c with
    | some g => g (o :: xs) h
    | none => .bad)
  | none => .bad
def bothData (x y : T) (h : Hm) : Bool := x.toD.isSome && (y.toDh h).isSome
def isStr : T → Bool
  | .str _ => true
  | _ => false
/-- x in y -/
def opInK (nc : Nat) (ow : Oe) (msC : Ms) : O2 := fun x y h => match isStr y || bothData x y h with
  | true => opIn x y h
  | false => match insOf y h with
    | some _ => (dunB msC y [x] h).bind fun t h1 => (asB t h1).bind fun b h2 => .ok (.bl b) h2
    | none => match seqOf y h with
      | some ys => (match anyEq nc ow x ys with
        | some b => .ok (.bl b) h
        | none => .bad)
      | none => .bad
def opNotInK (nc : Nat) (ow : Oe) (msC : Ms) : O2 := fun x y h => match isStr y || bothData x y h with
  | true => opNotIn x y h
  | false => match insOf y h with
    | some _ => (dunB msC y [x] h).bind fun t h1 => (asB t h1).bind fun b h2 => .ok (.bl (!b)) h2
    | none => match seqOf y h with
      | some ys => (match anyEq nc ow x ys with
        | some b => .ok (.bl (!b)) h
        | none => .bad)
      | none => .bad
theorem dunB_run (ok : C.Ok) {k n : Nat} {f : Str} {ms : Ms} (hm : DuOk C k f (n + 1) ms) {A : Around} (bl : Blw C k A) {pins : List (Addr × Obj)} {s : Shared} {σ : St} {H : Hp} {G : Gh} {h : Hm} {x : T} {v : V} {ys : List T} {vs : List V} {us : List Value} {Q : VK} (I : Inv C.X pins σ H s) (rp : RepH C.S H G h) (rx : RelT C.S H G x v) (ry : RelTs C.S H G ys vs) (vu : Vals vs us)
    (hn : us.length = n) (o : Out C σ H G (relE C) (dunB ms x ys h) Q) : ∃ a c dx fs, v = .ref a ∧ H a = some (.ins c dx fs) ∧ ∃ fa, PySem.W.findIn C.X.K (.ref c) f = some (some (.ref fa)) ∧ PySem.W.isFn C.X.K (.ref fa) = true ∧
      ∀ s', Inv C.X pins σ H s' → wpAny (model C.X.prog C.X.w) A (call (.ref fa) (.ref a :: us)) (EP C.X pins σ Q) C.X.xe s' := by
  unfold dunB at o
  split at o
  · rename_i c fs' e
    split at o
    · rename_i g eg
      obtain ⟨a, dx, ws, rfl, ea, _⟩ := insOf_rel rp rx e
      obtain ⟨fa, q1, q2, q3⟩ := hm c g eg
      rw [ok.K] at q1 q2
      exact ⟨a, _, dx, ws, rfl, ea, fa, q1, q2, fun s' I' => q3 A pins s' σ H G h (x :: ys) (.ref a :: vs) (.ref a :: us) _ bl I' rp (.cons rx ry) (.cons rfl vu) (by simp [hn]) o⟩
    · exact False.elim o
  · exact False.elim o
theorem op_inK (ok : C.Ok) {tab : IsTab} (io : IsOk C.S tab) {k : Nat} {ow : Oe} (oe : OeOk C k ow) {msC : Ms} (hm : DuOk C k "__contains__" 2 msC) (hk : k + 1 ≤ C.k) : OpT C (compareOp .In) (opInK C.S.nc ow msC) := by
  intro pins s σ H G h x y vx vy u w Q I rp rx ry vu vw o
  unfold opInK at o
  split at o
  · exact op_inT ok pins s σ H G h x y vx vy u w Q I rp rx ry vu vw o
  · split at o
    · obtain ⟨a, c, dx, fs, rfl, ea, fa, q1, q2, q3⟩ := dunB_run ok hm (ok.blw (by omega : k ≤ C.k)) I rp ry (.cons rx .nil) (.cons vu .nil) rfl (Out.bind (Rel := relE C) o)
      cases vw
      obtain ⟨ox, od, J⟩ := inst_of I ea
      obtain ⟨m, hF⟩ := I.fr
      refine PySem.W.in_K hF I.ok.mod.kin J q1 q2 (wpAny_mono (q3 s I) (fun r s' hr => ?_) fun _ _ z => z)
      obtain ⟨v', H1, I1, r1, t, G1, h1, st1, rp1, rv1, o1⟩ := hr
      have o1 := Out.bind (Rel := relB) o1
      obtain ⟨b, rfl, t2, G2, h2, st2, rp2, e2, o2⟩ := out_asB o1 Step.refl rp1 rv1
      subst e2
      cases r1
      exact wpAny_truthy_bool ⟨.bl t2, H1, I1, rfl, out_ok o2 rp2 (.bl _)⟩
    · split at o
      · rename_i ys ey
        split at o
        · rename_i b eb
          refine wpAny_bind (wpAny_mono (cont_run ok io oe hk I rp rx ry vu vw ey eb) (fun r s' hr => ?_) fun _ _ z => z)
          obtain ⟨rfl, H', G', I', st, rp'⟩ := hr
          exact wpAny_pure ⟨.bl r, H', I', rfl, o _ H' G' st rp' (.bl _)⟩
        · exact False.elim o
      · exact False.elim o
theorem op_notInK (ok : C.Ok) {tab : IsTab} (io : IsOk C.S tab) {k : Nat} {ow : Oe} (oe : OeOk C k ow) {msC : Ms} (hm : DuOk C k "__contains__" 2 msC) (hk : k + 1 ≤ C.k) : OpT C (compareOp .NotIn) (opNotInK C.S.nc ow msC) := by
  intro pins s σ H G h x y vx vy u w Q I rp rx ry vu vw o
  unfold opNotInK at o
  split at o
  · exact op_notInT ok pins s σ H G h x y vx vy u w Q I rp rx ry vu vw o
  · split at o
    · obtain ⟨a, c, dx, fs, rfl, ea, fa, q1, q2, q3⟩ := dunB_run ok hm (ok.blw (by omega : k ≤ C.k)) I rp ry (.cons rx .nil) (.cons vu .nil) rfl (Out.bind (Rel := relE C) o)
      cases vw
      obtain ⟨ox, od, J⟩ := inst_of I ea
      obtain ⟨m, hF⟩ := I.fr
      refine PySem.W.notIn_K hF I.ok.mod.kin J q1 q2 (wpAny_mono (q3 s I) (fun r s' hr => ?_) fun _ _ z => z)
      obtain ⟨v', H1, I1, r1, t, G1, h1, st1, rp1, rv1, o1⟩ := hr
      have o1 := Out.bind (Rel := relB) o1
      obtain ⟨b, rfl, t2, G2, h2, st2, rp2, e2, o2⟩ := out_asB o1 Step.refl rp1 rv1
      subst e2
      cases r1
      exact wpAny_truthy_bool ⟨.bl (!t2), H1, I1, rfl, out_ok o2 rp2 (.bl _)⟩
    · split at o
      · rename_i ys ey
        split at o
        · rename_i b eb
          refine wpAny_bind (wpAny_mono (cont_run ok io oe hk I rp rx ry vu vw ey eb) (fun r s' hr => ?_) fun _ _ z => z)
          obtain ⟨rfl, H', G', I', st, rp'⟩ := hr
          exact wpAny_pure ⟨.bl (!r), H', I', rfl, o _ H' G' st rp' (.bl _)⟩
        · exact False.elim o
      · exact False.elim o

/-! ### own binary operators, own len, own getitem -/
/-- x & y, x >> y .. by the left one's class, both of it -/
def opOwn (ms : Ms) (o2 : O2) : O2 := fun x y h => match insOf x h, insOf y h with
  | some (c, _), some (c', _) => if c = c' then (dunB ms x [y] h) else .bad
  | none, none => o2 x y h
  | _, _ => .bad
theorem op_own (ok : C.Ok) {op : Operator} {k : Nat} {ms : Ms} {o2 : O2} (ho : OpT C (binaryOp op) o2) (hm : DuOk C k (PySem.dunder op.info.2) 2 ms) (hs : ∀ c g, ms c = some g → PySem.W.selfFirst C.S.K (C.S.cls c) = true) (hk : k ≤ C.k) : OpT C (binaryOp op) (opOwn ms o2) := by
  intro pins s σ H G h x y vx vy u w Q I rp rx ry vu vw o
  unfold opOwn at o
  split at o
  · rename_i c fs c' fs' ex ey
    split at o
    · rename_i hc
      subst hc
      have o' := o
      unfold dunB at o'
      rw [ex] at o'
      dsimp only at o'
      split at o'
      · rename_i g eg
        have hsf := hs c g eg
        rw [ok.K] at hsf
        obtain ⟨a0, dx0, ws0, rfl, ea0, _⟩ := insOf_rel rp rx ex
        obtain ⟨a1, dx1, ws1, rfl, ea1, _⟩ := insOf_rel rp ry ey
        obtain ⟨a, c1, dx, fs, e1, ea, fa, q1, q2, q3⟩ := dunB_run ok hm (ok.blw hk) I rp rx (.cons ry .nil) (.cons vw .nil) rfl (Q := fun v H' => Q v H') o
        cases e1
        rw [ea0] at ea
        cases ea
        cases vu
        cases vw
        obtain ⟨ox, od, J⟩ := inst_of I ea0
        obtain ⟨ox', od', J'⟩ := inst_of I ea1
        obtain ⟨m, hF⟩ := I.fr
        refine PySem.W.binop_K hF I.ok.mod.kin J J'.type hsf q1 q2 (wpAny_mono (q3 s I) (fun r s' hr => ?_) fun _ _ z => z)
        obtain ⟨v', H1, I1, r1, q⟩ := hr
        have fin : EP C.X pins σ Q r s' := ⟨v', H1, I1, r1, q⟩
        cases r with
        | notImplemented =>
          exfalso
          cases v' with
          | int i => obtain ⟨t, z⟩ := r1; cases z
          | str i => obtain ⟨t, z⟩ := r1; cases z
          | byt i => obtain ⟨t, z⟩ := r1; cases z
          | flt i => obtain ⟨t, z⟩ := r1; cases z
          | non => cases r1
          | bl i => cases r1
          | ty i => cases r1
          | ref i => cases r1
        | _ => exact fin
      · exact False.elim o'
    · exact False.elim o
  · exact ho pins s σ H G h x y vx vy u w Q I rp rx ry vu vw o
  · exact False.elim o
/-- len -/
def gLenK (ms : Ms) : List T → Hm → R T := fun xs h => match xs with
  | [x] => (match insOf x h with
    | some _ => (dunB ms x [] h).bind fun t h1 => match t with
      | .int i => if decide (0 ≤ i) && decide (i < 2 ^ 63) then .ok (.int i) h1 else .bad
      | _ => .bad
    | none => gLen [x] h)
  | _ => .bad
theorem ca_lenK (ok : C.Ok) {k : Nat} {ms : Ms} (hm : DuOk C k "__len__" 1 ms) (hk : k + 1 ≤ C.k) : CaT C (.builtin "len") (gLenK ms) := by
  intro pins s σ H G h xs vs us Q I rp rx vu o
  unfold gLenK at o
  split at o
  · rename_i x
    split at o
    · obtain ⟨v, rfl, rv⟩ := rx.one
      obtain ⟨u, rfl, r1⟩ := vals1 vu
      obtain ⟨a, c, dx, fs, rfl, ea, fa, q1, q2, q3⟩ := dunB_run (n := 0) ok hm (A := C.X.A.in1) (ok.blw hk).in1 I rp rv .nil .nil rfl (Out.bind (Rel := relE C) o)
      cases r1
      obtain ⟨ox, od, J⟩ := inst_of I ea
      obtain ⟨m, hF⟩ := I.fr
      refine PySem.W.len_K hF I.ok.mod.kin J q1 q2 (wpAny_mono (q3 s I) (fun r s' hr => ?_) fun _ _ z => z)
      obtain ⟨v', H1, I1, r1, t, G1, h1, st1, rp1, rv1, o1⟩ := hr
      dsimp only at o1
      split at o1
      · rename_i i
        cases rv1
        obtain ⟨tk, rfl⟩ := r1
        split at o1
        · rename_i hc
          obtain ⟨h1', h2'⟩ := band hc
          exact ⟨⟨of_decide_eq_true h1', of_decide_eq_true h2'⟩, .int i, H1, I1.tok _, ⟨_, rfl⟩, out_ok o1 rp1 (.int _)⟩
        · exact False.elim o1
      · exact False.elim o1
    · exact ca_len ok pins s σ H G h [x] vs us Q I rp rx vu o
  · exact False.elim o
end
end RT
set_option Elab.async false
set_option linter.all false
set_option maxRecDepth 100000
set_option maxHeartbeats 4000000
/-! RT, part j: iteration, for, list comprehensions. -/
namespace RT
open PySem PySem.Spec L2
open PyProof.Rows hiding St

/-- an iterator goes through ts, whatever happens outside of it -/
def Yields (C : RC) (J : It) (ts : List T) (H : Hp) (G : Gh) : Prop := ∀ (X : Addr → Prop) (H2 : Hp) (G2 : Gh), StepX X H G H2 G2 → (∀ a, G2.Z a → H2 a ≠ none) → ∀ i, (ts.length ≤ i → J.stop i H2) ∧
  ∀ t, ts[i]? = some t → J.go i H2 ∧ ∀ x H3, J.yld i H2 x H3 → ∃ G3, Step H2 G2 H3 G3 ∧ (∀ h, RepH C.S H2 G2 h → RepH C.S H3 G3 h) ∧ RelT C.S H3 G3 t x
def OutI (C : RC) (σ : St) (H : Hp) (G : Gh) (r : R (List T)) (Rr : It → Hp → Prop) : Prop := match r with
  | .ok ts h => ∀ J H' G', Step H G H' G' → RepH C.S H' G' h → Yields C J ts H' G' → Rr J H'
  | .exc e h => ∀ cls d H' G', Step H G H' G' → RepH C.S H' G' h → RelX C.S H' G' e cls d → C.W cls d σ H'
  | .bad => False
theorem OutI.step {C : RC} {σ : St} {H H1 : Hp} {G G1 : Gh} {r : R (List T)} {Rr : It → Hp → Prop} (s : Step H G H1 G1) (o : OutI C σ H G r Rr) : OutI C σ H1 G1 r Rr := by
  cases r with
  | ok t h => exact fun J H' G' st => o J H' G' (s.trans st)
  | exc e h => exact fun c d H' G' st => o c d H' G' (s.trans st)
  | bad => exact o
theorem OutI.bind {C : RC} {σ : St} {H : Hp} {G : Gh} {A B : Type} {Rel : Hp → Gh → A → B → Prop} {r : R A} {f : A → Hm → R (List T)} {Rr : It → Hp → Prop} (o : OutI C σ H G (r.bind f) Rr) :
    Out C σ H G Rel r (fun v H' => ∃ t G' h', Step H G H' G' ∧ RepH C.S H' G' h' ∧ Rel H' G' t v ∧ OutI C σ H' G' (f t h') Rr) := by
  cases r with
  | ok t h' => exact fun v H' G' st rp rl => ⟨t, G', h', st, rp, rl, OutI.step st o⟩
  | exc e h' => exact o
  | bad => exact o
def liI (C : RC) (r : AT) : TI := fun σ H Rr => ∃ a G h, RepH C.S H G h ∧ RelSt C.S H G a σ ∧ OutI C σ H G (r a h) Rr
def JI (C : RC) (tg iter : Expr) (r : AT) : Prop := PI C.X tg iter (liI C r)
section
variable {C : RC} {tg e : Expr} {pos : Pos}
theorem sqT_any {S : Sta} {H : Hp} {G : Gh} {a : Addr} {vs : List V} (h : FzT S H G a vs) {X : Addr → Prop} {H2 : Hp} {G2 : Gh} (s : StepX X H G H2 G2) : SqT S.K H2 a vs := (h.step s).sq
theorem yields_tup (ok : C.Ok) {a : Addr} {vs : List V} {ts : List T} {H : Hp} {G : Gh} (hz : FzT C.S H G a vs) (rs : RelTs C.S H G ts vs) : Yields C (Itt C.X.K a) ts H G := by
  intro X H2 G2 st _ i
  have sq := sqT_any hz st
  rw [ok.K] at sq
  have rs2 := rs.step st
  refine ⟨fun hi => ⟨vs, sq, by rw [← rs.length]; exact hi⟩, fun t et => ?_⟩
  obtain ⟨v, e1, r1⟩ := rs2.get et
  refine ⟨⟨vs, v, sq, e1⟩, fun x H3 y => ?_⟩
  obtain ⟨rfl, y⟩ := y
  have := y vs sq
  rw [e1] at this
  cases this
  exact ⟨G2, Step.refl, fun _ z => z, r1⟩
theorem yields_lst (ok : C.Ok) {a : Addr} {vs : List V} {ts : List T} {H : Hp} {G : Gh} (hz : FzL C.S H G a vs) (rs : RelTs C.S H G ts vs) : Yields C (Itl C.X.K a) ts H G := by
  intro X H2 G2 st _ i
  have sq := (hz.step st).sq
  rw [ok.K] at sq
  have rs2 := rs.step st
  refine ⟨fun hi => ⟨vs, sq, by rw [← rs.length]; exact hi⟩, fun t et => ?_⟩
  obtain ⟨v, e1, r1⟩ := rs2.get et
  refine ⟨⟨vs, v, sq, e1⟩, fun x H3 y => ?_⟩
  obtain ⟨rfl, y⟩ := y
  have := y vs sq
  rw [e1] at this
  cases this
  exact ⟨G2, Step.refl, fun _ z => z, r1⟩
def signs (z : Str) : List T := z.cps.toList.map fun c => .str ⟨#[c]⟩
theorem yields_str {z : Str} {H : Hp} {G : Gh} : Yields C (Its z) (signs z) H G := by
  intro X H2 G2 st _ i
  refine ⟨fun hi => by
    have : z.cps.size ≤ i := by simpa [signs] using hi
    exact this, fun t et => ?_⟩
  unfold signs at et
  rw [List.getElem?_map] at et
  cases q : z.cps.toList[i]? with
  | none => rw [q] at et; cases et
  | some c =>
    rw [q] at et
    cases et
    have q' : z.cps[i]? = some c := by simpa using q
    refine ⟨by
      have := (Array.getElem?_eq_some_iff.mp q').1
      exact this, fun x H3 y => ?_⟩
    obtain ⟨rfl, c', e1, rfl⟩ := y
    rw [q'] at e1
    cases e1
    exact ⟨G2, Step.refl, fun _ z => z, .str _⟩
def rangeT (lo : Int) (n : Nat) : List T := (List.range n).map fun i => .int (lo + (i : Nat))
theorem yields_range {lo : Int} {n : Nat} {H : Hp} {G : Gh} : Yields C (Itr lo n) (rangeT lo n) H G := by
  intro X H2 G2 st _ i
  refine ⟨fun hi => by
    have : n ≤ i := by simpa [rangeT] using hi
    exact this, fun t et => ?_⟩
  unfold rangeT at et
  rw [List.getElem?_map] at et
  cases q : (List.range n)[i]? with
  | none => rw [q] at et; cases et
  | some c =>
    rw [q] at et
    cases et
    obtain ⟨h1, h2⟩ := List.getElem?_eq_some_iff.mp q
    have h1' : i < n := by simpa using h1
    have h2' : i = c := by simpa using h2
    subst h2'
    refine ⟨h1', fun x H3 y => ?_⟩
    obtain ⟨rfl, rfl⟩ := y
    exact ⟨G2, Step.refl, fun _ z => z, .int _⟩
/-- a value gone through: a frozen list, a tuple, a text -/
def itemsF (t : T) (h : Hm) : R (List T) := match t with
  | .lst xs => .ok xs h
  | .tup xs => .ok xs h
  | .str z => .ok (signs z) h
  | _ => .bad
def iVal (r : ET) : AT := fun st h => (r st h).bind itemsF
theorem ji_val (ok : C.Ok) {r : ET} (j : JE C e r) : JI C tg e (iVal r) := by
  refine ⟨fun pins s σ H Rr I hw => ?_⟩
  obtain ⟨st, G, h, rp, rs, o⟩ := hw
  refine thn (j.run I rp rs (OutI.bind (Rel := relE C) o)) fun v s1 ⟨x, H1, I1, r1, t, G1, h1, st1, rp1, rx, o1⟩ => ?_
  have fin : ∀ {b : Addr}, b ∈ [s1.heap.objs.size] → FpOk C.X pins H1 b := fun {b} hb => by
    have e : b = s1.heap.objs.size := by simpa using hb
    subst e
    exact I1.fpOk (Nat.le_refl _) (I1.hok.fresh (Nat.le_refl _))
  cases rx with
  | tup hz rs' =>
    cases r1
    have sq := hz.sq
    rw [ok.K] at sq
    obtain ⟨its, rv, p, _⟩ := I1.tuple sq
    refine wpAny_pyIter_tuple (show s1.heap.IsTuple _ its.toArray from p) ?_
    exact ⟨s1.heap.objs.size, [s1.heap.objs.size], _, _, H1, rfl, I1.kept (t' := s1.toks) fun b o e => Heap.get?_push_of_some _ e, turn_tuple _ _, ⟨_, Heap.get?_push_size _ rfl, rfl, rfl⟩, fun b hb => fin hb, o1 _ _ _ Step.refl rp1 (yields_tup ok hz rs')⟩
  | lst hz rs' =>
    cases r1
    have sq := hz.sq
    rw [ok.K] at sq
    obtain ⟨its, rv, p, _⟩ := I1.list sq
    refine wpAny_pyIter_list p.isList ?_
    exact ⟨s1.heap.objs.size, [s1.heap.objs.size], _, _, H1, rfl, I1.kept (t' := s1.toks) fun b o e => Heap.get?_push_of_some _ e, turn_list _ _, ⟨_, Heap.get?_push_size _ rfl, rfl, rfl⟩, fun b hb => fin hb, o1 _ _ _ Step.refl rp1 (yields_lst ok hz rs')⟩
  | str z =>
    obtain ⟨t, rfl⟩ := r1
    have q := o1 _ _ _ Step.refl rp1 (yields_str (C := C) (z := z) (H := H1) (G := G1))
    cases ha : z.cps.all (· < 128)
    · exact wpAny_pyIter_wide ha (pi_one (tk := s1.toks) I1 _ (turn_str _ z t "str_iterator" (.inr rfl)) ⟨_, Heap.get?_push_size _ rfl, rfl, rfl⟩ q)
    · exact wpAny_pyIter_ascii ha (pi_one (tk := s1.toks) I1 _ (turn_str _ z t "str_ascii_iterator" (.inl rfl)) ⟨_, Heap.get?_push_size _ rfl, rfl, rfl⟩ q)
  | _ => exact False.elim o1
def small62 (i : Int) : Bool := decide (-(2 ^ 62) ≤ i) && decide (i < 2 ^ 62)
/-- range(n), range(lo, hi) -/
def iRg1 (ra : AT) : AT := fun st h => (ra st h).bind fun xs h1 => match xs with
  | [.int j] => if small62 j then .ok (rangeT 0 j.toNat) h1 else .bad
  | _ => .bad
def iRg2 (ra : AT) : AT := fun st h => (ra st h).bind fun xs h1 => match xs with
  | [.int i, .int j] => if small62 i && small62 j then .ok (rangeT i (j - i).toNat) h1 else .bad
  | _ => .bad
theorem ji_range1 {a : Expr} {ra : AT} {p : Pos} (hg : Gl C.X "range") (hm : C.X.mg "range" = none) (ja : JA C [a] ra) (hs : starEach [a] C.X.env = [(false, eval a C.X.env)] := by rfl) : JI C tg (.Call (.Name "range" p) [a] [] pos) (iRg1 ra) := by
  refine ⟨fun pins s σ H Rr I hw => ?_⟩
  obtain ⟨st, G, h, rp, rs, o⟩ := hw
  refine (pi_range1 (ta := liA C ra) hg hm ja hs).run pins s σ H Rr I ⟨st, G, h, rp, rs, (OutI.bind (Rel := relA C) o).mono fun vs H1 ⟨ts, G1, h1, st1, rp1, rts, o1⟩ => ?_⟩
  split at o1
  · rename_i j
    obtain ⟨v, rfl, rv⟩ := rts.one
    cases rv
    split at o1
    · rename_i hc
      obtain ⟨c1, c2⟩ := band hc
      exact ⟨j, rfl, of_decide_eq_true c1, of_decide_eq_true c2, o1 _ _ _ Step.refl rp1 yields_range⟩
    · exact False.elim o1
  · exact False.elim o1
theorem ji_range2 {a b : Expr} {ra : AT} {p : Pos} (hg : Gl C.X "range") (hm : C.X.mg "range" = none) (ja : JA C [a, b] ra) (hs : starEach [a, b] C.X.env = [(false, eval a C.X.env), (false, eval b C.X.env)] := by rfl) (hs2 : starEach [b] C.X.env = [(false, eval b C.X.env)] := by rfl) :
    JI C tg (.Call (.Name "range" p) [a, b] [] pos) (iRg2 ra) := by
  refine ⟨fun pins s σ H Rr I hw => ?_⟩
  obtain ⟨st, G, h, rp, rs, o⟩ := hw
  refine (pi_range2 (ta := liA C ra) hg hm ja hs hs2).run pins s σ H Rr I ⟨st, G, h, rp, rs, (OutI.bind (Rel := relA C) o).mono fun vs H1 ⟨ts, G1, h1, st1, rp1, rts, o1⟩ => ?_⟩
  split at o1
  · rename_i i j
    obtain ⟨v, w, rfl, rv, rw'⟩ := rts.two
    cases rv; cases rw'
    split at o1
    · rename_i hc
      obtain ⟨ca, cb⟩ := band hc
      obtain ⟨c1, c2⟩ := band ca
      obtain ⟨c3, c4⟩ := band cb
      exact ⟨i, j, rfl, ⟨of_decide_eq_true c1, of_decide_eq_true c2, of_decide_eq_true c3, of_decide_eq_true c4⟩, o1 _ _ _ Step.refl rp1 yields_range⟩
    · exact False.elim o1
  · exact False.elim o1
/-- enumerate(e), e a list that is not changed -/
def enumT : Nat → List T → List T
  | _, [] => []
  | i, t :: r => .tup [.int (i : Nat), t] :: enumT (i + 1) r
theorem enumT_get : ∀ (ts : List T) (k i : Nat), (enumT k ts)[i]? = (ts[i]?).map fun t => .tup [.int ((k + i : Nat) : Int), t]
  | [], k, i => by simp [enumT]
  | t :: r, k, 0 => by simp [enumT]
  | t :: r, k, i + 1 => by
    rw [enumT, List.getElem?_cons_succ, enumT_get r (k + 1) i, List.getElem?_cons_succ]
    have e : k + 1 + i = k + (i + 1) := by omega
    rw [e]
theorem enumT_length : ∀ (ts : List T) (k : Nat), (enumT k ts).length = ts.length
  | [], _ => rfl
  | t :: r, k => by rw [enumT, List.length_cons, List.length_cons, enumT_length r]
theorem yields_enum (ok : C.Ok) {a : Addr} {vs : List V} {ts : List T} {H : Hp} {G : Gh} (hz : FzL C.S H G a vs) (rs : RelTs C.S H G ts vs) : Yields C (Ite C.X.K a) (enumT 0 ts) H G := by
  intro X H2 G2 st th i
  have sq := (hz.step st).sq
  rw [ok.K] at sq
  have rs2 := rs.step st
  refine ⟨fun hi => ⟨vs, sq, by rw [← rs.length]; rw [enumT_length] at hi; exact hi⟩, fun t et => ?_⟩
  rw [enumT_get] at et
  cases q : ts[i]? with
  | none => rw [q] at et; cases et
  | some t0 =>
    rw [q] at et
    cases et
    obtain ⟨v, e1, r1⟩ := rs2.get q
    refine ⟨⟨vs, v, sq, e1⟩, fun x H3 y => ?_⟩
    obtain ⟨p, y0, rfl, hp, rfl, y⟩ := y
    have := y vs sq
    rw [e1] at this
    cases this
    have g := grown_upd (o := .tup [.int (i : Nat), v]) hp
    have st0 := g.step th
    have st1 : Step H2 G2 (upd H2 p (.tup [.int (i : Nat), v])) (G2.fz p) := ⟨⟨[], by simp [Gh.fz]⟩, fun a z => .inr z, st0.keep, st0.there, st0.frame, fun a z => .inl z, fun a z => by
      rcases z with z | z
      · subst z; exact .inr (.inr hp)
      · exact .inl z, st0.codes⟩
    refine ⟨G2.fz p, st1, fun h rp => (rp.newF hp).2, ?_⟩
    rw [Nat.zero_add]
    exact .tup (.inl ⟨.inl rfl, .inl upd_same⟩) (.cons (.int _) (.cons (r1.step st1) .nil))
def iEnumT (ra : AT) : AT := fun st h => (ra st h).bind fun xs h1 => match xs with
  | [.lst ts] => .ok (enumT 0 ts) h1
  | _ => .bad
theorem ji_enum (ok : C.Ok) {ra : AT} {p tpos : Pos} {elts : List Expr} {kk : Nat} (hg : Gl C.X "enumerate") (hm : C.X.mg "enumerate" = none) (ja : JA C [e] ra) (hs : starEach [e] C.X.env = [(false, eval e C.X.env)] := by rfl) :
    JI C (.Tuple elts kk tpos) (.Call (.Name "enumerate" p) [e] [] pos) (iEnumT ra) := by
  refine ⟨fun pins s σ H Rr I hw => ?_⟩
  obtain ⟨st, G, h, rp, rs, o⟩ := hw
  refine (pi_enum (ta := liA C ra) hg hm ja hs).run pins s σ H Rr I ⟨st, G, h, rp, rs, (OutI.bind (Rel := relA C) o).mono fun vs H1 ⟨ts, G1, h1, st1, rp1, rts, o1⟩ => ?_⟩
  split at o1
  · rename_i ys
    obtain ⟨v, rfl, rv⟩ := rts.one
    cases rv with
    | lst hz rs' =>
      have sq := hz.sq
      rw [ok.K] at sq
      exact ⟨_, _, rfl, sq, o1 _ _ _ Step.refl rp1 (yields_enum ok hz rs')⟩
  · exact False.elim o1
/-- zip(e, e2), both lists or both tuples that are not changed -/
def zipT : List T → List T → List T
  | x :: xs, y :: ys => .tup [x, y] :: zipT xs ys
  | _, _ => []
theorem zipT_get : ∀ (xs ys : List T) (i : Nat), (zipT xs ys)[i]? = match xs[i]?, ys[i]? with
    | some x, some y => some (.tup [x, y])
    | _, _ => none
  | [], ys, i => by simp [zipT]
  | x :: xs, [], i => by
    have e : zipT (x :: xs) [] = [] := by simp [zipT]
    rw [e]
    cases h : (x :: xs)[i]? <;> simp
  | x :: xs, y :: ys, 0 => by simp [zipT]
  | x :: xs, y :: ys, i + 1 => by
    rw [zipT, List.getElem?_cons_succ, zipT_get xs ys i, List.getElem?_cons_succ, List.getElem?_cons_succ]
theorem zipT_length : ∀ (xs ys : List T), (zipT xs ys).length = min xs.length ys.length
  | [], ys => by simp [zipT]
  | x :: xs, [] => by
    have e : zipT (x :: xs) [] = [] := by simp [zipT]
    rw [e]
    simp
  | x :: xs, y :: ys => by rw [zipT, List.length_cons, zipT_length xs ys]; simp
theorem pair_step {H2 : Hp} {G2 : Gh} {p : Addr} {v w : V} {x y : T} (th : ∀ a, G2.Z a → H2 a ≠ none) (hp : H2 p = none) (r1 : RelT C.S H2 G2 x v) (r2 : RelT C.S H2 G2 y w) :
    ∃ G3, Step H2 G2 (upd H2 p (.tup [v, w])) G3 ∧ (∀ h, RepH C.S H2 G2 h → RepH C.S (upd H2 p (.tup [v, w])) G3 h) ∧ RelT C.S (upd H2 p (.tup [v, w])) G3 (.tup [x, y]) (.ref p) := by
  have g := grown_upd (o := .tup [v, w]) hp
  have st0 := g.step th
  have st1 : Step H2 G2 (upd H2 p (.tup [v, w])) (G2.fz p) := ⟨⟨[], by simp [Gh.fz]⟩, fun a z => .inr z, st0.keep, st0.there, st0.frame, fun a z => .inl z, fun a z => by
    rcases z with z | z
    · subst z; exact .inr (.inr hp)
    · exact .inl z, st0.codes⟩
  exact ⟨G2.fz p, st1, fun h rp => (rp.newF hp).2, .tup (.inl ⟨.inl rfl, .inl upd_same⟩) (.cons (r1.step st1) (.cons (r2.step st1) .nil))⟩
theorem yields_zipL (ok : C.Ok) {a b : Addr} {vs ws : List V} {xs ys : List T} {H : Hp} {G : Gh} (hz : FzL C.S H G a vs) (rs : RelTs C.S H G xs vs) (hz' : FzL C.S H G b ws) (rs' : RelTs C.S H G ys ws) : Yields C (Itz C.X.K a b) (zipT xs ys) H G := by
  intro X H2 G2 st th i
  have sq := (hz.step st).sq
  have sq' := (hz'.step st).sq
  rw [ok.K] at sq sq'
  have rs2 := rs.step st
  have rs2' := rs'.step st
  refine ⟨fun hi => ⟨vs, ws, sq, sq', by rw [zipT_length, rs.length, rs'.length] at hi; omega⟩, fun t et => ?_⟩
  rw [zipT_get] at et
  split at et
  · rename_i x y ex ey
    cases et
    obtain ⟨v, e1, r1⟩ := rs2.get ex
    obtain ⟨w, e2, r2⟩ := rs2'.get ey
    refine ⟨⟨vs, ws, v, w, sq, sq', e1, e2⟩, fun z H3 q => ?_⟩
    obtain ⟨p, x0, y0, rfl, hp, rfl, q1, q2⟩ := q
    have e3 := q1 vs sq
    have e4 := q2 ws sq'
    rw [e1] at e3
    rw [e2] at e4
    cases e3; cases e4
    exact pair_step th hp r1 r2
  · cases et
theorem yields_zipT (ok : C.Ok) {a b : Addr} {vs ws : List V} {xs ys : List T} {H : Hp} {G : Gh} (hz : FzT C.S H G a vs) (rs : RelTs C.S H G xs vs) (hz' : FzT C.S H G b ws) (rs' : RelTs C.S H G ys ws) : Yields C (RZ.ItzT C.X.K a b) (zipT xs ys) H G := by
  intro X H2 G2 st th i
  have sq := (hz.step st).sq
  have sq' := (hz'.step st).sq
  rw [ok.K] at sq sq'
  have rs2 := rs.step st
  have rs2' := rs'.step st
  refine ⟨fun hi => ⟨vs, ws, sq, sq', by rw [zipT_length, rs.length, rs'.length] at hi; omega⟩, fun t et => ?_⟩
  rw [zipT_get] at et
  split at et
  · rename_i x y ex ey
    cases et
    obtain ⟨v, e1, r1⟩ := rs2.get ex
    obtain ⟨w, e2, r2⟩ := rs2'.get ey
    refine ⟨⟨vs, ws, v, w, sq, sq', e1, e2⟩, fun z H3 q => ?_⟩
    obtain ⟨p, x0, y0, rfl, hp, rfl, q1, q2⟩ := q
    have e3 := q1 vs sq
    have e4 := q2 ws sq'
    rw [e1] at e3
    rw [e2] at e4
    cases e3; cases e4
    exact pair_step th hp r1 r2
  · cases et
def iZipT (ra : AT) : AT := fun st h => (ra st h).bind fun xs h1 => match xs with
  | [.lst xs, .lst ys] => .ok (zipT xs ys) h1
  | [.tup xs, .tup ys] => .ok (zipT xs ys) h1
  | _ => .bad
theorem ji_zip (ok : C.Ok) {e2 : Expr} {ra : AT} {p tpos : Pos} {elts : List Expr} {kk : Nat} (hg : Gl C.X "zip") (hm : C.X.mg "zip" = none) (ja : JA C [e, e2] ra)
    (hs : starEach [e, e2] C.X.env = (false, eval e C.X.env) :: starEach [e2] C.X.env := by rfl) (hpl : (backTo pos (starEach [e2] C.X.env)).any (·.1) = false := by rfl) :
    JI C (.Tuple elts kk tpos) (.Call (.Name "zip" p) [e, e2] [] pos) (iZipT ra) := by
  refine ⟨fun pins s σ H Rr I hw => ?_⟩
  obtain ⟨st, G, h, rp, rs, o⟩ := hw
  refine (RZ.pi_zipA (ta := liA C ra) hg hm ja hs hpl).run pins s σ H Rr I ⟨st, G, h, rp, rs, (OutI.bind (Rel := relA C) o).mono fun vs H1 ⟨ts, G1, h1, st1, rp1, rts, o1⟩ => ?_⟩
  split at o1
  · rename_i xs ys
    obtain ⟨v, w, rfl, rv, rw'⟩ := rts.two
    cases rv with
    | lst hz rs1 =>
      cases rw' with
      | lst hz2 rs2 =>
        have sq := hz.sq
        have sq2 := hz2.sq
        rw [ok.K] at sq sq2
        exact ⟨_, _, _, _, rfl, .inl ⟨sq, sq2, o1 _ _ _ Step.refl rp1 (yields_zipL ok hz rs1 hz2 rs2)⟩⟩
  · rename_i xs ys
    obtain ⟨v, w, rfl, rv, rw'⟩ := rts.two
    cases rv with
    | tup hz rs1 =>
      cases rw' with
      | tup hz2 rs2 =>
        have sq := hz.sq
        have sq2 := hz2.sq
        rw [ok.K] at sq sq2
        exact ⟨_, _, _, _, rfl, .inr ⟨sq, sq2, o1 _ _ _ Step.refl rp1 (yields_zipT ok hz rs1 hz2 rs2)⟩⟩
  · exact False.elim o1

/-! ### for -/
def forL (g : GT) (b : SM) : List T → SM
  | [], a, h => .ok (.nx a) h
  | t :: ts, a, h => match g t a h with
    | .ok a1 h1 => (match b a1 h1 with
      | .ok (.nx a2) h2 => forL g b ts a2 h2
      | .ok (.cont a2) h2 => forL g b ts a2 h2
      | .ok (.brk a2) h2 => .ok (.nx a2) h2
      | r => r)
    | _ => .bad
def sFor (ri : AT) (g : GT) (b : SM) : SM := fun a h => (ri a h).th a fun ts h1 => forL g b ts a h1
theorem OutS.bindI {σ : St} {H : Hp} {G : Gh} {r : R (List T)} {a : StT} {f : List T → Hm → R SO} {D : Ends} (rs : RelSt C.S H G a σ) (o : OutS C H G (r.th a f) D) :
    OutI C σ H G r (fun J H' => ∃ ts G' h', Step H G H' G' ∧ RepH C.S H' G' h' ∧ Yields C J ts H' G' ∧ OutS C H' G' (f ts h') D) := by
  cases r with
  | ok t h' => exact fun J H' G' st rp y => ⟨t, G', h', st, rp, y, OutS.step st o⟩
  | exc e h' => exact fun c d H' G' st rp x => o c d σ H' G' st rp (rs.step st) x
  | bad => exact o
theorem Yields.step {J : It} {ts : List T} {X : Addr → Prop} {H H1 : Hp} {G G1 : Gh} (y : Yields C J ts H G) (s : Step H G H1 G1) : Yields C J ts H1 G1 := fun X H2 G2 st => y X H2 G2 ((s.wide fun _ z => z.elim).trans st)
theorem js_for (hp : PassesOwn (model C.X.prog C.X.w) C.X.A C.X.env C.X.xe) (ok : C.Ok) (hc : C.S.mo = none) {iter : Expr} {body : List Stmt} {ri : AT} {g : GT} {b : SM} (ji : JI C tg iter ri) (jg : JG C tg g) (jb : JSs C body b)
    (hs : ∀ x, foldedSetIterable iter C.X.env x = pure x := by intro _; rfl) : JS C (.For tg iter body [] pos) (sFor ri g b) := by
  refine ⟨fun pins s σ H D I hw => ?_⟩
  obtain ⟨a, G, h, rp, rs, o⟩ := hw
  refine (ps_for (wi := liI C ri) (g := liG C g) (tb := liS C b) hp (ok.calm hc) ji jg jb hs).run pins s σ H D I ⟨a, G, h, rp, rs, ?_⟩
  have o1 := OutS.bindI (σ := σ) rs o
  have key : ∀ (J : It) (H1 : Hp), (∃ ts G' h', Step H G H1 G' ∧ RepH C.S H1 G' h' ∧ Yields C J ts H1 G' ∧ OutS C H1 G' (forL g b ts a h') D) →
      ∃ W : Nat → Nat → St → Hp → Prop, (∃ m, W 0 m σ H1) ∧ ∀ i m σ H, W i m σ H → (J.stop i H ∧ D.nx σ H) ∨ (J.go i H ∧ ∃ N : St → Hp → Prop, (∀ σ' H', N σ' H' → ∃ m', m' < m ∧ W (i + 1) m' σ' H') ∧ ∀ x H', J.yld i H x H' → liG C g x σ H' fun σ2 H2 => liS C b { D with nx := N, ct := N, bk := D.nx } σ2 H2) := by
    rintro J H1 ⟨ts, G1, h1, st1, rp1, y1, o2⟩
    refine ⟨fun i m σ H => m = ts.length - i ∧ i ≤ ts.length ∧ ∃ a2 G2 h2, Step H1 G1 H G2 ∧ RepH C.S H G2 h2 ∧ RelSt C.S H G2 a2 σ ∧ OutS C H G2 (forL g b (ts.drop i) a2 h2) D, ⟨ts.length, rfl, Nat.zero_le _, a, G1, h1, Step.refl, rp1, rs.step st1, by simpa using o2⟩, ?_⟩
    rintro i m σ2 H2 ⟨rfl, hi, a2, G2, h2, st2, rp2, rs2, o3⟩
    have yy := y1 _ H2 G2 st2 (fun b z => rp2.there b (.inr z)) i
    by_cases hlt : i < ts.length
    · rw [List.drop_eq_getElem_cons hlt] at o3
      obtain ⟨go, yld⟩ := yy.2 ts[i] (List.getElem?_eq_getElem hlt)
      refine .inr ⟨go, fun σ' H' => ∃ a3 G3 h3, Step H1 G1 H' G3 ∧ RepH C.S H' G3 h3 ∧ RelSt C.S H' G3 a3 σ' ∧ OutS C H' G3 (forL g b (ts.drop (i + 1)) a3 h3) D, fun σ' H' z => ⟨ts.length - (i + 1), by omega, rfl, hlt, z⟩, fun x H3 hy => ?_⟩
      obtain ⟨G3, st3, rep, rt⟩ := yld x H3 hy
      rw [forL] at o3
      cases q : g ts[i] a2 h2 with
      | ok a4 h4 =>
        rw [q] at o3
        dsimp only at o3
        refine ⟨ts[i], a2, G3, h2, rep h2 rp2, rs2.step st3, rt, a4, h4, q, fun σ' H' G' st rp' rs' => ⟨a4, G', h4, rp', rs', ?_⟩⟩
        have o4 := OutS.step (st3.trans st) o3
        have all := st2.trans (st3.trans st)
        cases q2 : b a4 h4 with
        | ok z h5 =>
          rw [q2] at o4
          cases z with
          | nx a5 => exact fun σ5 H5 G5 st5 rp5 rs5 => ⟨a5, G5, h5, all.trans st5, rp5, rs5, OutS.step st5 o4⟩
          | cont a5 => exact fun σ5 H5 G5 st5 rp5 rs5 => ⟨a5, G5, h5, all.trans st5, rp5, rs5, OutS.step st5 o4⟩
          | brk a5 => exact o4
          | ret t => exact o4
          | rse e a5 => exact o4
        | exc e h5 => rw [q2] at o4; exact False.elim o4
        | bad => rw [q2] at o4; exact False.elim o4
      | exc e h4 => rw [q] at o3; exact False.elim o3
      | bad => rw [q] at o3; exact False.elim o3
    · have e : ts.drop i = [] := List.drop_eq_nil_of_le (by omega)
      rw [e] at o3
      exact .inl ⟨yy.1 (by omega), o3 σ2 H2 G2 Step.refl rp2 rs2⟩
  cases q : ri a h with
  | ok ts h1 =>
    rw [q] at o1
    exact fun J H1 G1 st rp1 y => key J H1 (o1 J H1 G1 st rp1 y)
  | exc e h1 =>
    rw [q] at o1
    exact o1
  | bad => rw [q] at o1; exact o1
end
end RT
set_option Elab.async false
set_option linter.all false
set_option maxRecDepth 100000
set_option maxHeartbeats 4000000
/-! RT, part k: list comprehensions. -/
namespace RT
open PySem PySem.Spec L2
open PyProof.Rows hiding St

/-! ### targets whose names are a block's own -/
structure SimG (S : Sta) (K : PySem.W.Frag) (own : List Nat) (g : GT) (tgv : TG) : Prop where
  run : ∀ {H : Hp} {G : Gh} {h h1 : Hm} {a a1 : StT} {σ : St} {t : T} {v : V} {Q : St → Hp → Prop}, RelT S H G t v → RelSt S H G a σ → g t a h = .ok a1 h1 → (h1 = h → ∀ σ2, wipe σ2 own = wipe σ own → RelSt S H G a1 σ2 → Q σ2 H) → tgv v σ H Q
structure SimGs (S : Sta) (K : PySem.W.Frag) (own : List Nat) (g : List T → StT → Hm → R StT) (tgv : TGs) : Prop where
  run : ∀ {H : Hp} {G : Gh} {h h1 : Hm} {a a1 : StT} {σ : St} {t : List T} {v : List V} {Q : St → Hp → Prop}, RelTs S H G t v → RelSt S H G a σ → g t a h = .ok a1 h1 → (h1 = h → ∀ σ2, wipe σ2 own = wipe σ own → RelSt S H G a1 σ2 → Q σ2 H) → tgv v σ H Q
theorem wipe_set {σ : St} {i : Nat} {x : Option V} : ∀ {own : List Nat}, i ∈ own → wipe (σ.set i x) own = wipe σ own
  | [], h => by simp at h
  | v :: vs, h => by
    unfold wipe
    by_cases e : i = v
    · subst e
      by_cases m : i ∈ vs
      · rw [wipe_set m]
      · have : ∀ (vs : List Nat), wipe (σ.set i x) vs = (wipe σ vs).set i x ∨ wipe (σ.set i x) vs = wipe σ vs := fun vs => by
          induction vs with
          | nil => exact .inl rfl
          | cons w ws ih =>
            unfold wipe
            by_cases ew : i = w
            · subst ew
              rcases ih with ih | ih
              · rw [ih, List.set_set]; exact .inr rfl
              · rw [ih]; exact .inr rfl
            · rcases ih with ih | ih
              · rw [ih, List.set_comm _ _ ew]; exact .inl rfl
              · rw [ih]; exact .inr rfl
        rcases this vs with q | q
        · rw [q, List.set_set]
        · rw [q]
    · have m : i ∈ vs := by
        rcases List.mem_cons.mp h with z | z
        · exact absurd z e
        · exact z
      rw [wipe_set m]
theorem wipe_idem {σ : St} : ∀ {own : List Nat}, wipe (wipe σ own) own = wipe σ own := fun {own} => by
  have : ∀ (ws : List Nat), (∀ w ∈ ws, w ∈ own) → wipe (wipe σ ws) own = wipe σ own := fun ws => by
    induction ws with
    | nil => intro _; rfl
    | cons w ws ih =>
      intro h
      show wipe ((wipe σ ws).set w none) own = _
      rw [wipe_set (h w (by simp)), ih fun z hz => h z (by simp [hz])]
  exact this own fun _ h => h
theorem sim_name {S : Sta} {K : PySem.W.Frag} {own : List Nat} {i : Nat} (hi : i ∈ own) : SimG S K own (gNm i) (gName i) := by
  refine ⟨fun {H G h h1 a a1 σ t v Q} rt rs e q => ?_⟩
  have e' : R.ok (a.set i (some t)) h = R.ok a1 h1 := e
  cases e'
  exact q rfl _ (wipe_set hi) (rs.set i rt)
theorem sims_nil {S : Sta} {K : PySem.W.Frag} {own : List Nat} : SimGs S K own gsNil gNil := by
  refine ⟨fun {H G h h1 a a1 σ t v Q} rt rs e q => ?_⟩
  cases rt with
  | nil =>
    have e' : R.ok a h = R.ok a1 h1 := e
    cases e'
    exact ⟨rfl, q rfl _ rfl rs⟩
  | cons _ _ =>
    have e' : (R.bad : R StT) = R.ok a1 h1 := e
    cases e'
theorem sims_cons {S : Sta} {K : PySem.W.Frag} {own : List Nat} {g : GT} {gs : List T → StT → Hm → R StT} {tg : TG} {tgs : TGs} (h1 : SimG S K own g tg) (h2 : SimGs S K own gs tgs) : SimGs S K own (gsCons g gs) (gCons tg tgs) := by
  refine ⟨fun {H G h h1' a a1 σ t v Q} rt rs e q => ?_⟩
  cases rt with
  | nil =>
    have e2 : (R.bad : R StT) = R.ok a1 h1' := e
    cases e2
  | cons r1 r2 =>
    obtain ⟨a2, h2', e1, e2⟩ := bind_ok (r := g _ a h) e
    refine ⟨_, _, rfl, h1.run r1 rs e1 fun eh σ2 w2 rs2 => ?_⟩
    subst eh
    exact h2.run r2 rs2 e2 fun eh σ3 w3 rs3 => q eh σ3 (w3.trans w2) rs3
theorem sim_tup {S : Sta} {K : PySem.W.Frag} {own : List Nat} {n : Nat} {gs : List T → StT → Hm → R StT} {tgs : TGs} (hK : S.K = K) (h2 : SimGs S K own gs tgs) : SimG S K own (gTp n gs) (gTup K n tgs) := by
  refine ⟨fun {H G h h1 a a1 σ t v Q} rt rs e q => ?_⟩
  unfold gTp at e
  cases rt with
  | tup hz hr =>
    dsimp only at e
    split at e
    · rename_i hl
      exact ⟨_, _, rfl, by rw [← hK]; exact hz.sq, by rw [← hr.length]; exact hl, h2.run hr rs e q⟩
    · cases e
  | _ => cases e

mutual
theorem RelT.gmono {S : Sta} {H : Hp} {G G' : Gh} (m : ∀ (l : Nat) (a : Addr), G.mu[l]? = some a → G'.mu[l]? = some a) (s : ∀ a, G.Z a → G'.Z a) : ∀ {t : T} {v : V}, RelT S H G t v → RelT S H G' t v
  | _, _, .non => .non
  | _, _, .bl b => .bl b
  | _, _, .int b => .int b
  | _, _, .str b => .str b
  | _, _, .tup h r => .tup (h.indep s) (r.gmono m s)
  | _, _, .lst h r => .lst (h.indep s) (r.gmono m s)
  | _, _, .ref h => .ref (m _ _ h)
  | _, _, .obj z h r => .obj (s _ z) h (r.gmono m s)
  | _, _, .fn k => .fn k
  | _, _, .emp z h => .emp (s _ z) h
  | _, _, .ty n => .ty n
  | _, _, .cl c => .cl c
  | _, _, .exo0 z h => .exo0 (s _ z) h
  | _, _, .exo z zd h hd r => .exo (s _ z) (s _ zd) h hd (r.gmono m s)
  | _, _, .exh0 a b c d => .exh0 a b c d
  | _, _, .exh a b c d zd hd r => .exh a b c d (s _ zd) hd (r.gmono m s)
  | _, _, .clo a b r => .clo a b (r.gmono m s)
  | _, _, .slc z h => .slc (s _ z) h
theorem RelTs.gmono {S : Sta} {H : Hp} {G G' : Gh} (m : ∀ (l : Nat) (a : Addr), G.mu[l]? = some a → G'.mu[l]? = some a) (s : ∀ a, G.Z a → G'.Z a) : ∀ {t : List T} {v : List V}, RelTs S H G t v → RelTs S H G' t v
  | _, _, .nil => .nil
  | _, _, .cons h r => .cons (h.gmono m s) (r.gmono m s)
theorem RelFs.gmono {S : Sta} {H : Hp} {G G' : Gh} (m : ∀ (l : Nat) (a : Addr), G.mu[l]? = some a → G'.mu[l]? = some a) (s : ∀ a, G.Z a → G'.Z a) : ∀ {t : List (Nat × T)} {v : List (Str × V)}, RelFs S H G t v → RelFs S H G' t v
  | _, _, .nil => .nil
  | _, _, .cons f h r => .cons f (h.gmono m s) (r.gmono m s)
theorem RelCs.gmono {S : Sta} {H : Hp} {G G' : Gh} (m : ∀ (l : Nat) (a : Addr), G.mu[l]? = some a → G'.mu[l]? = some a) (s : ∀ a, G.Z a → G'.Z a) : ∀ {σ : L2.St} {t : List (Nat × T)}, RelCs S H G σ t → RelCs S H G' σ t
  | _, _, .nil => .nil
  | _, _, .cons e h r => .cons e (h.gmono m s) (r.gmono m s)
end
/-! ### a list that is being made, outside of the ghost state -/
structure Off (H : Hp) (G : Gh) (D : Addr) : Prop where
  lst : ∃ xs, H D = some (.lst xs)
  mu : D ∉ G.mu
  Z : ¬ G.Z D
theorem Off.tr {H : Hp} {G : Gh} {D : Addr} (o : Off H G D) : H D ≠ none := by
  obtain ⟨xs, e⟩ := o.lst
  rw [e]; simp
theorem Off.step {H H' : Hp} {G G' : Gh} {D : Addr} (o : Off H G D) (s : Step H G H' G') : Off H' G' D ∧ H' D = H D := by
  obtain ⟨xs, e⟩ := o.lst
  have fr := s.frame D o.tr (fun ps z => by rw [e] at z; cases z) o.mu fun z => z
  refine ⟨⟨⟨xs, by rw [fr]; exact e⟩, fun m => ?_, fun z => ?_⟩, fr⟩
  · rcases s.fresh D m with m | m
    · exact o.mu m
    · exact o.tr m
  · rcases s.fz D z with z | z | z
    · exact o.Z z
    · exact o.mu z
    · exact o.tr z
theorem Off.put {H : Hp} {G : Gh} {D : Addr} (o : Off H G D) (us : List V) : StepX (· = D) H G (upd H D (.lst us)) G ∧ Off (upd H D (.lst us)) G D := by
  obtain ⟨xs, e0⟩ := o.lst
  refine ⟨⟨⟨[], by simp⟩, fun _ h => h, fun a z _ => upd_ne fun e => o.Z (e ▸ z), fun a h => ?_, fun a h _ n x => upd_ne x, fun a h => .inl h, fun a h => .inl h, fun c q e => by
    rw [upd_ne]
    · exact e
    · rintro rfl
      rw [e0] at e
      exact (noTab_lst _).2 _ _ (Option.some.inj e)⟩, ⟨us, upd_same⟩, o.mu, o.Z⟩
  by_cases e : a = D
  · subst e; rw [upd_same]; simp
  · rw [upd_ne e]; exact h
theorem RepH.put {S : Sta} {H : Hp} {G : Gh} {h : Hm} {D : Addr} (r : RepH S H G h) (o : Off H G D) (us : List V) : RepH S (upd H D (.lst us)) G h := by
  have st := (o.put us).1
  refine ⟨r.len, fun l c e => ?_, r.nd, fun a q => st.there a (r.there a q), fun p hp => tabS_upd (r.tabs p hp) o.lst.choose_spec (noTab_lst _)⟩
  obtain ⟨a, v, h1, h2, h3, h4, h5⟩ := r.cell l c e
  refine ⟨a, v, h1, ?_, h3.step st, h4, h5⟩
  rw [upd_ne]
  · exact h2
  · rintro rfl
    exact o.mu (List.mem_of_getElem? h1)
theorem RepH.fzOff {S : Sta} {H : Hp} {G : Gh} {h : Hm} {D : Addr} (r : RepH S H G h) (o : Off H G D) : RepH S H (G.fz D) h := by
  refine ⟨r.len, fun l c e => ?_, r.nd, fun a q => ?_, r.tabs⟩
  · obtain ⟨a, v, h1, h2, h3, h4, h5⟩ := r.cell l c e
    refine ⟨a, v, h1, h2, ?_, fun z => ?_, h5⟩
    · cases h3 with
      | lst rs => exact .lst (rs.indep (G := G) (G' := G.fz D) (fun _ z => .inr z) h5)
      | ins rs => exact .ins (rs.indep (G := G) (G' := G.fz D) (fun _ z => .inr z) h5)
      | exn0 => exact .exn0
      | exn z e2 rs => exact .exn (.inr z) e2 (rs.indep (G := G) (G' := G.fz D) (fun _ z => .inr z) h5)
      | dct rs => exact .dct (rs.indep (G := G) (G' := G.fz D) (fun _ z => .inr z) h5)
    · rcases z with z | z
      · subst z; exact o.mu (List.mem_of_getElem? h1)
      · exact h4 z
  · rcases q with q | q | q
    · exact r.there a (.inl q)
    · subst q; exact o.tr
    · exact r.there a (.inr q)
/-- back in the whole -/
theorem off_back {H1 H : Hp} {G1 G : Gh} {D : Addr} {u : HO} (hD : H1 D = none) (h1 : ∀ a, G1.Z a → H1 a ≠ none) (s : StepX (· = D) (upd H1 D u) G1 H G) : Step H1 G1 H G := by
  have ne : ∀ a, H1 a ≠ none → a ≠ D := fun a h e => h (e ▸ hD)
  have up : ∀ a, upd H1 D u a = none → H1 a = none := fun a h => by
    by_cases e : a = D
    · subst e; exact hD
    · rw [upd_ne e] at h; exact h
  refine ⟨s.mu, s.Z, fun a z nt => (s.keep a z (fun ps => by rw [upd_ne (ne a (h1 a z))]; exact nt ps)).trans (upd_ne (ne a (h1 a z))), fun a h => s.there a (by rw [upd_ne (ne a h)]; exact h), fun a h nt n _ => (s.frame a (by rw [upd_ne (ne a h)]; exact h) (fun ps => by rw [upd_ne (ne a h)]; exact nt ps) n (ne a h)).trans (upd_ne (ne a h)), fun a h => ?_, fun a h => ?_, fun c q e => s.codes c q (by rw [upd_ne (ne_of_none e hD)]; exact e)⟩
  · rcases s.fresh a h with z | z
    · exact .inl z
    · exact .inr (up a z)
  · rcases s.fz a h with z | z | z
    · exact .inl z
    · exact .inr (.inl z)
    · exact .inr (.inr (up a z))
theorem fz_step {H1 H : Hp} {G1 G : Gh} {D : Addr} (hD : H1 D = none) (s : Step H1 G1 H G) : Step H1 G1 H (G.fz D) :=
  ⟨s.mu, fun a z => .inr (s.Z a z), s.keep, s.there, s.frame, s.fresh, fun a z => by
    rcases z with z | z
    · subst z; exact .inr (.inr hD)
    · exact s.fz a z, s.codes⟩
theorem ad_step {H1 H : Hp} {G1 G : Gh} {D : Addr} (hD : H1 D = none) (s : Step H1 G1 H G) : Step H1 G1 H (G.ad D) := by
  obtain ⟨⟨m, e⟩, z, k, t, f, r, q, tb⟩ := s
  refine ⟨⟨m ++ [D], by show G.mu ++ [D] = _; rw [e, List.append_assoc]⟩, z, k, t, f, fun a h => ?_, q, tb⟩
  rcases List.mem_append.mp (show a ∈ G.mu ++ [D] from h) with h | h
  · exact r a h
  · simp at h; subst h; exact .inr hD
theorem RepH.adOff {S : Sta} {H : Hp} {G : Gh} {h : Hm} {D : Addr} {vs : List V} {ts : List T} (r : RepH S H G h) (o : Off H G D) (e : H D = some (.lst vs)) (rt : RelTs S H G ts vs) (hn : T.noRefs ts = true) : RepH S H (G.ad D) (h ++ [some (.lst ts)]) := by
  have st : ∀ {a t v}, CellAt S H G a t v → t.noRef = true → CellAt S H (G.ad D) a t v := fun q n => CellAt.indep (G := G) (G' := G.ad D) (fun _ z => z) q n
  refine ⟨by simp [Gh.ad, r.len], fun l c e' => ?_, ?_, fun a q => ?_, r.tabs⟩
  · by_cases hl : l < h.length
    · rw [List.getElem?_append_left hl] at e'
      obtain ⟨a, u, h1, h2, h3, h4, h5⟩ := r.cell l c e'
      refine ⟨a, u, ?_, h2, st h3 h5, h4, h5⟩
      show (G.mu ++ [D])[l]? = some a
      rw [List.getElem?_append_left (List.getElem?_eq_some_iff.mp h1).1]
      exact h1
    · have el : l = h.length := by
        have := (List.getElem?_eq_some_iff.mp e').1
        simp at this; omega
      subst el
      rw [List.getElem?_append_right (Nat.le_refl _)] at e'
      simp at e'
      subst e'
      refine ⟨D, _, ?_, e, st (.lst rt) hn, o.Z, hn⟩
      show (G.mu ++ [D])[h.length]? = some D
      rw [r.len, List.getElem?_append_right (Nat.le_refl _)]
      simp
  · show (G.mu ++ [D]).Nodup
    rw [List.nodup_append]
    exact ⟨r.nd, by simp, fun a ha b hb => by simp at hb; subst hb; exact fun e => o.mu (e ▸ ha)⟩
  · have q' : a ∈ G.mu ++ [D] ∨ G.Z a := q
    rcases q' with q' | q'
    · rcases List.mem_append.mp q' with q' | q'
      · exact r.there a (.inl q')
      · simp at q'; subst q'; exact o.tr
    · exact r.there a (.inr q')

/-! ### [elt for target in iter if test] -/
def wipeT (a : StT) : List Nat → StT
  | [] => a
  | v :: vs => (wipeT a vs).set v none
theorem RelSt.wipe {S : Sta} {H : Hp} {G : Gh} {a : StT} {σ : St} (r : RelSt S H G a σ) : ∀ own : List Nat, RelSt S H G (wipeT a own) (L2.wipe σ own)
  | [] => r
  | v :: vs => RelSt.unset (RelSt.wipe r vs) v none
def lcL (g : GT) (tt : BT) (te : ET) (w : StT) : List T → Hm → R (List T)
  | [], h => .ok [] h
  | t :: ts, h => match g t w h with
    | .ok a1 h1 => (match tt a1 h1 with
      | .ok true h2 => (match te a1 h2 with
        | .ok y h3 => (match lcL g tt te w ts h3 with
          | .ok ys h4 => .ok (y :: ys) h4
          | _ => .bad)
        | _ => .bad)
      | .ok false h2 => lcL g tt te w ts h2
      | _ => .bad)
    | _ => .bad
theorem lcL_exc {g : GT} {tt : BT} {te : ET} {w : StT} : ∀ {ts : List T} {h : Hm} {e : T} {h' : Hm}, lcL g tt te w ts h = .exc e h' → False
  | [], h, e, h', q => by rw [lcL] at q; cases q
  | t :: ts, h, e, h', q => by
    rw [lcL] at q
    split at q
    · split at q
      · split at q
        · split at q
          · cases q
          · cases q
        · cases q
      · exact lcL_exc q
      · cases q
    · cases q
def eLc (own : List Nat) (ri : AT) (g : GT) (tt : BT) (te : ET) : ET := fun a h => (ri a h).bind fun ts h1 => if ts.length ≤ sizeLine then (lcL g tt te (wipeT a own) ts h1).bind fun ys h2 => .ok (.lst ys) h2 else .bad
def eLcM (own : List Nat) (ri : AT) (g : GT) (tt : BT) (te : ET) : ET := fun a h => (ri a h).bind fun ts h1 => if ts.length ≤ sizeLine then (lcL g tt te (wipeT a own) ts h1).bind fun ys h2 => if T.noRefs ys then .ok (.ref h2.length) (h2 ++ [some (.lst ys)]) else .bad else .bad
/-- the context inside of a block -/
abbrev blkR (C : RC) (s : Shared) (H : Hp) (scope : Scope) (Ce : Addr) (cl : List (Str × Addr)) (fp : List Addr) : RC := ⟨C.X.blk s H scope (compEnvC scope cl Ce C.X.env) fp, C.S, fun _ _ _ _ => False, C.k⟩
theorem RC.Ok.blk {C : RC} (ok : C.Ok) (hc : C.S.mo = none) {s : Shared} {H : Hp} {scope : Scope} {Ce : Addr} {cl : List (Str × Addr)} {fp : List Addr} : (blkR C s H scope Ce cl fp).Ok :=
  ⟨ok.K, ok.calm, ok.room, (fun p e => by rw [show C.S.mo = none from hc] at e; cases e), ok.gd, ok.nd, fun u s' z => by
    obtain ⟨_, _, _, _, _, _, _, _, _, _, _, _, _, _, _, _, w⟩ := z
    exact w⟩
def bYes : BT := fun _ h => .ok true h
def JTs (C : RC) (ifs : List Expr) (r : BT) : Prop := PTs C.X ifs (liB C r)
section
variable {C : RC} {pos : Pos}
theorem jts_nil : JTs C [] bYes := ⟨fun pins s σ H Q I hw => by
  obtain ⟨a, G, h, rp, rs, o⟩ := hw
  exact pts_nil.run pins s σ H Q I (o true H G Step.refl rp rfl)⟩
theorem jts_one {c : Expr} {r : BT} (j : JB C c r) : JTs C [c] r := pts_one j
theorem lc_lift {own : List Nat} {ri : AT} {g : GT} {tgv : TG} {tt : BT} {te : ET} {a : StT} {σ : St} {H0 : Hp} {G0 : Gh} {h0 : Hm} {Q : VK} {Cb : RC} (hS : Cb.S = C.S) (hW : Cb.W = fun _ _ _ _ => False) (sim : SimG C.S C.X.K own g tgv) (rp0 : RepH C.S H0 G0 h0) (rs0 : RelSt C.S H0 G0 a σ)
    (fin : List T → Hm → Prop)
    (hfin : ∀ ts h1, ri a h0 = .ok ts h1 → ts.length ≤ sizeLine ∧ ∃ ys h2, lcL g tt te (wipeT a own) ts h1 = .ok ys h2 ∧ fin ys h2)
    (hq : ∀ (D : Addr) (H1 H : Hp) (G1 G : Gh) (ys : List T) (vs : List V) (h2 : Hm), Step H0 G0 H1 G1 → H1 D = none → Step H1 G1 H G → Off H G D → H D = some (.lst vs) → RelTs C.S H G ys vs → RepH C.S H G h2 → fin ys h2 → Q (.ref D) H)
    (hx : ∀ e h1, ri a h0 = .exc e h1 → OutI C σ H0 G0 (.exc e h1) (fun _ _ => True)) (hb : ri a h0 ≠ .bad) :
    tLc (liI C ri) tgv (liB Cb tt) (liE Cb te) own σ H0 Q := by
  refine ⟨a, G0, h0, rp0, rs0, ?_⟩
  cases q : ri a h0 with
  | bad => exact absurd q hb
  | exc e h1 => exact hx e h1 q
  | ok ts h1 =>
    obtain ⟨hsz, all, hE, eall, hf⟩ := hfin ts h1 q
    refine fun J H1 G1 st01 rp1 yl D hD => ?_
    have rs1 := rs0.step st01
    have th1 : ∀ a, G1.Z a → H1 a ≠ none := fun b z => rp1.there b (.inr z)
    have g1 := grown_upd (o := .lst []) hD
    have stD := g1.step th1
    have offD : Off (upd H1 D (.lst [])) G1 D := ⟨⟨[], upd_same⟩, fun m => (rp1.there D (.inl m)) hD, fun z => (rp1.there D (.inr z)) hD⟩
    refine ⟨fun i m H => m = ts.length - i ∧ i ≤ ts.length ∧ ∃ acc vs G h' ys, H D = some (.lst vs) ∧ RelTs C.S H G acc vs ∧ acc.length ≤ i ∧ RepH C.S H G h' ∧ StepX (· = D) (upd H1 D (.lst [])) G1 H G ∧ Off H G D ∧ lcL g tt te (wipeT a own) (ts.drop i) h' = .ok ys hE ∧ all = acc ++ ys,
      ⟨ts.length, by simp, Nat.zero_le _, [], [], G1, h1, all, upd_same, .nil, Nat.zero_le _, rp1.grown g1, StepX.refl, offD, by simpa using eall, rfl⟩, ?_⟩
    rintro i m H ⟨rfl, hi, acc, vs, G, h', ys, eD, racc, hlen, rp, stx, off, el, eall'⟩
    have st1X : StepX (· = D) H1 G1 H G := (stD.wide fun _ z => z.elim).trans stx
    have yy := yl _ H G st1X (fun b z => rp.there b (.inr z)) i
    have rsH := (rs1.step st1X : RelSt C.S H G a σ).wipe own
    by_cases hlt : i < ts.length
    · rw [List.drop_eq_getElem_cons hlt] at el
      obtain ⟨go, yld⟩ := yy.2 ts[i] (List.getElem?_eq_getElem hlt)
      rw [lcL] at el
      cases qg : g ts[i] (wipeT a own) h' with
      | exc e z => rw [qg] at el; cases el
      | bad => rw [qg] at el; cases el
      | ok a1 ha =>
        rw [qg] at el
        dsimp only at el
        refine .inr ⟨go, fun H' => ∃ acc vs G h' ys, H' D = some (.lst vs) ∧ RelTs C.S H' G acc vs ∧ acc.length ≤ i + 1 ∧ RepH C.S H' G h' ∧ StepX (· = D) (upd H1 D (.lst [])) G1 H' G ∧ Off H' G D ∧ lcL g tt te (wipeT a own) (ts.drop (i + 1)) h' = .ok ys hE ∧ all = acc ++ ys, fun H' z => ⟨ts.length - (i + 1), by omega, rfl, hlt, z⟩, fun x H3 hy => ?_⟩
        obtain ⟨G3, st3, rep, rt⟩ := yld x H3 hy
        obtain ⟨off3, eD3⟩ := off.step st3
        refine sim.run rt (rsH.step st3) qg fun eh σ2 w2 rs2 => ?_
        subst eh
        refine ⟨w2.trans wipe_idem, ?_⟩
        have rp3 := rep ha rp
        refine ⟨a1, G3, ha, by rw [hS]; exact rp3, by rw [hS]; exact rs2, ?_⟩
        cases qt : tt a1 ha with
        | exc e z => rw [qt] at el; cases el
        | bad => rw [qt] at el; cases el
        | ok b h4 =>
          rw [qt] at el
          intro b' H4 G4 st4 rp4 eb
          have eb' : b = b' := eb
          subst eb'
          rw [hS] at rp4
          obtain ⟨off4, eD4⟩ := off3.step st4
          have st34 := (st3.wide (Y := (· = D)) fun _ z => z.elim).trans (st4.wide (Y := (· = D)) fun _ z => z.elim)
          cases b with
          | false =>
            rw [if_neg (by simp)]
            exact ⟨acc, vs, G4, h4, ys, (eD4.trans eD3).trans eD, racc.step st34, by omega, rp4, stx.trans st34, off4, el, eall'⟩
          | true =>
            rw [if_pos rfl]
            dsimp only at el
            refine ⟨a1, G4, h4, by rw [hS]; exact rp4, by rw [hS]; exact rs2.step st4, ?_⟩
            cases qe : te a1 h4 with
            | exc e z => rw [qe] at el; cases el
            | bad => rw [qe] at el; cases el
            | ok y h5 =>
              rw [qe] at el
              intro vy H5 G5 st5 rp5 ry
              rw [hS] at rp5
              have ry : RelT Cb.S H5 G5 y vy := ry
              rw [hS] at ry
              obtain ⟨off5, eD5⟩ := off4.step st5
              have e5 := ((eD5.trans eD4).trans eD3).trans eD
              have st35 := st34.trans (st5.wide (Y := (· = D)) fun _ z => z.elim)
              have rac5 := racc.step st35
              have lv : vs.length = acc.length := rac5.length.symm
              refine ⟨vs, e5, by omega, ?_⟩
              dsimp only at el
              cases ql : lcL g tt te (wipeT a own) (ts.drop (i + 1)) h5 with
              | exc e z => rw [ql] at el; cases el
              | bad => rw [ql] at el; cases el
              | ok zs h6 =>
                rw [ql] at el
                cases el
                obtain ⟨stp, offp⟩ := off5.put (vs ++ [vy])
                refine ⟨acc ++ [y], vs ++ [vy], G5, h5, zs, upd_same, (rac5.step stp).app (.cons (ry.step stp) .nil), by simp; omega, rp5.put off5 _, (stx.trans st35).trans stp, offp, ql, ?_⟩
                rw [eall']
                simp
    · have e : ts.drop i = [] := List.drop_eq_nil_of_le (by omega)
      rw [e, lcL] at el
      cases el
      refine .inl ⟨yy.1 (by omega), ?_⟩
      rw [List.append_nil] at eall'
      subst eall'
      exact hq D H1 H G1 G all vs hE st01 hD (off_back hD th1 stx) off eD racc rp hf
/-- what the expression's own reading gives -/
theorem lc_out {own : List Nat} {ri : AT} {g : GT} {tt : BT} {te : ET} {a : StT} {σ : St} {H0 : Hp} {G0 : Gh} {h0 : Hm} {Q : VK} (o : Out C σ H0 G0 (relE C) (eLc own ri g tt te a h0) Q) :
    (∀ ts h1, ri a h0 = .ok ts h1 → ts.length ≤ sizeLine ∧ ∃ ys h2, lcL g tt te (wipeT a own) ts h1 = .ok ys h2 ∧ Out C σ H0 G0 (relE C) (.ok (.lst ys) h2) Q) ∧ (∀ e h1, ri a h0 = .exc e h1 → OutI C σ H0 G0 (.exc e h1) (fun _ _ => True)) ∧ ri a h0 ≠ .bad := by
  unfold eLc at o
  refine ⟨fun ts h1 e => ?_, fun e h1 q => ?_, fun q => ?_⟩
  · rw [e] at o
    have o : Out C σ H0 G0 (relE C) (if ts.length ≤ sizeLine then (lcL g tt te (wipeT a own) ts h1).bind fun ys h2 => .ok (.lst ys) h2 else .bad) Q := o
    split at o
    · rename_i hl
      refine ⟨hl, ?_⟩
      cases q : lcL g tt te (wipeT a own) ts h1 with
      | ok ys h2 => rw [q] at o; exact ⟨ys, h2, rfl, o⟩
      | exc e z => exact (lcL_exc q).elim
      | bad => rw [q] at o; exact False.elim o
    · exact False.elim o
  · rw [q] at o; exact o
  · rw [q] at o; exact o
theorem lc_outM {own : List Nat} {ri : AT} {g : GT} {tt : BT} {te : ET} {a : StT} {σ : St} {H0 : Hp} {G0 : Gh} {h0 : Hm} {Q : VK} (o : Out C σ H0 G0 (relE C) (eLcM own ri g tt te a h0) Q) :
    (∀ ts h1, ri a h0 = .ok ts h1 → ts.length ≤ sizeLine ∧ ∃ ys h2, lcL g tt te (wipeT a own) ts h1 = .ok ys h2 ∧ T.noRefs ys = true ∧ Out C σ H0 G0 (relE C) (.ok (.ref h2.length) (h2 ++ [some (.lst ys)])) Q) ∧ (∀ e h1, ri a h0 = .exc e h1 → OutI C σ H0 G0 (.exc e h1) (fun _ _ => True)) ∧ ri a h0 ≠ .bad := by
  unfold eLcM at o
  refine ⟨fun ts h1 e => ?_, fun e h1 q => ?_, fun q => ?_⟩
  · rw [e] at o
    have o : Out C σ H0 G0 (relE C) (if ts.length ≤ sizeLine then (lcL g tt te (wipeT a own) ts h1).bind fun ys h2 => if T.noRefs ys then .ok (.ref h2.length) (h2 ++ [some (.lst ys)]) else .bad else .bad) Q := o
    split at o
    · rename_i hl
      refine ⟨hl, ?_⟩
      cases q : lcL g tt te (wipeT a own) ts h1 with
      | ok ys h2 =>
        rw [q] at o
        have o : Out C σ H0 G0 (relE C) (if T.noRefs ys then .ok (.ref h2.length) (h2 ++ [some (.lst ys)]) else .bad) Q := o
        split at o
        · rename_i hn; exact ⟨ys, h2, rfl, hn, o⟩
        · exact False.elim o
      | exc e z => exact (lcL_exc q).elim
      | bad => rw [q] at o; exact False.elim o
    · exact False.elim o
  · rw [q] at o; exact o
  · rw [q] at o; exact o
theorem fin_lst {σ : St} {H0 H1 H : Hp} {G0 G1 G : Gh} {D : Addr} {ys : List T} {vs : List V} {h2 : Hm} {Q : VK} (st : Step H0 G0 H1 G1) (hD : H1 D = none) (st2 : Step H1 G1 H G) (off : Off H G D) (e : H D = some (.lst vs)) (rt : RelTs C.S H G ys vs) (rp : RepH C.S H G h2) (o : Out C σ H0 G0 (relE C) (.ok (.lst ys) h2) Q) : Q (.ref D) H := by
  have s3 := fz_step hD st2
  exact o (.ref D) H (G.fz D) (st.trans s3) (rp.fzOff off) (.lst (.inl ⟨.inl rfl, .inl e⟩) (RelTs.gmono (G := G) (G' := G.fz D) (fun _ _ z => z) (fun _ z => Or.inr z) rt))
theorem fin_lstM {σ : St} {H0 H1 H : Hp} {G0 G1 G : Gh} {D : Addr} {ys : List T} {vs : List V} {h2 : Hm} {Q : VK} (st : Step H0 G0 H1 G1) (hD : H1 D = none) (st2 : Step H1 G1 H G) (off : Off H G D) (e : H D = some (.lst vs)) (rt : RelTs C.S H G ys vs) (rp : RepH C.S H G h2) (hn : T.noRefs ys = true) (o : Out C σ H0 G0 (relE C) (.ok (.ref h2.length) (h2 ++ [some (.lst ys)])) Q) : Q (.ref D) H := by
  have s3 := ad_step hD st2
  refine o (.ref D) H (G.ad D) (st.trans s3) (rp.adOff off e rt hn) (.ref ?_)
  show (G.mu ++ [D])[h2.length]? = some D
  rw [rp.len, List.getElem?_append_right (Nat.le_refl _)]
  simp
section
variable {elt tg iter : Expr} {ifs : List Expr} {scope : Scope} {own : List (Str × Nat)} {ri : AT} {g : GT} {tgv : TG} {tt : BT} {te : ET}
theorem je_lc (ok : C.Ok) (hc : C.S.mo = none) (ji : JI C tg iter ri) (bk : BlkOk C.X.N C.X.env.scope scope own) (sim : SimG C.S C.X.K (own.map (·.2)) g tgv)
    (hg : ∀ (s : Shared) (H : Hp) (Ce : Addr) (cl : List (Str × Addr)) (fp : List Addr), PG (blkR C s H scope Ce cl fp).X tg tgv) (ht : ∀ (s : Shared) (H : Hp) (Ce : Addr) (cl : List (Str × Addr)) (fp : List Addr), JTs (blkR C s H scope Ce cl fp) ifs tt)
    (he : ∀ (s : Shared) (H : Hp) (Ce : Addr) (cl : List (Str × Addr)) (fp : List Addr), JE (blkR C s H scope Ce cl fp) elt te) (hs : ∀ x, foldedSetIterable iter C.X.env x = pure x := by intro _; rfl) :
    JE C (.ListComp elt [⟨tg, iter, ifs, 0⟩] scope pos) (eLc (own.map (·.2)) ri g tt te) := by
  refine ⟨fun pins s σ H Q I hw => ?_⟩
  obtain ⟨a, G, h, rp, rs, o⟩ := hw
  let Cb : RC := ⟨C.X, C.S, fun _ _ _ _ => False, C.k⟩
  obtain ⟨o1, o2, o3⟩ := lc_out o
  exact (pe_lc (wi := liI C ri) (g := tgv) (tt := liB Cb tt) (te := liE Cb te) (ok.calm hc) ok.nd ji bk hg ht he hs).run pins s σ H Q I
    (lc_lift (Cb := Cb) rfl rfl sim rp rs (fun ys h2 => Out C σ H G (relE C) (.ok (.lst ys) h2) Q) o1 (fun D H1 H2 G1 G2 ys vs h2 st hD st2 off e rt rp2 ho => fin_lst st hD st2 off e rt rp2 ho) o2 o3)
theorem je_lcM (ok : C.Ok) (hc : C.S.mo = none) (ji : JI C tg iter ri) (bk : BlkOk C.X.N C.X.env.scope scope own) (sim : SimG C.S C.X.K (own.map (·.2)) g tgv)
    (hg : ∀ (s : Shared) (H : Hp) (Ce : Addr) (cl : List (Str × Addr)) (fp : List Addr), PG (blkR C s H scope Ce cl fp).X tg tgv) (ht : ∀ (s : Shared) (H : Hp) (Ce : Addr) (cl : List (Str × Addr)) (fp : List Addr), JTs (blkR C s H scope Ce cl fp) ifs tt)
    (he : ∀ (s : Shared) (H : Hp) (Ce : Addr) (cl : List (Str × Addr)) (fp : List Addr), JE (blkR C s H scope Ce cl fp) elt te) (hs : ∀ x, foldedSetIterable iter C.X.env x = pure x := by intro _; rfl) :
    JE C (.ListComp elt [⟨tg, iter, ifs, 0⟩] scope pos) (eLcM (own.map (·.2)) ri g tt te) := by
  refine ⟨fun pins s σ H Q I hw => ?_⟩
  obtain ⟨a, G, h, rp, rs, o⟩ := hw
  let Cb : RC := ⟨C.X, C.S, fun _ _ _ _ => False, C.k⟩
  obtain ⟨o1, o2, o3⟩ := lc_outM o
  exact (pe_lc (wi := liI C ri) (g := tgv) (tt := liB Cb tt) (te := liE Cb te) (ok.calm hc) ok.nd ji bk hg ht he hs).run pins s σ H Q I
    (lc_lift (Cb := Cb) rfl rfl sim rp rs (fun ys h2 => T.noRefs ys = true ∧ Out C σ H G (relE C) (.ok (.ref h2.length) (h2 ++ [some (.lst ys)])) Q) o1 (fun D H1 H2 G1 G2 ys vs h2 st hD st2 off e rt rp2 ho => fin_lstM st hD st2 off e rt rp2 ho.1 ho.2) o2 o3)
/-- name = [..] on one line -/
theorem js_setLc (ok : C.Ok) (hc : C.S.mo = none) {i : Nat} {y : Str} {py spos : Pos} (hy : C.X.N[i]? = some y) (hyl : C.X.env.scope.names.lookup y = some .local)
    (hsw : swapsWith (.ListComp elt [⟨tg, iter, ifs, 0⟩] scope pos) (some (.Name y py)) spos.line C.X.env = pure true) (ji : JI C tg iter ri) (bk : BlkOk C.X.N C.X.env.scope scope own) (sim : SimG C.S C.X.K (own.map (·.2)) g tgv)
    (hg : ∀ (s : Shared) (H : Hp) (Ce : Addr) (cl : List (Str × Addr)) (fp : List Addr), PG (blkR C s H scope Ce cl fp).X tg tgv) (ht : ∀ (s : Shared) (H : Hp) (Ce : Addr) (cl : List (Str × Addr)) (fp : List Addr), JTs (blkR C s H scope Ce cl fp) ifs tt)
    (he : ∀ (s : Shared) (H : Hp) (Ce : Addr) (cl : List (Str × Addr)) (fp : List Addr), JE (blkR C s H scope Ce cl fp) elt te) (hs : ∀ x, foldedSetIterable iter C.X.env x = pure x := by intro _; rfl) :
    JS C (.Assign [.Name y py] (.ListComp elt [⟨tg, iter, ifs, 0⟩] scope pos) spos) (sSet i (eLc (own.map (·.2)) ri g tt te)) := by
  refine ⟨fun pins s σ H D I hw => ?_⟩
  obtain ⟨a, G, h, rp, rs, o⟩ := hw
  let Cb : RC := ⟨C.X, C.S, fun _ _ _ _ => False, C.k⟩
  obtain ⟨o1, o2, o3⟩ := lc_out (OutS.bind (Rel := relE C) (σ := σ) rs o)
  refine (ps_setLc (wi := liI C ri) (g := tgv) (tt := liB Cb tt) (te := liE Cb te) (ok.calm hc) ok.nd hy hyl hsw ji bk hg ht he hs).run pins s σ H D I ?_
  refine lc_lift (Cb := Cb) rfl rfl sim rp rs _ o1 (fun L H1 H2 G1 G2 ys vs h2 st hD st2 off e rt rp2 ho => ?_) o2 o3
  obtain ⟨t, G3, h3, st3, rp3, rt3, o4⟩ := fin_lst (C := C) (σ := σ) st hD st2 off e rt rp2 ho
  exact o4 _ H2 G3 Step.refl rp3 ((rs.step st3).set i rt3)
theorem js_setLcM (ok : C.Ok) (hc : C.S.mo = none) {i : Nat} {y : Str} {py spos : Pos} (hy : C.X.N[i]? = some y) (hyl : C.X.env.scope.names.lookup y = some .local)
    (hsw : swapsWith (.ListComp elt [⟨tg, iter, ifs, 0⟩] scope pos) (some (.Name y py)) spos.line C.X.env = pure true) (ji : JI C tg iter ri) (bk : BlkOk C.X.N C.X.env.scope scope own) (sim : SimG C.S C.X.K (own.map (·.2)) g tgv)
    (hg : ∀ (s : Shared) (H : Hp) (Ce : Addr) (cl : List (Str × Addr)) (fp : List Addr), PG (blkR C s H scope Ce cl fp).X tg tgv) (ht : ∀ (s : Shared) (H : Hp) (Ce : Addr) (cl : List (Str × Addr)) (fp : List Addr), JTs (blkR C s H scope Ce cl fp) ifs tt)
    (he : ∀ (s : Shared) (H : Hp) (Ce : Addr) (cl : List (Str × Addr)) (fp : List Addr), JE (blkR C s H scope Ce cl fp) elt te) (hs : ∀ x, foldedSetIterable iter C.X.env x = pure x := by intro _; rfl) :
    JS C (.Assign [.Name y py] (.ListComp elt [⟨tg, iter, ifs, 0⟩] scope pos) spos) (sSet i (eLcM (own.map (·.2)) ri g tt te)) := by
  refine ⟨fun pins s σ H D I hw => ?_⟩
  obtain ⟨a, G, h, rp, rs, o⟩ := hw
  let Cb : RC := ⟨C.X, C.S, fun _ _ _ _ => False, C.k⟩
  obtain ⟨o1, o2, o3⟩ := lc_outM (OutS.bind (Rel := relE C) (σ := σ) rs o)
  refine (ps_setLc (wi := liI C ri) (g := tgv) (tt := liB Cb tt) (te := liE Cb te) (ok.calm hc) ok.nd hy hyl hsw ji bk hg ht he hs).run pins s σ H D I ?_
  refine lc_lift (Cb := Cb) rfl rfl sim rp rs _ o1 (fun L H1 H2 G1 G2 ys vs h2 st hD st2 off e rt rp2 ho => ?_) o2 o3
  obtain ⟨t, G3, h3, st3, rp3, rt3, o4⟩ := fin_lstM (C := C) (σ := σ) st hD st2 off e rt rp2 ho.1 ho.2
  exact o4 _ H2 G3 Step.refl rp3 ((rs.step st3).set i rt3)
end
end
end RT
set_option Elab.async false
set_option linter.all false
set_option maxRecDepth 100000
set_option maxHeartbeats 4000000
/-! RT, part l: lists changed, slices, all, any. -/
namespace RT
open PySem PySem.Spec L2
open PyProof.Rows hiding St

section
variable {C : RC} {pos : Pos}
/-! ### xs[i] = t -/
def gSubT (ro ri : ET) : GT := fun t a h => match ro a h with
  | .ok (.ref l) h1 => (match ri a h1 with
    | .ok (.int i) h2 => (match h2[l]? with
      | some (some (.lst xs)) => (match ixN xs.length i with
        | some j => if t.noRef then .ok a (h2.set l (some (.lst (xs.set j t)))) else .bad
        | none => .bad)
      | _ => .bad)
    | _ => .bad)
  | _ => .bad
theorem jg_sub {o i : Expr} {ro ri : ET} (jo : JE C o ro) (ji : JE C i ri) (ha : ∀ v, assign (.Subscript o i pos) C.X.env v = (do
      let ov ← holding [v] (eval o C.X.env)
      let iv ← holding [v, ov] (eval i C.X.env)
      standAt pos
      holding [v, ov, iv] (setItem ov iv v)
      release [v, ov, iv] []) := by intro _; rfl) : JG C (.Subscript o i pos) (gSubT ro ri) := by
  refine ⟨fun pins s σ H v u Q I r hw => ?_⟩
  obtain ⟨t, a, G, h, rp, rs, rt, a', h', e, q⟩ := hw
  refine (pg_sub (to := liE C ro) (ti := liE C ri) jo ji set_list ha).run pins s σ H v u Q I r ?_
  unfold gSubT at e
  split at e
  · rename_i l h1 e1
    split at e
    · rename_i k h2 e2
      split at e
      · rename_i xs e3
        split at e
        · rename_i j e4
          split at e
          · rename_i hn
            cases e
            refine ⟨a, G, h, rp, rs, ?_⟩
            rw [e1]
            intro vo H1 G1 st1 rp1 ro'
            refine ⟨a, G1, h1, rp1, rs.step st1, ?_⟩
            rw [e2]
            intro vi H2 G2 st2 rp2 ri'
            cases ri'
            cases ro' with
            | ref hl =>
              have hl2 := st2.get hl
              obtain ⟨p, ob, q1, q2, q3, _, hnr⟩ := rp2.cell l _ e3
              rw [hl2] at q1; cases q1
              cases q3 with
              | lst rxs =>
                refine ⟨_, _, k, j, rfl, rfl, q2, by rw [← rxs.length]; exact e4, ?_⟩
                obtain ⟨st3, rp3⟩ := rp2.set hl2 e3 (.lst (rxs.set (rt.step (st1.trans st2)) j)) (noRefs_set hn hnr)
                exact q σ _ _ ((st1.trans st2).trans st3) rp3 (rs.step ((st1.trans st2).trans st3))
          · cases e
        · cases e
      · cases e
    · cases e
  · cases e

/-! ### slices -/
abbrev OT := StT → Hm → R (Option Int)
def JO (C : RC) (e : Option Expr) (r : OT) : Prop := PO C.X e (fun σ H Q => ∃ a G h, RepH C.S H G h ∧ RelSt C.S H G a σ ∧ Out C σ H G (fun _ _ a b => a = b) (r a h) Q)
def oNone : OT := fun _ h => .ok none h
def oSome (r : ET) : OT := fun a h => (r a h).bind fun t h1 => match t with
  | .int i => .ok (some i) h1
  | _ => .bad
theorem jo_none : JO C none oNone := by
  refine ⟨fun pins s σ H Q I hw => ?_⟩
  obtain ⟨a, G, h, rp, rs, o⟩ := hw
  exact po_none.run pins s σ H Q I (o none H G Step.refl rp rfl)
theorem jo_some {e : Expr} {r : ET} (j : JE C e r) : JO C (some e) (oSome r) := by
  refine ⟨fun pins s σ H Q I hw => ?_⟩
  obtain ⟨a, G, h, rp, rs, o⟩ := hw
  refine (po_some (te := liE C r) j).run pins s σ H Q I ⟨a, G, h, rp, rs, (Out.bind (Rel := relE C) o).mono fun v H1 ⟨t, G1, h1, st1, rp1, rv, o1⟩ => ?_⟩
  dsimp only at o1
  split at o1
  · rename_i i
    cases rv
    exact ⟨i, rfl, o1 _ H1 G1 Step.refl rp1 rfl⟩
  · exact False.elim o1
def cutT (xs : List T) (lo hi : Option Int) : List T := (xs.drop (HT.sIx xs.length 0 lo)).take (HT.sIx xs.length xs.length hi - HT.sIx xs.length 0 lo)
theorem RelTs.cut {S : Sta} {H : Hp} {G : Gh} {ts : List T} {vs : List V} (r : RelTs S H G ts vs) (lo hi : Option Int) : RelTs S H G (cutT ts lo hi) (cutV vs lo hi) := by
  unfold cutT cutV
  rw [r.length]
  exact (r.drop _).take _
theorem noRefs_drop : ∀ {xs : List T} (n : Nat), T.noRefs xs = true → T.noRefs (xs.drop n) = true
  | _, 0, h => h
  | [], _ + 1, h => h
  | x :: r, n + 1, h => by rw [T.noRefs] at h; exact noRefs_drop n (band h).2
theorem noRefs_take : ∀ {xs : List T} (n : Nat), T.noRefs xs = true → T.noRefs (xs.take n) = true
  | _, 0, h => by simp [T.noRefs]
  | [], _ + 1, h => h
  | x :: r, n + 1, h => by rw [T.noRefs] at h; show T.noRefs (x :: r.take n) = true; rw [T.noRefs, (band h).1, noRefs_take n (band h).2]; rfl
/-- a[lo:hi], never changed -/
def slT (x : T) (lo hi : Option Int) (h : Hm) : R T := match x with
  | .str z => if z.length ≤ sizeLine then .ok (.str (cutS z lo hi)) h else .bad
  | .tup xs => .ok (.tup (cutT xs lo hi)) h
  | x => match lstOf x h with
    | some xs => .ok (.lst (cutT xs lo hi)) h
    | none => .bad
def eSl (re : ET) (lo hi : OT) : ET := fun a h => (re a h).bind fun x h1 => (lo a h1).bind fun l h2 => (hi a h2).bind fun u h3 => slT x l u h3
theorem sl_fin (ok : C.Ok) {σ : St} {H : Hp} {G : Gh} {h : Hm} {x : T} {v : V} {l u : Option Int} {Q : VK} (rp : RepH C.S H G h) (rx : RelT C.S H G x v) (o : Out C σ H G (relE C) (slT x l u h) Q) : (rSlL C.X.K v l u H Q ∨ rSlA C.X.K v l u H Q) ∨ rSlS v l u H Q := by
  unfold slT at o
  split at o
  · rename_i z
    cases rx
    split at o
    · rename_i hz
      exact .inr ⟨z, rfl, hz, out_ok o rp (.str _)⟩
    · exact False.elim o
  · rename_i xs
    cases rx with
    | tup hz rs' =>
      have sq := hz.sq
      rw [ok.K] at sq
      refine .inl (.inr ⟨_, _, rfl, sq, fun hc => ?_, fun hc p hp => ?_⟩)
      · have e : cutT xs l u = xs := by
          unfold cutT
          rw [rs'.length, hc.1, hc.2, ← rs'.length]
          simp
        rw [e] at o
        exact out_ok o rp (.tup hz rs')
      · obtain ⟨st4, rp4⟩ := rp.newF (o := .tup (cutV _ l u)) hp
        exact o _ _ _ st4 rp4 (.tup (.inl ⟨.inl rfl, .inl upd_same⟩) ((rs'.cut l u).step st4))
  · split at o
    · rename_i xs e
      obtain ⟨a', vs, rfl, sq, rs'⟩ := lstOf_rel ok rp rx e
      refine .inl (.inl ⟨a', vs, rfl, sq, fun p hp => ?_⟩)
      obtain ⟨st4, rp4⟩ := rp.newF (o := .lst (cutV vs l u)) hp
      exact o _ _ _ st4 rp4 (.lst (.inl ⟨.inl rfl, .inl upd_same⟩) ((rs'.cut l u).step st4))
    · exact False.elim o
theorem je_sl (ok : C.Ok) {e : Expr} {re : ET} {lo hi : Option Expr} {rl ru : OT} {p2 : Pos} (j : JE C e re) (jl : JO C lo rl) (ju : JO C hi ru) : JE C (.Subscript e (.Slice lo hi none p2) pos) (eSl re rl ru) := by
  refine ⟨fun pins s σ H Q I hw => ?_⟩
  obtain ⟨a, G, h, rp, rs, o⟩ := hw
  refine (pe_slice ((SlR.or sl_list sl_tupA).or sl_str) (te := liE C re) j jl ju).run pins s σ H Q I ⟨a, G, h, rp, rs, (Out.bind (Rel := relE C) o).mono fun v H1 ⟨x, G1, h1, st1, rp1, rx, o1⟩ => ?_⟩
  refine ⟨a, G1, h1, rp1, rs.step st1, (Out.bind (Rel := fun _ _ a b => a = b) o1).mono fun l H2 ⟨l', G2, h2, st2, rp2, e2, o2⟩ => ?_⟩
  subst e2
  refine ⟨a, G2, h2, rp2, (rs.step st1).step st2, (Out.bind (Rel := fun _ _ a b => a = b) o2).mono fun u H3 ⟨u', G3, h3, st3, rp3, e3, o3⟩ => ?_⟩
  subst e3
  exact sl_fin ok rp3 ((rx.step st2).step st3) o3

/-! ### all, any -/
def allB : List T → Option Bool
  | [] => some true
  | .bl b :: r => (allB r).map (b && ·)
  | _ => none
def anyB : List T → Option Bool
  | [] => some false
  | .bl b :: r => (anyB r).map (b || ·)
  | _ => none
theorem allB_data : ∀ {ys : List T} {r : Bool}, allB ys = some r → ∃ ds, T.toDs ys = some ds ∧ ds.all PyData.truthy = r ∧ ∀ x ∈ ds, x.fits63
  | [], r, e => by rw [allB] at e; cases e; exact ⟨[], by rw [T.toDs], rfl, by simp⟩
  | .bl b :: ys, r, e => by
    rw [allB, Option.map_eq_some_iff] at e
    obtain ⟨r', e1, rfl⟩ := e
    obtain ⟨ds, h1, h2, h3⟩ := allB_data e1
    refine ⟨.bool b :: ds, by rw [T.toDs, T.toD, h1], by rw [List.all_cons, h2]; rfl, fun x hx => ?_⟩
    rcases List.mem_cons.mp hx with z | z
    · rw [z]; trivial
    · exact h3 x z
  | .non :: _, _, e => by rw [allB] at e <;> first | cases e | (intro _ _ z; cases z)
  | .int _ :: _, _, e => by rw [allB] at e <;> first | cases e | (intro _ _ z; cases z)
  | .str _ :: _, _, e => by rw [allB] at e <;> first | cases e | (intro _ _ z; cases z)
  | .tup _ :: _, _, e => by rw [allB] at e <;> first | cases e | (intro _ _ z; cases z)
  | .lst _ :: _, _, e => by rw [allB] at e <;> first | cases e | (intro _ _ z; cases z)
  | .ref _ :: _, _, e => by rw [allB] at e <;> first | cases e | (intro _ _ z; cases z)
  | .obj _ _ :: _, _, e => by rw [allB] at e <;> first | cases e | (intro _ _ z; cases z)
  | .fn _ :: _, _, e => by rw [allB] at e <;> first | cases e | (intro _ _ z; cases z)
  | .emp :: _, _, e => by rw [allB] at e <;> first | cases e | (intro _ _ z; cases z)
  | .ty _ :: _, _, e => by rw [allB] at e <;> first | cases e | (intro _ _ z; cases z)
  | .cl _ :: _, _, e => by rw [allB] at e <;> first | cases e | (intro _ _ z; cases z)
  | .exo _ _ :: _, _, e => by rw [allB] at e <;> first | cases e | (intro _ _ z; cases z)
  | .xh _ _ :: _, _, e => by rw [allB] at e <;> first | cases e | (intro _ _ z; cases z)
  | .clo _ :: _, _, e => by rw [allB] at e <;> first | cases e | (intro _ _ z; cases z)
  | .slc _ _ :: _, _, e => by rw [allB] at e <;> first | cases e | (intro _ _ z; cases z)
theorem anyB_data : ∀ {ys : List T} {r : Bool}, anyB ys = some r → ∃ ds, T.toDs ys = some ds ∧ ds.any PyData.truthy = r ∧ ∀ x ∈ ds, x.fits63
  | [], r, e => by rw [anyB] at e; cases e; exact ⟨[], by rw [T.toDs], rfl, by simp⟩
  | .bl b :: ys, r, e => by
    rw [anyB, Option.map_eq_some_iff] at e
    obtain ⟨r', e1, rfl⟩ := e
    obtain ⟨ds, h1, h2, h3⟩ := anyB_data e1
    refine ⟨.bool b :: ds, by rw [T.toDs, T.toD, h1], by rw [List.any_cons, h2]; rfl, fun x hx => ?_⟩
    rcases List.mem_cons.mp hx with z | z
    · rw [z]; trivial
    · exact h3 x z
  | .non :: _, _, e => by rw [anyB] at e <;> first | cases e | (intro _ _ z; cases z)
  | .int _ :: _, _, e => by rw [anyB] at e <;> first | cases e | (intro _ _ z; cases z)
  | .str _ :: _, _, e => by rw [anyB] at e <;> first | cases e | (intro _ _ z; cases z)
  | .tup _ :: _, _, e => by rw [anyB] at e <;> first | cases e | (intro _ _ z; cases z)
  | .lst _ :: _, _, e => by rw [anyB] at e <;> first | cases e | (intro _ _ z; cases z)
  | .ref _ :: _, _, e => by rw [anyB] at e <;> first | cases e | (intro _ _ z; cases z)
  | .obj _ _ :: _, _, e => by rw [anyB] at e <;> first | cases e | (intro _ _ z; cases z)
  | .fn _ :: _, _, e => by rw [anyB] at e <;> first | cases e | (intro _ _ z; cases z)
  | .emp :: _, _, e => by rw [anyB] at e <;> first | cases e | (intro _ _ z; cases z)
  | .ty _ :: _, _, e => by rw [anyB] at e <;> first | cases e | (intro _ _ z; cases z)
  | .cl _ :: _, _, e => by rw [anyB] at e <;> first | cases e | (intro _ _ z; cases z)
  | .exo _ _ :: _, _, e => by rw [anyB] at e <;> first | cases e | (intro _ _ z; cases z)
  | .xh _ _ :: _, _, e => by rw [anyB] at e <;> first | cases e | (intro _ _ z; cases z)
  | .clo _ :: _, _, e => by rw [anyB] at e <;> first | cases e | (intro _ _ z; cases z)
  | .slc _ _ :: _, _, e => by rw [anyB] at e <;> first | cases e | (intro _ _ z; cases z)
def gAll : List T → Hm → R T := fun xs h => match xs with
  | [x] => (match (seqOf x h).bind allB with
    | some b => .ok (.bl b) h
    | none => .bad)
  | _ => .bad
def gAny : List T → Hm → R T := fun xs h => match xs with
  | [x] => (match (seqOf x h).bind anyB with
    | some b => .ok (.bl b) h
    | none => .bad)
  | _ => .bad
/-- the items as the library reads them -/
theorem items_of (ok : C.Ok) {pins : List (Addr × Obj)} {s : Shared} {σ : St} {H : Hp} {G : Gh} {h : Hm} (I : Inv C.X pins σ H s) (rp : RepH C.S H G h) {x : T} {v : V} (rx : RelT C.S H G x v) {ys : List T} (e : seqOf x h = some ys) {ds : List PyData} (ed : T.toDs ys = some ds) :
    ∃ (a : Addr) (its : List Value) (as : List Addr), v = .ref a ∧ ReadsAll s.heap its.toArray.toList ds as ∧ PyData.plainAll ds = true ∧ (s.heap.IsList a its.toArray ∨ s.heap.IsTuple a its.toArray) := by
  obtain ⟨a, vs, rfl, sq, rs⟩ := seqOf_rel ok rp rx e
  rcases sq with sq | sq
  · obtain ⟨its, rv, p, _⟩ := I.list sq
    obtain ⟨as, q⟩ := readsAll_of ok.K I rs rv ed
    exact ⟨a, its, as, rfl, by simpa using q, (plain_toDs ed).1, .inl p.isList⟩
  · obtain ⟨its, rv, p, _⟩ := I.tuple sq
    obtain ⟨as, q⟩ := readsAll_of ok.K I rs rv ed
    exact ⟨a, its, as, rfl, by simpa using q, (plain_toDs ed).1, .inr p⟩
theorem ca_all (ok : C.Ok) (hc : C.S.mo = none) : CaT C (.builtin "all") gAll := by
  intro pins s σ H G h xs vs us Q I rp rx vu o
  unfold gAll at o
  split at o
  · split at o
    · rename_i x b e
      obtain ⟨v, rfl, rv⟩ := rx.one
      obtain ⟨u, rfl, r1⟩ := vals1 vu
      rw [Option.bind_eq_some_iff] at e
      obtain ⟨ys, e1, e2⟩ := e
      obtain ⟨ds, h1, h2, h3⟩ := allB_data e2
      obtain ⟨a, its, as, rfl, q1, q2, q3⟩ := items_of ok I rp rv e1 h1
      cases r1
      have fin : ∀ h' tk, (∀ b o, s.heap.get? b = some o → h'.get? b = some o) → EP C.X pins σ Q (.bool (ds.all PyData.truthy)) { s with heap := h', toks := tk } := fun h' tk kk => by
        rw [h2]
        exact ⟨.bl b, H, kept_of I kk, rfl, out_ok o rp (.bl b)⟩
      rcases q3 with q3 | q3
      · exact PySem.W.all_list_data (ok.room.hd hc) q3 q1 q2 h3 fin
      · exact PySem.W.all_tuple_data (ok.room.hd hc) q3 q1 q2 h3 fin
    · exact False.elim o
  · exact False.elim o
theorem ca_any (ok : C.Ok) (hc : C.S.mo = none) : CaT C (.builtin "any") gAny := by
  intro pins s σ H G h xs vs us Q I rp rx vu o
  unfold gAny at o
  split at o
  · split at o
    · rename_i x b e
      obtain ⟨v, rfl, rv⟩ := rx.one
      obtain ⟨u, rfl, r1⟩ := vals1 vu
      rw [Option.bind_eq_some_iff] at e
      obtain ⟨ys, e1, e2⟩ := e
      obtain ⟨ds, h1, h2, h3⟩ := anyB_data e2
      obtain ⟨a, its, as, rfl, q1, q2, q3⟩ := items_of ok I rp rv e1 h1
      cases r1
      have fin : ∀ h' tk, (∀ b o, s.heap.get? b = some o → h'.get? b = some o) → EP C.X pins σ Q (.bool (ds.any PyData.truthy)) { s with heap := h', toks := tk } := fun h' tk kk => by
        rw [h2]
        exact ⟨.bl b, H, kept_of I kk, rfl, out_ok o rp (.bl b)⟩
      rcases q3 with q3 | q3
      · exact PySem.W.any_list_data (ok.room.hd hc) q3 q1 q2 h3 fin
      · exact PySem.W.any_tuple_data (ok.room.hd hc) q3 q1 q2 h3 fin
    · exact False.elim o
  · exact False.elim o

end
end RT
set_option Elab.async false
set_option linter.all false
set_option maxRecDepth 100000
set_option maxHeartbeats 4000000
/-! RT, part m: facts of the written part, contexts by facts, the law's end. -/
namespace RT
open PySem PySem.Spec L2
open PyProof.Rows hiding St

/-! ### the Hook: a check of the written part, the defs -/
section
variable {c : Chk} {fn : List He.DefD} {K : PySem.W.Frag}
theorem SaysR.chk (q : SaysR c fn K) : c K = true := (band (show (c K && fn.all fun d => d.ok K) = true from congrArg (fun z : He.AlD => z.1) q)).1
theorem SaysR.def_ (q : SaysR c fn K) (i : Nat) {d : He.DefD} (h : fn[i]? = some d := by rfl) : ∃ fd, FunD K d.name d.qual d.params d.body d.scope (d.dvs K) (d.kws K) (He.fAd K d.at_) fd := by
  have c2 := (band (show (c K && fn.all fun d => d.ok K) = true from congrArg (fun z : He.AlD => z.1) q)).2
  have e : fn.map (fun d => He.fnW K d.at_) = fn.map He.DefD.val := congrArg (fun z : He.AlD => z.2) q
  have e2 : (fn.map fun d => He.fnW K d.at_)[i]? = (fn.map He.DefD.val)[i]? := by rw [e]
  rw [List.getElem?_map, List.getElem?_map, h] at e2
  exact He.DefD.funD (Option.some.inj e2) (List.all_eq_true.mp c2 d (List.mem_of_getElem? h))
end

/-! ### what is fixed, from names -/
def mkSta (K : PySem.W.Frag) (cn fl gn : List Str) (hf : fl.Nodup) (hc : (cn.map (He.ga K)).Nodup) : Sta where
  K := K
  cls := fun i => (cn.map (He.ga K)).getD i 0
  fld := fun i => fl.getD i Str.empty
  nf := fl.length
  inj := fun i j hi hj e => by
    rw [List.getD_eq_getElem?_getD, List.getD_eq_getElem?_getD, List.getElem?_eq_getElem hi, List.getElem?_eq_getElem hj] at e
    exact (List.getElem_inj hf).mp e
  gl := fun i => (gn.map (He.ga K)).getD i 0
  nc := cn.length
  cinj := fun i j hi hj e => by
    have hi' : i < (cn.map (He.ga K)).length := by simpa using hi
    have hj' : j < (cn.map (He.ga K)).length := by simpa using hj
    rw [List.getD_eq_getElem?_getD, List.getD_eq_getElem?_getD, List.getElem?_eq_getElem hi', List.getElem?_eq_getElem hj'] at e
    exact (List.getElem_inj hc).mp e

/-! ### contexts, by facts -/
structure Cf (C : RC) (P : Program) (w : World) (S : Sta) (mg : Str → Option Value) (base : Heap) (N : List Str) (sc : Scope) (k : Nat) : Prop where
  ok : C.Ok
  prog : C.X.prog = P
  w : C.X.w = w
  S : C.S = S
  mg : C.X.mg = mg
  base : C.X.base = base
  N : C.X.N = N
  sc : C.X.env.scope = sc
  k : C.k = k
theorem Cf.K {C : RC} {P : Program} {w : World} {S : Sta} {mg : Str → Option Value} {base : Heap} {N : List Str} {sc : Scope} {k : Nat} (cf : Cf C P w S mg base N sc k) : C.X.K = S.K := by rw [← cf.ok.K, cf.S]
def visB (sc : Scope) (x : Str) : Bool := match sc.names.lookup x with
  | some .local => true
  | some .cell => true
  | some .free => true
  | _ => false
def locB (sc : Scope) (x : Str) : Bool := match sc.names.lookup x with
  | some .local => true
  | some .cell => true
  | _ => false
def loB (sc : Scope) (x : Str) : Bool := match sc.names.lookup x with
  | some .local => true
  | _ => false
def glB (sc : Scope) (x : Str) : Bool := match sc.names.lookup x with
  | some .globalImplicit => true
  | _ => false
theorem visB_ok {sc : Scope} {x : Str} (h : visB sc x = true) : Vis sc x := by
  unfold visB at h
  unfold Vis
  split at h
  · rename_i e; exact .inl e
  · rename_i e; exact .inr (.inl e)
  · rename_i e; exact .inr (.inr e)
  · cases h
theorem locB_ok {sc : Scope} {x : Str} (h : locB sc x = true) : L2.Loc sc x := by
  unfold locB at h
  show L2.Loc sc x
  unfold L2.Loc
  split at h
  · rename_i e; exact .inl e
  · rename_i e; exact .inr e
  · cases h
theorem loB_ok {sc : Scope} {x : Str} (h : loB sc x = true) : sc.names.lookup x = some .local := by
  unfold loB at h
  split at h
  · rename_i e; exact e
  · cases h
theorem glB_ok {sc : Scope} {x : Str} (h : glB sc x = true) : sc.names.lookup x = some .globalImplicit := by
  unfold glB at h
  split at h
  · rename_i e; exact e
  · cases h
section
variable {C : RC} {P : Program} {w : World} {S : Sta} {mg : Str → Option Value} {base : Heap} {N : List Str} {sc : Scope} {k : Nat} {pos : Pos}
theorem Cf.gl (cf : Cf C P w S mg base N sc k) {x : Str} (h : glB sc x = true) : Gl C.X x := by
  show C.X.env.scope.names.lookup x = _
  rw [cf.sc]
  exact glB_ok h
theorem Cf.mgE (cf : Cf C P w S mg base N sc k) {x : Str} {v : Option Value} (h : mg x = v) : C.X.mg x = v := by rw [cf.mg]; exact h
theorem Cf.loc (cf : Cf C P w S mg base N sc k) {x : Str} (h : locB sc x = true) : L2.Loc C.X.env.scope x := by rw [cf.sc]; exact locB_ok h
theorem Cf.lo (cf : Cf C P w S mg base N sc k) {x : Str} (h : loB sc x = true) : C.X.env.scope.names.lookup x = some .local := by rw [cf.sc]; exact loB_ok h
theorem Cf.at_ (cf : Cf C P w S mg base N sc k) {x : Str} {i : Nat} (h : N[i]? = some x) : C.X.N[i]? = some x := by rw [cf.N]; exact h
theorem Cf.cold (cf : Cf C P w S mg base N sc k) (h : S.mo = none := by rfl) : C.S.mo = none := by rw [cf.S]; exact h
theorem Cf.blk (cf : Cf C P w S mg base N sc k) (h : S.mo = none) {s : Shared} {H : Hp} {scope : Scope} {Ce : Addr} {cl : List (Str × Addr)} {fp : List Addr} : Cf (blkR C s H scope Ce cl fp) P w S mg base N (relS scope sc) k :=
  ⟨cf.ok.blk (cf.cold h), cf.prog, cf.w, cf.S, cf.mg, cf.base, cf.N, by
    show relS scope C.X.env.scope = _
    rw [cf.sc], cf.k⟩
theorem Cf.envE (cf : Cf C P w S mg base N sc k) : C.X.env = { C.X.env with scope := sc } := by rw [← cf.sc]
/-- a name -/
theorem v_ (cf : Cf C P w S mg base N sc k) {x : Str} (i : Nat) (hN : N[i]? = some x := by rfl) (hv : visB sc x = true := by rfl) (hd : (x == ("__debug__" : Str)) = false := by decide) (hcd : (x == ("__classdict__" : Str)) = false := by decide) : JE C (.Name x pos) (eVar i) :=
  je_var cf.ok (cf.at_ hN) (by rw [cf.sc]; exact visB_ok hv) hd hcd
theorem set_ (cf : Cf C P w S mg base N sc k) {x : Str} {e : Expr} {r : ET} {pos' : Pos} (i : Nat) (j : JE C e r) (hN : N[i]? = some x := by rfl) (hl : loB sc x = true := by rfl) (hs : ∀ env : Env, swapsWith e (some (.Name x pos')) pos.line { env with scope := sc } = pure false := by intro _; rfl) : JS C (.Assign [.Name x pos'] e pos) (sSet i r) :=
  js_set cf.ok (cf.at_ hN) (.inl (cf.lo hl)) j (by rw [cf.envE]; exact hs _) (.inr (cf.lo hl))
/-- a captured name set: a cell of the def's own -/
theorem setC_ (cf : Cf C P w S mg base N sc k) (hfn : ∀ y, C.X.fn y = true) {x : Str} {e : Expr} {r : ET} {pos' : Pos} (i : Nat) (j : JE C e r) (hN : N[i]? = some x := by rfl) (hl : locB sc x = true := by rfl) (hs : ∀ env : Env, swapsWith e (some (.Name x pos')) pos.line { env with scope := sc } = pure false := by intro _; rfl) : JS C (.Assign [.Name x pos'] e pos) (sSet i r) :=
  js_set cf.ok (cf.at_ hN) (cf.loc hl) j (by rw [cf.envE]; exact hs _) (.inl (hfn x))
theorem gnm_ (cf : Cf C P w S mg base N sc k) {x : Str} (i : Nat) (hN : N[i]? = some x := by rfl) (hl : loB sc x = true := by rfl) : JG C (.Name x pos) (gNm i) :=
  jg_name cf.ok (cf.at_ hN) (.inl (cf.lo hl)) (.inr (cf.lo hl))
theorem gnmC_ (cf : Cf C P w S mg base N sc k) (hfn : ∀ y, C.X.fn y = true) {x : Str} (i : Nat) (hN : N[i]? = some x := by rfl) (hl : locB sc x = true := by rfl) : JG C (.Name x pos) (gNm i) :=
  jg_name cf.ok (cf.at_ hN) (cf.loc hl) (.inl (hfn x))
/-- targets of a comprehension -/
theorem pgn_ (cf : Cf C P w S mg base N sc k) {x : Str} (i : Nat) (hN : N[i]? = some x := by rfl) (hl : loB sc x = true := by rfl) : PG C.X (.Name x pos) (gName i) :=
  pg_name cf.ok.nd (cf.at_ hN) (.inl (cf.lo hl)) (.inr (cf.lo hl))
theorem pgnC_ (cf : Cf C P w S mg base N sc k) {x : Str} (i : Nat) (hfn : C.X.fn x = true) (hN : N[i]? = some x := by rfl) (hl : locB sc x = true := by rfl) : PG C.X (.Name x pos) (gName i) :=
  pg_name cf.ok.nd (cf.at_ hN) (cf.loc hl) (.inl hfn)
end

/-! ### a def, its promise -/
structure FnX (P : Program) (w : World) (S : Sta) (mg : Str → Option Value) (base : Heap) (k : Nat) (d : He.DefD) (ps : List Str) (g : List T → Hm → R T) : Prop where
  ex : ∃ fd, FunD S.K d.name d.qual d.params d.body d.scope (d.dvs S.K) (d.kws S.K) (He.fAd S.K d.at_) fd ∧ FnG S.mo P w S.K mg base k (He.fAd S.K d.at_) fd ps (spT S ps.length g)
section
variable {C : RC} {P : Program} {w : World} {S : Sta} {mg : Str → Option Value} {base : Heap} {N : List Str} {sc : Scope} {k j : Nat} {pos : Pos} {d : He.DefD} {ps : List Str} {g : List T → Hm → R T}
/-- positional arguments, all of them -/
theorem FnX.callP (F : FnX P w S mg base j d ps g) (cf : Cf C P w S mg base N sc k) (hj : j ≤ k) (hdv : d.dfl = [])
    (hb : ∀ (kV doc pm : Value) (an : Option Addr) (cdv ct : Value) (us : List Value), us.length = ps.length → bindArgs (PySem.W.fnOf d.name d.qual d.params d.body d.scope .none kV doc pm an cdv ct) ⟨us, []⟩ = pure (ps.zip us)) :
    CaK C (.ref (He.fAd S.K d.at_)) ps.length [] (fun xs _ h => g xs h) ∧ PySem.W.keepIn C.X.K (.ref (He.fAd S.K d.at_)) = true := by
  obtain ⟨fd, FD, FG⟩ := F.ex
  have hd0 : d.dvs S.K = [] := by unfold He.DefD.dvs; rw [hdv]; rfl
  refine ⟨?_, by rw [cf.K]; exact FD.kp⟩
  have B : Binds S.K fd ps [] := by
    rw [hd0] at FD
    exact FD.bindsN hb
  have e1 := cf.prog
  have e2 := cf.w
  have e3 := cf.S
  have e4 := cf.mg
  have e5 := cf.base
  subst e1 e2 e3 e4 e5
  exact CaK.fn cf.ok (arr := arrP) FG (BindT.pos B) (by rw [cf.k]; exact hj)
end

/-! ### the law's end -/
/-- nothing but the script is tracked -/
def Hp0 (K : PySem.W.Frag) (a : Addr) (o : Obj) (xs : List V) : Hp := fun b => if b = a ∧ K.lookup a = none then some (.frz o (.lst xs)) else none
theorem hp0_some {K : PySem.W.Frag} {a b : Addr} {o : Obj} {xs : List V} {u : HO} (h : Hp0 K a o xs b = some u) : b = a ∧ K.lookup a = none ∧ u = .frz o (.lst xs) := by
  unfold Hp0 at h
  split at h
  · rename_i q
    cases h
    exact ⟨q.1, q.2, rfl⟩
  · cases h
theorem law_go {P : Program} {w : World} {S : Sta} {mg mb : Str → Option Value} {k : Nat} {fa a : Addr} {fd : FuncData} {x : Str} {g : List T → Hm → R T} {st : Shared} {us : List Value} {ns : List Int} {hE : Hm}
    (hT0 : S.T = []) (hM0 : S.mo = none) (kin : S.K.In st.heap) (glob : st.heap.Ns mainGlobals mg) (blt : st.heap.Ns builtinsNs mb) (bltE : ∀ y : Str, y ≠ "__name__" → mb y = bootBuiltins y) (nolim : st.heap.NoLimit) (nogen : st.gens = #[])
    (script : st.heap.get? a = some { cls := .type "list", data := .seq us.toArray }) (aints : IntsAre us ns) (fits :  ns.length ≤ sizeLine) (room : Room k callerA) (gd : callerA.guards = some [])
    (F : ∀ b : Heap, S.K.In b → b.Ns mainGlobals mg → FnG S.mo P w S.K mg b k fa fd [x] (spT S 1 g)) (bind : ∀ (s : Shared) (u : Value), BindsTo s fd ⟨[u], []⟩ [(x, u)]) (law : g [.lst (ns.map T.int)] [] = .ok (.bl true) hE) :
    codeAny (model P w) callerA (.call (.ref fa) ⟨[.ref a], []⟩) (fun r s' => r = .ok (.ret (.bool true)) ∧ OldK st.heap s'.heap ∧ s'.os = st.os ∧ AllBare s'.gens) st := by
  have vals := vals_ints aints
  have len := aints.length
  generalize hoE : ({ cls := .type "list", data := .seq us.toArray } : Obj) = ob at script
  have hod : ob.data = .seq us.toArray 0 ∧ ob.cls = .type "list" ∧ ob.dict = none := by rw [← hoE]; exact ⟨rfl, rfl, rfl⟩
  have hH : ∃ H : Hp, H = Hp0 S.K a ob (ns.map V.int) := ⟨_, rfl⟩
  obtain ⟨H, eH⟩ := hH
  have only : ∀ {b : Addr} {u : HO}, H b = some u → b = a ∧ S.K.lookup a = none ∧ u = .frz ob (.lst (ns.map V.int)) := fun {b u} q => by rw [eH] at q; exact hp0_some q
  have hok : HOk P w H st.heap := fun b u q => by
    obtain ⟨rfl, _, rfl⟩ := only q
    refine ⟨script, by rw [List.length_map]; exact fits, us, 0, vals, ?_⟩
    rw [script, ← hoE]
  have apart : ∀ {b : Addr} {o : Obj} {es : Array DictEntry} {ep : Nat}, st.heap.get? b = some o → o.data = .dict es ep → H b = none := fun {b o es ep} e dd => by
    cases q : H b with
    | none => rfl
    | some u =>
      obtain ⟨rfl, _, _⟩ := only q
      rw [script] at e
      cases e
      rw [hod.1] at dd
      cases dd
  have ns_kept : ∀ {b : Addr} {m : Str → Option Value}, st.heap.Ns b m → (hidT st.heap H).Ns b m := fun {b m} z => by
    obtain ⟨o, es, ep, e, dd, r⟩ := z
    exact ⟨o, es, ep, hidT_get e (apart e dd), dd, r⟩
  have k_kept : S.K.In (hidT st.heap H) := fun b o e => hidT_get (kin b o e) (by
    cases q : H b with
    | none => rfl
    | some u =>
      obtain ⟨rfl, z, _⟩ := only q
      rw [z] at e
      cases e)
  obtain ⟨mc, nl1, nl2⟩ := nolim
  have env : Env0 P w S.K mg (hidT st.heap H) callerA [] st H :=
    { frames := rfl, mod := ⟨k_kept, ns_kept glob, ⟨mb, ns_kept blt, bltE⟩, ⟨mc, ns_kept nl1, nl2⟩⟩, bs := fun b o e => of_hidT e, bsz := Nat.le_of_eq (hidT_size _ _), funs := trivial, frf := fun b hb => absurd hb (List.not_mem_nil), hok := hok, bare := .of_eq nogen }
  have lies : RelT S H ⟨[], fun b => H b ≠ none⟩ (.lst (ns.map T.int)) (.ref a) := by
    refine .lst (vs := ns.map V.int) ?_ (RelTs.ints ns)
    cases q : S.K.lookup a with
    | none =>
      have e : H a = some (.frz ob (.lst (ns.map V.int))) := by rw [eH]; exact if_pos ⟨rfl, q⟩
      exact .inl ⟨by show H a ≠ none; rw [e]; simp, .inr ⟨ob, e⟩⟩
    | some o =>
      have e := kin a o q
      rw [script] at e
      cases e
      exact .inr ⟨us, 0, by rw [q, ← hoE], by rw [len]; exact fits, vals⟩
  have rep : RepH S H ⟨[], fun b => H b ≠ none⟩ [] := ⟨rfl, fun l c e => by simp at e, List.nodup_nil, fun b q => q.elim (fun z => absurd z List.not_mem_nil) fun z => z, fun p hp => absurd (hT0 ▸ hp) List.not_mem_nil⟩
  have promise : spT S 1 g [.ref a] H (fun v _ => v = .bl true) (fun _ _ _ => False) := ⟨[.lst (ns.map T.int)], _, [], rep, .cons lies .nil, rfl, by
    rw [law]
    intro v H' G' _ _ rv
    cases rv
    rfl⟩
  refine codeAny_mono ((F _ k_kept (ns_kept glob)).run callerA [] st H ⟨[.ref a], []⟩ [.ref a] [.ref a] _ _ (.of room) (fun p e => by rw [hM0] at e; cases e) (.of gd) env (bind st (.ref a)) (.cons rfl .nil) promise) fun r s' z => ?_
  cases r with
  | error e =>
    obtain ⟨_, _, _, _, _, _, _, _, _, _, _, _, bad⟩ := z
    exact bad.elim
  | ok fl =>
    cases fl with
    | ret u =>
      obtain ⟨v, H', os, bare, un, hok', rv, q⟩ := z
      have q : v = .bl true := q
      subst q
      cases (show u = Value.bool true from rv)
      refine ⟨rfl, OldK.of_keep fun b o e => ?_, os, bare⟩
      cases hb : H b with
      | none => exact un.keep b o e hb List.not_mem_nil List.not_mem_nil
      | some u =>
        obtain ⟨_, _, rfl⟩ := only hb
        have a1 := (hok b _ hb).1
        have a2 := (hok' b _ (un.frzs b ob _ hb)).1
        rw [e] at a1
        cases a1
        exact a2
    | next => exact False.elim z
    | brk => exact False.elim z
    | cont => exact False.elim z
theorem walk_go {l : PySem.W.OpenLaw} {n k : Nat} {q : Program} {loose : List Str} {XP : (Str → Option Value) → Heap → Prop} {YP : World → Heap → Prop} {d : DefRec} {x : Str} {g : List T → Hm → R T}
    (hn : l.most = some n) (hn2 : n ≤ sizeLine) (hdf : d.params.defaults = []) (hr : Room k callerA) (gd : callerA.guards = some [])
    (F : ∀ (w : World) (mg : Str → Option Value) (fa : Addr) (h : Heap), YP w h → h.Ns mainGlobals mg → mg d.name = some (.ref fa) →
      ∃ (S : Sta) (fd : FuncData), S.T = [] ∧ S.mo = none ∧ S.K.In h ∧ (∀ (s : Shared) (u : Value), BindsTo s fd ⟨[u], []⟩ [(x, u)]) ∧
        ∀ b : Heap, S.K.In b → b.Ns mainGlobals mg → FnG S.mo l.prog w S.K mg b k fa fd [x] (spT S 1 g))
    (law : ∀ ns : List Int, ns.length ≤ n → (∀ z ∈ ns, Builtin.Int.intBits z ≤ 1048576) → ∃ hE, g [.lst (ns.map T.int)] [] = .ok (.bl true) hE) : PySem.W.WalkO q loose XP YP l.row.toRowW d [] (fun f vs => PySem.call f vs) := by
  refine Att.attach_callB hn hdf fun w s0 st mg mb fa o pm cd doc a us ns G Y ho hd hcd hmg hobj hints hlen hbits hg => ?_
  obtain ⟨S, fd, hT0, hM0, kin, hb, hF⟩ := F w mg fa _ Y G.T.g hmg
  obtain ⟨hE, e⟩ := law ns hlen hbits
  exact law_go hT0 hM0 kin G.T.g G.T.b G.T.builtins G.T.nolimit hg hobj hints (Nat.le_trans hlen hn2) hr gd hF hb e
end RT
set_option Elab.async false
set_option linter.all false
set_option maxRecDepth 100000
set_option maxHeartbeats 4000000
/-! RT, part n: calls with defaults and keywords; small rules; rules by contexts' facts. -/
namespace RT
open PySem PySem.Spec L2
open PyProof.Rows hiding St

/-! ### arguments picked -/
/-- (0, i): the i-th positional one; (1, i): the i-th keyword's; (2, i): the i-th default -/
def ocn {A : Type} (o : Option A) (r : List A) : List A := match o with
  | some a => a :: r
  | none => r
def pick {A : Type} : List (Nat × Nat) → List A → List A → List A → List A
  | [], _, _, _ => []
  | (0, i) :: r, us, its, ws => ocn us[i]? (pick r us its ws)
  | (1, i) :: r, us, its, ws => ocn ws[i]? (pick r us its ws)
  | (_ + 2, i) :: r, us, its, ws => ocn its[i]? (pick r us its ws)
def pickOk (n m j : Nat) : List (Nat × Nat) → Bool
  | [] => true
  | (0, i) :: r => decide (i < n) && pickOk n m j r
  | (1, i) :: r => decide (i < m) && pickOk n m j r
  | (_ + 2, i) :: r => decide (i < j) && pickOk n m j r
theorem pick_rel {A B : Type} {Rl : List A → List B → Prop} (nil : Rl [] []) (Re : A → B → Prop) (cons : ∀ {a b as bs}, Re a b → Rl as bs → Rl (a :: as) (b :: bs)) (at_ : ∀ {as bs}, Rl as bs → ∀ i : Nat, (as[i]? = none ∧ bs[i]? = none) ∨ ∃ a b, as[i]? = some a ∧ bs[i]? = some b ∧ Re a b)
    {u1 i1 w1 : List A} {u2 i2 w2 : List B} (hu : Rl u1 u2) (hi : Rl i1 i2) (hw : Rl w1 w2) : ∀ src : List (Nat × Nat), Rl (pick src u1 i1 w1) (pick src u2 i2 w2)
  | [] => nil
  | (c, i) :: r => by
    have ih := pick_rel nil Re cons at_ hu hi hw r
    have go : ∀ {as : List A} {bs : List B}, Rl as bs → Rl (ocn as[i]? (pick r u1 i1 w1)) (ocn bs[i]? (pick r u2 i2 w2)) := fun {as bs} h => by
      rcases at_ h i with ⟨e1, e2⟩ | ⟨a, b, e1, e2, e⟩
      · rw [e1, e2]; exact ih
      · rw [e1, e2]; exact cons e ih
    match c with
    | 0 => rw [pick, pick]; exact go hu
    | 1 => rw [pick, pick]; exact go hw
    | _ + 2 => rw [pick, pick]; exact go hi
theorem vals_at {xs : List V} {us : List Value} (h : Vals xs us) (i : Nat) : (xs[i]? = none ∧ us[i]? = none) ∨ ∃ a b, xs[i]? = some a ∧ us[i]? = some b ∧ RelV a b := by
  cases e : xs[i]? with
  | none =>
    refine .inl ⟨rfl, ?_⟩
    rw [List.getElem?_eq_none_iff] at e ⊢
    rw [← h.length]
    exact e
  | some a =>
    obtain ⟨u, e2, r⟩ := h.get e
    exact .inr ⟨a, u, rfl, e2, r⟩
theorem relTs_at {S : Sta} {H : Hp} {G : Gh} {xs : List T} {us : List V} (h : RelTs S H G xs us) (i : Nat) : (xs[i]? = none ∧ us[i]? = none) ∨ ∃ a b, xs[i]? = some a ∧ us[i]? = some b ∧ RelT S H G a b := by
  cases e : xs[i]? with
  | none =>
    refine .inl ⟨rfl, ?_⟩
    rw [List.getElem?_eq_none_iff] at e ⊢
    rw [← h.length]
    exact e
  | some a =>
    obtain ⟨u, e2, r⟩ := h.get e
    exact .inr ⟨a, u, rfl, e2, r⟩
theorem pick_len {A : Type} {us its ws : List A} : ∀ {src : List (Nat × Nat)}, pickOk us.length ws.length its.length src = true → (pick src us its ws).length = src.length
  | [], _ => by rw [pick]; rfl
  | (c, i) :: r, h => by
    match c, h with
    | 0, h =>
      rw [pickOk] at h
      obtain ⟨h1, h2⟩ := band h
      rw [pick, List.getElem?_eq_getElem (of_decide_eq_true h1)]
      show (pick r us its ws).length + 1 = r.length + 1
      rw [pick_len h2]
    | 1, h =>
      rw [pickOk] at h
      obtain ⟨h1, h2⟩ := band h
      rw [pick, List.getElem?_eq_getElem (of_decide_eq_true h1)]
      show (pick r us its ws).length + 1 = r.length + 1
      rw [pick_len h2]
    | _ + 2, h =>
      rw [pickOk] at h
      obtain ⟨h1, h2⟩ := band h
      rw [pick, List.getElem?_eq_getElem (of_decide_eq_true h1)]
      show (pick r us its ws).length + 1 = r.length + 1
      rw [pick_len h2]
def arrS (src : List (Nat × Nat)) (ds xs zs : List T) : List T := pick src xs ds zs
section
variable {K : PySem.W.Frag} {x qual : Str} {params : Arguments} {body : List Stmt} {scope : Scope} {dvs : List V} {f : Addr} {fd : FuncData} {ps : List Str}
theorem bind0 (F : FunD K x qual params body scope [] [] f fd) (n : Nat) (ks : List Str) (src : List (Nat × Nat))
    (h : ∀ (kV doc pm : Value) (an : Option Addr) (cdv ct : Value) (us ws : List Value), us.length = n → ws.length = ks.length → bindArgs (PySem.W.fnOf x qual params body scope .none kV doc pm an cdv ct) ⟨us, ks.zip ws⟩ = pure (ps.zip (pick src us [] ws))) :
    KBn K fd ps n ks (fun us ws => pick src us [] ws) (fun vs zs => pick src vs [] zs) := by
  obtain ⟨oc, od, dV, kV, doc, pm, an, cdv, ct, osl, rfl, lk, hcd, hD, hK⟩ := F.ex
  rcases hD with ⟨_, rfl⟩ | ⟨e, _⟩
  · exact ⟨fun s us ws X l1 l2 => .of_eq (h kV doc pm an cdv ct us ws l1 l2), fun r1 r2 => pick_rel (Rl := Vals) .nil RelV (fun a b => .cons a b) vals_at r1 .nil r2 src⟩
  · exact absurd rfl e
theorem bindD (F : FunD K x qual params body scope dvs [] f fd) (n : Nat) (ks : List Str) (src : List (Nat × Nat)) (hd : dvs ≠ [])
    (h : ∀ (T : Addr) (kV doc pm : Value) (an : Option Addr) (cdv ct : Value) (us its ws : List Value), us.length = n → its.length = dvs.length → ws.length = ks.length →
      ∃ k, bindArgs (PySem.W.fnOf x qual params body scope (.ref T) kV doc pm an cdv ct) ⟨us, ks.zip ws⟩ = seqItems? (.ref T) >>= k ∧ k (some its.toArray) = pure (ps.zip (pick src us its ws))) :
    ∃ its : List Value, KBn K fd ps n ks (fun us ws => pick src us its ws) (fun vs zs => pick src vs dvs zs) := by
  obtain ⟨oc, od, dV, kV, doc, pm, an, cdv, ct, osl, rfl, lk, hcd, hD, hK⟩ := F.ex
  rcases hD with ⟨e, _⟩ | ⟨_, T, o, its, m, rfl, lT, oT, rT⟩
  · exact absurd e hd
  · refine ⟨its, ⟨fun s us ws X l1 l2 => ?_, fun r1 r2 => pick_rel (Rl := Vals) .nil RelV (fun a b => .cons a b) vals_at r1 rT r2 src⟩⟩
    obtain ⟨k, e1, e2⟩ := h T kV doc pm an cdv ct us its ws l1 rT.length.symm l2
    refine BindsTo.of_looks fun M => ?_
    rw [e1]
    exact looks_items X lT oT (.of_pure e2)
end
section
variable {C : RC} {P : Program} {w : World} {S : Sta} {mg : Str → Option Value} {base : Heap} {N : List Str} {sc : Scope} {k j : Nat} {pos : Pos} {d : He.DefD} {ps : List Str} {g : List T → Hm → R T}
/-- how a call's arguments come to d's parameters -/
structure Bnd (d : He.DefD) (ps : List Str) (n : Nat) (ks : List Str) (src : List (Nat × Nat)) (ds : List T) : Prop where
  ok : pickOk n ks.length ds.length src = true
  len : src.length = ps.length
  kw : d.kwd = []
  ds : ∀ (S : Sta) (H : Hp) (G : Gh), RelTs S H G ds (d.dvs S.K)
  to : (d.dfl = [] ∧ ∀ (kV doc pm : Value) (an : Option Addr) (cdv ct : Value) (us ws : List Value), us.length = n → ws.length = ks.length → bindArgs (PySem.W.fnOf d.name d.qual d.params d.body d.scope .none kV doc pm an cdv ct) ⟨us, ks.zip ws⟩ = pure (ps.zip (pick src us [] ws))) ∨
    (d.dfl ≠ [] ∧ ∀ (T : Addr) (kV doc pm : Value) (an : Option Addr) (cdv ct : Value) (us its ws : List Value), us.length = n → its.length = d.dfl.length → ws.length = ks.length →
      ∃ k, bindArgs (PySem.W.fnOf d.name d.qual d.params d.body d.scope (.ref T) kV doc pm an cdv ct) ⟨us, ks.zip ws⟩ = seqItems? (.ref T) >>= k ∧ k (some its.toArray) = pure (ps.zip (pick src us its ws)))
theorem FnX.bnd {n : Nat} {ks : List Str} {src : List (Nat × Nat)} {ds : List T} (F : FnX P w S mg base j d ps g) (B : Bnd d ps n ks src ds) : ∃ fd, PySem.W.keepIn S.K (.ref (He.fAd S.K d.at_)) = true ∧ BindT S fd ps n ks (arrS src ds) ∧ FnG S.mo P w S.K mg base j (He.fAd S.K d.at_) fd ps (spT S ps.length g) := by
  obtain ⟨fd, FD, FG⟩ := F.ex
  refine ⟨fd, FD.kp, ?_, FG⟩
  have ek : d.kws S.K = [] := by unfold He.DefD.kws; rw [B.kw]; rfl
  rw [ek] at FD
  have rel : ∀ {H : Hp} {G : Gh} {ts : List T} {vs : List V} {tz : List T} {vz : List V}, RelTs S H G ts vs → RelTs S H G tz vz → RelTs S H G (arrS src ds ts tz) (pick src vs (d.dvs S.K) vz) := fun r1 r2 =>
    pick_rel (Rl := RelTs S _ _) .nil (RelT S _ _) (fun a b => .cons a b) relTs_at r1 (B.ds S _ _) r2 src
  have ld : ds.length = (d.dvs S.K).length := (B.ds S (fun _ => none) ⟨[], fun _ => False⟩).length
  have len : ∀ (vs vz : List V), vs.length = n → vz.length = ks.length → (pick src vs (d.dvs S.K) vz).length = ps.length := fun vs vz l1 l2 => by
    rw [pick_len, B.len]
    rw [l1, l2, ← ld]
    exact B.ok
  rcases B.to with ⟨e0, h⟩ | ⟨e0, h⟩
  · have ed : d.dvs S.K = [] := by unfold He.DefD.dvs; rw [e0]; rfl
    rw [ed] at FD
    have kb := bind0 FD n ks src h
    exact BindT.kw (arrS src ds) kb (fun r1 r2 => by have := rel r1 r2; rw [ed] at this; exact this) (fun vs vz l1 l2 => by have := len vs vz l1 l2; rw [ed] at this; exact this)
  · have ed : d.dvs S.K ≠ [] := by
      unfold He.DefD.dvs
      intro z
      exact e0 (List.map_eq_nil_iff.mp z)
    obtain ⟨its, kb⟩ := bindD FD n ks src ed (fun T kV doc pm an cdv ct us its ws l1 l2 l3 => h T kV doc pm an cdv ct us its ws l1 (by rw [l2]; unfold He.DefD.dvs; rw [List.length_map]) l3)
    exact BindT.kw (arrS src ds) kb rel len
/-- a def called -/
theorem FnX.ca {n : Nat} {ks : List Str} {src : List (Nat × Nat)} {ds : List T} (F : FnX P w S mg base j d ps g) (cf : Cf C P w S mg base N sc k) (B : Bnd d ps n ks src ds) (hj : j ≤ k) : CaK C (.ref (He.fAd S.K d.at_)) n ks (fun xs zs h => g (arrS src ds xs zs) h) ∧ PySem.W.keepIn C.X.K (.ref (He.fAd S.K d.at_)) = true := by
  obtain ⟨fd, kp, BT, FG⟩ := F.bnd B
  refine ⟨?_, by rw [cf.K]; exact kp⟩
  have e1 := cf.prog
  have e2 := cf.w
  have e3 := cf.S
  have e4 := cf.mg
  have e5 := cf.base
  subst e1 e2 e3 e4 e5
  exact CaK.fn cf.ok FG BT (by rw [cf.k]; exact hj)
/-- anywhere below -/
theorem FnX.caA {n : Nat} {src : List (Nat × Nat)} {ds : List T} (F : FnX P w S mg base j d ps g) (cf : Cf C P w S mg base N sc k) (B : Bnd d ps n [] src ds) : CaA C j (.ref (He.fAd S.K d.at_)) n (fun xs h => g (arrS src ds xs []) h) := by
  obtain ⟨fd, kp, BT, FG⟩ := F.bnd B
  have e1 := cf.prog
  have e2 := cf.w
  have e3 := cf.S
  have e4 := cf.mg
  have e5 := cf.base
  subst e1 e2 e3 e4 e5
  exact CaA.fn cf.ok FG BT
/-- a class made -/
theorem FnX.make {n : Nat} {ks : List Str} {src : List (Nat × Nat)} {ds : List T} (F : FnX P w S mg base j d ps g) (cf : Cf C P w S mg base N sc k) (c : Nat) (B : Bnd d ps (n + 1) ks src ds) (M : Mk S.K (S.cls c) (He.fAd S.K d.at_)) (hj : j + 1 ≤ k) : CaK C (.ref (S.cls c)) n ks (mkO c g (arrS src ds)) ∧ PySem.W.keepIn C.X.K (.ref (S.cls c)) = true := by
  obtain ⟨fd, kp, BT, FG⟩ := F.bnd B
  refine ⟨?_, by rw [cf.K]; exact M.kp⟩
  have e1 := cf.prog
  have e2 := cf.w
  have e3 := cf.S
  have e4 := cf.mg
  have e5 := cf.base
  subst e1 e2 e3 e4 e5
  exact CaK.make cf.ok M FG BT (by rw [cf.k]; exact hj)
variable {x : Str} {n : Nat} {ks : List Str} {o : O3} {f : Value} {p : Pos} {e : Expr} {es : List Expr} {kws : List Keyword} {ra rk : AT}
/-- f(..), as written -/
theorem call_ (cf : Cf C P w S mg base N sc k) (hc : CaK C f n [] o ∧ PySem.W.keepIn C.X.K f = true) (hm : mg x = some f) (ja : JA C (e :: es) ra) (hg : glB sc x = true := by rfl) (hdb : (x == ("__debug__" : Str)) = false := by decide)
    (he : starEach (e :: es) C.X.env = (false, eval e C.X.env) :: starEach es C.X.env := by rfl) (hpl : (backTo pos (starEach es C.X.env)).any (·.1) = false := by rfl) : JE C (.Call (.Name x p) (e :: es) [] pos) (eCall n o ra) :=
  je_call hc.1 (cf.gl hg) (cf.mgE hm) hc.2 ja hdb he hpl
theorem call0_ (cf : Cf C P w S mg base N sc k) (hc : CaK C f n [] o ∧ PySem.W.keepIn C.X.K f = true) (hm : mg x = some f) (hg : glB sc x = true := by rfl) (hdb : (x == ("__debug__" : Str)) = false := by decide) : JE C (.Call (.Name x p) [] [] pos) (eCall n o aNil) :=
  je_call0 hc.1 (cf.gl hg) (cf.mgE hm) hc.2 hdb
theorem callK_ (cf : Cf C P w S mg base N sc k) (hc : CaK C f n ks o ∧ PySem.W.keepIn C.X.K f = true) (hm : mg x = some f) (ja : JA C (e :: es) ra) (jk : JK C kws rk) (hg : glB sc x = true := by rfl) (hall : (backToKw pos (keywordEach kws C.X.env)).all (·.1.isSome) = true := by rfl)
    (hks : (backToKw pos (keywordEach kws C.X.env)).filterMap (·.1) = ks := by rfl) (hdb : (x == ("__debug__" : Str)) = false := by decide) (he : starEach (e :: es) C.X.env = (false, eval e C.X.env) :: starEach es C.X.env := by rfl)
    (hpl : ((backTo pos (starEach (e :: es) C.X.env)).any (·.1) || (backToKw pos (keywordEach kws C.X.env)).any (·.1.isNone)) = false := by rfl) : JE C (.Call (.Name x p) (e :: es) kws pos) (eCallK n ks.length o ra rk) :=
  je_callK hc.1 (cf.gl hg) (cf.mgE hm) hc.2 ja jk hall hks hdb he hpl
theorem callK0_ (cf : Cf C P w S mg base N sc k) (hc : CaK C f n ks o ∧ PySem.W.keepIn C.X.K f = true) (hm : mg x = some f) (jk : JK C kws rk) (hg : glB sc x = true := by rfl) (hall : (backToKw pos (keywordEach kws C.X.env)).all (·.1.isSome) = true := by rfl)
    (hks : (backToKw pos (keywordEach kws C.X.env)).filterMap (·.1) = ks := by rfl) (hdb : (x == ("__debug__" : Str)) = false := by decide)
    (hpl : ((backTo pos (starEach [] C.X.env)).any (·.1) || (backToKw pos (keywordEach kws C.X.env)).any (·.1.isNone)) = false := by rfl) : JE C (.Call (.Name x p) [] kws pos) (eCallK n ks.length o aNil rk) :=
  je_callK0 hc.1 (cf.gl hg) (cf.mgE hm) hc.2 jk hall hks hdb hpl
/-- a built-in function, a built-in type -/
theorem cb_ (cf : Cf C P w S mg base N sc k) {id : String} {gg : List T → Hm → R T} (hc : CaT C (.builtin id) gg) (hm : mg x = none) (ja : JA C (e :: es) ra) (hv : bootBuiltins x = some (.builtin id) := by rfl) (hg : glB sc x = true := by rfl) (hn : x ≠ "__name__" := by decide) (hdb : (x == ("__debug__" : Str)) = false := by decide)
    (he : starEach (e :: es) C.X.env = (false, eval e C.X.env) :: starEach es C.X.env := by rfl) (hpl : (backTo pos (starEach es C.X.env)).any (·.1) = false := by rfl) : JE C (.Call (.Name x p) (e :: es) [] pos) (eCB gg ra) :=
  je_callB hc (cf.gl hg) (cf.mgE hm) hv ja hn hdb he hpl
theorem ct_ (cf : Cf C P w S mg base N sc k) {id : String} {gg : List T → Hm → R T} (hc : CaT C (.type id) gg) (hm : mg x = none) (ja : JA C (e :: es) ra) (hv : bootBuiltins x = some (.type id) := by rfl) (hg : glB sc x = true := by rfl) (hn : x ≠ "__name__" := by decide) (hdb : (x == ("__debug__" : Str)) = false := by decide)
    (he : starEach (e :: es) C.X.env = (false, eval e C.X.env) :: starEach es C.X.env := by rfl) (hpl : (backTo pos (starEach es C.X.env)).any (·.1) = false := by rfl) : JE C (.Call (.Name x p) (e :: es) [] pos) (eCB gg ra) :=
  je_callTy hc (cf.gl hg) (cf.mgE hm) hv ja hn hdb he hpl
theorem ty_ (cf : Cf C P w S mg base N sc k) {n : String} (hm : mg x = none) (hv : bootBuiltins x = some (.type n) := by rfl) (hg : glB sc x = true := by rfl) (hn : x ≠ "__name__" := by decide) (hd : (x == ("__debug__" : Str)) = false := by decide) : JE C (.Name x pos) (eC (.ty n)) :=
  je_ty (cf.gl hg) (cf.mgE hm) hv hn hd
theorem cl_ (cf : Cf C P w S mg base N sc k) (c : Nat) (hm : mg x = some (.ref (S.cls c))) (hg : glB sc x = true := by rfl) (hd : (x == ("__debug__" : Str)) = false := by decide) : JE C (.Name x pos) (eC (.cl c)) :=
  je_cl c (cf.gl hg) (cf.mgE (by rw [cf.S]; exact hm)) hd
theorem rg1_ (cf : Cf C P w S mg base N sc k) {tg a : Expr} (hm : mg "range" = none) (ja : JA C [a] ra) (hg : glB sc "range" = true := by rfl) (hs : starEach [a] C.X.env = [(false, eval a C.X.env)] := by rfl) : JI C tg (.Call (.Name "range" p) [a] [] pos) (iRg1 ra) :=
  ji_range1 (cf.gl hg) (cf.mgE hm) ja hs
theorem rg2_ (cf : Cf C P w S mg base N sc k) {tg a b : Expr} (hm : mg "range" = none) (ja : JA C [a, b] ra) (hg : glB sc "range" = true := by rfl) (hs : starEach [a, b] C.X.env = [(false, eval a C.X.env), (false, eval b C.X.env)] := by rfl) (hs2 : starEach [b] C.X.env = [(false, eval b C.X.env)] := by rfl) : JI C tg (.Call (.Name "range" p) [a, b] [] pos) (iRg2 ra) :=
  ji_range2 (cf.gl hg) (cf.mgE hm) ja hs hs2
theorem en_ (cf : Cf C P w S mg base N sc k) {tpos : Pos} {elts : List Expr} {kk : Nat} (hm : mg "enumerate" = none) (ja : JA C [e] ra) (hg : glB sc "enumerate" = true := by rfl) (hs : starEach [e] C.X.env = [(false, eval e C.X.env)] := by rfl) : JI C (.Tuple elts kk tpos) (.Call (.Name "enumerate" p) [e] [] pos) (iEnumT ra) :=
  ji_enum cf.ok (cf.gl hg) (cf.mgE hm) ja hs
theorem zip_ (cf : Cf C P w S mg base N sc k) {e2 : Expr} {tpos : Pos} {elts : List Expr} {kk : Nat} (hm : mg "zip" = none) (ja : JA C [e, e2] ra) (hg : glB sc "zip" = true := by rfl) (hs : starEach [e, e2] C.X.env = (false, eval e C.X.env) :: starEach [e2] C.X.env := by rfl) (hpl : (backTo pos (starEach [e2] C.X.env)).any (·.1) = false := by rfl) : JI C (.Tuple elts kk tpos) (.Call (.Name "zip" p) [e, e2] [] pos) (iZipT ra) :=
  ji_zip cf.ok (cf.gl hg) (cf.mgE hm) ja hs hpl
/-- a field read, set -/
theorem fld_ (cf : Cf C P w S mg base N sc k) {fa : Str} {re : ET} (cs : List Nat) (fi : Nat) (j : JE C e re) (hc : ∀ c ∈ cs, Cls S.K (S.cls c) ∧ NoAttr S.K (S.cls c) fa) (ef : S.fld fi = fa := by rfl) (hf : fi < S.nf := by exact Nat.le_of_ble_eq_true rfl) (hb : attributeBase e fa C.X.env (eval e C.X.env) = eval e C.X.env := by rfl) : JE C (.Attribute e fa pos) (eFld cs fi re) :=
  je_fld cf.ok j (by rw [cf.S]; exact ef) (by rw [cf.S]; exact hf) (by rw [cf.S]; exact hc) hb
theorem sfld_ (cf : Cf C P w S mg base N sc k) {o : Expr} {fa : Str} {re ro : ET} {pos' : Pos} (cs : List Nat) (fi : Nat) (jo : JE C o ro) (je : JE C e re) (hc : ∀ c ∈ cs, Cls S.K (S.cls c) ∧ NoAttr S.K (S.cls c) fa) (ef : S.fld fi = fa := by rfl) (hf : fi < S.nf := by exact Nat.le_of_ble_eq_true rfl)
    (hs : swapsWith e (some (.Attribute o fa pos')) pos.line C.X.env = pure false := by rfl) : JS C (.Assign [.Attribute o fa pos'] e pos) (sFldT cs fi re ro) :=
  js_fld cf.ok jo je (by rw [cf.S]; exact ef) (by rw [cf.S]; exact hf) (by rw [cf.S]; exact hc) hs
/-- {} -/
theorem je_emp : JE C (.Dict [] [] pos) eEmp := by
  refine ⟨fun pins s σ H Q I hw => ?_⟩
  obtain ⟨st, G, h, rp, rs, o⟩ := hw
  refine pe_dnewK.run pins s σ H Q I fun p hp => ?_
  obtain ⟨st2, rp2⟩ := rp.newF (o := .dK []) hp
  exact o _ _ _ st2 rp2 (.emp (.inl rfl) upd_same)
/-- truth of a bool -/
theorem tr_bool : TrT C asB := by
  intro pins s σ H G h x vx u Q I rp rx ru o
  obtain ⟨b, rfl, q⟩ := out_asB o Step.refl rp rx
  cases ru
  exact wpAny_truthy_bool ⟨H, I, q⟩
section
variable {elt tg iter : Expr} {ifs : List Expr} {scope : Scope} {own : List (Str × Nat)} {ri : AT} {gt : GT} {tgv : TG} {tt : BT} {te : ET}
theorem lc_ (cf : Cf C P w S mg base N sc k) (own : List (Str × Nat)) (ji : JI C tg iter ri) (sim : SimG S S.K (own.map (·.2)) gt tgv)
    (hg : ∀ C1, Cf C1 P w S mg base N (relS scope sc) k → (∀ y, C1.X.fn y = (scope.names.lookup y == some .cell)) → PG C1.X tg tgv) (ht : ∀ C1, Cf C1 P w S mg base N (relS scope sc) k → JTs C1 ifs tt) (he : ∀ C1, Cf C1 P w S mg base N (relS scope sc) k → JE C1 elt te)
    (bk : blkC N sc scope own = true := by rfl) (hs : ∀ x, foldedSetIterable iter C.X.env x = pure x := by intro _; rfl) (hm0 : S.mo = none := by rfl) : JE C (.ListComp elt [⟨tg, iter, ifs, 0⟩] scope pos) (eLc (own.map (·.2)) ri gt tt te) :=
  je_lc cf.ok (cf.cold hm0) ji (by rw [cf.N, cf.sc]; exact blkOk_by bk) (by rw [cf.S, cf.K]; exact sim) (fun s H Ce cl fp => hg _ (cf.blk hm0) fun _ => rfl) (fun s H Ce cl fp => ht _ (cf.blk hm0)) (fun s H Ce cl fp => he _ (cf.blk hm0)) hs
theorem lcM_ (cf : Cf C P w S mg base N sc k) (own : List (Str × Nat)) (ji : JI C tg iter ri) (sim : SimG S S.K (own.map (·.2)) gt tgv)
    (hg : ∀ C1, Cf C1 P w S mg base N (relS scope sc) k → (∀ y, C1.X.fn y = (scope.names.lookup y == some .cell)) → PG C1.X tg tgv) (ht : ∀ C1, Cf C1 P w S mg base N (relS scope sc) k → JTs C1 ifs tt) (he : ∀ C1, Cf C1 P w S mg base N (relS scope sc) k → JE C1 elt te)
    (bk : blkC N sc scope own = true := by rfl) (hs : ∀ x, foldedSetIterable iter C.X.env x = pure x := by intro _; rfl) (hm0 : S.mo = none := by rfl) : JE C (.ListComp elt [⟨tg, iter, ifs, 0⟩] scope pos) (eLcM (own.map (·.2)) ri gt tt te) :=
  je_lcM cf.ok (cf.cold hm0) ji (by rw [cf.N, cf.sc]; exact blkOk_by bk) (by rw [cf.S, cf.K]; exact sim) (fun s H Ce cl fp => hg _ (cf.blk hm0) fun _ => rfl) (fun s H Ce cl fp => ht _ (cf.blk hm0)) (fun s H Ce cl fp => he _ (cf.blk hm0)) hs
/-- does the name's store go into the comprehension -/
def swB (env_fn : Bool) (scope sc : Scope) (y : Str) : Bool := env_fn && (loB sc y && !(scope.names.any fun (n, k) => n == y && (k == .local || k == .cell)))
theorem setLc_ (cf : Cf C P w S mg base N sc k) {y : Str} {py spos : Pos} (i : Nat) (own : List (Str × Nat)) (ji : JI C tg iter ri) (sim : SimG S S.K (own.map (·.2)) gt tgv)
    (hg : ∀ C1, Cf C1 P w S mg base N (relS scope sc) k → (∀ y, C1.X.fn y = (scope.names.lookup y == some .cell)) → PG C1.X tg tgv) (ht : ∀ C1, Cf C1 P w S mg base N (relS scope sc) k → JTs C1 ifs tt) (he : ∀ C1, Cf C1 P w S mg base N (relS scope sc) k → JE C1 elt te)
    (hk : sc.kind = .function := by rfl) (hN : N[i]? = some y := by rfl) (hl : loB sc y = true := by rfl) (ha : (scope.names.any fun (n, k) => n == y && (k == .local || k == .cell)) = false := by rfl) (hline : (py.line == pos.line) = true := by rfl)
    (bk : blkC N sc scope own = true := by rfl) (hs : ∀ x, foldedSetIterable iter C.X.env x = pure x := by intro _; rfl) (hm0 : S.mo = none := by rfl) : JS C (.Assign [.Name y py] (.ListComp elt [⟨tg, iter, ifs, 0⟩] scope pos) spos) (sSet i (eLc (own.map (·.2)) ri gt tt te)) :=
  js_setLc cf.ok (cf.cold hm0) (cf.at_ hN) (cf.lo hl) (sw_true (by rw [cf.sc]; exact hk) (cf.lo hl) hline ha) ji (by rw [cf.N, cf.sc]; exact blkOk_by bk) (by rw [cf.S, cf.K]; exact sim) (fun s H Ce cl fp => hg _ (cf.blk hm0) fun _ => rfl) (fun s H Ce cl fp => ht _ (cf.blk hm0)) (fun s H Ce cl fp => he _ (cf.blk hm0)) hs
theorem setLcM_ (cf : Cf C P w S mg base N sc k) {y : Str} {py spos : Pos} (i : Nat) (own : List (Str × Nat)) (ji : JI C tg iter ri) (sim : SimG S S.K (own.map (·.2)) gt tgv)
    (hg : ∀ C1, Cf C1 P w S mg base N (relS scope sc) k → (∀ y, C1.X.fn y = (scope.names.lookup y == some .cell)) → PG C1.X tg tgv) (ht : ∀ C1, Cf C1 P w S mg base N (relS scope sc) k → JTs C1 ifs tt) (he : ∀ C1, Cf C1 P w S mg base N (relS scope sc) k → JE C1 elt te)
    (hk : sc.kind = .function := by rfl) (hN : N[i]? = some y := by rfl) (hl : loB sc y = true := by rfl) (ha : (scope.names.any fun (n, k) => n == y && (k == .local || k == .cell)) = false := by rfl) (hline : (py.line == pos.line) = true := by rfl)
    (bk : blkC N sc scope own = true := by rfl) (hs : ∀ x, foldedSetIterable iter C.X.env x = pure x := by intro _; rfl) (hm0 : S.mo = none := by rfl) : JS C (.Assign [.Name y py] (.ListComp elt [⟨tg, iter, ifs, 0⟩] scope pos) spos) (sSet i (eLcM (own.map (·.2)) ri gt tt te)) :=
  js_setLcM cf.ok (cf.cold hm0) (cf.at_ hN) (cf.lo hl) (sw_true (by rw [cf.sc]; exact hk) (cf.lo hl) hline ha) ji (by rw [cf.N, cf.sc]; exact blkOk_by bk) (by rw [cf.S, cf.K]; exact sim) (fun s H Ce cl fp => hg _ (cf.blk hm0) fun _ => rfl) (fun s H Ce cl fp => ht _ (cf.blk hm0)) (fun s H Ce cl fp => he _ (cf.blk hm0)) hs
end
theorem par_ (cf : Cf C P w S mg base N sc k) {i j : Nat} {x y : Str} {a b : Expr} {r : AT} {px py pt : Pos} {kt k2 pt2} (ja : JA C [a, b] r) (hi : N[i]? = some x := by rfl) (hj : N[j]? = some y := by rfl) (hij : i ≠ j := by decide) (hx : loB sc x = true := by rfl) (hy : loB sc y = true := by rfl)
    (hw : ∀ env : Env, swappedStores [.Tuple [.Name x px, .Name y py] kt pt] (.Tuple [a, b] k2 pt2) { env with scope := sc } = pure (some [x, y]) := by intro _; rfl) (hs : swapsWithSole [.Tuple [.Name x px, .Name y py] kt pt] (.Tuple [a, b] k2 pt2) pos.line C.X.env = pure false := by rfl) (hm0 : S.mo = none := by rfl) :
    JS C (.Assign [.Tuple [.Name x px, .Name y py] kt pt] (.Tuple [a, b] k2 pt2) pos) (sPar i j r) :=
  js_par cf.ok (cf.cold hm0) (cf.at_ hi) (cf.at_ hj) hij (cf.lo hx) (cf.lo hy) ja (by rw [cf.envE]; exact hw _) hs
theorem aug_ (cf : Cf C P w S mg base N sc k) {x : Str} {e : Expr} {r : ET} {op : Operator} {o : O2} {pos' : Pos} (i : Nat) (j : JE C e r) (ho : OpT C (inplaceOp op) o) (hN : N[i]? = some x := by rfl) (hl : loB sc x = true := by rfl) : JS C (.AugAssign (.Name x pos') op e pos) (sAug i o r) :=
  js_aug cf.ok (cf.at_ hN) (.inl (cf.lo hl)) j ho (.inr (cf.lo hl))
end
end RT
set_option Elab.async false
set_option linter.all false
set_option maxRecDepth 100000
set_option maxHeartbeats 4000000
/-! RT, part o: facts read off the check; own special methods, by contexts' facts. -/
namespace RT
open PySem PySem.Spec L2
open PyProof.Rows hiding St

/-! ### checks -/
section
variable {K : PySem.W.Frag}
theorem nd_ok {cn : List Str} (h : ckNd cn K = true) : (cn.map (He.ga K)).Nodup := of_decide_eq_true h
theorem cls_ok {x : Str} (h : ckCls x K = true) : ClsI K (He.ga K x) := by
  obtain ⟨h1, h2⟩ := band h
  obtain ⟨h2, h3⟩ := band h2
  obtain ⟨h3, h4⟩ := band h3
  obtain ⟨h4, h5⟩ := band h4
  have h1 : (PySem.W.plainGet K (He.ga K x) Str.empty && (PySem.W.hasDictIn K (He.ga K x) && (PySem.W.plainOver K (He.ga K x) && He.eqO (PySem.W.findIn K (.ref (He.ga K x)) "__setattr__") (some (some (.builtin "object.__setattr__")))))) = true := h1
  obtain ⟨a, h1⟩ := band h1
  obtain ⟨b, h1⟩ := band h1
  obtain ⟨c, h1⟩ := band h1
  exact ⟨⟨a, b, c, He.eqO_ok h1⟩, He.eqO_ok h2, He.eqO_ok h3, of_decide_eq_true h4, of_decide_eq_true h5⟩
theorem no_ok {x f : Str} (h : ckNo x f K = true) : NoAttr K (He.ga K x) f := He.eqO_ok h
theorem mk_ok {x : Str} (h : ckMk x K = true) : Mk K (He.ga K x) (He.fAd K (x, some "__init__")) := by
  have h : (PySem.W.makesIn K (He.ga K x) && (He.eqO (PySem.W.findIn K (.ref (He.ga K x)) "__init__") (some (some (.ref (He.ma K (He.ga K x) "__init__")))) && (PySem.W.isFn K (.ref (He.ma K (He.ga K x) "__init__")) && PySem.W.keepIn K (.ref (He.ga K x))))) = true := h
  obtain ⟨a, h⟩ := band h
  obtain ⟨b, h⟩ := band h
  obtain ⟨c, h⟩ := band h
  exact ⟨a, He.eqO_ok b, c, h⟩
theorem meth_ok {x m : Str} (h : ckMeth x m K = true) : Meth K (He.ga K x) m (He.fAd K (x, some m)) := by
  have h : (He.eqO (PySem.W.findIn K (.ref (He.ga K x)) m) (some (some (.ref (He.ma K (He.ga K x) m)))) && (PySem.W.isFn K (.ref (He.ma K (He.ga K x) m)) && PySem.W.keepIn K (.ref (He.ma K (He.ga K x) m)))) = true := h
  obtain ⟨a, h⟩ := band h
  obtain ⟨b, h⟩ := band h
  exact ⟨He.eqO_ok a, b, h⟩
theorem du_ok {x m : Str} (h : ckDu x m K = true) : PySem.W.findIn K (.ref (He.ga K x)) m = some (some (.ref (He.fAd K (x, some m)))) ∧ PySem.W.isFn K (.ref (He.fAd K (x, some m))) = true := by
  obtain ⟨a, b⟩ := band h
  exact ⟨He.eqO_ok a, b⟩
theorem ne_ok {x : Str} (h : ckNe x K = true) : PySem.W.findIn K (.ref (He.ga K x)) "__ne__" = some (some (.builtin "object.__ne__")) ∧ PySem.W.mroIn K (He.ga K x) (.type "object") = some true := by
  obtain ⟨a, b⟩ := band h
  exact ⟨He.eqO_ok a, of_decide_eq_true b⟩
theorem fm_ok {x : Str} (h : ckFm x K = true) : PySem.W.findIn K (.ref (He.ga K x)) "__format__" = some (some (.builtin "object.__format__")) ∧ PySem.W.mroIn K (He.ga K x) (.type "object") = some true := by
  obtain ⟨a, b⟩ := band h
  exact ⟨He.eqO_ok a, of_decide_eq_true b⟩
theorem isLook_mem : ∀ {tab : IsTab} {a b : Tg} {r : Bool}, isLook tab a b = some r → (a, b, r) ∈ tab
  | [], _, _, _, e => by rw [isLook] at e; cases e
  | (x, y, q) :: tl, a, b, r, e => by
    rw [isLook] at e
    split at e
    · rename_i h
      obtain ⟨rfl, rfl⟩ := h
      cases e
      exact List.mem_cons_self ..
    · exact List.mem_cons_of_mem _ (isLook_mem e)
theorem is_ok {cn fl gn : List Str} {hf : fl.Nodup} {hc : (cn.map (He.ga K)).Nodup} {tab : IsTab} (h : ckIs cn tab K = true) (hcl : ∀ c, c < cn.length → ClsI K ((cn.map (He.ga K)).getD c 0)) : IsOk (mkSta K cn fl gn hf hc) tab := by
  refine ⟨fun a b r e => ?_, hcl⟩
  have q := of_decide_eq_true (List.all_eq_true.mp h _ (isLook_mem e))
  have v : ∀ t : Tg, t.val (mkSta K cn fl gn hf hc) = tgvK cn K t := fun t => by cases t <;> rfl
  rw [v, v]
  exact q
theorem first_ok {cn fl gn : List Str} {hf : fl.Nodup} {hc : (cn.map (He.ga K)).Nodup} {c : Nat} (h : ckFirst cn c K = true) : ∀ a, Tg.okEq cn.length a = true → PySem.W.notFirst K ((cn.map (He.ga K)).getD c 0) (a.val (mkSta K cn fl gn hf hc)) = true := fun a ha => by
  have v : a.val (mkSta K cn fl gn hf hc) = tgvK cn K a := by cases a <;> rfl
  rw [v]
  refine List.all_eq_true.mp h a ?_
  unfold eqTags
  cases a with
  | cl c => exact List.mem_append_right _ (List.mem_map.mpr ⟨c, List.mem_range.mpr (of_decide_eq_true ha), rfl⟩)
  | ty n =>
    refine List.mem_append_left _ ?_
    have ha' : n ∈ ["NoneType", "bool", "int", "str", "tuple", "list", "dict"] := by
      have : (["NoneType", "bool", "int", "str", "tuple", "list", "dict"].contains n) = true := ha
      exact List.contains_iff_mem.mp this
    simp only [List.mem_cons, List.not_mem_nil, or_false] at ha' ⊢
    rcases ha' with e | e | e | e | e | e | e <;> subst e <;> simp
end

/-! ### own special methods, by contexts' facts -/
section
variable {C : RC} {P : Program} {w : World} {S : Sta} {mg : Str → Option Value} {base : Heap} {N : List Str} {sc : Scope} {k j : Nat} {tab : IsTab} {ow : Oe} {ms : Ms} {n : Nat} {f : Str}
theorem du_of (cf : Cf C P w S mg base N sc k) (h : ∀ c g, ms c = some g → ∃ a, PySem.W.findIn S.K (.ref (S.cls c)) f = some (some (.ref a)) ∧ PySem.W.isFn S.K (.ref a) = true ∧ CaA C j (.ref a) n g) : DuOk C j f n ms := by
  unfold DuOk
  rw [cf.S]
  exact h
theorem du_none : DuOk C j f n fun _ => none := fun c g e => by cases e
theorem fm_none : FmOk C j fun _ => none := ⟨du_none, fun c g e => by cases e⟩
theorem fm_of (cf : Cf C P w S mg base N sc k) (hd : DuOk C j "__str__" 1 ms) (h : ∀ c g, ms c = some g → PySem.W.findIn S.K (.ref (S.cls c)) "__format__" = some (some (.builtin "object.__format__")) ∧ PySem.W.mroIn S.K (S.cls c) (.type "object") = some true) : FmOk C j ms := by
  refine ⟨hd, ?_⟩
  rw [cf.S]
  exact h
theorem oe_of (cf : Cf C P w S mg base N sc k) (h1 : ∀ c f, ow c = some f → ∃ a, PySem.W.findIn S.K (.ref (S.cls c)) "__eq__" = some (some (.ref a)) ∧ PySem.W.isFn S.K (.ref a) = true ∧ CaA C j (.ref a) 2 (gPure f))
    (h2 : ∀ c f, ow c = some f → PySem.W.findIn S.K (.ref (S.cls c)) "__ne__" = some (some (.builtin "object.__ne__")) ∧ PySem.W.mroIn S.K (S.cls c) (.type "object") = some true)
    (h3 : ∀ c f a, ow c = some f → Tg.okEq S.nc a = true → PySem.W.notFirst S.K (S.cls c) (a.val S) = true) (h4 : ∀ c f x, ow c = some f → f x x ≠ some false) : OeOk C j ow := by
  refine ⟨?_, ?_, ?_, h4⟩ <;> rw [cf.S]
  · exact h1
  · exact h2
  · exact h3
theorem eqP_ (cf : Cf C P w S mg base N sc k) : OpT C (compareOp .Eq) opEq := op_eqT cf.ok
theorem neP_ (cf : Cf C P w S mg base N sc k) : OpT C (compareOp .NotEq) opNe := op_neT cf.ok
theorem eqK_ (cf : Cf C P w S mg base N sc k) (io : IsOk S tab) (oe : OeOk C j ow) (hj : j ≤ k) : OpT C (compareOp .Eq) (opEqK S.nc ow) := by
  have q := op_eqK cf.ok (tab := tab) (by rw [cf.S]; exact io) oe (by rw [cf.k]; exact hj)
  rw [cf.S] at q
  exact q
theorem neK_ (cf : Cf C P w S mg base N sc k) (io : IsOk S tab) (oe : OeOk C j ow) (hj : j + 1 ≤ k) : OpT C (compareOp .NotEq) (opNeK S.nc ow) := by
  have q := op_neK cf.ok (tab := tab) (by rw [cf.S]; exact io) oe (by rw [cf.k]; exact hj)
  rw [cf.S] at q
  exact q
theorem inK_ (cf : Cf C P w S mg base N sc k) (io : IsOk S tab) (oe : OeOk C j ow) (hm : DuOk C j "__contains__" 2 ms) (hj : j + 1 ≤ k) : OpT C (compareOp .In) (opInK S.nc ow ms) := by
  have q := op_inK cf.ok (tab := tab) (by rw [cf.S]; exact io) oe hm (by rw [cf.k]; exact hj)
  rw [cf.S] at q
  exact q
theorem notInK_ (cf : Cf C P w S mg base N sc k) (io : IsOk S tab) (oe : OeOk C j ow) (hm : DuOk C j "__contains__" 2 ms) (hj : j + 1 ≤ k) : OpT C (compareOp .NotIn) (opNotInK S.nc ow ms) := by
  have q := op_notInK cf.ok (tab := tab) (by rw [cf.S]; exact io) oe hm (by rw [cf.k]; exact hj)
  rw [cf.S] at q
  exact q
theorem isi_ (cf : Cf C P w S mg base N sc k) (io : IsOk S tab) : CaT C (.builtin "isinstance") (gIsi S.nc tab) := by
  have q := ca_isi cf.ok (tab := tab) (by rw [cf.S]; exact io)
  rw [cf.S] at q
  exact q
theorem str_ (cf : Cf C P w S mg base N sc k) (hm : DuOk C j "__str__" 1 ms) (hj : j + 2 ≤ k) (hg : 100 ≤ k) : CaT C (.type "str") (gStr ms) := ca_str cf.ok hm (by rw [cf.k]; exact hj) (by rw [cf.k]; exact hg)
theorem strL_ (cf : Cf C P w S mg base N sc k) (hm : DuOk C j "__str__" 1 ms) (hj : j + 2 ≤ k) : CaT C (.type "str") (gStrL ms) := ca_strL cf.ok hm (by rw [cf.k]; exact hj)
theorem repr_ (cf : Cf C P w S mg base N sc k) (hm : DuOk C j "__repr__" 1 ms) (hj : j + 2 ≤ k) (hg : 100 ≤ k) : CaT C (.builtin "repr") (gRepr ms) := ca_repr cf.ok hm (by rw [cf.k]; exact hj) (by rw [cf.k]; exact hg)
theorem reprL_ (cf : Cf C P w S mg base N sc k) (hm : DuOk C j "__repr__" 1 ms) (hj : j + 2 ≤ k) : CaT C (.builtin "repr") (gReprL ms) := ca_reprL cf.ok hm (by rw [cf.k]; exact hj)
theorem fmt_ (cf : Cf C P w S mg base N sc k) (hm : FmOk C j ms) (hj : j + 2 ≤ k) (hg : 100 ≤ k) {e : Expr} {r : ET} {pos : Pos} (je : JE C e r) : JE C (.FormattedValue e (-1) none pos) (eFmt ms r) := je_fmt cf.ok hm (by rw [cf.k]; exact hj) (by rw [cf.k]; exact hg) je
theorem fmtL_ (cf : Cf C P w S mg base N sc k) (hm : FmOk C j ms) (hj : j + 2 ≤ k) {e : Expr} {r : ET} {pos : Pos} (je : JE C e r) : JE C (.FormattedValue e (-1) none pos) (eFmtL ms r) := je_fmtL cf.ok hm (by rw [cf.k]; exact hj) je
theorem len_ (cf : Cf C P w S mg base N sc k) (hm : DuOk C j "__len__" 1 ms) (hj : j + 1 ≤ k) : CaT C (.builtin "len") (gLenK ms) := ca_lenK cf.ok hm (by rw [cf.k]; exact hj)
end
theorem fd_same {K : PySem.W.Frag} {x qual : Str} {params : Arguments} {body : List Stmt} {scope : Scope} {dvs : List V} {kws : List (Str × V)} {f : Addr} {fd fd2 : FuncData} (h : FunD K x qual params body scope dvs kws f fd) (h2 : FunD K x qual params body scope dvs kws f fd2) : fd = fd2 := by
  obtain ⟨_, _, _, _, _, _, _, _, _, _, _, l1, _⟩ := h.ex
  obtain ⟨_, _, _, _, _, _, _, _, _, _, _, l2, _⟩ := h2.ex
  rw [l1] at l2
  cases l2
  rfl
/-- nothing is known of these operands -/
def opNo : O2 := fun _ _ _ => .bad
theorem op_no {C : RC} {f : Value → Value → Sem Value} : OpT C f opNo := fun _ _ _ _ _ _ _ _ _ _ _ _ _ _ _ _ _ _ _ o => False.elim o
section
variable {C : RC} {P : Program} {w : World} {S : Sta} {mg : Str → Option Value} {base : Heap} {N : List Str} {sc : Scope} {k j : Nat}
theorem pg_tupS (cf : Cf C P w S mg base N sc k) {es : List Expr} {kk n : Nat} {pos : Pos} {t : TGs} (h : PGs C.X es t) (hn : (assignEach es C.X.env).length = n := by rfl) (hst : (assignEach es C.X.env).findIdx? (·.1) = none := by rfl) (hm0 : S.mo = none := by rfl) : PG C.X (.Tuple es kk pos) (gTup S.K n t) := by
  rw [← cf.K]
  exact pg_tup (cf.ok.calm (cf.cold hm0)) h hn hst
end
end RT
set_option Elab.async false
set_option linter.all false
set_option maxRecDepth 100000
set_option maxHeartbeats 4000000
/-! RT, part p: mirrors unfolded, for plain proofs. -/
namespace RT
open PySem
section
variable {A B : Type} (a : A) (e : T) (h : Hm) (st : StT) (t : T)
@[simp] theorem bind_ok' (f : A → Hm → R B) : (R.ok a h).bind f = f a h := rfl
@[simp] theorem bind_exc (f : A → Hm → R B) : (R.exc e h : R A).bind f = .exc e h := rfl
@[simp] theorem bind_bad (f : A → Hm → R B) : (R.bad : R A).bind f = .bad := rfl
@[simp] theorem th_ok (f : A → Hm → R SO) : (R.ok a h).th st f = f a h := rfl
@[simp] theorem th_exc (f : A → Hm → R SO) : (R.exc e h : R A).th st f = .ok (.rse e st) h := rfl
@[simp] theorem th_bad (f : A → Hm → R SO) : (R.bad : R A).th st f = .bad := rfl
@[simp] theorem eVar_ (i : Nat) : eVar i st h = match st[i]? with
  | some (some t) => .ok t h
  | _ => .bad := rfl
@[simp] theorem eC_ : eC t st h = .ok t h := rfl
@[simp] theorem eEmp_ : eEmp st h = .ok .emp h := rfl
@[simp] theorem eOp_ (o : O2) (x y : ET) : eOp o x y st h = (x st h).bind fun u h1 => (y st h1).bind fun v h2 => o u v h2 := rfl
@[simp] theorem eUn_ (o : O1) (x : ET) : eUn o x st h = (x st h).bind fun u h1 => o u h1 := rfl
@[simp] theorem bE_ (x : ET) : bE x st h = (x st h).bind asB := rfl
@[simp] theorem bT_ (o : T → Hm → R Bool) (x : ET) : bT o x st h = (x st h).bind o := rfl
@[simp] theorem asB_ (b : Bool) : asB (.bl b) h = .ok b h := rfl
@[simp] theorem bAnd_ (x y : BT) : bAnd x y st h = (x st h).bind fun c h1 => if c then y st h1 else .ok false h1 := rfl
@[simp] theorem bOr_ (x y : BT) : bOr x y st h = (x st h).bind fun c h1 => if c then .ok true h1 else y st h1 := rfl
@[simp] theorem bNot_ (x : BT) : bNot x st h = (x st h).bind fun c h1 => .ok (!c) h1 := rfl
@[simp] theorem eAnd_ (x y : ET) : eAnd x y st h = ((x st h).bind asB).bind fun c h1 => if c then y st h1 else .ok (.bl false) h1 := rfl
@[simp] theorem eOr_ (x y : ET) : eOr x y st h = ((x st h).bind asB).bind fun c h1 => if c then .ok (.bl true) h1 else y st h1 := rfl
@[simp] theorem eNotT_ (o : T → Hm → R Bool) (x : ET) : eNotT o x st h = (x st h).bind fun u h1 => (o u h1).bind fun c h2 => .ok (.bl (!c)) h2 := rfl
@[simp] theorem eIf_ (c : BT) (x y : ET) : eIf c x y st h = (c st h).bind fun b h1 => if b then x st h1 else y st h1 := rfl
@[simp] theorem aNil_ : aNil st h = .ok [] h := rfl
@[simp] theorem aCons_ (x : ET) (r : AT) : aCons x r st h = (x st h).bind fun u h1 => (r st h1).bind fun us h2 => .ok (u :: us) h2 := rfl
@[simp] theorem eTup_ (r : AT) : eTup r st h = (r st h).bind fun xs h1 => if xs.length ≤ sizeLine then .ok (.tup xs) h1 else .bad := rfl
@[simp] theorem eLst_ (r : AT) : eLst r st h = (r st h).bind fun xs h1 => if xs.length ≤ sizeLine then .ok (.lst xs) h1 else .bad := rfl
@[simp] theorem eLstM_ (r : AT) : eLstM r st h = (r st h).bind fun xs h1 => if decide (xs.length ≤ sizeLine) && T.noRefs xs then .ok (.ref h1.length) (h1 ++ [some (.lst xs)]) else .bad := rfl
@[simp] theorem eCall_ (n : Nat) (o : O3) (r : AT) : eCall n o r st h = (r st h).bind fun xs h1 => if xs.length = n then o xs [] h1 else .bad := rfl
@[simp] theorem eCallK_ (n m : Nat) (o : O3) (r k : AT) : eCallK n m o r k st h = (r st h).bind fun xs h1 => (k st h1).bind fun zs h2 => if xs.length = n ∧ zs.length = m then o xs zs h2 else .bad := rfl
@[simp] theorem eCB_ (g : List T → Hm → R T) (r : AT) : eCB g r st h = (r st h).bind g := rfl
@[simp] theorem eFld_ (cs : List Nat) (fi : Nat) (x : ET) : eFld cs fi x st h = (x st h).bind fun u h1 => match insOf u h1 with
  | some (c, fs) => if cs.contains c then (match fs.lookup fi with
    | some t => .ok t h1
    | none => .bad) else .bad
  | none => .bad := rfl
@[simp] theorem lk_hit {X : Type} (f : Nat) (x : X) (fs : List (Nat × X)) : ((f, x) :: fs).lookup f = some x := List.lookup_cons_self
theorem lk_miss {X : Type} {f g : Nat} (x : X) (fs : List (Nat × X)) (hn : f ≠ g) : ((g, x) :: fs).lookup f = fs.lookup f := by
  have hb : (f == g) = false := beq_eq_false_iff_ne.mpr hn
  simp only [List.lookup, hb]
@[simp] theorem take_snoc {X : Type} (xs : List X) (x : X) : (xs ++ [x]).take (xs.length + 1) = xs ++ [x] := List.take_of_length_le (by simp)
@[simp] theorem take_set' {X : Type} (xs : List X) (i : Nat) (x : X) : (xs.set i x).take xs.length = xs.set i x := List.take_of_length_le (by simp)
@[simp] theorem insOf_obj (c : Nat) (fs : List (Nat × T)) : insOf (.obj c fs) h = some (c, fs) := rfl
@[simp] theorem eFmtL_ (ms : Ms) (x : ET) : eFmtL ms x st h = (x st h).bind (oFmtL ms) := rfl
@[simp] theorem eFmt_ (ms : Ms) (x : ET) : eFmt ms x st h = (x st h).bind (oFmt ms) := rfl
@[simp] theorem eSl_ (x : ET) (lo hi : OT) : eSl x lo hi st h = (x st h).bind fun u h1 => (lo st h1).bind fun l h2 => (hi st h2).bind fun v h3 => slT u l v h3 := rfl
@[simp] theorem oNone_ : oNone st h = .ok none h := rfl
@[simp] theorem oSome_ (x : ET) : oSome x st h = (x st h).bind fun t h1 => match t with
  | .int i => .ok (some i) h1
  | _ => .bad := rfl
@[simp] theorem eJoin_ (rs : List ET) : eJoin rs st h = eJs rs Str.empty st h := rfl
@[simp] theorem eJs_nil (acc : Str) : eJs [] acc st h = .ok (.str acc) h := rfl
@[simp] theorem eJs_cons (r : ET) (rs : List ET) (acc : Str) : eJs (r :: rs) acc st h = (r st h).bind fun x h1 => match x with
  | .str y => if decide ((acc ++ y).length ≤ sizeLine) then eJs rs (acc ++ y) st h1 else .bad
  | _ => .bad := rfl
@[simp] theorem eLc_ (own : List Nat) (ri : AT) (g : GT) (tt : BT) (te : ET) : eLc own ri g tt te st h = (ri st h).bind fun ts h1 => if ts.length ≤ sizeLine then (lcL g tt te (wipeT st own) ts h1).bind fun ys h2 => .ok (.lst ys) h2 else .bad := rfl
@[simp] theorem bYes_ : bYes st h = .ok true h := rfl
@[simp] theorem iVal_ (x : ET) : iVal x st h = (x st h).bind itemsF := rfl
@[simp] theorem itemsF_lst (xs : List T) : itemsF (.lst xs) h = .ok xs h := rfl
@[simp] theorem itemsF_tup (xs : List T) : itemsF (.tup xs) h = .ok xs h := rfl
@[simp] theorem iRg1_ (r : AT) : iRg1 r st h = (r st h).bind fun xs h1 => match xs with
  | [.int j] => if small62 j then .ok (rangeT 0 j.toNat) h1 else .bad
  | _ => .bad := rfl
@[simp] theorem iRg2_ (r : AT) : iRg2 r st h = (r st h).bind fun xs h1 => match xs with
  | [.int i, .int j] => if small62 i && small62 j then .ok (rangeT i (j - i).toNat) h1 else .bad
  | _ => .bad := rfl
/-! ### statements -/
@[simp] theorem sNext_ : sNext st h = .ok (.nx st) h := rfl
@[simp] theorem sBad_ : sBad st h = .bad := rfl
@[simp] theorem sRet_ (x : ET) : sRet x st h = (x st h).th st fun t h1 => .ok (.ret t) h1 := rfl
@[simp] theorem sRetN_ : sRetN st h = .ok (.ret .non) h := rfl
@[simp] theorem sExpr_ (x : ET) : sExpr x st h = (x st h).th st fun _ h1 => .ok (.nx st) h1 := rfl
@[simp] theorem sIf_ (c : BT) (x y : SM) : sIf c x y st h = (c st h).th st fun b h1 => if b then x st h1 else y st h1 := rfl
@[simp] theorem sSet_ (i : Nat) (x : ET) : sSet i x st h = (x st h).th st fun t h1 => .ok (.nx (st.set i (some t))) h1 := rfl
@[simp] theorem sAsg_ (x : ET) (g : GT) : sAsg x g st h = (x st h).th st fun t h1 => match g t st h1 with
  | .ok a' h' => .ok (.nx a') h'
  | _ => .bad := rfl
@[simp] theorem sFor_ (ri : AT) (g : GT) (b : SM) : sFor ri g b st h = (ri st h).th st fun ts h1 => forL g b ts st h1 := rfl
@[simp] theorem sPar_ (i j : Nat) (r : AT) : sPar i j r st h = (r st h).th st fun ts h1 => match ts with
  | [x, y] => .ok (.nx ((st.set i (some x)).set j (some y))) h1
  | _ => .bad := rfl
@[simp] theorem sFldT_ (cs : List Nat) (fi : Nat) (x o : ET) : sFldT cs fi x o st h = (x st h).th st fun y h1 => (o st h1).th st fun u h2 => match u with
  | .ref l => (match h2[l]? with
    | some (some (.ins c fs)) => if cs.contains c && (y.noRef && decide (fs.length < 1000)) then .ok (.nx st) (h2.set l (some (.ins c (putT fi y fs)))) else .bad
    | _ => .bad)
  | _ => .bad := rfl
@[simp] theorem sSeq_ (x y : SM) : sSeq x y st h = match x st h with
  | .ok (.nx a') h' => y a' h'
  | r => r := rfl
@[simp] theorem gNm_ (i : Nat) : gNm i t st h = .ok (st.set i (some t)) h := rfl
@[simp] theorem gTp_ (n : Nat) (g : List T → StT → Hm → R StT) (xs : List T) : gTp n g (.tup xs) st h = if xs.length = n then g xs st h else .bad := rfl
@[simp] theorem gsNil_ : gsNil [] st h = .ok st h := rfl
@[simp] theorem gsCons_ (g : GT) (r : List T → StT → Hm → R StT) (ts : List T) : gsCons g r (t :: ts) st h = (g t st h).bind fun a' h' => r ts a' h' := rfl
@[simp] theorem gSubT_ (ro ri : ET) : gSubT ro ri t st h = match ro st h with
  | .ok (.ref l) h1 => (match ri st h1 with
    | .ok (.int i) h2 => (match h2[l]? with
      | some (some (.lst xs)) => (match L2.ixN xs.length i with
        | some j => if t.noRef then .ok st (h2.set l (some (.lst (xs.set j t)))) else .bad
        | none => .bad)
      | _ => .bad)
    | _ => .bad)
  | _ => .bad := rfl
@[simp] theorem forL_nil (g : GT) (b : SM) : forL g b [] st h = .ok (.nx st) h := rfl
theorem forL_cons (g : GT) (b : SM) (ts : List T) : forL g b (t :: ts) st h = match g t st h with
    | .ok a1 h1 => (match b a1 h1 with
      | .ok (.nx a2) h2 => forL g b ts a2 h2
      | .ok (.cont a2) h2 => forL g b ts a2 h2
      | .ok (.brk a2) h2 => .ok (.nx a2) h2
      | r => r)
    | _ => .bad := rfl
@[simp] theorem lcL_nil (g : GT) (tt : BT) (te : ET) : lcL g tt te st [] h = .ok [] h := rfl
theorem lcL_cons (g : GT) (tt : BT) (te : ET) (ts : List T) : lcL g tt te st (t :: ts) h = match g t st h with
    | .ok a1 h1 => (match tt a1 h1 with
      | .ok true h2 => (match te a1 h2 with
        | .ok y h3 => (match lcL g tt te st ts h3 with
          | .ok ys h4 => .ok (y :: ys) h4
          | _ => .bad)
        | _ => .bad)
      | .ok false h2 => lcL g tt te st ts h2
      | _ => .bad)
    | _ => .bad := rfl
/-! ### a def's end -/
@[simp] theorem run_ (n : Nat) (b : SM) (ts : List T) : RT.run n b ts h = fin h.length (endOf (b (st0 n ts) h)) := rfl
@[simp] theorem endOf_ret : endOf (.ok (.ret t) h) = .ok t h := rfl
@[simp] theorem endOf_nx : endOf (.ok (.nx st) h) = .ok .non h := rfl
@[simp] theorem endOf_rse : endOf (.ok (.rse e st) h) = .exc e h := rfl
@[simp] theorem fin_ok (n : Nat) : fin n (.ok t h) = if t.noRef then .ok t (h.take n) else .ok t h := rfl
@[simp] theorem st0_z : st0 0 [] = [] := rfl
@[simp] theorem st0_n (n : Nat) : st0 (n + 1) [] = none :: st0 n [] := by simp [st0, List.replicate_succ]
@[simp] theorem st0_c (n : Nat) (ts : List T) : st0 (n + 1) (t :: ts) = some t :: st0 n ts := by simp [st0]
@[simp] theorem nr_int (i : Int) : (T.int i).noRef = true := rfl
@[simp] theorem nr_bl (i : Bool) : (T.bl i).noRef = true := rfl
@[simp] theorem nr_str (i : Str) : (T.str i).noRef = true := rfl
@[simp] theorem nr_non : T.non.noRef = true := rfl
@[simp] theorem nr_emp : T.emp.noRef = true := rfl
@[simp] theorem nr_ref (l : Nat) : (T.ref l).noRef = false := rfl
@[simp] theorem nr_tup (xs : List T) : (T.tup xs).noRef = T.noRefs xs := rfl
@[simp] theorem nr_lst (xs : List T) : (T.lst xs).noRef = T.noRefs xs := rfl
@[simp] theorem nr_obj (c : Nat) (fs : List (Nat × T)) : (T.obj c fs).noRef = T.noRefF fs := rfl
@[simp] theorem nrs_nil : T.noRefs [] = true := rfl
@[simp] theorem nrs_cons (xs : List T) : T.noRefs (t :: xs) = (t.noRef && T.noRefs xs) := rfl
@[simp] theorem nrf_nil : T.noRefF [] = true := rfl
@[simp] theorem nrf_cons (f : Nat) (fs : List (Nat × T)) : T.noRefF ((f, t) :: fs) = (t.noRef && T.noRefF fs) := rfl
/-! ### operators -/
@[simp] theorem add_i (i j : Int) : opAdd (.int i) (.int j) h = .ok (.int (i + j)) h := rfl
@[simp] theorem add_s (x y : Str) : opAdd (.str x) (.str y) h = if x.length + y.length ≤ sizeLine then .ok (.str (x ++ y)) h else .bad := rfl
@[simp] theorem sub_i (i j : Int) : opSub (.int i) (.int j) h = .ok (.int (i - j)) h := rfl
@[simp] theorem mul_i (i j : Int) : opMul (.int i) (.int j) h = if fit i && fit j then .ok (.int (i * j)) h else .bad := rfl
@[simp] theorem mod_i (i j : Int) : opMod (.int i) (.int j) h = if 0 < j then .ok (.int (i % j)) h else .bad := rfl
@[simp] theorem div_i (i j : Int) : opFdiv (.int i) (.int j) h = if decide (0 < j) && fit j then .ok (.int (i / j)) h else .bad := rfl
@[simp] theorem pow_i (i j : Int) : opPow (.int i) (.int j) h = if decide (0 ≤ j) && (decide (j ≤ 1000) && decide (i.natAbs < 2 ^ 64)) then .ok (.int (i ^ j.toNat)) h else .bad := rfl
@[simp] theorem neg_i (i : Int) : opNeg (.int i) h = .ok (.int (-i)) h := rfl
@[simp] theorem lt_i (i j : Int) : opLt (.int i) (.int j) h = .ok (.bl (decide (i < j))) h := rfl
@[simp] theorem le_i (i j : Int) : opLe (.int i) (.int j) h = .ok (.bl (decide (i ≤ j))) h := rfl
@[simp] theorem gt_i (i j : Int) : opGt (.int i) (.int j) h = .ok (.bl (decide (j < i))) h := rfl
@[simp] theorem ge_i (i j : Int) : opGe (.int i) (.int j) h = .ok (.bl (decide (j ≤ i))) h := rfl
theorem eqv_int (i j : Int) : PyData.eqv (.int i) (.int j) = decide (i = j) := by
  unfold PyData.eqv
  by_cases e : i = j
  · subst e; simp
  · simp [e]
@[simp] theorem eq_i (i j : Int) : opEq (.int i) (.int j) h = .ok (.bl (decide (i = j))) h := by
  show (if min (PyData.int i).depth (PyData.int j).depth ≤ 150 then R.ok (T.bl (PyData.eqv (.int i) (.int j))) h else R.bad) = _
  rw [if_pos (by simp [PyData.depth]), eqv_int]
@[simp] theorem ne_i (i j : Int) : opNe (.int i) (.int j) h = .ok (.bl (!decide (i = j))) h := by
  show (if min (PyData.int i).depth (PyData.int j).depth ≤ 150 then R.ok (T.bl (!PyData.eqv (.int i) (.int j))) h else R.bad) = _
  rw [if_pos (by simp [PyData.depth]), eqv_int]
@[simp] theorem toDh_int (i : Int) : T.toDh h (.int i) = some (.int i) := rfl
@[simp] theorem toDh_str (i : Str) : T.toDh h (.str i) = some (.str i) := rfl
@[simp] theorem toDh_tup (xs : List T) : T.toDh h (.tup xs) = (T.toDs xs).map .tuple := rfl
@[simp] theorem toDh_lst (xs : List T) : T.toDh h (.lst xs) = (T.toDs xs).map .list := rfl
@[simp] theorem toD_int (i : Int) : (T.int i).toD = some (.int i) := rfl
@[simp] theorem toD_str (i : Str) : (T.str i).toD = some (.str i) := rfl
@[simp] theorem toD_bl (i : Bool) : (T.bl i).toD = some (.bool i) := rfl
@[simp] theorem toD_non : T.non.toD = some .none := rfl
@[simp] theorem toD_tup (xs : List T) : (T.tup xs).toD = (T.toDs xs).map .tuple := rfl
@[simp] theorem toD_lst (xs : List T) : (T.lst xs).toD = (T.toDs xs).map .list := rfl
@[simp] theorem toD_obj (c : Nat) (fs : List (Nat × T)) : (T.obj c fs).toD = none := rfl
@[simp] theorem toDs_nil : T.toDs [] = some [] := rfl
@[simp] theorem toDs_cons' (xs : List T) : T.toDs (t :: xs) = match t.toD, T.toDs xs with
    | some d, some ds => some (d :: ds)
    | _, _ => none := rfl
@[simp] theorem gAbs_ (i : Int) : gAbs [.int i] h = .ok (.int (if i < 0 then -i else i)) h := rfl
@[simp] theorem gMax_ (i j : Int) : gMax [.int i, .int j] h = .ok (.int (if j > i then j else i)) h := rfl
@[simp] theorem gMin_ (i j : Int) : gMin [.int i, .int j] h = .ok (.int (if j < i then j else i)) h := rfl
@[simp] theorem gDivmod_ (i j : Int) : gDivmod [.int i, .int j] h = if decide (0 < j) && fit j then .ok (.tup [.int (i / j), .int (i % j)]) h else .bad := rfl
end
@[simp] theorem sl_eq : sizeLine = 16777216 := sizeLine_eq
/-! ### sequences -/
def ixR (xs : List T) (i : Int) (h : Hm) : R T := match L2.atI xs i with
  | some t => .ok t h
  | none => .bad
@[simp] theorem ix_l (xs : List T) (i : Int) (h : Hm) : opIx (.lst xs) (.int i) h = ixR xs i h := rfl
@[simp] theorem ix_t (xs : List T) (i : Int) (h : Hm) : opIx (.tup xs) (.int i) h = ixR xs i h := rfl
theorem ix_r {l : Nat} {xs : List T} {h : Hm} (hl : h[l]? = some (some (.lst xs))) (i : Int) : opIx (.ref l) (.int i) h = ixR xs i h := by
  show (match seqOf (.ref l) h with
    | some xs => (match L2.atI xs i with
      | some t => R.ok t h
      | none => .bad)
    | none => .bad) = _
  have e : seqOf (.ref l) h = some xs := by
    show (match h[l]? with
    | some (some (.lst xs)) => some xs
    | _ => none) = _
    rw [hl]
  rw [e]
  rfl
theorem get_set {l : Nat} {h : Hm} (hlt : l < h.length) (c : Option Cell) : (h.set l c)[l]? = some c := List.getElem?_set_self hlt
/-- a number's text -/
def nT (i : Int) : Str := Str.ofString (toString i)
@[simp] theorem emp_app (a : Str) : Str.empty ++ a = a := PySem.Str.empty_append a
@[simp] theorem strL_e (ms : Ms) (xs : List T) (h : Hm) : gStrL ms xs h = if contT xs = true then .bad else gStr ms xs h := rfl
@[simp] theorem reprL_e (ms : Ms) (xs : List T) (h : Hm) : gReprL ms xs h = if contT xs = true then .bad else gRepr ms xs h := rfl
@[simp] theorem fmtL_e (ms : Ms) (x : T) (h : Hm) : oFmtL ms x h = if contT [x] = true then .bad else oFmt ms x h := rfl
@[simp] theorem contT_i (i : Int) : contT [.int i] = false := rfl
@[simp] theorem contT_s (i : Str) : contT [.str i] = false := rfl
@[simp] theorem contT_b (i : Bool) : contT [.bl i] = false := rfl
@[simp] theorem contT_n : contT [.non] = false := rfl
@[simp] theorem contT_o (c : Nat) (fs : List (Nat × T)) : contT [.obj c fs] = false := rfl
@[simp] theorem str_i (ms : Ms) (i : Int) (h : Hm) : gStr ms [.int i] h = if decide (i.natAbs.log2 < 1920) then .ok (.str (nT i)) h else .bad := rfl
@[simp] theorem str_s (ms : Ms) (s : Str) (h : Hm) : gStr ms [.str s] h = .ok (.str s) h := rfl
@[simp] theorem repr_l (ms : Ms) (xs : List T) (h : Hm) : gRepr ms [.lst xs] h = showD (.lst xs) h := rfl
@[simp] theorem fmt_i (ms : Ms) (i : Int) (h : Hm) : oFmt ms (.int i) h = if decide (i.natAbs.log2 < 1920) then .ok (.str (nT i)) h else .bad := rfl
@[simp] theorem asStr_ (s : Str) (h : Hm) : asStr (.str s) h = .ok (.str s) h := rfl
/-- small numbers fit -/
theorem fit_small {i : Int} (h1 : 0 ≤ i) (h2 : i ≤ 10 ^ 200) : fit i = true := fit_of (by
  have : (0 : Int) ≤ 10 ^ 200 := by decide +kernel
  omega) h2
theorem L18 : ((10 : Int) ^ 18) ≤ 10 ^ 200 := by decide +kernel
theorem L60 : ((10 : Int) ^ 60) ≤ 10 ^ 200 := by decide +kernel
theorem L75 : ((10 : Int) ^ 75) ≤ 10 ^ 200 := by decide +kernel
theorem log_small {i : Int} (h : fit i = true) : decide (i.natAbs.log2 < 1920) = true := decide_eq_true (fit_log h)
theorem len_app (a b : Str) : (a ++ b).length = a.length + b.length := PySem.Str.length_append a b
theorem int_len {i : Int} (h : fit i = true) : (nT i).length ≤ 1921 := PyProof.Rows.int_text_len_1921 (fit_log h)
theorem empty_len : Str.empty.length = 0 := rfl
/-! ### how long a shown datum is -/
def GoodS (x : Str) : Prop := ∀ c ∈ x.cps.toList, c < 16 ^ 8
theorem good_app {a b : Str} (h1 : GoodS a) (h2 : GoodS b) : GoodS (a ++ b) := fun c hc => by
  have e : (a ++ b).cps.toList = a.cps.toList ++ b.cps.toList := by
    rw [PySem.Str.cps_append, Array.toList_append]
  rw [e] at hc
  rcases List.mem_append.mp hc with z | z
  · exact h1 c z
  · exact h2 c z
theorem good_of (s : String) : GoodS (Str.ofString s) := fun c hc => by
  rw [Str.ofString_eq_toList] at hc
  have hc : c ∈ s.toList.map Char.toNat := by simpa using hc
  obtain ⟨ch, _, rfl⟩ := List.mem_map.mp hc
  have h := ch.valid
  simp only [UInt32.isValidChar, Nat.isValidChar] at h
  show ch.val.toNat < 16 ^ 8
  omega
theorem good_nT (i : Int) : GoodS (nT i) := good_of _
theorem good_empty : GoodS Str.empty := fun c hc => by
  have : Str.empty.cps.toList = [] := rfl
  rw [this] at hc
  cases hc
mutual
def est : PyData → Nat
  | .none => 4
  | .bool _ => 5
  | .int _ => 1921
  | .str x => 10 * x.length + 2
  | .list xs => estAll xs + 3
  | .tuple xs => estAll xs + 3
  | .dict _ => 0
def estAll : List PyData → Nat
  | [] => 0
  | x :: r => est x + 2 + estAll r
end
mutual
def GoodD : PyData → Prop
  | .none => True
  | .bool _ => True
  | .int i => i.natAbs.log2 < 1920
  | .str x => GoodS x
  | .list xs => GoodDs xs
  | .tuple xs => GoodDs xs
  | .dict _ => False
def GoodDs : List PyData → Prop
  | [] => True
  | x :: r => GoodD x ∧ GoodDs r
end
mutual
theorem shown_est : ∀ d : PyData, GoodD d → d.shown.length ≤ est d ∧ d.showable = true
  | .none, _ => ⟨by rw [PyData.shown, est]; decide, by rw [PyData.showable]⟩
  | .bool b, _ => ⟨by cases b <;> rw [PyData.shown, est] <;> decide, by rw [PyData.showable]⟩
  | .int i, g => by
    rw [GoodD] at g
    exact ⟨by rw [PyData.shown, est]; exact PyProof.Rows.int_text_len_1921 g, by rw [PyData.showable]; exact decide_eq_true g⟩
  | .str x, g => by
    rw [GoodD] at g
    exact ⟨by rw [PyData.shown, est]; exact PySem.StrLaws.reprText_len x g, by rw [PyData.showable]⟩
  | .list xs, g => by
    rw [GoodD] at g
    obtain ⟨h1, h2⟩ := shownAll_est xs g
    refine ⟨?_, by rw [PyData.showable]; exact h2⟩
    rw [PyData.shown, est]
    have := listText_len_le (PyData.shownAll xs)
    have := shownAll_len xs
    omega
  | .tuple xs, g => by
    rw [GoodD] at g
    obtain ⟨h1, h2⟩ := shownAll_est xs g
    refine ⟨?_, by rw [PyData.showable]; exact h2⟩
    rw [PyData.shown, est]
    have := tupleText_len_le (PyData.shownAll xs)
    have := shownAll_len xs
    omega
  | .dict _, g => by rw [GoodD] at g; exact g.elim
theorem shownAll_est : ∀ xs : List PyData, GoodDs xs → ((PyData.shownAll xs).map (·.length)).sum + 2 * xs.length ≤ estAll xs ∧ PyData.showableAll xs = true
  | [], _ => ⟨by rw [PyData.shownAll, estAll]; simp, by rw [PyData.showableAll]⟩
  | x :: r, g => by
    rw [GoodDs] at g
    obtain ⟨h1, h2⟩ := shown_est x g.1
    obtain ⟨h3, h4⟩ := shownAll_est r g.2
    refine ⟨?_, by rw [PyData.showableAll, h2, h4]; rfl⟩
    rw [PyData.shownAll, estAll]
    simp only [List.map_cons, List.sum_cons, List.length_cons]
    omega
theorem shownAll_len : ∀ xs : List PyData, (PyData.shownAll xs).length = xs.length
  | [] => by rw [PyData.shownAll]; rfl
  | x :: r => by rw [PyData.shownAll, List.length_cons, List.length_cons, shownAll_len r]
end
theorem showD_ok {x : T} {h : Hm} {d : PyData} (e : x.toDh h = some d) (g : GoodD d) (hz : est d ≤ 16777216) (hd : d.depth ≤ 100) : showD x h = .ok (.str d.shown) h := by
  obtain ⟨h1, h2⟩ := shown_est d g
  unfold showD
  rw [e]
  show (if d.showable && (decide (d.shown.length ≤ sizeLine) && decide (d.depth ≤ 100)) then R.ok (T.str d.shown) h else .bad) = _
  rw [h2, decide_eq_true hd, sizeLine_eq, decide_eq_true (Nat.le_trans h1 hz)]
  rfl
end RT
set_option Elab.async false
set_option linter.all false
set_option maxRecDepth 100000
set_option maxHeartbeats 4000000
/-! RT, part q: own getitem, methods called by contexts' facts, three names set at once, chained comparisons. -/
namespace RT
open PySem PySem.Spec L2
open PyProof.Rows hiding St
section
variable {C : RC} {P : Program} {w : World} {S : Sta} {mg : Str → Option Value} {base : Heap} {N : List Str} {sc : Scope} {k j : Nat} {pos : Pos}
theorem ix_plain (ok : C.Ok) {a b : Expr} (hs : PlainIx b) : OpT C (subscriptTail a b) opIx := by
  intro pins s σ H G h x y vx vy u w Q I rp rx ry vu vw o2
  refine ix_seq a b pins s σ H vx vy u w Q I vu vw ?_ (hs _ _)
  unfold opIx at o2
  split at o2
  · rename_i i
    cases ry
    split at o2
    · rename_i z
      cases rx
      split at o2
      · rename_i hz
        split at o2
        · rename_i c ec
          exact .inr (.inr ⟨z, i, c, rfl, rfl, hz, ec, out_ok o2 rp (.str _)⟩)
        · exact False.elim o2
      · exact False.elim o2
    · split at o2
      · rename_i xs exs
        split at o2
        · rename_i t et
          obtain ⟨a', vs, rfl, sq, rxs⟩ := seqOf_rel ok rp rx exs
          obtain ⟨v', e', rt⟩ := rxs.atI et
          rcases sq with sq | sq
          · exact .inl ⟨a', vs, i, v', rfl, rfl, sq, e', out_ok o2 rp rt⟩
          · exact .inr (.inl ⟨a', vs, i, v', rfl, rfl, sq, e', out_ok o2 rp rt⟩)
        · exact False.elim o2
      · exact False.elim o2
  · exact False.elim o2
/-- x[y], own classes first -/
def opIxK (ms : Ms) : O2 := fun x y h => match insOf x h with
  | some _ => dunB ms x [y] h
  | none => opIx x y h
theorem je_ixK (ok : C.Ok) {k : Nat} {ms : Ms} (hm : DuOk C k "__getitem__" 2 ms) (hk : k + 1 ≤ C.k) (hf : ∀ c g, ms c = some g → ∀ fa, PySem.W.findIn C.S.K (.ref (C.S.cls c)) "__getitem__" = some (some (.ref fa)) → PySem.W.fnIn C.S.K fa = true)
    {a b : Expr} {ra rb : ET} (ja : JE C a ra) (jb : JE C b rb) (hs : PlainIx b := by intro _ _; rfl)
    (hs2 : ∀ o i, subscripted b true o i = runValue (.builtin "lifetime.subscript" ⟨[o, i], []⟩) := by intro _ _; with_unfolding_all rfl) : JE C (.Subscript a b pos) (eOp (opIxK ms) ra rb) := by
  refine ⟨fun pins s σ H Q I hw => Subscript_ (two ja jb (f := subscriptTail a b) (fun pins s σ H G h x y vx vy u w Q I rp rx ry vu vw o => ?_) I hw)⟩
  unfold opIxK at o
  split at o
  · rename_i pr ei
    obtain ⟨c, fs'⟩ := pr
    have o' := o
    unfold dunB at o'
    rw [ei] at o'
    dsimp only at o'
    split at o'
    · rename_i g eg
      obtain ⟨a0, dx0, ws0, rfl, ea0, _⟩ := insOf_rel rp rx ei
      obtain ⟨a1, c1, dx, fs, e1, ea, fa, q1, q2, q3⟩ := dunB_run (n := 1) ok hm (A := C.X.A.in1) (ok.blw hk).in1 I rp rx (.cons ry .nil) (.cons vw .nil) rfl o
      cases e1
      rw [ea0] at ea
      cases ea
      cases vu
      obtain ⟨ox, od, J⟩ := inst_of I ea0
      obtain ⟨m, hF⟩ := I.fr
      have q1' := q1
      rw [← ok.K] at q1'
      have hfn := hf c g eg fa q1'
      rw [ok.K] at hfn
      exact PySem.W.sub_K hF I.ok.mod.kin J q1 hfn q2 (q3 s I) (hs2 _ _)
    · exact False.elim o'
  · exact ix_plain ok hs pins s σ H G h x y vx vy u w Q I rp rx ry vu vw o

theorem ixK_ (cf : Cf C P w S mg base N sc k) {ms : Ms} (hm : DuOk C j "__getitem__" 2 ms) (hj : j + 1 ≤ k) (hf : ∀ c g, ms c = some g → ∀ fa, PySem.W.findIn S.K (.ref (S.cls c)) "__getitem__" = some (some (.ref fa)) → PySem.W.fnIn S.K fa = true)
    {a b : Expr} {ra rb : ET} (ja : JE C a ra) (jb : JE C b rb) (hs : PlainIx b := by intro _ _; rfl)
    (hs2 : ∀ o i, subscripted b true o i = runValue (.builtin "lifetime.subscript" ⟨[o, i], []⟩) := by intro _ _; with_unfolding_all rfl) : JE C (.Subscript a b pos) (eOp (opIxK ms) ra rb) :=
  je_ixK cf.ok hm (by rw [cf.k]; exact hj) (by rw [cf.S]; exact hf) ja jb hs hs2

/-! ### methods -/
theorem ms_of (cf : Cf C P w S mg base N sc k) {f : Str} {n : Nat} {ks : List Str} {ms : Nat → Option O3}
    (h : ∀ c g, ms c = some g → Cls S.K (S.cls c) ∧ ∃ a, Meth S.K (S.cls c) f a ∧ CaK C (.ref a) (n + 1) ks g) : MsOk C f n ks ms := by
  have e := cf.S
  subst e
  exact h
variable {o e1 : Expr} {es : List Expr} {f : Str} {ro : ET} {ra rk : AT} {apos : Pos} {ms : Nat → Option O3} {n : Nat} {ks : List Str} {kws : List Keyword}
theorem meth_ (cf : Cf C P w S mg base N sc k) (fi : Nat) (hm : MsOk C f n [] ms) (jo : JE C o ro) (ja : JA C (e1 :: es) ra) {pl : Sem Bool} (ef : S.fld fi = f := by rfl) (hf : fi < S.nf := by exact Nat.le_of_ble_eq_true rfl)
    (hst : starEach (e1 :: es) C.X.env = (false, eval e1 C.X.env) :: starEach es C.X.env := by rfl) (hpl : (backTo pos (starEach es C.X.env)).any (·.1) = false := by rfl)
    (ht : eval (.Call (.Attribute o f apos) (e1 :: es) [] pos) C.X.env = (do
      let ov ← eval o C.X.env
      standAt apos.atName
      let (f, first) ← holding [ov] (getMethod ov f pl)
      callWith pos f first (backTo pos (starEach (e1 :: es) C.X.env)) (backToKw pos (keywordEach [] C.X.env))) := by rfl) : JE C (.Call (.Attribute o f apos) (e1 :: es) [] pos) (eMeth fi n 0 ms ro ra aNil) :=
  je_meth cf.ok jo (by rw [cf.S]; exact ef) (by rw [cf.S]; exact hf) hm ja hst hpl ht
theorem meth0_ (cf : Cf C P w S mg base N sc k) (fi : Nat) (hm : MsOk C f 0 [] ms) (jo : JE C o ro) {pl : Sem Bool} (ef : S.fld fi = f := by rfl) (hf : fi < S.nf := by exact Nat.le_of_ble_eq_true rfl)
    (ht : eval (.Call (.Attribute o f apos) [] [] pos) C.X.env = (do
      let ov ← eval o C.X.env
      standAt apos.atName
      let (f, first) ← holding [ov] (getMethod ov f pl)
      callWith pos f first (backTo pos (starEach [] C.X.env)) (backToKw pos (keywordEach [] C.X.env))) := by rfl) : JE C (.Call (.Attribute o f apos) [] [] pos) (eMeth fi 0 0 ms ro aNil aNil) :=
  je_meth0 cf.ok jo (by rw [cf.S]; exact ef) (by rw [cf.S]; exact hf) hm ht
theorem methK0_ (cf : Cf C P w S mg base N sc k) (fi : Nat) (hm : MsOk C f 0 ks ms) (jo : JE C o ro) (jk : JK C kws rk) {pl : Sem Bool} (ef : S.fld fi = f := by rfl) (hf : fi < S.nf := by exact Nat.le_of_ble_eq_true rfl)
    (hall : (backToKw pos (keywordEach kws C.X.env)).all (·.1.isSome) = true := by rfl) (hks : (backToKw pos (keywordEach kws C.X.env)).filterMap (·.1) = ks := by rfl)
    (hpl : ((backTo pos (starEach [] C.X.env)).any (·.1) || (backToKw pos (keywordEach kws C.X.env)).any (·.1.isNone)) = false := by rfl)
    (ht : eval (.Call (.Attribute o f apos) [] kws pos) C.X.env = (do
      let ov ← eval o C.X.env
      standAt apos.atName
      let (f, first) ← holding [ov] (getMethod ov f pl)
      callWith pos f first (backTo pos (starEach [] C.X.env)) (backToKw pos (keywordEach kws C.X.env))) := by rfl) : JE C (.Call (.Attribute o f apos) [] kws pos) (eMeth fi 0 ks.length ms ro aNil rk) :=
  je_methK0 cf.ok jo (by rw [cf.S]; exact ef) (by rw [cf.S]; exact hf) hm jk hall hks hpl ht
@[simp] theorem eMeth_ (mi n m : Nat) (ms : Nat → Option O3) (ro : ET) (ra rk : AT) (st : StT) (h : Hm) : eMeth mi n m ms ro ra rk st h = (ro st h).bind fun x h1 => match insOf x h1 with
  | some (c, fs) => (match ms c, fs.lookup mi with
    | some g, none => (ra st h1).bind fun xs h2 => (rk st h2).bind fun zs h3 => if xs.length = n ∧ zs.length = m then g (x :: xs) zs h3 else .bad
    | _, _ => .bad)
  | none => .bad := rfl

/-! ### a, b, c = x, y, z -/
def sPar3 (i j l : Nat) (e : AT) : SM := fun a h => (e a h).th a fun ts h1 => match ts with
  | [x, y, z] => .ok (.nx (((a.set i (some x)).set j (some y)).set l (some z))) h1
  | _ => .bad
theorem js_par3 (ok : C.Ok) (hc : C.S.mo = none) {i j l : Nat} {x y z : Str} {a b c : Expr} {r : AT} {px py pz pt : Pos} {kt k2 pt2} (hi : C.X.N[i]? = some x) (hj : C.X.N[j]? = some y) (hl : C.X.N[l]? = some z) (hij : i ≠ j) (hil : i ≠ l) (hjl : j ≠ l)
    (hx : C.X.env.scope.names.lookup x = some .local) (hy : C.X.env.scope.names.lookup y = some .local) (hz : C.X.env.scope.names.lookup z = some .local) (ja : JA C [a, b, c] r)
    (hw : swappedStores [.Tuple [.Name x px, .Name y py, .Name z pz] kt pt] (.Tuple [a, b, c] k2 pt2) C.X.env = pure (some [x, y, z]))
    (hs : swapsWithSole [.Tuple [.Name x px, .Name y py, .Name z pz] kt pt] (.Tuple [a, b, c] k2 pt2) pos.line C.X.env = pure false := by rfl) :
    JS C (.Assign [.Tuple [.Name x px, .Name y py, .Name z pz] kt pt] (.Tuple [a, b, c] k2 pt2) pos) (sPar3 i j l r) := by
  refine ⟨fun pins s σ H D I hw' => ?_⟩
  obtain ⟨st, G, h, rp, rs, o⟩ := hw'
  refine (ps_par3 (ta := liA C r) (ok.calm hc) ok.nd hi hj hl hij hil hjl hx hy hz ja hw hs).run pins s σ H D I ⟨st, G, h, rp, rs, (OutS.bind (Rel := relA C) rs o).mono fun v H1 ⟨t, G1, h1, st1, rp1, rv, o1⟩ => ?_⟩
  dsimp only at o1
  split at o1
  · rename_i x' y' z'
    cases rv with
    | cons q1 q2 => cases q2 with
      | cons q3 q4 => cases q4 with
        | cons q5 q6 => cases q6 with
          | nil => exact ⟨_, _, _, rfl, o1 _ H1 G1 Step.refl rp1 ((((rs.step st1).set i q1).set j q3).set l q5)⟩
  · exact False.elim o1
theorem par3_ (cf : Cf C P w S mg base N sc k) {i j l : Nat} {x y z : Str} {a b c : Expr} {r : AT} {px py pz pt : Pos} {kt k2 pt2} (ja : JA C [a, b, c] r) (hi : N[i]? = some x := by rfl) (hj : N[j]? = some y := by rfl) (hl : N[l]? = some z := by rfl)
    (hij : i ≠ j := by decide) (hil : i ≠ l := by decide) (hjl : j ≠ l := by decide) (hx : loB sc x = true := by rfl) (hy : loB sc y = true := by rfl) (hz : loB sc z = true := by rfl)
    (hw : ∀ env : Env, swappedStores [.Tuple [.Name x px, .Name y py, .Name z pz] kt pt] (.Tuple [a, b, c] k2 pt2) { env with scope := sc } = pure (some [x, y, z]) := by intro _; rfl)
    (hs : swapsWithSole [.Tuple [.Name x px, .Name y py, .Name z pz] kt pt] (.Tuple [a, b, c] k2 pt2) pos.line C.X.env = pure false := by rfl) (hm0 : S.mo = none := by rfl) :
    JS C (.Assign [.Tuple [.Name x px, .Name y py, .Name z pz] kt pt] (.Tuple [a, b, c] k2 pt2) pos) (sPar3 i j l r) :=
  js_par3 cf.ok (cf.cold hm0) (cf.at_ hi) (cf.at_ hj) (cf.at_ hl) hij hil hjl (cf.lo hx) (cf.lo hy) (cf.lo hz) ja (by rw [cf.envE]; exact hw _) hs
theorem asg_ (cf : Cf C P w S mg base N sc k) {tg e : Expr} {r : ET} {g : GT} (j : JE C e r) (jg : JG C tg g) (hs : swapsWithSole [tg] e pos.line C.X.env = pure false := by rfl)
    (hw : ∀ env : Env, swappedStores [tg] e { env with scope := sc } = pure none := by intro _; rfl)
    (h1 : (assignEach [tg] C.X.env).map (·.2) = [assign tg C.X.env] := by rfl) : JS C (.Assign [tg] e pos) (sAsg r g) := js_asg j jg hs (by rw [cf.envE]; exact hw _) h1
/-! ### levels -/
theorem CaA.mono {f : Value} {n : Nat} {o : List T → Hm → R T} (c : CaA C j f n o) (h : j ≤ k) : CaA C k f n o :=
  fun A pins s σ H G hh xs vs us Q bl I rp rx vu l oo => c A pins s σ H G hh xs vs us Q (bl.mono h) I rp rx vu l oo
theorem du_mono {f : Str} {n : Nat} {ms : Ms} (d : DuOk C j f n ms) (h : j ≤ k := by decide) : DuOk C k f n ms := fun c g e =>
  let ⟨a, h1, h2, h3⟩ := d c g e
  ⟨a, h1, h2, h3.mono h⟩
theorem oe_mono {ow : Oe} (d : OeOk C j ow) (h : j ≤ k := by decide) : OeOk C k ow := ⟨fun c f e => let ⟨a, h1, h2, h3⟩ := d.call c f e; ⟨a, h1, h2, h3.mono h⟩, d.ne, d.first, d.refl⟩
/-! ### own binary operators -/
theorem own_ (cf : Cf C P w S mg base N sc k) {op : Operator} {ms : Ms} {o2 : O2} (ho : OpT C (binaryOp op) o2) (hm : DuOk C j (PySem.dunder op.info.2) 2 ms) (hs : ∀ c g, ms c = some g → PySem.W.selfFirst S.K (S.cls c) = true) (hj : j ≤ k) : OpT C (binaryOp op) (opOwn ms o2) :=
  op_own cf.ok ho hm (by rw [cf.S]; exact hs) (by rw [cf.k]; exact hj)
@[simp] theorem sPar3_ (i j l : Nat) (r : AT) (st : StT) (h : Hm) : sPar3 i j l r st h = (r st h).th st fun ts h1 => match ts with
  | [x, y, z] => .ok (.nx (((st.set i (some x)).set j (some y)).set l (some z))) h1
  | _ => .bad := rfl
end
end RT
set_option Elab.async false
set_option linter.all false
set_option maxRecDepth 100000
set_option maxHeartbeats 4000000
/-! RT, part r: more simp lemmas for plain proofs. -/
namespace RT
open PySem
section
variable (h : Hm) (nc : Nat) (ow : Oe) (ms : Ms)
theorem beq_dec {A : Type} [BEq A] [LawfulBEq A] [DecidableEq A] (a b : A) : (a == b) = decide (a = b) := by
  by_cases e : a = b
  · rw [decide_eq_true e]; exact beq_iff_eq.mpr e
  · rw [decide_eq_false e]; exact beq_eq_false_iff_ne.mpr e
/-! ### own index first -/
@[simp] theorem ixK_l (xs : List T) (i : Int) : opIxK ms (.lst xs) (.int i) h = ixR xs i h := rfl
@[simp] theorem ixK_t (xs : List T) (i : Int) : opIxK ms (.tup xs) (.int i) h = ixR xs i h := rfl
theorem ixK_r {l : Nat} {xs : List T} {h : Hm} (hl : h[l]? = some (some (.lst xs))) (i : Int) : opIxK ms (.ref l) (.int i) h = ixR xs i h := by
  have e : insOf (.ref l) h = none := by
    show (match h[l]? with
      | some (some (.ins c fs)) => some (c, fs)
      | _ => none) = _
    rw [hl]
  show (match insOf (.ref l) h with
    | some _ => dunB ms (.ref l) [.int i] h
    | none => opIx (.ref l) (.int i) h) = _
  rw [e]
  exact ix_r hl i
theorem ixK_o (c : Nat) (fs : List (Nat × T)) (y : T) : opIxK ms (.obj c fs) y h = dunB ms (.obj c fs) [y] h := rfl
@[simp] theorem dunB_o (c : Nat) (fs : List (Nat × T)) (xs : List T) : dunB ms (.obj c fs) xs h = match ms c with
  | some g => g (.obj c fs :: xs) h
  | none => .bad := rfl
/-! ### own == first -/
@[simp] theorem eqK_i (i : Int) (y : T) : opEqK nc ow (.int i) y h = opEq (.int i) y h := rfl
@[simp] theorem neK_i (i : Int) (y : T) : opNeK nc ow (.int i) y h = opNe (.int i) y h := rfl
@[simp] theorem eqK_b (i : Bool) (y : T) : opEqK nc ow (.bl i) y h = opEq (.bl i) y h := rfl
@[simp] theorem neK_b (i : Bool) (y : T) : opNeK nc ow (.bl i) y h = opNe (.bl i) y h := rfl
@[simp] theorem eqK_s (i : Str) (y : T) : opEqK nc ow (.str i) y h = opEq (.str i) y h := rfl
@[simp] theorem neK_s (i : Str) (y : T) : opNeK nc ow (.str i) y h = opNe (.str i) y h := rfl
@[simp] theorem eqK_l (i : List T) (y : T) : opEqK nc ow (.lst i) y h = opEq (.lst i) y h := rfl
@[simp] theorem neK_l (i : List T) (y : T) : opNeK nc ow (.lst i) y h = opNe (.lst i) y h := rfl
@[simp] theorem eqK_t (i : List T) (y : T) : opEqK nc ow (.tup i) y h = opEq (.tup i) y h := rfl
@[simp] theorem neK_t (i : List T) (y : T) : opNeK nc ow (.tup i) y h = opNe (.tup i) y h := rfl
@[simp] theorem eqK_n (y : T) : opEqK nc ow .non y h = opEq .non y h := rfl
@[simp] theorem neK_n (y : T) : opNeK nc ow .non y h = opNe .non y h := rfl
/-! ### data -/
@[simp] theorem toDh_bl (i : Bool) : T.toDh h (.bl i) = some (.bool i) := rfl
@[simp] theorem toDh_non : T.toDh h .non = some .none := rfl
@[simp] theorem toDh_obj (c : Nat) (fs : List (Nat × T)) : T.toDh h (.obj c fs) = none := rfl
@[simp] theorem toDh_emp : T.toDh h .emp = none := rfl
@[simp] theorem toD_emp : T.emp.toD = none := rfl
@[simp] theorem eqv_ii (i j : Int) : PyData.eqv (.int i) (.int j) = decide (i = j) := eqv_int i j
@[simp] theorem eqv_bb (i j : Bool) : PyData.eqv (.bool i) (.bool j) = decide (i = j) := by cases i <;> cases j <;> simp [PyData.eqv]
@[simp] theorem eqv_ib (i : Int) (j : Bool) : PyData.eqv (.int i) (.bool j) = decide (i = if j then 1 else 0) := by rw [PyData.eqv]; exact beq_dec _ _
@[simp] theorem eqv_bi (i : Int) (j : Bool) : PyData.eqv (.bool j) (.int i) = decide ((if j then 1 else 0) = i) := by rw [PyData.eqv]; exact beq_dec _ _
@[simp] theorem eqv_ss (a b : Str) : PyData.eqv (.str a) (.str b) = decide (a = b) := by rw [PyData.eqv]; exact beq_dec _ _
@[simp] theorem eqv_nn : PyData.eqv .none .none = true := by rw [PyData.eqv]
@[simp] theorem eqv_ll (a b : List PyData) : PyData.eqv (.list a) (.list b) = PyData.eqvAll a b := by rw [PyData.eqv]
@[simp] theorem eqv_tt (a b : List PyData) : PyData.eqv (.tuple a) (.tuple b) = PyData.eqvAll a b := by rw [PyData.eqv]
@[simp] theorem eqvA_nn : PyData.eqvAll [] [] = true := by rw [PyData.eqvAll]
@[simp] theorem eqvA_cc (x y : PyData) (a b : List PyData) : PyData.eqvAll (x :: a) (y :: b) = (PyData.eqv x y && PyData.eqvAll a b) := by rw [PyData.eqvAll]
@[simp] theorem eqvA_nc (y : PyData) (b : List PyData) : PyData.eqvAll [] (y :: b) = false := by rw [PyData.eqvAll]
@[simp] theorem eqvA_cn (y : PyData) (b : List PyData) : PyData.eqvAll (y :: b) [] = false := by rw [PyData.eqvAll]
@[simp] theorem eqv_ni (i : Int) : PyData.eqv .none (.int i) = false := by rw [PyData.eqv]
@[simp] theorem eqv_in (i : Int) : PyData.eqv (.int i) .none = false := by rw [PyData.eqv]
@[simp] theorem eqv_nl (i : List PyData) : PyData.eqv .none (.list i) = false := by rw [PyData.eqv]
@[simp] theorem eqv_nt (i : List PyData) : PyData.eqv .none (.tuple i) = false := by rw [PyData.eqv]
@[simp] theorem eqv_ln (i : List PyData) : PyData.eqv (.list i) .none = false := by rw [PyData.eqv]
@[simp] theorem eqv_tn (i : List PyData) : PyData.eqv (.tuple i) .none = false := by rw [PyData.eqv]
@[simp] theorem dep_i (i : Int) : (PyData.int i).depth = 0 := by rw [PyData.depth]
@[simp] theorem dep_b (i : Bool) : (PyData.bool i).depth = 0 := by rw [PyData.depth]
@[simp] theorem dep_s (i : Str) : (PyData.str i).depth = 0 := by rw [PyData.depth]
@[simp] theorem dep_n : PyData.none.depth = 0 := by rw [PyData.depth]
@[simp] theorem dep_l (xs : List PyData) : (PyData.list xs).depth = PyData.depthAll xs + 1 := by rw [PyData.depth]
@[simp] theorem dep_t (xs : List PyData) : (PyData.tuple xs).depth = PyData.depthAll xs + 1 := by rw [PyData.depth]
@[simp] theorem depA_n : PyData.depthAll [] = 0 := by rw [PyData.depthAll]
@[simp] theorem depA_c (x : PyData) (xs : List PyData) : PyData.depthAll (x :: xs) = max x.depth (PyData.depthAll xs) := by rw [PyData.depthAll]
def eqR (x y : Option PyData) (h : Hm) : R T := match x, y with
  | some a, some b => if min a.depth b.depth ≤ 150 then .ok (.bl (PyData.eqv a b)) h else .bad
  | _, _ => .bad
def neR (x y : Option PyData) (h : Hm) : R T := match x, y with
  | some a, some b => if min a.depth b.depth ≤ 150 then .ok (.bl (!PyData.eqv a b)) h else .bad
  | _, _ => .bad
@[simp] theorem eqR_s (a b : PyData) : eqR (some a) (some b) h = if min a.depth b.depth ≤ 150 then .ok (.bl (PyData.eqv a b)) h else .bad := rfl
@[simp] theorem neR_s (a b : PyData) : neR (some a) (some b) h = if min a.depth b.depth ≤ 150 then .ok (.bl (!PyData.eqv a b)) h else .bad := rfl
@[simp] theorem opEq_b (i : Bool) (y : T) : opEq (.bl i) y h = eqR (some (.bool i)) (y.toDh h) h := rfl
@[simp] theorem opNe_b (i : Bool) (y : T) : opNe (.bl i) y h = neR (some (.bool i)) (y.toDh h) h := rfl
@[simp] theorem opEq_s (i : Str) (y : T) : opEq (.str i) y h = eqR (some (.str i)) (y.toDh h) h := rfl
@[simp] theorem opNe_s (i : Str) (y : T) : opNe (.str i) y h = neR (some (.str i)) (y.toDh h) h := rfl
@[simp] theorem opEq_l (i : List T) (y : T) : opEq (.lst i) y h = eqR ((T.toDs i).map .list) (y.toDh h) h := rfl
@[simp] theorem opNe_l (i : List T) (y : T) : opNe (.lst i) y h = neR ((T.toDs i).map .list) (y.toDh h) h := rfl
@[simp] theorem opEq_t (i : List T) (y : T) : opEq (.tup i) y h = eqR ((T.toDs i).map .tuple) (y.toDh h) h := rfl
@[simp] theorem opNe_t (i : List T) (y : T) : opNe (.tup i) y h = neR ((T.toDs i).map .tuple) (y.toDh h) h := rfl
@[simp] theorem opEq_n (y : T) : opEq .non y h = eqR (some .none) (y.toDh h) h := rfl
@[simp] theorem opNe_n (y : T) : opNe .non y h = neR (some .none) (y.toDh h) h := rfl
theorem toDs_ints (ns : List Int) : T.toDs (ns.map T.int) = some (ns.map PyData.int) := by
  induction ns with
  | nil => rfl
  | cons n ns ih => rw [List.map_cons, toDs_cons', ih]; rfl
theorem toDs_bools (ns : List Bool) : T.toDs (ns.map T.bl) = some (ns.map PyData.bool) := by
  induction ns with
  | nil => rfl
  | cons n ns ih => rw [List.map_cons, toDs_cons', ih]; rfl
theorem depA_ints (ns : List Int) : PyData.depthAll (ns.map PyData.int) = 0 := by
  induction ns with
  | nil => simp
  | cons n ns ih => simp [ih]
theorem depA_bools (ns : List Bool) : PyData.depthAll (ns.map PyData.bool) = 0 := by
  induction ns with
  | nil => simp
  | cons n ns ih => simp [ih]
theorem eqvA_ints : ∀ ns ms : List Int, PyData.eqvAll (ns.map PyData.int) (ms.map PyData.int) = decide (ns = ms)
  | [], [] => by simp
  | [], _ :: _ => by simp
  | _ :: _, [] => by simp
  | n :: ns, m :: ms => by
    rw [List.map_cons, List.map_cons, eqvA_cc, eqv_ii, eqvA_ints ns ms]
    simp
theorem eqvA_bools : ∀ ns ms : List Bool, PyData.eqvAll (ns.map PyData.bool) (ms.map PyData.bool) = decide (ns = ms)
  | [], [] => by simp
  | [], _ :: _ => by simp
  | _ :: _, [] => by simp
  | n :: ns, m :: ms => by
    rw [List.map_cons, List.map_cons, eqvA_cc, eqv_bb, eqvA_bools ns ms]
    simp
theorem eq_ints (ns ms : List Int) : opEq (.lst (ns.map T.int)) (.lst (ms.map T.int)) h = .ok (.bl (decide (ns = ms))) h := by
  rw [opEq_l, toDh_lst, toDs_ints, toDs_ints]
  simp [depA_ints, eqvA_ints]
theorem eq_bools (ns ms : List Bool) : opEq (.lst (ns.map T.bl)) (.lst (ms.map T.bl)) h = .ok (.bl (decide (ns = ms))) h := by
  rw [opEq_l, toDh_lst, toDs_bools, toDs_bools]
  simp [depA_bools, eqvA_bools]
/-! ### None -/
@[simp] theorem isN_n : opIsN .non .non h = .ok (.bl true) h := rfl
@[simp] theorem isN_o (c : Nat) (fs : List (Nat × T)) : opIsN (.obj c fs) .non h = .ok (.bl false) h := rfl
@[simp] theorem isN_t (xs : List T) : opIsN (.tup xs) .non h = .ok (.bl false) h := rfl
@[simp] theorem isN_i (i : Int) : opIsN (.int i) .non h = .ok (.bl false) h := rfl
@[simp] theorem notN_n : opNotN .non .non h = .ok (.bl false) h := rfl
@[simp] theorem notN_o (c : Nat) (fs : List (Nat × T)) : opNotN (.obj c fs) .non h = .ok (.bl true) h := rfl
@[simp] theorem notN_t (xs : List T) : opNotN (.tup xs) .non h = .ok (.bl true) h := rfl
/-! ### in own classes -/
theorem inK_o (x : T) (c : Nat) (fs : List (Nat × T)) : opInK nc ow ms x (.obj c fs) h = (dunB ms (.obj c fs) [x] h).bind fun t h1 => (asB t h1).bind fun b h2 => .ok (.bl b) h2 := by
  have e : (isStr (.obj c fs) || bothData x (.obj c fs) h) = false := by
    show (false || (x.toD.isSome && false)) = false
    simp
  unfold opInK
  rw [e]
  rfl
/-! ### lists, tuples, all, any -/
@[simp] theorem gList_t (xs : List T) : gList [.tup xs] h = .ok (.lst xs) h := rfl
@[simp] theorem gList_l (xs : List T) : gList [.lst xs] h = .ok (.lst xs) h := rfl
@[simp] theorem gTuple_t (xs : List T) : gTuple [.tup xs] h = .ok (.tup xs) h := rfl
@[simp] theorem gTuple_l (xs : List T) : gTuple [.lst xs] h = .ok (.tup xs) h := rfl
@[simp] theorem gLen_l (xs : List T) : gLenK ms [.lst xs] h = .ok (.int (xs.length : Nat)) h := rfl
@[simp] theorem gLen_t (xs : List T) : gLenK ms [.tup xs] h = .ok (.int (xs.length : Nat)) h := rfl
def allR (o : Option Bool) (h : Hm) : R T := match o with
  | some b => .ok (.bl b) h
  | none => .bad
@[simp] theorem allR_s (b : Bool) : allR (some b) h = .ok (.bl b) h := rfl
@[simp] theorem gAll_l (xs : List T) : gAll [.lst xs] h = allR (allB xs) h := rfl
@[simp] theorem gAny_l (xs : List T) : gAny [.lst xs] h = allR (anyB xs) h := rfl
@[simp] theorem allB_n : allB [] = some true := rfl
@[simp] theorem allB_c (b : Bool) (r : List T) : allB (.bl b :: r) = (allB r).map (b && ·) := rfl
@[simp] theorem anyB_n : anyB [] = some false := rfl
@[simp] theorem anyB_c (b : Bool) (r : List T) : anyB (.bl b :: r) = (anyB r).map (b || ·) := rfl
theorem allB_map (bs : List Bool) : allB (bs.map T.bl) = some (bs.all id) := by
  induction bs with
  | nil => rfl
  | cons b bs ih => rw [List.map_cons, allB_c, ih]; rfl
theorem anyB_map (bs : List Bool) : anyB (bs.map T.bl) = some (bs.any id) := by
  induction bs with
  | nil => rfl
  | cons b bs ih => rw [List.map_cons, anyB_c, ih]; rfl
theorem allB_rep (n : Nat) : allB (List.replicate n (.bl true)) = some true := by
  induction n with
  | zero => rfl
  | succ n ih => rw [List.replicate_succ, allB_c, ih]; rfl
@[simp] theorem repr_i (ms : Ms) (i : Int) (h : Hm) : gRepr ms [.int i] h = if decide (i.natAbs.log2 < 1920) then .ok (.str (nT i)) h else .bad := rfl
@[simp] theorem repr_n (ms : Ms) (h : Hm) : gRepr ms [.non] h = .ok (.str "None") h := rfl
@[simp] theorem repr_b (ms : Ms) (b : Bool) (h : Hm) : gRepr ms [.bl b] h = .ok (.str (if b then "True" else "False")) h := rfl
@[simp] theorem repr_s (ms : Ms) (x : Str) (h : Hm) : gRepr ms [.str x] h = if (reprText x).length ≤ sizeLine then .ok (.str (reprText x)) h else .bad := rfl
@[simp] theorem str_n (ms : Ms) (h : Hm) : gStr ms [.non] h = .ok (.str "None") h := rfl
@[simp] theorem str_b (ms : Ms) (b : Bool) (h : Hm) : gStr ms [.bl b] h = .ok (.str (if b then "True" else "False")) h := rfl
@[simp] theorem repr_t (ms : Ms) (xs : List T) (h : Hm) : gRepr ms [.tup xs] h = showD (.tup xs) h := rfl
@[simp] theorem rangeT_0 (lo : Int) : rangeT lo 0 = [] := rfl
theorem rangeT_eq (lo : Int) (n : Nat) : rangeT lo n = ((List.range n).map fun i => lo + (i : Nat)).map T.int := by
  unfold rangeT
  rw [List.map_map]
  rfl
/-! ### comprehensions of any length -/
theorem lcL_map {g : GT} {tt : BT} {te : ET} {w : StT} (h : Hm) (f : T → Bool) (v : T → T) (gs : T → StT) : ∀ ts : List T,
    (∀ t ∈ ts, g t w h = .ok (gs t) h ∧ tt (gs t) h = .ok (f t) h ∧ (f t = true → te (gs t) h = .ok (v t) h)) → lcL g tt te w ts h = .ok ((ts.filter f).map v) h
  | [], _ => rfl
  | t :: ts, q => by
    obtain ⟨q1, q2, q3⟩ := q t (by simp)
    have ih := lcL_map h f v gs ts fun z hz => q z (by simp [hz])
    rw [lcL_cons, q1]
    dsimp only
    rw [q2]
    cases e : f t with
    | true =>
      dsimp only
      rw [q3 e]
      dsimp only
      rw [ih, List.filter_cons_of_pos e]
      rfl
    | false =>
      dsimp only
      rw [ih, List.filter_cons_of_neg (by simp [e])]
end
/-! ### the pool of a law's draws -/
def Pool (h : Hm) (l k : Nat) : Prop := ∃ s d : Int, h[l]? = some (some (.lst [.int s, .int d, .int (k : Int)])) ∧ 0 ≤ s ∧ s < 2147483323
theorem Pool.lt {h : Hm} {l k : Nat} (p : Pool h l k) : l < h.length := let ⟨_, _, e, _⟩ := p; (List.getElem?_eq_some_iff.mp e).1
theorem Pool.app {h : Hm} {l k : Nat} (p : Pool h l k) (h2 : Hm) : Pool (h ++ h2) l k := let ⟨s, d, e, q⟩ := p; ⟨s, d, by rw [List.getElem?_append_left p.lt]; exact e, q⟩
theorem Pool.other {h : Hm} {l k j : Nat} (p : Pool h l k) (c : Option Cell) (hj : j ≠ l) : Pool (h.set j c) l k := let ⟨s, d, e, q⟩ := p; ⟨s, d, by rw [List.getElem?_set_ne hj]; exact e, q⟩
theorem set_app {h : Hm} {l : Nat} (hl : l < h.length) (c : Option Cell) (h2 : Hm) : (h ++ h2).set l c = h.set l c ++ h2 := List.set_append_left l c hl
def LIMT : Int := 10 ^ 200
theorem limt {i : Int} (h1 : 0 ≤ i) (h2 : i ≤ LIMT) : fit i = true := fit_small h1 h2
theorem limt18 : (10 : Int) ^ 18 ≤ LIMT := by decide +kernel
theorem limt60 : (10 : Int) ^ 60 ≤ LIMT := by decide +kernel
theorem limt75 : (10 : Int) ^ 75 ≤ LIMT := by decide +kernel
theorem ixR_nat {xs : List T} {k : Nat} {t : T} (e : xs[k]? = some t) (h : Hm) : ixR xs (k : Int) h = .ok t h := by
  unfold ixR
  rw [L2.atI_nat e]
theorem cut_ints (ns : List Int) (l u : Option Int) : ∃ ms : List Int, cutT (ns.map T.int) l u = ms.map T.int := by
  unfold cutT
  exact ⟨(ns.drop _).take _, by rw [List.map_take, List.map_drop]⟩
def cellsN (ns : List Int) : Nat := max 2 (min ns.length 6)
theorem cellsN_le (ns : List Int) : cellsN ns ≤ 6 := by unfold cellsN; omega
theorem cellsN_eq (ns : List Int) : ((cellsN ns : Nat) : Int) = if 2 < (if 6 < (ns.length : Int) then (6 : Int) else (ns.length : Int)) then (if 6 < (ns.length : Int) then (6 : Int) else (ns.length : Int)) else 2 := by
  unfold cellsN
  split <;> split at * <;> omega
theorem small_nat {k n : Nat} (h : k ≤ n) (hn : n ≤ 1000000000000 := by decide) : small62 (k : Int) = true := by
  unfold small62
  rw [decide_eq_true (show -(2 ^ 62) ≤ (k : Int) by omega), decide_eq_true (show (k : Int) < 2 ^ 62 by omega)]
  rfl
theorem lc_trueL {n : Nat} (i : Nat) {st : StT} {te : ET} (hte : ∀ (k : Nat) (h : Hm), k ≤ n → ∃ h', te (st.set i (some (.int (k : Nat)))) h = .ok (.bl true) h') : ∀ (ks : List Nat) (h : Hm), (∀ k ∈ ks, k ≤ n) → ∃ h', lcL (gNm i) bYes te st (ks.map fun k => .int (0 + (k : Nat))) h = .ok (List.replicate ks.length (.bl true)) h'
  | [], h, _ => ⟨h, rfl⟩
  | k :: ks, h, hk => by
    obtain ⟨h1, e1⟩ := hte k h (hk k (by simp))
    obtain ⟨h', e4⟩ := lc_trueL i hte ks h1 fun z hz => hk z (by simp [hz])
    refine ⟨h', ?_⟩
    rw [List.map_cons, lcL_cons, Int.zero_add]
    simp only [gNm_, bYes_, e1, e4]
    rfl
theorem lc_true {n : Nat} (i : Nat) {st : StT} {te : ET} (hte : ∀ (k : Nat) (h : Hm), k ≤ n → ∃ h', te (st.set i (some (.int (k : Nat)))) h = .ok (.bl true) h') (v : Nat) (hv : v ≤ n) (h : Hm) : ∃ h', lcL (gNm i) bYes te st (rangeT 0 ((v : Nat) : Int).toNat) h = .ok (List.replicate v (.bl true)) h' := by
  obtain ⟨h', e⟩ := lc_trueL i hte (List.range v) h fun k hk => by have := List.mem_range.mp hk; omega
  rw [List.length_range] at e
  exact ⟨h', e⟩
theorem seq_nx {x y : SM} {st st' : StT} {h h' : Hm} (e : x st h = .ok (.nx st') h') : sSeq x y st h = y st' h' := by rw [sSeq_, e]
theorem seq_ret {x y : SM} {st : StT} {t : T} {h h' : Hm} (e : x st h = .ok (.ret t) h') : sSeq x y st h = .ok (.ret t) h' := by rw [sSeq_, e]
theorem sq_set_set (h : Hm) (l : Nat) (c d : Option Cell) : (h.set l c).set l d = h.set l d := List.set_set ..
theorem run_ret {n : Nat} {b : SM} {ts : List T} {h h' : Hm} {t : T} (e : b (st0 n ts) h = .ok (.ret t) h') (hn : t.noRef = true) : RT.run n b ts h = .ok t (h'.take h.length) := by
  rw [run_, e, endOf_ret, fin_ok, if_pos hn]
theorem run_nx {n : Nat} {b : SM} {ts : List T} {h h' : Hm} {st : StT} (e : b (st0 n ts) h = .ok (.nx st) h') : RT.run n b ts h = .ok .non (h'.take h.length) := by
  rw [run_, e, endOf_nx, fin_ok, if_pos nr_non]
theorem lc_rangeF {i : Nat} {st : StT} {tt : BT} {te : ET} {f : Nat → Bool} {v : Nat → T} (h : Hm) : ∀ ks : List Nat,
    (∀ k ∈ ks, tt (st.set i (some (.int (k : Int)))) h = .ok (f k) h ∧ (f k = true → te (st.set i (some (.int (k : Int)))) h = .ok (v k) h)) → lcL (gNm i) tt te st (ks.map fun (k : Nat) => .int (0 + (k : Int))) h = .ok ((ks.filter f).map v) h
  | [], _ => rfl
  | k :: ks, q => by
    obtain ⟨q1, q2⟩ := q k (by simp)
    have ih := lc_rangeF h ks fun z hz => q z (by simp [hz])
    rw [List.map_cons, lcL_cons, Int.zero_add, gNm_]
    dsimp only
    rw [q1]
    cases e : f k with
    | true =>
      dsimp only
      rw [q2 e]
      dsimp only
      rw [ih, List.filter_cons_of_pos e]
      rfl
    | false =>
      dsimp only
      rw [ih, List.filter_cons_of_neg (by simp [e])]
theorem lc_range {i : Nat} {st : StT} {te : ET} {v : Nat → T} (n : Nat) (h : Hm) (q : ∀ k, k < n → te (st.set i (some (.int (k : Int)))) h = .ok (v k) h) : lcL (gNm i) bYes te st (rangeT 0 n) h = .ok ((List.range n).map v) h := by
  have := lc_rangeF (i := i) (st := st) (tt := bYes) (te := te) (f := fun _ => true) (v := v) h (List.range n) fun k hk => ⟨rfl, fun _ => q k (List.mem_range.mp hk)⟩
  rw [List.filter_eq_self.mpr (by simp)] at this
  exact this
theorem lc_rangeT {i : Nat} {st : StT} {tt : BT} {te : ET} {f : Nat → Bool} {v : Nat → T} (n : Nat) (h : Hm) (q : ∀ k, k < n → tt (st.set i (some (.int (k : Int)))) h = .ok (f k) h ∧ te (st.set i (some (.int (k : Int)))) h = .ok (v k) h) : lcL (gNm i) tt te st (rangeT 0 n) h = .ok (((List.range n).filter f).map v) h :=
  lc_rangeF (i := i) (st := st) (tt := tt) (te := te) (f := f) (v := v) h (List.range n) fun k hk => ⟨(q k (List.mem_range.mp hk)).1, fun _ => (q k (List.mem_range.mp hk)).2⟩
end RT
set_option Elab.async false
set_option linter.all false
set_option maxRecDepth 100000
set_option maxHeartbeats 4000000
/-! RT, part s: while loops in plain proofs. -/
namespace RT
open PySem
section
variable {c : BT} {b : SM}
theorem whileN_succ (n : Nat) (st : StT) (h : Hm) : whileN c b (n + 1) st h = (c st h).th st fun t h1 => if t then (match b st h1 with
    | .ok (.nx a') h' => whileN c b n a' h'
    | .ok (.cont a') h' => whileN c b n a' h'
    | .ok (.brk a') h' => .ok (.nx a') h'
    | r => r) else .ok (.nx st) h1 := rfl
theorem whileN_mono : ∀ (n : Nat) (st : StT) (h : Hm), (whileN c b n st h).isBad = false → ∀ m, n ≤ m → whileN c b m st h = whileN c b n st h
  | 0, st, h, e, _, _ => by cases e
  | n + 1, st, h, e, m, hm => by
    obtain ⟨m, rfl⟩ : ∃ k, m = k + 1 := ⟨m - 1, by omega⟩
    rw [whileN_succ] at e
    rw [whileN_succ, whileN_succ]
    cases q : c st h with
    | ok t h1 =>
      rw [q] at e
      simp only [th_ok] at e ⊢
      cases t with
      | false => rfl
      | true =>
        simp only [if_true] at e ⊢
        cases r : b st h1 with
        | ok x h' =>
          rw [r] at e
          cases x with
          | nx a' => exact whileN_mono n a' h' e m (by omega)
          | cont a' => exact whileN_mono n a' h' e m (by omega)
          | _ => rfl
        | _ => rfl
    | _ => rfl
theorem sWhile_eq {n : Nat} {st : StT} {h : Hm} (e : (whileN c b n st h).isBad = false) : sWhile c b st h = whileN c b n st h := by
  have ex : ∃ n, (whileN c b n st h).isBad = false := ⟨n, e⟩
  unfold sWhile
  rw [dif_pos ex]
  have e2 := Classical.choose_spec ex
  rcases Nat.le_total n (Classical.choose ex) with l | l
  · exact whileN_mono n st h e _ l
  · exact (whileN_mono _ st h e2 _ l).symm
/-- a loop by an invariant and a measure; its heap may change -/
theorem while_ok (I : StT → Hm → Prop) (μ : StT → Nat) (Q : StT → Hm → Prop)
    (step : ∀ st h, I st h → (c st h = .ok false h ∧ Q st h) ∨ (c st h = .ok true h ∧ ∃ st' h', b st h = .ok (.nx st') h' ∧ I st' h' ∧ μ st' < μ st)) :
    ∀ (st : StT) (h : Hm), I st h → ∃ st' h', sWhile c b st h = .ok (.nx st') h' ∧ Q st' h' := by
  have key : ∀ (k : Nat) (st : StT) (h : Hm), μ st ≤ k → I st h → ∃ n st' h', whileN c b n st h = .ok (.nx st') h' ∧ Q st' h' := by
    intro k
    induction k with
    | zero =>
      intro st h hk i
      rcases step st h i with ⟨e, q⟩ | ⟨e, st', h', e2, i2, lt⟩
      · exact ⟨1, st, h, by rw [whileN_succ, e]; rfl, q⟩
      · omega
    | succ k ih =>
      intro st h hk i
      rcases step st h i with ⟨e, q⟩ | ⟨e, st', h', e2, i2, lt⟩
      · exact ⟨1, st, h, by rw [whileN_succ, e]; rfl, q⟩
      · obtain ⟨n, st2, h2, e3, q⟩ := ih st' h' (by omega) i2
        exact ⟨n + 1, st2, h2, by rw [whileN_succ, e]; simp only [th_ok, if_true]; rw [e2]; exact e3, q⟩
  intro st h i
  obtain ⟨n, st', h', e, q⟩ := key _ st h (Nat.le_refl _) i
  exact ⟨st', h', by rw [sWhile_eq (n := n) (by rw [e]; rfl), e], q⟩
/-- the heap stays -/
theorem while_h (h : Hm) (I : StT → Prop) (μ : StT → Nat) (Q : StT → Prop)
    (step : ∀ st, I st → (c st h = .ok false h ∧ Q st) ∨ (c st h = .ok true h ∧ ∃ st', b st h = .ok (.nx st') h ∧ I st' ∧ μ st' < μ st)) (st : StT) (i : I st) :
    ∃ st', sWhile c b st h = .ok (.nx st') h ∧ Q st' := by
  obtain ⟨st', h', e, hq, q⟩ := while_ok (c := c) (b := b) (fun st h' => h' = h ∧ I st) μ (fun st h' => h' = h ∧ Q st) (fun st h' ⟨e, i⟩ => by
    subst e
    rcases step st i with ⟨e, q⟩ | ⟨e, st', e2, i2, lt⟩
    · exact .inl ⟨e, rfl, q⟩
    · exact .inr ⟨e, st', h', e2, ⟨rfl, i2⟩, lt⟩) st h ⟨rfl, i⟩
  subst hq
  exact ⟨st', e, q⟩
end
theorem fit_abs {i j : Int} (h1 : -j ≤ i) (h2 : i ≤ j) (f : fit j = true) : fit i = true := by
  have := fit_lt f
  unfold fit
  refine decide_eq_true ?_
  show i.natAbs < 2 ^ 1900
  omega
/-- for k in range(n), by an invariant -/
theorem for_rng {i : Nat} {b : SM} (I : Nat → StT → Hm → Prop) (n : Nat) (step : ∀ k st h, k < n → I k st h → ∃ st' h', b (st.set i (some (.int (k : Int)))) h = .ok (.nx st') h' ∧ I (k + 1) st' h') (st : StT) (h : Hm) (h0 : I 0 st h) :
    ∃ st' h', forL (gNm i) b (rangeT 0 n) st h = .ok (.nx st') h' ∧ I n st' h' := by
  have key : ∀ (m k : Nat) (st : StT) (h : Hm), k + m = n → I k st h → ∃ st' h', forL (gNm i) b ((List.range' k m).map fun (k : Nat) => T.int (0 + (k : Int))) st h = .ok (.nx st') h' ∧ I n st' h' := by
    intro m
    induction m with
    | zero =>
      intro k st h e i0
      have : k = n := by omega
      subst this
      exact ⟨st, h, rfl, i0⟩
    | succ m ih =>
      intro k st h e i0
      obtain ⟨st1, h1, e1, i1⟩ := step k st h (by omega) i0
      obtain ⟨st2, h2, e2, i2⟩ := ih (k + 1) st1 h1 (by omega) i1
      refine ⟨st2, h2, ?_, i2⟩
      rw [List.range'_succ, List.map_cons, forL_cons, Int.zero_add, gNm_]
      dsimp only
      rw [e1]
      exact e2
  obtain ⟨st', h', e, q⟩ := key n 0 st h (by omega) h0
  refine ⟨st', h', ?_, q⟩
  unfold rangeT
  rw [List.range_eq_range']
  exact e
end RT
set_option Elab.async false
set_option linter.all false
set_option maxRecDepth 100000
set_option maxHeartbeats 4000000
/-! RT, part t: lists that are filled: append, pop, extend; a list cell frozen. -/
namespace RT
open PySem PySem.Spec L2
open PyProof.Rows hiding St
section
variable {C : RC} {P : Program} {w : World} {S : Sta} {mg : Str → Option Value} {base : Heap} {N : List Str} {sc : Scope} {k j : Nat} {pos : Pos}
/-! ### frozen by a ghost step -/
def sFrz (i : Nat) : SM := fun a h => match a[i]? with
  | some (some (.ref l)) => (match h[l]? with
    | some (some (.lst xs)) => .ok (.nx (a.set i (some (.lst xs)))) (h.set l none)
    | _ => .bad)
  | _ => .ok (.nx a) h
theorem set_same {A : Type} {xs : List A} {i : Nat} {x : A} (h : xs[i]? = some x) : xs.set i x = xs := by
  apply List.ext_getElem?
  intro j
  by_cases e : i = j
  · subst e
    rw [List.getElem?_set_self (List.getElem?_eq_some_iff.mp h).1, h]
  · rw [List.getElem?_set_ne e]
theorem jss_frz (i : Nat) {rest : List Stmt} {r : SM} (j : JSs C rest r) : JSs C rest (sSeq (sFrz i) r) := by
  refine ⟨fun pins s σ H D I hw => ?_⟩
  obtain ⟨a, G, h, rp, rs, o⟩ := hw
  have go : ∀ (a1 : StT) (h1 : Hm), sFrz i a h = .ok (.nx a1) h1 → OutS C H G (r a1 h1) D := fun a1 h1 e => by
    unfold sSeq at o
    rw [e] at o
    exact o
  by_cases hl : ∃ l, a[i]? = some (some (.ref l))
  · obtain ⟨l, el⟩ := hl
    by_cases hx : ∃ xs, h[l]? = some (some (.lst xs))
    · obtain ⟨xs, ex⟩ := hx
      have o' := go (a.set i (some (.lst xs))) (h.set l none) (by unfold sFrz; rw [el]; dsimp only; rw [ex])
      obtain ⟨v, e1, rv⟩ := rs.2 i _ el
      cases rv with
      | ref hmu =>
        rename_i p
        obtain ⟨p', u, k1, k2, k3, k4, k5⟩ := rp.cell l _ ex
        rw [hmu] at k1
        cases k1
        cases k3 with
        | lst rvs =>
          obtain ⟨st, rp2⟩ := rp.freeze hmu (by rw [k2]; simp)
          have rs2 := (rs.step st).set i (t := .lst xs) (v := .ref p) (.lst (.inl ⟨.inl rfl, .inl k2⟩) (rvs.step st))
          rw [set_same e1] at rs2
          exact j.run I rp2 rs2 (o'.step st)
    · exfalso
      have e : sFrz i a h = .bad := by
        unfold sFrz
        rw [el]
        dsimp only
        split
        · rename_i xs ex
          exact absurd ⟨xs, ex⟩ hx
        · rfl
      unfold sSeq at o
      rw [e] at o
      exact o
  · refine j.run I rp rs (go a h ?_)
    unfold sFrz
    split
    · rename_i l el
      exact absurd ⟨l, el⟩ hl
    · rfl
@[simp] theorem sFrz_ (i : Nat) (a : StT) (h : Hm) : sFrz i a h = match a[i]? with
  | some (some (.ref l)) => (match h[l]? with
    | some (some (.lst xs)) => .ok (.nx (a.set i (some (.lst xs)))) (h.set l none)
    | _ => .bad)
  | _ => .ok (.nx a) h := rfl

/-! ### methods of list cells -/
/-- x.m(..), x a list cell: what is handed back, what the list is then -/
def eCell (f : List T → List T → Option (T × List T)) (ro : ET) (ra : AT) : ET := fun a h => (ro a h).bind fun x h1 => match x with
  | .ref l => (match h1[l]? with
    | some (some (.lst _)) => (ra a h1).bind fun ys h2 => (match h2[l]? with
      | some (some (.lst xs)) => (match f xs ys with
        | some (t, zs) => .ok t (h2.set l (some (.lst zs)))
        | none => .bad)
      | _ => .bad)
    | _ => .bad)
  | _ => .bad
/-- a rule of it -/
def CellR (C : RC) (id : String) (f : List T → List T → Option (T × List T)) : Prop :=
  ∀ (pins : List (Addr × Obj)) (s : Shared) (σ : St) (H : Hp) (G : Gh) (h : Hm) (l : Nat) (p : Addr) (xs ys zs : List T) (t : T) (vx vs : List V) (us : List Value) (Q : VK), Inv C.X pins σ H s → RepH C.S H G h → G.mu[l]? = some p → h[l]? = some (some (.lst xs)) →
    H p = some (.lst vx) → RelTs C.S H G xs vx → T.noRefs xs = true → RelTs C.S H G ys vs → Vals vs us → f xs ys = some (t, zs) → Out C σ H G (relE C) (.ok t (h.set l (some (.lst zs)))) Q →
    wpAny (model C.X.prog C.X.w) C.X.A (call (.builtin id) (.ref p :: us)) (EP C.X pins σ Q) C.X.xe s
theorem cell_at {S : Sta} {H : Hp} {G : Gh} {h : Hm} (rp : RepH S H G h) {l : Nat} {p : Addr} {xs : List T} (hmu : G.mu[l]? = some p) (ex : h[l]? = some (some (.lst xs))) : ∃ vx, H p = some (.lst vx) ∧ RelTs S H G xs vx ∧ T.noRefs xs = true := by
  obtain ⟨p', u, k1, k2, k3, k4, k5⟩ := rp.cell l _ ex
  rw [hmu] at k1
  cases k1
  cases k3 with
  | lst rvs => exact ⟨_, k2, rvs, k5⟩
theorem je_cellM {f : List T → List T → Option (T × List T)} {name : Str} {id : String} (slot : Slot "list" name id) (hty : typeOf (.builtin id) = pure (.type "method_descriptor")) (hm : CellR C id f) {o e : Expr} {es : List Expr} {ro : ET} {ra : AT} {apos cpos : Pos} (jo : JE C o ro) (ja : JA C (e :: es) ra)
    (hbase : attributeBase o name C.X.env (eval o C.X.env) = eval o C.X.env := by rfl)
    (hfew : ((backTo cpos (starEach (e :: es) C.X.env)).all (fun x => !x.1) && (backToKw cpos (keywordEach [] C.X.env)).all (fun x => x.1.isSome)
      && decide ((e :: es).length + ([] : List Keyword).length + (if ([] : List Keyword).isEmpty then 0 else 1) < 30)) = true := by rfl)
    (hline : (apos.endLine == cpos.line) = true := by rfl) (hs : starEach (e :: es) C.X.env = (false, eval e C.X.env) :: starEach es C.X.env := by rfl) (hplain : (backTo cpos (starEach es C.X.env)).any (·.1) = false := by rfl) :
    JE C (.Call (.Attribute o name apos) (e :: es) [] cpos) (eCell f ro ra) := by
  refine ⟨fun pins s σ H Q I hw => ?_⟩
  obtain ⟨st, G, h, rp, rs, o1⟩ := hw
  refine wpAny_Call_method_late hbase hfew hline rfl (thn (jo.run I rp rs (Out.bind (Rel := relE C) o1)) fun v s1 ⟨x, H1, I1, r1, tx, G1, h1, st1, rp1, rx, o2⟩ => ?_)
  dsimp only at o2
  split at o2
  · rename_i l
    cases rx with
    | ref hmu =>
      rename_i p
      cases r1
      split at o2
      · rename_i xs0 ex0
        obtain ⟨vx0, hH0, _, _⟩ := cell_at rp1 hmu ex0
        obtain ⟨h1', h2'⟩ := tyV_is (T := "list") (x := .ref p) I1 rfl (.inl ⟨rfl, _, .inl (.inl hH0)⟩)
        refine ⟨"list", id, PySem.F.plainAttrs_list, slot, hty, h1', h2', ?_⟩
        have hA := ja.run cpos I1 rp1 (rs.step st1) (Out.bind (Rel := relA C) o2)
        rw [hs] at hA ⊢
        refine Calls.callWith_builtin (by show (false || (backTo cpos (starEach es C.X.env)).any (·.1)) = false; rw [hplain] <;> rfl) (Calls.evalArgs_plain ?_)
        refine thn hA fun us s2 ⟨vs, H2, I2, r2, ys, G2, h2, st2, rp2, rys, o3⟩ => ?_
        dsimp only at o3
        split at o3
        · rename_i xs ex
          split at o3
          · rename_i t zs ef
            have hmu2 := st2.get hmu
            obtain ⟨vx, hH, rxs, nx⟩ := cell_at rp2 hmu2 ex
            exact hm pins s2 σ H2 G2 h2 l p xs ys zs t vx vs us Q I2 rp2 hmu2 ex hH rxs nx rys r2 ef o3
          · exact False.elim o3
        · exact False.elim o3
      · exact False.elim o2
  · exact False.elim o2
def fAppend (xs ys : List T) : Option (T × List T) := match ys with
  | [y] => if decide (xs.length < sizeLine) && y.noRef then some (.non, xs ++ [y]) else none
  | _ => none
theorem cell_append : CellR C "list.append" fAppend := by
  intro pins s σ H G h l p xs ys zs t vx vs us Q I rp hmu ex hH rxs nx rys vu ef o
  unfold fAppend at ef
  split at ef
  · rename_i y
    split at ef
    · rename_i hc
      obtain ⟨hl, hn⟩ := band hc
      cases ef
      obtain ⟨vy, rfl, ry⟩ := rys.one
      obtain ⟨st, rp'⟩ := rp.set (o := .lst (vx ++ [vy])) hmu ex (c := .lst (xs ++ [y])) (.lst (rxs.app (.cons ry .nil))) (noRefs_app nx (by rw [T.noRefs, hn]; rfl))
      exact mt_append pins s σ H (.ref p) [vy] (.ref p) us Q I rfl vu ⟨p, vx, vy, rfl, rfl, hH, by rw [← rxs.length]; exact of_decide_eq_true hl, o .non _ _ st rp' .non⟩
    · cases ef
  · cases ef
def fPopAt (xs ys : List T) : Option (T × List T) := match ys with
  | [.int i] => if decide (-(2 ^ 63) ≤ i) && decide (i < 2 ^ 63) then (match seqIndex? i xs.length with
    | some k => (match xs[k]? with
      | some y => some (y, xs.eraseIdx k)
      | none => none)
    | none => none) else none
  | _ => none
theorem cell_popAt : CellR C "list.pop" fPopAt := by
  intro pins s σ H G h l p xs ys zs t vx vs us Q I rp hmu ex hH rxs nx rys vu ef o
  unfold fPopAt at ef
  split at ef
  · rename_i i
    split at ef
    · rename_i hc
      obtain ⟨b1, b2⟩ := band hc
      split at ef
      · rename_i k ek
        split at ef
        · rename_i y ey
          cases ef
          obtain ⟨vy, rfl, ry⟩ := rys.one
          cases ry
          obtain ⟨v, hv, rv⟩ := rxs.get ey
          obtain ⟨st, rp'⟩ := rp.set (o := .lst (vx.eraseIdx k)) hmu ex (c := .lst (xs.eraseIdx k)) (.lst (rxs.erase k)) (noRefs_erase nx)
          exact mt_popAt pins s σ H (.ref p) [.int i] (.ref p) us Q I rfl vu ⟨p, vx, i, k, v, rfl, rfl, hH, of_decide_eq_true b1, of_decide_eq_true b2, by rw [← rxs.length]; exact ek, hv, o v _ _ st rp' (rv.step st)⟩
        · cases ef
      · cases ef
    · cases ef
  · cases ef
def fExtend (xs ys : List T) : Option (T × List T) := match ys with
  | [.lst zs] => if decide (xs.length + zs.length ≤ sizeLine) && T.noRefs zs then some (.non, xs ++ zs) else none
  | _ => none
theorem cell_extend (ok : C.Ok) : CellR C "list.extend" fExtend := by
  intro pins s σ H G h l p xs ys zs t vx vs us Q I rp hmu ex hH rxs nx rys vu ef o
  unfold fExtend at ef
  split at ef
  · rename_i ws
    split at ef
    · rename_i hc
      obtain ⟨hl, hn⟩ := band hc
      have hl := of_decide_eq_true hl
      cases ef
      obtain ⟨vy, rfl, ry⟩ := rys.one
      cases ry with
      | lst hz rws =>
        rename_i b vw
        obtain ⟨u, rfl, ru⟩ := vals1 vu
        cases ru
        obtain ⟨its2, n2, r2, e2⟩ : ∃ (its2 : List Value) (n2 : Nat), Vals vw its2 ∧ s.heap.get? b = some { cls := .type "list", data := .seq its2.toArray n2 } := by
          rcases hz with ⟨_, rd⟩ | ⟨us, n, lk, _, r⟩
          · obtain ⟨_, its, n, r, e⟩ := rd.ok I.hok
            exact ⟨its, n, r, e⟩
          · rw [ok.K] at lk
            exact ⟨us, n, r, I.kIn b _ lk⟩
        obtain ⟨st, rp'⟩ := rp.set (o := .lst (vx ++ vw)) hmu ex (c := .lst (xs ++ ws)) (.lst (rxs.app rws)) (noRefs_app nx hn)
        obtain ⟨z, its, n, r, hl1, e⟩ := I.lstM hH
        have q1 := rxs.length
        have q2 := rws.length
        have q3 := r2.length
        have hsz : its.toArray.size + its2.toArray.size ≤ sizeLine := by rw [List.size_toArray, List.size_toArray]; omega
        have hlong : ¬ (!its.toArray.isEmpty && Builtin.List.listTooLong (its.toArray.size + its2.toArray.size)) = true := by
          rw [notLongL hsz, Bool.and_false]
          exact Bool.false_ne_true
        refine call_meets F.slot_list_extend ⟨_, e, rfl⟩ F.entry_list_extend (F.args_list_extend_2 _ _)
          (AutoSeq1.list_extend_list_list_0 p its.toArray n b its2.toArray n2 hlong (by rw [List.size_toArray]; omega) (by omega)) ⟨e, e2, ?_⟩
        refine ⟨.non, _, I.lset (its' := its ++ its2) hH e (by simp) (r.append r2) ?_, rfl, o .non _ _ st rp' .non⟩
        rw [List.length_append]
        omega
    · cases ef
  · cases ef
variable {o e : Expr} {es : List Expr} {ro : ET} {ra : AT} {apos cpos : Pos}
theorem app_ (cf : Cf C P w S mg base N sc k) (jo : JE C o ro) (ja : JA C [e] ra) (hbase : attributeBase o "append" C.X.env (eval o C.X.env) = eval o C.X.env := by rfl)
    (hline : (apos.endLine == cpos.line) = true := by rfl) (hs : starEach [e] C.X.env = (false, eval e C.X.env) :: starEach [] C.X.env := by rfl) : JE C (.Call (.Attribute o "append" apos) [e] [] cpos) (eCell fAppend ro ra) :=
  je_cellM PySem.F.slot_list_append PySem.F.type_list_append cell_append jo ja hbase (by rw [hs]; rfl) hline hs rfl
theorem pop1_ (cf : Cf C P w S mg base N sc k) (jo : JE C o ro) (ja : JA C [e] ra) (hbase : attributeBase o "pop" C.X.env (eval o C.X.env) = eval o C.X.env := by rfl)
    (hline : (apos.endLine == cpos.line) = true := by rfl) (hs : starEach [e] C.X.env = (false, eval e C.X.env) :: starEach [] C.X.env := by rfl) : JE C (.Call (.Attribute o "pop" apos) [e] [] cpos) (eCell fPopAt ro ra) :=
  je_cellM PySem.F.slot_list_pop PySem.F.type_list_pop cell_popAt jo ja hbase (by rw [hs]; rfl) hline hs rfl
theorem ext_ (cf : Cf C P w S mg base N sc k) (jo : JE C o ro) (ja : JA C [e] ra) (hbase : attributeBase o "extend" C.X.env (eval o C.X.env) = eval o C.X.env := by rfl)
    (hline : (apos.endLine == cpos.line) = true := by rfl) (hs : starEach [e] C.X.env = (false, eval e C.X.env) :: starEach [] C.X.env := by rfl) : JE C (.Call (.Attribute o "extend" apos) [e] [] cpos) (eCell fExtend ro ra) :=
  je_cellM PySem.F.slot_list_extend PySem.F.type_list_extend (cell_extend cf.ok) jo ja hbase (by rw [hs]; rfl) hline hs rfl
@[simp] theorem eCell_ (f : List T → List T → Option (T × List T)) (ro : ET) (ra : AT) (a : StT) (h : Hm) : eCell f ro ra a h = (ro a h).bind fun x h1 => match x with
  | .ref l => (match h1[l]? with
    | some (some (.lst _)) => (ra a h1).bind fun ys h2 => (match h2[l]? with
      | some (some (.lst xs)) => (match f xs ys with
        | some (t, zs) => .ok t (h2.set l (some (.lst zs)))
        | none => .bad)
      | _ => .bad)
    | _ => .bad)
  | _ => .bad := rfl
end
end RT
set_option Elab.async false
set_option linter.all false
set_option maxRecDepth 100000
set_option maxHeartbeats 4000000
/-! RT, part u: defs with a star parameter. -/
namespace RT
open PySem PySem.Spec L2
open PyProof.Rows hiding St
/-- m parameters, what is left over in a tuple -/
def arrV (m : Nat) (xs : List T) : List T := xs.take m ++ [.tup (xs.drop m)]
theorem rel_split {S : Sta} {H : Hp} {G : Gh} {xs : List T} {vs : List V} (m : Nat) (r : RelTs S H G xs vs) : RelTs S H G (xs.take m) (vs.take m) ∧ RelTs S H G (xs.drop m) (vs.drop m) := ⟨r.take m, r.drop m⟩
theorem vals_take {vs : List V} {us : List Value} (h : Vals vs us) : ∀ m, Vals (vs.take m) (us.take m) ∧ Vals (vs.drop m) (us.drop m) := by
  induction h with
  | nil => intro m; simp; exact .nil
  | cons a r ih =>
    intro m
    cases m with
    | zero => exact ⟨.nil, .cons a r⟩
    | succ m => exact ⟨.cons a (ih m).1, (ih m).2⟩
theorem fn_starG {P : Program} {w : World} {S : Sta} {mg : Str → Option Value} {base : Heap} {k : Nat} {f : Addr} {x qual : Str} {params : Arguments} {body : List Stmt} {scope : Scope} {kws : List (Str × V)} {fd : FuncData} {N ps : List Str} {pv : Str} {b : SM} {g : List T → Hm → R T}
    (F : FunD S.K x qual params body scope [] kws f fd) (Sc : FnScope N (ps ++ [pv]) scope)
    (hb : ∀ (kV doc pm cdv ct : Value) (an : Option Addr) (us rest : List Value), us.length = ps.length → bindArgs (PySem.W.fnOf x qual params body scope .none kV doc pm an cdv ct) ⟨us ++ rest, []⟩ = (newTuple rest >>= fun t => pure (ps.zip us ++ [(pv, t)])))
    (hg : ∀ ts H G h Q E, EndT S H G (g ts h) Q E → G.mu.length = h.length → EndT S H G (endOf (b (st0 N.length ts) h)) Q E)
    (hm0 : S.mo = none) (hbody : ∀ (C : RC), C.Ok → C.X.prog = P → C.X.w = w → C.S = S → C.X.mg = mg → C.X.base = base → C.X.N = N → C.X.env.scope = scope → C.k = k → (∀ y, C.X.fn y = true) → PassesOwn (model C.X.prog C.X.w) C.X.A C.X.env C.X.xe → C.X.stack = C.X.env :: C.X.outer → C.X.env.frame = some C.X.env.locals → C.X.ex = [] → JSs C body b)
    (n : Nat) (hn : ps.length ≤ n) (hz : n ≤ sizeLine) : FnC P w S mg base (k + 1) f n [] (fun xs _ h => g (arrV ps.length xs) h) := by
  obtain ⟨oc, od, dV, kV, doc, pm, an, cdv, ct, osl, rfl, lk, hcd, hD, _⟩ := F.ex
  obtain rfl : dV = .none := by
    rcases hD with ⟨_, e⟩ | ⟨e, _⟩
    · exact e
    · exact absurd rfl e
  refine ⟨fun A outer s H G h xs zs vs vz us ws Q E hr0 hpin gd e0 KX rp rx rz vu vw l1 l2 o => ?_⟩
  have hr := hr0.cold hm0
  have hws : ws = [] := by simpa using l2
  subst hws
  have lx : xs.length = n := by rw [rx.length, vu.length]; exact l1
  have lv : vs.length = n := by rw [vu.length]; exact l1
  obtain ⟨r1, r2⟩ := vals_take vu ps.length
  have hn0 : H s.heap.objs.size = Option.none := e0.hok.fresh (Nat.le_refl _)
  have hl1 : (us.take ps.length).length = ps.length := by rw [List.length_take]; omega
  have hl2 : (us.drop ps.length).length ≤ sizeLine := by rw [List.length_drop]; omega
  have hl3 : (vs.take ps.length).length = ps.length := by rw [List.length_take]; omega
  have hl4 : (vs.drop ps.length).length ≤ sizeLine := by rw [List.length_drop]; omega
  have eu : us = us.take ps.length ++ us.drop ps.length := (List.take_append_drop _ _).symm
  refine StX.run_bnd lk hcd Sc hr e0 (G := fun ys H2 => ∃ p, H p = Option.none ∧ ys = vs.take ps.length ++ [V.ref p] ∧ H2 = upd H p (.tup (vs.drop ps.length))) (fun A' Ex Q' hq => ?_) fun s2 H2 ys ⟨p, hp, ex, eH⟩ hr' => ?_
  · show wpAny _ _ (bindArgs _ ⟨us, []⟩) _ _ _
    rw [eu, hb _ _ _ _ _ _ _ _ hl1]
    refine wpAny_bind (wpAny_newTuple (wpAny_pure ?_) hl2)
    have new : ObjOk P w (upd H s.heap.objs.size (.tup (vs.drop ps.length))) (s.heap.push ({ cls := .type "tuple", data := .seq (us.drop ps.length).toArray } : Obj)) s.heap.objs.size (.tup (vs.drop ps.length)) := ⟨hl4, us.drop ps.length, r2, ⟨_, Heap.get?_push_size _ rfl, rfl, _, rfl⟩⟩
    have un := StX.un_laid (fs := frs outer) (s := s) (o := ({ cls := .type "tuple", data := .seq (us.drop ps.length).toArray } : Obj)) (u := .tup (vs.drop ps.length)) hn0
    have z := hq _ _ (vs.take ps.length ++ [V.ref s.heap.objs.size]) (us.take ps.length ++ [Value.ref s.heap.objs.size]) (StX.env0_laid e0 new) un rfl (fun e s' => StX.cxUp outer s H _ _ E e s' un (fun b o q => Heap.get?_push_of_some _ q) rfl) (r1.append (.cons rfl .nil))
      (by rw [List.length_append, List.length_append, hl3] <;> rfl) ⟨_, hn0, rfl, rfl⟩
    rw [List.zip_append hl1.symm] at z
    exact z
  · subst ex eH
    obtain ⟨st, rp'⟩ := rp.newF (o := .tup (vs.drop ps.length)) hp
    have rt : RelTs S (upd H p (.tup (vs.drop ps.length))) (G.fz p) (arrV ps.length xs) (vs.take ps.length ++ [V.ref p]) :=
      ((rx.take ps.length).step st).app (.cons (.tup (.inl ⟨.inl rfl, .inl upd_same⟩) ((rx.drop ps.length).step st)) .nil)
    have ok : (bodyC P w S mg base N qual scope f cdv A outer s2 (upd H p (.tup (vs.drop ps.length))) E k).Ok := by
      refine ⟨rfl, fun e => by show S.mo.isNone = true; rw [hm0]; rfl, .of hr', fun p e => by show p ∈ S.mo.toList; rw [show S.mo = some p from e]; simp, (GdK.mono (A := A) gd (Nat.le_succ k)), Sc.nd, ?_⟩
      exact takes_of (X := cxM S.mo (L2.CX P w) P w S.K mg base N qual scope f cdv A outer s2 (upd H p (.tup (vs.drop ps.length))) E) rfl rfl rfl rfl
    have jb := hbody (bodyC P w S mg base N qual scope f cdv A outer s2 (upd H p (.tup (vs.drop ps.length))) E k) ok rfl rfl rfl rfl rfl rfl rfl rfl (fun _ => rfl) (passes_of (X := cxM S.mo (L2.CX P w) P w S.K mg base N qual scope f cdv A outer s2 (upd H p (.tup (vs.drop ps.length))) E) rfl) rfl rfl rfl
    have jb' : PSs (cxOf (L2.CX P w) P w S.K mg base N qual scope f cdv A outer s2 (upd H p (.tup (vs.drop ps.length))) E) body (liS (bodyC P w S mg base N qual scope f cdv A outer s2 (upd H p (.tup (vs.drop ps.length))) E k) b) := by
      have e : cxM S.mo (L2.CX P w) P w S.K mg base N qual scope f cdv A outer s2 (upd H p (.tup (vs.drop ps.length))) E = cxOf (L2.CX P w) P w S.K mg base N qual scope f cdv A outer s2 (upd H p (.tup (vs.drop ps.length))) E := by
        rw [hm0]
        rfl
      rw [← e]
      exact jb
    refine ⟨_, jb', st0 N.length (arrV ps.length xs), G.fz p, h, rp', ?_, EndT.outS (fun _ _ _ _ z => z) (hg _ _ _ _ _ _ (o.step st) rp.len.symm)⟩
    have l2 := rt.length
    refine ⟨by unfold st0 L2.start; rw [List.length_append, List.length_append, List.length_map, List.length_map, List.length_replicate, List.length_replicate, l2], fun i t e => ?_⟩
    have hi : i < (arrV ps.length xs).length := by
      by_cases hi : i < (arrV ps.length xs).length
      · exact hi
      · unfold st0 at e
        rw [List.getElem?_append_right (by simpa using hi), List.getElem?_replicate] at e
        split at e <;> cases e
    have e1 : (arrV ps.length xs)[i]? = some t := by
      unfold st0 at e
      rw [List.getElem?_append_left (by simpa using hi), List.getElem?_map] at e
      cases q : (arrV ps.length xs)[i]? with
      | none => rw [q] at e; cases e
      | some a => rw [q] at e; cases e; rfl
    obtain ⟨v, h1, h2⟩ := rt.get e1
    refine ⟨v, ?_, h2⟩
    unfold L2.start
    rw [List.getElem?_append_left (by rw [List.length_map, ← l2]; exact hi), List.getElem?_map, h1]
    rfl
/-- its promise, by facts -/
structure FnV (P : Program) (w : World) (S : Sta) (mg : Str → Option Value) (base : Heap) (k : Nat) (d : He.DefD) (m : Nat) (g : List T → Hm → R T) : Prop where
  ex : (∃ fd, FunD S.K d.name d.qual d.params d.body d.scope (d.dvs S.K) (d.kws S.K) (He.fAd S.K d.at_) fd) ∧ ∀ n, m ≤ n → n ≤ sizeLine → FnC P w S mg base k (He.fAd S.K d.at_) n [] (fun xs _ h => g (arrV m xs) h)
section
variable {C : RC} {P : Program} {w : World} {S : Sta} {mg : Str → Option Value} {base : Heap} {N : List Str} {sc : Scope} {k j : Nat} {pos : Pos} {d : He.DefD} {m : Nat} {g : List T → Hm → R T}
theorem FnV.ca (F : FnV P w S mg base j d m g) (cf : Cf C P w S mg base N sc k) (n : Nat) (hm : m ≤ n) (hz : n ≤ 1000000) (hj : j ≤ k) : CaK C (.ref (He.fAd S.K d.at_)) n [] (fun xs _ h => g (arrV m xs) h) ∧ PySem.W.keepIn C.X.K (.ref (He.fAd S.K d.at_)) = true := by
  obtain ⟨⟨fd, FD⟩, FF⟩ := F.ex
  refine ⟨?_, by rw [cf.K]; exact FD.kp⟩
  have e1 := cf.prog
  have e2 := cf.w
  have e3 := cf.S
  have e4 := cf.mg
  have e5 := cf.base
  subst e1 e2 e3 e4 e5
  exact CaK.fnC cf.ok (FF n hm (by rw [sl_eq]; omega)) (by rw [cf.k]; exact hj)
theorem FnV.make (F : FnV P w S mg base j d m g) (cf : Cf C P w S mg base N sc k) (c n : Nat) (hm : m ≤ n + 1) (hz : n + 1 ≤ 1000000) (M : Mk S.K (S.cls c) (He.fAd S.K d.at_)) (hj : j + 1 ≤ k) : CaK C (.ref (S.cls c)) n [] (mkC c (fun xs _ h => g (arrV m xs) h)) ∧ PySem.W.keepIn C.X.K (.ref (S.cls c)) = true := by
  obtain ⟨⟨fd, FD⟩, FF⟩ := F.ex
  refine ⟨?_, by rw [cf.K]; exact M.kp⟩
  have e1 := cf.prog
  have e2 := cf.w
  have e3 := cf.S
  have e4 := cf.mg
  have e5 := cf.base
  subst e1 e2 e3 e4 e5
  exact CaK.makeC cf.ok M (FF (n + 1) hm (by rw [sl_eq]; omega)) (by rw [cf.k]; exact hj)
end
end RT
set_option Elab.async false
set_option linter.all false
set_option maxRecDepth 100000
set_option maxHeartbeats 4000000
/-! RT, part v: enumerate over a tuple. -/
namespace RT
open PySem PySem.Spec L2
open PyProof.Rows hiding St
theorem meets_enumT (t : Addr) (items : Array Value) :
    Meets (Builtin.«enumerate.__new__» ⟨[.type "enumerate", .ref t], []⟩) (fun _ R s => s.heap.IsTuple t items ∧
      R (.ok (.ret (.ref (s.heap.push { cls := .type "tuple_iterator", data := .fields #[.ref t, .int 0 0] }).objs.size)))
        { s with heap := (s.heap.push { cls := .type "tuple_iterator", data := .fields #[.ref t, .int 0 0] }).push { cls := .type "enumerate", data := .fields #[.none, .bool false, .ref s.heap.objs.size, rawInt 0, .none, .none] } }) :=
  .of_wp fun prog w A R s h => by
    obtain ⟨hp, g, d, tk, os⟩ := s
    obtain ⟨hL, h⟩ := h
    have hsub := sub_enumerate
    wp_walk using wpAny_pyIter_tuple hL
    refine wpAny_stack_any fun st => wpAny_pure ?_
    split
    · rename_i c _ _ _ _ _
      cases (c == Value.type "enumerate")
      · wp_walk using wpAny_pyIter_tuple hL
        exact ⟨_, rfl, h⟩
      · wp_walk using wpAny_pyIter_tuple hL
        exact ⟨_, rfl, h⟩
    · wp_walk using wpAny_pyIter_tuple hL
      exact ⟨_, rfl, h⟩
section
variable {prog : Program} {w : World} {A : Around} {E : Value → Shared → Prop} {s : Shared}
theorem call_enumT {t : Addr} {items : Array Value} {Q : Value → Shared → Prop} (hL : s.heap.IsTuple t items)
    (h : ∀ h', IsEnum h' (s.heap.objs.size + 1) s.heap.objs.size 0 .none → h'.IsTupleIter s.heap.objs.size t 0 → h'.objs.size = s.heap.objs.size + 2 →
      (∀ b o, s.heap.get? b = some o → h'.get? b = some o) → Q (.ref (s.heap.objs.size + 1)) { s with heap := h' }) :
    wpAny (model prog w) A (call (.type "enumerate") [.ref t]) Q E s := by
  refine callType_new F.called_enumerate (by decide) (F.typeCall_enumerate_1 _) (F.newCall_enumerate_1 _) (fun obj => F.args_object_init_2 obj _) F.entry_enumerate_new
    (meets_enumT t items) ⟨hL, ?_⟩
  have hz : (s.heap.push { cls := .type "tuple_iterator", data := .fields #[.ref t, .int 0 0] }).objs.size = s.heap.objs.size + 1 := Heap.size_push ..
  show _ ∧ _
  rw [hz]
  have he : IsEnum ((s.heap.push { cls := .type "tuple_iterator", data := .fields #[.ref t, .int 0 0] }).push
      { cls := .type "enumerate", data := .fields #[.none, .bool false, .ref s.heap.objs.size, rawInt 0, .none, .none] }) (s.heap.objs.size + 1) s.heap.objs.size 0 .none := by
    have := Heap.get?_push_size (s.heap.push { cls := .type "tuple_iterator", data := .fields #[.ref t, .int 0 0] })
      (o := { cls := .type "enumerate", data := .fields #[.none, .bool false, .ref s.heap.objs.size, rawInt 0, .none, .none] }) rfl
    rw [hz] at this; exact this
  refine ⟨⟨_, he, rfl⟩, h _ he ⟨_, Heap.get?_push_of_some _ (Heap.get?_push_size _ rfl), rfl, rfl⟩ (by rw [Heap.size_push, hz]) fun b o x => Heap.get?_push_of_some _ (Heap.get?_push_of_some _ x)⟩
theorem enumT_end {e it t : Addr} {i : Nat} {items : Array Value} {c : Int} {old : Value} {Q : Option Value → Shared → Prop} (hh : A.handled = none)
    (he : IsEnum s.heap e it c old) (hit : s.heap.IsTupleIter it t i) (ht : s.heap.IsTuple t items) (hx : items[i]? = none)
    (hQ : ∀ h', Heap.ExtBut it s.heap h' → Q none { s with heap := h' }) : wpAny (model prog w) A (pyNext (.ref e)) Q E s := by
  have hT : s.TypeIs (.ref e) "enumerate" := ⟨_, he, rfl⟩
  unfold pyNext
  refine wpAny_bind (wpAny_attempt (wpAny_callSpecial?_slot (name := Str.ofString "__next__") hT F.slot_enumerate_next
    (wpAny_call_entry F.slot_enumerate_next hT F.entry_enumerate_next ?_ (F.args_enumerate_next_1 _))))
  show wpAny _ _ (field (.ref e) 2 >>= _) _ _ _
  refine wpAny_bind (wpAny_field he rfl (x := .ref it) rfl ?_)
  refine wpAny_bind (wpAny_nextOf_tuple_end hh hit ht hx fun h' x he' hx' => ?_)
  obtain ⟨o, ho, hc⟩ := hx'
  refine wpAny_bind (wpAny_isInstance (T := "StopIteration") (b := true) ⟨o, ho, hc⟩ isSubtype_stop ?_)
  exact wpAny_pure (hQ _ he')
end
/-- the tuple at a, each item in a new pair with its number -/
def IteT (K : PySem.W.Frag) (a : Addr) : It :=
  ⟨fun i H => ∃ (xs : List V) (x : V), SqT K H a xs ∧ xs[i]? = some x, fun i H v H' => ∃ T x, v = .ref T ∧ H T = none ∧ H' = upd H T (.tup [.int (i : Nat), x]) ∧ ∀ xs, SqT K H a xs → xs[i]? = some x, fun i H => ∃ xs : List V, SqT K H a xs ∧ xs.length ≤ i⟩
theorem turn_enumT {P : Program} {w : World} {K : PySem.W.Frag} {elts : List Expr} {kk : Nat} {tpos : Pos} (a e it : Addr) :
    Turn P w K (.Tuple elts kk tpos) (IteT K a) [e, it] e (fun i h => (∃ old, IsEnum h e it ((i : Nat) : Int) old) ∧ h.IsTupleIter it a i ∧ e ≠ it ∧ a ≠ it ∧ e ≠ a) where
  mem := by simp
  obj := fun i h st b hb => by
    obtain ⟨⟨old, he⟩, ⟨o, ho, hc, hd⟩, _⟩ := st
    have e' : b = e ∨ b = it := by simpa using hb
    rcases e' with z | z
    · rw [z]; exact ⟨_, he, fun v q => nomatch q⟩
    · rw [z]; exact ⟨o, ho, fun v q => by rw [hd] at q; cases q⟩
  keep := fun i h h' st k => let ⟨⟨old, he⟩, hi, hne⟩ := st; ⟨⟨old, k e (by simp) _ he⟩, hi.at fun o q => k it (by simp) o q, hne⟩
  item := by
    intro X hP hw hK hc i pins s σ H E I hf st hg
    subst hP hw hK
    obtain ⟨⟨old, he⟩, hit, hne, hna, hea⟩ := st
    obtain ⟨xs, x, hq, hx⟩ := hg
    obtain ⟨its, rv, p, hz⟩ := I.tuple hq
    obtain ⟨u, hu, ru⟩ := rv.get hx
    have hel : e < s.heap.objs.size := Heap.lt_size he
    have hil : it < s.heap.objs.size := by obtain ⟨_, q, _⟩ := hit; exact Heap.lt_size q
    have hlt : i < its.toArray.size := by rw [List.size_toArray]; exact (List.getElem?_eq_some_iff.mp hu).1
    refine wpAny_pyNext_enum_itemD (Draws.tuple (A := X.A.in1) (show X.A.in1.handled = none from I.ok.hd hc) it a hna its.toArray) he ⟨hit, p⟩ hlt hne (by simp [hne, hea]) fun x' h' tk hPx ho hst hT hsz hk => ?_
    have hx' : x' = u := by
      rw [show its.toArray[i]? = some u by simpa using hu] at hPx
      exact (Option.some.inj hPx).symm
    subst hx'
    refine ⟨_, rfl, wpAny_letOwnedTupleGo_enum (s := { s with heap := h', toks := tk + 1 }) ho fun h'' he' sb => ?_⟩
    have hT2 : h''.get? s.heap.objs.size = some { cls := .type "tuple", data := .seq #[.int i tk, x'] } := (sb.2 _ (Nat.ne_of_gt hel)).trans hT
    have new : ObjOk X.prog X.w (upd H s.heap.objs.size (.tup [.int (i : Nat), x])) h'' s.heap.objs.size (.tup [.int (i : Nat), x]) :=
      ⟨by show 2 ≤ sizeLine; decide, [.int i tk, x'], .cons ⟨_, rfl⟩ (.cons ru .nil), ⟨_, hT2, rfl, _, rfl⟩⟩
    have I1 : Inv X pins σ (upd H s.heap.objs.size (.tup [.int (i : Nat), x])) { s with heap := h'', toks := tk + 1 } :=
      I.turnedNew (ch := [e, it]) (fun b ob hb q => (sb.2 b (fun z => hb (by simp [z]))).trans (hk b ob (fun z => hb (by simp [z])) (fun z => hb (by simp [z])) q)) hf (Nat.le_refl _) new
    refine ⟨.ref s.heap.objs.size, _, I1, rfl, ⟨_, x, rfl, I.hok.fresh (Nat.le_refl _), rfl, fun ys hy => by rw [I.tuple_inj hy hq]; exact hx⟩, ⟨⟨x', ?_⟩, hst.1.at fun o q => (sb.2 it (Ne.symm hne)).trans q, hne, hna, hea⟩, fun b hb => ?_⟩
    · have e1 : ((i + 1 : Nat) : Int) = (i : Int) + 1 := by omega
      rw [e1]; exact he'
    · have hb' : b < s.heap.objs.size := by
        have e' : b = e ∨ b = it := by simpa using hb
        rcases e' with z | z
        · rw [z]; exact hel
        · rw [z]; exact hil
      rw [upd_ne (Nat.ne_of_lt hb')]
      exact (hf b hb).1
  done := by
    intro X hP hw hK hc i pins s σ H E I hf st hg
    subst hP hw hK
    obtain ⟨⟨old, he⟩, hit, hne, hna, hea⟩ := st
    obtain ⟨xs, hq, hx⟩ := hg
    obtain ⟨its, rv, p, hz⟩ := I.tuple hq
    obtain ⟨f0, f1, f2, f3, f4, f5⟩ := hf it (by simp)
    have hl := rv.length
    exact enumT_end (I.ok.hd hc) he hit p (by simp; omega) fun h' eb => ⟨rfl, I.turned (t' := s.toks) (fun b o hb q => eb b o hb q) f0 f1 f3 f4 f5⟩
  self := fun A i s Q E st h => let ⟨⟨_, he⟩, _⟩ := st; wpAny_pyIter_enum he h
section
variable {C : RC} {P : Program} {w : World} {S : Sta} {mg : Str → Option Value} {base : Heap} {N : List Str} {sc : Scope} {k j : Nat} {pos p : Pos} {e : Expr}
theorem yields_enumT (ok : C.Ok) {a : Addr} {vs : List V} {ts : List T} {H : Hp} {G : Gh} (hz : FzT C.S H G a vs) (rs : RelTs C.S H G ts vs) : Yields C (IteT C.X.K a) (enumT 0 ts) H G := by
  intro X H2 G2 st th i
  have sq := (hz.step st).sq
  rw [ok.K] at sq
  have rs2 := rs.step st
  refine ⟨fun hi => ⟨vs, sq, by rw [← rs.length]; rw [enumT_length] at hi; exact hi⟩, fun t et => ?_⟩
  rw [enumT_get] at et
  cases q : ts[i]? with
  | none => rw [q] at et; cases et
  | some t0 =>
    rw [q] at et
    cases et
    obtain ⟨v, e1, r1⟩ := rs2.get q
    refine ⟨⟨vs, v, sq, e1⟩, fun x H3 y => ?_⟩
    obtain ⟨p, y0, rfl, hp, rfl, y⟩ := y
    have := y vs sq
    rw [e1] at this
    cases this
    have g := grown_upd (o := .tup [.int (i : Nat), v]) hp
    have st0 := g.step th
    have st1 : Step H2 G2 (upd H2 p (.tup [.int (i : Nat), v])) (G2.fz p) := ⟨⟨[], by simp [Gh.fz]⟩, fun a z => .inr z, st0.keep, st0.there, st0.frame, fun a z => .inl z, fun a z => by
      rcases z with z | z
      · subst z; exact .inr (.inr hp)
      · exact .inl z, st0.codes⟩
    refine ⟨G2.fz p, st1, fun h rp => (rp.newF hp).2, ?_⟩
    rw [Nat.zero_add]
    exact .tup (.inl ⟨.inl rfl, .inl upd_same⟩) (.cons (.int _) (.cons (r1.step st1) .nil))
/-- enumerate over a list or a tuple that is not changed -/
def iEnumA (ra : AT) : AT := fun st h => (ra st h).bind fun xs h1 => match xs with
  | [.lst ts] => .ok (enumT 0 ts) h1
  | [.tup ts] => .ok (enumT 0 ts) h1
  | _ => .bad
theorem ji_enumA (ok : C.Ok) {ra : AT} {tpos : Pos} {elts : List Expr} {kk : Nat} (hg : Gl C.X "enumerate") (hm : C.X.mg "enumerate" = none) (ja : JA C [e] ra) (hs : starEach [e] C.X.env = [(false, eval e C.X.env)] := by rfl) :
    JI C (.Tuple elts kk tpos) (.Call (.Name "enumerate" p) [e] [] pos) (iEnumA ra) := by
  refine ⟨fun pins s σ H Rr I hw => ?_⟩
  obtain ⟨st, G, h, rp, rs, o⟩ := hw
  refine Call_ (ld_blt I hg hm boot_enumerate (PyProof.Rows.callWith_type1 (thn (ja.run pos I rp rs (OutI.bind (Rel := relA C) o)) fun us s1 ⟨vs, H1, I1, r1, ts, G1, h1, st1, rp1, rts, o1⟩ => ?_) hs rfl))
  have hle : ∀ b, (b = s1.heap.objs.size + 1 ∨ b = s1.heap.objs.size) → FpOk C.X pins H1 b := fun b e' => by
    have hle : s1.heap.objs.size ≤ b := by
      rcases e' with z | z
      · rw [z]; exact Nat.le_add_right _ _
      · rw [z]; exact Nat.le_refl _
    exact I1.fpOk hle (I1.hok.fresh hle)
  split at o1
  · rename_i ys
    obtain ⟨v, rfl, rv⟩ := rts.one
    obtain ⟨u, rfl, ru⟩ := vals1 r1
    cases rv with
    | lst hz rs' =>
      cases ru
      have sq := hz.sq
      rw [ok.K] at sq
      obtain ⟨its, rv, p', hz'⟩ := I1.list sq
      refine call_enumerate_list p'.isList fun h' he hit hsz hk => wpAny_pyIter_enum he ?_
      have I2 : Inv C.X pins σ H1 { s1 with heap := h' } := I1.kept (t' := s1.toks) hk
      exact ⟨s1.heap.objs.size + 1, [s1.heap.objs.size + 1, s1.heap.objs.size], _, _, H1, rfl, I2, turn_enum _ (s1.heap.objs.size + 1) s1.heap.objs.size, ⟨⟨.none, he⟩, hit, Nat.succ_ne_self _⟩, fun b hb => hle b (by simpa using hb), o1 _ _ _ Step.refl rp1 (yields_enum ok hz rs')⟩
  · rename_i ys
    obtain ⟨v, rfl, rv⟩ := rts.one
    obtain ⟨u, rfl, ru⟩ := vals1 r1
    cases rv with
    | tup hz rs' =>
      rename_i a _
      cases ru
      have sq := hz.sq
      rw [ok.K] at sq
      obtain ⟨its, rv, p', hz'⟩ := I1.tuple sq
      have hal : a < s1.heap.objs.size := by
        obtain ⟨o, ho, _⟩ := id p'
        exact Heap.lt_size ho
      refine call_enumT p' fun h' he hit hsz hk => wpAny_pyIter_enum he ?_
      have I2 : Inv C.X pins σ H1 { s1 with heap := h' } := I1.kept (t' := s1.toks) hk
      exact ⟨s1.heap.objs.size + 1, [s1.heap.objs.size + 1, s1.heap.objs.size], _, _, H1, rfl, I2, turn_enumT _ (s1.heap.objs.size + 1) s1.heap.objs.size, ⟨⟨.none, he⟩, hit, Nat.succ_ne_self _, Nat.ne_of_lt hal, Nat.ne_of_gt (Nat.lt_succ_of_lt hal)⟩, fun b hb => hle b (by simpa using hb), o1 _ _ _ Step.refl rp1 (yields_enumT ok hz rs')⟩
  · exact False.elim o1
theorem enA_ (cf : Cf C P w S mg base N sc k) {ra : AT} {tpos : Pos} {elts : List Expr} {kk : Nat} (hm : mg "enumerate" = none) (ja : JA C [e] ra) (hg : glB sc "enumerate" = true := by rfl) (hs : starEach [e] C.X.env = [(false, eval e C.X.env)] := by rfl) : JI C (.Tuple elts kk tpos) (.Call (.Name "enumerate" p) [e] [] pos) (iEnumA ra) :=
  ji_enumA cf.ok (cf.gl hg) (cf.mgE hm) ja hs
@[simp] theorem iEnumA_ (ra : AT) (st : StT) (h : Hm) : iEnumA ra st h = (ra st h).bind fun xs h1 => match xs with
  | [.lst ts] => .ok (enumT 0 ts) h1
  | [.tup ts] => .ok (enumT 0 ts) h1
  | _ => .bad := rfl
end
end RT
set_option Elab.async false
set_option linter.all false
set_option maxRecDepth 100000
set_option maxHeartbeats 4000000
/-! RT, part w: list + list, list * int, xs[::-1], int(..). -/
namespace RT
open PySem PySem.Spec L2
open PyProof.Rows hiding St
section
variable {C : RC} {P : Program} {w : World} {S : Sta} {mg : Str → Option Value} {base : Heap} {N : List Str} {sc : Scope} {k j : Nat} {pos p : Pos} {e : Expr}
theorem lst_exact (ok : C.Ok) {pins : List (Addr × Obj)} {s : Shared} {σ : St} {H : Hp} {G : Gh} (I : Inv C.X pins σ H s) {a : Addr} {vs : List V} (hz : FzL C.S H G a vs) : ∃ (its : List Value) (n : Nat), Vals vs its ∧ vs.length = its.length ∧ its.length ≤ sizeLine ∧ s.heap.get? a = some { cls := .type "list", data := .seq its.toArray n } := by
  rcases hz with ⟨_, rd⟩ | ⟨us, n, lk, l, r⟩
  · obtain ⟨z, its, n, r, e⟩ := rd.ok I.hok
    exact ⟨its, n, r, r.length, by rw [← r.length]; exact z, e⟩
  · rw [ok.K] at lk
    exact ⟨us, n, r, r.length, l, I.kIn a _ lk⟩
/-- + of ints, texts, lists that are not changed -/
def opAddL : O2 := fun x y h => match x, y with
  | .lst xs, .lst ys => if xs.length + ys.length ≤ sizeLine then .ok (.lst (xs ++ ys)) h else .bad
  | x, y => opAdd x y h
theorem op_addL (ok : C.Ok) : OpT C (binaryOp .Add) opAddL := by
  intro pins s σ H G h x y vx vy u w Q I rp rx ry vu vw o
  unfold opAddL at o
  split at o
  · rename_i xs ys
    split at o
    · rename_i hl
      cases rx with
      | lst hz1 rs1 =>
        cases ry with
        | lst hz2 rs2 =>
          cases vu
          cases vw
          obtain ⟨its, n, r, hl1, _, e⟩ := lst_exact ok I hz1
          obtain ⟨its2, n2, r2, hl2, _, e2⟩ := lst_exact ok I hz2
          have q1 := rs1.length
          have q2 := rs2.length
          refine PySem.P.add_list e e2 ?_ (by rw [List.size_toArray, List.size_toArray]; omega)
          have ea : its.toArray ++ its2.toArray = (its ++ its2).toArray := by simp
          rw [ea]
          refine ⟨.ref _, _, I.lnew (t' := s.toks) (r.append r2) (by rw [List.length_append]; omega), rfl, ?_⟩
          obtain ⟨st2, rp2⟩ := rp.newF (o := .lst _) I.fresh
          exact o _ _ _ st2 rp2 (.lst (.inl ⟨.inl rfl, .inl upd_same⟩) ((rs1.app rs2).step st2))
    · exact False.elim o
  · exact op_addT pins s σ H G h x y vx vy u w Q I rp rx ry vu vw o
/-- * of ints, a list that is not changed and an int -/
def opMulL : O2 := fun x y h => match x, y with
  | .lst xs, .int i => if decide (-(2 ^ 63) ≤ i) && (decide (i < 2 ^ 63) && decide (xs.length * i.toNat ≤ sizeLine)) then .ok (.lst (List.replicate i.toNat xs).flatten) h else .bad
  | x, y => opMul x y h
theorem RelTs.rep {S : Sta} {H : Hp} {G : Gh} {ts : List T} {vs : List V} (r : RelTs S H G ts vs) : ∀ n : Nat, RelTs S H G (List.replicate n ts).flatten (List.replicate n vs).flatten
  | 0 => by simp; exact .nil
  | n + 1 => by rw [List.replicate_succ, List.replicate_succ, List.flatten_cons, List.flatten_cons]; exact r.app (RelTs.rep r n)
theorem op_mulL (ok : C.Ok) : OpT C (binaryOp .Mult) opMulL := by
  intro pins s σ H G h x y vx vy u w Q I rp rx ry vu vw o
  unfold opMulL at o
  split at o
  · rename_i xs i
    split at o
    · rename_i hc
      obtain ⟨h1, hc⟩ := band hc
      obtain ⟨h2, hz⟩ := band hc
      have h1 := of_decide_eq_true h1
      have h2 := of_decide_eq_true h2
      have hz := of_decide_eq_true hz
      cases rx with
      | lst hz1 rs1 =>
        cases ry
        cases vu
        obtain ⟨t, rfl⟩ := vw
        obtain ⟨its, n, r, hl, _, e⟩ := lst_exact ok I hz1
        have q1 := rs1.length
        have hlen : its.toArray.size * i.toNat ≤ sizeLine := by rw [List.size_toArray, ← hl, ← q1]; exact hz
        have hcap : ¬ its.toArray.size * i.toNat > (2 ^ 63 - 1) / 8 := by
          have : (sizeLine : Nat) ≤ (2 ^ 63 - 1) / 8 := by decide
          omega
        have hfit : ¬ (!Builtin.List.listFitsIndex i) = true := by
          rw [fitsIndex_both h1 h2]
          exact Bool.false_ne_true
        have hlong : ¬ Builtin.List.listTooLong (its.toArray.size * i.toNat) = true := by
          rw [notLongL hlen]
          exact Bool.false_ne_true
        have hnew : List.foldl (fun x1 x2 => x1 ++ x2) #[] (List.replicate (if its.toArray.isEmpty = true then 0 else i.toNat) its.toArray) = (List.replicate i.toNat its).flatten.toArray := by
          have f0 : ∀ m : Nat, List.foldl (fun x1 x2 => x1 ++ x2) #[] (List.replicate m its.toArray) = (List.replicate m its).flatten.toArray := fun m => by
            have := foldl_rep its m []
            rw [List.nil_append] at this
            exact this
          rw [f0]
          cases its with
          | nil => simp
          | cons a r' => rw [if_neg (by simp)]
        refine wpAny_binaryOp_repeat_ref (T := "list") (U := "int") (by decide) ⟨_, e, rfl⟩ (fun s' => typeIs_int s' i t) noFill_list_mul F.fills_int_mul F.slot_int_rmul repeat_list F.slot_int_index.lookup
          (call_meets F.slot_int_rmul (typeIs_int s i t) F.entry_int_rmul (F.args_int_rmul_2 _ _) (int___rmul___int_list i t _ its.toArray n)
            ⟨e, rfl, ⟨_, e, rfl⟩, call_meets F.slot_list_mul ⟨_, e, rfl⟩ F.entry_list_mul (F.args_list_mul_2 _ _) (AutoListH.list___mul___list_int_3 _ its.toArray n i t hfit hcap hlong) ⟨e, ?_⟩⟩)
        rw [hnew]
        refine ⟨.ref _, _, I.lnew (t' := s.toks) (r.rep i.toNat) (by rw [PyProof.Rows.lm_len_rep_flat, Nat.mul_comm, ← q1]; exact hz), rfl, ?_⟩
        obtain ⟨st2, rp2⟩ := rp.newF (o := .lst _) I.fresh
        exact o _ _ _ st2 rp2 (.lst (.inl ⟨.inl rfl, .inl upd_same⟩) ((rs1.rep i.toNat).step st2))
    · exact False.elim o
  · exact op_mulT pins s σ H G h x y vx vy u w Q I rp rx ry vu vw o
/-- xs[::-1] -/
def eRev (r : ET) : ET := fun st h => (r st h).bind fun x h1 => match x with
  | .lst xs => .ok (.lst xs.reverse) h1
  | _ => .bad
theorem RelTs.rev {S : Sta} {H : Hp} {G : Gh} : ∀ {ts : List T} {vs : List V}, RelTs S H G ts vs → RelTs S H G ts.reverse vs.reverse
  | _, _, .nil => .nil
  | _, _, .cons a r => by rw [List.reverse_cons, List.reverse_cons]; exact (RelTs.rev r).app (.cons a .nil)
theorem je_rev (ok : C.Ok) {r : ET} {kk : Nat} {p1 p2 p3 : Pos} (j : JE C e r) : JE C (.Subscript e (.Slice none none (some (.UnaryOp .USub (.Constant (.int 1) kk p1) p2)) p3) pos) (eRev r) := by
  refine ⟨fun pins s σ H Q I hw => ?_⟩
  obtain ⟨st, G, h, rp, rs, o⟩ := hw
  refine (pe_revL (te := liE C r) j).run pins s σ H Q I ⟨st, G, h, rp, rs, (Out.bind (Rel := relE C) o).mono fun v H1 ⟨t, G1, h1, st1, rp1, rt, o1⟩ => ?_⟩
  dsimp only at o1
  split at o1
  · cases rt with
    | lst hz rs1 =>
      have sq := hz.sq
      rw [ok.K] at sq
      refine ⟨_, _, rfl, sq, fun p hp => ?_⟩
      obtain ⟨st2, rp2⟩ := rp1.newF (o := .lst _) hp
      exact o1 _ _ _ st2 rp2 (.lst (.inl ⟨.inl rfl, .inl upd_same⟩) (rs1.rev.step st2))
  · exact False.elim o1
/-- int(..): of an int, a bool, digits -/
def gInt : List T → Hm → R T := fun xs h => match xs with
  | [.int i] => .ok (.int i) h
  | [.bl b] => .ok (.int (if b then 1 else 0)) h
  | [.str a] => (match PySem.intText? a with
    | some n => if a.length ≤ 640 then .ok (.int n) h else .bad
    | none => .bad)
  | _ => .bad
theorem ca_int : CaT C (.type "int") gInt := by
  intro pins s σ H G h xs vs us Q I rp rx vu o
  unfold gInt at o
  split at o
  · rename_i i
    obtain ⟨v, rfl, rv⟩ := rx.one
    cases rv
    exact call_int1 pins s σ H _ us Q I vu (.inl ⟨i, rfl, out_ok o rp (.int _)⟩)
  · rename_i b
    obtain ⟨v, rfl, rv⟩ := rx.one
    cases rv
    exact call_int1 pins s σ H _ us Q I vu (.inr ⟨b, rfl, out_ok o rp (.int _)⟩)
  · rename_i a
    obtain ⟨v, rfl, rv⟩ := rx.one
    cases rv
    split at o
    · rename_i n en
      split at o
      · rename_i hl
        exact call_int_str pins s σ H _ us Q I vu ⟨a, n, rfl, en, hl, out_ok o rp (.int _)⟩
      · exact False.elim o
    · exact False.elim o
  · exact False.elim o
variable (h : Hm) (st : StT)
@[simp] theorem addL_l (xs ys : List T) : opAddL (.lst xs) (.lst ys) h = if xs.length + ys.length ≤ sizeLine then .ok (.lst (xs ++ ys)) h else .bad := rfl
@[simp] theorem addL_i (i : Int) (y : T) : opAddL (.int i) y h = opAdd (.int i) y h := rfl
@[simp] theorem addL_s (i : Str) (y : T) : opAddL (.str i) y h = opAdd (.str i) y h := rfl
@[simp] theorem mulL_l (xs : List T) (i : Int) : opMulL (.lst xs) (.int i) h = if decide (-(2 ^ 63) ≤ i) && (decide (i < 2 ^ 63) && decide (xs.length * i.toNat ≤ sizeLine)) then .ok (.lst (List.replicate i.toNat xs).flatten) h else .bad := rfl
@[simp] theorem mulL_i (i : Int) (y : T) : opMulL (.int i) y h = opMul (.int i) y h := rfl
@[simp] theorem eRev_ (r : ET) : eRev r st h = (r st h).bind fun x h1 => match x with
  | .lst xs => .ok (.lst xs.reverse) h1
  | _ => .bad := rfl
@[simp] theorem gInt_i (i : Int) : gInt [.int i] h = .ok (.int i) h := rfl
@[simp] theorem gInt_b (i : Bool) : gInt [.bl i] h = .ok (.int (if i then 1 else 0)) h := rfl
end
end RT
set_option Elab.async false
set_option linter.all false
set_option maxRecDepth 100000
set_option maxHeartbeats 4000000
/-! RT, part x: zip of three lists. -/
namespace RT
open PySem PySem.Spec L2
open PyProof.Rows hiding St
def Itz3 (K : PySem.W.Frag) (a b c : Addr) (n1 n2 n3 : Nat) : It :=
  ⟨fun i H => ∃ (xs ys zs : List V) (x y z : V), (SqL K H a xs ∧ SqL K H b ys ∧ SqL K H c zs) ∧ (xs.length = n1 ∧ ys.length = n2 ∧ zs.length = n3) ∧ xs[i]? = some x ∧ ys[i]? = some y ∧ zs[i]? = some z,
    fun i H v H' => ∃ T x y z, v = .ref T ∧ H T = none ∧ H' = upd H T (.tup [x, y, z]) ∧ (∀ xs, SqL K H a xs → xs[i]? = some x) ∧ (∀ ys, SqL K H b ys → ys[i]? = some y) ∧ ∀ zs, SqL K H c zs → zs[i]? = some z,
    fun i H => ∃ xs ys zs : List V, (SqL K H a xs ∧ SqL K H b ys ∧ SqL K H c zs) ∧ (xs.length = n1 ∧ ys.length = n2 ∧ zs.length = n3) ∧ (n1 ≤ i ∨ n2 ≤ i ∨ n3 ≤ i)⟩
theorem turn_zip3 {P : Program} {w : World} {K : PySem.W.Frag} {elts : List Expr} {kk : Nat} {tpos : Pos} {a b c z TI TO i1 i2 i3 : Addr} (n1 n2 n3 : Nat) (D : ZipSep3 z TI TO i1 i2 i3 [i1, a] [i2, b] [i3, c]) :
    Turn P w K (.Tuple elts kk tpos) (Itz3 K a b c n1 n2 n3) [z, TI, TO, i1, i2, i3] z (fun i h => IsZip h z TI TO .none ∧ IsTupOf3 h TI (.ref i1) (.ref i2) (.ref i3) ∧ (∃ x y u, IsTupOf3 h TO x y u) ∧ (h.IsListIter i1 a i ∧ h.IsListIter i2 b i ∧ h.IsListIter i3 c i) ∧ i ≤ n1 ∧ i ≤ n2 ∧ i ≤ n3) where
  mem := by simp
  obj := fun i h st c' hc => by
    obtain ⟨hz, hTI, ⟨x, y, u, hTO⟩, ⟨⟨o1, e1, _, d1⟩, ⟨o2, e2, _, d2⟩, ⟨o3, e3, _, d3⟩⟩, _⟩ := st
    have e' : c' = z ∨ c' = TI ∨ c' = TO ∨ c' = i1 ∨ c' = i2 ∨ c' = i3 := by simpa using hc
    rcases e' with q | q | q | q | q | q
    · rw [q]; exact ⟨_, hz, fun v q => nomatch q⟩
    · rw [q]; exact ⟨_, hTI, fun v q => nomatch q⟩
    · rw [q]; exact ⟨_, hTO, fun v q => nomatch q⟩
    · rw [q]; exact ⟨o1, e1, fun v q => by rw [d1] at q; cases q⟩
    · rw [q]; exact ⟨o2, e2, fun v q => by rw [d2] at q; cases q⟩
    · rw [q]; exact ⟨o3, e3, fun v q => by rw [d3] at q; cases q⟩
  keep := fun i h h' st k => by
    obtain ⟨hz, hTI, ⟨x, y, u, hTO⟩, ⟨h1, h2, h3⟩, hn⟩ := st
    exact ⟨k z (by simp) _ hz, k TI (by simp) _ hTI, ⟨x, y, u, k TO (by simp) _ hTO⟩, ⟨h1.at fun o q => k i1 (by simp) o q, h2.at fun o q => k i2 (by simp) o q, h3.at fun o q => k i3 (by simp) o q⟩, hn⟩
  item := by
    intro X hP hw hK hc i pins s σ H E I hf st hg
    subst hP hw hK
    obtain ⟨hz, hTI, ⟨x0, y0, u0, hTO⟩, ⟨h1, h2, h3⟩, hn1, hn2, hn3⟩ := st
    obtain ⟨xs, ys, zs, x, y, u, ⟨hqx, hqy, hqz⟩, ⟨l1, l2, l3⟩, hx, hy, hu⟩ := hg
    obtain ⟨its, rv, p, _⟩ := I.list hqx
    obtain ⟨its2, rv2, p2, _⟩ := I.list hqy
    obtain ⟨its3, rv3, p3, _⟩ := I.list hqz
    obtain ⟨v1, hv1, r1⟩ := rv.get hx
    obtain ⟨v2, hv2, r2⟩ := rv2.get hy
    obtain ⟨v3, hv3, r3⟩ := rv3.get hu
    have hzl : z < s.heap.objs.size := Heap.lt_size hz
    have hh : X.A.in1.handled = none := I.ok.hd hc
    have ne1 : a ≠ i1 := fun e => by
      obtain ⟨o, ho, hcl, _⟩ := id h1
      obtain ⟨o', ho', hcl', _⟩ := id p.isList
      rw [e] at ho'
      rw [ho] at ho'
      cases ho'
      rw [hcl] at hcl'
      exact absurd (Value.type.inj hcl') (by decide)
    have ne2 : b ≠ i2 := fun e => by
      obtain ⟨o, ho, hcl, _⟩ := id h2
      obtain ⟨o', ho', hcl', _⟩ := id p2.isList
      rw [e] at ho'
      rw [ho] at ho'
      cases ho'
      rw [hcl] at hcl'
      exact absurd (Value.type.inj hcl') (by decide)
    have ne3 : c ≠ i3 := fun e => by
      obtain ⟨o, ho, hcl, _⟩ := id h3
      obtain ⟨o', ho', hcl', _⟩ := id p3.isList
      rw [e] at ho'
      rw [ho] at ho'
      cases ho'
      rw [hcl] at hcl'
      exact absurd (Value.type.inj hcl') (by decide)
    have q1 : i < its.toArray.size := by rw [List.size_toArray]; exact (List.getElem?_eq_some_iff.mp hv1).1
    have q2 : i < its2.toArray.size := by rw [List.size_toArray]; exact (List.getElem?_eq_some_iff.mp hv2).1
    have q3 : i < its3.toArray.size := by rw [List.size_toArray]; exact (List.getElem?_eq_some_iff.mp hv3).1
    refine wpAny_pyNext_zipD3_item D (Draws.list hh i1 a ne1 its.toArray) (Draws.list hh i2 b ne2 its2.toArray) (Draws.list hh i3 c ne3 its3.toArray) hz hTI hTO ⟨h1, p.isList⟩ ⟨h2, p2.isList⟩ ⟨h3, p3.isList⟩ q1 q2 q3
      fun x1 x2 x3 h' tk e1 e2 e3 hz' hTO' s1 s2 s3 hT hsz hk => ?_
    rw [show its.toArray[i]? = some v1 by simpa using hv1] at e1
    rw [show its2.toArray[i]? = some v2 by simpa using hv2] at e2
    rw [show its3.toArray[i]? = some v3 by simpa using hv3] at e3
    cases e1
    cases e2
    cases e3
    refine ⟨_, rfl, wpAny_letOwnedTupleGo_zip (s := { s with heap := h', toks := tk }) hz' fun h'' z'' sb => ?_⟩
    have hT2 : h''.get? s.heap.objs.size = some { cls := .type "tuple", data := .seq #[v1, v2, v3] } := (sb.2 _ (Nat.ne_of_gt hzl)).trans hT
    have new : ObjOk X.prog X.w (upd H s.heap.objs.size (.tup [x, y, u])) h'' s.heap.objs.size (.tup [x, y, u]) :=
      ⟨by show 3 ≤ sizeLine; decide, [v1, v2, v3], .cons r1 (.cons r2 (.cons r3 .nil)), ⟨_, hT2, rfl, _, rfl⟩⟩
    have I1 : Inv X pins σ (upd H s.heap.objs.size (.tup [x, y, u])) { s with heap := h'', toks := tk } :=
      I.turnedNew (t' := tk) (ch := [z, TI, TO, i1, i2, i3]) (fun d o hb q => (sb.2 d (fun q' => hb (by simp [q']))).trans (hk d o (fun q' => hb (by simp [q'])) (fun q' => hb (by simp [q'])) (fun q' => hb (by simp [q'])) (fun q' => hb (by simp [q'])) (fun q' => hb (by simp [q'])) q)) hf (Nat.le_refl _) new
    refine ⟨.ref s.heap.objs.size, _, I1, rfl, ⟨_, x, y, u, rfl, I.hok.fresh (Nat.le_refl _), rfl, fun l hl => by rw [I.list_inj hl hqx]; exact hx, fun l hl => by rw [I.list_inj hl hqy]; exact hy, fun l hl => by rw [I.list_inj hl hqz]; exact hu⟩, ⟨z'', ?_, ⟨v1, v2, v3, ?_⟩, ⟨?_, ?_, ?_⟩, ?_, ?_, ?_⟩, fun d hcm => ?_⟩
    · exact (sb.2 _ D.TIz).trans (hk _ _ D.TIz D.TITO D.TIi1 D.TIi2 D.TIi3 hTI)
    · exact (sb.2 _ D.TOz).trans hTO'
    · exact s1.1.at fun o q => (sb.2 _ (Ne.symm D.zi1)).trans q
    · exact s2.1.at fun o q => (sb.2 _ (Ne.symm D.zi2)).trans q
    · exact s3.1.at fun o q => (sb.2 _ (Ne.symm D.zi3)).trans q
    · have := rv.length; rw [List.size_toArray] at q1; omega
    · have := rv2.length; rw [List.size_toArray] at q2; omega
    · have := rv3.length; rw [List.size_toArray] at q3; omega
    · have hlt : d < s.heap.objs.size := by
        have e' : d = z ∨ d = TI ∨ d = TO ∨ d = i1 ∨ d = i2 ∨ d = i3 := by simpa using hcm
        rcases e' with q | q | q | q | q | q
        · rw [q]; exact hzl
        · rw [q]; exact Heap.lt_size hTI
        · rw [q]; exact Heap.lt_size hTO
        · rw [q]; obtain ⟨_, e1, _⟩ := h1; exact Heap.lt_size e1
        · rw [q]; obtain ⟨_, e2, _⟩ := h2; exact Heap.lt_size e2
        · rw [q]; obtain ⟨_, e2, _⟩ := h3; exact Heap.lt_size e2
      rw [upd_ne (Nat.ne_of_lt hlt)]
      exact (hf d hcm).1
  done := by
    intro X hP hw hK hc i pins s σ H E I hf st hg
    subst hP hw hK
    obtain ⟨hz, hTI, ⟨x0, y0, u0, hTO⟩, ⟨h1, h2, h3⟩, hn1, hn2, hn3⟩ := st
    obtain ⟨xs, ys, zs, ⟨hqx, hqy, hqz⟩, ⟨l1, l2, l3⟩, hend⟩ := hg
    obtain ⟨its, rv, p, _⟩ := I.list hqx
    obtain ⟨its2, rv2, p2, _⟩ := I.list hqy
    obtain ⟨its3, rv3, p3, _⟩ := I.list hqz
    have hh : X.A.in1.handled = none := I.ok.hd hc
    have ne1 : a ≠ i1 := fun e => by
      obtain ⟨o, ho, hcl, _⟩ := id h1
      obtain ⟨o', ho', hcl', _⟩ := id p.isList
      rw [e] at ho'
      rw [ho] at ho'
      cases ho'
      rw [hcl] at hcl'
      exact absurd (Value.type.inj hcl') (by decide)
    have ne2 : b ≠ i2 := fun e => by
      obtain ⟨o, ho, hcl, _⟩ := id h2
      obtain ⟨o', ho', hcl', _⟩ := id p2.isList
      rw [e] at ho'
      rw [ho] at ho'
      cases ho'
      rw [hcl] at hcl'
      exact absurd (Value.type.inj hcl') (by decide)
    have ne3 : c ≠ i3 := fun e => by
      obtain ⟨o, ho, hcl, _⟩ := id h3
      obtain ⟨o', ho', hcl', _⟩ := id p3.isList
      rw [e] at ho'
      rw [ho] at ho'
      cases ho'
      rw [hcl] at hcl'
      exact absurd (Value.type.inj hcl') (by decide)
    have e1 := rv.length
    have e2 := rv2.length
    have e3 := rv3.length
    exact wpAny_pyNext_zipD3_end D (Draws.list hh i1 a ne1 its.toArray) (Draws.list hh i2 b ne2 its2.toArray) (Draws.list hh i3 c ne3 its3.toArray) hz hTI hTO ⟨h1, p.isList⟩ ⟨h2, p2.isList⟩ ⟨h3, p3.isList⟩
      (by rw [List.size_toArray]; omega) (by rw [List.size_toArray]; omega) (by rw [List.size_toArray]; omega) (by rw [List.size_toArray, List.size_toArray, List.size_toArray]; omega)
      fun h' tk hk => ⟨rfl, I.turnedL (t' := tk) (ch := [z, TI, TO, i1, i2, i3]) (fun d o hb q =>
        hk d o (fun q' => hb (by simp [q'])) (fun q' => hb (by simp [q'])) (fun q' => hb (by simp [q'])) (fun q' => hb (by simp [q'])) (fun q' => hb (by simp [q'])) q) hf⟩
  self := fun A i s Q E st h => wpAny_pyIter_zip st.1 h
def zip3T : List T → List T → List T → List T
  | x :: xs, y :: ys, z :: zs => .tup [x, y, z] :: zip3T xs ys zs
  | _, _, _ => []
theorem zip3T_get : ∀ (xs ys zs : List T) (i : Nat), (zip3T xs ys zs)[i]? = match xs[i]?, ys[i]?, zs[i]? with
    | some x, some y, some z => some (.tup [x, y, z])
    | _, _, _ => none
  | [], ys, zs, i => by simp [zip3T]
  | x :: xs, [], zs, i => by
    have e : zip3T (x :: xs) [] zs = [] := by simp [zip3T]
    rw [e]
    cases h : (x :: xs)[i]? <;> simp
  | x :: xs, y :: ys, [], i => by
    have e : zip3T (x :: xs) (y :: ys) [] = [] := by simp [zip3T]
    rw [e]
    cases h : (x :: xs)[i]? <;> cases h2 : (y :: ys)[i]? <;> simp
  | x :: xs, y :: ys, z :: zs, 0 => by simp [zip3T]
  | x :: xs, y :: ys, z :: zs, i + 1 => by
    rw [zip3T, List.getElem?_cons_succ, zip3T_get xs ys zs i, List.getElem?_cons_succ, List.getElem?_cons_succ, List.getElem?_cons_succ]
section
variable {C : RC} {P : Program} {w : World} {S : Sta} {mg : Str → Option Value} {base : Heap} {N : List Str} {sc : Scope} {k j : Nat} {pos p : Pos} {e e2 e3 : Expr}
theorem yields_zip3 (ok : C.Ok) {a b c : Addr} {vs ws us : List V} {xs ys zs : List T} {H : Hp} {G : Gh} (hz : FzL C.S H G a vs) (rs : RelTs C.S H G xs vs) (hz' : FzL C.S H G b ws) (rs' : RelTs C.S H G ys ws) (hz'' : FzL C.S H G c us) (rs'' : RelTs C.S H G zs us) :
    Yields C (Itz3 C.X.K a b c vs.length ws.length us.length) (zip3T xs ys zs) H G := by
  intro X H2 G2 st th i
  have sq := (hz.step st).sq
  have sq' := (hz'.step st).sq
  have sq'' := (hz''.step st).sq
  rw [ok.K] at sq sq' sq''
  have r1 := rs.step st
  have r2 := rs'.step st
  have r3 := rs''.step st
  refine ⟨fun hi => ⟨vs, ws, us, ⟨sq, sq', sq''⟩, ⟨rfl, rfl, rfl⟩, ?_⟩, fun t et => ?_⟩
  · have hn : (zip3T xs ys zs)[i]? = none := List.getElem?_eq_none hi
    rw [zip3T_get] at hn
    rw [← rs.length, ← rs'.length, ← rs''.length]
    cases h1 : xs[i]? with
    | none => exact .inl (List.getElem?_eq_none_iff.mp h1)
    | some x =>
      cases h2 : ys[i]? with
      | none => exact .inr (.inl (List.getElem?_eq_none_iff.mp h2))
      | some y =>
        cases h3 : zs[i]? with
        | none => exact .inr (.inr (List.getElem?_eq_none_iff.mp h3))
        | some z => rw [h1, h2, h3] at hn; cases hn
  rw [zip3T_get] at et
  cases h1 : xs[i]? with
  | none => rw [h1] at et; cases et
  | some x =>
    cases h2 : ys[i]? with
    | none => rw [h1, h2] at et; cases et
    | some y =>
      cases h3 : zs[i]? with
      | none => rw [h1, h2, h3] at et; cases et
      | some z =>
        rw [h1, h2, h3] at et
        cases et
        obtain ⟨v1, e1, q1⟩ := r1.get h1
        obtain ⟨v2, e2, q2⟩ := r2.get h2
        obtain ⟨v3, e3, q3⟩ := r3.get h3
        refine ⟨⟨vs, ws, us, v1, v2, v3, ⟨sq, sq', sq''⟩, ⟨rfl, rfl, rfl⟩, e1, e2, e3⟩, fun x' H3 y' => ?_⟩
        obtain ⟨p, x1, x2, x3, rfl, hp, rfl, y1, y2, y3⟩ := y'
        have a1 := y1 vs sq
        have a2 := y2 ws sq'
        have a3 := y3 us sq''
        rw [e1] at a1
        rw [e2] at a2
        rw [e3] at a3
        cases a1
        cases a2
        cases a3
        have g := grown_upd (o := .tup [v1, v2, v3]) hp
        have st0 := g.step th
        have st1 : Step H2 G2 (upd H2 p (.tup [v1, v2, v3])) (G2.fz p) := ⟨⟨[], by simp [Gh.fz]⟩, fun a z => .inr z, st0.keep, st0.there, st0.frame, fun a z => .inl z, fun a z => by
          rcases z with z | z
          · subst z; exact .inr (.inr hp)
          · exact .inl z, st0.codes⟩
        exact ⟨G2.fz p, st1, fun h rp => (rp.newF hp).2, .tup (.inl ⟨.inl rfl, .inl upd_same⟩) (.cons (q1.step st1) (.cons (q2.step st1) (.cons (q3.step st1) .nil)))⟩
def iZip3 (ra : AT) : AT := fun st h => (ra st h).bind fun xs h1 => match xs with
  | [.lst x, .lst y, .lst z] => .ok (zip3T x y z) h1
  | _ => .bad
theorem ji_zip3 (ok : C.Ok) {ra : AT} {tpos : Pos} {elts : List Expr} {kk : Nat} (hg : Gl C.X "zip") (hm : C.X.mg "zip" = none) (ja : JA C [e, e2, e3] ra)
    (hs : starEach [e, e2, e3] C.X.env = (false, eval e C.X.env) :: starEach [e2, e3] C.X.env := by rfl) (hpl : (backTo pos (starEach [e2, e3] C.X.env)).any (·.1) = false := by rfl) :
    JI C (.Tuple elts kk tpos) (.Call (.Name "zip" p) [e, e2, e3] [] pos) (iZip3 ra) := by
  refine ⟨fun pins s σ H Rr I hw => ?_⟩
  obtain ⟨st, G, h, rp, rs, o⟩ := hw
  refine Call_ (ld_blt I hg hm PyProof.Rows.boot_zip (PyProof.Rows.callWith_type1 (thn (ja.run pos I rp rs (OutI.bind (Rel := relA C) o)) fun us s1 ⟨vs, H1, I1, r1, ts, G1, h1, st1, rp1, rts, o1⟩ => ?_) hs hpl))
  split at o1
  · cases rts with
    | cons q1 q => cases q with
      | cons q2 q => cases q with
        | cons q3 q => cases q with
          | nil =>
            cases q1 with
            | lst hz1 s1' => cases q2 with
              | lst hz2 s2' => cases q3 with
                | lst hz3 s3' =>
                  rename_i a vs1 b vs2 c vs3
                  cases r1 with
                  | cons u1 r => cases r with
                    | cons u2 r => cases r with
                      | cons u3 r => cases r with
                        | nil =>
                          cases u1
                          cases u2
                          cases u3
                          have sq1 := hz1.sq
                          have sq2 := hz2.sq
                          have sq3 := hz3.sq
                          rw [ok.K] at sq1 sq2 sq3
                          obtain ⟨its, rv, p1, _⟩ := I1.list sq1
                          obtain ⟨its2, rv2, p2, _⟩ := I1.list sq2
                          obtain ⟨its3, rv3, p3, _⟩ := I1.list sq3
                          refine zip_begins3 (begins_list a its.toArray) (begins_list b its2.toArray) (begins_list c its3.toArray) p1.isList p2.isList p3.isList fun h' hz hTI hTO g1 g2 g3 hsz hk => wpAny_pyIter_zip hz ?_
                          have I2 : Inv C.X pins σ H1 { s1 with heap := h' } := I1.kept (t' := s1.toks) hk
                          have sep := zip_sep3 (N := s1.heap.objs.size) (fp1 := [a]) (fp2 := [b]) (fp3 := [c]) (by intro d hd; rw [List.mem_singleton.mp hd]; exact p1.lt) (by intro d hd; rw [List.mem_singleton.mp hd]; exact p2.lt) (by intro d hd; rw [List.mem_singleton.mp hd]; exact p3.lt)
                          refine ⟨s1.heap.objs.size + 5, [s1.heap.objs.size + 5, s1.heap.objs.size + 3, s1.heap.objs.size + 4, s1.heap.objs.size, s1.heap.objs.size + 1, s1.heap.objs.size + 2], _, _, H1, rfl, I2, turn_zip3 vs1.length vs2.length vs3.length sep, ⟨hz, hTI, ⟨_, _, _, hTO⟩, ⟨⟨_, g1, rfl, rfl⟩, ⟨_, g2, rfl, rfl⟩, ⟨_, g3, rfl, rfl⟩⟩, Nat.zero_le _, Nat.zero_le _, Nat.zero_le _⟩, fun d hd => ?_, o1 _ _ _ Step.refl rp1 (yields_zip3 ok hz1 s1' hz2 s2' hz3 s3')⟩
                          have hle : s1.heap.objs.size ≤ d := by
                            have e' : d = s1.heap.objs.size + 5 ∨ d = s1.heap.objs.size + 3 ∨ d = s1.heap.objs.size + 4 ∨ d = s1.heap.objs.size ∨ d = s1.heap.objs.size + 1 ∨ d = s1.heap.objs.size + 2 := by simpa using hd
                            rcases e' with z | z | z | z | z | z
                            · rw [z]; exact Nat.le_add_right _ _
                            · rw [z]; exact Nat.le_add_right _ _
                            · rw [z]; exact Nat.le_add_right _ _
                            · rw [z]; exact Nat.le_refl _
                            · rw [z]; exact Nat.le_add_right _ _
                            · rw [z]; exact Nat.le_add_right _ _
                          exact I1.fpOk hle (I1.hok.fresh hle)
  · exact False.elim o1
theorem zip3_ (cf : Cf C P w S mg base N sc k) {ra : AT} {tpos : Pos} {elts : List Expr} {kk : Nat} (hm : mg "zip" = none) (ja : JA C [e, e2, e3] ra) (hg : glB sc "zip" = true := by rfl)
    (hs : starEach [e, e2, e3] C.X.env = (false, eval e C.X.env) :: starEach [e2, e3] C.X.env := by rfl) (hpl : (backTo pos (starEach [e2, e3] C.X.env)).any (·.1) = false := by rfl) : JI C (.Tuple elts kk tpos) (.Call (.Name "zip" p) [e, e2, e3] [] pos) (iZip3 ra) :=
  ji_zip3 cf.ok (cf.gl hg) (cf.mgE hm) ja hs hpl
@[simp] theorem iZip3_ (ra : AT) (st : StT) (h : Hm) : iZip3 ra st h = (ra st h).bind fun xs h1 => match xs with
  | [.lst x, .lst y, .lst z] => .ok (zip3T x y z) h1
  | _ => .bad := rfl
end
end RT
set_option Elab.async false
set_option linter.all false
set_option maxRecDepth 100000
set_option maxHeartbeats 4000000
/-! RT, part y: == and != of a list with [], whatever the list holds. -/
namespace RT
open PySem PySem.Spec L2
open PyProof.Rows hiding St
section
variable {C : RC} {P : Program} {w : World} {S : Sta} {mg : Str → Option Value} {base : Heap} {N : List Str} {sc : Scope} {k j : Nat}
def opEqE (o : O2) : O2 := fun x y h => match x, y with
  | .lst (_ :: _), .lst [] => .ok (.bl false) h
  | x, y => o x y h
def opNeE (o : O2) : O2 := fun x y h => match x, y with
  | .lst (_ :: _), .lst [] => .ok (.bl true) h
  | x, y => o x y h
theorem op_eqE (ok : C.Ok) {f : O2} (q : OpT C (compareOp .Eq) f) : OpT C (compareOp .Eq) (opEqE f) := by
  intro pins s σ H G h x y vx vy u w Q I rp rx ry vu vw o
  unfold opEqE at o
  split at o
  · cases rx with
    | lst hz1 rs1 =>
      cases ry with
      | lst hz2 rs2 =>
        cases vu
        cases vw
        obtain ⟨its, n, r, hl1, _, e⟩ := lst_exact ok I hz1
        obtain ⟨its2, n2, r2, hl2, _, e2⟩ := lst_exact ok I hz2
        have q1 := rs1.length
        have q2 := rs2.length
        refine PySem.P.eq_list_lengths e e2 ?_ (by have := ok.units; omega) ⟨.bl _, H, I, rfl, out_ok o rp (.bl _)⟩
        rw [List.size_toArray, List.size_toArray, ← hl1, ← hl2, ← q1, ← q2]
        simp
  · exact q pins s σ H G h x y vx vy u w Q I rp rx ry vu vw o
theorem op_neE (ok : C.Ok) {f : O2} (q : OpT C (compareOp .NotEq) f) : OpT C (compareOp .NotEq) (opNeE f) := by
  intro pins s σ H G h x y vx vy u w Q I rp rx ry vu vw o
  unfold opNeE at o
  split at o
  · cases rx with
    | lst hz1 rs1 =>
      cases ry with
      | lst hz2 rs2 =>
        cases vu
        cases vw
        obtain ⟨its, n, r, hl1, _, e⟩ := lst_exact ok I hz1
        obtain ⟨its2, n2, r2, hl2, _, e2⟩ := lst_exact ok I hz2
        have q1 := rs1.length
        have q2 := rs2.length
        refine PySem.SeqAt.RcNeAt.lists_lengths (items := its.toArray) (items2 := its2.toArray) ⟨_, e, rfl, _, rfl⟩ ⟨_, e2, rfl, _, rfl⟩ ?_ (by have := ok.units; omega) _ _ _ _ ⟨.bl _, H, I, rfl, out_ok o rp (.bl _)⟩
        rw [List.size_toArray, List.size_toArray, ← hl1, ← hl2, ← q1, ← q2]
        simp
  · exact q pins s σ H G h x y vx vy u w Q I rp rx ry vu vw o
/-- a, b, .. = a tuple or a list of that length -/
def gTpL (n : Nat) (g : List T → StT → Hm → R StT) : GT := fun t a h => match t with
  | .tup xs => if xs.length = n then g xs a h else .bad
  | .lst xs => if xs.length = n then g xs a h else .bad
  | _ => .bad
theorem jg_tupL {pos : Pos} (ok : C.Ok) (hc : C.S.mo = none) {es : List Expr} {k : Nat} {n : Nat} {gs : List T → StT → Hm → R StT} (j : JGs C es gs)
    (hn : (assignEach es C.X.env).length = n := by rfl) (hst : (assignEach es C.X.env).findIdx? (·.1) = none := by rfl) : JG C (.Tuple es k pos) (gTpL n gs) := by
  refine ⟨fun pins s σ H v u Q I r hw => ?_⟩
  obtain ⟨t, a, G, h, rp, rs, rt, a', h', e, q⟩ := hw
  unfold gTpL at e
  cases rt with
  | tup hz hr => exact (jg_tup ok hc j hn hst).run pins s σ H _ u Q I r ⟨_, a, G, h, rp, rs, .tup hz hr, a', h', e, q⟩
  | lst hz hr =>
    refine (pg_unl (t := liGs C gs) (ok.calm hc) j hn hst).run pins s σ H _ u Q I r ?_
    dsimp only at e
    split at e
    · rename_i hl
      refine ⟨_, _, rfl, by rw [← ok.K]; exact hz.sq, by rw [← hr.length]; exact hl, _, a, G, h, rp, rs, hr, a', h', e, q⟩
    · cases e
  | _ => cases e
@[simp] theorem gTpL_t (n : Nat) (g : List T → StT → Hm → R StT) (xs : List T) (st : StT) (h : Hm) : gTpL n g (.tup xs) st h = if xs.length = n then g xs st h else .bad := rfl
@[simp] theorem gTpL_l (n : Nat) (g : List T → StT → Hm → R StT) (xs : List T) (st : StT) (h : Hm) : gTpL n g (.lst xs) st h = if xs.length = n then g xs st h else .bad := rfl
section
variable {o : O2} {h : Hm}
@[simp] theorem eqE_c (a : T) (xs : List T) : opEqE o (.lst (a :: xs)) (.lst []) h = .ok (.bl false) h := rfl
@[simp] theorem eqE_n (y : T) : opEqE o (.lst []) y h = o (.lst []) y h := by
  cases y with
  | lst l => cases l <;> rfl
  | _ => rfl
@[simp] theorem neE_c (a : T) (xs : List T) : opNeE o (.lst (a :: xs)) (.lst []) h = .ok (.bl true) h := rfl
@[simp] theorem neE_n (y : T) : opNeE o (.lst []) y h = o (.lst []) y h := by
  cases y with
  | lst l => cases l <;> rfl
  | _ => rfl
@[simp] theorem eqE_r (l : Nat) (y : T) : opEqE o (.ref l) y h = o (.ref l) y h := rfl
@[simp] theorem neE_r (l : Nat) (y : T) : opNeE o (.ref l) y h = o (.ref l) y h := rfl
@[simp] theorem eqE_t (l : List T) (y : T) : opEqE o (.tup l) y h = o (.tup l) y h := rfl
@[simp] theorem neE_t (l : List T) (y : T) : opNeE o (.tup l) y h = o (.tup l) y h := rfl
@[simp] theorem eqE_non (y : T) : opEqE o .non y h = o .non y h := rfl
@[simp] theorem neE_non (y : T) : opNeE o .non y h = o .non y h := rfl
@[simp] theorem eqE_s (s : Str) (y : T) : opEqE o (.str s) y h = o (.str s) y h := rfl
@[simp] theorem neE_s (s : Str) (y : T) : opNeE o (.str s) y h = o (.str s) y h := rfl
end
end
end RT
set_option Elab.async false
set_option linter.all false
set_option maxRecDepth 100000
set_option maxHeartbeats 4000000
/-! RT, part z: one turn of a for loop, ranges, in plain proofs. -/
namespace RT
open PySem
section
variable {g : GT} {b : SM} {t v : T} {ts : List T} {st a1 a2 : StT} {h h1 h2 : Hm}
theorem forL_nx (e1 : g t st h = .ok a1 h1) (e2 : b a1 h1 = .ok (.nx a2) h2) : forL g b (t :: ts) st h = forL g b ts a2 h2 := by
  rw [forL_cons, e1]
  dsimp only
  rw [e2]
theorem forL_ret (e1 : g t st h = .ok a1 h1) (e2 : b a1 h1 = .ok (.ret v) h2) : forL g b (t :: ts) st h = .ok (.ret v) h2 := by
  rw [forL_cons, e1]
  dsimp only
  rw [e2]
theorem lcL_yes {te : ET} {y : T} {ys : List T} {h3 h4 : Hm} (e1 : g t st h = .ok a1 h1) (e2 : te a1 h1 = .ok y h3) (e3 : lcL g bYes te st ts h3 = .ok ys h4) : lcL g bYes te st (t :: ts) h = .ok (y :: ys) h4 := by
  rw [lcL_cons, e1]
  show (match te a1 h1 with
        | .ok y h3 => (match lcL g bYes te st ts h3 with
          | .ok ys h4 => R.ok (y :: ys) h4
          | _ => .bad)
        | _ => .bad) = _
  rw [e2]
  dsimp only
  rw [e3]
theorem rg2_ok {r : AT} {i j : Int} (e : r st h = .ok [.int i, .int j] h1) (s1 : small62 i = true) (s2 : small62 j = true) : iRg2 r st h = .ok (rangeT i (j - i).toNat) h1 := by
  rw [iRg2_, e, bind_ok']
  show (if small62 i && small62 j then R.ok (rangeT i (j - i).toNat) h1 else .bad) = _
  rw [s1, s2]
  rfl
theorem rg1_ok {r : AT} {j : Int} (e : r st h = .ok [.int j] h1) (s2 : small62 j = true) : iRg1 r st h = .ok (rangeT 0 j.toNat) h1 := by
  rw [iRg1_, e, bind_ok']
  show (if small62 j then R.ok (rangeT 0 j.toNat) h1 else .bad) = _
  rw [s2]
  rfl
theorem gtp2_ok {i j : Nat} {x y : T} : gTp 2 (gsCons (gNm i) (gsCons (gNm j) gsNil)) (.tup [x, y]) st h = .ok ((st.set i (some x)).set j (some y)) h := rfl
theorem small_s (i : Nat) (hi : i < 1000) : small62 ((i : Int) + 1) = true := by
  have := small_nat (k := i + 1) (n := 1000) (by omega)
  rwa [show ((i + 1 : Nat) : Int) = (i : Int) + 1 by omega] at this
theorem small_n (n : Nat) (hn : n ≤ 1000) : small62 (n : Int) = true := small_nat (n := 1000) hn
end
end RT
set_option Elab.async false
set_option linter.all false
set_option maxRecDepth 100000
set_option maxHeartbeats 4000000
/-! RU, part a: repr of a list of own objects. -/
namespace RT
open PySem PySem.Spec L2
open PyProof.Rows hiding St
section
variable {C : RC} {P : Program} {w : World} {S : Sta} {mg : Str → Option Value} {base : Heap} {N : List Str} {sc : Scope} {k j : Nat}
/-- the items' texts, one by one -/
def reprsT (ms : Ms) : List T → Hm → R (List Str)
  | [], h => .ok [] h
  | y :: ys, h => match dunS ms y h with
    | .ok (.str s) h1 => (match reprsT ms ys h1 with
      | .ok r h2 => .ok (s :: r) h2
      | _ => .bad)
    | _ => .bad
/-- repr: of a list of own objects, too -/
def gReprO (ms : Ms) : List T → Hm → R T := fun xs h => match xs with
  | [.lst (y :: ys)] => (match T.toDh h (.lst (y :: ys)) with
    | some _ => gRepr ms [.lst (y :: ys)] h
    | none => (match reprsT ms (y :: ys) h with
      | .ok ts h1 => if (listText ts).length ≤ sizeLine then .ok (.str (listText ts)) h1 else .bad
      | _ => .bad))
  | xs => gRepr ms xs h
theorem reprUnder_own {prog : Program} {w : World} {K : PySem.W.Frag} {A : Around} {E : Value → Shared → Prop} {s : Shared} {Q : Value → Shared → Prop} {b : Nat} {x Cc f : Addr} {ox : Obj} {od : Option Obj} (hu : A.units < cLine) (X : K.In s.heap) (I : PySem.W.InstAt s.heap x ox Cc od)
    (hs : PySem.W.findIn K (.ref Cc) "__repr__" = some (some (.ref f))) (hf : PySem.W.isFn K (.ref f) = true)
    (h : wpAny (model prog w) A (call (.ref f) [.ref x]) (PySem.W.StrBack Q) E s) : wpAny (model prog w) A (pyReprObjUnder b (.ref x)) (fun v s' => ∃ t u, v = .str t u ∧ Q v s') E s := by
  unfold pyReprObjUnder pyReprObjBy
  refine wpAny_bind (wpAny_cRoomFor hu ?_)
  refine wpAny_bind (wpAny_bind (I.type.here ((PySem.W.looks_findIn X hs).here ?_)))
  show wpAny _ _ (if (some (Value.ref f)).isNone = true then _ else _) _ _ _
  rw [if_neg (by simp)]
  refine wpAny_bind (m := callSpecialIfBoundBy? _ (.ref x) (Str.ofString "__repr__")) ?_
  simp only [callSpecialIfBoundBy?, bindSpecialIfBound?]
  refine wpAny_holding (wpAny_bind (wpAny_bind (wpAny_bind (I.type.here ((PySem.W.looks_findIn X hs).here ?_)))))
  refine wpAny_bind (wpAny_askSetting (wpAny_ite ?_))
  have fin : wpAny (model prog w) A (call (.ref f) ([.ref x] ++ []) >>= fun v => pure (some v)) (fun r s' => wpAny (model prog w) A (match r with
      | some r => (do if ← isInstance r (.type "str") then pure r else raiseError "TypeError" s!"__repr__ returned non-string (type {← typeNameOf r})")
      | none => unsupported "repr:special-get-raises") (fun v s' => ∃ t u, v = .str t u ∧ Q v s') E s') E s := by
    refine wpAny_bind (wpAny_mono h (fun r s' hr => wpAny_pure ?_) fun _ _ z => z)
    cases r <;> first | exact hr.elim | skip
    refine wpAny_bind (wpAny_isInstance (typeIs_str _ _ _) isSubtype_str_str ?_)
    first
      | exact wpAny_pure ⟨_, _, rfl, hr⟩
      | (rw [if_pos rfl]; exact wpAny_pure ⟨_, _, rfl, hr⟩)
      | (simp only [if_true]; exact wpAny_pure ⟨_, _, rfl, hr⟩)
  split
  · exact wpAny_bind ((PySem.W.bind_fn X _ (beq_iff_eq.mp hf)).here (wpAny_pure (by exact fin)))
  · exact wpAny_tryCatch (wpAny_bind ((PySem.W.bind_fn X _ (beq_iff_eq.mp hf)).here (wpAny_pure (by exact fin))))
theorem blw_loop {A : Around} {args : Args} (bl : Blw C (j + 1) A) (hj : j < 100) {g : List Code} (hg : A.guards = some g) : Blw C j (A.under (.builtin "list.__repr__.loop" args)) := by
  have e1 : (A.under (.builtin "list.__repr__.loop" args)).handled = A.handled := by first | rfl | simp [Around.under]
  have e2 : (A.under (.builtin "list.__repr__.loop" args)).depth ≤ A.depth + 1 := by
    first
      | exact Nat.le_refl _
      | simp [Around.under, Code.weight, Code.isCreation, Code.isGuard, Code.isCaller, Code.frames, Code.isFrame, guardIds]
  have e3 := units_under_list_loop A args
  have e4 : (A.under (.builtin "list.__repr__.loop" args)).frames = A.frames := by first | rfl | simp [Around.under, Code.frames, Code.isFrame]
  refine ⟨⟨⟨?_, ?_⟩, fun e => e1.trans (bl.room.hd e)⟩, e4.trans bl.fr, GdK.low hj⟩
  · have := bl.room.dp; omega
  · have := bl.room.un; omega
theorem piled_snoc (ts : List Str) (t : Str) : piled (ts ++ [t]) = piled ts + (t.length + 2) := by
  rw [piled_append]
  simp [piled]
theorem two_piled : ∀ ts : List Str, 2 * ts.length ≤ piled ts
  | [] => Nat.zero_le _
  | t :: ts => by
    have := two_piled ts
    rw [piled_cons, List.length_cons]
    omega
theorem reprs_loop (ok : C.Ok) {ms : Ms} (hm : DuOk C j "__repr__" 1 ms) (hj : j < 100) {A : Around} (bl : Blw C (j + 1) A) {g : List Code} (hg : A.guards = some g) {a P : Addr} (hne : a ≠ P) {vs : List V} {xs : List T} {pins : List (Addr × Obj)} {σ : St}
    (p1 : P ∈ C.X.ex ∨ C.X.s_0.heap.objs.size ≤ P) (p2 : ∀ x c, C.X.env.cells.lookup x = some c → c ≠ P) (p3 : ∀ p ∈ C.X.pn ++ pins, p.1 ≠ P) (ts : List Str) (hsz : (listText ts).length ≤ sizeLine) {R : Result → Shared → Prop} (he : ∀ e s', C.X.xe e s' → R (.error e) s') (hN : Hm) :
    ∀ (ys pre : List T) (tpre tys : List Str) (s : Shared) (H : Hp) (G : Gh) (h : Hm) (acc : Array Value) (c : Nat) (done : List (Str × Tok)), xs = pre ++ ys → ts = tpre ++ tys → tpre.length = pre.length → reprsT ms ys h = .ok tys hN →
      Inv C.X ((P, { cls := .type "list", data := .seq acc c }) :: pins) σ H s → RepH C.S H G h → FzL C.S H G a vs → RelTs C.S H G xs vs → acc.toList = strValues done → done.map (·.1) = tpre →
      (∀ u H' G' s', Inv C.X pins σ H' s' → Step H G H' G' → RepH C.S H' G' hN → R (.ok (.ret (.str (listText ts) u))) s') →
      codeAny (model C.X.prog C.X.w) A (.builtin "list.__repr__.loop" ⟨[.ref a, rawInt pre.length, .ref P, rawInt ((piled tpre : Nat) : Int)], []⟩) R s
  | [], pre, tpre, tys, s, H, G, h, acc, c, done, ex, et, el, er, I, rp, hz, rs, ea, ed, hR => by
    cases er
    rw [List.append_nil] at ex et
    obtain ⟨its, n, rv, hl, _, ho⟩ := lst_exact ok I hz
    have hlen := rs.length
    refine codeAny_builtin F.entry_list_repr_loop ?_
    show wpAny _ _ (Builtin.«list.__repr__.loop» ⟨[.ref a, .int (pre.length : Nat) 0, .ref P, .int ((piled tpre : Nat) : Int) 0], []⟩) _ _ s
    rw [repr_loop_tree]
    refine wpAny_bind (wpAny_listItems ho rfl ?_)
    have hnone : its.toArray[((pre.length : Nat) : Int).toNat]? = none := by
      have := congrArg List.length ex
      simp
      omega
    simp only [hnone]
    unfold reprEnd
    obtain ⟨q1, _⟩ := I.pin (P, { cls := .type "list", data := .seq acc c }) (by simp)
    refine wpAny_bind (wpAny_listItems q1 rfl ?_)
    rw [ea, repr_fold]
    refine wpAny_bind (wpAny_pure ?_)
    rw [ed, ← et]
    refine wpAny_bind (wpAny_mkStr (wpAny_pure ?_) hsz)
    exact hR _ H G _ ((I.pins_of fun p hp => I.pin p (by simp [hp])).tok _) Step.refl rp
  | y :: ys, pre, tpre, tys, s, H, G, h, acc, c, done, ex, et, el, er, I, rp, hz, rs, ea, ed, hR => by
    rw [reprsT] at er
    cases e1 : dunS ms y h with
    | bad => rw [e1] at er; cases er
    | exc x h1 => rw [e1] at er; cases er
    | ok t1 h1 =>
      rw [e1] at er
      cases t1 with
      | str t =>
        dsimp only at er
        cases e2 : reprsT ms ys h1 with
        | bad => rw [e2] at er; cases er
        | exc x h1 => rw [e2] at er; cases er
        | ok tys' h2 =>
          rw [e2] at er
          cases er
          obtain ⟨its, n, rv, hl, _, ho⟩ := lst_exact ok I hz
          have hlen := rs.length
          have hlt : pre.length < its.length := by
            rw [← hl, ← hlen, ex, List.length_append, List.length_cons]
            omega
          obtain ⟨vy, hvy, ry⟩ := rs.get (i := pre.length) (t := y) (by rw [ex]; simp)
          obtain ⟨u, hu, ru⟩ := rv.get hvy
          have hs1 : tpre ++ t :: tys' = (tpre ++ [t]) ++ tys' := by simp
          have hp0 := piled_le_listText ts
          have hp1 : piled ts = piled tpre + ((t.length + 2) + piled tys') := by rw [et, piled_append, piled_cons]
          have htl : t.length ≤ sizeLine := by omega
          have hpl : piled tpre + 1 ≤ sizeLine := by omega
          refine codeAny_builtin F.entry_list_repr_loop ?_
          show wpAny _ _ (Builtin.«list.__repr__.loop» ⟨[.ref a, .int (pre.length : Nat) 0, .ref P, .int ((piled tpre : Nat) : Int) 0], []⟩) _ _ s
          rw [repr_loop_tree]
          refine wpAny_bind (wpAny_listItems ho rfl ?_)
          have hsome : its.toArray[((pre.length : Nat) : Int).toNat]? = some u := by simpa using hu
          simp only [hsome]
          rw [Int.toNat_natCast]
          have bl2 := blw_loop (args := ⟨[.ref a, rawInt pre.length, .ref P, rawInt ((piled tpre : Nat) : Int)], []⟩) bl hj hg
          have o : Out C σ H G (relE C) (dunS ms y h) (fun v H' => v = .str t ∧ ∃ G', Step H G H' G' ∧ RepH C.S H' G' h1) := by
            rw [e1]
            intro v H' G' st rp' rv'
            cases rv'
            exact ⟨rfl, G', st, rp'⟩
          obtain ⟨b, cc, dx, fs, ev, eb, fa, q1, q2, q3⟩ := dunS_run ok hm bl2 I rp ry o
          subst ev
          cases ru
          obtain ⟨ox, od, J⟩ := inst_of I eb
          refine wpAny_bind (wpAny_holding (wpAny_pyReprUnder_ref hpl (wpAny_mono (reprUnder_own bl2.room.units0 I.kIn J q1 q2 (q3 s I)) (fun v s2 hv => ?_) he)))
          obtain ⟨t', u', rfl, v', H2, I2, rr, rfl, G2, st2, rp2⟩ := hv
          obtain ⟨tk0, e0⟩ := _root_.id rr
          cases e0
          refine ⟨_, _, rfl, ?_⟩
          refine wpAny_bind (wpAny_mkStr ?_ htl)
          obtain ⟨g1, g2, g3, g4, g5⟩ := I2.pin (P, { cls := .type "list", data := .seq acc c }) (by simp)
          have hasz : acc.size ≤ sizeLine := by
            have z1 : acc.toList.length = acc.size := by simp
            have z2 : (strValues done).length = done.length := by simp [strValues]
            have z3 : done.length = tpre.length := by rw [← ed, List.length_map]
            have z4 := two_piled tpre
            rw [ea] at z1; omega
          refine wpAny_bind ?_
          show wpAny _ _ (updateSeq P _) _ _ _
          refine wpAny_updateSeq g1 rfl (wpAny_pure ⟨F.quiet_list_repr_loop _, ?_⟩) hasz
          have e3 : ((pre.length : Nat) : Int) + 1 = (((pre ++ [y]).length : Nat) : Int) := by simp
          have e4 : piled tpre + (t.length + 2) = piled (tpre ++ [t]) := (piled_snoc tpre t).symm
          rw [e3, e4]
          have I3 : Inv C.X pins σ H2 s2 := I2.pins_of fun p hp => I2.pin p (by simp [hp])
          have I4 := I3.turned (it := P) (t' := s2.toks + 1) (h' := s2.heap.update P (Obj.mapSeq (·.push (.str t s2.toks)))) (fun b o hb e => (Heap.get?_update_other _ _ (fun z : P = b => hb z.symm)).trans e) g2 g3 p1 p2 p3
          have g1' : s2.heap.get? P = some { cls := .type "list", data := .seq acc c } := g1
          have gu := Heap.get?_update_self (Obj.mapSeq (·.push (.str t s2.toks))) g1' rfl
          obtain ⟨c', hc'⟩ : ∃ c', Obj.mapSeq (·.push (.str t s2.toks)) { cls := .type "list", data := .seq acc c } = { cls := .type "list", data := .seq (acc.push (.str t s2.toks)) c' } := ⟨_, rfl⟩
          rw [hc'] at gu
          have I5 := I4.pins_of (pins' := (P, { cls := .type "list", data := .seq (acc.push (.str t s2.toks)) c' }) :: pins) (fun p hp => by
            rcases List.mem_cons.mp hp with z | z
            · subst z
              exact ⟨gu, g2, g3, g4, fun _ => nofun⟩
            · exact I4.pin p (by simp [z]))
          exact reprs_loop ok hm hj bl hg hne p1 p2 p3 ts hsz he hN ys (pre ++ [y]) (tpre ++ [t]) tys' _ H2 G2 h1 (acc.push (.str t s2.toks)) c' (done ++ [(t, s2.toks)]) (by rw [ex]; simp) (by rw [et]; simp) (by simp [el]) e2 I5 rp2 (hz.step st2) (rs.step st2) (by simp [ea, strValues]) (by simp [ed]) fun u H' G' s' I' st' rp' => hR u H' G' s' I' (st2.trans st') rp'
      | _ => cases er
theorem ca_reprO (ok : C.Ok) {ms : Ms} (hm : DuOk C j "__repr__" 1 ms) (hj : j < 100) (hk : j + 2 ≤ C.k) (hg : 100 ≤ C.k) : CaT C (.builtin "repr") (gReprO ms) := by
  intro pins s σ H G h xs vs us Q I rp rx vu o
  unfold gReprO at o
  split at o
  · rename_i y ys
    split at o
    · exact ca_repr ok hm hk hg pins s σ H G h _ vs us Q I rp rx vu o
    · split at o
      · rename_i ts h1 er
        split at o
        · rename_i hsz
          obtain ⟨v, rfl, rv⟩ := rx.one
          obtain ⟨u, rfl, r1⟩ := vals1 vu
          cases rv with
          | lst hz rs =>
            rename_i a ws
            cases r1
            obtain ⟨its, n, rw', hl, _, ho⟩ := lst_exact ok I hz
            have hlen := rs.length
            obtain ⟨i0, ir, ei⟩ : ∃ i0 ir, its = i0 :: ir := by
              cases its with
              | nil => simp at hl; rw [hl] at hlen; simp at hlen
              | cons a b => exact ⟨a, b, rfl⟩
            have hTy : s.TypeIs (.ref a) "list" := ⟨_, ho, rfl⟩
            have hgd : C.X.A.in1.guards = some [] := ok.gd.none hg
            have bl : Blw C (j + 1) C.X.A.in1 := (ok.blw (n := j + 2) hk).in1
            refine call_repr_slot (by have := ok.room.un; omega) hTy F.slot_list_repr.toG ?_
            refine wpAny_call (codeAny_call_builtin F.slot_list_repr.plain F.entry_list_repr (F.slot_list_repr.check _ _ _ _ _ _ _ _ hTy (F.args_list_repr_1 _) ?_))
            show wpAny _ _ (Builtin.listReprAt 0 ⟨[.ref a], []⟩) _ _ s
            refine wpAny_list_repr_head (A := C.X.A.in1.in1) (g := []) hgd (fun _ _ _ z => nomatch z) ho (by rw [ei]) ?_
            refine wpAny_bind (m := newList []) (wpAny_newObj_type ?_)
            refine wpAny_pure ⟨F.quiet_list_repr_loop _, ?_⟩
            obtain ⟨k1, k2, k3, k4, k5, k6⟩ := I.fpOk (b := s.heap.objs.size) (Nat.le_refl _) (I.hok.fresh (Nat.le_refl _))
            have I1 : Inv C.X pins σ H { s with heap := s.heap.push { cls := .type "list", data := .seq #[] } } := I.kept (t' := s.toks) fun b o e => Heap.get?_push_of_some _ e
            have I2 := I1.pins_of (pins' := (s.heap.objs.size, { cls := .type "list", data := .seq #[] }) :: pins) (fun p hp => by
              rcases List.mem_cons.mp hp with z | z
              · subst z
                exact ⟨Heap.get?_push_size _ rfl, k1, k2, k3, fun _ => nofun⟩
              · exact I1.pin p (by simp [z]))
            exact reprs_loop ok hm hj bl hgd (Nat.ne_of_lt (Heap.lt_size ho)) k4 k5 k6 ts hsz (fun e s' z => z) h1 (y :: ys) [] [] ts _ H G h #[] 0 [] rfl rfl rfl er I2 rp hz rs (by simp [strValues]) rfl fun u H' G' s' I' st' rp' => ⟨_, _, rfl, .str _, H', I', ⟨_, rfl⟩, o (.str _) H' G' st' rp' (.str _)⟩
        · exact False.elim o
      · exact False.elim o
  · exact ca_repr ok hm hk hg pins s σ H G h _ vs us Q I rp rx vu o
theorem reprO_ (cf : Cf C P w S mg base N sc k) {ms : Ms} (hm : DuOk C j "__repr__" 1 ms) (hj : j < 100) (hk : j + 2 ≤ k) (hg : 100 ≤ k) : CaT C (.builtin "repr") (gReprO ms) := ca_reprO cf.ok hm hj (by rw [cf.k]; exact hk) (by rw [cf.k]; exact hg)
section
variable (ms : Ms) (h : Hm)
@[simp] theorem reprO_i (i : Int) : gReprO ms [.int i] h = gRepr ms [.int i] h := rfl
@[simp] theorem reprO_n : gReprO ms [.non] h = gRepr ms [.non] h := rfl
@[simp] theorem reprO_s (i : Str) : gReprO ms [.str i] h = gRepr ms [.str i] h := rfl
@[simp] theorem reprO_b (i : Bool) : gReprO ms [.bl i] h = gRepr ms [.bl i] h := rfl
@[simp] theorem reprO_t (xs : List T) : gReprO ms [.tup xs] h = gRepr ms [.tup xs] h := rfl
@[simp] theorem reprO_e : gReprO ms [.lst []] h = gRepr ms [.lst []] h := rfl
@[simp] theorem reprO_o (c : Nat) (fs : List (Nat × T)) : gReprO ms [.obj c fs] h = gRepr ms [.obj c fs] h := rfl
@[simp] theorem reprO_2i (a b : Int) : gReprO ms [.lst [.int a, .int b]] h = showD (.lst [.int a, .int b]) h := rfl
theorem reprO_l (y : T) (ys : List T) : gReprO ms [.lst (y :: ys)] h = match T.toDh h (.lst (y :: ys)) with
    | some _ => gRepr ms [.lst (y :: ys)] h
    | none => (match reprsT ms (y :: ys) h with
      | .ok ts h1 => if (listText ts).length ≤ sizeLine then .ok (.str (listText ts)) h1 else .bad
      | _ => .bad) := rfl
end
end
end RT
set_option Elab.async false
set_option linter.all false
set_option maxRecDepth 100000
set_option maxHeartbeats 4000000
/-! RU, part b: a op1 b op2 c. -/
namespace RT
open PySem PySem.Spec L2
open PyProof.Rows hiding St
section
variable {C : RC} {P : Program} {w : World} {S : Sta} {mg : Str → Option Value} {base : Heap} {N : List Str} {sc : Scope} {k j : Nat}
/-- a op1 b op2 c -/
def eChain (o1 o2 : O2) (ra rb rc : ET) : ET := fun st h => (ra st h).bind fun x h1 => (rb st h1).bind fun y h2 => (o1 x y h2).bind fun t h3 => match t with
  | .bl true => (rc st h3).bind fun z h4 => o2 y z h4
  | .bl false => .ok (.bl false) h3
  | _ => .bad
theorem je_chain {op op' : CmpOp} {o1 o2 : O2} (ho : OpT C (compareOp op) o1) (ho' : OpT C (compareOp op') o2) {a b c : Expr} {ra rb rc : ET} {pos : Pos} (ja : JE C a ra) (jb : JE C b rb) (jc : JE C c rc)
    (hm : lastMarks [op, op'] [b, c] = false := by with_unfolding_all rfl) : JE C (.Compare a [op, op'] [b, c] pos) (eChain o1 o2 ra rb rc) := by
  refine ⟨fun pins s σ H Q I hw => ?_⟩
  obtain ⟨st, G, h, rp, rs, o⟩ := hw
  refine Compare_chain (thn (ja.run I rp rs (Out.bind (Rel := relE C) o)) fun v s1 ⟨x, H1, I1, r1, tx, G1, h1, st1, rp1, rx, q1⟩ => chain_link (thn (jb.run I1 rp1 (rs.step st1) (Out.bind (Rel := relE C) q1)) fun u s2 ⟨y, H2, I2, r2, ty, G2, h2, st2, rp2, ry, q2⟩ =>
    thn (ho pins s2 σ H2 G2 h2 tx ty x y v u _ I2 rp2 (rx.step st2) ry r1 r2 (Out.bind (Rel := relE C) q2)) fun d s3 ⟨z, H3, I3, r3, tz, G3, h3, st3, rp3, rz, q3⟩ => ?_)) hm
  dsimp only at q3
  split at q3
  · cases rz
    cases r3
    refine wpAny_truthy_bool ?_
    exact ite_tt (chain_last (thn (jc.run I3 rp3 (((rs.step st1).step st2).step st3) (Out.bind (Rel := relE C) q3)) fun w' s4 ⟨z', H4, I4, r4, tz', G4, h4, st4, rp4, rz', q4⟩ =>
      ho' pins s4 σ H4 G4 h4 ty tz' y z' u w' Q I4 rp4 ((ry.step st3).step st4) rz' r2 r4 q4))
  · cases rz
    cases r3
    refine wpAny_truthy_bool ?_
    exact ite_ff ⟨.bl false, H3, I3, rfl, out_ok q3 rp3 (.bl _)⟩
  · exact False.elim q3
theorem jb_chain {op op' : CmpOp} {o1 o2 : O2} (ho : OpT C (compareOp op) o1) (ho' : OpT C (compareOp op') o2) {a b c : Expr} {ra rb rc : ET} {pos : Pos} (ja : JE C a ra) (jb : JE C b rb) (jc : JE C c rc)
    (hm : lastMarks [op, op'] [b, c] = false := by with_unfolding_all rfl) : JB C (.Compare a [op, op'] [b, c] pos) (bE (eChain o1 o2 ra rb rc)) := by
  refine ⟨fun pins s σ H Q I hw => ?_⟩
  obtain ⟨st, G, h, rp, rs, o0⟩ := hw
  have o := Out.bind (Rel := relE C) o0
  refine isTrue_chain (thn (ja.run I rp rs (Out.bind (Rel := relE C) o)) fun v s1 ⟨x, H1, I1, r1, tx, G1, h1, st1, rp1, rx, q1⟩ => test_link (thn (jb.run I1 rp1 (rs.step st1) (Out.bind (Rel := relE C) q1)) fun u s2 ⟨y, H2, I2, r2, ty, G2, h2, st2, rp2, ry, q2⟩ =>
    thn (ho pins s2 σ H2 G2 h2 tx ty x y v u _ I2 rp2 (rx.step st2) ry r1 r2 (Out.bind (Rel := relE C) q2)) fun d s3 ⟨z, H3, I3, r3, tz, G3, h3, st3, rp3, rz, q3⟩ => ?_)) hm
  dsimp only at q3
  split at q3
  · cases rz
    cases r3
    refine wpAny_truthy_bool ?_
    refine ite_tt (test_last (thn (jc.run I3 rp3 (((rs.step st1).step st2).step st3) (Out.bind (Rel := relE C) q3)) fun w' s4 ⟨z', H4, I4, r4, tz', G4, h4, st4, rp4, rz', q4⟩ =>
      thn (ho' pins s4 σ H4 G4 h4 ty tz' y z' u w' _ I4 rp4 ((ry.step st3).step st4) rz' r2 r4 q4) fun d' s5 ⟨z2, H5, I5, r5, q5⟩ => ?_))
    obtain ⟨t5, G5, h5, st5, rp5, rx5, o5⟩ := q5
    obtain ⟨b', rfl, q⟩ := out_asB o5 Step.refl rp5 rx5
    cases r5
    exact wpAny_truthy_bool ⟨H5, I5, q⟩
  · cases rz
    cases r3
    refine wpAny_truthy_bool ?_
    obtain ⟨t5, G5, h5, st5, rp5, rx5, o5⟩ := out_ok q3 rp3 (.bl false)
    obtain ⟨b', e', q⟩ := out_asB o5 Step.refl rp5 rx5
    cases e'
    exact ite_ff ⟨H3, I3, q⟩
  · exact False.elim q3
@[simp] theorem eChain_ (o1 o2 : O2) (ra rb rc : ET) (st : StT) (h : Hm) : eChain o1 o2 ra rb rc st h = (ra st h).bind fun x h1 => (rb st h1).bind fun y h2 => (o1 x y h2).bind fun t h3 => match t with
  | .bl true => (rc st h3).bind fun z h4 => o2 y z h4
  | .bl false => .ok (.bl false) h3
  | _ => .bad := rfl
end
end RT
set_option Elab.async false
set_option linter.all false
set_option maxRecDepth 100000
set_option maxHeartbeats 4000000
/-! RT, part Uc: own exceptions as values: made, their field set and read, isinstance of them. -/
namespace RT
open PySem PySem.Spec L2
open PyProof.Rows hiding St

/-! ### the class, told -/
structure XcB (K : PySem.W.Frag) (C : Addr) : Prop where
  ex : ∃ B newId initId tl, HandSPX.TlF B newId initId tl ∧ HandSPX.OexG K C newId tl
structure MkE (K : PySem.W.Frag) (C f : Addr) : Prop where
  b : XcB K C
  init : PySem.W.findIn K (.ref C) "__init__" = some (some (.ref f))
  fn : PySem.W.isFn K (.ref f) = true
  kp : PySem.W.keepIn K (.ref C) = true
/-- for isinstance, for fields -/
structure XcI (K : PySem.W.Frag) (C : Addr) : Prop where
  cl : (PySem.W.clsIn K C).isSome = true
  ga : PySem.W.findIn K (.ref C) "__getattribute__" = some (some (.builtin "BaseException.__getattribute__"))
  gg : PySem.W.findIn K (.ref C) "__getattr__" = some none
  exC : PySem.W.subIn K (.ref C) (.type "BaseException") = some true
  hdC : PySem.W.hasDictIn K C = true
  ha : PySem.W.findIn K (.ref C) "__class__" = some (some (.builtin "object.__class__"))
  hn : PySem.W.specialIn K (.builtin "object.__class__") "__get__" = some (some (.builtin "getset_descriptor.__get__"))
  ht : PySem.W.takesIn K (.builtin "object.__class__") = some true
  hm : PySem.W.mroIn K C (.type "object") = some true

/-! ### a field set, the first one -/
section
variable {X : Cx} {pins : List (Addr × Obj)} {σ : St} {H : Hp} {s : Shared} {a C dx : Addr} {f : Str} {y : V} {u : Value} {Q : Unit → Shared → Prop} {E : Value → Shared → Prop} {A : Around}
theorem ost_newT (T : XcB X.K C) (I : Inv X pins σ H s) (e : H a = some (L2.exo a C none)) (hno : PySem.W.findIn X.K (.ref C) f = some none) (ry : RelV y u)
    (h : ∀ dx s', H dx = none → dx ≠ a → Inv X pins σ (upd (upd H dx (.xd [(f, y)])) a (L2.exo a C (some dx))) s' → Q () s') : wpAny (model X.prog X.w) A (setAttr (.ref a) f u) Q E s := by
  obtain ⟨B, newId, initId, tl, TF, OG⟩ := T.ex
  obtain ⟨t1, ho⟩ := exo_at I.hok e
  obtain ⟨hp, g, d, t, os⟩ := s
  refine PySem.W.set_plain I.kIn (od := none) ⟨ho, rfl, rfl, trivial⟩ OG.sa (PySem.HandSPX.exc_osaT TF OG I.kIn ho hno fun h' tk' dx k dn dne hx hn => ?_)
  have hnd : H dx = none := I.hok.fresh dn
  have nd : ∀ {b : Addr} {o : Obj}, hp.get? b = some o → b ≠ dx := fun {b o} q => Nat.ne_of_lt (Nat.lt_of_lt_of_le (Heap.lt_size q) dn)
  have na : ∀ {b : Addr}, H b = none → b ≠ a := fun {b} n z => by
    rw [z, e] at n
    cases n
  have Un1 : Un X.fs [] H (upd (upd H dx (.xd [(f, y)])) a (L2.exo a C (some dx))) hp h' := {
    keep := fun b o q n _ _ => k b o (na n) q
    slot := fun b o q n _ _ => ⟨o.slots, k b o (na n) q⟩
    free := fun b o q n _ => by rw [upd_ne (na n), upd_ne (nd q)]; exact n
    there := fun b o q _ => by
      by_cases hb : b = a
      · exact ⟨_, by rw [hb]; exact hx⟩
      · exact ⟨o, k b o hb q⟩
    tups := fun b xs q => by rw [upd_ne (at_ne e q exo_tup), upd_ne (ne_of_none q hnd)]; exact q
    frzs := fun b o v q => by rw [upd_ne (at_ne e q exo_frz), upd_ne (ne_of_none q hnd)]; exact q
    tbls := fun b ps q => ⟨#[], by rw [upd_ne (at_ne e q exo_tbl), upd_ne (ne_of_none q hnd), q]; simp⟩ }
  refine h dx _ hnd dne (I.un (t' := tk') Un1 fun b o q => ?_)
  by_cases hb : b = a
  · subst hb
    rw [upd_same] at q
    cases q
    exact exo_ok hx
  · rw [upd_ne hb] at q
    by_cases hd : b = dx
    · subst hd
      rw [upd_same] at q
      cases q
      exact ⟨_, hn, relO_put (fs := []) ry fun g => True.intro⟩
    · rw [upd_ne hd] at q
      exact (I.hok b o q).stay (fun c v hc z => k c v (by
          rcases hc with hc | hc
          · rw [hc]
            exact hb
          · exact at_ne e hc exo_own) z)
        (fun c hc => by rw [upd_ne (at_ne e hc exo_own), upd_ne (ne_of_none hc hnd)]; exact hc) (fun c xs hc => by rw [upd_ne (at_ne e hc exo_tup), upd_ne (ne_of_none hc hnd)]; exact hc)
end
section
variable {C : RC} {pos : Pos} {e o : Expr} {re ro : ET} {f : Str} {fi : Nat}
/-- o.f = e, o an exception in the making -/
def sXst (cs : List Nat) (fi : Nat) (re ro : ET) : SM := fun a h => (re a h).th a fun y h1 => (ro a h1).th a fun x h2 => match x with
  | .ref l => (match h2[l]? with
    | some (some (.exn c [])) => if cs.contains c && y.noRef then .ok (.nx a) (h2.set l (some (.exn c [(fi, y)]))) else .bad
    | _ => .bad)
  | _ => .bad
theorem js_xst (ok : C.Ok) {cs : List Nat} {pos' : Pos} (jo : JE C o ro) (je : JE C e re) (ef : C.S.fld fi = f) (hf : fi < C.S.nf) (hc : ∀ c ∈ cs, XcB C.S.K (C.S.cls c) ∧ PySem.W.findIn C.S.K (.ref (C.S.cls c)) f = some none)
    (hs : swapsWith e (some (.Attribute o f pos')) pos.line C.X.env = pure false := by rfl) : JS C (.Assign [.Attribute o f pos'] e pos) (sXst cs fi re ro) := by
  refine ⟨fun pins s σ H D I hw => ?_⟩
  obtain ⟨a, G, h, rp, rs, ho⟩ := hw
  refine plainObj_wpAny_Assign_Attribute (thn (je.run I rp rs (OutS.bind (Rel := relE C) rs ho)) fun u s1 ⟨v, H1, I1, ru, y, G1, h1, st1, rp1, ry, o1⟩ => ?_) hs
  refine thn (jo.run I1 rp1 (rs.step st1) (OutS.bind (Rel := relE C) (rs.step st1) o1)) fun u2 s2 ⟨v2, H2, I2, ru2, x, G2, h2, st2, rp2, rx, o2⟩ => ?_
  dsimp only at o2
  split at o2
  · rename_i l
    split at o2
    · rename_i c q
      split at o2
      · rename_i hcs
        obtain ⟨k1, k2⟩ := band hcs
        cases rx with
        | @ref _ a' hl =>
          cases ru2
          obtain ⟨a2, o', h1', h2', h3', _, hnr⟩ := rp2.cell _ _ q
          rw [hl] at h1'; cases h1'
          obtain ⟨c1, c2⟩ := hc c (List.contains_iff_mem.mp k1)
          rw [ok.K] at c1 c2
          cases h3' with
          | exn0 =>
            subst ef
            refine ost_newT c1 I2 h2' c2 ru fun dx s3 hdx ndx I3 => ?_
            obtain ⟨st3, rp3⟩ := rp2.newF (o := .xd [(C.S.fld fi, v)]) hdx
            have rf : RelFs C.S (upd H2 dx (.xd [(C.S.fld fi, v)])) (G2.fz dx) [(fi, y)] [(C.S.fld fi, v)] := .cons hf ((ry.step st2).step st3) .nil
            obtain ⟨st4, rp4⟩ := rp3.set (G := G2.fz dx) hl q (.exn (c := c) (f := (fi, y)) (fs := []) (.inl rfl) upd_same rf) (by show T.noRefF [(fi, y)] = true; rw [T.noRefF, k2]; rfl)
            exact ⟨σ, _, I3, o2 σ _ _ (st3.trans st4) rp4 ((((rs.step st1).step st2).step st3).step st4)⟩
      · exact False.elim o2
    · exact False.elim o2
  · exact False.elim o2
end
/-! ### made -/
def mkXFin (c n : Nat) : R T → R T
  | .ok t h => (match t, h[n]? with
    | .non, some (some (.exn c' fs)) => if c' = c then .ok (.exo c fs) (h.take n) else .bad
    | _, _ => .bad)
  | .exc e h => if e.noRef then .exc e (h.take n) else .bad
  | .bad => .bad
def mkXC (c : Nat) (o : O3) : O3 := fun xs zs h => mkXFin c h.length (o (.ref h.length :: xs) zs (h ++ [some (.exn c [])]))
def mkXO (c : Nat) (g : List T → Hm → R T) (arr : List T → List T → List T) : O3 := fun xs zs h => mkXFin c h.length (g (arr (.ref h.length :: xs) zs) (h ++ [some (.exn c [])]))
theorem CaK.makeXC {C : RC} (ok : C.Ok) {k c : Nat} {f : Addr} {ks : List Str} {n : Nat} {oo : O3} (M : MkE C.S.K (C.S.cls c) f)
    (F : FnC C.X.prog C.X.w C.S C.X.mg C.X.base k f (n + 1) ks oo) (hk : k + 1 ≤ C.k) (hn : n ≤ 1000 := by decide) : CaK C (.ref (C.S.cls c)) n ks (mkXC c oo) := by
  intro pins s σ H G h xs zs vs vz us ws Q I rp rx rz vu vw l1 l2 o
  have hr : RoomM C.S.mo (k + 1) C.X.A := ok.room.mono hk
  obtain ⟨⟨B, newId, initId, tl, TF, OG⟩, iC, tI, kp⟩ := M
  obtain ⟨nm, q, N, bs, bm, sn, sub, ab, col, dd, k0, k1, k2, k3, k5, hC, hbm⟩ := OG.cls
  rw [ok.K] at hC iC tI
  have typ := OG.typ
  rw [ok.K] at typ
  obtain ⟨hp, g, dr, tk, os⟩ := s
  have hsz : hp.objs.size ≤ hp.objs.size + 1 := Nat.le_succ _
  have f1 : H (hp.objs.size + 1) = none := I.hok.fresh hsz
  have hus : us.length ≤ sizeLine := by
    rw [l1, sizeLine_eq]
    omega
  have kk : ∀ b o, hp.get? b = some o → ((hp.push (PySem.W.kdv_tup us)).push (PySem.HandSPX.excO (C.S.cls c) hp.objs.size)).get? b = some o := fun b o e => Heap.get?_push_of_some _ (Heap.get?_push_of_some _ e)
  have hget : ((hp.push (PySem.W.kdv_tup us)).push (PySem.HandSPX.excO (C.S.cls c) hp.objs.size)).get? (hp.objs.size + 1) = some (PySem.HandSPX.excO (C.S.cls c) hp.objs.size) := by heap_get
  have I2 : Inv C.X pins σ (upd H (hp.objs.size + 1) (L2.exo (hp.objs.size + 1) (C.S.cls c) none)) ⟨(hp.push (PySem.W.kdv_tup us)).push (PySem.HandSPX.excO (C.S.cls c) hp.objs.size), g, dr, tk, os⟩ :=
    I.laid (t' := tk) (a := hp.objs.size + 1) (o := L2.exo (hp.objs.size + 1) (C.S.cls c) none) (h' := (hp.push (PySem.W.kdv_tup us)).push (PySem.HandSPX.excO (C.S.cls c) hp.objs.size)) kk hsz (exo_ok hget)
  obtain ⟨st3, rp2⟩ := rp.newC (o := L2.exo (hp.objs.size + 1) (C.S.cls c) none) (c := .exn c []) f1 .exn0 rfl
  have eref : (G.ad (hp.objs.size + 1)).mu[h.length]? = some (hp.objs.size + 1) := by
    show (G.mu ++ [hp.objs.size + 1])[h.length]? = _
    rw [rp.len, List.getElem?_append_right (Nat.le_refl _)]; simp
  have rx' : RelTs C.S _ (G.ad (hp.objs.size + 1)) (.ref h.length :: xs) (.ref (hp.objs.size + 1) :: vs) := .cons (.ref eref) (rx.step st3)
  have KX : C.S.K.In ((hp.push (PySem.W.kdv_tup us)).push (PySem.HandSPX.excO (C.S.cls c) hp.objs.size)) := by rw [ok.K]; exact I2.kIn
  have e0 := I2.env0.make (C.S.cls c) us (ks.zip ws)
  rw [← ok.K] at e0
  have hmu : (G.ad (hp.objs.size + 1)).mu.length = h.length + 1 := by simp [Gh.ad, rp.len]
  have hend : EndT C.S (upd H (hp.objs.size + 1) (L2.exo (hp.objs.size + 1) (C.S.cls c) none)) (G.ad (hp.objs.size + 1)) (oo (.ref h.length :: xs) zs (h ++ [some (.exn c [])])) (fun v H2 => v = .non ∧ Q (.ref (hp.objs.size + 1)) H2) (fun cls d H' => C.W cls d σ H') := by
    have o2 := Out.endT o
    unfold mkXC at o2
    cases q : oo (.ref h.length :: xs) zs (h ++ [some (.exn c [])]) with
    | ok t h' =>
      rw [q] at o2
      unfold mkXFin at o2
      dsimp only at o2
      split at o2
      · rename_i c' fs e2
        split at o2
        · rename_i ec
          subst ec
          intro v H' G' st rp' rv
          cases rv
          refine ⟨rfl, ?_⟩
          obtain ⟨a, u, h1, h2, h3, h4, h5⟩ := rp'.cell _ _ e2
          rw [st.get eref] at h1; cases h1
          obtain ⟨st4, rp4⟩ := rp'.freeze (st.get eref) (by rw [h2]; simp)
          have cutl : ((h'.set h.length none).take h.length) = h'.take h.length := by rw [List.take_set_of_le (Nat.le_refl _)]
          have rp5 := rp4.cut h.length
          rw [cutl] at rp5
          have st5 := ((st3.trans st).trans st4).cut
          rw [← rp.len] at st5
          cases h3 with
          | exn0 => exact o2 _ H' _ st5 rp5 (.exo0 (.inl rfl) h2)
          | exn zz hd rf => exact o2 _ H' _ st5 rp5 (.exo (.inl rfl) (.inr zz) h2 hd (RelFs.indep (G := G') (G' := (G'.fz (hp.objs.size + 1)).cut h.length) (fun _ z => .inr z) rf h5))
        · exact False.elim o2
      · exact False.elim o2
    | exc e h' =>
      rw [q] at o2
      unfold mkXFin at o2
      dsimp only at o2
      split at o2
      · rename_i nr
        intro cl d H' G' st rp' rx
        have st5 := (st3.trans st).cut
        rw [← rp.len] at st5
        exact o2 cl d H' _ st5 (rp'.cut h.length) (RelX.indep (G := G') (G' := G'.cut h.length) (fun _ z => z) rx nr)
      · exact False.elim o2
    | bad => rw [q] at o2; exact o2
  have l1' : (Value.ref (hp.objs.size + 1) :: us).length = n + 1 := by simp [l1]
  have vu' : Vals (V.ref (hp.objs.size + 1) :: vs) (Value.ref (hp.objs.size + 1) :: us) := .cons rfl vu
  refine wpAny_call (PySem.HandSPX.call_kw TF.F (fun Y => PySem.W.excTail_contains Y bm hbm) (I.kIn _ _ hC) (PySem.W.looks_instIn I.kIn typ) (PySem.W.looks_findIn I.kIn iC) (fun self => PySem.W.bind_fn I.kIn self (beq_iff_eq.mp tI)) hus
    (codeAny_mono (F.run _ C.X.stack _ _ (G.ad (hp.objs.size + 1)) (h ++ [some (.exn c [])]) (.ref h.length :: xs) zs _ _ (Value.ref (hp.objs.size + 1) :: us) ws _ (fun cls d H' => C.W cls d σ H')
      (hr.make _ us (ks.zip ws)) (ok.pinM I2) (guards_make (ok.gd.mono (Nat.le_trans (Nat.le_succ k) hk))) e0 KX rp2 rx' (rz.step st3) vu' vw l1' l2 hend) fun r s' hq' => ?_))
  cases r with
  | error e => exact ok.tk e s' (XE.of_call I2 (fun _ _ _ z => z) hq')
  | ok fl =>
    cases fl with
    | ret u =>
      obtain ⟨v, H', I3, rv, ev, q3⟩ := I2.after hq'
      subst ev
      exact ⟨rv, ⟨V.ref (hp.objs.size + 1), H', I3, rfl, q3⟩⟩
    | next => exact False.elim hq'
    | brk => exact False.elim hq'
    | cont => exact False.elim hq'
theorem CaK.makeX {C : RC} (ok : C.Ok) {k c : Nat} {f : Addr} {fd : FuncData} {ps ks : List Str} {n : Nat} {arr : List T → List T → List T} {g : List T → Hm → R T} (M : MkE C.S.K (C.S.cls c) f)
    (F : FnG C.S.mo C.X.prog C.X.w C.S.K C.X.mg C.X.base k f fd ps (spT C.S ps.length g)) (B : BindT C.S fd ps (n + 1) ks arr) (hk : k + 1 ≤ C.k) (hn : n ≤ 1000 := by decide) : CaK C (.ref (C.S.cls c)) n ks (mkXO c g arr) := CaK.makeXC ok M (F.toC B) hk hn
/-- a class without an own __init__ -/
structure MkE0 (K : PySem.W.Frag) (C : Addr) : Prop where
  ex : ∃ B newId initId tl, ExcBaseFacts B newId initId tl ∧ PySem.W.excIn K C tl newId = true
  kp : PySem.W.keepIn K (.ref C) = true
def mkX0 (c : Nat) : O3 := fun _ _ h => .ok (.exo c []) h
theorem CaK.makeX0 {C : RC} (ok : C.Ok) {c : Nat} (M : MkE0 C.S.K (C.S.cls c)) : CaK C (.ref (C.S.cls c)) 0 [] (mkX0 c) := by
  intro pins s σ H G h xs zs vs vz us ws Q I rp rx rz vu vw l1 l2 o
  obtain ⟨B, newId, initId, tl, F, q⟩ := M.ex
  rw [ok.K] at q
  obtain ⟨bm, N, nm, qn, bs, hdct, sn, sub, ab, col, dd, k0, k1, k2, k3, k5, mN, hC, hN, hni, Tt⟩ := exc_obj I.kIn q
  cases us with
  | cons _ _ => cases l1
  | nil =>
    cases ws with
    | cons _ _ => cases l2
    | nil =>
      refine wpAny_call_exc_subT F Tt hC hN hni (fun h' e hm => ?_) (by show 0 ≤ sizeLine; exact Nat.zero_le _)
      obtain ⟨t, he, _, _⟩ := hm.there
      have na : H e = none := I.hok.gone hm.new
      have I2 : Inv C.X pins σ (upd H e (L2.exo e (C.S.cls c) none)) { s with heap := h' } := I.laidN (t' := s.toks) hm.keeps hm.new na (exo_ok he)
      obtain ⟨st2, rp2⟩ := rp.newF (o := L2.exo e (C.S.cls c) none) na
      exact ⟨.ref e, _, I2, rfl, o _ _ _ st2 rp2 (.exo0 (.inl rfl) upd_same)⟩
/-! ### a field read -/
section
variable {C : RC} {pos : Pos} {e : Expr} {re : ET} {f : Str} {fi : Nat}
/-- e.f, e an exception as a value -/
def eXfld (cs : List Nat) (fi : Nat) (re : ET) : ET := fun st h => (re st h).bind fun x h1 => match x with
  | .exo c fs => if cs.contains c then (match fs.lookup fi with
    | some t => .ok t h1
    | none => .bad) else .bad
  | .xh c fs => if cs.contains c then (match fs.lookup fi with
    | some t => .ok t h1
    | none => .bad) else .bad
  | _ => .bad
theorem je_xfld (ok : C.Ok) {cs : List Nat} (j : JE C e re) (ef : C.S.fld fi = f) (hf : fi < C.S.nf) (hc : ∀ c ∈ cs, XcI C.S.K (C.S.cls c) ∧ PySem.W.findIn C.S.K (.ref (C.S.cls c)) f = some none)
    (hb : attributeBase e f C.X.env (eval e C.X.env) = eval e C.X.env := by rfl) : JE C (.Attribute e f pos) (eXfld cs fi re) := by
  refine ⟨fun pins s σ H Q I hw => ?_⟩
  obtain ⟨st, G, h, rp, rs, ho⟩ := hw
  refine attr_of hb (thn (j.run I rp rs (Out.bind (Rel := relE C) ho)) fun u s1 ⟨v, H1, I1, ru, x, G1, h1, st1, rp1, rx, o1⟩ => ?_)
  dsimp only at o1
  split at o1
  · rename_i c fs
    split at o1
    · rename_i hcs
      split at o1
      · rename_i t e2
        obtain ⟨T, hno⟩ := hc c (List.contains_iff_mem.mp hcs)
        rw [ok.K] at T hno
        cases rx with
        | exo0 z q => cases e2
        | @exo _ _ _ a dx vs z zd q qd rf =>
          cases ru
          obtain ⟨t1, ha⟩ := exo_at I1.hok q
          obtain ⟨mA, hns, hr⟩ := (show ObjOk C.X.prog C.X.w H1 s1.heap dx (.xd vs) from I1.hok dx _ qd)
          obtain ⟨v', l1, rt⟩ := rf.look hf e2
          rw [ef] at l1
          obtain ⟨od, ho, hl⟩ := lookIn_ns hns
          obtain ⟨u, hu, ru⟩ := RelO.some_of (v := v') (o := mA f) (by rw [← l1]; exact hr f)
          have J : PySem.W.InstAt s1.heap a { cls := .ref (C.S.cls c), dict := some dx, data := .fields #[.ref t1, .none, .none, .none, .bool false, .none] } (C.S.cls c) (some od) := ⟨ha, rfl, rfl, ho⟩
          exact HandSPX.exc_get I1.kIn J T.ga T.gg T.exC (PySem.W.findObj_own T.hdC hno rfl (by rw [hl, hu])) (handed_of ru) ⟨v', H1, I1.tok _, ru, out_ok o1 rp1 rt⟩
      · exact False.elim o1
    · exact False.elim o1
  · rename_i c fs
    split at o1
    · rename_i hcs
      split at o1
      · rename_i t e2
        obtain ⟨T, hno⟩ := hc c (List.contains_iff_mem.mp hcs)
        rw [ok.K] at T hno
        cases rx with
        | exh0 _ _ _ _ => cases e2
        | @exh _ _ _ a oe ws dx vs em hc1 hc2 hc3 zd qd rf =>
          cases ru
          obtain ⟨ha, _⟩ := I1.pin (a, oe) (List.mem_append_left _ (ok.pn _ em))
          obtain ⟨mA, hns, hr⟩ := (show ObjOk C.X.prog C.X.w H1 s1.heap dx (.xd vs) from I1.hok dx _ qd)
          obtain ⟨v', l1, rt⟩ := rf.look hf e2
          rw [ef] at l1
          obtain ⟨od, ho, hl⟩ := lookIn_ns hns
          obtain ⟨u, hu, ru⟩ := RelO.some_of (v := v') (o := mA f) (by rw [← l1]; exact hr f)
          have J : PySem.W.InstAt s1.heap a oe (C.S.cls c) (some od) := ⟨ha, hc1, by unfold PySem.W.notCls; rw [hc3] <;> rfl, by rw [hc2]; exact ho⟩
          exact HandSPX.exc_get I1.kIn J T.ga T.gg T.exC (PySem.W.findObj_own T.hdC hno rfl (by rw [hl, hu])) (handed_of ru) ⟨v', H1, I1.tok _, ru, out_ok o1 rp1 rt⟩
      · exact False.elim o1
    · exact False.elim o1
  · exact False.elim o1
/-! ### isinstance -/
def gIsiX (nc : Nat) (tab : IsTab) (xs : List Nat) : List T → Hm → R T := fun ys h => match ys with
  | [.exo c _, k] => (match asTg k with
    | some b => if xs.contains c then (match isLook tab (.cl c) b with
      | some r => .ok (.bl r) h
      | none => .bad) else .bad
    | none => .bad)
  | [.xh c _, k] => (match asTg k with
    | some b => if xs.contains c then (match isLook tab (.cl c) b with
      | some r => .ok (.bl r) h
      | none => .bad) else .bad
    | none => .bad)
  | _ => gIsi nc tab ys h
theorem ca_isiX (ok : C.Ok) {tab : IsTab} {xc : List Nat} (io : IsOk C.S tab) (xo : ∀ c ∈ xc, XcI C.S.K (C.S.cls c)) : CaT C (.builtin "isinstance") (gIsiX C.S.nc tab xc) := by
  intro pins s σ H G h xs vs us Q I rp rx vu o
  unfold gIsiX at o
  split at o
  · rename_i c fs k
    split at o
    · rename_i b eb
      split at o
      · rename_i hcs
        split at o
        · rename_i r er
          have kk := io.tab (.cl c) b r er
          rw [ok.K] at kk
          have T := xo c (List.contains_iff_mem.mp hcs)
          rw [ok.K] at T
          cases rx with
          | cons r1 rr =>
            cases rr with
            | cons r2 rr =>
              cases rr
              cases vu with
              | cons u1 uu =>
                cases uu with
                | cons u2 uu =>
                  cases uu
                  rename_i w
                  have ew : w = b.val C.S := by
                    cases k with
                    | ty n => cases eb; cases r2; exact u2
                    | cl c => cases eb; cases r2; exact u2
                    | _ => cases eb
                  subst ew
                  cases r1 with
                  | @exo0 _ a z q =>
                    cases u1
                    obtain ⟨t1, ha⟩ := exo_at I.hok q
                    have J : PySem.W.InstAt s.heap a { cls := .ref (C.S.cls c), dict := none, data := .fields #[.ref t1, .none, .none, .none, .bool false, .none] } (C.S.cls c) none := ⟨ha, rfl, rfl, trivial⟩
                    exact PySem.W.kia_one (PySem.W.kitx_exc T.cl T.ga T.gg T.exC T.ha T.hn T.ht T.hm) I.kIn J kk (fun z => nomatch z) fun tk => ⟨.bl r, H, I.kept (t' := tk) fun _ _ z => z, rfl, out_ok o rp (.bl r)⟩
                  | @exo _ _ _ a dx vs z zd q qd rf =>
                    cases u1
                    obtain ⟨t1, ha⟩ := exo_at I.hok q
                    obtain ⟨mA, hns, hr⟩ := (show ObjOk C.X.prog C.X.w H s.heap dx (.xd vs) from I.hok dx _ qd)
                    obtain ⟨od, ho, hl⟩ := lookIn_ns hns
                    have J : PySem.W.InstAt s.heap a { cls := .ref (C.S.cls c), dict := some dx, data := .fields #[.ref t1, .none, .none, .none, .bool false, .none] } (C.S.cls c) (some od) := ⟨ha, rfl, rfl, ho⟩
                    exact PySem.W.kia_one (PySem.W.kitx_exc T.cl T.ga T.gg T.exC T.ha T.hn T.ht T.hm) I.kIn J kk (fun z => nomatch z) fun tk => ⟨.bl r, H, I.kept (t' := tk) fun _ _ z => z, rfl, out_ok o rp (.bl r)⟩
        · exact False.elim o
      · exact False.elim o
    · exact False.elim o
  · rename_i c fs k
    split at o
    · rename_i b eb
      split at o
      · rename_i hcs
        split at o
        · rename_i r er
          have kk := io.tab (.cl c) b r er
          rw [ok.K] at kk
          have T := xo c (List.contains_iff_mem.mp hcs)
          rw [ok.K] at T
          cases rx with
          | cons r1 rr =>
            cases rr with
            | cons r2 rr =>
              cases rr
              cases vu with
              | cons u1 uu =>
                cases uu with
                | cons u2 uu =>
                  cases uu
                  rename_i w
                  have ew : w = b.val C.S := by
                    cases k with
                    | ty n => cases eb; cases r2; exact u2
                    | cl c => cases eb; cases r2; exact u2
                    | _ => cases eb
                  subst ew
                  cases r1 with
                  | @exh0 _ a oe ws em hc1 hc2 hc3 =>
                    cases u1
                    obtain ⟨ha, _⟩ := I.pin (a, oe) (List.mem_append_left _ (ok.pn _ em))
                    have J : PySem.W.InstAt s.heap a oe (C.S.cls c) none := ⟨ha, hc1, by unfold PySem.W.notCls; rw [hc3] <;> rfl, by rw [hc2]; trivial⟩
                    exact PySem.W.kia_one (PySem.W.kitx_exc T.cl T.ga T.gg T.exC T.ha T.hn T.ht T.hm) I.kIn J kk (fun z => nomatch z) fun tk => ⟨.bl r, H, I.kept (t' := tk) fun _ _ z => z, rfl, out_ok o rp (.bl r)⟩
                  | @exh _ _ _ a oe ws dx vs em hc1 hc2 hc3 zd qd rf =>
                    cases u1
                    obtain ⟨ha, _⟩ := I.pin (a, oe) (List.mem_append_left _ (ok.pn _ em))
                    obtain ⟨mA, hns, hr⟩ := (show ObjOk C.X.prog C.X.w H s.heap dx (.xd vs) from I.hok dx _ qd)
                    obtain ⟨od, ho, hl⟩ := lookIn_ns hns
                    have J : PySem.W.InstAt s.heap a oe (C.S.cls c) (some od) := ⟨ha, hc1, by unfold PySem.W.notCls; rw [hc3] <;> rfl, by rw [hc2]; exact ho⟩
                    exact PySem.W.kia_one (PySem.W.kitx_exc T.cl T.ga T.gg T.exC T.ha T.hn T.ht T.hm) I.kIn J kk (fun z => nomatch z) fun tk => ⟨.bl r, H, I.kept (t' := tk) fun _ _ z => z, rfl, out_ok o rp (.bl r)⟩
        · exact False.elim o
      · exact False.elim o
    · exact False.elim o
  · exact ca_isi ok io pins s σ H G h xs vs us Q I rp rx vu o
end
end RT
set_option Elab.async false
set_option linter.all false
set_option maxRecDepth 100000
set_option maxHeartbeats 4000000
/-! RT, part Ud: methods of lists that are not changed (count, index); list + list where cells stand; own classes beside exceptions. -/
namespace RT
open PySem PySem.Spec L2
open PyProof.Rows hiding St
section
variable {C : RC} {P : Program} {w : World} {S : Sta} {mg : Str → Option Value} {base : Heap} {N : List Str} {sc : Scope} {k j : Nat} {pos : Pos}
/-- x.m(..), x a list that is not changed -/
def eLM (f : List T → List T → Option T) (ro : ET) (ra : AT) : ET := fun a h => (ro a h).bind fun x h1 => match x with
  | .lst xs => (ra a h1).bind fun ys h2 => (match f xs ys with
    | some t => .ok t h2
    | none => .bad)
  | _ => .bad
def LmR (C : RC) (id : String) (f : List T → List T → Option T) : Prop :=
  ∀ (pins : List (Addr × Obj)) (s : Shared) (σ : St) (H : Hp) (G : Gh) (h : Hm) (p : Addr) (xs ys : List T) (t : T) (vx vs : List V) (its us : List Value) (n : Nat) (Q : VK), Inv C.X pins σ H s → RepH C.S H G h → s.heap.get? p = some { cls := .type "list", data := .seq its.toArray n } → Vals vx its → its.length ≤ sizeLine →
    RelTs C.S H G xs vx → RelTs C.S H G ys vs → Vals vs us → f xs ys = some t → Out C σ H G (relE C) (.ok t h) Q → wpAny (model C.X.prog C.X.w) C.X.A (call (.builtin id) (.ref p :: us)) (EP C.X pins σ Q) C.X.xe s
theorem lst_exactK (hK : C.S.K = C.X.K) {pins : List (Addr × Obj)} {s : Shared} {σ : St} {H : Hp} {G : Gh} (I : Inv C.X pins σ H s) {a : Addr} {vs : List V} (hz : FzL C.S H G a vs) : ∃ (its : List Value) (n : Nat), Vals vs its ∧ vs.length = its.length ∧ its.length ≤ sizeLine ∧ s.heap.get? a = some { cls := .type "list", data := .seq its.toArray n } := by
  rcases hz with ⟨_, rd⟩ | ⟨us, n, lk, l, r⟩
  · obtain ⟨z, its, n, r, e⟩ := rd.ok I.hok
    exact ⟨its, n, r, r.length, by rw [← r.length]; exact z, e⟩
  · rw [hK] at lk
    exact ⟨us, n, r, r.length, l, I.kIn a _ lk⟩
theorem je_lmM (hK : C.S.K = C.X.K) {f : List T → List T → Option T} {name : Str} {id : String} (slot : Slot "list" name id) (hty : typeOf (.builtin id) = pure (.type "method_descriptor")) (hm : LmR C id f) {o e : Expr} {es : List Expr} {ro : ET} {ra : AT} {apos cpos : Pos} (jo : JE C o ro) (ja : JA C (e :: es) ra)
    (hbase : attributeBase o name C.X.env (eval o C.X.env) = eval o C.X.env := by rfl)
    (hfew : ((backTo cpos (starEach (e :: es) C.X.env)).all (fun x => !x.1) && (backToKw cpos (keywordEach [] C.X.env)).all (fun x => x.1.isSome)
      && decide ((e :: es).length + ([] : List Keyword).length + (if ([] : List Keyword).isEmpty then 0 else 1) < 30)) = true := by rfl)
    (hline : (apos.endLine == cpos.line) = true := by rfl) (hs : starEach (e :: es) C.X.env = (false, eval e C.X.env) :: starEach es C.X.env := by rfl) (hplain : (backTo cpos (starEach es C.X.env)).any (·.1) = false := by rfl) :
    JE C (.Call (.Attribute o name apos) (e :: es) [] cpos) (eLM f ro ra) := by
  refine ⟨fun pins s σ H Q I hw => ?_⟩
  obtain ⟨st, G, h, rp, rs, o1⟩ := hw
  refine wpAny_Call_method_late hbase hfew hline rfl (thn (jo.run I rp rs (Out.bind (Rel := relE C) o1)) fun v s1 ⟨x, H1, I1, r1, tx, G1, h1, st1, rp1, rx, o2⟩ => ?_)
  dsimp only at o2
  split at o2
  · rename_i xs
    cases rx with
    | @lst _ p vx hz rxs =>
      cases r1
      have sq := hz.sq
      rw [hK] at sq
      obtain ⟨h1', h2'⟩ := tyV_is (T := "list") (x := .ref p) I1 rfl (.inl ⟨rfl, _, sq⟩)
      refine ⟨"list", id, PySem.F.plainAttrs_list, slot, hty, h1', h2', ?_⟩
      have hA := ja.run cpos I1 rp1 (rs.step st1) (Out.bind (Rel := relA C) o2)
      rw [hs] at hA ⊢
      refine Calls.callWith_builtin (by show (false || (backTo cpos (starEach es C.X.env)).any (·.1)) = false; rw [hplain] <;> rfl) (Calls.evalArgs_plain ?_)
      refine thn hA fun us s2 ⟨vs, H2, I2, r2, ys, G2, h2, st2, rp2, rys, o3⟩ => ?_
      dsimp only at o3
      split at o3
      · rename_i t ef
        obtain ⟨its, n, rv, _, hl, eo⟩ := lst_exactK hK I2 (hz.step st2)
        exact hm pins s2 σ H2 G2 h2 p xs ys t vx vs its us n Q I2 rp2 eo rv hl (rxs.step st2) rys r2 ef o3
      · exact False.elim o3
  · exact False.elim o2
/-- the bools of a list -/
def boolsOf : List T → Option (List Bool)
  | [] => some []
  | .bl b :: r => (boolsOf r).map (b :: ·)
  | _ => none
theorem bools_vals {H : Hp} {G : Gh} : ∀ {xs : List T} {vx : List V} {its : List Value} {bs : List Bool}, boolsOf xs = some bs → RelTs S H G xs vx → Vals vx its → its = bs.map Value.bool
  | [], _, _, _, e, .nil, .nil => by rw [boolsOf] at e; cases e; rfl
  | x :: r, _, _, bs, e, .cons rx rr, .cons v1 vr => by
    cases x with
    | bl b =>
      rw [boolsOf, Option.map_eq_some_iff] at e
      obtain ⟨bs', e1, rfl⟩ := e
      cases rx
      cases v1
      rw [bools_vals e1 rr vr]
      rfl
    | _ => rw [boolsOf] at e <;> first | cases e | (intro _ _ z; cases z)
theorem eq_blk (k : Bool) {bs : List Bool} (A : Around) (s : Shared) : ∀ y, y ∈ (bs.map Value.bool).toArray → SeqAt.EqAt A s y (.bool k) (isBoolOf k y) := fun y hy => by
  have hy' : y ∈ bs.map Value.bool := by simpa using hy
  obtain ⟨b, _, rfl⟩ := List.mem_map.mp hy'
  exact SeqAt.EqAt.bool_bool b k
theorem count_bools (k : Bool) : ∀ bs : List Bool, (bs.map Value.bool).countP (isBoolOf k) = bs.count k
  | [] => rfl
  | b :: r => by
    rw [List.map_cons, List.countP_cons, List.count_cons, count_bools k r]
    rfl
def fCountB (xs ys : List T) : Option T := match ys with
  | [.bl k] => (boolsOf xs).map fun bs => .int (bs.count k : Nat)
  | _ => none
theorem lm_count : LmR C "list.count" fCountB := by
  intro pins s σ H G h p xs ys t vx vs its us n Q I rp eo rv hl rxs rys vu ef o
  unfold fCountB at ef
  split at ef
  · rename_i k
    rw [Option.map_eq_some_iff] at ef
    obtain ⟨bs, e1, rfl⟩ := ef
    have e2 := bools_vals e1 rxs rv
    subst e2
    obtain ⟨v, rfl, r1⟩ := rys.one
    cases r1
    obtain ⟨u, rfl, ru⟩ := vals1 vu
    cases ru
    refine call_meets PySem.F.slot_list_count ⟨_, eo, rfl⟩ PySem.F.entry_list_count (PySem.F.args_list_count_2 _ _) (SeqAt.list_countAt p _ n none _ (.bool k) (isBoolOf k)) ⟨eo, eq_blk k _ _, ?_⟩
    refine ⟨.int _, H, I.tok _, ⟨s.toks, ?_⟩, out_ok o rp (.int _)⟩
    rw [show (bs.map Value.bool).toArray.toList = bs.map Value.bool from rfl, count_bools]
  · cases ef
def fIndexB (xs ys : List T) : Option T := match ys with
  | [.bl k] => (boolsOf xs).bind fun bs => if decide (bs.idxOf k < bs.length) then some (.int (bs.idxOf k : Nat)) else none
  | _ => none
theorem lm_index : LmR C "list.index" fIndexB := by
  intro pins s σ H G h p xs ys t vx vs its us n Q I rp eo rv hl rxs rys vu ef o
  unfold fIndexB at ef
  split at ef
  · rename_i k
    rw [Option.bind_eq_some_iff] at ef
    obtain ⟨bs, e1, ef⟩ := ef
    split at ef
    · rename_i hd
      cases ef
      have hd := of_decide_eq_true hd
      have e2 := bools_vals e1 rxs rv
      subst e2
      obtain ⟨v, rfl, r1⟩ := rys.one
      cases r1
      obtain ⟨u, rfl, ru⟩ := vals1 vu
      cases ru
      rw [List.length_map, sizeLine_eq] at hl
      refine call_meets PySem.F.slot_list_index ⟨_, eo, rfl⟩ PySem.F.entry_list_index (PySem.F.args_list_index_2 _ _) (SeqAt.list_indexAt p _ n none _ (.bool k) (isBoolOf k) (bs.idxOf k) (by simpa using hd) (by omega) ?_ ?_) ⟨eo, eq_blk k _ _, ?_⟩
      · simp [isBoolOf, List.getElem_idxOf hd]
      · intro m hm hlt
        have hm' : m < bs.length := by simpa using hm
        have ne : bs[m] ≠ k := SeqAt.lt_idxOf_ne hlt hm'
        simpa [isBoolOf] using ne
      · exact ⟨.int _, H, I.tok _, ⟨s.toks, rfl⟩, out_ok o rp (.int _)⟩
    · cases ef
  · cases ef
/-! ### list + list where cells stand -/
def lstH (t : T) (h : Hm) : Option (List T) := match t with
  | .lst xs => some xs
  | .ref l => (match h[l]? with
    | some (some (.lst xs)) => some xs
    | _ => none)
  | _ => none
theorem lstH_exact (hK : C.S.K = C.X.K) {pins : List (Addr × Obj)} {s : Shared} {σ : St} {H : Hp} {G : Gh} {h : Hm} (I : Inv C.X pins σ H s) (rp : RepH C.S H G h) {t : T} {v : V} (r : RelT C.S H G t v) {xs : List T} (e : lstH t h = some xs) :
    ∃ (a : Addr) (vs : List V) (its : List Value) (n : Nat), v = .ref a ∧ RelTs C.S H G xs vs ∧ Vals vs its ∧ its.length ≤ sizeLine ∧ s.heap.get? a = some { cls := .type "list", data := .seq its.toArray n } := by
  cases t with
  | lst ys =>
    cases e
    cases r with
    | lst hz rs =>
      obtain ⟨its, n, rv, _, hl, eo⟩ := lst_exactK hK I hz
      exact ⟨_, _, its, n, rfl, rs, rv, hl, eo⟩
  | ref l =>
    unfold lstH at e
    dsimp only at e
    split at e
    · rename_i ys ex
      cases e
      cases r with
      | ref hmu =>
        obtain ⟨vx, hH, rxs, _⟩ := cell_at rp hmu ex
        obtain ⟨z, its, n, rv, hl1, eo⟩ := I.lstM hH
        exact ⟨_, vx, its, n, rfl, rxs, rv, by have := rv.length; omega, eo⟩
    · cases e
  | _ => cases e
/-- a new list that is not changed -/
def opAddF : O2 := fun x y h => match lstH x h, lstH y h with
  | some xs, some ys => if xs.length + ys.length ≤ sizeLine then .ok (.lst (xs ++ ys)) h else .bad
  | _, _ => .bad
/-- a new cell -/
def opAddC : O2 := fun x y h => match lstH x h, lstH y h with
  | some xs, some ys => if decide (xs.length + ys.length ≤ sizeLine) && (T.noRefs xs && T.noRefs ys) then .ok (.ref h.length) (h ++ [some (.lst (xs ++ ys))]) else .bad
  | _, _ => .bad
theorem add_run (hK : C.S.K = C.X.K) {pins : List (Addr × Obj)} {s : Shared} {σ : St} {H : Hp} {G : Gh} {h : Hm} {x y : T} {vx vy : V} {u w : Value} {Q : VK} (I : Inv C.X pins σ H s) (rp : RepH C.S H G h) (rx : RelT C.S H G x vx) (ry : RelT C.S H G y vy) (vu : RelV vx u) (vw : RelV vy w) {xs ys : List T} (e1 : lstH x h = some xs) (e2 : lstH y h = some ys) (hl : xs.length + ys.length ≤ sizeLine)
    (go : ∀ (a : Addr) (vs : List V) s', H a = none → RelTs C.S H G (xs ++ ys) vs → Inv C.X pins σ (upd H a (.lst vs)) s' → EP C.X pins σ Q (.ref a) s') : wpAny (model C.X.prog C.X.w) C.X.A (binaryOp .Add u w) (EP C.X pins σ Q) C.X.xe s := by
  obtain ⟨a, v1, i1, n1, rfl, r1, q1, b1, o1⟩ := lstH_exact hK I rp rx e1
  obtain ⟨b, v2, i2, n2, rfl, r2, q2, b2, o2⟩ := lstH_exact hK I rp ry e2
  cases vu
  cases vw
  have l1 := r1.length
  have l2 := r2.length
  have m1 := q1.length
  have m2 := q2.length
  refine PySem.P.add_list o1 o2 ?_ (by rw [List.size_toArray, List.size_toArray]; omega)
  have ea : i1.toArray ++ i2.toArray = (i1 ++ i2).toArray := by simp
  rw [ea]
  exact go _ _ _ I.fresh (r1.app r2) (I.lnew (t' := s.toks) (q1.append q2) (by rw [List.length_append]; omega))
theorem op_addF (hK : C.S.K = C.X.K) : OpT C (binaryOp .Add) opAddF := by
  intro pins s σ H G h x y vx vy u w Q I rp rx ry vu vw o
  unfold opAddF at o
  split at o
  · rename_i xs ys e1 e2
    split at o
    · rename_i hl
      refine add_run hK I rp rx ry vu vw e1 e2 hl fun a vs s' ha rv I' => ⟨.ref a, _, I', rfl, ?_⟩
      obtain ⟨st2, rp2⟩ := rp.newF (o := .lst vs) ha
      exact o _ _ _ st2 rp2 (.lst (.inl ⟨.inl rfl, .inl upd_same⟩) (rv.step st2))
    · exact False.elim o
  · exact False.elim o
theorem op_addC (hK : C.S.K = C.X.K) : OpT C (binaryOp .Add) opAddC := by
  intro pins s σ H G h x y vx vy u w Q I rp rx ry vu vw o
  unfold opAddC at o
  split at o
  · rename_i xs ys e1 e2
    split at o
    · rename_i hc
      obtain ⟨hl, hn⟩ := band hc
      obtain ⟨n1, n2⟩ := band hn
      refine add_run hK I rp rx ry vu vw e1 e2 (of_decide_eq_true hl) fun a vs s' ha rv I' => ⟨.ref a, _, I', rfl, ?_⟩
      obtain ⟨st2, rp2⟩ := rp.newC (o := .lst vs) ha (c := .lst (xs ++ ys)) (.lst rv) (noRefs_app n1 n2)
      refine o _ _ _ st2 rp2 (.ref ?_)
      show (G.mu ++ [a])[h.length]? = some a
      rw [rp.len, List.getElem?_append_right (Nat.le_refl _)]
      simp
    · exact False.elim o
  · exact False.elim o
/-! ### by contexts' facts -/
variable {o e : Expr} {es : List Expr} {ro re : ET} {ra : AT} {apos cpos : Pos}
theorem cnt_ (cf : Cf C P w S mg base N sc k) (jo : JE C o ro) (ja : JA C [e] ra) (hbase : attributeBase o "count" C.X.env (eval o C.X.env) = eval o C.X.env := by rfl)
    (hline : (apos.endLine == cpos.line) = true := by rfl) (hs : starEach [e] C.X.env = (false, eval e C.X.env) :: starEach [] C.X.env := by rfl) : JE C (.Call (.Attribute o "count" apos) [e] [] cpos) (eLM fCountB ro ra) :=
  je_lmM cf.ok.K PySem.F.slot_list_count PySem.F.type_list_count lm_count jo ja hbase (by rw [hs]; rfl) hline hs rfl
theorem idx_ (cf : Cf C P w S mg base N sc k) (jo : JE C o ro) (ja : JA C [e] ra) (hbase : attributeBase o "index" C.X.env (eval o C.X.env) = eval o C.X.env := by rfl)
    (hline : (apos.endLine == cpos.line) = true := by rfl) (hs : starEach [e] C.X.env = (false, eval e C.X.env) :: starEach [] C.X.env := by rfl) : JE C (.Call (.Attribute o "index" apos) [e] [] cpos) (eLM fIndexB ro ra) :=
  je_lmM cf.ok.K PySem.F.slot_list_index PySem.F.type_list_index lm_index jo ja hbase (by rw [hs]; rfl) hline hs rfl
/-- a module's int -/
theorem gint_ (cf : Cf C P w S mg base N sc k) {x : Str} {i : Int} {t : Tok} (hm : mg x = some (.int i t)) (hg : glB sc x = true := by rfl) (hd : (x == ("__debug__" : Str)) = false := by decide) : JE C (.Name x pos) (eC (.int i)) :=
  je_glob (v := .int i) (.int i) (cf.gl hg) (cf.mgE hm) ⟨t, rfl⟩ (fun _ _ => .int i) hd
theorem gint_ok {K : PySem.W.Frag} {base : Heap} {x : Str} {i : Int} (X : K.In base) (Gn : base.Ns mainGlobals mg) (h : ckGint x i K = true) : ∃ t, mg x = some (.int i t) := by
  unfold ckGint at h
  split at h
  · rename_i j t e
    obtain rfl : j = i := beq_iff_eq.mp h
    exact ⟨t, PySem.W.mg_of X Gn e⟩
  · cases h
/-! ### own exceptions, from names -/
/-- own classes cn, own exceptions xn -/
def mkStaX (K : PySem.W.Frag) (cn xn fl gn : List Str) (hf : fl.Nodup) (hc : (cn.map (He.ga K)).Nodup) : Sta where
  K := K
  cls := fun i => ((cn ++ xn).map (He.ga K)).getD i 0
  fld := fun i => fl.getD i Str.empty
  nf := fl.length
  inj := fun i j hi hj e => by
    rw [List.getD_eq_getElem?_getD, List.getD_eq_getElem?_getD, List.getElem?_eq_getElem hi, List.getElem?_eq_getElem hj] at e
    exact (List.getElem_inj hf).mp e
  gl := fun i => (gn.map (He.ga K)).getD i 0
  nc := cn.length
  cinj := fun i j hi hj e => by
    have hi' : i < (cn.map (He.ga K)).length := by simpa using hi
    have hj' : j < (cn.map (He.ga K)).length := by simpa using hj
    rw [List.map_append, List.getD_eq_getElem?_getD, List.getD_eq_getElem?_getD, List.getElem?_append_left hi', List.getElem?_append_left hj', List.getElem?_eq_getElem hi', List.getElem?_eq_getElem hj'] at e
    exact (List.getElem_inj hc).mp e
theorem is_okX {K : PySem.W.Frag} {cn xn fl gn : List Str} {hf : fl.Nodup} {hc : (cn.map (He.ga K)).Nodup} {tab : IsTab} (h : ckIs (cn ++ xn) tab K = true) (hcl : ∀ c, c < cn.length → ClsI K (((cn ++ xn).map (He.ga K)).getD c 0)) : IsOk (mkStaX K cn xn fl gn hf hc) tab := by
  refine ⟨fun a b r e => ?_, hcl⟩
  have q := of_decide_eq_true (List.all_eq_true.mp h _ (isLook_mem e))
  have v : ∀ t : Tg, t.val (mkStaX K cn xn fl gn hf hc) = tgvK (cn ++ xn) K t := fun t => by cases t <;> rfl
  rw [v, v]
  exact q
theorem first_okX {K : PySem.W.Frag} {cn xn fl gn : List Str} {hf : fl.Nodup} {hc : (cn.map (He.ga K)).Nodup} {c : Nat} (h : ckFirstX cn xn c K = true) : ∀ a, Tg.okEq cn.length a = true → PySem.W.notFirst K (((cn ++ xn).map (He.ga K)).getD c 0) (a.val (mkStaX K cn xn fl gn hf hc)) = true := fun a ha => by
  have v : a.val (mkStaX K cn xn fl gn hf hc) = tgvK (cn ++ xn) K a := by cases a <;> rfl
  rw [v]
  refine List.all_eq_true.mp h a ?_
  unfold eqTags
  cases a with
  | cl c => exact List.mem_append_right _ (List.mem_map.mpr ⟨c, List.mem_range.mpr (of_decide_eq_true ha), rfl⟩)
  | ty n =>
    refine List.mem_append_left _ ?_
    have ha' : n ∈ ["NoneType", "bool", "int", "str", "tuple", "list", "dict"] := by
      have : (["NoneType", "bool", "int", "str", "tuple", "list", "dict"].contains n) = true := ha
      exact List.contains_iff_mem.mp this
    simp only [List.mem_cons, List.not_mem_nil, or_false] at ha' ⊢
    rcases ha' with e | e | e | e | e | e | e <;> subst e <;> simp
theorem tail_ok : ∀ i : Nat, ∃ B, HandSPX.TlF B (tailOf i).1 (tailOf i).2.1 (tailOf i).2.2
  | 0 => ⟨_, HandSPX.tl_ve⟩
  | 1 => ⟨_, HandSPX.tl_le⟩
  | _ + 2 => ⟨_, HandSPX.tl_ae⟩
theorem xb_ok {K : PySem.W.Frag} {x : Str} {i : Nat} (h : ckXb x i K = true) : XcB K (He.ga K x) := let ⟨B, t⟩ := tail_ok i; ⟨B, _, _, _, t, HandSPX.oexB_ok h⟩
theorem xmk_ok {K : PySem.W.Frag} {x : Str} {i : Nat} (hb : ckXb x i K = true) (h : ckXmk x K = true) : MkE K (He.ga K x) (He.fAd K (x, some "__init__")) := by
  obtain ⟨h1, h2⟩ := band h
  obtain ⟨h2, h3⟩ := band h2
  exact ⟨xb_ok hb, He.eqO_ok h1, h2, h3⟩
theorem xmk0_ok {K : PySem.W.Frag} {x : Str} {i : Nat} (h : ckXmk0 x i K = true) : MkE0 K (He.ga K x) := by
  obtain ⟨h1, h2⟩ := band h
  obtain ⟨B, t⟩ := tail_ok i
  exact ⟨⟨B, _, _, _, t.F, h1⟩, h2⟩
theorem xno_ok {K : PySem.W.Frag} {x f : Str} (h : ckXno x f K = true) : PySem.W.findIn K (.ref (He.ga K x)) f = some none := of_decide_eq_true h
theorem xi_ok {K : PySem.W.Frag} {x : Str} (h : ckXi x K = true) : XcI K (He.ga K x) := by
  obtain ⟨h1, h⟩ := band h
  obtain ⟨h2, h⟩ := band h
  obtain ⟨h3, h⟩ := band h
  obtain ⟨h4, h⟩ := band h
  obtain ⟨h5, h6⟩ := band h
  have q := xfB_ok h2
  exact ⟨h1, q.ga, q.gg, q.exC, q.hdC, He.eqO_ok h3, He.eqO_ok h4, of_decide_eq_true h5, of_decide_eq_true h6⟩
/-- a class of errors made -/
theorem FnX.makeX {d : He.DefD} {ps : List Str} {g : List T → Hm → R T} {n : Nat} {ks : List Str} {src : List (Nat × Nat)} {ds : List T} (F : FnX P w S mg base j d ps g) (cf : Cf C P w S mg base N sc k) (c : Nat) (B : Bnd d ps (n + 1) ks src ds) (M : MkE S.K (S.cls c) (He.fAd S.K d.at_)) (hj : j + 1 ≤ k) (hn : n ≤ 1000 := by decide) : CaK C (.ref (S.cls c)) n ks (mkXO c g (arrS src ds)) ∧ PySem.W.keepIn C.X.K (.ref (S.cls c)) = true := by
  obtain ⟨fd, kp, BT, FG⟩ := F.bnd B
  refine ⟨?_, by rw [cf.K]; exact M.kp⟩
  have e1 := cf.prog
  have e2 := cf.w
  have e3 := cf.S
  have e4 := cf.mg
  have e5 := cf.base
  subst e1 e2 e3 e4 e5
  exact CaK.makeX cf.ok M FG BT (by rw [cf.k]; exact hj) hn
theorem makeX0_ (cf : Cf C P w S mg base N sc k) (c : Nat) (M : MkE0 S.K (S.cls c)) : CaK C (.ref (S.cls c)) 0 [] (mkX0 c) ∧ PySem.W.keepIn C.X.K (.ref (S.cls c)) = true := by
  refine ⟨?_, by rw [cf.K]; exact M.kp⟩
  have e3 := cf.S
  subst e3
  exact CaK.makeX0 cf.ok M
theorem xst_ (cf : Cf C P w S mg base N sc k) {fa : Str} {pos' : Pos} (cs : List Nat) (fi : Nat) (jo : JE C o ro) (je : JE C e re) (hc : ∀ c ∈ cs, XcB S.K (S.cls c) ∧ PySem.W.findIn S.K (.ref (S.cls c)) fa = some none) (ef : S.fld fi = fa := by rfl) (hf : fi < S.nf := by exact Nat.le_of_ble_eq_true rfl)
    (hs : swapsWith e (some (.Attribute o fa pos')) pos.line C.X.env = pure false := by rfl) : JS C (.Assign [.Attribute o fa pos'] e pos) (sXst cs fi re ro) :=
  js_xst cf.ok jo je (by rw [cf.S]; exact ef) (by rw [cf.S]; exact hf) (by rw [cf.S]; exact hc) hs
theorem xfld_ (cf : Cf C P w S mg base N sc k) {fa : Str} (cs : List Nat) (fi : Nat) (j : JE C e re) (hc : ∀ c ∈ cs, XcI S.K (S.cls c) ∧ PySem.W.findIn S.K (.ref (S.cls c)) fa = some none) (ef : S.fld fi = fa := by rfl) (hf : fi < S.nf := by exact Nat.le_of_ble_eq_true rfl) (hb : attributeBase e fa C.X.env (eval e C.X.env) = eval e C.X.env := by rfl) : JE C (.Attribute e fa pos) (eXfld cs fi re) :=
  je_xfld cf.ok j (by rw [cf.S]; exact ef) (by rw [cf.S]; exact hf) (by rw [cf.S]; exact hc) hb
theorem isiX_ (cf : Cf C P w S mg base N sc k) {tab : IsTab} {xc : List Nat} (io : IsOk S tab) (xo : ∀ c ∈ xc, XcI S.K (S.cls c)) : CaT C (.builtin "isinstance") (gIsiX S.nc tab xc) := by
  have q := ca_isiX cf.ok (tab := tab) (xc := xc) (by rw [cf.S]; exact io) (by rw [cf.S]; exact xo)
  rw [cf.S] at q
  exact q
end
end RT
set_option Elab.async false
set_option linter.all false
set_option maxRecDepth 100000
set_option maxHeartbeats 4000000
/-! RT, part Ue: raise of an own exception. -/
namespace RT
open PySem PySem.Spec L2
open PyProof.Rows hiding St

/-! ### relations over heaps that agree where nothing changes -/
theorem FzT.onZ {S : Sta} {H H' : Hp} {G G' : Gh} (s : ∀ a, G.Z a → G'.Z a) (k : ∀ a, G.Z a → H' a = H a) {a : Addr} {vs : List V} (h : FzT S H G a vs) : FzT S H' G' a vs := by
  rcases h with ⟨z, r⟩ | h
  · refine .inl ⟨s a z, ?_⟩
    unfold Rd at r ⊢
    rw [k a z]
    exact r
  · exact .inr h
theorem FzL.onZ {S : Sta} {H H' : Hp} {G G' : Gh} (s : ∀ a, G.Z a → G'.Z a) (k : ∀ a, G.Z a → H' a = H a) {a : Addr} {vs : List V} (h : FzL S H G a vs) : FzL S H' G' a vs := by
  rcases h with ⟨z, r⟩ | h
  · refine .inl ⟨s a z, ?_⟩
    unfold Rd at r ⊢
    rw [k a z]
    exact r
  · exact .inr h
mutual
theorem RelT.onZ {S : Sta} {H H' : Hp} {G G' : Gh} (s : ∀ a, G.Z a → G'.Z a) (k : ∀ a, G.Z a → H' a = H a) : ∀ {t : T} {v : V}, RelT S H G t v → t.noRef = true → RelT S H' G' t v
  | _, _, .non, _ => .non
  | _, _, .bl b, _ => .bl b
  | _, _, .int b, _ => .int b
  | _, _, .str b, _ => .str b
  | _, _, .tup h r, n => .tup (h.onZ s k) (r.onZ s k (by rw [T.noRef] at n; exact n))
  | _, _, .lst h r, n => .lst (h.onZ s k) (r.onZ s k (by rw [T.noRef] at n; exact n))
  | _, _, .ref h, n => by rw [T.noRef] at n; cases n
  | _, _, .obj z h r, n => .obj (s _ z) ((k _ z).trans h) (r.onZ s k (by rw [T.noRef] at n; exact n))
  | _, _, .fn q, _ => .fn q
  | _, _, .emp z h, _ => .emp (s _ z) ((k _ z).trans h)
  | _, _, .ty n, _ => .ty n
  | _, _, .cl c, _ => .cl c
  | _, _, .exo0 z h, _ => .exo0 (s _ z) ((k _ z).trans h)
  | _, _, .exo z zd h hd r, n => .exo (s _ z) (s _ zd) ((k _ z).trans h) ((k _ zd).trans hd) (r.onZ s k (by rw [T.noRef] at n; exact n))
  | _, _, .exh0 a b c d, n => by rw [T.noRef] at n; cases n
  | _, _, .exh a b c d zd hd r, n => by rw [T.noRef] at n; cases n
  | _, _, .clo a b r, n => by rw [T.noRef] at n; cases n
  | _, _, .slc z h, _ => .slc (s _ z) ((k _ z).trans h)
theorem RelTs.onZ {S : Sta} {H H' : Hp} {G G' : Gh} (s : ∀ a, G.Z a → G'.Z a) (k : ∀ a, G.Z a → H' a = H a) : ∀ {t : List T} {v : List V}, RelTs S H G t v → T.noRefs t = true → RelTs S H' G' t v
  | _, _, .nil, _ => .nil
  | _, _, .cons h r, n => .cons (h.onZ s k (by rw [T.noRefs] at n; exact (band n).1)) (r.onZ s k (by rw [T.noRefs] at n; exact (band n).2))
theorem RelFs.onZ {S : Sta} {H H' : Hp} {G G' : Gh} (s : ∀ a, G.Z a → G'.Z a) (k : ∀ a, G.Z a → H' a = H a) : ∀ {t : List (Nat × T)} {v : List (Str × V)}, RelFs S H G t v → T.noRefF t = true → RelFs S H' G' t v
  | _, _, .nil, _ => .nil
  | _, _, .cons f h r, n => .cons f (h.onZ s k (by rw [T.noRefF] at n; exact (band n).1)) (r.onZ s k (by rw [T.noRefF] at n; exact (band n).2))
end
theorem CellAt.onZ {S : Sta} {H H' : Hp} {G G' : Gh} (s : ∀ a, G.Z a → G'.Z a) (k : ∀ a, G.Z a → H' a = H a) {a : Addr} {c : Cell} {o : HO} (q : CellAt S H G a c o) (hn : c.noRef = true) : CellAt S H' G' a c o := by
  cases q with
  | lst r => exact .lst (r.onZ s k hn)
  | ins r => exact .ins (r.onZ s k hn)
  | exn0 => exact .exn0
  | exn z h r => exact .exn (s _ z) ((k _ z).trans h) (r.onZ s k hn)
  | dct r => exact .dct (r.onZ s k hn)
theorem tabS_del {H : Hp} {P a : Addr} {q : Str} {o' : HO} (t : LamX.TabS H P q) (e : H a = some o') (n : NoTab o') : LamX.TabS (delH H a) P q := by
  obtain ⟨ps, h1, h2, h3⟩ := t
  refine ⟨ps, ?_, h2, fun pos cv hc => ?_⟩
  · rw [delH_ne]
    · exact h1
    · rintro rfl
      rw [h1] at e
      exact n.1 ps (Option.some.inj e).symm
  · obtain ⟨c, e1, e2⟩ := h3 pos cv hc
    refine ⟨c, e1, ?_⟩
    rw [delH_ne]
    · exact e2
    · rintro rfl
      rw [e2] at e
      exact n.2 _ _ (Option.some.inj e).symm
/-- the last cells are forgotten, and the object of the one at index n with them -/
theorem RepH.del {S : Sta} {H : Hp} {G : Gh} {h : Hm} (r : RepH S H G h) {n : Nat} {a : Addr} {c : Cell} (hc : h[n]? = some (some c)) (ha : G.mu[n]? = some a) : RepH S (delH H a) (G.cut n) (h.take n) ∧ ¬ G.Z a ∧ ∃ o, H a = some o ∧ NoTab o ∧ CellAt S H G a c o := by
  obtain ⟨a', o, h1, h2, h3, h4, h5⟩ := r.cell n c hc
  rw [ha] at h1; cases h1
  have kz : ∀ b, G.Z b → delH H a b = H b := fun b z => delH_ne fun e => h4 (e ▸ z)
  have km : ∀ (l : Nat) (b : Addr), l < n → G.mu[l]? = some b → b ≠ a := fun l b hl e z => by
    subst z
    exact absurd (nodup_at r.nd e ha) (Nat.ne_of_lt hl)
  have rc := r.cut n
  refine ⟨⟨rc.len, fun l c' e => ?_, rc.nd, fun b q => ?_, fun p hp => tabS_del (r.tabs p hp) h2 (cell_tab h3)⟩, h4, o, h2, cell_tab h3, h3⟩
  · obtain ⟨b, u, k1, k2, k3, k4, k5⟩ := rc.cell l c' e
    have hl : l < n := by
      by_cases hl : l < n
      · exact hl
      · rw [List.getElem?_eq_none (by rw [List.length_take]; omega)] at e; cases e
    have k1' : G.mu[l]? = some b := by
      have k1 : (G.mu.take n)[l]? = some b := k1
      rw [List.getElem?_take_of_lt hl] at k1
      exact k1
    exact ⟨b, u, k1, by rw [delH_ne (km l b hl k1')]; exact k2, CellAt.onZ (G := G.cut n) (G' := G.cut n) (fun _ z => z) kz k3 k5, k4, k5⟩
  · have hb : b ≠ a := by
      rcases q with q | q
      · obtain ⟨l, hl, e⟩ := List.mem_iff_getElem.mp (show b ∈ G.mu.take n from q)
        have hl' : l < n := by rw [List.length_take] at hl; omega
        refine km l b hl' ?_
        rw [List.getElem_take] at e
        rw [← e]
        exact List.getElem?_eq_getElem _
      · exact fun e => h4 (e ▸ q)
    rw [delH_ne hb]
    exact rc.there b q
theorem Step.del {H0 H : Hp} {G0 G : Gh} (s : Step H0 G0 H G) {a : Addr} {o : HO} (hn : H0 a = none) (hz : ¬ G.Z a) (e : H a = some o) (nt : NoTab o) : Step H0 G0 (delH H a) (G.cut G0.mu.length) := by
  have ne : ∀ b, H0 b ≠ none → b ≠ a := fun b h z => h (z ▸ hn)
  obtain ⟨⟨m, e0⟩, z, k, t, f, r, q, tb⟩ := s
  refine ⟨⟨[], by show G.mu.take _ = _; rw [e0]; simp⟩, z, fun b hb nt' => ?_, fun b h => by rw [delH_ne (ne b h)]; exact t b h, fun b h n1 n2 n3 => by rw [delH_ne (ne b h)]; exact f b h n1 n2 n3, fun b h => r b (List.mem_of_mem_take h), q, fun c q e' => by
    rw [delH_ne]
    · exact tb c q e'
    · rintro rfl
      rw [tb c q e'] at e
      exact nt.2 _ _ (Option.some.inj e).symm⟩
  have hba : b ≠ a := by
    rintro rfl
    exact hz (z _ hb)
  rw [delH_ne hba]
  exact k b hb nt'
end RT
set_option Elab.async false
set_option linter.all false
set_option maxRecDepth 100000
set_option maxHeartbeats 4000000
/-! RT, part Uf: raise C(e), C an own exception with its own __init__. -/
namespace RT
open PySem PySem.Spec L2
open PyProof.Rows hiding St
/-- how the making of an exception that is raised ends -/
def rzFin (c n : Nat) (a : StT) : R T → R SO
  | .ok t h => (match t, h[n]? with
    | .non, some (some (.exn c' fs)) => if c' = c then .ok (.rse (.obj c fs) a) (h.take n) else .bad
    | _, _ => .bad)
  | .exc e h => if e.noRef then .ok (.rse e a) (h.take n) else .bad
  | .bad => .bad
def sRaiseX (c n : Nat) (oo : O3) (ra : AT) : SM := fun a h => (ra a h).th a fun xs h1 => if xs.length = n then rzFin c h1.length a (oo (.ref h1.length :: xs) [] (h1 ++ [some (.exn c [])])) else .bad
section
variable {C : RC}
theorem mk_run (ok : C.Ok) (hex : C.X.ex = []) (h0 : HOk C.X.prog C.X.w C.X.H_0 C.X.s_0.heap) {k c : Nat} {f : Addr} {n : Nat} {oo : O3} (M : MkE C.S.K (C.S.cls c) f) (RC' : Raises C.X (.ref (C.S.cls c)))
    (F : FnC C.X.prog C.X.w C.S C.X.mg C.X.base k f (n + 1) [] oo) (hk : k + 1 ≤ C.k) (hn : n ≤ 1000) {pins : List (Addr × Obj)} {s : Shared} {σ : St} {H : Hp} {G : Gh} {h : Hm} {a : StT} {D : Ends} {xs : List T} {vs : List V} {us : List Value}
    (I : Inv C.X pins σ H s) (rp : RepH C.S H G h) (rs : RelSt C.S H G a σ) (rx : RelTs C.S H G xs vs) (vu : Vals vs us) (l1 : us.length = n) (o : OutS C H G (rzFin c h.length a (oo (.ref h.length :: xs) [] (h ++ [some (.exn c [])]))) D) :
    wpAny (model C.X.prog C.X.w) C.X.A (call (.ref (C.S.cls c)) us) (MkP C.X pins σ (fun cls d H' => C.W cls d σ H')) C.X.xe s := by
  have hr : RoomM C.S.mo (k + 1) C.X.A := ok.room.mono hk
  obtain ⟨⟨B, newId, initId, tl, TF, OG⟩, iC, tI, kp⟩ := M
  obtain ⟨nm, q, N, bs, bm, sn, sub, ab, col, dd, k0, k1, k2, k3, k5, hC, hbm⟩ := OG.cls
  rw [ok.K] at hC iC tI
  have typ := OG.typ
  rw [ok.K] at typ
  have n0 : C.X.s_0.heap.get? (s.heap.objs.size + 1) = none := by
    cases e : C.X.s_0.heap.get? (s.heap.objs.size + 1) with
    | none => rfl
    | some o' =>
      obtain ⟨o2, e2⟩ := I.base.there _ o' e (by rw [hex]; exact List.not_mem_nil)
      exact absurd (Heap.lt_size e2) (by show ¬ (s.heap.objs.size + 1 < s.heap.objs.size); omega)
  obtain ⟨hp, g, dr, tk, os⟩ := s
  have hsz : hp.objs.size ≤ hp.objs.size + 1 := Nat.le_succ _
  have f1 : H (hp.objs.size + 1) = none := I.hok.fresh hsz
  have hus : us.length ≤ sizeLine := by
    rw [l1, sizeLine_eq]
    omega
  have kk : ∀ b o, hp.get? b = some o → ((hp.push (PySem.W.kdv_tup us)).push (PySem.HandSPX.excO (C.S.cls c) hp.objs.size)).get? b = some o := fun b o e => Heap.get?_push_of_some _ (Heap.get?_push_of_some _ e)
  have hget : ((hp.push (PySem.W.kdv_tup us)).push (PySem.HandSPX.excO (C.S.cls c) hp.objs.size)).get? (hp.objs.size + 1) = some (PySem.HandSPX.excO (C.S.cls c) hp.objs.size) := by heap_get
  have I2 : Inv C.X pins σ (upd H (hp.objs.size + 1) (L2.exo (hp.objs.size + 1) (C.S.cls c) none)) ⟨(hp.push (PySem.W.kdv_tup us)).push (PySem.HandSPX.excO (C.S.cls c) hp.objs.size), g, dr, tk, os⟩ :=
    I.laid (t' := tk) (a := hp.objs.size + 1) (o := L2.exo (hp.objs.size + 1) (C.S.cls c) none) (h' := (hp.push (PySem.W.kdv_tup us)).push (PySem.HandSPX.excO (C.S.cls c) hp.objs.size)) kk hsz (exo_ok hget)
  obtain ⟨st3, rp2⟩ := rp.newC (o := L2.exo (hp.objs.size + 1) (C.S.cls c) none) (c := .exn c []) f1 .exn0 rfl
  have eref : (G.ad (hp.objs.size + 1)).mu[h.length]? = some (hp.objs.size + 1) := by
    show (G.mu ++ [hp.objs.size + 1])[h.length]? = _
    rw [rp.len, List.getElem?_append_right (Nat.le_refl _)]; simp
  have rx' : RelTs C.S _ (G.ad (hp.objs.size + 1)) (.ref h.length :: xs) (.ref (hp.objs.size + 1) :: vs) := .cons (.ref eref) (rx.step st3)
  have KX : C.S.K.In ((hp.push (PySem.W.kdv_tup us)).push (PySem.HandSPX.excO (C.S.cls c) hp.objs.size)) := by rw [ok.K]; exact I2.kIn
  have e0 := I2.env0.make (C.S.cls c) us ([].zip [])
  rw [← ok.K] at e0
  have hend : EndT C.S (upd H (hp.objs.size + 1) (L2.exo (hp.objs.size + 1) (C.S.cls c) none)) (G.ad (hp.objs.size + 1)) (oo (.ref h.length :: xs) [] (h ++ [some (.exn c [])])) (fun v H2 => v = .non ∧ ∃ d, H2 (hp.objs.size + 1) = some (L2.exo (hp.objs.size + 1) (C.S.cls c) d) ∧ C.W (.ref (C.S.cls c)) d σ (delH H2 (hp.objs.size + 1))) (fun cls d H' => C.W cls d σ H') := by
    cases q : oo (.ref h.length :: xs) [] (h ++ [some (.exn c [])]) with
    | ok t h' =>
      rw [q] at o
      unfold rzFin at o
      dsimp only at o
      split at o
      · rename_i c' fs e2
        split at o
        · rename_i ec
          subst ec
          intro v H' G' st rp' rv
          cases rv
          refine ⟨rfl, ?_⟩
          obtain ⟨rpd, hz, o', e3, nt, ca⟩ := rp'.del e2 (st.get eref)
          have st5 := (st3.trans st).del f1 hz e3 nt
          rw [← rp.len] at st5
          have kz : ∀ b, G'.Z b → delH H' (hp.objs.size + 1) b = H' b := fun b z => delH_ne fun e => hz (e ▸ z)
          have rs5 : RelSt C.S (delH H' (hp.objs.size + 1)) (G'.cut h.length) a σ := rs.step st5
          have hnr : T.noRefF fs = true := by
            obtain ⟨_, _, _, _, _, _, h5⟩ := rp'.cell _ _ e2
            exact h5
          cases ca with
          | exn0 => exact ⟨none, e3, o _ _ σ _ _ st5 rpd rs5 ⟨_, [], rfl, rfl, .inl ⟨rfl, rfl⟩⟩⟩
          | exn zz hd rf =>
            exact ⟨some _, e3, o _ _ σ _ _ st5 rpd rs5 ⟨_, _, rfl, rfl, .inr ⟨_, _, rfl, zz, (kz _ zz).trans hd, RelFs.onZ (G := G') (G' := G'.cut h.length) (fun _ z => z) kz rf hnr⟩⟩⟩
        · exact False.elim o
      · exact False.elim o
    | exc e h' =>
      rw [q] at o
      unfold rzFin at o
      dsimp only at o
      split at o
      · rename_i nr
        intro cl d H' G' st rp' rx
        have st5 := (st3.trans st).cut
        rw [← rp.len] at st5
        exact o cl d σ H' _ st5 (rp'.cut h.length) (rs.step st5) (RelX.indep (G := G') (G' := G'.cut h.length) (fun _ z => z) rx nr)
      · exact False.elim o
    | bad => rw [q] at o; exact o
  have l1' : (Value.ref (hp.objs.size + 1) :: us).length = n + 1 := by simp [l1]
  have vu' : Vals (V.ref (hp.objs.size + 1) :: vs) (Value.ref (hp.objs.size + 1) :: us) := .cons rfl vu
  refine wpAny_call (PySem.HandSPX.call_kw (kw := []) TF.F (fun Y => PySem.W.excTail_contains Y bm hbm) (I.kIn _ _ hC) (PySem.W.looks_instIn I.kIn typ) (PySem.W.looks_findIn I.kIn iC) (fun self => PySem.W.bind_fn I.kIn self (beq_iff_eq.mp tI)) hus
    (codeAny_mono (F.run _ C.X.stack _ _ (G.ad (hp.objs.size + 1)) (h ++ [some (.exn c [])]) (.ref h.length :: xs) [] _ _ (Value.ref (hp.objs.size + 1) :: us) [] _ (fun cls d H' => C.W cls d σ H')
      (hr.make _ us []) (ok.pinM I2) (guards_make (ok.gd.mono (Nat.le_trans (Nat.le_succ k) hk))) e0 KX rp2 rx' .nil vu' .nil l1' rfl hend) fun r s' hq' => ?_))
  cases r with
  | error e => exact ok.tk e s' (XE.of_call I2 (fun _ _ _ z => z) hq')
  | ok fl =>
    cases fl with
    | ret u =>
      obtain ⟨v, H', I3, rv, ev, d, e3, q3⟩ := I2.after hq'
      subst ev
      obtain ⟨t1, ho⟩ := exo_at I3.hok e3
      obtain ⟨G0, gs, ga, J⟩ := I3.untrack e3 (fr0_none (h0.gone n0)) hex
      exact ⟨rv, ⟨hp.objs.size + 1, _, _, { s' with heap := G0 }, _, _, d, rfl, J, gs, ga, ho, ⟨rfl, rfl⟩, rfl, rfl, delH_same, rfl, I3.bare, RC', q3⟩⟩
    | next => exact False.elim hq'
    | brk => exact False.elim hq'
    | cont => exact False.elim hq'
theorem js_raiseX (ok : C.Ok) (hc : C.S.mo = none) (hex : C.X.ex = []) (h0 : HOk C.X.prog C.X.w C.X.H_0 C.X.s_0.heap) {k c : Nat} {f : Addr} {n : Nat} {oo : O3} {x : Str} {p cpos pos : Pos} {e : Expr} {es : List Expr} {ra : AT} (M : MkE C.S.K (C.S.cls c) f) (RC' : Raises C.X (.ref (C.S.cls c)))
    (F : FnC C.X.prog C.X.w C.S C.X.mg C.X.base k f (n + 1) [] oo) (hk : k + 1 ≤ C.k) (hg : Gl C.X x) (hm : C.X.mg x = some (.ref (C.S.cls c))) (ja : JA C (e :: es) ra) (hn : n ≤ 1000 := by decide) (hdb : (x == ("__debug__" : Str)) = false := by decide)
    (he : starEach (e :: es) C.X.env = (false, eval e C.X.env) :: starEach es C.X.env := by rfl) (hpl : (backTo cpos (starEach es C.X.env)).any (·.1) = false := by rfl) :
    JS C (.Raise (some (.Call (.Name x p) (e :: es) [] cpos)) none pos) (sRaiseX c n oo ra) := by
  refine ⟨fun pins s σ H D I hw => ?_⟩
  obtain ⟨a, G, h, rp, rs, o⟩ := hw
  show wpAny _ _ (do standAt pos; raiseStmt C.X.env (some (do let v ← eval (.Call (.Name x p) (e :: es) [] cpos) C.X.env; standAt pos; pure v)) none) _ _ _
  have run : wpAny (model C.X.prog C.X.w) C.X.A (eval (.Call (.Name x p) (e :: es) [] cpos) C.X.env) (MkP C.X pins σ (fun cls d H' => C.W cls d σ H')) C.X.xe s := by
    refine wpAny_Call_Name_kw (ld_glob I hg hm ?_ hdb)
    refine PySem.W.callWith_K (h₀ := C.X.base) I.ok.mod.kin (by rw [← ok.K]; exact M.kp) (thn (ja.run cpos I rp rs (OutS.bind (Rel := relA C) rs o)) fun us s1 ⟨vs, H1, I1, vu, xs, G1, h1, st1, rp1, rx, o1⟩ => ⟨I1.kIn, ?_⟩) he hpl
    dsimp only at o1
    split at o1
    · rename_i hl
      exact mk_run (us := us) ok hex h0 M RC' F hk hn I1 rp1 (rs.step st1) rx vu (by rw [← vu.length, ← rx.length]; exact hl) o1
    · exact False.elim o1
  refine wpAny_bind (wpAny_standAt (raise_made (I.ok.hd (ok.calm hc)) (wpAny_bind (wpAny_mono run (fun u s1 hu => wpAny_bind (wpAny_standAt (wpAny_pure ?_))) fun _ _ x => x))))
  obtain ⟨a, oe, vs, sI, H', cls, d, rfl, J, kk, hne, ha, hz, hd, h1, na, os, ag, r, q⟩ := hu
  obtain ⟨r1, r2⟩ := r (model C.X.prog C.X.w) s1.heap (J.kIn.keeps kk)
  exact ⟨a, oe, vs, cls, rfl, ha, hz.1, hd, h1, r1, r2, ok.tk _ _ (XE.new J kk hne ha hz hd h1 na os ag q)⟩
end
end RT
set_option Elab.async false
set_option linter.all false
set_option maxRecDepth 100000
set_option maxHeartbeats 4000000
/-! RT, part Ug: the same values where something is handled, or a lambda is at hand; try, except (A, B, C) as e. -/
namespace RT
open PySem PySem.Spec L2
open PyProof.Rows hiding St
def Sta.md (S : Sta) (m : Option (Addr × Obj)) (l : Option Lam) : Sta := { S with mo := m, lam := l }
theorem or_some {A : Type} {x y : Option A} {a : A} (h : x = none ∨ x = y) (e : x = some a) : y = some a := by
  rcases h with h | h
  · rw [h] at e; cases e
  · rw [← h]; exact e
section
variable {S : Sta} {H : Hp} {G : Gh} {m : Option (Addr × Obj)} {l : Option Lam}
mutual
theorem RelT.up (hm : S.mo = none ∨ S.mo = m) (hl : S.lam = none ∨ S.lam = l) : ∀ {t : T} {v : V}, RelT S H G t v → RelT (S.md m l) H G t v
  | _, _, .non => .non
  | _, _, .bl b => .bl b
  | _, _, .int b => .int b
  | _, _, .str b => .str b
  | _, _, .tup h r => .tup h (r.up hm hl)
  | _, _, .lst h r => .lst h (r.up hm hl)
  | _, _, .ref h => .ref h
  | _, _, .obj z h r => .obj z h (r.up hm hl)
  | _, _, .fn k => .fn k
  | _, _, .emp z h => .emp z h
  | _, _, .ty n => .ty n
  | _, _, .cl c => .cl c
  | _, _, .exo0 z h => .exo0 z h
  | _, _, .exo z zd h hd r => .exo z zd h hd (r.up hm hl)
  | _, _, .exh0 a b c d => .exh0 (or_some hm a) b c d
  | _, _, .exh a b c d zd hd r => .exh (or_some hm a) b c d zd hd (r.up hm hl)
  | _, _, .clo a b r => .clo (or_some hl a) b (r.up hm hl)
  | _, _, .slc z h => .slc z h
theorem RelTs.up (hm : S.mo = none ∨ S.mo = m) (hl : S.lam = none ∨ S.lam = l) : ∀ {t : List T} {v : List V}, RelTs S H G t v → RelTs (S.md m l) H G t v
  | _, _, .nil => .nil
  | _, _, .cons h r => .cons (h.up hm hl) (r.up hm hl)
theorem RelFs.up (hm : S.mo = none ∨ S.mo = m) (hl : S.lam = none ∨ S.lam = l) : ∀ {t : List (Nat × T)} {v : List (Str × V)}, RelFs S H G t v → RelFs (S.md m l) H G t v
  | _, _, .nil => .nil
  | _, _, .cons f h r => .cons f (h.up hm hl) (r.up hm hl)
theorem RelCs.up (hm : S.mo = none ∨ S.mo = m) (hl : S.lam = none ∨ S.lam = l) : ∀ {σ : L2.St} {t : List (Nat × T)}, RelCs S H G σ t → RelCs (S.md m l) H G σ t
  | _, _, .nil => .nil
  | _, _, .cons e h r => .cons e (h.up hm hl) (r.up hm hl)
end
mutual
theorem RelT.down : ∀ {t : T} {v : V}, RelT (S.md m l) H G t v → t.noRef = true → RelT S H G t v
  | _, _, .non, _ => .non
  | _, _, .bl b, _ => .bl b
  | _, _, .int b, _ => .int b
  | _, _, .str b, _ => .str b
  | _, _, .tup h r, n => .tup h (r.down (by rw [T.noRef] at n; exact n))
  | _, _, .lst h r, n => .lst h (r.down (by rw [T.noRef] at n; exact n))
  | _, _, .ref h, n => by rw [T.noRef] at n; cases n
  | _, _, .obj z h r, n => .obj z h (r.down (by rw [T.noRef] at n; exact n))
  | _, _, .fn k, _ => .fn k
  | _, _, .emp z h, _ => .emp z h
  | _, _, .ty n, _ => .ty n
  | _, _, .cl c, _ => .cl c
  | _, _, .exo0 z h, _ => .exo0 z h
  | _, _, .exo z zd h hd r, n => .exo z zd h hd (r.down (by rw [T.noRef] at n; exact n))
  | _, _, .exh0 a b c d, n => by rw [T.noRef] at n; cases n
  | _, _, .exh a b c d zd hd r, n => by rw [T.noRef] at n; cases n
  | _, _, .clo a b r, n => by rw [T.noRef] at n; cases n
  | _, _, .slc z h, _ => .slc z h
theorem RelTs.down : ∀ {t : List T} {v : List V}, RelTs (S.md m l) H G t v → T.noRefs t = true → RelTs S H G t v
  | _, _, .nil, _ => .nil
  | _, _, .cons h r, n => .cons (h.down (by rw [T.noRefs] at n; exact (band n).1)) (r.down (by rw [T.noRefs] at n; exact (band n).2))
theorem RelFs.down : ∀ {t : List (Nat × T)} {v : List (Str × V)}, RelFs (S.md m l) H G t v → T.noRefF t = true → RelFs S H G t v
  | _, _, .nil, _ => .nil
  | _, _, .cons f h r, n => .cons f (h.down (by rw [T.noRefF] at n; exact (band n).1)) (r.down (by rw [T.noRefF] at n; exact (band n).2))
end
theorem CellAt.up (hm : S.mo = none ∨ S.mo = m) (hl : S.lam = none ∨ S.lam = l) {a : Addr} {c : Cell} {o : HO} (q : CellAt S H G a c o) : CellAt (S.md m l) H G a c o := by
  cases q with
  | lst r => exact .lst (r.up hm hl)
  | ins r => exact CellAt.ins (S := S.md m l) (r.up hm hl)
  | exn0 => exact CellAt.exn0 (S := S.md m l)
  | exn z h r => exact CellAt.exn (S := S.md m l) z h (r.up hm hl)
  | dct r => exact CellAt.dct (S := S.md m l) (r.up hm hl)
theorem CellAt.down {a : Addr} {c : Cell} {o : HO} (q : CellAt (S.md m l) H G a c o) (hn : c.noRef = true) : CellAt S H G a c o := by
  cases q with
  | lst r => exact .lst (r.down hn)
  | ins r => exact CellAt.ins (S := S) (r.down hn)
  | exn0 => exact CellAt.exn0 (S := S)
  | exn z h r => exact CellAt.exn (S := S) z h (r.down hn)
  | dct r => exact CellAt.dct (S := S) (r.down hn)
theorem RepH.up (hm : S.mo = none ∨ S.mo = m) (hl : S.lam = none ∨ S.lam = l) {h : Hm} (r : RepH S H G h) : RepH (S.md m l) H G h :=
  ⟨r.len, fun i c e => let ⟨a, o, h1, h2, h3, h4, h5⟩ := r.cell i c e; ⟨a, o, h1, h2, h3.up hm hl, h4, h5⟩, r.nd, r.there, r.tabs⟩
theorem RepH.down {h : Hm} (r : RepH (S.md m l) H G h) : RepH S H G h :=
  ⟨r.len, fun i c e => let ⟨a, o, h1, h2, h3, h4, h5⟩ := r.cell i c e; ⟨a, o, h1, h2, h3.down h5, h4, h5⟩, r.nd, r.there, r.tabs⟩
theorem RelSt.up (hm : S.mo = none ∨ S.mo = m) (hl : S.lam = none ∨ S.lam = l) {a : StT} {b : St} (r : RelSt S H G a b) : RelSt (S.md m l) H G a b :=
  ⟨r.1, fun i t e => let ⟨v, h1, h2⟩ := r.2 i t e; ⟨v, h1, h2.up hm hl⟩⟩
theorem RelX.up (hm : S.mo = none ∨ S.mo = m) (hl : S.lam = none ∨ S.lam = l) {e : T} {cls : Value} {d : Option Addr} (r : RelX S H G e cls d) : RelX (S.md m l) H G e cls d := by
  obtain ⟨c, fs, h1, h2, h⟩ := r
  refine ⟨c, fs, h1, h2, ?_⟩
  rcases h with h | ⟨dd, vs, e1, z, e2, r⟩
  · exact .inl h
  · exact .inr ⟨dd, vs, e1, z, e2, r.up hm hl⟩
theorem RelX.down {e : T} {cls : Value} {d : Option Addr} (r : RelX (S.md m l) H G e cls d) (hn : e.noRef = true) : RelX S H G e cls d := by
  obtain ⟨c, fs, rfl, h2, h⟩ := r
  refine ⟨c, fs, rfl, h2, ?_⟩
  rcases h with h | ⟨dd, vs, e1, z, e2, r⟩
  · exact .inl h
  · exact .inr ⟨dd, vs, e1, z, e2, r.down (by rw [T.noRef] at hn; exact hn)⟩
end
/-! ### the test of an except clause -/
theorem flyingZ_keeps {B h h' : Heap} {l : List Env} {e : Addr} {Z : Obj → Prop} (R : HandSPX.FlyingZ B l e Z h) (k : ∀ b o, h.get? b = some o → h'.get? b = some o) : HandSPX.FlyingZ B l e Z h' := by
  obtain ⟨f1, f2, f3, oe, ws, T, oT, ts, he, hz, hd, h1, hn, hne, hT, hdT, h3⟩ := R
  exact ⟨fun b o q => k b o (f1 b o q), f2, f3.of_keeps fun b o q _ => ⟨o, k b o q, rfl⟩, oe, ws, T, oT, ts, k _ _ he, hz, hd, h1, hn, hne, k _ _ hT, hdT, h3⟩
/-- t tells the classes cs -/
def ExT (X : Cx) (t : Expr) (cs : List Value) : Prop := ∀ (a : Addr) (oe : Obj) (pn : List (Addr × Obj)) (σ : St) (H : Hp) (s : Shared) (b : Bool) (Q : Bool → Shared → Prop) (E : Value → Shared → Prop),
  Inv (X.suite a ((a, oe) :: pn)) [] σ H s → s.heap.get? a = some oe → PySem.W.exmAny X.K oe.cls cs = some b →
  (∀ h', (∀ q o, s.heap.get? q = some o → h'.get? q = some o) → Q b { s with heap := h' }) →
  wpAny (model X.prog X.w) (X.A.mark (some (.ref a))) (eval t X.env) (fun c s₁ => wpAny (model X.prog X.w) (X.A.mark (some (.ref a))) (excMatches (.ref a) c) Q E s₁) E s
theorem exT_tup3 {X : Cx} {x1 x2 x3 : Str} {c1 c2 c3 : Value} {p1 p2 p3 tpos : Pos} {kk : Nat} (g1 : Gl X x1) (g2 : Gl X x2) (g3 : Gl X x3) (m1 : X.mg x1 = some c1) (m2 : X.mg x2 = some c2) (m3 : X.mg x3 = some c3)
    (d1 : (x1 == ("__debug__" : Str)) = false := by decide) (d2 : (x2 == ("__debug__" : Str)) = false := by decide) (d3 : (x3 == ("__debug__" : Str)) = false := by decide) : ExT X (.Tuple [.Name x1 p1, .Name x2 p2, .Name x3 p3] kk tpos) [c1, c2, c3] := by
  intro a oe pn σ H s b Q E I he hx q
  refine wpAny_Tuple ?_
  refine wpAny_items_cons (ld_glob (X := X.suite a ((a, oe) :: pn)) I g1 m1 ?_ d1)
  refine wpAny_items_cons (ld_glob (X := X.suite a ((a, oe) :: pn)) I g2 m2 ?_ d2)
  refine wpAny_items_cons (ld_glob (X := X.suite a ((a, oe) :: pn)) I g3 m3 ?_ d3)
  refine wpAny_items_nil ⟨by size_fits, ?_⟩
  have kp : ∀ q o, s.heap.get? q = some o → (s.heap.push { cls := .type "tuple", data := .seq [c1, c2, c3].toArray }).get? q = some o := fun _ _ z => Heap.get?_push_of_some _ z
  have LT : PySem.W.Looks (model X.prog X.w) s.heap (typeOf (.ref a)) oe.cls := fun A Q E s k q => wpAny_typeOf_ref (k _ _ he) q
  exact (PySem.W.exm_tup3 (I.kIn.keeps kp) (LT.keeps kp) (Heap.get?_push_size s.heap rfl) hx).here (q _ kp)
def wAsT (K : PySem.W.Frag) (cs : List Value) (i : Nat) (ts : Addr → Obj → Value → Option Addr → TS) (D : Ends) : WX := fun cls d σ H =>
  PySem.W.exmAny K cls cs = some true ∧ ∀ a oe, H a = none → Zc cls d oe → (∃ vs, oe.data = .fields vs) → ts a oe cls d { nx := fun σ' H' => D.nx (σ'.set i none) H', rt := D.rt, bk := fun σ' H' => D.bk (σ'.set i none) H', ct := fun σ' H' => D.ct (σ'.set i none) H' } (σ.set i (some (.ref a))) H
section
variable {X : Cx} {n : Str} {t : Expr} {cs : List Value} {i : Nat} {body suite : List Stmt} {b₀ : Stmt} {pos pos' : Pos} {tb : WX → TS} {ts : Addr → Obj → Value → Option Addr → TS}
/-- every exception that comes is caught -/
theorem ps_try_tup (hs : X.stack = X.env :: X.outer) (hf : X.env.frame = some X.env.locals) (hN : X.N.Nodup) (hi : X.N[i]? = some n) (hln : X.env.kindOf n = some .local) (ht : ExT X t cs)
    (hb : ∀ (W : WX) (pn : List (Addr × Obj)) (xe : Value → Shared → Prop), Takes (X.tr pn xe) W → PassesOwn (model X.prog X.w) X.A X.env xe → PSs (X.tr pn xe) body (tb W))
    (hsu : ∀ (a : Addr) (oe : Obj) (cls : Value) (d : Option Addr) (pn : List (Addr × Obj)), Zc cls d oe → (∃ vs, oe.data = .fields vs) → PSs (X.suite a ((a, oe) :: pn)) (b₀ :: suite) (ts a oe cls d)) :
    PS X (.Try body [.ExceptHandler (some t) (some n) (b₀ :: suite) pos'] [] [] pos) (fun D σ H => tb (wAsT X.K cs i ts D) D σ H) := by
  refine ⟨fun pins s σ H D I h => ?_⟩
  have ok := I.ok
  have hfr : X.A.frames = some (X.env :: X.outer) := by rw [ok.frames, hs]
  have hloc : Loc X.env.scope n := .inl hln
  refine wpAny_Try_except ?_
  refine wpAny_mono ((hb (wAsT X.K cs i ts D) (X.pn ++ pins) (fun e s₁ => wpAny (model X.prog X.w) X.A (noteFrame e X.env) (fun _ s₂ => wpAny (model X.prog X.w) X.A (setFlight e none) (fun _ s₃ =>
    wpAny (model X.prog X.w) X.A (handleBy e X.env [.ExceptHandler (some t) (some n) (b₀ :: suite) pos']) (SP X pins D) X.xe s₃) X.xe s₂) X.xe s₁) (fun u s' xx => ?_) PassesOwn.looking).run [] s σ H D (I.toTry _) h) (fun f s1 hsp => ?_) (fun e s1 he => he)
  · obtain ⟨a, B, sI, pins', σ', H', cls, d, rfl, J', nb, up, sky, na, os, ag, hb1, hyes⟩ := xx
    have J : Inv X pins σ' H' sI := J'.ofTry ok
    have sky' : Sky B (X.env :: X.outer) a (Zc cls d) X.env.locals s'.heap := by rw [← hs]; exact sky
    show wpAny (model X.prog X.w) X.A (noteFrame (.ref a) X.env) _ _ _
    refine Sky.land Zc.steady hfr hf sky' fun h3 fl3 up3 => ?_
    have J3 : Inv X pins σ' H' { s' with heap := h3 } := J.landed nb fl3.1 (up.trans up3) os ag
    obtain ⟨oe3, vs3, he3, hz3, hd3⟩ := fl3.there
    have notFr : ∀ {h : Heap} {o : Obj} {vs : Array Value}, h.FunFrames B (X.env :: X.outer) → h.get? a = some o → o.data = .fields vs → a ∉ frs (X.env :: X.outer) := fun {h o vs} ff e dd hm => by
      obtain ⟨_, o', e', hnf⟩ := ff.mem hm
      rw [e] at e'; cases e'
      exact hnf _ dd
    have nfr := notFr fl3.2.2.1 he3 hd3
    have nL : a ≠ X.env.locals := fun z => nfr (List.mem_filterMap.mpr ⟨X.env, List.mem_cons_self, by rw [hf, z]⟩)
    have nF : a ∉ X.fs := fun hm => by
      obtain ⟨e, he, q⟩ := List.mem_filterMap.mp hm
      exact nfr (List.mem_filterMap.mpr ⟨e, List.mem_cons_of_mem _ he, q⟩)
    have S3 := J3.suite he3 hd3 na nL nF
    refine wpAny_handleBy_cons (codeAny_handlers_test ?_) (by intro q; cases q)
    refine ht a oe3 (X.pn ++ pins) σ' H' _ true _ _ S3 he3 (by rw [hz3.1]; exact hb1) fun h' kp => ?_
    have fl3' := flyingZ_keeps fl3 kp
    have up3' : s'.heap.UpToSlots h' := up3.trans (Heap.UpToSlots.of_keeps kp)
    refine codeAny_handlers_suite_as ?_
    refine HandSPX.lands_againZ fl3' fun h4 fl4 up4 => ?_
    have J4 : Inv X pins σ' H' { s' with heap := h4 } := J.landed nb fl4.1 ((up.trans up3').trans up4) os ag
    obtain ⟨oe4, vs4, he4, hz4, hd4⟩ := fl4.there
    have S4 := J4.suite he4 hd4 na nL nF
    refine store_ok (X := X.suite a ((a, oe4) :: (X.pn ++ pins))) (v := .ref a) S4 hN hi hloc rfl (fun s5 S5 => ?_) (.inr hln)
    refine wpAny_mono ((hsu a oe4 cls d (X.pn ++ pins) hz4 ⟨_, hd4⟩).run [] s5 _ H' _ S5 (hyes a oe4 na hz4 ⟨_, hd4⟩)) (fun f s6 hsp => ?_) (fun _ _ z => False.elim z)
    have end_ : ∀ {σ6 : St} {H6 : Hp} {Q : Shared → Prop}, Inv (X.suite a ((a, oe4) :: (X.pn ++ pins))) [] σ6 H6 s6 → (∀ s7, Inv X pins (σ6.set i none) H6 s7 → Q s7) →
        wpAny (model X.prog X.w) X.A (do bindName X.env n .none; unbindBehindTheSuite X.env n pos') (fun _ s7 => Q s7) X.xe s6 := fun {σ6 H6 Q} S6 hq => gone_ok (S6.unsuite ok) hN hi hln hq
    cases f with
    | next =>
      obtain ⟨σ6, H6, S6, q6⟩ := hsp
      exact end_ S6 fun s7 J7 => ⟨_, _, J7, q6⟩
    | brk =>
      obtain ⟨σ6, H6, S6, q6⟩ := hsp
      exact end_ S6 fun s7 J7 => ⟨_, _, J7, q6⟩
    | cont =>
      obtain ⟨σ6, H6, S6, q6⟩ := hsp
      exact end_ S6 fun s7 J7 => ⟨_, _, J7, q6⟩
    | ret u =>
      obtain ⟨v6, σ6, H6, S6, r6, q6⟩ := hsp
      exact end_ S6 fun s7 J7 => ⟨_, _, _, J7, r6, q6⟩
  · cases f with
    | next =>
      obtain ⟨σ', H', J', q⟩ := hsp
      exact wpAny_execs_nil ⟨σ', H', J'.ofTry ok, q⟩
    | brk =>
      obtain ⟨σ', H', J', q⟩ := hsp
      exact ⟨σ', H', J'.ofTry ok, q⟩
    | cont =>
      obtain ⟨σ', H', J', q⟩ := hsp
      exact ⟨σ', H', J'.ofTry ok, q⟩
    | ret u =>
      obtain ⟨v, σ', H', J', r, q⟩ := hsp
      exact ⟨v, σ', H', J'.ofTry ok, r, q⟩
end
/-! ### the rule -/
def tryFin : R SO → R SO
  | .ok (.ret t) h => if t.noRef then .ok (.ret t) h else .bad
  | _ => .bad
def sTryAs (cs : List Nat) (i : Nat) (rb rs : SM) : SM := fun a h => match rb a h with
  | .ok (.rse (.obj c (f :: fs)) a1) h1 => if cs.contains c then tryFin (rs (a1.set i (some (.xh c (f :: fs)))) h1) else .bad
  | .ok (.rse _ _) _ => .bad
  | r => r
section
variable {C : RC} {n : Str} {t : Expr} {vcs : List Value} {i : Nat} {body suite : List Stmt} {b₀ : Stmt} {pos pos' : Pos} {rb rs : SM}
/-- the context of the try's body -/
abbrev tryR (C : RC) (W : WX) (pn : List (Addr × Obj)) (xe : Value → Shared → Prop) : RC := ⟨C.X.tr pn xe, C.S, W, C.k⟩
/-- the context of the suite -/
abbrev suiteR (C : RC) (a : Addr) (oe : Obj) (pn : List (Addr × Obj)) : RC := ⟨C.X.suite a ((a, oe) :: pn), C.S.md (some (a, oe)) C.S.lam, fun _ _ _ _ => False, C.k⟩
theorem takesF {X : Cx} : Takes X (fun _ _ _ _ => False) := fun _ _ x => by
  obtain ⟨_, _, _, _, _, _, _, _, _, _, _, _, _, _, _, _, z⟩ := x
  exact z.elim
theorem RC.Ok.tryR (ok : C.Ok) (hm : C.S.mo = none) {W : WX} {pn : List (Addr × Obj)} {xe : Value → Shared → Prop} (tk : Takes (C.X.tr pn xe) W) : (tryR C W pn xe).Ok :=
  { K := ok.K, calm := ok.calm, room := ok.room, pn := (fun p e => by rw [show C.S.mo = some p from e] at hm; cases hm), gd := ok.gd, nd := ok.nd, tk := tk }
theorem RC.Ok.suiteR (ok : C.Ok) (a : Addr) (oe : Obj) (pn : List (Addr × Obj)) : (suiteR C a oe pn).Ok :=
  { K := ok.K, calm := (fun e => nomatch (show some (a, oe) = none from e)), room := ⟨⟨ok.room.w.dp, ok.room.w.un⟩, fun e => nomatch (show some (a, oe) = none from e)⟩,
    pn := (fun p e => by
      obtain rfl : (a, oe) = p := Option.some.inj e
      exact List.mem_cons_self), gd := ok.gd, nd := ok.nd, tk := takesF }
theorem js_tryAs (ok : C.Ok) (hm : C.S.mo = none) (hs : C.X.stack = C.X.env :: C.X.outer) (hf : C.X.env.frame = some C.X.env.locals) (hi : C.X.N[i]? = some n) (hln : C.X.env.kindOf n = some .local) (ht : ExT C.X t vcs)
    {cs : List Nat} (hcs : ∀ c ∈ cs, PySem.W.exmAny C.X.K (.ref (C.S.cls c)) vcs = some true)
    (jb : ∀ (W : WX) (pn : List (Addr × Obj)) (xe : Value → Shared → Prop), Takes (C.X.tr pn xe) W → PassesOwn (model C.X.prog C.X.w) C.X.A C.X.env xe → JSs (tryR C W pn xe) body rb)
    (js : ∀ (a : Addr) (oe : Obj) (pn : List (Addr × Obj)), JSs (suiteR C a oe pn) (b₀ :: suite) rs) :
    JS C (.Try body [.ExceptHandler (some t) (some n) (b₀ :: suite) pos'] [] [] pos) (sTryAs cs i rb rs) := by
  refine ⟨fun pins s σ H D I hw => ?_⟩
  obtain ⟨a, G, h, rp, rs0, o⟩ := hw
  refine (ps_try_tup (tb := fun W => liS ⟨C.X, C.S, W, C.k⟩ rb) (ts := fun a oe _ _ => liS ⟨C.X, C.S.md (some (a, oe)) C.S.lam, fun _ _ _ _ => False, C.k⟩ rs) hs hf ok.nd hi hln ht (fun W pn xe tk hp => jb W pn xe tk hp) (fun a oe cls d pn _ _ => js a oe pn)).run pins s σ H D I ⟨a, G, h, rp, rs0, ?_⟩
  unfold sTryAs at o
  cases q : rb a h with
  | bad => rw [q] at o; exact o
  | exc e h' => rw [q] at o; exact o
  | ok x h' =>
    rw [q] at o
    cases x with
    | nx a' => exact o
    | brk a' => exact o
    | cont a' => exact o
    | ret a' => exact o
    | rse e a1 =>
      intro cls d σ1 H1 G1 st1 rp1 rs1 rx
      obtain ⟨c, fs, rfl, rfl, hx⟩ := rx
      cases fs with
      | nil => exact False.elim o
      | cons f fs =>
        dsimp only at o
        split at o
        · rename_i hc
          refine ⟨hcs c (List.contains_iff_mem.mp hc), fun a2 oe na hz hd => ?_⟩
          obtain ⟨vsd, hd⟩ := hd
          have rt : RelT (C.S.md (some (a2, oe)) C.S.lam) H1 G1 (.xh c (f :: fs)) (.ref a2) := by
            rcases hx with ⟨z, _⟩ | ⟨dd, vs, rfl, zd, hdd, rf⟩
            · cases z
            · exact RelT.exh (S := C.S.md (some (a2, oe)) C.S.lam) rfl hz.1 hz.2 hd zd hdd (rf.up (.inl hm) (.inr rfl))
          refine ⟨a1.set i (some (.xh c (f :: fs))), G1, h', rp1.up (.inl hm) (.inr rfl), (rs1.up (.inl hm) (.inr rfl)).set i rt, ?_⟩
          have o := OutS.step st1 o
          cases q2 : rs (a1.set i (some (.xh c (f :: fs)))) h' with
          | bad => rw [q2] at o; exact o
          | exc e h' => rw [q2] at o; exact o
          | ok x2 h2 =>
            rw [q2] at o
            cases x2 with
            | ret t =>
              unfold tryFin at o
              dsimp only at o
              split at o
              · rename_i hn
                intro v H2 G2 st2 rp2 rv
                exact o v H2 G2 st2 rp2.down (rv.down hn)
              · exact False.elim o
            | nx _ => exact False.elim o
            | brk _ => exact False.elim o
            | cont _ => exact False.elim o
            | rse _ _ => exact False.elim o
        · exact False.elim o
end
end RT
set_option Elab.async false
set_option linter.all false
set_option maxRecDepth 100000
set_option maxHeartbeats 4000000
/-! RT, part Uh: a lambda without parameters handed to a def that calls it. -/
namespace RT
open PySem PySem.Spec L2 LamX
open PyProof.Rows hiding St
/-! ### what its making does to the heap -/
/-- nothing, or one more entry in the table P and the code object that it tells -/
def LamStep (H H1 : Hp) (P : Addr) (q : Str) : Prop := H1 = H ∨ ∃ (ps more : Array Value) (c' : Addr), H P = some (.tbl ps) ∧ H c' = none ∧ H1 = upd (upd H P (.tbl (ps ++ more))) c' (CodeO c' q)
theorem LamStep.at_ {H H1 : Hp} {P : Addr} {q : Str} (l : LamStep H H1 P q) {a : Addr} {o : HO} (e : H a = some o) (n : ∀ ps, o ≠ .tbl ps) : H1 a = some o := by
  rcases l with rfl | ⟨ps, more, c', hP, hc, rfl⟩
  · exact e
  · rw [upd_ne (ne_of_none e hc), upd_ne]
    · exact e
    · rintro rfl
      rw [hP] at e
      exact n ps (Option.some.inj e).symm
theorem LamStep.there {H H1 : Hp} {P : Addr} {q : Str} (l : LamStep H H1 P q) {a : Addr} (e : H a ≠ none) : H1 a ≠ none := by
  rcases l with rfl | ⟨ps, more, c', hP, hc, rfl⟩
  · exact e
  · by_cases h1 : a = c'
    · subst h1; rw [upd_same]; simp
    · rw [upd_ne h1]
      by_cases h2 : a = P
      · subst h2; rw [upd_same]; simp
      · rw [upd_ne h2]; exact e
theorem LamStep.step {S : Sta} {H H1 : Hp} {G : Gh} {h : Hm} {P : Addr} {q : Str} (l : LamStep H H1 P q) (r : RepH S H G h) (ht : Tabs S.T H1) : Step H G H1 G ∧ RepH S H1 G h := by
  have same : ∀ a, H a ≠ none → (∀ ps, H a ≠ some (.tbl ps)) → H1 a = H a := fun a h nt => by
    cases e : H a with
    | none => exact absurd e h
    | some o => exact l.at_ e fun ps z => nt ps (by rw [e, z])
  have st : Step H G H1 G := ⟨⟨[], by simp⟩, fun _ z => z, fun a z nt => same a (r.there a (.inr z)) nt, fun a z => l.there z, fun a z nt _ _ => same a z nt, fun _ z => .inl z, fun _ z => .inl z, fun c q e => l.at_ e codeO_ne⟩
  refine ⟨st, r.len, fun i c e => ?_, r.nd, fun a z => l.there (r.there a z), ht⟩
  obtain ⟨a, o, h1, h2, h3, h4, h5⟩ := r.cell i c e
  exact ⟨a, o, h1, l.at_ h2 (cell_tab h3).1, h3.step st, h4, h5⟩
section
variable {X : Cx} {pins : List (Addr × Obj)} {σ : L2.St} {H : Hp} {s : Shared}
/-- the lambda is made (LamX.lam_make2, with what becomes of the heap) -/
theorem lam_make3 {T : List (Addr × Str)} {c P : Addr} {params : Arguments} {body : Expr} {scope : Scope} {pos : Pos} {E : Value → Shared → Prop} {Q : Value → Shared → Prop} (I : Inv X pins σ H s) (TB : TabB X.base X.mg c P) (hcode : X.env.code = .ref c)
    (hm : (P, X.env.qual ++ "<lambda>") ∈ T) (hu : ∀ p ∈ T, p.1 = P → p.2 = X.env.qual ++ "<lambda>") (hT : Tabs T H) (hdef : defaultsOf params X.env = ([], [])) (hfree : ∀ y ∈ scope.names, y.2 = .free → ∃ c, X.env.cells.lookup y.1 = some c)
    (h : ∀ (f c' : Addr) (pm ctv : Value) (H1 : Hp) (s' : Shared), Inv X pins σ H1 s' → LamStep H H1 P (X.env.qual ++ "<lambda>") → Tabs T H1 →
      s'.heap.get? f = some (PySem.W.kla_obj "<lambda>" (X.env.qual ++ "<lambda>") params body scope (cloFrom X.env.cells scope.names []) pm c' ctv) → H1 f = none → f ∉ frs X.stack → H1 c' = some (CodeO c' (X.env.qual ++ "<lambda>")) → Q (.ref f) s') :
    wpAny (model X.prog X.w) X.A (eval (.Lambda params body scope pos) X.env) Q E s := by
  obtain ⟨ps, hP, ht, ha⟩ := hT _ hm
  refine PySem.W.kla_eval hdef ?_
  have bP : s.heap.BuiltinsAt X.mg P := TB.bm.keeps I.bk
  have hP' : s.heap.get? P = some { cls := .none, data := .fields ps } := I.hok P _ hP
  have nofr : ∀ f, s.heap.objs.size ≤ f → f ∉ frs X.stack := fun f hf z => by
    rcases List.mem_cons.mp (I.stkSub _ z) with e | e
    · have h1 := I.lt
      rw [← e] at h1
      exact Nat.lt_irrefl _ (Nat.lt_of_lt_of_le h1 hf)
    · exact I.nofs hf e
  cases hc : codeAmong pos ps.toList with
  | none =>
    refine PySem.W.kla_makeFunction (mg := X.mg) (c := c) (P := P) (ps := ps) (closure_ok hfree) I.ok.glob (I.mod.glob.keeps I.bk) hcode (TB.code.keeps I.bk) hP' ht hc TB.gP bP fun c' ctv h' tk hx hge hlt hrec htb => ?_
    obtain ⟨c2, oc, vs, t, e2, hoc, hd, hv⟩ := hrec
    cases e2
    have hsz : s.heap.objs.size ≤ h'.objs.size := Nat.le_trans hge (Nat.le_of_lt hlt)
    have nC : H c' = none := I.hok.fresh hge
    have I1 := inv_table (t' := tk) (more := #[rawInt pos.line, rawInt pos.col, .ref c']) (h' := h'.push (PySem.W.kla_obj "<lambda>" (X.env.qual ++ "<lambda>") params body scope (cloFrom X.env.cells scope.names []) ((X.mg "__name__").getD .none) c' ctv)) I hP
      (fun b o hb e => Heap.get?_push_of_some _ (hx b o hb e)) (Heap.get?_push_of_some _ htb) hge ⟨oc, vs, t, Heap.get?_push_of_some _ hoc, hd, hv⟩
    have LS : LamStep H (upd (upd H P (.tbl (ps ++ #[rawInt pos.line, rawInt pos.col, .ref c']))) c' (CodeO c' (X.env.qual ++ "<lambda>"))) P (X.env.qual ++ "<lambda>") := .inr ⟨ps, _, c', hP, nC, rfl⟩
    have eL : (ps ++ #[rawInt pos.line, rawInt pos.col, .ref c']).toList = ps.toList ++ [rawInt pos.line, rawInt pos.col, .ref c'] := by simp
    refine h h'.objs.size c' ((X.mg "__name__").getD .none) ctv _ _ I1 LS (fun p hp => ?_) (Heap.get?_push_size _ rfl) ?_ (nofr _ hsz) upd_same
    · by_cases hb : p.1 = P
      · rw [hu p hp hb, hb]
        refine ⟨_, by rw [upd_ne (ne_of_none hP nC), upd_same], by rw [eL]; exact PySem.TriplesOk_snoc _ _ _ _ ht, fun p' cv hcv => ?_⟩
        rw [eL] at hcv
        rcases among_app _ ht hcv with z | z
        · obtain ⟨c0, e1, e2⟩ := ha p' cv z
          exact ⟨c0, e1, LS.at_ e2 codeO_ne⟩
        · exact ⟨c', z, upd_same⟩
      · obtain ⟨ps', a1, a2, a3⟩ := hT p hp
        refine ⟨ps', by rw [upd_ne (ne_of_none a1 nC), upd_ne hb]; exact a1, a2, fun p' cv hcv => ?_⟩
        obtain ⟨c0, e1, e2⟩ := a3 p' cv hcv
        exact ⟨c0, e1, LS.at_ e2 codeO_ne⟩
    · have n1 : h'.objs.size ≠ c' := Nat.ne_of_gt hlt
      have n2 : h'.objs.size ≠ P := Nat.ne_of_gt (Nat.lt_of_lt_of_le (Heap.lt_size hP') hsz)
      rw [upd_ne n1, upd_ne n2]
      exact I.hok.fresh hsz
  | some cv =>
    obtain ⟨c', e, hco⟩ := ha pos cv hc
    subst e
    refine PySem.W.kla_makeFunctionHit (mg := X.mg) (c := c) (P := P) (ps := ps) (closure_ok hfree) I.ok.glob (I.mod.glob.keeps I.bk) hcode (TB.code.keeps I.bk) hP' ht hc bP fun ctv h' tk hx hsz => ?_
    have I1 : Inv X pins σ H { s with heap := h'.push (PySem.W.kla_obj "<lambda>" (X.env.qual ++ "<lambda>") params body scope (cloFrom X.env.cells scope.names []) ((X.mg "__name__").getD .none) c' ctv), toks := tk } := I.kept fun b o e => Heap.get?_push_of_some _ (hx b o e)
    exact h h'.objs.size c' ((X.mg "__name__").getD .none) ctv H _ I1 (.inl rfl) hT (Heap.get?_push_size _ rfl) (I.hok.fresh hsz) (nofr _ hsz) hco
end
/-! ### its call -/
/-- the slots that it captured -/
def unc (n : Nat) (cs : List (Nat × T)) : StT := (List.range n).map fun i => cs.lookup i
def capt (is : List Nat) (st : StT) : List (Nat × T) := is.filterMap fun i => match st[i]? with
  | some (some t) => some (i, t)
  | _ => none
def eAct (i n : Nat) (r : ET) : ET := fun a h => match a[i]? with
  | some (some (.clo cs)) => if T.noRefF cs then fin h.length (r (unc n cs) h) else .bad
  | _ => .bad
def coolR : R T → R T
  | .ok t h => if t.noRef then .ok t h else .bad
  | _ => .bad
/-- x(lambda: ..), g: what x does with it -/
def eLamCall (is : List Nat) (g : List T → Hm → R T) : ET := fun st h => coolR (g [.clo (capt is st)] h)
section
variable {S : Sta} {H : Hp} {G : Gh}
theorem RelCs.down {m : Option (Addr × Obj)} {l : Option Lam} : ∀ {cs : List (Nat × T)} {σ : L2.St}, RelCs (S.md m l) H G σ cs → T.noRefF cs = true → RelCs S H G σ cs
  | _, _, .nil, _ => .nil
  | _, _, .cons e h r, n => .cons e (h.down (by rw [T.noRefF] at n; exact (band n).1)) (RelCs.down r (by rw [T.noRefF] at n; exact (band n).2))
theorem RelCs.look {σ : L2.St} {i : Nat} {t : T} : ∀ {cs : List (Nat × T)}, RelCs S H G σ cs → cs.lookup i = some t → ∃ v, σ[i]? = some (some v) ∧ RelT S H G t v
  | _, .nil, e => by simp at e
  | _, .cons (i := j) (ts := ts) e0 h r, e => by
    by_cases q : i = j
    · subst q
      rw [List.lookup_cons_self] at e
      cases e
      exact ⟨_, e0, h⟩
    · have hb : (i == j) = false := beq_eq_false_iff_ne.mpr q
      simp only [List.lookup, hb] at e
      exact RelCs.look r e
theorem relSt_unc {σ : L2.St} {n : Nat} {cs : List (Nat × T)} (hl : σ.length = n) (r : RelCs S H G σ cs) : RelSt S H G (unc n cs) σ := by
  refine ⟨by simp [unc, hl], fun i t e => ?_⟩
  unfold unc at e
  rw [List.getElem?_map] at e
  by_cases hi : i < n
  · rw [List.getElem?_range hi] at e
    exact r.look (Option.some.inj e)
  · rw [List.getElem?_eq_none (by simpa using hi)] at e
    cases e
theorem relCs_capt {σ : L2.St} {st : StT} (r : RelSt S H G st σ) : ∀ is : List Nat, RelCs S H G σ (capt is st)
  | [] => .nil
  | i :: is => by
    unfold capt
    rw [List.filterMap_cons]
    cases e : st[i]? with
    | none => exact relCs_capt r is
    | some o =>
      cases o with
      | none => exact relCs_capt r is
      | some t =>
        obtain ⟨v, h1, h2⟩ := r.2 i t e
        exact .cons h1 h2 (relCs_capt r is)
end
/-- the context of the def that gets it -/
abbrev actX (X : Cx) (Ng : List Str) (qg : Str) (sg : Scope) (g : Addr) (cdg : Value) (s : Shared) (H : Hp) : Cx := cxOf C8.CX0 X.prog X.w X.K X.mg X.base Ng qg sg g cdg X.A X.stack s H C8.E0
/-- the context of the lambda's body -/
abbrev lamR (C : RC) (A : Around) (outer : List Env) (s : Shared) (H : Hp) (E : XK) (scope : Scope) (f c' : Addr) (k : Nat) : RC := ⟨lamCx C.X A outer s H E scope f c', C.S, fun cls d _ H => E cls d H, k⟩
section
variable {C : RC}
theorem lamR_ok (ok : C.Ok) {A : Around} {outer : List Env} {s : Shared} {H : Hp} {E : XK} {scope : Scope} {f c' : Addr} {k : Nat} (hm : C.S.mo = none) (hgd : GdK k A) (hr : Room k (A.deeper (lamEnv C.X scope s.heap.objs.size f c'))) : (lamR C A outer s H E scope f c' k).Ok :=
  { K := ok.K, calm := fun _ => rfl, room := .of hr, pn := (fun p e => by rw [show C.S.mo = some p from e] at hm; cases hm), gd := hgd, nd := ok.nd, tk := takes_of (X := lamCx C.X A outer s H E scope f c') rfl rfl rfl rfl }
/-- a(), in the def that got the lambda (LamX.pe_act) -/
theorem je_act (ok : C.Ok) (hmo : C.S.mo = none) (hlm : C.S.lam = none) {pins : List (Addr × Obj)} {σ : L2.St} {H : Hp} {s : Shared} (I : Inv C.X pins σ H s) {Ng : List Str} {qg : Str} {sg : Scope} {g f c' : Addr} {cdg pm ctv : Value} {params : Arguments} {body : Expr} {scope : Scope} {k kz i : Nat} {a : Str} {pn : List (Addr × Obj)} {xe : Value → Shared → Prop} {W : WX} {p1 p2 : Pos} {r : ET}
    (L : LamS C.X.env.scope scope) (hf : s.heap.get? f = some (PySem.W.kla_obj "<lambda>" (C.X.env.qual ++ "<lambda>") params body scope (cloFrom C.X.env.cells scope.names []) pm c' ctv)) (hfn : H f = none) (hfr : f ∉ frs C.X.stack)
    (hbind : bindArgs (PySem.W.kla_fn "<lambda>" (C.X.env.qual ++ "<lambda>") params body scope (cloFrom C.X.env.cells scope.names []) pm (.ref c') ctv) ⟨[], []⟩ = pure [])
    (tk : Takes ((actX C.X Ng qg sg g cdg s H).tr pn xe) W) (hr : Room (k + 1) (C.X.A.deeper (envOfC qg sg s.heap.objs.size g cdg))) (hk : k ≤ C.k)
    (jl : ∀ (C' : RC), C'.Ok → C'.X.prog = C.X.prog → C'.X.w = C.X.w → C'.S = C.S → C'.X.mg = C.X.mg → C'.X.base = C.X.base → C'.X.N = C.X.N → C'.X.env.scope = scope → C'.k = k → JE C' body r)
    (hN : Ng[i]? = some a) (hv : Vis sg a) (hd : (a == ("__debug__" : Str)) = false := by decide) (hcd : (a == ("__classdict__" : Str)) = false := by decide) :
    JE ⟨(actX C.X Ng qg sg g cdg s H).tr pn xe, C.S.md none (some ⟨f, c', C.X.env.qual ++ "<lambda>", σ⟩), W, kz⟩ (.Call (.Name a p1) [] [] p2) (eAct i C.X.N.length r) := by
  refine ⟨fun pinsZ sZ σZ HZ Q IZ hw => ?_⟩
  obtain ⟨az, G, h, rp, rs, o⟩ := hw
  unfold eAct at o
  split at o
  · rename_i cs ea
    split at o
    · rename_i hnr
      obtain ⟨v, hs, rv⟩ := rs.2 i _ ea
      cases rv with
      | @clo L0 _ hl hc rcs =>
        obtain rfl : (⟨f, c', C.X.env.qual ++ "<lambda>", σ⟩ : Lam) = L0 := Option.some.inj hl
        refine wpAny_Call_Name_kw (thn ((pe_var (pos := p1) (i := i) hN hv hd hcd).run pinsZ sZ σZ HZ (fun v H1 => v = .ref f ∧ H1 = HZ) IZ ⟨.ref f, hs, rfl, rfl⟩) fun u s1 ⟨v, H1, I1, r1, q1⟩ => ?_)
        obtain ⟨ev, eH⟩ := q1
        subst ev
        rw [eH] at I1
        obtain rfl : u = Value.ref f := r1
        have of1 : s1.heap.get? f = some (PySem.W.kla_obj "<lambda>" (C.X.env.qual ++ "<lambda>") params body scope (cloFrom C.X.env.cells scope.names []) pm c' ctv) := I1.base.keep f _ hf hfn hfr (fun z => nomatch (show f ∈ ([] : List Addr) from z))
        refine PySem.W.callWith_F0 ⟨_, _, _, _, of1⟩ ?_
        have un : Un (frs C.X.stack) [] H HZ s.heap s1.heap := I1.base
        obtain ⟨⟨oc, vs, t, hoc, hdc, hvc⟩, _, _⟩ := I1.hok c' _ hc
        have rc : codeAny (model C.X.prog C.X.w) (C.X.A.deeper (envOfC qg sg s.heap.objs.size g cdg)) (.call (.ref f) ⟨[], []⟩) (CR (L2.CX C.X.prog C.X.w) (envOfC qg sg s.heap.objs.size g cdg :: C.X.stack) C.X.prog C.X.w HZ s1 Q (fun cls d H' => W cls d σZ H')) s1 := by
          refine PySem.W.kla_callFunE hr.depth of1 rfl L.co L.gen rfl ⟨c', oc, vs, t, rfl, hoc, hdc, hvc⟩ ?_
          rw [hbind]
          refine wpAny_pure (wpAny_newFunctionEnv (fun y hy => (L.own y hy).2) (fun y hy => absurd hy (by simp)) (fun h₁ hns hsb => ⟨I1.nolimit.fresh _ hsb, ?_⟩) L.kind)
          show codeAny _ _ (.expr body (lamEnv C.X scope s1.heap.objs.size f c')) _ _
          have kp : ∀ b o, s1.heap.get? b = some o → h₁.get? b = some o := fun b o e => hsb.extBut b o (Nat.ne_of_lt (Heap.lt_size e)) (Heap.get?_push_of_some _ e)
          have J : Inv (lamCx C.X (C.X.A.deeper (envOfC qg sg s.heap.objs.size g cdg)) (envOfC qg sg s.heap.objs.size g cdg :: C.X.stack) s1 HZ (fun cls d H' => W cls d σZ H') scope f c') [] σ HZ { s1 with heap := h₁, toks := s1.toks + ([] : List (Str × Value)).length } :=
            lam_start2 I L I1.env0 hr.hd un hns kp
          have jb := jl (lamR C (C.X.A.deeper (envOfC qg sg s.heap.objs.size g cdg)) (envOfC qg sg s.heap.objs.size g cdg :: C.X.stack) s1 HZ (fun cls d H' => W cls d σZ H') scope f c' k) (lamR_ok ok hmo (show GdK k C.X.A from ok.gd.mono hk) (hr.deeper _)) rfl rfl rfl rfl rfl rfl rfl rfl
          have rs0 : RelSt C.S HZ G (unc C.X.N.length cs) σ := relSt_unc I.len (rcs.down hnr)
          have o2 : Out (lamR C (C.X.A.deeper (envOfC qg sg s.heap.objs.size g cdg)) (envOfC qg sg s.heap.objs.size g cdg :: C.X.stack) s1 HZ (fun cls d H' => W cls d σZ H') scope f c' k) σ HZ G (relE C) (r (unc C.X.N.length cs) h) Q := by
            have o3 := o.endT
            have o4 : EndT (C.S.md none (some ⟨f, c', C.X.env.qual ++ "<lambda>", σ⟩)) HZ G (r (unc C.X.N.length cs) h) Q (fun cls d H' => W cls d σZ H') := EndT.fin rp.len.symm o3
            cases q : r (unc C.X.N.length cs) h with
            | ok t h' =>
              rw [q] at o4
              exact fun v H' G' st rp' rv => o4 v H' G' st (rp'.up (.inl hmo) (.inl hlm)) (rv.up (.inl hmo) (.inl hlm))
            | exc e h' =>
              rw [q] at o4
              exact fun cls d H' G' st rp' rx => o4 cls d H' G' st (rp'.up (.inl hmo) (.inl hlm)) (rx.up (.inl hmo) (.inl hlm))
            | bad => rw [q] at o4; exact o4
          refine PySem.W.kla_codeExpr (wpAny_mono (jb.run J rp.down rs0 o2) (fun v s' hq => ?_) fun e s' hq => hq)
          obtain ⟨w', H', J', rv, q⟩ := hq
          exact ⟨w', H', J'.os, J'.bare, J'.base, J'.hok, rv, q⟩
        refine wpAny_call (codeAny_mono rc fun r s' hq => ?_)
        cases r with
        | error e => exact tk e s' (XE.of_call I1 (fun _ _ _ z => z) hq)
        | ok fl =>
          cases fl with
          | ret u => exact I1.after hq
          | next => exact False.elim hq
          | brk => exact False.elim hq
          | cont => exact False.elim hq
    · exact False.elim o
  · exact False.elim o
/-- x(lambda: body), x a def that lets nothing out (LamX.pe_lamcall) -/
theorem je_lamcall (ok : C.Ok) (hmo : C.S.mo = none) (hlm : C.S.lam = none) {x a : Str} {g c P : Addr} {k : Nat} {fd : FuncData} {pg : Arguments} {bg : List Stmt} {sg : Scope} {kws : List (Str × V)} {Ng : List Str} {params : Arguments} {body : Expr} {scope : Scope} {p lpos pos : Pos} {r : ET} {bm : SM} {is : List Nat}
    (hg : Gl C.X x) (hm : C.X.mg x = some (.ref g)) (F : FunD C.S.K x x pg bg sg [] kws g fd)
    (hba : ∀ (kV doc pm : Value) (an : Option Addr) (cdv ct : Value) (us : List Value), us.length = [a].length → bindArgs (PySem.W.fnOf x x pg bg sg .none kV doc pm an cdv ct) ⟨us, []⟩ = pure ([a].zip us)) (Sg : FnScope Ng [a] sg) (hNg : Ng[0]? = some a) (hva : Vis sg a)
    (TB : TabB C.X.base C.X.mg c P) (hcode : C.X.env.code = .ref c) (hmT : (P, C.X.env.qual ++ "<lambda>") ∈ C.S.T) (hu : ∀ p ∈ C.S.T, p.1 = P → p.2 = C.X.env.qual ++ "<lambda>") (hk : k + 2 ≤ C.k) (L : LamS C.X.env.scope scope) (hdef : defaultsOf params C.X.env = ([], []))
    (hbind : ∀ (q : Str) (cl : List (Str × Addr)) (pm cv ctv : Value), bindArgs (PySem.W.kla_fn "<lambda>" q params body scope cl pm cv ctv) ⟨[], []⟩ = pure [])
    (jl : ∀ (C' : RC), C'.Ok → C'.X.prog = C.X.prog → C'.X.w = C.X.w → C'.S = C.S → C'.X.mg = C.X.mg → C'.X.base = C.X.base → C'.X.N = C.X.N → C'.X.env.scope = scope → C'.k = k → JE C' body r)
    (jg : ∀ (Cg : RC) (l : Option Lam), Cg.Ok → Cg.X.prog = C.X.prog → Cg.X.w = C.X.w → Cg.S = C.S.md none l → Cg.X.mg = C.X.mg → Cg.X.base = C.X.base → Cg.X.N = Ng → Cg.X.env.scope = sg → Cg.k = k + 1 → Cg.X.stack = Cg.X.env :: Cg.X.outer → Cg.X.env.frame = some Cg.X.env.locals →
      (∀ (W : WX) (pn : List (Addr × Obj)) (xe : Value → Shared → Prop) (p1 p2 : Pos), Takes (Cg.X.tr pn xe) W → JE (tryR Cg W pn xe) (.Call (.Name a p1) [] [] p2) (eAct 0 C.X.N.length r)) → JSs Cg bg bm)
    (hdb : (x == ("__debug__" : Str)) = false := by decide) (hd : (a == ("__debug__" : Str)) = false := by decide) (hcd : (a == ("__classdict__" : Str)) = false := by decide) :
    JE C (.Call (.Name x p) [.Lambda params body scope lpos] [] pos) (eLamCall is (run Ng.length bm)) := by
  refine ⟨fun pins s σ H Q I hw => ?_⟩
  obtain ⟨st, G, h, rp, rs, o⟩ := hw
  have hb : L2.Binds C.S.K fd [a] [] := F.bindsN hba
  have hkp : PySem.W.keepIn C.X.K (.ref g) = true := by rw [← ok.K]; exact F.kp
  obtain ⟨oc, od, dV, kV, doc, pm, an, cdv, ct, osl, rfl, lk, hcg, _, _⟩ := F.ex
  rw [ok.K] at lk hcg hb
  refine wpAny_Call_Name_kw (ld_glob I hg hm ?_ hdb)
  refine PySem.W.callWith_K (h₀ := C.X.base) I.ok.mod.kin hkp ?_ (by rfl) (by rfl)
  show wpAny _ _ (spliced ((false, eval (.Lambda params body scope lpos) C.X.env) :: backTo pos (starEach [] C.X.env))) _ _ s
  refine Calls.spliced_cons (lam_make3 I TB hcode hmT hu rp.tabs hdef (L.has I.ok) fun f c' pm' ctv H1 s' I1 LS T1 hf hfn hfr hco => ?_)
  refine Calls.spliced_nil ⟨I1.kIn, ?_⟩
  obtain ⟨st1, rp1⟩ := LS.step rp T1
  have o1 := (Out.step st1 o).endT
  have hroom : Room (k + 2) C.X.A := (ok.room.cold hmo).mono hk
  have rc : codeAny (model C.X.prog C.X.w) C.X.A (.call (.ref g) ⟨[.ref f], []⟩) (CR C8.CX0 C.X.stack C.X.prog C.X.w H1 s' Q C8.E0) s' := by
    refine run_ofS (N := Ng) (ps := [a]) (us := [.ref f]) (vs := [.ref f]) lk hcg Sg hroom I1.env0 (hb s' [.ref f] I1.kIn rfl) (.cons rfl .nil) rfl fun hr' => ?_
    have okg : (⟨(actX C.X Ng x sg g cdv s' H1).nox, C.S.md none (some ⟨f, c', C.X.env.qual ++ "<lambda>", σ⟩), fun _ _ _ _ => False, k + 1⟩ : RC).Ok :=
      { K := ok.K, calm := fun _ => rfl, room := .of hr', pn := (fun p e => nomatch (show (none : Option (Addr × Obj)) = some p from e)), gd := (show GdK (k + 1) C.X.A from ok.gd.mono (by omega)), nd := Sg.nd, tk := takesF }
    have jb := jg ⟨(actX C.X Ng x sg g cdv s' H1).nox, C.S.md none (some ⟨f, c', C.X.env.qual ++ "<lambda>", σ⟩), fun _ _ _ _ => False, k + 1⟩ (some ⟨f, c', C.X.env.qual ++ "<lambda>", σ⟩) okg rfl rfl rfl rfl rfl rfl rfl rfl rfl rfl
      (fun W pn xe p1 p2 tk => je_act ok hmo hlm I1 L hf hfn hfr (hbind _ _ _ _ _) tk hr' (by omega) jl hNg hva hd hcd)
    refine ⟨_, PSs.nox jb, [some (.clo (capt is st))] ++ List.replicate (Ng.length - 1) none, G, h, rp1.up (.inl hmo) (.inl hlm), ?_, ?_⟩
    · have hl : 0 < Ng.length := (List.getElem?_eq_some_iff.mp hNg).1
      refine ⟨by simp [L2.start], fun i t e => ?_⟩
      by_cases hi : i = 0
      · subst hi
        have et : T.clo (capt is st) = t := by simpa using e
        subst et
        exact ⟨.ref f, by simp [L2.start], RelT.clo (S := C.S.md none (some ⟨f, c', C.X.env.qual ++ "<lambda>", σ⟩)) rfl hco ((relCs_capt (rs.step st1) is).up (.inl hmo) (.inl hlm))⟩
      · rw [List.getElem?_append_right (by simp; omega), List.getElem?_replicate] at e
        split at e <;> cases e
    · have o2 : EndT C.S H1 G (coolR (fin h.length (endOf (bm (st0 Ng.length [.clo (capt is st)]) h)))) Q (fun cls d H' => C.W cls d σ H') := o1
      have e0 : EndT (C.S.md none (some ⟨f, c', C.X.env.qual ++ "<lambda>", σ⟩)) H1 G (fin h.length (endOf (bm (st0 Ng.length [.clo (capt is st)]) h))) Q (fun _ _ _ => False) := by
        cases q : fin h.length (endOf (bm (st0 Ng.length [.clo (capt is st)]) h)) with
        | ok t h' =>
          rw [q] at o2
          unfold coolR at o2
          dsimp only at o2
          split at o2
          · rename_i hn
            exact fun v H' G' st rp' rv => o2 v H' G' st rp'.down (rv.down hn)
          · exact False.elim o2
        | exc e h' => rw [q] at o2; exact False.elim o2
        | bad => rw [q] at o2; exact o2
      exact EndT.outS (fun _ _ _ _ z => z) (EndT.fin rp1.len.symm e0)
  refine wpAny_call (codeAny_mono rc fun r s2 hq => ?_)
  cases r with
  | error e => exact (show False from hq).elim
  | ok fl =>
    cases fl with
    | ret u => exact I1.after hq
    | next => exact False.elim hq
    | brk => exact False.elim hq
    | cont => exact False.elim hq
end
end RT
set_option Elab.async false
set_option linter.all false
set_option maxRecDepth 100000
set_option maxHeartbeats 4000000
/-! RT, part Ui: the law's end where tables of code objects stand beside the script (after LamX.law_callTs). -/
namespace RT
open PySem PySem.Spec L2 LamX
open PyProof.Rows hiding St
/-- the tables, and the script -/
def HpT (ts : List Addr) (K : PySem.W.Frag) (a : Addr) (o : Obj) (xs : List V) : Hp := fun b => if b ∈ ts then some (.tbl #[]) else Hp0 K a o xs b
theorem law_goT {P : Program} {w : World} {S : Sta} {mg mb : Str → Option Value} {k : Nat} {fa a : Addr} {cs : List (Addr × Addr)} {fd : FuncData} {x : Str} {g : List T → Hm → R T} {st : Shared} {us : List Value} {ns : List Int} {hE : Hm}
    (hT0 : ∀ p ∈ S.T, p.1 ∈ cs.map (·.2)) (hM0 : S.mo = none) (kin : S.K.In st.heap) (glob : st.heap.Ns mainGlobals mg) (blt : st.heap.Ns builtinsNs mb) (bltE : ∀ y : Str, y ≠ "__name__" → mb y = bootBuiltins y) (nolim : st.heap.NoLimit) (nogen : st.gens = #[])
    (hT : ∀ p ∈ cs, st.heap.get? p.2 = some { cls := .none, data := .fields #[] }) (nT : ∀ p ∈ cs, S.K.lookup p.2 = none) (hC : ∀ p ∈ cs, PySem.W.CodeHd st.heap p.1 p.2)
    (hbm : ∃ (bm : Addr) (ob : Obj), mg "__builtins__" = some (.ref bm) ∧ bm ≠ builtinsNs ∧ st.heap.get? bm = some ob ∧ ob.cls = .type "module" ∧ ob.dict = some builtinsNs ∧ ob.data = .plain)
    (script : st.heap.get? a = some { cls := .type "list", data := .seq us.toArray }) (aints : IntsAre us ns) (fits :  ns.length ≤ sizeLine) (room : Room k callerA) (gd : callerA.guards = some [])
    (F : ∀ b : Heap, S.K.In b → b.Ns mainGlobals mg → (∀ p ∈ cs, TabB b mg p.1 p.2) → FnG S.mo P w S.K mg b k fa fd [x] (spT S 1 g)) (bind : ∀ (s : Shared) (u : Value), BindsTo s fd ⟨[u], []⟩ [(x, u)]) (law : g [.lst (ns.map T.int)] [] = .ok (.bl true) hE) :
    codeAny (model P w) callerA (.call (.ref fa) ⟨[.ref a], []⟩) (fun r s' => r = .ok (.ret (.bool true)) ∧ OldK st.heap s'.heap ∧ s'.os = st.os ∧ AllBare s'.gens) st := by
  have vals := vals_ints aints
  have len := aints.length
  generalize hoE : ({ cls := .type "list", data := .seq us.toArray } : Obj) = ob at script
  have hod : ob.data = .seq us.toArray 0 ∧ ob.cls = .type "list" ∧ ob.dict = none := by rw [← hoE]; exact ⟨rfl, rfl, rfl⟩
  have isT : ∀ b, b ∈ cs.map (·.2) → st.heap.get? b = some { cls := .none, data := .fields #[] } := fun b hb => by
    obtain ⟨p, hp, e⟩ := List.mem_map.mp hb
    rw [← e]
    exact hT p hp
  have memT : ∀ p ∈ cs, p.2 ∈ cs.map (·.2) := fun p hp => List.mem_map.mpr ⟨p, hp, rfl⟩
  have aT : a ∉ cs.map (·.2) := fun z => by
    have q := isT a z
    rw [script] at q
    have z' : ob.data = Data.fields #[] := congrArg Obj.data (Option.some.inj q)
    rw [hod.1] at z'
    cases z'
  obtain ⟨H, eH⟩ : ∃ H : Hp, H = HpT (cs.map (·.2)) S.K a ob (ns.map V.int) := ⟨_, rfl⟩
  have only : ∀ {b : Addr} {u : HO}, H b = some u → (b ∈ cs.map (·.2) ∧ u = .tbl #[]) ∨ (b = a ∧ S.K.lookup a = none ∧ u = .frz ob (.lst (ns.map V.int))) := fun {b u} q => by
    rw [eH] at q
    unfold HpT at q
    split at q
    · rename_i hb
      cases q
      exact .inl ⟨hb, rfl⟩
    · exact .inr (hp0_some q)
  have atT : ∀ b ∈ cs.map (·.2), H b = some (.tbl #[]) := fun b hb => by rw [eH]; exact if_pos hb
  have hok : HOk P w H st.heap := fun b u q => by
    rcases only q with ⟨hb, rfl⟩ | ⟨rfl, _, rfl⟩
    · exact isT b hb
    · refine ⟨script, by rw [List.length_map]; exact fits, us, 0, vals, ?_⟩
      rw [script, ← hoE]
  have noD : ∀ {b : Addr} {o : Obj}, st.heap.get? b = some o → (∀ vs n, o.data ≠ .seq vs n) → o.data ≠ .fields #[] → H b = none := fun {b o} e h1 h2 => by
    cases q : H b with
    | none => rfl
    | some u =>
      rcases only q with ⟨hb, _⟩ | ⟨rfl, _, _⟩
      · rw [isT b hb] at e
        cases e
        exact (h2 rfl).elim
      · rw [script] at e
        cases e
        exact (h1 _ _ hod.1).elim
  have apart : ∀ {b : Addr} {o : Obj} {es : Array DictEntry} {ep : Nat}, st.heap.get? b = some o → o.data = .dict es ep → H b = none := fun {b o es ep} e dd => noD e (fun vs n z => by rw [dd] at z; cases z) fun z => by rw [dd] at z; cases z
  have ns_kept : ∀ {b : Addr} {m : Str → Option Value}, st.heap.Ns b m → (hidT st.heap H).Ns b m := fun {b m} z => by
    obtain ⟨o, es, ep, e, dd, r⟩ := z
    exact ⟨o, es, ep, hidT_get e (apart e dd), dd, r⟩
  have k_kept : S.K.In (hidT st.heap H) := fun b o e => hidT_get (kin b o e) (by
    cases q : H b with
    | none => rfl
    | some u =>
      rcases only q with ⟨hb, _⟩ | ⟨rfl, z, _⟩
      · obtain ⟨p, hp, ep⟩ := List.mem_map.mp hb
        rw [← ep, nT p hp] at e
        cases e
      · rw [z] at e
        cases e)
  have TB : ∀ p ∈ cs, TabB (hidT st.heap H) mg p.1 p.2 := fun p hp => by
    have hTp := hT p hp
    refine ⟨?_, ?_, fun z => ?_⟩
    · obtain ⟨o, us, file, tf, flags, tg, inF, text, tt, e1, r1, r2, r3, r4, r5, r6, r7, r8, hne⟩ := hC p hp
      refine ⟨o, us, file, tf, flags, tg, inF, text, tt, hidT_get e1 (noD e1 (fun vs n z => ?_) fun z => ?_), r1, r2, r3, r4, r5, r6, r7, r8, hne⟩
      · rw [r2] at z
        cases z
      · rw [r2] at z
        cases z
        simp at r3
    · obtain ⟨bm, ob', b1, b2, b3, b4, b5, b6⟩ := hbm
      have nG : bm ≠ mainGlobals := fun q => by
        obtain ⟨o, es, ep, e, hd, _⟩ := glob
        rw [q, e] at b3
        cases b3
        rw [hd] at b6
        cases b6
      have nP : bm ≠ p.2 := fun q => by
        rw [q, hTp] at b3
        cases b3
        cases b6
      refine ⟨bm, ob', b1, b2, nG, nP, hidT_get b3 (noD b3 (fun vs n z => ?_) fun z => ?_), b4, b5, b6⟩
      · rw [b6] at z
        cases z
      · rw [b6] at z
        cases z
    · obtain ⟨o, es, ep, e, hd, _⟩ := glob
      rw [z, hTp] at e
      cases e
      cases hd
  obtain ⟨mc, nl1, nl2⟩ := nolim
  have env : Env0 P w S.K mg (hidT st.heap H) callerA [] st H :=
    { frames := rfl, mod := ⟨k_kept, ns_kept glob, ⟨mb, ns_kept blt, bltE⟩, ⟨mc, ns_kept nl1, nl2⟩⟩, bs := fun b o e => of_hidT e, bsz := Nat.le_of_eq (hidT_size _ _), funs := trivial, frf := fun b hb => absurd hb (List.not_mem_nil), hok := hok, bare := .of_eq nogen }
  have lies : RelT S H ⟨[], fun b => b = a ∧ H b ≠ none⟩ (.lst (ns.map T.int)) (.ref a) := by
    refine .lst (vs := ns.map V.int) ?_ (RelTs.ints ns)
    cases q : S.K.lookup a with
    | none =>
      have e : H a = some (.frz ob (.lst (ns.map V.int))) := by
        rw [eH]
        exact (if_neg aT).trans (if_pos ⟨rfl, q⟩)
      exact .inl ⟨⟨rfl, by rw [e]; simp⟩, .inr ⟨ob, e⟩⟩
    | some o =>
      have e := kin a o q
      rw [script] at e
      cases e
      exact .inr ⟨us, 0, by rw [q, ← hoE], by rw [len]; exact fits, vals⟩
  have rep : RepH S H ⟨[], fun b => b = a ∧ H b ≠ none⟩ [] := ⟨rfl, fun l c e => by simp at e, List.nodup_nil, fun b q => q.elim (fun z => absurd z List.not_mem_nil) fun z => z.2, fun p hp => TabS.nil (atT _ (hT0 p hp))⟩
  have promise : spT S 1 g [.ref a] H (fun v _ => v = .bl true) (fun _ _ _ => False) := ⟨[.lst (ns.map T.int)], _, [], rep, .cons lies .nil, rfl, by
    rw [law]
    intro v H' G' _ _ rv
    cases rv
    rfl⟩
  refine codeAny_mono ((F _ k_kept (ns_kept glob) TB).run callerA [] st H ⟨[.ref a], []⟩ [.ref a] [.ref a] _ _ (.of room) (fun p e => by rw [hM0] at e; cases e) (.of gd) env (bind st (.ref a)) (.cons rfl .nil) promise) fun r s' z => ?_
  cases r with
  | error e =>
    obtain ⟨_, _, _, _, _, _, _, _, _, _, _, _, bad⟩ := z
    exact bad.elim
  | ok fl =>
    cases fl with
    | ret u =>
      obtain ⟨v, H', os, bare, un, hok', rv, q⟩ := z
      have q : v = .bl true := q
      subst q
      cases (show u = Value.bool true from rv)
      have key : ∀ b o, b ∉ cs.map (·.2) → st.heap.get? b = some o → s'.heap.get? b = some o := fun b o nb e => by
        cases hb : H b with
        | none => exact un.keep b o e hb List.not_mem_nil List.not_mem_nil
        | some u =>
          rcases only hb with ⟨z, _⟩ | ⟨_, _, rfl⟩
          · exact absurd z nb
          · have a1 := (hok b _ hb).1
            have a2 := (hok' b _ (un.frzs b ob _ hb)).1
            rw [e] at a1
            cases a1
            exact a2
      have grown : ∀ p ∈ cs, ∃ more : Array Value, s'.heap.get? p.2 = some { cls := .none, data := .fields more } := fun p hp => by
        obtain ⟨more, z⟩ := un.tbls p.2 #[] (atT _ (memT p hp))
        exact ⟨_, hok' p.2 _ z⟩
      refine ⟨rfl, ⟨fun b o e => ?_, fun b o e => ?_⟩, os, bare⟩
      · by_cases hb : b ∈ cs.map (·.2)
        · obtain ⟨p, hp, ep⟩ := List.mem_map.mp hb
          obtain ⟨more, hm⟩ := grown p hp
          rw [← ep] at e ⊢
          rw [hT p hp] at e
          cases e
          exact .inr (.inl ⟨((hC p hp).tab (hT p hp)).isCodeTable, rfl, #[], more, rfl, by rw [Array.empty_append]; exact hm⟩)
        · exact .inl (key b o hb e)
      · by_cases hb : b ∈ cs.map (·.2)
        · obtain ⟨p, hp, ep⟩ := List.mem_map.mp hb
          obtain ⟨more, hm⟩ := grown p hp
          rw [← ep]
          exact ⟨_, hm⟩
        · exact ⟨o, key b o hb e⟩
    | next => exact False.elim z
    | brk => exact False.elim z
    | cont => exact False.elim z
theorem walk_goT {l : PySem.W.OpenLaw} {n k : Nat} {q : Program} {loose : List Str} {XP : (Str → Option Value) → Heap → Prop} {YP : World → Heap → Prop} {d : DefRec} {x : Str} {g : List T → Hm → R T}
    (hn : l.most = some n) (hn2 : n ≤ sizeLine) (hdf : d.params.defaults = []) (hr : Room k callerA) (gd : callerA.guards = some [])
    (F : ∀ (w : World) (mg : Str → Option Value) (fa : Addr) (h : Heap), YP w h → h.Ns mainGlobals mg → mg d.name = some (.ref fa) →
      ∃ (S : Sta) (fd : FuncData) (cs : List (Addr × Addr)), (∀ p ∈ S.T, p.1 ∈ cs.map (·.2)) ∧ S.mo = none ∧ S.K.In h ∧ (∀ p ∈ cs, h.get? p.2 = some { cls := .none, data := .fields #[] }) ∧ (∀ p ∈ cs, S.K.lookup p.2 = none) ∧ (∀ p ∈ cs, PySem.W.CodeHd h p.1 p.2) ∧ (∀ (s : Shared) (u : Value), BindsTo s fd ⟨[u], []⟩ [(x, u)]) ∧
        ∀ b : Heap, S.K.In b → b.Ns mainGlobals mg → (∀ p ∈ cs, TabB b mg p.1 p.2) → FnG S.mo l.prog w S.K mg b k fa fd [x] (spT S 1 g))
    (law : ∀ ns : List Int, ns.length ≤ n → (∀ z ∈ ns, Builtin.Int.intBits z ≤ 1048576) → ∃ hE, g [.lst (ns.map T.int)] [] = .ok (.bl true) hE) : PySem.W.WalkO q loose XP YP l.row.toRowW d [] (fun f vs => PySem.call f vs) := by
  refine Att.attach_callB hn hdf fun w s0 st mg mb fa o pm cd doc a us ns G Y ho hd hcd hmg hobj hints hlen hbits hg => ?_
  obtain ⟨S, fd, cs, hT0, hM0, kin, hT, nT, hC, hb, hF⟩ := F w mg fa _ Y G.T.g hmg
  obtain ⟨hE, e⟩ := law ns hlen hbits
  exact law_goT hT0 hM0 kin G.T.g G.T.b G.T.builtins G.T.nolimit hg hT nT hC G.T.bmain hobj hints (Nat.le_trans hlen hn2) hr gd hF hb e
/-! ### the Hook, with tables -/
theorem saysRT {c : Chk} {fn : List He.DefD} {tf : List He.Defn} {w : World} {h : Heap} {K : PySem.W.Frag} (s : He.SaysX [] fn [] tf c w h K) : SaysR c fn K := by
  have e := s.t.d
  have e1 : (([] : List He.Fa).all (fun f => f.ok K) && fn.all fun d => d.ok K) = true := congrArg (fun z : He.AlD => z.1) e
  have e2 : fn.map (fun d => He.fnW K d.at_) = fn.map He.DefD.val := congrArg (fun z : He.AlD => z.2) e
  show (c K && fn.all fun d => d.ok K, fn.map fun d => He.fnW K d.at_) = He.valD fn
  rw [s.more, e2]
  have e1' : (fn.all fun d => d.ok K) = true := by simpa using e1
  rw [e1']
  rfl
end RT
set_option maxRecDepth 100000
set_option maxHeartbeats 4000000
/-! SL, part a: slice objects: __class__, __repr__ (after the library's texts for sets and tuples). -/
namespace PySem
open Sem (wp)
namespace F
theorem entry_slice_ga : entryFor table "slice.__getattribute__" = some Builtin.«object.__getattribute__» :=
  entryFor_alias (id' := "object.__getattribute__") (by kernel_rfl) (by first | rfl | decide +kernel) (by decide +kernel) (by kernel_rfl)
theorem lk_slice_class : typeLookup (.type "slice") "__class__" = pure (some (.builtin "object.__class__")) := by rw [typeLookup_type, builtinLookup_eq_fast]; kernel_rfl
theorem sub_slice_class_owner : isSubtype (.type "slice") (.type (".".intercalate ("object.__class__".cutAt '.').dropLast)) = pure true := by
  rw [owner_object_class, isSubtype_type]; kernel_rfl
theorem owner_slice : Manifest.owners.lookup (String.ofList ['e', 'c', 'i', 'l', 's'].reverse) = some Manifest.sig_slice := by kernel_rfl
theorem slot_slice_getattribute : Slot "slice" "__getattribute__" "slice.__getattribute__" :=
  .of (owner := "slice") (n := "__getattribute__") (by rw [typeLookup_type, builtinLookup_eq_fast]; kernel_rfl) (by decide +kernel) (by decide +kernel) (by decide +kernel)
    (by first | exact .inl (by decide +kernel) | exact .inr (by decide +kernel)) (by rw [isSubtype_type]; kernel_rfl)
theorem args_slice_getattribute_2 (a b : Value) : argsOk "slice.__getattribute__" ⟨[a, b], []⟩ := by
  unfold argsOk; rw [signature?_of (id := "slice.__getattribute__") (n := "__getattribute__".toList.reverse) (o := ['e', 'c', 'i', 'l', 's']) (by kernel_rfl) owner_slice]; kernel_rfl
theorem slot_slice_repr : SlotG "slice" "__repr__" "slice.__repr__" :=
  .of (owner := "slice") (n := "__repr__") (by rw [typeLookup_type, builtinLookup_eq_fast]; kernel_rfl) (by decide +kernel) (by decide +kernel) (by decide +kernel)
    (by first | exact .inl (by decide +kernel) | exact .inr (by decide +kernel)) (by rw [isSubtype_type]; kernel_rfl)
theorem entry_slice_repr : entryFor table "slice.__repr__" = some Builtin.«slice.__repr__» := entryFor_of_tree (by kernel_rfl)
theorem args_slice_repr_1 (a : Value) : argsOk "slice.__repr__" ⟨[a], []⟩ := by
  unfold argsOk; rw [signature?_of (id := "slice.__repr__") (n := ['_', '_', 'r', 'p', 'e', 'r', '_', '_']) (o := ['e', 'c', 'i', 'l', 's']) (by kernel_rfl) owner_slice]; kernel_rfl
end F

section
variable {prog : Program} {w : World} {A : Around} {E : Value → Shared → Prop} {h : Heap} {g : Array GenState} {d : Drawn} {t : Nat} {os : OsState} {a : Addr} {o : Obj}

theorem class_get_slice {R : Result → Shared → Prop} (hx : h.get? a = some o) (hc : o.cls = .type "slice") (hq : R (.ok (.ret (.type "slice"))) ⟨h, g, d, t, os⟩) :
    codeAny (model prog w) A (.call (.builtin "getset_descriptor.__get__") ⟨[.builtin "object.__class__", .ref a, .type "slice"], []⟩) R ⟨h, g, d, t, os⟩ := by
  have hT : (⟨h, g, d, t, os⟩ : Shared).TypeIs (.ref a) "slice" := ⟨_, hx, hc⟩
  have hT5 : (⟨h, g, d, t, os⟩ : Shared).TypeIs (.builtin "object.__class__") "getset_descriptor" := F.typeOf_object_class
  have f8 := F.sub_slice_class_owner
  refine codeAny_call_builtin F.slot_gs_get.plain F.entry_gs_get (F.slot_gs_get.check _ _ _ _ _ _ _ _ hT5 (F.args_gs_get _ _ _) ?_)
  repeat (any_goals (first | assumption | wp_step))
  refine ⟨Code.quiet_builtin _ (by decide +kernel), codeAny_builtin F.entry_object_class ?_⟩
  repeat (any_goals (first | assumption | wp_step))

theorem class_entry_slice {tk : Tok} {Q : Fin → Shared → Prop} (hx : h.get? a = some o) (hc : o.cls = .type "slice") (hq : Q (.done (.ret (.type "slice"))) ⟨h, g, d, t, os⟩) :
    wpAny (model prog w) A (Builtin.«object.__getattribute__» ⟨[.ref a, .str "__class__" tk], []⟩) Q E ⟨h, g, d, t, os⟩ := by
  have hT : (⟨h, g, d, t, os⟩ : Shared).TypeIs (.ref a) "slice" := ⟨_, hx, hc⟩
  have hT5 : (⟨h, g, d, t, os⟩ : Shared).TypeIs (.builtin "object.__class__") "getset_descriptor" := F.typeOf_object_class
  have f4 := F.lk_slice_class
  have f5 := F.typeOf_object_class
  have f6 := F.slot_gs_get.lookup
  have f7 := F.slot_gs_set.lookup
  repeat (any_goals (first | assumption | wp_step))
  refine class_get_slice hx hc ?_
  repeat (any_goals (first | assumption | wp_step))

theorem class_call_slice {tk : Tok} {R : Result → Shared → Prop} (hx : h.get? a = some o) (hc : o.cls = .type "slice") (hq : R (.ok (.ret (.type "slice"))) ⟨h, g, d, t, os⟩) :
    codeAny (model prog w) A (.call (.builtin "slice.__getattribute__") ⟨[.ref a, .str "__class__" tk], []⟩) R ⟨h, g, d, t, os⟩ :=
  codeAny_call_builtin F.slot_slice_getattribute.plain F.entry_slice_ga (F.slot_slice_getattribute.check _ _ _ _ _ _ _ _ (show (⟨h, g, d, t, os⟩ : Shared).TypeIs (.ref a) "slice" from ⟨_, hx, hc⟩) (F.args_slice_getattribute_2 _ _) (class_entry_slice hx hc hq))

theorem class_by_slice {tk : Tok} {Q : Value → Shared → Prop} (hx : h.get? a = some o) (hc : o.cls = .type "slice") (hq : Q (.type "slice") ⟨h, g, d, t, os⟩) : wpAny (model prog w) A (getAttrBy (.ref a) (.str "__class__" tk) false) Q E ⟨h, g, d, t, os⟩ := by
  have hT : (⟨h, g, d, t, os⟩ : Shared).TypeIs (.ref a) "slice" := ⟨_, hx, hc⟩
  have f2 := F.slot_slice_getattribute.lookup
  have f3 := F.slot_slice_getattribute.bind (.ref a)
  repeat (any_goals (first | assumption | wp_step))
  refine class_call_slice hx hc ?_
  repeat (any_goals (first | assumption | wp_step))

theorem class_attr_slice {Q : Option Value → Shared → Prop} (hx : h.get? a = some o) (hc : o.cls = .type "slice") (hq : Q (some (.type "slice")) ⟨h, g, d, t + 1, os⟩) : wpAny (model prog w) A (getAttr? (.ref a) "__class__") Q E ⟨h, g, d, t, os⟩ := by
  unfold getAttr? getAttrBy?
  repeat (any_goals (first | assumption | with_reducible apply class_by_slice hx hc | wp_step))


end
namespace W
open PyProof.Rows
theorem kitx_slice {K : Frag} {a : Addr} : KitX K (.ref a) (.type "slice") (KitAt a "slice") := kitx_of kitAt_ty (fun {_ _ _ _ _ s} p k => by obtain ⟨h, g, d, t, os⟩ := s; obtain ⟨o, h1, h2⟩ := p; exact class_attr_slice h1 h2 k)
end W
end PySem
set_option Elab.async false
set_option linter.all false
set_option maxRecDepth 100000
set_option maxHeartbeats 4000000
/-! RT, part Uj: slice objects handed to an own __getitem__; isinstance and repr of them; repr of {} and of a tuple of one own object. -/
namespace RT
open PySem PySem.Spec L2
open PyProof.Rows hiding St
section
variable {C : RC} {P : Program} {w : World} {S : Sta} {mg : Str → Option Value} {base : Heap} {N : List Str} {sc : Scope} {k j : Nat} {pos : Pos}
/-! ### made -/
def eSlc (ra rb : ET) : ET := fun st h => (ra st h).bind fun x h1 => (rb st h1).bind fun y h2 => match x, y with
  | .int i, .int j => .ok (.slc i j) h2
  | _, _ => .bad
theorem slc_ok {P : Program} {w : World} {H : Hp} {h : Heap} {a : Addr} {i j : Int} {t u : Tok} (e : h.get? a = some { cls := .type "slice", data := .fields #[.int i t, .int j u, .none] }) : ObjOk P w H h a (SlcO a i j) :=
  ⟨⟨t, u, e⟩, ⟨_, e⟩, fun h1 h2 ⟨t, u, e⟩ st => ⟨t, u, st _ e⟩⟩
theorem slc_at {P : Program} {w : World} {H : Hp} {h : Heap} {a : Addr} {i j : Int} (hok : HOk P w H h) (e : H a = some (SlcO a i j)) : ∃ t u, h.get? a = some { cls := .type "slice", data := .fields #[.int i t, .int j u, .none] } := (hok a _ e).1
theorem je_slc {e1 e2 : Expr} {r1 r2 : ET} {p : Pos} (j1 : JE C e1 r1) (j2 : JE C e2 r2) : JE C (.Slice (some e1) (some e2) none p) (eSlc r1 r2) := by
  refine ⟨fun pins s σ H Q I hw => ?_⟩
  obtain ⟨st, G, h, rp, rs, o⟩ := hw
  refine wpAny_Slice ?_
  rw [evalPart_some, evalPart_some, evalPart_none]
  refine thn (j1.run I rp rs (Out.bind (Rel := relE C) o)) fun u1 s1 ⟨v1, H1, I1, ru1, x, G1, h1, st1, rp1, rx, o1⟩ => ?_
  refine thn (j2.run I1 rp1 (rs.step st1) (Out.bind (Rel := relE C) o1)) fun u2 s2 ⟨v2, H2, I2, ru2, y, G2, h2, st2, rp2, ry, o2⟩ => ?_
  refine wpAny_pure ?_
  dsimp only at o2
  cases x with
  | int i =>
    cases y with
    | int j0 =>
      cases rx
      cases ry
      obtain ⟨t, rfl⟩ := _root_.id ru1
      obtain ⟨u, rfl⟩ := _root_.id ru2
      have I3 : L2.Inv C.X pins σ (upd H2 s2.heap.objs.size (SlcO s2.heap.objs.size i j0)) { s2 with heap := s2.heap.push { cls := .type "slice", data := .fields #[.int i t, .int j0 u, .none] }, toks := s2.toks } :=
        I2.laid (fun b o e => Heap.get?_push_of_some _ e) (Nat.le_refl _) (slc_ok (Heap.get?_push_size _ rfl))
      obtain ⟨st3, rp3⟩ := rp2.newF (o := SlcO s2.heap.objs.size i j0) (I2.hok.fresh (Nat.le_refl _))
      exact ⟨.ref s2.heap.objs.size, _, I3, rfl, o2 _ _ _ st3 rp3 (.slc (.inl rfl) upd_same)⟩
    | _ => exact False.elim o2
  | _ => exact False.elim o2
/-! ### x[i:j], x of an own class -/
def opIxS (ms : Ms) : O2 := fun x y h => match y with
  | .slc _ _ => dunB ms x [y] h
  | _ => .bad
theorem sub_slice {K : PySem.W.Frag} {prog : Program} {w : World} {A : Around} {E : Value → Shared → Prop} {s : Shared} {x Cc f : Addr} {ox : Obj} {od : Option Obj} {value e1 e2 : Expr} {p : Pos} {i : Value} {Q : Value → Shared → Prop} (X : K.In s.heap) (I : PySem.W.InstAt s.heap x ox Cc od)
    (hs : PySem.W.findIn K (.ref Cc) "__getitem__" = some (some (.ref f))) (hf : PySem.W.fnIn K f = true) (hfn : PySem.W.isFn K (.ref f) = true) (hq : PySem.W.subIn K (.ref Cc) (.type "collections.deque") = some false)
    (h : wpAny (model prog w) A (call (.ref f) [.ref x, i]) Q E s) : wpAny (model prog w) A (subscriptTail value (.Slice (some e1) (some e2) none p) (.ref x) i) Q E s := by
  unfold PySem.W.fnIn at hf
  split at hf
  · rename_i e
    unfold subscriptTail getitemInPython
    refine wpAny_bind (wpAny_bind (wpAny_bind (I.type.here ((PySem.W.looks_findIn X hs).here ?_))))
    dsimp only
    refine wpAny_bind (wpAny_load (X _ _ e) (wpAny_pure ?_))
    show wpAny _ _ (operate [i, .ref x] (getItem (.ref x) i) >>= _) _ _ _
    refine wpAny_bind (wpAny_operateT ?_)
    unfold getItem
    refine wpAny_holding (wpAny_bind ?_)
    have sk : ∀ {Q' : Value → Shared → Prop}, Q' i s → wpAny (model prog w) A (sequenceKey (.ref x) i "__getitem__") Q' E s := fun {Q'} q => by
      unfold sequenceKey
      refine wpAny_bind (I.type.here ?_)
      show wpAny _ _ ((do if !(← (["collections.deque"] : List String).anyM fun n => isSubtype (.ref Cc) (.type n)) then return i else _) : Sem Value) _ _ _
      simp only [List.anyM]
      refine wpAny_bind (wpAny_bind ((PySem.W.looks_subIn X hq).here ?_))
      exact wpAny_pure (wpAny_pure q)
    refine sk (wpAny_bind (PySem.W.special_fn X I hs (beq_iff_eq.mp hfn) (wpAny_mono h (fun v s' z => ?_) fun _ _ z => z)))
    refine wpAny_pure ?_
    show wpAny (model prog w) A (letTemporaryGo value (.ref x) v >>= fun _ => pure v) Q E s'
    exact wpAny_bind (wpAny_letTemporaryGo (wpAny_pure z))
  · cases hf
theorem je_ixS (ok : C.Ok) {k : Nat} {ms : Ms} (hm : DuOk C k "__getitem__" 2 ms) (hk : k + 1 ≤ C.k) (hf : ∀ c g, ms c = some g → ∀ fa, PySem.W.findIn C.S.K (.ref (C.S.cls c)) "__getitem__" = some (some (.ref fa)) → PySem.W.fnIn C.S.K fa = true)
    (hq : ∀ c g, ms c = some g → PySem.W.subIn C.S.K (.ref (C.S.cls c)) (.type "collections.deque") = some false)
    {a e1 e2 : Expr} {ra rb : ET} {p : Pos} (ja : JE C a ra) (jb : JE C (.Slice (some e1) (some e2) none p) rb) : JE C (.Subscript a (.Slice (some e1) (some e2) none p) pos) (eOp (opIxS ms) ra rb) := by
  refine ⟨fun pins s σ H Q I hw => Subscript_ (two ja jb (f := subscriptTail a (.Slice (some e1) (some e2) none p)) (fun pins s σ H G h x y vx vy u w Q I rp rx ry vu vw o => ?_) I hw)⟩
  unfold opIxS at o
  split at o
  · obtain ⟨a1, c1, dx, fs, rfl, ea, fa, q1, q2, q3⟩ := dunB_run (n := 1) ok hm (ok.blw (by omega : k ≤ C.k)) I rp rx (.cons ry .nil) (.cons vw .nil) rfl o
    unfold dunB at o
    split at o
    · rename_i c fs' ei
      split at o
      · rename_i g eg
        obtain ⟨a0, dx0, ws0, e0, ea0, _⟩ := insOf_rel rp rx ei
        cases e0
        rw [ea] at ea0
        cases ea0
        cases vu
        obtain ⟨ox, od, J⟩ := inst_of I ea
        have q1' := q1
        rw [← ok.K] at q1'
        have hfn := hf c g eg fa q1'
        have hqq := hq c g eg
        rw [ok.K] at hfn hqq
        exact sub_slice I.kIn J q1 hfn q2 hqq (q3 s I)
      · exact False.elim o
    · exact False.elim o
  · exact False.elim o
/-! ### isinstance -/
/-- isinstance of a slice object is told by the table, by its type's name -/
def gIsiS (nc : Nat) (tab : IsTab) (xs : List Nat) : List T → Hm → R T := fun ys h => match ys with
  | [.slc _ _, k] => (match asTg k with
    | some b => (match isLook tab (.ty "slice") b with
      | some r => .ok (.bl r) h
      | none => .bad)
    | none => .bad)
  | _ => gIsiX nc tab xs ys h
theorem ca_isiS (ok : C.Ok) {tab : IsTab} {xc : List Nat} (io : IsOk C.S tab) (xo : ∀ c ∈ xc, XcI C.S.K (C.S.cls c)) : CaT C (.builtin "isinstance") (gIsiS C.S.nc tab xc) := by
  intro pins s σ H G h xs vs us Q I rp rx vu o
  unfold gIsiS at o
  split at o
  · rename_i i j k
    split at o
    · rename_i b eb
      split at o
      · rename_i r er
        have kk := io.tab (.ty "slice") b r er
        rw [ok.K] at kk
        cases rx with
        | cons r1 rr =>
          cases rr with
          | cons r2 rr =>
            cases rr
            cases vu with
            | cons u1 uu =>
              cases uu with
              | cons u2 uu =>
                cases uu
                rename_i w
                have ew : w = b.val C.S := by
                  cases k with
                  | ty n => cases eb; cases r2; exact u2
                  | cl c => cases eb; cases r2; exact u2
                  | _ => cases eb
                subst ew
                cases r1 with
                | slc z q =>
                  cases u1
                  obtain ⟨t, u, ha⟩ := slc_at I.hok q
                  exact PySem.W.kia_one PySem.W.kitx_slice I.kIn ⟨_, ha, rfl⟩ kk (fun z => nomatch z) fun tk => ⟨.bl r, H, I.kept (t' := tk) fun _ _ z => z, rfl, out_ok o rp (.bl r)⟩
      · exact False.elim o
    · exact False.elim o
  · exact ca_isiX ok io xo pins s σ H G h xs vs us Q I rp rx vu o
/-! ### repr -/
theorem blw_tuple {A : Around} {args : Args} (bl : Blw C (j + 1) A) (hj : j < 100) {g : List Code} (hg : A.guards = some g) : Blw C j (A.under (.builtin "tuple.__repr__" args)) := by
  have e1 : (A.under (.builtin "tuple.__repr__" args)).handled = A.handled := by first | rfl | simp [Around.under]
  have e2 : (A.under (.builtin "tuple.__repr__" args)).depth ≤ A.depth + 1 := by
    first
      | exact Nat.le_refl _
      | simp [Around.under, Code.weight, Code.isCreation, Code.isGuard, Code.isCaller, Code.frames, Code.isFrame, guardIds]
  have e3 : (A.under (.builtin "tuple.__repr__" args)).units ≤ A.units + 1 := by
    first
      | exact Nat.le_refl _
      | simp [Around.under, Code.weight, Code.isCreation, Code.isGuard, Code.isCaller, Code.frames, Code.isFrame, guardIds]
  refine ⟨⟨⟨?_, ?_⟩, fun e => ?_⟩, ?_, .low hj⟩
  · have := bl.room.dp; omega
  · have := bl.room.un; omega
  · rw [e1]; exact bl.room.hd e
  · have e4 : (A.under (.builtin "tuple.__repr__" args)).frames = A.frames := by first | rfl | simp [Around.under, Code.frames]
    rw [e4]; exact bl.fr
def slcText (i j : Int) : Str := ("slice(" : Str) ++ (toString i : Str) ++ ", " ++ (toString j : Str) ++ ", " ++ ("None" : Str) ++ ")"
def gReprE (ms : Ms) : List T → Hm → R T := fun xs h => match xs with
  | [.emp] => .ok (.str "{}") h
  | [.slc i j] => if decide (i.natAbs.log2 < 1920) && (decide (j.natAbs.log2 < 1920) && decide ((slcText i j).length ≤ 1000)) then .ok (.str (slcText i j)) h else .bad
  | [.tup [.obj c fs]] => (match dunS ms (.obj c fs) h with
    | .ok (.str t) h1 => if (tupleText [t]).length ≤ sizeLine then .ok (.str (tupleText [t])) h1 else .bad
    | _ => .bad)
  | xs => gReprO ms xs h
theorem ca_reprE (ok : C.Ok) {ms : Ms} (hm : DuOk C j "__repr__" 1 ms) (hj : j < 100) (hk : j + 2 ≤ C.k) (hg : 100 ≤ C.k) : CaT C (.builtin "repr") (gReprE ms) := by
  intro pins s σ H G h xs vs us Q I rp rx vu o
  have hgd : C.X.A.in1.guards = some [] := ok.gd.none hg
  have hun : C.X.A.in1.units + 1 < cLine := by
    have e : C.X.A.in1.units ≤ C.X.A.units + 1 := Nat.le_refl _
    have := ok.room.un
    omega
  unfold gReprE at o
  split at o
  · obtain ⟨v, rfl, rv⟩ := rx.one
    obtain ⟨u, rfl, r1⟩ := vals1 vu
    cases rv with
    | emp z q =>
      rename_i a
      cases r1
      obtain ⟨_, hsys, vs, kv, ob, es, ep, h1, h2, h3, h4, h5, h6⟩ := (show ObjOk C.X.prog C.X.w H s.heap a (.dK []) from I.hok a _ q)
      have evs : vs = [] := by
        cases kv
        rfl
      subst evs
      have ees : es.toList = [] := by
        cases e : es.toList with
        | nil => rfl
        | cons a b => rw [e] at h5; cases h5
      refine call_repr_slot (by have := ok.room.un; omega) (⟨ob, h1, h2.1⟩ : s.TypeIs (.ref a) "dict") F.slot_dict_repr ?_
      refine call_dict_reprK (h₀ := s.heap) (as := []) (d := 0) (ps := []) h1 h2.1 h3 hsys (List.not_mem_nil) (by rw [ees]; exact .nil) hgd (fun b _ => Clear.nil b) hun (fun _ _ e => e) (fun h' u tk hk => ⟨_, _, rfl, .str _, H, I.kept (t' := tk) hk, ⟨_, rfl⟩, ?_⟩) (by decide)
      exact o (.str _) H G Step.refl rp (.str _)
  · split at o
    · rename_i i j hc
      obtain ⟨c1, c2⟩ := band hc
      obtain ⟨c2, c3⟩ := band c2
      have c3 := of_decide_eq_true c3
      obtain ⟨v, rfl, rv⟩ := rx.one
      obtain ⟨u, rfl, r1⟩ := vals1 vu
      cases rv with
      | slc z q =>
        rename_i a
        cases r1
        obtain ⟨t, u, ha⟩ := slc_at I.hok q
        have hTy : s.TypeIs (.ref a) "slice" := ⟨_, ha, rfl⟩
        have hz : (slcText i j).length ≤ sizeLine := by rw [sizeLine_eq]; omega
        have hl : 6 + ((toString i : Str).length + (2 + ((toString j : Str).length + (2 + 5)))) ≤ 1000 := by
          unfold slcText at c3
          rw [strLen_append, strLen_append, strLen_append, strLen_append, strLen_append, strLen_append] at c3
          have e1 : ((("slice(" : String) : Str)).length = 6 := rfl
          have e2 : (((", " : String) : Str)).length = 2 := rfl
          have e3 : ((("None" : String) : Str)).length = 4 := rfl
          have e4 : (((")" : String) : Str)).length = 1 := rfl
          rw [e1, e2, e3, e4] at c3
          omega
        have hsl : (1000 : Nat) ≤ sizeLine := by rw [sizeLine_eq]; omega
        refine call_repr_slot (by have := ok.room.un; omega) hTy F.slot_slice_repr ?_
        refine wpAny_call (codeAny_call_builtin_own (Code.quiet_builtin _ (by decide +kernel)) F.entry_slice_repr (F.slot_slice_repr.check _ _ _ _ _ _ _ _ hTy (F.args_slice_repr_1 _) ?_))
        show wpOwn _ _ _ (Builtin.sliceReprAt 0 ⟨[.ref a], []⟩) _ _ s
        refine wpOwn_of_wpAny ?_
        unfold Builtin.sliceReprAt Builtin.Slice.sliceFields
        refine wpAny_bind (wpAny_pure ?_)
        dsimp only
        refine wpAny_bind (wpAny_bind (wpAny_field ha rfl (x := .int i t) rfl (wpAny_bind (wpAny_field ha rfl (x := .int j u) rfl (wpAny_bind (wpAny_field ha rfl (x := .none) rfl (wpAny_pure ?_)))))))
        dsimp only
        refine wpAny_bind (ReprIs.int t (of_decide_eq_true c1) _ (by omega) _ _ _ _ fun tk1 => ?_)
        refine wpAny_bind (ReprIs.int u (of_decide_eq_true c2) _ (by omega) _ _ _ _ fun tk2 => ?_)
        refine wpAny_bind (ReprIs.none _ (by
          have e3 : ((("None" : String) : Str)).length = 4 := rfl
          rw [e3]
          omega) _ _ _ _ fun tk3 => ?_)
        refine wpAny_bind (wpAny_mkStr (wpAny_pure ?_) hz)
        exact ⟨_, _, rfl, .str _, H, I.kept (t' := _) (fun _ _ e => e), ⟨_, rfl⟩, o (.str _) H G Step.refl rp (.str _)⟩
    · exact False.elim o
  · rename_i c fs
    obtain ⟨v, rfl, rv⟩ := rx.one
    obtain ⟨u, rfl, r1⟩ := vals1 vu
    cases rv with
    | tup hz rs =>
      rename_i a ws
      cases r1
      cases e1 : dunS ms (.obj c fs) h with
      | bad => rw [e1] at o; exact False.elim o
      | exc x h1 => rw [e1] at o; exact False.elim o
      | ok t1 h1 =>
        rw [e1] at o
        cases t1 with
        | str t =>
          dsimp only at o
          split at o
          · rename_i hsz
            cases rs with
            | cons r1 rr =>
              cases rr
              rename_i vy
              obtain ⟨oo, its, n, ho, hc, hd, rvs⟩ : ∃ (oo : Obj) (its : Array Value) (n : Nat), s.heap.get? a = some oo ∧ oo.cls = .type "tuple" ∧ oo.data = .seq its n ∧ Vals [vy] its.toList := by
                have sq := hz.sq
                rw [ok.K] at sq
                rcases sq with sq | ⟨oo, its, n, q1, q2, q3, _, q4⟩
                · obtain ⟨_, its, rv, oo, q1, q2, n, q3⟩ := sq.ok I.hok
                  exact ⟨oo, its.toArray, n, q1, q2, q3, by simpa using rv⟩
                · exact ⟨oo, its, n, I.kIn a _ q1, q2, q3, q4⟩
              obtain ⟨u, hits, ru⟩ := vals1 rvs
              have hTy : s.TypeIs (.ref a) "tuple" := ⟨_, ho, hc⟩
              have bl : Blw C (j + 1) C.X.A.in1 := (ok.blw (n := j + 2) hk).in1
              have bl2 : Blw C j (C.X.A.in1.under (.builtin "tuple.__repr__" ⟨[.ref a], []⟩)) := blw_tuple bl hj hgd
              have ht1 : 1 + t.length ≤ sizeLine ∧ t.length ≤ sizeLine := by
                have z := piled_le_tupleText [t]
                rw [piled_cons] at z
                omega
              refine call_repr_slot (by have := ok.room.un; omega) hTy F.slot_tuple_repr ?_
              refine wpAny_call (codeAny_call_builtin_own (Code.quiet_builtin _ (by decide +kernel)) F.entry_tuple_repr (F.slot_tuple_repr.check _ _ _ _ _ _ _ _ hTy (F.args_tuple_repr_1 _) ?_))
              show wpOwn _ _ _ (Builtin.tupleReprAt 0 ⟨[.ref a], []⟩) _ _ s
              rw [tuple_repr_tree, tupleReprUnderWay_eq]
              refine wpOwn_bind (wpOwn_stackTailAny hgd (tupGuardF_off _) (tupGuardF_pos _) ?_)
              show wpOwn _ _ _ (tupleReprRest 0 (.ref a)) _ _ s
              refine wpOwn_of_wpAny ?_
              unfold tupleReprRest Builtin.Tuple.tupleItemsOf
              refine wpAny_bind (wpAny_bind (wpAny_seqItems ho hd (wpAny_pure ?_)))
              rw [← Array.forIn_toList, hits]
              rw [List.forIn_cons]
              have oo' : Out C σ H G (relE C) (dunS ms (.obj c fs) h) (fun v H' => v = .str t ∧ ∃ G', Step H G H' G' ∧ RepH C.S H' G' h1) := by
                rw [e1]
                intro v H' G' st rp' rv'
                cases rv'
                exact ⟨rfl, G', st, rp'⟩
              obtain ⟨b, cc, dx, fs', ev, eb, fa, q1, q2, q3⟩ := dunS_run ok hm bl2 I rp r1 oo'
              subst ev
              cases ru
              obtain ⟨ox, od, J⟩ := inst_of I eb
              refine wpAny_bind ?_
              unfold tupBody
              refine wpAny_bind (wpAny_bind (wpAny_pyReprUnder_ref (by show 0 + 1 ≤ sizeLine; omega) (wpAny_mono (reprUnder_own bl2.room.units0 I.kIn J q1 q2 (q3 s I)) (fun v s2 hv => ?_) fun _ _ z => z)))
              obtain ⟨t', u', rfl, v', H2, I2, rr, rfl, G2, st2, rp2⟩ := hv
              obtain ⟨tk0, e0⟩ := _root_.id rr
              cases e0
              refine ⟨_, _, rfl, wpAny_pure ?_⟩
              dsimp only
              rw [List.forIn_nil]
              refine wpAny_pure ?_
              have hone : its.size = 1 := by
                have z : its.toList.length = 1 := by rw [hits]; rfl
                simpa using z
              have etx : Str.ofString "(" ++ (Str.ofString ", ").join (((#[] : Array Str).push t).toList) ++ Str.ofString (if (its.size == 1) = true then ",)" else ")") = tupleText [t] := by
                rw [hone]
                rfl
              show wpAny _ _ (retStr (Str.ofString "(" ++ (Str.ofString ", ").join (((#[] : Array Str).push t).toList) ++ Str.ofString (if (its.size == 1) = true then ",)" else ")"))) _ _ _
              rw [etx]
              refine wpAny_bind (wpAny_mkStr (wpAny_pure ?_) hsz)
              exact ⟨_, _, rfl, .str _, H2, I2.tok _, ⟨_, rfl⟩, o (.str _) H2 G2 st2 rp2 (.str _)⟩
          · exact False.elim o
        | _ => exact False.elim o
  · exact ca_reprO ok hm hj hk hg pins s σ H G h xs vs us Q I rp rx vu o
end
end RT
set_option Elab.async false
set_option linter.all false
set_option maxRecDepth 100000
set_option maxHeartbeats 4000000
/-! RT, part Uk: raise, try, lambdas, slices by contexts' facts. -/
namespace RT
open PySem PySem.Spec L2
open PyProof.Rows hiding St
section
variable {C : RC} {P : Program} {w : World} {S : Sta} {mg : Str → Option Value} {base : Heap} {N : List Str} {sc : Scope} {k j : Nat} {pos : Pos}
theorem IsOk.md {tab : IsTab} {m : Option (Addr × Obj)} {l : Option Lam} (h : IsOk S tab) : IsOk (S.md m l) tab := ⟨fun a b r e => by
  have q := h.tab a b r e
  have v : ∀ t : Tg, t.val (S.md m l) = t.val S := fun t => by cases t <;> rfl
  rw [v, v]
  exact q, h.cls⟩
theorem Cf.tryR (cf : Cf C P w S mg base N sc k) (hm : S.mo = none) {W : WX} {pn : List (Addr × Obj)} {xe : Value → Shared → Prop} (tk : Takes (C.X.tr pn xe) W) : Cf (tryR C W pn xe) P w S mg base N sc k :=
  ⟨cf.ok.tryR (cf.cold hm) tk, cf.prog, cf.w, cf.S, cf.mg, cf.base, cf.N, cf.sc, cf.k⟩
theorem Cf.suiteR {l : Option Lam} (cf : Cf C P w (S.md none l) mg base N sc k) (a : Addr) (oe : Obj) (pn : List (Addr × Obj)) : Cf (suiteR C a oe pn) P w (S.md (some (a, oe)) l) mg base N sc k :=
  ⟨cf.ok.suiteR a oe pn, cf.prog, cf.w, by show C.S.md (some (a, oe)) C.S.lam = _; rw [cf.S]; rfl, cf.mg, cf.base, cf.N, cf.sc, cf.k⟩
theorem exm_ok {K : PySem.W.Frag} {cn : List Str} {cs : List Nat} {xs : List Str} (h : ckExm cn cs xs K = true) : ∀ c ∈ cs, PySem.W.exmAny K (.ref ((cn.map (He.ga K)).getD c 0)) (xs.map fun x => Value.ref (He.ga K x)) = some true := fun c hc => of_decide_eq_true (List.all_eq_true.mp h c hc)
theorem tryAs_ {l : Option Lam} (cf : Cf C P w (S.md none l) mg base N sc k) (hst : C.X.stack = C.X.env :: C.X.outer) (hfr : C.X.env.frame = some C.X.env.locals) {n : Str} (i : Nat) {t : Expr} {vcs : List Value} {body suite : List Stmt} {b₀ : Stmt} {pos' : Pos} {rb rs : SM} (ht : ExT C.X t vcs)
    {cs : List Nat} (hcs : ∀ c ∈ cs, PySem.W.exmAny S.K (.ref (S.cls c)) vcs = some true)
    (jb : ∀ (W : WX) (pn : List (Addr × Obj)) (xe : Value → Shared → Prop), Takes (C.X.tr pn xe) W → Cf (RT.tryR C W pn xe) P w (S.md none l) mg base N sc k → JSs (RT.tryR C W pn xe) body rb)
    (js : ∀ (a : Addr) (oe : Obj) (pn : List (Addr × Obj)), Cf (RT.suiteR C a oe pn) P w (S.md (some (a, oe)) l) mg base N sc k → JSs (RT.suiteR C a oe pn) (b₀ :: suite) rs)
    (hN : N[i]? = some n := by rfl) (hl : loB sc n = true := by rfl) : JS C (.Try body [.ExceptHandler (some t) (some n) (b₀ :: suite) pos'] [] [] pos) (sTryAs cs i rb rs) :=
  js_tryAs cf.ok (cf.cold rfl) hst hfr (cf.at_ hN) (cf.lo hl) ht (fun c hc => by rw [cf.K, cf.S]; exact hcs c hc) (fun W pn xe tk _ => jb W pn xe tk (cf.tryR rfl tk)) (fun a oe pn => js a oe pn (cf.suiteR a oe pn))
theorem xrs_ok {K : PySem.W.Frag} {x : Str} (h : ckXrs x K = true) : PySem.W.subIn K (.ref (He.ga K x)) (.type "BaseException") = some true ∧ PySem.W.typeIn K (.ref (He.ga K x)) = some (.type "type") := let ⟨a, b⟩ := band h; ⟨of_decide_eq_true a, of_decide_eq_true b⟩
theorem raise_ (cf : Cf C P w S mg base N sc k) (hex : C.X.ex = []) (h0 : HOk C.X.prog C.X.w C.X.H_0 C.X.s_0.heap) {d : He.DefD} {ps : List Str} {g : List T → Hm → R T} {n : Nat} {src : List (Nat × Nat)} {ds : List T} (F : FnX P w S mg base j d ps g) (c : Nat) (B : Bnd d ps (n + 1) [] src ds) (M : MkE S.K (S.cls c) (He.fAd S.K d.at_))
    (R : PySem.W.subIn S.K (.ref (S.cls c)) (.type "BaseException") = some true ∧ PySem.W.typeIn S.K (.ref (S.cls c)) = some (.type "type")) {x : Str} {p cpos : Pos} {e : Expr} {es : List Expr} {ra : AT} (hg : mg x = some (.ref (S.cls c))) (ja : JA C (e :: es) ra) (hj : j + 1 ≤ k) (hgl : glB sc x = true := by rfl) (hm0 : S.mo = none := by rfl)
    (hn : n ≤ 1000 := by decide) (hdb : (x == ("__debug__" : Str)) = false := by decide) (he : starEach (e :: es) C.X.env = (false, eval e C.X.env) :: starEach es C.X.env := by rfl) (hpl : (backTo cpos (starEach es C.X.env)).any (·.1) = false := by rfl) :
    JS C (.Raise (some (.Call (.Name x p) (e :: es) [] cpos)) none pos) (sRaiseX c n (fun xs zs h => g (arrS src ds xs zs) h) ra) := by
  obtain ⟨fd, kp, BT, FG⟩ := F.bnd B
  have e1 := cf.prog
  have e2 := cf.w
  have e3 := cf.S
  have e4 := cf.mg
  have e5 := cf.base
  have kK := cf.ok.K
  subst e1 e2 e3 e4 e5
  exact js_raiseX cf.ok hm0 hex h0 M (raises_own (by rw [← kK]; exact R.1) (by rw [← kK]; exact R.2)) (FG.toC BT) (by rw [cf.k]; exact hj) (cf.gl hgl) hg ja hn hdb he hpl
theorem reprE_ (cf : Cf C P w S mg base N sc k) {ms : Ms} (hm : DuOk C j "__repr__" 1 ms) (hj : j < 100) (hk : j + 2 ≤ k) (hg : 100 ≤ k) : CaT C (.builtin "repr") (gReprE ms) := ca_reprE cf.ok hm hj (by rw [cf.k]; exact hk) (by rw [cf.k]; exact hg)
theorem isiS_ (cf : Cf C P w S mg base N sc k) {tab : IsTab} {xc : List Nat} (io : IsOk S tab) (xo : ∀ c ∈ xc, XcI S.K (S.cls c)) : CaT C (.builtin "isinstance") (gIsiS S.nc tab xc) := by
  have q := ca_isiS cf.ok (tab := tab) (xc := xc) (by rw [cf.S]; exact io) (by rw [cf.S]; exact xo)
  rw [cf.S] at q
  exact q
theorem ixS_ (cf : Cf C P w S mg base N sc k) {ms : Ms} (hm : DuOk C j "__getitem__" 2 ms) (hk : j + 1 ≤ k) (hf : ∀ c g, ms c = some g → ∀ fa, PySem.W.findIn S.K (.ref (S.cls c)) "__getitem__" = some (some (.ref fa)) → PySem.W.fnIn S.K fa = true)
    (hq : ∀ c g, ms c = some g → PySem.W.subIn S.K (.ref (S.cls c)) (.type "collections.deque") = some false) {a e1 e2 : Expr} {ra rb : ET} {p : Pos} (ja : JE C a ra) (jb : JE C (.Slice (some e1) (some e2) none p) rb) : JE C (.Subscript a (.Slice (some e1) (some e2) none p) pos) (eOp (opIxS ms) ra rb) :=
  je_ixS cf.ok hm (by rw [cf.k]; exact hk) (by rw [cf.S]; exact hf) (by rw [cf.S]; exact hq) ja jb
/-! ### lambdas -/
def tabL (K : PySem.W.Frag) (tf : List (He.Defn × Str)) : List (Addr × Str) := tf.map fun p => ((He.cT K p.1).2, p.2)
theorem tab_mem {K : PySem.W.Frag} {tf : List (He.Defn × Str)} {i : Nat} {p : He.Defn × Str} (h : tf[i]? = some p) : ((He.cT K p.1).2, p.2) ∈ tabL K tf := List.mem_map.mpr ⟨p, List.mem_of_getElem? h, rfl⟩
theorem tab_uniq {K : PySem.W.Frag} {tf : List (He.Defn × Str)} (hn : ckTab tf K = true) {i : Nat} {p : He.Defn × Str} (h : tf[i]? = some p) : ∀ q ∈ tabL K tf, q.1 = (He.cT K p.1).2 → q.2 = p.2 := by
  intro q hq e
  obtain ⟨p', hp', rfl⟩ := List.mem_map.mp hq
  obtain ⟨i', hi', e'⟩ := List.mem_iff_getElem.mp hp'
  have nd : (tf.map fun p => (He.cT K p.1).2).Nodup := of_decide_eq_true hn
  have a1 : (tf.map fun p => (He.cT K p.1).2)[i]? = some (He.cT K p.1).2 := by rw [List.getElem?_map, h]; rfl
  have a2 : (tf.map fun p => (He.cT K p.1).2)[i']? = some (He.cT K p.1).2 := by
    rw [List.getElem?_map, List.getElem?_eq_getElem hi', e']
    show some (He.cT K p'.1).2 = _
    rw [← e]
  have ii := nodup_at nd a1 a2
  subst ii
  rw [List.getElem?_eq_getElem hi', e'] at h
  cases h
  rfl
theorem lamcall_ (cf : Cf C P w S mg base N sc k) {d : He.DefD} (hq : C.X.env.qual = d.qual ++ ".<locals>.") (hcd : C.X.env.code = .ref (cdA S.K (He.fAd S.K d.at_))) {tf : List (He.Defn × Str)} (hT : S.T = tabL S.K tf) (hnd : ckTab tf S.K = true) (t : Nat) (TB : ∀ p ∈ tf, LamX.TabB base mg (He.cT S.K p.1).1 (He.cT S.K p.1).2)
    {dg : He.DefD} {a : Str} {Ng : List Str} {params : Arguments} {body : Expr} {scope : Scope} {p lpos : Pos} {r : ET} {bm : SM} (is : List Nat) {kl : Nat} (hg : mg dg.name = some (.ref (He.fAd S.K dg.at_))) (F : ∃ fd, FunD S.K dg.name dg.qual dg.params dg.body dg.scope (dg.dvs S.K) (dg.kws S.K) (He.fAd S.K dg.at_) fd)
    (Sg : FnScope Ng [a] dg.scope) (hk : kl + 2 ≤ k)
    (jl : ∀ (C' : RC), Cf C' P w S mg base N scope kl → JE C' body r)
    (jg : ∀ (Cg : RC) (l : Option Lam), Cf Cg P w (S.md none l) mg base Ng dg.scope (kl + 1) → Cg.X.stack = Cg.X.env :: Cg.X.outer → Cg.X.env.frame = some Cg.X.env.locals →
      (∀ (W : WX) (pn : List (Addr × Obj)) (xe : Value → Shared → Prop) (p1 p2 : Pos), Takes (Cg.X.tr pn xe) W → JE (RT.tryR Cg W pn xe) (.Call (.Name a p1) [] [] p2) (eAct 0 N.length r)) → JSs Cg dg.body bm)
    (ht : tf[t]? = some (d.at_, d.qual ++ ".<locals>." ++ "<lambda>") := by rfl) (hqn : dg.qual = dg.name := by rfl) (hdv : dg.dfl = [] := by rfl)
    (hba : ∀ (kV doc pm : Value) (an : Option Addr) (cdv ct : Value) (us : List Value), us.length = [a].length → bindArgs (PySem.W.fnOf dg.name dg.qual dg.params dg.body dg.scope .none kV doc pm an cdv ct) ⟨us, []⟩ = pure ([a].zip us) := by intro _ _ _ _ _ _ us hl; match us, hl with | [_], _ => rfl)
    (hNg : Ng[0]? = some a := by rfl) (hva : visB dg.scope a = true := by rfl) (hgl : glB sc dg.name = true := by rfl) (hmo : S.mo = none := by rfl) (hlm : S.lam = none := by rfl) (L : LamX.lamSB sc scope = true := by rfl) (hdef : ∀ env : Env, defaultsOf params env = ([], []) := by intro _; rfl)
    (hbind : ∀ (q : Str) (cl : List (Str × Addr)) (pm cv ctv : Value), bindArgs (PySem.W.kla_fn "<lambda>" q params body scope cl pm cv ctv) ⟨[], []⟩ = pure [] := by intro _ _ _ _ _; rfl)
    (hdb : (dg.name == ("__debug__" : Str)) = false := by decide) (hd : (a == ("__debug__" : Str)) = false := by decide) (hc : (a == ("__classdict__" : Str)) = false := by decide) :
    JE C (.Call (.Name dg.name p) [.Lambda params body scope lpos] [] pos) (eLamCall is (run Ng.length bm)) := by
  obtain ⟨fd, F⟩ := F
  have hd0 : dg.dvs S.K = [] := by unfold He.DefD.dvs; rw [hdv]; rfl
  rw [hd0] at F
  rw [hqn] at F hba
  have e1 := cf.prog
  have e2 := cf.w
  have e3 := cf.S
  have e4 := cf.mg
  have e5 := cf.base
  have e6 := cf.N
  have e7 := cf.sc
  have e8 := cf.k
  subst e1 e2 e3 e4 e5 e6 e7 e8
  have hp := List.mem_of_getElem? ht
  have tb := TB _ hp
  refine je_lamcall cf.ok hmo hlm (x := dg.name) (a := a) (k := kl) (is := is) (cf.gl hgl) hg F hba Sg hNg (visB_ok hva) (c := cdA C.S.K (He.fAd C.S.K d.at_)) (P := (He.cT C.S.K d.at_).2) tb hcd ?_ ?_ hk (LamX.lamS_by L) (hdef _) hbind (fun C' ok e1 e2 e3 e4 e5 e6 e7 e8 => jl C' ⟨ok, e1, e2, e3, e4, e5, e6, e7, e8⟩) (fun Cg l ok e1 e2 e3 e4 e5 e6 e7 e8 h1 h2 ha => jg Cg l ⟨ok, e1, e2, e3, e4, e5, e6, e7, e8⟩ h1 h2 ha) hdb hd hc
  · rw [hq, hT]
    exact tab_mem ht
  · rw [hq, hT]
    exact tab_uniq hnd ht
end
end RT
set_option Elab.async false
set_option linter.all false
set_option maxRecDepth 100000
set_option maxHeartbeats 4000000
/-! RT, part Ul: t[::-1] of a tuple (after HT.getItem_tuple_cut). -/
namespace RT
open PySem PySem.Spec L2 HT
open PyProof.Rows hiding St
theorem fm_congr {A B : Type} {f g : A → Option B} : ∀ {l : List A}, (∀ k ∈ l, f k = g k) → l.filterMap f = l.filterMap g
  | [], _ => rfl
  | a :: l, h => by rw [List.filterMap_cons, List.filterMap_cons, h a (by simp), fm_congr fun k hk => h k (by simp [hk])]
section
variable {prog : Program} {w : World} {A : Around} {E : Value → Shared → Prop} {s : Shared}
theorem rev_adj (n : Nat) : Builtin.Slice.sliceAdjust none none (-1) (n : Int) = ((n : Int) - 1, -1) := by
  unfold Builtin.Slice.sliceAdjust
  have h1 : ((-1 : Int) < 0) := by omega
  simp only [h1, if_true]
theorem rev_places (n : Nat) : Builtin.Slice.slicePlaces ((n : Int) - 1) (-1) (-1) = n := by
  unfold Builtin.Slice.slicePlaces
  have h1 : ¬ (-1 : Int) > 0 := by omega
  simp only [h1, if_false]
  have e : (- (-1 : Int)) = 1 := by decide
  rw [e, Int.ediv_one]
  split <;> omega
theorem rev_pick (xs : Array Value) : ((List.range xs.size).filterMap fun (k : Nat) => xs[(((xs.size : Int) - 1) + (k : Int) * (-1)).toNat]?) = xs.toList.reverse := by
  have e1 : ∀ k ∈ List.range xs.size, xs[(((xs.size : Int) - 1) + (k : Int) * (-1)).toNat]? = xs.toList.reverse[k]? := fun k hk => by
    have hk := List.mem_range.mp hk
    rw [List.getElem?_reverse (by simpa using hk), Array.getElem?_toList]
    congr 1
    simp
    omega
  rw [fm_congr e1]
  have : ∀ ys : List Value, (List.range ys.length).filterMap (fun k => ys[k]?) = ys := fun ys => by
    induction ys with
    | nil => rfl
    | cons y ys ih =>
      rw [List.length_cons, List.range_succ_eq_map, List.filterMap_cons]
      simp only [List.getElem?_cons_zero, List.filterMap_map]
      congr 1
  have q := this xs.toList.reverse
  rw [List.length_reverse, Array.length_toList] at q
  exact q
theorem getItem_tuple_rev {t sl : Addr} {items : Array Value} {vl vu vs : Value} {Q : Value → Shared → Prop} (ht : IsTup s.heap t items) (hs : s.heap.IsSliceOf sl vl vu vs) (pl : IsPart vl none) (pu : IsPart vu none) (ps : IsPart vs (some (-1)))
    (h : Q (.ref s.heap.objs.size) { s with heap := s.heap.push { cls := .type "tuple", data := .seq items.toList.reverse.toArray } }) (hsz : items.size ≤ sizeLine) : wpAny (model prog w) A (getItem (.ref t) (.ref sl)) Q E s := by
  have htake : sizeOk (.seq items.toList.reverse.toArray) := by
    show items.toList.reverse.toArray.size ≤ sizeLine
    rw [List.size_toArray, List.length_reverse, Array.length_toList]
    exact hsz
  obtain ⟨os, hos, hcs, hds⟩ := id hs
  have hTs : s.TypeIs (.ref sl) "slice" := ⟨os, hos, hcs⟩
  unfold getItem
  try with_reducible refine wpAny_holding ?_
  first | refine wpAny_bind (wpAny_pure ?_) | skip
  refine wpAny_bind (wpAny_sequenceKey ht.typeIs (by decide) ?_)
  refine wpAny_bind (wpAny_callSpecial?_slot (name := Str.ofString "__getitem__") ht.typeIs PyProof.Rows.slot_tuple_getitem
    (wpAny_call_entry PyProof.Rows.slot_tuple_getitem ht.typeIs entry_tuple_getitem ?_ (args_tuple_getitem _ _)))
  show wpAny _ _ (Builtin.Tuple.tupleItemsOf (.ref t) >>= _) _ _ s
  refine wpAny_bind (tupleItemsOf_ ht ?_)
  refine wpAny_bind (wpAny_typeOf hTs ?_)
  rw [if_pos (by decide)]
  have sa : ∀ {Q' : Int × Int × Nat → Shared → Prop}, Q' ((items.size : Int) - 1, -1, items.size) s → wpAny (model prog w) A.in1 (Builtin.Slice.sliceApplied (.ref sl) (pure (items.size : Int))) Q' E s := fun {Q'} q => by
    unfold Builtin.Slice.sliceApplied Builtin.Slice.sliceFields
    refine wpAny_bind (wpAny_bind (wpAny_field hos hds (x := vl) rfl (wpAny_bind (wpAny_field hos hds (x := vu) rfl (wpAny_bind (wpAny_field hos hds (x := vs) rfl (wpAny_pure ?_)))))))
    refine wpAny_bind (slicePart_ ps ?_)
    show wpAny _ _ (if ((-1 : Int) == 0) = true then _ else _) _ _ s
    rw [if_neg (by decide)]
    refine wpAny_bind (slicePart_ pl (wpAny_bind (slicePart_ pu (wpAny_bind (wpAny_pure ?_)))))
    show wpAny _ _ (match Builtin.Slice.sliceAdjust none none (-1) (items.size : Int) with | (lo, hi) => pure (lo, (-1 : Int), Builtin.Slice.slicePlaces lo hi (-1))) _ _ s
    rw [rev_adj items.size]
    show wpAny _ _ (pure ((items.size : Int) - 1, (-1 : Int), Builtin.Slice.slicePlaces ((items.size : Int) - 1) (-1) (-1))) _ _ s
    rw [rev_places]
    exact wpAny_pure q
  refine wpAny_bind (sa ?_)
  have hno : ¬ ((((items.size : Int) - 1) == 0 && (-1 : Int) == 1 && items.size == items.size) = true) := by
    intro q
    rw [Bool.and_eq_true, Bool.and_eq_true] at q
    have q1 : (-1 : Int) = 1 := eq_of_beq q.1.2
    omega
  show wpAny _ _ (if (((items.size : Int) - 1) == 0 && (-1 : Int) == 1 && items.size == items.size) = true then _ else _) _ _ s
  rw [if_neg hno, rev_pick]
  first
    | exact wpAny_bind (m := Builtin.Tuple.tupleExact _) (wpAny_newObj_type (wpAny_pure ⟨_, rfl, wpAny_pure h⟩) htake)
    | exact wpAny_bind (m := Builtin.Tuple.tupleExact _) (wpAny_newObj_type (wpAny_bind (wpAny_pure (wpAny_pure ⟨_, rfl, wpAny_pure h⟩))) htake)
    | exact wpAny_bind (wpAny_bind (m := Builtin.Tuple.tupleExact _) (wpAny_newObj_type (wpAny_pure (wpAny_pure ⟨_, rfl, wpAny_pure h⟩)) htake))
    | exact wpAny_bind (wpAny_bind (m := Builtin.Tuple.tupleExact _) (wpAny_newObj_type (wpAny_pure ⟨_, rfl, wpAny_pure h⟩) htake))
end
section
variable {C : RC} {e : Expr} {pos : Pos}
/-- t[::-1], t a tuple -/
def eRevT (r : ET) : ET := fun st h => (r st h).bind fun x h1 => match x with
  | .tup xs => .ok (.tup xs.reverse) h1
  | _ => .bad
@[simp] theorem eRevT_ (r : ET) (st : StT) (h : Hm) : eRevT r st h = (r st h).bind fun x h1 => match x with
  | .tup xs => .ok (.tup xs.reverse) h1
  | _ => .bad := rfl
theorem je_revT (ok : C.Ok) {r : ET} {kk : Nat} {p1 p2 p3 : Pos} (j : JE C e r) : JE C (.Subscript e (.Slice none none (some (.UnaryOp .USub (.Constant (.int 1) kk p1) p2)) p3) pos) (eRevT r) := by
  refine ⟨fun pins s σ H Q I hw => ?_⟩
  obtain ⟨st, G, h, rp, rs, o⟩ := hw
  refine Subscript_ (thn (j.run I rp rs (Out.bind (Rel := relE C) o)) fun v s1 ⟨x, H1, I1, r1, t, G1, h1, st1, rp1, rt, o1⟩ => ?_)
  dsimp only at o1
  split at o1
  · rename_i xs
    cases rt with
    | @tup _ a vs hz rs1 =>
      cases r1
      have hst : PO C.X (some (.UnaryOp .USub (.Constant (.int 1) kk p1) p2)) (tPart (tUn (rU fun i => .int (-i)) (tC (.int 1)))) := po_some (pe_un un_neg pe_int)
      refine wpAny_Slice (thn (po_none.run pins s1 σ H1 (fun o H2 => o = none ∧ H2 = H1) I1 ⟨rfl, rfl⟩) fun vl s2 ⟨l, H2, I2, pl, el, e2⟩ => ?_)
      subst el e2
      refine thn (po_none.run pins s2 σ H2 (fun o H3 => o = none ∧ H3 = H2) I2 ⟨rfl, rfl⟩) fun vu s3 ⟨u, H3, I3, pu, eu, e3⟩ => ?_
      subst eu e3
      refine thn (hst.run pins s3 σ H3 (fun o H4 => o = some (-1) ∧ H4 = H3) I3 ⟨1, rfl, -1, rfl, rfl, rfl⟩) fun vss s4 ⟨o, H4, I4, ps, eo, e4⟩ => ?_
      subst eo e4
      have I5 : L2.Inv C.X pins σ H4 { s4 with heap := s4.heap.push { cls := .type "slice", data := .fields #[vl, vu, vss] } } := I4.kept (t' := s4.toks) fun b ob q => Heap.get?_push_of_some _ q
      have sq := hz.sq
      rw [ok.K] at sq
      obtain ⟨its, r, ht, hzz⟩ := I5.tuple sq
      show wpAny (model C.X.prog C.X.w) C.X.A (subscriptTail e (.Slice none none (some (.UnaryOp .USub (.Constant (.int 1) kk p1) p2)) p3) (.ref a) (.ref s4.heap.objs.size)) (EP C.X pins σ Q) C.X.xe { s4 with heap := s4.heap.push { cls := .type "slice", data := .fields #[vl, vu, vss] } }
      refine tail_any (ops := [.ref a, .ref s4.heap.objs.size]) ht.typeIs (PyProof.Rows.slot_tuple_getitem.lookup) ?_ (by with_unfolding_all rfl)
      refine getItem_tuple_rev ht (Heap.IsSliceOf.new _ vl vu vss) pl pu ps ?_ (by rw [List.size_toArray, ← r.length]; exact hzz)
      obtain ⟨st2, rp2⟩ := rp1.newF (o := .tup vs.reverse) (I5.hok.fresh (Nat.le_refl _))
      refine ⟨.ref _, _, I5.laid (t' := s4.toks) (o := .tup vs.reverse) (fun b ob q => Heap.get?_push_of_some _ q) (Nat.le_refl _) ?_, rfl, o1 _ _ _ st2 rp2 (.tup (.inl ⟨.inl rfl, .inl upd_same⟩) (rs1.rev.step st2))⟩
      exact ⟨by rw [List.length_reverse]; exact hzz, _, r.reverse, IsTup.new _ _⟩
  · exact False.elim o1
end
end RT
set_option Elab.async false
set_option linter.all false
set_option maxRecDepth 100000
set_option maxHeartbeats 0
/-! printed by gen.py: the mirror of the law and of what it reaches, its derivation, its facts -/
namespace K07
open PySem PySem.Spec L2 RT
open PyProof.Rows hiding St
structure Fx (K : PySem.W.Frag) (mg : Str → Option Value) (h : Heap) : Prop where
  X : K.In h
  G : h.Ns mainGlobals mg
  q : SaysR CHK DEFS K
  tb : ∀ p ∈ TF, LamX.TabB h mg (He.cT K p.1).1 (He.cT K p.1).2
section
variable {K : PySem.W.Frag} {mg : Str → Option Value} {base : Heap} {w : World}
theorem at_q (q : SaysR CHK DEFS K) (i : Nat) {f : Chk} (h : FAS[i]? = some f := by rfl) : f K = true := List.all_eq_true.mp q.chk f (List.mem_of_getElem? h)
theorem Fx.at_ (fx : Fx K mg base) (i : Nat) {f : Chk} (h : FAS[i]? = some f := by rfl) : f K = true := at_q fx.q i h
theorem fl_nd : FL.Nodup := by decide +kernel
abbrev S0q (q : SaysR CHK DEFS K) : Sta := { mkStaX K CN XN FL [] fl_nd (nd_ok (at_q q 108)) with T := tabL K TF }
abbrev S0 (fx : Fx K mg base) : Sta := S0q fx.q
abbrev SS (fx : Fx K mg base) : Sta := (S0 fx).md none none
theorem fx_cls (fx : Fx K mg base) : ∀ c, c < CN.length → ClsI K (((CN ++ XN).map (He.ga K)).getD c 0)
  | 0, _ => cls_ok (x := "Progression") (fx.at_ 0)
  | _ + 1, h => absurd h (by show ¬ (_ + 1 < 1); omega)
theorem fx_is (fx : Fx K mg base) {m : Option (Addr × Obj)} {l : Option Lam} : IsOk ((S0 fx).md m l) TAB := by
  have q : IsOk (mkStaX K CN XN FL [] fl_nd (nd_ok (fx.at_ 108))) TAB := is_okX (fx.at_ 107) (fx_cls fx)
  have q2 : IsOk (S0 fx) TAB := ⟨fun a b r e => by
    have z := q.tab a b r e
    have v : ∀ t : Tg, t.val (S0 fx) = t.val (mkStaX K CN XN FL [] fl_nd (nd_ok (fx.at_ 108))) := fun t => by cases t <;> rfl
    rw [v, v]
    exact z, q.cls⟩
  exact q2.md
theorem fx_xi (fx : Fx K mg base) : ∀ c ∈ XC, XcI (SS fx).K ((SS fx).cls c) := by
  intro c hc
  have hc : c ∈ [1, 2, 3, 4, 5, 6, 7, 8, 9, 10, 11, 12, 13, 14, 15, 16, 17, 18, 19, 20, 21, 22, 23, 24, 25, 26, 27] := hc
  simp only [List.mem_cons, List.not_mem_nil, or_false] at hc
  obtain rfl | rfl | rfl | rfl | rfl | rfl | rfl | rfl | rfl | rfl | rfl | rfl | rfl | rfl | rfl | rfl | rfl | rfl | rfl | rfl | rfl | rfl | rfl | rfl | rfl | rfl | rfl := hc
  · exact xi_ok (x := "InvalidNumber") (fx.at_ 56)
  · exact xi_ok (x := "InvalidStep") (fx.at_ 59)
  · exact xi_ok (x := "InvalidProgression") (fx.at_ 62)
  · exact xi_ok (x := "InvalidProgressions") (fx.at_ 66)
  · exact xi_ok (x := "InvalidName") (fx.at_ 109)
  · exact xi_ok (x := "InvalidArity") (fx.at_ 110)
  · exact xi_ok (x := "InvalidTargets") (fx.at_ 68)
  · exact xi_ok (x := "InvalidText") (fx.at_ 111)
  · exact xi_ok (x := "InvalidTree") (fx.at_ 64)
  · exact xi_ok (x := "InvalidTable") (fx.at_ 70)
  · exact xi_ok (x := "InvalidSetting") (fx.at_ 72)
  · exact xi_ok (x := "InvalidSightings") (fx.at_ 74)
  · exact xi_ok (x := "InvalidDeed") (fx.at_ 112)
  · exact xi_ok (x := "InvalidDeeds") (fx.at_ 76)
  · exact xi_ok (x := "UnknownName") (fx.at_ 113)
  · exact xi_ok (x := "NameTaken") (fx.at_ 114)
  · exact xi_ok (x := "NotFull") (fx.at_ 57)
  · exact xi_ok (x := "Unexplained") (fx.at_ 115)
  · exact xi_ok (x := "LastServer") (fx.at_ 116)
  · exact xi_ok (x := "NothingToUndo") (fx.at_ 117)
  · exact xi_ok (x := "TooManyNames") (fx.at_ 118)
  · exact xi_ok (x := "TooDeep") (fx.at_ 119)
  · exact xi_ok (x := "TooLong") (fx.at_ 60)
  · exact xi_ok (x := "TooManyRequests") (fx.at_ 120)
  · exact xi_ok (x := "RobinError") (fx.at_ 121)
  · exact xi_ok (x := "SearchError") (fx.at_ 122)
  · exact xi_ok (x := "SizeError") (fx.at_ 123)
theorem fx_xfld_number (fx : Fx K mg base) : ∀ c ∈ [1, 17], XcI (SS fx).K ((SS fx).cls c) ∧ PySem.W.findIn (SS fx).K (.ref ((SS fx).cls c)) "number" = some none := by
  intro c hc
  simp only [List.mem_cons, List.not_mem_nil, or_false] at hc
  obtain rfl | rfl := hc
  · exact ⟨xi_ok (x := "InvalidNumber") (fx.at_ 56), xno_ok (x := "InvalidNumber") (f := "number") (fx.at_ 9)⟩
  · exact ⟨xi_ok (x := "NotFull") (fx.at_ 57), xno_ok (x := "NotFull") (f := "number") (fx.at_ 58)⟩
theorem fx_xfld_step (fx : Fx K mg base) : ∀ c ∈ [2, 23], XcI (SS fx).K ((SS fx).cls c) ∧ PySem.W.findIn (SS fx).K (.ref ((SS fx).cls c)) "step" = some none := by
  intro c hc
  simp only [List.mem_cons, List.not_mem_nil, or_false] at hc
  obtain rfl | rfl := hc
  · exact ⟨xi_ok (x := "InvalidStep") (fx.at_ 59), xno_ok (x := "InvalidStep") (f := "step") (fx.at_ 15)⟩
  · exact ⟨xi_ok (x := "TooLong") (fx.at_ 60), xno_ok (x := "TooLong") (f := "step") (fx.at_ 61)⟩
theorem fx_xfld_value (fx : Fx K mg base) : ∀ c ∈ [3, 9], XcI (SS fx).K ((SS fx).cls c) ∧ PySem.W.findIn (SS fx).K (.ref ((SS fx).cls c)) "value" = some none := by
  intro c hc
  simp only [List.mem_cons, List.not_mem_nil, or_false] at hc
  obtain rfl | rfl := hc
  · exact ⟨xi_ok (x := "InvalidProgression") (fx.at_ 62), xno_ok (x := "InvalidProgression") (f := "value") (fx.at_ 63)⟩
  · exact ⟨xi_ok (x := "InvalidTree") (fx.at_ 64), xno_ok (x := "InvalidTree") (f := "value") (fx.at_ 65)⟩
theorem fx_xfld_index (fx : Fx K mg base) : ∀ c ∈ [4, 7, 10, 11, 12, 14], XcI (SS fx).K ((SS fx).cls c) ∧ PySem.W.findIn (SS fx).K (.ref ((SS fx).cls c)) "index" = some none := by
  intro c hc
  simp only [List.mem_cons, List.not_mem_nil, or_false] at hc
  obtain rfl | rfl | rfl | rfl | rfl | rfl := hc
  · exact ⟨xi_ok (x := "InvalidProgressions") (fx.at_ 66), xno_ok (x := "InvalidProgressions") (f := "index") (fx.at_ 67)⟩
  · exact ⟨xi_ok (x := "InvalidTargets") (fx.at_ 68), xno_ok (x := "InvalidTargets") (f := "index") (fx.at_ 69)⟩
  · exact ⟨xi_ok (x := "InvalidTable") (fx.at_ 70), xno_ok (x := "InvalidTable") (f := "index") (fx.at_ 71)⟩
  · exact ⟨xi_ok (x := "InvalidSetting") (fx.at_ 72), xno_ok (x := "InvalidSetting") (f := "index") (fx.at_ 73)⟩
  · exact ⟨xi_ok (x := "InvalidSightings") (fx.at_ 74), xno_ok (x := "InvalidSightings") (f := "index") (fx.at_ 75)⟩
  · exact ⟨xi_ok (x := "InvalidDeeds") (fx.at_ 76), xno_ok (x := "InvalidDeeds") (f := "index") (fx.at_ 77)⟩
theorem fx_fld_first (fx : Fx K mg base) : ∀ c ∈ [0], Cls (SS fx).K ((SS fx).cls c) ∧ NoAttr (SS fx).K ((SS fx).cls c) "first" := by
  intro c hc
  simp only [List.mem_cons, List.not_mem_nil, or_false] at hc
  obtain rfl := hc
  · exact ⟨(cls_ok (x := "Progression") (fx.at_ 0)).cl, no_ok (x := "Progression") (f := "first") (fx.at_ 1)⟩
theorem fx_fld_step (fx : Fx K mg base) : ∀ c ∈ [0], Cls (SS fx).K ((SS fx).cls c) ∧ NoAttr (SS fx).K ((SS fx).cls c) "step" := by
  intro c hc
  simp only [List.mem_cons, List.not_mem_nil, or_false] at hc
  obtain rfl := hc
  · exact ⟨(cls_ok (x := "Progression") (fx.at_ 0)).cl, no_ok (x := "Progression") (f := "step") (fx.at_ 2)⟩
noncomputable def b_Progressionq_eqq : SM :=
    (sRet (eAnd (eCB (gIsiS 1 TAB XC) (aCons (eVar 1) (aCons (eC (.cl 0)) aNil))) (eAnd (eOp opEq (eFld [0] 0 (eVar 0)) (eFld [0] 0 (eVar 1))) (eOp opEq (eFld [0] 1 (eVar 0)) (eFld [0] 1 (eVar 1))))))
noncomputable def m_Progressionq_eqq : List T → Hm → R T := run 2 b_Progressionq_eqq
theorem j_Progressionq_eqq (fx : Fx K mg base) {m : Option (Addr × Obj)} {l : Option Lam} {C : RC} (cf : Cf C PW w ((S0 fx).md m l) mg base N_Progressionq_eqq (defScope s_Progressionq_eqq) 0) (hfn : ∀ y, C.X.fn y = true) (hp : PassesOwn (model C.X.prog C.X.w) C.X.A C.X.env C.X.xe) (hex : C.X.ex = []) (h0 : HOk C.X.prog C.X.w C.X.H_0 C.X.s_0.heap) : JSs C (defBody s_Progressionq_eqq) b_Progressionq_eqq :=
    (jss_one (js_ret (je_and (cb_ cf (isiS_ cf (fx_is fx) (fx_xi fx)) (He.free_ok fx.X fx.G (fx.at_ 4)) (ja_cons (v_ cf 1) (ja_cons (cl_ cf 0 (He.glo_ok fx.X fx.G (fx.at_ 3))) ja_nil))) (je_and (je_cmp (eqP_ cf) (fld_ cf [0] 0 (v_ cf 0) (fx_fld_step fx)) (fld_ cf [0] 0 (v_ cf 1) (fx_fld_step fx)) (by rfl)) (je_one (je_cmp (eqP_ cf) (fld_ cf [0] 1 (v_ cf 0) (fx_fld_first fx)) (fld_ cf [0] 1 (v_ cf 1) (fx_fld_first fx)) (by rfl)))))))
theorem ok_Progressionq_eqq (fx : Fx K mg base) {m : Option (Addr × Obj)} {l : Option Lam} : FnX PW w ((S0 fx).md m l) mg base 1 d_Progressionq_eqq P_Progressionq_eqq m_Progressionq_eqq := by
  obtain ⟨fd, F⟩ := fx.q.def_ 0 (d := d_Progressionq_eqq) rfl
  exact ⟨fd, F, fn_ofG (S := ((S0 fx).md m l)) (N := N_Progressionq_eqq) F ⟨rfl, rfl, rfl, by decide +kernel, rfl, by decide +kernel, by decide +kernel⟩ fn_run fun C ok e1 e2 e3 e4 e5 e6 e7 e8 hfn hp _ _ hex h0 hq hcd => j_Progressionq_eqq fx ⟨ok, e1, e2, e3, e4, e5, e6, e7, e8⟩ hfn hp hex h0⟩

theorem B_Progressionq_eqq_2 : Bnd d_Progressionq_eqq P_Progressionq_eqq 2 [] [(0, 0), (0, 1)] [] := ⟨by decide, rfl, rfl, fun _ _ _ => .nil, .inl ⟨rfl, fun _ _ _ _ _ _ us ws h1 h2 => match us, ws, h1, h2 with
  | [_, _], [], _, _ => rfl⟩⟩
theorem tab1 : isLook TAB (.ty "int") (.ty "int") = some true := by decide +kernel
theorem tab2 : isLook TAB (.ty "int") (.ty "bool") = some false := by decide +kernel
theorem isi_int (n : Nat) (i : Int) (h : Hm) : gIsiS 1 TAB XC [.int i, .ty "int"] h = .ok (.bl true) h := by
  show (if (Tg.ty "int").lt 1 = true then (match isLook TAB (.ty "int") (.ty "int") with
    | some r => R.ok (T.bl r) h
    | none => .bad) else .bad) = _
  rw [tab1]; rfl
theorem isi_bool (n : Nat) (i : Int) (h : Hm) : gIsiS 1 TAB XC [.int i, .ty "bool"] h = .ok (.bl false) h := by
  show (if (Tg.ty "int").lt 1 = true then (match isLook TAB (.ty "int") (.ty "bool") with
    | some r => R.ok (T.bl r) h
    | none => .bad) else .bad) = _
  rw [tab2]; rfl
def ow_Progressionq_eqq : T → T → Option Bool := fun x y => match x with
  | .obj 0 [(0, .int a), (1, .int b)] => (match y with
    | .obj 0 [(0, .int c), (1, .int d)] => some (decide (a = c) && decide (b = d))
    | .non => some false
    | .int _ => some false
    | .str _ => some false
    | .tup _ => some false
    | .lst _ => some false
    | .emp => some false
    | _ => none)
  | _ => none
theorem tabs : isLook TAB (.cl 0) (.cl 0) = some true ∧ isLook TAB (.ty "NoneType") (.cl 0) = some false ∧ isLook TAB (.ty "int") (.cl 0) = some false ∧ isLook TAB (.ty "tuple") (.cl 0) = some false ∧ isLook TAB (.ty "list") (.cl 0) = some false ∧ isLook TAB (.ty "str") (.cl 0) = some false ∧ isLook TAB (.ty "dict") (.cl 0) = some false := by decide +kernel
theorem isi_cl (x : T) (g : Tg) (r : Bool) (h : Hm) (e : tagOf h x = some g) (hl : g.lt 1 = true) (q : isLook TAB g (.cl 0) = some r) : gIsi 1 TAB [x, .cl 0] h = .ok (.bl r) h := by
  unfold gIsi
  dsimp only
  rw [e]
  show (if g.lt 1 = true then (match isLook TAB g (.cl 0) with
    | some r => R.ok (T.bl r) h
    | none => .bad) else .bad) = _
  rw [if_pos hl, q]
theorem isN (h : Hm) : gIsiS 1 TAB XC [.non, .cl 0] h = .ok (.bl false) h := isi_cl .non (.ty "NoneType") false h rfl rfl tabs.2.1
theorem isI (i : Int) (h : Hm) : gIsiS 1 TAB XC [.int i, .cl 0] h = .ok (.bl false) h := isi_cl (.int i) (.ty "int") false h rfl rfl tabs.2.2.1
theorem isT (i : List T) (h : Hm) : gIsiS 1 TAB XC [.tup i, .cl 0] h = .ok (.bl false) h := isi_cl (.tup i) (.ty "tuple") false h rfl rfl tabs.2.2.2.1
theorem isL (i : List T) (h : Hm) : gIsiS 1 TAB XC [.lst i, .cl 0] h = .ok (.bl false) h := isi_cl (.lst i) (.ty "list") false h rfl rfl tabs.2.2.2.2.1
theorem isS (i : Str) (h : Hm) : gIsiS 1 TAB XC [.str i, .cl 0] h = .ok (.bl false) h := isi_cl (.str i) (.ty "str") false h rfl rfl tabs.2.2.2.2.2.1
theorem isE (h : Hm) : gIsiS 1 TAB XC [.emp, .cl 0] h = .ok (.bl false) h := isi_cl .emp (.ty "dict") false h rfl rfl tabs.2.2.2.2.2.2
theorem isO (fs : List (Nat × T)) (h : Hm) : gIsiS 1 TAB XC [.obj 0 fs, .cl 0] h = .ok (.bl true) h := isi_cl (.obj 0 fs) (.cl 0) true h rfl rfl tabs.1
theorem ow_Progressionq_eqq_ok (x y : T) (h : Hm) (b : Bool) (e : ow_Progressionq_eqq x y = some b) : (fun xs h => m_Progressionq_eqq (arrS [(0, 0), (0, 1)] [] xs []) h) [x, y] h = .ok (.bl b) h := by
  unfold ow_Progressionq_eqq at e
  split at e
  · rename_i a b'
    split at e
    · rename_i c d
      cases e
      simp [m_Progressionq_eqq, b_Progressionq_eqq, arrS, pick, ocn, isO, lk_miss]
      by_cases q : a = c <;> simp [q]
    all_goals first
      | (cases e; done)
      | (cases e; simp [m_Progressionq_eqq, b_Progressionq_eqq, arrS, pick, ocn, isN, isI, isT, isL, isS, isE])
  · cases e
theorem ow_Progressionq_eqq_refl (x : T) : ow_Progressionq_eqq x x ≠ some false := by
  unfold ow_Progressionq_eqq
  split
  · simp
  · simp

def OW : Oe := fun c => match c with
  | 0 => some ow_Progressionq_eqq
  | _ => none
theorem oe (fx : Fx K mg base) {m : Option (Addr × Obj)} {l : Option Lam} {C : RC} {N : List Str} {sc : Scope} {k : Nat} (cf : Cf C PW w ((S0 fx).md m l) mg base N sc k) : OeOk C 1 OW := by
  refine oe_of cf (fun c f e => ?_) (fun c f e => ?_) (fun c f a e => ?_) (fun c f x e => ?_)
  · unfold OW at e
    split at e
    · cases e; exact ⟨_, (du_ok (x := "Progression") (m := "__eq__") (fx.at_ 124)).1, (du_ok (x := "Progression") (m := "__eq__") (fx.at_ 124)).2, CaA.pure ((ok_Progressionq_eqq (w := w) fx).caA cf B_Progressionq_eqq_2) ow_Progressionq_eqq_ok⟩
    · cases e
  · unfold OW at e
    split at e
    · cases e; exact ne_ok (x := "Progression") (fx.at_ 133)
    · cases e
  · unfold OW at e
    split at e
    · cases e; have z := first_okX (cn := CN) (xn := XN) (fl := FL) (gn := []) (hf := fl_nd) (hc := nd_ok (fx.at_ 108)) (c := 0) (fx.at_ 134) a; cases a <;> exact z
    · cases e
  · unfold OW at e
    split at e
    · cases e; exact ow_Progressionq_eqq_refl x
    · cases e
noncomputable def b_Progressionq_strq : SM :=
    (sRet (eJoin [(eFmtL (fun _ => none) (eFld [0] 1 (eVar 0))), (eC (.str " mod ")), (eFmtL (fun _ => none) (eFld [0] 0 (eVar 0)))]))
noncomputable def m_Progressionq_strq : List T → Hm → R T := run 1 b_Progressionq_strq
theorem j_Progressionq_strq (fx : Fx K mg base) {C : RC} (cf : Cf C PW w (SS fx) mg base N_Progressionq_strq (defScope s_Progressionq_strq) 2) (hfn : ∀ y, C.X.fn y = true) (hp : PassesOwn (model C.X.prog C.X.w) C.X.A C.X.env C.X.xe) (hex : C.X.ex = []) (h0 : HOk C.X.prog C.X.w C.X.H_0 C.X.s_0.heap) : JSs C (defBody s_Progressionq_strq) b_Progressionq_strq :=
    (jss_one (js_ret (je_join (.cons (fmtL_ cf (fm_none (j := 0)) (by decide) (fld_ cf [0] 1 (v_ cf 0) (fx_fld_first fx))) (.cons je_str (.cons (fmtL_ cf (fm_none (j := 0)) (by decide) (fld_ cf [0] 0 (v_ cf 0) (fx_fld_step fx))) .nil))))))
theorem ok_Progressionq_strq (fx : Fx K mg base) : FnX PW w (SS fx) mg base 3 d_Progressionq_strq P_Progressionq_strq m_Progressionq_strq := by
  obtain ⟨fd, F⟩ := fx.q.def_ 1 (d := d_Progressionq_strq) rfl
  exact ⟨fd, F, fn_ofG (S := (SS fx)) (N := N_Progressionq_strq) F ⟨rfl, rfl, rfl, by decide +kernel, rfl, by decide +kernel, by decide +kernel⟩ fn_run fun C ok e1 e2 e3 e4 e5 e6 e7 e8 hfn hp _ _ hex h0 hq hcd => j_Progressionq_strq fx ⟨ok, e1, e2, e3, e4, e5, e6, e7, e8⟩ hfn hp hex h0⟩

theorem B_Progressionq_strq_1 : Bnd d_Progressionq_strq P_Progressionq_strq 1 [] [(0, 0)] [] := ⟨by decide, rfl, rfl, fun _ _ _ => .nil, .inl ⟨rfl, fun _ _ _ _ _ _ us ws h1 h2 => match us, ws, h1, h2 with
  | [_], [], _, _ => rfl⟩⟩
noncomputable def ms_qstrq : Ms := fun c => match c with
  | 0 => some (fun xs h => m_Progressionq_strq (arrS [(0, 0)] [] xs []) h)
  | _ => none
theorem du_qstrq (fx : Fx K mg base) {C : RC} {N : List Str} {sc : Scope} {k : Nat} (cf : Cf C PW w (SS fx) mg base N sc k) : DuOk C 3 "__str__" 1 ms_qstrq := by
  refine du_of cf fun c g e => ?_
  unfold ms_qstrq at e
  split at e
  · cases e; exact ⟨_, (du_ok (x := "Progression") (m := "__str__") (fx.at_ 125)).1, (du_ok (x := "Progression") (m := "__str__") (fx.at_ 125)).2, (ok_Progressionq_strq (w := w) fx).caA cf B_Progressionq_strq_1⟩
  · cases e
theorem fm_str (fx : Fx K mg base) {C : RC} {N : List Str} {sc : Scope} {k : Nat} (cf : Cf C PW w (SS fx) mg base N sc k) : FmOk C 3 ms_qstrq := by
  refine fm_of cf (du_qstrq fx cf) fun c g e => ?_
  unfold ms_qstrq at e
  split at e
  · cases e; exact fm_ok (x := "Progression") (fx.at_ 138)
  · cases e
noncomputable def b_Progressionq_reprq : SM :=
    (sRet (eJoin [(eC (.str "Progression(")), (eFmtL (fun _ => none) (eFld [0] 0 (eVar 0))), (eC (.str ", ")), (eFmtL (fun _ => none) (eFld [0] 1 (eVar 0))), (eC (.str ")"))]))
noncomputable def m_Progressionq_reprq : List T → Hm → R T := run 1 b_Progressionq_reprq
theorem j_Progressionq_reprq (fx : Fx K mg base) {m : Option (Addr × Obj)} {l : Option Lam} {C : RC} (cf : Cf C PW w ((S0 fx).md m l) mg base N_Progressionq_reprq (defScope s_Progressionq_reprq) 2) (hfn : ∀ y, C.X.fn y = true) (hp : PassesOwn (model C.X.prog C.X.w) C.X.A C.X.env C.X.xe) (hex : C.X.ex = []) (h0 : HOk C.X.prog C.X.w C.X.H_0 C.X.s_0.heap) : JSs C (defBody s_Progressionq_reprq) b_Progressionq_reprq :=
    (jss_one (js_ret (je_join (.cons je_str (.cons (fmtL_ cf (fm_none (j := 0)) (by decide) (fld_ cf [0] 0 (v_ cf 0) (fx_fld_step fx))) (.cons je_str (.cons (fmtL_ cf (fm_none (j := 0)) (by decide) (fld_ cf [0] 1 (v_ cf 0) (fx_fld_first fx))) (.cons je_str .nil))))))))
theorem ok_Progressionq_reprq (fx : Fx K mg base) {m : Option (Addr × Obj)} {l : Option Lam} : FnX PW w ((S0 fx).md m l) mg base 3 d_Progressionq_reprq P_Progressionq_reprq m_Progressionq_reprq := by
  obtain ⟨fd, F⟩ := fx.q.def_ 2 (d := d_Progressionq_reprq) rfl
  exact ⟨fd, F, fn_ofG (S := ((S0 fx).md m l)) (N := N_Progressionq_reprq) F ⟨rfl, rfl, rfl, by decide +kernel, rfl, by decide +kernel, by decide +kernel⟩ fn_run fun C ok e1 e2 e3 e4 e5 e6 e7 e8 hfn hp _ _ hex h0 hq hcd => j_Progressionq_reprq fx ⟨ok, e1, e2, e3, e4, e5, e6, e7, e8⟩ hfn hp hex h0⟩

theorem B_Progressionq_reprq_1 : Bnd d_Progressionq_reprq P_Progressionq_reprq 1 [] [(0, 0)] [] := ⟨by decide, rfl, rfl, fun _ _ _ => .nil, .inl ⟨rfl, fun _ _ _ _ _ _ us ws h1 h2 => match us, ws, h1, h2 with
  | [_], [], _, _ => rfl⟩⟩
noncomputable def ms_qreprq : Ms := fun c => match c with
  | 0 => some (fun xs h => m_Progressionq_reprq (arrS [(0, 0)] [] xs []) h)
  | _ => none
theorem du_qreprq (fx : Fx K mg base) {m : Option (Addr × Obj)} {l : Option Lam} {C : RC} {N : List Str} {sc : Scope} {k : Nat} (cf : Cf C PW w ((S0 fx).md m l) mg base N sc k) : DuOk C 3 "__repr__" 1 ms_qreprq := by
  refine du_of cf fun c g e => ?_
  unfold ms_qreprq at e
  split at e
  · cases e; exact ⟨_, (du_ok (x := "Progression") (m := "__repr__") (fx.at_ 126)).1, (du_ok (x := "Progression") (m := "__repr__") (fx.at_ 126)).2, (ok_Progressionq_reprq (w := w) fx).caA cf B_Progressionq_reprq_1⟩
  · cases e
noncomputable def b_is_integer : SM :=
    (sRet (eAnd (eCB (gIsiS 1 TAB XC) (aCons (eVar 0) (aCons (eC (.ty "int")) aNil))) (eAnd (eNotT asB (eCB (gIsiS 1 TAB XC) (aCons (eVar 0) (aCons (eC (.ty "bool")) aNil)))) (eOp opGe (eVar 0) (eVar 1)))))
noncomputable def m_is_integer : List T → Hm → R T := run 2 b_is_integer
theorem j_is_integer (fx : Fx K mg base) {C : RC} (cf : Cf C PW w (SS fx) mg base N_is_integer (defScope s_is_integer) 0) (hfn : ∀ y, C.X.fn y = true) (hp : PassesOwn (model C.X.prog C.X.w) C.X.A C.X.env C.X.xe) (hex : C.X.ex = []) (h0 : HOk C.X.prog C.X.w C.X.H_0 C.X.s_0.heap) : JSs C (defBody s_is_integer) b_is_integer :=
    (jss_one (js_ret (je_and (cb_ cf (isiS_ cf (fx_is fx) (fx_xi fx)) (He.free_ok fx.X fx.G (fx.at_ 4)) (ja_cons (v_ cf 0) (ja_cons (ty_ cf (He.free_ok fx.X fx.G (fx.at_ 6))) ja_nil))) (je_and (je_not tr_bool (cb_ cf (isiS_ cf (fx_is fx) (fx_xi fx)) (He.free_ok fx.X fx.G (fx.at_ 4)) (ja_cons (v_ cf 0) (ja_cons (ty_ cf (He.free_ok fx.X fx.G (fx.at_ 5))) ja_nil)))) (je_one (je_cmp op_geT (v_ cf 0) (v_ cf 1) (by rfl)))))))
theorem ok_is_integer (fx : Fx K mg base) : FnX PW w (SS fx) mg base 1 d_is_integer P_is_integer m_is_integer := by
  obtain ⟨fd, F⟩ := fx.q.def_ 3 (d := d_is_integer) rfl
  exact ⟨fd, F, fn_ofG (S := (SS fx)) (N := N_is_integer) F ⟨rfl, rfl, rfl, by decide +kernel, rfl, by decide +kernel, by decide +kernel⟩ fn_run fun C ok e1 e2 e3 e4 e5 e6 e7 e8 hfn hp _ _ hex h0 hq hcd => j_is_integer fx ⟨ok, e1, e2, e3, e4, e5, e6, e7, e8⟩ hfn hp hex h0⟩

theorem B_is_integer_2 : Bnd d_is_integer P_is_integer 2 [] [(0, 0), (0, 1)] [] := ⟨by decide, rfl, rfl, fun _ _ _ => .nil, .inl ⟨rfl, fun _ _ _ _ _ _ us ws h1 h2 => match us, ws, h1, h2 with
  | [_, _], [], _, _ => rfl⟩⟩
noncomputable def b_Progressionq_containsq : SM :=
    (sRet (eAnd (eCall 2 (fun xs zs h => m_is_integer (arrS [(0, 0), (0, 1)] [] xs zs) h) (aCons (eVar 1) (aCons (eC (.int 0)) aNil))) (eOp opEq (eOp opMod (eVar 1) (eFld [0] 0 (eVar 0))) (eFld [0] 1 (eVar 0)))))
noncomputable def m_Progressionq_containsq : List T → Hm → R T := run 2 b_Progressionq_containsq
theorem j_Progressionq_containsq (fx : Fx K mg base) {C : RC} (cf : Cf C PW w (SS fx) mg base N_Progressionq_containsq (defScope s_Progressionq_containsq) 1) (hfn : ∀ y, C.X.fn y = true) (hp : PassesOwn (model C.X.prog C.X.w) C.X.A C.X.env C.X.xe) (hex : C.X.ex = []) (h0 : HOk C.X.prog C.X.w C.X.H_0 C.X.s_0.heap) : JSs C (defBody s_Progressionq_containsq) b_Progressionq_containsq :=
    (jss_one (js_ret (je_and (call_ cf (FnX.ca (ok_is_integer (w := w) fx) cf B_is_integer_2 (by decide)) (He.glo_ok fx.X fx.G (fx.at_ 7)) (ja_cons (v_ cf 1) (ja_cons je_int ja_nil))) (je_one (je_cmp (eqP_ cf) (je_op op_modT (v_ cf 1) (fld_ cf [0] 0 (v_ cf 0) (fx_fld_step fx))) (fld_ cf [0] 1 (v_ cf 0) (fx_fld_first fx)) (by rfl))))))
theorem ok_Progressionq_containsq (fx : Fx K mg base) : FnX PW w (SS fx) mg base 2 d_Progressionq_containsq P_Progressionq_containsq m_Progressionq_containsq := by
  obtain ⟨fd, F⟩ := fx.q.def_ 4 (d := d_Progressionq_containsq) rfl
  exact ⟨fd, F, fn_ofG (S := (SS fx)) (N := N_Progressionq_containsq) F ⟨rfl, rfl, rfl, by decide +kernel, rfl, by decide +kernel, by decide +kernel⟩ fn_run fun C ok e1 e2 e3 e4 e5 e6 e7 e8 hfn hp _ _ hex h0 hq hcd => j_Progressionq_containsq fx ⟨ok, e1, e2, e3, e4, e5, e6, e7, e8⟩ hfn hp hex h0⟩

theorem B_Progressionq_containsq_2 : Bnd d_Progressionq_containsq P_Progressionq_containsq 2 [] [(0, 0), (0, 1)] [] := ⟨by decide, rfl, rfl, fun _ _ _ => .nil, .inl ⟨rfl, fun _ _ _ _ _ _ us ws h1 h2 => match us, ws, h1, h2 with
  | [_, _], [], _, _ => rfl⟩⟩
noncomputable def ms_qcontainsq : Ms := fun c => match c with
  | 0 => some (fun xs h => m_Progressionq_containsq (arrS [(0, 0), (0, 1)] [] xs []) h)
  | _ => none
theorem du_qcontainsq (fx : Fx K mg base) {C : RC} {N : List Str} {sc : Scope} {k : Nat} (cf : Cf C PW w (SS fx) mg base N sc k) : DuOk C 2 "__contains__" 2 ms_qcontainsq := by
  refine du_of cf fun c g e => ?_
  unfold ms_qcontainsq at e
  split at e
  · cases e; exact ⟨_, (du_ok (x := "Progression") (m := "__contains__") (fx.at_ 127)).1, (du_ok (x := "Progression") (m := "__contains__") (fx.at_ 127)).2, (ok_Progressionq_containsq (w := w) fx).caA cf B_Progressionq_containsq_2⟩
  · cases e
noncomputable def b_InvalidNumberq_initq : SM :=
    (sXst [1] 2 (eVar 1) (eVar 0))
noncomputable def m_InvalidNumberq_initq : List T → Hm → R T := run 2 b_InvalidNumberq_initq
theorem j_InvalidNumberq_initq (fx : Fx K mg base) {C : RC} (cf : Cf C PW w (SS fx) mg base N_InvalidNumberq_initq (defScope s_InvalidNumberq_initq) 0) (hfn : ∀ y, C.X.fn y = true) (hp : PassesOwn (model C.X.prog C.X.w) C.X.A C.X.env C.X.xe) (hex : C.X.ex = []) (h0 : HOk C.X.prog C.X.w C.X.H_0 C.X.s_0.heap) : JSs C (defBody s_InvalidNumberq_initq) b_InvalidNumberq_initq :=
    (jss_one (xst_ cf [1] 2 (v_ cf 0) (v_ cf 1) (fun c hc => by obtain rfl : c = 1 := List.mem_singleton.mp hc; exact ⟨xb_ok (x := "InvalidNumber") (i := 0) (fx.at_ 8), xno_ok (x := "InvalidNumber") (f := "number") (fx.at_ 9)⟩)))
theorem ok_InvalidNumberq_initq (fx : Fx K mg base) : FnX PW w (SS fx) mg base 1 d_InvalidNumberq_initq P_InvalidNumberq_initq m_InvalidNumberq_initq := by
  obtain ⟨fd, F⟩ := fx.q.def_ 5 (d := d_InvalidNumberq_initq) rfl
  exact ⟨fd, F, fn_ofG (S := (SS fx)) (N := N_InvalidNumberq_initq) F ⟨rfl, rfl, rfl, by decide +kernel, rfl, by decide +kernel, by decide +kernel⟩ fn_run fun C ok e1 e2 e3 e4 e5 e6 e7 e8 hfn hp _ _ hex h0 hq hcd => j_InvalidNumberq_initq fx ⟨ok, e1, e2, e3, e4, e5, e6, e7, e8⟩ hfn hp hex h0⟩

theorem B_InvalidNumberq_initq_2 : Bnd d_InvalidNumberq_initq P_InvalidNumberq_initq 2 [] [(0, 0), (0, 1)] [] := ⟨by decide, rfl, rfl, fun _ _ _ => .nil, .inl ⟨rfl, fun _ _ _ _ _ _ us ws h1 h2 => match us, ws, h1, h2 with
  | [_, _], [], _, _ => rfl⟩⟩
noncomputable def b_check_number : SM :=
    (sIf (bNot (bE (eCall 2 (fun xs zs h => m_is_integer (arrS [(0, 0), (0, 1)] [] xs zs) h) (aCons (eVar 0) (aCons (eC (.int 0)) aNil))))) (sRaiseX 1 1 (fun xs zs h => m_InvalidNumberq_initq (arrS [(0, 0), (0, 1)] [] xs zs) h) (aCons (eVar 0) aNil)) sNext)
noncomputable def m_check_number : List T → Hm → R T := run 1 b_check_number
theorem j_check_number (fx : Fx K mg base) {C : RC} (cf : Cf C PW w (SS fx) mg base N_check_number (defScope s_check_number) 2) (hfn : ∀ y, C.X.fn y = true) (hp : PassesOwn (model C.X.prog C.X.w) C.X.A C.X.env C.X.xe) (hex : C.X.ex = []) (h0 : HOk C.X.prog C.X.w C.X.H_0 C.X.s_0.heap) : JSs C (defBody s_check_number) b_check_number :=
    (jss_one (js_if (jb_not (jb_val (call_ cf (FnX.ca (ok_is_integer (w := w) fx) cf B_is_integer_2 (by decide)) (He.glo_ok fx.X fx.G (fx.at_ 7)) (ja_cons (v_ cf 0) (ja_cons je_int ja_nil))))) (jss_one (raise_ cf hex h0 (ok_InvalidNumberq_initq (w := w) fx) 1 B_InvalidNumberq_initq_2 (xmk_ok (fx.at_ 8) (fx.at_ 10)) (xrs_ok (x := "InvalidNumber") (fx.at_ 11)) (He.glo_ok fx.X fx.G (fx.at_ 12)) (ja_cons (v_ cf 0) ja_nil) (by decide))) jss_nil))
theorem ok_check_number (fx : Fx K mg base) : FnX PW w (SS fx) mg base 3 d_check_number P_check_number m_check_number := by
  obtain ⟨fd, F⟩ := fx.q.def_ 6 (d := d_check_number) rfl
  exact ⟨fd, F, fn_ofG (S := (SS fx)) (N := N_check_number) F ⟨rfl, rfl, rfl, by decide +kernel, rfl, by decide +kernel, by decide +kernel⟩ fn_run fun C ok e1 e2 e3 e4 e5 e6 e7 e8 hfn hp _ _ hex h0 hq hcd => j_check_number fx ⟨ok, e1, e2, e3, e4, e5, e6, e7, e8⟩ hfn hp hex h0⟩

theorem B_check_number_1 : Bnd d_check_number P_check_number 1 [] [(0, 0)] [] := ⟨by decide, rfl, rfl, fun _ _ _ => .nil, .inl ⟨rfl, fun _ _ _ _ _ _ us ws h1 h2 => match us, ws, h1, h2 with
  | [_], [], _, _ => rfl⟩⟩
noncomputable def b_Progressionq_getitemq_1 : SM :=
    (sExpr (eCall 1 (fun xs zs h => m_check_number (arrS [(0, 0)] [] xs zs) h) (aCons (eVar 1) aNil)))
noncomputable def b_Progressionq_getitemq_2 : SM :=
    (sRet (eOp opAdd (eFld [0] 1 (eVar 0)) (eOp opMul (eFld [0] 0 (eVar 0)) (eVar 1))))
noncomputable def b_Progressionq_getitemq : SM :=
    (sSeq b_Progressionq_getitemq_1
    b_Progressionq_getitemq_2)
noncomputable def m_Progressionq_getitemq : List T → Hm → R T := run 2 b_Progressionq_getitemq
theorem j_Progressionq_getitemq (fx : Fx K mg base) {C : RC} (cf : Cf C PW w (SS fx) mg base N_Progressionq_getitemq (defScope s_Progressionq_getitemq) 3) (hfn : ∀ y, C.X.fn y = true) (hp : PassesOwn (model C.X.prog C.X.w) C.X.A C.X.env C.X.xe) (hex : C.X.ex = []) (h0 : HOk C.X.prog C.X.w C.X.H_0 C.X.s_0.heap) : JSs C (defBody s_Progressionq_getitemq) b_Progressionq_getitemq :=
    (jss_cons (js_expr (call_ cf (FnX.ca (ok_check_number (w := w) fx) cf B_check_number_1 (by decide)) (He.glo_ok fx.X fx.G (fx.at_ 13)) (ja_cons (v_ cf 1) ja_nil)))
    (jss_one (js_ret (je_op op_addT (fld_ cf [0] 1 (v_ cf 0) (fx_fld_first fx)) (je_op op_mulT (fld_ cf [0] 0 (v_ cf 0) (fx_fld_step fx)) (v_ cf 1))))))
theorem ok_Progressionq_getitemq (fx : Fx K mg base) : FnX PW w (SS fx) mg base 4 d_Progressionq_getitemq P_Progressionq_getitemq m_Progressionq_getitemq := by
  obtain ⟨fd, F⟩ := fx.q.def_ 7 (d := d_Progressionq_getitemq) rfl
  exact ⟨fd, F, fn_ofG (S := (SS fx)) (N := N_Progressionq_getitemq) F ⟨rfl, rfl, rfl, by decide +kernel, rfl, by decide +kernel, by decide +kernel⟩ fn_run fun C ok e1 e2 e3 e4 e5 e6 e7 e8 hfn hp _ _ hex h0 hq hcd => j_Progressionq_getitemq fx ⟨ok, e1, e2, e3, e4, e5, e6, e7, e8⟩ hfn hp hex h0⟩

theorem B_Progressionq_getitemq_2 : Bnd d_Progressionq_getitemq P_Progressionq_getitemq 2 [] [(0, 0), (0, 1)] [] := ⟨by decide, rfl, rfl, fun _ _ _ => .nil, .inl ⟨rfl, fun _ _ _ _ _ _ us ws h1 h2 => match us, ws, h1, h2 with
  | [_, _], [], _, _ => rfl⟩⟩
noncomputable def ms_qgetitemq : Ms := fun c => match c with
  | 0 => some (fun xs h => m_Progressionq_getitemq (arrS [(0, 0), (0, 1)] [] xs []) h)
  | _ => none
theorem du_qgetitemq (fx : Fx K mg base) {C : RC} {N : List Str} {sc : Scope} {k : Nat} (cf : Cf C PW w (SS fx) mg base N sc k) : DuOk C 4 "__getitem__" 2 ms_qgetitemq := by
  refine du_of cf fun c g e => ?_
  unfold ms_qgetitemq at e
  split at e
  · cases e; exact ⟨_, (du_ok (x := "Progression") (m := "__getitem__") (fx.at_ 128)).1, (du_ok (x := "Progression") (m := "__getitem__") (fx.at_ 128)).2, (ok_Progressionq_getitemq (w := w) fx).caA cf B_Progressionq_getitemq_2⟩
  · cases e
theorem fn_getitem (fx : Fx K mg base) : ∀ c g, ms_qgetitemq c = some g → ∀ fa, PySem.W.findIn (SS fx).K (.ref ((SS fx).cls c)) "__getitem__" = some (some (.ref fa)) → PySem.W.fnIn (SS fx).K fa = true := by
  intro c g e fa q
  unfold ms_qgetitemq at e
  split at e
  · have e2 := q.symm.trans (du_ok (x := "Progression") (m := "__getitem__") (fx.at_ 128)).1; cases e2; exact fx.at_ (f := ckFn "Progression" "__getitem__") 129
  · cases e
theorem dq_getitem (fx : Fx K mg base) : ∀ c g, ms_qgetitemq c = some g → PySem.W.subIn (SS fx).K (.ref ((SS fx).cls c)) (.type "collections.deque") = some false := by
  intro c g e
  unfold ms_qgetitemq at e
  split at e
  · exact of_decide_eq_true (fx.at_ (f := ckDq "Progression") 130)
  · cases e
noncomputable def b_InvalidStepq_initq : SM :=
    (sXst [2] 0 (eVar 1) (eVar 0))
noncomputable def m_InvalidStepq_initq : List T → Hm → R T := run 2 b_InvalidStepq_initq
theorem j_InvalidStepq_initq (fx : Fx K mg base) {C : RC} (cf : Cf C PW w (SS fx) mg base N_InvalidStepq_initq (defScope s_InvalidStepq_initq) 0) (hfn : ∀ y, C.X.fn y = true) (hp : PassesOwn (model C.X.prog C.X.w) C.X.A C.X.env C.X.xe) (hex : C.X.ex = []) (h0 : HOk C.X.prog C.X.w C.X.H_0 C.X.s_0.heap) : JSs C (defBody s_InvalidStepq_initq) b_InvalidStepq_initq :=
    (jss_one (xst_ cf [2] 0 (v_ cf 0) (v_ cf 1) (fun c hc => by obtain rfl : c = 2 := List.mem_singleton.mp hc; exact ⟨xb_ok (x := "InvalidStep") (i := 0) (fx.at_ 14), xno_ok (x := "InvalidStep") (f := "step") (fx.at_ 15)⟩)))
theorem ok_InvalidStepq_initq (fx : Fx K mg base) : FnX PW w (SS fx) mg base 1 d_InvalidStepq_initq P_InvalidStepq_initq m_InvalidStepq_initq := by
  obtain ⟨fd, F⟩ := fx.q.def_ 8 (d := d_InvalidStepq_initq) rfl
  exact ⟨fd, F, fn_ofG (S := (SS fx)) (N := N_InvalidStepq_initq) F ⟨rfl, rfl, rfl, by decide +kernel, rfl, by decide +kernel, by decide +kernel⟩ fn_run fun C ok e1 e2 e3 e4 e5 e6 e7 e8 hfn hp _ _ hex h0 hq hcd => j_InvalidStepq_initq fx ⟨ok, e1, e2, e3, e4, e5, e6, e7, e8⟩ hfn hp hex h0⟩

theorem B_InvalidStepq_initq_2 : Bnd d_InvalidStepq_initq P_InvalidStepq_initq 2 [] [(0, 0), (0, 1)] [] := ⟨by decide, rfl, rfl, fun _ _ _ => .nil, .inl ⟨rfl, fun _ _ _ _ _ _ us ws h1 h2 => match us, ws, h1, h2 with
  | [_, _], [], _, _ => rfl⟩⟩
noncomputable def b_is_between : SM :=
    (sRet (eAnd (eCall 2 (fun xs zs h => m_is_integer (arrS [(0, 0), (0, 1)] [] xs zs) h) (aCons (eVar 0) (aCons (eVar 1) aNil))) (eOp opLe (eVar 0) (eVar 2))))
noncomputable def m_is_between : List T → Hm → R T := run 3 b_is_between
theorem j_is_between (fx : Fx K mg base) {C : RC} (cf : Cf C PW w (SS fx) mg base N_is_between (defScope s_is_between) 1) (hfn : ∀ y, C.X.fn y = true) (hp : PassesOwn (model C.X.prog C.X.w) C.X.A C.X.env C.X.xe) (hex : C.X.ex = []) (h0 : HOk C.X.prog C.X.w C.X.H_0 C.X.s_0.heap) : JSs C (defBody s_is_between) b_is_between :=
    (jss_one (js_ret (je_and (call_ cf (FnX.ca (ok_is_integer (w := w) fx) cf B_is_integer_2 (by decide)) (He.glo_ok fx.X fx.G (fx.at_ 7)) (ja_cons (v_ cf 0) (ja_cons (v_ cf 1) ja_nil))) (je_one (je_cmp op_leT (v_ cf 0) (v_ cf 2) (by rfl))))))
theorem ok_is_between (fx : Fx K mg base) : FnX PW w (SS fx) mg base 2 d_is_between P_is_between m_is_between := by
  obtain ⟨fd, F⟩ := fx.q.def_ 9 (d := d_is_between) rfl
  exact ⟨fd, F, fn_ofG (S := (SS fx)) (N := N_is_between) F ⟨rfl, rfl, rfl, by decide +kernel, rfl, by decide +kernel, by decide +kernel⟩ fn_run fun C ok e1 e2 e3 e4 e5 e6 e7 e8 hfn hp _ _ hex h0 hq hcd => j_is_between fx ⟨ok, e1, e2, e3, e4, e5, e6, e7, e8⟩ hfn hp hex h0⟩

theorem B_is_between_3 : Bnd d_is_between P_is_between 3 [] [(0, 0), (0, 1), (0, 2)] [] := ⟨by decide, rfl, rfl, fun _ _ _ => .nil, .inl ⟨rfl, fun _ _ _ _ _ _ us ws h1 h2 => match us, ws, h1, h2 with
  | [_, _, _], [], _, _ => rfl⟩⟩
noncomputable def b_Progressionq_initq_1 : SM :=
    (sIf (bNot (bE (eCall 2 (fun xs zs h => m_is_integer (arrS [(0, 0), (0, 1)] [] xs zs) h) (aCons (eVar 1) (aCons (eC (.int 1)) aNil))))) (sRaiseX 2 1 (fun xs zs h => m_InvalidStepq_initq (arrS [(0, 0), (0, 1)] [] xs zs) h) (aCons (eVar 1) aNil)) sNext)
noncomputable def b_Progressionq_initq_2 : SM :=
    (sIf (bNot (bE (eCall 3 (fun xs zs h => m_is_between (arrS [(0, 0), (0, 1), (0, 2)] [] xs zs) h) (aCons (eVar 2) (aCons (eC (.int 0)) (aCons (eOp opSub (eVar 1) (eC (.int 1))) aNil)))))) (sRaiseX 1 1 (fun xs zs h => m_InvalidNumberq_initq (arrS [(0, 0), (0, 1)] [] xs zs) h) (aCons (eVar 2) aNil)) sNext)
noncomputable def b_Progressionq_initq_3 : SM :=
    (sFldT [0] 0 (eVar 1) (eVar 0))
noncomputable def b_Progressionq_initq_4 : SM :=
    (sFldT [0] 1 (eVar 2) (eVar 0))
noncomputable def b_Progressionq_initq : SM :=
    (sSeq b_Progressionq_initq_1
    (sSeq b_Progressionq_initq_2
    (sSeq b_Progressionq_initq_3
    b_Progressionq_initq_4)))
noncomputable def m_Progressionq_initq : List T → Hm → R T := run 3 b_Progressionq_initq
theorem j_Progressionq_initq (fx : Fx K mg base) {C : RC} (cf : Cf C PW w (SS fx) mg base N_Progressionq_initq (defScope s_Progressionq_initq) 2) (hfn : ∀ y, C.X.fn y = true) (hp : PassesOwn (model C.X.prog C.X.w) C.X.A C.X.env C.X.xe) (hex : C.X.ex = []) (h0 : HOk C.X.prog C.X.w C.X.H_0 C.X.s_0.heap) : JSs C (defBody s_Progressionq_initq) b_Progressionq_initq :=
    (jss_cons (js_if (jb_not (jb_val (call_ cf (FnX.ca (ok_is_integer (w := w) fx) cf B_is_integer_2 (by decide)) (He.glo_ok fx.X fx.G (fx.at_ 7)) (ja_cons (v_ cf 1) (ja_cons je_int ja_nil))))) (jss_one (raise_ cf hex h0 (ok_InvalidStepq_initq (w := w) fx) 2 B_InvalidStepq_initq_2 (xmk_ok (fx.at_ 14) (fx.at_ 16)) (xrs_ok (x := "InvalidStep") (fx.at_ 17)) (He.glo_ok fx.X fx.G (fx.at_ 18)) (ja_cons (v_ cf 1) ja_nil) (by decide))) jss_nil)
    (jss_cons (js_if (jb_not (jb_val (call_ cf (FnX.ca (ok_is_between (w := w) fx) cf B_is_between_3 (by decide)) (He.glo_ok fx.X fx.G (fx.at_ 19)) (ja_cons (v_ cf 2) (ja_cons je_int (ja_cons (je_op op_subT (v_ cf 1) je_int) ja_nil)))))) (jss_one (raise_ cf hex h0 (ok_InvalidNumberq_initq (w := w) fx) 1 B_InvalidNumberq_initq_2 (xmk_ok (fx.at_ 8) (fx.at_ 10)) (xrs_ok (x := "InvalidNumber") (fx.at_ 11)) (He.glo_ok fx.X fx.G (fx.at_ 12)) (ja_cons (v_ cf 2) ja_nil) (by decide))) jss_nil)
    (jss_cons (sfld_ cf [0] 0 (v_ cf 0) (v_ cf 1) (fx_fld_step fx))
    (jss_one (sfld_ cf [0] 1 (v_ cf 0) (v_ cf 2) (fx_fld_first fx))))))
theorem ok_Progressionq_initq (fx : Fx K mg base) : FnX PW w (SS fx) mg base 3 d_Progressionq_initq P_Progressionq_initq m_Progressionq_initq := by
  obtain ⟨fd, F⟩ := fx.q.def_ 10 (d := d_Progressionq_initq) rfl
  exact ⟨fd, F, fn_ofG (S := (SS fx)) (N := N_Progressionq_initq) F ⟨rfl, rfl, rfl, by decide +kernel, rfl, by decide +kernel, by decide +kernel⟩ fn_run fun C ok e1 e2 e3 e4 e5 e6 e7 e8 hfn hp _ _ hex h0 hq hcd => j_Progressionq_initq fx ⟨ok, e1, e2, e3, e4, e5, e6, e7, e8⟩ hfn hp hex h0⟩

theorem B_Progressionq_initq_3 : Bnd d_Progressionq_initq P_Progressionq_initq 3 [] [(0, 0), (0, 1), (0, 2)] [(.int 0)] := ⟨by decide, rfl, rfl, fun _ _ _ => (.cons (.int _) .nil), .inr ⟨by decide, fun _ _ _ _ _ _ _ us its ws h1 h2 h3 => match us, its, ws, h1, h2, h3 with
  | [_, _, _], [_], [], _, _, _ => ⟨_, rfl, rfl⟩⟩⟩

theorem B_Progressionq_initq_1_first_step : Bnd d_Progressionq_initq P_Progressionq_initq 1 ["first", "step"] [(0, 0), (1, 1), (1, 0)] [(.int 0)] := ⟨by decide, rfl, rfl, fun _ _ _ => (.cons (.int _) .nil), .inr ⟨by decide, fun _ _ _ _ _ _ _ us its ws h1 h2 h3 => match us, its, ws, h1, h2, h3 with
  | [_], [_], [_, _], _, _, _ => ⟨_, rfl, rfl⟩⟩⟩

theorem B_Progressionq_initq_2 : Bnd d_Progressionq_initq P_Progressionq_initq 2 [] [(0, 0), (0, 1), (2, 0)] [(.int 0)] := ⟨by decide, rfl, rfl, fun _ _ _ => (.cons (.int _) .nil), .inr ⟨by decide, fun _ _ _ _ _ _ _ us its ws h1 h2 h3 => match us, its, ws, h1, h2, h3 with
  | [_, _], [_], [], _, _, _ => ⟨_, rfl, rfl⟩⟩⟩
noncomputable def b_made : SM :=
    (sRet (eIf (bE (eOp opIsN (eVar 0) (eC .non))) (eC .non) (eCall 2 (mkO 0 m_Progressionq_initq (arrS [(0, 0), (0, 1), (0, 2)] [(.int 0)])) (aCons (eOp opIx (eVar 0) (eC (.int 1))) (aCons (eOp opIx (eVar 0) (eC (.int 0))) aNil)))))
noncomputable def m_made : List T → Hm → R T := run 1 b_made
theorem j_made (fx : Fx K mg base) {C : RC} (cf : Cf C PW w (SS fx) mg base N_made (defScope s_made) 4) (hfn : ∀ y, C.X.fn y = true) (hp : PassesOwn (model C.X.prog C.X.w) C.X.A C.X.env C.X.xe) (hex : C.X.ex = []) (h0 : HOk C.X.prog C.X.w C.X.H_0 C.X.s_0.heap) : JSs C (defBody s_made) b_made :=
    (jss_one (js_ret (je_if (jb_cmp op_isNT (v_ cf 0) je_non (by rfl)) je_non (call_ cf (FnX.make (ok_Progressionq_initq (w := w) fx) cf 0 B_Progressionq_initq_3 (mk_ok (fx.at_ 20)) (by decide)) (He.glo_ok fx.X fx.G (fx.at_ 3)) (ja_cons (je_ix cf.ok (v_ cf 0) je_int) (ja_cons (je_ix cf.ok (v_ cf 0) je_int) ja_nil))))))
theorem ok_made (fx : Fx K mg base) : FnX PW w (SS fx) mg base 5 d_made P_made m_made := by
  obtain ⟨fd, F⟩ := fx.q.def_ 11 (d := d_made) rfl
  exact ⟨fd, F, fn_ofG (S := (SS fx)) (N := N_made) F ⟨rfl, rfl, rfl, by decide +kernel, rfl, by decide +kernel, by decide +kernel⟩ fn_run fun C ok e1 e2 e3 e4 e5 e6 e7 e8 hfn hp _ _ hex h0 hq hcd => j_made fx ⟨ok, e1, e2, e3, e4, e5, e6, e7, e8⟩ hfn hp hex h0⟩

theorem B_made_1 : Bnd d_made P_made 1 [] [(0, 0)] [] := ⟨by decide, rfl, rfl, fun _ _ _ => .nil, .inl ⟨rfl, fun _ _ _ _ _ _ us ws h1 h2 => match us, ws, h1, h2 with
  | [_], [], _, _ => rfl⟩⟩
noncomputable def b_gcd_1b : SM :=
    (sPar 0 1 (aCons (eVar 1) (aCons (eOp opMod (eVar 0) (eVar 1)) aNil)))
noncomputable def b_gcd_1c : BT :=
    (bE (eOp opGt (eVar 1) (eC (.int 0))))
noncomputable def b_gcd_1 : SM :=
    (sWhile b_gcd_1c b_gcd_1b)
noncomputable def b_gcd_2 : SM :=
    (sRet (eVar 0))
noncomputable def b_gcd : SM :=
    (sSeq b_gcd_1
    b_gcd_2)
noncomputable def m_gcd : List T → Hm → R T := run 2 b_gcd
theorem j_gcd (fx : Fx K mg base) {C : RC} (cf : Cf C PW w (SS fx) mg base N_gcd (defScope s_gcd) 0) (hfn : ∀ y, C.X.fn y = true) (hp : PassesOwn (model C.X.prog C.X.w) C.X.A C.X.env C.X.xe) (hex : C.X.ex = []) (h0 : HOk C.X.prog C.X.w C.X.H_0 C.X.s_0.heap) : JSs C (defBody s_gcd) b_gcd :=
    (jss_cons (js_while hp (jb_cmp op_gtT (v_ cf 1) je_int (by rfl)) (jss_one (par_ cf (i := 0) (j := 1) (ja_cons (v_ cf 1) (ja_cons (je_op op_modT (v_ cf 0) (v_ cf 1)) ja_nil)))))
    (jss_one (js_ret (v_ cf 0))))
theorem ok_gcd (fx : Fx K mg base) : FnX PW w (SS fx) mg base 1 d_gcd P_gcd m_gcd := by
  obtain ⟨fd, F⟩ := fx.q.def_ 12 (d := d_gcd) rfl
  exact ⟨fd, F, fn_ofG (S := (SS fx)) (N := N_gcd) F ⟨rfl, rfl, rfl, by decide +kernel, rfl, by decide +kernel, by decide +kernel⟩ fn_run fun C ok e1 e2 e3 e4 e5 e6 e7 e8 hfn hp _ _ hex h0 hq hcd => j_gcd fx ⟨ok, e1, e2, e3, e4, e5, e6, e7, e8⟩ hfn hp hex h0⟩

theorem B_gcd_2 : Bnd d_gcd P_gcd 2 [] [(0, 0), (0, 1)] [] := ⟨by decide, rfl, rfl, fun _ _ _ => .nil, .inl ⟨rfl, fun _ _ _ _ _ _ us ws h1 h2 => match us, ws, h1, h2 with
  | [_, _], [], _, _ => rfl⟩⟩
noncomputable def b_inverse_1 : SM :=
    (sAsg (eTup (aCons (eOp opMod (eVar 0) (eVar 1)) (aCons (eVar 1) (aCons (eC (.int 1)) (aCons (eC (.int 0)) aNil))))) (gTp 4 (gsCons (gNm 2) (gsCons (gNm 3) (gsCons (gNm 4) (gsCons (gNm 5) gsNil))))))
noncomputable def b_inverse_2b_1 : SM :=
    (sSet 6 (eOp opFdiv (eVar 3) (eVar 2)))
noncomputable def b_inverse_2b_2 : SM :=
    (sPar 3 2 (aCons (eVar 2) (aCons (eOp opSub (eVar 3) (eOp opMul (eVar 6) (eVar 2))) aNil)))
noncomputable def b_inverse_2b_3 : SM :=
    (sPar 5 4 (aCons (eVar 4) (aCons (eOp opSub (eVar 5) (eOp opMul (eVar 6) (eVar 4))) aNil)))
noncomputable def b_inverse_2b : SM :=
    (sSeq b_inverse_2b_1
    (sSeq b_inverse_2b_2
    b_inverse_2b_3))
noncomputable def b_inverse_2c : BT :=
    (bE (eOp opGt (eVar 2) (eC (.int 0))))
noncomputable def b_inverse_2 : SM :=
    (sWhile b_inverse_2c b_inverse_2b)
noncomputable def b_inverse_3 : SM :=
    (sRet (eOp opMod (eVar 5) (eVar 1)))
noncomputable def b_inverse : SM :=
    (sSeq b_inverse_1
    (sSeq b_inverse_2
    b_inverse_3))
noncomputable def m_inverse : List T → Hm → R T := run 7 b_inverse
theorem j_inverse (fx : Fx K mg base) {C : RC} (cf : Cf C PW w (SS fx) mg base N_inverse (defScope s_inverse) 0) (hfn : ∀ y, C.X.fn y = true) (hp : PassesOwn (model C.X.prog C.X.w) C.X.A C.X.env C.X.xe) (hex : C.X.ex = []) (h0 : HOk C.X.prog C.X.w C.X.H_0 C.X.s_0.heap) : JSs C (defBody s_inverse) b_inverse :=
    (jss_cons (asg_ cf (je_tup (ja_cons (je_op op_modT (v_ cf 0) (v_ cf 1)) (ja_cons (v_ cf 1) (ja_cons je_int (ja_cons je_int ja_nil))))) (jg_tup cf.ok cf.cold (jgs_cons (gnm_ cf 2) (jgs_cons (gnm_ cf 3) (jgs_cons (gnm_ cf 4) (jgs_cons (gnm_ cf 5) jgs_nil))))))
    (jss_cons (js_while hp (jb_cmp op_gtT (v_ cf 2) je_int (by rfl)) (jss_cons (set_ cf 6 (je_op op_fdivT (v_ cf 3) (v_ cf 2)))
    (jss_cons (par_ cf (i := 3) (j := 2) (ja_cons (v_ cf 2) (ja_cons (je_op op_subT (v_ cf 3) (je_op op_mulT (v_ cf 6) (v_ cf 2))) ja_nil)))
    (jss_one (par_ cf (i := 5) (j := 4) (ja_cons (v_ cf 4) (ja_cons (je_op op_subT (v_ cf 5) (je_op op_mulT (v_ cf 6) (v_ cf 4))) ja_nil)))))))
    (jss_one (js_ret (je_op op_modT (v_ cf 5) (v_ cf 1))))))
theorem ok_inverse (fx : Fx K mg base) : FnX PW w (SS fx) mg base 1 d_inverse P_inverse m_inverse := by
  obtain ⟨fd, F⟩ := fx.q.def_ 13 (d := d_inverse) rfl
  exact ⟨fd, F, fn_ofG (S := (SS fx)) (N := N_inverse) F ⟨rfl, rfl, rfl, by decide +kernel, rfl, by decide +kernel, by decide +kernel⟩ fn_run fun C ok e1 e2 e3 e4 e5 e6 e7 e8 hfn hp _ _ hex h0 hq hcd => j_inverse fx ⟨ok, e1, e2, e3, e4, e5, e6, e7, e8⟩ hfn hp hex h0⟩

theorem B_inverse_2 : Bnd d_inverse P_inverse 2 [] [(0, 0), (0, 1)] [] := ⟨by decide, rfl, rfl, fun _ _ _ => .nil, .inl ⟨rfl, fun _ _ _ _ _ _ us ws h1 h2 => match us, ws, h1, h2 with
  | [_, _], [], _, _ => rfl⟩⟩
noncomputable def b_meet_1 : SM :=
    (sSet 2 (eCall 2 (fun xs zs h => m_gcd (arrS [(0, 0), (0, 1)] [] xs zs) h) (aCons (eOp opIx (eVar 0) (eC (.int 1))) (aCons (eOp opIx (eVar 1) (eC (.int 1))) aNil))))
noncomputable def b_meet_2 : SM :=
    (sSet 3 (eOp opSub (eOp opIx (eVar 1) (eC (.int 0))) (eOp opIx (eVar 0) (eC (.int 0)))))
noncomputable def b_meet_3 : SM :=
    (sIf (bE (eOp opNe (eOp opMod (eVar 3) (eVar 2)) (eC (.int 0)))) (sRet (eC .non)) sNext)
noncomputable def b_meet_4 : SM :=
    (sSet 4 (eOp opFdiv (eOp opIx (eVar 1) (eC (.int 1))) (eVar 2)))
noncomputable def b_meet_5 : SM :=
    (sSet 5 (eOp opMod (eOp opMul (eOp opFdiv (eVar 3) (eVar 2)) (eCall 2 (fun xs zs h => m_inverse (arrS [(0, 0), (0, 1)] [] xs zs) h) (aCons (eOp opFdiv (eOp opIx (eVar 0) (eC (.int 1))) (eVar 2)) (aCons (eVar 4) aNil)))) (eVar 4)))
noncomputable def b_meet_6 : SM :=
    (sRet (eTup (aCons (eOp opAdd (eOp opIx (eVar 0) (eC (.int 0))) (eOp opMul (eOp opIx (eVar 0) (eC (.int 1))) (eVar 5))) (aCons (eOp opMul (eOp opIx (eVar 0) (eC (.int 1))) (eVar 4)) aNil))))
noncomputable def b_meet : SM :=
    (sSeq b_meet_1
    (sSeq b_meet_2
    (sSeq b_meet_3
    (sSeq b_meet_4
    (sSeq b_meet_5
    b_meet_6)))))
noncomputable def m_meet : List T → Hm → R T := run 6 b_meet
theorem j_meet (fx : Fx K mg base) {C : RC} (cf : Cf C PW w (SS fx) mg base N_meet (defScope s_meet) 1) (hfn : ∀ y, C.X.fn y = true) (hp : PassesOwn (model C.X.prog C.X.w) C.X.A C.X.env C.X.xe) (hex : C.X.ex = []) (h0 : HOk C.X.prog C.X.w C.X.H_0 C.X.s_0.heap) : JSs C (defBody s_meet) b_meet :=
    (jss_cons (set_ cf 2 (call_ cf (FnX.ca (ok_gcd (w := w) fx) cf B_gcd_2 (by decide)) (He.glo_ok fx.X fx.G (fx.at_ 21)) (ja_cons (je_ix cf.ok (v_ cf 0) je_int) (ja_cons (je_ix cf.ok (v_ cf 1) je_int) ja_nil))))
    (jss_cons (set_ cf 3 (je_op op_subT (je_ix cf.ok (v_ cf 1) je_int) (je_ix cf.ok (v_ cf 0) je_int)))
    (jss_cons (js_if (jb_cmp (neP_ cf) (je_op op_modT (v_ cf 3) (v_ cf 2)) je_int (by rfl)) (jss_one (js_ret je_non)) jss_nil)
    (jss_cons (set_ cf 4 (je_op op_fdivT (je_ix cf.ok (v_ cf 1) je_int) (v_ cf 2)))
    (jss_cons (set_ cf 5 (je_op op_modT (je_op op_mulT (je_op op_fdivT (v_ cf 3) (v_ cf 2)) (call_ cf (FnX.ca (ok_inverse (w := w) fx) cf B_inverse_2 (by decide)) (He.glo_ok fx.X fx.G (fx.at_ 22)) (ja_cons (je_op op_fdivT (je_ix cf.ok (v_ cf 0) je_int) (v_ cf 2)) (ja_cons (v_ cf 4) ja_nil)))) (v_ cf 4)))
    (jss_one (js_ret (je_tup (ja_cons (je_op op_addT (je_ix cf.ok (v_ cf 0) je_int) (je_op op_mulT (je_ix cf.ok (v_ cf 0) je_int) (v_ cf 5))) (ja_cons (je_op op_mulT (je_ix cf.ok (v_ cf 0) je_int) (v_ cf 4)) ja_nil))))))))))
theorem ok_meet (fx : Fx K mg base) : FnX PW w (SS fx) mg base 2 d_meet P_meet m_meet := by
  obtain ⟨fd, F⟩ := fx.q.def_ 14 (d := d_meet) rfl
  exact ⟨fd, F, fn_ofG (S := (SS fx)) (N := N_meet) F ⟨rfl, rfl, rfl, by decide +kernel, rfl, by decide +kernel, by decide +kernel⟩ fn_run fun C ok e1 e2 e3 e4 e5 e6 e7 e8 hfn hp _ _ hex h0 hq hcd => j_meet fx ⟨ok, e1, e2, e3, e4, e5, e6, e7, e8⟩ hfn hp hex h0⟩

theorem B_meet_2 : Bnd d_meet P_meet 2 [] [(0, 0), (0, 1)] [] := ⟨by decide, rfl, rfl, fun _ _ _ => .nil, .inl ⟨rfl, fun _ _ _ _ _ _ us ws h1 h2 => match us, ws, h1, h2 with
  | [_, _], [], _, _ => rfl⟩⟩
noncomputable def b_Progressionq_andq : SM :=
    (sRet (eCall 1 (fun xs zs h => m_made (arrS [(0, 0)] [] xs zs) h) (aCons (eCall 2 (fun xs zs h => m_meet (arrS [(0, 0), (0, 1)] [] xs zs) h) (aCons (eTup (aCons (eFld [0] 1 (eVar 0)) (aCons (eFld [0] 0 (eVar 0)) aNil))) (aCons (eTup (aCons (eFld [0] 1 (eVar 1)) (aCons (eFld [0] 0 (eVar 1)) aNil))) aNil))) aNil)))
noncomputable def m_Progressionq_andq : List T → Hm → R T := run 2 b_Progressionq_andq
theorem j_Progressionq_andq (fx : Fx K mg base) {C : RC} (cf : Cf C PW w (SS fx) mg base N_Progressionq_andq (defScope s_Progressionq_andq) 5) (hfn : ∀ y, C.X.fn y = true) (hp : PassesOwn (model C.X.prog C.X.w) C.X.A C.X.env C.X.xe) (hex : C.X.ex = []) (h0 : HOk C.X.prog C.X.w C.X.H_0 C.X.s_0.heap) : JSs C (defBody s_Progressionq_andq) b_Progressionq_andq :=
    (jss_one (js_ret (call_ cf (FnX.ca (ok_made (w := w) fx) cf B_made_1 (by decide)) (He.glo_ok fx.X fx.G (fx.at_ 24)) (ja_cons (call_ cf (FnX.ca (ok_meet (w := w) fx) cf B_meet_2 (by decide)) (He.glo_ok fx.X fx.G (fx.at_ 23)) (ja_cons (je_tup (ja_cons (fld_ cf [0] 1 (v_ cf 0) (fx_fld_first fx)) (ja_cons (fld_ cf [0] 0 (v_ cf 0) (fx_fld_step fx)) ja_nil))) (ja_cons (je_tup (ja_cons (fld_ cf [0] 1 (v_ cf 1) (fx_fld_first fx)) (ja_cons (fld_ cf [0] 0 (v_ cf 1) (fx_fld_step fx)) ja_nil))) ja_nil))) ja_nil))))
theorem ok_Progressionq_andq (fx : Fx K mg base) : FnX PW w (SS fx) mg base 6 d_Progressionq_andq P_Progressionq_andq m_Progressionq_andq := by
  obtain ⟨fd, F⟩ := fx.q.def_ 15 (d := d_Progressionq_andq) rfl
  exact ⟨fd, F, fn_ofG (S := (SS fx)) (N := N_Progressionq_andq) F ⟨rfl, rfl, rfl, by decide +kernel, rfl, by decide +kernel, by decide +kernel⟩ fn_run fun C ok e1 e2 e3 e4 e5 e6 e7 e8 hfn hp _ _ hex h0 hq hcd => j_Progressionq_andq fx ⟨ok, e1, e2, e3, e4, e5, e6, e7, e8⟩ hfn hp hex h0⟩

theorem B_Progressionq_andq_2 : Bnd d_Progressionq_andq P_Progressionq_andq 2 [] [(0, 0), (0, 1)] [] := ⟨by decide, rfl, rfl, fun _ _ _ => .nil, .inl ⟨rfl, fun _ _ _ _ _ _ us ws h1 h2 => match us, ws, h1, h2 with
  | [_, _], [], _, _ => rfl⟩⟩
noncomputable def ms_qandq : Ms := fun c => match c with
  | 0 => some (fun xs h => m_Progressionq_andq (arrS [(0, 0), (0, 1)] [] xs []) h)
  | _ => none
theorem du_qandq (fx : Fx K mg base) {C : RC} {N : List Str} {sc : Scope} {k : Nat} (cf : Cf C PW w (SS fx) mg base N sc k) : DuOk C 6 "__and__" 2 ms_qandq := by
  refine du_of cf fun c g e => ?_
  unfold ms_qandq at e
  split at e
  · cases e; exact ⟨_, (du_ok (x := "Progression") (m := "__and__") (fx.at_ 131)).1, (du_ok (x := "Progression") (m := "__and__") (fx.at_ 131)).2, (ok_Progressionq_andq (w := w) fx).caA cf B_Progressionq_andq_2⟩
  · cases e
theorem self_qandq (fx : Fx K mg base) : ∀ c g, ms_qandq c = some g → PySem.W.selfFirst (SS fx).K ((SS fx).cls c) = true := by
  intro c g e
  unfold ms_qandq at e
  split at e
  · exact fx.at_ (f := ckSelf "Progression") 132
  · cases e
noncomputable def b__law_whole : SM :=
    (sRet (eAnd (eCB (gIsiS 1 TAB XC) (aCons (eVar 0) (aCons (eC (.ty "int")) aNil))) (eAnd (eNotT asB (eCB (gIsiS 1 TAB XC) (aCons (eVar 0) (aCons (eC (.ty "bool")) aNil)))) (eOp opGe (eVar 0) (eVar 1)))))
noncomputable def m__law_whole : List T → Hm → R T := run 2 b__law_whole
theorem j__law_whole (fx : Fx K mg base) {C : RC} (cf : Cf C PW w (SS fx) mg base N__law_whole (defScope s__law_whole) 0) (hfn : ∀ y, C.X.fn y = true) (hp : PassesOwn (model C.X.prog C.X.w) C.X.A C.X.env C.X.xe) (hex : C.X.ex = []) (h0 : HOk C.X.prog C.X.w C.X.H_0 C.X.s_0.heap) : JSs C (defBody s__law_whole) b__law_whole :=
    (jss_one (js_ret (je_and (cb_ cf (isiS_ cf (fx_is fx) (fx_xi fx)) (He.free_ok fx.X fx.G (fx.at_ 4)) (ja_cons (v_ cf 0) (ja_cons (ty_ cf (He.free_ok fx.X fx.G (fx.at_ 6))) ja_nil))) (je_and (je_not tr_bool (cb_ cf (isiS_ cf (fx_is fx) (fx_xi fx)) (He.free_ok fx.X fx.G (fx.at_ 4)) (ja_cons (v_ cf 0) (ja_cons (ty_ cf (He.free_ok fx.X fx.G (fx.at_ 5))) ja_nil)))) (je_one (je_cmp op_geT (v_ cf 0) (v_ cf 1) (by rfl)))))))
theorem ok__law_whole (fx : Fx K mg base) : FnX PW w (SS fx) mg base 1 d__law_whole P__law_whole m__law_whole := by
  obtain ⟨fd, F⟩ := fx.q.def_ 16 (d := d__law_whole) rfl
  exact ⟨fd, F, fn_ofG (S := (SS fx)) (N := N__law_whole) F ⟨rfl, rfl, rfl, by decide +kernel, rfl, by decide +kernel, by decide +kernel⟩ fn_run fun C ok e1 e2 e3 e4 e5 e6 e7 e8 hfn hp _ _ hex h0 hq hcd => j__law_whole fx ⟨ok, e1, e2, e3, e4, e5, e6, e7, e8⟩ hfn hp hex h0⟩

theorem B__law_whole_2 : Bnd d__law_whole P__law_whole 2 [] [(0, 0), (0, 1)] [] := ⟨by decide, rfl, rfl, fun _ _ _ => .nil, .inl ⟨rfl, fun _ _ _ _ _ _ us ws h1 h2 => match us, ws, h1, h2 with
  | [_, _], [], _, _ => rfl⟩⟩
noncomputable def b__law_kind_1 : SM :=
    (sSet 1 (eLst (aCons (eCB (gIsiS 1 TAB XC) (aCons (eVar 0) (aCons (eC (.cl 1)) aNil))) (aCons (eCB (gIsiS 1 TAB XC) (aCons (eVar 0) (aCons (eC (.cl 2)) aNil))) (aCons (eCB (gIsiS 1 TAB XC) (aCons (eVar 0) (aCons (eC (.cl 3)) aNil))) aNil)))))
noncomputable def b__law_kind_2 : SM :=
    (sSet 1 (eOp opAddL (eVar 1) (eLst (aCons (eCB (gIsiS 1 TAB XC) (aCons (eVar 0) (aCons (eC (.cl 4)) aNil))) (aCons (eCB (gIsiS 1 TAB XC) (aCons (eVar 0) (aCons (eC (.cl 5)) aNil))) (aCons (eCB (gIsiS 1 TAB XC) (aCons (eVar 0) (aCons (eC (.cl 6)) aNil))) aNil))))))
noncomputable def b__law_kind_3 : SM :=
    (sSet 1 (eOp opAddL (eVar 1) (eLst (aCons (eCB (gIsiS 1 TAB XC) (aCons (eVar 0) (aCons (eC (.cl 7)) aNil))) (aCons (eCB (gIsiS 1 TAB XC) (aCons (eVar 0) (aCons (eC (.cl 8)) aNil))) (aCons (eCB (gIsiS 1 TAB XC) (aCons (eVar 0) (aCons (eC (.cl 9)) aNil))) aNil))))))
noncomputable def b__law_kind_4 : SM :=
    (sSet 1 (eOp opAddL (eVar 1) (eLst (aCons (eCB (gIsiS 1 TAB XC) (aCons (eVar 0) (aCons (eC (.cl 10)) aNil))) (aCons (eCB (gIsiS 1 TAB XC) (aCons (eVar 0) (aCons (eC (.cl 11)) aNil))) (aCons (eCB (gIsiS 1 TAB XC) (aCons (eVar 0) (aCons (eC (.cl 12)) aNil))) aNil))))))
noncomputable def b__law_kind_5 : SM :=
    (sSet 1 (eOp opAddL (eVar 1) (eLst (aCons (eCB (gIsiS 1 TAB XC) (aCons (eVar 0) (aCons (eC (.cl 13)) aNil))) (aCons (eCB (gIsiS 1 TAB XC) (aCons (eVar 0) (aCons (eC (.cl 14)) aNil))) (aCons (eCB (gIsiS 1 TAB XC) (aCons (eVar 0) (aCons (eC (.cl 15)) aNil))) aNil))))))
noncomputable def b__law_kind_6 : SM :=
    (sSet 1 (eOp opAddL (eVar 1) (eLst (aCons (eCB (gIsiS 1 TAB XC) (aCons (eVar 0) (aCons (eC (.cl 16)) aNil))) (aCons (eCB (gIsiS 1 TAB XC) (aCons (eVar 0) (aCons (eC (.cl 17)) aNil))) (aCons (eCB (gIsiS 1 TAB XC) (aCons (eVar 0) (aCons (eC (.cl 18)) aNil))) aNil))))))
noncomputable def b__law_kind_7 : SM :=
    (sSet 1 (eOp opAddL (eVar 1) (eLst (aCons (eCB (gIsiS 1 TAB XC) (aCons (eVar 0) (aCons (eC (.cl 19)) aNil))) (aCons (eCB (gIsiS 1 TAB XC) (aCons (eVar 0) (aCons (eC (.cl 20)) aNil))) (aCons (eCB (gIsiS 1 TAB XC) (aCons (eVar 0) (aCons (eC (.cl 21)) aNil))) aNil))))))
noncomputable def b__law_kind_8 : SM :=
    (sSet 1 (eOp opAddL (eVar 1) (eLst (aCons (eCB (gIsiS 1 TAB XC) (aCons (eVar 0) (aCons (eC (.cl 22)) aNil))) (aCons (eCB (gIsiS 1 TAB XC) (aCons (eVar 0) (aCons (eC (.cl 23)) aNil))) (aCons (eCB (gIsiS 1 TAB XC) (aCons (eVar 0) (aCons (eC (.cl 24)) aNil))) aNil))))))
noncomputable def b__law_kind_9 : SM :=
    (sSet 2 (eLst (aCons (eCB (gIsiS 1 TAB XC) (aCons (eVar 0) (aCons (eC (.cl 25)) aNil))) (aCons (eCB (gIsiS 1 TAB XC) (aCons (eVar 0) (aCons (eC (.cl 26)) aNil))) (aCons (eCB (gIsiS 1 TAB XC) (aCons (eVar 0) (aCons (eC (.cl 27)) aNil))) aNil)))))
noncomputable def b__law_kind_10 : SM :=
    (sSet 3 (eLst (aCons (eCB (gIsiS 1 TAB XC) (aCons (eVar 0) (aCons (eC (.ty "ValueError")) aNil))) (aCons (eCB (gIsiS 1 TAB XC) (aCons (eVar 0) (aCons (eC (.ty "LookupError")) aNil))) (aCons (eCB (gIsiS 1 TAB XC) (aCons (eVar 0) (aCons (eC (.ty "ArithmeticError")) aNil))) aNil)))))
noncomputable def b__law_kind_11 : SM :=
    (sIf (bOr (bE (eOp (opNeK 1 OW) (eLM fCountB (eVar 1) (aCons (eC (.bl true)) aNil)) (eC (.int 1)))) (bE (eOp (opNeK 1 OW) (eVar 3) (eVar 2)))) (sRet (eOp opSub (eC (.int 0)) (eC (.int 1)))) sNext)
noncomputable def b__law_kind_12 : SM :=
    (sSet 4 (eLM fIndexB (eVar 1) (aCons (eC (.bl true)) aNil)))
noncomputable def b__law_kind_13 : SM :=
    (sRet (eIf (bE (eOp (opEqK 1 OW) (eVar 2) (eLst (aCons (eOp opLt (eVar 4) (eC (.int 14))) (aCons (eChain opLt opLt (eC (.int 13)) (eVar 4) (eC (.int 20))) (aCons (eOp opGt (eVar 4) (eC (.int 19))) aNil)))))) (eVar 4) (eOp opSub (eC (.int 0)) (eC (.int 1)))))
noncomputable def b__law_kind : SM :=
    (sSeq b__law_kind_1
    (sSeq b__law_kind_2
    (sSeq b__law_kind_3
    (sSeq b__law_kind_4
    (sSeq b__law_kind_5
    (sSeq b__law_kind_6
    (sSeq b__law_kind_7
    (sSeq b__law_kind_8
    (sSeq b__law_kind_9
    (sSeq b__law_kind_10
    (sSeq b__law_kind_11
    (sSeq b__law_kind_12
    b__law_kind_13))))))))))))
noncomputable def m__law_kind : List T → Hm → R T := run 5 b__law_kind
theorem j__law_kind (fx : Fx K mg base) {m : Option (Addr × Obj)} {l : Option Lam} {C : RC} (cf : Cf C PW w ((S0 fx).md m l) mg base N__law_kind (defScope s__law_kind) 2) (hfn : ∀ y, C.X.fn y = true) (hp : PassesOwn (model C.X.prog C.X.w) C.X.A C.X.env C.X.xe) (hex : C.X.ex = []) (h0 : HOk C.X.prog C.X.w C.X.H_0 C.X.s_0.heap) : JSs C (defBody s__law_kind) b__law_kind :=
    (jss_cons (set_ cf 1 (je_lst (ja_cons (cb_ cf (isiS_ cf (fx_is fx) (fx_xi fx)) (He.free_ok fx.X fx.G (fx.at_ 4)) (ja_cons (v_ cf 0) (ja_cons (cl_ cf 1 (He.glo_ok fx.X fx.G (fx.at_ 12))) ja_nil))) (ja_cons (cb_ cf (isiS_ cf (fx_is fx) (fx_xi fx)) (He.free_ok fx.X fx.G (fx.at_ 4)) (ja_cons (v_ cf 0) (ja_cons (cl_ cf 2 (He.glo_ok fx.X fx.G (fx.at_ 18))) ja_nil))) (ja_cons (cb_ cf (isiS_ cf (fx_is fx) (fx_xi fx)) (He.free_ok fx.X fx.G (fx.at_ 4)) (ja_cons (v_ cf 0) (ja_cons (cl_ cf 3 (He.glo_ok fx.X fx.G (fx.at_ 27))) ja_nil))) ja_nil)))))
    (jss_cons (set_ cf 1 (je_op (op_addL cf.ok) (v_ cf 1) (je_lst (ja_cons (cb_ cf (isiS_ cf (fx_is fx) (fx_xi fx)) (He.free_ok fx.X fx.G (fx.at_ 4)) (ja_cons (v_ cf 0) (ja_cons (cl_ cf 4 (He.glo_ok fx.X fx.G (fx.at_ 30))) ja_nil))) (ja_cons (cb_ cf (isiS_ cf (fx_is fx) (fx_xi fx)) (He.free_ok fx.X fx.G (fx.at_ 4)) (ja_cons (v_ cf 0) (ja_cons (cl_ cf 5 (He.glo_ok fx.X fx.G (fx.at_ 29))) ja_nil))) (ja_cons (cb_ cf (isiS_ cf (fx_is fx) (fx_xi fx)) (He.free_ok fx.X fx.G (fx.at_ 4)) (ja_cons (v_ cf 0) (ja_cons (cl_ cf 6 (He.glo_ok fx.X fx.G (fx.at_ 28))) ja_nil))) ja_nil))))))
    (jss_cons (set_ cf 1 (je_op (op_addL cf.ok) (v_ cf 1) (je_lst (ja_cons (cb_ cf (isiS_ cf (fx_is fx) (fx_xi fx)) (He.free_ok fx.X fx.G (fx.at_ 4)) (ja_cons (v_ cf 0) (ja_cons (cl_ cf 7 (He.glo_ok fx.X fx.G (fx.at_ 33))) ja_nil))) (ja_cons (cb_ cf (isiS_ cf (fx_is fx) (fx_xi fx)) (He.free_ok fx.X fx.G (fx.at_ 4)) (ja_cons (v_ cf 0) (ja_cons (cl_ cf 8 (He.glo_ok fx.X fx.G (fx.at_ 32))) ja_nil))) (ja_cons (cb_ cf (isiS_ cf (fx_is fx) (fx_xi fx)) (He.free_ok fx.X fx.G (fx.at_ 4)) (ja_cons (v_ cf 0) (ja_cons (cl_ cf 9 (He.glo_ok fx.X fx.G (fx.at_ 31))) ja_nil))) ja_nil))))))
    (jss_cons (set_ cf 1 (je_op (op_addL cf.ok) (v_ cf 1) (je_lst (ja_cons (cb_ cf (isiS_ cf (fx_is fx) (fx_xi fx)) (He.free_ok fx.X fx.G (fx.at_ 4)) (ja_cons (v_ cf 0) (ja_cons (cl_ cf 10 (He.glo_ok fx.X fx.G (fx.at_ 36))) ja_nil))) (ja_cons (cb_ cf (isiS_ cf (fx_is fx) (fx_xi fx)) (He.free_ok fx.X fx.G (fx.at_ 4)) (ja_cons (v_ cf 0) (ja_cons (cl_ cf 11 (He.glo_ok fx.X fx.G (fx.at_ 35))) ja_nil))) (ja_cons (cb_ cf (isiS_ cf (fx_is fx) (fx_xi fx)) (He.free_ok fx.X fx.G (fx.at_ 4)) (ja_cons (v_ cf 0) (ja_cons (cl_ cf 12 (He.glo_ok fx.X fx.G (fx.at_ 34))) ja_nil))) ja_nil))))))
    (jss_cons (set_ cf 1 (je_op (op_addL cf.ok) (v_ cf 1) (je_lst (ja_cons (cb_ cf (isiS_ cf (fx_is fx) (fx_xi fx)) (He.free_ok fx.X fx.G (fx.at_ 4)) (ja_cons (v_ cf 0) (ja_cons (cl_ cf 13 (He.glo_ok fx.X fx.G (fx.at_ 39))) ja_nil))) (ja_cons (cb_ cf (isiS_ cf (fx_is fx) (fx_xi fx)) (He.free_ok fx.X fx.G (fx.at_ 4)) (ja_cons (v_ cf 0) (ja_cons (cl_ cf 14 (He.glo_ok fx.X fx.G (fx.at_ 38))) ja_nil))) (ja_cons (cb_ cf (isiS_ cf (fx_is fx) (fx_xi fx)) (He.free_ok fx.X fx.G (fx.at_ 4)) (ja_cons (v_ cf 0) (ja_cons (cl_ cf 15 (He.glo_ok fx.X fx.G (fx.at_ 37))) ja_nil))) ja_nil))))))
    (jss_cons (set_ cf 1 (je_op (op_addL cf.ok) (v_ cf 1) (je_lst (ja_cons (cb_ cf (isiS_ cf (fx_is fx) (fx_xi fx)) (He.free_ok fx.X fx.G (fx.at_ 4)) (ja_cons (v_ cf 0) (ja_cons (cl_ cf 16 (He.glo_ok fx.X fx.G (fx.at_ 42))) ja_nil))) (ja_cons (cb_ cf (isiS_ cf (fx_is fx) (fx_xi fx)) (He.free_ok fx.X fx.G (fx.at_ 4)) (ja_cons (v_ cf 0) (ja_cons (cl_ cf 17 (He.glo_ok fx.X fx.G (fx.at_ 41))) ja_nil))) (ja_cons (cb_ cf (isiS_ cf (fx_is fx) (fx_xi fx)) (He.free_ok fx.X fx.G (fx.at_ 4)) (ja_cons (v_ cf 0) (ja_cons (cl_ cf 18 (He.glo_ok fx.X fx.G (fx.at_ 40))) ja_nil))) ja_nil))))))
    (jss_cons (set_ cf 1 (je_op (op_addL cf.ok) (v_ cf 1) (je_lst (ja_cons (cb_ cf (isiS_ cf (fx_is fx) (fx_xi fx)) (He.free_ok fx.X fx.G (fx.at_ 4)) (ja_cons (v_ cf 0) (ja_cons (cl_ cf 19 (He.glo_ok fx.X fx.G (fx.at_ 45))) ja_nil))) (ja_cons (cb_ cf (isiS_ cf (fx_is fx) (fx_xi fx)) (He.free_ok fx.X fx.G (fx.at_ 4)) (ja_cons (v_ cf 0) (ja_cons (cl_ cf 20 (He.glo_ok fx.X fx.G (fx.at_ 44))) ja_nil))) (ja_cons (cb_ cf (isiS_ cf (fx_is fx) (fx_xi fx)) (He.free_ok fx.X fx.G (fx.at_ 4)) (ja_cons (v_ cf 0) (ja_cons (cl_ cf 21 (He.glo_ok fx.X fx.G (fx.at_ 43))) ja_nil))) ja_nil))))))
    (jss_cons (set_ cf 1 (je_op (op_addL cf.ok) (v_ cf 1) (je_lst (ja_cons (cb_ cf (isiS_ cf (fx_is fx) (fx_xi fx)) (He.free_ok fx.X fx.G (fx.at_ 4)) (ja_cons (v_ cf 0) (ja_cons (cl_ cf 22 (He.glo_ok fx.X fx.G (fx.at_ 48))) ja_nil))) (ja_cons (cb_ cf (isiS_ cf (fx_is fx) (fx_xi fx)) (He.free_ok fx.X fx.G (fx.at_ 4)) (ja_cons (v_ cf 0) (ja_cons (cl_ cf 23 (He.glo_ok fx.X fx.G (fx.at_ 47))) ja_nil))) (ja_cons (cb_ cf (isiS_ cf (fx_is fx) (fx_xi fx)) (He.free_ok fx.X fx.G (fx.at_ 4)) (ja_cons (v_ cf 0) (ja_cons (cl_ cf 24 (He.glo_ok fx.X fx.G (fx.at_ 46))) ja_nil))) ja_nil))))))
    (jss_cons (set_ cf 2 (je_lst (ja_cons (cb_ cf (isiS_ cf (fx_is fx) (fx_xi fx)) (He.free_ok fx.X fx.G (fx.at_ 4)) (ja_cons (v_ cf 0) (ja_cons (cl_ cf 25 (He.glo_ok fx.X fx.G (fx.at_ 51))) ja_nil))) (ja_cons (cb_ cf (isiS_ cf (fx_is fx) (fx_xi fx)) (He.free_ok fx.X fx.G (fx.at_ 4)) (ja_cons (v_ cf 0) (ja_cons (cl_ cf 26 (He.glo_ok fx.X fx.G (fx.at_ 50))) ja_nil))) (ja_cons (cb_ cf (isiS_ cf (fx_is fx) (fx_xi fx)) (He.free_ok fx.X fx.G (fx.at_ 4)) (ja_cons (v_ cf 0) (ja_cons (cl_ cf 27 (He.glo_ok fx.X fx.G (fx.at_ 49))) ja_nil))) ja_nil)))))
    (jss_cons (set_ cf 3 (je_lst (ja_cons (cb_ cf (isiS_ cf (fx_is fx) (fx_xi fx)) (He.free_ok fx.X fx.G (fx.at_ 4)) (ja_cons (v_ cf 0) (ja_cons (ty_ cf (He.free_ok fx.X fx.G (fx.at_ 54))) ja_nil))) (ja_cons (cb_ cf (isiS_ cf (fx_is fx) (fx_xi fx)) (He.free_ok fx.X fx.G (fx.at_ 4)) (ja_cons (v_ cf 0) (ja_cons (ty_ cf (He.free_ok fx.X fx.G (fx.at_ 53))) ja_nil))) (ja_cons (cb_ cf (isiS_ cf (fx_is fx) (fx_xi fx)) (He.free_ok fx.X fx.G (fx.at_ 4)) (ja_cons (v_ cf 0) (ja_cons (ty_ cf (He.free_ok fx.X fx.G (fx.at_ 52))) ja_nil))) ja_nil)))))
    (jss_cons (js_if (JW.jb (jw_or (jb_cmp (neK_ cf (fx_is fx) (oe fx cf) (by decide)) (cnt_ cf (v_ cf 1) (ja_cons je_bl ja_nil)) je_int (by rfl)) (jw_one (jb_cmp (neK_ cf (fx_is fx) (oe fx cf) (by decide)) (v_ cf 3) (v_ cf 2) (by rfl))))) (jss_one (js_ret (je_op op_subT je_int je_int))) jss_nil)
    (jss_cons (set_ cf 4 (idx_ cf (v_ cf 1) (ja_cons je_bl ja_nil)))
    (jss_one (js_ret (je_if (jb_cmp (eqK_ cf (fx_is fx) (oe fx cf) (by decide)) (v_ cf 2) (je_lst (ja_cons (je_cmp op_ltT' (v_ cf 4) je_int (by rfl)) (ja_cons (je_chain op_ltT' op_ltT' je_int (v_ cf 4) je_int) (ja_cons (je_cmp op_gtT (v_ cf 4) je_int (by rfl)) ja_nil)))) (by rfl)) (v_ cf 4) (je_op op_subT je_int je_int))))))))))))))))
theorem ok__law_kind (fx : Fx K mg base) {m : Option (Addr × Obj)} {l : Option Lam} : FnX PW w ((S0 fx).md m l) mg base 3 d__law_kind P__law_kind m__law_kind := by
  obtain ⟨fd, F⟩ := fx.q.def_ 17 (d := d__law_kind) rfl
  exact ⟨fd, F, fn_ofG (S := ((S0 fx).md m l)) (N := N__law_kind) F ⟨rfl, rfl, rfl, by decide +kernel, rfl, by decide +kernel, by decide +kernel⟩ fn_run fun C ok e1 e2 e3 e4 e5 e6 e7 e8 hfn hp _ _ hex h0 hq hcd => j__law_kind fx ⟨ok, e1, e2, e3, e4, e5, e6, e7, e8⟩ hfn hp hex h0⟩

theorem B__law_kind_1 : Bnd d__law_kind P__law_kind 1 [] [(0, 0)] [] := ⟨by decide, rfl, rfl, fun _ _ _ => .nil, .inl ⟨rfl, fun _ _ _ _ _ _ us ws h1 h2 => match us, ws, h1, h2 with
  | [_], [], _, _ => rfl⟩⟩
noncomputable def b__law_caught_1x_1 (act : ET) : SM :=
    (sSet 2 (eCall 1 (fun xs zs h => m__law_kind (arrS [(0, 0)] [] xs zs) h) (aCons (eVar 1) aNil)))
noncomputable def b__law_caught_1x_2 (act : ET) : SM :=
    (sIf (bE (eOp (opEqK 1 OW) (eVar 2) (eC (.int 0)))) (sRet (eLst (aCons (eVar 2) (aCons (eCB (gReprE ms_qreprq) (aCons (eXfld [1, 17] 2 (eVar 1)) aNil)) aNil)))) sNext)
noncomputable def b__law_caught_1x_3 (act : ET) : SM :=
    (sIf (bE (eOp (opEqK 1 OW) (eVar 2) (eC (.int 1)))) (sRet (eLst (aCons (eVar 2) (aCons (eCB (gReprE ms_qreprq) (aCons (eXfld [2, 23] 0 (eVar 1)) aNil)) aNil)))) sNext)
noncomputable def b__law_caught_1x_4 (act : ET) : SM :=
    (sRet (eLst (aCons (eVar 2) (aCons (eIf (bE (eOp (opEqK 1 OW) (eVar 2) (eC (.int 2)))) (eCB (gReprE ms_qreprq) (aCons (eXfld [3, 9] 3 (eVar 1)) aNil)) (eIf (bE (eOp (opEqK 1 OW) (eVar 2) (eC (.int 3)))) (eCB (gReprE ms_qreprq) (aCons (eXfld [4, 7, 10, 11, 12, 14] 4 (eVar 1)) aNil)) (eC (.str "")))) aNil))))
noncomputable def b__law_caught_1x (act : ET) : SM :=
    (sSeq (b__law_caught_1x_1 act)
    (sSeq (b__law_caught_1x_2 act)
    (sSeq (b__law_caught_1x_3 act)
    (b__law_caught_1x_4 act))))
noncomputable def b__law_caught_1 (act : ET) : SM :=
    (sTryAs XC 1 (sExpr act) (b__law_caught_1x act))
noncomputable def b__law_caught_2 (act : ET) : SM :=
    (sRet (eLst aNil))
noncomputable def b__law_caught (act : ET) : SM :=
    (sSeq (b__law_caught_1 act)
    (b__law_caught_2 act))
noncomputable def m__law_caught (act : ET) : List T → Hm → R T := run 3 (b__law_caught act)
theorem j__law_caught (fx : Fx K mg base) {act : ET} {l : Option Lam} {C : RC} (cf : Cf C PW w ((S0 fx).md none l) mg base N__law_caught (defScope s__law_caught) 100) (hst : C.X.stack = C.X.env :: C.X.outer) (hfr : C.X.env.frame = some C.X.env.locals) (hact : ∀ (W : WX) (pn : List (Addr × Obj)) (xe : Value → Shared → Prop) (p1 p2 : Pos), Takes (C.X.tr pn xe) W → JE (RT.tryR C W pn xe) (.Call (.Name "_law_act" p1) [] [] p2) act) : JSs C (defBody s__law_caught) (b__law_caught act) :=
    (jss_cons (tryAs_ cf hst hfr 1 (exT_tup3 (cf.gl rfl) (cf.gl rfl) (cf.gl rfl) (cf.mgE (He.glo_ok fx.X fx.G (fx.at_ 51))) (cf.mgE (He.glo_ok fx.X fx.G (fx.at_ 50))) (cf.mgE (He.glo_ok fx.X fx.G (fx.at_ 49)))) (exm_ok (fx.at_ 78)) (fun W pn xe tk _ => (jss_one (js_expr (hact W pn xe _ _ tk)))) (fun _ _ _ c1 => (jss_cons (set_ c1 2 (call_ c1 (FnX.ca (ok__law_kind (w := w) fx) c1 B__law_kind_1 (by decide)) (He.glo_ok fx.X fx.G (fx.at_ 55)) (ja_cons (v_ c1 1) ja_nil)))
    (jss_cons (js_if (jb_cmp (eqK_ c1 (fx_is fx) (oe fx c1) (by decide)) (v_ c1 2) je_int (by rfl)) (jss_one (js_ret (je_lst (ja_cons (v_ c1 2) (ja_cons (cb_ c1 (reprE_ c1 ((du_qreprq (sc := _) fx c1)) (by decide) (by decide) (by decide)) (He.free_ok fx.X fx.G (fx.at_ 26)) (ja_cons (xfld_ c1 [1, 17] 2 (v_ c1 1) (fx_xfld_number fx)) ja_nil)) ja_nil))))) jss_nil)
    (jss_cons (js_if (jb_cmp (eqK_ c1 (fx_is fx) (oe fx c1) (by decide)) (v_ c1 2) je_int (by rfl)) (jss_one (js_ret (je_lst (ja_cons (v_ c1 2) (ja_cons (cb_ c1 (reprE_ c1 ((du_qreprq (sc := _) fx c1)) (by decide) (by decide) (by decide)) (He.free_ok fx.X fx.G (fx.at_ 26)) (ja_cons (xfld_ c1 [2, 23] 0 (v_ c1 1) (fx_xfld_step fx)) ja_nil)) ja_nil))))) jss_nil)
    (jss_one (js_ret (je_lst (ja_cons (v_ c1 2) (ja_cons (je_if (jb_cmp (eqK_ c1 (fx_is fx) (oe fx c1) (by decide)) (v_ c1 2) je_int (by rfl)) (cb_ c1 (reprE_ c1 ((du_qreprq (sc := _) fx c1)) (by decide) (by decide) (by decide)) (He.free_ok fx.X fx.G (fx.at_ 26)) (ja_cons (xfld_ c1 [3, 9] 3 (v_ c1 1) (fx_xfld_value fx)) ja_nil)) (je_if (jb_cmp (eqK_ c1 (fx_is fx) (oe fx c1) (by decide)) (v_ c1 2) je_int (by rfl)) (cb_ c1 (reprE_ c1 ((du_qreprq (sc := _) fx c1)) (by decide) (by decide) (by decide)) (He.free_ok fx.X fx.G (fx.at_ 26)) (ja_cons (xfld_ c1 [4, 7, 10, 11, 12, 14] 4 (v_ c1 1) (fx_xfld_index fx)) ja_nil)) je_str)) ja_nil))))))))))
    (jss_one (js_ret (je_lst ja_nil))))
noncomputable def b__law_made_right_1 : SM :=
    (sSet 2 (eIf (bAnd (bE (eCall 2 (fun xs zs h => m__law_whole (arrS [(0, 0), (0, 1)] [] xs zs) h) (aCons (eVar 1) (aCons (eC (.int 0)) aNil)))) (bAnd (bE (eCall 2 (fun xs zs h => m__law_whole (arrS [(0, 0), (0, 1)] [] xs zs) h) (aCons (eVar 0) (aCons (eC (.int 1)) aNil)))) (bE (eOp opLt (eVar 1) (eVar 0))))) (eLst aNil) (eLst (aCons (eC (.int 0)) (aCons (eCB (gReprE ms_qreprq) (aCons (eVar 1) aNil)) aNil)))))
noncomputable def b__law_made_right_2 : SM :=
    (sSet 2 (eIf (bE (eCall 2 (fun xs zs h => m__law_whole (arrS [(0, 0), (0, 1)] [] xs zs) h) (aCons (eVar 0) (aCons (eC (.int 1)) aNil)))) (eVar 2) (eLst (aCons (eC (.int 1)) (aCons (eCB (gReprE ms_qreprq) (aCons (eVar 0) aNil)) aNil)))))
noncomputable def l__law_made_right_1 : ET :=
    (eCall 2 (mkO 0 m_Progressionq_initq (arrS [(0, 0), (0, 1), (0, 2)] [(.int 0)])) (aCons (eVar 0) (aCons (eVar 1) aNil)))
noncomputable def b__law_made_right_3 : SM :=
    (sIf (bE (eOp (opNeK 1 OW) (eLamCall [0, 1] (m__law_caught (eAct 0 3 l__law_made_right_1))) (eVar 2))) (sRet (eC (.bl false))) sNext)
noncomputable def l__law_made_right_2 : ET :=
    (eCallK 0 2 (mkO 0 m_Progressionq_initq (arrS [(0, 0), (1, 1), (1, 0)] [(.int 0)])) aNil (aCons (eVar 1) (aCons (eVar 0) aNil)))
noncomputable def b__law_made_right_4 : SM :=
    (sRet (eOp (opEqK 1 OW) (eLamCall [0, 1] (m__law_caught (eAct 0 3 l__law_made_right_2))) (eVar 2)))
noncomputable def b__law_made_right : SM :=
    (sSeq b__law_made_right_1
    (sSeq b__law_made_right_2
    (sSeq b__law_made_right_3
    b__law_made_right_4)))
noncomputable def m__law_made_right : List T → Hm → R T := run 3 b__law_made_right
theorem j__law_made_right (fx : Fx K mg base) {C : RC} (cf : Cf C PW w (SS fx) mg base N__law_made_right (defScope s__law_made_right) 101) (hfn : ∀ y, C.X.fn y = true) (hp : PassesOwn (model C.X.prog C.X.w) C.X.A C.X.env C.X.xe) (hex : C.X.ex = []) (h0 : HOk C.X.prog C.X.w C.X.H_0 C.X.s_0.heap) (hq : C.X.env.qual = d__law_made_right.qual ++ ".<locals>.") (hcd : C.X.env.code = .ref (cdA K (He.fAd K d__law_made_right.at_))) : JSs C (defBody s__law_made_right) b__law_made_right :=
    (jss_cons (set_ cf 2 (je_if (JW.jb (jw_and (jb_val (call_ cf (FnX.ca (ok__law_whole (w := w) fx) cf B__law_whole_2 (by decide)) (He.glo_ok fx.X fx.G (fx.at_ 25)) (ja_cons (v_ cf 1) (ja_cons je_int ja_nil)))) (jw_and (jb_val (call_ cf (FnX.ca (ok__law_whole (w := w) fx) cf B__law_whole_2 (by decide)) (He.glo_ok fx.X fx.G (fx.at_ 25)) (ja_cons (v_ cf 0) (ja_cons je_int ja_nil)))) (jw_one (jb_cmp op_ltT' (v_ cf 1) (v_ cf 0) (by rfl)))))) (je_lst ja_nil) (je_lst (ja_cons je_int (ja_cons (cb_ cf (reprE_ cf ((du_qreprq (sc := _) fx cf)) (by decide) (by decide) (by decide)) (He.free_ok fx.X fx.G (fx.at_ 26)) (ja_cons (v_ cf 1) ja_nil)) ja_nil)))))
    (jss_cons (set_ cf 2 (je_if (jb_val (call_ cf (FnX.ca (ok__law_whole (w := w) fx) cf B__law_whole_2 (by decide)) (He.glo_ok fx.X fx.G (fx.at_ 25)) (ja_cons (v_ cf 0) (ja_cons je_int ja_nil)))) (v_ cf 2) (je_lst (ja_cons je_int (ja_cons (cb_ cf (reprE_ cf ((du_qreprq (sc := _) fx cf)) (by decide) (by decide) (by decide)) (He.free_ok fx.X fx.G (fx.at_ 26)) (ja_cons (v_ cf 0) ja_nil)) ja_nil)))))
    (jss_cons (js_if (jb_cmp (neK_ cf (fx_is fx) (oe fx cf) (by decide)) (lamcall_ cf (d := d__law_made_right) hq hcd (tf := TF) rfl (fx.at_ 79) 0 fx.tb (dg := d__law_caught) (a := "_law_act") (Ng := N__law_caught) [0, 1] (kl := 99) (He.glo_ok fx.X fx.G (fx.at_ 80)) (fx.q.def_ 18 (d := d__law_caught) rfl) ⟨rfl, rfl, rfl, by decide +kernel, rfl, by decide +kernel, by decide +kernel⟩ (by decide) (fun _ c1 => (call_ c1 (FnX.make (ok_Progressionq_initq (w := w) fx) c1 0 B_Progressionq_initq_3 (mk_ok (fx.at_ 20)) (by decide)) (He.glo_ok fx.X fx.G (fx.at_ 3)) (ja_cons (v_ c1 0) (ja_cons (v_ c1 1) ja_nil)))) (fun _ _ cg hst hfr hact => j__law_caught fx cg hst hfr hact)) (v_ cf 2) (by rfl)) (jss_one (js_ret je_bl)) jss_nil)
    (jss_one (js_ret (je_cmp (eqK_ cf (fx_is fx) (oe fx cf) (by decide)) (lamcall_ cf (d := d__law_made_right) hq hcd (tf := TF) rfl (fx.at_ 79) 0 fx.tb (dg := d__law_caught) (a := "_law_act") (Ng := N__law_caught) [0, 1] (kl := 99) (He.glo_ok fx.X fx.G (fx.at_ 80)) (fx.q.def_ 18 (d := d__law_caught) rfl) ⟨rfl, rfl, rfl, by decide +kernel, rfl, by decide +kernel, by decide +kernel⟩ (by decide) (fun _ c1 => (callK0_ c1 (FnX.make (ok_Progressionq_initq (w := w) fx) c1 0 B_Progressionq_initq_1_first_step (mk_ok (fx.at_ 20)) (by decide)) (He.glo_ok fx.X fx.G (fx.at_ 3)) (jk_cons (v_ c1 1) (jk_cons (v_ c1 0) jk_nil)))) (fun _ _ cg hst hfr hact => j__law_caught fx cg hst hfr hact)) (v_ cf 2) (by rfl)))))))
theorem ok__law_made_right (fx : Fx K mg base) : FnX PW w (SS fx) mg base 102 d__law_made_right P__law_made_right m__law_made_right := by
  obtain ⟨fd, F⟩ := fx.q.def_ 19 (d := d__law_made_right) rfl
  exact ⟨fd, F, fn_ofG (S := (SS fx)) (N := N__law_made_right) F ⟨rfl, rfl, rfl, by decide +kernel, rfl, by decide +kernel, by decide +kernel⟩ fn_run fun C ok e1 e2 e3 e4 e5 e6 e7 e8 hfn hp _ _ hex h0 hq hcd => j__law_made_right fx ⟨ok, e1, e2, e3, e4, e5, e6, e7, e8⟩ hfn hp hex h0 hq hcd⟩

theorem B__law_made_right_2 : Bnd d__law_made_right P__law_made_right 2 [] [(0, 0), (0, 1)] [] := ⟨by decide, rfl, rfl, fun _ _ _ => .nil, .inl ⟨rfl, fun _ _ _ _ _ _ us ws h1 h2 => match us, ws, h1, h2 with
  | [_, _], [], _, _ => rfl⟩⟩
noncomputable def b__law_draw_1 : SM :=
    (sAsg (eOp opAdd (eOp (opIxK ms_qgetitemq) (eVar 0) (eC (.int 2))) (eC (.int 1))) (gSubT (eVar 0) (eC (.int 2))))
noncomputable def b__law_draw_2 : SM :=
    (sSet 2 (eOp (opIxK ms_qgetitemq) (eVar 0) (eC (.int 0))))
noncomputable def b__law_draw_3 : SM :=
    (sAsg (eOp opMod (eOp opAddL (eOp opMulL (eVar 2) (eOp opAdd (eOp opMod (eVar 2) (eC (.int 50023))) (eC (.int 30013)))) (eOp opMul (eC (.int 90017)) (eOp (opIxK ms_qgetitemq) (eVar 0) (eC (.int 2))))) (eC (.int 2147483323))) (gSubT (eVar 0) (eC (.int 0))))
noncomputable def b__law_draw_4t_1 : SM :=
    (sAsg (eCB gDivmod (aCons (eOp (opIxK ms_qgetitemq) (eVar 0) (eC (.int 1))) (aCons (eVar 1) aNil))) (gTp 2 (gsCons (gSubT (eVar 0) (eC (.int 1))) (gsCons (gNm 3) gsNil))))
noncomputable def b__law_draw_4t_2 : SM :=
    (sRet (eVar 3))
noncomputable def b__law_draw_4 : SM :=
    (sIf (bE (eOp opGt (eOp (opIxK ms_qgetitemq) (eVar 0) (eC (.int 1))) (eC (.int 0)))) (sSeq b__law_draw_4t_1
    b__law_draw_4t_2) sNext)
noncomputable def b__law_draw_5 : SM :=
    (sRet (eOp opMod (eOp opFdiv (eOp (opIxK ms_qgetitemq) (eVar 0) (eC (.int 0))) (eC (.int 64))) (eVar 1)))
noncomputable def b__law_draw : SM :=
    (sSeq b__law_draw_1
    (sSeq b__law_draw_2
    (sSeq b__law_draw_3
    (sSeq b__law_draw_4
    b__law_draw_5))))
noncomputable def m__law_draw : List T → Hm → R T := run 4 b__law_draw
theorem j__law_draw (fx : Fx K mg base) {C : RC} (cf : Cf C PW w (SS fx) mg base N__law_draw (defScope s__law_draw) 5) (hfn : ∀ y, C.X.fn y = true) (hp : PassesOwn (model C.X.prog C.X.w) C.X.A C.X.env C.X.xe) (hex : C.X.ex = []) (h0 : HOk C.X.prog C.X.w C.X.H_0 C.X.s_0.heap) : JSs C (defBody s__law_draw) b__law_draw :=
    (jss_cons (asg_ cf (je_op op_addT (ixK_ cf (du_qgetitemq (sc := _) fx cf) (by decide) (fn_getitem fx) (v_ cf 0) je_int) je_int) (jg_sub (v_ cf 0) je_int))
    (jss_cons (set_ cf 2 (ixK_ cf (du_qgetitemq (sc := _) fx cf) (by decide) (fn_getitem fx) (v_ cf 0) je_int))
    (jss_cons (asg_ cf (je_op op_modT (je_op (op_addL cf.ok) (je_op (op_mulL cf.ok) (v_ cf 2) (je_op op_addT (je_op op_modT (v_ cf 2) je_int) je_int)) (je_op op_mulT je_int (ixK_ cf (du_qgetitemq (sc := _) fx cf) (by decide) (fn_getitem fx) (v_ cf 0) je_int))) je_int) (jg_sub (v_ cf 0) je_int))
    (jss_cons (js_if (jb_cmp op_gtT (ixK_ cf (du_qgetitemq (sc := _) fx cf) (by decide) (fn_getitem fx) (v_ cf 0) je_int) je_int (by rfl)) (jss_cons (asg_ cf (cb_ cf ca_divmod (He.free_ok fx.X fx.G (fx.at_ 86)) (ja_cons (ixK_ cf (du_qgetitemq (sc := _) fx cf) (by decide) (fn_getitem fx) (v_ cf 0) je_int) (ja_cons (v_ cf 1) ja_nil))) (jg_tup cf.ok cf.cold (jgs_cons (jg_sub (v_ cf 0) je_int) (jgs_cons (gnm_ cf 3) jgs_nil))))
    (jss_one (js_ret (v_ cf 3)))) jss_nil)
    (jss_one (js_ret (je_op op_modT (je_op op_fdivT (ixK_ cf (du_qgetitemq (sc := _) fx cf) (by decide) (fn_getitem fx) (v_ cf 0) je_int) je_int) (v_ cf 1))))))))
theorem ok__law_draw (fx : Fx K mg base) : FnX PW w (SS fx) mg base 6 d__law_draw P__law_draw m__law_draw := by
  obtain ⟨fd, F⟩ := fx.q.def_ 20 (d := d__law_draw) rfl
  exact ⟨fd, F, fn_ofG (S := (SS fx)) (N := N__law_draw) F ⟨rfl, rfl, rfl, by decide +kernel, rfl, by decide +kernel, by decide +kernel⟩ fn_run fun C ok e1 e2 e3 e4 e5 e6 e7 e8 hfn hp _ _ hex h0 hq hcd => j__law_draw fx ⟨ok, e1, e2, e3, e4, e5, e6, e7, e8⟩ hfn hp hex h0⟩

theorem B__law_draw_2 : Bnd d__law_draw P__law_draw 2 [] [(0, 0), (0, 1)] [] := ⟨by decide, rfl, rfl, fun _ _ _ => .nil, .inl ⟨rfl, fun _ _ _ _ _ _ us ws h1 h2 => match us, ws, h1, h2 with
  | [_, _], [], _, _ => rfl⟩⟩
noncomputable def b__law_pair_1 : SM :=
    (sSet 1 (eOp (opIxK ms_qgetitemq) (eLst (aCons (eC (.int 3)) (aCons (eC (.int 12)) (aCons (eC (.int 60)) (aCons (eOp opPow (eC (.int 10)) (eC (.int 12))) (aCons (eOp opPow (eC (.int 10)) (eC (.int 60))) aNil)))))) (eCall 2 (fun xs zs h => m__law_draw (arrS [(0, 0), (0, 1)] [] xs zs) h) (aCons (eVar 0) (aCons (eC (.int 5)) aNil)))))
noncomputable def b__law_pair_2 : SM :=
    (sSet 2 (eOp opAdd (eC (.int 1)) (eCall 2 (fun xs zs h => m__law_draw (arrS [(0, 0), (0, 1)] [] xs zs) h) (aCons (eVar 0) (aCons (eVar 1) aNil)))))
noncomputable def b__law_pair_3 : SM :=
    (sRet (eTup (aCons (eCall 2 (fun xs zs h => m__law_draw (arrS [(0, 0), (0, 1)] [] xs zs) h) (aCons (eVar 0) (aCons (eVar 2) aNil))) (aCons (eVar 2) aNil))))
noncomputable def b__law_pair : SM :=
    (sSeq b__law_pair_1
    (sSeq b__law_pair_2
    b__law_pair_3))
noncomputable def m__law_pair : List T → Hm → R T := run 3 b__law_pair
theorem j__law_pair (fx : Fx K mg base) {C : RC} (cf : Cf C PW w (SS fx) mg base N__law_pair (defScope s__law_pair) 6) (hfn : ∀ y, C.X.fn y = true) (hp : PassesOwn (model C.X.prog C.X.w) C.X.A C.X.env C.X.xe) (hex : C.X.ex = []) (h0 : HOk C.X.prog C.X.w C.X.H_0 C.X.s_0.heap) : JSs C (defBody s__law_pair) b__law_pair :=
    (jss_cons (set_ cf 1 (ixK_ cf (du_qgetitemq (sc := _) fx cf) (by decide) (fn_getitem fx) (je_lst (ja_cons je_int (ja_cons je_int (ja_cons je_int (ja_cons (je_op op_powT je_int je_int) (ja_cons (je_op op_powT je_int je_int) ja_nil)))))) (call_ cf (FnX.ca (ok__law_draw (w := w) fx) cf B__law_draw_2 (by decide)) (He.glo_ok fx.X fx.G (fx.at_ 87)) (ja_cons (v_ cf 0) (ja_cons je_int ja_nil)))))
    (jss_cons (set_ cf 2 (je_op op_addT je_int (call_ cf (FnX.ca (ok__law_draw (w := w) fx) cf B__law_draw_2 (by decide)) (He.glo_ok fx.X fx.G (fx.at_ 87)) (ja_cons (v_ cf 0) (ja_cons (v_ cf 1) ja_nil)))))
    (jss_one (js_ret (je_tup (ja_cons (call_ cf (FnX.ca (ok__law_draw (w := w) fx) cf B__law_draw_2 (by decide)) (He.glo_ok fx.X fx.G (fx.at_ 87)) (ja_cons (v_ cf 0) (ja_cons (v_ cf 2) ja_nil))) (ja_cons (v_ cf 2) ja_nil)))))))
theorem ok__law_pair (fx : Fx K mg base) : FnX PW w (SS fx) mg base 7 d__law_pair P__law_pair m__law_pair := by
  obtain ⟨fd, F⟩ := fx.q.def_ 21 (d := d__law_pair) rfl
  exact ⟨fd, F, fn_ofG (S := (SS fx)) (N := N__law_pair) F ⟨rfl, rfl, rfl, by decide +kernel, rfl, by decide +kernel, by decide +kernel⟩ fn_run fun C ok e1 e2 e3 e4 e5 e6 e7 e8 hfn hp _ _ hex h0 hq hcd => j__law_pair fx ⟨ok, e1, e2, e3, e4, e5, e6, e7, e8⟩ hfn hp hex h0⟩

theorem B__law_pair_1 : Bnd d__law_pair P__law_pair 1 [] [(0, 0)] [] := ⟨by decide, rfl, rfl, fun _ _ _ => .nil, .inl ⟨rfl, fun _ _ _ _ _ _ us ws h1 h2 => match us, ws, h1, h2 with
  | [_], [], _, _ => rfl⟩⟩
noncomputable def b_Progression_below_1 : SM :=
    (sExpr (eCall 1 (fun xs zs h => m_check_number (arrS [(0, 0)] [] xs zs) h) (aCons (eVar 1) aNil)))
noncomputable def b_Progression_below_2 : SM :=
    (sRet (eCB gMax (aCons (eC (.int 0)) (aCons (eOp opFdiv (eOp opSub (eOp opAdd (eOp opSub (eVar 1) (eFld [0] 1 (eVar 0))) (eFld [0] 0 (eVar 0))) (eC (.int 1))) (eFld [0] 0 (eVar 0))) aNil))))
noncomputable def b_Progression_below : SM :=
    (sSeq b_Progression_below_1
    b_Progression_below_2)
noncomputable def m_Progression_below : List T → Hm → R T := run 2 b_Progression_below
theorem j_Progression_below (fx : Fx K mg base) {C : RC} (cf : Cf C PW w (SS fx) mg base N_Progression_below (defScope s_Progression_below) 3) (hfn : ∀ y, C.X.fn y = true) (hp : PassesOwn (model C.X.prog C.X.w) C.X.A C.X.env C.X.xe) (hex : C.X.ex = []) (h0 : HOk C.X.prog C.X.w C.X.H_0 C.X.s_0.heap) : JSs C (defBody s_Progression_below) b_Progression_below :=
    (jss_cons (js_expr (call_ cf (FnX.ca (ok_check_number (w := w) fx) cf B_check_number_1 (by decide)) (He.glo_ok fx.X fx.G (fx.at_ 13)) (ja_cons (v_ cf 1) ja_nil)))
    (jss_one (js_ret (cb_ cf (ca_max cf.ok cf.cold) (He.free_ok fx.X fx.G (fx.at_ 84)) (ja_cons je_int (ja_cons (je_op op_fdivT (je_op op_subT (je_op op_addT (je_op op_subT (v_ cf 1) (fld_ cf [0] 1 (v_ cf 0) (fx_fld_first fx))) (fld_ cf [0] 0 (v_ cf 0) (fx_fld_step fx))) je_int) (fld_ cf [0] 0 (v_ cf 0) (fx_fld_step fx))) ja_nil))))))
theorem ok_Progression_below (fx : Fx K mg base) : FnX PW w (SS fx) mg base 4 d_Progression_below P_Progression_below m_Progression_below := by
  obtain ⟨fd, F⟩ := fx.q.def_ 22 (d := d_Progression_below) rfl
  exact ⟨fd, F, fn_ofG (S := (SS fx)) (N := N_Progression_below) F ⟨rfl, rfl, rfl, by decide +kernel, rfl, by decide +kernel, by decide +kernel⟩ fn_run fun C ok e1 e2 e3 e4 e5 e6 e7 e8 hfn hp _ _ hex h0 hq hcd => j_Progression_below fx ⟨ok, e1, e2, e3, e4, e5, e6, e7, e8⟩ hfn hp hex h0⟩

theorem B_Progression_below_2 : Bnd d_Progression_below P_Progression_below 2 [] [(0, 0), (0, 1)] [] := ⟨by decide, rfl, rfl, fun _ _ _ => .nil, .inl ⟨rfl, fun _ _ _ _ _ _ us ws h1 h2 => match us, ws, h1, h2 with
  | [_, _], [], _, _ => rfl⟩⟩

theorem B_Progression_below_1_end : Bnd d_Progression_below P_Progression_below 1 ["end"] [(0, 0), (1, 0)] [] := ⟨by decide, rfl, rfl, fun _ _ _ => .nil, .inl ⟨rfl, fun _ _ _ _ _ _ us ws h1 h2 => match us, ws, h1, h2 with
  | [_], [_], _, _ => rfl⟩⟩
noncomputable def mt_below_1 : Nat → Option O3 := fun c => match c with
  | 0 => some (fun xs zs h => m_Progression_below (arrS [(0, 0), (0, 1)] [] xs zs) h)
  | _ => none
theorem mok_mt_below_1 (fx : Fx K mg base) {C : RC} {N : List Str} {sc : Scope} {k : Nat} (cf : Cf C PW w (SS fx) mg base N sc k) (hk : 4 ≤ k) : MsOk C "below" 1 [] mt_below_1 := by
  refine ms_of cf fun c g e => ?_
  unfold mt_below_1 at e
  split at e
  · cases e; exact ⟨(cls_ok (x := "Progression") (fx.at_ 0)).cl, _, meth_ok (x := "Progression") (m := "below") (fx.at_ 135), (FnX.ca (ok_Progression_below (w := w) fx) cf B_Progression_below_2 (Nat.le_trans (by decide) hk)).1⟩
  · cases e
noncomputable def mt_below_0_end : Nat → Option O3 := fun c => match c with
  | 0 => some (fun xs zs h => m_Progression_below (arrS [(0, 0), (1, 0)] [] xs zs) h)
  | _ => none
theorem mok_mt_below_0_end (fx : Fx K mg base) {C : RC} {N : List Str} {sc : Scope} {k : Nat} (cf : Cf C PW w (SS fx) mg base N sc k) (hk : 4 ≤ k) : MsOk C "below" 0 ["end"] mt_below_0_end := by
  refine ms_of cf fun c g e => ?_
  unfold mt_below_0_end at e
  split at e
  · cases e; exact ⟨(cls_ok (x := "Progression") (fx.at_ 0)).cl, _, meth_ok (x := "Progression") (m := "below") (fx.at_ 135), (FnX.ca (ok_Progression_below (w := w) fx) cf B_Progression_below_1_end (Nat.le_trans (by decide) hk)).1⟩
  · cases e
noncomputable def b_Progression_after_1 : SM :=
    (sExpr (eCall 1 (fun xs zs h => m_check_number (arrS [(0, 0)] [] xs zs) h) (aCons (eVar 1) aNil)))
noncomputable def b_Progression_after_2 : SM :=
    (sRet (eOp opAdd (eVar 1) (eOp opMod (eOp opSub (eFld [0] 1 (eVar 0)) (eVar 1)) (eFld [0] 0 (eVar 0)))))
noncomputable def b_Progression_after : SM :=
    (sSeq b_Progression_after_1
    b_Progression_after_2)
noncomputable def m_Progression_after : List T → Hm → R T := run 2 b_Progression_after
theorem j_Progression_after (fx : Fx K mg base) {C : RC} (cf : Cf C PW w (SS fx) mg base N_Progression_after (defScope s_Progression_after) 3) (hfn : ∀ y, C.X.fn y = true) (hp : PassesOwn (model C.X.prog C.X.w) C.X.A C.X.env C.X.xe) (hex : C.X.ex = []) (h0 : HOk C.X.prog C.X.w C.X.H_0 C.X.s_0.heap) : JSs C (defBody s_Progression_after) b_Progression_after :=
    (jss_cons (js_expr (call_ cf (FnX.ca (ok_check_number (w := w) fx) cf B_check_number_1 (by decide)) (He.glo_ok fx.X fx.G (fx.at_ 13)) (ja_cons (v_ cf 1) ja_nil)))
    (jss_one (js_ret (je_op op_addT (v_ cf 1) (je_op op_modT (je_op op_subT (fld_ cf [0] 1 (v_ cf 0) (fx_fld_first fx)) (v_ cf 1)) (fld_ cf [0] 0 (v_ cf 0) (fx_fld_step fx)))))))
theorem ok_Progression_after (fx : Fx K mg base) : FnX PW w (SS fx) mg base 4 d_Progression_after P_Progression_after m_Progression_after := by
  obtain ⟨fd, F⟩ := fx.q.def_ 23 (d := d_Progression_after) rfl
  exact ⟨fd, F, fn_ofG (S := (SS fx)) (N := N_Progression_after) F ⟨rfl, rfl, rfl, by decide +kernel, rfl, by decide +kernel, by decide +kernel⟩ fn_run fun C ok e1 e2 e3 e4 e5 e6 e7 e8 hfn hp _ _ hex h0 hq hcd => j_Progression_after fx ⟨ok, e1, e2, e3, e4, e5, e6, e7, e8⟩ hfn hp hex h0⟩

theorem B_Progression_after_2 : Bnd d_Progression_after P_Progression_after 2 [] [(0, 0), (0, 1)] [] := ⟨by decide, rfl, rfl, fun _ _ _ => .nil, .inl ⟨rfl, fun _ _ _ _ _ _ us ws h1 h2 => match us, ws, h1, h2 with
  | [_, _], [], _, _ => rfl⟩⟩

theorem B_Progression_after_1_number : Bnd d_Progression_after P_Progression_after 1 ["number"] [(0, 0), (1, 0)] [] := ⟨by decide, rfl, rfl, fun _ _ _ => .nil, .inl ⟨rfl, fun _ _ _ _ _ _ us ws h1 h2 => match us, ws, h1, h2 with
  | [_], [_], _, _ => rfl⟩⟩
noncomputable def mt_after_1 : Nat → Option O3 := fun c => match c with
  | 0 => some (fun xs zs h => m_Progression_after (arrS [(0, 0), (0, 1)] [] xs zs) h)
  | _ => none
theorem mok_mt_after_1 (fx : Fx K mg base) {C : RC} {N : List Str} {sc : Scope} {k : Nat} (cf : Cf C PW w (SS fx) mg base N sc k) (hk : 4 ≤ k) : MsOk C "after" 1 [] mt_after_1 := by
  refine ms_of cf fun c g e => ?_
  unfold mt_after_1 at e
  split at e
  · cases e; exact ⟨(cls_ok (x := "Progression") (fx.at_ 0)).cl, _, meth_ok (x := "Progression") (m := "after") (fx.at_ 136), (FnX.ca (ok_Progression_after (w := w) fx) cf B_Progression_after_2 (Nat.le_trans (by decide) hk)).1⟩
  · cases e
noncomputable def mt_after_0_number : Nat → Option O3 := fun c => match c with
  | 0 => some (fun xs zs h => m_Progression_after (arrS [(0, 0), (1, 0)] [] xs zs) h)
  | _ => none
theorem mok_mt_after_0_number (fx : Fx K mg base) {C : RC} {N : List Str} {sc : Scope} {k : Nat} (cf : Cf C PW w (SS fx) mg base N sc k) (hk : 4 ≤ k) : MsOk C "after" 0 ["number"] mt_after_0_number := by
  refine ms_of cf fun c g e => ?_
  unfold mt_after_0_number at e
  split at e
  · cases e; exact ⟨(cls_ok (x := "Progression") (fx.at_ 0)).cl, _, meth_ok (x := "Progression") (m := "after") (fx.at_ 136), (FnX.ca (ok_Progression_after (w := w) fx) cf B_Progression_after_1_number (Nat.le_trans (by decide) hk)).1⟩
  · cases e
noncomputable def b__law_asked_right_1 : SM :=
    (sSet 2 (eIf (bE (eCall 2 (fun xs zs h => m__law_whole (arrS [(0, 0), (0, 1)] [] xs zs) h) (aCons (eVar 1) (aCons (eC (.int 0)) aNil)))) (eLst aNil) (eLst (aCons (eC (.int 0)) (aCons (eCB (gReprE ms_qreprq) (aCons (eVar 1) aNil)) aNil)))))
noncomputable def l__law_asked_right_1 : ET :=
    (eOp (opIxK ms_qgetitemq) (eVar 0) (eVar 1))
noncomputable def b__law_asked_right_2 : SM :=
    (sSet 3 (eLstM (aCons (eLamCall [0, 1] (m__law_caught (eAct 0 4 l__law_asked_right_1))) aNil)))
noncomputable def l__law_asked_right_2 : ET :=
    (eMeth 12 1 0 mt_below_1 (eVar 0) (aCons (eVar 1) aNil) aNil)
noncomputable def b__law_asked_right_3 : SM :=
    (sExpr (eCell fAppend (eVar 3) (aCons (eLamCall [0, 1] (m__law_caught (eAct 0 4 l__law_asked_right_2))) aNil)))
noncomputable def l__law_asked_right_3 : ET :=
    (eMeth 13 1 0 mt_after_1 (eVar 0) (aCons (eVar 1) aNil) aNil)
noncomputable def b__law_asked_right_4 : SM :=
    (sExpr (eCell fAppend (eVar 3) (aCons (eLamCall [0, 1] (m__law_caught (eAct 0 4 l__law_asked_right_3))) aNil)))
noncomputable def l__law_asked_right_4 : ET :=
    (eMeth 12 0 1 mt_below_0_end (eVar 0) aNil (aCons (eVar 1) aNil))
noncomputable def b__law_asked_right_5 : SM :=
    (sExpr (eCell fAppend (eVar 3) (aCons (eLamCall [0, 1] (m__law_caught (eAct 0 4 l__law_asked_right_4))) aNil)))
noncomputable def l__law_asked_right_5 : ET :=
    (eMeth 13 0 1 mt_after_0_number (eVar 0) aNil (aCons (eVar 1) aNil))
noncomputable def b__law_asked_right_6 : SM :=
    (sExpr (eCell fAppend (eVar 3) (aCons (eLamCall [0, 1] (m__law_caught (eAct 0 4 l__law_asked_right_5))) aNil)))
noncomputable def b__law_asked_right_7 : SM :=
    (sRet (eOp (opEqK 1 OW) (eVar 3) (eOp opMulL (eLst (aCons (eVar 2) aNil)) (eC (.int 5)))))
noncomputable def b__law_asked_right : SM :=
    (sSeq b__law_asked_right_1
    (sSeq b__law_asked_right_2
    (sSeq b__law_asked_right_3
    (sSeq b__law_asked_right_4
    (sSeq b__law_asked_right_5
    (sSeq b__law_asked_right_6
    (sSeq (sFrz 3)
    b__law_asked_right_7)))))))
noncomputable def m__law_asked_right : List T → Hm → R T := run 4 b__law_asked_right
theorem j__law_asked_right (fx : Fx K mg base) {C : RC} (cf : Cf C PW w (SS fx) mg base N__law_asked_right (defScope s__law_asked_right) 101) (hfn : ∀ y, C.X.fn y = true) (hp : PassesOwn (model C.X.prog C.X.w) C.X.A C.X.env C.X.xe) (hex : C.X.ex = []) (h0 : HOk C.X.prog C.X.w C.X.H_0 C.X.s_0.heap) (hq : C.X.env.qual = d__law_asked_right.qual ++ ".<locals>.") (hcd : C.X.env.code = .ref (cdA K (He.fAd K d__law_asked_right.at_))) : JSs C (defBody s__law_asked_right) b__law_asked_right :=
    (jss_cons (set_ cf 2 (je_if (jb_val (call_ cf (FnX.ca (ok__law_whole (w := w) fx) cf B__law_whole_2 (by decide)) (He.glo_ok fx.X fx.G (fx.at_ 25)) (ja_cons (v_ cf 1) (ja_cons je_int ja_nil)))) (je_lst ja_nil) (je_lst (ja_cons je_int (ja_cons (cb_ cf (reprE_ cf ((du_qreprq (sc := _) fx cf)) (by decide) (by decide) (by decide)) (He.free_ok fx.X fx.G (fx.at_ 26)) (ja_cons (v_ cf 1) ja_nil)) ja_nil)))))
    (jss_cons (set_ cf 3 (je_lstM (ja_cons (lamcall_ cf (d := d__law_asked_right) hq hcd (tf := TF) rfl (fx.at_ 79) 2 fx.tb (dg := d__law_caught) (a := "_law_act") (Ng := N__law_caught) [0, 1] (kl := 99) (He.glo_ok fx.X fx.G (fx.at_ 80)) (fx.q.def_ 18 (d := d__law_caught) rfl) ⟨rfl, rfl, rfl, by decide +kernel, rfl, by decide +kernel, by decide +kernel⟩ (by decide) (fun _ c1 => (ixK_ c1 (du_qgetitemq (sc := _) fx c1) (by decide) (fn_getitem fx) (v_ c1 0) (v_ c1 1))) (fun _ _ cg hst hfr hact => j__law_caught fx cg hst hfr hact)) ja_nil)))
    (jss_cons (js_expr (app_ cf (v_ cf 3) (ja_cons (lamcall_ cf (d := d__law_asked_right) hq hcd (tf := TF) rfl (fx.at_ 79) 2 fx.tb (dg := d__law_caught) (a := "_law_act") (Ng := N__law_caught) [0, 1] (kl := 99) (He.glo_ok fx.X fx.G (fx.at_ 80)) (fx.q.def_ 18 (d := d__law_caught) rfl) ⟨rfl, rfl, rfl, by decide +kernel, rfl, by decide +kernel, by decide +kernel⟩ (by decide) (fun _ c1 => (meth_ c1 12 (mok_mt_below_1 fx c1 (by decide)) (v_ c1 0) (ja_cons (v_ c1 1) ja_nil))) (fun _ _ cg hst hfr hact => j__law_caught fx cg hst hfr hact)) ja_nil)))
    (jss_cons (js_expr (app_ cf (v_ cf 3) (ja_cons (lamcall_ cf (d := d__law_asked_right) hq hcd (tf := TF) rfl (fx.at_ 79) 2 fx.tb (dg := d__law_caught) (a := "_law_act") (Ng := N__law_caught) [0, 1] (kl := 99) (He.glo_ok fx.X fx.G (fx.at_ 80)) (fx.q.def_ 18 (d := d__law_caught) rfl) ⟨rfl, rfl, rfl, by decide +kernel, rfl, by decide +kernel, by decide +kernel⟩ (by decide) (fun _ c1 => (meth_ c1 13 (mok_mt_after_1 fx c1 (by decide)) (v_ c1 0) (ja_cons (v_ c1 1) ja_nil))) (fun _ _ cg hst hfr hact => j__law_caught fx cg hst hfr hact)) ja_nil)))
    (jss_cons (js_expr (app_ cf (v_ cf 3) (ja_cons (lamcall_ cf (d := d__law_asked_right) hq hcd (tf := TF) rfl (fx.at_ 79) 2 fx.tb (dg := d__law_caught) (a := "_law_act") (Ng := N__law_caught) [0, 1] (kl := 99) (He.glo_ok fx.X fx.G (fx.at_ 80)) (fx.q.def_ 18 (d := d__law_caught) rfl) ⟨rfl, rfl, rfl, by decide +kernel, rfl, by decide +kernel, by decide +kernel⟩ (by decide) (fun _ c1 => (methK0_ c1 12 (mok_mt_below_0_end fx c1 (by decide)) (v_ c1 0) (jk_cons (v_ c1 1) jk_nil))) (fun _ _ cg hst hfr hact => j__law_caught fx cg hst hfr hact)) ja_nil)))
    (jss_cons (js_expr (app_ cf (v_ cf 3) (ja_cons (lamcall_ cf (d := d__law_asked_right) hq hcd (tf := TF) rfl (fx.at_ 79) 2 fx.tb (dg := d__law_caught) (a := "_law_act") (Ng := N__law_caught) [0, 1] (kl := 99) (He.glo_ok fx.X fx.G (fx.at_ 80)) (fx.q.def_ 18 (d := d__law_caught) rfl) ⟨rfl, rfl, rfl, by decide +kernel, rfl, by decide +kernel, by decide +kernel⟩ (by decide) (fun _ c1 => (methK0_ c1 13 (mok_mt_after_0_number fx c1 (by decide)) (v_ c1 0) (jk_cons (v_ c1 1) jk_nil))) (fun _ _ cg hst hfr hact => j__law_caught fx cg hst hfr hact)) ja_nil)))
    (jss_frz 3 (jss_one (js_ret (je_cmp (eqK_ cf (fx_is fx) (oe fx cf) (by decide)) (v_ cf 3) (je_op (op_mulL cf.ok) (je_lst (ja_cons (v_ cf 2) ja_nil)) je_int) (by rfl)))))))))))
theorem ok__law_asked_right (fx : Fx K mg base) : FnX PW w (SS fx) mg base 102 d__law_asked_right P__law_asked_right m__law_asked_right := by
  obtain ⟨fd, F⟩ := fx.q.def_ 24 (d := d__law_asked_right) rfl
  exact ⟨fd, F, fn_ofG (S := (SS fx)) (N := N__law_asked_right) F ⟨rfl, rfl, rfl, by decide +kernel, rfl, by decide +kernel, by decide +kernel⟩ fn_run fun C ok e1 e2 e3 e4 e5 e6 e7 e8 hfn hp _ _ hex h0 hq hcd => j__law_asked_right fx ⟨ok, e1, e2, e3, e4, e5, e6, e7, e8⟩ hfn hp hex h0 hq hcd⟩

theorem B__law_asked_right_2 : Bnd d__law_asked_right P__law_asked_right 2 [] [(0, 0), (0, 1)] [] := ⟨by decide, rfl, rfl, fun _ _ _ => .nil, .inl ⟨rfl, fun _ _ _ _ _ _ us ws h1 h2 => match us, ws, h1, h2 with
  | [_, _], [], _, _ => rfl⟩⟩
noncomputable def b_InvalidProgressionsq_initq : SM :=
    (sXst [4] 4 (eVar 1) (eVar 0))
noncomputable def m_InvalidProgressionsq_initq : List T → Hm → R T := run 2 b_InvalidProgressionsq_initq
theorem j_InvalidProgressionsq_initq (fx : Fx K mg base) {C : RC} (cf : Cf C PW w (SS fx) mg base N_InvalidProgressionsq_initq (defScope s_InvalidProgressionsq_initq) 0) (hfn : ∀ y, C.X.fn y = true) (hp : PassesOwn (model C.X.prog C.X.w) C.X.A C.X.env C.X.xe) (hex : C.X.ex = []) (h0 : HOk C.X.prog C.X.w C.X.H_0 C.X.s_0.heap) : JSs C (defBody s_InvalidProgressionsq_initq) b_InvalidProgressionsq_initq :=
    (jss_one (xst_ cf [4] 4 (v_ cf 0) (v_ cf 1) (fun c hc => by obtain rfl : c = 4 := List.mem_singleton.mp hc; exact ⟨xb_ok (x := "InvalidProgressions") (i := 0) (fx.at_ 93), xno_ok (x := "InvalidProgressions") (f := "index") (fx.at_ 67)⟩)))
theorem ok_InvalidProgressionsq_initq (fx : Fx K mg base) : FnX PW w (SS fx) mg base 1 d_InvalidProgressionsq_initq P_InvalidProgressionsq_initq m_InvalidProgressionsq_initq := by
  obtain ⟨fd, F⟩ := fx.q.def_ 25 (d := d_InvalidProgressionsq_initq) rfl
  exact ⟨fd, F, fn_ofG (S := (SS fx)) (N := N_InvalidProgressionsq_initq) F ⟨rfl, rfl, rfl, by decide +kernel, rfl, by decide +kernel, by decide +kernel⟩ fn_run fun C ok e1 e2 e3 e4 e5 e6 e7 e8 hfn hp _ _ hex h0 hq hcd => j_InvalidProgressionsq_initq fx ⟨ok, e1, e2, e3, e4, e5, e6, e7, e8⟩ hfn hp hex h0⟩

theorem B_InvalidProgressionsq_initq_2 : Bnd d_InvalidProgressionsq_initq P_InvalidProgressionsq_initq 2 [] [(0, 0), (0, 1)] [] := ⟨by decide, rfl, rfl, fun _ _ _ => .nil, .inl ⟨rfl, fun _ _ _ _ _ _ us ws h1 h2 => match us, ws, h1, h2 with
  | [_, _], [], _, _ => rfl⟩⟩
noncomputable def b_check_progressions_1b : SM :=
    (sIf (bNot (bE (eCB (gIsiS 1 TAB XC) (aCons (eVar 2) (aCons (eC (.cl 0)) aNil))))) (sRaiseX 4 1 (fun xs zs h => m_InvalidProgressionsq_initq (arrS [(0, 0), (0, 1)] [] xs zs) h) (aCons (eVar 1) aNil)) sNext)
noncomputable def b_check_progressions : SM :=
    (sFor (iEnumA (aCons (eVar 0) aNil)) (gTp 2 (gsCons (gNm 1) (gsCons (gNm 2) gsNil))) b_check_progressions_1b)
noncomputable def m_check_progressions : List T → Hm → R T := run 3 b_check_progressions
theorem j_check_progressions (fx : Fx K mg base) {C : RC} (cf : Cf C PW w (SS fx) mg base N_check_progressions (defScope s_check_progressions) 2) (hfn : ∀ y, C.X.fn y = true) (hp : PassesOwn (model C.X.prog C.X.w) C.X.A C.X.env C.X.xe) (hex : C.X.ex = []) (h0 : HOk C.X.prog C.X.w C.X.H_0 C.X.s_0.heap) : JSs C (defBody s_check_progressions) b_check_progressions :=
    (jss_one (js_for hp cf.ok cf.cold (enA_ cf (He.free_ok fx.X fx.G (fx.at_ 92)) (ja_cons (v_ cf 0) ja_nil)) (jg_tup cf.ok cf.cold (jgs_cons (gnm_ cf 1) (jgs_cons (gnm_ cf 2) jgs_nil))) (jss_one (js_if (jb_not (jb_val (cb_ cf (isiS_ cf (fx_is fx) (fx_xi fx)) (He.free_ok fx.X fx.G (fx.at_ 4)) (ja_cons (v_ cf 2) (ja_cons (cl_ cf 0 (He.glo_ok fx.X fx.G (fx.at_ 3))) ja_nil))))) (jss_one (raise_ cf hex h0 (ok_InvalidProgressionsq_initq (w := w) fx) 4 B_InvalidProgressionsq_initq_2 (xmk_ok (fx.at_ 93) (fx.at_ 94)) (xrs_ok (x := "InvalidProgressions") (fx.at_ 95)) (He.glo_ok fx.X fx.G (fx.at_ 30)) (ja_cons (v_ cf 1) ja_nil) (by decide))) jss_nil))))
theorem ok_check_progressions (fx : Fx K mg base) : FnX PW w (SS fx) mg base 3 d_check_progressions P_check_progressions m_check_progressions := by
  obtain ⟨fd, F⟩ := fx.q.def_ 26 (d := d_check_progressions) rfl
  exact ⟨fd, F, fn_ofG (S := (SS fx)) (N := N_check_progressions) F ⟨rfl, rfl, rfl, by decide +kernel, rfl, by decide +kernel, by decide +kernel⟩ fn_run fun C ok e1 e2 e3 e4 e5 e6 e7 e8 hfn hp _ _ hex h0 hq hcd => j_check_progressions fx ⟨ok, e1, e2, e3, e4, e5, e6, e7, e8⟩ hfn hp hex h0⟩

theorem B_check_progressions_1 : Bnd d_check_progressions P_check_progressions 1 [] [(0, 0)] [] := ⟨by decide, rfl, rfl, fun _ _ _ => .nil, .inl ⟨rfl, fun _ _ _ _ _ _ us ws h1 h2 => match us, ws, h1, h2 with
  | [_], [], _, _ => rfl⟩⟩
noncomputable def b_common_1 : SM :=
    (sExpr (eCall 1 (fun xs zs h => m_check_progressions (arrS [(0, 0)] [] xs zs) h) (aCons (eVar 0) aNil)))
noncomputable def b_common_2 : SM :=
    (sSet 1 (eTup (aCons (eC (.int 0)) (aCons (eC (.int 1)) aNil))))
noncomputable def b_common_3b_1 : SM :=
    (sSet 1 (eCall 2 (fun xs zs h => m_meet (arrS [(0, 0), (0, 1)] [] xs zs) h) (aCons (eVar 1) (aCons (eTup (aCons (eFld [0] 1 (eVar 2)) (aCons (eFld [0] 0 (eVar 2)) aNil))) aNil))))
noncomputable def b_common_3b_2 : SM :=
    (sIf (bE (eOp opIsN (eVar 1) (eC .non))) (sRet (eC .non)) sNext)
noncomputable def b_common_3b : SM :=
    (sSeq b_common_3b_1
    b_common_3b_2)
noncomputable def b_common_3 : SM :=
    (sFor (iVal (eVar 0)) (gNm 2) b_common_3b)
noncomputable def b_common_4 : SM :=
    (sRet (eCall 1 (fun xs zs h => m_made (arrS [(0, 0)] [] xs zs) h) (aCons (eVar 1) aNil)))
noncomputable def b_common : SM :=
    (sSeq b_common_1
    (sSeq b_common_2
    (sSeq b_common_3
    b_common_4)))
noncomputable def m_common : List T → Hm → R T := run 3 b_common
theorem j_common (fx : Fx K mg base) {C : RC} (cf : Cf C PW w (SS fx) mg base N_common (defScope s_common) 5) (hfn : ∀ y, C.X.fn y = true) (hp : PassesOwn (model C.X.prog C.X.w) C.X.A C.X.env C.X.xe) : JSs C (defBody s_common) b_common :=
    (jss_cons (js_expr (call_ cf (FnX.ca (ok_check_progressions (w := w) fx) cf B_check_progressions_1 (by decide)) (He.glo_ok fx.X fx.G (fx.at_ 96)) (ja_cons (v_ cf 0) ja_nil)))
    (jss_cons (set_ cf 1 (je_tup (ja_cons je_int (ja_cons je_int ja_nil))))
    (jss_cons (js_for hp cf.ok cf.cold (ji_val cf.ok (v_ cf 0)) (gnm_ cf 2) (jss_cons (set_ cf 1 (call_ cf (FnX.ca (ok_meet (w := w) fx) cf B_meet_2 (by decide)) (He.glo_ok fx.X fx.G (fx.at_ 23)) (ja_cons (v_ cf 1) (ja_cons (je_tup (ja_cons (fld_ cf [0] 1 (v_ cf 2) (fx_fld_first fx)) (ja_cons (fld_ cf [0] 0 (v_ cf 2) (fx_fld_step fx)) ja_nil))) ja_nil))))
    (jss_one (js_if (jb_cmp op_isNT (v_ cf 1) je_non (by rfl)) (jss_one (js_ret je_non)) jss_nil))))
    (jss_one (js_ret (call_ cf (FnX.ca (ok_made (w := w) fx) cf B_made_1 (by decide)) (He.glo_ok fx.X fx.G (fx.at_ 24)) (ja_cons (v_ cf 1) ja_nil)))))))
theorem ok_common (fx : Fx K mg base) : FnV PW w (SS fx) mg base 6 d_common 0 m_common := by
  obtain ⟨fd, F⟩ := fx.q.def_ 27 (d := d_common) rfl
  exact ⟨⟨fd, F⟩, fun n hm hz => fn_starG (S := SS fx) (N := N_common) (ps := []) (pv := "progressions") F ⟨rfl, rfl, rfl, by decide +kernel, rfl, by decide +kernel, by decide +kernel⟩ (fun _ _ _ _ _ _ us rest hl => match us, rest, hl with
    | [], [], _ => rfl
    | [], _ :: _, _ => rfl) fn_run rfl (fun C ok e1 e2 e3 e4 e5 e6 e7 e8 hfn hp _ _ _ => j_common fx ⟨ok, e1, e2, e3, e4, e5, e6, e7, e8⟩ hfn hp) n hm hz⟩
noncomputable def b_apart_1 : SM :=
    (sExpr (eCall 1 (fun xs zs h => m_check_progressions (arrS [(0, 0)] [] xs zs) h) (aCons (eVar 0) aNil)))
noncomputable def b_apart_2b_1b_1 : SM :=
    (sSet 4 (eOp opIx (eVar 0) (eVar 3)))
noncomputable def b_apart_2b_1b_2 : SM :=
    (sIf (bE (eOp opNe (eOp opMod (eOp opSub (eFld [0] 1 (eVar 2)) (eFld [0] 1 (eVar 4))) (eCall 2 (fun xs zs h => m_gcd (arrS [(0, 0), (0, 1)] [] xs zs) h) (aCons (eFld [0] 0 (eVar 2)) (aCons (eFld [0] 0 (eVar 4)) aNil)))) (eC (.int 0)))) (sRet (eTup (aCons (eVar 1) (aCons (eVar 3) aNil)))) sNext)
noncomputable def b_apart_2b_1b : SM :=
    (sSeq b_apart_2b_1b_1
    b_apart_2b_1b_2)
noncomputable def b_apart_2b : SM :=
    (sFor (iRg2 (aCons (eOp opAdd (eVar 1) (eC (.int 1))) (aCons (eCB (gLenK (fun _ => none)) (aCons (eVar 0) aNil)) aNil))) (gNm 3) b_apart_2b_1b)
noncomputable def b_apart_2 : SM :=
    (sFor (iEnumA (aCons (eVar 0) aNil)) (gTp 2 (gsCons (gNm 1) (gsCons (gNm 2) gsNil))) b_apart_2b)
noncomputable def b_apart_3 : SM :=
    (sRet (eC .non))
noncomputable def b_apart : SM :=
    (sSeq b_apart_1
    (sSeq b_apart_2
    b_apart_3))
noncomputable def m_apart : List T → Hm → R T := run 5 b_apart
theorem j_apart (fx : Fx K mg base) {C : RC} (cf : Cf C PW w (SS fx) mg base N_apart (defScope s_apart) 3) (hfn : ∀ y, C.X.fn y = true) (hp : PassesOwn (model C.X.prog C.X.w) C.X.A C.X.env C.X.xe) : JSs C (defBody s_apart) b_apart :=
    (jss_cons (js_expr (call_ cf (FnX.ca (ok_check_progressions (w := w) fx) cf B_check_progressions_1 (by decide)) (He.glo_ok fx.X fx.G (fx.at_ 96)) (ja_cons (v_ cf 0) ja_nil)))
    (jss_cons (js_for hp cf.ok cf.cold (enA_ cf (He.free_ok fx.X fx.G (fx.at_ 92)) (ja_cons (v_ cf 0) ja_nil)) (jg_tup cf.ok cf.cold (jgs_cons (gnm_ cf 1) (jgs_cons (gnm_ cf 2) jgs_nil))) (jss_one (js_for hp cf.ok cf.cold (rg2_ cf (He.free_ok fx.X fx.G (fx.at_ 85)) (ja_cons (je_op op_addT (v_ cf 1) je_int) (ja_cons (cb_ cf (len_ cf (du_none (j := 0)) (by decide)) (He.free_ok fx.X fx.G (fx.at_ 82)) (ja_cons (v_ cf 0) ja_nil)) ja_nil))) (gnm_ cf 3) (jss_cons (set_ cf 4 (je_ix cf.ok (v_ cf 0) (v_ cf 3)))
    (jss_one (js_if (jb_cmp (neP_ cf) (je_op op_modT (je_op op_subT (fld_ cf [0] 1 (v_ cf 2) (fx_fld_first fx)) (fld_ cf [0] 1 (v_ cf 4) (fx_fld_first fx))) (call_ cf (FnX.ca (ok_gcd (w := w) fx) cf B_gcd_2 (by decide)) (He.glo_ok fx.X fx.G (fx.at_ 21)) (ja_cons (fld_ cf [0] 0 (v_ cf 2) (fx_fld_step fx)) (ja_cons (fld_ cf [0] 0 (v_ cf 4) (fx_fld_step fx)) ja_nil)))) je_int (by rfl)) (jss_one (js_ret (je_tup (ja_cons (v_ cf 1) (ja_cons (v_ cf 3) ja_nil))))) jss_nil))))))
    (jss_one (js_ret je_non))))
theorem ok_apart (fx : Fx K mg base) : FnV PW w (SS fx) mg base 4 d_apart 0 m_apart := by
  obtain ⟨fd, F⟩ := fx.q.def_ 28 (d := d_apart) rfl
  exact ⟨⟨fd, F⟩, fun n hm hz => fn_starG (S := SS fx) (N := N_apart) (ps := []) (pv := "progressions") F ⟨rfl, rfl, rfl, by decide +kernel, rfl, by decide +kernel, by decide +kernel⟩ (fun _ _ _ _ _ _ us rest hl => match us, rest, hl with
    | [], [], _ => rfl
    | [], _ :: _, _ => rfl) fn_run rfl (fun C ok e1 e2 e3 e4 e5 e6 e7 e8 hfn hp _ _ _ => j_apart fx ⟨ok, e1, e2, e3, e4, e5, e6, e7, e8⟩ hfn hp) n hm hz⟩
noncomputable def b_InvalidProgressionq_initq : SM :=
    (sXst [3] 3 (eVar 1) (eVar 0))
noncomputable def m_InvalidProgressionq_initq : List T → Hm → R T := run 2 b_InvalidProgressionq_initq
theorem j_InvalidProgressionq_initq (fx : Fx K mg base) {C : RC} (cf : Cf C PW w (SS fx) mg base N_InvalidProgressionq_initq (defScope s_InvalidProgressionq_initq) 0) (hfn : ∀ y, C.X.fn y = true) (hp : PassesOwn (model C.X.prog C.X.w) C.X.A C.X.env C.X.xe) (hex : C.X.ex = []) (h0 : HOk C.X.prog C.X.w C.X.H_0 C.X.s_0.heap) : JSs C (defBody s_InvalidProgressionq_initq) b_InvalidProgressionq_initq :=
    (jss_one (xst_ cf [3] 3 (v_ cf 0) (v_ cf 1) (fun c hc => by obtain rfl : c = 3 := List.mem_singleton.mp hc; exact ⟨xb_ok (x := "InvalidProgression") (i := 0) (fx.at_ 99), xno_ok (x := "InvalidProgression") (f := "value") (fx.at_ 63)⟩)))
theorem ok_InvalidProgressionq_initq (fx : Fx K mg base) : FnX PW w (SS fx) mg base 1 d_InvalidProgressionq_initq P_InvalidProgressionq_initq m_InvalidProgressionq_initq := by
  obtain ⟨fd, F⟩ := fx.q.def_ 29 (d := d_InvalidProgressionq_initq) rfl
  exact ⟨fd, F, fn_ofG (S := (SS fx)) (N := N_InvalidProgressionq_initq) F ⟨rfl, rfl, rfl, by decide +kernel, rfl, by decide +kernel, by decide +kernel⟩ fn_run fun C ok e1 e2 e3 e4 e5 e6 e7 e8 hfn hp _ _ hex h0 hq hcd => j_InvalidProgressionq_initq fx ⟨ok, e1, e2, e3, e4, e5, e6, e7, e8⟩ hfn hp hex h0⟩

theorem B_InvalidProgressionq_initq_2 : Bnd d_InvalidProgressionq_initq P_InvalidProgressionq_initq 2 [] [(0, 0), (0, 1)] [] := ⟨by decide, rfl, rfl, fun _ _ _ => .nil, .inl ⟨rfl, fun _ _ _ _ _ _ us ws h1 h2 => match us, ws, h1, h2 with
  | [_, _], [], _, _ => rfl⟩⟩
noncomputable def b_Progression_inside_1 : SM :=
    (sIf (bNot (bE (eCB (gIsiS 1 TAB XC) (aCons (eVar 1) (aCons (eC (.cl 0)) aNil))))) (sRaiseX 3 1 (fun xs zs h => m_InvalidProgressionq_initq (arrS [(0, 0), (0, 1)] [] xs zs) h) (aCons (eVar 1) aNil)) sNext)
noncomputable def b_Progression_inside_2 : SM :=
    (sRet (eAnd (eOp opEq (eOp opMod (eFld [0] 0 (eVar 0)) (eFld [0] 0 (eVar 1))) (eC (.int 0))) (eOp opEq (eOp opMod (eFld [0] 1 (eVar 0)) (eFld [0] 0 (eVar 1))) (eFld [0] 1 (eVar 1)))))
noncomputable def b_Progression_inside : SM :=
    (sSeq b_Progression_inside_1
    b_Progression_inside_2)
noncomputable def m_Progression_inside : List T → Hm → R T := run 2 b_Progression_inside
theorem j_Progression_inside (fx : Fx K mg base) {C : RC} (cf : Cf C PW w (SS fx) mg base N_Progression_inside (defScope s_Progression_inside) 2) (hfn : ∀ y, C.X.fn y = true) (hp : PassesOwn (model C.X.prog C.X.w) C.X.A C.X.env C.X.xe) (hex : C.X.ex = []) (h0 : HOk C.X.prog C.X.w C.X.H_0 C.X.s_0.heap) : JSs C (defBody s_Progression_inside) b_Progression_inside :=
    (jss_cons (js_if (jb_not (jb_val (cb_ cf (isiS_ cf (fx_is fx) (fx_xi fx)) (He.free_ok fx.X fx.G (fx.at_ 4)) (ja_cons (v_ cf 1) (ja_cons (cl_ cf 0 (He.glo_ok fx.X fx.G (fx.at_ 3))) ja_nil))))) (jss_one (raise_ cf hex h0 (ok_InvalidProgressionq_initq (w := w) fx) 3 B_InvalidProgressionq_initq_2 (xmk_ok (fx.at_ 99) (fx.at_ 100)) (xrs_ok (x := "InvalidProgression") (fx.at_ 101)) (He.glo_ok fx.X fx.G (fx.at_ 27)) (ja_cons (v_ cf 1) ja_nil) (by decide))) jss_nil)
    (jss_one (js_ret (je_and (je_cmp (eqP_ cf) (je_op op_modT (fld_ cf [0] 0 (v_ cf 0) (fx_fld_step fx)) (fld_ cf [0] 0 (v_ cf 1) (fx_fld_step fx))) je_int (by rfl)) (je_one (je_cmp (eqP_ cf) (je_op op_modT (fld_ cf [0] 1 (v_ cf 0) (fx_fld_first fx)) (fld_ cf [0] 0 (v_ cf 1) (fx_fld_step fx))) (fld_ cf [0] 1 (v_ cf 1) (fx_fld_first fx)) (by rfl)))))))
theorem ok_Progression_inside (fx : Fx K mg base) : FnX PW w (SS fx) mg base 3 d_Progression_inside P_Progression_inside m_Progression_inside := by
  obtain ⟨fd, F⟩ := fx.q.def_ 30 (d := d_Progression_inside) rfl
  exact ⟨fd, F, fn_ofG (S := (SS fx)) (N := N_Progression_inside) F ⟨rfl, rfl, rfl, by decide +kernel, rfl, by decide +kernel, by decide +kernel⟩ fn_run fun C ok e1 e2 e3 e4 e5 e6 e7 e8 hfn hp _ _ hex h0 hq hcd => j_Progression_inside fx ⟨ok, e1, e2, e3, e4, e5, e6, e7, e8⟩ hfn hp hex h0⟩

theorem B_Progression_inside_2 : Bnd d_Progression_inside P_Progression_inside 2 [] [(0, 0), (0, 1)] [] := ⟨by decide, rfl, rfl, fun _ _ _ => .nil, .inl ⟨rfl, fun _ _ _ _ _ _ us ws h1 h2 => match us, ws, h1, h2 with
  | [_, _], [], _, _ => rfl⟩⟩

theorem B_Progression_inside_1_other : Bnd d_Progression_inside P_Progression_inside 1 ["other"] [(0, 0), (1, 0)] [] := ⟨by decide, rfl, rfl, fun _ _ _ => .nil, .inl ⟨rfl, fun _ _ _ _ _ _ us ws h1 h2 => match us, ws, h1, h2 with
  | [_], [_], _, _ => rfl⟩⟩
noncomputable def mt_inside_1 : Nat → Option O3 := fun c => match c with
  | 0 => some (fun xs zs h => m_Progression_inside (arrS [(0, 0), (0, 1)] [] xs zs) h)
  | _ => none
theorem mok_mt_inside_1 (fx : Fx K mg base) {C : RC} {N : List Str} {sc : Scope} {k : Nat} (cf : Cf C PW w (SS fx) mg base N sc k) (hk : 3 ≤ k) : MsOk C "inside" 1 [] mt_inside_1 := by
  refine ms_of cf fun c g e => ?_
  unfold mt_inside_1 at e
  split at e
  · cases e; exact ⟨(cls_ok (x := "Progression") (fx.at_ 0)).cl, _, meth_ok (x := "Progression") (m := "inside") (fx.at_ 137), (FnX.ca (ok_Progression_inside (w := w) fx) cf B_Progression_inside_2 (Nat.le_trans (by decide) hk)).1⟩
  · cases e
noncomputable def mt_inside_0_other : Nat → Option O3 := fun c => match c with
  | 0 => some (fun xs zs h => m_Progression_inside (arrS [(0, 0), (1, 0)] [] xs zs) h)
  | _ => none
theorem mok_mt_inside_0_other (fx : Fx K mg base) {C : RC} {N : List Str} {sc : Scope} {k : Nat} (cf : Cf C PW w (SS fx) mg base N sc k) (hk : 3 ≤ k) : MsOk C "inside" 0 ["other"] mt_inside_0_other := by
  refine ms_of cf fun c g e => ?_
  unfold mt_inside_0_other at e
  split at e
  · cases e; exact ⟨(cls_ok (x := "Progression") (fx.at_ 0)).cl, _, meth_ok (x := "Progression") (m := "inside") (fx.at_ 137), (FnX.ca (ok_Progression_inside (w := w) fx) cf B_Progression_inside_1_other (Nat.le_trans (by decide) hk)).1⟩
  · cases e
noncomputable def l__law_several_right_1 : ET :=
    (eCall 1 (fun xs _ h => m_common (arrV 0 xs) h) (aCons (eVar 1) aNil))
noncomputable def b__law_several_right_1 : SM :=
    (sSet 3 (eLstM (aCons (eLamCall [1] (m__law_caught (eAct 0 5 l__law_several_right_1))) aNil)))
noncomputable def l__law_several_right_2 : ET :=
    (eCall 2 (fun xs _ h => m_common (arrV 0 xs) h) (aCons (eVar 0) (aCons (eVar 1) aNil)))
noncomputable def b__law_several_right_2 : SM :=
    (sExpr (eCell fAppend (eVar 3) (aCons (eLamCall [0, 1] (m__law_caught (eAct 0 5 l__law_several_right_2))) aNil)))
noncomputable def l__law_several_right_3 : ET :=
    (eCall 3 (fun xs _ h => m_common (arrV 0 xs) h) (aCons (eVar 1) (aCons (eVar 0) (aCons (eVar 2) aNil))))
noncomputable def b__law_several_right_3 : SM :=
    (sExpr (eCell fAppend (eVar 3) (aCons (eLamCall [0, 1, 2] (m__law_caught (eAct 0 5 l__law_several_right_3))) aNil)))
noncomputable def l__law_several_right_4 : ET :=
    (eCall 5 (fun xs _ h => m_common (arrV 0 xs) h) (aCons (eVar 0) (aCons (eVar 0) (aCons (eVar 0) (aCons (eVar 1) (aCons (eVar 2) aNil))))))
noncomputable def b__law_several_right_4 : SM :=
    (sExpr (eCell fAppend (eVar 3) (aCons (eLamCall [0, 1, 2] (m__law_caught (eAct 0 5 l__law_several_right_4))) aNil)))
noncomputable def l__law_several_right_5 : ET :=
    (eCall 2 (fun xs _ h => m_apart (arrV 0 xs) h) (aCons (eVar 1) (aCons (eVar 2) aNil)))
noncomputable def b__law_several_right_5 : SM :=
    (sExpr (eCell fAppend (eVar 3) (aCons (eLamCall [1, 2] (m__law_caught (eAct 0 5 l__law_several_right_5))) aNil)))
noncomputable def l__law_several_right_6 : ET :=
    (eCall 3 (fun xs _ h => m_apart (arrV 0 xs) h) (aCons (eVar 0) (aCons (eVar 1) (aCons (eVar 0) aNil))))
noncomputable def b__law_several_right_6 : SM :=
    (sExpr (eCell fAppend (eVar 3) (aCons (eLamCall [0, 1] (m__law_caught (eAct 0 5 l__law_several_right_6))) aNil)))
noncomputable def b__law_several_right_7_e1 : ET :=
    (eLst (aCons (eC (.int 3)) (aCons (eCB (gReprE ms_qreprq) (aCons (eVar 4) aNil)) aNil)))
noncomputable def b__law_several_right_7 : SM :=
    (sIf (bE (eOp (opNeK 1 OW) (eVar 3) (eLc [4] (iVal (eLst (aCons (eC (.int 0)) (aCons (eC (.int 1)) (aCons (eC (.int 0)) (aCons (eC (.int 3)) (aCons (eC (.int 0)) (aCons (eC (.int 1)) aNil)))))))) (gNm 4) bYes b__law_several_right_7_e1))) (sRet (eC (.bl false))) sNext)
noncomputable def l__law_several_right_7 : ET :=
    (eMeth 14 1 0 mt_inside_1 (eVar 0) (aCons (eVar 1) aNil) aNil)
noncomputable def b__law_several_right_8 : SM :=
    (sIf (bE (eOp (opNeK 1 OW) (eLamCall [0, 1] (m__law_caught (eAct 0 5 l__law_several_right_7))) (eLst (aCons (eC (.int 2)) (aCons (eCB (gReprE ms_qreprq) (aCons (eVar 1) aNil)) aNil))))) (sRet (eC (.bl false))) sNext)
noncomputable def l__law_several_right_8 : ET :=
    (eMeth 14 0 1 mt_inside_0_other (eVar 0) aNil (aCons (eVar 1) aNil))
noncomputable def b__law_several_right_9 : SM :=
    (sRet (eOp (opEqK 1 OW) (eLamCall [0, 1] (m__law_caught (eAct 0 5 l__law_several_right_8))) (eLst (aCons (eC (.int 2)) (aCons (eCB (gReprE ms_qreprq) (aCons (eVar 1) aNil)) aNil)))))
noncomputable def b__law_several_right : SM :=
    (sSeq b__law_several_right_1
    (sSeq b__law_several_right_2
    (sSeq b__law_several_right_3
    (sSeq b__law_several_right_4
    (sSeq b__law_several_right_5
    (sSeq b__law_several_right_6
    (sSeq (sFrz 3)
    (sSeq b__law_several_right_7
    (sSeq b__law_several_right_8
    b__law_several_right_9)))))))))
noncomputable def m__law_several_right : List T → Hm → R T := run 5 b__law_several_right
theorem j__law_several_right (fx : Fx K mg base) {C : RC} (cf : Cf C PW w (SS fx) mg base N__law_several_right (defScope s__law_several_right) 101) (hfn : ∀ y, C.X.fn y = true) (hp : PassesOwn (model C.X.prog C.X.w) C.X.A C.X.env C.X.xe) (hex : C.X.ex = []) (h0 : HOk C.X.prog C.X.w C.X.H_0 C.X.s_0.heap) (hq : C.X.env.qual = d__law_several_right.qual ++ ".<locals>.") (hcd : C.X.env.code = .ref (cdA K (He.fAd K d__law_several_right.at_))) : JSs C (defBody s__law_several_right) b__law_several_right :=
    (jss_cons (set_ cf 3 (je_lstM (ja_cons (lamcall_ cf (d := d__law_several_right) hq hcd (tf := TF) rfl (fx.at_ 79) 3 fx.tb (dg := d__law_caught) (a := "_law_act") (Ng := N__law_caught) [1] (kl := 99) (He.glo_ok fx.X fx.G (fx.at_ 80)) (fx.q.def_ 18 (d := d__law_caught) rfl) ⟨rfl, rfl, rfl, by decide +kernel, rfl, by decide +kernel, by decide +kernel⟩ (by decide) (fun _ c1 => (call_ c1 (FnV.ca (ok_common (w := w) fx) c1 1 (by decide) (by decide) (by decide)) (He.glo_ok fx.X fx.G (fx.at_ 97)) (ja_cons (v_ c1 1) ja_nil))) (fun _ _ cg hst hfr hact => j__law_caught fx cg hst hfr hact)) ja_nil)))
    (jss_cons (js_expr (app_ cf (v_ cf 3) (ja_cons (lamcall_ cf (d := d__law_several_right) hq hcd (tf := TF) rfl (fx.at_ 79) 3 fx.tb (dg := d__law_caught) (a := "_law_act") (Ng := N__law_caught) [0, 1] (kl := 99) (He.glo_ok fx.X fx.G (fx.at_ 80)) (fx.q.def_ 18 (d := d__law_caught) rfl) ⟨rfl, rfl, rfl, by decide +kernel, rfl, by decide +kernel, by decide +kernel⟩ (by decide) (fun _ c1 => (call_ c1 (FnV.ca (ok_common (w := w) fx) c1 2 (by decide) (by decide) (by decide)) (He.glo_ok fx.X fx.G (fx.at_ 97)) (ja_cons (v_ c1 0) (ja_cons (v_ c1 1) ja_nil)))) (fun _ _ cg hst hfr hact => j__law_caught fx cg hst hfr hact)) ja_nil)))
    (jss_cons (js_expr (app_ cf (v_ cf 3) (ja_cons (lamcall_ cf (d := d__law_several_right) hq hcd (tf := TF) rfl (fx.at_ 79) 3 fx.tb (dg := d__law_caught) (a := "_law_act") (Ng := N__law_caught) [0, 1, 2] (kl := 99) (He.glo_ok fx.X fx.G (fx.at_ 80)) (fx.q.def_ 18 (d := d__law_caught) rfl) ⟨rfl, rfl, rfl, by decide +kernel, rfl, by decide +kernel, by decide +kernel⟩ (by decide) (fun _ c1 => (call_ c1 (FnV.ca (ok_common (w := w) fx) c1 3 (by decide) (by decide) (by decide)) (He.glo_ok fx.X fx.G (fx.at_ 97)) (ja_cons (v_ c1 1) (ja_cons (v_ c1 0) (ja_cons (v_ c1 2) ja_nil))))) (fun _ _ cg hst hfr hact => j__law_caught fx cg hst hfr hact)) ja_nil)))
    (jss_cons (js_expr (app_ cf (v_ cf 3) (ja_cons (lamcall_ cf (d := d__law_several_right) hq hcd (tf := TF) rfl (fx.at_ 79) 3 fx.tb (dg := d__law_caught) (a := "_law_act") (Ng := N__law_caught) [0, 1, 2] (kl := 99) (He.glo_ok fx.X fx.G (fx.at_ 80)) (fx.q.def_ 18 (d := d__law_caught) rfl) ⟨rfl, rfl, rfl, by decide +kernel, rfl, by decide +kernel, by decide +kernel⟩ (by decide) (fun _ c1 => (call_ c1 (FnV.ca (ok_common (w := w) fx) c1 5 (by decide) (by decide) (by decide)) (He.glo_ok fx.X fx.G (fx.at_ 97)) (ja_cons (v_ c1 0) (ja_cons (v_ c1 0) (ja_cons (v_ c1 0) (ja_cons (v_ c1 1) (ja_cons (v_ c1 2) ja_nil))))))) (fun _ _ cg hst hfr hact => j__law_caught fx cg hst hfr hact)) ja_nil)))
    (jss_cons (js_expr (app_ cf (v_ cf 3) (ja_cons (lamcall_ cf (d := d__law_several_right) hq hcd (tf := TF) rfl (fx.at_ 79) 3 fx.tb (dg := d__law_caught) (a := "_law_act") (Ng := N__law_caught) [1, 2] (kl := 99) (He.glo_ok fx.X fx.G (fx.at_ 80)) (fx.q.def_ 18 (d := d__law_caught) rfl) ⟨rfl, rfl, rfl, by decide +kernel, rfl, by decide +kernel, by decide +kernel⟩ (by decide) (fun _ c1 => (call_ c1 (FnV.ca (ok_apart (w := w) fx) c1 2 (by decide) (by decide) (by decide)) (He.glo_ok fx.X fx.G (fx.at_ 98)) (ja_cons (v_ c1 1) (ja_cons (v_ c1 2) ja_nil)))) (fun _ _ cg hst hfr hact => j__law_caught fx cg hst hfr hact)) ja_nil)))
    (jss_cons (js_expr (app_ cf (v_ cf 3) (ja_cons (lamcall_ cf (d := d__law_several_right) hq hcd (tf := TF) rfl (fx.at_ 79) 3 fx.tb (dg := d__law_caught) (a := "_law_act") (Ng := N__law_caught) [0, 1] (kl := 99) (He.glo_ok fx.X fx.G (fx.at_ 80)) (fx.q.def_ 18 (d := d__law_caught) rfl) ⟨rfl, rfl, rfl, by decide +kernel, rfl, by decide +kernel, by decide +kernel⟩ (by decide) (fun _ c1 => (call_ c1 (FnV.ca (ok_apart (w := w) fx) c1 3 (by decide) (by decide) (by decide)) (He.glo_ok fx.X fx.G (fx.at_ 98)) (ja_cons (v_ c1 0) (ja_cons (v_ c1 1) (ja_cons (v_ c1 0) ja_nil))))) (fun _ _ cg hst hfr hact => j__law_caught fx cg hst hfr hact)) ja_nil)))
    (jss_frz 3 (jss_cons (js_if (jb_cmp (neK_ cf (fx_is fx) (oe fx cf) (by decide)) (v_ cf 3) (lc_ cf [("_law_at", 4)] (ji_val cf.ok (je_lst (ja_cons je_int (ja_cons je_int (ja_cons je_int (ja_cons je_int (ja_cons je_int (ja_cons je_int ja_nil)))))))) (sim_name (by decide)) (fun _ c1 hc1 => (pgn_ c1 4)) (fun _ c1 => jts_nil) (fun _ c1 => (je_lst (ja_cons je_int (ja_cons (cb_ c1 (reprE_ c1 ((du_qreprq (sc := _) fx c1)) (by decide) (by decide) (by decide)) (He.free_ok fx.X fx.G (fx.at_ 26)) (ja_cons (v_ c1 4) ja_nil)) ja_nil))))) (by rfl)) (jss_one (js_ret je_bl)) jss_nil)
    (jss_cons (js_if (jb_cmp (neK_ cf (fx_is fx) (oe fx cf) (by decide)) (lamcall_ cf (d := d__law_several_right) hq hcd (tf := TF) rfl (fx.at_ 79) 3 fx.tb (dg := d__law_caught) (a := "_law_act") (Ng := N__law_caught) [0, 1] (kl := 99) (He.glo_ok fx.X fx.G (fx.at_ 80)) (fx.q.def_ 18 (d := d__law_caught) rfl) ⟨rfl, rfl, rfl, by decide +kernel, rfl, by decide +kernel, by decide +kernel⟩ (by decide) (fun _ c1 => (meth_ c1 14 (mok_mt_inside_1 fx c1 (by decide)) (v_ c1 0) (ja_cons (v_ c1 1) ja_nil))) (fun _ _ cg hst hfr hact => j__law_caught fx cg hst hfr hact)) (je_lst (ja_cons je_int (ja_cons (cb_ cf (reprE_ cf ((du_qreprq (sc := _) fx cf)) (by decide) (by decide) (by decide)) (He.free_ok fx.X fx.G (fx.at_ 26)) (ja_cons (v_ cf 1) ja_nil)) ja_nil))) (by rfl)) (jss_one (js_ret je_bl)) jss_nil)
    (jss_one (js_ret (je_cmp (eqK_ cf (fx_is fx) (oe fx cf) (by decide)) (lamcall_ cf (d := d__law_several_right) hq hcd (tf := TF) rfl (fx.at_ 79) 3 fx.tb (dg := d__law_caught) (a := "_law_act") (Ng := N__law_caught) [0, 1] (kl := 99) (He.glo_ok fx.X fx.G (fx.at_ 80)) (fx.q.def_ 18 (d := d__law_caught) rfl) ⟨rfl, rfl, rfl, by decide +kernel, rfl, by decide +kernel, by decide +kernel⟩ (by decide) (fun _ c1 => (methK0_ c1 14 (mok_mt_inside_0_other fx c1 (by decide)) (v_ c1 0) (jk_cons (v_ c1 1) jk_nil))) (fun _ _ cg hst hfr hact => j__law_caught fx cg hst hfr hact)) (je_lst (ja_cons je_int (ja_cons (cb_ cf (reprE_ cf ((du_qreprq (sc := _) fx cf)) (by decide) (by decide) (by decide)) (He.free_ok fx.X fx.G (fx.at_ 26)) (ja_cons (v_ cf 1) ja_nil)) ja_nil))) (by rfl)))))))))))))
theorem ok__law_several_right (fx : Fx K mg base) : FnX PW w (SS fx) mg base 102 d__law_several_right P__law_several_right m__law_several_right := by
  obtain ⟨fd, F⟩ := fx.q.def_ 31 (d := d__law_several_right) rfl
  exact ⟨fd, F, fn_ofG (S := (SS fx)) (N := N__law_several_right) F ⟨rfl, rfl, rfl, by decide +kernel, rfl, by decide +kernel, by decide +kernel⟩ fn_run fun C ok e1 e2 e3 e4 e5 e6 e7 e8 hfn hp _ _ hex h0 hq hcd => j__law_several_right fx ⟨ok, e1, e2, e3, e4, e5, e6, e7, e8⟩ hfn hp hex h0 hq hcd⟩

theorem B__law_several_right_3 : Bnd d__law_several_right P__law_several_right 3 [] [(0, 0), (0, 1), (0, 2)] [] := ⟨by decide, rfl, rfl, fun _ _ _ => .nil, .inl ⟨rfl, fun _ _ _ _ _ _ us ws h1 h2 => match us, ws, h1, h2 with
  | [_, _, _], [], _, _ => rfl⟩⟩
noncomputable def b__law_right_1 : SM :=
    (sSet 1 (eCall 1 (fun xs zs h => m__law_pair (arrS [(0, 0)] [] xs zs) h) (aCons (eVar 0) aNil)))
noncomputable def b__law_right_2 : SM :=
    (sAsg (eTup (aCons (eCall 2 (mkO 0 m_Progressionq_initq (arrS [(0, 0), (0, 1), (0, 2)] [(.int 0)])) (aCons (eOp (opIxK ms_qgetitemq) (eVar 1) (eC (.int 1))) (aCons (eOp (opIxK ms_qgetitemq) (eVar 1) (eC (.int 0))) aNil))) (aCons (eLst (aCons (eC .non) (aCons (eC (.bl true)) (aCons (eC (.bl false)) (aCons (eUn opNeg (eC (.int 1))) (aCons (eC (.str "")) (aCons (eC (.str "1")) (aCons (eTup aNil) (aCons (eTup (aCons (eC (.int 1)) aNil)) (aCons (eLst (aCons (eC (.int 1)) aNil)) (aCons eEmp (aCons (eOp opSub (eC (.int 0)) (eOp opPow (eC (.int 10)) (eC (.int 60)))) aNil)))))))))))) aNil))) (gTp 2 (gsCons (gNm 2) (gsCons (gNm 3) gsNil))))
noncomputable def b__law_right_3 : SM :=
    (sSet 3 (eOp opAddL (eVar 3) (eLst (aCons (eVar 2) (aCons (eTup (aCons (eLst aNil) aNil)) aNil)))))
noncomputable def b__law_right_4 : SM :=
    (sPar 4 5 (aCons (eOp (opIxK ms_qgetitemq) (eVar 3) (eCall 2 (fun xs zs h => m__law_draw (arrS [(0, 0), (0, 1)] [] xs zs) h) (aCons (eVar 0) (aCons (eC (.int 13)) aNil)))) (aCons (eOp (opIxK ms_qgetitemq) (eVar 3) (eCall 2 (fun xs zs h => m__law_draw (arrS [(0, 0), (0, 1)] [] xs zs) h) (aCons (eVar 0) (aCons (eC (.int 13)) aNil)))) aNil)))
noncomputable def b__law_right_5b : SM :=
    (sIf (bNot (bE (eCall 2 (fun xs zs h => m__law_made_right (arrS [(0, 0), (0, 1)] [] xs zs) h) (aCons (eVar 6) (aCons (eVar 7) aNil))))) (sRet (eC (.bl false))) sNext)
noncomputable def b__law_right_5 : SM :=
    (sFor (iVal (eLst (aCons (eTup (aCons (eOp (opIxK ms_qgetitemq) (eVar 1) (eC (.int 1))) (aCons (eVar 4) aNil))) (aCons (eTup (aCons (eVar 4) (aCons (eOp (opIxK ms_qgetitemq) (eVar 1) (eC (.int 0))) aNil))) (aCons (eTup (aCons (eVar 4) (aCons (eVar 5) aNil))) (aCons (eTup (aCons (eC (.int 0)) (aCons (eC (.int 0)) aNil))) (aCons (eTup (aCons (eOp (opIxK ms_qgetitemq) (eVar 1) (eC (.int 1))) (aCons (eOp (opIxK ms_qgetitemq) (eVar 1) (eC (.int 1))) aNil))) (aCons (eRevT (eVar 1)) (aCons (eTup (aCons (eC (.int 1)) (aCons (eC (.bl true)) aNil))) aNil))))))))) (gTp 2 (gsCons (gNm 6) (gsCons (gNm 7) gsNil))) b__law_right_5b)
noncomputable def b__law_right_6_e1 : ET :=
    (eCall 2 (fun xs zs h => m__law_asked_right (arrS [(0, 0), (0, 1)] [] xs zs) h) (aCons (eVar 2) (aCons (eVar 8) aNil)))
noncomputable def b__law_right_6 : SM :=
    (sIf (bNot (bE (eCB gAll (aCons (eLc [8] (iVal (eLst (aCons (eC (.int 0)) (aCons (eVar 4) (aCons (eC (.int 1)) (aCons (eC (.bl true)) (aCons (eC (.int 0)) (aCons (eC (.bl false)) (aCons (eVar 5) (aCons (eOp (opIxK ms_qgetitemq) (eVar 1) (eC (.int 0))) aNil)))))))))) (gNm 8) bYes b__law_right_6_e1) aNil)))) (sRet (eC (.bl false))) sNext)
noncomputable def b__law_right_7 : SM :=
    (sSet 3 (eLst (aCons (eC .non) (aCons (eC (.int 0)) (aCons (eC (.bl true)) (aCons (eC (.str "")) (aCons (eTup aNil) (aCons (eVar 1) (aCons (eLst (aCons (eVar 2) aNil)) (aCons (eTup (aCons (eVar 2) aNil)) (aCons eEmp (aCons (eCB (gStr ms_qstrq) (aCons (eVar 2) aNil)) (aCons (eCB (gReprE ms_qreprq) (aCons (eVar 2) aNil)) (aCons (eUn opNeg (eC (.int 1))) (aCons (eLst aNil) (aCons (eTup (aCons (eVar 1) aNil)) aNil))))))))))))))))
noncomputable def b__law_right_8 : SM :=
    (sRet (eCall 3 (fun xs zs h => m__law_several_right (arrS [(0, 0), (0, 1), (0, 2)] [] xs zs) h) (aCons (eVar 2) (aCons (eOp (opIxK ms_qgetitemq) (eVar 3) (eCall 2 (fun xs zs h => m__law_draw (arrS [(0, 0), (0, 1)] [] xs zs) h) (aCons (eVar 0) (aCons (eC (.int 14)) aNil)))) (aCons (eOp (opIxK ms_qgetitemq) (eVar 3) (eCall 2 (fun xs zs h => m__law_draw (arrS [(0, 0), (0, 1)] [] xs zs) h) (aCons (eVar 0) (aCons (eC (.int 14)) aNil)))) aNil)))))
noncomputable def b__law_right : SM :=
    (sSeq b__law_right_1
    (sSeq b__law_right_2
    (sSeq b__law_right_3
    (sSeq b__law_right_4
    (sSeq b__law_right_5
    (sSeq b__law_right_6
    (sSeq b__law_right_7
    b__law_right_8)))))))
noncomputable def m__law_right : List T → Hm → R T := run 9 b__law_right
theorem j__law_right (fx : Fx K mg base) {C : RC} (cf : Cf C PW w (SS fx) mg base N__law_right (defScope s__law_right) 102) (hfn : ∀ y, C.X.fn y = true) (hp : PassesOwn (model C.X.prog C.X.w) C.X.A C.X.env C.X.xe) (hex : C.X.ex = []) (h0 : HOk C.X.prog C.X.w C.X.H_0 C.X.s_0.heap) : JSs C (defBody s__law_right) b__law_right :=
    (jss_cons (set_ cf 1 (call_ cf (FnX.ca (ok__law_pair (w := w) fx) cf B__law_pair_1 (by decide)) (He.glo_ok fx.X fx.G (fx.at_ 88)) (ja_cons (v_ cf 0) ja_nil)))
    (jss_cons (asg_ cf (je_tup (ja_cons (call_ cf (FnX.make (ok_Progressionq_initq (w := w) fx) cf 0 B_Progressionq_initq_3 (mk_ok (fx.at_ 20)) (by decide)) (He.glo_ok fx.X fx.G (fx.at_ 3)) (ja_cons (ixK_ cf (du_qgetitemq (sc := _) fx cf) (by decide) (fn_getitem fx) (v_ cf 1) je_int) (ja_cons (ixK_ cf (du_qgetitemq (sc := _) fx cf) (by decide) (fn_getitem fx) (v_ cf 1) je_int) ja_nil))) (ja_cons (je_lst (ja_cons je_non (ja_cons je_bl (ja_cons je_bl (ja_cons (je_un un_negT je_int) (ja_cons je_str (ja_cons je_str (ja_cons (je_tup ja_nil) (ja_cons (je_tup (ja_cons je_int ja_nil)) (ja_cons (je_lst (ja_cons je_int ja_nil)) (ja_cons je_emp (ja_cons (je_op op_subT je_int (je_op op_powT je_int je_int)) ja_nil)))))))))))) ja_nil))) (jg_tup cf.ok cf.cold (jgs_cons (gnmC_ cf hfn 2) (jgs_cons (gnm_ cf 3) jgs_nil))))
    (jss_cons (set_ cf 3 (je_op (op_addL cf.ok) (v_ cf 3) (je_lst (ja_cons (v_ cf 2) (ja_cons (je_tup (ja_cons (je_lst ja_nil) ja_nil)) ja_nil)))))
    (jss_cons (par_ cf (i := 4) (j := 5) (ja_cons (ixK_ cf (du_qgetitemq (sc := _) fx cf) (by decide) (fn_getitem fx) (v_ cf 3) (call_ cf (FnX.ca (ok__law_draw (w := w) fx) cf B__law_draw_2 (by decide)) (He.glo_ok fx.X fx.G (fx.at_ 87)) (ja_cons (v_ cf 0) (ja_cons je_int ja_nil)))) (ja_cons (ixK_ cf (du_qgetitemq (sc := _) fx cf) (by decide) (fn_getitem fx) (v_ cf 3) (call_ cf (FnX.ca (ok__law_draw (w := w) fx) cf B__law_draw_2 (by decide)) (He.glo_ok fx.X fx.G (fx.at_ 87)) (ja_cons (v_ cf 0) (ja_cons je_int ja_nil)))) ja_nil)))
    (jss_cons (js_for hp cf.ok cf.cold (ji_val cf.ok (je_lst (ja_cons (je_tup (ja_cons (ixK_ cf (du_qgetitemq (sc := _) fx cf) (by decide) (fn_getitem fx) (v_ cf 1) je_int) (ja_cons (v_ cf 4) ja_nil))) (ja_cons (je_tup (ja_cons (v_ cf 4) (ja_cons (ixK_ cf (du_qgetitemq (sc := _) fx cf) (by decide) (fn_getitem fx) (v_ cf 1) je_int) ja_nil))) (ja_cons (je_tup (ja_cons (v_ cf 4) (ja_cons (v_ cf 5) ja_nil))) (ja_cons (je_tup (ja_cons je_int (ja_cons je_int ja_nil))) (ja_cons (je_tup (ja_cons (ixK_ cf (du_qgetitemq (sc := _) fx cf) (by decide) (fn_getitem fx) (v_ cf 1) je_int) (ja_cons (ixK_ cf (du_qgetitemq (sc := _) fx cf) (by decide) (fn_getitem fx) (v_ cf 1) je_int) ja_nil))) (ja_cons (je_revT cf.ok (v_ cf 1)) (ja_cons (je_tup (ja_cons je_int (ja_cons je_bl ja_nil))) ja_nil))))))))) (jg_tup cf.ok cf.cold (jgs_cons (gnm_ cf 6) (jgs_cons (gnm_ cf 7) jgs_nil))) (jss_one (js_if (jb_not (jb_val (call_ cf (FnX.ca (ok__law_made_right (w := w) fx) cf B__law_made_right_2 (by decide)) (He.glo_ok fx.X fx.G (fx.at_ 81)) (ja_cons (v_ cf 6) (ja_cons (v_ cf 7) ja_nil))))) (jss_one (js_ret je_bl)) jss_nil)))
    (jss_cons (js_if (jb_not (jb_val (cb_ cf (ca_all cf.ok cf.cold) (He.free_ok fx.X fx.G (fx.at_ 90)) (ja_cons (lc_ cf [("_law_one", 8)] (ji_val cf.ok (je_lst (ja_cons je_int (ja_cons (v_ cf 4) (ja_cons je_int (ja_cons je_bl (ja_cons je_int (ja_cons je_bl (ja_cons (v_ cf 5) (ja_cons (ixK_ cf (du_qgetitemq (sc := _) fx cf) (by decide) (fn_getitem fx) (v_ cf 1) je_int) ja_nil)))))))))) (sim_name (by decide)) (fun _ c1 hc1 => (pgn_ c1 8)) (fun _ c1 => jts_nil) (fun _ c1 => (call_ c1 (FnX.ca (ok__law_asked_right (w := w) fx) c1 B__law_asked_right_2 (by decide)) (He.glo_ok fx.X fx.G (fx.at_ 89)) (ja_cons (v_ c1 2) (ja_cons (v_ c1 8) ja_nil))))) ja_nil)))) (jss_one (js_ret je_bl)) jss_nil)
    (jss_cons (set_ cf 3 (je_lst (ja_cons je_non (ja_cons je_int (ja_cons je_bl (ja_cons je_str (ja_cons (je_tup ja_nil) (ja_cons (v_ cf 1) (ja_cons (je_lst (ja_cons (v_ cf 2) ja_nil)) (ja_cons (je_tup (ja_cons (v_ cf 2) ja_nil)) (ja_cons je_emp (ja_cons (ct_ cf (str_ cf ((du_qstrq (sc := _) fx cf)) (by decide) (by decide)) (He.free_ok fx.X fx.G (fx.at_ 91)) (ja_cons (v_ cf 2) ja_nil)) (ja_cons (cb_ cf (reprE_ cf ((du_qreprq (sc := _) fx cf)) (by decide) (by decide) (by decide)) (He.free_ok fx.X fx.G (fx.at_ 26)) (ja_cons (v_ cf 2) ja_nil)) (ja_cons (je_un un_negT je_int) (ja_cons (je_lst ja_nil) (ja_cons (je_tup (ja_cons (v_ cf 1) ja_nil)) ja_nil))))))))))))))))
    (jss_one (js_ret (call_ cf (FnX.ca (ok__law_several_right (w := w) fx) cf B__law_several_right_3 (by decide)) (He.glo_ok fx.X fx.G (fx.at_ 102)) (ja_cons (v_ cf 2) (ja_cons (ixK_ cf (du_qgetitemq (sc := _) fx cf) (by decide) (fn_getitem fx) (v_ cf 3) (call_ cf (FnX.ca (ok__law_draw (w := w) fx) cf B__law_draw_2 (by decide)) (He.glo_ok fx.X fx.G (fx.at_ 87)) (ja_cons (v_ cf 0) (ja_cons je_int ja_nil)))) (ja_cons (ixK_ cf (du_qgetitemq (sc := _) fx cf) (by decide) (fn_getitem fx) (v_ cf 3) (call_ cf (FnX.ca (ok__law_draw (w := w) fx) cf B__law_draw_2 (by decide)) (He.glo_ok fx.X fx.G (fx.at_ 87)) (ja_cons (v_ cf 0) (ja_cons je_int ja_nil)))) ja_nil)))))))))))))
theorem ok__law_right (fx : Fx K mg base) : FnX PW w (SS fx) mg base 103 d__law_right P__law_right m__law_right := by
  obtain ⟨fd, F⟩ := fx.q.def_ 32 (d := d__law_right) rfl
  exact ⟨fd, F, fn_ofG (S := (SS fx)) (N := N__law_right) F ⟨rfl, rfl, rfl, by decide +kernel, rfl, by decide +kernel, by decide +kernel⟩ fn_run fun C ok e1 e2 e3 e4 e5 e6 e7 e8 hfn hp _ _ hex h0 hq hcd => j__law_right fx ⟨ok, e1, e2, e3, e4, e5, e6, e7, e8⟩ hfn hp hex h0⟩

theorem B__law_right_1 : Bnd d__law_right P__law_right 1 [] [(0, 0)] [] := ⟨by decide, rfl, rfl, fun _ _ _ => .nil, .inl ⟨rfl, fun _ _ _ _ _ _ us ws h1 h2 => match us, ws, h1, h2 with
  | [_], [], _, _ => rfl⟩⟩
noncomputable def b__law_pool_1 : SM :=
    (sSet 1 (eIf (bOr (bE (eOp opLt (eVar 0) (eC (.int 0)))) (bE (eOp opGe (eVar 0) (eOp opPow (eC (.int 10)) (eC (.int 18)))))) (eCB gAbs (aCons (eVar 0) aNil)) (eC (.int 0))))
noncomputable def b__law_pool_2 : SM :=
    (sRet (eLstM (aCons (eOp opMod (eVar 0) (eC (.int 2147483323))) (aCons (eVar 1) (aCons (eC (.int 0)) aNil)))))
noncomputable def b__law_pool : SM :=
    (sSeq b__law_pool_1
    b__law_pool_2)
noncomputable def m__law_pool : List T → Hm → R T := run 2 b__law_pool
theorem j__law_pool (fx : Fx K mg base) {C : RC} (cf : Cf C PW w (SS fx) mg base N__law_pool (defScope s__law_pool) 0) (hfn : ∀ y, C.X.fn y = true) (hp : PassesOwn (model C.X.prog C.X.w) C.X.A C.X.env C.X.xe) (hex : C.X.ex = []) (h0 : HOk C.X.prog C.X.w C.X.H_0 C.X.s_0.heap) : JSs C (defBody s__law_pool) b__law_pool :=
    (jss_cons (set_ cf 1 (je_if (JW.jb (jw_or (jb_cmp op_ltT' (v_ cf 0) je_int (by rfl)) (jw_one (jb_cmp op_geT (v_ cf 0) (je_op op_powT je_int je_int) (by rfl))))) (cb_ cf ca_abs (He.free_ok fx.X fx.G (fx.at_ 103)) (ja_cons (v_ cf 0) ja_nil)) je_int))
    (jss_one (js_ret (je_lstM (ja_cons (je_op op_modT (v_ cf 0) je_int) (ja_cons (v_ cf 1) (ja_cons je_int ja_nil)))))))
theorem ok__law_pool (fx : Fx K mg base) : FnX PW w (SS fx) mg base 1 d__law_pool P__law_pool m__law_pool := by
  obtain ⟨fd, F⟩ := fx.q.def_ 33 (d := d__law_pool) rfl
  exact ⟨fd, F, fn_ofG (S := (SS fx)) (N := N__law_pool) F ⟨rfl, rfl, rfl, by decide +kernel, rfl, by decide +kernel, by decide +kernel⟩ fn_run fun C ok e1 e2 e3 e4 e5 e6 e7 e8 hfn hp _ _ hex h0 hq hcd => j__law_pool fx ⟨ok, e1, e2, e3, e4, e5, e6, e7, e8⟩ hfn hp hex h0⟩

theorem B__law_pool_1 : Bnd d__law_pool P__law_pool 1 [] [(0, 0)] [] := ⟨by decide, rfl, rfl, fun _ _ _ => .nil, .inl ⟨rfl, fun _ _ _ _ _ _ us ws h1 h2 => match us, ws, h1, h2 with
  | [_], [], _, _ => rfl⟩⟩
noncomputable def b__law_cell_1 : SM :=
    (sIf (bE (eOp opLt (eVar 1) (eCB (gLenK (fun _ => none)) (aCons (eVar 0) aNil)))) (sRet (eOp (opIxK ms_qgetitemq) (eVar 0) (eVar 1))) sNext)
noncomputable def b__law_cell_2 : SM :=
    (sSet 2 (eOp opMod (eOp opMul (eC (.int 70001)) (eOp opAdd (eOp opAddL (eOp opMulL (eVar 1) (eVar 1)) (eOp opMul (eC (.int 7)) (eVar 1))) (eC (.int 5)))) (eC (.int 2147483323))))
noncomputable def b__law_cell_3b : SM :=
    (sSet 2 (eOp opMod (eOp opAddL (eOp opMulL (eVar 2) (eC (.int 42043))) (eVar 3)) (eC (.int 2147483323))))
noncomputable def b__law_cell_3 : SM :=
    (sFor (iVal (eSl (eVar 0) oNone (oSome (eC (.int 3))))) (gNm 3) b__law_cell_3b)
noncomputable def b__law_cell_4 : SM :=
    (sRet (eVar 2))
noncomputable def b__law_cell : SM :=
    (sSeq b__law_cell_1
    (sSeq b__law_cell_2
    (sSeq b__law_cell_3
    b__law_cell_4)))
noncomputable def m__law_cell : List T → Hm → R T := run 4 b__law_cell
theorem j__law_cell (fx : Fx K mg base) {C : RC} (cf : Cf C PW w (SS fx) mg base N__law_cell (defScope s__law_cell) 5) (hfn : ∀ y, C.X.fn y = true) (hp : PassesOwn (model C.X.prog C.X.w) C.X.A C.X.env C.X.xe) (hex : C.X.ex = []) (h0 : HOk C.X.prog C.X.w C.X.H_0 C.X.s_0.heap) : JSs C (defBody s__law_cell) b__law_cell :=
    (jss_cons (js_if (jb_cmp op_ltT' (v_ cf 1) (cb_ cf (len_ cf (du_none (j := 0)) (by decide)) (He.free_ok fx.X fx.G (fx.at_ 82)) (ja_cons (v_ cf 0) ja_nil)) (by rfl)) (jss_one (js_ret (ixK_ cf (du_qgetitemq (sc := _) fx cf) (by decide) (fn_getitem fx) (v_ cf 0) (v_ cf 1)))) jss_nil)
    (jss_cons (set_ cf 2 (je_op op_modT (je_op op_mulT je_int (je_op op_addT (je_op (op_addL cf.ok) (je_op (op_mulL cf.ok) (v_ cf 1) (v_ cf 1)) (je_op op_mulT je_int (v_ cf 1))) je_int)) je_int))
    (jss_cons (js_for hp cf.ok cf.cold (ji_val cf.ok (je_sl cf.ok (v_ cf 0) jo_none (jo_some je_int))) (gnm_ cf 3) (jss_one (set_ cf 2 (je_op op_modT (je_op (op_addL cf.ok) (je_op (op_mulL cf.ok) (v_ cf 2) je_int) (v_ cf 3)) je_int))))
    (jss_one (js_ret (v_ cf 2))))))
theorem ok__law_cell (fx : Fx K mg base) : FnX PW w (SS fx) mg base 6 d__law_cell P__law_cell m__law_cell := by
  obtain ⟨fd, F⟩ := fx.q.def_ 34 (d := d__law_cell) rfl
  exact ⟨fd, F, fn_ofG (S := (SS fx)) (N := N__law_cell) F ⟨rfl, rfl, rfl, by decide +kernel, rfl, by decide +kernel, by decide +kernel⟩ fn_run fun C ok e1 e2 e3 e4 e5 e6 e7 e8 hfn hp _ _ hex h0 hq hcd => j__law_cell fx ⟨ok, e1, e2, e3, e4, e5, e6, e7, e8⟩ hfn hp hex h0⟩

theorem B__law_cell_2 : Bnd d__law_cell P__law_cell 2 [] [(0, 0), (0, 1)] [] := ⟨by decide, rfl, rfl, fun _ _ _ => .nil, .inl ⟨rfl, fun _ _ _ _ _ _ us ws h1 h2 => match us, ws, h1, h2 with
  | [_, _], [], _, _ => rfl⟩⟩
noncomputable def b_law_1 : SM :=
    (sSet 1 (eLst (aCons (eTup (aCons (eC (.int 6)) (aCons (eC (.int 6)) aNil))) (aCons (eTup (aCons (eC (.int 6)) (aCons (eC (.int 5)) aNil))) (aCons (eTup (aCons (eC (.int 6)) (aCons (eUn opNeg (eC (.int 1))) aNil))) (aCons (eTup (aCons (eC (.int 0)) (aCons (eC (.int 0)) aNil))) (aCons (eTup (aCons (eUn opNeg (eC (.int 1))) (aCons (eC (.int 0)) aNil))) (aCons (eTup (aCons (eC (.bl true)) (aCons (eC (.int 0)) aNil))) (aCons (eTup (aCons (eC (.int 1)) (aCons (eC (.bl false)) aNil))) (aCons (eTup (aCons (eC (.int 1)) (aCons (eC (.int 0)) aNil))) (aCons (eTup (aCons (eC (.int 2)) (aCons (eC (.bl true)) aNil))) (aCons (eTup (aCons (eC (.int 2)) (aCons (eC (.int 1)) aNil))) (aCons (eTup (aCons (eLst aNil) (aCons (eC .non) aNil))) aNil)))))))))))))
noncomputable def b_law_2b : SM :=
    (sIf (bNot (bE (eCall 2 (fun xs zs h => m__law_made_right (arrS [(0, 0), (0, 1)] [] xs zs) h) (aCons (eVar 2) (aCons (eVar 3) aNil))))) (sRet (eC (.bl false))) sNext)
noncomputable def b_law_2 : SM :=
    (sFor (iVal (eVar 1)) (gTp 2 (gsCons (gNm 2) (gsCons (gNm 3) gsNil))) b_law_2b)
noncomputable def l_law_1 : ET :=
    (eCall 1 (mkO 0 m_Progressionq_initq (arrS [(0, 0), (0, 1), (2, 0)] [(.int 0)])) (aCons (eC (.int 0)) aNil))
noncomputable def b_law_3 : SM :=
    (sIf (bE (eOp (opNeK 1 OW) (eLamCall [] (m__law_caught (eAct 0 5 l_law_1))) (eLst (aCons (eC (.int 1)) (aCons (eC (.str "0")) aNil))))) (sRet (eC (.bl false))) sNext)
noncomputable def l_law_2 : ET :=
    (eOp (opIxS ms_qgetitemq) (eCall 2 (mkO 0 m_Progressionq_initq (arrS [(0, 0), (0, 1), (0, 2)] [(.int 0)])) (aCons (eC (.int 6)) (aCons (eC (.int 2)) aNil))) (eSlc (eC (.int 1)) (eC (.int 2))))
noncomputable def b_law_4 : SM :=
    (sIf (bE (eOp (opNeK 1 OW) (eLamCall [] (m__law_caught (eAct 0 5 l_law_2))) (eLst (aCons (eC (.int 0)) (aCons (eC (.str "slice(1, 2, None)")) aNil))))) (sRet (eC (.bl false))) sNext)
noncomputable def l_law_3 : ET :=
    (eCall 1 (mkO 0 m_Progressionq_initq (arrS [(0, 0), (0, 1), (2, 0)] [(.int 0)])) (aCons (eC (.int 1)) aNil))
noncomputable def b_law_5 : SM :=
    (sIf (bE (eOp (opNeE (opNeK 1 OW)) (eLamCall [] (m__law_caught (eAct 0 5 l_law_3))) (eLst aNil))) (sRet (eC (.bl false))) sNext)
noncomputable def b_law_6_e1 : ET :=
    (eCall 1 (fun xs zs h => m__law_right (arrS [(0, 0)] [] xs zs) h) (aCons (eCall 1 (fun xs zs h => m__law_pool (arrS [(0, 0)] [] xs zs) h) (aCons (eCall 2 (fun xs zs h => m__law_cell (arrS [(0, 0), (0, 1)] [] xs zs) h) (aCons (eVar 0) (aCons (eVar 4) aNil))) aNil)) aNil))
noncomputable def b_law_6 : SM :=
    (sRet (eCB gAll (aCons (eLc [4] (iRg1 (aCons (eCB gMax (aCons (eC (.int 2)) (aCons (eCB gMin (aCons (eCB (gLenK (fun _ => none)) (aCons (eVar 0) aNil)) (aCons (eC (.int 6)) aNil))) aNil))) aNil)) (gNm 4) bYes b_law_6_e1) aNil)))
noncomputable def b_law : SM :=
    (sSeq b_law_1
    (sSeq b_law_2
    (sSeq b_law_3
    (sSeq b_law_4
    (sSeq b_law_5
    b_law_6)))))
noncomputable def m_law : List T → Hm → R T := run 5 b_law
theorem j_law (fx : Fx K mg base) {C : RC} (cf : Cf C PW w (SS fx) mg base N_law (defScope s_law) 103) (hfn : ∀ y, C.X.fn y = true) (hp : PassesOwn (model C.X.prog C.X.w) C.X.A C.X.env C.X.xe) (hex : C.X.ex = []) (h0 : HOk C.X.prog C.X.w C.X.H_0 C.X.s_0.heap) (hq : C.X.env.qual = d_law.qual ++ ".<locals>.") (hcd : C.X.env.code = .ref (cdA K (He.fAd K d_law.at_))) : JSs C (defBody s_law) b_law :=
    (jss_cons (set_ cf 1 (je_lst (ja_cons (je_tup (ja_cons je_int (ja_cons je_int ja_nil))) (ja_cons (je_tup (ja_cons je_int (ja_cons je_int ja_nil))) (ja_cons (je_tup (ja_cons je_int (ja_cons (je_un un_negT je_int) ja_nil))) (ja_cons (je_tup (ja_cons je_int (ja_cons je_int ja_nil))) (ja_cons (je_tup (ja_cons (je_un un_negT je_int) (ja_cons je_int ja_nil))) (ja_cons (je_tup (ja_cons je_bl (ja_cons je_int ja_nil))) (ja_cons (je_tup (ja_cons je_int (ja_cons je_bl ja_nil))) (ja_cons (je_tup (ja_cons je_int (ja_cons je_int ja_nil))) (ja_cons (je_tup (ja_cons je_int (ja_cons je_bl ja_nil))) (ja_cons (je_tup (ja_cons je_int (ja_cons je_int ja_nil))) (ja_cons (je_tup (ja_cons (je_lst ja_nil) (ja_cons je_non ja_nil))) ja_nil)))))))))))))
    (jss_cons (js_for hp cf.ok cf.cold (ji_val cf.ok (v_ cf 1)) (jg_tup cf.ok cf.cold (jgs_cons (gnm_ cf 2) (jgs_cons (gnm_ cf 3) jgs_nil))) (jss_one (js_if (jb_not (jb_val (call_ cf (FnX.ca (ok__law_made_right (w := w) fx) cf B__law_made_right_2 (by decide)) (He.glo_ok fx.X fx.G (fx.at_ 81)) (ja_cons (v_ cf 2) (ja_cons (v_ cf 3) ja_nil))))) (jss_one (js_ret je_bl)) jss_nil)))
    (jss_cons (js_if (jb_cmp (neK_ cf (fx_is fx) (oe fx cf) (by decide)) (lamcall_ cf (d := d_law) hq hcd (tf := TF) rfl (fx.at_ 79) 1 fx.tb (dg := d__law_caught) (a := "_law_act") (Ng := N__law_caught) [] (kl := 99) (He.glo_ok fx.X fx.G (fx.at_ 80)) (fx.q.def_ 18 (d := d__law_caught) rfl) ⟨rfl, rfl, rfl, by decide +kernel, rfl, by decide +kernel, by decide +kernel⟩ (by decide) (fun _ c1 => (call_ c1 (FnX.make (ok_Progressionq_initq (w := w) fx) c1 0 B_Progressionq_initq_2 (mk_ok (fx.at_ 20)) (by decide)) (He.glo_ok fx.X fx.G (fx.at_ 3)) (ja_cons je_int ja_nil))) (fun _ _ cg hst hfr hact => j__law_caught fx cg hst hfr hact)) (je_lst (ja_cons je_int (ja_cons je_str ja_nil))) (by rfl)) (jss_one (js_ret je_bl)) jss_nil)
    (jss_cons (js_if (jb_cmp (neK_ cf (fx_is fx) (oe fx cf) (by decide)) (lamcall_ cf (d := d_law) hq hcd (tf := TF) rfl (fx.at_ 79) 1 fx.tb (dg := d__law_caught) (a := "_law_act") (Ng := N__law_caught) [] (kl := 99) (He.glo_ok fx.X fx.G (fx.at_ 80)) (fx.q.def_ 18 (d := d__law_caught) rfl) ⟨rfl, rfl, rfl, by decide +kernel, rfl, by decide +kernel, by decide +kernel⟩ (by decide) (fun _ c1 => (ixS_ c1 (du_qgetitemq (sc := _) fx c1) (by decide) (fn_getitem fx) (dq_getitem fx) (call_ c1 (FnX.make (ok_Progressionq_initq (w := w) fx) c1 0 B_Progressionq_initq_3 (mk_ok (fx.at_ 20)) (by decide)) (He.glo_ok fx.X fx.G (fx.at_ 3)) (ja_cons je_int (ja_cons je_int ja_nil))) (je_slc je_int je_int))) (fun _ _ cg hst hfr hact => j__law_caught fx cg hst hfr hact)) (je_lst (ja_cons je_int (ja_cons je_str ja_nil))) (by rfl)) (jss_one (js_ret je_bl)) jss_nil)
    (jss_cons (js_if (jb_cmp (op_neE cf.ok (neK_ cf (fx_is fx) (oe fx cf) (by decide))) (lamcall_ cf (d := d_law) hq hcd (tf := TF) rfl (fx.at_ 79) 1 fx.tb (dg := d__law_caught) (a := "_law_act") (Ng := N__law_caught) [] (kl := 99) (He.glo_ok fx.X fx.G (fx.at_ 80)) (fx.q.def_ 18 (d := d__law_caught) rfl) ⟨rfl, rfl, rfl, by decide +kernel, rfl, by decide +kernel, by decide +kernel⟩ (by decide) (fun _ c1 => (call_ c1 (FnX.make (ok_Progressionq_initq (w := w) fx) c1 0 B_Progressionq_initq_2 (mk_ok (fx.at_ 20)) (by decide)) (He.glo_ok fx.X fx.G (fx.at_ 3)) (ja_cons je_int ja_nil))) (fun _ _ cg hst hfr hact => j__law_caught fx cg hst hfr hact)) (je_lst ja_nil) (by rfl)) (jss_one (js_ret je_bl)) jss_nil)
    (jss_one (js_ret (cb_ cf (ca_all cf.ok cf.cold) (He.free_ok fx.X fx.G (fx.at_ 90)) (ja_cons (lc_ cf [("_law_k", 4)] (rg1_ cf (He.free_ok fx.X fx.G (fx.at_ 85)) (ja_cons (cb_ cf (ca_max cf.ok cf.cold) (He.free_ok fx.X fx.G (fx.at_ 84)) (ja_cons je_int (ja_cons (cb_ cf (ca_min cf.ok cf.cold) (He.free_ok fx.X fx.G (fx.at_ 83)) (ja_cons (cb_ cf (len_ cf (du_none (j := 0)) (by decide)) (He.free_ok fx.X fx.G (fx.at_ 82)) (ja_cons (v_ cf 0) ja_nil)) (ja_cons je_int ja_nil))) ja_nil))) ja_nil)) (sim_name (by decide)) (fun _ c1 hc1 => (pgn_ c1 4)) (fun _ c1 => jts_nil) (fun _ c1 => (call_ c1 (FnX.ca (ok__law_right (w := w) fx) c1 B__law_right_1 (by decide)) (He.glo_ok fx.X fx.G (fx.at_ 106)) (ja_cons (call_ c1 (FnX.ca (ok__law_pool (w := w) fx) c1 B__law_pool_1 (by decide)) (He.glo_ok fx.X fx.G (fx.at_ 105)) (ja_cons (call_ c1 (FnX.ca (ok__law_cell (w := w) fx) c1 B__law_cell_2 (by decide)) (He.glo_ok fx.X fx.G (fx.at_ 104)) (ja_cons (v_ c1 0) (ja_cons (v_ c1 4) ja_nil))) ja_nil)) ja_nil)))) ja_nil)))))))))
theorem ok_law (fx : Fx K mg base) : FnX PW w (SS fx) mg base 104 d_law P_law m_law := by
  obtain ⟨fd, F⟩ := fx.q.def_ 35 (d := d_law) rfl
  exact ⟨fd, F, fn_ofG (S := (SS fx)) (N := N_law) F ⟨rfl, rfl, rfl, by decide +kernel, rfl, by decide +kernel, by decide +kernel⟩ fn_run fun C ok e1 e2 e3 e4 e5 e6 e7 e8 hfn hp _ _ hex h0 hq hcd => j_law fx ⟨ok, e1, e2, e3, e4, e5, e6, e7, e8⟩ hfn hp hex h0 hq hcd⟩
end
end K07
set_option linter.all false
/-! plain arithmetic: Euclid, inverses, common numbers of two progressions -/
namespace PM
/-! ### gcd -/
theorem gcd_mod (a b : Int) : Int.gcd b (a % b) = Int.gcd b a := by
  have := Int.gcd_add_mul_left_right b (a % b) (a / b)
  rw [Int.emod_add_mul_ediv] at this
  exact this.symm
theorem gcd_step {a b : Int} (ha : 0 ≤ a) (hb : 0 < b) : (Int.gcd b (a % b) : Int) = (Int.gcd a b : Int) := by
  rw [gcd_mod, Int.gcd_comm]
theorem gcd_pos {a b : Int} (hb : 0 < b) : 0 < (Int.gcd a b : Int) := by
  have := Int.gcd_pos_of_ne_zero_right a (show b ≠ 0 by omega)
  omega
theorem gcd_dvd_l (a b : Int) : (Int.gcd a b : Int) ∣ a := Int.gcd_dvd_left ..
theorem gcd_dvd_r (a b : Int) : (Int.gcd a b : Int) ∣ b := Int.gcd_dvd_right ..
theorem gcd_le_r {a b : Int} (hb : 0 < b) : (Int.gcd a b : Int) ≤ b := Int.le_of_dvd hb (gcd_dvd_r a b)
theorem gcd_le_l {a b : Int} (ha : 0 < a) : (Int.gcd a b : Int) ≤ a := Int.le_of_dvd ha (gcd_dvd_l a b)
/-! ### the extended one: what holds between two turns -/
/-- |before| and |times| with opposite signs -/
structure Ext (number modulus rest other times before : Int) : Prop where
  r0 : 0 ≤ rest
  ro : rest < other
  o1 : 1 ≤ other
  om : other ≤ modulus
  sg : (0 ≤ before ∧ times ≤ 0 ∧ rest * before - other * times = modulus) ∨ (before ≤ 0 ∧ 0 ≤ times ∧ other * times - rest * before = modulus)
  ct : (number * times - rest) % modulus = 0
  cb : (number * before - other) % modulus = 0
  g : (Int.gcd other rest : Int) = (Int.gcd number modulus : Int)
  bb : -modulus ≤ before ∧ before ≤ modulus
theorem Ext.start {number modulus : Int} (hm : 1 ≤ modulus) : Ext number modulus (number % modulus) modulus 1 0 := by
  have h0 := Int.emod_nonneg number (show modulus ≠ 0 by omega)
  have h1 := Int.emod_lt_of_pos number (show 0 < modulus by omega)
  refine ⟨h0, h1, hm, Int.le_refl _, .inr ⟨by omega, by omega, by simp⟩, ?_, ?_, ?_, by omega⟩
  · rw [Int.mul_one]
    have := Int.emod_add_mul_ediv number modulus
    rw [show number - number % modulus = modulus * (number / modulus) by omega]
    exact Int.mul_emod_right ..
  · simp
  · rw [gcd_mod, Int.gcd_comm]
theorem Ext.bounds {number modulus rest other times before : Int} (e : Ext number modulus rest other times before) : -modulus ≤ times ∧ times ≤ modulus ∧ (rest = 0 ∨ (-modulus ≤ before ∧ before ≤ modulus)) := by
  have o1 := e.o1
  have r0 := e.r0
  have P : ∀ x y : Int, 0 ≤ x → 1 ≤ y → x ≤ y * x := fun x y hx hy => by
    have := Int.mul_le_mul_of_nonneg_right hy hx
    omega
  rcases e.sg with ⟨s1, s2, s3⟩ | ⟨s1, s2, s3⟩
  · have a := P (-times) other (by omega) o1
    rw [Int.mul_neg] at a
    have b := Int.mul_nonneg r0 s1
    refine ⟨by omega, by omega, ?_⟩
    by_cases c : rest = 0
    · exact .inl c
    · have d := P before rest s1 (by omega)
      have o2 : 0 ≤ -(other * times) := by rw [← Int.mul_neg]; exact Int.mul_nonneg (by omega) (by omega)
      exact .inr ⟨by omega, by omega⟩
  · have a := P times other s2 o1
    have b : 0 ≤ -(rest * before) := by rw [← Int.mul_neg]; exact Int.mul_nonneg r0 (by omega)
    refine ⟨by omega, by omega, ?_⟩
    by_cases c : rest = 0
    · exact .inl c
    · have d := P (-before) rest (by omega) (by omega)
      rw [Int.mul_neg] at d
      have o2 : 0 ≤ other * times := Int.mul_nonneg (by omega) (by omega)
      exact .inr ⟨by omega, by omega⟩
theorem Ext.turn {number modulus rest other times before : Int} (e : Ext number modulus rest other times before) (hr : 0 < rest) : Ext number modulus (other - other / rest * rest) rest (before - other / rest * times) times := by
  have q0 : 0 ≤ other / rest := Int.ediv_nonneg (by have := e.o1; omega) (by omega)
  have em : other - other / rest * rest = other % rest := by
    have := Int.emod_add_mul_ediv other rest
    rw [Int.mul_comm (other / rest)]
    omega
  have m0 := Int.emod_nonneg other (show rest ≠ 0 by omega)
  have m1 := Int.emod_lt_of_pos other hr
  have ro := e.ro
  have om := e.om
  refine ⟨by omega, by omega, by omega, by omega, ?_, ?_, e.ct, ?_, e.bounds.1, e.bounds.2.1⟩
  · generalize other / rest = q at *
    rcases e.sg with ⟨s1, s2, s3⟩ | ⟨s1, s2, s3⟩
    · refine .inr ⟨s2, ?_, ?_⟩
      · have : q * times ≤ 0 := Int.mul_nonpos_of_nonneg_of_nonpos q0 s2
        omega
      · rw [← s3, Int.mul_sub, Int.sub_mul, Int.mul_assoc q rest times, ← Int.mul_assoc rest q times, Int.mul_comm rest q, Int.mul_assoc q rest times]
        omega
    · refine .inl ⟨s2, ?_, ?_⟩
      · have : 0 ≤ q * times := Int.mul_nonneg q0 s2
        omega
      · rw [← s3, Int.mul_sub, Int.sub_mul, Int.mul_assoc q rest times, ← Int.mul_assoc rest q times, Int.mul_comm rest q, Int.mul_assoc q rest times]
        omega
  · generalize other / rest = q at *
    have a1 := Int.dvd_of_emod_eq_zero e.cb
    have a2 := Int.dvd_of_emod_eq_zero e.ct
    refine Int.emod_eq_zero_of_dvd ?_
    have : number * (before - q * times) - (other - q * rest) = (number * before - other) - q * (number * times - rest) := by
      rw [Int.mul_sub, Int.mul_sub, ← Int.mul_assoc number q times, Int.mul_comm number q, Int.mul_assoc q number times]
      omega
    rw [this]
    exact Int.dvd_sub a1 (Int.dvd_trans a2 (Int.dvd_mul_left _ _))
  · rw [em, gcd_step (by have := e.o1; omega) hr]
    exact e.g
theorem Ext.done {number modulus other times before : Int} (e : Ext number modulus 0 other times before) : (number * before - (Int.gcd number modulus : Int)) % modulus = 0 := by
  have g := e.g
  have o : (Int.gcd other 0 : Int) = other := by rw [Int.gcd_zero_right]; have := e.o1; omega
  rw [o] at g
  rw [← g]
  exact e.cb
/-! ### common numbers of two progressions -/
/-- the common numbers: t is the one below the other's part -/
theorem meet_fits {a1 p1 a2 p2 t iv : Int} (h1 : 0 < p1) (h2 : 0 < p2) (hg : (a2 - a1) % (Int.gcd p1 p2 : Int) = 0)
    (hi : ((p1 / (Int.gcd p1 p2 : Int)) * iv - 1) % (p2 / (Int.gcd p1 p2 : Int)) = 0) (ht : t = (a2 - a1) / (Int.gcd p1 p2 : Int) * iv % (p2 / (Int.gcd p1 p2 : Int))) :
    (a1 + p1 * t - a2) % p2 = 0 := by
  have gp : 0 < (Int.gcd p1 p2 : Int) := gcd_pos h2
  obtain ⟨m1, e1⟩ := gcd_dvd_l p1 p2
  obtain ⟨m2, e2⟩ := gcd_dvd_r p1 p2
  obtain ⟨d, e3⟩ := Int.dvd_of_emod_eq_zero hg
  generalize (Int.gcd p1 p2 : Int) = g at *
  have q1 : p1 / g = m1 := by rw [e1]; exact Int.mul_ediv_cancel_left _ (by omega)
  have q2 : p2 / g = m2 := by rw [e2]; exact Int.mul_ediv_cancel_left _ (by omega)
  have q3 : (a2 - a1) / g = d := by rw [e3]; exact Int.mul_ediv_cancel_left _ (by omega)
  rw [q1, q2] at hi
  rw [q2, q3] at ht
  have k := Int.emod_add_mul_ediv (d * iv) m2
  rw [← ht] at k
  generalize (d * iv) / m2 = u at k
  obtain ⟨x, ex⟩ := Int.dvd_of_emod_eq_zero hi
  refine Int.emod_eq_zero_of_dvd ⟨d * x - m1 * u, ?_⟩
  have ea : a1 - a2 = -(g * d) := by omega
  have e5 : t = d * iv - m2 * u := by omega
  calc a1 + p1 * t - a2 = g * m1 * (d * iv - m2 * u) - g * d := by rw [e1, e5] at *; omega
    _ = g * m2 * (d * x - m1 * u) := by
      have : m1 * iv = m2 * x + 1 := by omega
      have l : g * m1 * (d * iv - m2 * u) = g * d * (m1 * iv) - g * m1 * (m2 * u) := by
        rw [Int.mul_sub]
        congr 1
        rw [Int.mul_assoc, Int.mul_assoc]
        congr 1
        rw [← Int.mul_assoc, Int.mul_comm m1 d, Int.mul_assoc]
      rw [l, this, Int.mul_add, Int.mul_one, Int.mul_sub]
      have l2 : g * d * (m2 * x) = g * m2 * (d * x) := by
        rw [Int.mul_assoc, Int.mul_assoc]; congr 1; rw [← Int.mul_assoc, Int.mul_comm d m2, Int.mul_assoc]
      have l3 : g * m1 * (m2 * u) = g * m2 * (m1 * u) := by
        rw [Int.mul_assoc, Int.mul_assoc]; congr 1; rw [← Int.mul_assoc, Int.mul_comm m1 m2, Int.mul_assoc]
      rw [l2, l3]
      omega
    _ = p2 * (d * x - m1 * u) := by rw [← e2]
theorem part_cop {p1 p2 : Int} (h2 : 0 < p2) : (Int.gcd (p1 / (Int.gcd p1 p2 : Int)) (p2 / (Int.gcd p1 p2 : Int)) : Int) = 1 := by
  have gp : 0 < (Int.gcd p1 p2 : Int) := gcd_pos h2
  obtain ⟨m1, e1⟩ := gcd_dvd_l p1 p2
  obtain ⟨m2, e2⟩ := gcd_dvd_r p1 p2
  have q1 : p1 / (Int.gcd p1 p2 : Int) = m1 := by conv => lhs; lhs; rw [e1]
                                                  exact Int.mul_ediv_cancel_left _ (by omega)
  have q2 : p2 / (Int.gcd p1 p2 : Int) = m2 := by conv => lhs; lhs; rw [e2]
                                                  exact Int.mul_ediv_cancel_left _ (by omega)
  rw [q1, q2]
  have e : (Int.gcd p1 p2 : Int) = (Int.gcd p1 p2 : Int) * (Int.gcd m1 m2 : Int) := by
    have := Int.gcd_mul_left (Int.gcd p1 p2 : Int) m1 m2
    rw [← e1, ← e2, Int.natAbs_natCast] at this
    exact_mod_cast this
  generalize (Int.gcd p1 p2 : Int) = g at *
  have : g * ((Int.gcd m1 m2 : Int) - 1) = 0 := by rw [Int.mul_sub, ← e]; omega
  rcases Int.mul_eq_zero.mp this with z | z <;> omega
/-- a coprime factor is cancelled -/
theorem cop_cancel {m n x : Int} (h : (Int.gcd m n : Int) = 1) (d : n ∣ m * x) : n ∣ x := by
  have h1 : (Int.gcd (m * x) (n * x) : Int) = x.natAbs := by
    rw [Int.gcd_mul_right]
    have : Int.gcd m n = 1 := by exact_mod_cast h
    rw [this]; simp
  have : n ∣ (Int.gcd (m * x) (n * x) : Int) := Int.dvd_coe_gcd d (Int.dvd_mul_right ..)
  rw [h1] at this
  exact Int.dvd_natAbs.mp this
theorem meet_uniq {a1 p1 a2 p2 t t' : Int} (h1 : 0 < p1) (h2 : 0 < p2) (t0 : 0 ≤ t) (t1 : t < p2 / (Int.gcd p1 p2 : Int)) (t0' : 0 ≤ t') (t1' : t' < p2 / (Int.gcd p1 p2 : Int))
    (e : (a1 + p1 * t - a2) % p2 = 0) (e' : (a1 + p1 * t' - a2) % p2 = 0) : t = t' := by
  have cop := part_cop (p1 := p1) h2
  have gp : 0 < (Int.gcd p1 p2 : Int) := gcd_pos h2
  obtain ⟨m1, e1⟩ := gcd_dvd_l p1 p2
  obtain ⟨m2, e2⟩ := gcd_dvd_r p1 p2
  have d := Int.dvd_sub (Int.dvd_of_emod_eq_zero e) (Int.dvd_of_emod_eq_zero e')
  rw [show a1 + p1 * t - a2 - (a1 + p1 * t' - a2) = p1 * (t - t') by rw [Int.mul_sub]; omega] at d
  generalize (Int.gcd p1 p2 : Int) = g at *
  have q1 : p1 / g = m1 := by rw [e1]; exact Int.mul_ediv_cancel_left _ (by omega)
  have q2 : p2 / g = m2 := by rw [e2]; exact Int.mul_ediv_cancel_left _ (by omega)
  rw [q1, q2] at cop
  rw [q2] at t1 t1'
  rw [e1, e2, Int.mul_assoc] at d
  have d2 : m2 ∣ m1 * (t - t') := Int.dvd_of_mul_dvd_mul_left (by omega) d
  obtain ⟨k, ek⟩ := cop_cancel cop d2
  have : k = 0 := by
    rcases Int.lt_trichotomy k 0 with z | z | z
    · have := Int.mul_le_mul_of_nonneg_left (show k ≤ -1 by omega) (show 0 ≤ m2 by omega)
      rw [Int.mul_neg, Int.mul_one] at this
      omega
    · exact z
    · have := Int.mul_le_mul_of_nonneg_left (show 1 ≤ k by omega) (show 0 ≤ m2 by omega)
      rw [Int.mul_one] at this
      omega
  rw [this, Int.mul_zero] at ek
  omega
/-- a number is common exactly if it is the one met, modulo the common step -/
theorem meet_none {a1 p1 a2 p2 v : Int} (h2 : 0 < p2) (hg : (a2 - a1) % (Int.gcd p1 p2 : Int) ≠ 0) (e1 : (v - a1) % p1 = 0) (e2 : (v - a2) % p2 = 0) : False := by
  refine hg (Int.emod_eq_zero_of_dvd ?_)
  have := Int.dvd_sub (Int.dvd_trans (gcd_dvd_l p1 p2) (Int.dvd_of_emod_eq_zero e1)) (Int.dvd_trans (gcd_dvd_r p1 p2) (Int.dvd_of_emod_eq_zero e2))
  rwa [show v - a1 - (v - a2) = a2 - a1 by omega] at this
theorem neg_mod0 {a b g : Int} (h : (a - b) % g = 0) : (b - a) % g = 0 := by
  refine Int.emod_eq_zero_of_dvd ?_
  have := Int.dvd_neg.mpr (Int.dvd_of_emod_eq_zero h)
  rwa [show -(a - b) = b - a by omega] at this
theorem neg_mod {a b g : Int} (h : (a - b) % g ≠ 0) : (b - a) % g ≠ 0 := fun e => h (neg_mod0 e)
end PM
set_option Elab.async false
set_option linter.all false
set_option maxRecDepth 100000
set_option maxHeartbeats 4000000
namespace K07
open PySem RT
/-! ### integers, progressions -/
theorem is_integer_ok (v low : Int) (h : Hm) : m_is_integer [.int v, .int low] h = .ok (.bl (decide (low ≤ v))) h := by
  simp [m_is_integer, b_is_integer, isi_int 0, isi_bool 0]
theorem is_between_ok (v low high : Int) (h : Hm) : m_is_between [.int v, .int low, .int high] h = .ok (.bl (decide (low ≤ v) && decide (v ≤ high))) h := by
  simp [m_is_between, b_is_between, arrS, pick, ocn, is_integer_ok]
  by_cases q : low ≤ v <;> simp [q]
theorem check_number_ok (v : Int) (h : Hm) (hv : 0 ≤ v) : m_check_number [.int v] h = .ok .non h := by
  simp [m_check_number, b_check_number, arrS, pick, ocn, is_integer_ok, hv]
/-- a progression -/
abbrev Pr (step first : Int) : T := .obj 0 [(0, .int step), (1, .int first)]
theorem init_ok (step first : Int) (h : Hm) (h1 : 1 ≤ step) (h2 : 0 ≤ first) (h3 : first ≤ step - 1) :
    m_Progressionq_initq [.ref h.length, .int step, .int first] (h ++ [some (.ins 0 [])]) = .ok .non (h ++ [some (.ins 0 [(0, .int step), (1, .int first)])]) := by
  simp [m_Progressionq_initq, b_Progressionq_initq, b_Progressionq_initq_1, b_Progressionq_initq_2, b_Progressionq_initq_3, b_Progressionq_initq_4, arrS, pick, ocn, is_integer_ok, is_between_ok, h1, h2, h3, putT]
theorem mk2 (step first : Int) (h : Hm) (h1 : 1 ≤ step) (h2 : 0 ≤ first) (h3 : first ≤ step - 1) : mkO 0 m_Progressionq_initq (arrS [(0, 0), (0, 1), (0, 2)] [.int 0]) [.int step, .int first] [] h = .ok (Pr step first) h := by
  simp [mkO, arrS, pick, ocn, init_ok step first h h1 h2 h3, mkFin]
theorem mk1 (step : Int) (h : Hm) (h1 : 1 ≤ step) : mkO 0 m_Progressionq_initq (arrS [(0, 0), (0, 1), (2, 0)] [.int 0]) [.int step] [] h = .ok (Pr step 0) h := by
  simp [mkO, arrS, pick, ocn, init_ok step 0 h h1 (by omega) (by omega), mkFin]
theorem contains_ok (p a v : Int) (h : Hm) (hp : 0 < p) : m_Progressionq_containsq [Pr p a, .int v] h = .ok (.bl (decide (0 ≤ v) && decide (v % p = a))) h := by
  simp [m_Progressionq_containsq, b_Progressionq_containsq, arrS, pick, ocn, is_integer_ok, lk_miss, hp]
  by_cases q : 0 ≤ v <;> simp [q]
theorem getitem_ok (p a v : Int) (h : Hm) (hp : fit p = true) (hv : fit v = true) (h0 : 0 ≤ v) : m_Progressionq_getitemq [Pr p a, .int v] h = .ok (.int (a + p * v)) h := by
  simp [m_Progressionq_getitemq, b_Progressionq_getitemq, b_Progressionq_getitemq_1, b_Progressionq_getitemq_2, arrS, pick, ocn, check_number_ok, lk_miss, hp, hv, h0]
/-! ### the pool -/
theorem draw_ok {l k : Nat} {h : Hm} (P : Pool h l k) (hk : k ≤ 1000000) (many : Int) (hm : 0 < many) (hm2 : many ≤ LIMT) :
    ∃ (r : Int) (c : Option Cell), m__law_draw [.ref l, .int many] h = .ok (.int r) (h.set l c) ∧ Pool (h.set l c) l (k + 1) ∧ 0 ≤ r ∧ r < many := by
  obtain ⟨s, d, hl, hs, hs2⟩ := P
  have hg : ∀ c, (h.set l c)[l]? = some c := get_set (List.getElem?_eq_some_iff.mp hl).1
  have hx : ∀ (c : List T) (i : Int), opIxK ms_qgetitemq (.ref l) (.int i) (h.set l (some (.lst c))) = ixR c i (h.set l (some (.lst c))) := fun c i => (ixK_r ms_qgetitemq) (hg _) i
  have hx0 := fun i => (ixK_r ms_qgetitemq) hl i
  have f1 : fit s = true := limt hs (by have := limt18; omega)
  have f2 : fit (s % 50023 + 30013) = true := limt (by omega) (by have := limt18; omega)
  have f3 : fit 90017 = true := by decide +kernel
  have f4 : fit ((k : Int) + 1) = true := limt (by omega) (by have := limt18; omega)
  have f5 : fit many = true := limt (by omega) hm2
  have f6 : fit 64 = true := by decide +kernel
  by_cases hd : 0 < d
  · refine ⟨d % many, some (.lst [.int ((s * (s % 50023 + 30013) + 90017 * ((k : Int) + 1)) % 2147483323), .int (d / many), .int ((k : Int) + 1)]), ?_, ⟨_, _, hg _, Int.emod_nonneg _ (by decide), Int.emod_lt_of_pos _ (by decide)⟩, Int.emod_nonneg _ (by omega), Int.emod_lt_of_pos _ hm⟩
    simp [m__law_draw, b__law_draw, b__law_draw_1, b__law_draw_2, b__law_draw_3, b__law_draw_4, b__law_draw_5, b__law_draw_4t_1, b__law_draw_4t_2,  ixR, L2.atI, L2.ixN, hl, hg, hx, hx0, f1, f2, f3, f4, f5, f6, hd, hm]
  · refine ⟨((s * (s % 50023 + 30013) + 90017 * ((k : Int) + 1)) % 2147483323) / 64 % many, some (.lst [.int ((s * (s % 50023 + 30013) + 90017 * ((k : Int) + 1)) % 2147483323), .int d, .int ((k : Int) + 1)]), ?_, ⟨_, _, hg _, Int.emod_nonneg _ (by decide), Int.emod_lt_of_pos _ (by decide)⟩, Int.emod_nonneg _ (by omega), Int.emod_lt_of_pos _ hm⟩
    simp [m__law_draw, b__law_draw, b__law_draw_1, b__law_draw_2, b__law_draw_3, b__law_draw_4, b__law_draw_5, b__law_draw_4t_1, b__law_draw_4t_2,  ixR, L2.atI, L2.ixN, hl, hg, hx, hx0, f1, f2, f3, f4, f5, f6, hd, hm]
theorem pair_ok {l k : Nat} {h : Hm} (P : Pool h l k) (hk : k ≤ 900000) :
    ∃ (a p : Int) (c : Option Cell), m__law_pair [.ref l] h = .ok (.tup [.int a, .int p]) (h.set l c) ∧ Pool (h.set l c) l (k + 3) ∧ 0 ≤ a ∧ a < p ∧ p ≤ 10 ^ 60 := by
  obtain ⟨r1, c1, e1, P1, a1, a2⟩ := draw_ok P (by omega) 5 (by decide) (by decide +kernel)
  have key : ∀ far : Int, 1 ≤ far → far ≤ 10 ^ 60 → ixR [.int 3, .int 12, .int 60, .int (10 ^ 12), .int (10 ^ 60)] r1 (h.set l c1) = .ok (.int far) (h.set l c1) →
      ∃ (a p : Int) (c : Option Cell), m__law_pair [.ref l] h = .ok (.tup [.int a, .int p]) (h.set l c) ∧ Pool (h.set l c) l (k + 3) ∧ 0 ≤ a ∧ a < p ∧ p ≤ 10 ^ 60 := by
    intro far f1 f2 ef
    have L := limt60
    obtain ⟨r2, c2, e2, P2, b1, b2⟩ := draw_ok P1 (by omega) far (by omega) (by omega)
    rw [List.set_set] at e2 P2
    obtain ⟨r3, c3, e3, P3, d1, d2⟩ := draw_ok P2 (by omega) (1 + r2) (by omega) (by omega)
    rw [List.set_set] at e3 P3
    refine ⟨r3, 1 + r2, c3, ?_, P3, d1, d2, by omega⟩
    have big : (10 : Int) ^ 60 = 1000000000000000000000000000000000000000000000000000000000000 := by decide +kernel
    have big2 : (10 : Int) ^ 12 = 1000000000000 := by decide +kernel
    rw [big, big2] at ef
    simp [m__law_pair, b__law_pair, b__law_pair_1, b__law_pair_2, b__law_pair_3, arrS, pick, ocn, e1]
    simp [ef, e2, e3]
  have hr : r1 = 0 ∨ r1 = 1 ∨ r1 = 2 ∨ r1 = 3 ∨ r1 = 4 := by omega
  rcases hr with e | e | e | e | e <;> subst e
  · exact key 3 (by decide) (by decide +kernel) rfl
  · exact key 12 (by decide) (by decide +kernel) rfl
  · exact key 60 (by decide) (by decide +kernel) rfl
  · exact key (10 ^ 12) (by decide +kernel) (by decide +kernel) rfl
  · exact key (10 ^ 60) (by decide +kernel) (by decide +kernel) rfl
/-! ### cells, the pool -/
theorem pool_ok (f : Int) (h : Hm) : ∃ c : Option Cell, m__law_pool [.int f] h = .ok (.ref h.length) (h ++ [c]) ∧ Pool (h ++ [c]) h.length 0 := by
  have P : ∀ d : Int, Pool (h ++ [some (.lst [.int (f % 2147483323), .int d, .int 0])]) h.length 0 := fun d => ⟨_, d, by simp; rfl, Int.emod_nonneg _ (by decide), Int.emod_lt_of_pos _ (by decide)⟩
  have e18 : (10 : Int) ^ 18 = 1000000000000000000 := by decide +kernel
  by_cases c : f < 0 ∨ 10 ^ 18 ≤ f
  · refine ⟨_, ?_, P (if f < 0 then -f else f)⟩
    simp [m__law_pool, b__law_pool, b__law_pool_1, b__law_pool_2]
    rcases c with c | c
    · simp [c]
    · rw [e18] at c
      by_cases c2 : f < 0 <;> simp [c, c2]
  · refine ⟨_, ?_, P 0⟩
    rw [e18] at c
    have c1 : ¬ f < 0 := fun z => c (.inl z)
    have c2 : ¬ 1000000000000000000 ≤ f := fun z => c (.inr z)
    simp [m__law_pool, b__law_pool, b__law_pool_1, b__law_pool_2, c1, c2]
theorem loop_ok (h : Hm) (A B : Option T) : ∀ (ms : List Int) (s : Int) (x : Option T), 0 ≤ s → s < 2147483323 →
    ∃ (s' : Int) (x' : Option T), forL (gNm 3) b__law_cell_3b (ms.map T.int) [A, B, some (.int s), x] h = .ok (.nx [A, B, some (.int s'), x']) h
  | [], s, x, _, _ => ⟨s, x, rfl⟩
  | m :: ms, s, x, h1, h2 => by
    obtain ⟨s', x', e⟩ := loop_ok h A B ms ((s * 42043 + m) % 2147483323) (some (.int m)) (Int.emod_nonneg _ (by decide)) (Int.emod_lt_of_pos _ (by decide))
    refine ⟨s', x', ?_⟩
    have f1 : fit s = true := limt h1 (by have := limt18; omega)
    have f2 : fit 42043 = true := by decide +kernel
    rw [List.map_cons, forL_cons]
    simp [b__law_cell_3b, f1, f2] at e ⊢
    exact e
theorem cell_ok (ns : List Int) (k : Nat) (hk : k ≤ 6) (h : Hm) : ∃ i : Int, m__law_cell [.lst (ns.map T.int), .int k] h = .ok (.int i) h := by
  by_cases c : k < ns.length
  · refine ⟨ns[k], ?_⟩
    have c2 : (k : Int) < (ns.length : Int) := by omega
    have e : ∀ h', ixR (ns.map T.int) (k : Int) h' = .ok (.int ns[k]) h' := fun h' => ixR_nat (by simp [c]) h'
    simp [m__law_cell, b__law_cell, b__law_cell_1, c2, e]
  · have c2 : ¬ (k : Int) < (ns.length : Int) := by omega
    obtain ⟨ms, em⟩ := cut_ints ns none (some 3)
    have sl : ∀ h', slT (.lst (ns.map T.int)) none (some 3) h' = .ok (.lst (ms.map T.int)) h' := fun h' => by
      show R.ok (T.lst (cutT (ns.map T.int) none (some 3))) h' = _
      rw [em]
    obtain ⟨s', x', el⟩ := loop_ok h (some (.lst (ns.map T.int))) (some (.int (k : Int))) ms (70001 * ((k : Int) * k + 7 * k + 5) % 2147483323) none (Int.emod_nonneg _ (by decide)) (Int.emod_lt_of_pos _ (by decide))
    refine ⟨s', ?_⟩
    have f1 : fit (k : Int) = true := limt (by omega) (by have := limt18; omega)
    have f2 : fit 70001 = true := by decide +kernel
    have f3 : fit 7 = true := by decide +kernel
    have f4 : fit ((k : Int) * k + 7 * k + 5) = true := by
      have hk' : k = 0 ∨ k = 1 ∨ k = 2 ∨ k = 3 ∨ k = 4 ∨ k = 5 ∨ k = 6 := by omega
      rcases hk' with z | z | z | z | z | z | z <;> subst z <;> decide +kernel
    simp [m__law_cell, b__law_cell, b__law_cell_1, b__law_cell_2, b__law_cell_3, b__law_cell_4, c2, sl, f1, f2, f3, f4, el]
/-! ### the law's last line -/
def RightOk : Prop := ∀ (l : Nat) (h : Hm), Pool h l 0 → ∃ h', m__law_right [.ref l] h = .ok (.bl true) h'
noncomputable def teC (i : Nat) : ET := eCall 1 (fun xs zs h => m__law_right (arrS [(0, 0)] [] xs zs) h) (aCons (eCall 1 (fun xs zs h => m__law_pool (arrS [(0, 0)] [] xs zs) h) (aCons (eCall 2 (fun xs zs h => m__law_cell (arrS [(0, 0), (0, 1)] [] xs zs) h) (aCons (eVar 0) (aCons (eVar i) aNil))) aNil)) aNil)
theorem teC_ok (R : RightOk) (ns : List Int) (st : StT) (i : Nat) (e0 : st[0]? = some (some (.lst (ns.map T.int)))) (k : Nat) (h : Hm) (gi : st[i]? = some (some (.int (k : Int)))) (hk : k ≤ 6) : ∃ h', teC i st h = .ok (.bl true) h' := by
  obtain ⟨f, e1⟩ := cell_ok ns k hk h
  obtain ⟨c, e2, P⟩ := pool_ok f h
  obtain ⟨h3, e3⟩ := R _ _ P
  exact ⟨h3, by simp only [teC, eCall_, aCons_, aNil_, eVar_, bind_ok', e0, gi, arrS, pick, ocn, List.getElem?_cons_zero, List.getElem?_cons_succ, List.length_cons, List.length_nil, if_true, e1, e2, e3]⟩
theorem maxC_ok (ns : List Int) (st : StT) (e0 : st[0]? = some (some (.lst (ns.map T.int)))) (h : Hm) : (eCB gMax (aCons (eC (.int 2)) (aCons (eCB gMin (aCons (eCB (gLenK (fun _ => none)) (aCons (eVar 0) aNil)) (aCons (eC (.int 6)) aNil))) aNil))) st h = .ok (.int (cellsN ns : Nat)) h := by
  simp [e0, cellsN_eq]
theorem last_ok (R : RightOk) (ns : List Int) (st : StT) (i : Nat) (hi : i < st.length) (h0 : i ≠ 0) (e0 : st[0]? = some (some (.lst (ns.map T.int)))) (h : Hm) :
    ∃ h', sRet (eCB gAll (aCons (eLc [i] (iRg1 (aCons (eCB gMax (aCons (eC (.int 2)) (aCons (eCB gMin (aCons (eCB (gLenK (fun _ => none)) (aCons (eVar 0) aNil)) (aCons (eC (.int 6)) aNil))) aNil))) aNil)) (gNm i) bYes (teC i)) aNil)) st h = .ok (.ret (.bl true)) h' := by
  obtain ⟨h', e⟩ := lc_true (n := 6) i (st := wipeT st [i]) (te := teC i)
    (fun k h hk => teC_ok R ns _ i (by
        rw [List.getElem?_set_ne h0]
        show (st.set i none)[0]? = _
        rw [List.getElem?_set_ne h0]
        exact e0) k h (List.getElem?_set_self (by show i < (st.set i none).length; rw [List.length_set]; exact hi)) hk) (cellsN ns) (cellsN_le ns) h
  refine ⟨h', ?_⟩
  have mm := maxC_ok ns st e0 h
  have sm := small_nat (cellsN_le ns)
  have sz : (rangeT 0 ((cellsN ns : Nat) : Int).toNat).length ≤ sizeLine := by have := cellsN_le ns; simp [rangeT]; omega
  rw [sRet_, eCB_, aCons_, eLc_, iRg1_, aCons_, mm, bind_ok', aNil_, bind_ok', bind_ok']
  dsimp only
  rw [if_pos sm, bind_ok', if_pos sz, e, bind_ok', bind_ok', aNil_, bind_ok', bind_ok', gAll_l, allB_rep, allR_s, th_ok]
end K07
set_option Elab.async false
set_option linter.all false
set_option maxRecDepth 100000
set_option maxHeartbeats 4000000
namespace K07
open PySem RT
/-! ### the number of an error's class -/
theorem look_leaf : ∀ c < 24, ∀ d < 24, isLook TAB (.cl (c + 1)) (.cl (d + 1)) = some (decide (c = d)) := by decide +kernel
theorem look_base : ∀ c < 24, isLook TAB (.cl (c + 1)) (.cl 25) = some (decide (c < 14)) ∧ isLook TAB (.cl (c + 1)) (.cl 26) = some (decide (14 ≤ c) && decide (c < 20)) ∧ isLook TAB (.cl (c + 1)) (.cl 27) = some (decide (20 ≤ c)) := by decide +kernel
theorem look_own : ∀ c < 24, isLook TAB (.cl (c + 1)) (.ty "ValueError") = some (decide (c < 14)) ∧ isLook TAB (.cl (c + 1)) (.ty "LookupError") = some (decide (14 ≤ c) && decide (c < 20)) ∧ isLook TAB (.cl (c + 1)) (.ty "ArithmeticError") = some (decide (20 ≤ c)) := by decide +kernel
theorem in_xc : ∀ c < 24, XC.contains (c + 1) = true := by decide
theorem isx {c : Nat} (hc : c < 24) {k : T} {b : Tg} {r : Bool} (eb : asTg k = some b) (er : isLook TAB (.cl (c + 1)) b = some r) (fs : List (Nat × T)) (h : Hm) : gIsiS 1 TAB XC [.xh (c + 1) fs, k] h = .ok (.bl r) h := by
  show (match asTg k with
    | some b => if XC.contains (c + 1) then (match isLook TAB (.cl (c + 1)) b with
      | some r => R.ok (T.bl r) h
      | none => .bad) else .bad
    | none => .bad) = _
  rw [eb]
  dsimp only
  rw [in_xc c hc, if_pos rfl, er]
theorem isx_l {c : Nat} (hc : c < 24) {d : Nat} (hd : d < 24) (fs : List (Nat × T)) (h : Hm) : gIsiS 1 TAB XC [.xh (c + 1) fs, .cl (d + 1)] h = .ok (.bl (decide (c = d))) h := isx hc rfl (look_leaf c hc d hd) fs h
def FB (c n : Nat) : List T := (List.range n).map fun d => .bl (decide (c = d))
def BB (c : Nat) : List T := [.bl (decide (c < 14)), .bl (decide (14 ≤ c) && decide (c < 20)), .bl (decide (20 ≤ c))]
section
variable {c : Nat} (hc : c < 24) (fs : List (Nat × T)) (h : Hm)
include hc
theorem kd_1 : b__law_kind_1 [some (.xh (c + 1) fs), none, none, none, none] h = .ok (.nx [some (.xh (c + 1) fs), some (.lst (FB c 3)), none, none, none]) h := by
  simp [b__law_kind_1, isx_l hc (d := 0) (by decide) fs, isx_l hc (d := 1) (by decide) fs, isx_l hc (d := 2) (by decide) fs]
  rfl
theorem kd_2 : b__law_kind_2 [some (.xh (c + 1) fs), some (.lst (FB c 3)), none, none, none] h = .ok (.nx [some (.xh (c + 1) fs), some (.lst (FB c 6)), none, none, none]) h := by
  have l : (FB c 3).length + 3 ≤ 16777216 := by rw [FB, List.length_map, List.length_range]; decide
  simp [b__law_kind_2, isx_l hc (d := 3) (by decide) fs, isx_l hc (d := 4) (by decide) fs, isx_l hc (d := 5) (by decide) fs, l]
  rfl
theorem kd_3 : b__law_kind_3 [some (.xh (c + 1) fs), some (.lst (FB c 6)), none, none, none] h = .ok (.nx [some (.xh (c + 1) fs), some (.lst (FB c 9)), none, none, none]) h := by
  have l : (FB c 6).length + 3 ≤ 16777216 := by rw [FB, List.length_map, List.length_range]; decide
  simp [b__law_kind_3, isx_l hc (d := 6) (by decide) fs, isx_l hc (d := 7) (by decide) fs, isx_l hc (d := 8) (by decide) fs, l]
  rfl
theorem kd_4 : b__law_kind_4 [some (.xh (c + 1) fs), some (.lst (FB c 9)), none, none, none] h = .ok (.nx [some (.xh (c + 1) fs), some (.lst (FB c 12)), none, none, none]) h := by
  have l : (FB c 9).length + 3 ≤ 16777216 := by rw [FB, List.length_map, List.length_range]; decide
  simp [b__law_kind_4, isx_l hc (d := 9) (by decide) fs, isx_l hc (d := 10) (by decide) fs, isx_l hc (d := 11) (by decide) fs, l]
  rfl
theorem kd_5 : b__law_kind_5 [some (.xh (c + 1) fs), some (.lst (FB c 12)), none, none, none] h = .ok (.nx [some (.xh (c + 1) fs), some (.lst (FB c 15)), none, none, none]) h := by
  have l : (FB c 12).length + 3 ≤ 16777216 := by rw [FB, List.length_map, List.length_range]; decide
  simp [b__law_kind_5, isx_l hc (d := 12) (by decide) fs, isx_l hc (d := 13) (by decide) fs, isx_l hc (d := 14) (by decide) fs, l]
  rfl
theorem kd_6 : b__law_kind_6 [some (.xh (c + 1) fs), some (.lst (FB c 15)), none, none, none] h = .ok (.nx [some (.xh (c + 1) fs), some (.lst (FB c 18)), none, none, none]) h := by
  have l : (FB c 15).length + 3 ≤ 16777216 := by rw [FB, List.length_map, List.length_range]; decide
  simp [b__law_kind_6, isx_l hc (d := 15) (by decide) fs, isx_l hc (d := 16) (by decide) fs, isx_l hc (d := 17) (by decide) fs, l]
  rfl
theorem kd_7 : b__law_kind_7 [some (.xh (c + 1) fs), some (.lst (FB c 18)), none, none, none] h = .ok (.nx [some (.xh (c + 1) fs), some (.lst (FB c 21)), none, none, none]) h := by
  have l : (FB c 18).length + 3 ≤ 16777216 := by rw [FB, List.length_map, List.length_range]; decide
  simp [b__law_kind_7, isx_l hc (d := 18) (by decide) fs, isx_l hc (d := 19) (by decide) fs, isx_l hc (d := 20) (by decide) fs, l]
  rfl
theorem kd_8 : b__law_kind_8 [some (.xh (c + 1) fs), some (.lst (FB c 21)), none, none, none] h = .ok (.nx [some (.xh (c + 1) fs), some (.lst (FB c 24)), none, none, none]) h := by
  have l : (FB c 21).length + 3 ≤ 16777216 := by rw [FB, List.length_map, List.length_range]; decide
  simp [b__law_kind_8, isx_l hc (d := 21) (by decide) fs, isx_l hc (d := 22) (by decide) fs, isx_l hc (d := 23) (by decide) fs, l]
  rfl
theorem kd_9 (Y : T) : b__law_kind_9 [some (.xh (c + 1) fs), some Y, none, none, none] h = .ok (.nx [some (.xh (c + 1) fs), some Y, some (.lst (BB c)), none, none]) h := by
  obtain ⟨b1, b2, b3⟩ := look_base c hc
  simp [b__law_kind_9, isx hc (k := .cl 25) rfl b1 fs, isx hc (k := .cl 26) rfl b2 fs, isx hc (k := .cl 27) rfl b3 fs]
  rfl
theorem kd_10 (Y Z : T) : b__law_kind_10 [some (.xh (c + 1) fs), some Y, some Z, none, none] h = .ok (.nx [some (.xh (c + 1) fs), some Y, some Z, some (.lst (BB c)), none]) h := by
  obtain ⟨b1, b2, b3⟩ := look_own c hc
  simp [b__law_kind_10, isx hc (k := .ty "ValueError") rfl b1 fs, isx hc (k := .ty "LookupError") rfl b2 fs, isx hc (k := .ty "ArithmeticError") rfl b3 fs]
  rfl
omit hc in
theorem ne_same {ds : List PyData} {xs : List T} (e : T.toDs xs = some ds) (hd : min (PyData.list ds).depth (PyData.list ds).depth ≤ 150) (hr : PyData.eqv (.list ds) (.list ds) = true) : opNeK 1 OW (.lst xs) (.lst xs) h = .ok (.bl false) h := by
  show opNe (.lst xs) (.lst xs) h = _
  have t : (T.lst xs).toDh h = some (.list ds) := by show (T.lst xs).toD = _; rw [T.toD, e]; rfl
  unfold opNe
  rw [t]
  dsimp only
  rw [if_pos hd, hr]
  rfl
omit hc in
theorem eq_same {ds : List PyData} {xs : List T} (e : T.toDs xs = some ds) (hd : min (PyData.list ds).depth (PyData.list ds).depth ≤ 150) (hr : PyData.eqv (.list ds) (.list ds) = true) : opEqK 1 OW (.lst xs) (.lst xs) h = .ok (.bl true) h := by
  show opEq (.lst xs) (.lst xs) h = _
  have t : (T.lst xs).toDh h = some (.list ds) := by show (T.lst xs).toD = _; rw [T.toD, e]; rfl
  unfold opEq
  rw [t]
  dsimp only
  rw [if_pos hd, hr]
omit hc in
theorem bools3 (a b c : Bool) : T.toDs [.bl a, .bl b, .bl c] = some [.bool a, .bool b, .bool c] ∧ min (PyData.list [.bool a, .bool b, .bool c]).depth (PyData.list [.bool a, .bool b, .bool c]).depth ≤ 150 ∧ PyData.eqv (.list [.bool a, .bool b, .bool c]) (.list [.bool a, .bool b, .bool c]) = true := by
  refine ⟨rfl, by simp, ?_⟩
  cases a <;> cases b <;> cases c <;> simp
omit hc in
theorem ne_BB : opNeK 1 OW (.lst (BB c)) (.lst (BB c)) h = .ok (.bl false) h := let ⟨q1, q2, q3⟩ := bools3 _ _ _; ne_same h q1 q2 q3
omit hc in
theorem eq_BB : opEqK 1 OW (.lst (BB c)) (.lst (BB c)) h = .ok (.bl true) h := let ⟨q1, q2, q3⟩ := bools3 _ _ _; eq_same h q1 q2 q3
theorem cnt_FB : fCountB (FB c 24) [.bl true] = some (.int 1) := by
  match c, hc with
  | 0, _ => exact rfl
  | 1, _ => exact rfl
  | 2, _ => exact rfl
  | 3, _ => exact rfl
  | 4, _ => exact rfl
  | 5, _ => exact rfl
  | 6, _ => exact rfl
  | 7, _ => exact rfl
  | 8, _ => exact rfl
  | 9, _ => exact rfl
  | 10, _ => exact rfl
  | 11, _ => exact rfl
  | 12, _ => exact rfl
  | 13, _ => exact rfl
  | 14, _ => exact rfl
  | 15, _ => exact rfl
  | 16, _ => exact rfl
  | 17, _ => exact rfl
  | 18, _ => exact rfl
  | 19, _ => exact rfl
  | 20, _ => exact rfl
  | 21, _ => exact rfl
  | 22, _ => exact rfl
  | 23, _ => exact rfl
  | n + 24, hh => exact absurd hh (by omega)
theorem idx_FB : fIndexB (FB c 24) [.bl true] = some (.int c) := by
  match c, hc with
  | 0, _ => exact rfl
  | 1, _ => exact rfl
  | 2, _ => exact rfl
  | 3, _ => exact rfl
  | 4, _ => exact rfl
  | 5, _ => exact rfl
  | 6, _ => exact rfl
  | 7, _ => exact rfl
  | 8, _ => exact rfl
  | 9, _ => exact rfl
  | 10, _ => exact rfl
  | 11, _ => exact rfl
  | 12, _ => exact rfl
  | 13, _ => exact rfl
  | 14, _ => exact rfl
  | 15, _ => exact rfl
  | 16, _ => exact rfl
  | 17, _ => exact rfl
  | 18, _ => exact rfl
  | 19, _ => exact rfl
  | 20, _ => exact rfl
  | 21, _ => exact rfl
  | 22, _ => exact rfl
  | 23, _ => exact rfl
  | n + 24, hh => exact absurd hh (by omega)
omit hc in
theorem neK_int (i j : Int) : opNeK 1 OW (.int i) (.int j) h = .ok (.bl (!decide (i = j))) h := ne_i h i j
omit hc in
theorem eqK_int (i j : Int) : opEqK 1 OW (.int i) (.int j) h = .ok (.bl (decide (i = j))) h := eq_i h i j
theorem kd_11 : b__law_kind_11 [some (.xh (c + 1) fs), some (.lst (FB c 24)), some (.lst (BB c)), some (.lst (BB c)), none] h = .ok (.nx [some (.xh (c + 1) fs), some (.lst (FB c 24)), some (.lst (BB c)), some (.lst (BB c)), none]) h := by
  have q := cnt_FB hc
  have q2 := ne_BB (c := c) h
  simp only [b__law_kind_11, eLM, eVar_, aCons_, aNil_, eC_, bind_ok', sIf_, bOr_, bE_, eOp_, asB_, List.getElem?_cons_zero, List.getElem?_cons_succ, q, q2, neK_int, sNext_]
  rfl
theorem kd_12 : b__law_kind_12 [some (.xh (c + 1) fs), some (.lst (FB c 24)), some (.lst (BB c)), some (.lst (BB c)), none] h = .ok (.nx [some (.xh (c + 1) fs), some (.lst (FB c 24)), some (.lst (BB c)), some (.lst (BB c)), some (.int c)]) h := by
  have q := idx_FB hc
  simp [b__law_kind_12, eLM, q]
theorem kd_13 : b__law_kind_13 [some (.xh (c + 1) fs), some (.lst (FB c 24)), some (.lst (BB c)), some (.lst (BB c)), some (.int c)] h = .ok (.ret (.int c)) h := by
  have e : ([.bl (decide ((c : Int) < 14)), .bl (decide ((13 : Int) < c) && decide ((c : Int) < 20)), .bl (decide ((19 : Int) < c))] : List T) = BB c := by
    unfold BB
    have e1 : decide ((c : Int) < 14) = decide (c < 14) := by by_cases q : c < 14 <;> simp [q] <;> omega
    have e2 : decide ((13 : Int) < c) = decide (14 ≤ c) := by by_cases q : 14 ≤ c <;> simp [q] <;> omega
    have e3 : decide ((c : Int) < 20) = decide (c < 20) := by by_cases q : c < 20 <;> simp [q] <;> omega
    have e4 : decide ((19 : Int) < c) = decide (20 ≤ c) := by by_cases q : 20 ≤ c <;> simp [q] <;> omega
    rw [e1, e2, e3, e4]
  have q2 := eq_BB (c := c) h
  have q2' : opEqK 1 OW (.lst (BB c)) (.lst (BB c)) h = .ok (.bl true) h := q2
  have l3 : (BB c).length ≤ 16777216 := by show 3 ≤ _; decide
  by_cases q3 : (13 : Int) < c <;> simp [q3] at e <;> simp [-RT.opEq_l, -RT.eqK_l, b__law_kind_13, q3, e, q2, l3]
theorem kind_ok : m__law_kind [.xh (c + 1) fs] h = .ok (.int c) h := by
  have bb : b__law_kind [some (.xh (c + 1) fs), none, none, none, none] h = .ok (.ret (.int c)) h :=
    (seq_nx (kd_1 hc fs h)).trans ((seq_nx (kd_2 hc fs h)).trans ((seq_nx (kd_3 hc fs h)).trans ((seq_nx (kd_4 hc fs h)).trans ((seq_nx (kd_5 hc fs h)).trans ((seq_nx (kd_6 hc fs h)).trans ((seq_nx (kd_7 hc fs h)).trans ((seq_nx (kd_8 hc fs h)).trans ((seq_nx (kd_9 hc fs h _)).trans ((seq_nx (kd_10 hc fs h _ _)).trans ((seq_nx (kd_11 hc fs h)).trans ((seq_nx (kd_12 hc fs h)).trans (kd_13 hc fs h))))))))))))
  have r := run_ret (h := h) (ts := [T.xh (c + 1) fs]) (n := 5) bb rfl
  rw [List.take_length] at r
  exact r
end
end K07
set_option Elab.async false
set_option linter.all false
set_option maxRecDepth 100000
set_option maxHeartbeats 4000000
namespace K07
open PySem RT
/-! ### values that are asked about -/
def inT : T → Bool
  | .int _ => true
  | .bl _ => true
  | _ => false
def boT : T → Bool
  | .bl _ => true
  | _ => false
/-- an integer from lo on -/
def whole (lo : Int) : T → Bool
  | .int i => decide (lo ≤ i)
  | _ => false
def btw (lo hi : Int) : T → Bool
  | .int i => decide (lo ≤ i) && decide (i ≤ hi)
  | _ => false
structure Od (t : T) : Prop where
  nr : t.noRef = true
  ii : ∀ h, gIsiS 1 TAB XC [t, .ty "int"] h = .ok (.bl (inT t)) h
  ib : inT t = true → ∀ h, gIsiS 1 TAB XC [t, .ty "bool"] h = .ok (.bl (boT t)) h
  ki : inT t = true → (∃ i, t = .int i) ∨ ∃ b, t = .bl b
  sh : ∃ s : Str, ∀ h, gReprE ms_qreprq [t] h = .ok (.str s) h
theorem Od.no {t : T} (q : inT t = false) (lo : Int) : whole lo t = false := by
  cases t <;> first | rfl | cases q
theorem Od.nb {t : T} (q : inT t = false) (lo hi : Int) : btw lo hi t = false := by
  cases t <;> first | rfl | cases q
section
variable {t : T} (O : Od t) (h : Hm)
include O
theorem whole_ok (lo : Int) : m__law_whole [t, .int lo] h = .ok (.bl (whole lo t)) h := by
  cases q : inT t with
  | true =>
    have i1 := O.ii
    have i2 := O.ib q
    rcases O.ki q with ⟨i, rfl⟩ | ⟨b, rfl⟩
    · simp [m__law_whole, b__law_whole, i1, i2, inT, boT, whole]
    · simp [m__law_whole, b__law_whole, i1, i2, inT, boT, whole]
  | false => simp [m__law_whole, b__law_whole, O.ii, q, Od.no q]
theorem isint_ok (lo : Int) : m_is_integer [t, .int lo] h = .ok (.bl (whole lo t)) h := by
  cases q : inT t with
  | true =>
    have i1 := O.ii
    have i2 := O.ib q
    rcases O.ki q with ⟨i, rfl⟩ | ⟨b, rfl⟩
    · simp [m_is_integer, b_is_integer, i1, i2, inT, boT, whole]
    · simp [m_is_integer, b_is_integer, i1, i2, inT, boT, whole]
  | false => simp [m_is_integer, b_is_integer, O.ii, q, Od.no q]
theorem btw_ok (lo hi : Int) : m_is_between [t, .int lo, .int hi] h = .ok (.bl (btw lo hi t)) h := by
  have w := fun h => isint_ok O h lo
  cases q : inT t with
  | true =>
    rcases O.ki q with ⟨i, rfl⟩ | ⟨b, rfl⟩
    · simp [m_is_between, b_is_between, arrS, pick, ocn, w, whole, btw]
      by_cases c : lo ≤ i <;> simp [c]
    · simp [m_is_between, b_is_between, arrS, pick, ocn, w, whole, btw]
  | false => simp [m_is_between, b_is_between, arrS, pick, ocn, w, Od.no q, Od.nb q]
end
/-! ### errors -/
def xN (t : T) : T := .obj 1 [(2, t)]
def xS (t : T) : T := .obj 2 [(0, t)]
def xP (t : T) : T := .obj 3 [(3, t)]
def xQ (t : T) : T := .obj 4 [(4, t)]
theorem fin_exc (n : Nat) (e : T) (h : Hm) : fin n (.exc e h) = if e.noRef then .exc e (h.take n) else .bad := rfl
theorem xst_go (h : Hm) {t : T} (c f : Nat) (l : Nat) (hl : h[l]? = some (some (.exn c []))) (ht : t.noRef = true) : sXst [c] f (eVar 1) (eVar 0) [some (.ref l), some t] h = .ok (.nx [some (.ref l), some t]) (h.set l (some (.exn c [(f, t)]))) := by
  simp [sXst, hl, ht]
theorem rz_go {t : T} (h : Hm) (c f : Nat) (g : List T → Hm → R T) (eg : g = RT.run 2 (sXst [c] f (eVar 1) (eVar 0))) (ht : t.noRef = true) (ra : AT) (a : StT) (ea : ra a h = .ok [t] h) : sRaiseX c 1 (fun xs zs h => g (arrS [(0, 0), (0, 1)] [] xs zs) h) ra a h = .ok (.rse (.obj c [(f, t)]) a) h := by
  have x := xst_go (h ++ [some (.exn c [])]) (t := t) c f h.length (by simp) ht
  unfold sRaiseX
  rw [ea, th_ok]
  simp [arrS, pick, ocn, eg, x, rzFin]
section
variable {t : T} (ht : t.noRef = true) (ra : AT) (a : StT) (h : Hm) (ea : ra a h = .ok [t] h)
include ht ea
theorem rzN : sRaiseX 1 1 (fun xs zs h => m_InvalidNumberq_initq (arrS [(0, 0), (0, 1)] [] xs zs) h) ra a h = .ok (.rse (xN t) a) h := rz_go h 1 2 _ rfl ht ra a ea
theorem rzS : sRaiseX 2 1 (fun xs zs h => m_InvalidStepq_initq (arrS [(0, 0), (0, 1)] [] xs zs) h) ra a h = .ok (.rse (xS t) a) h := rz_go h 2 0 _ rfl ht ra a ea
theorem rzP : sRaiseX 3 1 (fun xs zs h => m_InvalidProgressionq_initq (arrS [(0, 0), (0, 1)] [] xs zs) h) ra a h = .ok (.rse (xP t) a) h := rz_go h 3 3 _ rfl ht ra a ea
theorem rzQ : sRaiseX 4 1 (fun xs zs h => m_InvalidProgressionsq_initq (arrS [(0, 0), (0, 1)] [] xs zs) h) ra a h = .ok (.rse (xQ t) a) h := rz_go h 4 4 _ rfl ht ra a ea
end
/-! ### what is caught -/
theorem caught_ret {act : ET} {cs : List (Nat × T)} {t : T} {h : Hm} (e : act [some (.clo cs), none, none] h = .ok t h) : m__law_caught act [.clo cs] h = .ok (.lst []) h := by
  have b : b__law_caught act [some (.clo cs), none, none] h = .ok (.ret (.lst [])) h := by
    have e1 : b__law_caught_1 act [some (.clo cs), none, none] h = .ok (.nx [some (.clo cs), none, none]) h := by
      unfold b__law_caught_1 sTryAs
      rw [sExpr_, e, th_ok]
    unfold b__law_caught
    rw [seq_nx e1]
    simp [b__law_caught_2]
  have r := run_ret (h := h) (ts := [T.clo cs]) (n := 3) b rfl
  rw [List.take_length] at r
  exact r
/-- the end of an error's field read -/
def fieldOf : Nat → Nat
  | 0 => 2
  | 1 => 0
  | 2 => 3
  | _ => 4
theorem suite_ok {act : ET} (k : Nat) (hk : k < 4) (X : Option T) (t : T) (h : Hm) (s : Str) (sh : ∀ h, gReprE ms_qreprq [t] h = .ok (.str s) h) : b__law_caught_1x act [X, some (.xh (k + 1) [(fieldOf k, t)]), none] h = .ok (.ret (.lst [.int k, .str s])) h := by
  have kd := kind_ok (c := k) (by omega) [(fieldOf k, t)] h
  have e1 : b__law_caught_1x_1 act [X, some (.xh (k + 1) [(fieldOf k, t)]), none] h = .ok (.nx [X, some (.xh (k + 1) [(fieldOf k, t)]), some (.int k)]) h := by
    simp [b__law_caught_1x_1, arrS, pick, ocn, kd]
  unfold b__law_caught_1x
  rw [seq_nx e1]
  have hk' : k = 0 ∨ k = 1 ∨ k = 2 ∨ k = 3 := by omega
  rcases hk' with e | e | e | e <;> subst e <;> simp [b__law_caught_1x_2, b__law_caught_1x_3, b__law_caught_1x_4, eXfld, fieldOf, sh]
theorem caught_exc {act : ET} {cs : List (Nat × T)} {h : Hm} (k : Nat) (hk : k < 4) (t : T) (s : Str) (sh : ∀ h, gReprE ms_qreprq [t] h = .ok (.str s) h) (e : act [some (.clo cs), none, none] h = .exc (.obj (k + 1) [(fieldOf k, t)]) h) : m__law_caught act [.clo cs] h = .ok (.lst [.int k, .str s]) h := by
  have su := suite_ok (act := act) k hk (some (.clo cs)) t h s sh
  have xc : XC.contains (k + 1) = true := in_xc k (by omega)
  have b : b__law_caught act [some (.clo cs), none, none] h = .ok (.ret (.lst [.int k, .str s])) h := by
    have e1 : b__law_caught_1 act [some (.clo cs), none, none] h = .ok (.ret (.lst [.int k, .str s])) h := by
      unfold b__law_caught_1 sTryAs
      rw [sExpr_, e, th_exc]
      dsimp only
      rw [if_pos xc]
      show tryFin (b__law_caught_1x act [some (.clo cs), some (.xh (k + 1) [(fieldOf k, t)]), none] h) = _
      rw [su]
      rfl
    unfold b__law_caught
    rw [sSeq_, e1]
  have r := run_ret (h := h) (ts := [T.clo cs]) (n := 3) b rfl
  rw [List.take_length] at r
  exact r
/-- the call with a lambda: it returns -/
theorem lam_ret {is : List Nat} {n : Nat} {r : ET} {st : StT} {h : Hm} {t : T} (nr : T.noRefF (capt is st) = true) (e : r (unc n (capt is st)) h = .ok t h) : eLamCall is (m__law_caught (eAct 0 n r)) st h = .ok (.lst []) h := by
  have a : eAct 0 n r [some (.clo (capt is st)), none, none] h = .ok t h := by
    show (if T.noRefF (capt is st) then fin h.length (r (unc n (capt is st)) h) else .bad) = _
    rw [if_pos nr, e, fin_ok, List.take_length]
    split <;> rfl
  unfold eLamCall
  rw [caught_ret a]
  rfl
theorem lam_exc {is : List Nat} {n : Nat} {r : ET} {st : StT} {h : Hm} (k : Nat) (hk : k < 4) {t : T} (nt : t.noRef = true) (s : Str) (sh : ∀ h, gReprE ms_qreprq [t] h = .ok (.str s) h) (nr : T.noRefF (capt is st) = true) (e : r (unc n (capt is st)) h = .exc (.obj (k + 1) [(fieldOf k, t)]) h) :
    eLamCall is (m__law_caught (eAct 0 n r)) st h = .ok (.lst [.int k, .str s]) h := by
  have a : eAct 0 n r [some (.clo (capt is st)), none, none] h = .exc (.obj (k + 1) [(fieldOf k, t)]) h := by
    show (if T.noRefF (capt is st) then fin h.length (r (unc n (capt is st)) h) else .bad) = _
    rw [if_pos nr, e, fin_exc, List.take_length]
    rw [if_pos (by simp [nt])]
  unfold eLamCall
  rw [caught_exc k hk t s sh a]
  rfl
end K07
set_option Elab.async false
set_option linter.all false
set_option maxRecDepth 100000
set_option maxHeartbeats 4000000
namespace K07
open PySem RT
/-! ### made, or refused -/
theorem run_exc {n : Nat} {b : SM} {ts : List T} {h : Hm} {e : T} {a : StT} (q : b (st0 n ts) h = .ok (.rse e a) h) (ne : e.noRef = true) : RT.run n b ts h = .exc e h := by
  rw [run_, q, endOf_rse, fin_exc, if_pos ne, List.take_length]
theorem nr_xN {t : T} (ht : t.noRef = true) : (xN t).noRef = true := by simp [xN, ht]
theorem nr_xS {t : T} (ht : t.noRef = true) : (xS t).noRef = true := by simp [xS, ht]
theorem nr_xP {t : T} (ht : t.noRef = true) : (xP t).noRef = true := by simp [xP, ht]
theorem nr_xQ {t : T} (ht : t.noRef = true) : (xQ t).noRef = true := by simp [xQ, ht]
theorem init_S {t1 : T} (O1 : Od t1) (w : whole 1 t1 = false) (t2 : T) (l : Nat) (h : Hm) : m_Progressionq_initq [.ref l, t1, t2] h = .exc (xS t1) h := by
  have i := isint_ok O1 h 1
  have z := rzS O1.nr (aCons (eVar 1) aNil) [some (.ref l), some t1, some t2] h (by simp)
  refine run_exc (a := [some (.ref l), some t1, some t2]) ?_ (nr_xS O1.nr)
  show b_Progressionq_initq [some (.ref l), some t1, some t2] h = _
  have e1 : b_Progressionq_initq_1 [some (.ref l), some t1, some t2] h = .ok (.rse (xS t1) [some (.ref l), some t1, some t2]) h := by
    unfold b_Progressionq_initq_1
    rw [sIf_]
    have c : (bNot (bE (eCall 2 (fun xs zs h => m_is_integer (arrS [(0, 0), (0, 1)] [] xs zs) h) (aCons (eVar 1) (aCons (eC (.int 1)) aNil))))) [some (.ref l), some t1, some t2] h = .ok true h := by
      simp [arrS, pick, ocn, i, w]
    rw [c, th_ok, if_pos rfl, z]
  unfold b_Progressionq_initq
  rw [sSeq_, e1]
theorem init_N {p : Int} (hp : 1 ≤ p) {t2 : T} (O1 : Od (.int p)) (O2 : Od t2) (w : btw 0 (p - 1) t2 = false) (l : Nat) (h : Hm) : m_Progressionq_initq [.ref l, .int p, t2] h = .exc (xN t2) h := by
  have i := isint_ok O1 h 1
  have j := btw_ok O2 h 0 (p - 1)
  have wp : whole 1 (.int p) = true := by simp [whole, hp]
  have z := rzN O2.nr (aCons (eVar 2) aNil) [some (.ref l), some (.int p), some t2] h (by simp)
  refine run_exc (a := [some (.ref l), some (.int p), some t2]) ?_ (nr_xN O2.nr)
  show b_Progressionq_initq [some (.ref l), some (.int p), some t2] h = _
  have e1 : b_Progressionq_initq_1 [some (.ref l), some (.int p), some t2] h = .ok (.nx [some (.ref l), some (.int p), some t2]) h := by
    simp [b_Progressionq_initq_1, arrS, pick, ocn, i, wp]
  have e2 : b_Progressionq_initq_2 [some (.ref l), some (.int p), some t2] h = .ok (.rse (xN t2) [some (.ref l), some (.int p), some t2]) h := by
    unfold b_Progressionq_initq_2
    rw [sIf_]
    have c : (bNot (bE (eCall 3 (fun xs zs h => m_is_between (arrS [(0, 0), (0, 1), (0, 2)] [] xs zs) h) (aCons (eVar 2) (aCons (eC (.int 0)) (aCons (eOp opSub (eVar 1) (eC (.int 1))) aNil)))))) [some (.ref l), some (.int p), some t2] h = .ok true h := by
      simp [arrS, pick, ocn, j, w]
    rw [c, th_ok, if_pos rfl, z]
  unfold b_Progressionq_initq
  rw [seq_nx e1, sSeq_, e2]
theorem mk_exc {g : List T → Hm → R T} {arr : List T → List T → List T} {xs zs : List T} {h : Hm} {x : T} (e : g (arr (.ref h.length :: xs) zs) (h ++ [some (.ins 0 [])]) = .exc x (h ++ [some (.ins 0 [])])) (nx : x.noRef = true) : mkO 0 g arr xs zs h = .exc x h := by
  unfold mkO
  rw [e]
  show (if x.noRef then R.exc x ((h ++ [some (Cell.ins 0 [])]).take h.length) else .bad) = _
  rw [if_pos nx, List.take_left]
/-- Progression(t1, t2), by position or by name -/
inductive Mkd (t1 t2 : T) : Prop where
  | S (w : whole 1 t1 = false) (e : ∀ (l : Nat) (h : Hm), m_Progressionq_initq [.ref l, t1, t2] h = .exc (xS t1) h)
  | N (w : whole 1 t1 = true) (v : (whole 0 t2 = true ∧ ∃ p a : Int, t1 = .int p ∧ t2 = .int a ∧ ¬ a < p) ∨ whole 0 t2 = false) (e : ∀ (l : Nat) (h : Hm), m_Progressionq_initq [.ref l, t1, t2] h = .exc (xN t2) h)
  | ok (p a : Int) (e1 : t1 = .int p) (e2 : t2 = .int a) (h1 : 1 ≤ p) (h2 : 0 ≤ a) (h3 : a < p)
theorem mkd {t1 t2 : T} (O1 : Od t1) (O2 : Od t2) : Mkd t1 t2 := by
  cases w : whole 1 t1 with
  | false => exact .S w (fun l h => init_S O1 w t2 l h)
  | true =>
    obtain ⟨p, rfl⟩ : ∃ p, t1 = .int p := by cases t1 <;> first | exact ⟨_, rfl⟩ | cases w
    have hp : 1 ≤ p := of_decide_eq_true w
    cases v : whole 0 t2 with
    | false =>
      refine .N w (.inr v) fun l h => init_N hp O1 O2 ?_ l h
      cases t2 <;> first | rfl | skip
      rename_i i
      have : ¬ 0 ≤ i := of_decide_eq_false v
      simp [btw, this]
    | true =>
      obtain ⟨a, rfl⟩ : ∃ p, t2 = .int p := by cases t2 <;> first | exact ⟨_, rfl⟩ | cases v
      have ha : 0 ≤ a := of_decide_eq_true v
      by_cases c : a < p
      · exact .ok p a rfl rfl hp ha c
      · refine .N w (.inl ⟨v, p, a, rfl, rfl, c⟩) fun l h => init_N hp O1 O2 ?_ l h
        have : ¬ a ≤ p - 1 := by omega
        simp [btw, this]
section
variable {t1 t2 : T} (O1 : Od t1) (O2 : Od t2)
include O1 O2
theorem made_right (h : Hm) : m__law_made_right [t1, t2] h = .ok (.bl true) h := by
  obtain ⟨s1, r1⟩ := O1.sh
  obtain ⟨s2, r2⟩ := O2.sh
  have w1 := fun h => whole_ok O1 h 1
  have w2 := fun h => whole_ok O2 h 0
  have nr : ∀ d : Option T, T.noRefF (capt [0, 1] [some t1, some t2, d]) = true := fun d => by
    show (t1.noRef && (t2.noRef && true)) = true
    rw [O1.nr, O2.nr]; rfl
  have un : ∀ d : Option T, unc 3 (capt [0, 1] [some t1, some t2, d]) = [some t1, some t2, none] := fun d => rfl
  -- from what both calls tell
  have key : ∀ due : T, (∃ k s, due = .lst [.int k, .str s]) ∨ due = .lst [] → (∀ d, eLamCall [0, 1] (m__law_caught (eAct 0 3 l__law_made_right_1)) [some t1, some t2, d] h = .ok due h) → (∀ d, eLamCall [0, 1] (m__law_caught (eAct 0 3 l__law_made_right_2)) [some t1, some t2, d] h = .ok due h) →
      (∃ d1, b__law_made_right_1 [some t1, some t2, none] h = .ok (.nx [some t1, some t2, some d1]) h ∧ b__law_made_right_2 [some t1, some t2, some d1] h = .ok (.nx [some t1, some t2, some due]) h) → m__law_made_right [t1, t2] h = .ok (.bl true) h := by
    rintro due hd c1 c2 ⟨d1, e1, e2⟩
    have ne : opNeK 1 OW due due h = .ok (.bl false) h := by
      rcases hd with ⟨k, s, rfl⟩ | rfl <;> simp
    have eq : opEqK 1 OW due due h = .ok (.bl true) h := by
      rcases hd with ⟨k, s, rfl⟩ | rfl <;> simp
    have e3 : b__law_made_right_3 [some t1, some t2, some due] h = .ok (.nx [some t1, some t2, some due]) h := by
      unfold b__law_made_right_3
      rw [sIf_, bE_, eOp_, c1, bind_ok']
      simp only [eVar_, List.getElem?_cons_zero, List.getElem?_cons_succ, bind_ok', ne, asB_, th_ok, sNext_]
      rfl
    have e4 : b__law_made_right_4 [some t1, some t2, some due] h = .ok (.ret (.bl true)) h := by
      unfold b__law_made_right_4
      rw [sRet_, eOp_, c2, bind_ok']
      simp only [eVar_, List.getElem?_cons_zero, List.getElem?_cons_succ, bind_ok', eq, th_ok]
    have b : b__law_made_right [some t1, some t2, none] h = .ok (.ret (.bl true)) h := by
      unfold b__law_made_right
      rw [seq_nx e1, seq_nx e2, seq_nx e3, e4]
    have r := run_ret (h := h) (ts := [t1, t2]) (n := 3) b rfl
    rw [List.take_length] at r
    exact r
  rcases mkd O1 O2 with ⟨w, e⟩ | ⟨w, v, e⟩ | ⟨p, a, rfl, rfl, h1, h2, h3⟩
  · refine key (.lst [.int 1, .str s1]) (.inl ⟨_, _, rfl⟩) (fun d => ?_) (fun d => ?_) ⟨.lst [.int 0, .str s2], ?_, ?_⟩
    · refine lam_exc 1 (by decide) O1.nr s1 r1 (nr d) ?_
      rw [un]
      have z : mkO 0 m_Progressionq_initq (arrS [(0, 0), (0, 1), (0, 2)] [.int 0]) [t1, t2] [] h = .exc (xS t1) h := mk_exc (e _ _) (nr_xS O1.nr)
      simp [l__law_made_right_1, z, xS, fieldOf]
    · refine lam_exc 1 (by decide) O1.nr s1 r1 (nr d) ?_
      rw [un]
      have z : mkO 0 m_Progressionq_initq (arrS [(0, 0), (1, 1), (1, 0)] [.int 0]) [] [t2, t1] h = .exc (xS t1) h := mk_exc (e _ _) (nr_xS O1.nr)
      simp [l__law_made_right_2, z, xS, fieldOf]
    · cases q : whole 0 t2 <;> simp [b__law_made_right_1, arrS, pick, ocn, w1, w2, w, q, r2]
    · simp [b__law_made_right_2, arrS, pick, ocn, w1, w, r1]
  · refine key (.lst [.int 0, .str s2]) (.inl ⟨_, _, rfl⟩) (fun d => ?_) (fun d => ?_) ⟨.lst [.int 0, .str s2], ?_, ?_⟩
    · refine lam_exc 0 (by decide) O2.nr s2 r2 (nr d) ?_
      rw [un]
      have z : mkO 0 m_Progressionq_initq (arrS [(0, 0), (0, 1), (0, 2)] [.int 0]) [t1, t2] [] h = .exc (xN t2) h := mk_exc (e _ _) (nr_xN O2.nr)
      simp [l__law_made_right_1, z, xN, fieldOf]
    · refine lam_exc 0 (by decide) O2.nr s2 r2 (nr d) ?_
      rw [un]
      have z : mkO 0 m_Progressionq_initq (arrS [(0, 0), (1, 1), (1, 0)] [.int 0]) [] [t2, t1] h = .exc (xN t2) h := mk_exc (e _ _) (nr_xN O2.nr)
      simp [l__law_made_right_2, z, xN, fieldOf]
    · rcases v with ⟨v, p, a, rfl, rfl, c⟩ | v
      · simp [b__law_made_right_1, arrS, pick, ocn, w1, w2, w, v, c, r2]
      · simp [b__law_made_right_1, arrS, pick, ocn, w1, w2, w, v, r2]
    · simp [b__law_made_right_2, arrS, pick, ocn, w1, w, r1]
  · have w : whole 1 (.int p) = true := by simp [whole, h1]
    have v : whole 0 (.int a) = true := by simp [whole, h2]
    refine key (.lst []) (.inr rfl) (fun d => ?_) (fun d => ?_) ⟨.lst [], ?_, ?_⟩
    · refine lam_ret (t := Pr p a) (nr d) ?_
      rw [un]
      have z := mk2 p a h h1 h2 (by omega)
      simp [l__law_made_right_1, z]
    · refine lam_ret (t := Pr p a) (nr d) ?_
      rw [un]
      have z : mkO 0 m_Progressionq_initq (arrS [(0, 0), (1, 1), (1, 0)] [.int 0]) [] [.int a, .int p] h = .ok (Pr p a) h := by
        have i := init_ok p a h h1 h2 (by omega)
        simp [mkO, arrS, pick, ocn, i, mkFin]
      simp [l__law_made_right_2, z]
    · simp [b__law_made_right_1, arrS, pick, ocn, w1, w2, w, v, h3]
    · simp [b__law_made_right_2, arrS, pick, ocn, w1, w]
end
end K07
set_option Elab.async false
set_option linter.all false
set_option maxRecDepth 100000
set_option maxHeartbeats 4000000
namespace K07
open PySem RT
/-! ### a number asked for -/
theorem chk_exc {t : T} (O : Od t) (w : whole 0 t = false) (h : Hm) : m_check_number [t] h = .exc (xN t) h := by
  have i := isint_ok O h 0
  have z := rzN O.nr (aCons (eVar 0) aNil) [some t] h (by simp)
  refine run_exc (a := [some t]) ?_ (nr_xN O.nr)
  show b_check_number [some t] h = _
  unfold b_check_number
  rw [sIf_]
  have c : (bNot (bE (eCall 2 (fun xs zs h => m_is_integer (arrS [(0, 0), (0, 1)] [] xs zs) h) (aCons (eVar 0) (aCons (eC (.int 0)) aNil))))) [some t] h = .ok true h := by
    simp [arrS, pick, ocn, i, w]
  rw [c, th_ok, if_pos rfl, z]
section
variable {t : T} (O : Od t) (w : whole 0 t = false) (X : T) (h : Hm)
include O w
theorem getitem_exc : m_Progressionq_getitemq [X, t] h = .exc (xN t) h := by
  have c := chk_exc O w h
  refine run_exc (a := [some X, some t]) ?_ (nr_xN O.nr)
  show b_Progressionq_getitemq [some X, some t] h = _
  have e1 : b_Progressionq_getitemq_1 [some X, some t] h = .ok (.rse (xN t) [some X, some t]) h := by simp [b_Progressionq_getitemq_1, arrS, pick, ocn, c]
  unfold b_Progressionq_getitemq
  rw [sSeq_, e1]
theorem below_exc : m_Progression_below [X, t] h = .exc (xN t) h := by
  have c := chk_exc O w h
  refine run_exc (a := [some X, some t]) ?_ (nr_xN O.nr)
  show b_Progression_below [some X, some t] h = _
  have e1 : b_Progression_below_1 [some X, some t] h = .ok (.rse (xN t) [some X, some t]) h := by simp [b_Progression_below_1, arrS, pick, ocn, c]
  unfold b_Progression_below
  rw [sSeq_, e1]
theorem after_exc : m_Progression_after [X, t] h = .exc (xN t) h := by
  have c := chk_exc O w h
  refine run_exc (a := [some X, some t]) ?_ (nr_xN O.nr)
  show b_Progression_after [some X, some t] h = _
  have e1 : b_Progression_after_1 [some X, some t] h = .ok (.rse (xN t) [some X, some t]) h := by simp [b_Progression_after_1, arrS, pick, ocn, c]
  unfold b_Progression_after
  rw [sSeq_, e1]
end
theorem below_ok (p a b : Int) (h : Hm) (hp : 0 < p) (fp : fit p = true) (hb : 0 ≤ b) : ∃ i, m_Progression_below [Pr p a, .int b] h = .ok (.int i) h := by
  simp [m_Progression_below, b_Progression_below, b_Progression_below_1, b_Progression_below_2, arrS, pick, ocn, check_number_ok, lk_miss, hb, hp, fp]
theorem after_ok (p a b : Int) (h : Hm) (hp : 0 < p) (hb : 0 ≤ b) : ∃ i, m_Progression_after [Pr p a, .int b] h = .ok (.int i) h := by
  simp [m_Progression_after, b_Progression_after, b_Progression_after_1, b_Progression_after_2, arrS, pick, ocn, check_number_ok, lk_miss, hb, hp]
/-! ### lists that grow -/
theorem new_get (h : Hm) (L : List T) : (h ++ [some (Cell.lst L)])[h.length]? = some (some (.lst L)) := by simp
theorem new_set (h : Hm) (c d : Option Cell) : (h ++ [c]).set h.length d = h ++ [d] := by simp
theorem app_go {ro : ET} {e : ET} {st : StT} {h : Hm} {L : List T} {d : T} (r : ro st (h ++ [some (.lst L)]) = .ok (.ref h.length) (h ++ [some (.lst L)])) (q : e st (h ++ [some (.lst L)]) = .ok d (h ++ [some (.lst L)])) (hl : L.length < 100) (nd : d.noRef = true) :
    sExpr (eCell fAppend ro (aCons e aNil)) st (h ++ [some (.lst L)]) = .ok (.nx st) (h ++ [some (.lst (L ++ [d]))]) := by
  have hl2 : L.length < 16777216 := by omega
  simp [r, q, fAppend, hl2, nd]
theorem frz_go (i : Nat) (st : StT) (h : Hm) (L : List T) (e : st[i]? = some (some (.ref h.length))) : sFrz i st (h ++ [some (.lst L)]) = .ok (.nx (st.set i (some (.lst L)))) (h ++ [none]) := by
  unfold sFrz
  rw [e]
  dsimp only
  rw [new_get]
  dsimp only
  rw [new_set]
theorem asked_right {p a : Int} (hp : 0 < p) (hp2 : p ≤ 10 ^ 60) {t : T} (O : Od t) (hv : ∀ v, t = .int v → v ≤ 10 ^ 60) (h : Hm) : m__law_asked_right [Pr p a, t] h = .ok (.bl true) h := by
  have L60 := limt60
  have fp : fit p = true := limt (by omega) (by omega)
  have nr : ∀ d e : Option T, T.noRefF (capt [0, 1] [some (Pr p a), some t, d, e]) = true := fun d e => by
    show ((Pr p a).noRef && (t.noRef && true)) = true
    rw [O.nr]; rfl
  have un : ∀ d e : Option T, unc 4 (capt [0, 1] [some (Pr p a), some t, d, e]) = [some (Pr p a), some t, none, none] := fun d e => rfl
  have w0 := fun h => whole_ok O h 0
  have key : ∀ due : T, ((∃ s, due = .lst [.int 0, .str s]) ∨ due = .lst []) →
      (∀ d e h, eLamCall [0, 1] (m__law_caught (eAct 0 4 l__law_asked_right_1)) [some (Pr p a), some t, d, e] h = .ok due h) →
      (∀ d e h, eLamCall [0, 1] (m__law_caught (eAct 0 4 l__law_asked_right_2)) [some (Pr p a), some t, d, e] h = .ok due h) →
      (∀ d e h, eLamCall [0, 1] (m__law_caught (eAct 0 4 l__law_asked_right_3)) [some (Pr p a), some t, d, e] h = .ok due h) →
      (∀ d e h, eLamCall [0, 1] (m__law_caught (eAct 0 4 l__law_asked_right_4)) [some (Pr p a), some t, d, e] h = .ok due h) →
      (∀ d e h, eLamCall [0, 1] (m__law_caught (eAct 0 4 l__law_asked_right_5)) [some (Pr p a), some t, d, e] h = .ok due h) →
      b__law_asked_right_1 [some (Pr p a), some t, none, none] h = .ok (.nx [some (Pr p a), some t, some due, none]) h → m__law_asked_right [Pr p a, t] h = .ok (.bl true) h := by
    intro due hd c1 c2 c3 c4 c5 e1
    have nd : due.noRef = true := by rcases hd with ⟨s, rfl⟩ | rfl <;> rfl
    have e2 : b__law_asked_right_2 [some (Pr p a), some t, some due, none] h = .ok (.nx [some (Pr p a), some t, some due, some (.ref h.length)]) (h ++ [some (.lst [due])]) := by
      unfold b__law_asked_right_2
      rw [sSet_, eLstM_, aCons_, c1, bind_ok', aNil_, bind_ok', bind_ok']
      simp [nd]
    have rv : ∀ h', (eVar 3) [some (Pr p a), some t, some due, some (.ref h.length)] h' = .ok (.ref h.length) h' := fun h' => rfl
    have e3 := app_go (h := h) (L := [due]) (rv _) (c2 (some due) (some (.ref h.length)) _) (Nat.le_of_ble_eq_true rfl) nd
    have e4 := app_go (h := h) (L := [due, due]) (rv _) (c3 (some due) (some (.ref h.length)) _) (Nat.le_of_ble_eq_true rfl) nd
    have e5 := app_go (h := h) (L := [due, due, due]) (rv _) (c4 (some due) (some (.ref h.length)) _) (Nat.le_of_ble_eq_true rfl) nd
    have e6 := app_go (h := h) (L := [due, due, due, due]) (rv _) (c5 (some due) (some (.ref h.length)) _) (Nat.le_of_ble_eq_true rfl) nd
    have e7 := frz_go 3 [some (Pr p a), some t, some due, some (.ref h.length)] h [due, due, due, due, due] rfl
    have e8 : b__law_asked_right_7 [some (Pr p a), some t, some due, some (.lst [due, due, due, due, due])] (h ++ [none]) = .ok (.ret (.bl true)) (h ++ [none]) := by
      have m : opMulL (.lst [due]) (.int 5) (h ++ [none]) = .ok (.lst [due, due, due, due, due]) (h ++ [none]) := by
        unfold opMulL
        dsimp only
        rw [if_pos (by simp)]
        rfl
      have eq : opEqK 1 OW (.lst [due, due, due, due, due]) (.lst [due, due, due, due, due]) (h ++ [none]) = .ok (.bl true) (h ++ [none]) := by
        rcases hd with ⟨s, rfl⟩ | rfl <;> simp
      simp [-RT.eqK_l, -RT.opEq_l, b__law_asked_right_7, m, eq]
    have b : b__law_asked_right [some (Pr p a), some t, none, none] h = .ok (.ret (.bl true)) (h ++ [none]) := by
      unfold b__law_asked_right
      exact (seq_nx e1).trans ((seq_nx e2).trans ((seq_nx e3).trans ((seq_nx e4).trans ((seq_nx e5).trans ((seq_nx e6).trans ((seq_nx e7).trans e8))))))
    have r := run_ret (h := h) (ts := [Pr p a, t]) (n := 4) b rfl
    rw [List.take_left] at r
    exact r
  cases w : whole 0 t with
  | true =>
    obtain ⟨v, rfl⟩ : ∃ p, t = .int p := by cases t <;> first | exact ⟨_, rfl⟩ | cases w
    have v0 : 0 ≤ v := of_decide_eq_true w
    have v1 := hv v rfl
    have fv : fit v = true := limt (by omega) (by omega)
    refine key (.lst []) (.inr rfl) (fun d e h => ?_) (fun d e h => ?_) (fun d e h => ?_) (fun d e h => ?_) (fun d e h => ?_) ?_
    · refine lam_ret (t := .int (a + p * v)) (nr d e) ?_
      rw [un]
      exact getitem_ok p a v h fp fv v0
    · obtain ⟨i, q⟩ := below_ok p a v h hp fp v0
      refine lam_ret (t := .int i) (nr d e) ?_
      rw [un]
      exact q
    · obtain ⟨i, q⟩ := after_ok p a v h hp v0
      refine lam_ret (t := .int i) (nr d e) ?_
      rw [un]
      exact q
    · obtain ⟨i, q⟩ := below_ok p a v h hp fp v0
      refine lam_ret (t := .int i) (nr d e) ?_
      rw [un]
      exact q
    · obtain ⟨i, q⟩ := after_ok p a v h hp v0
      refine lam_ret (t := .int i) (nr d e) ?_
      rw [un]
      exact q
    · simp [b__law_asked_right_1, arrS, pick, ocn, w0, w]
  | false =>
    obtain ⟨s, r⟩ := O.sh
    refine key (.lst [.int 0, .str s]) (.inl ⟨s, rfl⟩) (fun d e h => ?_) (fun d e h => ?_) (fun d e h => ?_) (fun d e h => ?_) (fun d e h => ?_) ?_
    · refine lam_exc 0 (by decide) O.nr s r (nr d e) ?_
      rw [un]
      exact getitem_exc O w _ h
    · refine lam_exc 0 (by decide) O.nr s r (nr d e) ?_
      rw [un]
      exact below_exc O w _ h
    · refine lam_exc 0 (by decide) O.nr s r (nr d e) ?_
      rw [un]
      exact after_exc O w _ h
    · refine lam_exc 0 (by decide) O.nr s r (nr d e) ?_
      rw [un]
      exact below_exc O w _ h
    · refine lam_exc 0 (by decide) O.nr s r (nr d e) ?_
      rw [un]
      exact after_exc O w _ h
    · simp [b__law_asked_right_1, arrS, pick, ocn, w0, w, r]
end K07
set_option Elab.async false
set_option linter.all false
set_option maxRecDepth 100000
set_option maxHeartbeats 4000000
namespace K07
open PySem RT
/-! ### several, one of them none -/
theorem chk_loop {t : T} (it : ∀ h, gIsiS 1 TAB XC [t, .cl 0] h = .ok (.bl false) h) (X : Option T) (h : Hm) (rest : List T) : ∀ (pre : List T) (s : Nat) (y z : Option T), (∀ x ∈ pre, ∀ h, gIsiS 1 TAB XC [x, .cl 0] h = .ok (.bl true) h) →
    ∃ st, forL (gTp 2 (gsCons (gNm 1) (gsCons (gNm 2) gsNil))) b_check_progressions_1b (enumT s (pre ++ t :: rest)) [X, y, z] h = .ok (.rse (xQ (.int ((s + pre.length : Nat) : Int))) st) h
  | [], s, y, z, _ => by
    refine ⟨[X, some (.int (s : Int)), some t], ?_⟩
    rw [List.nil_append, enumT, forL_cons]
    have r := rzQ (t := .int (s : Int)) rfl (aCons (eVar 1) aNil) [X, some (.int (s : Int)), some t] h (by simp)
    have e : b_check_progressions_1b [X, some (.int (s : Int)), some t] h = .ok (.rse (xQ (.int (s : Int))) [X, some (.int (s : Int)), some t]) h := by
      unfold b_check_progressions_1b
      rw [sIf_]
      have c : (bNot (bE (eCB (gIsiS 1 TAB XC) (aCons (eVar 2) (aCons (eC (.cl 0)) aNil))))) [X, some (.int (s : Int)), some t] h = .ok true h := by simp [it]
      rw [c, th_ok, if_pos rfl, r]
    simp [e]
  | x :: pre, s, y, z, q => by
    obtain ⟨st, e⟩ := chk_loop it X h rest pre (s + 1) (some (.int s)) (some x) fun u hu => q u (by simp [hu])
    refine ⟨st, ?_⟩
    rw [List.cons_append, enumT, forL_cons]
    have := q x (by simp) h
    have e2 : s + 1 + pre.length = s + (x :: pre).length := by simp; omega
    rw [e2] at e
    simp [b_check_progressions_1b, this] at e ⊢
    exact e
theorem chk_bad {t : T} (it : ∀ h, gIsiS 1 TAB XC [t, .cl 0] h = .ok (.bl false) h) (h : Hm) (pre rest : List T) (q : ∀ x ∈ pre, ∀ h, gIsiS 1 TAB XC [x, .cl 0] h = .ok (.bl true) h) : m_check_progressions [.tup (pre ++ t :: rest)] h = .exc (xQ (.int (pre.length : Int))) h := by
  obtain ⟨st, e⟩ := chk_loop it (some (.tup (pre ++ t :: rest))) h rest pre 0 none none q
  rw [Nat.zero_add] at e
  refine run_exc (a := st) ?_ (nr_xQ rfl)
  show b_check_progressions [some (.tup (pre ++ t :: rest)), none, none] h = _
  simp only [b_check_progressions, sFor_, iEnumA_, aCons_, eVar_, aNil_, List.getElem?_cons_zero, bind_ok', th_ok]
  exact e
theorem common_bad {t : T} (it : ∀ h, gIsiS 1 TAB XC [t, .cl 0] h = .ok (.bl false) h) (h : Hm) (pre rest : List T) (q : ∀ x ∈ pre, ∀ h, gIsiS 1 TAB XC [x, .cl 0] h = .ok (.bl true) h) : m_common [.tup (pre ++ t :: rest)] h = .exc (xQ (.int (pre.length : Int))) h := by
  have c := chk_bad it h pre rest q
  refine run_exc (a := [some (.tup (pre ++ t :: rest)), none, none]) ?_ (nr_xQ rfl)
  show b_common [some (.tup (pre ++ t :: rest)), none, none] h = _
  have e1 : b_common_1 [some (.tup (pre ++ t :: rest)), none, none] h = .ok (.rse (xQ (.int (pre.length : Int))) [some (.tup (pre ++ t :: rest)), none, none]) h := by simp [b_common_1, arrS, pick, ocn, c]
  unfold b_common
  rw [sSeq_, e1]
theorem apart_bad {t : T} (it : ∀ h, gIsiS 1 TAB XC [t, .cl 0] h = .ok (.bl false) h) (h : Hm) (pre rest : List T) (q : ∀ x ∈ pre, ∀ h, gIsiS 1 TAB XC [x, .cl 0] h = .ok (.bl true) h) : m_apart [.tup (pre ++ t :: rest)] h = .exc (xQ (.int (pre.length : Int))) h := by
  have c := chk_bad it h pre rest q
  refine run_exc (a := [some (.tup (pre ++ t :: rest)), none, none, none, none]) ?_ (nr_xQ rfl)
  show b_apart [some (.tup (pre ++ t :: rest)), none, none, none, none] h = _
  have e1 : b_apart_1 [some (.tup (pre ++ t :: rest)), none, none, none, none] h = .ok (.rse (xQ (.int (pre.length : Int))) [some (.tup (pre ++ t :: rest)), none, none, none, none]) h := by simp [b_apart_1, arrS, pick, ocn, c]
  unfold b_apart
  rw [sSeq_, e1]
theorem inside_bad {t : T} (nt : t.noRef = true) (it : ∀ h, gIsiS 1 TAB XC [t, .cl 0] h = .ok (.bl false) h) (X : T) (h : Hm) : m_Progression_inside [X, t] h = .exc (xP t) h := by
  have r := rzP nt (aCons (eVar 1) aNil) [some X, some t] h (by simp)
  refine run_exc (a := [some X, some t]) ?_ (nr_xP nt)
  show b_Progression_inside [some X, some t] h = _
  have e1 : b_Progression_inside_1 [some X, some t] h = .ok (.rse (xP t) [some X, some t]) h := by
    unfold b_Progression_inside_1
    rw [sIf_]
    have c : (bNot (bE (eCB (gIsiS 1 TAB XC) (aCons (eVar 1) (aCons (eC (.cl 0)) aNil))))) [some X, some t] h = .ok true h := by simp [it]
    rw [c, th_ok, if_pos rfl, r]
  unfold b_Progression_inside
  rw [sSeq_, e1]
theorem several_right {p a : Int} {t u : T} (nt : t.noRef = true) (nu : u.noRef = true) (sh : ∃ s : Str, ∀ h, gReprE ms_qreprq [t] h = .ok (.str s) h) (it : ∀ h, gIsiS 1 TAB XC [t, .cl 0] h = .ok (.bl false) h) (h : Hm) : m__law_several_right [Pr p a, t, u] h = .ok (.bl true) h := by
  obtain ⟨s, sr⟩ := sh
  obtain ⟨s0, r0⟩ : ∃ s : Str, ∀ h, gReprE ms_qreprq [.int 0] h = .ok (.str s) h := ⟨_, fun h => rfl⟩
  obtain ⟨s1, r1⟩ : ∃ s : Str, ∀ h, gReprE ms_qreprq [.int 1] h = .ok (.str s) h := ⟨_, fun h => rfl⟩
  obtain ⟨s3, r3⟩ : ∃ s : Str, ∀ h, gReprE ms_qreprq [.int 3] h = .ok (.str s) h := ⟨_, fun h => rfl⟩
  have isL : ∀ h, gIsiS 1 TAB XC [Pr p a, .cl 0] h = .ok (.bl true) h := fun h => isO _ h
  have q0 : ∀ x ∈ ([] : List T), ∀ h, gIsiS 1 TAB XC [x, .cl 0] h = .ok (.bl true) h := fun x hx => absurd hx List.not_mem_nil
  have q1 : ∀ x ∈ [Pr p a], ∀ h, gIsiS 1 TAB XC [x, .cl 0] h = .ok (.bl true) h := fun x hx => by simp at hx; subst hx; exact isL
  have q3 : ∀ x ∈ [Pr p a, Pr p a, Pr p a], ∀ h, gIsiS 1 TAB XC [x, .cl 0] h = .ok (.bl true) h := fun x hx => by simp at hx; subst hx; exact isL
  have nL : (Pr p a).noRef = true := rfl
  have i0 : (T.int 0).noRef = true := rfl
  have n1 : ∀ d e : Option T, T.noRefF (capt [1] [some (Pr p a), some t, some u, d, e]) = true := fun d e => by
    show (t.noRef && true) = true
    rw [nt]; rfl
  have n01 : ∀ d e : Option T, T.noRefF (capt [0, 1] [some (Pr p a), some t, some u, d, e]) = true := fun d e => by
    show ((Pr p a).noRef && (t.noRef && true)) = true
    rw [nt, nL]; rfl
  have n12 : ∀ d e : Option T, T.noRefF (capt [1, 2] [some (Pr p a), some t, some u, d, e]) = true := fun d e => by
    show (t.noRef && (u.noRef && true)) = true
    rw [nt, nu]; rfl
  have n012 : ∀ d e : Option T, T.noRefF (capt [0, 1, 2] [some (Pr p a), some t, some u, d, e]) = true := fun d e => by
    show ((Pr p a).noRef && (t.noRef && (u.noRef && true))) = true
    rw [nt, nu, nL]; rfl
  have c1 : ∀ d e h, eLamCall [1] (m__law_caught (eAct 0 5 l__law_several_right_1)) [some (Pr p a), some t, some u, d, e] h = .ok (.lst [.int 3, .str s0]) h := fun d e h => lam_exc 3 (by decide) i0 s0 r0 (n1 d e) (by
    show l__law_several_right_1 [none, some t, none, none, none] h = _
    exact common_bad it h [] [] q0)
  have c2 : ∀ d e h, eLamCall [0, 1] (m__law_caught (eAct 0 5 l__law_several_right_2)) [some (Pr p a), some t, some u, d, e] h = .ok (.lst [.int 3, .str s1]) h := fun d e h => lam_exc 3 (by decide) (t := .int 1) rfl s1 r1 (n01 d e) (by
    show l__law_several_right_2 [some (Pr p a), some t, none, none, none] h = _
    exact common_bad it h [Pr p a] [] q1)
  have c3 : ∀ d e h, eLamCall [0, 1, 2] (m__law_caught (eAct 0 5 l__law_several_right_3)) [some (Pr p a), some t, some u, d, e] h = .ok (.lst [.int 3, .str s0]) h := fun d e h => lam_exc 3 (by decide) i0 s0 r0 (n012 d e) (by
    show l__law_several_right_3 [some (Pr p a), some t, some u, none, none] h = _
    exact common_bad it h [] [Pr p a, u] q0)
  have c4 : ∀ d e h, eLamCall [0, 1, 2] (m__law_caught (eAct 0 5 l__law_several_right_4)) [some (Pr p a), some t, some u, d, e] h = .ok (.lst [.int 3, .str s3]) h := fun d e h => lam_exc 3 (by decide) (t := .int 3) rfl s3 r3 (n012 d e) (by
    show l__law_several_right_4 [some (Pr p a), some t, some u, none, none] h = _
    exact common_bad it h [Pr p a, Pr p a, Pr p a] [u] q3)
  have c5 : ∀ d e h, eLamCall [1, 2] (m__law_caught (eAct 0 5 l__law_several_right_5)) [some (Pr p a), some t, some u, d, e] h = .ok (.lst [.int 3, .str s0]) h := fun d e h => lam_exc 3 (by decide) i0 s0 r0 (n12 d e) (by
    show l__law_several_right_5 [none, some t, some u, none, none] h = _
    exact apart_bad it h [] [u] q0)
  have c6 : ∀ d e h, eLamCall [0, 1] (m__law_caught (eAct 0 5 l__law_several_right_6)) [some (Pr p a), some t, some u, d, e] h = .ok (.lst [.int 3, .str s1]) h := fun d e h => lam_exc 3 (by decide) (t := .int 1) rfl s1 r1 (n01 d e) (by
    show l__law_several_right_6 [some (Pr p a), some t, none, none, none] h = _
    exact apart_bad it h [Pr p a] [Pr p a] q1)
  have c7 : ∀ d e h, eLamCall [0, 1] (m__law_caught (eAct 0 5 l__law_several_right_7)) [some (Pr p a), some t, some u, d, e] h = .ok (.lst [.int 2, .str s]) h := fun d e h => lam_exc 2 (by decide) nt s sr (n01 d e) (by
    show l__law_several_right_7 [some (Pr p a), some t, none, none, none] h = _
    exact inside_bad nt it _ h)
  have c8 : ∀ d e h, eLamCall [0, 1] (m__law_caught (eAct 0 5 l__law_several_right_8)) [some (Pr p a), some t, some u, d, e] h = .ok (.lst [.int 2, .str s]) h := fun d e h => lam_exc 2 (by decide) nt s sr (n01 d e) (by
    show l__law_several_right_8 [some (Pr p a), some t, none, none, none] h = _
    exact inside_bad nt it _ h)
  have e1 : b__law_several_right_1 [some (Pr p a), some t, some u, none, none] h = .ok (.nx [some (Pr p a), some t, some u, some (.ref h.length), none]) (h ++ [some (.lst [.lst [.int 3, .str s0]])]) := by
    unfold b__law_several_right_1
    rw [sSet_, eLstM_, aCons_, c1, bind_ok', aNil_, bind_ok', bind_ok']
    simp
  have rv : ∀ h', (eVar 3) [some (Pr p a), some t, some u, some (.ref h.length), none] h' = .ok (.ref h.length) h' := fun h' => rfl
  have e2 := app_go (h := h) (L := [.lst [.int 3, .str s0]]) (rv _) (c2 (some (.ref h.length)) none _) (Nat.le_of_ble_eq_true rfl) rfl
  have e3 := app_go (h := h) (L := [.lst [.int 3, .str s0], .lst [.int 3, .str s1]]) (rv _) (c3 (some (.ref h.length)) none _) (Nat.le_of_ble_eq_true rfl) rfl
  have e4 := app_go (h := h) (L := [.lst [.int 3, .str s0], .lst [.int 3, .str s1], .lst [.int 3, .str s0]]) (rv _) (c4 (some (.ref h.length)) none _) (Nat.le_of_ble_eq_true rfl) rfl
  have e5 := app_go (h := h) (L := [.lst [.int 3, .str s0], .lst [.int 3, .str s1], .lst [.int 3, .str s0], .lst [.int 3, .str s3]]) (rv _) (c5 (some (.ref h.length)) none _) (Nat.le_of_ble_eq_true rfl) rfl
  have e6 := app_go (h := h) (L := [.lst [.int 3, .str s0], .lst [.int 3, .str s1], .lst [.int 3, .str s0], .lst [.int 3, .str s3], .lst [.int 3, .str s0]]) (rv _) (c6 (some (.ref h.length)) none _) (Nat.le_of_ble_eq_true rfl) rfl
  have e7 := frz_go 3 [some (Pr p a), some t, some u, some (.ref h.length), none] h [.lst [.int 3, .str s0], .lst [.int 3, .str s1], .lst [.int 3, .str s0], .lst [.int 3, .str s3], .lst [.int 3, .str s0], .lst [.int 3, .str s1]] rfl
  generalize hh : h ++ [none] = h2 at e7
  have el : ∀ (L : Option T), (eLc [4] (iVal (eLst (aCons (eC (.int 0)) (aCons (eC (.int 1)) (aCons (eC (.int 0)) (aCons (eC (.int 3)) (aCons (eC (.int 0)) (aCons (eC (.int 1)) aNil)))))))) (gNm 4) bYes b__law_several_right_7_e1) [some (Pr p a), some t, some u, L, none] h2 =
      .ok (.lst [.lst [.int 3, .str s0], .lst [.int 3, .str s1], .lst [.int 3, .str s0], .lst [.int 3, .str s3], .lst [.int 3, .str s0], .lst [.int 3, .str s1]]) h2 := fun L => by
    simp [wipeT, lcL_cons, b__law_several_right_7_e1, r0, r1, r3]
  have ne6 : opNeK 1 OW (.lst [.lst [.int 3, .str s0], .lst [.int 3, .str s1], .lst [.int 3, .str s0], .lst [.int 3, .str s3], .lst [.int 3, .str s0], .lst [.int 3, .str s1]]) (.lst [.lst [.int 3, .str s0], .lst [.int 3, .str s1], .lst [.int 3, .str s0], .lst [.int 3, .str s3], .lst [.int 3, .str s0], .lst [.int 3, .str s1]]) h2 = .ok (.bl false) h2 := by simp
  have ne2 : opNeK 1 OW (.lst [.int 2, .str s]) (.lst [.int 2, .str s]) h2 = .ok (.bl false) h2 := by simp
  have eq2 : opEqK 1 OW (.lst [.int 2, .str s]) (.lst [.int 2, .str s]) h2 = .ok (.bl true) h2 := by simp
  have e8 : b__law_several_right_7 [some (Pr p a), some t, some u, some (.lst [.lst [.int 3, .str s0], .lst [.int 3, .str s1], .lst [.int 3, .str s0], .lst [.int 3, .str s3], .lst [.int 3, .str s0], .lst [.int 3, .str s1]]), none] h2 = .ok (.nx [some (Pr p a), some t, some u, some (.lst [.lst [.int 3, .str s0], .lst [.int 3, .str s1], .lst [.int 3, .str s0], .lst [.int 3, .str s3], .lst [.int 3, .str s0], .lst [.int 3, .str s1]]), none]) h2 := by
    unfold b__law_several_right_7
    rw [sIf_, bE_, eOp_]
    simp only [eVar_, List.getElem?_cons_zero, List.getElem?_cons_succ, bind_ok', el, ne6, asB_, th_ok, sNext_]
    rfl
  have du : ∀ L h, (eLst (aCons (eC (.int 2)) (aCons (eCB (gReprE ms_qreprq) (aCons (eVar 1) aNil)) aNil))) [some (Pr p a), some t, some u, L, none] h = .ok (.lst [.int 2, .str s]) h := fun L h => by simp [sr]
  have e9 : ∀ L, b__law_several_right_8 [some (Pr p a), some t, some u, L, none] h2 = .ok (.nx [some (Pr p a), some t, some u, L, none]) h2 := fun L => by
    unfold b__law_several_right_8
    rw [sIf_, bE_, eOp_, c7, bind_ok', du, bind_ok', ne2]
    rfl
  have e10 : ∀ L, b__law_several_right_9 [some (Pr p a), some t, some u, L, none] h2 = .ok (.ret (.bl true)) h2 := fun L => by
    unfold b__law_several_right_9
    rw [sRet_, eOp_, c8, bind_ok', du, bind_ok', eq2]
    rfl
  have b : b__law_several_right [some (Pr p a), some t, some u, none, none] h = .ok (.ret (.bl true)) h2 := by
    unfold b__law_several_right
    exact (seq_nx e1).trans ((seq_nx e2).trans ((seq_nx e3).trans ((seq_nx e4).trans ((seq_nx e5).trans ((seq_nx e6).trans ((seq_nx e7).trans ((seq_nx e8).trans ((seq_nx (e9 _)).trans (e10 _)))))))))
  have r := run_ret (h := h) (ts := [Pr p a, t, u]) (n := 5) b rfl
  rw [← hh, List.take_left] at r
  exact r
end K07
set_option Elab.async false
set_option linter.all false
set_option maxRecDepth 100000
set_option maxHeartbeats 4000000
namespace K07
open PySem RT
/-! ### the values -/
theorem isi_g (x : T) (g : Tg) (k : T) (b : Tg) (r : Bool) (h : Hm) (e : tagOf h x = some g) (hl : g.lt 1 = true) (eb : asTg k = some b) (q : isLook TAB g b = some r) : gIsi 1 TAB [x, k] h = .ok (.bl r) h := by
  unfold gIsi
  dsimp only
  rw [e, eb]
  dsimp only
  rw [if_pos hl, q]
theorem tabI : isLook TAB (.ty "NoneType") (.ty "int") = some false ∧ isLook TAB (.ty "bool") (.ty "int") = some true ∧ isLook TAB (.ty "bool") (.ty "bool") = some true ∧ isLook TAB (.ty "str") (.ty "int") = some false ∧ isLook TAB (.ty "tuple") (.ty "int") = some false ∧ isLook TAB (.ty "list") (.ty "int") = some false ∧
    isLook TAB (.ty "dict") (.ty "int") = some false ∧ isLook TAB (.ty "slice") (.ty "int") = some false ∧ isLook TAB (.cl 0) (.ty "int") = some false ∧ isLook TAB (.ty "bool") (.cl 0) = some false := by decide +kernel
theorem od_int (i : Int) (f : fit i = true) : Od (.int i) where
  nr := rfl
  ii := fun h => isi_int 0 i h
  ib := fun _ h => isi_bool 0 i h
  ki := fun _ => .inl ⟨i, rfl⟩
  sh := ⟨nT i, fun h => by
    show (if decide (i.natAbs.log2 < 1920) then R.ok (T.str (nT i)) h else .bad) = _
    rw [if_pos (decide_eq_true (fit_log f))]⟩
theorem od_bl (b : Bool) : Od (.bl b) where
  nr := rfl
  ii := fun h => isi_g (.bl b) (.ty "bool") (.ty "int") _ true h rfl rfl rfl tabI.2.1
  ib := fun _ h => isi_g (.bl b) (.ty "bool") (.ty "bool") _ true h rfl rfl rfl tabI.2.2.1
  ki := fun _ => .inr ⟨b, rfl⟩
  sh := ⟨_, fun h => rfl⟩
theorem od_non : Od .non where
  nr := rfl
  ii := fun h => isi_g .non (.ty "NoneType") (.ty "int") _ false h rfl rfl rfl tabI.1
  ib := fun z => by cases z
  ki := fun z => by cases z
  sh := ⟨_, fun h => rfl⟩
theorem od_emp : Od .emp where
  nr := rfl
  ii := fun h => isi_g .emp (.ty "dict") (.ty "int") _ false h rfl rfl rfl tabI.2.2.2.2.2.2.1
  ib := fun z => by cases z
  ki := fun z => by cases z
  sh := ⟨_, fun h => rfl⟩
theorem sh_str (x : Str) (g : GoodS x) (hl : x.length ≤ 100000) (h : Hm) : gReprE ms_qreprq [.str x] h = .ok (.str (reprText x)) h := by
  have q := (shown_est (.str x) (by rw [GoodD]; exact g)).1
  rw [PyData.shown, est] at q
  show (if (reprText x).length ≤ sizeLine then R.ok (T.str (reprText x)) h else .bad) = _
  rw [if_pos (by rw [sizeLine_eq]; omega)]
theorem od_str (x : Str) (g : GoodS x) (hl : x.length ≤ 100000) : Od (.str x) where
  nr := rfl
  ii := fun h => isi_g (.str x) (.ty "str") (.ty "int") _ false h rfl rfl rfl tabI.2.2.2.1
  ib := fun z => by cases z
  ki := fun z => by cases z
  sh := ⟨_, fun h => sh_str x g hl h⟩
theorem od_tup (xs : List T) (nr : T.noRefs xs = true) (sh : ∃ s : Str, ∀ h, gReprE ms_qreprq [.tup xs] h = .ok (.str s) h) : Od (.tup xs) where
  nr := nr
  ii := fun h => isi_g (.tup xs) (.ty "tuple") (.ty "int") _ false h rfl rfl rfl tabI.2.2.2.2.1
  ib := fun z => by cases z
  ki := fun z => by cases z
  sh := sh
theorem od_lst (xs : List T) (nr : T.noRefs xs = true) (sh : ∃ s : Str, ∀ h, gReprE ms_qreprq [.lst xs] h = .ok (.str s) h) : Od (.lst xs) where
  nr := nr
  ii := fun h => isi_g (.lst xs) (.ty "list") (.ty "int") _ false h rfl rfl rfl tabI.2.2.2.2.2.1
  ib := fun z => by cases z
  ki := fun z => by cases z
  sh := sh
abbrev txS (step first : Int) : Str := nT first ++ Str.ofString " mod " ++ nT step
abbrev txR (step first : Int) : Str := Str.ofString "Progression(" ++ nT step ++ Str.ofString ", " ++ nT first ++ Str.ofString ")"
theorem l1 : (Str.ofString " mod ").length = 5 := by decide
theorem l2 : (Str.ofString "Progression(").length = 12 := by decide
theorem l3 : (Str.ofString ", ").length = 2 := by decide
theorem l4 : (Str.ofString ")").length = 1 := by decide
theorem reprP_ok (step first : Int) (h : Hm) (h1 : fit step = true) (h2 : fit first = true) : m_Progressionq_reprq [Pr step first] h = .ok (.str (txR step first)) h := by
  have a1 := int_len h1
  have a2 := int_len h2
  have b1 := fit_log h1
  have b2 := fit_log h2
  have c1 : (Str.ofString "Progression(").length ≤ 16777216 := by rw [l2]; omega
  have c2 : (Str.ofString "Progression(" ++ nT step).length ≤ 16777216 := by rw [len_app, l2]; omega
  have c3 : (Str.ofString "Progression(" ++ nT step ++ Str.ofString ", ").length ≤ 16777216 := by rw [len_app, len_app, l2, l3]; omega
  have c4 : (Str.ofString "Progression(" ++ nT step ++ Str.ofString ", " ++ nT first).length ≤ 16777216 := by rw [len_app, len_app, len_app, l2, l3]; omega
  have c5 : (Str.ofString "Progression(" ++ nT step ++ Str.ofString ", " ++ nT first ++ Str.ofString ")").length ≤ 16777216 := by rw [len_app, len_app, len_app, len_app, l2, l3, l4]; omega
  simp [m_Progressionq_reprq, b_Progressionq_reprq, lk_miss, b1, b2, c1, c2, c3, c4, c5]
theorem strP_ok (step first : Int) (h : Hm) (h1 : fit step = true) (h2 : fit first = true) : m_Progressionq_strq [Pr step first] h = .ok (.str (txS step first)) h := by
  have a1 := int_len h1
  have a2 := int_len h2
  have b1 := fit_log h1
  have b2 := fit_log h2
  have c1 : (nT first).length ≤ 16777216 := by omega
  have c2 : (nT first ++ Str.ofString " mod ").length ≤ 16777216 := by rw [len_app, l1]; omega
  have c3 : (nT first ++ Str.ofString " mod " ++ nT step).length ≤ 16777216 := by rw [len_app, len_app, l1]; omega
  simp [m_Progressionq_strq, b_Progressionq_strq, lk_miss, b1, b2, c1, c2, c3]
theorem dunR (step first : Int) (h : Hm) (h1 : fit step = true) (h2 : fit first = true) : dunS ms_qreprq (Pr step first) h = .ok (.str (txR step first)) h := by
  show (R.bind (m_Progressionq_reprq (arrS [(0, 0)] [] [Pr step first] []) h) asStr) = _
  simp [arrS, pick, ocn, reprP_ok step first h h1 h2]
theorem dunT (step first : Int) (h : Hm) (h1 : fit step = true) (h2 : fit first = true) : dunS ms_qstrq (Pr step first) h = .ok (.str (txS step first)) h := by
  show (R.bind (m_Progressionq_strq (arrS [(0, 0)] [] [Pr step first] []) h) asStr) = _
  simp [arrS, pick, ocn, strP_ok step first h h1 h2]
section
variable {p a : Int} (fp : fit p = true) (fa : fit a = true)
include fp fa
theorem lenR : (txR p a).length ≤ 4000 := by
  have b1 := int_len fp
  have b2 := int_len fa
  rw [len_app, len_app, len_app, len_app, l2, l3, l4]; omega
theorem lenS : (txS p a).length ≤ 4000 := by
  have b1 := int_len fp
  have b2 := int_len fa
  rw [len_app, len_app, l1]; omega
theorem sh_P : ∀ h, gReprE ms_qreprq [Pr p a] h = .ok (.str (txR p a)) h := fun h => dunR p a h fp fa
theorem od_P : Od (Pr p a) where
  nr := rfl
  ii := fun h => isi_g (Pr p a) (.cl 0) (.ty "int") _ false h rfl rfl rfl tabI.2.2.2.2.2.2.2.2.1
  ib := fun z => by cases z
  ki := fun z => by cases z
  sh := ⟨_, sh_P fp fa⟩
theorem sh_tP : ∃ s : Str, ∀ h, gReprE ms_qreprq [.tup [Pr p a]] h = .ok (.str s) h := by
  refine ⟨tupleText [txR p a], fun h => ?_⟩
  have l := lenR fp fa
  have e := tupleText_len_le [txR p a]
  have z : (tupleText [txR p a]).length ≤ sizeLine := by
    simp at e
    rw [sizeLine_eq]
    omega
  show (match dunS ms_qreprq (Pr p a) h with
    | .ok (.str t) h1 => if (tupleText [t]).length ≤ sizeLine then R.ok (T.str (tupleText [t])) h1 else .bad
    | _ => .bad) = _
  rw [dunR p a h fp fa]
  dsimp only
  rw [if_pos z]
theorem sh_lP : ∃ s : Str, ∀ h, gReprE ms_qreprq [.lst [Pr p a]] h = .ok (.str s) h := by
  refine ⟨listText [txR p a], fun h => ?_⟩
  have l := lenR fp fa
  have e := listText_len_le [txR p a]
  have z : (listText [txR p a]).length ≤ sizeLine := by
    simp at e
    rw [sizeLine_eq]
    omega
  have r : reprsT ms_qreprq [Pr p a] h = .ok [txR p a] h := by
    simp only [reprsT, dunR p a h fp fa]
  show gReprO ms_qreprq [.lst [Pr p a]] h = _
  rw [reprO_l, show T.toDh h (.lst [Pr p a]) = none from rfl]
  dsimp only
  rw [r]
  dsimp only
  rw [if_pos z]
theorem sh_pair : ∃ s : Str, ∀ h, gReprE ms_qreprq [.tup [.int a, .int p]] h = .ok (.str s) h := ⟨_, fun h => showD_ok (x := .tup [.int a, .int p]) (d := .tuple [.int a, .int p]) (by simp) (by simp only [GoodD, GoodDs]; exact ⟨fit_log fa, fit_log fp, trivial⟩) (by simp only [est, estAll]; omega) (by simp)⟩
theorem sh_tpair : ∃ s : Str, ∀ h, gReprE ms_qreprq [.tup [.tup [.int a, .int p]]] h = .ok (.str s) h := ⟨_, fun h => showD_ok (x := .tup [.tup [.int a, .int p]]) (d := .tuple [.tuple [.int a, .int p]]) (by simp) (by simp only [GoodD, GoodDs]; exact ⟨⟨fit_log fa, fit_log fp, trivial⟩, trivial⟩) (by simp only [est, estAll]; omega) (by simp)⟩
end
theorem sh_t0 : ∃ s : Str, ∀ h, gReprE ms_qreprq [.tup []] h = .ok (.str s) h := ⟨_, fun h => showD_ok (x := .tup []) (d := .tuple []) (by simp) (by simp only [GoodD, GoodDs]) (by simp only [est, estAll]; omega) (by simp)⟩
theorem sh_t1 : ∃ s : Str, ∀ h, gReprE ms_qreprq [.tup [.int 1]] h = .ok (.str s) h := ⟨_, fun h => showD_ok (x := .tup [.int 1]) (d := .tuple [.int 1]) (by simp) (by simp only [GoodD, GoodDs]; decide +kernel) (by simp only [est, estAll]; omega) (by simp)⟩
theorem sh_tl : ∃ s : Str, ∀ h, gReprE ms_qreprq [.tup [.lst []]] h = .ok (.str s) h := ⟨_, fun h => showD_ok (x := .tup [.lst []]) (d := .tuple [.list []]) (by simp) (by simp only [GoodD, GoodDs]; trivial) (by simp only [est, estAll]; omega) (by simp)⟩
theorem sh_l0 : ∃ s : Str, ∀ h, gReprE ms_qreprq [.lst []] h = .ok (.str s) h := ⟨_, fun h => showD_ok (x := .lst []) (d := .list []) (by simp) (by simp only [GoodD, GoodDs]) (by simp only [est, estAll]; omega) (by simp)⟩
theorem sh_l1 : ∃ s : Str, ∀ h, gReprE ms_qreprq [.lst [.int 1]] h = .ok (.str s) h := ⟨_, fun h => showD_ok (x := .lst [.int 1]) (d := .list [.int 1]) (by simp) (by simp only [GoodD, GoodDs]; decide +kernel) (by simp only [est, estAll]; omega) (by simp)⟩
theorem od_slc : Od (.slc 1 2) where
  nr := rfl
  ii := fun h => by
    show (match isLook TAB (.ty "slice") (.ty "int") with
      | some r => R.ok (T.bl r) h
      | none => .bad) = _
    rw [tabI.2.2.2.2.2.2.2.1]
    rfl
  ib := fun z => by cases z
  ki := fun z => by cases z
  sh := ⟨slcText 1 2, fun h => by
    show (if decide ((1 : Int).natAbs.log2 < 1920) && (decide ((2 : Int).natAbs.log2 < 1920) && decide ((slcText 1 2).length ≤ 1000)) then R.ok (T.str (slcText 1 2)) h else .bad) = _
    rw [if_pos (by decide +kernel)]⟩
theorem slc_text : slcText 1 2 = ("slice(1, 2, None)" : Str) := by decide +kernel
theorem zero_text : nT 0 = ("0" : Str) := by decide +kernel
end K07
set_option Elab.async false
set_option linter.all false
set_option maxRecDepth 100000
set_option maxHeartbeats 4000000
namespace K07
open PySem RT
/-! ### one cell -/
theorem pick_ix {xs : List T} {r : Int} (h1 : 0 ≤ r) (h2 : r < xs.length) (h : Hm) : ∃ t ∈ xs, opIxK ms_qgetitemq (.lst xs) (.int r) h = .ok t h := by
  obtain ⟨k, rfl⟩ : ∃ k : Nat, r = k := ⟨r.toNat, by omega⟩
  have hk : k < xs.length := by omega
  exact ⟨xs[k], List.getElem_mem hk, ixR_nat (by simp [hk]) h⟩
theorem made_loop (A B C D E F G : Option T) (h : Hm) : ∀ (ps : List (T × T)) (x y : Option T), (∀ q ∈ ps, Od q.1 ∧ Od q.2) →
    ∃ x' y', forL (gTp 2 (gsCons (gNm 6) (gsCons (gNm 7) gsNil))) b__law_right_5b (ps.map fun q => T.tup [q.1, q.2]) [A, B, C, D, E, F, x, y, G] h = .ok (.nx [A, B, C, D, E, F, x', y', G]) h
  | [], x, y, _ => ⟨x, y, rfl⟩
  | q :: ps, x, y, o => by
    obtain ⟨O1, O2⟩ := o q (by simp)
    obtain ⟨x', y', e⟩ := made_loop A B C D E F G h ps (some q.1) (some q.2) fun r hr => o r (by simp [hr])
    have m := made_right O1 O2 h
    refine ⟨x', y', ?_⟩
    rw [List.map_cons, forL_nx (a1 := [A, B, C, D, E, F, some q.1, some q.2, G]) (h1 := h) (a2 := [A, B, C, D, E, F, some q.1, some q.2, G]) (h2 := h) rfl (by simp [b__law_right_5b, arrS, pick, ocn, m])]
    exact e
theorem asked_all {p a : Int} (hp : 0 < p) (hp2 : p ≤ 10 ^ 60) (st : StT) (hl : st.length = 9) (e2 : st[2]? = some (some (Pr p a))) (h : Hm) : ∀ ts : List T, (∀ t ∈ ts, Od t ∧ ∀ v, t = .int v → v ≤ 10 ^ 60) → lcL (gNm 8) bYes b__law_right_6_e1 st ts h = .ok (List.replicate ts.length (.bl true)) h
  | [], _ => rfl
  | t :: ts, o => by
    obtain ⟨O, hv⟩ := o t (by simp)
    have r := asked_all hp hp2 st hl e2 h ts fun u hu => o u (by simp [hu])
    have m := asked_right (a := a) hp hp2 O hv h
    have s2 : (st.set 8 (some t))[2]? = some (some (Pr p a)) := by rw [List.getElem?_set_ne (by decide)]; exact e2
    have s8 : (st.set 8 (some t))[8]? = some (some t) := List.getElem?_set_self (by omega)
    exact lcL_yes (a1 := st.set 8 (some t)) (h1 := h) (h3 := h) rfl (by simp [b__law_right_6_e1, arrS, pick, ocn, s2, s8, m]) r
/-- what is drawn -/
def odds (p a : Int) : List T := [.non, .bl true, .bl false, .int (-1), .str "", .str "1", .tup [], .tup [.int 1], .lst [.int 1], .emp, .int (0 - 10 ^ 60), Pr p a, .tup [.lst []]]
def odds2 (p a : Int) (s r : Str) : List T := [.non, .int 0, .bl true, .str "", .tup [], .tup [.int a, .int p], .lst [Pr p a], .tup [Pr p a], .emp, .str s, .str r, .int (-1), .lst [], .tup [.tup [.int a, .int p]]]
theorem odds_ok {p a : Int} (fp : fit p = true) (fa : fit a = true) : ∀ t ∈ odds p a, Od t ∧ ∀ v, t = .int v → v ≤ 10 ^ 60 := by
  have nb : (0 : Int) - 10 ^ 60 ≤ 10 ^ 60 := by decide +kernel
  intro t ht
  simp only [odds, List.mem_cons, List.not_mem_nil, or_false] at ht
  rcases ht with rfl | rfl | rfl | rfl | rfl | rfl | rfl | rfl | rfl | rfl | rfl | rfl | rfl
  · exact ⟨od_non, fun v z => by cases z⟩
  · exact ⟨od_bl _, fun v z => by cases z⟩
  · exact ⟨od_bl _, fun v z => by cases z⟩
  · exact ⟨od_int _ (by decide +kernel), fun v z => by cases z; decide +kernel⟩
  · exact ⟨od_str _ (good_of _) (by decide), fun v z => by cases z⟩
  · exact ⟨od_str _ (good_of _) (by decide), fun v z => by cases z⟩
  · exact ⟨od_tup _ rfl sh_t0, fun v z => by cases z⟩
  · exact ⟨od_tup _ rfl sh_t1, fun v z => by cases z⟩
  · exact ⟨od_lst _ rfl sh_l1, fun v z => by cases z⟩
  · exact ⟨od_emp, fun v z => by cases z⟩
  · exact ⟨od_int _ (by decide +kernel), fun v z => by
      have e : (0 : Int) - 10 ^ 60 = v := T.int.inj z
      rw [← e]; exact nb⟩
  · exact ⟨od_P fp fa, fun v z => by cases z⟩
  · exact ⟨od_tup _ rfl sh_tl, fun v z => by cases z⟩
/-- no progression -/
structure Nt (t : T) : Prop where
  nr : t.noRef = true
  sh : ∃ s : Str, ∀ h, gReprE ms_qreprq [t] h = .ok (.str s) h
  it : ∀ h, gIsiS 1 TAB XC [t, .cl 0] h = .ok (.bl false) h
theorem odds2_ok {p a : Int} (fp : fit p = true) (fa : fit a = true) : ∀ t ∈ odds2 p a (txS p a) (txR p a), Nt t := by
  have gS : GoodS (txS p a) := good_app (good_app (good_nT _) (good_of _)) (good_nT _)
  have gR : GoodS (txR p a) := good_app (good_app (good_app (good_app (good_of _) (good_nT _)) (good_of _)) (good_nT _)) (good_of _)
  have lS := lenS fp fa
  have lR := lenR fp fa
  intro t ht
  simp only [odds2, List.mem_cons, List.not_mem_nil, or_false] at ht
  rcases ht with rfl | rfl | rfl | rfl | rfl | rfl | rfl | rfl | rfl | rfl | rfl | rfl | rfl | rfl
  · exact ⟨rfl, od_non.sh, isN⟩
  · exact ⟨rfl, (od_int 0 (by decide +kernel)).sh, isI 0⟩
  · exact ⟨rfl, (od_bl true).sh, fun h => isi_g (.bl true) (.ty "bool") (.cl 0) _ false h rfl rfl rfl tabI.2.2.2.2.2.2.2.2.2⟩
  · exact ⟨rfl, (od_str _ (good_of _) (by decide)).sh, isS _⟩
  · exact ⟨rfl, sh_t0, isT _⟩
  · exact ⟨rfl, sh_pair fp fa, isT _⟩
  · exact ⟨rfl, sh_lP fp fa, isL _⟩
  · exact ⟨rfl, sh_tP fp fa, isT _⟩
  · exact ⟨rfl, od_emp.sh, isE⟩
  · exact ⟨rfl, ⟨_, sh_str _ gS (by omega)⟩, isS _⟩
  · exact ⟨rfl, ⟨_, sh_str _ gR (by omega)⟩, isS _⟩
  · exact ⟨rfl, (od_int (-1) (by decide +kernel)).sh, isI _⟩
  · exact ⟨rfl, sh_l0, isL _⟩
  · exact ⟨rfl, sh_tpair fp fa, isT _⟩
theorem right_ok : RightOk := by
  intro l h P
  have L60 := limt60
  obtain ⟨a, p, c1, e1, P1, a0, ap, pb⟩ := pair_ok P (by omega)
  have fp : fit p = true := limt (by omega) (by omega)
  have fa : fit a = true := limt (by omega) (by omega)
  obtain ⟨r1, c2, d1, P2, u1, u2⟩ := draw_ok P1 (by omega) 13 (by decide) (by decide +kernel)
  rw [List.set_set] at d1 P2
  obtain ⟨r2, c3, d2, P3, v1, v2⟩ := draw_ok P2 (by omega) 13 (by decide) (by decide +kernel)
  rw [List.set_set] at d2 P3
  obtain ⟨r3, c4, d3, P4, w1, w2⟩ := draw_ok P3 (by omega) 14 (by decide) (by decide +kernel)
  rw [List.set_set] at d3 P4
  obtain ⟨r4, c5, d4, P5, x1, x2⟩ := draw_ok P4 (by omega) 14 (by decide) (by decide +kernel)
  rw [List.set_set] at d4 P5
  obtain ⟨t, ht, q1⟩ := pick_ix (xs := odds p a) u1 u2 (h.set l c2)
  obtain ⟨u, hu, q2⟩ := pick_ix (xs := odds p a) v1 v2 (h.set l c3)
  obtain ⟨t2, ht2, q3⟩ := pick_ix (xs := odds2 p a (txS p a) (txR p a)) w1 w2 (h.set l c4)
  obtain ⟨u2, hu2, q4⟩ := pick_ix (xs := odds2 p a (txS p a) (txR p a)) x1 x2 (h.set l c5)
  obtain ⟨Ot, bt⟩ := odds_ok fp fa t ht
  obtain ⟨Ou, bu⟩ := odds_ok fp fa u hu
  have N1 := odds2_ok fp fa t2 ht2
  have N2 := odds2_ok fp fa u2 hu2
  have Oi : ∀ i : Int, -10 ≤ i → i ≤ 10 ^ 60 → Od (.int i) := fun i h1 h2 => by
    by_cases c : 0 ≤ i
    · exact od_int i (limt c (by omega))
    · have : i = -1 ∨ i = -2 ∨ i = -3 ∨ i = -4 ∨ i = -5 ∨ i = -6 ∨ i = -7 ∨ i = -8 ∨ i = -9 ∨ i = -10 := by omega
      rcases this with e | e | e | e | e | e | e | e | e | e <;> subst e <;> exact od_int _ (by decide +kernel)
  have one : (1 : Int) ≤ 10 ^ 60 := by decide +kernel
  have s1 : b__law_right_1 [some (.ref l), none, none, none, none, none, none, none, none] h = .ok (.nx [some (.ref l), some (.tup [.int a, .int p]), none, none, none, none, none, none, none]) (h.set l c1) := by
    simp [b__law_right_1, arrS, pick, ocn, e1]
  have mk := mk2 p a (h.set l c1) (by omega) a0 (by omega)
  have i0 : ∀ h, ixR [.int a, .int p] 0 h = .ok (.int a) h := fun h => rfl
  have i1 : ∀ h, ixR [.int a, .int p] 1 h = .ok (.int p) h := fun h => rfl
  have s2 : b__law_right_2 [some (.ref l), some (.tup [.int a, .int p]), none, none, none, none, none, none, none] (h.set l c1) = .ok (.nx [some (.ref l), some (.tup [.int a, .int p]), some (Pr p a), some (.lst [.non, .bl true, .bl false, .int (-1), .str "", .str "1", .tup [], .tup [.int 1], .lst [.int 1], .emp, .int (0 - 10 ^ 60)]), none, none, none, none, none]) (h.set l c1) := by
    simp [b__law_right_2, i0, i1, mk]
  have s3 : b__law_right_3 [some (.ref l), some (.tup [.int a, .int p]), some (Pr p a), some (.lst [.non, .bl true, .bl false, .int (-1), .str "", .str "1", .tup [], .tup [.int 1], .lst [.int 1], .emp, .int (0 - 10 ^ 60)]), none, none, none, none, none] (h.set l c1) = .ok (.nx [some (.ref l), some (.tup [.int a, .int p]), some (Pr p a), some (.lst (odds p a)), none, none, none, none, none]) (h.set l c1) := by
    simp [b__law_right_3, odds]
  have s4 : b__law_right_4 [some (.ref l), some (.tup [.int a, .int p]), some (Pr p a), some (.lst (odds p a)), none, none, none, none, none] (h.set l c1) = .ok (.nx [some (.ref l), some (.tup [.int a, .int p]), some (Pr p a), some (.lst (odds p a)), some t, some u, none, none, none]) (h.set l c3) := by
    simp [-RT.ixK_l, b__law_right_4, arrS, pick, ocn, d1, q1, d2, q2]
  obtain ⟨x', y', e5⟩ := made_loop (some (.ref l)) (some (.tup [.int a, .int p])) (some (Pr p a)) (some (.lst (odds p a))) (some t) (some u) none (h.set l c3) [(.int p, t), (t, .int a), (t, u), (.int 0, .int 0), (.int p, .int p), (.int p, .int a), (.int 1, .bl true)] none none (fun q hq => by
    have Op := Oi p (by omega) pb
    have Oa := Oi a (by omega) (by omega)
    have O0 := Oi 0 (by omega) (by omega)
    have O1 := Oi 1 (by omega) one
    simp only [List.mem_cons, List.not_mem_nil, or_false] at hq
    rcases hq with rfl | rfl | rfl | rfl | rfl | rfl | rfl
    · exact ⟨Op, Ot⟩
    · exact ⟨Ot, Oa⟩
    · exact ⟨Ot, Ou⟩
    · exact ⟨O0, O0⟩
    · exact ⟨Op, Op⟩
    · exact ⟨Op, Oa⟩
    · exact ⟨O1, od_bl _⟩)
  have s5 : b__law_right_5 [some (.ref l), some (.tup [.int a, .int p]), some (Pr p a), some (.lst (odds p a)), some t, some u, none, none, none] (h.set l c3) = .ok (.nx [some (.ref l), some (.tup [.int a, .int p]), some (Pr p a), some (.lst (odds p a)), some t, some u, x', y', none]) (h.set l c3) := by
    unfold b__law_right_5
    rw [sFor_]
    have it : (iVal (eLst (aCons (eTup (aCons (eOp (opIxK ms_qgetitemq) (eVar 1) (eC (.int 1))) (aCons (eVar 4) aNil))) (aCons (eTup (aCons (eVar 4) (aCons (eOp (opIxK ms_qgetitemq) (eVar 1) (eC (.int 0))) aNil))) (aCons (eTup (aCons (eVar 4) (aCons (eVar 5) aNil))) (aCons (eTup (aCons (eC (.int 0)) (aCons (eC (.int 0)) aNil))) (aCons (eTup (aCons (eOp (opIxK ms_qgetitemq) (eVar 1) (eC (.int 1))) (aCons (eOp (opIxK ms_qgetitemq) (eVar 1) (eC (.int 1))) aNil))) (aCons (eRevT (eVar 1)) (aCons (eTup (aCons (eC (.int 1)) (aCons (eC (.bl true)) aNil))) aNil))))))))) [some (.ref l), some (.tup [.int a, .int p]), some (Pr p a), some (.lst (odds p a)), some t, some u, none, none, none] (h.set l c3) =
        .ok ([(.int p, t), (t, .int a), (t, u), (.int 0, .int 0), (.int p, .int p), (.int p, .int a), (.int 1, .bl true)].map fun q : T × T => T.tup [q.1, q.2]) (h.set l c3) := by
      simp [i0, i1]
    rw [it, th_ok]
    exact e5
  have s6 : b__law_right_6 [some (.ref l), some (.tup [.int a, .int p]), some (Pr p a), some (.lst (odds p a)), some t, some u, x', y', none] (h.set l c3) = .ok (.nx [some (.ref l), some (.tup [.int a, .int p]), some (Pr p a), some (.lst (odds p a)), some t, some u, x', y', none]) (h.set l c3) := by
    have as := asked_all (p := p) (a := a) (by omega) pb (wipeT [some (.ref l), some (.tup [.int a, .int p]), some (Pr p a), some (.lst (odds p a)), some t, some u, x', y', none] [8]) rfl rfl (h.set l c3) [.int 0, t, .int 1, .bl true, .int 0, .bl false, u, .int a] (fun z hz => by
      simp only [List.mem_cons, List.not_mem_nil, or_false] at hz
      rcases hz with rfl | rfl | rfl | rfl | rfl | rfl | rfl | rfl
      · exact ⟨Oi 0 (by omega) (by omega), fun v z => by cases z; omega⟩
      · exact ⟨Ot, bt⟩
      · exact ⟨Oi 1 (by omega) one, fun v z => by cases z; exact one⟩
      · exact ⟨od_bl _, fun v z => by cases z⟩
      · exact ⟨Oi 0 (by omega) (by omega), fun v z => by cases z; omega⟩
      · exact ⟨od_bl _, fun v z => by cases z⟩
      · exact ⟨Ou, bu⟩
      · exact ⟨Oi a (by omega) (by omega), fun v z => by cases z; omega⟩)
    unfold b__law_right_6
    rw [sIf_, bNot_, bE_, eCB_, aCons_, eLc_]
    have it : (iVal (eLst (aCons (eC (.int 0)) (aCons (eVar 4) (aCons (eC (.int 1)) (aCons (eC (.bl true)) (aCons (eC (.int 0)) (aCons (eC (.bl false)) (aCons (eVar 5) (aCons (eOp (opIxK ms_qgetitemq) (eVar 1) (eC (.int 0))) aNil)))))))))) [some (.ref l), some (.tup [.int a, .int p]), some (Pr p a), some (.lst (odds p a)), some t, some u, x', y', none] (h.set l c3) = .ok [.int 0, t, .int 1, .bl true, .int 0, .bl false, u, .int a] (h.set l c3) := by
      simp [i0]
    rw [it, bind_ok', if_pos (by simp), as, bind_ok', bind_ok', aNil_, bind_ok', bind_ok', gAll_l, allB_rep, allR_s, bind_ok', asB_, bind_ok', th_ok]
    rfl
  have s7 : b__law_right_7 [some (.ref l), some (.tup [.int a, .int p]), some (Pr p a), some (.lst (odds p a)), some t, some u, x', y', none] (h.set l c3) = .ok (.nx [some (.ref l), some (.tup [.int a, .int p]), some (Pr p a), some (.lst (odds2 p a (txS p a) (txR p a))), some t, some u, x', y', none]) (h.set l c3) := by
    have r := sh_P fp fa
    have s : ∀ h, gStr ms_qstrq [Pr p a] h = .ok (.str (txS p a)) h := fun h => dunT p a h fp fa
    simp [b__law_right_7, r, s, odds2]
  have sv : m__law_several_right [Pr p a, t2, u2] (h.set l c5) = .ok (.bl true) (h.set l c5) := several_right N1.nr N2.nr N1.sh N1.it _
  have s8 : b__law_right_8 [some (.ref l), some (.tup [.int a, .int p]), some (Pr p a), some (.lst (odds2 p a (txS p a) (txR p a))), some t, some u, x', y', none] (h.set l c3) = .ok (.ret (.bl true)) (h.set l c5) := by
    simp [-RT.ixK_l, b__law_right_8, arrS, pick, ocn, d3, q3, d4, q4, sv]
  have b : b__law_right [some (.ref l), none, none, none, none, none, none, none, none] h = .ok (.ret (.bl true)) (h.set l c5) := by
    unfold b__law_right
    exact (seq_nx s1).trans ((seq_nx s2).trans ((seq_nx s3).trans ((seq_nx s4).trans ((seq_nx s5).trans ((seq_nx s6).trans ((seq_nx s7).trans s8))))))
  exact ⟨_, run_ret (h := h) (ts := [T.ref l]) (n := 9) b rfl⟩
end K07
set_option Elab.async false
set_option linter.all false
set_option maxRecDepth 100000
set_option maxHeartbeats 4000000
namespace K07
open PySem RT
/-! ### the law -/
theorem some_loop (A B G : Option T) (h : Hm) : ∀ (ps : List (T × T)) (x y : Option T), (∀ q ∈ ps, Od q.1 ∧ Od q.2) →
    ∃ x' y', forL (gTp 2 (gsCons (gNm 2) (gsCons (gNm 3) gsNil))) b_law_2b (ps.map fun q => T.tup [q.1, q.2]) [A, B, x, y, G] h = .ok (.nx [A, B, x', y', G]) h
  | [], x, y, _ => ⟨x, y, rfl⟩
  | q :: ps, x, y, o => by
    obtain ⟨O1, O2⟩ := o q (by simp)
    obtain ⟨x', y', e⟩ := some_loop A B G h ps (some q.1) (some q.2) fun r hr => o r (by simp [hr])
    have m := made_right O1 O2 h
    refine ⟨x', y', ?_⟩
    rw [List.map_cons, forL_nx (a1 := [A, B, some q.1, some q.2, G]) (h1 := h) (a2 := [A, B, some q.1, some q.2, G]) (h2 := h) rfl (by simp [b_law_2b, arrS, pick, ocn, m])]
    exact e
def some_ : List (T × T) := [(.int 6, .int 6), (.int 6, .int 5), (.int 6, .int (-1)), (.int 0, .int 0), (.int (-1), .int 0), (.bl true, .int 0), (.int 1, .bl false), (.int 1, .int 0), (.int 2, .bl true), (.int 2, .int 1), (.lst [], .non)]
theorem some_ok : ∀ q ∈ some_, Od q.1 ∧ Od q.2 := by
  have i : ∀ i : Int, fit i = true → Od (.int i) := od_int
  intro q hq
  simp only [some_, List.mem_cons, List.not_mem_nil, or_false] at hq
  rcases hq with rfl | rfl | rfl | rfl | rfl | rfl | rfl | rfl | rfl | rfl | rfl
  · exact ⟨i _ (by decide +kernel), i _ (by decide +kernel)⟩
  · exact ⟨i _ (by decide +kernel), i _ (by decide +kernel)⟩
  · exact ⟨i _ (by decide +kernel), i _ (by decide +kernel)⟩
  · exact ⟨i _ (by decide +kernel), i _ (by decide +kernel)⟩
  · exact ⟨i _ (by decide +kernel), i _ (by decide +kernel)⟩
  · exact ⟨od_bl _, i _ (by decide +kernel)⟩
  · exact ⟨i _ (by decide +kernel), od_bl _⟩
  · exact ⟨i _ (by decide +kernel), i _ (by decide +kernel)⟩
  · exact ⟨i _ (by decide +kernel), od_bl _⟩
  · exact ⟨i _ (by decide +kernel), i _ (by decide +kernel)⟩
  · exact ⟨od_lst [] rfl sh_l0, od_non⟩
theorem law_true (ns : List Int) (hl : ns.length ≤ 63) (hb : ∀ z ∈ ns, Builtin.Int.intBits z ≤ 1048576) : ∃ hE, m_law [.lst (ns.map T.int)] [] = .ok (.bl true) hE := by
  have O0 := od_int 0 (by decide +kernel)
  have O1 := od_int 1 (by decide +kernel)
  have nr : ∀ st : StT, T.noRefF (capt [] st) = true := fun st => rfl
  have s1 : b_law_1 [some (.lst (ns.map T.int)), none, none, none, none] [] = .ok (.nx [some (.lst (ns.map T.int)), some (.lst (some_.map fun q => T.tup [q.1, q.2])), none, none, none]) [] := by
    simp [b_law_1, some_]
  obtain ⟨x', y', e2⟩ := some_loop (some (.lst (ns.map T.int))) (some (.lst (some_.map fun q => T.tup [q.1, q.2]))) none [] some_ none none some_ok
  have s2 : b_law_2 [some (.lst (ns.map T.int)), some (.lst (some_.map fun q => T.tup [q.1, q.2])), none, none, none] [] = .ok (.nx [some (.lst (ns.map T.int)), some (.lst (some_.map fun q => T.tup [q.1, q.2])), x', y', none]) [] := by
    unfold b_law_2
    rw [sFor_, iVal_, eVar_]
    show R.th (itemsF (.lst (some_.map fun q => T.tup [q.1, q.2])) []) _ _ = _
    rw [itemsF_lst, th_ok]
    exact e2
  have c1 : ∀ st h, eLamCall [] (m__law_caught (eAct 0 5 l_law_1)) st h = .ok (.lst [.int 1, .str "0"]) h := fun st h => by
    have sh : ∀ h, gReprE ms_qreprq [.int 0] h = .ok (.str "0") h := fun h => by rw [← zero_text]; rfl
    refine lam_exc 1 (by decide) O0.nr "0" sh (nr st) ?_
    show l_law_1 [none, none, none, none, none] h = _
    have z : mkO 0 m_Progressionq_initq (arrS [(0, 0), (0, 1), (2, 0)] [.int 0]) [.int 0] [] h = .exc (xS (.int 0)) h := mk_exc (init_S O0 rfl (.int 0) _ _) (nr_xS rfl)
    simp [l_law_1, z, xS, fieldOf]
  have c2 : ∀ st h, eLamCall [] (m__law_caught (eAct 0 5 l_law_2)) st h = .ok (.lst [.int 0, .str "slice(1, 2, None)"]) h := fun st h => by
    have sh : ∀ h, gReprE ms_qreprq [.slc 1 2] h = .ok (.str "slice(1, 2, None)") h := fun h => by
      show (if decide ((1 : Int).natAbs.log2 < 1920) && (decide ((2 : Int).natAbs.log2 < 1920) && decide ((slcText 1 2).length ≤ 1000)) then R.ok (T.str (slcText 1 2)) h else .bad) = _
      rw [if_pos (by decide +kernel), slc_text]
    refine lam_exc 0 (by decide) od_slc.nr _ sh (nr st) ?_
    show l_law_2 [none, none, none, none, none] h = _
    have m := mk2 6 2 h (by decide) (by decide) (by decide)
    have g := getitem_exc od_slc rfl (Pr 6 2) h
    have d : opIxS ms_qgetitemq (Pr 6 2) (.slc 1 2) h = .exc (xN (.slc 1 2)) h := g
    unfold l_law_2
    rw [eOp_]
    have a : (eCall 2 (mkO 0 m_Progressionq_initq (arrS [(0, 0), (0, 1), (0, 2)] [(.int 0)])) (aCons (eC (.int 6)) (aCons (eC (.int 2)) aNil))) [none, none, none, none, none] h = .ok (Pr 6 2) h := by simp [m]
    have b : eSlc (eC (.int 1)) (eC (.int 2)) [none, none, none, none, none] h = .ok (.slc 1 2) h := rfl
    rw [a, bind_ok', b, bind_ok', d]
    rfl
  have c3 : ∀ st h, eLamCall [] (m__law_caught (eAct 0 5 l_law_3)) st h = .ok (.lst []) h := fun st h => by
    refine lam_ret (t := Pr 1 0) (nr st) ?_
    show l_law_3 [none, none, none, none, none] h = _
    have m := mk1 1 h (by decide)
    simp [l_law_3, m]
  have s3 : ∀ st h, b_law_3 st h = .ok (.nx st) h := fun st h => by
    unfold b_law_3
    rw [sIf_, bE_, eOp_, c1, bind_ok']
    simp
  have s4 : ∀ st h, b_law_4 st h = .ok (.nx st) h := fun st h => by
    unfold b_law_4
    rw [sIf_, bE_, eOp_, c2, bind_ok']
    simp
  have s5 : ∀ st h, b_law_5 st h = .ok (.nx st) h := fun st h => by
    unfold b_law_5
    rw [sIf_, bE_, eOp_, c3, bind_ok']
    have ne : opNeE (opNeK 1 OW) (.lst []) (.lst []) h = .ok (.bl false) h := rfl
    simp [ne]
  obtain ⟨h', e6⟩ := last_ok right_ok ns [some (.lst (ns.map T.int)), some (.lst (some_.map fun q => T.tup [q.1, q.2])), x', y', none] 4 (by simp) (by decide) rfl []
  have b : b_law [some (.lst (ns.map T.int)), none, none, none, none] [] = .ok (.ret (.bl true)) h' := by
    unfold b_law
    exact (seq_nx s1).trans ((seq_nx s2).trans ((seq_nx (s3 _ _)).trans ((seq_nx (s4 _ _)).trans ((seq_nx (s5 _ _)).trans e6))))
  exact ⟨_, run_ret (h := []) (ts := [T.lst (ns.map T.int)]) (n := 5) b rfl⟩
end K07
open PySem PySem.W PySem.Calls PyProof.Rows
theorem PySem.Challenge.cw_robintrees_k07_progressions_refused_holds : PySem.Challenge.rw_robintrees_k07_progressions_refused.Holds := by
  w_on; o_law
  refine HandSHeadRun.head_any (r := OpenLaw.row PySem.Challenge.rw_robintrees_k07_progressions_refused) (q := view (OpenLaw.row PySem.Challenge.rw_robintrees_k07_progressions_refused).prog [52]) (H := K07.hk) (ob := K07.ob) (M := 20000) (loose := (("RobinError" : Str) :: ("InvalidNumber" : Str) :: ("InvalidStep" : Str) :: ("InvalidProgression" : Str) :: ("InvalidProgressions" : Str) :: ("InvalidName" : Str) :: ("InvalidArity" : Str) :: ("InvalidTargets" : Str) :: ("InvalidText" : Str) :: ("InvalidTree" : Str) :: ("InvalidTable" : Str) :: ("InvalidSetting" : Str) :: ("InvalidSightings" : Str) :: ("InvalidDeed" : Str) :: ("InvalidDeeds" : Str) :: ("SearchError" : Str) :: ("UnknownName" : Str) :: ("NameTaken" : Str) :: ("NotFull" : Str) :: ("Unexplained" : Str) :: ("LastServer" : Str) :: ("NothingToUndo" : Str) :: ("SizeError" : Str) :: ("TooManyNames" : Str) :: ("TooDeep" : Str) :: ("TooLong" : Str) :: ("TooManyRequests" : Str) :: ("is_integer" : Str) :: ("is_between" : Str) :: ("check_number" : Str) :: ("gcd" : Str) :: ("inverse" : Str) :: ("meet" : Str) :: ("Progression" : Str) :: ("made" : Str) :: ("check_progressions" : Str) :: ("common" : Str) :: ("apart" : Str) :: ("_law_cell" : Str) :: ("_law_pool" : Str) :: ("_law_draw" : Str) :: ("_law_pair" : Str) :: ("_law_kind" : Str) :: ("_law_whole" : Str) :: ("_law_caught" : Str) :: ("_law_made_right" : Str) :: ("_law_asked_right" : Str) :: ("_law_several_right" : Str) :: ("_law_right" : Str) :: ([] : List Str))) (d := HandSHeadRun.topDef (OpenLaw.row PySem.Challenge.rw_robintrees_k07_progressions_refused).prog 52) (kwd := []) K07.ob_eq
    (by kernel_rfl) (fun s => by kernel_rfl) K07.head (by kernel_rfl) (by kernel_rfl) (by kernel_rfl) (by rfl) (by first | assumption | decide +kernel) (by decide +kernel) ⟨rfl, rfl, rfl, rfl, rfl, by decide +kernel⟩ ?hw ?hc
  case hw => w_witness2
  case hc =>
    refine RT.walk_goT (l := PySem.Challenge.rw_robintrees_k07_progressions_refused) (n := 63) (k := 104) (x := "_law_script") (g := K07.m_law) rfl (by decide) (by kernel_rfl) ⟨rfl, by decide, by decide⟩ rfl ?F K07.law_true
    intro w mg fa h Y G hmg0
    obtain ⟨K, KX, sx⟩ := Y
    have q := RT.saysRT sx
    have hmg : mg ("law" : PySem.Str) = some (.ref fa) := by
      have e : (HandSHeadRun.topDef (OpenLaw.row PySem.Challenge.rw_robintrees_k07_progressions_refused).prog 52).name = ("law" : PySem.Str) := by kernel_rfl
      rw [← e]
      exact hmg0
    have e := hmg.symm.trans (He.glo_ok KX G (K07.at_q q 139))
    cases e
    obtain ⟨fd, F⟩ := q.def_ 35 (d := K07.d_law) rfl
    have b := L2.FunD.bindsA (ps := ["_law_script"]) F fun _ _ _ _ _ _ us hl => match us, hl with | [_], _ => rfl
    have inT : ∀ p ∈ K07.TF, p.1 ∈ K07.TFN := by decide
    refine ⟨(K07.S0q q).md none none, fd, K07.TF.map (fun p => He.cT K p.1), fun p hp => ?_, rfl, KX, fun p hp => ?_, fun p hp => ?_, fun p hp => ?_, fun s v => b s [v] rfl, fun b hb hG htb => ?_⟩
    · obtain ⟨p', hp', rfl⟩ := List.mem_map.mp (show p ∈ RT.tabL K K07.TF from hp)
      exact List.mem_map.mpr ⟨_, List.mem_map.mpr ⟨p', hp', rfl⟩, rfl⟩
    · obtain ⟨p', hp', rfl⟩ := List.mem_map.mp hp
      exact sx.empty _ (inT _ hp')
    · obtain ⟨p', hp', rfl⟩ := List.mem_map.mp hp
      exact sx.out _ (inT _ hp')
    · obtain ⟨p', hp', rfl⟩ := List.mem_map.mp hp
      exact PySem.W.codeHd_of_K KX (sx.hd _ (inT _ hp'))
    have fy : K07.Fx K mg b := ⟨hb, hG, q, fun p hp => htb _ (List.mem_map.mpr ⟨p, hp, rfl⟩)⟩
    obtain ⟨fd2, F2, R2⟩ := K07.ok_law (w := w) fy
    have same := RT.fd_same F F2
    subst same
    exact R2
