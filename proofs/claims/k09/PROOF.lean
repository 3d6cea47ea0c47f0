import PyProof.Rows.All
import Wide.All
import OpenK.AllK
import Wide.FinOn
import HandS.ExcInit
import KE.KExcInit
import HandS.ForExc
import HandS.Comp
import HandS.Wide
import HandS.WideBits
import HandS.Lambda
import HandS.Text
import KE.DataEq
import KE.DataAny
import HandS.Defaults
import HandS.MakeKw
import HandS.IsInst
import HandS.FStr
import HandS.RaiseMore
import KE.KCallOwn
import KE.KFmtOwn
import PyProof.ReprRoads
import PyProof.NoPylong
import HandS.OwnEq
import HandS.Iter
import HandS.Zip
import HandS.TupAny
import HandS.Ends
import HandS.EndBits
import HandS.Words
import HandS.WordsExc
import HandS.Head0
import HandS.Head1
import HandS.Head2
import HandS.HeadEnd
import HandS.HeadHook1
import HandS.HeadHook2
import HandS.Dict
import HandS.Style
import HandS.Star
import KE.GoesEnum
import KE.GoesMore
import PyProof.EnumMake
import KE.GoesZip
import HandS.NoneIn
import PyProof.ReprHeads
import KE.KExcIs
import HandS.ExcValue
import HandS.ExcField
import PyProof.Rows.CountFlat
import PyProof.SeqIndex
import PySem.Challenge.RW_robintrees_k09_limits_and_errors
set_option Elab.async false
set_option linter.all false
set_option maxRecDepth 100000
set_option maxHeartbeats 4000000
/-! own exception classes as values: made by position or by name, over any of the built-in bases; fields set. -/
namespace PySem
namespace HandSPX
open Builtin Builtin.ObjectAttr

section
variable {M : Model} {A : Around} {E : Value → Shared → Prop} {h : Heap} {g : Array GenState} {d : Drawn} {t : Nat} {os : OsState}
variable {nm q : Str} {C N : Addr} {bs bm bmB : List Value} {hdct : Bool} {sn : List Str} {sub : List Value} {ab : Bool} {col : Option Bool} {dd : Option Addr} {k0 k1 k2 k3 k5 : Option Value} {B newId initId : String}

theorem check_new_kw (F : ExcBaseFacts B newId initId bmB) (hT : ∀ X : String, bm.contains (.type X) = bmB.contains (.type X)) {rest : List Value} {kw : List (Str × Value)} {Q : Unit → Shared → Prop}
    (hC : h.get? C = some (excClassObj nm q C N bs bm hdct sn sub ab col dd k0 k1 k2 k3 k5 newId)) (hq : Q () ⟨h, g, d, t, os⟩) : wpAny M A (checkBuiltinCall newId ⟨.ref C :: rest, kw⟩) Q E ⟨h, g, d, t, os⟩ := by
  have hcont : (Value.ref C :: bm).contains (.type B) = true := by rw [List.contains_cons, hT, F.hasB, Bool.or_true]
  have hstar := F.noStar
  simp only [checkBuiltinCall, F.newKind, F.newSplit, F.newRow]
  repeat (first | refine wpAny_loadPart_at hC ?_ | (refine wpAny_isSubtype_exc hC ?_; rw [hcont]) | refine wpAny_staticBase_exc hC ?_ | refine wpAny_madeBy_exc hC ?_ | simp only [bne_self_eq_false, Bool.false_eq_true, if_false] | wp_step)
  exact hq
end

section
variable {prog : Program} {w : World} {A : Around} {E : Value → Shared → Prop} {R : Result → Shared → Prop} {h : Heap} {g : Array GenState} {d : Drawn} {t : Nat} {os : OsState}
variable {nm q : Str} {C N : Addr} {bs bm bmB : List Value} {hdct : Bool} {sn : List Str} {sub : List Value} {ab : Bool} {col : Option Bool} {dd : Option Addr} {k0 k1 k2 k3 k5 : Option Value} {B newId initId : String}

theorem new_kw (F : ExcBaseFacts B newId initId bmB) (hT : ∀ X : String, bm.contains (.type X) = bmB.contains (.type X)) {rest : List Value} {kw : List (Str × Value)}
    (hC : h.get? C = some (excClassObj nm q C N bs bm hdct sn sub ab col dd k0 k1 k2 k3 k5 newId))
    (hq : R (.ok (.ret (.ref (h.objs.size + 1)))) ⟨(h.push { cls := .type "tuple", data := .seq rest.toArray }).push
      { cls := .ref C, data := .fields #[.ref h.objs.size, .none, .none, .none, .bool false, .none] }, g, d, t, os⟩) (hrest : rest.length ≤ sizeLine) :
    codeAny (model prog w) A (.builtin newId ⟨.ref C :: rest, kw⟩) R ⟨h, g, d, t, os⟩ := by
  have hends := F.ends
  have hcB : (Value.ref C :: bm).contains (.type B) = true := by rw [List.contains_cons, hT, F.hasB, Bool.or_true]
  have hcA : (Value.ref C :: bm).contains (.type "AttributeError") = false := by rw [List.contains_cons, hT, F.noAttr]; rfl
  have hcN : (Value.ref C :: bm).contains (.type "NameError") = false := by rw [List.contains_cons, hT, F.noName]; rfl
  refine codeAny_builtinAt F.entry ?_
  unfold Builtin.«BaseException.__new__»
  refine wpAt_bind ?_
  show wpAt _ _ _ (stack >>= _) _ _ _
  refine wpAt_bind (wpAt_stack fun p below => wpAt_of_wpAny ?_)
  wp_walk
  refine wpAt_of_wpAny ?_
  rw [F.owner]
  repeat (first | with_reducible refine wpAny_madeHere_exc F.canon hC ?_ | with_reducible refine wpAny_loadPart_at hC ?_ | (with_reducible refine wpAny_isSubtype_exc hC ?_; first | rw [hcB] | rw [hcA] | rw [hcN]) | wp_step)
  show R _ _
  rw [Heap.size_push]
  exact hq

theorem type_call_kw (F : ExcBaseFacts B newId initId bmB) (hT : ∀ X : String, bm.contains (.type X) = bmB.contains (.type X)) {rest : List Value} {kw : List (Str × Value)} {fI : Addr} {Q : Fin → Shared → Prop}
    (hC : h.get? C = some (excClassObj nm q C N bs bm hdct sn sub ab col dd k0 k1 k2 k3 k5 newId))
    (hi : W.Looks (model prog w) h (typeLookup (.ref C) "__init__") (some (.ref fI))) (hb : ∀ self, W.Looks (model prog w) h (bindSpecial (.ref fI) self) (.ref fI, [self])) (hrest : rest.length ≤ sizeLine)
    (hq : codeAny (model prog w) A (.call (.ref fI) ⟨.ref (h.objs.size + 1) :: rest, kw⟩)
      (fun r s' => match r with | .ok (.ret v) => v = .none ∧ Q (.done (.ret (.ref (h.objs.size + 1)))) s' | .ok _ => False | .error e => E e s')
      ⟨(h.push (W.kdv_tup rest)).push (excO C h.objs.size), g, d, t, os⟩) :
    wpAny (model prog w) A (Builtin.«type.__call__» ⟨.ref C :: rest, kw⟩) Q E ⟨h, g, d, t, os⟩ := by
  repeat (first | with_reducible refine wpAny_loadPart_at hC ?_ | with_reducible refine wpAny_madeBy_exc hC ?_ | wp_step)
  refine codeAny_call_builtin_code (Code.quiet_builtin _ F.quiet) (check_new_kw F hT hC ?_)
  refine new_kw F hT hC ?_ hrest
  show wpAny _ _ _ _ _ _
  have k : ∀ b o, h.get? b = some o → ((h.push (W.kdv_tup rest)).push (excO C h.objs.size)).get? b = some o := fun b o e => Heap.get?_push_of_some _ (Heap.get?_push_of_some _ e)
  have hC₁ := k _ _ hC
  have hget : ((h.push (W.kdv_tup rest)).push (excO C h.objs.size)).get? (h.objs.size + 1) = some (excO C h.objs.size) := by heap_get
  have hcC : (Value.ref C :: bm).contains (.ref C) = true := by simp
  have i1 := hi.keeps k
  have b1 := (hb (.ref (h.objs.size + 1))).keeps k
  unfold isInstance
  repeat (first | with_reducible refine wpAny_loadPart_at hget ?_ | (with_reducible refine wpAny_isSubtype_exc hC₁ ?_; rw [hcC]) | wp_step)
  show wpAny _ _ (typeLookup (.ref C) _) _ _ _
  refine i1.at ?_
  refine wpAny_holding (wpAny_bind (b1.at ?_))
  refine wpAny_bind (wpAny_call (codeAny_mono hq fun r s' z => ?_))
  rcases r with e | (v | _ | _ | _) <;> first | exact z | exact z.elim | skip
  obtain ⟨rfl, z⟩ := z
  first
    | exact wpAny_pure (wpAny_pure z)
    | (wp_walk; exact z)

theorem call_kw (F : ExcBaseFacts B newId initId bmB) (hT : ∀ X : String, bm.contains (.type X) = bmB.contains (.type X)) {rest : List Value} {kw : List (Str × Value)} {fI : Addr}
    (hC : h.get? C = some (excClassObj nm q C N bs bm hdct sn sub ab col dd k0 k1 k2 k3 k5 newId)) (typ : W.Looks (model prog w) h (isInstance (.ref C) (.type "type")) true)
    (hi : W.Looks (model prog w) h (typeLookup (.ref C) "__init__") (some (.ref fI))) (hb : ∀ self, W.Looks (model prog w) h (bindSpecial (.ref fI) self) (.ref fI, [self])) (hrest : rest.length ≤ sizeLine)
    (hq : codeAny (model prog w) (A.under (.builtin "type.__call__" ⟨.ref C :: rest, kw⟩)) (.call (.ref fI) ⟨.ref (h.objs.size + 1) :: rest, kw⟩) (W.InitBack (h.objs.size + 1) R)
      ⟨(h.push (W.kdv_tup rest)).push (excO C h.objs.size), g, d, t, os⟩) :
    codeAny (model prog w) A (.call (.ref C) ⟨rest, kw⟩) R ⟨h, g, d, t, os⟩ := by
  have f1 := tc_lookup
  have f2 := tc_bind (.ref C)
  have hTy : (⟨h, g, d, t, os⟩ : Shared).TypeIs (.ref C) "type" := ⟨_, hC, rfl⟩
  refine codeAny_of_tree ?_
  show wpAny _ _ (callAny (.ref C) _) _ _ _
  repeat (any_goals (first | assumption | with_reducible refine wpAny_loadPart_at hC ?_ | wp_step))
  refine ⟨rfl, ?_⟩
  refine codeAny_call_builtin_at (Code.quiet_builtin _ (by decide +kernel)) entry_typeCall (W.check_slot tc_kind tc_split typ (W.tc_args _ _ _) (type_call_kw F hT hC hi hb hrest ?_))
  refine codeAny_mono hq fun r s' z => ?_
  rcases r with e | (v | _ | _ | _) <;> exact z
end
/-- own classes, then the tail tl -/
def refsT (tl : List Value) : List Value → Bool
  | .ref _ :: r => refsT tl r
  | l => l == tl
/-- what is wanted of a built-in base -/
structure TlF (B newId initId : String) (tl : List Value) : Prop where
  F : ExcBaseFacts B newId initId tl
  pass : ∀ self, refuseLoop self "__setattr__" tl = pure ()
  obj : tl.contains (.type "object") = true
theorem tl_ve : TlF "ValueError" "ValueError.__new__" "ValueError.__init__" [.type "ValueError", .type "Exception", .type "BaseException", .type "object"] := ⟨F.excBase_ValueError, F.store_ValueError.passes, by decide +kernel⟩
theorem tl_le : TlF "LookupError" "LookupError.__new__" "LookupError.__init__" [.type "LookupError", .type "Exception", .type "BaseException", .type "object"] := ⟨F.excBase_LookupError, F.store_LookupError.passes, by decide +kernel⟩
theorem tl_ae : TlF "ArithmeticError" "ArithmeticError.__new__" "ArithmeticError.__init__" [.type "ArithmeticError", .type "Exception", .type "BaseException", .type "object"] := ⟨F.excBase_ArithmeticError, F.store_ArithmeticError.passes, by decide +kernel⟩
theorem refsT_cases {tl : List Value} : ∀ l : List Value, refsT tl l = true → (∃ c r, l = .ref c :: r ∧ refsT tl r = true) ∨ l = tl
  | [], e => .inr (beq_iff_eq.mp e)
  | .ref c :: r, e => .inl ⟨c, r, rfl, e⟩
  | .none :: _, e => .inr (beq_iff_eq.mp e)
  | .ellipsis :: _, e => .inr (beq_iff_eq.mp e)
  | .notImplemented :: _, e => .inr (beq_iff_eq.mp e)
  | .bool _ :: _, e => .inr (beq_iff_eq.mp e)
  | .int _ _ :: _, e => .inr (beq_iff_eq.mp e)
  | .float _ _ :: _, e => .inr (beq_iff_eq.mp e)
  | .str _ _ :: _, e => .inr (beq_iff_eq.mp e)
  | .bytes _ _ :: _, e => .inr (beq_iff_eq.mp e)
  | .type _ :: _, e => .inr (beq_iff_eq.mp e)
  | .builtin _ :: _, e => .inr (beq_iff_eq.mp e)
theorem refsT_nil {tl : List Value} (h : refsT tl [] = true) : tl = [] := (beq_iff_eq.mp h).symm
section
variable {B newId initId : String} {tl : List Value}
theorem refsT_pass (T : TlF B newId initId tl) (self : Value) : ∀ l : List Value, refsT tl l = true → refuseLoop self "__setattr__" l = pure () := by
  intro l
  induction l with
  | nil =>
    intro e
    have z := T.obj
    rw [refsT_nil e] at z
    cases z
  | cons a r ih =>
    intro e
    rcases refsT_cases (a :: r) e with ⟨c, r', q, h⟩ | q
    · obtain ⟨rfl, rfl⟩ := List.cons.inj q
      rw [refuseLoop_ref]; exact ih h
    · rw [q]; exact T.pass self
theorem refsT_contains (X : String) : ∀ l : List Value, refsT tl l = true → l.contains (.type X) = tl.contains (.type X) := by
  intro l
  induction l with
  | nil => intro e; rw [refsT_nil e]
  | cons a r ih =>
    intro e
    rcases refsT_cases (a :: r) e with ⟨c, r', q, h⟩ | q
    · obtain ⟨rfl, rfl⟩ := List.cons.inj q
      rw [List.contains_cons, ih h]; rfl
    · rw [q]
theorem refsT_ne (T : TlF B newId initId tl) {l : List Value} (e : refsT tl l = true) : l.isEmpty = false := by
  cases l with
  | nil =>
    have z := T.obj
    rw [refsT_nil e] at z
    cases z
  | cons _ _ => rfl
end
/-- what the written part says of the class -/
structure OexG (K : W.Frag) (C : Addr) (newId : String) (tl : List Value) : Prop where
  cls : ∃ nm q N bs bm sn sub ab col dd k0 k1 k2 k3 k5, K.lookup C = some (excClassObj nm q C N bs bm true sn sub ab col dd k0 k1 k2 k3 k5 newId) ∧ refsT tl bm = true
  sa : W.findIn K (.ref C) "__setattr__" = some (some (.builtin "object.__setattr__"))
  typ : W.instIn K (.ref C) (.type "type") = some true
def oexB (K : W.Frag) (C : Addr) (newId : String) (tl : List Value) : Bool :=
  (match K.lookup C with
    | some ⟨c, dd, .cls cd, sl⟩ => (match cd.mro, sl.toList with
      | .ref C' :: bm, [k0, k1, k2, k3, some (.builtin n), k5] => c == .type "type" && C' == C && n == newId && cd.hasDict && !cd.hasDel && refsT tl bm
      | _, _ => false)
    | _ => false) && (decide (W.findIn K (.ref C) "__setattr__" = some (some (.builtin "object.__setattr__"))) && decide (W.instIn K (.ref C) (.type "type") = some true))
theorem oexB_ok {K : W.Frag} {C : Addr} {newId : String} {tl : List Value} (h : oexB K C newId tl = true) : OexG K C newId tl := by
  unfold oexB at h
  obtain ⟨h1, h2⟩ := Bool.and_eq_true_iff.mp h
  obtain ⟨h2, h3⟩ := Bool.and_eq_true_iff.mp h2
  refine ⟨?_, of_decide_eq_true h2, of_decide_eq_true h3⟩
  split at h1
  · rename_i c dd cd sl ho
    split at h1
    · rename_i C' bm k0 k1 k2 k3 n k5 hm hs
      simp only [Bool.and_eq_true, beq_iff_eq, Bool.not_eq_true'] at h1
      obtain ⟨⟨⟨⟨⟨rfl, rfl⟩, rfl⟩, hd⟩, hdel⟩, ht⟩ := h1
      obtain ⟨nm, bs, mro, ns, qn, hd', sn, sub, ab, col, del⟩ := cd
      dsimp only at hm hdel hd
      subst hm hdel hd
      have hsl : sl = #[k0, k1, k2, k3, some (.builtin n), k5] := by
        obtain ⟨l⟩ := sl
        simp only at hs
        rw [hs]
      subst hsl
      exact ⟨nm, qn, ns, bs, bm, sn, sub, ab, col, dd, k0, k1, k2, k3, k5, ho, ht⟩
    · cases h1
  · cases h1
section
variable {prog : Program} {w : World} {A : Around} {E : Value → Shared → Prop} {R : Result → Shared → Prop} {hp : Heap} {g : Array GenState} {d : Drawn} {t : Nat} {os : OsState} {B newId initId : String} {tl : List Value}
theorem exc_osaT {K : W.Frag} {name : Str} {tk : Tok} {v : Value} {x C : Addr} {fv : Array Value} {cd : ClassData} (T : TlF B newId initId tl)
    (X : K.In hp) (hx : hp.get? x = some { cls := .ref C, data := .fields fv }) (hcd : W.clsIn K C = some cd) (hm : refsT tl cd.mro = true) (hh : cd.hasDict = true) (ha : W.findIn K (.ref C) name = some none)
    (hq : ∀ h' tk' dx, (∀ b o, b ≠ x → hp.get? b = some o → h'.get? b = some o) → hp.objs.size ≤ dx → dx ≠ x → h'.get? x = some { cls := .ref C, dict := some dx, data := .fields fv } →
      h'.Ns1 dx (fun y => if y = name then some v else none) → R (.ok (.ret .none)) ⟨h', g, d, tk', os⟩) :
    codeAny (model prog w) A (.call (.builtin "object.__setattr__") ⟨[.ref x, .str name tk, v], []⟩) R ⟨hp, g, d, t, os⟩ := by
  have I : W.InstAt hp x { cls := .ref C, data := .fields fv } C none := ⟨hx, rfl, rfl, trivial⟩
  have SF := F.store_object
  have ne := refsT_ne T hm
  have hob : cd.mro.contains (.type "object") = true := (refsT_contains "object" _ hm).trans T.obj
  have hxs : x ≠ hp.objs.size := Nat.ne_of_lt (Heap.lt_size hx)
  have sub : W.Looks (model prog w) hp (isInstance (.ref x) (.type "object")) true := I.type.andThen (W.looks_mroIn X (by unfold W.mroIn; rw [hcd, Option.bind_some, if_neg (by rw [ne]; decide), hob]))
  refine codeAny_call_builtin SF.slot.plain SF.entry (@W.check_slot (model prog w) _ _ ⟨hp, g, d, t, os⟩ "object.__setattr__" "object" "__setattr__" (.ref x) [.str name tk, v] [] _ SF.kind SF.split sub (SF.args (.ref x) (.str name tk) v) ?_)
  have hmr : W.Looks (model prog w) hp (mroOf (.ref C)) cd.mro := (W.looks_clsIn X hcd).andThen .now
  have L3 : W.Looks (model prog w) hp (storeTaker? none) none := .now
  have hcls : W.Looks (model prog w) hp (classData C) cd := W.looks_clsIn X hcd
  rw [W.osa_eq, refuse_eq]
  refine wpAny_bind (wpAny_bind (I.type.at (wpAny_bind (hmr.at ?_))))
  rw [refsT_pass T _ _ hm]
  refine wpAny_pure (wpAny_bind (I.type.at (wpAny_bind ((W.looks_findIn X ha).at (wpAny_bind (L3.at ?_))))))
  show wpAny _ _ (storeInOwnDict (.ref x) (.ref C) (.str name tk) name v false) _ _ _
  obtain ⟨nm, bs, mro, ns, qn, hd, sn, sb, ab, col, del⟩ := cd
  dsimp only at hh
  subst hh
  unfold storeInOwnDict ownDictForStores
  repeat (first | with_reducible refine store_in_new ?_ ?_ | with_reducible refine wpAny_loadPart_at hx ?_ | with_reducible refine hcls.at ?_ | wp_step)
  · exact ⟨_, #[], _, (Heap.get?_update_ne _ _ _ _ hxs.symm).trans (Heap.get?_push_at rfl rfl), rfl, fun e he => absurd he (by simp), fun _ => rfl⟩
  · intro h' tk' hn' hs
    have hx₁ : (hp.push { cls := .type "dict", data := .dict #[] }).get? x = some { cls := .ref C, data := .fields fv } := Heap.get?_push_of_some _ hx
    refine hq h' tk' hp.objs.size (fun b o hb ho => ?_) (Nat.le_refl _) hxs.symm ?_ hn'
    · exact (hs.2 b (Nat.ne_of_lt (Heap.lt_size ho))).trans ((Heap.get?_update_ne _ _ _ _ hb).trans (Heap.get?_push_of_some _ ho))
    · exact (hs.2 x hxs).trans (Heap.get?_update_self _ hx₁ rfl)
end
end HandSPX
end PySem
set_option Elab.async false
set_option linter.all false
set_option maxRecDepth 100000
set_option maxHeartbeats 4000000
/-! RT, part a: values as trees, a heap of cells, how they lie in HandS's abstract heap. -/
namespace RT
open PySem PySem.Spec L2
open PyProof.Rows hiding St

/-- a value as a tree; ref l: the mutable cell l -/
inductive T where
  | non | bl (b : Bool) | int (i : Int) | str (s : Str)
  | tup (xs : List T) | lst (xs : List T)
  | ref (l : Nat)
  | obj (c : Nat) (fs : List (Nat × T))
  | fn (k : Nat)
  | emp
  | ty (n : String)
  | cl (c : Nat)
  | exo (c : Nat) (fs : List (Nat × T))
/-- a mutable cell -/
inductive Cell where
  | lst (xs : List T)
  | ins (c : Nat) (fs : List (Nat × T))
  | exn (c : Nat) (fs : List (Nat × T))
/-- the heap of cells; none: gone (frozen) -/
abbrev Hm := List (Option Cell)
/-- how a run ends -/
inductive R (A : Type) where
  | ok (a : A) (h : Hm)
  | exc (e : T) (h : Hm)
  | bad
def R.bind {A B : Type} : R A → (A → Hm → R B) → R B
  | .ok a h, f => f a h
  | .exc e h, _ => .exc e h
  | .bad, _ => .bad

/-- what is fixed: the written part, classes' and functions' places, fields' names -/
structure Sta where
  K : PySem.W.Frag
  cls : Nat → Addr
  fld : Nat → Str
  nf : Nat
  inj : ∀ i j, i < nf → j < nf → fld i = fld j → i = j
  gl : Nat → Addr
  nc : Nat
  cinj : ∀ i j, i < nc → j < nc → cls i = cls j → i = j
  /-- tables of code objects, with their names -/
  T : List (Addr × Str) := []
mutual
/-- no cell is named within -/
def T.noRef : T → Bool
  | .ref _ => false
  | .tup xs => T.noRefs xs
  | .lst xs => T.noRefs xs
  | .obj _ fs => T.noRefF fs
  | .non => true
  | .bl _ => true
  | .int _ => true
  | .str _ => true
  | .fn _ => true
  | .emp => true
  | .ty _ => true
  | .cl _ => true
  | .exo _ fs => T.noRefF fs
def T.noRefs : List T → Bool
  | [] => true
  | x :: r => x.noRef && T.noRefs r
def T.noRefF : List (Nat × T) → Bool
  | [] => true
  | (_, x) :: r => x.noRef && T.noRefF r
end
def Cell.noRef : Cell → Bool
  | .lst xs => T.noRefs xs
  | .ins _ fs => T.noRefF fs
  | .exn _ fs => T.noRefF fs
/-- the ghost state: cells' addresses; frozen addresses -/
structure Gh where
  mu : List Addr
  Z : Addr → Prop

/-- a sequence that is frozen at a -/
def FzT (S : Sta) (H : Hp) (G : Gh) (a : Addr) (vs : List V) : Prop := (G.Z a ∧ Rd H a (.tup vs)) ∨ ∀ H, SqT S.K H a vs
def FzL (S : Sta) (H : Hp) (G : Gh) (a : Addr) (vs : List V) : Prop := (G.Z a ∧ Rd H a (.lst vs)) ∨ ∃ (us : List Value) (n : Nat), S.K.lookup a = some { cls := .type "list", data := .seq us.toArray n } ∧ us.length ≤ sizeLine ∧ Vals vs us
mutual
/-- a tree lies at a value -/
inductive RelT (S : Sta) (H : Hp) (G : Gh) : T → V → Prop where
  | non : RelT S H G .non .non
  | bl (b) : RelT S H G (.bl b) (.bl b)
  | int (i) : RelT S H G (.int i) (.int i)
  | str (s) : RelT S H G (.str s) (.str s)
  | tup {xs a vs} : FzT S H G a vs → RelTs S H G xs vs → RelT S H G (.tup xs) (.ref a)
  | lst {xs a vs} : FzL S H G a vs → RelTs S H G xs vs → RelT S H G (.lst xs) (.ref a)
  | ref {l a} : G.mu[l]? = some a → RelT S H G (.ref l) (.ref a)
  | obj {c fs a dx vs} : G.Z a → H a = some (.ins (S.cls c) dx vs) → RelFs S H G fs vs → RelT S H G (.obj c fs) (.ref a)
  | fn (k) : RelT S H G (.fn k) (.ref (S.gl k))
  | emp {a} : G.Z a → H a = some (.dK []) → RelT S H G .emp (.ref a)
  | ty (n) : RelT S H G (.ty n) (.ty n)
  | cl (c) : RelT S H G (.cl c) (.ref (S.cls c))
  | exo0 {c a} : G.Z a → H a = some (L2.exo a (S.cls c) none) → RelT S H G (.exo c []) (.ref a)
  | exo {c f fs a dx vs} : G.Z a → G.Z dx → H a = some (L2.exo a (S.cls c) (some dx)) → H dx = some (.xd vs) → RelFs S H G (f :: fs) vs → RelT S H G (.exo c (f :: fs)) (.ref a)
inductive RelTs (S : Sta) (H : Hp) (G : Gh) : List T → List V → Prop where
  | nil : RelTs S H G [] []
  | cons {t v ts vs} : RelT S H G t v → RelTs S H G ts vs → RelTs S H G (t :: ts) (v :: vs)
inductive RelFs (S : Sta) (H : Hp) (G : Gh) : List (Nat × T) → List (Str × V) → Prop where
  | nil : RelFs S H G [] []
  | cons {f t v ts vs} : f < S.nf → RelT S H G t v → RelFs S H G ts vs → RelFs S H G ((f, t) :: ts) ((S.fld f, v) :: vs)
end

/-- the heap, the ghost state have gone on; what stands outside of the cells is kept, but for X -/
structure StepX (X : Addr → Prop) (H : Hp) (G : Gh) (H' : Hp) (G' : Gh) : Prop where
  mu : ∃ more, G'.mu = G.mu ++ more
  Z : ∀ a, G.Z a → G'.Z a
  keep : ∀ a, G.Z a → H' a = H a
  there : ∀ a, H a ≠ none → H' a ≠ none
  frame : ∀ a, H a ≠ none → (∀ ps, H a ≠ some (.tbl ps)) → a ∉ G.mu → ¬ X a → H' a = H a
  fresh : ∀ a, a ∈ G'.mu → a ∈ G.mu ∨ H a = none
  fz : ∀ a, G'.Z a → G.Z a ∨ a ∈ G.mu ∨ H a = none
  tabs : ∀ P q, LamX.TabS H P q → LamX.TabS H' P q
abbrev Step (H : Hp) (G : Gh) (H' : Hp) (G' : Gh) : Prop := StepX (fun _ => False) H G H' G'
theorem StepX.refl {X : Addr → Prop} {H : Hp} {G : Gh} : StepX X H G H G := ⟨⟨[], by simp⟩, fun _ h => h, fun _ _ => rfl, fun _ h => h, fun _ _ _ _ _ => rfl, fun _ h => .inl h, fun _ h => .inl h, fun _ _ t => t⟩
theorem Step.refl {H : Hp} {G : Gh} : Step H G H G := StepX.refl
theorem StepX.trans {X : Addr → Prop} {H H1 H2 : Hp} {G G1 G2 : Gh} (a : StepX X H G H1 G1) (b : StepX X H1 G1 H2 G2) : StepX X H G H2 G2 := by
  obtain ⟨⟨m1, e1⟩, z1, k1, t1, f1, r1, q1, tb1⟩ := a
  obtain ⟨⟨m2, e2⟩, z2, k2, t2, f2, r2, q2, tb2⟩ := b
  have back : ∀ a, H1 a = none → H a = none := fun a h => by
    cases q : H a with
    | none => rfl
    | some o => exact absurd h (t1 a (by rw [q]; simp))
  refine ⟨⟨m1 ++ m2, by rw [e2, e1, List.append_assoc]⟩, fun a h => z2 a (z1 a h), fun a h => (k2 a (z1 a h)).trans (k1 a h), fun a h => t2 a (t1 a h), fun a h nt n x => ?_, fun a h => ?_, fun a h => ?_, fun P q t => tb2 P q (tb1 P q t)⟩
  · refine (f2 a (t1 a h) (fun ps => by rw [f1 a h nt n x]; exact nt ps) (fun m => ?_) x).trans (f1 a h nt n x)
    rcases r1 a m with m | m
    · exact n m
    · exact h m
  · rcases r2 a h with m | m
    · exact r1 a m
    · exact .inr (back a m)
  · rcases q2 a h with m | m | m
    · exact q1 a m
    · rcases r1 a m with m | m
      · exact .inr (.inl m)
      · exact .inr (.inr m)
    · exact .inr (.inr (back a m))
theorem Step.trans {H H1 H2 : Hp} {G G1 G2 : Gh} (a : Step H G H1 G1) (b : Step H1 G1 H2 G2) : Step H G H2 G2 := StepX.trans a b
theorem StepX.wide {X Y : Addr → Prop} {H H1 : Hp} {G G1 : Gh} (a : StepX X H G H1 G1) (h : ∀ a, X a → Y a) : StepX Y H G H1 G1 := ⟨a.mu, a.Z, a.keep, a.there, fun b h1 nt h2 h3 => a.frame b h1 nt h2 fun z => h3 (h b z), a.fresh, a.fz, a.tabs⟩
theorem StepX.get {X : Addr → Prop} {H H1 : Hp} {G G1 : Gh} (s : StepX X H G H1 G1) {l : Nat} {a : Addr} (h : G.mu[l]? = some a) : G1.mu[l]? = some a := by
  obtain ⟨m, e⟩ := s.mu
  rw [e, List.getElem?_append_left (List.getElem?_eq_some_iff.mp h).1]
  exact h
theorem FzT.step {S : Sta} {X : Addr → Prop} {H H' : Hp} {G G' : Gh} (s : StepX X H G H' G') {a : Addr} {vs : List V} (h : FzT S H G a vs) : FzT S H' G' a vs := by
  rcases h with ⟨z, r⟩ | h
  · refine .inl ⟨s.Z a z, ?_⟩
    unfold Rd at r ⊢
    rw [s.keep a z]
    exact r
  · exact .inr h
theorem FzL.step {S : Sta} {X : Addr → Prop} {H H' : Hp} {G G' : Gh} (s : StepX X H G H' G') {a : Addr} {vs : List V} (h : FzL S H G a vs) : FzL S H' G' a vs := by
  rcases h with ⟨z, r⟩ | h
  · refine .inl ⟨s.Z a z, ?_⟩
    unfold Rd at r ⊢
    rw [s.keep a z]
    exact r
  · exact .inr h
theorem FzT.sq {S : Sta} {H : Hp} {G : Gh} {a : Addr} {vs : List V} (h : FzT S H G a vs) : SqT S.K H a vs := by
  rcases h with ⟨_, r⟩ | h
  · exact .inl r
  · exact h H
theorem FzL.sq {S : Sta} {H : Hp} {G : Gh} {a : Addr} {vs : List V} (h : FzL S H G a vs) : SqL S.K H a vs := by
  rcases h with ⟨_, r⟩ | ⟨us, n, e, l, r⟩
  · exact .inl r
  · exact .inr ⟨_, us.toArray, n, e, rfl, rfl, rfl, by simpa using l, by simpa using r⟩
mutual
theorem RelT.step {S : Sta} {X : Addr → Prop} {H H' : Hp} {G G' : Gh} (s : StepX X H G H' G') : ∀ {t : T} {v : V}, RelT S H G t v → RelT S H' G' t v
  | _, _, .non => .non
  | _, _, .bl b => .bl b
  | _, _, .int b => .int b
  | _, _, .str b => .str b
  | _, _, .tup h r => .tup (h.step s) (r.step s)
  | _, _, .lst h r => .lst (h.step s) (r.step s)
  | _, _, .ref h => .ref (s.get h)
  | _, _, .obj z h r => .obj (s.Z _ z) ((s.keep _ z).trans h) (r.step s)
  | _, _, .fn k => .fn k
  | _, _, .emp z h => .emp (s.Z _ z) ((s.keep _ z).trans h)
  | _, _, .ty n => .ty n
  | _, _, .cl c => .cl c
  | _, _, .exo0 z h => .exo0 (s.Z _ z) ((s.keep _ z).trans h)
  | _, _, .exo z zd h hd r => .exo (s.Z _ z) (s.Z _ zd) ((s.keep _ z).trans h) ((s.keep _ zd).trans hd) (r.step s)
theorem RelTs.step {S : Sta} {X : Addr → Prop} {H H' : Hp} {G G' : Gh} (s : StepX X H G H' G') : ∀ {t : List T} {v : List V}, RelTs S H G t v → RelTs S H' G' t v
  | _, _, .nil => .nil
  | _, _, .cons h r => .cons (h.step s) (r.step s)
theorem RelFs.step {S : Sta} {X : Addr → Prop} {H H' : Hp} {G G' : Gh} (s : StepX X H G H' G') : ∀ {t : List (Nat × T)} {v : List (Str × V)}, RelFs S H G t v → RelFs S H' G' t v
  | _, _, .nil => .nil
  | _, _, .cons f h r => .cons f (h.step s) (r.step s)
end
theorem FzT.indep {S : Sta} {H : Hp} {G G' : Gh} (s : ∀ a, G.Z a → G'.Z a) {a : Addr} {vs : List V} (h : FzT S H G a vs) : FzT S H G' a vs := h.elim (fun h => .inl ⟨s _ h.1, h.2⟩) .inr
theorem FzL.indep {S : Sta} {H : Hp} {G G' : Gh} (s : ∀ a, G.Z a → G'.Z a) {a : Addr} {vs : List V} (h : FzL S H G a vs) : FzL S H G' a vs := h.elim (fun h => .inl ⟨s _ h.1, h.2⟩) .inr
theorem band {a b : Bool} (h : (a && b) = true) : a = true ∧ b = true := Bool.and_eq_true_iff.mp h
mutual
theorem RelT.indep {S : Sta} {H : Hp} {G G' : Gh} (s : ∀ a, G.Z a → G'.Z a) : ∀ {t : T} {v : V}, RelT S H G t v → t.noRef = true → RelT S H G' t v
  | _, _, .non, _ => .non
  | _, _, .bl b, _ => .bl b
  | _, _, .int b, _ => .int b
  | _, _, .str b, _ => .str b
  | _, _, .tup h r, n => .tup (h.indep s) (r.indep s (by rw [T.noRef] at n; exact n))
  | _, _, .lst h r, n => .lst (h.indep s) (r.indep s (by rw [T.noRef] at n; exact n))
  | _, _, .ref h, n => by rw [T.noRef] at n; cases n
  | _, _, .obj z h r, n => .obj (s _ z) h (r.indep s (by rw [T.noRef] at n; exact n))
  | _, _, .fn k, _ => .fn k
  | _, _, .emp z h, _ => .emp (s _ z) h
  | _, _, .ty n, _ => .ty n
  | _, _, .cl c, _ => .cl c
  | _, _, .exo0 z h, _ => .exo0 (s _ z) h
  | _, _, .exo z zd h hd r, n => .exo (s _ z) (s _ zd) h hd (r.indep s (by rw [T.noRef] at n; exact n))
theorem RelTs.indep {S : Sta} {H : Hp} {G G' : Gh} (s : ∀ a, G.Z a → G'.Z a) : ∀ {t : List T} {v : List V}, RelTs S H G t v → T.noRefs t = true → RelTs S H G' t v
  | _, _, .nil, _ => .nil
  | _, _, .cons h r, n => .cons (h.indep s (by rw [T.noRefs] at n; exact (band n).1)) (r.indep s (by rw [T.noRefs] at n; exact (band n).2))
theorem RelFs.indep {S : Sta} {H : Hp} {G G' : Gh} (s : ∀ a, G.Z a → G'.Z a) : ∀ {t : List (Nat × T)} {v : List (Str × V)}, RelFs S H G t v → T.noRefF t = true → RelFs S H G' t v
  | _, _, .nil, _ => .nil
  | _, _, .cons f h r, n => .cons f (h.indep s (by rw [T.noRefF] at n; exact (band n).1)) (r.indep s (by rw [T.noRefF] at n; exact (band n).2))
end

theorem nodup_at {A : Type} {N : List A} (hN : N.Nodup) {i j : Nat} {x : A} (a : N[i]? = some x) (b : N[j]? = some x) : i = j := by
  obtain ⟨h1, e1⟩ := List.getElem?_eq_some_iff.mp a
  obtain ⟨h2, e2⟩ := List.getElem?_eq_some_iff.mp b
  exact (List.getElem_inj hN).mp (e1.trans e2.symm)
/-- what stands at a cell's address -/
inductive CellAt (S : Sta) (H : Hp) (G : Gh) (a : Addr) : Cell → HO → Prop where
  | lst {xs vs} : RelTs S H G xs vs → CellAt S H G a (.lst xs) (.lst vs)
  | ins {c fs dx vs} : RelFs S H G fs vs → CellAt S H G a (.ins c fs) (.ins (S.cls c) dx vs)
  | exn0 {c} : CellAt S H G a (.exn c []) (L2.exo a (S.cls c) none)
  | exn {c f fs dx vs} : G.Z dx → H dx = some (.xd vs) → RelFs S H G (f :: fs) vs → CellAt S H G a (.exn c (f :: fs)) (L2.exo a (S.cls c) (some dx))
theorem CellAt.step {S : Sta} {X : Addr → Prop} {H H' : Hp} {G G' : Gh} (s : StepX X H G H' G') {a : Addr} {c : Cell} {o : HO} (h : CellAt S H G a c o) : CellAt S H' G' a c o := by
  cases h with
  | lst r => exact .lst (r.step s)
  | ins r => exact .ins (r.step s)
  | exn0 => exact .exn0
  | exn z h r => exact .exn (s.Z _ z) ((s.keep _ z).trans h) (r.step s)

/-- neither a table of code objects nor a code object -/
def NoTab (o : HO) : Prop := (∀ ps, o ≠ .tbl ps) ∧ ∀ c q, o ≠ LamX.CodeO c q
theorem noTab_lst (xs : List V) : NoTab (.lst xs) := ⟨(fun _ z => by cases z), (fun c q z => by unfold LamX.CodeO at z; cases z)⟩
theorem noTab_ins (C dx : Addr) (fs : List (Str × V)) : NoTab (.ins C dx fs) := ⟨(fun _ z => by cases z), (fun c q z => by unfold LamX.CodeO at z; cases z)⟩
theorem noTab_exo (e C : Addr) (d : Option Addr) : NoTab (L2.exo e C d) := by
  refine ⟨fun _ z => exo_tbl z, fun c q z => ?_⟩
  unfold L2.exo LamX.CodeO at z
  have z := HO.ext.inj z
  have sz : (⟨Array.replicate e ⟨.none, none, .freed, #[]⟩, {}⟩ : Heap).objs.size = e := by simp
  have no : ∀ b o, (⟨Array.replicate e ⟨.none, none, .freed, #[]⟩, {}⟩ : Heap).get? b ≠ some o := fun b o q => by
    obtain ⟨q1, q2⟩ := Heap.get?_some_iff.mp q
    have q1 : (Array.replicate e (⟨.none, none, .freed, #[]⟩ : Obj))[b]? = some o := q1
    rw [Array.getElem?_replicate] at q1
    split at q1
    · cases q1; cases q2
    · cases q1
  have hz := congrFun z ((⟨Array.replicate e ⟨.none, none, .freed, #[]⟩, {}⟩ : Heap).push { cls := .ref C, dict := d, data := .fields #[.ref 0, .none, .none, .none, .bool false, .none] })
  obtain ⟨oc, vs, t, p1, p2, p3⟩ := Eq.mp hz ⟨0, PySem.Heap.get?_push_at sz.symm rfl⟩
  rcases PySem.Heap.get?_push_cases p1 with ⟨_, q⟩ | q
  · subst q
    have p2 : Data.fields #[.ref 0, .none, .none, .none, .bool false, .none] = Data.fields vs := p2
    cases p2
    cases p3
  · exact no _ _ q
theorem tabS_upd {H : Hp} {P a : Addr} {q : Str} {o o' : HO} (t : LamX.TabS H P q) (e : H a = some o') (n : NoTab o') : LamX.TabS (upd H a o) P q := by
  obtain ⟨ps, h1, h2, h3⟩ := t
  refine ⟨ps, ?_, h2, fun pos cv hc => ?_⟩
  · rw [upd_ne]
    · exact h1
    · rintro rfl
      rw [h1] at e
      exact n.1 ps (Option.some.inj e).symm
  · obtain ⟨c, e1, e2⟩ := h3 pos cv hc
    refine ⟨c, e1, ?_⟩
    rw [upd_ne]
    · exact e2
    · rintro rfl
      rw [e2] at e
      exact n.2 _ _ (Option.some.inj e).symm
theorem cell_tab {S : Sta} {H : Hp} {G : Gh} {a : Addr} {c : Cell} {o : HO} (h : CellAt S H G a c o) : NoTab o := by
  cases h with
  | lst r => exact noTab_lst _
  | ins r => exact noTab_ins _ _ _
  | exn0 => exact noTab_exo _ _ _
  | exn _ _ _ => exact noTab_exo _ _ _
/-- the cells lie in the heap -/
structure RepH (S : Sta) (H : Hp) (G : Gh) (h : Hm) : Prop where
  len : h.length = G.mu.length
  cell : ∀ (l : Nat) (c : Cell), h[l]? = some (some c) → ∃ a o, G.mu[l]? = some a ∧ H a = some o ∧ CellAt S H G a c o ∧ ¬ G.Z a ∧ c.noRef = true
  nd : G.mu.Nodup
  there : ∀ a, a ∈ G.mu ∨ G.Z a → H a ≠ none
  tabs : ∀ p ∈ S.T, LamX.TabS H p.1 p.2

/-- nothing of what is tracked here was touched -/
def Grown (H H' : Hp) : Prop := ∀ a o, H a = some o → H' a = some o
theorem Grown.step {H H' : Hp} {G : Gh} (g : Grown H H') (z : ∀ a, G.Z a → H a ≠ none) : Step H G H' G := by
  have same : ∀ a, H a ≠ none → H' a = H a := fun a h => by
    cases q : H a with
    | none => exact absurd q h
    | some o => exact g a o q
  refine ⟨⟨[], by simp⟩, fun _ h => h, fun a h => same a (z a h), fun a h => by rw [same a h]; exact h, fun a h _ _ _ => same a h, fun a h => .inl h, fun a h => .inl h, fun P q t => t.ext g⟩
theorem RepH.grown {S : Sta} {H H' : Hp} {G : Gh} {h : Hm} (r : RepH S H G h) (g : Grown H H') : RepH S H' G h := by
  have st := g.step fun a z => r.there a (.inr z)
  refine ⟨r.len, fun l c e => ?_, r.nd, fun a h => st.there a (r.there a h), fun p hp => st.tabs _ _ (r.tabs p hp)⟩
  obtain ⟨a, o, h1, h2, h3, h4, h5⟩ := r.cell l c e
  exact ⟨a, o, h1, g a o h2, h3.step st, h4, h5⟩
theorem grown_upd {H : Hp} {p : Addr} {o : HO} (h : H p = none) : Grown H (upd H p o) := fun a u e => by
  rw [upd_ne (ne_of_none e h)]; exact e

/-- a further frozen address -/
def Gh.fz (G : Gh) (p : Addr) : Gh := ⟨G.mu, fun a => a = p ∨ G.Z a⟩
/-- a further cell -/
def Gh.ad (G : Gh) (p : Addr) : Gh := ⟨G.mu ++ [p], G.Z⟩
section
variable {S : Sta} {H : Hp} {G : Gh} {h : Hm} {p : Addr} {o : HO}
theorem RepH.fresh (r : RepH S H G h) (hp : H p = none) : p ∉ G.mu ∧ ¬ G.Z p := ⟨fun m => r.there p (.inl m) hp, fun z => r.there p (.inr z) hp⟩
/-- a new object, frozen -/
theorem RepH.newF (r : RepH S H G h) (hp : H p = none) : Step H G (upd H p o) (G.fz p) ∧ RepH S (upd H p o) (G.fz p) h := by
  have g := grown_upd (o := o) hp
  have st0 := g.step fun a z => r.there a (.inr z)
  have st : Step H G (upd H p o) (G.fz p) := ⟨⟨[], by simp [Gh.fz]⟩, fun a z => .inr z, st0.keep, st0.there, st0.frame, fun a z => .inl z, fun a z => by
    rcases z with z | z
    · subst z; exact .inr (.inr hp)
    · exact .inl z, st0.tabs⟩
  refine ⟨st, r.len, fun l c e => ?_, r.nd, fun a q => ?_, fun p hp => st.tabs _ _ (r.tabs p hp)⟩
  · obtain ⟨a, u, h1, h2, h3, h4, h5⟩ := r.cell l c e
    refine ⟨a, u, h1, g a u h2, h3.step st, fun z => ?_, h5⟩
    rcases z with z | z
    · exact (ne_of_none h2 hp) z
    · exact h4 z
  · rcases q with q | q | q
    · exact st.there a (r.there a (.inl q))
    · subst q; rw [upd_same]; simp
    · exact st.there a (r.there a (.inr q))
/-- a new object, a cell -/
theorem RepH.newC (r : RepH S H G h) (hp : H p = none) {c : Cell} (hc : CellAt S H G p c o) (hn : c.noRef = true) : Step H G (upd H p o) (G.ad p) ∧ RepH S (upd H p o) (G.ad p) (h ++ [some c]) := by
  have g := grown_upd (o := o) hp
  have st0 := g.step fun a z => r.there a (.inr z)
  have st : Step H G (upd H p o) (G.ad p) := ⟨⟨[p], rfl⟩, fun a z => z, st0.keep, st0.there, st0.frame, fun a z => by
    have z' : a ∈ G.mu ++ [p] := z
    rcases List.mem_append.mp z' with z | z
    · exact .inl z
    · simp at z; subst z; exact .inr hp, fun a z => .inl z, st0.tabs⟩
  obtain ⟨n1, n2⟩ := r.fresh hp
  refine ⟨st, by simp [Gh.ad, r.len], fun l c' e => ?_, ?_, fun a q => ?_, fun p hp => st.tabs _ _ (r.tabs p hp)⟩
  · by_cases hl : l < h.length
    · rw [List.getElem?_append_left hl] at e
      obtain ⟨a, u, h1, h2, h3, h4, h5⟩ := r.cell l c' e
      exact ⟨a, u, st.get h1, g a u h2, h3.step st, h4, h5⟩
    · have el : l = h.length := by
        have := (List.getElem?_eq_some_iff.mp e).1
        simp at this; omega
      subst el
      rw [List.getElem?_append_right (Nat.le_refl _)] at e
      simp at e
      subst e
      refine ⟨p, o, ?_, upd_same, hc.step st, n2, hn⟩
      show (G.mu ++ [p])[h.length]? = some p
      rw [r.len, List.getElem?_append_right (Nat.le_refl _)]
      simp
  · show (G.mu ++ [p]).Nodup
    rw [List.nodup_append]
    exact ⟨r.nd, by simp, fun a ha b hb => by simp at hb; subst hb; exact fun e => n1 (e ▸ ha)⟩
  · have q' : a ∈ G.mu ++ [p] ∨ G.Z a := q
    rcases q' with q' | q'
    · rcases List.mem_append.mp q' with q' | q'
      · exact st.there a (r.there a (.inl q'))
      · simp at q'; subst q'; rw [upd_same]; simp
    · exact st.there a (r.there a (.inr q'))
/-- a cell is written -/
theorem RepH.set (r : RepH S H G h) {l : Nat} {a : Addr} (ha : G.mu[l]? = some a) {c0 c : Cell} (h0 : h[l]? = some (some c0)) (hc : CellAt S H G a c o) (hn : c.noRef = true) : Step H G (upd H a o) G ∧ RepH S (upd H a o) G (h.set l (some c)) := by
  obtain ⟨a', o', h1, h2, h3q, h4, _⟩ := r.cell l c0 h0
  rw [ha] at h1; cases h1
  have hl : l < h.length := (List.getElem?_eq_some_iff.mp h0).1
  have st : Step H G (upd H a o) G := by
    refine ⟨⟨[], by simp⟩, fun _ z => z, fun b z => ?_, fun b q => ?_, fun b _ _ n _ => ?_, fun _ z => .inl z, fun _ z => .inl z, fun P q t => tabS_upd t h2 (cell_tab h3q)⟩
    · exact upd_ne fun e => h4 (e ▸ z)
    · by_cases e : b = a
      · subst e; rw [upd_same]; simp
      · rw [upd_ne e]; exact q
    · exact upd_ne fun e => n (e ▸ List.mem_of_getElem? ha)
  refine ⟨st, by simp [r.len], fun l' c' e => ?_, r.nd, fun b q => st.there b (r.there b q), fun p hp => st.tabs _ _ (r.tabs p hp)⟩
  by_cases el : l' = l
  · subst el
    rw [List.getElem?_set_self hl] at e
    simp at e; subst e
    exact ⟨a, o, ha, upd_same, hc.step st, h4, hn⟩
  · rw [List.getElem?_set_ne (Ne.symm el)] at e
    obtain ⟨b, u, k1, k2, k3, k4, k5⟩ := r.cell l' c' e
    refine ⟨b, u, k1, ?_, k3.step st, k4, k5⟩
    rw [upd_ne]
    · exact k2
    · rintro rfl
      exact el (nodup_at r.nd k1 ha)
/-- a cell is frozen: it goes, its address stays as it is -/
theorem RepH.freeze (r : RepH S H G h) {l : Nat} {a : Addr} (ha : G.mu[l]? = some a) (hn : H a ≠ none) : Step H G H (G.fz a) ∧ RepH S H (G.fz a) (h.set l none) := by
  have st : Step H G H (G.fz a) := ⟨⟨[], by simp [Gh.fz]⟩, fun _ z => .inr z, fun _ _ => rfl, fun _ q => q, fun _ _ _ _ _ => rfl, fun _ z => .inl z, fun b z => by
    rcases z with z | z
    · subst z; exact .inr (.inl (List.mem_of_getElem? ha))
    · exact .inl z, fun _ _ t => t⟩
  refine ⟨st, by simp [r.len, Gh.fz], fun l' c' e => ?_, r.nd, fun b q => ?_, fun p hp => r.tabs p hp⟩
  · have el : l' ≠ l := by
      rintro rfl
      by_cases hl : l' < h.length
      · rw [List.getElem?_set_self hl] at e; simp at e
      · rw [List.getElem?_eq_none (by simpa using hl)] at e; cases e
    rw [List.getElem?_set_ne (Ne.symm el)] at e
    obtain ⟨b, u, k1, k2, k3, k4, k5⟩ := r.cell l' c' e
    refine ⟨b, u, k1, k2, k3.step st, fun z => ?_, k5⟩
    rcases z with z | z
    · subst z; exact el (nodup_at r.nd k1 ha)
    · exact k4 z
  · rcases q with q | q | q
    · exact r.there b (.inl q)
    · subst q; exact hn
    · exact r.there b (.inr q)
/-- the first n cells alone -/
def Gh.cut (G : Gh) (n : Nat) : Gh := ⟨G.mu.take n, G.Z⟩
theorem CellAt.indep {G' : Gh} (s : ∀ a, G.Z a → G'.Z a) {a : Addr} {c : Cell} (q : CellAt S H G a c o) (hn : c.noRef = true) : CellAt S H G' a c o := by
  cases q with
  | lst r => exact .lst (r.indep s hn)
  | ins r => exact .ins (r.indep s hn)
  | exn0 => exact .exn0
  | exn z h r => exact .exn (s _ z) h (r.indep s hn)
theorem RepH.cut (r : RepH S H G h) (n : Nat) : RepH S H (G.cut n) (h.take n) := by
  refine ⟨by simp [Gh.cut, r.len], fun l c e => ?_, ?_, fun b q => ?_, r.tabs⟩
  · by_cases hl : l < n
    · rw [List.getElem?_take_of_lt hl] at e
      obtain ⟨a, u, h1, h2, h3, h4, h5⟩ := r.cell l c e
      exact ⟨a, u, by show (G.mu.take n)[l]? = _; rw [List.getElem?_take_of_lt hl]; exact h1, h2, CellAt.indep (G := G) (G' := G.cut n) (fun _ z => z) h3 h5, h4, h5⟩
    · rw [List.getElem?_eq_none (by rw [List.length_take]; omega)] at e; cases e
  · exact r.nd.sublist (List.take_sublist _ _)
  · rcases q with q | q
    · exact r.there b (.inl (List.mem_of_mem_take q))
    · exact r.there b (.inr q)
theorem Step.cut {H0 : Hp} {G0 : Gh} (s : Step H0 G0 H G) : Step H0 G0 H (G.cut G0.mu.length) := by
  obtain ⟨⟨m, e⟩, z, k, t, f, r, q, tb⟩ := s
  exact ⟨⟨[], by show G.mu.take _ = _; rw [e]; simp⟩, z, k, t, f, fun a h => r a (List.mem_of_mem_take h), q, tb⟩
/-- cells are forgotten -/
theorem RepH.sub (r : RepH S H G h) {h' : Hm} (hl : h'.length = h.length) (hs : ∀ (l : Nat) (c : Cell), h'[l]? = some (some c) → h[l]? = some (some c)) : RepH S H G h' :=
  ⟨hl.trans r.len, fun l c e => r.cell l c (hs l c e), r.nd, r.there, r.tabs⟩
end
/-! ### fields -/
theorem RelFs.look {S : Sta} {H : Hp} {G : Gh} {f : Nat} (hf : f < S.nf) : ∀ {fs : List (Nat × T)} {vs : List (Str × V)}, RelFs S H G fs vs → ∀ {t : T}, fs.lookup f = some t → ∃ v, vs.lookup (S.fld f) = some v ∧ RelT S H G t v
  | _, _, .nil, _, e => by simp at e
  | _, _, .cons (f := g) (ts := ts) hg r rs, t, e => by
    by_cases q : f = g
    · subst q
      rw [List.lookup_cons_self] at e
      cases e
      exact ⟨_, List.lookup_cons_self, r⟩
    · have hb : (f == g) = false := beq_eq_false_iff_ne.mpr q
      have hb2 : (S.fld f == S.fld g) = false := beq_eq_false_iff_ne.mpr fun z => q (S.inj _ _ hf hg z)
      simp only [List.lookup, hb] at e
      obtain ⟨v, h1, h2⟩ := RelFs.look hf rs e
      exact ⟨v, by simp only [List.lookup, hb2]; exact h1, h2⟩
theorem RelFs.lookN {S : Sta} {H : Hp} {G : Gh} {f : Nat} (hf : f < S.nf) : ∀ {fs : List (Nat × T)} {vs : List (Str × V)}, RelFs S H G fs vs → fs.lookup f = none → vs.lookup (S.fld f) = none
  | _, _, .nil, _ => rfl
  | _, _, .cons (f := g) (ts := ts) hg r rs, e => by
    by_cases q : f = g
    · subst q
      rw [List.lookup_cons_self] at e
      cases e
    · have hb : (f == g) = false := beq_eq_false_iff_ne.mpr q
      have hb2 : (S.fld f == S.fld g) = false := beq_eq_false_iff_ne.mpr fun z => q (S.inj _ _ hf hg z)
      simp only [List.lookup, hb] at e
      simp only [List.lookup, hb2]
      exact RelFs.lookN hf rs e
theorem RelFs.length {S : Sta} {H : Hp} {G : Gh} : ∀ {fs : List (Nat × T)} {vs : List (Str × V)}, RelFs S H G fs vs → fs.length = vs.length
  | _, _, .nil => rfl
  | _, _, .cons _ _ r => by simp [RelFs.length r]
/-- a field stored -/
def putT (f : Nat) (t : T) : List (Nat × T) → List (Nat × T)
  | [] => [(f, t)]
  | (g, x) :: r => if g = f then (g, t) :: r else (g, x) :: putT f t r
theorem RelFs.put {S : Sta} {H : Hp} {G : Gh} {f : Nat} (hf : f < S.nf) {t : T} {v : V} (q : RelT S H G t v) : ∀ {fs : List (Nat × T)} {vs : List (Str × V)}, RelFs S H G fs vs → RelFs S H G (putT f t fs) (putF (S.fld f) v vs)
  | _, _, .nil => .cons hf q .nil
  | _, _, .cons (f := g) hg r rs => by
    unfold putT putF
    by_cases z : g = f
    · subst z
      rw [if_pos rfl, if_pos rfl]
      exact .cons hg q rs
    · rw [if_neg z, if_neg fun e => z (S.inj _ _ hg hf e)]
      exact .cons hg r (RelFs.put hf q rs)
theorem noRefF_put {f : Nat} {t : T} (h : t.noRef = true) : ∀ {fs : List (Nat × T)}, T.noRefF fs = true → T.noRefF (putT f t fs) = true
  | [], _ => by simp [putT, T.noRefF, h]
  | (g, x) :: r, e => by
    rw [T.noRefF] at e
    unfold putT
    split
    · rw [T.noRefF, h, (band e).2]; rfl
    · rw [T.noRefF, (band e).1, noRefF_put h (band e).2]; rfl
/-! ### lists of trees -/
section
variable {S : Sta} {H : Hp} {G : Gh}
theorem RelTs.length : ∀ {ts : List T} {vs : List V}, RelTs S H G ts vs → ts.length = vs.length
  | _, _, .nil => rfl
  | _, _, .cons _ r => by simp [RelTs.length r]
theorem RelTs.get : ∀ {ts : List T} {vs : List V} {i : Nat} {t : T}, RelTs S H G ts vs → ts[i]? = some t → ∃ v, vs[i]? = some v ∧ RelT S H G t v
  | _, _, _, _, .nil, e => by simp at e
  | _, _, 0, _, .cons r _, e => by simp at e; subst e; exact ⟨_, by simp, r⟩
  | _, _, i + 1, t, .cons _ r, e => by
    obtain ⟨v, h1, h2⟩ := RelTs.get (i := i) (t := t) r (by simpa using e)
    exact ⟨v, by simpa using h1, h2⟩
theorem RelTs.get' : ∀ {ts : List T} {vs : List V} {i : Nat} {v : V}, RelTs S H G ts vs → vs[i]? = some v → ∃ t, ts[i]? = some t ∧ RelT S H G t v
  | _, _, _, _, .nil, e => by simp at e
  | _, _, 0, _, .cons r _, e => by simp at e; subst e; exact ⟨_, by simp, r⟩
  | _, _, i + 1, t, .cons _ r, e => by
    obtain ⟨v, h1, h2⟩ := RelTs.get' (i := i) (v := t) r (by simpa using e)
    exact ⟨v, by simpa using h1, h2⟩
theorem RelTs.app : ∀ {ts : List T} {vs : List V} {us : List T} {ws : List V}, RelTs S H G ts vs → RelTs S H G us ws → RelTs S H G (ts ++ us) (vs ++ ws)
  | _, _, _, _, .nil, s => s
  | _, _, _, _, .cons r t, s => .cons r (RelTs.app t s)
theorem RelTs.set {t : T} {v : V} (r : RelT S H G t v) : ∀ {ts : List T} {vs : List V} (i : Nat), RelTs S H G ts vs → RelTs S H G (ts.set i t) (vs.set i v)
  | _, _, _, .nil => .nil
  | _, _, 0, .cons _ q => .cons r q
  | _, _, i + 1, .cons q s => .cons q (RelTs.set r i s)
theorem RelTs.take : ∀ {ts : List T} {vs : List V} (n : Nat), RelTs S H G ts vs → RelTs S H G (ts.take n) (vs.take n)
  | _, _, 0, _ => by simp; exact .nil
  | _, _, _ + 1, .nil => .nil
  | _, _, n + 1, .cons r t => .cons r (RelTs.take n t)
theorem RelTs.drop : ∀ {ts : List T} {vs : List V} (n : Nat), RelTs S H G ts vs → RelTs S H G (ts.drop n) (vs.drop n)
  | _, _, 0, r => r
  | _, _, _ + 1, .nil => .nil
  | _, _, n + 1, .cons _ t => RelTs.drop n t
theorem RelTs.erase : ∀ {ts : List T} {vs : List V} (n : Nat), RelTs S H G ts vs → RelTs S H G (ts.eraseIdx n) (vs.eraseIdx n)
  | _, _, 0, .nil => .nil
  | _, _, 0, .cons r t => t
  | _, _, _ + 1, .nil => .nil
  | _, _, n + 1, .cons r t => .cons r (RelTs.erase n t)
theorem RelTs.ints : ∀ ns : List Int, RelTs S H G (ns.map T.int) (ns.map V.int)
  | [] => .nil
  | _ :: r => .cons (.int _) (RelTs.ints r)
end
end RT
set_option Elab.async false
set_option linter.all false
set_option maxRecDepth 100000
set_option maxHeartbeats 4000000
/-! RT, part b: contexts, judgements; names, constants, operators, tests. -/
namespace RT
open PySem PySem.Spec L2
open PyProof.Rows hiding St

abbrev StT := List (Option T)
abbrev ET := StT → Hm → R T
abbrev BT := StT → Hm → R Bool
abbrev AT := StT → Hm → R (List T)
/-- how a statement ends -/
inductive SO where
  | nx (s : StT) | brk (s : StT) | cont (s : StT) | ret (t : T) | rse (e : T) (s : StT)
abbrev SM := StT → Hm → R SO

def RelSt (S : Sta) (H : Hp) (G : Gh) (a : StT) (b : St) : Prop := a.length = b.length ∧ ∀ (i : Nat) t, a[i]? = some (some t) → ∃ v, b[i]? = some (some v) ∧ RelT S H G t v
theorem RelSt.step {S : Sta} {X : Addr → Prop} {H H' : Hp} {G G' : Gh} (s : StepX X H G H' G') {a : StT} {b : St} (r : RelSt S H G a b) : RelSt S H' G' a b :=
  ⟨r.1, fun i t e => let ⟨v, h1, h2⟩ := r.2 i t e; ⟨v, h1, h2.step s⟩⟩
theorem RelSt.set {S : Sta} {H : Hp} {G : Gh} {a : StT} {b : St} (r : RelSt S H G a b) (i : Nat) {t : T} {v : V} (h : RelT S H G t v) : RelSt S H G (a.set i (some t)) (b.set i (some v)) := by
  refine ⟨by simp [r.1], fun j u e => ?_⟩
  by_cases hj : i = j
  · subst hj
    by_cases hi : i < a.length
    · rw [List.getElem?_set_self hi] at e
      simp at e; subst e
      exact ⟨v, List.getElem?_set_self (by rw [← r.1]; exact hi), h⟩
    · rw [List.getElem?_eq_none (by simpa using hi)] at e; cases e
  · rw [List.getElem?_set_ne hj] at e
    obtain ⟨w, h1, h2⟩ := r.2 j u e
    exact ⟨w, by rw [List.getElem?_set_ne hj]; exact h1, h2⟩
theorem RelSt.unset {S : Sta} {H : Hp} {G : Gh} {a : StT} {b : St} (r : RelSt S H G a b) (i : Nat) (x : Option V) : RelSt S H G (a.set i none) (b.set i x) := by
  refine ⟨by simp [r.1], fun j u e => ?_⟩
  by_cases hj : i = j
  · subst hj
    by_cases hi : i < a.length
    · rw [List.getElem?_set_self hi] at e; simp at e
    · rw [List.getElem?_eq_none (by simpa using hi)] at e; cases e
  · rw [List.getElem?_set_ne hj] at e
    obtain ⟨w, h1, h2⟩ := r.2 j u e
    exact ⟨w, by rw [List.getElem?_set_ne hj]; exact h1, h2⟩
/-- an exception lies: an own class, its fields in its own dict -/
def RelX (S : Sta) (H : Hp) (G : Gh) (e : T) (cls : Value) (d : Option Addr) : Prop := ∃ c fs, e = .obj c fs ∧ cls = .ref (S.cls c) ∧ ((fs = [] ∧ d = none) ∨ ∃ dd vs, d = some dd ∧ G.Z dd ∧ H dd = some (.xd vs) ∧ RelFs S H G fs vs)
theorem RelX.step {S : Sta} {H H' : Hp} {G G' : Gh} (s : Step H G H' G') {e : T} {cls : Value} {d : Option Addr} (r : RelX S H G e cls d) : RelX S H' G' e cls d := by
  obtain ⟨c, fs, h1, h2, h⟩ := r
  refine ⟨c, fs, h1, h2, ?_⟩
  rcases h with h | ⟨dd, vs, e1, z, e2, r⟩
  · exact .inl h
  · exact .inr ⟨dd, vs, e1, s.Z _ z, (s.keep _ z).trans e2, r.step s⟩

/-- the running guards: none from level 100 on, any below -/
def GdK (k : Nat) (A : Around) : Prop := ∃ g, A.guards = some g ∧ (100 ≤ k → g = [])
theorem GdK.mono {j k : Nat} {A : Around} (h : GdK k A) (q : j ≤ k) : GdK j A := let ⟨g, e, z⟩ := h; ⟨g, e, fun w => z (Nat.le_trans w q)⟩
theorem GdK.none {k : Nat} {A : Around} (h : GdK k A) (q : 100 ≤ k) : A.guards = some [] := by
  obtain ⟨g, e, z⟩ := h
  rw [e, z q]
theorem GdK.of {k : Nat} {A : Around} (h : A.guards = some []) : GdK k A := ⟨[], h, fun _ => rfl⟩
/-- where one stands -/
structure RC where
  X : Cx
  S : Sta
  W : WX
  k : Nat
structure RC.Ok (C : RC) : Prop where
  K : C.S.K = C.X.K
  calm : C.X.calm = true
  room : Room C.k C.X.A
  gd : GdK C.k C.X.A
  nd : C.X.N.Nodup
  tk : Takes C.X C.W

/-- what a run's end must give -/
def Out (C : RC) (σ : St) (H : Hp) (G : Gh) {A B : Type} (Rel : Hp → Gh → A → B → Prop) (r : R A) (Q : B → Hp → Prop) : Prop := match r with
  | .ok t h' => ∀ v H' G', Step H G H' G' → RepH C.S H' G' h' → Rel H' G' t v → Q v H'
  | .exc e h' => ∀ cls d H' G', Step H G H' G' → RepH C.S H' G' h' → RelX C.S H' G' e cls d → C.W cls d σ H'
  | .bad => False
theorem Out.step {C : RC} {σ : St} {H H1 : Hp} {G G1 : Gh} {A B : Type} {Rel : Hp → Gh → A → B → Prop} {r : R A} {Q : B → Hp → Prop} (s : Step H G H1 G1) (h : Out C σ H G Rel r Q) : Out C σ H1 G1 Rel r Q := by
  cases r with
  | ok t h' => exact fun v H' G' st => h v H' G' (s.trans st)
  | exc e h' => exact fun c d H' G' st => h c d H' G' (s.trans st)
  | bad => exact h
theorem Out.mono {C : RC} {σ : St} {H : Hp} {G : Gh} {A B : Type} {Rel : Hp → Gh → A → B → Prop} {r : R A} {Q Q' : B → Hp → Prop} (h : Out C σ H G Rel r Q) (q : ∀ v H, Q v H → Q' v H) : Out C σ H G Rel r Q' := by
  cases r with
  | ok t h' => exact fun v H' G' st rp rl => q _ _ (h v H' G' st rp rl)
  | exc e h' => exact h
  | bad => exact h
/-- what is known behind a first run -/
def Got (C : RC) (σ : St) (H : Hp) (G : Gh) {A B A' B' : Type} (Rel : Hp → Gh → A → B → Prop) (Rel' : Hp → Gh → A' → B' → Prop) (f : A → Hm → R A') (Q : B' → Hp → Prop) (v : B) (H' : Hp) : Prop :=
  ∃ t G' h', Step H G H' G' ∧ RepH C.S H' G' h' ∧ Rel H' G' t v ∧ Out C σ H' G' Rel' (f t h') Q
theorem Out.bind {C : RC} {σ : St} {H : Hp} {G : Gh} {A B A' B' : Type} {Rel : Hp → Gh → A → B → Prop} {Rel' : Hp → Gh → A' → B' → Prop} {r : R A} {f : A → Hm → R A'} {Q : B' → Hp → Prop} (h : Out C σ H G Rel' (r.bind f) Q) :
    Out C σ H G Rel r (Got C σ H G Rel Rel' f Q) := by
  cases r with
  | ok t h' => exact fun v H' G' st rp rl => ⟨t, G', h', st, rp, rl, Out.step st h⟩
  | exc e h' => exact h
  | bad => exact h
abbrev relE (C : RC) : Hp → Gh → T → V → Prop := fun H G t v => RelT C.S H G t v
abbrev relB : Hp → Gh → Bool → Bool → Prop := fun _ _ a b => a = b
abbrev relA (C : RC) : Hp → Gh → List T → List V → Prop := fun H G t v => RelTs C.S H G t v

/-! ### judgements -/
section
variable (C : RC)
def liE (r : ET) : TE := fun σ H Q => ∃ a G h, RepH C.S H G h ∧ RelSt C.S H G a σ ∧ Out C σ H G (relE C) (r a h) Q
def liB (r : BT) : TT := fun σ H Q => ∃ a G h, RepH C.S H G h ∧ RelSt C.S H G a σ ∧ Out C σ H G relB (r a h) Q
def liA (r : AT) : TA := fun σ H Q => ∃ a G h, RepH C.S H G h ∧ RelSt C.S H G a σ ∧ Out C σ H G (relA C) (r a h) Q
def JE (e : Expr) (r : ET) : Prop := PE C.X e (liE C r)
def JB (e : Expr) (r : BT) : Prop := PT C.X e (liB C r)
def JW (e : Expr) (r : BT) : Prop := PW C.X e (liB C r)
def JA (es : List Expr) (r : AT) : Prop := PA C.X es (liA C r)
end
section
variable {C : RC}
theorem JE.run {e : Expr} {r : ET} (j : JE C e r) {pins : List (Addr × Obj)} {s : Shared} {σ : St} {H : Hp} {G : Gh} {h : Hm} {a : StT} {Q : VK} (I : Inv C.X pins σ H s) (rp : RepH C.S H G h) (rs : RelSt C.S H G a σ)
    (o : Out C σ H G (relE C) (r a h) Q) : wpAny (model C.X.prog C.X.w) C.X.A (eval e C.X.env) (EP C.X pins σ Q) C.X.xe s := PE.run j pins s σ H Q I ⟨a, G, h, rp, rs, o⟩
theorem JB.run {e : Expr} {r : BT} (j : JB C e r) {pins : List (Addr × Obj)} {s : Shared} {σ : St} {H : Hp} {G : Gh} {h : Hm} {a : StT} {Q : Bool → Hp → Prop} (I : Inv C.X pins σ H s) (rp : RepH C.S H G h) (rs : RelSt C.S H G a σ)
    (o : Out C σ H G relB (r a h) Q) : wpAny (model C.X.prog C.X.w) C.X.A (isTrue e C.X.env (eval e C.X.env)) (TP C.X pins σ Q) C.X.xe s := PT.run j pins s σ H Q I ⟨a, G, h, rp, rs, o⟩
theorem JW.jb {e : Expr} {r : BT} (j : JW C e r) : JB C e r := PW.pt j
theorem JA.run {es : List Expr} {r : AT} (j : JA C es r) (pos : Pos) {pins : List (Addr × Obj)} {s : Shared} {σ : St} {H : Hp} {G : Gh} {h : Hm} {a : StT} {Q : List V → Hp → Prop} (I : Inv C.X pins σ H s) (rp : RepH C.S H G h) (rs : RelSt C.S H G a σ)
    (o : Out C σ H G (relA C) (r a h) Q) : wpAny (model C.X.prog C.X.w) C.X.A (spliced (backTo pos (starEach es C.X.env))) (AP C.X pins σ Q) C.X.xe s := PA.run j pos pins s σ H Q I ⟨a, G, h, rp, rs, o⟩
/-- an ordinary end -/
theorem out_ok {σ : St} {H : Hp} {G : Gh} {t : T} {h : Hm} {Q : VK} (o : Out C σ H G (relE C) (.ok t h) Q) {v : V} (rp : RepH C.S H G h) (rv : RelT C.S H G t v) : Q v H := o v H G Step.refl rp rv

/-! ### names and constants -/
def eVar (i : Nat) : ET := fun a h => match a[i]? with
  | some (some t) => .ok t h
  | _ => .bad
def eC (t : T) : ET := fun _ h => .ok t h
theorem je_var (ok : C.Ok) {i : Nat} {x : Str} {pos : Pos} (hN : C.X.N[i]? = some x) (hv : Vis C.X.env.scope x) (hd : (x == ("__debug__" : Str)) = false := by decide) (hcd : (x == ("__classdict__" : Str)) = false := by decide) : JE C (.Name x pos) (eVar i) := by
  refine ⟨fun pins s σ H Q I hw => ?_⟩
  obtain ⟨a, G, h, rp, rs, o⟩ := hw
  refine (pe_var hN hv hd hcd).run pins s σ H Q I ?_
  unfold eVar at o
  split at o
  · rename_i t e
    obtain ⟨v, h1, h2⟩ := rs.2 i t e
    exact ⟨v, h1, out_ok o rp h2⟩
  · exact False.elim o
theorem je_c {e : Expr} {v : V} (t : T) (hp : PE C.X e (tC v)) (hr : ∀ H G, RelT C.S H G t v) : JE C e (eC t) := by
  refine ⟨fun pins s σ H Q I hw => ?_⟩
  obtain ⟨a, G, h, rp, rs, o⟩ := hw
  exact hp.run pins s σ H Q I (out_ok o rp (hr H G))
theorem je_int {i : Int} {j pos} : JE C (.Constant (.int i) j pos) (eC (.int i)) := je_c _ pe_int fun _ _ => .int i
theorem je_bl {b j pos} : JE C (.Constant (.bool b) j pos) (eC (.bl b)) := je_c _ pe_bl fun _ _ => .bl b
theorem je_non {j pos} : JE C (.Constant .none j pos) (eC .non) := je_c _ pe_non fun _ _ => .non
theorem je_str {x j pos} : JE C (.Constant (.str x) j pos) (eC (.str x)) := je_c _ pe_str fun _ _ => .str x
/-- a module's constant -/
theorem je_glob {x : Str} {v : V} {u : Value} {pos : Pos} (t : T) (hg : Gl C.X x) (hm : C.X.mg x = some u) (r : RelV v u) (hr : ∀ H G, RelT C.S H G t v) (hd : (x == ("__debug__" : Str)) = false := by decide) : JE C (.Name x pos) (eC t) :=
  je_c t (pe_glob hg hm r hd) hr

/-! ### operations on values -/
abbrev O2 := T → T → Hm → R T
abbrev O1 := T → Hm → R T
def OpT (C : RC) (f : Value → Value → Sem Value) (o : O2) : Prop :=
  ∀ (pins : List (Addr × Obj)) (s : Shared) (σ : St) (H : Hp) (G : Gh) (h : Hm) (x y : T) (vx vy : V) (u w : Value) (Q : VK), Inv C.X pins σ H s → RepH C.S H G h → RelT C.S H G x vx → RelT C.S H G y vy → RelV vx u → RelV vy w →
    Out C σ H G (relE C) (o x y h) Q → wpAny (model C.X.prog C.X.w) C.X.A (f u w) (EP C.X pins σ Q) C.X.xe s
def UnT (C : RC) (f : Value → Sem Value) (o : O1) : Prop :=
  ∀ (pins : List (Addr × Obj)) (s : Shared) (σ : St) (H : Hp) (G : Gh) (h : Hm) (x : T) (vx : V) (u : Value) (Q : VK), Inv C.X pins σ H s → RepH C.S H G h → RelT C.S H G x vx → RelV vx u →
    Out C σ H G (relE C) (o x h) Q → wpAny (model C.X.prog C.X.w) C.X.A (f u) (EP C.X pins σ Q) C.X.xe s
def TrT (C : RC) (o : T → Hm → R Bool) : Prop :=
  ∀ (pins : List (Addr × Obj)) (s : Shared) (σ : St) (H : Hp) (G : Gh) (h : Hm) (x : T) (vx : V) (u : Value) (Q : Bool → Hp → Prop), Inv C.X pins σ H s → RepH C.S H G h → RelT C.S H G x vx → RelV vx u →
    Out C σ H G relB (o x h) Q → wpAny (model C.X.prog C.X.w) C.X.A (truthy u) (TP C.X pins σ Q) C.X.xe s
def CaT (C : RC) (f : Value) (o : List T → Hm → R T) : Prop :=
  ∀ (pins : List (Addr × Obj)) (s : Shared) (σ : St) (H : Hp) (G : Gh) (h : Hm) (xs : List T) (vs : List V) (us : List Value) (Q : VK), Inv C.X pins σ H s → RepH C.S H G h → RelTs C.S H G xs vs → Vals vs us →
    Out C σ H G (relE C) (o xs h) Q → wpAny (model C.X.prog C.X.w) C.X.A (call f us) (EP C.X pins σ Q) C.X.xe s
/-- from a rule of HandS -/
theorem OpT.of {f : Value → Value → Sem Value} {o : O2} {r : R2} (hr : OpR C.X f r) (hi : ∀ σ H G h x y vx vy Q, RepH C.S H G h → RelT C.S H G x vx → RelT C.S H G y vy → Out C σ H G (relE C) (o x y h) Q → r vx vy H Q) : OpT C f o :=
  fun pins s σ H G h x y vx vy u w Q I rp rx ry vu vw ho => hr pins s σ H vx vy u w Q I vu vw (hi σ H G h x y vx vy Q rp rx ry ho)
theorem UnT.of {f : Value → Sem Value} {o : O1} {r : V → Hp → VK → Prop} (hr : UnR C.X f r) (hi : ∀ σ H G h x vx Q, RepH C.S H G h → RelT C.S H G x vx → Out C σ H G (relE C) (o x h) Q → r vx H Q) : UnT C f o :=
  fun pins s σ H G h x vx u Q I rp rx vu ho => hr pins s σ H vx u Q I vu (hi σ H G h x vx Q rp rx ho)
theorem CaT.of {f : Value} {o : List T → Hm → R T} {r : List V → Hp → VK → Prop} (hr : CallR C.X f r) (hi : ∀ σ H G h xs vs Q, RepH C.S H G h → RelTs C.S H G xs vs → Out C σ H G (relE C) (o xs h) Q → r vs H Q) : CaT C f o :=
  fun pins s σ H G h xs vs us Q I rp rx vu ho => hr pins s σ H vs us Q I vu (hi σ H G h xs vs Q rp rx ho)

def eOp (o : O2) (a b : ET) : ET := fun st h => (a st h).bind fun x h1 => (b st h1).bind fun y h2 => o x y h2
def eUn (o : O1) (a : ET) : ET := fun st h => (a st h).bind fun x h1 => o x h1
theorem two {a b : Expr} {ra rb : ET} {o : O2} (ja : JE C a ra) (jb : JE C b rb) {f : Value → Value → Sem Value} (ho : OpT C f o) {pins : List (Addr × Obj)} {s : Shared} {σ : St} {H : Hp} {Q : VK} (I : Inv C.X pins σ H s)
    (hw : liE C (eOp o ra rb) σ H Q) :
    wpAny (model C.X.prog C.X.w) C.X.A (eval a C.X.env) (fun v s₁ => wpAny (model C.X.prog C.X.w) C.X.A (eval b C.X.env) (fun u s₂ => wpAny (model C.X.prog C.X.w) C.X.A (f v u) (EP C.X pins σ Q) C.X.xe s₂) C.X.xe s₁) C.X.xe s := by
  obtain ⟨st, G, h, rp, rs, ho'⟩ := hw
  refine thn (ja.run I rp rs (Out.bind (Rel := relE C) ho')) fun v s1 ⟨x, H1, I1, r1, tx, G1, h1, st1, rp1, rx, o1⟩ => ?_
  refine thn (jb.run I1 rp1 (rs.step st1) (Out.bind (Rel := relE C) o1)) fun u s2 ⟨y, H2, I2, r2, ty, G2, h2, st2, rp2, ry, o2⟩ => ?_
  exact ho pins s2 σ H2 G2 h2 tx ty x y v u Q I2 rp2 (rx.step st2) ry r1 r2 o2
theorem je_op {op : Operator} {o : O2} (ho : OpT C (binaryOp op) o) {a b : Expr} {ra rb : ET} {pos : Pos} (ja : JE C a ra) (jb : JE C b rb) : JE C (.BinOp a op b pos) (eOp o ra rb) :=
  ⟨fun pins s σ H Q I hw => wpAny_BinOp (two ja jb ho I hw)⟩
theorem je_un {op : UnaryOp} {o : O1} (ho : UnT C (unaryOp op) o) {a : Expr} {ra : ET} {pos : Pos} (ja : JE C a ra) : JE C (.UnaryOp op a pos) (eUn o ra) := by
  refine ⟨fun pins s σ H Q I hw => ?_⟩
  obtain ⟨st, G, h, rp, rs, o1⟩ := hw
  refine UnaryOp_ (thn (ja.run I rp rs (Out.bind (Rel := relE C) o1)) fun v s1 ⟨x, H1, I1, r1, tx, G1, h1, st1, rp1, rx, o2⟩ => ?_)
  exact ho pins s1 σ H1 G1 h1 tx x v Q I1 rp1 rx r1 o2
/-- a comparison -/
theorem je_cmp {op : CmpOp} {o : O2} (ho : OpT C (compareOp op) o) {a b : Expr} {ra rb : ET} {pos : Pos} (ja : JE C a ra) (jb : JE C b rb) (hm : behindInMarks op b = false) : JE C (.Compare a [op] [b] pos) (eOp o ra rb) :=
  ⟨fun pins s σ H Q I hw => wpAny_Compare1 (two ja jb ho I hw) hm⟩
/-- the truth of a value that is a bool -/
def asB : T → Hm → R Bool := fun t h => match t with
  | .bl b => .ok b h
  | _ => .bad
def bE (r : ET) : BT := fun st h => (r st h).bind asB
theorem out_asB {σ : St} {H H1 : Hp} {G G1 : Gh} {t : T} {h : Hm} {Q : Bool → Hp → Prop} {v : V} (o : Out C σ H G relB (asB t h) Q) (st : Step H G H1 G1) (rp : RepH C.S H1 G1 h) (rv : RelT C.S H1 G1 t v) : ∃ b, v = .bl b ∧ Q b H1 := by
  cases t with
  | bl b => cases rv; exact ⟨b, rfl, o b H1 G1 st rp rfl⟩
  | _ => exact False.elim o
/-- an expression whose value is a bool, as a test -/
theorem jb_val {e : Expr} {r : ET} (j : JE C e r) (he : ∀ whole, isTrue e C.X.env whole = (do let v ← whole; standAt e.pos; holding [v] (truthy v)) := by intro _; rfl) : JB C e (bE r) := by
  refine ⟨fun pins s σ H Q I hw => ?_⟩
  obtain ⟨a, G, h, rp, rs, o⟩ := hw
  refine isTrue_plain (thn (j.run I rp rs (Out.bind (Rel := relE C) o)) fun v s1 ⟨x, H1, I1, r1, tx, G1, h1, st1, rp1, rx, o1⟩ => ?_) (he _)
  obtain ⟨b, rfl, q⟩ := out_asB o1 Step.refl rp1 rx
  cases r1
  exact wpAny_truthy_bool ⟨H1, I1, q⟩
theorem jb_cmp {op : CmpOp} {o : O2} (ho : OpT C (compareOp op) o) {a b : Expr} {ra rb : ET} {pos : Pos} (ja : JE C a ra) (jb : JE C b rb) (hm : behindInMarks op b = false) : JB C (.Compare a [op] [b] pos) (bE (eOp o ra rb)) := by
  refine ⟨fun pins s σ H Q I hw => ?_⟩
  obtain ⟨st, G, h, rp, rs, o1⟩ := hw
  have hw' : liE C (eOp o ra rb) σ H (Got C σ H G (relE C) relB asB Q) := ⟨st, G, h, rp, rs, Out.bind (Rel := relE C) o1⟩
  refine wpAny_isTrue_Compare1 (thn (two ja jb ho I hw') fun v s1 h1 => thn h1 fun u s2 h2 => thn h2 fun c s3 ⟨x, H3, I3, r3, tx, G3, h3, st3, rp3, rx, o3⟩ => ?_) hm
  obtain ⟨b', rfl, q⟩ := out_asB o3 Step.refl rp3 rx
  cases r3
  exact wpAny_truthy_bool ⟨H3, I3, q⟩
/-- any expression as a test, by a rule of truth -/
def bT (o : T → Hm → R Bool) (r : ET) : BT := fun st h => (r st h).bind o
theorem jb_truth {o : T → Hm → R Bool} (ho : TrT C o) {e : Expr} {r : ET} (j : JE C e r) (he : ∀ whole, isTrue e C.X.env whole = (do let v ← whole; standAt e.pos; holding [v] (truthy v)) := by intro _; rfl) : JB C e (bT o r) := by
  refine ⟨fun pins s σ H Q I hw => ?_⟩
  obtain ⟨a, G, h, rp, rs, o1⟩ := hw
  refine isTrue_plain (thn (j.run I rp rs (Out.bind (Rel := relE C) o1)) fun v s1 ⟨x, H1, I1, r1, tx, G1, h1, st1, rp1, rx, o2⟩ => ?_) (he _)
  exact ho pins s1 σ H1 G1 h1 tx x v Q I1 rp1 rx r1 o2

/-! ### and, or, not -/
def bAnd (a b : BT) : BT := fun st h => (a st h).bind fun c h1 => if c then b st h1 else .ok false h1
def bOr (a b : BT) : BT := fun st h => (a st h).bind fun c h1 => if c then .ok true h1 else b st h1
def bNot (a : BT) : BT := fun st h => (a st h).bind fun c h1 => .ok (!c) h1
variable {a b : Expr} {rest : List Expr} {pos : Pos} {ra rb : BT}
theorem jw_one {op} (ja : JB C a ra) : JW C (.BoolOp op [a] pos) ra := by
  refine ⟨fun wh pins s σ H Q I hw => ?_⟩
  cases op with
  | And => exact (pw_and1 (tA := liB C ra) ja).run wh pins s σ H Q I hw
  | Or => exact (pw_or1 (tA := liB C ra) ja).run wh pins s σ H Q I hw
theorem jw_and (ja : JB C a ra) (jb : JW C (.BoolOp .And (b :: rest) pos) rb) : JW C (.BoolOp .And (a :: b :: rest) pos) (bAnd ra rb) := by
  refine ⟨fun wh pins s σ H Q I hw => ?_⟩
  obtain ⟨st, G, h, rp, rs, o⟩ := hw
  refine (pw_and (tA := liB C ra) (tB' := liB C rb) ja jb).run wh pins s σ H Q I ⟨st, G, h, rp, rs, (Out.bind (Rel := relB) o).mono fun c H1 ⟨t, G1, h1, st1, rp1, e, o1⟩ => ?_⟩
  subst e
  cases t with
  | true => exact ⟨st, G1, h1, rp1, rs.step st1, o1⟩
  | false => exact o1 _ _ _ Step.refl rp1 rfl
theorem jw_or (ja : JB C a ra) (jb : JW C (.BoolOp .Or (b :: rest) pos) rb) : JW C (.BoolOp .Or (a :: b :: rest) pos) (bOr ra rb) := by
  refine ⟨fun wh pins s σ H Q I hw => ?_⟩
  obtain ⟨st, G, h, rp, rs, o⟩ := hw
  refine (pw_or (tA := liB C ra) (tB' := liB C rb) ja jb).run wh pins s σ H Q I ⟨st, G, h, rp, rs, (Out.bind (Rel := relB) o).mono fun c H1 ⟨t, G1, h1, st1, rp1, e, o1⟩ => ?_⟩
  subst e
  cases t with
  | false => exact ⟨st, G1, h1, rp1, rs.step st1, o1⟩
  | true => exact o1 _ _ _ Step.refl rp1 rfl
theorem jb_not (ja : JB C a ra) : JB C (.UnaryOp .Not a pos) (bNot ra) := by
  refine ⟨fun pins s σ H Q I hw => ?_⟩
  obtain ⟨st, G, h, rp, rs, o⟩ := hw
  refine (pt_not (tA := liB C ra) ja).run pins s σ H Q I ⟨st, G, h, rp, rs, (Out.bind (Rel := relB) o).mono fun c H1 ⟨t, G1, h1, st1, rp1, e, o1⟩ => ?_⟩
  subst e
  exact o1 _ _ _ Step.refl rp1 rfl
/-- .. as values, all but the last bools -/
def eAnd (a b : ET) : ET := fun st h => (bE a st h).bind fun c h1 => if c then b st h1 else .ok (.bl false) h1
def eOr (a b : ET) : ET := fun st h => (bE a st h).bind fun c h1 => if c then .ok (.bl true) h1 else b st h1
def eNot (a : ET) : ET := fun st h => (bE a st h).bind fun c h1 => .ok (.bl (!c)) h1
/-- a value that is a bool, told -/
theorem run_bE {e : Expr} {r : ET} (j : JE C e r) {A B : Type} {Rel : Hp → Gh → A → B → Prop} {pins : List (Addr × Obj)} {s : Shared} {σ : St} {H : Hp} {G : Gh} {h : Hm} {st : StT} {f : Bool → Hm → R A} {Q : B → Hp → Prop} (I : Inv C.X pins σ H s) (rp : RepH C.S H G h) (rs : RelSt C.S H G st σ)
    (o : Out C σ H G Rel ((bE r st h).bind f) Q) : wpAny (model C.X.prog C.X.w) C.X.A (eval e C.X.env) (EP C.X pins σ fun v H1 => ∃ b G1 h1, v = .bl b ∧ Step H G H1 G1 ∧ RepH C.S H1 G1 h1 ∧ Out C σ H1 G1 Rel (f b h1) Q) C.X.xe s := by
  refine j.run I rp rs ?_
  have o' := Out.bind (Rel := relB) o
  refine (Out.bind (Rel := relE C) o').mono fun v H1 ⟨t, G1, h1, st1, rp1, rx, o1⟩ => ?_
  obtain ⟨b, rfl, t2, G2, h2, st2, rp2, e, o2⟩ := out_asB o1 Step.refl rp1 rx
  subst e
  exact ⟨t2, G2, h2, rfl, st2, rp2, o2⟩
variable {ea eb : ET}
theorem je_one {op} (ja : JE C a ea) : JE C (.BoolOp op [a] pos) ea := pe_one ja
theorem je_and (ja : JE C a ea) (jb : JE C (.BoolOp .And (b :: rest) pos) eb) : JE C (.BoolOp .And (a :: b :: rest) pos) (eAnd ea eb) := by
  refine ⟨fun pins s σ H Q I hw => ?_⟩
  obtain ⟨st, G, h, rp, rs, o⟩ := hw
  refine BoolOp_and (thn (run_bE ja I rp rs o) fun v s1 ⟨x, H1, I1, r1, c, G1, h1, e, st1, rp1, o1⟩ => ?_)
  subst e
  cases r1
  refine wpAny_truthy_bool ?_
  cases c with
  | true => exact jb.run I1 rp1 (rs.step st1) o1
  | false => exact ⟨.bl false, H1, I1, rfl, out_ok o1 rp1 (.bl false)⟩
theorem je_or (ja : JE C a ea) (jb : JE C (.BoolOp .Or (b :: rest) pos) eb) : JE C (.BoolOp .Or (a :: b :: rest) pos) (eOr ea eb) := by
  refine ⟨fun pins s σ H Q I hw => ?_⟩
  obtain ⟨st, G, h, rp, rs, o⟩ := hw
  refine BoolOp_or (thn (run_bE ja I rp rs o) fun v s1 ⟨x, H1, I1, r1, c, G1, h1, e, st1, rp1, o1⟩ => ?_)
  subst e
  cases r1
  refine wpAny_truthy_bool ?_
  cases c with
  | false => exact jb.run I1 rp1 (rs.step st1) o1
  | true => exact ⟨.bl true, H1, I1, rfl, out_ok o1 rp1 (.bl true)⟩
/-- not, as a value: of anything with a truth -/
def eNotT (o : T → Hm → R Bool) (a : ET) : ET := fun st h => (a st h).bind fun x h1 => (o x h1).bind fun c h2 => .ok (.bl (!c)) h2
theorem je_not {o : T → Hm → R Bool} (ho : TrT C o) (ja : JE C a ea) : JE C (.UnaryOp .Not a pos) (eNotT o ea) := by
  refine ⟨fun pins s σ H Q I hw => ?_⟩
  obtain ⟨st, G, h, rp, rs, o1⟩ := hw
  refine UnaryOp_ (thn (ja.run I rp rs (Out.bind (Rel := relE C) o1)) fun v s1 ⟨x, H1, I1, r1, tx, G1, h1, st1, rp1, rx, o2⟩ => ?_)
  refine not_of (thn (ho pins s1 σ H1 G1 h1 tx x v _ I1 rp1 rx r1 (Out.bind (Rel := relB) o2)) fun c s2 ⟨H2, I2, t, G2, h2, st2, rp2, e, o3⟩ => ?_)
  subst e
  exact ⟨.bl (!t), H2, I2, rfl, out_ok o3 rp2 (.bl _)⟩
/-- a if t else b -/
def eIf (t : BT) (a b : ET) : ET := fun st h => (t st h).bind fun c h1 => if c then a st h1 else b st h1
theorem je_if {c : Expr} {rc : BT} (jc : JB C c rc) (ja : JE C a ea) (jb : JE C b eb) : JE C (.IfExp c a b pos) (eIf rc ea eb) := by
  refine ⟨fun pins s σ H Q I hw => ?_⟩
  obtain ⟨st, G, h, rp, rs, o⟩ := hw
  refine wpAny_IfExp (thn (jc.run I rp rs (Out.bind (Rel := relB) o)) fun d s1 ⟨H1, I1, t, G1, h1, st1, rp1, e, o1⟩ => ?_)
  subst e
  cases t with
  | true => exact ja.run I1 rp1 (rs.step st1) o1
  | false => exact jb.run I1 rp1 (rs.step st1) o1

/-! ### arguments, displays -/
def aNil : AT := fun _ h => .ok [] h
def aCons (a : ET) (r : AT) : AT := fun st h => (a st h).bind fun x h1 => (r st h1).bind fun xs h2 => .ok (x :: xs) h2
theorem ja_nil : JA C [] aNil := by
  refine ⟨fun pos pins s σ H Q I hw => ?_⟩
  obtain ⟨st, G, h, rp, rs, o⟩ := hw
  exact pa_nil.run pos pins s σ H Q I (o [] H G Step.refl rp .nil)
theorem ja_cons {es : List Expr} {r : AT} (ja : JE C a ea) (jr : JA C es r) (hs : starEach (a :: es) C.X.env = (false, eval a C.X.env) :: starEach es C.X.env := by rfl) : JA C (a :: es) (aCons ea r) := by
  refine ⟨fun pos pins s σ H Q I hw => ?_⟩
  obtain ⟨st, G, h, rp, rs, o⟩ := hw
  rw [hs]
  show wpAny _ _ (spliced ((false, eval a C.X.env) :: backTo pos (starEach es C.X.env))) _ _ s
  refine Calls.spliced_cons (thn (ja.run I rp rs (Out.bind (Rel := relE C) o)) fun u s1 ⟨x, H1, I1, r1, tx, G1, h1, st1, rp1, rx, o1⟩ => ?_)
  refine thn (jr.run pos I1 rp1 (rs.step st1) (Out.bind (Rel := relA C) o1)) fun us s2 ⟨xs, H2, I2, r2, txs, G2, h2, st2, rp2, rxs, o2⟩ => ?_
  exact ⟨x :: xs, H2, I2, .cons r1 r2, o2 _ _ _ Step.refl rp2 (.cons (rx.step st2) rxs)⟩
def eTup (r : AT) : ET := fun st h => (r st h).bind fun xs h1 => if xs.length ≤ sizeLine then .ok (.tup xs) h1 else .bad
/-- a list that is never changed -/
def eLst (r : AT) : ET := fun st h => (r st h).bind fun xs h1 => if xs.length ≤ sizeLine then .ok (.lst xs) h1 else .bad
/-- a list that is a cell -/
def eLstM (r : AT) : ET := fun st h => (r st h).bind fun xs h1 => if decide (xs.length ≤ sizeLine) && T.noRefs xs then .ok (.ref h1.length) (h1 ++ [some (.lst xs)]) else .bad
theorem je_tup {es : List Expr} {r : AT} {k} (j : JA C es r) : JE C (.Tuple es k pos) (eTup r) := by
  refine ⟨fun pins s σ H Q I hw => ?_⟩
  obtain ⟨st, G, h, rp, rs, o⟩ := hw
  refine (pe_tup (t := liA C r) j).run pins s σ H Q I ⟨st, G, h, rp, rs, (Out.bind (Rel := relA C) o).mono fun xs H1 ⟨txs, G1, h1, st1, rp1, rxs, o1⟩ => ?_⟩
  dsimp only at o1
  split at o1
  · rename_i hl
    refine ⟨by rw [← rxs.length]; exact hl, fun p hp => ?_⟩
    obtain ⟨st2, rp2⟩ := rp1.newF (o := .tup xs) hp
    exact o1 _ _ _ st2 rp2 (.tup (.inl ⟨.inl rfl, .inl upd_same⟩) (rxs.step st2))
  · exact False.elim o1
theorem je_lst {es : List Expr} {r : AT} (j : JA C es r) : JE C (.List es pos) (eLst r) := by
  refine ⟨fun pins s σ H Q I hw => ?_⟩
  obtain ⟨st, G, h, rp, rs, o⟩ := hw
  refine (pe_lst (t := liA C r) j).run pins s σ H Q I ⟨st, G, h, rp, rs, (Out.bind (Rel := relA C) o).mono fun xs H1 ⟨txs, G1, h1, st1, rp1, rxs, o1⟩ => ?_⟩
  dsimp only at o1
  split at o1
  · rename_i hl
    refine ⟨by rw [← rxs.length]; exact hl, fun p hp => ?_⟩
    obtain ⟨st2, rp2⟩ := rp1.newF (o := .lst xs) hp
    exact o1 _ _ _ st2 rp2 (.lst (.inl ⟨.inl rfl, .inl upd_same⟩) (rxs.step st2))
  · exact False.elim o1
theorem je_lstM {es : List Expr} {r : AT} (j : JA C es r) : JE C (.List es pos) (eLstM r) := by
  refine ⟨fun pins s σ H Q I hw => ?_⟩
  obtain ⟨st, G, h, rp, rs, o⟩ := hw
  refine (pe_lst (t := liA C r) j).run pins s σ H Q I ⟨st, G, h, rp, rs, (Out.bind (Rel := relA C) o).mono fun xs H1 ⟨txs, G1, h1, st1, rp1, rxs, o1⟩ => ?_⟩
  dsimp only at o1
  split at o1
  · rename_i hl
    obtain ⟨hl, hn⟩ := band hl
    refine ⟨by rw [← rxs.length]; exact of_decide_eq_true hl, fun p hp => ?_⟩
    obtain ⟨st2, rp2⟩ := rp1.newC (o := .lst xs) hp (.lst rxs) hn
    refine o1 _ _ _ st2 rp2 (.ref ?_)
    show (G1.mu ++ [p])[h1.length]? = some p
    rw [rp1.len, List.getElem?_append_right (Nat.le_refl _)]
    simp
  · exact False.elim o1
/-- {} that is never changed -/
def eEmp : ET := fun _ h => .ok .emp h
end
end RT
set_option Elab.async false
set_option linter.all false
set_option maxRecDepth 100000
set_option maxHeartbeats 4000000
/-! RT, part c: operators and comparisons of plain values; trees as data of the library. -/
namespace RT
open PySem PySem.Spec L2
open PyProof.Rows hiding St

/-! ### trees as data -/
mutual
def T.toD : T → Option PyData
  | .non => some .none
  | .bl b => some (.bool b)
  | .int i => some (.int i)
  | .str s => some (.str s)
  | .tup xs => (T.toDs xs).map .tuple
  | .lst xs => (T.toDs xs).map .list
  | .ref _ => none
  | .obj _ _ => none
  | .fn _ => none
  | .emp => none
  | .ty _ => none
  | .cl _ => none
  | .exo _ _ => none
def T.toDs : List T → Option (List PyData)
  | [] => some []
  | x :: r => match x.toD, T.toDs r with
    | some d, some ds => some (d :: ds)
    | _, _ => none
end
theorem toDs_cons {x : T} {r : List T} {ds : List PyData} (e : T.toDs (x :: r) = some ds) : ∃ d ds', x.toD = some d ∧ T.toDs r = some ds' ∧ ds = d :: ds' := by
  rw [T.toDs] at e
  split at e
  · rename_i d ds' h1 h2
    cases e
    exact ⟨d, ds', h1, h2, rfl⟩
  · cases e
/-- a value, a list that is a cell too -/
def T.toDh (h : Hm) (t : T) : Option PyData := match t with
  | .ref l => (match h[l]? with
    | some (some (.lst xs)) => (T.toDs xs).map .list
    | _ => none)
  | t => t.toD
mutual
theorem plain_toD : ∀ {t : T} {d : PyData}, t.toD = some d → d.plain = true ∧ d.hasDict = false
  | .non, d, e => by rw [T.toD] at e; cases e; exact ⟨rfl, by simp [PyData.hasDict]⟩
  | .bl b, d, e => by rw [T.toD] at e; cases e; exact ⟨rfl, by simp [PyData.hasDict]⟩
  | .int b, d, e => by rw [T.toD] at e; cases e; exact ⟨rfl, by simp [PyData.hasDict]⟩
  | .str b, d, e => by rw [T.toD] at e; cases e; exact ⟨rfl, by simp [PyData.hasDict]⟩
  | .tup xs, d, e => by
    rw [T.toD] at e
    cases q : T.toDs xs with
    | none => rw [q] at e; cases e
    | some ds =>
      rw [q] at e; cases e
      have := plain_toDs q
      exact ⟨by simp [PyData.plain, this.1], by simp [PyData.hasDict, this.2]⟩
  | .lst xs, d, e => by
    rw [T.toD] at e
    cases q : T.toDs xs with
    | none => rw [q] at e; cases e
    | some ds =>
      rw [q] at e; cases e
      have := plain_toDs q
      exact ⟨by simp [PyData.plain, this.1], by simp [PyData.hasDict, this.2]⟩
  | .ref _, d, e => by rw [T.toD] at e; cases e
  | .obj _ _, d, e => by rw [T.toD] at e; cases e
  | .fn _, d, e => by rw [T.toD] at e; cases e
  | .emp, d, e => by rw [T.toD] at e; cases e
  | .ty _, d, e => by rw [T.toD] at e; cases e
  | .cl _, d, e => by rw [T.toD] at e; cases e
  | .exo _ _, d, e => by rw [T.toD] at e; cases e
theorem plain_toDs : ∀ {t : List T} {d : List PyData}, T.toDs t = some d → PyData.plainAll d = true ∧ PyData.hasDictAll d = false
  | [], d, e => by rw [T.toDs] at e; cases e; exact ⟨rfl, by simp [PyData.hasDictAll]⟩
  | x :: r, d, e => by
    obtain ⟨a, ds, h1, h2, rfl⟩ := toDs_cons e
    have p1 := plain_toD h1
    have p2 := plain_toDs h2
    exact ⟨by simp [PyData.plainAll, p1.1, p2.1], by simp [PyData.hasDictAll, p1.2, p2.2]⟩
end
section
variable {C : RC} {pins : List (Addr × Obj)} {σ : St} {H : Hp} {G : Gh} {s : Shared}
mutual
theorem reads_of (K : C.S.K = C.X.K) (I : Inv C.X pins σ H s) : ∀ {t : T} {v : V} {u : Value} {d : PyData}, RelT C.S H G t v → RelV v u → t.toD = some d → ∃ as, Reads s.heap u d as
  | .non, _, _, _, .non, r, e => by rw [T.toD] at e; cases e; cases r; exact ⟨_, .none⟩
  | .bl b, _, _, _, .bl _, r, e => by rw [T.toD] at e; cases e; cases r; exact ⟨_, .bool b⟩
  | .int b, _, _, _, .int _, r, e => by rw [T.toD] at e; cases e; obtain ⟨t, rfl⟩ := r; exact ⟨_, .int b t⟩
  | .str b, _, _, _, .str _, r, e => by rw [T.toD] at e; cases e; obtain ⟨t, rfl⟩ := r; exact ⟨_, .str b t⟩
  | .tup xs, _, _, _, .tup (a := a) hz hr, r, e => by
    cases r
    rw [T.toD] at e
    cases q : T.toDs xs with
    | none => rw [q] at e; cases e
    | some ds =>
      rw [q] at e; cases e
      have sq := hz.sq
      rw [K] at sq
      obtain ⟨its, rv, ⟨o, ho, hc, n, hd⟩, _⟩ := I.tuple sq
      obtain ⟨as, ra⟩ := readsAll_of K I hr rv q
      exact ⟨as, .tuple ho hc hd (by simpa using ra)⟩
  | .lst xs, _, _, _, .lst (a := a) hz hr, r, e => by
    cases r
    rw [T.toD] at e
    cases q : T.toDs xs with
    | none => rw [q] at e; cases e
    | some ds =>
      rw [q] at e; cases e
      have sq := hz.sq
      rw [K] at sq
      obtain ⟨its, rv, ⟨o, n, ho, hc, hdi, hd⟩, _⟩ := I.list sq
      obtain ⟨as, ra⟩ := readsAll_of K I hr rv q
      exact ⟨a :: as, .list ho hc hd (by simpa using ra)⟩
theorem readsAll_of (K : C.S.K = C.X.K) (I : Inv C.X pins σ H s) : ∀ {t : List T} {v : List V} {u : List Value} {d : List PyData}, RelTs C.S H G t v → Vals v u → T.toDs t = some d → ∃ as, ReadsAll s.heap u d as
  | [], _, _, _, .nil, r, e => by rw [T.toDs] at e; cases e; cases r; exact ⟨_, .nil⟩
  | x :: xs, _, _, _, .cons h1 h2, r, e => by
    obtain ⟨a, ds, e1, e2, rfl⟩ := toDs_cons e
    cases r with
    | cons r1 r2 =>
      obtain ⟨as, q1⟩ := reads_of K I h1 r1 e1
      obtain ⟨bs, q2⟩ := readsAll_of K I h2 r2 e2
      exact ⟨_, .cons q1 q2⟩
end
theorem readsH_of (K : C.S.K = C.X.K) (I : Inv C.X pins σ H s) {h : Hm} (rp : RepH C.S H G h) {t : T} {v : V} {u : Value} {d : PyData} (r : RelT C.S H G t v) (rv : RelV v u) (e : t.toDh h = some d) : (∃ as, Reads s.heap u d as) ∧ d.plain = true ∧ d.hasDict = false := by
  cases t with
  | ref l =>
    unfold T.toDh at e
    dsimp only at e
    split at e
    · rename_i xs q
      cases q2 : T.toDs xs with
      | none => rw [q2] at e; cases e
      | some ds =>
        rw [q2] at e; cases e
        cases r with
        | ref hl =>
          cases rv
          obtain ⟨a', o, h1, h2, h3, _, _⟩ := rp.cell l _ q
          rw [hl] at h1; cases h1
          cases h3 with
          | lst rs =>
            obtain ⟨_, its, n, rv, ho⟩ := (show ObjOk C.X.prog C.X.w H s.heap _ (.lst _) from I.hok _ _ h2)
            obtain ⟨as, ra⟩ := readsAll_of K I rs rv q2
            have p := plain_toDs q2
            exact ⟨⟨_, .list ho rfl rfl (by simpa using ra)⟩, by simp [PyData.plain, p.1], by simp [PyData.hasDict, p.2]⟩
    · cases e
  | _ => exact ⟨reads_of K I r rv e, plain_toD e⟩
end

/-! ### ints that fit -/
set_option exponentiation.threshold 2000 in
def LIM : Nat := 2 ^ 1900
def fit (i : Int) : Bool := decide (i.natAbs < LIM)
theorem fit_lt {i : Int} (h : fit i = true) : i.natAbs < 2 ^ 1900 := of_decide_eq_true h
theorem fit_of {i : Int} (h1 : -(10 ^ 200) ≤ i) (h2 : i ≤ 10 ^ 200) : fit i = true := by
  have e : (10 : Nat) ^ 200 < LIM := by decide +kernel
  have e' : ((10 : Int) ^ 200) = ((10 ^ 200 : Nat) : Int) := by decide +kernel
  unfold fit
  rw [e'] at h1 h2
  exact decide_eq_true (Nat.lt_of_le_of_lt (by omega) e)
theorem fit_log {i : Int} (h : fit i = true) : i.natAbs.log2 < 1920 := by
  by_cases z : i.natAbs = 0
  · rw [z]; decide
  · have := (Nat.log2_lt z).mpr (fit_lt h)
    omega

/-! ### operators -/
def opAdd : O2 := fun x y h => match x, y with
  | .int i, .int j => .ok (.int (i + j)) h
  | .str a, .str b => if a.length + b.length ≤ sizeLine then .ok (.str (a ++ b)) h else .bad
  | _, _ => .bad
def opSub : O2 := fun x y h => match x, y with
  | .int i, .int j => .ok (.int (i - j)) h
  | _, _ => .bad
def opMul : O2 := fun x y h => match x, y with
  | .int i, .int j => if fit i && fit j then .ok (.int (i * j)) h else .bad
  | _, _ => .bad
def opMod : O2 := fun x y h => match x, y with
  | .int i, .int j => if 0 < j then .ok (.int (i % j)) h else .bad
  | _, _ => .bad
def opFdiv : O2 := fun x y h => match x, y with
  | .int i, .int j => if decide (0 < j) && fit j then .ok (.int (i / j)) h else .bad
  | _, _ => .bad
def opPow : O2 := fun x y h => match x, y with
  | .int i, .int j => if decide (0 ≤ j) && (decide (j ≤ 1000) && decide (i.natAbs < 2 ^ 64)) then .ok (.int (i ^ j.toNat)) h else .bad
  | _, _ => .bad
def opShl : O2 := fun x y h => match x, y with
  | .int i, .int j => if decide (0 ≤ j) && (decide (j ≤ 1000) && decide (i.natAbs < 2 ^ 64)) then .ok (.int (i * 2 ^ j.toNat)) h else .bad
  | _, _ => .bad
def opNeg : O1 := fun x h => match x with
  | .int i => .ok (.int (-i)) h
  | _ => .bad
def opLt : O2 := fun x y h => match x, y with
  | .int i, .int j => .ok (.bl (decide (i < j))) h
  | .str a, .str b => .ok (.bl (decide (a.cps.toList < b.cps.toList))) h
  | _, _ => .bad
def opLe : O2 := fun x y h => match x, y with
  | .int i, .int j => .ok (.bl (decide (i ≤ j))) h
  | .str a, .str b => .ok (.bl (!decide (b.cps.toList < a.cps.toList))) h
  | _, _ => .bad
def opGt : O2 := fun x y h => match x, y with
  | .int i, .int j => .ok (.bl (decide (j < i))) h
  | .str a, .str b => .ok (.bl (decide (b.cps.toList < a.cps.toList))) h
  | _, _ => .bad
def opGe : O2 := fun x y h => match x, y with
  | .int i, .int j => .ok (.bl (decide (j ≤ i))) h
  | .str a, .str b => .ok (.bl (!decide (a.cps.toList < b.cps.toList))) h
  | _, _ => .bad
def opEq : O2 := fun x y h => match x.toDh h, y.toDh h with
  | some a, some b => if min a.depth b.depth ≤ 150 then .ok (.bl (PyData.eqv a b)) h else .bad
  | _, _ => .bad
def opNe : O2 := fun x y h => match x.toDh h, y.toDh h with
  | some a, some b => if min a.depth b.depth ≤ 150 then .ok (.bl (!PyData.eqv a b)) h else .bad
  | _, _ => .bad
def opIsN : O2 := fun x y h => match y with
  | .non => .ok (.bl (match x with | .non => true | _ => false)) h
  | _ => .bad
def opNotN : O2 := fun x y h => match y with
  | .non => .ok (.bl (match x with | .non => false | _ => true)) h
  | _ => .bad
/-- a text of one sign -/
def sign? (s : Str) : Option Nat := match s.cps.toList with
  | [c] => some c
  | _ => none
theorem sign_of {s : Str} {c : Nat} (h : sign? s = some c) : s = ⟨#[c]⟩ := by
  unfold sign? at h
  split at h
  · rename_i d e
    cases h
    obtain ⟨a⟩ := s
    have e' : a.toList = [c] := e
    have : a = [c].toArray := by rw [← e']
    rw [this]
  · cases h
/-- in: a sign in a text; an item of a list or tuple of data -/
def opIn : O2 := fun x y h => match y with
  | .str z => (match x with
    | .str a => (match sign? a with
      | some c => .ok (.bl (decide (c ∈ z.cps.toList))) h
      | none => .bad)
    | _ => .bad)
  | y => (match x.toD, y.toDh h with
    | some a, some (.list ds) => if min (PyData.depthAll ds) a.depth ≤ 150 then .ok (.bl (ds.any fun y => PyData.eqv y a)) h else .bad
    | some a, some (.tuple ds) => if min (PyData.depthAll ds) a.depth ≤ 150 then .ok (.bl (ds.any fun y => PyData.eqv y a)) h else .bad
    | _, _ => .bad)
def opNotIn : O2 := fun x y h => match y with
  | .str z => (match x with
    | .str a => (match sign? a with
      | some c => .ok (.bl (!decide (c ∈ z.cps.toList))) h
      | none => .bad)
    | _ => .bad)
  | y => (match x.toD, y.toDh h with
    | some a, some (.list ds) => if min (PyData.depthAll ds) a.depth ≤ 150 then .ok (.bl (!ds.any fun y => PyData.eqv y a)) h else .bad
    | some a, some (.tuple ds) => if min (PyData.depthAll ds) a.depth ≤ 150 then .ok (.bl (!ds.any fun y => PyData.eqv y a)) h else .bad
    | _, _ => .bad)
section
variable {C : RC}
theorem op_addT : OpT C (binaryOp .Add) opAdd := by
  refine OpT.of (op_add.or op_add_str) fun σ H G h x y vx vy Q rp rx ry o => ?_
  unfold opAdd at o
  split at o
  · cases rx; cases ry; exact .inl ⟨_, _, rfl, rfl, out_ok o rp (.int _)⟩
  · cases rx; cases ry
    split at o
    · rename_i hl; exact .inr ⟨_, _, rfl, rfl, hl, out_ok o rp (.str _)⟩
    · exact False.elim o
  · exact False.elim o
theorem op_subT : OpT C (binaryOp .Sub) opSub := by
  refine OpT.of op_sub fun σ H G h x y vx vy Q rp rx ry o => ?_
  unfold opSub at o
  split at o
  · cases rx; cases ry; exact ⟨_, _, rfl, rfl, out_ok o rp (.int _)⟩
  · exact False.elim o
theorem op_mulT : OpT C (binaryOp .Mult) opMul := by
  refine OpT.of op_mulX fun σ H G h x y vx vy Q rp rx ry o => ?_
  unfold opMul at o
  split at o
  · cases rx; cases ry
    split at o
    · rename_i hf
      obtain ⟨f1, f2⟩ := Bool.and_eq_true_iff.mp hf
      exact ⟨_, _, rfl, rfl, mulx_ok (fit_lt f1) (fit_lt f2) (by omega), out_ok o rp (.int _)⟩
    · exact False.elim o
  · exact False.elim o
theorem op_modT : OpT C (binaryOp .Mod) opMod := by
  refine OpT.of op_mod fun σ H G h x y vx vy Q rp rx ry o => ?_
  unfold opMod at o
  split at o
  · cases rx; cases ry
    split at o
    · rename_i hf; exact ⟨_, _, rfl, rfl, hf, out_ok o rp (.int _)⟩
    · exact False.elim o
  · exact False.elim o
theorem op_fdivT : OpT C (binaryOp .FloorDiv) opFdiv := by
  refine OpT.of op_fdivW fun σ H G h x y vx vy Q rp rx ry o => ?_
  unfold opFdiv at o
  split at o
  · cases rx; cases ry
    split at o
    · rename_i hf
      obtain ⟨f1, f2⟩ := Bool.and_eq_true_iff.mp hf
      exact ⟨_, _, rfl, rfl, wide_div (of_decide_eq_true f1) (fit_lt f2) (by omega) (by omega), out_ok o rp (.int _)⟩
    · exact False.elim o
  · exact False.elim o
theorem op_powT : OpT C (binaryOp .Pow) opPow := by
  refine OpT.of op_pow fun σ H G h x y vx vy Q rp rx ry o => ?_
  unfold opPow at o
  split at o
  · cases rx; cases ry
    split at o
    · rename_i hf
      obtain ⟨f1, f2⟩ := Bool.and_eq_true_iff.mp hf
      obtain ⟨f2, f3⟩ := Bool.and_eq_true_iff.mp f2
      have h2 := of_decide_eq_true f2
      exact ⟨_, _, rfl, rfl, ⟨of_decide_eq_true f1, by omega, of_decide_eq_true f3⟩, out_ok o rp (.int _)⟩
    · exact False.elim o
  · exact False.elim o
theorem op_shlT : OpT C (binaryOp .LShift) opShl := by
  refine OpT.of op_shl fun σ H G h x y vx vy Q rp rx ry o => ?_
  unfold opShl at o
  split at o
  · cases rx; cases ry
    split at o
    · rename_i hf
      obtain ⟨f1, f2⟩ := Bool.and_eq_true_iff.mp hf
      obtain ⟨f2, f3⟩ := Bool.and_eq_true_iff.mp f2
      have h2 := of_decide_eq_true f2
      exact ⟨_, _, rfl, rfl, ⟨of_decide_eq_true f1, by omega, of_decide_eq_true f3⟩, out_ok o rp (.int _)⟩
    · exact False.elim o
  · exact False.elim o
theorem un_negT : UnT C (unaryOp .USub) opNeg := by
  refine UnT.of un_neg fun σ H G h x vx Q rp rx o => ?_
  unfold opNeg at o
  split at o
  · cases rx; exact ⟨_, rfl, out_ok o rp (.int _)⟩
  · exact False.elim o
theorem op_ltT' : OpT C (compareOp .Lt) opLt := by
  refine OpT.of (op_lt.or op_lt_str) fun σ H G h x y vx vy Q rp rx ry o => ?_
  unfold opLt at o
  split at o
  · cases rx; cases ry; exact .inl ⟨_, _, rfl, rfl, out_ok o rp (.bl _)⟩
  · cases rx; cases ry; exact .inr ⟨_, _, rfl, rfl, out_ok o rp (.bl _)⟩
  · exact False.elim o
theorem op_leT : OpT C (compareOp .LtE) opLe := by
  refine OpT.of (op_le.or op_le_str) fun σ H G h x y vx vy Q rp rx ry o => ?_
  unfold opLe at o
  split at o
  · cases rx; cases ry; exact .inl ⟨_, _, rfl, rfl, out_ok o rp (.bl _)⟩
  · cases rx; cases ry; exact .inr ⟨_, _, rfl, rfl, out_ok o rp (.bl _)⟩
  · exact False.elim o
theorem op_gtT : OpT C (compareOp .Gt) opGt := by
  refine OpT.of (op_gt.or op_gt_str) fun σ H G h x y vx vy Q rp rx ry o => ?_
  unfold opGt at o
  split at o
  · cases rx; cases ry; exact .inl ⟨_, _, rfl, rfl, out_ok o rp (.bl _)⟩
  · cases rx; cases ry; exact .inr ⟨_, _, rfl, rfl, out_ok o rp (.bl _)⟩
  · exact False.elim o
theorem op_geT : OpT C (compareOp .GtE) opGe := by
  refine OpT.of (op_ge.or op_ge_str) fun σ H G h x y vx vy Q rp rx ry o => ?_
  unfold opGe at o
  split at o
  · cases rx; cases ry; exact .inl ⟨_, _, rfl, rfl, out_ok o rp (.bl _)⟩
  · cases rx; cases ry; exact .inr ⟨_, _, rfl, rfl, out_ok o rp (.bl _)⟩
  · exact False.elim o
theorem RC.Ok.units (ok : C.Ok) : C.X.A.units + 200 < cLine := by have := ok.room.un; omega
/-- == and != of data -/
theorem op_eqT (ok : C.Ok) : OpT C (compareOp .Eq) opEq := by
  intro pins s σ H G h x y vx vy u w Q I rp rx ry vu vw o
  unfold opEq at o
  split at o
  · rename_i a b e1 e2
    split at o
    · rename_i hd
      obtain ⟨⟨as, r1⟩, p1, _⟩ := readsH_of ok.K I rp rx vu e1
      obtain ⟨⟨bs, r2⟩, p2, _⟩ := readsH_of ok.K I rp ry vw e2
      exact PySem.SeqAt.eq_plain r1 r2 p1 p2 (by have := ok.units; omega) ⟨.bl _, H, I, rfl, out_ok o rp (.bl _)⟩
    · exact False.elim o
  · exact False.elim o
theorem op_neT (ok : C.Ok) : OpT C (compareOp .NotEq) opNe := by
  intro pins s σ H G h x y vx vy u w Q I rp rx ry vu vw o
  unfold opNe at o
  split at o
  · rename_i a b e1 e2
    split at o
    · rename_i hd
      obtain ⟨⟨as, r1⟩, p1, _⟩ := readsH_of ok.K I rp rx vu e1
      obtain ⟨⟨bs, r2⟩, p2, _⟩ := readsH_of ok.K I rp ry vw e2
      exact PySem.SeqAt.ne_plain r1 r2 p1 p2 (by have := ok.units; omega) ⟨.bl _, H, I, rfl, out_ok o rp (.bl _)⟩
    · exact False.elim o
  · exact False.elim o
theorem op_isNT : OpT C (compareOp .Is) opIsN := by
  refine OpT.of op_isN fun σ H G h x y vx vy Q rp rx ry o => ?_
  unfold opIsN at o
  split at o
  · cases ry
    refine ⟨rfl, ?_⟩
    cases rx <;> exact out_ok o rp (.bl _)
  · exact False.elim o
theorem op_notNT : OpT C (compareOp .IsNot) opNotN := by
  refine OpT.of op_notN fun σ H G h x y vx vy Q rp rx ry o => ?_
  unfold opNotN at o
  split at o
  · cases ry
    refine ⟨rfl, ?_⟩
    cases rx <;> exact out_ok o rp (.bl _)
  · exact False.elim o
theorem op_inT (ok : C.Ok) : OpT C (compareOp .In) opIn := by
  intro pins s σ H G h x y vx vy u w Q I rp rx ry vu vw o
  unfold opIn at o
  split at o
  · split at o
    · split at o
      · rename_i hs
        cases rx; cases ry
        cases sign_of hs
        exact op_in_sign pins s σ H _ _ u w Q I vu vw ⟨_, _, rfl, rfl, out_ok o rp (.bl _)⟩
      · exact False.elim o
    · exact False.elim o
  · split at o
    · rename_i a ds e1 e2
      split at o
      · rename_i hd
        obtain ⟨as, r1⟩ := reads_of ok.K I rx vu e1
        obtain ⟨p1, _⟩ := plain_toD e1
        obtain ⟨⟨bs, r2⟩, p2, _⟩ := readsH_of ok.K I rp ry vw e2
        exact PySem.SeqAt.in_list_data r2 r1 p2 p1 (by have := ok.units; omega) ⟨.bl _, H, I, rfl, out_ok o rp (.bl _)⟩
      · exact False.elim o
    · rename_i a ds e1 e2
      split at o
      · rename_i hd
        obtain ⟨as, r1⟩ := reads_of ok.K I rx vu e1
        obtain ⟨p1, _⟩ := plain_toD e1
        obtain ⟨⟨bs, r2⟩, p2, _⟩ := readsH_of ok.K I rp ry vw e2
        exact PySem.SeqAt.in_tuple_data r2 r1 p2 p1 (by have := ok.units; omega) ⟨.bl _, H, I, rfl, out_ok o rp (.bl _)⟩
      · exact False.elim o
    · exact False.elim o
theorem op_notInT (ok : C.Ok) : OpT C (compareOp .NotIn) opNotIn := by
  intro pins s σ H G h x y vx vy u w Q I rp rx ry vu vw o
  unfold opNotIn at o
  split at o
  · split at o
    · split at o
      · rename_i hs
        cases rx; cases ry
        cases sign_of hs
        exact op_notIn_sign pins s σ H _ _ u w Q I vu vw ⟨_, _, rfl, rfl, out_ok o rp (.bl _)⟩
      · exact False.elim o
    · exact False.elim o
  · split at o
    · rename_i a ds e1 e2
      split at o
      · rename_i hd
        obtain ⟨as, r1⟩ := reads_of ok.K I rx vu e1
        obtain ⟨p1, _⟩ := plain_toD e1
        obtain ⟨⟨bs, r2⟩, p2, _⟩ := readsH_of ok.K I rp ry vw e2
        exact PySem.SeqAt.notIn_list_data r2 r1 p2 p1 (by have := ok.units; omega) ⟨.bl _, H, I, rfl, out_ok o rp (.bl _)⟩
      · exact False.elim o
    · rename_i a ds e1 e2
      split at o
      · rename_i hd
        obtain ⟨as, r1⟩ := reads_of ok.K I rx vu e1
        obtain ⟨p1, _⟩ := plain_toD e1
        obtain ⟨⟨bs, r2⟩, p2, _⟩ := readsH_of ok.K I rp ry vw e2
        exact PySem.SeqAt.notIn_tuple_data r2 r1 p2 p1 (by have := ok.units; omega) ⟨.bl _, H, I, rfl, out_ok o rp (.bl _)⟩
      · exact False.elim o
    · exact False.elim o
end
end RT
set_option Elab.async false
set_option linter.all false
set_option maxRecDepth 100000
set_option maxHeartbeats 4000000
/-! RT, part d: statements; defs and their promises; calls. -/
namespace RT
open PySem PySem.Spec L2
open PyProof.Rows hiding St

/-! ### statements -/
def R.th {A : Type} (r : R A) (a : StT) (f : A → Hm → R SO) : R SO := match r with
  | .ok x h => f x h
  | .exc e h => .ok (.rse e a) h
  | .bad => .bad
def OutS (C : RC) (H : Hp) (G : Gh) (r : R SO) (D : Ends) : Prop := match r with
  | .ok (.nx a) h => ∀ σ H' G', Step H G H' G' → RepH C.S H' G' h → RelSt C.S H' G' a σ → D.nx σ H'
  | .ok (.brk a) h => ∀ σ H' G', Step H G H' G' → RepH C.S H' G' h → RelSt C.S H' G' a σ → D.bk σ H'
  | .ok (.cont a) h => ∀ σ H' G', Step H G H' G' → RepH C.S H' G' h → RelSt C.S H' G' a σ → D.ct σ H'
  | .ok (.ret t) h => ∀ v H' G', Step H G H' G' → RepH C.S H' G' h → RelT C.S H' G' t v → D.rt v H'
  | .ok (.rse e a) h => ∀ cls d σ H' G', Step H G H' G' → RepH C.S H' G' h → RelSt C.S H' G' a σ → RelX C.S H' G' e cls d → C.W cls d σ H'
  | .exc _ _ => False
  | .bad => False
theorem OutS.step {C : RC} {H H1 : Hp} {G G1 : Gh} {r : R SO} {D : Ends} (s : Step H G H1 G1) (o : OutS C H G r D) : OutS C H1 G1 r D := by
  cases r with
  | ok x h =>
    cases x with
    | nx a => exact fun σ H' G' st => o σ H' G' (s.trans st)
    | brk a => exact fun σ H' G' st => o σ H' G' (s.trans st)
    | cont a => exact fun σ H' G' st => o σ H' G' (s.trans st)
    | ret a => exact fun σ H' G' st => o σ H' G' (s.trans st)
    | rse e a => exact fun c d σ H' G' st => o c d σ H' G' (s.trans st)
  | exc e h => exact o
  | bad => exact o
/-- what is known behind a first run -/
def GotS (C : RC) (H : Hp) (G : Gh) {A B : Type} (Rel : Hp → Gh → A → B → Prop) (f : A → Hm → R SO) (D : Ends) (v : B) (H' : Hp) : Prop :=
  ∃ t G' h', Step H G H' G' ∧ RepH C.S H' G' h' ∧ Rel H' G' t v ∧ OutS C H' G' (f t h') D
theorem OutS.bind {C : RC} {σ : St} {H : Hp} {G : Gh} {A B : Type} {Rel : Hp → Gh → A → B → Prop} {r : R A} {a : StT} {f : A → Hm → R SO} {D : Ends} (rs : RelSt C.S H G a σ) (o : OutS C H G (r.th a f) D) :
    Out C σ H G Rel r (GotS C H G Rel f D) := by
  cases r with
  | ok t h' => exact fun v H' G' st rp rl => ⟨t, G', h', st, rp, rl, OutS.step st o⟩
  | exc e h' => exact fun c d H' G' st rp x => o c d σ H' G' st rp (rs.step st) x
  | bad => exact o
section
variable (C : RC)
def liS (r : SM) : TS := fun D σ H => ∃ a G h, RepH C.S H G h ∧ RelSt C.S H G a σ ∧ OutS C H G (r a h) D
def JS (st : Stmt) (r : SM) : Prop := PS C.X st (liS C r)
def JSs (st : List Stmt) (r : SM) : Prop := PSs C.X st (liS C r)
end
def sNext : SM := fun a h => .ok (.nx a) h
def sSeq (r1 r2 : SM) : SM := fun a h => match r1 a h with
  | .ok (.nx a') h' => r2 a' h'
  | r => r
section
variable {C : RC} {pos : Pos}
theorem JS.run {st : Stmt} {r : SM} (j : JS C st r) {pins : List (Addr × Obj)} {s : Shared} {σ : St} {H : Hp} {G : Gh} {h : Hm} {a : StT} {D : Ends} (I : Inv C.X pins σ H s) (rp : RepH C.S H G h) (rs : RelSt C.S H G a σ) (o : OutS C H G (r a h) D) :
    wpAny (model C.X.prog C.X.w) C.X.A (exec st C.X.env) (SP C.X pins D) C.X.xe s := PS.run j pins s σ H D I ⟨a, G, h, rp, rs, o⟩
theorem JSs.run {st : List Stmt} {r : SM} (j : JSs C st r) {pins : List (Addr × Obj)} {s : Shared} {σ : St} {H : Hp} {G : Gh} {h : Hm} {a : StT} {D : Ends} (I : Inv C.X pins σ H s) (rp : RepH C.S H G h) (rs : RelSt C.S H G a σ) (o : OutS C H G (r a h) D) :
    wpAny (model C.X.prog C.X.w) C.X.A (execs st C.X.env) (SP C.X pins D) C.X.xe s := PSs.run j pins s σ H D I ⟨a, G, h, rp, rs, o⟩
theorem jss_nil : JSs C [] sNext := by
  refine ⟨fun pins s σ H D I hw => ?_⟩
  obtain ⟨a, G, h, rp, rs, o⟩ := hw
  exact pss_nil.run pins s σ H D I (o σ H G Step.refl rp rs)
theorem jss_one {st : Stmt} {r : SM} (j : JS C st r) : JSs C [st] r := pss_one j
theorem jss_cons {st : Stmt} {rest : List Stmt} {r1 r2 : SM} (j1 : JS C st r1) (j2 : JSs C rest r2) : JSs C (st :: rest) (sSeq r1 r2) := by
  refine ⟨fun pins s σ H D I hw => ?_⟩
  obtain ⟨a, G, h, rp, rs, o⟩ := hw
  refine (pss_cons (t := liS C r1) (u := liS C r2) j1 j2).run pins s σ H D I ⟨a, G, h, rp, rs, ?_⟩
  unfold sSeq at o
  cases q : r1 a h with
  | ok x h' =>
    rw [q] at o
    cases x with
    | nx a' => exact fun σ' H' G' st rp' rs' => ⟨a', G', h', rp', rs', OutS.step st o⟩
    | brk a' => exact o
    | cont a' => exact o
    | ret a' => exact o
    | rse e a' => exact o
  | exc e h' => rw [q] at o; exact o
  | bad => rw [q] at o; exact o
theorem js_pass : JS C (.Pass pos) sNext := by
  refine ⟨fun pins s σ H D I hw => ?_⟩
  obtain ⟨a, G, h, rp, rs, o⟩ := hw
  exact ps_pass.run pins s σ H D I (o σ H G Step.refl rp rs)
def sBreak : SM := fun a h => .ok (.brk a) h
def sCont : SM := fun a h => .ok (.cont a) h
theorem js_break : JS C (.Break pos) sBreak := by
  refine ⟨fun pins s σ H D I hw => ?_⟩
  obtain ⟨a, G, h, rp, rs, o⟩ := hw
  exact ps_break.run pins s σ H D I (o σ H G Step.refl rp rs)
theorem js_cont : JS C (.Continue pos) sCont := by
  refine ⟨fun pins s σ H D I hw => ?_⟩
  obtain ⟨a, G, h, rp, rs, o⟩ := hw
  exact ps_continue.run pins s σ H D I (o σ H G Step.refl rp rs)
theorem js_doc {x j p pos'} : JS C (.Expr (.Constant (.str x) j p) pos') sNext := by
  refine ⟨fun pins s σ H D I hw => ?_⟩
  obtain ⟨a, G, h, rp, rs, o⟩ := hw
  exact ps_doc.run pins s σ H D I (o σ H G Step.refl rp rs)
/-- a statement that is never reached -/
def sBad : SM := fun _ _ => .bad
theorem js_bad {st : Stmt} : JS C st sBad := by
  refine ⟨fun pins s σ H D I hw => ?_⟩
  obtain ⟨a, G, h, rp, rs, o⟩ := hw
  exact False.elim o
def sRet (e : ET) : SM := fun a h => (e a h).th a fun t h1 => .ok (.ret t) h1
def sRetN : SM := fun _ h => .ok (.ret .non) h
def sExpr (e : ET) : SM := fun a h => (e a h).th a fun _ h1 => .ok (.nx a) h1
theorem js_ret {e : Expr} {r : ET} (j : JE C e r) : JS C (.Return (some e) pos) (sRet r) := by
  refine ⟨fun pins s σ H D I hw => ?_⟩
  obtain ⟨a, G, h, rp, rs, o⟩ := hw
  refine (ps_ret (te := liE C r) j).run pins s σ H D I ⟨a, G, h, rp, rs, (OutS.bind (Rel := relE C) rs o).mono fun v H1 ⟨t, G1, h1, st1, rp1, rv, o1⟩ => ?_⟩
  exact o1 v H1 G1 Step.refl rp1 rv
theorem js_retN : JS C (.Return none pos) sRetN := by
  refine ⟨fun pins s σ H D I hw => ?_⟩
  obtain ⟨a, G, h, rp, rs, o⟩ := hw
  exact ps_retN.run pins s σ H D I (o .non H G Step.refl rp .non)
theorem js_expr {e : Expr} {r : ET} (j : JE C e r) (hs : swapsWith e none pos.line C.X.env = pure false := by rfl) : JS C (.Expr e pos) (sExpr r) := by
  refine ⟨fun pins s σ H D I hw => ?_⟩
  obtain ⟨a, G, h, rp, rs, o⟩ := hw
  refine (ps_expr (te := liE C r) j hs).run pins s σ H D I ⟨a, G, h, rp, rs, (OutS.bind (Rel := relE C) rs o).mono fun v H1 ⟨t, G1, h1, st1, rp1, rv, o1⟩ => ?_⟩
  exact o1 σ H1 G1 Step.refl rp1 (rs.step st1)
def sIf (c : BT) (x y : SM) : SM := fun a h => (c a h).th a fun b h1 => if b then x a h1 else y a h1
theorem js_if {c : Expr} {x y : List Stmt} {rc : BT} {rx ry : SM} (jc : JB C c rc) (jx : JSs C x rx) (jy : JSs C y ry) : JS C (.If c x y pos) (sIf rc rx ry) := by
  refine ⟨fun pins s σ H D I hw => ?_⟩
  obtain ⟨a, G, h, rp, rs, o⟩ := hw
  refine (ps_if (tc := liB C rc) (t := liS C rx) (u := liS C ry) jc jx jy).run pins s σ H D I ⟨a, G, h, rp, rs, (OutS.bind (Rel := relB) rs o).mono fun v H1 ⟨t, G1, h1, st1, rp1, e, o1⟩ => ?_⟩
  subst e
  cases t with
  | true => exact ⟨a, G1, h1, rp1, rs.step st1, o1⟩
  | false => exact ⟨a, G1, h1, rp1, rs.step st1, o1⟩

/-! ### targets -/
abbrev GT := T → StT → Hm → R StT
def OutG (C : RC) (σ : St) (H : Hp) (G : Gh) (r : R StT) (Q : St → Hp → Prop) : Prop := match r with
  | .ok a h => ∀ σ' H' G', Step H G H' G' → RepH C.S H' G' h → RelSt C.S H' G' a σ' → Q σ' H'
  | .exc e h => ∀ cls d σ' H' G', Step H G H' G' → RepH C.S H' G' h → σ'.length = σ.length → RelX C.S H' G' e cls d → C.W cls d σ' H'
  | .bad => False
def liG (C : RC) (g : GT) : TG := fun v σ H Q => ∃ t a G h, RepH C.S H G h ∧ RelSt C.S H G a σ ∧ RelT C.S H G t v ∧ ∃ a' h', g t a h = .ok a' h' ∧ ∀ σ' H' G', Step H G H' G' → RepH C.S H' G' h' → RelSt C.S H' G' a' σ' → Q σ' H'
def JG (C : RC) (tg : Expr) (g : GT) : Prop := PG C.X tg (liG C g)
def liGs (C : RC) (g : List T → StT → Hm → R StT) : TGs := fun vs σ H Q => ∃ ts a G h, RepH C.S H G h ∧ RelSt C.S H G a σ ∧ RelTs C.S H G ts vs ∧ ∃ a' h', g ts a h = .ok a' h' ∧ ∀ σ' H' G', Step H G H' G' → RepH C.S H' G' h' → RelSt C.S H' G' a' σ' → Q σ' H'
def JGs (C : RC) (ts : List Expr) (g : List T → StT → Hm → R StT) : Prop := PGs C.X ts (liGs C g)
def gNm (i : Nat) : GT := fun t a h => .ok (a.set i (some t)) h
def gsNil : List T → StT → Hm → R StT := fun ts a h => match ts with
  | [] => .ok a h
  | _ => .bad
def gsCons (g : GT) (r : List T → StT → Hm → R StT) : List T → StT → Hm → R StT := fun ts a h => match ts with
  | t :: ts => (g t a h).bind fun a' h' => r ts a' h'
  | [] => .bad
/-- a tuple of targets of n names -/
def gTp (n : Nat) (g : List T → StT → Hm → R StT) : GT := fun t a h => match t with
  | .tup xs => if xs.length = n then g xs a h else .bad
  | _ => .bad
theorem jg_name (ok : C.Ok) {i : Nat} {x : Str} (hi : C.X.N[i]? = some x) (hx : Loc C.X.env.scope x) (hf : C.X.fn x = true ∨ C.X.env.scope.names.lookup x = some .local := by first | exact .inl rfl | exact .inr rfl | assumption) : JG C (.Name x pos) (gNm i) := by
  refine ⟨fun pins s σ H v u Q I r hw => ?_⟩
  obtain ⟨t, a, G, h, rp, rs, rt, a', h', e, q⟩ := hw
  refine (pg_name ok.nd hi hx hf).run pins s σ H v u Q I r ?_
  have e' : R.ok (a.set i (some t)) h = R.ok a' h' := e
  cases e'
  exact q _ H G Step.refl rp (rs.set i rt)
theorem jgs_nil : JGs C [] gsNil := by
  refine ⟨fun pins s σ H vs us Q I r hw => ?_⟩
  obtain ⟨ts, a, G, h, rp, rs, rt, a', h', e, q⟩ := hw
  refine pgs_nil.run pins s σ H vs us Q I r ?_
  cases rt with
  | nil =>
    have e' : R.ok a h = R.ok a' h' := e
    cases e'
    exact ⟨rfl, q _ H G Step.refl rp rs⟩
  | cons _ _ =>
    have e' : (R.bad : R StT) = R.ok a' h' := e
    cases e'
theorem bind_ok {A B : Type} {r : R A} {f : A → Hm → R B} {b : B} {h' : Hm} (e : r.bind f = .ok b h') : ∃ a h, r = .ok a h ∧ f a h = .ok b h' := by
  cases r with
  | ok a h => exact ⟨a, h, rfl, e⟩
  | exc x h => cases e
  | bad => cases e
theorem jgs_cons {e : Expr} {es : List Expr} {g : GT} {gs : List T → StT → Hm → R StT} (j : JG C e g) (js : JGs C es gs)
    (hs : (assignEach (e :: es) C.X.env).map (·.2) = assign e C.X.env :: (assignEach es C.X.env).map (·.2) := by rfl) : JGs C (e :: es) (gsCons g gs) := by
  refine ⟨fun pins s σ H vs us Q I r hw => ?_⟩
  obtain ⟨ts, a, G, h, rp, rs, rt, a', h', e', q⟩ := hw
  refine (pgs_cons (t := liG C g) (u := liGs C gs) j js hs).run pins s σ H vs us Q I r ?_
  cases rt with
  | nil =>
    have e2 : (R.bad : R StT) = R.ok a' h' := e'
    cases e2
  | cons r1 r2 =>
    obtain ⟨a1, h1, e1, e2⟩ := bind_ok (r := g _ a h) e'
    refine ⟨_, _, rfl, _, a, G, h, rp, rs, r1, a1, h1, e1, fun σ1 H1 G1 st1 rp1 rs1 => ?_⟩
    exact ⟨_, a1, G1, h1, rp1, rs1, r2.step st1, a', h', e2, fun σ' H' G' st => q σ' H' G' (st1.trans st)⟩
theorem jg_tup (ok : C.Ok) {es : List Expr} {k : Nat} {n : Nat} {gs : List T → StT → Hm → R StT} (j : JGs C es gs)
    (hn : (assignEach es C.X.env).length = n := by rfl) (hst : (assignEach es C.X.env).findIdx? (·.1) = none := by rfl) : JG C (.Tuple es k pos) (gTp n gs) := by
  refine ⟨fun pins s σ H v u Q I r hw => ?_⟩
  obtain ⟨t, a, G, h, rp, rs, rt, a', h', e, q⟩ := hw
  refine (pg_tup (t := liGs C gs) ok.calm j hn hst).run pins s σ H v u Q I r ?_
  unfold gTp at e
  cases rt with
  | tup hz hr =>
    dsimp only at e
    split at e
    · rename_i hl
      refine ⟨_, _, rfl, by rw [← ok.K]; exact hz.sq, by rw [← hr.length]; exact hl, _, a, G, h, rp, rs, hr, a', h', e, q⟩
    · cases e
  | _ => cases e
/-- target = value -/
def sAsg (e : ET) (g : GT) : SM := fun a h => (e a h).th a fun t h1 => match g t a h1 with
  | .ok a' h' => .ok (.nx a') h'
  | _ => .bad
theorem js_asg {tg e : Expr} {r : ET} {g : GT} (j : JE C e r) (jg : JG C tg g) (hs : swapsWithSole [tg] e pos.line C.X.env = pure false := by rfl) (hw : swappedStores [tg] e C.X.env = pure none := by rfl)
    (h1 : (assignEach [tg] C.X.env).map (·.2) = [assign tg C.X.env] := by rfl) : JS C (.Assign [tg] e pos) (sAsg r g) := by
  refine ⟨fun pins s σ H D I hw' => ?_⟩
  obtain ⟨a, G, h, rp, rs, o⟩ := hw'
  refine (ps_asg (te := liE C r) (g := liG C g) j jg hs hw h1).run pins s σ H D I ⟨a, G, h, rp, rs, (OutS.bind (Rel := relE C) rs o).mono fun v H1 ⟨t, G1, h1, st1, rp1, rv, o1⟩ => ?_⟩
  dsimp only at o1
  split at o1
  · rename_i a' h' e
    exact ⟨t, a, G1, h1, rp1, rs.step st1, rv, a', h', e, o1⟩
  · exact False.elim o1
/-- name = value -/
def sSet (i : Nat) (e : ET) : SM := fun a h => (e a h).th a fun t h1 => .ok (.nx (a.set i (some t))) h1
theorem js_set (ok : C.Ok) {i : Nat} {x : Str} {e : Expr} {r : ET} {pos' : Pos} (hi : C.X.N[i]? = some x) (hx : Loc C.X.env.scope x) (j : JE C e r) (hs : swapsWith e (some (.Name x pos')) pos.line C.X.env = pure false := by rfl)
    (hf : C.X.fn x = true ∨ C.X.env.scope.names.lookup x = some .local := by first | exact .inl rfl | exact .inr rfl | assumption) : JS C (.Assign [.Name x pos'] e pos) (sSet i r) := by
  refine ⟨fun pins s σ H D I hw' => ?_⟩
  obtain ⟨a, G, h, rp, rs, o⟩ := hw'
  refine (ps_set (te := liE C r) ok.nd hi hx j hs hf).run pins s σ H D I ⟨a, G, h, rp, rs, (OutS.bind (Rel := relE C) rs o).mono fun v H1 ⟨t, G1, h1, st1, rp1, rv, o1⟩ => ?_⟩
  exact o1 _ H1 G1 Step.refl rp1 ((rs.step st1).set i rv)
/-- a, b = x, y, plain local names -/
def sPar (i j : Nat) (e : AT) : SM := fun a h => (e a h).th a fun ts h1 => match ts with
  | [x, y] => .ok (.nx ((a.set i (some x)).set j (some y))) h1
  | _ => .bad
theorem js_par (ok : C.Ok) {i j : Nat} {x y : Str} {a b : Expr} {r : AT} {px py pt : Pos} {kt k2 pt2} (hi : C.X.N[i]? = some x) (hj : C.X.N[j]? = some y) (hij : i ≠ j)
    (hx : C.X.env.scope.names.lookup x = some .local) (hy : C.X.env.scope.names.lookup y = some .local) (ja : JA C [a, b] r)
    (hw : swappedStores [.Tuple [.Name x px, .Name y py] kt pt] (.Tuple [a, b] k2 pt2) C.X.env = pure (some [x, y]))
    (hs : swapsWithSole [.Tuple [.Name x px, .Name y py] kt pt] (.Tuple [a, b] k2 pt2) pos.line C.X.env = pure false := by rfl) :
    JS C (.Assign [.Tuple [.Name x px, .Name y py] kt pt] (.Tuple [a, b] k2 pt2) pos) (sPar i j r) := by
  refine ⟨fun pins s σ H D I hw' => ?_⟩
  obtain ⟨st, G, h, rp, rs, o⟩ := hw'
  refine (ps_par (ta := liA C r) ok.calm ok.nd hi hj hij hx hy ja hw hs).run pins s σ H D I ⟨st, G, h, rp, rs, (OutS.bind (Rel := relA C) rs o).mono fun v H1 ⟨t, G1, h1, st1, rp1, rv, o1⟩ => ?_⟩
  cases rv with
  | nil => exact False.elim o1
  | cons q1 q2 =>
    cases q2 with
    | nil => exact False.elim o1
    | cons q3 q4 =>
      cases q4 with
      | nil => exact ⟨_, _, rfl, o1 _ H1 G1 Step.refl rp1 (((rs.step st1).set i q1).set j q3)⟩
      | cons _ _ => exact False.elim o1
/-- name op= value -/
def sAug (i : Nat) (o : O2) (e : ET) : SM := fun a h => match a[i]? with
  | some (some x) => (e a h).th a fun y h1 => (o x y h1).th a fun z h2 => .ok (.nx (a.set i (some z))) h2
  | _ => .bad
theorem js_aug (ok : C.Ok) {i : Nat} {x : Str} {e : Expr} {r : ET} {op : Operator} {o : O2} {pos' : Pos} (hi : C.X.N[i]? = some x) (hx : Loc C.X.env.scope x) (j : JE C e r) (ho : OpT C (inplaceOp op) o)
    (hf : C.X.fn x = true ∨ C.X.env.scope.names.lookup x = some .local := by first | exact .inl rfl | exact .inr rfl | assumption) : JS C (.AugAssign (.Name x pos') op e pos) (sAug i o r) := by
  refine ⟨fun pins s σ H D I hw' => ?_⟩
  obtain ⟨a, G, h, rp, rs, o1⟩ := hw'
  unfold sAug at o1
  split at o1
  · rename_i tx ex
    obtain ⟨v, e1, rx⟩ := rs.2 i tx ex
    obtain ⟨m, hn, hl⟩ := I.loc
    have vis : Vis C.X.env.scope x := by rcases hx with k | k; exact .inl k; exact .inr (.inl k)
    obtain ⟨u, ru, l⟩ := hl i x v hi e1 vis
    refine wpAny_AugAssign_Name ?_
    have go : wpAny (model C.X.prog C.X.w) C.X.A (eval e C.X.env) (fun w s₂ => wpAny (model C.X.prog C.X.w) C.X.A (inplaceOp op u w) (fun r s₃ => wpAny (model C.X.prog C.X.w) C.X.A (storeName C.X.env x r) (fun _ => SP C.X pins D .next) C.X.xe s₃) C.X.xe s₂) C.X.xe s := by
      refine thn (j.run I rp rs (OutS.bind (Rel := relE C) rs o1)) fun w s1 ⟨vy, H1, I1, r1, ty, G1, h1, st1, rp1, ry, o2⟩ => ?_
      refine thn (ho pins s1 σ H1 G1 h1 tx ty v vy u w _ I1 rp1 (rx.step st1) ry ru r1 (OutS.bind (Rel := relE C) (rs.step st1) o2)) fun z s2 ⟨vz, H2, I2, r2, tz, G2, h2, st2, rp2, rz, o3⟩ => ?_
      exact store_ok I2 ok.nd hi hx r2 (fun s3 I3 => ⟨_, H2, I3, o3 _ H2 G2 Step.refl rp2 (((rs.step st1).step st2).set i rz)⟩) hf
    rcases l with ⟨hk, hm⟩ | ⟨hk, c, hc, hcell⟩
    · exact wpAny_loadName_local I.ok.kind hk hn hm go
    · rcases hk with hk | hk
      · exact wpAny_loadName_cell I.ok.kind hk hc hcell go
      · rcases hx with k | k
        · have : C.X.env.scope.names.lookup x = some .free := hk
          rw [k] at this; cases this
        · have : C.X.env.scope.names.lookup x = some .free := hk
          rw [k] at this; cases this
  · exact False.elim o1

/-! ### while -/
def whileN (c : BT) (b : SM) : Nat → SM
  | 0, _, _ => .bad
  | n + 1, a, h => (c a h).th a fun t h1 => if t then (match b a h1 with
    | .ok (.nx a') h' => whileN c b n a' h'
    | .ok (.cont a') h' => whileN c b n a' h'
    | .ok (.brk a') h' => .ok (.nx a') h'
    | r => r) else .ok (.nx a) h1
def R.isBad {A : Type} : R A → Bool
  | .bad => true
  | _ => false
open Classical in
/-- the loop, however many turns it takes -/
noncomputable def sWhile (c : BT) (b : SM) : SM := fun a h => if e : ∃ n, (whileN c b n a h).isBad = false then whileN c b (Classical.choose e) a h else .bad
theorem js_whileN {c : Expr} {body : List Stmt} {rc : BT} {rb : SM} (hp : PassesOwn (model C.X.prog C.X.w) C.X.A C.X.env C.X.xe) (jc : JB C c rc) (jb : JSs C body rb) (n : Nat) : JS C (.While c body [] pos) (whileN rc rb n) := by
  refine ⟨fun pins s σ H D I hw => ?_⟩
  refine (ps_while (tc := liB C rc) (tb := liS C rb) hp jc jb).run pins s σ H D I ?_
  refine ⟨fun m σ H => ∃ a G h, RepH C.S H G h ∧ RelSt C.S H G a σ ∧ OutS C H G (whileN rc rb m a h) D, ⟨n, hw⟩, fun m σ1 H1 w => ?_⟩
  obtain ⟨a, G, h, rp, rs, o⟩ := w
  cases m with
  | zero => exact False.elim o
  | succ m =>
    refine ⟨a, G, h, rp, rs, (OutS.bind (Rel := relB) rs o).mono fun v H2 ⟨t, G2, h2, st2, rp2, e, o2⟩ => ?_⟩
    subst e
    dsimp only at o2
    cases t with
    | false => exact o2 σ1 H2 G2 Step.refl rp2 (rs.step st2)
    | true =>
      refine ⟨fun σ' H' => ∃ a' G' h', RepH C.S H' G' h' ∧ RelSt C.S H' G' a' σ' ∧ OutS C H' G' (whileN rc rb m a' h') D, fun σ' H' z => ⟨m, Nat.lt_succ_self _, z⟩, a, G2, h2, rp2, rs.step st2, ?_⟩
      rw [if_pos rfl] at o2
      cases q : rb a h2 with
      | ok x h' =>
        rw [q] at o2
        cases x with
        | nx a' => exact fun σ' H' G' st rp' rs' => ⟨a', G', h', rp', rs', OutS.step st o2⟩
        | cont a' => exact fun σ' H' G' st rp' rs' => ⟨a', G', h', rp', rs', OutS.step st o2⟩
        | brk a' => exact o2
        | ret a' => exact o2
        | rse e a' => exact o2
      | exc e h' => rw [q] at o2; exact o2
      | bad => rw [q] at o2; exact o2
theorem js_while {c : Expr} {body : List Stmt} {rc : BT} {rb : SM} (hp : PassesOwn (model C.X.prog C.X.w) C.X.A C.X.env C.X.xe) (jc : JB C c rc) (jb : JSs C body rb) : JS C (.While c body [] pos) (sWhile rc rb) := by
  refine ⟨fun pins s σ H D I hw => ?_⟩
  obtain ⟨a, G, h, rp, rs, o⟩ := hw
  unfold sWhile at o
  split at o
  · exact (js_whileN hp jc jb _).run I rp rs o
  · exact False.elim o
end
end RT
set_option Elab.async false
set_option linter.all false
set_option maxRecDepth 100000
set_option maxHeartbeats 4000000
/-! RT, part e: defs and their promises; calls of defs, of methods, of classes; fields. -/
namespace RT
open PySem PySem.Spec L2
open PyProof.Rows hiding St

/-! ### a def's run -/
/-- the slots at the entry -/
def st0 (n : Nat) (ts : List T) : StT := ts.map some ++ List.replicate (n - ts.length) none
def endOf : R SO → R T
  | .ok (.ret t) h => .ok t h
  | .ok (.nx _) h => .ok .non h
  | .ok (.rse e _) h => .exc e h
  | _ => .bad
/-- the first n cells stay; a value that names a further one keeps them all -/
def fin (n : Nat) : R T → R T
  | .ok t h => if t.noRef then .ok t (h.take n) else .ok t h
  | .exc e h => if e.noRef then .exc e (h.take n) else .bad
  | .bad => .bad
/-- a list that is a cell: frozen -/
def frz : R T → R T
  | .ok t h => (match t with
    | .ref l => (match h[l]? with
      | some (some (.lst xs)) => .ok (.lst xs) (h.set l none)
      | _ => .bad)
    | t => .ok t h)
  | r => r
/-- a def of n names -/
def run (n : Nat) (b : SM) : List T → Hm → R T := fun ts h => fin h.length (endOf (b (st0 n ts) h))
def runF (n : Nat) (b : SM) : List T → Hm → R T := fun ts h => fin h.length (frz (endOf (b (st0 n ts) h)))
/-- how a run's end is told to a caller -/
def EndT (S : Sta) (H : Hp) (G : Gh) (r : R T) (Q : VK) (E : XK) : Prop := match r with
  | .ok t h' => ∀ v H' G', Step H G H' G' → RepH S H' G' h' → RelT S H' G' t v → Q v H'
  | .exc e h' => ∀ cls d H' G', Step H G H' G' → RepH S H' G' h' → RelX S H' G' e cls d → E cls d H'
  | .bad => False
def spT (S : Sta) (n : Nat) (f : List T → Hm → R T) : Sp := fun vs H Q E => ∃ ts G h, RepH S H G h ∧ RelTs S H G ts vs ∧ vs.length = n ∧ EndT S H G (f ts h) Q E
theorem EndT.step {S : Sta} {H H1 : Hp} {G G1 : Gh} {r : R T} {Q : VK} {E : XK} (s : Step H G H1 G1) (o : EndT S H G r Q E) : EndT S H1 G1 r Q E := by
  cases r with
  | ok t h => exact fun v H' G' st => o v H' G' (s.trans st)
  | exc t h => exact fun c d H' G' st => o c d H' G' (s.trans st)
  | bad => exact o
theorem RelX.indep {S : Sta} {H : Hp} {G G' : Gh} (s : ∀ a, G.Z a → G'.Z a) {e : T} {cls : Value} {d : Option Addr} (r : RelX S H G e cls d) (hn : e.noRef = true) : RelX S H G' e cls d := by
  obtain ⟨c, fs, rfl, h2, h⟩ := r
  refine ⟨c, fs, rfl, h2, ?_⟩
  rcases h with h | ⟨dd, vs, e1, z, e2, r⟩
  · exact .inl h
  · exact .inr ⟨dd, vs, e1, s _ z, e2, RelFs.indep (G' := G') s r (by rw [T.noRef] at hn; exact hn)⟩
/-- the cut at the end -/
theorem EndT.fin {S : Sta} {H : Hp} {G : Gh} {r : R T} {n : Nat} (hn : G.mu.length = n) {Q : VK} {E : XK} (o : EndT S H G (fin n r) Q E) : EndT S H G r Q E := by
  cases r with
  | ok t h =>
    unfold RT.fin at o
    dsimp only at o
    split at o
    · rename_i nr
      refine fun v H' G' st rp rv => o v H' (G'.cut n) ?_ (rp.cut n) (RelT.indep (G := G') (G' := G'.cut n) (fun _ z => z) rv nr)
      rw [← hn]; exact st.cut
    · exact o
  | exc e h =>
    unfold RT.fin at o
    dsimp only at o
    split at o
    · rename_i nr
      refine fun c d H' G' st rp rx => o c d H' (G'.cut n) ?_ (rp.cut n) (RelX.indep (G := G') (G' := G'.cut n) (fun _ z => z) rx nr)
      rw [← hn]; exact st.cut
    · exact False.elim o
  | bad => exact o
theorem EndT.frz {S : Sta} {H : Hp} {G : Gh} {r : R T} {Q : VK} {E : XK} (o : EndT S H G (frz r) Q E) : EndT S H G r Q E := by
  cases r with
  | ok t h =>
    unfold RT.frz at o
    dsimp only at o
    split at o
    · rename_i l
      split at o
      · rename_i xs q
        intro v H' G' st rp rv
        cases rv with
        | ref hl =>
          obtain ⟨a, u, h1, h2, h3, h4, h5⟩ := rp.cell l _ q
          rw [hl] at h1; cases h1
          cases h3 with
          | lst rs =>
            obtain ⟨st2, rp2⟩ := rp.freeze hl (by rw [h2]; simp)
            exact o _ H' _ (st.trans st2) rp2 (.lst (.inl ⟨.inl rfl, .inl h2⟩) (rs.step st2))
      · exact False.elim o
    · exact o
  | exc e h => exact o
  | bad => exact o
/-- what a body's end wants, of a caller's wishes -/
theorem EndT.outS {C : RC} {H : Hp} {G : Gh} {r : R SO} {Q : VK} {E : XK} (hW : ∀ cls d σ H, E cls d H → C.W cls d σ H) (o : EndT C.S H G (endOf r) Q E) : OutS C H G r { nx := fun _ H' => Q .non H', rt := Q } := by
  cases r with
  | ok x h =>
    cases x with
    | nx a => exact fun σ H' G' st rp rs => o .non H' G' st rp .non
    | ret t => exact o
    | rse e a => exact fun c d σ H' G' st rp rs rx => hW c d σ H' (o c d H' G' st rp rx)
    | brk a => exact False.elim o
    | cont a => exact False.elim o
  | exc e h => exact False.elim o
  | bad => exact False.elim o

/-! ### a def keeps its promise -/
structure FnG (P : Program) (w : World) (K : PySem.W.Frag) (mg : Str → Option Value) (base : Heap) (k : Nat) (f : Addr) (fd : FuncData) (ps : List Str) (sp : Sp) : Prop where
  len : ∀ vs H Q E, sp vs H Q E → vs.length = ps.length
  run : ∀ (A : Around) (outer : List Env) (s : Shared) (H : Hp) (args : Args) (us : List Value) (vs : List V) (Q : VK) (E : XK), Room k A → GdK k A → Env0 P w K mg base A outer s H → BindsTo s fd args (ps.zip us) → Vals vs us → sp vs H Q E →
    codeAny (model P w) A (.call (.ref f) args) (CR (L2.CX P w) outer P w H s Q E) s
theorem FnG.mono {P : Program} {w : World} {K : PySem.W.Frag} {mg : Str → Option Value} {base : Heap} {j k : Nat} {f : Addr} {fd : FuncData} {ps : List Str} {sp : Sp} (F : FnG P w K mg base j f fd ps sp) (h : j ≤ k) : FnG P w K mg base k f fd ps sp :=
  ⟨F.len, fun A outer s H args us vs Q E hr hd => F.run A outer s H args us vs Q E (hr.mono h) (hd.mono h)⟩
theorem FnG.ok {P : Program} {w : World} {K : PySem.W.Frag} {mg : Str → Option Value} {base : Heap} {k : Nat} {f : Addr} {fd : FuncData} {ps : List Str} {sp : Sp} {A : Around} (F : FnG P w K mg base k f fd ps sp) : True := trivial
/-- the context of a def's body -/
abbrev bodyC (P : Program) (w : World) (S : Sta) (mg : Str → Option Value) (base : Heap) (N : List Str) (qual : Str) (scope : Scope) (f : Addr) (cd : Value) (A : Around) (outer : List Env) (s : Shared) (H : Hp) (E : XK) (k : Nat) : RC :=
  ⟨cxOf (L2.CX P w) P w S.K mg base N qual scope f cd A outer s H E, S, fun cls d _ H => E cls d H, k⟩
theorem fn_ofG {P : Program} {w : World} {S : Sta} {mg : Str → Option Value} {base : Heap} {k : Nat} {f : Addr} {x qual : Str} {params : Arguments} {body : List Stmt} {scope : Scope} {dvs : List V} {kws : List (Str × V)} {fd : FuncData} {N ps : List Str} {b : SM} {g : List T → Hm → R T}
    (F : FunD S.K x qual params body scope dvs kws f fd) (Sc : FnScope N ps scope)
    (hg : ∀ ts H G h Q E, EndT S H G (g ts h) Q E → G.mu.length = h.length → EndT S H G (endOf (b (st0 N.length ts) h)) Q E)
    (hbody : ∀ (C : RC), C.Ok → C.X.prog = P → C.X.w = w → C.S = S → C.X.mg = mg → C.X.base = base → C.X.N = N → C.X.env.scope = scope → C.k = k → (∀ y, C.X.fn y = true) → PassesOwn (model C.X.prog C.X.w) C.X.A C.X.env C.X.xe → C.X.stack = C.X.env :: C.X.outer → C.X.env.frame = some C.X.env.locals → C.X.ex = [] → JSs C body b) :
    FnG P w S.K mg base (k + 1) f fd ps (spT S ps.length g) := by
  obtain ⟨oc, od, dV, kV, doc, pm, an, cdv, ct, osl, rfl, lk, hcd, _, _⟩ := F.ex
  refine ⟨fun vs H Q E ⟨ts, G, h, _, _, l, _⟩ => l, fun A outer s H args us vs Q E hr gd e0 hb r hsp => ?_⟩
  obtain ⟨ts, G, h, rp, rt, hl, o⟩ := hsp
  have KX : S.K.In s.heap := e0.mod.kin.keeps fun b o e => (e0.bs b o e).1
  have lim : s.heap.NoLimit := e0.mod.nolimit.keeps fun b o e => (e0.bs b o e).1
  have hkind : ∀ y ∈ ps.zip us, scope.names.lookup y.1 = some .local ∨ (scope.names.lookup y.1 = some .cell ∧ ((cellsFrom (s.heap.objs.size + 1) scope.names []).lookup y.1).isSome = true) := fun ⟨n, v⟩ hy => by
    rcases Sc.par n (List.of_mem_zip hy).1 with q | q
    · exact .inl q
    · exact .inr ⟨q, PySem.W.cellsFrom_some _ _ _ (.inl q)⟩
  refine codeAny_call_function hr.depth (KX _ _ lk) rfl Sc.co Sc.gen rfl (PySem.W.codeRec_of KX hcd) (hb _ _ _ _ ?_)
  refine wpAny_newFunctionEnv_cells Sc.kind hkind fun env he s1 x => ?_
  subst he
  refine ⟨lim.keeps x.toInCall.keep, codeAny_func ?_⟩
  have ok : (bodyC P w S mg base N qual scope f cdv A outer s H E k).Ok := by
    refine ⟨rfl, rfl, hr.deeper _, (GdK.mono (A := A) gd (Nat.le_succ k)), Sc.nd, ?_⟩
    exact takes_of (X := cxOf (L2.CX P w) P w S.K mg base N qual scope f cdv A outer s H E) rfl rfl rfl rfl
  have jb := hbody (bodyC P w S mg base N qual scope f cdv A outer s H E k) ok rfl rfl rfl rfl rfl rfl rfl rfl (fun _ => rfl) (passes_of (X := cxOf (L2.CX P w) P w S.K mg base N qual scope f cdv A outer s H E) rfl) rfl rfl rfl
  have I : Inv (bodyC P w S mg base N qual scope f cdv A outer s H E k).X [] (L2.start N vs) H s1 := inv_start Sc hr.hd e0 hl r x
  have rs : RelSt S H G (st0 N.length ts) (L2.start N vs) := by
    have l2 := rt.length
    refine ⟨by simp [st0, L2.start, l2], fun i t e => ?_⟩
    have hi : i < ts.length := by
      by_cases hi : i < ts.length
      · exact hi
      · unfold st0 at e
        rw [List.getElem?_append_right (by simpa using hi), List.getElem?_replicate] at e
        split at e <;> cases e
    have e1 : ts[i]? = some t := by
      unfold st0 at e
      rw [List.getElem?_append_left (by simpa using hi), List.getElem?_map] at e
      cases q : ts[i]? with
      | none => rw [q] at e; cases e
      | some a => rw [q] at e; cases e; rfl
    obtain ⟨v, h1, h2⟩ := rt.get e1
    refine ⟨v, ?_, h2⟩
    unfold L2.start
    rw [List.getElem?_append_left (by simp; omega), List.getElem?_map, h1]
    rfl
  have o2 : OutS (bodyC P w S mg base N qual scope f cdv A outer s H E k) H G (b (st0 N.length ts) h) { nx := fun _ H' => Q .non H', rt := Q } := EndT.outS (fun _ _ _ _ z => z) (hg ts H G h Q E o rp.len.symm)
  refine wpAny_mono (jb.run I rp rs o2) (fun fl s' hs => ?_) fun e s' hs => hs
  have fin : ∀ {σ' : St} {H' : Hp} {v : V} {u : Value}, Inv (bodyC P w S mg base N qual scope f cdv A outer s H E k).X [] σ' H' s' → RelV v u → Q v H' → CE outer P w H s Q u s' :=
    fun {σ' H' v u} J rv q => ⟨v, H', J.os, J.bare, J.base, J.hok, rv, q⟩
  cases fl with
  | ret u =>
    obtain ⟨v, σ', H', J, rv, q⟩ := hs
    exact fin J rv q
  | next =>
    obtain ⟨σ', H', J, q⟩ := hs
    exact fin (v := V.non) (u := Value.none) J rfl q
  | brk =>
    obtain ⟨_, _, _, q⟩ := hs
    exact False.elim q
  | cont =>
    obtain ⟨_, _, _, q⟩ := hs
    exact False.elim q
/-- a def whose mirror is run n b -/
theorem fn_run {S : Sta} {n : Nat} {b : SM} (ts : List T) (H : Hp) (G : Gh) (h : Hm) (Q : VK) (E : XK) (o : EndT S H G (run n b ts h) Q E) (e : G.mu.length = h.length) : EndT S H G (endOf (b (st0 n ts) h)) Q E := EndT.fin e o
theorem fn_runF {S : Sta} {n : Nat} {b : SM} (ts : List T) (H : Hp) (G : Gh) (h : Hm) (Q : VK) (E : XK) (o : EndT S H G (runF n b ts h) Q E) (e : G.mu.length = h.length) : EndT S H G (endOf (b (st0 n ts) h)) Q E := EndT.frz (EndT.fin e o)

/-! ### how arguments come to parameters -/
structure BindT (S : Sta) (fd : FuncData) (ps : List Str) (n : Nat) (ks : List Str) (arr : List T → List T → List T) : Prop where
  ex : ∃ (gU : List Value → List Value → List Value) (gV : List V → List V → List V),
    (∀ (s : Shared) (us ws : List Value), S.K.In s.heap → us.length = n → ws.length = ks.length → BindsTo s fd ⟨us, ks.zip ws⟩ (ps.zip (gU us ws))) ∧
    (∀ {vs us vz ws}, Vals vs us → Vals vz ws → Vals (gV vs vz) (gU us ws)) ∧
    (∀ {H G ts vs tz vz}, RelTs S H G ts vs → RelTs S H G tz vz → RelTs S H G (arr ts tz) (gV vs vz)) ∧
    (∀ vs vz, vs.length = n → vz.length = ks.length → (gV vs vz).length = ps.length)
/-- all are given by position -/
def arrP (ts : List T) (_ : List T) : List T := ts
theorem BindT.pos {S : Sta} {fd : FuncData} {ps : List Str} (h : Binds S.K fd ps []) : BindT S fd ps ps.length [] arrP :=
  ⟨fun us _ => us, fun vs _ => vs, fun s us ws X hl _ => by
    have := h s us X (by simpa using hl)
    simpa using this, fun r _ => r, fun r _ => r, fun _ _ h _ => h⟩
/-- the last ones by their defaults -/
def arrD (ds : List T) (ts : List T) (_ : List T) : List T := ts ++ ds
theorem BindT.dfl {S : Sta} {fd : FuncData} {ps : List Str} {dvs : List V} {dus : List Value} {n : Nat} (ds : List T) (h : Binds S.K fd ps dus) (hv : Vals dvs dus) (hd : ∀ H G, RelTs S H G ds dvs) (hn : n + dvs.length = ps.length) : BindT S fd ps n [] (arrD ds) :=
  ⟨fun us _ => us ++ dus, fun vs _ => vs ++ dvs, fun s us ws X hl _ => h s us X (by simp [hl, ← hv.length, hn]), fun r _ => r.append hv, fun r _ => r.app (hd _ _), fun _ _ h _ => by simp [h, hn]⟩
theorem BindT.kw {S : Sta} {fd : FuncData} {ps ks : List Str} {n : Nat} {g : List Value → List Value → List Value} {gV : List V → List V → List V} (arr : List T → List T → List T) (h : KBn S.K fd ps n ks g gV)
    (hr : ∀ {H G ts vs tz vz}, RelTs S H G ts vs → RelTs S H G tz vz → RelTs S H G (arr ts tz) (gV vs vz)) (hl : ∀ vs vz, vs.length = n → vz.length = ks.length → (gV vs vz).length = ps.length) : BindT S fd ps n ks arr :=
  ⟨g, gV, h.to, h.rel, hr, hl⟩

/-! ### what may be called -/
abbrev O3 := List T → List T → Hm → R T
def CaK (C : RC) (f : Value) (n : Nat) (ks : List Str) (o : O3) : Prop :=
  ∀ (pins : List (Addr × Obj)) (s : Shared) (σ : St) (H : Hp) (G : Gh) (h : Hm) (xs zs : List T) (vs vz : List V) (us ws : List Value) (Q : VK), Inv C.X pins σ H s → RepH C.S H G h → RelTs C.S H G xs vs → RelTs C.S H G zs vz → Vals vs us → Vals vz ws →
    us.length = n → ws.length = ks.length → Out C σ H G (relE C) (o xs zs h) Q → wpAny (model C.X.prog C.X.w) C.X.A (call f us (ks.zip ws)) (EP C.X pins σ Q) C.X.xe s
theorem Out.endT {C : RC} {σ : St} {H : Hp} {G : Gh} {r : R T} {Q : VK} (o : Out C σ H G (relE C) r Q) : EndT C.S H G r Q (fun cls d H' => C.W cls d σ H') := by
  cases r with
  | ok t h => exact o
  | exc e h => exact o
  | bad => exact o
/-- a def, called with n positional arguments and keywords ks -/
structure FnC (P : Program) (w : World) (S : Sta) (mg : Str → Option Value) (base : Heap) (k : Nat) (f : Addr) (n : Nat) (ks : List Str) (o : O3) : Prop where
  run : ∀ (A : Around) (outer : List Env) (s : Shared) (H : Hp) (G : Gh) (h : Hm) (xs zs : List T) (vs vz : List V) (us ws : List Value) (Q : VK) (E : XK), Room k A → GdK k A → Env0 P w S.K mg base A outer s H → S.K.In s.heap → RepH S H G h → RelTs S H G xs vs → RelTs S H G zs vz → Vals vs us → Vals vz ws →
    us.length = n → ws.length = ks.length → EndT S H G (o xs zs h) Q E → codeAny (model P w) A (.call (.ref f) ⟨us, ks.zip ws⟩) (CR (L2.CX P w) outer P w H s Q E) s
theorem FnC.mono {P : Program} {w : World} {S : Sta} {mg : Str → Option Value} {base : Heap} {j k : Nat} {f : Addr} {n : Nat} {ks : List Str} {o : O3} (F : FnC P w S mg base j f n ks o) (h : j ≤ k) : FnC P w S mg base k f n ks o :=
  ⟨fun A outer s H G hh xs zs vs vz us ws Q E hr hd => F.run A outer s H G hh xs zs vs vz us ws Q E (hr.mono h) (hd.mono h)⟩
theorem FnG.toC {P : Program} {w : World} {S : Sta} {mg : Str → Option Value} {base : Heap} {k : Nat} {f : Addr} {fd : FuncData} {ps ks : List Str} {n : Nat} {arr : List T → List T → List T} {g : List T → Hm → R T}
    (F : FnG P w S.K mg base k f fd ps (spT S ps.length g)) (B : BindT S fd ps n ks arr) : FnC P w S mg base k f n ks (fun xs zs h => g (arr xs zs) h) := by
  refine ⟨fun A outer s H G h xs zs vs vz us ws Q E hr gd e0 KX rp rx rz vu vw l1 l2 o => ?_⟩
  obtain ⟨gU, gV, b1, b2, b3, b4⟩ := B.ex
  exact F.run A outer s H ⟨us, ks.zip ws⟩ (gU us ws) (gV vs vz) Q E hr gd e0 (b1 s us ws KX l1 l2) (b2 vu vw) ⟨_, G, h, rp, b3 rx rz, b4 _ _ (by rw [vu.length]; exact l1) (by rw [vw.length]; exact l2), o⟩
theorem CaK.fnC {C : RC} (ok : C.Ok) {k : Nat} {f : Addr} {ks : List Str} {n : Nat} {o : O3}
    (F : FnC C.X.prog C.X.w C.S C.X.mg C.X.base k f n ks o) (hk : k ≤ C.k) : CaK C (.ref f) n ks o := by
  intro pins s σ H G h xs zs vs vz us ws Q I rp rx rz vu vw l1 l2 o
  have KX : C.S.K.In s.heap := by rw [ok.K]; exact I.kIn
  have e0 : Env0 C.X.prog C.X.w C.S.K C.X.mg C.X.base C.X.A C.X.stack s H := by rw [ok.K]; exact I.env0
  refine wpAny_call (codeAny_mono (F.run C.X.A C.X.stack s H G h xs zs vs vz us ws Q (fun cls d H' => C.W cls d σ H') (ok.room.mono hk) (ok.gd.mono hk) e0 KX rp rx rz vu vw l1 l2 o.endT) fun r s' hq => ?_)
  cases r with
  | error e => exact ok.tk e s' (XE.of_call I (fun _ _ _ z => z) hq)
  | ok fl =>
    cases fl with
    | ret u => exact I.after hq
    | next => exact False.elim hq
    | brk => exact False.elim hq
    | cont => exact False.elim hq
theorem CaK.fn {C : RC} (ok : C.Ok) {k : Nat} {f : Addr} {fd : FuncData} {ps ks : List Str} {n : Nat} {arr : List T → List T → List T} {g : List T → Hm → R T}
    (F : FnG C.X.prog C.X.w C.S.K C.X.mg C.X.base k f fd ps (spT C.S ps.length g)) (B : BindT C.S fd ps n ks arr) (hk : k ≤ C.k) : CaK C (.ref f) n ks (fun xs zs h => g (arr xs zs) h) := CaK.fnC ok (F.toC B) hk
/-- a class that is made: __init__ at a new cell, which is frozen behind it -/
def mkFin (c n : Nat) : R T → R T
  | .ok t h => (match t, h[n]? with
    | .non, some (some (.ins c' fs)) => if c' = c then .ok (.obj c fs) (h.take n) else .bad
    | _, _ => .bad)
  | .exc e h => if e.noRef then .exc e (h.take n) else .bad
  | .bad => .bad
def mkC (c : Nat) (o : O3) : O3 := fun xs zs h => mkFin c h.length (o (.ref h.length :: xs) zs (h ++ [some (.ins c [])]))
def mkO (c : Nat) (g : List T → Hm → R T) (arr : List T → List T → List T) : O3 := fun xs zs h => mkFin c h.length (g (arr (.ref h.length :: xs) zs) (h ++ [some (.ins c [])]))
theorem guards_make {k : Nat} {A : Around} {C : Addr} {us : List Value} {kw : List (Str × Value)} (h : GdK k A) : GdK k (A.under (.builtin "type.__call__" ⟨.ref C :: us, kw⟩)) := by
  obtain ⟨g, e, z⟩ := h
  refine ⟨g, ?_, z⟩
  show pushGuards (Code.guards (.builtin "type.__call__" ⟨.ref C :: us, kw⟩)) A.guards = some g
  rw [e]
  first | rfl | simp [pushGuards, Code.guards, Code.isGuard, guardIds]
theorem CaK.makeC {C : RC} (ok : C.Ok) {k c : Nat} {f : Addr} {ks : List Str} {n : Nat} {oo : O3} (M : Mk C.S.K (C.S.cls c) f)
    (F : FnC C.X.prog C.X.w C.S C.X.mg C.X.base k f (n + 1) ks oo) (hk : k + 1 ≤ C.k) : CaK C (.ref (C.S.cls c)) n ks (mkC c oo) := by
  intro pins s σ H G h xs zs vs vz us ws Q I rp rx rz vu vw l1 l2 o
  have hr : Room (k + 1) C.X.A := ok.room.mono hk
  have I2 := Inv.made (C := C.S.cls c) I
  have f1 : H s.heap.objs.size = none := I.hok.fresh (Nat.le_refl _)
  have f2 : (upd H s.heap.objs.size (.own (s.heap.objs.size + 1))) (s.heap.objs.size + 1) = none := by
    rw [upd_ne (Nat.succ_ne_self _)]; exact I.hok.fresh (Nat.le_succ _)
  have g1 := grown_upd (o := .own (s.heap.objs.size + 1)) f1
  have st1 := g1.step fun a z => rp.there a (.inr z)
  have rp1 := rp.grown g1
  obtain ⟨st2, rp2⟩ := rp1.newC (o := .ins (C.S.cls c) s.heap.objs.size []) (c := .ins c []) f2 (.ins .nil) rfl
  have st3 := st1.trans st2
  have eref : (G.ad (s.heap.objs.size + 1)).mu[h.length]? = some (s.heap.objs.size + 1) := by
    show (G.mu ++ [s.heap.objs.size + 1])[h.length]? = _
    rw [rp.len, List.getElem?_append_right (Nat.le_refl _)]; simp
  have rx' : RelTs C.S _ (G.ad (s.heap.objs.size + 1)) (.ref h.length :: xs) (.ref (s.heap.objs.size + 1) :: vs) := .cons (.ref eref) (rx.step st3)
  have KX : C.S.K.In { s with heap := (s.heap.push PySem.W.emptyDict).push (PySem.W.instObj (C.S.cls c) s.heap.objs.size) }.heap := by rw [ok.K]; exact I2.kIn
  have e0 := I2.env0.make (C.S.cls c) us (ks.zip ws)
  rw [← ok.K] at e0
  have hmu : (G.ad (s.heap.objs.size + 1)).mu.length = h.length + 1 := by simp [Gh.ad, rp.len]
  have hend : EndT C.S (upd (upd H s.heap.objs.size (.own (s.heap.objs.size + 1))) (s.heap.objs.size + 1) (.ins (C.S.cls c) s.heap.objs.size [])) (G.ad (s.heap.objs.size + 1)) (oo (.ref h.length :: xs) zs (h ++ [some (.ins c [])])) (fun v H2 => v = .non ∧ Q (.ref (s.heap.objs.size + 1)) H2) (fun cls d H' => C.W cls d σ H') := by
    have o2 := Out.endT o
    unfold mkC at o2
    cases q : oo (.ref h.length :: xs) zs (h ++ [some (.ins c [])]) with
    | ok t h' =>
      rw [q] at o2
      unfold mkFin at o2
      dsimp only at o2
      split at o2
      · rename_i c' fs e2
        split at o2
        · rename_i ec
          subst ec
          intro v H' G' st rp' rv
          cases rv
          refine ⟨rfl, ?_⟩
          obtain ⟨a, u, h1, h2, h3, h4, h5⟩ := rp'.cell _ _ e2
          rw [st.get eref] at h1; cases h1
          cases h3 with
          | ins rf =>
            obtain ⟨st4, rp4⟩ := rp'.freeze (st.get eref) (by rw [h2]; simp)
            have cutl : ((h'.set h.length none).take h.length) = h'.take h.length := by rw [List.take_set_of_le (Nat.le_refl _)]
            have rp5 := rp4.cut h.length
            rw [cutl] at rp5
            have st5 := ((st3.trans st).trans st4).cut
            rw [← rp.len] at st5
            exact o2 _ H' _ st5 rp5 (.obj (.inl rfl) h2 (RelFs.indep (G := G') (G' := (G'.fz (s.heap.objs.size + 1)).cut h.length) (fun _ z => .inr z) rf h5))
        · exact False.elim o2
      · exact False.elim o2
    | exc e h' =>
      rw [q] at o2
      unfold mkFin at o2
      dsimp only at o2
      split at o2
      · rename_i nr
        intro cl d H' G' st rp' rx
        have st5 := (st3.trans st).cut
        rw [← rp.len] at st5
        exact o2 cl d H' _ st5 (rp'.cut h.length) (RelX.indep (G := G') (G' := G'.cut h.length) (fun _ z => z) rx nr)
      · exact False.elim o2
    | bad => rw [q] at o2; exact o2
  have l1' : (Value.ref (s.heap.objs.size + 1) :: us).length = n + 1 := by simp [l1]
  have vu' : Vals (V.ref (s.heap.objs.size + 1) :: vs) (Value.ref (s.heap.objs.size + 1) :: us) := .cons rfl vu
  refine wpAny_call (make_map (f := f) I.kIn (by rw [← ok.K]; exact M.makes) (by rw [← ok.K]; exact M.init) (by rw [← ok.K]; exact beq_iff_eq.mp M.fn) (codeAny_mono (F.run _ C.X.stack _ _ (G.ad (s.heap.objs.size + 1)) (h ++ [some (.ins c [])]) (.ref h.length :: xs) zs _ _ (Value.ref (s.heap.objs.size + 1) :: us) ws _ (fun cls d H' => C.W cls d σ H')
    (hr.make _ us (ks.zip ws)) (guards_make (ok.gd.mono (Nat.le_trans (Nat.le_succ k) hk))) e0 KX rp2 rx' (rz.step st3) vu' vw l1' l2 hend) fun r s' hq' => ?_))
  cases r with
  | error e => exact ok.tk e s' (XE.of_call I2 (fun _ _ _ z => z) hq')
  | ok fl =>
    cases fl with
    | ret u =>
      obtain ⟨v, H', I3, rv, ev, q3⟩ := I2.after hq'
      subst ev
      exact ⟨rv, ⟨V.ref (s.heap.objs.size + 1), H', I3, rfl, q3⟩⟩
    | next => exact False.elim hq'
    | brk => exact False.elim hq'
    | cont => exact False.elim hq'

theorem CaK.make {C : RC} (ok : C.Ok) {k c : Nat} {f : Addr} {fd : FuncData} {ps ks : List Str} {n : Nat} {arr : List T → List T → List T} {g : List T → Hm → R T} (M : Mk C.S.K (C.S.cls c) f)
    (F : FnG C.X.prog C.X.w C.S.K C.X.mg C.X.base k f fd ps (spT C.S ps.length g)) (B : BindT C.S fd ps (n + 1) ks arr) (hk : k + 1 ≤ C.k) : CaK C (.ref (C.S.cls c)) n ks (mkO c g arr) := CaK.makeC ok M (F.toC B) hk

/-! ### calls, as written -/
section
variable {C : RC} {f : Value} {n : Nat} {ks : List Str} {o : O3} {x : Str} {p pos : Pos} {e : Expr} {es : List Expr} {kws : List Keyword} {ra rk : AT}
/-- the values of the keywords -/
def JK (C : RC) (kws : List Keyword) (r : AT) : Prop := PK C.X kws (liA C r)
theorem jk_nil : JK C [] aNil := by
  refine ⟨fun pos pins s σ H Q I hw => ?_⟩
  obtain ⟨st, G, h, rp, rs, o⟩ := hw
  exact pk_nil.run pos pins s σ H Q I (o [] H G Step.refl rp .nil)
theorem jk_cons {r : ET} {rr : AT} {nm : Option Str} {kpos : Pos} (ja : JE C e r) (jr : JK C kws rr) : JK C (⟨nm, e, kpos⟩ :: kws) (aCons r rr) := by
  refine ⟨fun pos pins s σ H Q I hw => ?_⟩
  obtain ⟨st, G, h, rp, rs, o⟩ := hw
  refine (pk_cons (te := liE C r) (t := liA C rr) ja jr).run pos pins s σ H Q I ⟨st, G, h, rp, rs, (Out.bind (Rel := relE C) o).mono fun v H1 ⟨t, G1, h1, st1, rp1, rv, o1⟩ => ?_⟩
  refine ⟨st, G1, h1, rp1, rs.step st1, (Out.bind (Rel := relA C) o1).mono fun vs H2 ⟨ts, G2, h2, st2, rp2, rvs, o2⟩ => ?_⟩
  exact o2 _ _ _ Step.refl rp2 (.cons (rv.step st2) rvs)
def eCall (n : Nat) (o : O3) (ra : AT) : ET := fun st h => (ra st h).bind fun xs h1 => if xs.length = n then o xs [] h1 else .bad
def eCallK (n m : Nat) (o : O3) (ra rk : AT) : ET := fun st h => (ra st h).bind fun xs h1 => (rk st h1).bind fun zs h2 => if xs.length = n ∧ zs.length = m then o xs zs h2 else .bad
theorem run_args (hc : CaK C f n [] o) {pins : List (Addr × Obj)} {s : Shared} {σ : St} {H : Hp} {G : Gh} {h : Hm} {xs : List T} {vs : List V} {us : List Value} {Q : VK} (I : Inv C.X pins σ H s) (rp : RepH C.S H G h) (rx : RelTs C.S H G xs vs) (vu : Vals vs us)
    (ho : Out C σ H G (relE C) (if xs.length = n then o xs [] h else .bad) Q) : wpAny (model C.X.prog C.X.w) C.X.A (call f us) (EP C.X pins σ Q) C.X.xe s := by
  split at ho
  · rename_i hl
    exact hc pins s σ H G h xs [] vs [] us [] Q I rp rx .nil vu .nil (by rw [← vu.length, ← rx.length]; exact hl) rfl ho
  · exact False.elim ho
/-- f(e, ..) -/
theorem je_call (hc : CaK C f n [] o) (hg : Gl C.X x) (hm : C.X.mg x = some f) (hk : PySem.W.keepIn C.X.K f = true) (ja : JA C (e :: es) ra) (hdb : (x == ("__debug__" : Str)) = false := by decide)
    (he : starEach (e :: es) C.X.env = (false, eval e C.X.env) :: starEach es C.X.env := by rfl) (hpl : (backTo pos (starEach es C.X.env)).any (·.1) = false := by rfl) : JE C (.Call (.Name x p) (e :: es) [] pos) (eCall n o ra) := by
  refine ⟨fun pins s σ H Q I hw => ?_⟩
  obtain ⟨st, G, h, rp, rs, ho⟩ := hw
  refine wpAny_Call_Name_kw (ld_glob I hg hm ?_ hdb)
  refine PySem.W.callWith_K (h₀ := C.X.base) I.ok.mod.kin hk (thn (ja.run pos I rp rs (Out.bind (Rel := relA C) ho)) fun us s1 ⟨vs, H1, I1, vu, xs, G1, h1, st1, rp1, rx, o1⟩ => ⟨I1.kIn, ?_⟩) he hpl
  exact run_args hc I1 rp1 rx vu o1
theorem je_call0 (hc : CaK C f n [] o) (hg : Gl C.X x) (hm : C.X.mg x = some f) (hk : PySem.W.keepIn C.X.K f = true) (hdb : (x == ("__debug__" : Str)) = false := by decide) : JE C (.Call (.Name x p) [] [] pos) (eCall n o aNil) := by
  refine ⟨fun pins s σ H Q I hw => ?_⟩
  obtain ⟨st, G, h, rp, rs, ho⟩ := hw
  refine wpAny_Call_Name_kw (ld_glob I hg hm ?_ hdb)
  exact PySem.W.callWith_K0 I.kIn hk (run_args (us := []) hc I rp .nil .nil ho)
theorem je_callK (hc : CaK C f n ks o) (hg : Gl C.X x) (hm : C.X.mg x = some f) (hk : PySem.W.keepIn C.X.K f = true) (ja : JA C (e :: es) ra) (jk : JK C kws rk) (hall : (backToKw pos (keywordEach kws C.X.env)).all (·.1.isSome) = true := by rfl)
    (hks : (backToKw pos (keywordEach kws C.X.env)).filterMap (·.1) = ks := by rfl) (hdb : (x == ("__debug__" : Str)) = false := by decide) (he : starEach (e :: es) C.X.env = (false, eval e C.X.env) :: starEach es C.X.env := by rfl)
    (hpl : ((backTo pos (starEach (e :: es) C.X.env)).any (·.1) || (backToKw pos (keywordEach kws C.X.env)).any (·.1.isNone)) = false := by rfl) : JE C (.Call (.Name x p) (e :: es) kws pos) (eCallK n ks.length o ra rk) := by
  refine ⟨fun pins s σ H Q I hw => ?_⟩
  obtain ⟨st, G, h, rp, rs, ho⟩ := hw
  refine wpAny_Call_Name_kw (ld_glob I hg hm ?_ hdb)
  refine PySem.W.callWith_KW (h₀ := C.X.base) I.ok.mod.kin hk hall (thn (ja.run pos I rp rs (Out.bind (Rel := relA C) ho)) fun us s1 ⟨vs, H1, I1, vu, xs, G1, h1, st1, rp1, rx, o1⟩ => ?_) hpl he
  refine thn (PK.run jk pos pins s1 σ H1 _ I1 ⟨st, G1, h1, rp1, rs.step st1, Out.bind (Rel := relA C) o1⟩) fun ws s2 ⟨vz, H2, I2, vw, zs, G2, h2, st2, rp2, rz, o2⟩ => ⟨I2.kIn, ?_⟩
  rw [hks]
  dsimp only at o2
  split at o2
  · rename_i hl
    exact hc pins s2 σ H2 G2 h2 xs zs vs vz us ws Q I2 rp2 (rx.step st2) rz vu vw (by rw [← vu.length, ← rx.length]; exact hl.1) (by rw [← vw.length, ← rz.length]; exact hl.2) o2
  · exact False.elim o2
theorem je_callK0 (hc : CaK C f n ks o) (hg : Gl C.X x) (hm : C.X.mg x = some f) (hk : PySem.W.keepIn C.X.K f = true) (jk : JK C kws rk) (hall : (backToKw pos (keywordEach kws C.X.env)).all (·.1.isSome) = true := by rfl)
    (hks : (backToKw pos (keywordEach kws C.X.env)).filterMap (·.1) = ks := by rfl) (hdb : (x == ("__debug__" : Str)) = false := by decide)
    (hpl : ((backTo pos (starEach [] C.X.env)).any (·.1) || (backToKw pos (keywordEach kws C.X.env)).any (·.1.isNone)) = false := by rfl) : JE C (.Call (.Name x p) [] kws pos) (eCallK n ks.length o aNil rk) := by
  refine ⟨fun pins s σ H Q I hw => ?_⟩
  obtain ⟨st, G, h, rp, rs, ho⟩ := hw
  refine wpAny_Call_Name_kw (ld_glob I hg hm ?_ hdb)
  refine PySem.W.callWith_KW0 (h₀ := C.X.base) I.ok.mod.kin hk hall ?_ hpl
  refine thn (PK.run jk pos pins s σ H _ I ⟨st, G, h, rp, rs, Out.bind (Rel := relA C) ho⟩) fun ws s2 ⟨vz, H2, I2, vw, zs, G2, h2, st2, rp2, rz, o2⟩ => ⟨I2.kIn, ?_⟩
  rw [hks]
  dsimp only at o2
  split at o2
  · rename_i hl
    exact hc pins s2 σ H2 G2 h2 [] zs [] vz [] ws Q I2 rp2 .nil rz .nil vw hl.1 (by rw [← vw.length, ← rz.length]; exact hl.2) o2
  · exact False.elim o2
end
end RT
set_option Elab.async false
set_option linter.all false
set_option maxRecDepth 100000
set_option maxHeartbeats 4000000
/-! RT, part f: fields and methods; built-in functions; lists and tuples. -/
namespace RT
open PySem PySem.Spec L2
open PyProof.Rows hiding St

/-! ### instances -/
def insOf (t : T) (h : Hm) : Option (Nat × List (Nat × T)) := match t with
  | .obj c fs => some (c, fs)
  | .ref l => (match h[l]? with
    | some (some (.ins c fs)) => some (c, fs)
    | _ => none)
  | _ => none
theorem insOf_rel {S : Sta} {H : Hp} {G : Gh} {h : Hm} (rp : RepH S H G h) {t : T} {v : V} (r : RelT S H G t v) {c : Nat} {fs : List (Nat × T)} (e : insOf t h = some (c, fs)) : ∃ a dx vs, v = .ref a ∧ H a = some (.ins (S.cls c) dx vs) ∧ RelFs S H G fs vs := by
  cases r with
  | obj z q rf =>
    unfold insOf at e
    cases e
    exact ⟨_, _, _, rfl, q, rf⟩
  | ref hl =>
    unfold insOf at e
    dsimp only at e
    split at e
    · rename_i c' fs' q
      cases e
      obtain ⟨a, o, h1, h2, h3, _, _⟩ := rp.cell _ _ q
      rw [hl] at h1; cases h1
      cases h3 with
      | ins rf => exact ⟨_, _, _, rfl, h2, rf⟩
    · cases e
  | _ => cases e
section
variable {C : RC} {pos : Pos} {e o : Expr} {re ro : ET} {f : Str} {fi : Nat}
/-- e.f, a field, the classes cs -/
def eFld (cs : List Nat) (fi : Nat) (re : ET) : ET := fun st h => (re st h).bind fun x h1 => match insOf x h1 with
  | some (c, fs) => if cs.contains c then (match fs.lookup fi with
    | some t => .ok t h1
    | none => .bad) else .bad
  | none => .bad
theorem je_fld (ok : C.Ok) {cs : List Nat} (j : JE C e re) (ef : C.S.fld fi = f) (hf : fi < C.S.nf) (hc : ∀ c ∈ cs, Cls C.S.K (C.S.cls c) ∧ NoAttr C.S.K (C.S.cls c) f)
    (hb : attributeBase e f C.X.env (eval e C.X.env) = eval e C.X.env := by rfl) : JE C (.Attribute e f pos) (eFld cs fi re) := by
  refine ⟨fun pins s σ H Q I hw => ?_⟩
  obtain ⟨st, G, h, rp, rs, ho⟩ := hw
  refine attr_of hb (thn (j.run I rp rs (Out.bind (Rel := relE C) ho)) fun u s1 ⟨v, H1, I1, ru, x, G1, h1, st1, rp1, rx, o1⟩ => ?_)
  dsimp only at o1
  split at o1
  · rename_i c fs e1
    split at o1
    · rename_i hcs
      split at o1
      · rename_i t e2
        obtain ⟨a, dx, vs, rfl, ea, rf⟩ := insOf_rel rp1 rx e1
        obtain ⟨v', l1, rt⟩ := rf.look hf e2
        obtain ⟨c1, c2⟩ := hc c (List.contains_iff_mem.mp hcs)
        rw [ok.K] at c1 c2
        cases ru
        exact getattr_ok I1 ea c1 c2 (by rw [← ef]; exact l1) fun u' s2 I2 ru' => ⟨v', H1, I2, ru', out_ok o1 rp1 rt⟩
      · exact False.elim o1
    · exact False.elim o1
  · exact False.elim o1
/-- o.f = e, o an instance that is a cell -/
def sFldT (cs : List Nat) (fi : Nat) (re ro : ET) : SM := fun a h => (re a h).th a fun y h1 => (ro a h1).th a fun x h2 => match x with
  | .ref l => (match h2[l]? with
    | some (some (.ins c fs)) => if cs.contains c && (y.noRef && decide (fs.length < 1000)) then .ok (.nx a) (h2.set l (some (.ins c (putT fi y fs)))) else .bad
    | _ => .bad)
  | _ => .bad
theorem js_fld (ok : C.Ok) {cs : List Nat} {pos' : Pos} (jo : JE C o ro) (je : JE C e re) (ef : C.S.fld fi = f) (hf : fi < C.S.nf) (hc : ∀ c ∈ cs, Cls C.S.K (C.S.cls c) ∧ NoAttr C.S.K (C.S.cls c) f)
    (hs : swapsWith e (some (.Attribute o f pos')) pos.line C.X.env = pure false := by rfl) : JS C (.Assign [.Attribute o f pos'] e pos) (sFldT cs fi re ro) := by
  refine ⟨fun pins s σ H D I hw => ?_⟩
  obtain ⟨a, G, h, rp, rs, ho⟩ := hw
  refine plainObj_wpAny_Assign_Attribute (thn (je.run I rp rs (OutS.bind (Rel := relE C) rs ho)) fun u s1 ⟨v, H1, I1, ru, y, G1, h1, st1, rp1, ry, o1⟩ => ?_) hs
  refine thn (jo.run I1 rp1 (rs.step st1) (OutS.bind (Rel := relE C) (rs.step st1) o1)) fun u2 s2 ⟨v2, H2, I2, ru2, x, G2, h2, st2, rp2, rx, o2⟩ => ?_
  dsimp only at o2
  split at o2
  · rename_i l
    split at o2
    · rename_i c fs q
      split at o2
      · rename_i hcs
        obtain ⟨k1, k2⟩ := band hcs
        obtain ⟨k2, k3⟩ := band k2
        cases rx with
        | ref hl =>
          cases ru2
          obtain ⟨a', o', h1', h2', h3', _, hnr⟩ := rp2.cell _ _ q
          rw [hl] at h1'; cases h1'
          cases h3' with
          | ins rf =>
            obtain ⟨c1, c2⟩ := hc c (List.contains_iff_mem.mp k1)
            rw [ok.K] at c1 c2
            refine setattr_ok I2 h2' c1 c2 (by rw [← rf.length]; exact of_decide_eq_true k3) ru fun s3 I3 => ?_
            obtain ⟨st3, rp3⟩ := rp2.set hl q (.ins (rf.put hf (ry.step st2))) (noRefF_put k2 hnr)
            rw [ef] at st3 rp3
            exact ⟨σ, _, I3, o2 σ _ _ st3 rp3 (((rs.step st1).step st2).step st3)⟩
      · exact False.elim o2
    · exact False.elim o2
  · exact False.elim o2

/-! ### methods of own classes -/
/-- o.m(..): ms: what m is in each class -/
def eMeth (mi n m : Nat) (ms : Nat → Option O3) (ro : ET) (ra rk : AT) : ET := fun st h => (ro st h).bind fun x h1 => match insOf x h1 with
  | some (c, fs) => (match ms c, fs.lookup mi with
    | some g, none => (ra st h1).bind fun xs h2 => (rk st h2).bind fun zs h3 => if xs.length = n ∧ zs.length = m then g (x :: xs) zs h3 else .bad
    | _, _ => .bad)
  | none => .bad
/-- what a method is, class by class -/
def MsOk (C : RC) (f : Str) (n : Nat) (ks : List Str) (ms : Nat → Option O3) : Prop := ∀ c g, ms c = some g → Cls C.S.K (C.S.cls c) ∧ ∃ a, Meth C.S.K (C.S.cls c) f a ∧ CaK C (.ref a) (n + 1) ks g
theorem meth_run (ok : C.Ok) {n : Nat} {ks : List Str} {ms : Nat → Option O3} {ra rk : AT} {args : List Expr} {kws : List Keyword} {apos : Pos} (jo : JE C o ro) (ef : C.S.fld fi = f) (hf : fi < C.S.nf) (hm : MsOk C f n ks ms) {pl : Sem Bool}
    {pins : List (Addr × Obj)} {s : Shared} {σ : St} {H : Hp} {Q : VK} (I : Inv C.X pins σ H s) (hw : liE C (eMeth fi n ks.length ms ro ra rk) σ H Q)
    (ht : eval (.Call (.Attribute o f apos) args kws pos) C.X.env = (do
      let ov ← eval o C.X.env
      standAt apos.atName
      let (f, first) ← holding [ov] (getMethod ov f pl)
      callWith pos f first (backTo pos (starEach args C.X.env)) (backToKw pos (keywordEach kws C.X.env))))
    (go : ∀ (a x : Addr) (g : O3) (tx : T) (G1 : Gh) (h1 : Hm) (st : StT) (H1 : Hp) (s1 : Shared), Inv C.X pins σ H1 s1 → RepH C.S H1 G1 h1 → RelSt C.S H1 G1 st σ → RelT C.S H1 G1 tx (.ref x) → PySem.W.keepIn C.X.K (.ref a) = true → CaK C (.ref a) (n + 1) ks g →
      Out C σ H1 G1 (relE C) ((ra st h1).bind fun xs h2 => (rk st h2).bind fun zs h3 => if xs.length = n ∧ zs.length = ks.length then g (tx :: xs) zs h3 else .bad) Q →
      wpAny (model C.X.prog C.X.w) C.X.A (callWith pos (.ref a) [.ref x] (backTo pos (starEach args C.X.env)) (backToKw pos (keywordEach kws C.X.env))) (EP C.X pins σ Q) C.X.xe s1) :
    wpAny (model C.X.prog C.X.w) C.X.A (eval (.Call (.Attribute o f apos) args kws pos) C.X.env) (EP C.X pins σ Q) C.X.xe s := by
  obtain ⟨st, G, h, rp, rs, ho⟩ := hw
  refine PySem.W.methodCall_KW (pl := pl) (thn (jo.run I rp rs (Out.bind (Rel := relE C) ho)) fun u s1 ⟨v, H1, I1, ru, x, G1, h1, st1, rp1, rx, o1⟩ => ?_) ht
  dsimp only at o1
  split at o1
  · rename_i c fs e1
    split at o1
    · rename_i g eg el
      obtain ⟨a, dx, vs, rfl, ea, rf⟩ := insOf_rel rp1 rx e1
      have l1 := rf.lookN hf el
      obtain ⟨c1, fa, c2, c3⟩ := hm c g eg
      rw [ok.K] at c1 c2
      cases ru
      refine getmeth_ok I1 ea c1 c2 (by rw [← ef]; exact l1) ?_
      exact go fa a g x G1 h1 st H1 s1 I1 rp1 (rs.step st1) rx c2.kp c3 o1
    · exact False.elim o1
  · exact False.elim o1
theorem je_meth (ok : C.Ok) {n : Nat} {ms : Nat → Option O3} {ra : AT} {es : List Expr} {e1 : Expr} {apos : Pos} (jo : JE C o ro) (ef : C.S.fld fi = f) (hf : fi < C.S.nf) (hm : MsOk C f n [] ms) (ja : JA C (e1 :: es) ra) {pl : Sem Bool}
    (hst : starEach (e1 :: es) C.X.env = (false, eval e1 C.X.env) :: starEach es C.X.env := by rfl) (hpl : (backTo pos (starEach es C.X.env)).any (·.1) = false := by rfl)
    (ht : eval (.Call (.Attribute o f apos) (e1 :: es) [] pos) C.X.env = (do
      let ov ← eval o C.X.env
      standAt apos.atName
      let (f, first) ← holding [ov] (getMethod ov f pl)
      callWith pos f first (backTo pos (starEach (e1 :: es) C.X.env)) (backToKw pos (keywordEach [] C.X.env))) := by rfl) : JE C (.Call (.Attribute o f apos) (e1 :: es) [] pos) (eMeth fi n 0 ms ro ra aNil) := by
  refine ⟨fun pins s σ H Q I hw => ?_⟩
  refine meth_run ok jo ef hf hm I hw ht fun a x g tx G1 h1 st H1 s1 I1 rp1 rs1 rx kp ck o1 => ?_
  refine PySem.W.callWith_K (first := [.ref x]) (h₀ := C.X.base) I.ok.mod.kin kp (thn (ja.run pos I1 rp1 rs1 (Out.bind (Rel := relA C) o1)) fun us s2 ⟨vs, H2, I2, vu, xs, G2, h2, st2, rp2, rxs, o2⟩ => ⟨I2.kIn, ?_⟩) hst hpl
  have o3 : Out C σ H2 G2 (relE C) (if xs.length = n ∧ ([] : List T).length = ([] : List Str).length then g (tx :: xs) [] h2 else .bad) Q := o2
  split at o3
  · rename_i hl
    exact ck pins s2 σ H2 G2 h2 (tx :: xs) [] (.ref x :: vs) [] (.ref x :: us) [] Q I2 rp2 (.cons (rx.step st2) rxs) .nil (.cons rfl vu) .nil (by simp [← vu.length, ← rxs.length, hl.1]) rfl o3
  · exact False.elim o3
theorem je_meth0 (ok : C.Ok) {ms : Nat → Option O3} {apos : Pos} (jo : JE C o ro) (ef : C.S.fld fi = f) (hf : fi < C.S.nf) (hm : MsOk C f 0 [] ms) {pl : Sem Bool}
    (ht : eval (.Call (.Attribute o f apos) [] [] pos) C.X.env = (do
      let ov ← eval o C.X.env
      standAt apos.atName
      let (f, first) ← holding [ov] (getMethod ov f pl)
      callWith pos f first (backTo pos (starEach [] C.X.env)) (backToKw pos (keywordEach [] C.X.env))) := by rfl) : JE C (.Call (.Attribute o f apos) [] [] pos) (eMeth fi 0 0 ms ro aNil aNil) := by
  refine ⟨fun pins s σ H Q I hw => ?_⟩
  refine meth_run ok jo ef hf hm I hw ht fun a x g tx G1 h1 st H1 s1 I1 rp1 rs1 rx kp ck o1 => ?_
  have o3 : Out C σ H1 G1 (relE C) (g [tx] [] h1) Q := o1
  exact PySem.W.callWith_K0 (first := [.ref x]) I1.kIn kp (ck pins s1 σ H1 G1 h1 [tx] [] [.ref x] [] [.ref x] [] Q I1 rp1 (.cons rx .nil) .nil (.cons rfl .nil) .nil rfl rfl o3)
theorem je_methK0 (ok : C.Ok) {ks : List Str} {ms : Nat → Option O3} {rk : AT} {kws : List Keyword} {apos : Pos} (jo : JE C o ro) (ef : C.S.fld fi = f) (hf : fi < C.S.nf) (hm : MsOk C f 0 ks ms) (jk : JK C kws rk) {pl : Sem Bool}
    (hall : (backToKw pos (keywordEach kws C.X.env)).all (·.1.isSome) = true := by rfl) (hks : (backToKw pos (keywordEach kws C.X.env)).filterMap (·.1) = ks := by rfl)
    (hpl : ((backTo pos (starEach [] C.X.env)).any (·.1) || (backToKw pos (keywordEach kws C.X.env)).any (·.1.isNone)) = false := by rfl)
    (ht : eval (.Call (.Attribute o f apos) [] kws pos) C.X.env = (do
      let ov ← eval o C.X.env
      standAt apos.atName
      let (f, first) ← holding [ov] (getMethod ov f pl)
      callWith pos f first (backTo pos (starEach [] C.X.env)) (backToKw pos (keywordEach kws C.X.env))) := by rfl) : JE C (.Call (.Attribute o f apos) [] kws pos) (eMeth fi 0 ks.length ms ro aNil rk) := by
  refine ⟨fun pins s σ H Q I hw => ?_⟩
  refine meth_run ok jo ef hf hm I hw ht fun a x g tx G1 h1 st H1 s1 I1 rp1 rs1 rx kp ck o1 => ?_
  refine PySem.W.callWith_KW0 (first := [.ref x]) (h₀ := C.X.base) I.ok.mod.kin kp hall ?_ hpl
  refine thn (PK.run jk pos pins s1 σ H1 _ I1 ⟨st, G1, h1, rp1, rs1, Out.bind (Rel := relA C) o1⟩) fun ws s2 ⟨vz, H2, I2, vw, zs, G2, h2, st2, rp2, rz, o2⟩ => ⟨I2.kIn, ?_⟩
  rw [hks]
  have o3 : Out C σ H2 G2 (relE C) (if ([] : List T).length = 0 ∧ zs.length = ks.length then g [tx] zs h2 else .bad) Q := o2
  split at o3
  · rename_i hl
    exact ck pins s2 σ H2 G2 h2 [tx] zs [.ref x] vz [.ref x] ws Q I2 rp2 (.cons (rx.step st2) .nil) rz (.cons rfl .nil) vw rfl (by rw [← vw.length, ← rz.length]; exact hl.2) o3
  · exact False.elim o3
end

/-! ### built-in functions and types, by name -/
section
variable {C : RC} {pos p : Pos} {x : Str} {e : Expr} {es : List Expr} {ra : AT} {g : List T → Hm → R T}
def eCB (g : List T → Hm → R T) (ra : AT) : ET := fun st h => (ra st h).bind g
theorem je_callB {id : String} (hc : CaT C (.builtin id) g) (hg : Gl C.X x) (hm : C.X.mg x = none) (hv : bootBuiltins x = some (.builtin id)) (ja : JA C (e :: es) ra) (hn : x ≠ "__name__" := by decide) (hdb : (x == ("__debug__" : Str)) = false := by decide)
    (he : starEach (e :: es) C.X.env = (false, eval e C.X.env) :: starEach es C.X.env := by rfl) (hpl : (backTo pos (starEach es C.X.env)).any (·.1) = false := by rfl) : JE C (.Call (.Name x p) (e :: es) [] pos) (eCB g ra) := by
  refine ⟨fun pins s σ H Q I hw => ?_⟩
  obtain ⟨st, G, h, rp, rs, ho⟩ := hw
  refine wpAny_Call_Name_kw (ld_blt I hg hm hv ?_ hn hdb)
  exact PyProof.Rows.callWith_builtin1 (thn (ja.run pos I rp rs (Out.bind (Rel := relA C) ho)) fun us s1 ⟨vs, H1, I1, vu, xs, G1, h1, st1, rp1, rx, o1⟩ => hc pins s1 σ H1 G1 h1 xs vs us Q I1 rp1 rx vu o1) he hpl
theorem je_callTy {Ty : String} (hc : CaT C (.type Ty) g) (hg : Gl C.X x) (hm : C.X.mg x = none) (hv : bootBuiltins x = some (.type Ty)) (ja : JA C (e :: es) ra) (hn : x ≠ "__name__" := by decide) (hdb : (x == ("__debug__" : Str)) = false := by decide)
    (he : starEach (e :: es) C.X.env = (false, eval e C.X.env) :: starEach es C.X.env := by rfl) (hpl : (backTo pos (starEach es C.X.env)).any (·.1) = false := by rfl) : JE C (.Call (.Name x p) (e :: es) [] pos) (eCB g ra) := by
  refine ⟨fun pins s σ H Q I hw => ?_⟩
  obtain ⟨st, G, h, rp, rs, ho⟩ := hw
  refine wpAny_Call_Name_kw (ld_blt I hg hm hv ?_ hn hdb)
  exact PyProof.Rows.callWith_type1 (thn (ja.run pos I rp rs (Out.bind (Rel := relA C) ho)) fun us s1 ⟨vs, H1, I1, vu, xs, G1, h1, st1, rp1, rx, o1⟩ => hc pins s1 σ H1 G1 h1 xs vs us Q I1 rp1 rx vu o1) he hpl
end

/-! ### sequences -/
/-- the items of a list or tuple -/
def seqOf (t : T) (h : Hm) : Option (List T) := match t with
  | .lst xs => some xs
  | .tup xs => some xs
  | .ref l => (match h[l]? with
    | some (some (.lst xs)) => some xs
    | _ => none)
  | _ => none
section
variable {C : RC}
theorem seqOf_rel (ok : C.Ok) {H : Hp} {G : Gh} {h : Hm} (rp : RepH C.S H G h) {t : T} {v : V} (r : RelT C.S H G t v) {xs : List T} (e : seqOf t h = some xs) : ∃ a vs, v = .ref a ∧ (SqL C.X.K H a vs ∨ SqT C.X.K H a vs) ∧ RelTs C.S H G xs vs := by
  cases r with
  | tup hz rs => cases e; refine ⟨_, _, rfl, .inr ?_, rs⟩; rw [← ok.K]; exact hz.sq
  | lst hz rs => cases e; refine ⟨_, _, rfl, .inl ?_, rs⟩; rw [← ok.K]; exact hz.sq
  | ref hl =>
    unfold seqOf at e
    dsimp only at e
    split at e
    · rename_i xs' q
      cases e
      obtain ⟨a, o, h1, h2, h3, _, _⟩ := rp.cell _ _ q
      rw [hl] at h1; cases h1
      cases h3 with
      | lst rs => exact ⟨_, _, rfl, .inl (.inl (.inl h2)), rs⟩
    · cases e
  | _ => cases e
/-- the lists alone -/
def lstOf (t : T) (h : Hm) : Option (List T) := match t with
  | .lst xs => some xs
  | .ref l => (match h[l]? with
    | some (some (.lst xs)) => some xs
    | _ => none)
  | _ => none
theorem lstOf_rel (ok : C.Ok) {H : Hp} {G : Gh} {h : Hm} (rp : RepH C.S H G h) {t : T} {v : V} (r : RelT C.S H G t v) {xs : List T} (e : lstOf t h = some xs) : ∃ a vs, v = .ref a ∧ SqL C.X.K H a vs ∧ RelTs C.S H G xs vs := by
  cases r with
  | lst hz rs => cases e; refine ⟨_, _, rfl, ?_, rs⟩; rw [← ok.K]; exact hz.sq
  | ref hl =>
    unfold lstOf at e
    dsimp only at e
    split at e
    · rename_i xs' q
      cases e
      obtain ⟨a, o, h1, h2, h3, _, _⟩ := rp.cell _ _ q
      rw [hl] at h1; cases h1
      cases h3 with
      | lst rs => exact ⟨_, _, rfl, .inl (.inl h2), rs⟩
    · cases e
  | _ => cases e
theorem noRefs_get : ∀ {xs : List T} {i : Nat} {t : T}, T.noRefs xs = true → xs[i]? = some t → t.noRef = true
  | [], _, _, _, e => by simp at e
  | x :: r, 0, t, h, e => by simp at e; subst e; rw [T.noRefs] at h; exact (band h).1
  | x :: r, i + 1, t, h, e => by rw [T.noRefs] at h; exact noRefs_get (band h).2 (by simpa using e)
theorem noRefs_set {t : T} (ht : t.noRef = true) : ∀ {xs : List T} {i : Nat}, T.noRefs xs = true → T.noRefs (xs.set i t) = true
  | [], _, _ => rfl
  | x :: r, 0, h => by rw [T.noRefs] at h; show T.noRefs (t :: r) = true; rw [T.noRefs, ht, (band h).2]; rfl
  | x :: r, i + 1, h => by rw [T.noRefs] at h; show T.noRefs (x :: r.set i t) = true; rw [T.noRefs, (band h).1, noRefs_set ht (band h).2]; rfl
theorem noRefs_app : ∀ {xs ys : List T}, T.noRefs xs = true → T.noRefs ys = true → T.noRefs (xs ++ ys) = true
  | [], _, _, h => h
  | x :: r, ys, h, h2 => by rw [T.noRefs] at h; show T.noRefs (x :: (r ++ ys)) = true; rw [T.noRefs, (band h).1, noRefs_app (band h).2 h2]; rfl
theorem noRefs_erase : ∀ {xs : List T} {i : Nat}, T.noRefs xs = true → T.noRefs (xs.eraseIdx i) = true
  | [], _, _ => rfl
  | x :: r, 0, h => by rw [T.noRefs] at h; exact (band h).2
  | x :: r, i + 1, h => by rw [T.noRefs] at h; show T.noRefs (x :: r.eraseIdx i) = true; rw [T.noRefs, (band h).1, noRefs_erase (band h).2]; rfl
theorem RelTs.atI {S : Sta} {H : Hp} {G : Gh} {ts : List T} {vs : List V} {i : Int} {t : T} (r : RelTs S H G ts vs) (e : L2.atI ts i = some t) : ∃ v, L2.atI vs i = some v ∧ RelT S H G t v := by
  unfold L2.atI at e ⊢
  rw [r.length] at e
  cases q : ixN vs.length i with
  | none => rw [q] at e; cases e
  | some j =>
    rw [q] at e
    exact r.get e
/-- xs[i] -/
def opIx : O2 := fun x y h => match y with
  | .int i => (match x with
    | .str z => if z.length ≤ sizeLine then (match L2.atI z.cps.toList i with
      | some c => .ok (.str ⟨#[c]⟩) h
      | none => .bad) else .bad
    | x => (match seqOf x h with
      | some xs => (match L2.atI xs i with
        | some t => .ok t h
        | none => .bad)
      | none => .bad))
  | _ => .bad
theorem je_ix (ok : C.Ok) {a b : Expr} {ra rb : ET} {pos : Pos} (ja : JE C a ra) (jb : JE C b rb) (hs : PlainIx b := by intro _ _; rfl) : JE C (.Subscript a b pos) (eOp opIx ra rb) := by
  refine ⟨fun pins s σ H Q I hw => ?_⟩
  obtain ⟨st, G, h, rp, rs, o⟩ := hw
  refine (pe_ix ix_seq (ta := liE C ra) (tb := liE C rb) ja jb hs).run pins s σ H Q I ⟨st, G, h, rp, rs, (Out.bind (Rel := relE C) o).mono fun v H1 ⟨x, G1, h1, st1, rp1, rx, o1⟩ => ?_⟩
  refine ⟨st, G1, h1, rp1, rs.step st1, (Out.bind (Rel := relE C) o1).mono fun w H2 ⟨y, G2, h2, st2, rp2, ry, o2⟩ => ?_⟩
  have rx2 := rx.step st2
  unfold opIx at o2
  dsimp only at o2
  split at o2
  · rename_i i
    cases ry
    split at o2
    · rename_i z _
      cases rx2
      split at o2
      · rename_i hz
        split at o2
        · rename_i c ec
          exact .inr (.inr ⟨z, i, c, rfl, rfl, hz, ec, out_ok o2 rp2 (.str _)⟩)
        · exact False.elim o2
      · exact False.elim o2
    · split at o2
      · rename_i xs exs
        split at o2
        · rename_i t et
          obtain ⟨a', vs, rfl, sq, rxs⟩ := seqOf_rel ok rp2 rx2 exs
          obtain ⟨v', e', rt⟩ := rxs.atI et
          rcases sq with sq | sq
          · exact .inl ⟨a', vs, i, v', rfl, rfl, sq, e', out_ok o2 rp2 rt⟩
          · exact .inr (.inl ⟨a', vs, i, v', rfl, rfl, sq, e', out_ok o2 rp2 rt⟩)
        · exact False.elim o2
      · exact False.elim o2
  · exact False.elim o2
/-- len -/
def gLen : List T → Hm → R T := fun xs h => match xs with
  | [.str z] => if z.length ≤ sizeLine then .ok (.int (z.length : Nat)) h else .bad
  | [x] => (match seqOf x h with
    | some ys => .ok (.int (ys.length : Nat)) h
    | none => .bad)
  | _ => .bad
theorem RelTs.one {S : Sta} {H : Hp} {G : Gh} {t : T} {vs : List V} (r : RelTs S H G [t] vs) : ∃ v, vs = [v] ∧ RelT S H G t v := by
  cases r with
  | cons a b => cases b; exact ⟨_, rfl, a⟩
theorem RelTs.two {S : Sta} {H : Hp} {G : Gh} {t u : T} {vs : List V} (r : RelTs S H G [t, u] vs) : ∃ v w, vs = [v, w] ∧ RelT S H G t v ∧ RelT S H G u w := by
  cases r with
  | cons a b =>
    obtain ⟨w, rfl, q⟩ := b.one
    exact ⟨_, w, rfl, a, q⟩
theorem ca_len (ok : C.Ok) : CaT C (.builtin "len") gLen := by
  refine CaT.of (call_len.or call_len) fun σ H G h xs vs Q rp rx o => ?_
  unfold gLen at o
  split at o
  · rename_i z
    obtain ⟨v, rfl, rv⟩ := rx.one
    cases rv
    split at o
    · rename_i hz; exact .inl ⟨_, _, rfl, ⟨hz, rfl⟩, out_ok o rp (.int _)⟩
    · exact False.elim o
  · rename_i x _
    obtain ⟨v, rfl, rv⟩ := rx.one
    split at o
    · rename_i ys e
      obtain ⟨a, ws, rfl, sq, rs⟩ := seqOf_rel ok rp rv e
      refine .inl ⟨_, ws.length, rfl, ?_, by rw [← rs.length]; exact out_ok o rp (.int _)⟩
      rcases sq with sq | sq
      · exact .inl ⟨ws, sq, rfl⟩
      · exact .inr ⟨ws, sq, rfl⟩
    · exact False.elim o
  · exact False.elim o
/-- list(x): a new list, never changed; a new cell -/
def gList : List T → Hm → R T := fun xs h => match xs with
  | [x] => (match seqOf x h with
    | some ys => .ok (.lst ys) h
    | none => .bad)
  | _ => .bad
def gListM : List T → Hm → R T := fun xs h => match xs with
  | [x] => (match seqOf x h with
    | some ys => if T.noRefs ys then .ok (.ref h.length) (h ++ [some (.lst ys)]) else .bad
    | none => .bad)
  | _ => .bad
theorem ca_list (ok : C.Ok) : CaT C (.type "list") gList := by
  refine CaT.of call_list_of fun σ H G h xs vs Q rp rx o => ?_
  unfold gList at o
  split at o
  · obtain ⟨v, rfl, rv⟩ := rx.one
    split at o
    · rename_i ys e
      obtain ⟨a, ws, rfl, sq, rs⟩ := seqOf_rel ok rp rv e
      refine ⟨a, ws, rfl, sq, fun l hl => ?_⟩
      obtain ⟨st2, rp2⟩ := rp.newF (o := .lst ws) hl
      exact o _ _ _ st2 rp2 (.lst (.inl ⟨.inl rfl, .inl upd_same⟩) (rs.step st2))
    · exact False.elim o
  · exact False.elim o
theorem ca_listM (ok : C.Ok) : CaT C (.type "list") gListM := by
  refine CaT.of call_list_of fun σ H G h xs vs Q rp rx o => ?_
  unfold gListM at o
  split at o
  · obtain ⟨v, rfl, rv⟩ := rx.one
    split at o
    · rename_i ys e
      split at o
      · rename_i hn
        obtain ⟨a, ws, rfl, sq, rs⟩ := seqOf_rel ok rp rv e
        refine ⟨a, ws, rfl, sq, fun l hl => ?_⟩
        obtain ⟨st2, rp2⟩ := rp.newC (o := .lst ws) hl (.lst rs) hn
        refine o _ _ _ st2 rp2 (.ref ?_)
        show (G.mu ++ [l])[h.length]? = some l
        rw [rp.len, List.getElem?_append_right (Nat.le_refl _)]
        simp
      · exact False.elim o
    · exact False.elim o
  · exact False.elim o
/-- tuple(x) -/
def gTuple : List T → Hm → R T := fun xs h => match xs with
  | [x] => (match seqOf x h with
    | some ys => .ok (.tup ys) h
    | none => .bad)
  | _ => .bad
theorem ca_tuple (ok : C.Ok) : CaT C (.type "tuple") gTuple := by
  refine CaT.of call_tuple_of fun σ H G h xs vs Q rp rx o => ?_
  unfold gTuple at o
  split at o
  · rename_i x
    obtain ⟨v, rfl, rv⟩ := rx.one
    split at o
    · rename_i ys e
      have new : ∀ {a : Addr} {ws : List V}, RelTs C.S H G ys ws → ∀ l, H l = none → Q (.ref l) (upd H l (.tup ws)) := fun {a ws} rs l hl => by
        obtain ⟨st2, rp2⟩ := rp.newF (o := .tup ws) hl
        exact o _ _ _ st2 rp2 (.tup (.inl ⟨.inl rfl, .inl upd_same⟩) (rs.step st2))
      cases rv with
      | tup hz rs =>
        cases e
        exact ⟨_, _, rfl, .inr ⟨by rw [← ok.K]; exact hz.sq, out_ok o rp (.tup hz rs)⟩⟩
      | lst hz rs =>
        cases e
        exact ⟨_, _, rfl, .inl ⟨by rw [← ok.K]; exact hz.sq, new (a := 0) rs⟩⟩
      | ref hl =>
        unfold seqOf at e
        dsimp only at e
        split at e
        · rename_i xs' q
          cases e
          obtain ⟨a, o', h1, h2, h3, _, _⟩ := rp.cell _ _ q
          rw [hl] at h1; cases h1
          cases h3 with
          | lst rs => exact ⟨_, _, rfl, .inl ⟨.inl (.inl h2), new (a := 0) rs⟩⟩
        · cases e
      | _ => cases e
    · exact False.elim o
  · exact False.elim o
end
end RT
set_option Elab.async false
set_option linter.all false
set_option maxRecDepth 100000
set_option maxHeartbeats 4000000
/-! RT, part g: built-in functions, isinstance, texts of values; own special methods. -/
namespace RT
open PySem PySem.Spec L2
open PyProof.Rows hiding St

/-! ### built-in functions of ints -/
section
variable {C : RC}
def gAbs : List T → Hm → R T := fun xs h => match xs with
  | [.int i] => .ok (.int (if i < 0 then -i else i)) h
  | _ => .bad
theorem ca_abs : CaT C (.builtin "abs") gAbs := by
  refine CaT.of call_abs fun σ H G h xs vs Q rp rx o => ?_
  unfold gAbs at o
  split at o
  · obtain ⟨v, rfl, rv⟩ := rx.one
    cases rv
    exact ⟨_, rfl, out_ok o rp (.int _)⟩
  · exact False.elim o
def gMax : List T → Hm → R T := fun xs h => match xs with
  | [.int i, .int j] => .ok (.int (if j > i then j else i)) h
  | _ => .bad
theorem ca_max (ok : C.Ok) : CaT C (.builtin "max") gMax := by
  refine CaT.of (call_max2 ok.calm) fun σ H G h xs vs Q rp rx o => ?_
  unfold gMax at o
  split at o
  · obtain ⟨v, w, rfl, rv, rw'⟩ := rx.two
    cases rv; cases rw'
    exact ⟨_, _, rfl, out_ok o rp (.int _)⟩
  · exact False.elim o
def gMin : List T → Hm → R T := fun xs h => match xs with
  | [.int i, .int j] => .ok (.int (if j < i then j else i)) h
  | _ => .bad
theorem ca_min (ok : C.Ok) : CaT C (.builtin "min") gMin := by
  refine CaT.of (call_min2 ok.calm) fun σ H G h xs vs Q rp rx o => ?_
  unfold gMin at o
  split at o
  · obtain ⟨v, w, rfl, rv, rw'⟩ := rx.two
    cases rv; cases rw'
    exact ⟨_, _, rfl, out_ok o rp (.int _)⟩
  · exact False.elim o
def gDivmod : List T → Hm → R T := fun xs h => match xs with
  | [.int i, .int j] => if decide (0 < j) && fit j then .ok (.tup [.int (i / j), .int (i % j)]) h else .bad
  | _ => .bad
theorem ca_divmod : CaT C (.builtin "divmod") gDivmod := by
  refine CaT.of call_divmodW fun σ H G h xs vs Q rp rx o => ?_
  unfold gDivmod at o
  split at o
  · obtain ⟨v, w, rfl, rv, rw'⟩ := rx.two
    cases rv; cases rw'
    split at o
    · rename_i i j hf
      obtain ⟨f1, f2⟩ := band hf
      refine ⟨_, _, rfl, ⟨of_decide_eq_true f1, PyProof.noPylong_of_log2 (Nat.lt_of_lt_of_le (fit_log f2) (by decide))⟩, fun p hp => ?_⟩
      obtain ⟨st2, rp2⟩ := rp.newF (o := .tup [.int (i / j), .int (i % j)]) hp
      exact o _ _ _ st2 rp2 (.tup (.inl ⟨.inl rfl, .inl upd_same⟩) (.cons (.int _) (.cons (.int _) .nil)))
    · exact False.elim o
  · exact False.elim o
end

/-! ### isinstance -/
/-- a class, told -/
inductive Tg where
  | ty (n : String) | cl (c : Nat)
  deriving DecidableEq
def tagOf (h : Hm) (t : T) : Option Tg := match t with
  | .non => some (.ty "NoneType")
  | .bl _ => some (.ty "bool")
  | .int _ => some (.ty "int")
  | .str _ => some (.ty "str")
  | .tup _ => some (.ty "tuple")
  | .lst _ => some (.ty "list")
  | .emp => some (.ty "dict")
  | .obj c _ => some (.cl c)
  | .ref l => (match h[l]? with
    | some (some (.lst _)) => some (.ty "list")
    | some (some (.ins c _)) => some (.cl c)
    | _ => none)
  | _ => none
def asTg (t : T) : Option Tg := match t with
  | .ty n => some (.ty n)
  | .cl c => some (.cl c)
  | _ => none
def Tg.val (S : Sta) : Tg → Value
  | .ty n => .type n
  | .cl c => .ref (S.cls c)
abbrev IsTab := List (Tg × Tg × Bool)
def isLook (tab : IsTab) (a b : Tg) : Option Bool := match tab with
  | [] => none
  | (x, y, r) :: tl => if x = a ∧ y = b then some r else isLook tl a b
/-- what isinstance wants to know of an own class -/
structure ClsI (K : PySem.W.Frag) (a : Addr) : Prop where
  cl : Cls K a
  ha : PySem.W.findIn K (.ref a) "__class__" = some (some (.builtin "object.__class__"))
  hn : PySem.W.specialIn K (.builtin "object.__class__") "__get__" = some (some (.builtin "getset_descriptor.__get__"))
  htk : PySem.W.takesIn K (.builtin "object.__class__") = some true
  hm : PySem.W.mroIn K a (.type "object") = some true
structure IsOk (S : Sta) (tab : IsTab) : Prop where
  tab : ∀ a b r, isLook tab a b = some r → PySem.W.kitOne S.K (a.val S) (b.val S) = some r
  cls : ∀ c, c < S.nc → ClsI S.K (S.cls c)
def Tg.lt (n : Nat) : Tg → Bool
  | .cl c => decide (c < n)
  | _ => true
def gIsi (nc : Nat) (tab : IsTab) : List T → Hm → R T := fun xs h => match xs with
  | [x, c] => (match tagOf h x, asTg c with
    | some a, some b => if a.lt nc then (match isLook tab a b with
      | some r => .ok (.bl r) h
      | none => .bad) else .bad
    | _, _ => .bad)
  | _ => .bad
section
variable {C : RC}
theorem tyx_of (ok : C.Ok) {tab : IsTab} (io : IsOk C.S tab) {σ : St} {H : Hp} {G : Gh} {h : Hm} (rp : RepH C.S H G h) {t : T} {v : V} (r : RelT C.S H G t v) {a : Tg} (e : tagOf h t = some a) (hl : a.lt C.S.nc = true) : TyX C.X.K H v (a.val C.S) := by
  have own : ∀ {p : Addr} {c : Nat} {dx : Addr} {vs : List (Str × V)}, c < C.S.nc → H p = some (.ins (C.S.cls c) dx vs) → TyX C.X.K H (.ref p) (.ref (C.S.cls c)) := fun {p c dx vs} hc q => by
    have k := io.cls c hc
    rw [ok.K] at k
    exact .base (.ins q k.cl k.ha k.hn k.htk k.hm)
  cases r with
  | non => cases e; exact .base .non
  | bl b => cases e; exact .base (.bl b)
  | int b => cases e; exact .base (.int b)
  | str b => cases e; exact .base (.str b)
  | tup hz _ =>
    cases e
    have sq := hz.sq
    rw [ok.K] at sq
    rcases sq with sq | ⟨o, _, _, e1, e2, _⟩
    · rcases sq with sq | ⟨o, sq⟩
      · exact .base (.tup sq)
      · exact .fTuple sq
    · exact .kTuple e1 e2
  | lst hz _ =>
    cases e
    have sq := hz.sq
    rw [ok.K] at sq
    rcases sq with sq | ⟨o, _, _, e1, e2, _⟩
    · rcases sq with sq | ⟨o, sq⟩
      · exact .base (.lst sq)
      · exact .base (.frz sq)
    · exact .kList e1 e2
  | obj z q _ => cases e; exact own (of_decide_eq_true hl) q
  | emp z q => cases e; exact .base (.dK q)
  | fn k => cases e
  | ty n => cases e
  | cl c => cases e
  | exo0 _ _ => cases e
  | exo _ _ _ _ _ => cases e
  | ref hl' =>
    unfold tagOf at e
    dsimp only at e
    split at e
    · rename_i xs q
      cases e
      obtain ⟨a, o, h1, h2, h3, _, _⟩ := rp.cell _ _ q
      rw [hl'] at h1; cases h1
      cases h3 with
      | lst rs => exact .base (.lst h2)
    · rename_i c fs q
      cases e
      obtain ⟨a, o, h1, h2, h3, _, _⟩ := rp.cell _ _ q
      rw [hl'] at h1; cases h1
      cases h3 with
      | ins rf => exact own (of_decide_eq_true hl) h2
    · cases e
theorem ca_isi (ok : C.Ok) {tab : IsTab} (io : IsOk C.S tab) : CaT C (.builtin "isinstance") (gIsi C.S.nc tab) := by
  refine CaT.of call_isi fun σ H G h xs vs Q rp rx o => ?_
  unfold gIsi at o
  split at o
  · rename_i x c
    obtain ⟨v, w, rfl, rv, rw'⟩ := rx.two
    split at o
    · rename_i a b ea eb
      split at o
      · rename_i hl
        split at o
        · rename_i r er
          have k := io.tab a b r er
          rw [ok.K] at k
          refine ⟨v, w, a.val C.S, b.val C.S, r, rfl, ?_, tyx_of (σ := σ) ok io rp rv ea hl, k, out_ok o rp (.bl _)⟩
          cases c with
          | ty n => cases eb; cases rw'; exact .ty n
          | cl c => cases eb; cases rw'; exact .own _
          | _ => cases eb
        · exact False.elim o
      · exact False.elim o
    · exact False.elim o
  · exact False.elim o
/-- a built-in type, by name -/
theorem je_ty {x : Str} {n : String} {pos : Pos} (hg : Gl C.X x) (hm : C.X.mg x = none) (hv : bootBuiltins x = some (.type n)) (hn : x ≠ "__name__" := by decide) (hd : (x == ("__debug__" : Str)) = false := by decide) : JE C (.Name x pos) (eC (.ty n)) := by
  refine ⟨fun pins s σ H Q I hw => ?_⟩
  obtain ⟨a, G, h, rp, rs, o⟩ := hw
  exact ld_blt I hg hm hv ⟨.ty n, H, I, rfl, out_ok o rp (.ty n)⟩ hn hd
theorem je_cl {x : Str} (c : Nat) {pos : Pos} (hg : Gl C.X x) (hm : C.X.mg x = some (.ref (C.S.cls c))) (hd : (x == ("__debug__" : Str)) = false := by decide) : JE C (.Name x pos) (eC (.cl c)) :=
  je_glob (v := .ref (C.S.cls c)) (.cl c) hg hm rfl (fun _ _ => .cl c) hd
end

/-! ### calls anywhere below -/
/-- somewhere below the running body -/
structure Blw (C : RC) (n : Nat) (A : Around) : Prop where
  room : Room n A
  fr : A.frames = C.X.A.frames
  gd : GdK n A
section
variable {C : RC}
theorem Blw.in1 {n : Nat} {A : Around} (b : Blw C (n + 1) A) : Blw C n A.in1 := ⟨b.room.in1, b.fr, GdK.mono (A := A) b.gd (Nat.le_succ n)⟩
theorem Blw.mono {n m : Nat} {A : Around} (b : Blw C m A) (h : n ≤ m) : Blw C n A := ⟨b.room.mono h, b.fr, b.gd.mono h⟩
theorem RC.Ok.blw (ok : C.Ok) {n : Nat} (h : n ≤ C.k) : Blw C n C.X.A := ⟨ok.room.mono h, rfl, ok.gd.mono h⟩
def CaA (C : RC) (k : Nat) (f : Value) (n : Nat) (o : List T → Hm → R T) : Prop :=
  ∀ (A : Around) (pins : List (Addr × Obj)) (s : Shared) (σ : St) (H : Hp) (G : Gh) (h : Hm) (xs : List T) (vs : List V) (us : List Value) (Q : VK), Blw C k A → Inv C.X pins σ H s → RepH C.S H G h → RelTs C.S H G xs vs → Vals vs us →
    us.length = n → Out C σ H G (relE C) (o xs h) Q → wpAny (model C.X.prog C.X.w) A (call f us) (EP C.X pins σ Q) C.X.xe s
theorem CaA.fnC (ok : C.Ok) {k : Nat} {f : Addr} {n : Nat} {oo : O3} (F : FnC C.X.prog C.X.w C.S C.X.mg C.X.base k f n [] oo) : CaA C k (.ref f) n (fun xs h => oo xs [] h) := by
  intro A pins s σ H G h xs vs us Q bl I rp rx vu l1 o
  have KX : C.S.K.In s.heap := by rw [ok.K]; exact I.kIn
  have e0 : Env0 C.X.prog C.X.w C.S.K C.X.mg C.X.base A C.X.stack s H := by
    rw [ok.K]
    have e := I.env0
    exact ⟨by rw [bl.fr]; exact e.frames, e.mod, e.bs, e.bsz, e.funs, e.frf, e.hok, e.bare⟩
  refine wpAny_call (codeAny_mono (F.run A C.X.stack s H G h xs [] vs [] us [] Q (fun cls d H' => C.W cls d σ H') bl.room bl.gd e0 KX rp rx .nil vu .nil l1 rfl o.endT) fun r s' hq => ?_)
  cases r with
  | error e => exact ok.tk e s' (XE.of_call I (fun _ _ _ z => z) hq)
  | ok fl =>
    cases fl with
    | ret u => exact I.after hq
    | next => exact False.elim hq
    | brk => exact False.elim hq
    | cont => exact False.elim hq
theorem CaA.fn (ok : C.Ok) {k : Nat} {f : Addr} {fd : FuncData} {ps : List Str} {n : Nat} {arr : List T → List T → List T} {g : List T → Hm → R T}
    (F : FnG C.X.prog C.X.w C.S.K C.X.mg C.X.base k f fd ps (spT C.S ps.length g)) (B : BindT C.S fd ps n [] arr) : CaA C k (.ref f) n (fun xs h => g (arr xs []) h) := CaA.fnC ok (F.toC B)
/-- a special method, class by class -/
abbrev Ms := Nat → Option (List T → Hm → R T)
def DuOk (C : RC) (k : Nat) (f : Str) (n : Nat) (ms : Ms) : Prop := ∀ c g, ms c = some g → ∃ a, PySem.W.findIn C.S.K (.ref (C.S.cls c)) f = some (some (.ref a)) ∧ PySem.W.isFn C.S.K (.ref a) = true ∧ CaA C k (.ref a) n g
theorem inst_of {pins : List (Addr × Obj)} {s : Shared} {σ : St} {H : Hp} {a c dx : Addr} {fs : List (Str × V)} (I : Inv C.X pins σ H s) (e : H a = some (.ins c dx fs)) : ∃ ox od, PySem.W.InstAt s.heap a ox c od := by
  obtain ⟨mA, J, _⟩ := ins_get I.hok e
  obtain ⟨od, J, _⟩ := J.look
  exact ⟨_, _, J⟩

/-! ### texts -/
def asStr : T → Hm → R T := fun t h => match t with
  | .str a => .ok (.str a) h
  | _ => .bad
theorem out_asStr {σ : St} {H H1 : Hp} {G G1 : Gh} {t : T} {h : Hm} {Q : VK} {v : V} (o : Out C σ H G (relE C) (asStr t h) Q) (st : Step H G H1 G1) (rp : RepH C.S H1 G1 h) (rv : RelT C.S H1 G1 t v) : ∃ a, v = .str a ∧ Q v H1 := by
  cases t with
  | str b => cases rv; exact ⟨b, rfl, o _ H1 G1 st rp (.str b)⟩
  | _ => exact False.elim o
/-- a special method's text -/
def dunS (ms : Ms) (x : T) (h : Hm) : R T := match insOf x h with
  | some (c, _) => (match ms c with
    | some g => (g [x] h).bind asStr
    | none => .bad)
  | none => .bad
theorem dunS_run (ok : C.Ok) {k : Nat} {f : Str} {ms : Ms} (hm : DuOk C k f 1 ms) {A : Around} (bl : Blw C k A) {pins : List (Addr × Obj)} {s : Shared} {σ : St} {H : Hp} {G : Gh} {h : Hm} {x : T} {v : V} {Q : VK} (I : Inv C.X pins σ H s) (rp : RepH C.S H G h) (rx : RelT C.S H G x v)
    (o : Out C σ H G (relE C) (dunS ms x h) Q) : ∃ a c dx fs, v = .ref a ∧ H a = some (.ins c dx fs) ∧ ∃ fa, PySem.W.findIn C.X.K (.ref c) f = some (some (.ref fa)) ∧ PySem.W.isFn C.X.K (.ref fa) = true ∧
      ∀ s', Inv C.X pins σ H s' → wpAny (model C.X.prog C.X.w) A (call (.ref fa) [.ref a]) (PySem.W.StrBack (EP C.X pins σ Q)) C.X.xe s' := by
  unfold dunS at o
  split at o
  · rename_i c fs' e
    split at o
    · rename_i g eg
      obtain ⟨a, dx, vs, rfl, ea, _⟩ := insOf_rel rp rx e
      obtain ⟨fa, q1, q2, q3⟩ := hm c g eg
      rw [ok.K] at q1 q2
      refine ⟨a, _, dx, vs, rfl, ea, fa, q1, q2, fun s' I' => ?_⟩
      refine wpAny_mono (q3 A pins s' σ H G h [x] [.ref a] [.ref a] _ bl I' rp (.cons rx .nil) (.cons rfl .nil) rfl (Out.bind (Rel := relE C) o)) (fun u s2 hu => ?_) fun _ _ z => z
      obtain ⟨y, H2, I2, r2, t2, G2, h2, st2, rp2, ry, o2⟩ := hu
      obtain ⟨b, rfl, q⟩ := out_asStr o2 Step.refl rp2 ry
      obtain ⟨tk, rfl⟩ := _root_.id r2
      exact ⟨_, H2, I2, r2, q⟩
    · exact False.elim o
  · exact False.elim o
/-- repr of data -/
def showD (x : T) (h : Hm) : R T := match x.toDh h with
  | some d => if d.showable && (decide (d.shown.length ≤ sizeLine) && decide (d.depth ≤ 100)) then .ok (.str d.shown) h else .bad
  | none => .bad
def isInt : T → Bool
  | .int _ => true
  | _ => false
def gStr (ms : Ms) : List T → Hm → R T := fun xs h => match xs with
  | [.int i] => if decide (i.natAbs.log2 < 1920) then .ok (.str (toString i)) h else .bad
  | [.str a] => .ok (.str a) h
  | [.non] => .ok (.str "None") h
  | [.bl b] => .ok (.str (if b then "True" else "False")) h
  | [.lst ys] => showD (.lst ys) h
  | [.tup ys] => showD (.tup ys) h
  | [x] => dunS ms x h
  | _ => .bad
def gRepr (ms : Ms) : List T → Hm → R T := fun xs h => match xs with
  | [.int i] => if decide (i.natAbs.log2 < 1920) then .ok (.str (toString i)) h else .bad
  | [.non] => .ok (.str "None") h
  | [.bl b] => .ok (.str (if b then "True" else "False")) h
  | [.str x] => if (reprText x).length ≤ sizeLine then .ok (.str (reprText x)) h else .bad
  | [.lst ys] => showD (.lst ys) h
  | [.tup ys] => showD (.tup ys) h
  | [x] => dunS ms x h
  | _ => .bad
theorem showD_of {σ : St} {H : Hp} {G : Gh} {h : Hm} {x : T} {Q : VK} (o : Out C σ H G (relE C) (showD x h) Q) (rp : RepH C.S H G h) : ∃ d, x.toDh h = some d ∧ d.showable = true ∧ d.shown.length ≤ sizeLine ∧ d.depth ≤ 100 ∧ Q (.str d.shown) H := by
  unfold showD at o
  split at o
  · rename_i d e
    split at o
    · rename_i hc
      obtain ⟨h1, h2⟩ := band hc
      obtain ⟨h2, h3⟩ := band h2
      exact ⟨d, e, h1, of_decide_eq_true h2, of_decide_eq_true h3, out_ok o rp (.str _)⟩
    · exact False.elim o
  · exact False.elim o
theorem refOf {S : Sta} {H : Hp} {G : Gh} {x : T} {v : V} (r : RelT S H G x v) (h : (∃ ys, x = .lst ys) ∨ ∃ ys, x = .tup ys) : ∃ a, v = .ref a := by
  rcases h with ⟨ys, rfl⟩ | ⟨ys, rfl⟩ <;> cases r <;> exact ⟨_, rfl⟩
theorem kept_of {pins : List (Addr × Obj)} {s : Shared} {σ : St} {H : Hp} {h' : Heap} {tk : Nat} (I : Inv C.X pins σ H s) (k : ∀ b o, s.heap.get? b = some o → h'.get? b = some o) : Inv C.X pins σ H { s with heap := h', toks := tk } := I.kept k
theorem ca_str (ok : C.Ok) {k : Nat} {ms : Ms} (hm : DuOk C k "__str__" 1 ms) (hk : k + 2 ≤ C.k) (hg : 100 ≤ C.k) : CaT C (.type "str") (gStr ms) := by
  intro pins s σ H G h xs vs us Q I rp rx vu o
  unfold gStr at o
  have shows : ∀ x, ((∃ ys, x = T.lst ys) ∨ ∃ ys, x = T.tup ys) → RelTs C.S H G [x] vs → Out C σ H G (relE C) (showD x h) Q → wpAny (model C.X.prog C.X.w) C.X.A (call (.type "str") us) (EP C.X pins σ Q) C.X.xe s := fun x hx rx o => by
    obtain ⟨v, rfl, rv⟩ := rx.one
    obtain ⟨u, rfl, r1⟩ := vals1 vu
    obtain ⟨a, rfl⟩ := refOf rv hx
    cases r1
    obtain ⟨d, e, s1, s2, s3, q⟩ := showD_of o rp
    obtain ⟨⟨as, ra⟩, _, nd⟩ := readsH_of ok.K I rp rv rfl e
    exact str_of_reads ra s1 (by rw [nd]; exact fun z => absurd z (by simp)) (ok.gd.none hg) (by have := ok.room.un; omega) (fun _ _ z => z) (fun h' u tk kk => ⟨.str d.shown, H, kept_of I kk, ⟨_, rfl⟩, q⟩) s2
  split at o
  · rename_i i
    obtain ⟨v, rfl, rv⟩ := rx.one
    cases rv
    split at o
    · rename_i hf
      exact call_str_int pins s σ H _ us Q I vu ⟨i, rfl, of_decide_eq_true hf, out_ok o rp (.str _)⟩
    · exact False.elim o
  · rename_i a
    obtain ⟨v, rfl, rv⟩ := rx.one
    cases rv
    exact SkE.call_str_str pins s σ H _ us Q I vu ⟨a, rfl, out_ok o rp (.str _)⟩
  · obtain ⟨v, rfl, rv⟩ := rx.one
    cases rv
    obtain ⟨u, rfl, r1⟩ := vals1 vu
    cases r1
    exact PySem.P.str_of_none ⟨.str _, H, I.tok _, ⟨_, rfl⟩, out_ok o rp (.str _)⟩
  · rename_i b
    obtain ⟨v, rfl, rv⟩ := rx.one
    cases rv
    obtain ⟨u, rfl, r1⟩ := vals1 vu
    cases r1
    exact PySem.P.str_of_bool ⟨.str _, H, I.tok _, ⟨_, rfl⟩, out_ok o rp (.str _)⟩
  · exact shows _ (.inl ⟨_, rfl⟩) rx o
  · exact shows _ (.inr ⟨_, rfl⟩) rx o
  · obtain ⟨v, rfl, rv⟩ := rx.one
    obtain ⟨u, rfl, r1⟩ := vals1 vu
    obtain ⟨a, c, dx, fs, rfl, ea, fa, q1, q2, q3⟩ := dunS_run ok hm (A := C.X.A.in1.in1) (ok.blw hk).in1.in1 I rp rv o
    cases r1
    obtain ⟨ox, od, J⟩ := inst_of I ea
    exact PySem.W.kso_call (by have := ok.room.un; show C.X.A.units + 1 + 1 < _; omega) I.kIn J q1 q2 (q3 s I)
  · exact False.elim o
theorem ca_repr (ok : C.Ok) {k : Nat} {ms : Ms} (hm : DuOk C k "__repr__" 1 ms) (hk : k + 2 ≤ C.k) (hg : 100 ≤ C.k) : CaT C (.builtin "repr") (gRepr ms) := by
  intro pins s σ H G h xs vs us Q I rp rx vu o
  unfold gRepr at o
  have shows : ∀ x, ((∃ ys, x = T.lst ys) ∨ ∃ ys, x = T.tup ys) → RelTs C.S H G [x] vs → Out C σ H G (relE C) (showD x h) Q → wpAny (model C.X.prog C.X.w) C.X.A (call (.builtin "repr") us) (EP C.X pins σ Q) C.X.xe s := fun x hx rx o => by
    obtain ⟨v, rfl, rv⟩ := rx.one
    obtain ⟨u, rfl, r1⟩ := vals1 vu
    obtain ⟨a, rfl⟩ := refOf rv hx
    cases r1
    obtain ⟨d, e, s1, s2, s3, q⟩ := showD_of o rp
    obtain ⟨⟨as, ra⟩, _, nd⟩ := readsH_of ok.K I rp rv rfl e
    exact repr_of_reads' ra s1 (by rw [nd]; exact fun z => absurd z (by simp)) (ok.gd.none hg) (by have := ok.room.un; omega) (fun _ _ z => z) (fun h' u tk kk => ⟨.str d.shown, H, kept_of I kk, ⟨_, rfl⟩, q⟩) s2
  split at o
  · rename_i i
    obtain ⟨v, rfl, rv⟩ := rx.one
    cases rv
    split at o
    · rename_i hf
      exact SkE.call_repr_int pins s σ H _ us Q I vu ⟨i, rfl, of_decide_eq_true hf, out_ok o rp (.str _)⟩
    · exact False.elim o
  · obtain ⟨v, rfl, rv⟩ := rx.one
    cases rv
    obtain ⟨u, rfl, r1⟩ := vals1 vu
    cases r1
    exact PySem.P.repr_of_none ⟨.str _, H, I.tok _, ⟨_, rfl⟩, out_ok o rp (.str _)⟩
  · rename_i b
    obtain ⟨v, rfl, rv⟩ := rx.one
    cases rv
    obtain ⟨u, rfl, r1⟩ := vals1 vu
    cases r1
    exact PySem.P.repr_of_bool ⟨.str _, H, I.tok _, ⟨_, rfl⟩, out_ok o rp (.str _)⟩
  · rename_i a
    obtain ⟨v, rfl, rv⟩ := rx.one
    cases rv
    obtain ⟨u, rfl, t, rfl⟩ := vals1 vu
    split at o
    · rename_i hf
      exact PySem.P.repr_of_str ⟨.str _, H, I.tok _, ⟨_, rfl⟩, out_ok o rp (.str _)⟩ hf
    · exact False.elim o
  · exact shows _ (.inl ⟨_, rfl⟩) rx o
  · exact shows _ (.inr ⟨_, rfl⟩) rx o
  · obtain ⟨v, rfl, rv⟩ := rx.one
    obtain ⟨u, rfl, r1⟩ := vals1 vu
    obtain ⟨a, c, dx, fs, rfl, ea, fa, q1, q2, q3⟩ := dunS_run ok hm (A := C.X.A.in1) (ok.blw (by omega : k + 1 ≤ C.k)).in1 I rp rv o
    cases r1
    obtain ⟨ox, od, J⟩ := inst_of I ea
    obtain ⟨m, hF⟩ := I.fr
    exact PySem.W.repr_K (by have := ok.room.un; show C.X.A.units + 1 < _; omega) hF I.ok.mod.kin J q1 q2 (q3 s I)
  · exact False.elim o

/-! ### the same below level 100: no lists, no tuples -/
def contT : List T → Bool
  | [.lst _] => true
  | [.tup _] => true
  | _ => false
def gStrL (ms : Ms) : List T → Hm → R T := fun xs h => if contT xs = true then .bad else gStr ms xs h
def gReprL (ms : Ms) : List T → Hm → R T := fun xs h => if contT xs = true then .bad else gRepr ms xs h
theorem ca_strL (ok : C.Ok) {k : Nat} {ms : Ms} (hm : DuOk C k "__str__" 1 ms) (hk : k + 2 ≤ C.k) : CaT C (.type "str") (gStrL ms) := by
  intro pins s σ H G h xs vs us Q I rp rx vu o
  unfold gStrL at o
  split at o
  · exact False.elim o
  rename_i hcont
  unfold gStr at o
  split at o
  · rename_i i
    obtain ⟨v, rfl, rv⟩ := rx.one
    cases rv
    split at o
    · rename_i hf
      exact call_str_int pins s σ H _ us Q I vu ⟨i, rfl, of_decide_eq_true hf, out_ok o rp (.str _)⟩
    · exact False.elim o
  · rename_i a
    obtain ⟨v, rfl, rv⟩ := rx.one
    cases rv
    exact SkE.call_str_str pins s σ H _ us Q I vu ⟨a, rfl, out_ok o rp (.str _)⟩
  · obtain ⟨v, rfl, rv⟩ := rx.one
    cases rv
    obtain ⟨u, rfl, r1⟩ := vals1 vu
    cases r1
    exact PySem.P.str_of_none ⟨.str _, H, I.tok _, ⟨_, rfl⟩, out_ok o rp (.str _)⟩
  · rename_i b
    obtain ⟨v, rfl, rv⟩ := rx.one
    cases rv
    obtain ⟨u, rfl, r1⟩ := vals1 vu
    cases r1
    exact PySem.P.str_of_bool ⟨.str _, H, I.tok _, ⟨_, rfl⟩, out_ok o rp (.str _)⟩
  · exact absurd rfl hcont
  · exact absurd rfl hcont
  · obtain ⟨v, rfl, rv⟩ := rx.one
    obtain ⟨u, rfl, r1⟩ := vals1 vu
    obtain ⟨a, c, dx, fs, rfl, ea, fa, q1, q2, q3⟩ := dunS_run ok hm (A := C.X.A.in1.in1) (ok.blw hk).in1.in1 I rp rv o
    cases r1
    obtain ⟨ox, od, J⟩ := inst_of I ea
    exact PySem.W.kso_call (by have := ok.room.un; show C.X.A.units + 1 + 1 < _; omega) I.kIn J q1 q2 (q3 s I)
  · exact False.elim o
theorem ca_reprL (ok : C.Ok) {k : Nat} {ms : Ms} (hm : DuOk C k "__repr__" 1 ms) (hk : k + 2 ≤ C.k) : CaT C (.builtin "repr") (gReprL ms) := by
  intro pins s σ H G h xs vs us Q I rp rx vu o
  unfold gReprL at o
  split at o
  · exact False.elim o
  rename_i hcont
  unfold gRepr at o
  split at o
  · rename_i i
    obtain ⟨v, rfl, rv⟩ := rx.one
    cases rv
    split at o
    · rename_i hf
      exact SkE.call_repr_int pins s σ H _ us Q I vu ⟨i, rfl, of_decide_eq_true hf, out_ok o rp (.str _)⟩
    · exact False.elim o
  · obtain ⟨v, rfl, rv⟩ := rx.one
    cases rv
    obtain ⟨u, rfl, r1⟩ := vals1 vu
    cases r1
    exact PySem.P.repr_of_none ⟨.str _, H, I.tok _, ⟨_, rfl⟩, out_ok o rp (.str _)⟩
  · rename_i b
    obtain ⟨v, rfl, rv⟩ := rx.one
    cases rv
    obtain ⟨u, rfl, r1⟩ := vals1 vu
    cases r1
    exact PySem.P.repr_of_bool ⟨.str _, H, I.tok _, ⟨_, rfl⟩, out_ok o rp (.str _)⟩
  · rename_i a
    obtain ⟨v, rfl, rv⟩ := rx.one
    cases rv
    obtain ⟨u, rfl, t, rfl⟩ := vals1 vu
    split at o
    · rename_i hf
      exact PySem.P.repr_of_str ⟨.str _, H, I.tok _, ⟨_, rfl⟩, out_ok o rp (.str _)⟩ hf
    · exact False.elim o
  · exact absurd rfl hcont
  · exact absurd rfl hcont
  · obtain ⟨v, rfl, rv⟩ := rx.one
    obtain ⟨u, rfl, r1⟩ := vals1 vu
    obtain ⟨a, c, dx, fs, rfl, ea, fa, q1, q2, q3⟩ := dunS_run ok hm (A := C.X.A.in1) (ok.blw (by omega : k + 1 ≤ C.k)).in1 I rp rv o
    cases r1
    obtain ⟨ox, od, J⟩ := inst_of I ea
    obtain ⟨m, hF⟩ := I.fr
    exact PySem.W.repr_K (by have := ok.room.un; show C.X.A.units + 1 < _; omega) hF I.ok.mod.kin J q1 q2 (q3 s I)
  · exact False.elim o

/-! ### f-strings -/
/-- {e} -/
def oFmt (ms : Ms) : T → Hm → R T := fun x h => match x with
  | .str a => if decide (a.length ≤ sizeLine) then .ok (.str a) h else .bad
  | .int i => if decide (i.natAbs.log2 < 1920) then .ok (.str (toString i)) h else .bad
  | .lst ys => showD (.lst ys) h
  | .tup ys => showD (.tup ys) h
  | x => dunS ms x h
def eFmt (ms : Ms) (r : ET) : ET := fun st h => (r st h).bind (oFmt ms)
structure FmOk (C : RC) (k : Nat) (ms : Ms) : Prop where
  str : DuOk C k "__str__" 1 ms
  fmt : ∀ c g, ms c = some g → PySem.W.findIn C.S.K (.ref (C.S.cls c)) "__format__" = some (some (.builtin "object.__format__")) ∧ PySem.W.mroIn C.S.K (C.S.cls c) (.type "object") = some true
theorem je_fmt (ok : C.Ok) {k : Nat} {ms : Ms} (hm : FmOk C k ms) (hk : k + 2 ≤ C.k) (hg : 100 ≤ C.k) {e : Expr} {r : ET} {pos : Pos} (j : JE C e r) : JE C (.FormattedValue e (-1) none pos) (eFmt ms r) := by
  refine ⟨fun pins s0 σ H0 Q I0 hw => ?_⟩
  obtain ⟨st, G0, h0, rp0, rs, o0⟩ := hw
  refine wpAny_FormattedValue_plain (thn (j.run I0 rp0 rs (Out.bind (Rel := relE C) o0)) fun u s ⟨v, H, I, ru, x, G, h, st1, rp, rx, o⟩ => ?_)
  have shows : ((∃ ys, x = T.lst ys) ∨ ∃ ys, x = T.tup ys) → Out C σ H G (relE C) (showD x h) Q → wpAny (model C.X.prog C.X.w) C.X.A (formatField u Str.empty) (EP C.X pins σ Q) C.X.xe s := fun hx o => by
    obtain ⟨a, rfl⟩ := refOf rx hx
    cases ru
    obtain ⟨d, e, s1, s2, s3, q⟩ := showD_of o rp
    obtain ⟨⟨as, ra⟩, _, nd⟩ := readsH_of ok.K I rp rx rfl e
    exact formatField_of_reads ra s1 (by rw [nd]; exact fun z => absurd z (by simp)) (ok.gd.none hg) (by have := ok.room.un; omega) (fun _ _ z => z) (fun h' u tk kk => ⟨.str d.shown, H, kept_of I kk, ⟨_, rfl⟩, q⟩) s2
  unfold oFmt at o
  split at o
  · rename_i a
    cases rx
    obtain ⟨t, rfl⟩ := _root_.id ru
    split at o
    · rename_i hf
      have q := out_ok o rp (.str a)
      exact PySem.wpAny_formatField_str ⟨.str a, H, I, ⟨_, rfl⟩, q⟩ ⟨.str a, H, I.tok _, ⟨_, rfl⟩, q⟩ (of_decide_eq_true hf)
    · exact False.elim o
  · rename_i i
    cases rx
    obtain ⟨t, rfl⟩ := _root_.id ru
    split at o
    · rename_i hf
      exact PySem.wpAny_formatField_int (of_decide_eq_true hf) ⟨.str (toString i), H, I.tok _, ⟨_, rfl⟩, out_ok o rp (.str _)⟩
    · exact False.elim o
  · exact shows (.inl ⟨_, rfl⟩) o
  · exact shows (.inr ⟨_, rfl⟩) o
  · have o' := o
    unfold dunS at o'
    split at o'
    · rename_i c fs' e
      split at o'
      · rename_i g eg
        obtain ⟨a, dx, vs, rfl, ea, _⟩ := insOf_rel rp rx e
        obtain ⟨f1, f2⟩ := hm.fmt c g eg
        rw [ok.K] at f1 f2
        obtain ⟨a', c', dx', fs'', e1, ea', fa, q1, q2, q3⟩ := dunS_run ok hm.str (A := C.X.A.in1) (ok.blw (by omega : k + 1 ≤ C.k)).in1 I rp rx o
        cases e1
        rw [ea] at ea'
        cases ea'
        cases ru
        obtain ⟨ox, od, J⟩ := inst_of I ea
        exact PySem.W.kfo_fieldS (by have := ok.room.un; show C.X.A.units + 1 < _; omega) I.kIn J f1 f2 q1 q2 (q3 _ (I.tok _))
      · exact False.elim o'
    · exact False.elim o'
def oFmtL (ms : Ms) : T → Hm → R T := fun x h => if contT [x] = true then .bad else oFmt ms x h
def eFmtL (ms : Ms) (r : ET) : ET := fun st h => (r st h).bind (oFmtL ms)
theorem je_fmtL (ok : C.Ok) {k : Nat} {ms : Ms} (hm : FmOk C k ms) (hk : k + 2 ≤ C.k) {e : Expr} {r : ET} {pos : Pos} (j : JE C e r) : JE C (.FormattedValue e (-1) none pos) (eFmtL ms r) := by
  refine ⟨fun pins s0 σ H0 Q I0 hw => ?_⟩
  obtain ⟨st, G0, h0, rp0, rs, o0⟩ := hw
  refine wpAny_FormattedValue_plain (thn (j.run I0 rp0 rs (Out.bind (Rel := relE C) o0)) fun u s ⟨v, H, I, ru, x, G, h, st1, rp, rx, o⟩ => ?_)
  unfold oFmtL at o
  split at o
  · exact False.elim o
  rename_i hcont
  unfold oFmt at o
  split at o
  · rename_i a
    cases rx
    obtain ⟨t, rfl⟩ := _root_.id ru
    split at o
    · rename_i hf
      have q := out_ok o rp (.str a)
      exact PySem.wpAny_formatField_str ⟨.str a, H, I, ⟨_, rfl⟩, q⟩ ⟨.str a, H, I.tok _, ⟨_, rfl⟩, q⟩ (of_decide_eq_true hf)
    · exact False.elim o
  · rename_i i
    cases rx
    obtain ⟨t, rfl⟩ := _root_.id ru
    split at o
    · rename_i hf
      exact PySem.wpAny_formatField_int (of_decide_eq_true hf) ⟨.str (toString i), H, I.tok _, ⟨_, rfl⟩, out_ok o rp (.str _)⟩
    · exact False.elim o
  · exact absurd rfl hcont
  · exact absurd rfl hcont
  · have o' := o
    unfold dunS at o'
    split at o'
    · rename_i c fs' e
      split at o'
      · rename_i g eg
        obtain ⟨a, dx, vs, rfl, ea, _⟩ := insOf_rel rp rx e
        obtain ⟨f1, f2⟩ := hm.fmt c g eg
        rw [ok.K] at f1 f2
        obtain ⟨a', c', dx', fs'', e1, ea', fa, q1, q2, q3⟩ := dunS_run ok hm.str (A := C.X.A.in1) (ok.blw (by omega : k + 1 ≤ C.k)).in1 I rp rx o
        cases e1
        rw [ea] at ea'
        cases ea'
        cases ru
        obtain ⟨ox, od, J⟩ := inst_of I ea
        exact PySem.W.kfo_fieldS (by have := ok.room.un; show C.X.A.units + 1 < _; omega) I.kIn J f1 f2 q1 q2 (q3 _ (I.tok _))
      · exact False.elim o'
    · exact False.elim o'
/-- the parts, one behind the other -/
inductive JP (C : RC) : List Expr → List ET → Prop where
  | nil : JP C [] []
  | cons {e : Expr} {r : ET} {es : List Expr} {rs : List ET} (h : JE C e r) (t : JP C es rs) : JP C (e :: es) (r :: rs)
def eJs : List ET → Str → StT → Hm → R T
  | [], acc, _, h => .ok (.str acc) h
  | r :: rs, acc, st, h => (r st h).bind fun x h1 => match x with
    | .str y => if decide ((acc ++ y).length ≤ sizeLine) then eJs rs (acc ++ y) st h1 else .bad
    | _ => .bad
def eJoin (rs : List ET) : ET := fun st h => eJs rs Str.empty st h
theorem jp_run {es : List Expr} {rs : List ET} (j : JP C es rs) {pins : List (Addr × Obj)} {σ : St} : ∀ (acc : Str) (s : Shared) (H : Hp) (G : Gh) (h : Hm) (st : StT) (Q : VK) (Rr : Str → Shared → Prop), acc.length ≤ sizeLine → Inv C.X pins σ H s → RepH C.S H G h → RelSt C.S H G st σ →
    Out C σ H G (relE C) (eJs rs acc st h) Q → (∀ out s1 H1, out.length ≤ sizeLine → Inv C.X pins σ H1 s1 → Q (.str out) H1 → Rr out s1) → Joins (model C.X.prog C.X.w) C.X.A C.X.xe (evalEach es C.X.env) acc Rr s := by
  induction j with
  | nil =>
    intro acc s H G h st Q Rr hz I rp rs o k
    have e0 : evalEach [] C.X.env = [] := by first | rfl | simp [evalEach]
    rw [e0]
    exact k acc s H hz I (out_ok o rp (.str _))
  | @cons e r es rs he t ih =>
    intro acc s H G h st Q Rr hz I rp rst o k
    have e0 : evalEach (e :: es) C.X.env = eval e C.X.env :: evalEach es C.X.env := by first | rfl | simp [evalEach]
    rw [e0]
    refine thn (he.run I rp rst (Out.bind (Rel := relE C) o)) fun u s1 ⟨v, H1, I1, r1, x, G1, h1, st1, rp1, rx, o1⟩ => ?_
    dsimp only at o1
    split at o1
    · rename_i y
      cases rx
      obtain ⟨tk, rfl⟩ := _root_.id r1
      split at o1
      · rename_i hl
        exact ⟨y, tk, rfl, of_decide_eq_true hl, ih (acc ++ y) s1 H1 G1 h1 st Q Rr (of_decide_eq_true hl) I1 rp1 (rst.step st1) o1 k⟩
      · exact False.elim o1
    · exact False.elim o1
theorem je_join {v1 v2 : Expr} {rest : List Expr} {rs : List ET} {pos : Pos} (j : JP C (v1 :: v2 :: rest) rs) : JE C (.JoinedStr (v1 :: v2 :: rest) pos) (eJoin rs) := by
  refine ⟨fun pins s σ H Q I hw => ?_⟩
  obtain ⟨st, G, h, rp, rst, o⟩ := hw
  exact wpAny_JoinedStr (jp_run j Str.empty s H G h st Q _ (Nat.zero_le _) I rp rst o fun out s1 H1 hz I1 q1 => ⟨hz, .str out, H1, I1.tok _, ⟨_, rfl⟩, q1⟩)
theorem je_join1 {e : Expr} {r : ET} {pos : Pos} (j : JE C e r) : JE C (.JoinedStr [e] pos) r := ⟨fun pins s σ H Q I hw => wpAny_JoinedStr_one (PE.run j pins s σ H Q I hw)⟩
end
end RT
set_option Elab.async false
set_option linter.all false
set_option maxRecDepth 100000
set_option maxHeartbeats 4000000
/-! RT, part h: own == and !=, in with own ==. -/
namespace RTL
open PySem PySem.SeqAt
open AutoSeq1 (wpAny_loadPart')
open MeetsSeq MeetsSeq2 MeetsSeq3 SeqRoads2
section
variable {prog : Program} {w : World} {A : Around} {R : Result → Shared → Prop}
/-- at each turn the list is read anew -/
def InI (prog : Program) (w : World) (A : Around) (E : Value → Shared → Prop) (l : Addr) (x : Value) (N : Nat) (I : Nat → Shared → Prop) (Yes : Shared → Prop) : Prop :=
  ∀ i s, I i s → ∃ (items : Array Value) (n : Nat) (dd : Option Addr) (sl : Array (Option Value)), s.heap.get? l = some { cls := .type "list", dict := dd, data := .seq items n, slots := sl } ∧ items.size = N ∧
    ∀ (h1 : i < items.size), wpAny (model prog w) A.in1 (eqBool items[i] x) (fun r s' => if r then Yes s' else I (i + 1) s') E s
theorem in_loopG (l : Addr) (x : Value) (N : Nat) (I : Nat → Shared → Prop) (Yes : Shared → Prop) (hl : InI prog w A (fun e s' => R (.error e) s') l x N I Yes)
    (yes : ∀ s, Yes s → R (.ok (.ret (.bool true))) s) (fin : ∀ s, I N s → R (.ok (.ret (.bool false))) s) (k : Nat) :
    ∀ i : Nat, N - i = k → i ≤ N → ∀ s, I i s →
      wpAny (model prog w) A.in1 (Builtin.«list.__contains__.loop» ⟨[.ref l, x, rawInt i], []⟩) (GQ.FinOf prog w A R) (fun e s' => R (.error e) s') s := by
  induction k with
  | zero =>
    intro i hk hi s h
    obtain ⟨items, n, dd, sl, hl1, hs1, _⟩ := hl _ _ h
    have hi' : i = N := by omega
    have hR : R (.ok (.ret (.bool false))) s := fin s (hi' ▸ h)
    obtain ⟨hp, g, d, tk, os⟩ := s
    wp_walk using wpAny_loadPart' hl1
    have hi1 : items[((i : Nat) : Int).toNat]? = none := by simp; omega
    rw [hi1]
    wp_walk
    exact hR
  | succ k ih =>
    intro i hk hi s h
    obtain ⟨items, n, dd, sl, hl1, hs1, turn⟩ := hl _ _ h
    have hlt : i < items.size := by omega
    have ht := turn hlt
    obtain ⟨hp, g, d, tk, os⟩ := s
    wp_walk using wpAny_loadPart' hl1
    have hi1 : items[((i : Nat) : Int).toNat]? = some items[i] := by simp [hlt]
    have hc : ((i : Int) + 1) = ((i + 1 : Nat) : Int) := by omega
    rw [hi1]
    refine wpAny_bind (wpAny_mono ht (fun r s2 h2 => ?_) fun _ _ x => x)
    cases r with
    | true =>
      have h2' := yes s2 h2
      obtain ⟨hp2, g2, d2, tk2, os2⟩ := s2
      wp_walk
      exact h2'
    | false =>
      have hrec := ih (i + 1) (by omega) (by omega) s2 h2
      obtain ⟨hp2, g2, d2, tk2, os2⟩ := s2
      wp_walk
      rw [hc]
      exact ⟨plainId_quiet plain_contains_loop _, codeAny_builtin entry_contains_loop (by
        rw [Around.under_plainId plain_contains_loop _]
        exact hrec)⟩
theorem list_inG (l : Addr) (x : Value) (N : Nat) (I : Nat → Shared → Prop) (Yes : Shared → Prop) (hl : InI prog w A (fun e s' => R (.error e) s') l x N I Yes)
    (yes : ∀ s, Yes s → R (.ok (.ret (.bool true))) s) (fin : ∀ s, I N s → R (.ok (.ret (.bool false))) s) {s : Shared} (h : I 0 s) :
    wpAny (model prog w) A.in1 (Builtin.«list.__contains__» ⟨[.ref l, x], []⟩) (GQ.FinOf prog w A R) (fun e s' => R (.error e) s') s := by
  obtain ⟨items, n, dd, sl, hl1, hs1, _⟩ := hl _ _ h
  have hrec := in_loopG (A := A) (R := R) l x N I Yes hl yes fin _ 0 rfl (Nat.zero_le _) s h
  obtain ⟨hp, g, d, tk, os⟩ := s
  wp_walk using wpAny_loadPart' hl1
  exact ⟨plainId_quiet plain_contains_loop _, codeAny_builtin entry_contains_loop (by
    rw [Around.under_plainId plain_contains_loop _]
    exact hrec)⟩
/-- a tuple's items, one by one -/
theorem tuple_inG (l : Addr) (x : Value) (items : Array Value) (n : Nat) (dd : Option Addr) (sl : Array (Option Value)) (I : Nat → Shared → Prop) (Yes : Shared → Prop)
    (turn : ∀ i (h1 : i < items.size) s, I i s → wpAny (model prog w) A.in1 (eqBool items[i] x) (fun r s' => if r then Yes s' else I (i + 1) s') (fun e s' => R (.error e) s') s)
    (yes : ∀ s, Yes s → R (.ok (.ret (.bool true))) s) (fin : ∀ s, I items.size s → R (.ok (.ret (.bool false))) s) {s : Shared}
    (hl1 : s.heap.get? l = some { cls := .type "tuple", dict := dd, data := .seq items n, slots := sl }) (h : I 0 s) :
    wpAny (model prog w) A.in1 (Builtin.«tuple.__contains__» ⟨[.ref l, x], []⟩) (GQ.FinOf prog w A R) (fun e s' => R (.error e) s') s := by
  have h0 := h
  obtain ⟨hp, g, d, tk, os⟩ := s
  wp_walk using wpAny_loadPart' hl1, wpAny_forIn_array _ (fun rest b s' => b.1 = none ∧ ∃ i, rest = items.toList.drop i ∧ i ≤ items.size ∧ I i s') _
  case turn =>
    rintro y rest b s' ⟨hb, i, hz, hi, hI⟩
    have hlt : i < items.toList.length := by
      rcases Nat.lt_or_ge i items.toList.length with h' | h'
      · exact h'
      · rw [List.drop_of_length_le h'] at hz; cases hz
    have h1 : i < items.size := by simpa using hlt
    rw [List.drop_eq_getElem_cons hlt] at hz
    injection hz with hyx hrest
    have hy : y = items[i] := by simpa using hyx
    subst hy
    refine wpAny_bind (wpAny_mono (turn i h1 s' hI) (fun r s2 q2 => ?_) fun _ _ x => x)
    cases r with
    | true =>
      have q2' := yes s2 q2
      wp_walk
      exact q2'
    | false =>
      wp_walk
      exact ⟨rfl, i + 1, hrest, h1, q2⟩
  case fin =>
    rintro ⟨b1, b2⟩ s' ⟨hb, i, hz, hi, hI⟩
    simp only at hb
    subst hb
    have hge : items.size ≤ i := by
      rcases Nat.lt_or_ge i items.toList.length with h' | h'
      · rw [List.drop_eq_getElem_cons h'] at hz; cases hz
      · simpa using h'
    have hi' : i = items.size := by omega
    have hR : R (.ok (.ret (.bool false))) s' := fin s' (hi' ▸ hI)
    wp_walk
    exact hR
  case h =>
    exact ⟨rfl, 0, rfl, Nat.zero_le _, h0⟩
end
section
variable {prog : Program} {w : World} {A : Around} {E : Value → Shared → Prop} {s : Shared}
theorem contains_listG {l : Addr} {x : Value} {N : Nat} {Q : Bool → Shared → Prop} (I : Nat → Shared → Prop) (Yes : Shared → Prop) (hl : InI prog w A E l x N I Yes)
    (yes : ∀ s, Yes s → Q true s) (fin : ∀ s, I N s → Q false s) (h : I 0 s) : wpAny (model prog w) A (contains (.ref l) x) Q E s := by
  obtain ⟨items, n, dd, sl, hl1, _, _⟩ := hl _ _ h
  refine wpAny_contains_slot (T := "list") ⟨_, hl1, rfl⟩ F.slot_list_contains (wpAny_mono (Q := fun v s' => ∃ b, v = .bool b ∧ Q b s') (GQ.call_here F.slot_list_contains ⟨_, hl1, rfl⟩ F.entry_list_contains (F.args_list_contains_2 _ _) (list_inG (R := wants (fun v s' => ∃ b, v = .bool b ∧ Q b s') E) l x N I Yes hl (fun s' q => ⟨true, rfl, yes s' q⟩) (fun s' q => ⟨false, rfl, fin s' q⟩) h)) (fun v s' hv => ?_) fun _ _ e => e)
  obtain ⟨b, rfl, hq⟩ := hv
  exact wpAny_truthy_bool hq
theorem contains_tupG {l : Addr} {x : Value} {items : Array Value} {Q : Bool → Shared → Prop} (I : Nat → Shared → Prop) (Yes : Shared → Prop) (ht : s.heap.IsTuple l items)
    (turn : ∀ i (h1 : i < items.size) s, I i s → wpAny (model prog w) A.in1 (eqBool items[i] x) (fun r s' => if r then Yes s' else I (i + 1) s') E s)
    (yes : ∀ s, Yes s → Q true s) (fin : ∀ s, I items.size s → Q false s) (h : I 0 s) : wpAny (model prog w) A (contains (.ref l) x) Q E s := by
  obtain ⟨⟨cls, dd, data, sl⟩, ho, hc, n, hd⟩ := id ht
  simp only at hc hd
  subst hc hd
  refine wpAny_contains_slot (T := "tuple") ⟨_, ho, rfl⟩ F.slot_tuple_contains (wpAny_mono (Q := fun v s' => ∃ b, v = .bool b ∧ Q b s') (GQ.call_here F.slot_tuple_contains ⟨_, ho, rfl⟩ F.entry_tuple_contains (F.args_tuple_contains_2 _ _) (tuple_inG (R := wants (fun v s' => ∃ b, v = .bool b ∧ Q b s') E) l x items n dd sl I Yes turn (fun s' q => ⟨true, rfl, yes s' q⟩) (fun s' q => ⟨false, rfl, fin s' q⟩) ho h)) (fun v s' hv => ?_) fun _ _ e => e)
  obtain ⟨b, rfl, hq⟩ := hv
  exact wpAny_truthy_bool hq
end
end RTL
namespace RT
open PySem PySem.Spec L2
open PyProof.Rows hiding St

section
variable {prog : Program} {w : World} {A : Around} {E : Value → Shared → Prop} {s : Shared} {K : PySem.W.Frag} {x C f : Addr} {ox : Obj} {od : Option Obj} {b tb : Value}
theorem ifBound_ne {M : Model} {args : List Value} {Q : Option Value → Shared → Prop} (X : K.In s.heap) (I : PySem.W.InstAt s.heap x ox C od) (hs : PySem.W.findIn K (.ref C) "__ne__" = some (some (.builtin "object.__ne__")))
    (h : wpAny M A (call (.builtin "object.__ne__") (.ref x :: args)) (fun v => Q (some v)) E s) : wpAny M A (callSpecialIfBound? (.ref x) "__ne__" args) Q E s := by
  simp only [callSpecialIfBound?, bindSpecialIfBound?]
  refine wpAny_holding (wpAny_bind (wpAny_bind (wpAny_bind (I.type.here ((PySem.W.looks_findIn X hs).here ?_)))))
  refine wpAny_bind (wpAny_askSetting (wpAny_ite ?_))
  have fin : wpAny M A (call (.builtin "object.__ne__") ([.ref x] ++ args) >>= fun v => pure (some v)) Q E s := wpAny_bind (wpAny_mono h (fun v s' h' => wpAny_pure h') fun _ _ h' => h')
  split
  · exact wpAny_bind (wpAny_of_eq (F.cmp_object.ne.bind _) (wpAny_pure (by exact fin)))
  · exact wpAny_tryCatch (wpAny_bind (wpAny_of_eq (F.cmp_object.ne.bind _) (wpAny_pure (by exact fin))))
/-- x != b, by an own == -/
theorem ne_K {Q : Value → Shared → Prop} (hu : A.units + 1 < cLine) (X : K.In s.heap) (I : PySem.W.InstAt s.heap x ox C od) (hb : PySem.W.Looks (model prog w) s.heap (typeOf b) tb) (hn : PySem.W.notFirst K C tb = true)
    (hs : PySem.W.findIn K (.ref C) "__eq__" = some (some (.ref f))) (hf : PySem.W.isFn K (.ref f) = true) (hne : PySem.W.findIn K (.ref C) "__ne__" = some (some (.builtin "object.__ne__"))) (hm : PySem.W.mroIn K C (.type "object") = some true)
    (h : wpAny (model prog w) A.in1 (call (.ref f) [.ref x, b]) (fun v s' => ∃ r, v = .bool r ∧ Q (.bool (!r)) s') E s) : wpAny (model prog w) A (richCompare .NotEq (.ref x) b) Q E s := by
  have body : wpAny (model prog w) A.in1 (Builtin.«object.__ne__» ⟨[.ref x, b], []⟩) (fun fin s' => ∃ r, fin = .done (.ret (.bool (!r))) ∧ Q (.bool (!r)) s') E s := by
    unfold Builtin.«object.__ne__»
    refine wpAny_bind (m := slotArgs "__ne__" 1 _) (wpAny_pure ?_)
    refine wpAny_bind (m := cRoomFor _ _) (wpAny_cRoomFor hu ?_)
    refine wpAny_bind (m := callSpecialIfBound? (.ref x) (Str.ofString "__eq__") _) (PySem.W.ifBound_K X I hs hf (wpAny_mono h (fun r s' hr => ?_) fun _ _ y => y))
    obtain ⟨r, rfl, q⟩ := hr
    refine wpAny_bind (m := truthy (.bool r)) (wpAny_truthy_bool ?_)
    exact wpAny_pure ⟨r, rfl, q⟩
  have one : wpAny (model prog w) A (tryCompare (.ref x) "__ne__" b) (fun r s' => ∃ v, r = some v ∧ Q v s') E s := by
    unfold tryCompare
    refine wpAny_bind (ifBound_ne X I hne (wpAny_call (codeAny_call_builtin F.cmp_object.ne.plain F.cmpEntry_ne (PySem.W.check_slot F.cmpKind_ne F.cmpSplit_ne (I.type.andThen (PySem.W.looks_mroIn X hm)) (F.cmpArgs_ne _ _) ?_))))
    refine wpAny_mono body (fun fin s' z => ?_) fun _ _ z => z
    obtain ⟨r, rfl, q⟩ := z
    exact wpAny_pure ⟨_, rfl, q⟩
  unfold richCompare
  simp only [oneThing_ref]
  refine wpAny_holding (wpAny_bind (wpAny_cRoomFor (by omega) ?_))
  refine wpAny_bind (I.type.here (wpAny_bind (hb.here ?_)))
  split
  · rename_i q
    have e : PySem.W.subIn K tb (.ref C) = some false := by
      rcases Bool.or_eq_true_iff.mp hn with e | e
      · rw [beq_iff_eq.mp e] at q; simp at q
      · exact beq_iff_eq.mp e
    refine wpAny_bind ((PySem.W.looks_subIn X e).here ?_)
    simp only [Bool.false_eq_true, if_false]
    refine wpAny_bind (wpAny_mono one (fun r s' z => ?_) fun _ _ e => e)
    obtain ⟨v, rfl, hq⟩ := z
    exact wpAny_pure hq
  · refine wpAny_bind (wpAny_pure ?_)
    simp only [Bool.false_eq_true, if_false]
    refine wpAny_bind (wpAny_mono one (fun r s' z => ?_) fun _ _ e => e)
    obtain ⟨v, rfl, hq⟩ := z
    exact wpAny_pure hq
end

/-! ### own == as a plain function -/
abbrev Oe := Nat → Option (T → T → Option Bool)
def gPure (f : T → T → Option Bool) : List T → Hm → R T := fun xs h => match xs with
  | [x, y] => (match f x y with
    | some b => .ok (.bl b) h
    | none => .bad)
  | _ => .bad
/-- classes of values that may stand at the right -/
def Tg.okEq (n : Nat) : Tg → Bool
  | .cl c => decide (c < n)
  | .ty s => ["NoneType", "bool", "int", "str", "tuple", "list", "dict"].contains s
theorem tagOf_ok {h : Hm} {t : T} {a : Tg} {n : Nat} (e : tagOf h t = some a) (hl : a.lt n = true) : a.okEq n = true := by
  cases a with
  | cl c => exact hl
  | ty s =>
    cases t with
    | ref l =>
      unfold tagOf at e
      dsimp only at e
      split at e <;> first | (cases e; rfl) | cases e
    | _ => unfold tagOf at e; dsimp only at e; first | (cases e; rfl) | cases e
section
variable {C : RC}
theorem CaA.pure {k : Nat} {f : Value} {g : List T → Hm → R T} {p : T → T → Option Bool} (c : CaA C k f 2 g) (hp : ∀ x y h b, p x y = some b → g [x, y] h = .ok (.bl b) h) : CaA C k f 2 (gPure p) := by
  intro A pins s σ H G h xs vs us Q bl I rp rx vu l o
  unfold gPure at o
  split at o
  · rename_i x y
    split at o
    · rename_i b e
      refine c A pins s σ H G h [x, y] vs us Q bl I rp rx vu l ?_
      rw [hp x y h b e]
      exact o
    · exact False.elim o
  · exact False.elim o
structure OeOk (C : RC) (k : Nat) (ow : Oe) : Prop where
  call : ∀ c f, ow c = some f → ∃ a, PySem.W.findIn C.S.K (.ref (C.S.cls c)) "__eq__" = some (some (.ref a)) ∧ PySem.W.isFn C.S.K (.ref a) = true ∧ CaA C k (.ref a) 2 (gPure f)
  ne : ∀ c f, ow c = some f → PySem.W.findIn C.S.K (.ref (C.S.cls c)) "__ne__" = some (some (.builtin "object.__ne__")) ∧ PySem.W.mroIn C.S.K (C.S.cls c) (.type "object") = some true
  first : ∀ c f a, ow c = some f → Tg.okEq C.S.nc a = true → PySem.W.notFirst C.S.K (C.S.cls c) (a.val C.S) = true
  refl : ∀ c f x, ow c = some f → f x x ≠ some false

def opEqK (nc : Nat) (ow : Oe) : O2 := fun x y h => match insOf x h with
  | some (c, _) => (match ow c, tagOf h y with
    | some f, some a => if a.lt nc then (match f x y with
      | some b => .ok (.bl b) h
      | none => .bad) else .bad
    | _, _ => .bad)
  | none => opEq x y h
def opNeK (nc : Nat) (ow : Oe) : O2 := fun x y h => match insOf x h with
  | some (c, _) => (match ow c, tagOf h y with
    | some f, some a => if a.lt nc then (match f x y with
      | some b => .ok (.bl (!b)) h
      | none => .bad) else .bad
    | _, _ => .bad)
  | none => opNe x y h
/-- the call of the own == -/
theorem pure_run {k : Nat} {fa : Addr} {f : T → T → Option Bool} (c : CaA C k (.ref fa) 2 (gPure f)) {A : Around} (bl : Blw C k A) {pins : List (Addr × Obj)} {s : Shared} {σ : St} {H : Hp} {G : Gh} {h : Hm} {x y : T} {vx vy : V} {u w : Value} {b : Bool}
    (I : Inv C.X pins σ H s) (rp : RepH C.S H G h) (rx : RelT C.S H G x vx) (ry : RelT C.S H G y vy) (ru : RelV vx u) (rw' : RelV vy w) (e : f x y = some b) :
    wpAny (model C.X.prog C.X.w) A (call (.ref fa) [u, w]) (fun v s' => v = .bool b ∧ ∃ H' G', Inv C.X pins σ H' s' ∧ Step H G H' G' ∧ RepH C.S H' G' h) C.X.xe s := by
  refine wpAny_mono (c A pins s σ H G h [x, y] [vx, vy] [u, w] (fun v H' => v = .bl b ∧ ∃ G', Step H G H' G' ∧ RepH C.S H' G' h) bl I rp (.cons rx (.cons ry .nil)) (.cons ru (.cons rw' .nil)) rfl ?_) (fun v s' hv => ?_) fun _ _ z => z
  · unfold gPure
    dsimp only
    rw [e]
    intro v H' G' st rp' rv
    cases rv
    exact ⟨rfl, G', st, rp'⟩
  · obtain ⟨v', H', I', rv, rfl, G', st, rp'⟩ := hv
    cases rv
    exact ⟨rfl, H', G', I', st, rp'⟩
theorem op_eqK (ok : C.Ok) {tab : IsTab} (io : IsOk C.S tab) {k : Nat} {ow : Oe} (oe : OeOk C k ow) (hk : k ≤ C.k) : OpT C (compareOp .Eq) (opEqK C.S.nc ow) := by
  intro pins s σ H G h x y vx vy u w Q I rp rx ry vu vw o
  unfold opEqK at o
  split at o
  · rename_i c fs e
    split at o
    · rename_i f a ef ea
      split at o
      · rename_i hl
        split at o
        · rename_i b eb
          obtain ⟨p, dx, vs, rfl, ep, _⟩ := insOf_rel rp rx e
          obtain ⟨fa, q1, q2, q3⟩ := oe.call c f ef
          have q4 := oe.first c f a ef (tagOf_ok ea hl)
          rw [ok.K] at q1 q2 q4
          obtain ⟨P, Z, hP, _⟩ := kit_of I vw (tyx_of (σ := σ) ok io rp ry ea hl)
          have ru : RelV (.ref p) u := vu
          cases vu
          obtain ⟨ox, od, J⟩ := inst_of I ep
          obtain ⟨m, hF⟩ := I.fr
          refine PySem.W.cmp_ofEq (PySem.W.cmp_K (op := .Eq) (tb := a.val C.S) ok.room.units0 hF I.ok.mod.kin J (Z.ty _ _ I.kIn hP) q4 q1 q2 ?_)
          refine wpAny_mono (pure_run q3 (ok.blw hk) I rp rx ry ru vw eb) (fun v s' hv => ?_) fun _ _ z => z
          obtain ⟨rfl, H', G', I', st, rp'⟩ := hv
          exact ⟨.bl b, H', I', rfl, o (.bl b) H' G' st rp' (.bl b)⟩
        · exact False.elim o
      · exact False.elim o
    · exact False.elim o
  · exact op_eqT ok pins s σ H G h x y vx vy u w Q I rp rx ry vu vw o
theorem op_neK (ok : C.Ok) {tab : IsTab} (io : IsOk C.S tab) {k : Nat} {ow : Oe} (oe : OeOk C k ow) (hk : k + 1 ≤ C.k) : OpT C (compareOp .NotEq) (opNeK C.S.nc ow) := by
  intro pins s σ H G h x y vx vy u w Q I rp rx ry vu vw o
  unfold opNeK at o
  split at o
  · rename_i c fs e
    split at o
    · rename_i f a ef ea
      split at o
      · rename_i hl
        split at o
        · rename_i b eb
          obtain ⟨p, dx, vs, rfl, ep, _⟩ := insOf_rel rp rx e
          obtain ⟨fa, q1, q2, q3⟩ := oe.call c f ef
          obtain ⟨n1, n2⟩ := oe.ne c f ef
          have q4 := oe.first c f a ef (tagOf_ok ea hl)
          rw [ok.K] at q1 q2 q4 n1 n2
          obtain ⟨P, Z, hP, _⟩ := kit_of I vw (tyx_of (σ := σ) ok io rp ry ea hl)
          have ru : RelV (.ref p) u := vu
          cases vu
          obtain ⟨ox, od, J⟩ := inst_of I ep
          refine PySem.W.cmp_ofNotEq (ne_K (tb := a.val C.S) (by have := ok.room.un; omega) I.kIn J (Z.ty _ _ I.kIn hP) q4 q1 q2 n1 n2 ?_)
          refine wpAny_mono (pure_run q3 (ok.blw hk).in1 I rp rx ry ru vw eb) (fun v s' hv => ?_) fun _ _ z => z
          obtain ⟨rfl, H', G', I', st, rp'⟩ := hv
          exact ⟨b, rfl, .bl (!b), H', I', rfl, o (.bl (!b)) H' G' st rp' (.bl (!b))⟩
        · exact False.elim o
      · exact False.elim o
    · exact False.elim o
  · exact op_neT ok pins s σ H G h x y vx vy u w Q I rp rx ry vu vw o

/-! ### in: items by their own == -/
mutual
theorem toD_inj : ∀ {t t' : T} {d : PyData}, t.toD = some d → t'.toD = some d → t = t'
  | .non, t', d, e, e' => by rw [T.toD] at e; cases e; cases t' <;> rw [T.toD] at e' <;> first | cases e' | (rw [Option.map_eq_some_iff] at e'; obtain ⟨_, _, z⟩ := e'; cases z) <;> rfl
  | .bl b, t', d, e, e' => by rw [T.toD] at e; cases e; cases t' <;> rw [T.toD] at e' <;> first | (cases e'; rfl) | cases e' | (rw [Option.map_eq_some_iff] at e'; obtain ⟨_, _, z⟩ := e'; cases z)
  | .int b, t', d, e, e' => by rw [T.toD] at e; cases e; cases t' <;> rw [T.toD] at e' <;> first | (cases e'; rfl) | cases e' | (rw [Option.map_eq_some_iff] at e'; obtain ⟨_, _, z⟩ := e'; cases z)
  | .str b, t', d, e, e' => by rw [T.toD] at e; cases e; cases t' <;> rw [T.toD] at e' <;> first | (cases e'; rfl) | cases e' | (rw [Option.map_eq_some_iff] at e'; obtain ⟨_, _, z⟩ := e'; cases z)
  | .tup xs, t', d, e, e' => by
    rw [T.toD, Option.map_eq_some_iff] at e
    obtain ⟨ds, q, rfl⟩ := e
    cases t' <;> rw [T.toD] at e' <;> first | cases e' | skip
    · rw [Option.map_eq_some_iff] at e'
      obtain ⟨ds', q', z⟩ := e'
      cases z
      rw [toDs_inj q q']
    · rw [Option.map_eq_some_iff] at e'
      obtain ⟨_, _, z⟩ := e'
      cases z
  | .lst xs, t', d, e, e' => by
    rw [T.toD, Option.map_eq_some_iff] at e
    obtain ⟨ds, q, rfl⟩ := e
    cases t' <;> rw [T.toD] at e' <;> first | cases e' | skip
    · rw [Option.map_eq_some_iff] at e'
      obtain ⟨_, _, z⟩ := e'
      cases z
    · rw [Option.map_eq_some_iff] at e'
      obtain ⟨ds', q', z⟩ := e'
      cases z
      rw [toDs_inj q q']
  | .ref _, _, _, e, _ => by rw [T.toD] at e; cases e
  | .obj _ _, _, _, e, _ => by rw [T.toD] at e; cases e
  | .fn _, _, _, e, _ => by rw [T.toD] at e; cases e
  | .emp, _, _, e, _ => by rw [T.toD] at e; cases e
  | .ty _, _, _, e, _ => by rw [T.toD] at e; cases e
  | .cl _, _, _, e, _ => by rw [T.toD] at e; cases e
  | .exo _ _, _, _, e, _ => by rw [T.toD] at e; cases e
theorem toDs_inj : ∀ {t t' : List T} {d : List PyData}, T.toDs t = some d → T.toDs t' = some d → t = t'
  | [], t', d, e, e' => by
    rw [T.toDs] at e; cases e
    cases t' with
    | nil => rfl
    | cons y r => obtain ⟨_, _, _, _, z⟩ := toDs_cons e'; cases z
  | x :: r, t', d, e, e' => by
    obtain ⟨a, ds, e1, e2, rfl⟩ := toDs_cons e
    cases t' with
    | nil => rw [T.toDs] at e'; cases e'
    | cons y r' =>
      obtain ⟨a', ds', e1', e2', z⟩ := toDs_cons e'
      cases z
      rw [toD_inj e1 e1', toDs_inj e2 e2']
end
end
end RT
set_option Elab.async false
set_option linter.all false
set_option maxRecDepth 100000
set_option maxHeartbeats 4000000
/-! RT, part i: in; own contains, getitem, and, len. -/
namespace RT
open PySem PySem.Spec L2
open PyProof.Rows hiding St

theorem relV_ex (v : V) : ∃ u, RelV v u := by
  cases v with
  | non => exact ⟨_, rfl⟩
  | bl b => exact ⟨_, rfl⟩
  | int i => exact ⟨.int i 0, 0, rfl⟩
  | str i => exact ⟨.str i 0, 0, rfl⟩
  | byt i => exact ⟨.bytes i 0, 0, rfl⟩
  | flt i => exact ⟨.float i 0, 0, rfl⟩
  | ref a => exact ⟨_, rfl⟩
  | ty a => exact ⟨_, rfl⟩
def dataFs : List (Nat × T) → Bool
  | [] => true
  | (_, t) :: r => t.toD.isSome && dataFs r
def itemEq (nc : Nat) (ow : Oe) (y x : T) : Option Bool := match y.toD, x.toD with
  | some a, some b => if min a.depth b.depth ≤ 150 then some (PyData.eqv a b) else none
  | none, some _ => (match y with
    | .obj c _ => (match ow c with
      | some f => f y x
      | none => none)
    | _ => none)
  | none, none => (match y, x with
    | .obj c fs, .obj c' fs' => if (decide (c < nc) && decide (c' < nc)) && (dataFs fs && dataFs fs') then (match ow c with
      | some f => f y x
      | none => none) else none
    | _, _ => none)
  | some _, none => none
def anyEq (nc : Nat) (ow : Oe) (x : T) : List T → Option Bool
  | [] => some false
  | y :: r => match itemEq nc ow y x with
    | some true => some true
    | some false => anyEq nc ow x r
    | none => none
section
variable {C : RC}
theorem data_unique (ok : C.Ok) {pins : List (Addr × Obj)} {s : Shared} {σ : St} {H : Hp} {G : Gh} (I : Inv C.X pins σ H s) {t t' : T} {v : V} (r : RelT C.S H G t v) (r' : RelT C.S H G t' v) (e : t.toD.isSome = true) (e' : t'.toD.isSome = true) : t = t' := by
  obtain ⟨d, e⟩ := Option.isSome_iff_exists.mp e
  obtain ⟨d', e'⟩ := Option.isSome_iff_exists.mp e'
  obtain ⟨u, ru⟩ := relV_ex v
  obtain ⟨as, q⟩ := reads_of ok.K I r ru e
  obtain ⟨as', q'⟩ := reads_of ok.K I r' ru e'
  have z := PySem.SeqAt.plain_unique d d' u as as' (plain_toD e).1 q q'
  subst z
  exact toD_inj e e'
theorem fields_unique (ok : C.Ok) {pins : List (Addr × Obj)} {s : Shared} {σ : St} {H : Hp} {G : Gh} (I : Inv C.X pins σ H s) : ∀ {fs fs' : List (Nat × T)} {vs : List (Str × V)}, RelFs C.S H G fs vs → RelFs C.S H G fs' vs → dataFs fs = true → dataFs fs' = true → fs = fs'
  | _, _, _, .nil, h, _, _ => by cases h; rfl
  | _, _, _, .cons (f := f) hf r rs, h, e, e' => by
    generalize hv : (C.S.fld f, _) :: _ = vs at h
    cases h with
    | nil => cases hv
    | cons hf' r' rs' =>
      injection hv with h1 h2
      injection h1 with h3 h4
      subst h4
      subst h2
      rw [dataFs] at e e'
      obtain ⟨a1, a2⟩ := band e
      obtain ⟨b1, b2⟩ := band e'
      have := C.S.inj _ _ hf hf' h3
      subst this
      rw [data_unique ok I r r' a1 b1, fields_unique ok I rs rs' a2 b2]
/-- a tracked address is not of the written part -/
theorem notK (ok : C.Ok) {pins : List (Addr × Obj)} {s : Shared} {σ : St} {H : Hp} (I : Inv C.X pins σ H s) {p : Addr} {u : HO} (e : H p = some u) {o : Obj} (q : C.S.K.lookup p = some o) : False := by
  rw [ok.K] at q
  have := (I.bs p o (I.ok.mod.kin p o q)).2
  rw [e] at this
  cases this
theorem obj_not_data (ok : C.Ok) {pins : List (Addr × Obj)} {s : Shared} {σ : St} {H : Hp} {G : Gh} (I : Inv C.X pins σ H s) {p c dx : Addr} {vs : List (Str × V)} (e : H p = some (.ins c dx vs)) {x : T} (r : RelT C.S H G x (.ref p)) (hd : x.toD.isSome = true) : False := by
  cases r with
  | tup hz _ =>
    rcases hz with ⟨_, q⟩ | q
    · rcases q with q | ⟨o, q⟩ <;> rw [e] at q <;> cases q
    · rcases q (fun _ => none) with q | ⟨o, _, _, q, _⟩
      · rcases q with q | ⟨o, q⟩ <;> cases q
      · exact notK ok I e q
  | lst hz _ =>
    rcases hz with ⟨_, q⟩ | q
    · rcases q with q | ⟨o, q⟩ <;> rw [e] at q <;> cases q
    · obtain ⟨_, _, q, _⟩ := q
      exact notK ok I e q
  | ref _ => rw [T.toD] at hd; cases hd
  | obj _ _ _ => rw [T.toD] at hd; cases hd
  | fn _ => rw [T.toD] at hd; cases hd
  | emp _ _ => rw [T.toD] at hd; cases hd
  | cl _ => rw [T.toD] at hd; cases hd
  | exo0 _ _ => rw [T.toD] at hd; cases hd
  | exo _ _ _ _ _ => rw [T.toD] at hd; cases hd
theorem tag_of_data {h : Hm} {x : T} (hd : x.toD.isSome = true) (nc : Nat) : ∃ a, tagOf h x = some a ∧ a.lt nc = true := by
  cases x with
  | ref _ => rw [T.toD] at hd; cases hd
  | obj _ _ => rw [T.toD] at hd; cases hd
  | fn _ => rw [T.toD] at hd; cases hd
  | emp => rw [T.toD] at hd; cases hd
  | cl _ => rw [T.toD] at hd; cases hd
  | ty _ => rw [T.toD] at hd; cases hd
  | exo _ _ => rw [T.toD] at hd; cases hd
  | _ => exact ⟨_, rfl, rfl⟩
theorem eqBool_own {M : Model} {A : Around} {E : Value → Shared → Prop} {s : Shared} {p : Addr} {w : Value} {Q : Bool → Shared → Prop} (hne : w ≠ .ref p) (h : wpAny M A (richCompare .Eq (.ref p) w) (fun v s' => ∃ r, v = .bool r ∧ Q r s') E s) : wpAny M A (eqBool (.ref p) w) Q E s := by
  unfold eqBool
  refine wpAny_holding ?_
  refine wpAny_ite_split (fun hab => absurd (eq_of_beq hab).symm hne) (fun _ => ?_)
  refine wpAny_bind (wpAny_mono h (fun v s' hv => ?_) fun _ _ x => x)
  obtain ⟨r, rfl, q⟩ := hv
  exact wpAny_truthy_bool q
theorem item_run (ok : C.Ok) {tab : IsTab} (io : IsOk C.S tab) {k : Nat} {ow : Oe} (oe : OeOk C k ow) {A : Around} (bl : Blw C k A) {pins : List (Addr × Obj)} {s : Shared} {σ : St} {H : Hp} {G : Gh} {h : Hm} {y x : T} {vy vx : V} {u w : Value} {b : Bool}
    (I : Inv C.X pins σ H s) (rp : RepH C.S H G h) (ry : RelT C.S H G y vy) (rx : RelT C.S H G x vx) (ru : RelV vy u) (rw' : RelV vx w) (e : itemEq C.S.nc ow y x = some b) :
    wpAny (model C.X.prog C.X.w) A (eqBool u w) (fun r s' => r = b ∧ ∃ H' G', Inv C.X pins σ H' s' ∧ Step H G H' G' ∧ RepH C.S H' G' h) C.X.xe s := by
  have here : ∃ H' G', Inv C.X pins σ H' s ∧ Step H G H' G' ∧ RepH C.S H' G' h := ⟨H, G, I, Step.refl, rp⟩
  have call : ∀ (c : Nat) (fs : List (Nat × T)) (f : T → T → Option Bool) (a : Tg), y = .obj c fs → ow c = some f → f y x = some b → tagOf h x = some a → a.lt C.S.nc = true → (∀ p, vy = .ref p → w ≠ .ref p) →
      wpAny (model C.X.prog C.X.w) A (eqBool u w) (fun r s' => r = b ∧ ∃ H' G', Inv C.X pins σ H' s' ∧ Step H G H' G' ∧ RepH C.S H' G' h) C.X.xe s := by
    intro c fs f a ey ef eb ea hl hne
    obtain ⟨p, dx, vs, rfl, ep, _⟩ := insOf_rel (c := c) (fs := fs) rp ry (by rw [ey]; rfl)
    obtain ⟨fa, q1, q2, q3⟩ := oe.call c f ef
    have q4 := oe.first c f a ef (tagOf_ok ea hl)
    rw [ok.K] at q1 q2 q4
    obtain ⟨P, Z, hP, _⟩ := kit_of I rw' (tyx_of (σ := σ) ok io rp rx ea hl)
    have ru' : RelV (.ref p) u := ru
    cases ru
    obtain ⟨ox, od, J⟩ := inst_of I ep
    obtain ⟨m, hF⟩ := I.fr
    refine eqBool_own (hne p rfl) (PySem.W.cmp_K (op := .Eq) (tb := a.val C.S) bl.room.units0 hF I.ok.mod.kin J (Z.ty _ _ I.kIn hP) q4 q1 q2 ?_)
    refine wpAny_mono (pure_run q3 bl I rp ry rx ru' rw' eb) (fun v s' hv => ?_) fun _ _ z => z
    obtain ⟨rfl, H', G', I', st, rp'⟩ := hv
    exact ⟨b, rfl, rfl, H', G', I', st, rp'⟩
  unfold itemEq at e
  split at e
  · rename_i a d ea ed
    split at e
    · rename_i hd
      cases e
      obtain ⟨as, r1⟩ := reads_of ok.K I ry ru ea
      obtain ⟨bs, r2⟩ := reads_of ok.K I rx rw' ed
      exact PySem.SeqAt.eqAt_plain a d A s u w as bs r1 r2 (plain_toD ea).1 (plain_toD ed).1 (by have := bl.room.un; omega) C.X.prog C.X.w C.X.xe _ ⟨rfl, here⟩
    · cases e
  · rename_i d ea ed
    split at e
    · rename_i c fs
      split at e
      · rename_i f ef
        obtain ⟨a, ea', hl⟩ := tag_of_data (h := h) (x := x) (by rw [ed]; rfl) C.S.nc
        refine call c fs f a rfl ef e ea' hl fun p hp hw => ?_
        subst hp
        obtain ⟨p', dx, vs, e1, ep, _⟩ := insOf_rel (c := c) (fs := fs) rp ry rfl
        cases e1
        cases vx with
        | ref q =>
          cases rw'
          cases hw
          exact obj_not_data ok I ep rx (by rw [ed]; rfl)
        | int i => obtain ⟨t, z⟩ := rw'; rw [z] at hw; cases hw
        | str i => obtain ⟨t, z⟩ := rw'; rw [z] at hw; cases hw
        | byt i => obtain ⟨t, z⟩ := rw'; rw [z] at hw; cases hw
        | flt i => obtain ⟨t, z⟩ := rw'; rw [z] at hw; cases hw
        | non => cases rw'; cases hw
        | bl i => cases rw'; cases hw
        | ty i => cases rw'; cases hw
      · cases e
    · cases e
  · rename_i ea ed
    split at e
    · rename_i c fs c' fs'
      split at e
      · rename_i hc
        obtain ⟨hc, hd⟩ := band hc
        obtain ⟨c1, c2⟩ := band hc
        obtain ⟨d1, d2⟩ := band hd
        split at e
        · rename_i f ef
          by_cases hw : u = w
          · subst hw
            obtain ⟨p, dx, vs, e1, ep, rf⟩ := insOf_rel (c := c) (fs := fs) rp ry rfl
            obtain ⟨p', dx', vs', e1', ep', rf'⟩ := insOf_rel (c := c') (fs := fs') rp rx rfl
            subst e1
            subst e1'
            cases ru
            cases rw'
            rw [ep] at ep'
            injection ep' with ep'
            injection ep' with h1 h2 h3
            subst h3
            have := C.S.cinj _ _ (of_decide_eq_true c1) (of_decide_eq_true c2) h1
            subst this
            have := fields_unique ok I rf rf' d1 d2
            subst this
            have hb : b = true := by
              cases b with
              | true => rfl
              | false => exact absurd e (oe.refl _ f _ ef)
            subst hb
            exact PySem.SeqAt.EqAt.same (A := A) (s := s) (.ref p) C.X.prog C.X.w C.X.xe _ ⟨rfl, here⟩
          · refine call c fs f (.cl c') rfl ef e rfl c2 fun p hp hw' => ?_
            subst hp
            cases ru
            exact hw hw'.symm
        · cases e
      · cases e
    · cases e
  · cases e

/-! ### in -/
theorem any_run (ok : C.Ok) {tab : IsTab} (io : IsOk C.S tab) {k : Nat} {ow : Oe} (oe : OeOk C k ow) {A : Around} (bl : Blw C k A) {pins : List (Addr × Obj)} {σ : St} {H : Hp} {G : Gh} {h : Hm} {ys : List T} {x : T} {vs : List V} {vx : V} {w : Value} {s : Shared} {us : List Value} {i : Nat}
    (ry : RelTs C.S H G ys vs) (rx : RelT C.S H G x vx) (rw' : RelV vx w) (b : Bool) (I : Inv C.X pins σ H s) (rp : RepH C.S H G h) (vu : Vals vs us) (ea : anyEq C.S.nc ow x (ys.drop i) = some b) (hi : i < us.length) :
      wpAny (model C.X.prog C.X.w) A (eqBool us[i] w) (fun r s' => if r then (b = true ∧ ∃ H' G', Inv C.X pins σ H' s' ∧ Step H G H' G' ∧ RepH C.S H' G' h)
        else (anyEq C.S.nc ow x (ys.drop (i + 1)) = some b ∧ ∃ H' G', Inv C.X pins σ H' s' ∧ Step H G H' G' ∧ RepH C.S H' G' h)) C.X.xe s := by
  have hi1 : i < vs.length := by rw [vu.length]; exact hi
  have hi2 : i < ys.length := by rw [ry.length]; exact hi1
  rw [List.drop_eq_getElem_cons hi2] at ea
  rw [anyEq] at ea
  obtain ⟨v, e1, r1⟩ := ry.get (List.getElem?_eq_getElem hi2)
  obtain ⟨u, e2, r2⟩ := vu.get e1
  rw [List.getElem?_eq_getElem hi] at e2
  cases e2
  cases q : itemEq C.S.nc ow ys[i] x with
  | none => rw [q] at ea; cases ea
  | some c =>
    rw [q] at ea
    refine wpAny_mono (item_run ok io oe bl I rp r1 rx r2 rw' q) (fun r s' hr => ?_) fun _ _ z => z
    obtain ⟨rfl, H2, G2, I2, st2, rp2⟩ := hr
    cases r with
    | true =>
      dsimp only at ea
      cases ea
      exact ⟨rfl, H2, G2, I2, st2, rp2⟩
    | false => exact ⟨ea, H2, G2, I2, st2, rp2⟩
theorem seq_cases {t : T} {h : Hm} {xs : List T} (e : seqOf t h = some xs) : lstOf t h = some xs ∨ t = .tup xs := by
  cases t with
  | tup ys => cases e; exact .inr rfl
  | lst ys => cases e; exact .inl rfl
  | ref l => exact .inl e
  | _ => cases e
/-- the walk over a list's or tuple's items -/
theorem cont_run (ok : C.Ok) {tab : IsTab} (io : IsOk C.S tab) {k : Nat} {ow : Oe} (oe : OeOk C k ow) (hk : k + 1 ≤ C.k) {pins : List (Addr × Obj)} {σ : St} {H : Hp} {G : Gh} {h : Hm} {ys : List T} {x y : T} {vx vy : V} {u w : Value} {s : Shared}
    (I : Inv C.X pins σ H s) (rp : RepH C.S H G h) (rx : RelT C.S H G x vx) (ry : RelT C.S H G y vy) (ru : RelV vx u) (rw' : RelV vy w) (ey : seqOf y h = some ys) {b : Bool} (eb : anyEq C.S.nc ow x ys = some b) :
    wpAny (model C.X.prog C.X.w) C.X.A (contains w u) (fun r s' => r = b ∧ ∃ H' G', Inv C.X pins σ H' s' ∧ Step H G H' G' ∧ RepH C.S H' G' h) C.X.xe s := by
  have bl : Blw C k C.X.A.in1 := (ok.blw hk).in1
  have start : anyEq C.S.nc ow x (ys.drop 0) = some b ∧ ∃ H' G', Inv C.X pins σ H' s ∧ Step H G H' G' ∧ RepH C.S H' G' h := ⟨by simpa using eb, H, G, I, Step.refl, rp⟩
  have fin : ∀ (n : Nat) (s' : Shared), n = ys.length → (anyEq C.S.nc ow x (ys.drop n) = some b ∧ ∃ H' G', Inv C.X pins σ H' s' ∧ Step H G H' G' ∧ RepH C.S H' G' h) → false = b ∧ ∃ H' G', Inv C.X pins σ H' s' ∧ Step H G H' G' ∧ RepH C.S H' G' h := fun n s' hn z => by
    obtain ⟨e, z⟩ := z
    rw [hn, List.drop_length, anyEq] at e
    cases e
    exact ⟨rfl, z⟩
  rcases seq_cases ey with ey | ey
  · obtain ⟨a, vs, rfl, sq, rs⟩ := lstOf_rel ok rp ry ey
    cases rw'
    refine RTL.contains_listG (N := ys.length) (fun i s' => anyEq C.S.nc ow x (ys.drop i) = some b ∧ ∃ H' G', Inv C.X pins σ H' s' ∧ Step H G H' G' ∧ RepH C.S H' G' h) (fun s' => b = true ∧ ∃ H' G', Inv C.X pins σ H' s' ∧ Step H G H' G' ∧ RepH C.S H' G' h) ?_ (fun s' q => ⟨q.1.symm, q.2⟩) (fun s' q => fin _ s' rfl q) start
    rintro i s' ⟨ea, H1, G1, I1, st1, rp1⟩
    obtain ⟨a', vs', e', sq', rs'⟩ := lstOf_rel ok rp1 (ry.step st1) ey
    cases e'
    obtain ⟨its, rv, ⟨⟨cls, dd, data, sl⟩, n, ho, hc, hdi, hd⟩, _⟩ := I1.list sq'
    simp only at hc hd
    subst hc hd
    refine ⟨its.toArray, n, dd, sl, ho, by rw [List.size_toArray, ← rv.length, ← rs'.length], fun h1 => ?_⟩
    have hi : i < its.length := by simpa using h1
    have q := any_run (A := C.X.A.in1) ok io oe bl rs' (rx.step st1) ru b I1 rp1 rv ea hi
    refine wpAny_mono q (fun r s2 hr => ?_) fun _ _ z => z
    cases r with
    | true =>
      obtain ⟨z, H2, G2, I2, st2, rp2⟩ := hr
      exact ⟨z, H2, G2, I2, st1.trans st2, rp2⟩
    | false =>
      obtain ⟨z, H2, G2, I2, st2, rp2⟩ := hr
      exact ⟨z, H2, G2, I2, st1.trans st2, rp2⟩
  · subst ey
    cases ry with
    | tup hz rs =>
      cases rw'
      have sq := hz.sq
      rw [ok.K] at sq
      obtain ⟨its, rv, ht, _⟩ := I.tuple sq
      refine RTL.contains_tupG (items := its.toArray) (fun i s' => anyEq C.S.nc ow x (ys.drop i) = some b ∧ ∃ H' G', Inv C.X pins σ H' s' ∧ Step H G H' G' ∧ RepH C.S H' G' h) (fun s' => b = true ∧ ∃ H' G', Inv C.X pins σ H' s' ∧ Step H G H' G' ∧ RepH C.S H' G' h) ht ?_ (fun s' q => ⟨q.1.symm, q.2⟩) (fun s' q => fin _ s' (by rw [List.size_toArray, ← rv.length, ← rs.length]) q) start
      rintro i h1 s' ⟨ea, H1, G1, I1, st1, rp1⟩
      have hi : i < its.length := by simpa using h1
      have q := any_run (A := C.X.A.in1) ok io oe bl (rs.step st1) (rx.step st1) ru b I1 rp1 rv ea hi
      refine wpAny_mono q (fun r s2 hr => ?_) fun _ _ z => z
      cases r with
      | true =>
        obtain ⟨z, H2, G2, I2, st2, rp2⟩ := hr
        exact ⟨z, H2, G2, I2, st1.trans st2, rp2⟩
      | false =>
        obtain ⟨z, H2, G2, I2, st2, rp2⟩ := hr
        exact ⟨z, H2, G2, I2, st1.trans st2, rp2⟩
/-- an own class's answer -/
def dunB (ms : Ms) (o : T) (xs : List T) (h : Hm) : R T := match insOf o h with
  | some (c, _) => (match ms c with
    | some g => g (o :: xs) h
    | none => .bad)
  | none => .bad
def bothData (x y : T) (h : Hm) : Bool := x.toD.isSome && (y.toDh h).isSome
def isStr : T → Bool
  | .str _ => true
  | _ => false
/-- x in y -/
def opInK (nc : Nat) (ow : Oe) (msC : Ms) : O2 := fun x y h => match isStr y || bothData x y h with
  | true => opIn x y h
  | false => match insOf y h with
    | some _ => (dunB msC y [x] h).bind fun t h1 => (asB t h1).bind fun b h2 => .ok (.bl b) h2
    | none => match seqOf y h with
      | some ys => (match anyEq nc ow x ys with
        | some b => .ok (.bl b) h
        | none => .bad)
      | none => .bad
def opNotInK (nc : Nat) (ow : Oe) (msC : Ms) : O2 := fun x y h => match isStr y || bothData x y h with
  | true => opNotIn x y h
  | false => match insOf y h with
    | some _ => (dunB msC y [x] h).bind fun t h1 => (asB t h1).bind fun b h2 => .ok (.bl (!b)) h2
    | none => match seqOf y h with
      | some ys => (match anyEq nc ow x ys with
        | some b => .ok (.bl (!b)) h
        | none => .bad)
      | none => .bad
theorem dunB_run (ok : C.Ok) {k n : Nat} {f : Str} {ms : Ms} (hm : DuOk C k f (n + 1) ms) {A : Around} (bl : Blw C k A) {pins : List (Addr × Obj)} {s : Shared} {σ : St} {H : Hp} {G : Gh} {h : Hm} {x : T} {v : V} {ys : List T} {vs : List V} {us : List Value} {Q : VK} (I : Inv C.X pins σ H s) (rp : RepH C.S H G h) (rx : RelT C.S H G x v) (ry : RelTs C.S H G ys vs) (vu : Vals vs us)
    (hn : us.length = n) (o : Out C σ H G (relE C) (dunB ms x ys h) Q) : ∃ a c dx fs, v = .ref a ∧ H a = some (.ins c dx fs) ∧ ∃ fa, PySem.W.findIn C.X.K (.ref c) f = some (some (.ref fa)) ∧ PySem.W.isFn C.X.K (.ref fa) = true ∧
      ∀ s', Inv C.X pins σ H s' → wpAny (model C.X.prog C.X.w) A (call (.ref fa) (.ref a :: us)) (EP C.X pins σ Q) C.X.xe s' := by
  unfold dunB at o
  split at o
  · rename_i c fs' e
    split at o
    · rename_i g eg
      obtain ⟨a, dx, ws, rfl, ea, _⟩ := insOf_rel rp rx e
      obtain ⟨fa, q1, q2, q3⟩ := hm c g eg
      rw [ok.K] at q1 q2
      exact ⟨a, _, dx, ws, rfl, ea, fa, q1, q2, fun s' I' => q3 A pins s' σ H G h (x :: ys) (.ref a :: vs) (.ref a :: us) _ bl I' rp (.cons rx ry) (.cons rfl vu) (by simp [hn]) o⟩
    · exact False.elim o
  · exact False.elim o
theorem op_inK (ok : C.Ok) {tab : IsTab} (io : IsOk C.S tab) {k : Nat} {ow : Oe} (oe : OeOk C k ow) {msC : Ms} (hm : DuOk C k "__contains__" 2 msC) (hk : k + 1 ≤ C.k) : OpT C (compareOp .In) (opInK C.S.nc ow msC) := by
  intro pins s σ H G h x y vx vy u w Q I rp rx ry vu vw o
  unfold opInK at o
  split at o
  · exact op_inT ok pins s σ H G h x y vx vy u w Q I rp rx ry vu vw o
  · split at o
    · obtain ⟨a, c, dx, fs, rfl, ea, fa, q1, q2, q3⟩ := dunB_run ok hm (ok.blw (by omega : k ≤ C.k)) I rp ry (.cons rx .nil) (.cons vu .nil) rfl (Out.bind (Rel := relE C) o)
      cases vw
      obtain ⟨ox, od, J⟩ := inst_of I ea
      obtain ⟨m, hF⟩ := I.fr
      refine PySem.W.in_K hF I.ok.mod.kin J q1 q2 (wpAny_mono (q3 s I) (fun r s' hr => ?_) fun _ _ z => z)
      obtain ⟨v', H1, I1, r1, t, G1, h1, st1, rp1, rv1, o1⟩ := hr
      have o1 := Out.bind (Rel := relB) o1
      obtain ⟨b, rfl, t2, G2, h2, st2, rp2, e2, o2⟩ := out_asB o1 Step.refl rp1 rv1
      subst e2
      cases r1
      exact wpAny_truthy_bool ⟨.bl t2, H1, I1, rfl, out_ok o2 rp2 (.bl _)⟩
    · split at o
      · rename_i ys ey
        split at o
        · rename_i b eb
          refine wpAny_bind (wpAny_mono (cont_run ok io oe hk I rp rx ry vu vw ey eb) (fun r s' hr => ?_) fun _ _ z => z)
          obtain ⟨rfl, H', G', I', st, rp'⟩ := hr
          exact wpAny_pure ⟨.bl r, H', I', rfl, o _ H' G' st rp' (.bl _)⟩
        · exact False.elim o
      · exact False.elim o
theorem op_notInK (ok : C.Ok) {tab : IsTab} (io : IsOk C.S tab) {k : Nat} {ow : Oe} (oe : OeOk C k ow) {msC : Ms} (hm : DuOk C k "__contains__" 2 msC) (hk : k + 1 ≤ C.k) : OpT C (compareOp .NotIn) (opNotInK C.S.nc ow msC) := by
  intro pins s σ H G h x y vx vy u w Q I rp rx ry vu vw o
  unfold opNotInK at o
  split at o
  · exact op_notInT ok pins s σ H G h x y vx vy u w Q I rp rx ry vu vw o
  · split at o
    · obtain ⟨a, c, dx, fs, rfl, ea, fa, q1, q2, q3⟩ := dunB_run ok hm (ok.blw (by omega : k ≤ C.k)) I rp ry (.cons rx .nil) (.cons vu .nil) rfl (Out.bind (Rel := relE C) o)
      cases vw
      obtain ⟨ox, od, J⟩ := inst_of I ea
      obtain ⟨m, hF⟩ := I.fr
      refine PySem.W.notIn_K hF I.ok.mod.kin J q1 q2 (wpAny_mono (q3 s I) (fun r s' hr => ?_) fun _ _ z => z)
      obtain ⟨v', H1, I1, r1, t, G1, h1, st1, rp1, rv1, o1⟩ := hr
      have o1 := Out.bind (Rel := relB) o1
      obtain ⟨b, rfl, t2, G2, h2, st2, rp2, e2, o2⟩ := out_asB o1 Step.refl rp1 rv1
      subst e2
      cases r1
      exact wpAny_truthy_bool ⟨.bl (!t2), H1, I1, rfl, out_ok o2 rp2 (.bl _)⟩
    · split at o
      · rename_i ys ey
        split at o
        · rename_i b eb
          refine wpAny_bind (wpAny_mono (cont_run ok io oe hk I rp rx ry vu vw ey eb) (fun r s' hr => ?_) fun _ _ z => z)
          obtain ⟨rfl, H', G', I', st, rp'⟩ := hr
          exact wpAny_pure ⟨.bl (!r), H', I', rfl, o _ H' G' st rp' (.bl _)⟩
        · exact False.elim o
      · exact False.elim o

/-! ### own binary operators, own len, own getitem -/
/-- x & y, x >> y .. by the left one's class, both of it -/
def opOwn (ms : Ms) (o2 : O2) : O2 := fun x y h => match insOf x h, insOf y h with
  | some (c, _), some (c', _) => if c = c' then (dunB ms x [y] h) else .bad
  | none, none => o2 x y h
  | _, _ => .bad
theorem op_own (ok : C.Ok) {op : Operator} {k : Nat} {ms : Ms} {o2 : O2} (ho : OpT C (binaryOp op) o2) (hm : DuOk C k (PySem.dunder op.info.2) 2 ms) (hs : ∀ c g, ms c = some g → PySem.W.selfFirst C.S.K (C.S.cls c) = true) (hk : k ≤ C.k) : OpT C (binaryOp op) (opOwn ms o2) := by
  intro pins s σ H G h x y vx vy u w Q I rp rx ry vu vw o
  unfold opOwn at o
  split at o
  · rename_i c fs c' fs' ex ey
    split at o
    · rename_i hc
      subst hc
      have o' := o
      unfold dunB at o'
      rw [ex] at o'
      dsimp only at o'
      split at o'
      · rename_i g eg
        have hsf := hs c g eg
        rw [ok.K] at hsf
        obtain ⟨a0, dx0, ws0, rfl, ea0, _⟩ := insOf_rel rp rx ex
        obtain ⟨a1, dx1, ws1, rfl, ea1, _⟩ := insOf_rel rp ry ey
        obtain ⟨a, c1, dx, fs, e1, ea, fa, q1, q2, q3⟩ := dunB_run ok hm (ok.blw hk) I rp rx (.cons ry .nil) (.cons vw .nil) rfl (Q := fun v H' => Q v H') o
        cases e1
        rw [ea0] at ea
        cases ea
        cases vu
        cases vw
        obtain ⟨ox, od, J⟩ := inst_of I ea0
        obtain ⟨ox', od', J'⟩ := inst_of I ea1
        obtain ⟨m, hF⟩ := I.fr
        refine PySem.W.binop_K hF I.ok.mod.kin J J'.type hsf q1 q2 (wpAny_mono (q3 s I) (fun r s' hr => ?_) fun _ _ z => z)
        obtain ⟨v', H1, I1, r1, q⟩ := hr
        have fin : EP C.X pins σ Q r s' := ⟨v', H1, I1, r1, q⟩
        cases r with
        | notImplemented =>
          exfalso
          cases v' with
          | int i => obtain ⟨t, z⟩ := r1; cases z
          | str i => obtain ⟨t, z⟩ := r1; cases z
          | byt i => obtain ⟨t, z⟩ := r1; cases z
          | flt i => obtain ⟨t, z⟩ := r1; cases z
          | non => cases r1
          | bl i => cases r1
          | ty i => cases r1
          | ref i => cases r1
        | _ => exact fin
      · exact False.elim o'
    · exact False.elim o
  · exact ho pins s σ H G h x y vx vy u w Q I rp rx ry vu vw o
  · exact False.elim o
/-- len -/
def gLenK (ms : Ms) : List T → Hm → R T := fun xs h => match xs with
  | [x] => (match insOf x h with
    | some _ => (dunB ms x [] h).bind fun t h1 => match t with
      | .int i => if decide (0 ≤ i) && decide (i < 2 ^ 63) then .ok (.int i) h1 else .bad
      | _ => .bad
    | none => gLen [x] h)
  | _ => .bad
theorem ca_lenK (ok : C.Ok) {k : Nat} {ms : Ms} (hm : DuOk C k "__len__" 1 ms) (hk : k + 1 ≤ C.k) : CaT C (.builtin "len") (gLenK ms) := by
  intro pins s σ H G h xs vs us Q I rp rx vu o
  unfold gLenK at o
  split at o
  · rename_i x
    split at o
    · obtain ⟨v, rfl, rv⟩ := rx.one
      obtain ⟨u, rfl, r1⟩ := vals1 vu
      obtain ⟨a, c, dx, fs, rfl, ea, fa, q1, q2, q3⟩ := dunB_run (n := 0) ok hm (A := C.X.A.in1) (ok.blw hk).in1 I rp rv .nil .nil rfl (Out.bind (Rel := relE C) o)
      cases r1
      obtain ⟨ox, od, J⟩ := inst_of I ea
      obtain ⟨m, hF⟩ := I.fr
      refine PySem.W.len_K hF I.ok.mod.kin J q1 q2 (wpAny_mono (q3 s I) (fun r s' hr => ?_) fun _ _ z => z)
      obtain ⟨v', H1, I1, r1, t, G1, h1, st1, rp1, rv1, o1⟩ := hr
      dsimp only at o1
      split at o1
      · rename_i i
        cases rv1
        obtain ⟨tk, rfl⟩ := r1
        split at o1
        · rename_i hc
          obtain ⟨h1', h2'⟩ := band hc
          exact ⟨⟨of_decide_eq_true h1', of_decide_eq_true h2'⟩, .int i, H1, I1.tok _, ⟨_, rfl⟩, out_ok o1 rp1 (.int _)⟩
        · exact False.elim o1
      · exact False.elim o1
    · exact ca_len ok pins s σ H G h [x] vs us Q I rp rx vu o
  · exact False.elim o
end
end RT
set_option Elab.async false
set_option linter.all false
set_option maxRecDepth 100000
set_option maxHeartbeats 4000000
/-! RT, part j: iteration, for, list comprehensions. -/
namespace RT
open PySem PySem.Spec L2
open PyProof.Rows hiding St

/-- an iterator goes through ts, whatever happens outside of it -/
def Yields (C : RC) (J : It) (ts : List T) (H : Hp) (G : Gh) : Prop := ∀ (X : Addr → Prop) (H2 : Hp) (G2 : Gh), StepX X H G H2 G2 → (∀ a, G2.Z a → H2 a ≠ none) → ∀ i, (ts.length ≤ i → J.stop i H2) ∧
  ∀ t, ts[i]? = some t → J.go i H2 ∧ ∀ x H3, J.yld i H2 x H3 → ∃ G3, Step H2 G2 H3 G3 ∧ (∀ h, RepH C.S H2 G2 h → RepH C.S H3 G3 h) ∧ RelT C.S H3 G3 t x
def OutI (C : RC) (σ : St) (H : Hp) (G : Gh) (r : R (List T)) (Rr : It → Hp → Prop) : Prop := match r with
  | .ok ts h => ∀ J H' G', Step H G H' G' → RepH C.S H' G' h → Yields C J ts H' G' → Rr J H'
  | .exc e h => ∀ cls d H' G', Step H G H' G' → RepH C.S H' G' h → RelX C.S H' G' e cls d → C.W cls d σ H'
  | .bad => False
theorem OutI.step {C : RC} {σ : St} {H H1 : Hp} {G G1 : Gh} {r : R (List T)} {Rr : It → Hp → Prop} (s : Step H G H1 G1) (o : OutI C σ H G r Rr) : OutI C σ H1 G1 r Rr := by
  cases r with
  | ok t h => exact fun J H' G' st => o J H' G' (s.trans st)
  | exc e h => exact fun c d H' G' st => o c d H' G' (s.trans st)
  | bad => exact o
theorem OutI.bind {C : RC} {σ : St} {H : Hp} {G : Gh} {A B : Type} {Rel : Hp → Gh → A → B → Prop} {r : R A} {f : A → Hm → R (List T)} {Rr : It → Hp → Prop} (o : OutI C σ H G (r.bind f) Rr) :
    Out C σ H G Rel r (fun v H' => ∃ t G' h', Step H G H' G' ∧ RepH C.S H' G' h' ∧ Rel H' G' t v ∧ OutI C σ H' G' (f t h') Rr) := by
  cases r with
  | ok t h' => exact fun v H' G' st rp rl => ⟨t, G', h', st, rp, rl, OutI.step st o⟩
  | exc e h' => exact o
  | bad => exact o
def liI (C : RC) (r : AT) : TI := fun σ H Rr => ∃ a G h, RepH C.S H G h ∧ RelSt C.S H G a σ ∧ OutI C σ H G (r a h) Rr
def JI (C : RC) (tg iter : Expr) (r : AT) : Prop := PI C.X tg iter (liI C r)
section
variable {C : RC} {tg e : Expr} {pos : Pos}
theorem sqT_any {S : Sta} {H : Hp} {G : Gh} {a : Addr} {vs : List V} (h : FzT S H G a vs) {X : Addr → Prop} {H2 : Hp} {G2 : Gh} (s : StepX X H G H2 G2) : SqT S.K H2 a vs := (h.step s).sq
theorem yields_tup (ok : C.Ok) {a : Addr} {vs : List V} {ts : List T} {H : Hp} {G : Gh} (hz : FzT C.S H G a vs) (rs : RelTs C.S H G ts vs) : Yields C (Itt C.X.K a) ts H G := by
  intro X H2 G2 st _ i
  have sq := sqT_any hz st
  rw [ok.K] at sq
  have rs2 := rs.step st
  refine ⟨fun hi => ⟨vs, sq, by rw [← rs.length]; exact hi⟩, fun t et => ?_⟩
  obtain ⟨v, e1, r1⟩ := rs2.get et
  refine ⟨⟨vs, v, sq, e1⟩, fun x H3 y => ?_⟩
  obtain ⟨rfl, y⟩ := y
  have := y vs sq
  rw [e1] at this
  cases this
  exact ⟨G2, Step.refl, fun _ z => z, r1⟩
theorem yields_lst (ok : C.Ok) {a : Addr} {vs : List V} {ts : List T} {H : Hp} {G : Gh} (hz : FzL C.S H G a vs) (rs : RelTs C.S H G ts vs) : Yields C (Itl C.X.K a) ts H G := by
  intro X H2 G2 st _ i
  have sq := (hz.step st).sq
  rw [ok.K] at sq
  have rs2 := rs.step st
  refine ⟨fun hi => ⟨vs, sq, by rw [← rs.length]; exact hi⟩, fun t et => ?_⟩
  obtain ⟨v, e1, r1⟩ := rs2.get et
  refine ⟨⟨vs, v, sq, e1⟩, fun x H3 y => ?_⟩
  obtain ⟨rfl, y⟩ := y
  have := y vs sq
  rw [e1] at this
  cases this
  exact ⟨G2, Step.refl, fun _ z => z, r1⟩
def signs (z : Str) : List T := z.cps.toList.map fun c => .str ⟨#[c]⟩
theorem yields_str {z : Str} {H : Hp} {G : Gh} : Yields C (Its z) (signs z) H G := by
  intro X H2 G2 st _ i
  refine ⟨fun hi => by
    have : z.cps.size ≤ i := by simpa [signs] using hi
    exact this, fun t et => ?_⟩
  unfold signs at et
  rw [List.getElem?_map] at et
  cases q : z.cps.toList[i]? with
  | none => rw [q] at et; cases et
  | some c =>
    rw [q] at et
    cases et
    have q' : z.cps[i]? = some c := by simpa using q
    refine ⟨by
      have := (Array.getElem?_eq_some_iff.mp q').1
      exact this, fun x H3 y => ?_⟩
    obtain ⟨rfl, c', e1, rfl⟩ := y
    rw [q'] at e1
    cases e1
    exact ⟨G2, Step.refl, fun _ z => z, .str _⟩
def rangeT (lo : Int) (n : Nat) : List T := (List.range n).map fun i => .int (lo + (i : Nat))
theorem yields_range {lo : Int} {n : Nat} {H : Hp} {G : Gh} : Yields C (Itr lo n) (rangeT lo n) H G := by
  intro X H2 G2 st _ i
  refine ⟨fun hi => by
    have : n ≤ i := by simpa [rangeT] using hi
    exact this, fun t et => ?_⟩
  unfold rangeT at et
  rw [List.getElem?_map] at et
  cases q : (List.range n)[i]? with
  | none => rw [q] at et; cases et
  | some c =>
    rw [q] at et
    cases et
    obtain ⟨h1, h2⟩ := List.getElem?_eq_some_iff.mp q
    have h1' : i < n := by simpa using h1
    have h2' : i = c := by simpa using h2
    subst h2'
    refine ⟨h1', fun x H3 y => ?_⟩
    obtain ⟨rfl, rfl⟩ := y
    exact ⟨G2, Step.refl, fun _ z => z, .int _⟩
/-- a value gone through: a frozen list, a tuple, a text -/
def itemsF (t : T) (h : Hm) : R (List T) := match t with
  | .lst xs => .ok xs h
  | .tup xs => .ok xs h
  | .str z => .ok (signs z) h
  | _ => .bad
def iVal (r : ET) : AT := fun st h => (r st h).bind itemsF
theorem ji_val (ok : C.Ok) {r : ET} (j : JE C e r) : JI C tg e (iVal r) := by
  refine ⟨fun pins s σ H Rr I hw => ?_⟩
  obtain ⟨st, G, h, rp, rs, o⟩ := hw
  refine thn (j.run I rp rs (OutI.bind (Rel := relE C) o)) fun v s1 ⟨x, H1, I1, r1, t, G1, h1, st1, rp1, rx, o1⟩ => ?_
  have fin : ∀ {b : Addr}, b ∈ [s1.heap.objs.size] → FpOk C.X pins H1 b := fun {b} hb => by
    have e : b = s1.heap.objs.size := by simpa using hb
    subst e
    exact I1.fpOk (Nat.le_refl _) (I1.hok.fresh (Nat.le_refl _))
  cases rx with
  | tup hz rs' =>
    cases r1
    have sq := hz.sq
    rw [ok.K] at sq
    obtain ⟨its, rv, p, _⟩ := I1.tuple sq
    refine wpAny_pyIter_tuple (show s1.heap.IsTuple _ its.toArray from p) ?_
    exact ⟨s1.heap.objs.size, [s1.heap.objs.size], _, _, H1, rfl, I1.kept (t' := s1.toks) fun b o e => Heap.get?_push_of_some _ e, turn_tuple _ _, ⟨_, Heap.get?_push_size _ rfl, rfl, rfl⟩, fun b hb => fin hb, o1 _ _ _ Step.refl rp1 (yields_tup ok hz rs')⟩
  | lst hz rs' =>
    cases r1
    have sq := hz.sq
    rw [ok.K] at sq
    obtain ⟨its, rv, p, _⟩ := I1.list sq
    refine wpAny_pyIter_list p.isList ?_
    exact ⟨s1.heap.objs.size, [s1.heap.objs.size], _, _, H1, rfl, I1.kept (t' := s1.toks) fun b o e => Heap.get?_push_of_some _ e, turn_list _ _, ⟨_, Heap.get?_push_size _ rfl, rfl, rfl⟩, fun b hb => fin hb, o1 _ _ _ Step.refl rp1 (yields_lst ok hz rs')⟩
  | str z =>
    obtain ⟨t, rfl⟩ := r1
    have q := o1 _ _ _ Step.refl rp1 (yields_str (C := C) (z := z) (H := H1) (G := G1))
    cases ha : z.cps.all (· < 128)
    · exact wpAny_pyIter_wide ha (pi_one (tk := s1.toks) I1 _ (turn_str _ z t "str_iterator" (.inr rfl)) ⟨_, Heap.get?_push_size _ rfl, rfl, rfl⟩ q)
    · exact wpAny_pyIter_ascii ha (pi_one (tk := s1.toks) I1 _ (turn_str _ z t "str_ascii_iterator" (.inl rfl)) ⟨_, Heap.get?_push_size _ rfl, rfl, rfl⟩ q)
  | _ => exact False.elim o1
def small62 (i : Int) : Bool := decide (-(2 ^ 62) ≤ i) && decide (i < 2 ^ 62)
/-- range(n), range(lo, hi) -/
def iRg1 (ra : AT) : AT := fun st h => (ra st h).bind fun xs h1 => match xs with
  | [.int j] => if small62 j then .ok (rangeT 0 j.toNat) h1 else .bad
  | _ => .bad
def iRg2 (ra : AT) : AT := fun st h => (ra st h).bind fun xs h1 => match xs with
  | [.int i, .int j] => if small62 i && small62 j then .ok (rangeT i (j - i).toNat) h1 else .bad
  | _ => .bad
theorem ji_range1 {a : Expr} {ra : AT} {p : Pos} (hg : Gl C.X "range") (hm : C.X.mg "range" = none) (ja : JA C [a] ra) (hs : starEach [a] C.X.env = [(false, eval a C.X.env)] := by rfl) : JI C tg (.Call (.Name "range" p) [a] [] pos) (iRg1 ra) := by
  refine ⟨fun pins s σ H Rr I hw => ?_⟩
  obtain ⟨st, G, h, rp, rs, o⟩ := hw
  refine (pi_range1 (ta := liA C ra) hg hm ja hs).run pins s σ H Rr I ⟨st, G, h, rp, rs, (OutI.bind (Rel := relA C) o).mono fun vs H1 ⟨ts, G1, h1, st1, rp1, rts, o1⟩ => ?_⟩
  split at o1
  · rename_i j
    obtain ⟨v, rfl, rv⟩ := rts.one
    cases rv
    split at o1
    · rename_i hc
      obtain ⟨c1, c2⟩ := band hc
      exact ⟨j, rfl, of_decide_eq_true c1, of_decide_eq_true c2, o1 _ _ _ Step.refl rp1 yields_range⟩
    · exact False.elim o1
  · exact False.elim o1
theorem ji_range2 {a b : Expr} {ra : AT} {p : Pos} (hg : Gl C.X "range") (hm : C.X.mg "range" = none) (ja : JA C [a, b] ra) (hs : starEach [a, b] C.X.env = [(false, eval a C.X.env), (false, eval b C.X.env)] := by rfl) (hs2 : starEach [b] C.X.env = [(false, eval b C.X.env)] := by rfl) :
    JI C tg (.Call (.Name "range" p) [a, b] [] pos) (iRg2 ra) := by
  refine ⟨fun pins s σ H Rr I hw => ?_⟩
  obtain ⟨st, G, h, rp, rs, o⟩ := hw
  refine (pi_range2 (ta := liA C ra) hg hm ja hs hs2).run pins s σ H Rr I ⟨st, G, h, rp, rs, (OutI.bind (Rel := relA C) o).mono fun vs H1 ⟨ts, G1, h1, st1, rp1, rts, o1⟩ => ?_⟩
  split at o1
  · rename_i i j
    obtain ⟨v, w, rfl, rv, rw'⟩ := rts.two
    cases rv; cases rw'
    split at o1
    · rename_i hc
      obtain ⟨ca, cb⟩ := band hc
      obtain ⟨c1, c2⟩ := band ca
      obtain ⟨c3, c4⟩ := band cb
      exact ⟨i, j, rfl, ⟨of_decide_eq_true c1, of_decide_eq_true c2, of_decide_eq_true c3, of_decide_eq_true c4⟩, o1 _ _ _ Step.refl rp1 yields_range⟩
    · exact False.elim o1
  · exact False.elim o1
/-- enumerate(e), e a list that is not changed -/
def enumT : Nat → List T → List T
  | _, [] => []
  | i, t :: r => .tup [.int (i : Nat), t] :: enumT (i + 1) r
theorem enumT_get : ∀ (ts : List T) (k i : Nat), (enumT k ts)[i]? = (ts[i]?).map fun t => .tup [.int ((k + i : Nat) : Int), t]
  | [], k, i => by simp [enumT]
  | t :: r, k, 0 => by simp [enumT]
  | t :: r, k, i + 1 => by
    rw [enumT, List.getElem?_cons_succ, enumT_get r (k + 1) i, List.getElem?_cons_succ]
    have e : k + 1 + i = k + (i + 1) := by omega
    rw [e]
theorem enumT_length : ∀ (ts : List T) (k : Nat), (enumT k ts).length = ts.length
  | [], _ => rfl
  | t :: r, k => by rw [enumT, List.length_cons, List.length_cons, enumT_length r]
theorem yields_enum (ok : C.Ok) {a : Addr} {vs : List V} {ts : List T} {H : Hp} {G : Gh} (hz : FzL C.S H G a vs) (rs : RelTs C.S H G ts vs) : Yields C (Ite C.X.K a) (enumT 0 ts) H G := by
  intro X H2 G2 st th i
  have sq := (hz.step st).sq
  rw [ok.K] at sq
  have rs2 := rs.step st
  refine ⟨fun hi => ⟨vs, sq, by rw [← rs.length]; rw [enumT_length] at hi; exact hi⟩, fun t et => ?_⟩
  rw [enumT_get] at et
  cases q : ts[i]? with
  | none => rw [q] at et; cases et
  | some t0 =>
    rw [q] at et
    cases et
    obtain ⟨v, e1, r1⟩ := rs2.get q
    refine ⟨⟨vs, v, sq, e1⟩, fun x H3 y => ?_⟩
    obtain ⟨p, y0, rfl, hp, rfl, y⟩ := y
    have := y vs sq
    rw [e1] at this
    cases this
    have g := grown_upd (o := .tup [.int (i : Nat), v]) hp
    have st0 := g.step th
    have st1 : Step H2 G2 (upd H2 p (.tup [.int (i : Nat), v])) (G2.fz p) := ⟨⟨[], by simp [Gh.fz]⟩, fun a z => .inr z, st0.keep, st0.there, st0.frame, fun a z => .inl z, fun a z => by
      rcases z with z | z
      · subst z; exact .inr (.inr hp)
      · exact .inl z, st0.tabs⟩
    refine ⟨G2.fz p, st1, fun h rp => (rp.newF hp).2, ?_⟩
    rw [Nat.zero_add]
    exact .tup (.inl ⟨.inl rfl, .inl upd_same⟩) (.cons (.int _) (.cons (r1.step st1) .nil))
def iEnumT (ra : AT) : AT := fun st h => (ra st h).bind fun xs h1 => match xs with
  | [.lst ts] => .ok (enumT 0 ts) h1
  | _ => .bad
theorem ji_enum (ok : C.Ok) {ra : AT} {p tpos : Pos} {elts : List Expr} {kk : Nat} (hg : Gl C.X "enumerate") (hm : C.X.mg "enumerate" = none) (ja : JA C [e] ra) (hs : starEach [e] C.X.env = [(false, eval e C.X.env)] := by rfl) :
    JI C (.Tuple elts kk tpos) (.Call (.Name "enumerate" p) [e] [] pos) (iEnumT ra) := by
  refine ⟨fun pins s σ H Rr I hw => ?_⟩
  obtain ⟨st, G, h, rp, rs, o⟩ := hw
  refine (pi_enum (ta := liA C ra) hg hm ja hs).run pins s σ H Rr I ⟨st, G, h, rp, rs, (OutI.bind (Rel := relA C) o).mono fun vs H1 ⟨ts, G1, h1, st1, rp1, rts, o1⟩ => ?_⟩
  split at o1
  · rename_i ys
    obtain ⟨v, rfl, rv⟩ := rts.one
    cases rv with
    | lst hz rs' =>
      have sq := hz.sq
      rw [ok.K] at sq
      exact ⟨_, _, rfl, sq, o1 _ _ _ Step.refl rp1 (yields_enum ok hz rs')⟩
  · exact False.elim o1
/-- zip(e, e2), both lists or both tuples that are not changed -/
def zipT : List T → List T → List T
  | x :: xs, y :: ys => .tup [x, y] :: zipT xs ys
  | _, _ => []
theorem zipT_get : ∀ (xs ys : List T) (i : Nat), (zipT xs ys)[i]? = match xs[i]?, ys[i]? with
    | some x, some y => some (.tup [x, y])
    | _, _ => none
  | [], ys, i => by simp [zipT]
  | x :: xs, [], i => by
    have e : zipT (x :: xs) [] = [] := by simp [zipT]
    rw [e]
    cases h : (x :: xs)[i]? <;> simp
  | x :: xs, y :: ys, 0 => by simp [zipT]
  | x :: xs, y :: ys, i + 1 => by
    rw [zipT, List.getElem?_cons_succ, zipT_get xs ys i, List.getElem?_cons_succ, List.getElem?_cons_succ]
theorem zipT_length : ∀ (xs ys : List T), (zipT xs ys).length = min xs.length ys.length
  | [], ys => by simp [zipT]
  | x :: xs, [] => by
    have e : zipT (x :: xs) [] = [] := by simp [zipT]
    rw [e]
    simp
  | x :: xs, y :: ys => by rw [zipT, List.length_cons, zipT_length xs ys]; simp
theorem pair_step {H2 : Hp} {G2 : Gh} {p : Addr} {v w : V} {x y : T} (th : ∀ a, G2.Z a → H2 a ≠ none) (hp : H2 p = none) (r1 : RelT C.S H2 G2 x v) (r2 : RelT C.S H2 G2 y w) :
    ∃ G3, Step H2 G2 (upd H2 p (.tup [v, w])) G3 ∧ (∀ h, RepH C.S H2 G2 h → RepH C.S (upd H2 p (.tup [v, w])) G3 h) ∧ RelT C.S (upd H2 p (.tup [v, w])) G3 (.tup [x, y]) (.ref p) := by
  have g := grown_upd (o := .tup [v, w]) hp
  have st0 := g.step th
  have st1 : Step H2 G2 (upd H2 p (.tup [v, w])) (G2.fz p) := ⟨⟨[], by simp [Gh.fz]⟩, fun a z => .inr z, st0.keep, st0.there, st0.frame, fun a z => .inl z, fun a z => by
    rcases z with z | z
    · subst z; exact .inr (.inr hp)
    · exact .inl z, st0.tabs⟩
  exact ⟨G2.fz p, st1, fun h rp => (rp.newF hp).2, .tup (.inl ⟨.inl rfl, .inl upd_same⟩) (.cons (r1.step st1) (.cons (r2.step st1) .nil))⟩
theorem yields_zipL (ok : C.Ok) {a b : Addr} {vs ws : List V} {xs ys : List T} {H : Hp} {G : Gh} (hz : FzL C.S H G a vs) (rs : RelTs C.S H G xs vs) (hz' : FzL C.S H G b ws) (rs' : RelTs C.S H G ys ws) : Yields C (Itz C.X.K a b) (zipT xs ys) H G := by
  intro X H2 G2 st th i
  have sq := (hz.step st).sq
  have sq' := (hz'.step st).sq
  rw [ok.K] at sq sq'
  have rs2 := rs.step st
  have rs2' := rs'.step st
  refine ⟨fun hi => ⟨vs, ws, sq, sq', by rw [zipT_length, rs.length, rs'.length] at hi; omega⟩, fun t et => ?_⟩
  rw [zipT_get] at et
  split at et
  · rename_i x y ex ey
    cases et
    obtain ⟨v, e1, r1⟩ := rs2.get ex
    obtain ⟨w, e2, r2⟩ := rs2'.get ey
    refine ⟨⟨vs, ws, v, w, sq, sq', e1, e2⟩, fun z H3 q => ?_⟩
    obtain ⟨p, x0, y0, rfl, hp, rfl, q1, q2⟩ := q
    have e3 := q1 vs sq
    have e4 := q2 ws sq'
    rw [e1] at e3
    rw [e2] at e4
    cases e3; cases e4
    exact pair_step th hp r1 r2
  · cases et
theorem yields_zipT (ok : C.Ok) {a b : Addr} {vs ws : List V} {xs ys : List T} {H : Hp} {G : Gh} (hz : FzT C.S H G a vs) (rs : RelTs C.S H G xs vs) (hz' : FzT C.S H G b ws) (rs' : RelTs C.S H G ys ws) : Yields C (RZ.ItzT C.X.K a b) (zipT xs ys) H G := by
  intro X H2 G2 st th i
  have sq := (hz.step st).sq
  have sq' := (hz'.step st).sq
  rw [ok.K] at sq sq'
  have rs2 := rs.step st
  have rs2' := rs'.step st
  refine ⟨fun hi => ⟨vs, ws, sq, sq', by rw [zipT_length, rs.length, rs'.length] at hi; omega⟩, fun t et => ?_⟩
  rw [zipT_get] at et
  split at et
  · rename_i x y ex ey
    cases et
    obtain ⟨v, e1, r1⟩ := rs2.get ex
    obtain ⟨w, e2, r2⟩ := rs2'.get ey
    refine ⟨⟨vs, ws, v, w, sq, sq', e1, e2⟩, fun z H3 q => ?_⟩
    obtain ⟨p, x0, y0, rfl, hp, rfl, q1, q2⟩ := q
    have e3 := q1 vs sq
    have e4 := q2 ws sq'
    rw [e1] at e3
    rw [e2] at e4
    cases e3; cases e4
    exact pair_step th hp r1 r2
  · cases et
def iZipT (ra : AT) : AT := fun st h => (ra st h).bind fun xs h1 => match xs with
  | [.lst xs, .lst ys] => .ok (zipT xs ys) h1
  | [.tup xs, .tup ys] => .ok (zipT xs ys) h1
  | _ => .bad
theorem ji_zip (ok : C.Ok) {e2 : Expr} {ra : AT} {p tpos : Pos} {elts : List Expr} {kk : Nat} (hg : Gl C.X "zip") (hm : C.X.mg "zip" = none) (ja : JA C [e, e2] ra)
    (hs : starEach [e, e2] C.X.env = (false, eval e C.X.env) :: starEach [e2] C.X.env := by rfl) (hpl : (backTo pos (starEach [e2] C.X.env)).any (·.1) = false := by rfl) :
    JI C (.Tuple elts kk tpos) (.Call (.Name "zip" p) [e, e2] [] pos) (iZipT ra) := by
  refine ⟨fun pins s σ H Rr I hw => ?_⟩
  obtain ⟨st, G, h, rp, rs, o⟩ := hw
  refine (RZ.pi_zipA (ta := liA C ra) hg hm ja hs hpl).run pins s σ H Rr I ⟨st, G, h, rp, rs, (OutI.bind (Rel := relA C) o).mono fun vs H1 ⟨ts, G1, h1, st1, rp1, rts, o1⟩ => ?_⟩
  split at o1
  · rename_i xs ys
    obtain ⟨v, w, rfl, rv, rw'⟩ := rts.two
    cases rv with
    | lst hz rs1 =>
      cases rw' with
      | lst hz2 rs2 =>
        have sq := hz.sq
        have sq2 := hz2.sq
        rw [ok.K] at sq sq2
        exact ⟨_, _, _, _, rfl, .inl ⟨sq, sq2, o1 _ _ _ Step.refl rp1 (yields_zipL ok hz rs1 hz2 rs2)⟩⟩
  · rename_i xs ys
    obtain ⟨v, w, rfl, rv, rw'⟩ := rts.two
    cases rv with
    | tup hz rs1 =>
      cases rw' with
      | tup hz2 rs2 =>
        have sq := hz.sq
        have sq2 := hz2.sq
        rw [ok.K] at sq sq2
        exact ⟨_, _, _, _, rfl, .inr ⟨sq, sq2, o1 _ _ _ Step.refl rp1 (yields_zipT ok hz rs1 hz2 rs2)⟩⟩
  · exact False.elim o1

/-! ### for -/
def forL (g : GT) (b : SM) : List T → SM
  | [], a, h => .ok (.nx a) h
  | t :: ts, a, h => match g t a h with
    | .ok a1 h1 => (match b a1 h1 with
      | .ok (.nx a2) h2 => forL g b ts a2 h2
      | .ok (.cont a2) h2 => forL g b ts a2 h2
      | .ok (.brk a2) h2 => .ok (.nx a2) h2
      | r => r)
    | _ => .bad
def sFor (ri : AT) (g : GT) (b : SM) : SM := fun a h => (ri a h).th a fun ts h1 => forL g b ts a h1
theorem OutS.bindI {σ : St} {H : Hp} {G : Gh} {r : R (List T)} {a : StT} {f : List T → Hm → R SO} {D : Ends} (rs : RelSt C.S H G a σ) (o : OutS C H G (r.th a f) D) :
    OutI C σ H G r (fun J H' => ∃ ts G' h', Step H G H' G' ∧ RepH C.S H' G' h' ∧ Yields C J ts H' G' ∧ OutS C H' G' (f ts h') D) := by
  cases r with
  | ok t h' => exact fun J H' G' st rp y => ⟨t, G', h', st, rp, y, OutS.step st o⟩
  | exc e h' => exact fun c d H' G' st rp x => o c d σ H' G' st rp (rs.step st) x
  | bad => exact o
theorem Yields.step {J : It} {ts : List T} {X : Addr → Prop} {H H1 : Hp} {G G1 : Gh} (y : Yields C J ts H G) (s : Step H G H1 G1) : Yields C J ts H1 G1 := fun X H2 G2 st => y X H2 G2 ((s.wide fun _ z => z.elim).trans st)
theorem js_for (hp : PassesOwn (model C.X.prog C.X.w) C.X.A C.X.env C.X.xe) (ok : C.Ok) {iter : Expr} {body : List Stmt} {ri : AT} {g : GT} {b : SM} (ji : JI C tg iter ri) (jg : JG C tg g) (jb : JSs C body b)
    (hs : ∀ x, foldedSetIterable iter C.X.env x = pure x := by intro _; rfl) : JS C (.For tg iter body [] pos) (sFor ri g b) := by
  refine ⟨fun pins s σ H D I hw => ?_⟩
  obtain ⟨a, G, h, rp, rs, o⟩ := hw
  refine (ps_for (wi := liI C ri) (g := liG C g) (tb := liS C b) hp ok.calm ji jg jb hs).run pins s σ H D I ⟨a, G, h, rp, rs, ?_⟩
  have o1 := OutS.bindI (σ := σ) rs o
  have key : ∀ (J : It) (H1 : Hp), (∃ ts G' h', Step H G H1 G' ∧ RepH C.S H1 G' h' ∧ Yields C J ts H1 G' ∧ OutS C H1 G' (forL g b ts a h') D) →
      ∃ W : Nat → Nat → St → Hp → Prop, (∃ m, W 0 m σ H1) ∧ ∀ i m σ H, W i m σ H → (J.stop i H ∧ D.nx σ H) ∨ (J.go i H ∧ ∃ N : St → Hp → Prop, (∀ σ' H', N σ' H' → ∃ m', m' < m ∧ W (i + 1) m' σ' H') ∧ ∀ x H', J.yld i H x H' → liG C g x σ H' fun σ2 H2 => liS C b { D with nx := N, ct := N, bk := D.nx } σ2 H2) := by
    rintro J H1 ⟨ts, G1, h1, st1, rp1, y1, o2⟩
    refine ⟨fun i m σ H => m = ts.length - i ∧ i ≤ ts.length ∧ ∃ a2 G2 h2, Step H1 G1 H G2 ∧ RepH C.S H G2 h2 ∧ RelSt C.S H G2 a2 σ ∧ OutS C H G2 (forL g b (ts.drop i) a2 h2) D, ⟨ts.length, rfl, Nat.zero_le _, a, G1, h1, Step.refl, rp1, rs.step st1, by simpa using o2⟩, ?_⟩
    rintro i m σ2 H2 ⟨rfl, hi, a2, G2, h2, st2, rp2, rs2, o3⟩
    have yy := y1 _ H2 G2 st2 (fun b z => rp2.there b (.inr z)) i
    by_cases hlt : i < ts.length
    · rw [List.drop_eq_getElem_cons hlt] at o3
      obtain ⟨go, yld⟩ := yy.2 ts[i] (List.getElem?_eq_getElem hlt)
      refine .inr ⟨go, fun σ' H' => ∃ a3 G3 h3, Step H1 G1 H' G3 ∧ RepH C.S H' G3 h3 ∧ RelSt C.S H' G3 a3 σ' ∧ OutS C H' G3 (forL g b (ts.drop (i + 1)) a3 h3) D, fun σ' H' z => ⟨ts.length - (i + 1), by omega, rfl, hlt, z⟩, fun x H3 hy => ?_⟩
      obtain ⟨G3, st3, rep, rt⟩ := yld x H3 hy
      rw [forL] at o3
      cases q : g ts[i] a2 h2 with
      | ok a4 h4 =>
        rw [q] at o3
        dsimp only at o3
        refine ⟨ts[i], a2, G3, h2, rep h2 rp2, rs2.step st3, rt, a4, h4, q, fun σ' H' G' st rp' rs' => ⟨a4, G', h4, rp', rs', ?_⟩⟩
        have o4 := OutS.step (st3.trans st) o3
        have all := st2.trans (st3.trans st)
        cases q2 : b a4 h4 with
        | ok z h5 =>
          rw [q2] at o4
          cases z with
          | nx a5 => exact fun σ5 H5 G5 st5 rp5 rs5 => ⟨a5, G5, h5, all.trans st5, rp5, rs5, OutS.step st5 o4⟩
          | cont a5 => exact fun σ5 H5 G5 st5 rp5 rs5 => ⟨a5, G5, h5, all.trans st5, rp5, rs5, OutS.step st5 o4⟩
          | brk a5 => exact o4
          | ret t => exact o4
          | rse e a5 => exact o4
        | exc e h5 => rw [q2] at o4; exact False.elim o4
        | bad => rw [q2] at o4; exact False.elim o4
      | exc e h4 => rw [q] at o3; exact False.elim o3
      | bad => rw [q] at o3; exact False.elim o3
    · have e : ts.drop i = [] := List.drop_eq_nil_of_le (by omega)
      rw [e] at o3
      exact .inl ⟨yy.1 (by omega), o3 σ2 H2 G2 Step.refl rp2 rs2⟩
  cases q : ri a h with
  | ok ts h1 =>
    rw [q] at o1
    exact fun J H1 G1 st rp1 y => key J H1 (o1 J H1 G1 st rp1 y)
  | exc e h1 =>
    rw [q] at o1
    exact o1
  | bad => rw [q] at o1; exact o1
end
end RT
set_option Elab.async false
set_option linter.all false
set_option maxRecDepth 100000
set_option maxHeartbeats 4000000
/-! RT, part k: list comprehensions. -/
namespace RT
open PySem PySem.Spec L2
open PyProof.Rows hiding St

/-! ### targets whose names are a block's own -/
structure SimG (S : Sta) (K : PySem.W.Frag) (own : List Nat) (g : GT) (tgv : TG) : Prop where
  run : ∀ {H : Hp} {G : Gh} {h h1 : Hm} {a a1 : StT} {σ : St} {t : T} {v : V} {Q : St → Hp → Prop}, RelT S H G t v → RelSt S H G a σ → g t a h = .ok a1 h1 → (h1 = h → ∀ σ2, wipe σ2 own = wipe σ own → RelSt S H G a1 σ2 → Q σ2 H) → tgv v σ H Q
structure SimGs (S : Sta) (K : PySem.W.Frag) (own : List Nat) (g : List T → StT → Hm → R StT) (tgv : TGs) : Prop where
  run : ∀ {H : Hp} {G : Gh} {h h1 : Hm} {a a1 : StT} {σ : St} {t : List T} {v : List V} {Q : St → Hp → Prop}, RelTs S H G t v → RelSt S H G a σ → g t a h = .ok a1 h1 → (h1 = h → ∀ σ2, wipe σ2 own = wipe σ own → RelSt S H G a1 σ2 → Q σ2 H) → tgv v σ H Q
theorem wipe_set {σ : St} {i : Nat} {x : Option V} : ∀ {own : List Nat}, i ∈ own → wipe (σ.set i x) own = wipe σ own
  | [], h => by simp at h
  | v :: vs, h => by
    unfold wipe
    by_cases e : i = v
    · subst e
      by_cases m : i ∈ vs
      · rw [wipe_set m]
      · have : ∀ (vs : List Nat), wipe (σ.set i x) vs = (wipe σ vs).set i x ∨ wipe (σ.set i x) vs = wipe σ vs := fun vs => by
          induction vs with
          | nil => exact .inl rfl
          | cons w ws ih =>
            unfold wipe
            by_cases ew : i = w
            · subst ew
              rcases ih with ih | ih
              · rw [ih, List.set_set]; exact .inr rfl
              · rw [ih]; exact .inr rfl
            · rcases ih with ih | ih
              · rw [ih, List.set_comm _ _ ew]; exact .inl rfl
              · rw [ih]; exact .inr rfl
        rcases this vs with q | q
        · rw [q, List.set_set]
        · rw [q]
    · have m : i ∈ vs := by
        rcases List.mem_cons.mp h with z | z
        · exact absurd z e
        · exact z
      rw [wipe_set m]
theorem wipe_idem {σ : St} : ∀ {own : List Nat}, wipe (wipe σ own) own = wipe σ own := fun {own} => by
  have : ∀ (ws : List Nat), (∀ w ∈ ws, w ∈ own) → wipe (wipe σ ws) own = wipe σ own := fun ws => by
    induction ws with
    | nil => intro _; rfl
    | cons w ws ih =>
      intro h
      show wipe ((wipe σ ws).set w none) own = _
      rw [wipe_set (h w (by simp)), ih fun z hz => h z (by simp [hz])]
  exact this own fun _ h => h
theorem sim_name {S : Sta} {K : PySem.W.Frag} {own : List Nat} {i : Nat} (hi : i ∈ own) : SimG S K own (gNm i) (gName i) := by
  refine ⟨fun {H G h h1 a a1 σ t v Q} rt rs e q => ?_⟩
  have e' : R.ok (a.set i (some t)) h = R.ok a1 h1 := e
  cases e'
  exact q rfl _ (wipe_set hi) (rs.set i rt)
theorem sims_nil {S : Sta} {K : PySem.W.Frag} {own : List Nat} : SimGs S K own gsNil gNil := by
  refine ⟨fun {H G h h1 a a1 σ t v Q} rt rs e q => ?_⟩
  cases rt with
  | nil =>
    have e' : R.ok a h = R.ok a1 h1 := e
    cases e'
    exact ⟨rfl, q rfl _ rfl rs⟩
  | cons _ _ =>
    have e' : (R.bad : R StT) = R.ok a1 h1 := e
    cases e'
theorem sims_cons {S : Sta} {K : PySem.W.Frag} {own : List Nat} {g : GT} {gs : List T → StT → Hm → R StT} {tg : TG} {tgs : TGs} (h1 : SimG S K own g tg) (h2 : SimGs S K own gs tgs) : SimGs S K own (gsCons g gs) (gCons tg tgs) := by
  refine ⟨fun {H G h h1' a a1 σ t v Q} rt rs e q => ?_⟩
  cases rt with
  | nil =>
    have e2 : (R.bad : R StT) = R.ok a1 h1' := e
    cases e2
  | cons r1 r2 =>
    obtain ⟨a2, h2', e1, e2⟩ := bind_ok (r := g _ a h) e
    refine ⟨_, _, rfl, h1.run r1 rs e1 fun eh σ2 w2 rs2 => ?_⟩
    subst eh
    exact h2.run r2 rs2 e2 fun eh σ3 w3 rs3 => q eh σ3 (w3.trans w2) rs3
theorem sim_tup {S : Sta} {K : PySem.W.Frag} {own : List Nat} {n : Nat} {gs : List T → StT → Hm → R StT} {tgs : TGs} (hK : S.K = K) (h2 : SimGs S K own gs tgs) : SimG S K own (gTp n gs) (gTup K n tgs) := by
  refine ⟨fun {H G h h1 a a1 σ t v Q} rt rs e q => ?_⟩
  unfold gTp at e
  cases rt with
  | tup hz hr =>
    dsimp only at e
    split at e
    · rename_i hl
      exact ⟨_, _, rfl, by rw [← hK]; exact hz.sq, by rw [← hr.length]; exact hl, h2.run hr rs e q⟩
    · cases e
  | _ => cases e

mutual
theorem RelT.gmono {S : Sta} {H : Hp} {G G' : Gh} (m : ∀ (l : Nat) (a : Addr), G.mu[l]? = some a → G'.mu[l]? = some a) (s : ∀ a, G.Z a → G'.Z a) : ∀ {t : T} {v : V}, RelT S H G t v → RelT S H G' t v
  | _, _, .non => .non
  | _, _, .bl b => .bl b
  | _, _, .int b => .int b
  | _, _, .str b => .str b
  | _, _, .tup h r => .tup (h.indep s) (r.gmono m s)
  | _, _, .lst h r => .lst (h.indep s) (r.gmono m s)
  | _, _, .ref h => .ref (m _ _ h)
  | _, _, .obj z h r => .obj (s _ z) h (r.gmono m s)
  | _, _, .fn k => .fn k
  | _, _, .emp z h => .emp (s _ z) h
  | _, _, .ty n => .ty n
  | _, _, .cl c => .cl c
  | _, _, .exo0 z h => .exo0 (s _ z) h
  | _, _, .exo z zd h hd r => .exo (s _ z) (s _ zd) h hd (r.gmono m s)
theorem RelTs.gmono {S : Sta} {H : Hp} {G G' : Gh} (m : ∀ (l : Nat) (a : Addr), G.mu[l]? = some a → G'.mu[l]? = some a) (s : ∀ a, G.Z a → G'.Z a) : ∀ {t : List T} {v : List V}, RelTs S H G t v → RelTs S H G' t v
  | _, _, .nil => .nil
  | _, _, .cons h r => .cons (h.gmono m s) (r.gmono m s)
theorem RelFs.gmono {S : Sta} {H : Hp} {G G' : Gh} (m : ∀ (l : Nat) (a : Addr), G.mu[l]? = some a → G'.mu[l]? = some a) (s : ∀ a, G.Z a → G'.Z a) : ∀ {t : List (Nat × T)} {v : List (Str × V)}, RelFs S H G t v → RelFs S H G' t v
  | _, _, .nil => .nil
  | _, _, .cons f h r => .cons f (h.gmono m s) (r.gmono m s)
end
/-! ### a list that is being made, outside of the ghost state -/
structure Off (H : Hp) (G : Gh) (D : Addr) : Prop where
  lst : ∃ xs, H D = some (.lst xs)
  mu : D ∉ G.mu
  Z : ¬ G.Z D
theorem Off.tr {H : Hp} {G : Gh} {D : Addr} (o : Off H G D) : H D ≠ none := by
  obtain ⟨xs, e⟩ := o.lst
  rw [e]; simp
theorem Off.step {H H' : Hp} {G G' : Gh} {D : Addr} (o : Off H G D) (s : Step H G H' G') : Off H' G' D ∧ H' D = H D := by
  obtain ⟨xs, e⟩ := o.lst
  have fr := s.frame D o.tr (fun ps z => by rw [e] at z; cases z) o.mu fun z => z
  refine ⟨⟨⟨xs, by rw [fr]; exact e⟩, fun m => ?_, fun z => ?_⟩, fr⟩
  · rcases s.fresh D m with m | m
    · exact o.mu m
    · exact o.tr m
  · rcases s.fz D z with z | z | z
    · exact o.Z z
    · exact o.mu z
    · exact o.tr z
theorem Off.put {H : Hp} {G : Gh} {D : Addr} (o : Off H G D) (us : List V) : StepX (· = D) H G (upd H D (.lst us)) G ∧ Off (upd H D (.lst us)) G D := by
  obtain ⟨xs, e0⟩ := o.lst
  refine ⟨⟨⟨[], by simp⟩, fun _ h => h, fun a z => upd_ne fun e => o.Z (e ▸ z), fun a h => ?_, fun a h _ n x => upd_ne x, fun a h => .inl h, fun a h => .inl h, fun P q t => tabS_upd t e0 (noTab_lst _)⟩, ⟨us, upd_same⟩, o.mu, o.Z⟩
  by_cases e : a = D
  · subst e; rw [upd_same]; simp
  · rw [upd_ne e]; exact h
theorem RepH.put {S : Sta} {H : Hp} {G : Gh} {h : Hm} {D : Addr} (r : RepH S H G h) (o : Off H G D) (us : List V) : RepH S (upd H D (.lst us)) G h := by
  have st := (o.put us).1
  refine ⟨r.len, fun l c e => ?_, r.nd, fun a q => st.there a (r.there a q), fun p hp => st.tabs _ _ (r.tabs p hp)⟩
  obtain ⟨a, v, h1, h2, h3, h4, h5⟩ := r.cell l c e
  refine ⟨a, v, h1, ?_, h3.step st, h4, h5⟩
  rw [upd_ne]
  · exact h2
  · rintro rfl
    exact o.mu (List.mem_of_getElem? h1)
theorem RepH.fzOff {S : Sta} {H : Hp} {G : Gh} {h : Hm} {D : Addr} (r : RepH S H G h) (o : Off H G D) : RepH S H (G.fz D) h := by
  refine ⟨r.len, fun l c e => ?_, r.nd, fun a q => ?_, r.tabs⟩
  · obtain ⟨a, v, h1, h2, h3, h4, h5⟩ := r.cell l c e
    refine ⟨a, v, h1, h2, ?_, fun z => ?_, h5⟩
    · cases h3 with
      | lst rs => exact .lst (rs.indep (G := G) (G' := G.fz D) (fun _ z => .inr z) h5)
      | ins rs => exact .ins (rs.indep (G := G) (G' := G.fz D) (fun _ z => .inr z) h5)
      | exn0 => exact .exn0
      | exn z e2 rs => exact .exn (.inr z) e2 (rs.indep (G := G) (G' := G.fz D) (fun _ z => .inr z) h5)
    · rcases z with z | z
      · subst z; exact o.mu (List.mem_of_getElem? h1)
      · exact h4 z
  · rcases q with q | q | q
    · exact r.there a (.inl q)
    · subst q; exact o.tr
    · exact r.there a (.inr q)
/-- back in the whole -/
theorem off_back {H1 H : Hp} {G1 G : Gh} {D : Addr} {u : HO} (hD : H1 D = none) (h1 : ∀ a, G1.Z a → H1 a ≠ none) (s : StepX (· = D) (upd H1 D u) G1 H G) : Step H1 G1 H G := by
  have ne : ∀ a, H1 a ≠ none → a ≠ D := fun a h e => h (e ▸ hD)
  have up : ∀ a, upd H1 D u a = none → H1 a = none := fun a h => by
    by_cases e : a = D
    · subst e; exact hD
    · rw [upd_ne e] at h; exact h
  refine ⟨s.mu, s.Z, fun a z => (s.keep a z).trans (upd_ne (ne a (h1 a z))), fun a h => s.there a (by rw [upd_ne (ne a h)]; exact h), fun a h nt n _ => (s.frame a (by rw [upd_ne (ne a h)]; exact h) (fun ps => by rw [upd_ne (ne a h)]; exact nt ps) n (ne a h)).trans (upd_ne (ne a h)), fun a h => ?_, fun a h => ?_, fun P q t => s.tabs P q (t.ext fun b o e => by rw [upd_ne (ne_of_none e hD)]; exact e)⟩
  · rcases s.fresh a h with z | z
    · exact .inl z
    · exact .inr (up a z)
  · rcases s.fz a h with z | z | z
    · exact .inl z
    · exact .inr (.inl z)
    · exact .inr (.inr (up a z))
theorem fz_step {H1 H : Hp} {G1 G : Gh} {D : Addr} (hD : H1 D = none) (s : Step H1 G1 H G) : Step H1 G1 H (G.fz D) :=
  ⟨s.mu, fun a z => .inr (s.Z a z), s.keep, s.there, s.frame, s.fresh, fun a z => by
    rcases z with z | z
    · subst z; exact .inr (.inr hD)
    · exact s.fz a z, s.tabs⟩
theorem ad_step {H1 H : Hp} {G1 G : Gh} {D : Addr} (hD : H1 D = none) (s : Step H1 G1 H G) : Step H1 G1 H (G.ad D) := by
  obtain ⟨⟨m, e⟩, z, k, t, f, r, q, tb⟩ := s
  refine ⟨⟨m ++ [D], by show G.mu ++ [D] = _; rw [e, List.append_assoc]⟩, z, k, t, f, fun a h => ?_, q, tb⟩
  rcases List.mem_append.mp (show a ∈ G.mu ++ [D] from h) with h | h
  · exact r a h
  · simp at h; subst h; exact .inr hD
theorem RepH.adOff {S : Sta} {H : Hp} {G : Gh} {h : Hm} {D : Addr} {vs : List V} {ts : List T} (r : RepH S H G h) (o : Off H G D) (e : H D = some (.lst vs)) (rt : RelTs S H G ts vs) (hn : T.noRefs ts = true) : RepH S H (G.ad D) (h ++ [some (.lst ts)]) := by
  have st : ∀ {a t v}, CellAt S H G a t v → t.noRef = true → CellAt S H (G.ad D) a t v := fun q n => CellAt.indep (G := G) (G' := G.ad D) (fun _ z => z) q n
  refine ⟨by simp [Gh.ad, r.len], fun l c e' => ?_, ?_, fun a q => ?_, r.tabs⟩
  · by_cases hl : l < h.length
    · rw [List.getElem?_append_left hl] at e'
      obtain ⟨a, u, h1, h2, h3, h4, h5⟩ := r.cell l c e'
      refine ⟨a, u, ?_, h2, st h3 h5, h4, h5⟩
      show (G.mu ++ [D])[l]? = some a
      rw [List.getElem?_append_left (List.getElem?_eq_some_iff.mp h1).1]
      exact h1
    · have el : l = h.length := by
        have := (List.getElem?_eq_some_iff.mp e').1
        simp at this; omega
      subst el
      rw [List.getElem?_append_right (Nat.le_refl _)] at e'
      simp at e'
      subst e'
      refine ⟨D, _, ?_, e, st (.lst rt) hn, o.Z, hn⟩
      show (G.mu ++ [D])[h.length]? = some D
      rw [r.len, List.getElem?_append_right (Nat.le_refl _)]
      simp
  · show (G.mu ++ [D]).Nodup
    rw [List.nodup_append]
    exact ⟨r.nd, by simp, fun a ha b hb => by simp at hb; subst hb; exact fun e => o.mu (e ▸ ha)⟩
  · have q' : a ∈ G.mu ++ [D] ∨ G.Z a := q
    rcases q' with q' | q'
    · rcases List.mem_append.mp q' with q' | q'
      · exact r.there a (.inl q')
      · simp at q'; subst q'; exact o.tr
    · exact r.there a (.inr q')

/-! ### [elt for target in iter if test] -/
def wipeT (a : StT) : List Nat → StT
  | [] => a
  | v :: vs => (wipeT a vs).set v none
theorem RelSt.wipe {S : Sta} {H : Hp} {G : Gh} {a : StT} {σ : St} (r : RelSt S H G a σ) : ∀ own : List Nat, RelSt S H G (wipeT a own) (L2.wipe σ own)
  | [] => r
  | v :: vs => RelSt.unset (RelSt.wipe r vs) v none
def lcL (g : GT) (tt : BT) (te : ET) (w : StT) : List T → Hm → R (List T)
  | [], h => .ok [] h
  | t :: ts, h => match g t w h with
    | .ok a1 h1 => (match tt a1 h1 with
      | .ok true h2 => (match te a1 h2 with
        | .ok y h3 => (match lcL g tt te w ts h3 with
          | .ok ys h4 => .ok (y :: ys) h4
          | _ => .bad)
        | _ => .bad)
      | .ok false h2 => lcL g tt te w ts h2
      | _ => .bad)
    | _ => .bad
theorem lcL_exc {g : GT} {tt : BT} {te : ET} {w : StT} : ∀ {ts : List T} {h : Hm} {e : T} {h' : Hm}, lcL g tt te w ts h = .exc e h' → False
  | [], h, e, h', q => by rw [lcL] at q; cases q
  | t :: ts, h, e, h', q => by
    rw [lcL] at q
    split at q
    · split at q
      · split at q
        · split at q
          · cases q
          · cases q
        · cases q
      · exact lcL_exc q
      · cases q
    · cases q
def eLc (own : List Nat) (ri : AT) (g : GT) (tt : BT) (te : ET) : ET := fun a h => (ri a h).bind fun ts h1 => if ts.length ≤ sizeLine then (lcL g tt te (wipeT a own) ts h1).bind fun ys h2 => .ok (.lst ys) h2 else .bad
def eLcM (own : List Nat) (ri : AT) (g : GT) (tt : BT) (te : ET) : ET := fun a h => (ri a h).bind fun ts h1 => if ts.length ≤ sizeLine then (lcL g tt te (wipeT a own) ts h1).bind fun ys h2 => if T.noRefs ys then .ok (.ref h2.length) (h2 ++ [some (.lst ys)]) else .bad else .bad
/-- the context inside of a block -/
abbrev blkR (C : RC) (s : Shared) (H : Hp) (scope : Scope) (Ce : Addr) (cl : List (Str × Addr)) (fp : List Addr) : RC := ⟨C.X.blk s H scope (compEnvC scope cl Ce C.X.env) fp, C.S, fun _ _ _ _ => False, C.k⟩
theorem RC.Ok.blk {C : RC} (ok : C.Ok) {s : Shared} {H : Hp} {scope : Scope} {Ce : Addr} {cl : List (Str × Addr)} {fp : List Addr} : (blkR C s H scope Ce cl fp).Ok :=
  ⟨ok.K, ok.calm, ok.room, ok.gd, ok.nd, fun u s' z => by
    obtain ⟨_, _, _, _, _, _, _, _, _, _, _, _, _, _, _, _, w⟩ := z
    exact w⟩
def bYes : BT := fun _ h => .ok true h
def JTs (C : RC) (ifs : List Expr) (r : BT) : Prop := PTs C.X ifs (liB C r)
section
variable {C : RC} {pos : Pos}
theorem jts_nil : JTs C [] bYes := ⟨fun pins s σ H Q I hw => by
  obtain ⟨a, G, h, rp, rs, o⟩ := hw
  exact pts_nil.run pins s σ H Q I (o true H G Step.refl rp rfl)⟩
theorem jts_one {c : Expr} {r : BT} (j : JB C c r) : JTs C [c] r := pts_one j
theorem lc_lift {own : List Nat} {ri : AT} {g : GT} {tgv : TG} {tt : BT} {te : ET} {a : StT} {σ : St} {H0 : Hp} {G0 : Gh} {h0 : Hm} {Q : VK} {Cb : RC} (hS : Cb.S = C.S) (hW : Cb.W = fun _ _ _ _ => False) (sim : SimG C.S C.X.K own g tgv) (rp0 : RepH C.S H0 G0 h0) (rs0 : RelSt C.S H0 G0 a σ)
    (fin : List T → Hm → Prop)
    (hfin : ∀ ts h1, ri a h0 = .ok ts h1 → ts.length ≤ sizeLine ∧ ∃ ys h2, lcL g tt te (wipeT a own) ts h1 = .ok ys h2 ∧ fin ys h2)
    (hq : ∀ (D : Addr) (H1 H : Hp) (G1 G : Gh) (ys : List T) (vs : List V) (h2 : Hm), Step H0 G0 H1 G1 → H1 D = none → Step H1 G1 H G → Off H G D → H D = some (.lst vs) → RelTs C.S H G ys vs → RepH C.S H G h2 → fin ys h2 → Q (.ref D) H)
    (hx : ∀ e h1, ri a h0 = .exc e h1 → OutI C σ H0 G0 (.exc e h1) (fun _ _ => True)) (hb : ri a h0 ≠ .bad) :
    tLc (liI C ri) tgv (liB Cb tt) (liE Cb te) own σ H0 Q := by
  refine ⟨a, G0, h0, rp0, rs0, ?_⟩
  cases q : ri a h0 with
  | bad => exact absurd q hb
  | exc e h1 => exact hx e h1 q
  | ok ts h1 =>
    obtain ⟨hsz, all, hE, eall, hf⟩ := hfin ts h1 q
    refine fun J H1 G1 st01 rp1 yl D hD => ?_
    have rs1 := rs0.step st01
    have th1 : ∀ a, G1.Z a → H1 a ≠ none := fun b z => rp1.there b (.inr z)
    have g1 := grown_upd (o := .lst []) hD
    have stD := g1.step th1
    have offD : Off (upd H1 D (.lst [])) G1 D := ⟨⟨[], upd_same⟩, fun m => (rp1.there D (.inl m)) hD, fun z => (rp1.there D (.inr z)) hD⟩
    refine ⟨fun i m H => m = ts.length - i ∧ i ≤ ts.length ∧ ∃ acc vs G h' ys, H D = some (.lst vs) ∧ RelTs C.S H G acc vs ∧ acc.length ≤ i ∧ RepH C.S H G h' ∧ StepX (· = D) (upd H1 D (.lst [])) G1 H G ∧ Off H G D ∧ lcL g tt te (wipeT a own) (ts.drop i) h' = .ok ys hE ∧ all = acc ++ ys,
      ⟨ts.length, by simp, Nat.zero_le _, [], [], G1, h1, all, upd_same, .nil, Nat.zero_le _, rp1.grown g1, StepX.refl, offD, by simpa using eall, rfl⟩, ?_⟩
    rintro i m H ⟨rfl, hi, acc, vs, G, h', ys, eD, racc, hlen, rp, stx, off, el, eall'⟩
    have st1X : StepX (· = D) H1 G1 H G := (stD.wide fun _ z => z.elim).trans stx
    have yy := yl _ H G st1X (fun b z => rp.there b (.inr z)) i
    have rsH := (rs1.step st1X : RelSt C.S H G a σ).wipe own
    by_cases hlt : i < ts.length
    · rw [List.drop_eq_getElem_cons hlt] at el
      obtain ⟨go, yld⟩ := yy.2 ts[i] (List.getElem?_eq_getElem hlt)
      rw [lcL] at el
      cases qg : g ts[i] (wipeT a own) h' with
      | exc e z => rw [qg] at el; cases el
      | bad => rw [qg] at el; cases el
      | ok a1 ha =>
        rw [qg] at el
        dsimp only at el
        refine .inr ⟨go, fun H' => ∃ acc vs G h' ys, H' D = some (.lst vs) ∧ RelTs C.S H' G acc vs ∧ acc.length ≤ i + 1 ∧ RepH C.S H' G h' ∧ StepX (· = D) (upd H1 D (.lst [])) G1 H' G ∧ Off H' G D ∧ lcL g tt te (wipeT a own) (ts.drop (i + 1)) h' = .ok ys hE ∧ all = acc ++ ys, fun H' z => ⟨ts.length - (i + 1), by omega, rfl, hlt, z⟩, fun x H3 hy => ?_⟩
        obtain ⟨G3, st3, rep, rt⟩ := yld x H3 hy
        obtain ⟨off3, eD3⟩ := off.step st3
        refine sim.run rt (rsH.step st3) qg fun eh σ2 w2 rs2 => ?_
        subst eh
        refine ⟨w2.trans wipe_idem, ?_⟩
        have rp3 := rep ha rp
        refine ⟨a1, G3, ha, by rw [hS]; exact rp3, by rw [hS]; exact rs2, ?_⟩
        cases qt : tt a1 ha with
        | exc e z => rw [qt] at el; cases el
        | bad => rw [qt] at el; cases el
        | ok b h4 =>
          rw [qt] at el
          intro b' H4 G4 st4 rp4 eb
          have eb' : b = b' := eb
          subst eb'
          rw [hS] at rp4
          obtain ⟨off4, eD4⟩ := off3.step st4
          have st34 := (st3.wide (Y := (· = D)) fun _ z => z.elim).trans (st4.wide (Y := (· = D)) fun _ z => z.elim)
          cases b with
          | false =>
            rw [if_neg (by simp)]
            exact ⟨acc, vs, G4, h4, ys, (eD4.trans eD3).trans eD, racc.step st34, by omega, rp4, stx.trans st34, off4, el, eall'⟩
          | true =>
            rw [if_pos rfl]
            dsimp only at el
            refine ⟨a1, G4, h4, by rw [hS]; exact rp4, by rw [hS]; exact rs2.step st4, ?_⟩
            cases qe : te a1 h4 with
            | exc e z => rw [qe] at el; cases el
            | bad => rw [qe] at el; cases el
            | ok y h5 =>
              rw [qe] at el
              intro vy H5 G5 st5 rp5 ry
              rw [hS] at rp5
              have ry : RelT Cb.S H5 G5 y vy := ry
              rw [hS] at ry
              obtain ⟨off5, eD5⟩ := off4.step st5
              have e5 := ((eD5.trans eD4).trans eD3).trans eD
              have st35 := st34.trans (st5.wide (Y := (· = D)) fun _ z => z.elim)
              have rac5 := racc.step st35
              have lv : vs.length = acc.length := rac5.length.symm
              refine ⟨vs, e5, by omega, ?_⟩
              dsimp only at el
              cases ql : lcL g tt te (wipeT a own) (ts.drop (i + 1)) h5 with
              | exc e z => rw [ql] at el; cases el
              | bad => rw [ql] at el; cases el
              | ok zs h6 =>
                rw [ql] at el
                cases el
                obtain ⟨stp, offp⟩ := off5.put (vs ++ [vy])
                refine ⟨acc ++ [y], vs ++ [vy], G5, h5, zs, upd_same, (rac5.step stp).app (.cons (ry.step stp) .nil), by simp; omega, rp5.put off5 _, (stx.trans st35).trans stp, offp, ql, ?_⟩
                rw [eall']
                simp
    · have e : ts.drop i = [] := List.drop_eq_nil_of_le (by omega)
      rw [e, lcL] at el
      cases el
      refine .inl ⟨yy.1 (by omega), ?_⟩
      rw [List.append_nil] at eall'
      subst eall'
      exact hq D H1 H G1 G all vs hE st01 hD (off_back hD th1 stx) off eD racc rp hf
/-- what the expression's own reading gives -/
theorem lc_out {own : List Nat} {ri : AT} {g : GT} {tt : BT} {te : ET} {a : StT} {σ : St} {H0 : Hp} {G0 : Gh} {h0 : Hm} {Q : VK} (o : Out C σ H0 G0 (relE C) (eLc own ri g tt te a h0) Q) :
    (∀ ts h1, ri a h0 = .ok ts h1 → ts.length ≤ sizeLine ∧ ∃ ys h2, lcL g tt te (wipeT a own) ts h1 = .ok ys h2 ∧ Out C σ H0 G0 (relE C) (.ok (.lst ys) h2) Q) ∧ (∀ e h1, ri a h0 = .exc e h1 → OutI C σ H0 G0 (.exc e h1) (fun _ _ => True)) ∧ ri a h0 ≠ .bad := by
  unfold eLc at o
  refine ⟨fun ts h1 e => ?_, fun e h1 q => ?_, fun q => ?_⟩
  · rw [e] at o
    have o : Out C σ H0 G0 (relE C) (if ts.length ≤ sizeLine then (lcL g tt te (wipeT a own) ts h1).bind fun ys h2 => .ok (.lst ys) h2 else .bad) Q := o
    split at o
    · rename_i hl
      refine ⟨hl, ?_⟩
      cases q : lcL g tt te (wipeT a own) ts h1 with
      | ok ys h2 => rw [q] at o; exact ⟨ys, h2, rfl, o⟩
      | exc e z => exact (lcL_exc q).elim
      | bad => rw [q] at o; exact False.elim o
    · exact False.elim o
  · rw [q] at o; exact o
  · rw [q] at o; exact o
theorem lc_outM {own : List Nat} {ri : AT} {g : GT} {tt : BT} {te : ET} {a : StT} {σ : St} {H0 : Hp} {G0 : Gh} {h0 : Hm} {Q : VK} (o : Out C σ H0 G0 (relE C) (eLcM own ri g tt te a h0) Q) :
    (∀ ts h1, ri a h0 = .ok ts h1 → ts.length ≤ sizeLine ∧ ∃ ys h2, lcL g tt te (wipeT a own) ts h1 = .ok ys h2 ∧ T.noRefs ys = true ∧ Out C σ H0 G0 (relE C) (.ok (.ref h2.length) (h2 ++ [some (.lst ys)])) Q) ∧ (∀ e h1, ri a h0 = .exc e h1 → OutI C σ H0 G0 (.exc e h1) (fun _ _ => True)) ∧ ri a h0 ≠ .bad := by
  unfold eLcM at o
  refine ⟨fun ts h1 e => ?_, fun e h1 q => ?_, fun q => ?_⟩
  · rw [e] at o
    have o : Out C σ H0 G0 (relE C) (if ts.length ≤ sizeLine then (lcL g tt te (wipeT a own) ts h1).bind fun ys h2 => if T.noRefs ys then .ok (.ref h2.length) (h2 ++ [some (.lst ys)]) else .bad else .bad) Q := o
    split at o
    · rename_i hl
      refine ⟨hl, ?_⟩
      cases q : lcL g tt te (wipeT a own) ts h1 with
      | ok ys h2 =>
        rw [q] at o
        have o : Out C σ H0 G0 (relE C) (if T.noRefs ys then .ok (.ref h2.length) (h2 ++ [some (.lst ys)]) else .bad) Q := o
        split at o
        · rename_i hn; exact ⟨ys, h2, rfl, hn, o⟩
        · exact False.elim o
      | exc e z => exact (lcL_exc q).elim
      | bad => rw [q] at o; exact False.elim o
    · exact False.elim o
  · rw [q] at o; exact o
  · rw [q] at o; exact o
theorem fin_lst {σ : St} {H0 H1 H : Hp} {G0 G1 G : Gh} {D : Addr} {ys : List T} {vs : List V} {h2 : Hm} {Q : VK} (st : Step H0 G0 H1 G1) (hD : H1 D = none) (st2 : Step H1 G1 H G) (off : Off H G D) (e : H D = some (.lst vs)) (rt : RelTs C.S H G ys vs) (rp : RepH C.S H G h2) (o : Out C σ H0 G0 (relE C) (.ok (.lst ys) h2) Q) : Q (.ref D) H := by
  have s3 := fz_step hD st2
  exact o (.ref D) H (G.fz D) (st.trans s3) (rp.fzOff off) (.lst (.inl ⟨.inl rfl, .inl e⟩) (RelTs.gmono (G := G) (G' := G.fz D) (fun _ _ z => z) (fun _ z => Or.inr z) rt))
theorem fin_lstM {σ : St} {H0 H1 H : Hp} {G0 G1 G : Gh} {D : Addr} {ys : List T} {vs : List V} {h2 : Hm} {Q : VK} (st : Step H0 G0 H1 G1) (hD : H1 D = none) (st2 : Step H1 G1 H G) (off : Off H G D) (e : H D = some (.lst vs)) (rt : RelTs C.S H G ys vs) (rp : RepH C.S H G h2) (hn : T.noRefs ys = true) (o : Out C σ H0 G0 (relE C) (.ok (.ref h2.length) (h2 ++ [some (.lst ys)])) Q) : Q (.ref D) H := by
  have s3 := ad_step hD st2
  refine o (.ref D) H (G.ad D) (st.trans s3) (rp.adOff off e rt hn) (.ref ?_)
  show (G.mu ++ [D])[h2.length]? = some D
  rw [rp.len, List.getElem?_append_right (Nat.le_refl _)]
  simp
section
variable {elt tg iter : Expr} {ifs : List Expr} {scope : Scope} {own : List (Str × Nat)} {ri : AT} {g : GT} {tgv : TG} {tt : BT} {te : ET}
theorem je_lc (ok : C.Ok) (ji : JI C tg iter ri) (bk : BlkOk C.X.N C.X.env.scope scope own) (sim : SimG C.S C.X.K (own.map (·.2)) g tgv)
    (hg : ∀ (s : Shared) (H : Hp) (Ce : Addr) (cl : List (Str × Addr)) (fp : List Addr), PG (blkR C s H scope Ce cl fp).X tg tgv) (ht : ∀ (s : Shared) (H : Hp) (Ce : Addr) (cl : List (Str × Addr)) (fp : List Addr), JTs (blkR C s H scope Ce cl fp) ifs tt)
    (he : ∀ (s : Shared) (H : Hp) (Ce : Addr) (cl : List (Str × Addr)) (fp : List Addr), JE (blkR C s H scope Ce cl fp) elt te) (hs : ∀ x, foldedSetIterable iter C.X.env x = pure x := by intro _; rfl) :
    JE C (.ListComp elt [⟨tg, iter, ifs, 0⟩] scope pos) (eLc (own.map (·.2)) ri g tt te) := by
  refine ⟨fun pins s σ H Q I hw => ?_⟩
  obtain ⟨a, G, h, rp, rs, o⟩ := hw
  let Cb : RC := ⟨C.X, C.S, fun _ _ _ _ => False, C.k⟩
  obtain ⟨o1, o2, o3⟩ := lc_out o
  exact (pe_lc (wi := liI C ri) (g := tgv) (tt := liB Cb tt) (te := liE Cb te) ok.calm ok.nd ji bk hg ht he hs).run pins s σ H Q I
    (lc_lift (Cb := Cb) rfl rfl sim rp rs (fun ys h2 => Out C σ H G (relE C) (.ok (.lst ys) h2) Q) o1 (fun D H1 H2 G1 G2 ys vs h2 st hD st2 off e rt rp2 ho => fin_lst st hD st2 off e rt rp2 ho) o2 o3)
theorem je_lcM (ok : C.Ok) (ji : JI C tg iter ri) (bk : BlkOk C.X.N C.X.env.scope scope own) (sim : SimG C.S C.X.K (own.map (·.2)) g tgv)
    (hg : ∀ (s : Shared) (H : Hp) (Ce : Addr) (cl : List (Str × Addr)) (fp : List Addr), PG (blkR C s H scope Ce cl fp).X tg tgv) (ht : ∀ (s : Shared) (H : Hp) (Ce : Addr) (cl : List (Str × Addr)) (fp : List Addr), JTs (blkR C s H scope Ce cl fp) ifs tt)
    (he : ∀ (s : Shared) (H : Hp) (Ce : Addr) (cl : List (Str × Addr)) (fp : List Addr), JE (blkR C s H scope Ce cl fp) elt te) (hs : ∀ x, foldedSetIterable iter C.X.env x = pure x := by intro _; rfl) :
    JE C (.ListComp elt [⟨tg, iter, ifs, 0⟩] scope pos) (eLcM (own.map (·.2)) ri g tt te) := by
  refine ⟨fun pins s σ H Q I hw => ?_⟩
  obtain ⟨a, G, h, rp, rs, o⟩ := hw
  let Cb : RC := ⟨C.X, C.S, fun _ _ _ _ => False, C.k⟩
  obtain ⟨o1, o2, o3⟩ := lc_outM o
  exact (pe_lc (wi := liI C ri) (g := tgv) (tt := liB Cb tt) (te := liE Cb te) ok.calm ok.nd ji bk hg ht he hs).run pins s σ H Q I
    (lc_lift (Cb := Cb) rfl rfl sim rp rs (fun ys h2 => T.noRefs ys = true ∧ Out C σ H G (relE C) (.ok (.ref h2.length) (h2 ++ [some (.lst ys)])) Q) o1 (fun D H1 H2 G1 G2 ys vs h2 st hD st2 off e rt rp2 ho => fin_lstM st hD st2 off e rt rp2 ho.1 ho.2) o2 o3)
/-- name = [..] on one line -/
theorem js_setLc (ok : C.Ok) {i : Nat} {y : Str} {py spos : Pos} (hy : C.X.N[i]? = some y) (hyl : C.X.env.scope.names.lookup y = some .local)
    (hsw : swapsWith (.ListComp elt [⟨tg, iter, ifs, 0⟩] scope pos) (some (.Name y py)) spos.line C.X.env = pure true) (ji : JI C tg iter ri) (bk : BlkOk C.X.N C.X.env.scope scope own) (sim : SimG C.S C.X.K (own.map (·.2)) g tgv)
    (hg : ∀ (s : Shared) (H : Hp) (Ce : Addr) (cl : List (Str × Addr)) (fp : List Addr), PG (blkR C s H scope Ce cl fp).X tg tgv) (ht : ∀ (s : Shared) (H : Hp) (Ce : Addr) (cl : List (Str × Addr)) (fp : List Addr), JTs (blkR C s H scope Ce cl fp) ifs tt)
    (he : ∀ (s : Shared) (H : Hp) (Ce : Addr) (cl : List (Str × Addr)) (fp : List Addr), JE (blkR C s H scope Ce cl fp) elt te) (hs : ∀ x, foldedSetIterable iter C.X.env x = pure x := by intro _; rfl) :
    JS C (.Assign [.Name y py] (.ListComp elt [⟨tg, iter, ifs, 0⟩] scope pos) spos) (sSet i (eLc (own.map (·.2)) ri g tt te)) := by
  refine ⟨fun pins s σ H D I hw => ?_⟩
  obtain ⟨a, G, h, rp, rs, o⟩ := hw
  let Cb : RC := ⟨C.X, C.S, fun _ _ _ _ => False, C.k⟩
  obtain ⟨o1, o2, o3⟩ := lc_out (OutS.bind (Rel := relE C) (σ := σ) rs o)
  refine (ps_setLc (wi := liI C ri) (g := tgv) (tt := liB Cb tt) (te := liE Cb te) ok.calm ok.nd hy hyl hsw ji bk hg ht he hs).run pins s σ H D I ?_
  refine lc_lift (Cb := Cb) rfl rfl sim rp rs _ o1 (fun L H1 H2 G1 G2 ys vs h2 st hD st2 off e rt rp2 ho => ?_) o2 o3
  obtain ⟨t, G3, h3, st3, rp3, rt3, o4⟩ := fin_lst (C := C) (σ := σ) st hD st2 off e rt rp2 ho
  exact o4 _ H2 G3 Step.refl rp3 ((rs.step st3).set i rt3)
theorem js_setLcM (ok : C.Ok) {i : Nat} {y : Str} {py spos : Pos} (hy : C.X.N[i]? = some y) (hyl : C.X.env.scope.names.lookup y = some .local)
    (hsw : swapsWith (.ListComp elt [⟨tg, iter, ifs, 0⟩] scope pos) (some (.Name y py)) spos.line C.X.env = pure true) (ji : JI C tg iter ri) (bk : BlkOk C.X.N C.X.env.scope scope own) (sim : SimG C.S C.X.K (own.map (·.2)) g tgv)
    (hg : ∀ (s : Shared) (H : Hp) (Ce : Addr) (cl : List (Str × Addr)) (fp : List Addr), PG (blkR C s H scope Ce cl fp).X tg tgv) (ht : ∀ (s : Shared) (H : Hp) (Ce : Addr) (cl : List (Str × Addr)) (fp : List Addr), JTs (blkR C s H scope Ce cl fp) ifs tt)
    (he : ∀ (s : Shared) (H : Hp) (Ce : Addr) (cl : List (Str × Addr)) (fp : List Addr), JE (blkR C s H scope Ce cl fp) elt te) (hs : ∀ x, foldedSetIterable iter C.X.env x = pure x := by intro _; rfl) :
    JS C (.Assign [.Name y py] (.ListComp elt [⟨tg, iter, ifs, 0⟩] scope pos) spos) (sSet i (eLcM (own.map (·.2)) ri g tt te)) := by
  refine ⟨fun pins s σ H D I hw => ?_⟩
  obtain ⟨a, G, h, rp, rs, o⟩ := hw
  let Cb : RC := ⟨C.X, C.S, fun _ _ _ _ => False, C.k⟩
  obtain ⟨o1, o2, o3⟩ := lc_outM (OutS.bind (Rel := relE C) (σ := σ) rs o)
  refine (ps_setLc (wi := liI C ri) (g := tgv) (tt := liB Cb tt) (te := liE Cb te) ok.calm ok.nd hy hyl hsw ji bk hg ht he hs).run pins s σ H D I ?_
  refine lc_lift (Cb := Cb) rfl rfl sim rp rs _ o1 (fun L H1 H2 G1 G2 ys vs h2 st hD st2 off e rt rp2 ho => ?_) o2 o3
  obtain ⟨t, G3, h3, st3, rp3, rt3, o4⟩ := fin_lstM (C := C) (σ := σ) st hD st2 off e rt rp2 ho.1 ho.2
  exact o4 _ H2 G3 Step.refl rp3 ((rs.step st3).set i rt3)
end
end
end RT
set_option Elab.async false
set_option linter.all false
set_option maxRecDepth 100000
set_option maxHeartbeats 4000000
/-! RT, part l: lists changed, slices, all, any. -/
namespace RT
open PySem PySem.Spec L2
open PyProof.Rows hiding St

section
variable {C : RC} {pos : Pos}
/-! ### xs[i] = t -/
def gSubT (ro ri : ET) : GT := fun t a h => match ro a h with
  | .ok (.ref l) h1 => (match ri a h1 with
    | .ok (.int i) h2 => (match h2[l]? with
      | some (some (.lst xs)) => (match ixN xs.length i with
        | some j => if t.noRef then .ok a (h2.set l (some (.lst (xs.set j t)))) else .bad
        | none => .bad)
      | _ => .bad)
    | _ => .bad)
  | _ => .bad
theorem jg_sub {o i : Expr} {ro ri : ET} (jo : JE C o ro) (ji : JE C i ri) (ha : ∀ v, assign (.Subscript o i pos) C.X.env v = (do
      let ov ← holding [v] (eval o C.X.env)
      let iv ← holding [v, ov] (eval i C.X.env)
      standAt pos
      holding [v, ov, iv] (setItem ov iv v)
      release [v, ov, iv] []) := by intro _; rfl) : JG C (.Subscript o i pos) (gSubT ro ri) := by
  refine ⟨fun pins s σ H v u Q I r hw => ?_⟩
  obtain ⟨t, a, G, h, rp, rs, rt, a', h', e, q⟩ := hw
  refine (pg_sub (to := liE C ro) (ti := liE C ri) jo ji set_list ha).run pins s σ H v u Q I r ?_
  unfold gSubT at e
  split at e
  · rename_i l h1 e1
    split at e
    · rename_i k h2 e2
      split at e
      · rename_i xs e3
        split at e
        · rename_i j e4
          split at e
          · rename_i hn
            cases e
            refine ⟨a, G, h, rp, rs, ?_⟩
            rw [e1]
            intro vo H1 G1 st1 rp1 ro'
            refine ⟨a, G1, h1, rp1, rs.step st1, ?_⟩
            rw [e2]
            intro vi H2 G2 st2 rp2 ri'
            cases ri'
            cases ro' with
            | ref hl =>
              have hl2 := st2.get hl
              obtain ⟨p, ob, q1, q2, q3, _, hnr⟩ := rp2.cell l _ e3
              rw [hl2] at q1; cases q1
              cases q3 with
              | lst rxs =>
                refine ⟨_, _, k, j, rfl, rfl, q2, by rw [← rxs.length]; exact e4, ?_⟩
                obtain ⟨st3, rp3⟩ := rp2.set hl2 e3 (.lst (rxs.set (rt.step (st1.trans st2)) j)) (noRefs_set hn hnr)
                exact q σ _ _ ((st1.trans st2).trans st3) rp3 (rs.step ((st1.trans st2).trans st3))
          · cases e
        · cases e
      · cases e
    · cases e
  · cases e

/-! ### slices -/
abbrev OT := StT → Hm → R (Option Int)
def JO (C : RC) (e : Option Expr) (r : OT) : Prop := PO C.X e (fun σ H Q => ∃ a G h, RepH C.S H G h ∧ RelSt C.S H G a σ ∧ Out C σ H G (fun _ _ a b => a = b) (r a h) Q)
def oNone : OT := fun _ h => .ok none h
def oSome (r : ET) : OT := fun a h => (r a h).bind fun t h1 => match t with
  | .int i => .ok (some i) h1
  | _ => .bad
theorem jo_none : JO C none oNone := by
  refine ⟨fun pins s σ H Q I hw => ?_⟩
  obtain ⟨a, G, h, rp, rs, o⟩ := hw
  exact po_none.run pins s σ H Q I (o none H G Step.refl rp rfl)
theorem jo_some {e : Expr} {r : ET} (j : JE C e r) : JO C (some e) (oSome r) := by
  refine ⟨fun pins s σ H Q I hw => ?_⟩
  obtain ⟨a, G, h, rp, rs, o⟩ := hw
  refine (po_some (te := liE C r) j).run pins s σ H Q I ⟨a, G, h, rp, rs, (Out.bind (Rel := relE C) o).mono fun v H1 ⟨t, G1, h1, st1, rp1, rv, o1⟩ => ?_⟩
  dsimp only at o1
  split at o1
  · rename_i i
    cases rv
    exact ⟨i, rfl, o1 _ H1 G1 Step.refl rp1 rfl⟩
  · exact False.elim o1
def cutT (xs : List T) (lo hi : Option Int) : List T := (xs.drop (HT.sIx xs.length 0 lo)).take (HT.sIx xs.length xs.length hi - HT.sIx xs.length 0 lo)
theorem RelTs.cut {S : Sta} {H : Hp} {G : Gh} {ts : List T} {vs : List V} (r : RelTs S H G ts vs) (lo hi : Option Int) : RelTs S H G (cutT ts lo hi) (cutV vs lo hi) := by
  unfold cutT cutV
  rw [r.length]
  exact (r.drop _).take _
theorem noRefs_drop : ∀ {xs : List T} (n : Nat), T.noRefs xs = true → T.noRefs (xs.drop n) = true
  | _, 0, h => h
  | [], _ + 1, h => h
  | x :: r, n + 1, h => by rw [T.noRefs] at h; exact noRefs_drop n (band h).2
theorem noRefs_take : ∀ {xs : List T} (n : Nat), T.noRefs xs = true → T.noRefs (xs.take n) = true
  | _, 0, h => by simp [T.noRefs]
  | [], _ + 1, h => h
  | x :: r, n + 1, h => by rw [T.noRefs] at h; show T.noRefs (x :: r.take n) = true; rw [T.noRefs, (band h).1, noRefs_take n (band h).2]; rfl
/-- a[lo:hi], never changed -/
def slT (x : T) (lo hi : Option Int) (h : Hm) : R T := match x with
  | .str z => if z.length ≤ sizeLine then .ok (.str (cutS z lo hi)) h else .bad
  | .tup xs => .ok (.tup (cutT xs lo hi)) h
  | x => match lstOf x h with
    | some xs => .ok (.lst (cutT xs lo hi)) h
    | none => .bad
def eSl (re : ET) (lo hi : OT) : ET := fun a h => (re a h).bind fun x h1 => (lo a h1).bind fun l h2 => (hi a h2).bind fun u h3 => slT x l u h3
theorem sl_fin (ok : C.Ok) {σ : St} {H : Hp} {G : Gh} {h : Hm} {x : T} {v : V} {l u : Option Int} {Q : VK} (rp : RepH C.S H G h) (rx : RelT C.S H G x v) (o : Out C σ H G (relE C) (slT x l u h) Q) : (rSlL C.X.K v l u H Q ∨ rSlA C.X.K v l u H Q) ∨ rSlS v l u H Q := by
  unfold slT at o
  split at o
  · rename_i z
    cases rx
    split at o
    · rename_i hz
      exact .inr ⟨z, rfl, hz, out_ok o rp (.str _)⟩
    · exact False.elim o
  · rename_i xs
    cases rx with
    | tup hz rs' =>
      have sq := hz.sq
      rw [ok.K] at sq
      refine .inl (.inr ⟨_, _, rfl, sq, fun hc => ?_, fun hc p hp => ?_⟩)
      · have e : cutT xs l u = xs := by
          unfold cutT
          rw [rs'.length, hc.1, hc.2, ← rs'.length]
          simp
        rw [e] at o
        exact out_ok o rp (.tup hz rs')
      · obtain ⟨st4, rp4⟩ := rp.newF (o := .tup (cutV _ l u)) hp
        exact o _ _ _ st4 rp4 (.tup (.inl ⟨.inl rfl, .inl upd_same⟩) ((rs'.cut l u).step st4))
  · split at o
    · rename_i xs e
      obtain ⟨a', vs, rfl, sq, rs'⟩ := lstOf_rel ok rp rx e
      refine .inl (.inl ⟨a', vs, rfl, sq, fun p hp => ?_⟩)
      obtain ⟨st4, rp4⟩ := rp.newF (o := .lst (cutV vs l u)) hp
      exact o _ _ _ st4 rp4 (.lst (.inl ⟨.inl rfl, .inl upd_same⟩) ((rs'.cut l u).step st4))
    · exact False.elim o
theorem je_sl (ok : C.Ok) {e : Expr} {re : ET} {lo hi : Option Expr} {rl ru : OT} {p2 : Pos} (j : JE C e re) (jl : JO C lo rl) (ju : JO C hi ru) : JE C (.Subscript e (.Slice lo hi none p2) pos) (eSl re rl ru) := by
  refine ⟨fun pins s σ H Q I hw => ?_⟩
  obtain ⟨a, G, h, rp, rs, o⟩ := hw
  refine (pe_slice ((SlR.or sl_list sl_tupA).or sl_str) (te := liE C re) j jl ju).run pins s σ H Q I ⟨a, G, h, rp, rs, (Out.bind (Rel := relE C) o).mono fun v H1 ⟨x, G1, h1, st1, rp1, rx, o1⟩ => ?_⟩
  refine ⟨a, G1, h1, rp1, rs.step st1, (Out.bind (Rel := fun _ _ a b => a = b) o1).mono fun l H2 ⟨l', G2, h2, st2, rp2, e2, o2⟩ => ?_⟩
  subst e2
  refine ⟨a, G2, h2, rp2, (rs.step st1).step st2, (Out.bind (Rel := fun _ _ a b => a = b) o2).mono fun u H3 ⟨u', G3, h3, st3, rp3, e3, o3⟩ => ?_⟩
  subst e3
  exact sl_fin ok rp3 ((rx.step st2).step st3) o3

/-! ### all, any -/
def allB : List T → Option Bool
  | [] => some true
  | .bl b :: r => (allB r).map (b && ·)
  | _ => none
def anyB : List T → Option Bool
  | [] => some false
  | .bl b :: r => (anyB r).map (b || ·)
  | _ => none
theorem allB_data : ∀ {ys : List T} {r : Bool}, allB ys = some r → ∃ ds, T.toDs ys = some ds ∧ ds.all PyData.truthy = r ∧ ∀ x ∈ ds, x.fits63
  | [], r, e => by rw [allB] at e; cases e; exact ⟨[], by rw [T.toDs], rfl, by simp⟩
  | .bl b :: ys, r, e => by
    rw [allB, Option.map_eq_some_iff] at e
    obtain ⟨r', e1, rfl⟩ := e
    obtain ⟨ds, h1, h2, h3⟩ := allB_data e1
    refine ⟨.bool b :: ds, by rw [T.toDs, T.toD, h1], by rw [List.all_cons, h2]; rfl, fun x hx => ?_⟩
    rcases List.mem_cons.mp hx with z | z
    · rw [z]; trivial
    · exact h3 x z
  | .non :: _, _, e => by rw [allB] at e <;> first | cases e | (intro _ _ z; cases z)
  | .int _ :: _, _, e => by rw [allB] at e <;> first | cases e | (intro _ _ z; cases z)
  | .str _ :: _, _, e => by rw [allB] at e <;> first | cases e | (intro _ _ z; cases z)
  | .tup _ :: _, _, e => by rw [allB] at e <;> first | cases e | (intro _ _ z; cases z)
  | .lst _ :: _, _, e => by rw [allB] at e <;> first | cases e | (intro _ _ z; cases z)
  | .ref _ :: _, _, e => by rw [allB] at e <;> first | cases e | (intro _ _ z; cases z)
  | .obj _ _ :: _, _, e => by rw [allB] at e <;> first | cases e | (intro _ _ z; cases z)
  | .fn _ :: _, _, e => by rw [allB] at e <;> first | cases e | (intro _ _ z; cases z)
  | .emp :: _, _, e => by rw [allB] at e <;> first | cases e | (intro _ _ z; cases z)
  | .ty _ :: _, _, e => by rw [allB] at e <;> first | cases e | (intro _ _ z; cases z)
  | .cl _ :: _, _, e => by rw [allB] at e <;> first | cases e | (intro _ _ z; cases z)
  | .exo _ _ :: _, _, e => by rw [allB] at e <;> first | cases e | (intro _ _ z; cases z)
theorem anyB_data : ∀ {ys : List T} {r : Bool}, anyB ys = some r → ∃ ds, T.toDs ys = some ds ∧ ds.any PyData.truthy = r ∧ ∀ x ∈ ds, x.fits63
  | [], r, e => by rw [anyB] at e; cases e; exact ⟨[], by rw [T.toDs], rfl, by simp⟩
  | .bl b :: ys, r, e => by
    rw [anyB, Option.map_eq_some_iff] at e
    obtain ⟨r', e1, rfl⟩ := e
    obtain ⟨ds, h1, h2, h3⟩ := anyB_data e1
    refine ⟨.bool b :: ds, by rw [T.toDs, T.toD, h1], by rw [List.any_cons, h2]; rfl, fun x hx => ?_⟩
    rcases List.mem_cons.mp hx with z | z
    · rw [z]; trivial
    · exact h3 x z
  | .non :: _, _, e => by rw [anyB] at e <;> first | cases e | (intro _ _ z; cases z)
  | .int _ :: _, _, e => by rw [anyB] at e <;> first | cases e | (intro _ _ z; cases z)
  | .str _ :: _, _, e => by rw [anyB] at e <;> first | cases e | (intro _ _ z; cases z)
  | .tup _ :: _, _, e => by rw [anyB] at e <;> first | cases e | (intro _ _ z; cases z)
  | .lst _ :: _, _, e => by rw [anyB] at e <;> first | cases e | (intro _ _ z; cases z)
  | .ref _ :: _, _, e => by rw [anyB] at e <;> first | cases e | (intro _ _ z; cases z)
  | .obj _ _ :: _, _, e => by rw [anyB] at e <;> first | cases e | (intro _ _ z; cases z)
  | .fn _ :: _, _, e => by rw [anyB] at e <;> first | cases e | (intro _ _ z; cases z)
  | .emp :: _, _, e => by rw [anyB] at e <;> first | cases e | (intro _ _ z; cases z)
  | .ty _ :: _, _, e => by rw [anyB] at e <;> first | cases e | (intro _ _ z; cases z)
  | .cl _ :: _, _, e => by rw [anyB] at e <;> first | cases e | (intro _ _ z; cases z)
  | .exo _ _ :: _, _, e => by rw [anyB] at e <;> first | cases e | (intro _ _ z; cases z)
def gAll : List T → Hm → R T := fun xs h => match xs with
  | [x] => (match (seqOf x h).bind allB with
    | some b => .ok (.bl b) h
    | none => .bad)
  | _ => .bad
def gAny : List T → Hm → R T := fun xs h => match xs with
  | [x] => (match (seqOf x h).bind anyB with
    | some b => .ok (.bl b) h
    | none => .bad)
  | _ => .bad
/-- the items as the library reads them -/
theorem items_of (ok : C.Ok) {pins : List (Addr × Obj)} {s : Shared} {σ : St} {H : Hp} {G : Gh} {h : Hm} (I : Inv C.X pins σ H s) (rp : RepH C.S H G h) {x : T} {v : V} (rx : RelT C.S H G x v) {ys : List T} (e : seqOf x h = some ys) {ds : List PyData} (ed : T.toDs ys = some ds) :
    ∃ (a : Addr) (its : List Value) (as : List Addr), v = .ref a ∧ ReadsAll s.heap its.toArray.toList ds as ∧ PyData.plainAll ds = true ∧ (s.heap.IsList a its.toArray ∨ s.heap.IsTuple a its.toArray) := by
  obtain ⟨a, vs, rfl, sq, rs⟩ := seqOf_rel ok rp rx e
  rcases sq with sq | sq
  · obtain ⟨its, rv, p, _⟩ := I.list sq
    obtain ⟨as, q⟩ := readsAll_of ok.K I rs rv ed
    exact ⟨a, its, as, rfl, by simpa using q, (plain_toDs ed).1, .inl p.isList⟩
  · obtain ⟨its, rv, p, _⟩ := I.tuple sq
    obtain ⟨as, q⟩ := readsAll_of ok.K I rs rv ed
    exact ⟨a, its, as, rfl, by simpa using q, (plain_toDs ed).1, .inr p⟩
theorem ca_all (ok : C.Ok) : CaT C (.builtin "all") gAll := by
  intro pins s σ H G h xs vs us Q I rp rx vu o
  unfold gAll at o
  split at o
  · split at o
    · rename_i x b e
      obtain ⟨v, rfl, rv⟩ := rx.one
      obtain ⟨u, rfl, r1⟩ := vals1 vu
      rw [Option.bind_eq_some_iff] at e
      obtain ⟨ys, e1, e2⟩ := e
      obtain ⟨ds, h1, h2, h3⟩ := allB_data e2
      obtain ⟨a, its, as, rfl, q1, q2, q3⟩ := items_of ok I rp rv e1 h1
      cases r1
      have fin : ∀ h' tk, (∀ b o, s.heap.get? b = some o → h'.get? b = some o) → EP C.X pins σ Q (.bool (ds.all PyData.truthy)) { s with heap := h', toks := tk } := fun h' tk kk => by
        rw [h2]
        exact ⟨.bl b, H, kept_of I kk, rfl, out_ok o rp (.bl b)⟩
      rcases q3 with q3 | q3
      · exact PySem.W.all_list_data ok.room.hd q3 q1 q2 h3 fin
      · exact PySem.W.all_tuple_data ok.room.hd q3 q1 q2 h3 fin
    · exact False.elim o
  · exact False.elim o
theorem ca_any (ok : C.Ok) : CaT C (.builtin "any") gAny := by
  intro pins s σ H G h xs vs us Q I rp rx vu o
  unfold gAny at o
  split at o
  · split at o
    · rename_i x b e
      obtain ⟨v, rfl, rv⟩ := rx.one
      obtain ⟨u, rfl, r1⟩ := vals1 vu
      rw [Option.bind_eq_some_iff] at e
      obtain ⟨ys, e1, e2⟩ := e
      obtain ⟨ds, h1, h2, h3⟩ := anyB_data e2
      obtain ⟨a, its, as, rfl, q1, q2, q3⟩ := items_of ok I rp rv e1 h1
      cases r1
      have fin : ∀ h' tk, (∀ b o, s.heap.get? b = some o → h'.get? b = some o) → EP C.X pins σ Q (.bool (ds.any PyData.truthy)) { s with heap := h', toks := tk } := fun h' tk kk => by
        rw [h2]
        exact ⟨.bl b, H, kept_of I kk, rfl, out_ok o rp (.bl b)⟩
      rcases q3 with q3 | q3
      · exact PySem.W.any_list_data ok.room.hd q3 q1 q2 h3 fin
      · exact PySem.W.any_tuple_data ok.room.hd q3 q1 q2 h3 fin
    · exact False.elim o
  · exact False.elim o

end
end RT
set_option Elab.async false
set_option linter.all false
set_option maxRecDepth 100000
set_option maxHeartbeats 4000000
/-! RT, part m: facts of the written part, contexts by facts, the law's end. -/
namespace RT
open PySem PySem.Spec L2
open PyProof.Rows hiding St

/-! ### the Hook: a check of the written part, the defs -/
abbrev Chk := PySem.W.Frag → Bool
def obsR (c : Chk) (fn : List He.DefD) (K : PySem.W.Frag) : He.AlD := (c K && fn.all fun d => d.ok K, fn.map fun d => He.fnW K d.at_)
def SaysR (c : Chk) (fn : List He.DefD) (K : PySem.W.Frag) : Prop := obsR c fn K = He.valD fn
def obsRG (n : Nat) (c : Chk) (fn : List He.DefD) (g : Addr → Option Obj) : He.AlD := obsR c fn (He.frG g (He.asD g n))
def hookR (n : Nat) (c : Chk) (fn : List He.DefD) : PySem.W.Hook where
  α := He.AlD
  obs := fun s => obsRG n c fn s.heap.get?
  val := fun _ => He.valD fn
  says := fun _ h => ∃ K : PySem.W.Frag, K.In h ∧ SaysR c fn K
  of := fun _ _ e => ⟨_, He.frG_in, e⟩
  keeps := fun _ _ _ ⟨K, hK, q⟩ k => ⟨K, PySem.W.Frag.In.keeps hK k, q⟩
theorem obsRG_eq {n : Nat} {c : Chk} {fn : List He.DefD} {g : Addr → Option Obj} {s : Shared} (h : ∀ a, g a = s.heap.get? a) : obsRG n c fn g = (hookR n c fn).obs s := by
  have e : g = s.heap.get? := funext h
  rw [e] <;> rfl
section
variable {c : Chk} {fn : List He.DefD} {K : PySem.W.Frag}
theorem SaysR.chk (q : SaysR c fn K) : c K = true := (band (show (c K && fn.all fun d => d.ok K) = true from congrArg (fun z : He.AlD => z.1) q)).1
theorem SaysR.def_ (q : SaysR c fn K) (i : Nat) {d : He.DefD} (h : fn[i]? = some d := by rfl) : ∃ fd, FunD K d.name d.qual d.params d.body d.scope (d.dvs K) (d.kws K) (He.fAd K d.at_) fd := by
  have c2 := (band (show (c K && fn.all fun d => d.ok K) = true from congrArg (fun z : He.AlD => z.1) q)).2
  have e : fn.map (fun d => He.fnW K d.at_) = fn.map He.DefD.val := congrArg (fun z : He.AlD => z.2) q
  have e2 : (fn.map fun d => He.fnW K d.at_)[i]? = (fn.map He.DefD.val)[i]? := by rw [e]
  rw [List.getElem?_map, List.getElem?_map, h] at e2
  exact He.DefD.funD (Option.some.inj e2) (List.all_eq_true.mp c2 d (List.mem_of_getElem? h))
end

/-! ### what is fixed, from names -/
def mkSta (K : PySem.W.Frag) (cn fl gn : List Str) (hf : fl.Nodup) (hc : (cn.map (He.ga K)).Nodup) : Sta where
  K := K
  cls := fun i => (cn.map (He.ga K)).getD i 0
  fld := fun i => fl.getD i Str.empty
  nf := fl.length
  inj := fun i j hi hj e => by
    rw [List.getD_eq_getElem?_getD, List.getD_eq_getElem?_getD, List.getElem?_eq_getElem hi, List.getElem?_eq_getElem hj] at e
    exact (List.getElem_inj hf).mp e
  gl := fun i => (gn.map (He.ga K)).getD i 0
  nc := cn.length
  cinj := fun i j hi hj e => by
    have hi' : i < (cn.map (He.ga K)).length := by simpa using hi
    have hj' : j < (cn.map (He.ga K)).length := by simpa using hj
    rw [List.getD_eq_getElem?_getD, List.getD_eq_getElem?_getD, List.getElem?_eq_getElem hi', List.getElem?_eq_getElem hj'] at e
    exact (List.getElem_inj hc).mp e

/-! ### contexts, by facts -/
structure Cf (C : RC) (P : Program) (w : World) (S : Sta) (mg : Str → Option Value) (base : Heap) (N : List Str) (sc : Scope) (k : Nat) : Prop where
  ok : C.Ok
  prog : C.X.prog = P
  w : C.X.w = w
  S : C.S = S
  mg : C.X.mg = mg
  base : C.X.base = base
  N : C.X.N = N
  sc : C.X.env.scope = sc
  k : C.k = k
theorem Cf.K {C : RC} {P : Program} {w : World} {S : Sta} {mg : Str → Option Value} {base : Heap} {N : List Str} {sc : Scope} {k : Nat} (cf : Cf C P w S mg base N sc k) : C.X.K = S.K := by rw [← cf.ok.K, cf.S]
def visB (sc : Scope) (x : Str) : Bool := match sc.names.lookup x with
  | some .local => true
  | some .cell => true
  | some .free => true
  | _ => false
def locB (sc : Scope) (x : Str) : Bool := match sc.names.lookup x with
  | some .local => true
  | some .cell => true
  | _ => false
def loB (sc : Scope) (x : Str) : Bool := match sc.names.lookup x with
  | some .local => true
  | _ => false
def glB (sc : Scope) (x : Str) : Bool := match sc.names.lookup x with
  | some .globalImplicit => true
  | _ => false
theorem visB_ok {sc : Scope} {x : Str} (h : visB sc x = true) : Vis sc x := by
  unfold visB at h
  unfold Vis
  split at h
  · rename_i e; exact .inl e
  · rename_i e; exact .inr (.inl e)
  · rename_i e; exact .inr (.inr e)
  · cases h
theorem locB_ok {sc : Scope} {x : Str} (h : locB sc x = true) : L2.Loc sc x := by
  unfold locB at h
  show L2.Loc sc x
  unfold L2.Loc
  split at h
  · rename_i e; exact .inl e
  · rename_i e; exact .inr e
  · cases h
theorem loB_ok {sc : Scope} {x : Str} (h : loB sc x = true) : sc.names.lookup x = some .local := by
  unfold loB at h
  split at h
  · rename_i e; exact e
  · cases h
theorem glB_ok {sc : Scope} {x : Str} (h : glB sc x = true) : sc.names.lookup x = some .globalImplicit := by
  unfold glB at h
  split at h
  · rename_i e; exact e
  · cases h
section
variable {C : RC} {P : Program} {w : World} {S : Sta} {mg : Str → Option Value} {base : Heap} {N : List Str} {sc : Scope} {k : Nat} {pos : Pos}
theorem Cf.gl (cf : Cf C P w S mg base N sc k) {x : Str} (h : glB sc x = true) : Gl C.X x := by
  show C.X.env.scope.names.lookup x = _
  rw [cf.sc]
  exact glB_ok h
theorem Cf.mgE (cf : Cf C P w S mg base N sc k) {x : Str} {v : Option Value} (h : mg x = v) : C.X.mg x = v := by rw [cf.mg]; exact h
theorem Cf.loc (cf : Cf C P w S mg base N sc k) {x : Str} (h : locB sc x = true) : L2.Loc C.X.env.scope x := by rw [cf.sc]; exact locB_ok h
theorem Cf.lo (cf : Cf C P w S mg base N sc k) {x : Str} (h : loB sc x = true) : C.X.env.scope.names.lookup x = some .local := by rw [cf.sc]; exact loB_ok h
theorem Cf.at_ (cf : Cf C P w S mg base N sc k) {x : Str} {i : Nat} (h : N[i]? = some x) : C.X.N[i]? = some x := by rw [cf.N]; exact h
theorem Cf.blk (cf : Cf C P w S mg base N sc k) {s : Shared} {H : Hp} {scope : Scope} {Ce : Addr} {cl : List (Str × Addr)} {fp : List Addr} : Cf (blkR C s H scope Ce cl fp) P w S mg base N (relS scope sc) k :=
  ⟨cf.ok.blk, cf.prog, cf.w, cf.S, cf.mg, cf.base, cf.N, by
    show relS scope C.X.env.scope = _
    rw [cf.sc], cf.k⟩
theorem Cf.envE (cf : Cf C P w S mg base N sc k) : C.X.env = { C.X.env with scope := sc } := by rw [← cf.sc]
/-- a name -/
theorem v_ (cf : Cf C P w S mg base N sc k) {x : Str} (i : Nat) (hN : N[i]? = some x := by rfl) (hv : visB sc x = true := by rfl) (hd : (x == ("__debug__" : Str)) = false := by decide) (hcd : (x == ("__classdict__" : Str)) = false := by decide) : JE C (.Name x pos) (eVar i) :=
  je_var cf.ok (cf.at_ hN) (by rw [cf.sc]; exact visB_ok hv) hd hcd
theorem set_ (cf : Cf C P w S mg base N sc k) {x : Str} {e : Expr} {r : ET} {pos' : Pos} (i : Nat) (j : JE C e r) (hN : N[i]? = some x := by rfl) (hl : loB sc x = true := by rfl) (hs : ∀ env : Env, swapsWith e (some (.Name x pos')) pos.line { env with scope := sc } = pure false := by intro _; rfl) : JS C (.Assign [.Name x pos'] e pos) (sSet i r) :=
  js_set cf.ok (cf.at_ hN) (.inl (cf.lo hl)) j (by rw [cf.envE]; exact hs _) (.inr (cf.lo hl))
/-- a captured name set: a cell of the def's own -/
theorem setC_ (cf : Cf C P w S mg base N sc k) (hfn : ∀ y, C.X.fn y = true) {x : Str} {e : Expr} {r : ET} {pos' : Pos} (i : Nat) (j : JE C e r) (hN : N[i]? = some x := by rfl) (hl : locB sc x = true := by rfl) (hs : ∀ env : Env, swapsWith e (some (.Name x pos')) pos.line { env with scope := sc } = pure false := by intro _; rfl) : JS C (.Assign [.Name x pos'] e pos) (sSet i r) :=
  js_set cf.ok (cf.at_ hN) (cf.loc hl) j (by rw [cf.envE]; exact hs _) (.inl (hfn x))
theorem gnm_ (cf : Cf C P w S mg base N sc k) {x : Str} (i : Nat) (hN : N[i]? = some x := by rfl) (hl : loB sc x = true := by rfl) : JG C (.Name x pos) (gNm i) :=
  jg_name cf.ok (cf.at_ hN) (.inl (cf.lo hl)) (.inr (cf.lo hl))
theorem gnmC_ (cf : Cf C P w S mg base N sc k) (hfn : ∀ y, C.X.fn y = true) {x : Str} (i : Nat) (hN : N[i]? = some x := by rfl) (hl : locB sc x = true := by rfl) : JG C (.Name x pos) (gNm i) :=
  jg_name cf.ok (cf.at_ hN) (cf.loc hl) (.inl (hfn x))
/-- targets of a comprehension -/
theorem pgn_ (cf : Cf C P w S mg base N sc k) {x : Str} (i : Nat) (hN : N[i]? = some x := by rfl) (hl : loB sc x = true := by rfl) : PG C.X (.Name x pos) (gName i) :=
  pg_name cf.ok.nd (cf.at_ hN) (.inl (cf.lo hl)) (.inr (cf.lo hl))
theorem pgnC_ (cf : Cf C P w S mg base N sc k) {x : Str} (i : Nat) (hfn : C.X.fn x = true) (hN : N[i]? = some x := by rfl) (hl : locB sc x = true := by rfl) : PG C.X (.Name x pos) (gName i) :=
  pg_name cf.ok.nd (cf.at_ hN) (cf.loc hl) (.inl hfn)
end

/-! ### a def, its promise -/
structure FnX (P : Program) (w : World) (S : Sta) (mg : Str → Option Value) (base : Heap) (k : Nat) (d : He.DefD) (ps : List Str) (g : List T → Hm → R T) : Prop where
  ex : ∃ fd, FunD S.K d.name d.qual d.params d.body d.scope (d.dvs S.K) (d.kws S.K) (He.fAd S.K d.at_) fd ∧ FnG P w S.K mg base k (He.fAd S.K d.at_) fd ps (spT S ps.length g)
section
variable {C : RC} {P : Program} {w : World} {S : Sta} {mg : Str → Option Value} {base : Heap} {N : List Str} {sc : Scope} {k j : Nat} {pos : Pos} {d : He.DefD} {ps : List Str} {g : List T → Hm → R T}
/-- positional arguments, all of them -/
theorem FnX.callP (F : FnX P w S mg base j d ps g) (cf : Cf C P w S mg base N sc k) (hj : j ≤ k) (hdv : d.dfl = [])
    (hb : ∀ (kV doc pm : Value) (an : Option Addr) (cdv ct : Value) (us : List Value), us.length = ps.length → bindArgs (PySem.W.fnOf d.name d.qual d.params d.body d.scope .none kV doc pm an cdv ct) ⟨us, []⟩ = pure (ps.zip us)) :
    CaK C (.ref (He.fAd S.K d.at_)) ps.length [] (fun xs _ h => g xs h) ∧ PySem.W.keepIn C.X.K (.ref (He.fAd S.K d.at_)) = true := by
  obtain ⟨fd, FD, FG⟩ := F.ex
  have hd0 : d.dvs S.K = [] := by unfold He.DefD.dvs; rw [hdv]; rfl
  refine ⟨?_, by rw [cf.K]; exact FD.kp⟩
  have B : Binds S.K fd ps [] := by
    rw [hd0] at FD
    exact FD.bindsN hb
  have e1 := cf.prog
  have e2 := cf.w
  have e3 := cf.S
  have e4 := cf.mg
  have e5 := cf.base
  subst e1 e2 e3 e4 e5
  exact CaK.fn cf.ok (arr := arrP) FG (BindT.pos B) (by rw [cf.k]; exact hj)
end

/-! ### the law's end -/
/-- nothing but the script is tracked -/
def Hp0 (K : PySem.W.Frag) (a : Addr) (o : Obj) (xs : List V) : Hp := fun b => if b = a ∧ K.lookup a = none then some (.frz o (.lst xs)) else none
theorem hp0_some {K : PySem.W.Frag} {a b : Addr} {o : Obj} {xs : List V} {u : HO} (h : Hp0 K a o xs b = some u) : b = a ∧ K.lookup a = none ∧ u = .frz o (.lst xs) := by
  unfold Hp0 at h
  split at h
  · rename_i q
    cases h
    exact ⟨q.1, q.2, rfl⟩
  · cases h
theorem law_go {P : Program} {w : World} {S : Sta} {mg mb : Str → Option Value} {k : Nat} {fa a : Addr} {fd : FuncData} {x : Str} {g : List T → Hm → R T} {st : Shared} {us : List Value} {ns : List Int} {hE : Hm}
    (hT0 : S.T = []) (kin : S.K.In st.heap) (glob : st.heap.Ns mainGlobals mg) (blt : st.heap.Ns builtinsNs mb) (bltE : ∀ y : Str, y ≠ "__name__" → mb y = bootBuiltins y) (nolim : st.heap.NoLimit) (nogen : st.gens = #[])
    (script : st.heap.get? a = some { cls := .type "list", data := .seq us.toArray }) (aints : IntsAre us ns) (fits :  ns.length ≤ sizeLine) (room : Room k callerA) (gd : callerA.guards = some [])
    (F : ∀ b : Heap, S.K.In b → b.Ns mainGlobals mg → FnG P w S.K mg b k fa fd [x] (spT S 1 g)) (bind : ∀ (s : Shared) (u : Value), BindsTo s fd ⟨[u], []⟩ [(x, u)]) (law : g [.lst (ns.map T.int)] [] = .ok (.bl true) hE) :
    codeAny (model P w) callerA (.call (.ref fa) ⟨[.ref a], []⟩) (fun r s' => r = .ok (.ret (.bool true)) ∧ OldK st.heap s'.heap ∧ s'.os = st.os ∧ AllBare s'.gens) st := by
  have vals := vals_ints aints
  have len := aints.length
  generalize hoE : ({ cls := .type "list", data := .seq us.toArray } : Obj) = ob at script
  have hod : ob.data = .seq us.toArray 0 ∧ ob.cls = .type "list" ∧ ob.dict = none := by rw [← hoE]; exact ⟨rfl, rfl, rfl⟩
  have hH : ∃ H : Hp, H = Hp0 S.K a ob (ns.map V.int) := ⟨_, rfl⟩
  obtain ⟨H, eH⟩ := hH
  have only : ∀ {b : Addr} {u : HO}, H b = some u → b = a ∧ S.K.lookup a = none ∧ u = .frz ob (.lst (ns.map V.int)) := fun {b u} q => by rw [eH] at q; exact hp0_some q
  have hok : HOk P w H st.heap := fun b u q => by
    obtain ⟨rfl, _, rfl⟩ := only q
    refine ⟨script, by rw [List.length_map]; exact fits, us, 0, vals, ?_⟩
    rw [script, ← hoE]
  have apart : ∀ {b : Addr} {o : Obj} {es : Array DictEntry} {ep : Nat}, st.heap.get? b = some o → o.data = .dict es ep → H b = none := fun {b o es ep} e dd => by
    cases q : H b with
    | none => rfl
    | some u =>
      obtain ⟨rfl, _, _⟩ := only q
      rw [script] at e
      cases e
      rw [hod.1] at dd
      cases dd
  have ns_kept : ∀ {b : Addr} {m : Str → Option Value}, st.heap.Ns b m → (hidT st.heap H).Ns b m := fun {b m} z => by
    obtain ⟨o, es, ep, e, dd, r⟩ := z
    exact ⟨o, es, ep, hidT_get e (apart e dd), dd, r⟩
  have k_kept : S.K.In (hidT st.heap H) := fun b o e => hidT_get (kin b o e) (by
    cases q : H b with
    | none => rfl
    | some u =>
      obtain ⟨rfl, z, _⟩ := only q
      rw [z] at e
      cases e)
  obtain ⟨mc, nl1, nl2⟩ := nolim
  have env : Env0 P w S.K mg (hidT st.heap H) callerA [] st H :=
    { frames := rfl, mod := ⟨k_kept, ns_kept glob, ⟨mb, ns_kept blt, bltE⟩, ⟨mc, ns_kept nl1, nl2⟩⟩, bs := fun b o e => of_hidT e, bsz := Nat.le_of_eq (hidT_size _ _), funs := trivial, frf := fun b hb => absurd hb (List.not_mem_nil), hok := hok, bare := .of_eq nogen }
  have lies : RelT S H ⟨[], fun b => H b ≠ none⟩ (.lst (ns.map T.int)) (.ref a) := by
    refine .lst (vs := ns.map V.int) ?_ (RelTs.ints ns)
    cases q : S.K.lookup a with
    | none =>
      have e : H a = some (.frz ob (.lst (ns.map V.int))) := by rw [eH]; exact if_pos ⟨rfl, q⟩
      exact .inl ⟨by show H a ≠ none; rw [e]; simp, .inr ⟨ob, e⟩⟩
    | some o =>
      have e := kin a o q
      rw [script] at e
      cases e
      exact .inr ⟨us, 0, by rw [q, ← hoE], by rw [len]; exact fits, vals⟩
  have rep : RepH S H ⟨[], fun b => H b ≠ none⟩ [] := ⟨rfl, fun l c e => by simp at e, List.nodup_nil, fun b q => q.elim (fun z => absurd z List.not_mem_nil) fun z => z, fun p hp => absurd (hT0 ▸ hp) List.not_mem_nil⟩
  have promise : spT S 1 g [.ref a] H (fun v _ => v = .bl true) (fun _ _ _ => False) := ⟨[.lst (ns.map T.int)], _, [], rep, .cons lies .nil, rfl, by
    rw [law]
    intro v H' G' _ _ rv
    cases rv
    rfl⟩
  refine codeAny_mono ((F _ k_kept (ns_kept glob)).run callerA [] st H ⟨[.ref a], []⟩ [.ref a] [.ref a] _ _ room (.of gd) env (bind st (.ref a)) (.cons rfl .nil) promise) fun r s' z => ?_
  cases r with
  | error e =>
    obtain ⟨_, _, _, _, _, _, _, _, _, _, _, _, bad⟩ := z
    exact bad.elim
  | ok fl =>
    cases fl with
    | ret u =>
      obtain ⟨v, H', os, bare, un, hok', rv, q⟩ := z
      have q : v = .bl true := q
      subst q
      cases (show u = Value.bool true from rv)
      refine ⟨rfl, OldK.of_keep fun b o e => ?_, os, bare⟩
      cases hb : H b with
      | none => exact un.keep b o e hb List.not_mem_nil List.not_mem_nil
      | some u =>
        obtain ⟨_, _, rfl⟩ := only hb
        have a1 := (hok b _ hb).1
        have a2 := (hok' b _ (un.frzs b ob _ hb)).1
        rw [e] at a1
        cases a1
        exact a2
    | next => exact False.elim z
    | brk => exact False.elim z
    | cont => exact False.elim z
theorem walk_go {l : PySem.W.OpenLaw} {n k : Nat} {q : Program} {loose : List Str} {XP : (Str → Option Value) → Heap → Prop} {YP : World → Heap → Prop} {d : DefRec} {x : Str} {g : List T → Hm → R T}
    (hn : l.most = some n) (hn2 : n ≤ sizeLine) (hdf : d.params.defaults = []) (hr : Room k callerA) (gd : callerA.guards = some [])
    (F : ∀ (w : World) (mg : Str → Option Value) (fa : Addr) (h : Heap), YP w h → h.Ns mainGlobals mg → mg d.name = some (.ref fa) →
      ∃ (S : Sta) (fd : FuncData), S.T = [] ∧ S.K.In h ∧ (∀ (s : Shared) (u : Value), BindsTo s fd ⟨[u], []⟩ [(x, u)]) ∧
        ∀ b : Heap, S.K.In b → b.Ns mainGlobals mg → FnG l.prog w S.K mg b k fa fd [x] (spT S 1 g))
    (law : ∀ ns : List Int, ns.length ≤ n → (∀ z ∈ ns, Builtin.Int.intBits z ≤ 1048576) → ∃ hE, g [.lst (ns.map T.int)] [] = .ok (.bl true) hE) : PySem.W.WalkO q loose XP YP l.row.toRowW d [] (fun f vs => PySem.call f vs) := by
  refine Att.attach_callB hn hdf fun w s0 st mg mb fa o pm cd doc a us ns G Y ho hd hcd hmg hobj hints hlen hbits hg => ?_
  obtain ⟨S, fd, hT0, kin, hb, hF⟩ := F w mg fa _ Y G.T.g hmg
  obtain ⟨hE, e⟩ := law ns hlen hbits
  exact law_go hT0 kin G.T.g G.T.b G.T.builtins G.T.nolimit hg hobj hints (Nat.le_trans hlen hn2) hr gd hF hb e
end RT
set_option Elab.async false
set_option linter.all false
set_option maxRecDepth 100000
set_option maxHeartbeats 4000000
/-! RT, part n: calls with defaults and keywords; small rules; rules by contexts' facts. -/
namespace RT
open PySem PySem.Spec L2
open PyProof.Rows hiding St

/-! ### arguments picked -/
/-- (0, i): the i-th positional one; (1, i): the i-th keyword's; (2, i): the i-th default -/
def ocn {A : Type} (o : Option A) (r : List A) : List A := match o with
  | some a => a :: r
  | none => r
def pick {A : Type} : List (Nat × Nat) → List A → List A → List A → List A
  | [], _, _, _ => []
  | (0, i) :: r, us, its, ws => ocn us[i]? (pick r us its ws)
  | (1, i) :: r, us, its, ws => ocn ws[i]? (pick r us its ws)
  | (_ + 2, i) :: r, us, its, ws => ocn its[i]? (pick r us its ws)
def pickOk (n m j : Nat) : List (Nat × Nat) → Bool
  | [] => true
  | (0, i) :: r => decide (i < n) && pickOk n m j r
  | (1, i) :: r => decide (i < m) && pickOk n m j r
  | (_ + 2, i) :: r => decide (i < j) && pickOk n m j r
theorem pick_rel {A B : Type} {Rl : List A → List B → Prop} (nil : Rl [] []) (Re : A → B → Prop) (cons : ∀ {a b as bs}, Re a b → Rl as bs → Rl (a :: as) (b :: bs)) (at_ : ∀ {as bs}, Rl as bs → ∀ i : Nat, (as[i]? = none ∧ bs[i]? = none) ∨ ∃ a b, as[i]? = some a ∧ bs[i]? = some b ∧ Re a b)
    {u1 i1 w1 : List A} {u2 i2 w2 : List B} (hu : Rl u1 u2) (hi : Rl i1 i2) (hw : Rl w1 w2) : ∀ src : List (Nat × Nat), Rl (pick src u1 i1 w1) (pick src u2 i2 w2)
  | [] => nil
  | (c, i) :: r => by
    have ih := pick_rel nil Re cons at_ hu hi hw r
    have go : ∀ {as : List A} {bs : List B}, Rl as bs → Rl (ocn as[i]? (pick r u1 i1 w1)) (ocn bs[i]? (pick r u2 i2 w2)) := fun {as bs} h => by
      rcases at_ h i with ⟨e1, e2⟩ | ⟨a, b, e1, e2, e⟩
      · rw [e1, e2]; exact ih
      · rw [e1, e2]; exact cons e ih
    match c with
    | 0 => rw [pick, pick]; exact go hu
    | 1 => rw [pick, pick]; exact go hw
    | _ + 2 => rw [pick, pick]; exact go hi
theorem vals_at {xs : List V} {us : List Value} (h : Vals xs us) (i : Nat) : (xs[i]? = none ∧ us[i]? = none) ∨ ∃ a b, xs[i]? = some a ∧ us[i]? = some b ∧ RelV a b := by
  cases e : xs[i]? with
  | none =>
    refine .inl ⟨rfl, ?_⟩
    rw [List.getElem?_eq_none_iff] at e ⊢
    rw [← h.length]
    exact e
  | some a =>
    obtain ⟨u, e2, r⟩ := h.get e
    exact .inr ⟨a, u, rfl, e2, r⟩
theorem relTs_at {S : Sta} {H : Hp} {G : Gh} {xs : List T} {us : List V} (h : RelTs S H G xs us) (i : Nat) : (xs[i]? = none ∧ us[i]? = none) ∨ ∃ a b, xs[i]? = some a ∧ us[i]? = some b ∧ RelT S H G a b := by
  cases e : xs[i]? with
  | none =>
    refine .inl ⟨rfl, ?_⟩
    rw [List.getElem?_eq_none_iff] at e ⊢
    rw [← h.length]
    exact e
  | some a =>
    obtain ⟨u, e2, r⟩ := h.get e
    exact .inr ⟨a, u, rfl, e2, r⟩
theorem pick_len {A : Type} {us its ws : List A} : ∀ {src : List (Nat × Nat)}, pickOk us.length ws.length its.length src = true → (pick src us its ws).length = src.length
  | [], _ => by rw [pick]; rfl
  | (c, i) :: r, h => by
    match c, h with
    | 0, h =>
      rw [pickOk] at h
      obtain ⟨h1, h2⟩ := band h
      rw [pick, List.getElem?_eq_getElem (of_decide_eq_true h1)]
      show (pick r us its ws).length + 1 = r.length + 1
      rw [pick_len h2]
    | 1, h =>
      rw [pickOk] at h
      obtain ⟨h1, h2⟩ := band h
      rw [pick, List.getElem?_eq_getElem (of_decide_eq_true h1)]
      show (pick r us its ws).length + 1 = r.length + 1
      rw [pick_len h2]
    | _ + 2, h =>
      rw [pickOk] at h
      obtain ⟨h1, h2⟩ := band h
      rw [pick, List.getElem?_eq_getElem (of_decide_eq_true h1)]
      show (pick r us its ws).length + 1 = r.length + 1
      rw [pick_len h2]
def arrS (src : List (Nat × Nat)) (ds xs zs : List T) : List T := pick src xs ds zs
section
variable {K : PySem.W.Frag} {x qual : Str} {params : Arguments} {body : List Stmt} {scope : Scope} {dvs : List V} {f : Addr} {fd : FuncData} {ps : List Str}
theorem bind0 (F : FunD K x qual params body scope [] [] f fd) (n : Nat) (ks : List Str) (src : List (Nat × Nat))
    (h : ∀ (kV doc pm : Value) (an : Option Addr) (cdv ct : Value) (us ws : List Value), us.length = n → ws.length = ks.length → bindArgs (PySem.W.fnOf x qual params body scope .none kV doc pm an cdv ct) ⟨us, ks.zip ws⟩ = pure (ps.zip (pick src us [] ws))) :
    KBn K fd ps n ks (fun us ws => pick src us [] ws) (fun vs zs => pick src vs [] zs) := by
  obtain ⟨oc, od, dV, kV, doc, pm, an, cdv, ct, osl, rfl, lk, hcd, hD, hK⟩ := F.ex
  rcases hD with ⟨_, rfl⟩ | ⟨e, _⟩
  · exact ⟨fun s us ws X l1 l2 => .of_eq (h kV doc pm an cdv ct us ws l1 l2), fun r1 r2 => pick_rel (Rl := Vals) .nil RelV (fun a b => .cons a b) vals_at r1 .nil r2 src⟩
  · exact absurd rfl e
theorem bindD (F : FunD K x qual params body scope dvs [] f fd) (n : Nat) (ks : List Str) (src : List (Nat × Nat)) (hd : dvs ≠ [])
    (h : ∀ (T : Addr) (kV doc pm : Value) (an : Option Addr) (cdv ct : Value) (us its ws : List Value), us.length = n → its.length = dvs.length → ws.length = ks.length →
      ∃ k, bindArgs (PySem.W.fnOf x qual params body scope (.ref T) kV doc pm an cdv ct) ⟨us, ks.zip ws⟩ = seqItems? (.ref T) >>= k ∧ k (some its.toArray) = pure (ps.zip (pick src us its ws))) :
    ∃ its : List Value, KBn K fd ps n ks (fun us ws => pick src us its ws) (fun vs zs => pick src vs dvs zs) := by
  obtain ⟨oc, od, dV, kV, doc, pm, an, cdv, ct, osl, rfl, lk, hcd, hD, hK⟩ := F.ex
  rcases hD with ⟨e, _⟩ | ⟨_, T, o, its, m, rfl, lT, oT, rT⟩
  · exact absurd e hd
  · refine ⟨its, ⟨fun s us ws X l1 l2 => ?_, fun r1 r2 => pick_rel (Rl := Vals) .nil RelV (fun a b => .cons a b) vals_at r1 rT r2 src⟩⟩
    obtain ⟨k, e1, e2⟩ := h T kV doc pm an cdv ct us its ws l1 rT.length.symm l2
    refine BindsTo.of_looks fun M => ?_
    rw [e1]
    exact looks_items X lT oT (.of_pure e2)
end
section
variable {C : RC} {P : Program} {w : World} {S : Sta} {mg : Str → Option Value} {base : Heap} {N : List Str} {sc : Scope} {k j : Nat} {pos : Pos} {d : He.DefD} {ps : List Str} {g : List T → Hm → R T}
/-- how a call's arguments come to d's parameters -/
structure Bnd (d : He.DefD) (ps : List Str) (n : Nat) (ks : List Str) (src : List (Nat × Nat)) (ds : List T) : Prop where
  ok : pickOk n ks.length ds.length src = true
  len : src.length = ps.length
  kw : d.kwd = []
  ds : ∀ (S : Sta) (H : Hp) (G : Gh), RelTs S H G ds (d.dvs S.K)
  to : (d.dfl = [] ∧ ∀ (kV doc pm : Value) (an : Option Addr) (cdv ct : Value) (us ws : List Value), us.length = n → ws.length = ks.length → bindArgs (PySem.W.fnOf d.name d.qual d.params d.body d.scope .none kV doc pm an cdv ct) ⟨us, ks.zip ws⟩ = pure (ps.zip (pick src us [] ws))) ∨
    (d.dfl ≠ [] ∧ ∀ (T : Addr) (kV doc pm : Value) (an : Option Addr) (cdv ct : Value) (us its ws : List Value), us.length = n → its.length = d.dfl.length → ws.length = ks.length →
      ∃ k, bindArgs (PySem.W.fnOf d.name d.qual d.params d.body d.scope (.ref T) kV doc pm an cdv ct) ⟨us, ks.zip ws⟩ = seqItems? (.ref T) >>= k ∧ k (some its.toArray) = pure (ps.zip (pick src us its ws)))
theorem FnX.bnd {n : Nat} {ks : List Str} {src : List (Nat × Nat)} {ds : List T} (F : FnX P w S mg base j d ps g) (B : Bnd d ps n ks src ds) : ∃ fd, PySem.W.keepIn S.K (.ref (He.fAd S.K d.at_)) = true ∧ BindT S fd ps n ks (arrS src ds) ∧ FnG P w S.K mg base j (He.fAd S.K d.at_) fd ps (spT S ps.length g) := by
  obtain ⟨fd, FD, FG⟩ := F.ex
  refine ⟨fd, FD.kp, ?_, FG⟩
  have ek : d.kws S.K = [] := by unfold He.DefD.kws; rw [B.kw]; rfl
  rw [ek] at FD
  have rel : ∀ {H : Hp} {G : Gh} {ts : List T} {vs : List V} {tz : List T} {vz : List V}, RelTs S H G ts vs → RelTs S H G tz vz → RelTs S H G (arrS src ds ts tz) (pick src vs (d.dvs S.K) vz) := fun r1 r2 =>
    pick_rel (Rl := RelTs S _ _) .nil (RelT S _ _) (fun a b => .cons a b) relTs_at r1 (B.ds S _ _) r2 src
  have ld : ds.length = (d.dvs S.K).length := (B.ds S (fun _ => none) ⟨[], fun _ => False⟩).length
  have len : ∀ (vs vz : List V), vs.length = n → vz.length = ks.length → (pick src vs (d.dvs S.K) vz).length = ps.length := fun vs vz l1 l2 => by
    rw [pick_len, B.len]
    rw [l1, l2, ← ld]
    exact B.ok
  rcases B.to with ⟨e0, h⟩ | ⟨e0, h⟩
  · have ed : d.dvs S.K = [] := by unfold He.DefD.dvs; rw [e0]; rfl
    rw [ed] at FD
    have kb := bind0 FD n ks src h
    exact BindT.kw (arrS src ds) kb (fun r1 r2 => by have := rel r1 r2; rw [ed] at this; exact this) (fun vs vz l1 l2 => by have := len vs vz l1 l2; rw [ed] at this; exact this)
  · have ed : d.dvs S.K ≠ [] := by
      unfold He.DefD.dvs
      intro z
      exact e0 (List.map_eq_nil_iff.mp z)
    obtain ⟨its, kb⟩ := bindD FD n ks src ed (fun T kV doc pm an cdv ct us its ws l1 l2 l3 => h T kV doc pm an cdv ct us its ws l1 (by rw [l2]; unfold He.DefD.dvs; rw [List.length_map]) l3)
    exact BindT.kw (arrS src ds) kb rel len
/-- a def called -/
theorem FnX.ca {n : Nat} {ks : List Str} {src : List (Nat × Nat)} {ds : List T} (F : FnX P w S mg base j d ps g) (cf : Cf C P w S mg base N sc k) (B : Bnd d ps n ks src ds) (hj : j ≤ k) : CaK C (.ref (He.fAd S.K d.at_)) n ks (fun xs zs h => g (arrS src ds xs zs) h) ∧ PySem.W.keepIn C.X.K (.ref (He.fAd S.K d.at_)) = true := by
  obtain ⟨fd, kp, BT, FG⟩ := F.bnd B
  refine ⟨?_, by rw [cf.K]; exact kp⟩
  have e1 := cf.prog
  have e2 := cf.w
  have e3 := cf.S
  have e4 := cf.mg
  have e5 := cf.base
  subst e1 e2 e3 e4 e5
  exact CaK.fn cf.ok FG BT (by rw [cf.k]; exact hj)
/-- anywhere below -/
theorem FnX.caA {n : Nat} {src : List (Nat × Nat)} {ds : List T} (F : FnX P w S mg base j d ps g) (cf : Cf C P w S mg base N sc k) (B : Bnd d ps n [] src ds) : CaA C j (.ref (He.fAd S.K d.at_)) n (fun xs h => g (arrS src ds xs []) h) := by
  obtain ⟨fd, kp, BT, FG⟩ := F.bnd B
  have e1 := cf.prog
  have e2 := cf.w
  have e3 := cf.S
  have e4 := cf.mg
  have e5 := cf.base
  subst e1 e2 e3 e4 e5
  exact CaA.fn cf.ok FG BT
/-- a class made -/
theorem FnX.make {n : Nat} {ks : List Str} {src : List (Nat × Nat)} {ds : List T} (F : FnX P w S mg base j d ps g) (cf : Cf C P w S mg base N sc k) (c : Nat) (B : Bnd d ps (n + 1) ks src ds) (M : Mk S.K (S.cls c) (He.fAd S.K d.at_)) (hj : j + 1 ≤ k) : CaK C (.ref (S.cls c)) n ks (mkO c g (arrS src ds)) ∧ PySem.W.keepIn C.X.K (.ref (S.cls c)) = true := by
  obtain ⟨fd, kp, BT, FG⟩ := F.bnd B
  refine ⟨?_, by rw [cf.K]; exact M.kp⟩
  have e1 := cf.prog
  have e2 := cf.w
  have e3 := cf.S
  have e4 := cf.mg
  have e5 := cf.base
  subst e1 e2 e3 e4 e5
  exact CaK.make cf.ok M FG BT (by rw [cf.k]; exact hj)
variable {x : Str} {n : Nat} {ks : List Str} {o : O3} {f : Value} {p : Pos} {e : Expr} {es : List Expr} {kws : List Keyword} {ra rk : AT}
/-- f(..), as written -/
theorem call_ (cf : Cf C P w S mg base N sc k) (hc : CaK C f n [] o ∧ PySem.W.keepIn C.X.K f = true) (hm : mg x = some f) (ja : JA C (e :: es) ra) (hg : glB sc x = true := by rfl) (hdb : (x == ("__debug__" : Str)) = false := by decide)
    (he : starEach (e :: es) C.X.env = (false, eval e C.X.env) :: starEach es C.X.env := by rfl) (hpl : (backTo pos (starEach es C.X.env)).any (·.1) = false := by rfl) : JE C (.Call (.Name x p) (e :: es) [] pos) (eCall n o ra) :=
  je_call hc.1 (cf.gl hg) (cf.mgE hm) hc.2 ja hdb he hpl
theorem call0_ (cf : Cf C P w S mg base N sc k) (hc : CaK C f n [] o ∧ PySem.W.keepIn C.X.K f = true) (hm : mg x = some f) (hg : glB sc x = true := by rfl) (hdb : (x == ("__debug__" : Str)) = false := by decide) : JE C (.Call (.Name x p) [] [] pos) (eCall n o aNil) :=
  je_call0 hc.1 (cf.gl hg) (cf.mgE hm) hc.2 hdb
theorem callK_ (cf : Cf C P w S mg base N sc k) (hc : CaK C f n ks o ∧ PySem.W.keepIn C.X.K f = true) (hm : mg x = some f) (ja : JA C (e :: es) ra) (jk : JK C kws rk) (hg : glB sc x = true := by rfl) (hall : (backToKw pos (keywordEach kws C.X.env)).all (·.1.isSome) = true := by rfl)
    (hks : (backToKw pos (keywordEach kws C.X.env)).filterMap (·.1) = ks := by rfl) (hdb : (x == ("__debug__" : Str)) = false := by decide) (he : starEach (e :: es) C.X.env = (false, eval e C.X.env) :: starEach es C.X.env := by rfl)
    (hpl : ((backTo pos (starEach (e :: es) C.X.env)).any (·.1) || (backToKw pos (keywordEach kws C.X.env)).any (·.1.isNone)) = false := by rfl) : JE C (.Call (.Name x p) (e :: es) kws pos) (eCallK n ks.length o ra rk) :=
  je_callK hc.1 (cf.gl hg) (cf.mgE hm) hc.2 ja jk hall hks hdb he hpl
theorem callK0_ (cf : Cf C P w S mg base N sc k) (hc : CaK C f n ks o ∧ PySem.W.keepIn C.X.K f = true) (hm : mg x = some f) (jk : JK C kws rk) (hg : glB sc x = true := by rfl) (hall : (backToKw pos (keywordEach kws C.X.env)).all (·.1.isSome) = true := by rfl)
    (hks : (backToKw pos (keywordEach kws C.X.env)).filterMap (·.1) = ks := by rfl) (hdb : (x == ("__debug__" : Str)) = false := by decide)
    (hpl : ((backTo pos (starEach [] C.X.env)).any (·.1) || (backToKw pos (keywordEach kws C.X.env)).any (·.1.isNone)) = false := by rfl) : JE C (.Call (.Name x p) [] kws pos) (eCallK n ks.length o aNil rk) :=
  je_callK0 hc.1 (cf.gl hg) (cf.mgE hm) hc.2 jk hall hks hdb hpl
/-- a built-in function, a built-in type -/
theorem cb_ (cf : Cf C P w S mg base N sc k) {id : String} {gg : List T → Hm → R T} (hc : CaT C (.builtin id) gg) (hm : mg x = none) (ja : JA C (e :: es) ra) (hv : bootBuiltins x = some (.builtin id) := by rfl) (hg : glB sc x = true := by rfl) (hn : x ≠ "__name__" := by decide) (hdb : (x == ("__debug__" : Str)) = false := by decide)
    (he : starEach (e :: es) C.X.env = (false, eval e C.X.env) :: starEach es C.X.env := by rfl) (hpl : (backTo pos (starEach es C.X.env)).any (·.1) = false := by rfl) : JE C (.Call (.Name x p) (e :: es) [] pos) (eCB gg ra) :=
  je_callB hc (cf.gl hg) (cf.mgE hm) hv ja hn hdb he hpl
theorem ct_ (cf : Cf C P w S mg base N sc k) {id : String} {gg : List T → Hm → R T} (hc : CaT C (.type id) gg) (hm : mg x = none) (ja : JA C (e :: es) ra) (hv : bootBuiltins x = some (.type id) := by rfl) (hg : glB sc x = true := by rfl) (hn : x ≠ "__name__" := by decide) (hdb : (x == ("__debug__" : Str)) = false := by decide)
    (he : starEach (e :: es) C.X.env = (false, eval e C.X.env) :: starEach es C.X.env := by rfl) (hpl : (backTo pos (starEach es C.X.env)).any (·.1) = false := by rfl) : JE C (.Call (.Name x p) (e :: es) [] pos) (eCB gg ra) :=
  je_callTy hc (cf.gl hg) (cf.mgE hm) hv ja hn hdb he hpl
theorem ty_ (cf : Cf C P w S mg base N sc k) {n : String} (hm : mg x = none) (hv : bootBuiltins x = some (.type n) := by rfl) (hg : glB sc x = true := by rfl) (hn : x ≠ "__name__" := by decide) (hd : (x == ("__debug__" : Str)) = false := by decide) : JE C (.Name x pos) (eC (.ty n)) :=
  je_ty (cf.gl hg) (cf.mgE hm) hv hn hd
theorem cl_ (cf : Cf C P w S mg base N sc k) (c : Nat) (hm : mg x = some (.ref (S.cls c))) (hg : glB sc x = true := by rfl) (hd : (x == ("__debug__" : Str)) = false := by decide) : JE C (.Name x pos) (eC (.cl c)) :=
  je_cl c (cf.gl hg) (cf.mgE (by rw [cf.S]; exact hm)) hd
theorem rg1_ (cf : Cf C P w S mg base N sc k) {tg a : Expr} (hm : mg "range" = none) (ja : JA C [a] ra) (hg : glB sc "range" = true := by rfl) (hs : starEach [a] C.X.env = [(false, eval a C.X.env)] := by rfl) : JI C tg (.Call (.Name "range" p) [a] [] pos) (iRg1 ra) :=
  ji_range1 (cf.gl hg) (cf.mgE hm) ja hs
theorem rg2_ (cf : Cf C P w S mg base N sc k) {tg a b : Expr} (hm : mg "range" = none) (ja : JA C [a, b] ra) (hg : glB sc "range" = true := by rfl) (hs : starEach [a, b] C.X.env = [(false, eval a C.X.env), (false, eval b C.X.env)] := by rfl) (hs2 : starEach [b] C.X.env = [(false, eval b C.X.env)] := by rfl) : JI C tg (.Call (.Name "range" p) [a, b] [] pos) (iRg2 ra) :=
  ji_range2 (cf.gl hg) (cf.mgE hm) ja hs hs2
theorem en_ (cf : Cf C P w S mg base N sc k) {tpos : Pos} {elts : List Expr} {kk : Nat} (hm : mg "enumerate" = none) (ja : JA C [e] ra) (hg : glB sc "enumerate" = true := by rfl) (hs : starEach [e] C.X.env = [(false, eval e C.X.env)] := by rfl) : JI C (.Tuple elts kk tpos) (.Call (.Name "enumerate" p) [e] [] pos) (iEnumT ra) :=
  ji_enum cf.ok (cf.gl hg) (cf.mgE hm) ja hs
theorem zip_ (cf : Cf C P w S mg base N sc k) {e2 : Expr} {tpos : Pos} {elts : List Expr} {kk : Nat} (hm : mg "zip" = none) (ja : JA C [e, e2] ra) (hg : glB sc "zip" = true := by rfl) (hs : starEach [e, e2] C.X.env = (false, eval e C.X.env) :: starEach [e2] C.X.env := by rfl) (hpl : (backTo pos (starEach [e2] C.X.env)).any (·.1) = false := by rfl) : JI C (.Tuple elts kk tpos) (.Call (.Name "zip" p) [e, e2] [] pos) (iZipT ra) :=
  ji_zip cf.ok (cf.gl hg) (cf.mgE hm) ja hs hpl
/-- a field read, set -/
theorem fld_ (cf : Cf C P w S mg base N sc k) {fa : Str} {re : ET} (cs : List Nat) (fi : Nat) (j : JE C e re) (hc : ∀ c ∈ cs, Cls S.K (S.cls c) ∧ NoAttr S.K (S.cls c) fa) (ef : S.fld fi = fa := by rfl) (hf : fi < S.nf := by exact Nat.le_of_ble_eq_true rfl) (hb : attributeBase e fa C.X.env (eval e C.X.env) = eval e C.X.env := by rfl) : JE C (.Attribute e fa pos) (eFld cs fi re) :=
  je_fld cf.ok j (by rw [cf.S]; exact ef) (by rw [cf.S]; exact hf) (by rw [cf.S]; exact hc) hb
theorem sfld_ (cf : Cf C P w S mg base N sc k) {o : Expr} {fa : Str} {re ro : ET} {pos' : Pos} (cs : List Nat) (fi : Nat) (jo : JE C o ro) (je : JE C e re) (hc : ∀ c ∈ cs, Cls S.K (S.cls c) ∧ NoAttr S.K (S.cls c) fa) (ef : S.fld fi = fa := by rfl) (hf : fi < S.nf := by exact Nat.le_of_ble_eq_true rfl)
    (hs : swapsWith e (some (.Attribute o fa pos')) pos.line C.X.env = pure false := by rfl) : JS C (.Assign [.Attribute o fa pos'] e pos) (sFldT cs fi re ro) :=
  js_fld cf.ok jo je (by rw [cf.S]; exact ef) (by rw [cf.S]; exact hf) (by rw [cf.S]; exact hc) hs
/-- {} -/
theorem je_emp : JE C (.Dict [] [] pos) eEmp := by
  refine ⟨fun pins s σ H Q I hw => ?_⟩
  obtain ⟨st, G, h, rp, rs, o⟩ := hw
  refine pe_dnewK.run pins s σ H Q I fun p hp => ?_
  obtain ⟨st2, rp2⟩ := rp.newF (o := .dK []) hp
  exact o _ _ _ st2 rp2 (.emp (.inl rfl) upd_same)
/-- truth of a bool -/
theorem tr_bool : TrT C asB := by
  intro pins s σ H G h x vx u Q I rp rx ru o
  obtain ⟨b, rfl, q⟩ := out_asB o Step.refl rp rx
  cases ru
  exact wpAny_truthy_bool ⟨H, I, q⟩
section
variable {elt tg iter : Expr} {ifs : List Expr} {scope : Scope} {own : List (Str × Nat)} {ri : AT} {gt : GT} {tgv : TG} {tt : BT} {te : ET}
theorem lc_ (cf : Cf C P w S mg base N sc k) (own : List (Str × Nat)) (ji : JI C tg iter ri) (sim : SimG S S.K (own.map (·.2)) gt tgv)
    (hg : ∀ C1, Cf C1 P w S mg base N (relS scope sc) k → (∀ y, C1.X.fn y = (scope.names.lookup y == some .cell)) → PG C1.X tg tgv) (ht : ∀ C1, Cf C1 P w S mg base N (relS scope sc) k → JTs C1 ifs tt) (he : ∀ C1, Cf C1 P w S mg base N (relS scope sc) k → JE C1 elt te)
    (bk : blkC N sc scope own = true := by rfl) (hs : ∀ x, foldedSetIterable iter C.X.env x = pure x := by intro _; rfl) : JE C (.ListComp elt [⟨tg, iter, ifs, 0⟩] scope pos) (eLc (own.map (·.2)) ri gt tt te) :=
  je_lc cf.ok ji (by rw [cf.N, cf.sc]; exact blkOk_by bk) (by rw [cf.S, cf.K]; exact sim) (fun s H Ce cl fp => hg _ cf.blk fun _ => rfl) (fun s H Ce cl fp => ht _ cf.blk) (fun s H Ce cl fp => he _ cf.blk) hs
theorem lcM_ (cf : Cf C P w S mg base N sc k) (own : List (Str × Nat)) (ji : JI C tg iter ri) (sim : SimG S S.K (own.map (·.2)) gt tgv)
    (hg : ∀ C1, Cf C1 P w S mg base N (relS scope sc) k → (∀ y, C1.X.fn y = (scope.names.lookup y == some .cell)) → PG C1.X tg tgv) (ht : ∀ C1, Cf C1 P w S mg base N (relS scope sc) k → JTs C1 ifs tt) (he : ∀ C1, Cf C1 P w S mg base N (relS scope sc) k → JE C1 elt te)
    (bk : blkC N sc scope own = true := by rfl) (hs : ∀ x, foldedSetIterable iter C.X.env x = pure x := by intro _; rfl) : JE C (.ListComp elt [⟨tg, iter, ifs, 0⟩] scope pos) (eLcM (own.map (·.2)) ri gt tt te) :=
  je_lcM cf.ok ji (by rw [cf.N, cf.sc]; exact blkOk_by bk) (by rw [cf.S, cf.K]; exact sim) (fun s H Ce cl fp => hg _ cf.blk fun _ => rfl) (fun s H Ce cl fp => ht _ cf.blk) (fun s H Ce cl fp => he _ cf.blk) hs
/-- does the name's store go into the comprehension -/
def swB (env_fn : Bool) (scope sc : Scope) (y : Str) : Bool := env_fn && (loB sc y && !(scope.names.any fun (n, k) => n == y && (k == .local || k == .cell)))
theorem setLc_ (cf : Cf C P w S mg base N sc k) {y : Str} {py spos : Pos} (i : Nat) (own : List (Str × Nat)) (ji : JI C tg iter ri) (sim : SimG S S.K (own.map (·.2)) gt tgv)
    (hg : ∀ C1, Cf C1 P w S mg base N (relS scope sc) k → (∀ y, C1.X.fn y = (scope.names.lookup y == some .cell)) → PG C1.X tg tgv) (ht : ∀ C1, Cf C1 P w S mg base N (relS scope sc) k → JTs C1 ifs tt) (he : ∀ C1, Cf C1 P w S mg base N (relS scope sc) k → JE C1 elt te)
    (hk : sc.kind = .function := by rfl) (hN : N[i]? = some y := by rfl) (hl : loB sc y = true := by rfl) (ha : (scope.names.any fun (n, k) => n == y && (k == .local || k == .cell)) = false := by rfl) (hline : (py.line == pos.line) = true := by rfl)
    (bk : blkC N sc scope own = true := by rfl) (hs : ∀ x, foldedSetIterable iter C.X.env x = pure x := by intro _; rfl) : JS C (.Assign [.Name y py] (.ListComp elt [⟨tg, iter, ifs, 0⟩] scope pos) spos) (sSet i (eLc (own.map (·.2)) ri gt tt te)) :=
  js_setLc cf.ok (cf.at_ hN) (cf.lo hl) (sw_true (by rw [cf.sc]; exact hk) (cf.lo hl) hline ha) ji (by rw [cf.N, cf.sc]; exact blkOk_by bk) (by rw [cf.S, cf.K]; exact sim) (fun s H Ce cl fp => hg _ cf.blk fun _ => rfl) (fun s H Ce cl fp => ht _ cf.blk) (fun s H Ce cl fp => he _ cf.blk) hs
theorem setLcM_ (cf : Cf C P w S mg base N sc k) {y : Str} {py spos : Pos} (i : Nat) (own : List (Str × Nat)) (ji : JI C tg iter ri) (sim : SimG S S.K (own.map (·.2)) gt tgv)
    (hg : ∀ C1, Cf C1 P w S mg base N (relS scope sc) k → (∀ y, C1.X.fn y = (scope.names.lookup y == some .cell)) → PG C1.X tg tgv) (ht : ∀ C1, Cf C1 P w S mg base N (relS scope sc) k → JTs C1 ifs tt) (he : ∀ C1, Cf C1 P w S mg base N (relS scope sc) k → JE C1 elt te)
    (hk : sc.kind = .function := by rfl) (hN : N[i]? = some y := by rfl) (hl : loB sc y = true := by rfl) (ha : (scope.names.any fun (n, k) => n == y && (k == .local || k == .cell)) = false := by rfl) (hline : (py.line == pos.line) = true := by rfl)
    (bk : blkC N sc scope own = true := by rfl) (hs : ∀ x, foldedSetIterable iter C.X.env x = pure x := by intro _; rfl) : JS C (.Assign [.Name y py] (.ListComp elt [⟨tg, iter, ifs, 0⟩] scope pos) spos) (sSet i (eLcM (own.map (·.2)) ri gt tt te)) :=
  js_setLcM cf.ok (cf.at_ hN) (cf.lo hl) (sw_true (by rw [cf.sc]; exact hk) (cf.lo hl) hline ha) ji (by rw [cf.N, cf.sc]; exact blkOk_by bk) (by rw [cf.S, cf.K]; exact sim) (fun s H Ce cl fp => hg _ cf.blk fun _ => rfl) (fun s H Ce cl fp => ht _ cf.blk) (fun s H Ce cl fp => he _ cf.blk) hs
end
theorem par_ (cf : Cf C P w S mg base N sc k) {i j : Nat} {x y : Str} {a b : Expr} {r : AT} {px py pt : Pos} {kt k2 pt2} (ja : JA C [a, b] r) (hi : N[i]? = some x := by rfl) (hj : N[j]? = some y := by rfl) (hij : i ≠ j := by decide) (hx : loB sc x = true := by rfl) (hy : loB sc y = true := by rfl)
    (hw : ∀ env : Env, swappedStores [.Tuple [.Name x px, .Name y py] kt pt] (.Tuple [a, b] k2 pt2) { env with scope := sc } = pure (some [x, y]) := by intro _; rfl) (hs : swapsWithSole [.Tuple [.Name x px, .Name y py] kt pt] (.Tuple [a, b] k2 pt2) pos.line C.X.env = pure false := by rfl) :
    JS C (.Assign [.Tuple [.Name x px, .Name y py] kt pt] (.Tuple [a, b] k2 pt2) pos) (sPar i j r) :=
  js_par cf.ok (cf.at_ hi) (cf.at_ hj) hij (cf.lo hx) (cf.lo hy) ja (by rw [cf.envE]; exact hw _) hs
theorem aug_ (cf : Cf C P w S mg base N sc k) {x : Str} {e : Expr} {r : ET} {op : Operator} {o : O2} {pos' : Pos} (i : Nat) (j : JE C e r) (ho : OpT C (inplaceOp op) o) (hN : N[i]? = some x := by rfl) (hl : loB sc x = true := by rfl) : JS C (.AugAssign (.Name x pos') op e pos) (sAug i o r) :=
  js_aug cf.ok (cf.at_ hN) (.inl (cf.lo hl)) j ho (.inr (cf.lo hl))
end
end RT
set_option Elab.async false
set_option linter.all false
set_option maxRecDepth 100000
set_option maxHeartbeats 4000000
/-! RT, part o: facts read off the check; own special methods, by contexts' facts. -/
namespace RT
open PySem PySem.Spec L2
open PyProof.Rows hiding St

/-! ### checks -/
def ckGlo (x : Str) : Chk := fun K => (He.Fa.glo x).ok K
def ckFree (x : Str) : Chk := fun K => (He.Fa.free x).ok K
def ckCls (x : Str) : Chk := fun K => (He.Fa.cls x).ok K && (He.eqO (PySem.W.findIn K (.ref (He.ga K x)) "__class__") (some (some (.builtin "object.__class__"))) && (He.eqO (PySem.W.specialIn K (.builtin "object.__class__") "__get__") (some (some (.builtin "getset_descriptor.__get__"))) &&
  (decide (PySem.W.takesIn K (.builtin "object.__class__") = some true) && decide (PySem.W.mroIn K (He.ga K x) (.type "object") = some true))))
def ckNo (x f : Str) : Chk := fun K => (He.Fa.noat x f).ok K
def ckMk (x : Str) : Chk := fun K => (He.Fa.mkr x).ok K
def ckDu (x m : Str) : Chk := fun K => He.eqO (PySem.W.findIn K (.ref (He.ga K x)) m) (some (some (.ref (He.fAd K (x, some m))))) && PySem.W.isFn K (.ref (He.fAd K (x, some m)))
def ckMeth (x m : Str) : Chk := fun K => (He.Fa.meth x m).ok K
def ckNe (x : Str) : Chk := fun K => He.eqO (PySem.W.findIn K (.ref (He.ga K x)) "__ne__") (some (some (.builtin "object.__ne__"))) && decide (PySem.W.mroIn K (He.ga K x) (.type "object") = some true)
def ckFm (x : Str) : Chk := fun K => He.eqO (PySem.W.findIn K (.ref (He.ga K x)) "__format__") (some (some (.builtin "object.__format__"))) && decide (PySem.W.mroIn K (He.ga K x) (.type "object") = some true)
def ckSelf (x : Str) : Chk := fun K => PySem.W.selfFirst K (He.ga K x)
def tgvK (cn : List Str) (K : PySem.W.Frag) : Tg → Value
  | .ty n => .type n
  | .cl c => .ref ((cn.map (He.ga K)).getD c 0)
def ckIs (cn : List Str) (tab : IsTab) : Chk := fun K => tab.all fun t => decide (PySem.W.kitOne K (tgvK cn K t.1) (tgvK cn K t.2.1) = some t.2.2)
def ckNd (cn : List Str) : Chk := fun K => decide (cn.map (He.ga K)).Nodup
/-- all kinds of right operands -/
def eqTags (nc : Nat) : List Tg := [.ty "NoneType", .ty "bool", .ty "int", .ty "str", .ty "tuple", .ty "list", .ty "dict"] ++ (List.range nc).map Tg.cl
def ckFirst (cn : List Str) (c : Nat) : Chk := fun K => (eqTags cn.length).all fun a => PySem.W.notFirst K ((cn.map (He.ga K)).getD c 0) (tgvK cn K a)
section
variable {K : PySem.W.Frag}
theorem nd_ok {cn : List Str} (h : ckNd cn K = true) : (cn.map (He.ga K)).Nodup := of_decide_eq_true h
theorem cls_ok {x : Str} (h : ckCls x K = true) : ClsI K (He.ga K x) := by
  obtain ⟨h1, h2⟩ := band h
  obtain ⟨h2, h3⟩ := band h2
  obtain ⟨h3, h4⟩ := band h3
  obtain ⟨h4, h5⟩ := band h4
  have h1 : (PySem.W.plainGet K (He.ga K x) Str.empty && (PySem.W.hasDictIn K (He.ga K x) && (PySem.W.plainOver K (He.ga K x) && He.eqO (PySem.W.findIn K (.ref (He.ga K x)) "__setattr__") (some (some (.builtin "object.__setattr__")))))) = true := h1
  obtain ⟨a, h1⟩ := band h1
  obtain ⟨b, h1⟩ := band h1
  obtain ⟨c, h1⟩ := band h1
  exact ⟨⟨a, b, c, He.eqO_ok h1⟩, He.eqO_ok h2, He.eqO_ok h3, of_decide_eq_true h4, of_decide_eq_true h5⟩
theorem no_ok {x f : Str} (h : ckNo x f K = true) : NoAttr K (He.ga K x) f := He.eqO_ok h
theorem mk_ok {x : Str} (h : ckMk x K = true) : Mk K (He.ga K x) (He.fAd K (x, some "__init__")) := by
  have h : (PySem.W.makesIn K (He.ga K x) && (He.eqO (PySem.W.findIn K (.ref (He.ga K x)) "__init__") (some (some (.ref (He.ma K (He.ga K x) "__init__")))) && (PySem.W.isFn K (.ref (He.ma K (He.ga K x) "__init__")) && PySem.W.keepIn K (.ref (He.ga K x))))) = true := h
  obtain ⟨a, h⟩ := band h
  obtain ⟨b, h⟩ := band h
  obtain ⟨c, h⟩ := band h
  exact ⟨a, He.eqO_ok b, c, h⟩
theorem meth_ok {x m : Str} (h : ckMeth x m K = true) : Meth K (He.ga K x) m (He.fAd K (x, some m)) := by
  have h : (He.eqO (PySem.W.findIn K (.ref (He.ga K x)) m) (some (some (.ref (He.ma K (He.ga K x) m)))) && (PySem.W.isFn K (.ref (He.ma K (He.ga K x) m)) && PySem.W.keepIn K (.ref (He.ma K (He.ga K x) m)))) = true := h
  obtain ⟨a, h⟩ := band h
  obtain ⟨b, h⟩ := band h
  exact ⟨He.eqO_ok a, b, h⟩
theorem du_ok {x m : Str} (h : ckDu x m K = true) : PySem.W.findIn K (.ref (He.ga K x)) m = some (some (.ref (He.fAd K (x, some m)))) ∧ PySem.W.isFn K (.ref (He.fAd K (x, some m))) = true := by
  obtain ⟨a, b⟩ := band h
  exact ⟨He.eqO_ok a, b⟩
theorem ne_ok {x : Str} (h : ckNe x K = true) : PySem.W.findIn K (.ref (He.ga K x)) "__ne__" = some (some (.builtin "object.__ne__")) ∧ PySem.W.mroIn K (He.ga K x) (.type "object") = some true := by
  obtain ⟨a, b⟩ := band h
  exact ⟨He.eqO_ok a, of_decide_eq_true b⟩
theorem fm_ok {x : Str} (h : ckFm x K = true) : PySem.W.findIn K (.ref (He.ga K x)) "__format__" = some (some (.builtin "object.__format__")) ∧ PySem.W.mroIn K (He.ga K x) (.type "object") = some true := by
  obtain ⟨a, b⟩ := band h
  exact ⟨He.eqO_ok a, of_decide_eq_true b⟩
theorem isLook_mem : ∀ {tab : IsTab} {a b : Tg} {r : Bool}, isLook tab a b = some r → (a, b, r) ∈ tab
  | [], _, _, _, e => by rw [isLook] at e; cases e
  | (x, y, q) :: tl, a, b, r, e => by
    rw [isLook] at e
    split at e
    · rename_i h
      obtain ⟨rfl, rfl⟩ := h
      cases e
      exact List.mem_cons_self ..
    · exact List.mem_cons_of_mem _ (isLook_mem e)
theorem is_ok {cn fl gn : List Str} {hf : fl.Nodup} {hc : (cn.map (He.ga K)).Nodup} {tab : IsTab} (h : ckIs cn tab K = true) (hcl : ∀ c, c < cn.length → ClsI K ((cn.map (He.ga K)).getD c 0)) : IsOk (mkSta K cn fl gn hf hc) tab := by
  refine ⟨fun a b r e => ?_, hcl⟩
  have q := of_decide_eq_true (List.all_eq_true.mp h _ (isLook_mem e))
  have v : ∀ t : Tg, t.val (mkSta K cn fl gn hf hc) = tgvK cn K t := fun t => by cases t <;> rfl
  rw [v, v]
  exact q
theorem first_ok {cn fl gn : List Str} {hf : fl.Nodup} {hc : (cn.map (He.ga K)).Nodup} {c : Nat} (h : ckFirst cn c K = true) : ∀ a, Tg.okEq cn.length a = true → PySem.W.notFirst K ((cn.map (He.ga K)).getD c 0) (a.val (mkSta K cn fl gn hf hc)) = true := fun a ha => by
  have v : a.val (mkSta K cn fl gn hf hc) = tgvK cn K a := by cases a <;> rfl
  rw [v]
  refine List.all_eq_true.mp h a ?_
  unfold eqTags
  cases a with
  | cl c => exact List.mem_append_right _ (List.mem_map.mpr ⟨c, List.mem_range.mpr (of_decide_eq_true ha), rfl⟩)
  | ty n =>
    refine List.mem_append_left _ ?_
    have ha' : n ∈ ["NoneType", "bool", "int", "str", "tuple", "list", "dict"] := by
      have : (["NoneType", "bool", "int", "str", "tuple", "list", "dict"].contains n) = true := ha
      exact List.contains_iff_mem.mp this
    simp only [List.mem_cons, List.not_mem_nil, or_false] at ha' ⊢
    rcases ha' with e | e | e | e | e | e | e <;> subst e <;> simp
end

/-! ### own special methods, by contexts' facts -/
section
variable {C : RC} {P : Program} {w : World} {S : Sta} {mg : Str → Option Value} {base : Heap} {N : List Str} {sc : Scope} {k j : Nat} {tab : IsTab} {ow : Oe} {ms : Ms} {n : Nat} {f : Str}
theorem du_of (cf : Cf C P w S mg base N sc k) (h : ∀ c g, ms c = some g → ∃ a, PySem.W.findIn S.K (.ref (S.cls c)) f = some (some (.ref a)) ∧ PySem.W.isFn S.K (.ref a) = true ∧ CaA C j (.ref a) n g) : DuOk C j f n ms := by
  unfold DuOk
  rw [cf.S]
  exact h
theorem du_none : DuOk C j f n fun _ => none := fun c g e => by cases e
theorem fm_none : FmOk C j fun _ => none := ⟨du_none, fun c g e => by cases e⟩
theorem fm_of (cf : Cf C P w S mg base N sc k) (hd : DuOk C j "__str__" 1 ms) (h : ∀ c g, ms c = some g → PySem.W.findIn S.K (.ref (S.cls c)) "__format__" = some (some (.builtin "object.__format__")) ∧ PySem.W.mroIn S.K (S.cls c) (.type "object") = some true) : FmOk C j ms := by
  refine ⟨hd, ?_⟩
  rw [cf.S]
  exact h
theorem oe_of (cf : Cf C P w S mg base N sc k) (h1 : ∀ c f, ow c = some f → ∃ a, PySem.W.findIn S.K (.ref (S.cls c)) "__eq__" = some (some (.ref a)) ∧ PySem.W.isFn S.K (.ref a) = true ∧ CaA C j (.ref a) 2 (gPure f))
    (h2 : ∀ c f, ow c = some f → PySem.W.findIn S.K (.ref (S.cls c)) "__ne__" = some (some (.builtin "object.__ne__")) ∧ PySem.W.mroIn S.K (S.cls c) (.type "object") = some true)
    (h3 : ∀ c f a, ow c = some f → Tg.okEq S.nc a = true → PySem.W.notFirst S.K (S.cls c) (a.val S) = true) (h4 : ∀ c f x, ow c = some f → f x x ≠ some false) : OeOk C j ow := by
  refine ⟨?_, ?_, ?_, h4⟩ <;> rw [cf.S]
  · exact h1
  · exact h2
  · exact h3
theorem eqP_ (cf : Cf C P w S mg base N sc k) : OpT C (compareOp .Eq) opEq := op_eqT cf.ok
theorem neP_ (cf : Cf C P w S mg base N sc k) : OpT C (compareOp .NotEq) opNe := op_neT cf.ok
theorem eqK_ (cf : Cf C P w S mg base N sc k) (io : IsOk S tab) (oe : OeOk C j ow) (hj : j ≤ k) : OpT C (compareOp .Eq) (opEqK S.nc ow) := by
  have q := op_eqK cf.ok (tab := tab) (by rw [cf.S]; exact io) oe (by rw [cf.k]; exact hj)
  rw [cf.S] at q
  exact q
theorem neK_ (cf : Cf C P w S mg base N sc k) (io : IsOk S tab) (oe : OeOk C j ow) (hj : j + 1 ≤ k) : OpT C (compareOp .NotEq) (opNeK S.nc ow) := by
  have q := op_neK cf.ok (tab := tab) (by rw [cf.S]; exact io) oe (by rw [cf.k]; exact hj)
  rw [cf.S] at q
  exact q
theorem inK_ (cf : Cf C P w S mg base N sc k) (io : IsOk S tab) (oe : OeOk C j ow) (hm : DuOk C j "__contains__" 2 ms) (hj : j + 1 ≤ k) : OpT C (compareOp .In) (opInK S.nc ow ms) := by
  have q := op_inK cf.ok (tab := tab) (by rw [cf.S]; exact io) oe hm (by rw [cf.k]; exact hj)
  rw [cf.S] at q
  exact q
theorem notInK_ (cf : Cf C P w S mg base N sc k) (io : IsOk S tab) (oe : OeOk C j ow) (hm : DuOk C j "__contains__" 2 ms) (hj : j + 1 ≤ k) : OpT C (compareOp .NotIn) (opNotInK S.nc ow ms) := by
  have q := op_notInK cf.ok (tab := tab) (by rw [cf.S]; exact io) oe hm (by rw [cf.k]; exact hj)
  rw [cf.S] at q
  exact q
theorem isi_ (cf : Cf C P w S mg base N sc k) (io : IsOk S tab) : CaT C (.builtin "isinstance") (gIsi S.nc tab) := by
  have q := ca_isi cf.ok (tab := tab) (by rw [cf.S]; exact io)
  rw [cf.S] at q
  exact q
theorem str_ (cf : Cf C P w S mg base N sc k) (hm : DuOk C j "__str__" 1 ms) (hj : j + 2 ≤ k) (hg : 100 ≤ k) : CaT C (.type "str") (gStr ms) := ca_str cf.ok hm (by rw [cf.k]; exact hj) (by rw [cf.k]; exact hg)
theorem strL_ (cf : Cf C P w S mg base N sc k) (hm : DuOk C j "__str__" 1 ms) (hj : j + 2 ≤ k) : CaT C (.type "str") (gStrL ms) := ca_strL cf.ok hm (by rw [cf.k]; exact hj)
theorem repr_ (cf : Cf C P w S mg base N sc k) (hm : DuOk C j "__repr__" 1 ms) (hj : j + 2 ≤ k) (hg : 100 ≤ k) : CaT C (.builtin "repr") (gRepr ms) := ca_repr cf.ok hm (by rw [cf.k]; exact hj) (by rw [cf.k]; exact hg)
theorem reprL_ (cf : Cf C P w S mg base N sc k) (hm : DuOk C j "__repr__" 1 ms) (hj : j + 2 ≤ k) : CaT C (.builtin "repr") (gReprL ms) := ca_reprL cf.ok hm (by rw [cf.k]; exact hj)
theorem fmt_ (cf : Cf C P w S mg base N sc k) (hm : FmOk C j ms) (hj : j + 2 ≤ k) (hg : 100 ≤ k) {e : Expr} {r : ET} {pos : Pos} (je : JE C e r) : JE C (.FormattedValue e (-1) none pos) (eFmt ms r) := je_fmt cf.ok hm (by rw [cf.k]; exact hj) (by rw [cf.k]; exact hg) je
theorem fmtL_ (cf : Cf C P w S mg base N sc k) (hm : FmOk C j ms) (hj : j + 2 ≤ k) {e : Expr} {r : ET} {pos : Pos} (je : JE C e r) : JE C (.FormattedValue e (-1) none pos) (eFmtL ms r) := je_fmtL cf.ok hm (by rw [cf.k]; exact hj) je
theorem len_ (cf : Cf C P w S mg base N sc k) (hm : DuOk C j "__len__" 1 ms) (hj : j + 1 ≤ k) : CaT C (.builtin "len") (gLenK ms) := ca_lenK cf.ok hm (by rw [cf.k]; exact hj)
end
theorem fd_same {K : PySem.W.Frag} {x qual : Str} {params : Arguments} {body : List Stmt} {scope : Scope} {dvs : List V} {kws : List (Str × V)} {f : Addr} {fd fd2 : FuncData} (h : FunD K x qual params body scope dvs kws f fd) (h2 : FunD K x qual params body scope dvs kws f fd2) : fd = fd2 := by
  obtain ⟨_, _, _, _, _, _, _, _, _, _, _, l1, _⟩ := h.ex
  obtain ⟨_, _, _, _, _, _, _, _, _, _, _, l2, _⟩ := h2.ex
  rw [l1] at l2
  cases l2
  rfl
/-- nothing is known of these operands -/
def opNo : O2 := fun _ _ _ => .bad
theorem op_no {C : RC} {f : Value → Value → Sem Value} : OpT C f opNo := fun _ _ _ _ _ _ _ _ _ _ _ _ _ _ _ _ _ _ _ o => False.elim o
section
variable {C : RC} {P : Program} {w : World} {S : Sta} {mg : Str → Option Value} {base : Heap} {N : List Str} {sc : Scope} {k j : Nat}
theorem pg_tupS (cf : Cf C P w S mg base N sc k) {es : List Expr} {kk n : Nat} {pos : Pos} {t : TGs} (h : PGs C.X es t) (hn : (assignEach es C.X.env).length = n := by rfl) (hst : (assignEach es C.X.env).findIdx? (·.1) = none := by rfl) : PG C.X (.Tuple es kk pos) (gTup S.K n t) := by
  rw [← cf.K]
  exact pg_tup cf.ok.calm h hn hst
end
end RT
set_option Elab.async false
set_option linter.all false
set_option maxRecDepth 100000
set_option maxHeartbeats 4000000
/-! RT, part p: mirrors unfolded, for plain proofs. -/
namespace RT
open PySem
section
variable {A B : Type} (a : A) (e : T) (h : Hm) (st : StT) (t : T)
@[simp] theorem bind_ok' (f : A → Hm → R B) : (R.ok a h).bind f = f a h := rfl
@[simp] theorem bind_exc (f : A → Hm → R B) : (R.exc e h : R A).bind f = .exc e h := rfl
@[simp] theorem bind_bad (f : A → Hm → R B) : (R.bad : R A).bind f = .bad := rfl
@[simp] theorem th_ok (f : A → Hm → R SO) : (R.ok a h).th st f = f a h := rfl
@[simp] theorem th_exc (f : A → Hm → R SO) : (R.exc e h : R A).th st f = .ok (.rse e st) h := rfl
@[simp] theorem th_bad (f : A → Hm → R SO) : (R.bad : R A).th st f = .bad := rfl
@[simp] theorem eVar_ (i : Nat) : eVar i st h = match st[i]? with
  | some (some t) => .ok t h
  | _ => .bad := rfl
@[simp] theorem eC_ : eC t st h = .ok t h := rfl
@[simp] theorem eEmp_ : eEmp st h = .ok .emp h := rfl
@[simp] theorem eOp_ (o : O2) (x y : ET) : eOp o x y st h = (x st h).bind fun u h1 => (y st h1).bind fun v h2 => o u v h2 := rfl
@[simp] theorem eUn_ (o : O1) (x : ET) : eUn o x st h = (x st h).bind fun u h1 => o u h1 := rfl
@[simp] theorem bE_ (x : ET) : bE x st h = (x st h).bind asB := rfl
@[simp] theorem bT_ (o : T → Hm → R Bool) (x : ET) : bT o x st h = (x st h).bind o := rfl
@[simp] theorem asB_ (b : Bool) : asB (.bl b) h = .ok b h := rfl
@[simp] theorem bAnd_ (x y : BT) : bAnd x y st h = (x st h).bind fun c h1 => if c then y st h1 else .ok false h1 := rfl
@[simp] theorem bOr_ (x y : BT) : bOr x y st h = (x st h).bind fun c h1 => if c then .ok true h1 else y st h1 := rfl
@[simp] theorem bNot_ (x : BT) : bNot x st h = (x st h).bind fun c h1 => .ok (!c) h1 := rfl
@[simp] theorem eAnd_ (x y : ET) : eAnd x y st h = ((x st h).bind asB).bind fun c h1 => if c then y st h1 else .ok (.bl false) h1 := rfl
@[simp] theorem eOr_ (x y : ET) : eOr x y st h = ((x st h).bind asB).bind fun c h1 => if c then .ok (.bl true) h1 else y st h1 := rfl
@[simp] theorem eNotT_ (o : T → Hm → R Bool) (x : ET) : eNotT o x st h = (x st h).bind fun u h1 => (o u h1).bind fun c h2 => .ok (.bl (!c)) h2 := rfl
@[simp] theorem eIf_ (c : BT) (x y : ET) : eIf c x y st h = (c st h).bind fun b h1 => if b then x st h1 else y st h1 := rfl
@[simp] theorem aNil_ : aNil st h = .ok [] h := rfl
@[simp] theorem aCons_ (x : ET) (r : AT) : aCons x r st h = (x st h).bind fun u h1 => (r st h1).bind fun us h2 => .ok (u :: us) h2 := rfl
@[simp] theorem eTup_ (r : AT) : eTup r st h = (r st h).bind fun xs h1 => if xs.length ≤ sizeLine then .ok (.tup xs) h1 else .bad := rfl
@[simp] theorem eLst_ (r : AT) : eLst r st h = (r st h).bind fun xs h1 => if xs.length ≤ sizeLine then .ok (.lst xs) h1 else .bad := rfl
@[simp] theorem eLstM_ (r : AT) : eLstM r st h = (r st h).bind fun xs h1 => if decide (xs.length ≤ sizeLine) && T.noRefs xs then .ok (.ref h1.length) (h1 ++ [some (.lst xs)]) else .bad := rfl
@[simp] theorem eCall_ (n : Nat) (o : O3) (r : AT) : eCall n o r st h = (r st h).bind fun xs h1 => if xs.length = n then o xs [] h1 else .bad := rfl
@[simp] theorem eCallK_ (n m : Nat) (o : O3) (r k : AT) : eCallK n m o r k st h = (r st h).bind fun xs h1 => (k st h1).bind fun zs h2 => if xs.length = n ∧ zs.length = m then o xs zs h2 else .bad := rfl
@[simp] theorem eCB_ (g : List T → Hm → R T) (r : AT) : eCB g r st h = (r st h).bind g := rfl
@[simp] theorem eFld_ (cs : List Nat) (fi : Nat) (x : ET) : eFld cs fi x st h = (x st h).bind fun u h1 => match insOf u h1 with
  | some (c, fs) => if cs.contains c then (match fs.lookup fi with
    | some t => .ok t h1
    | none => .bad) else .bad
  | none => .bad := rfl
@[simp] theorem lk_hit {X : Type} (f : Nat) (x : X) (fs : List (Nat × X)) : ((f, x) :: fs).lookup f = some x := List.lookup_cons_self
theorem lk_miss {X : Type} {f g : Nat} (x : X) (fs : List (Nat × X)) (hn : f ≠ g) : ((g, x) :: fs).lookup f = fs.lookup f := by
  have hb : (f == g) = false := beq_eq_false_iff_ne.mpr hn
  simp only [List.lookup, hb]
@[simp] theorem take_snoc {X : Type} (xs : List X) (x : X) : (xs ++ [x]).take (xs.length + 1) = xs ++ [x] := List.take_of_length_le (by simp)
@[simp] theorem take_set' {X : Type} (xs : List X) (i : Nat) (x : X) : (xs.set i x).take xs.length = xs.set i x := List.take_of_length_le (by simp)
@[simp] theorem insOf_obj (c : Nat) (fs : List (Nat × T)) : insOf (.obj c fs) h = some (c, fs) := rfl
@[simp] theorem eFmtL_ (ms : Ms) (x : ET) : eFmtL ms x st h = (x st h).bind (oFmtL ms) := rfl
@[simp] theorem eFmt_ (ms : Ms) (x : ET) : eFmt ms x st h = (x st h).bind (oFmt ms) := rfl
@[simp] theorem eSl_ (x : ET) (lo hi : OT) : eSl x lo hi st h = (x st h).bind fun u h1 => (lo st h1).bind fun l h2 => (hi st h2).bind fun v h3 => slT u l v h3 := rfl
@[simp] theorem oNone_ : oNone st h = .ok none h := rfl
@[simp] theorem oSome_ (x : ET) : oSome x st h = (x st h).bind fun t h1 => match t with
  | .int i => .ok (some i) h1
  | _ => .bad := rfl
@[simp] theorem eJoin_ (rs : List ET) : eJoin rs st h = eJs rs Str.empty st h := rfl
@[simp] theorem eJs_nil (acc : Str) : eJs [] acc st h = .ok (.str acc) h := rfl
@[simp] theorem eJs_cons (r : ET) (rs : List ET) (acc : Str) : eJs (r :: rs) acc st h = (r st h).bind fun x h1 => match x with
  | .str y => if decide ((acc ++ y).length ≤ sizeLine) then eJs rs (acc ++ y) st h1 else .bad
  | _ => .bad := rfl
@[simp] theorem eLc_ (own : List Nat) (ri : AT) (g : GT) (tt : BT) (te : ET) : eLc own ri g tt te st h = (ri st h).bind fun ts h1 => if ts.length ≤ sizeLine then (lcL g tt te (wipeT st own) ts h1).bind fun ys h2 => .ok (.lst ys) h2 else .bad := rfl
@[simp] theorem bYes_ : bYes st h = .ok true h := rfl
@[simp] theorem iVal_ (x : ET) : iVal x st h = (x st h).bind itemsF := rfl
@[simp] theorem itemsF_lst (xs : List T) : itemsF (.lst xs) h = .ok xs h := rfl
@[simp] theorem itemsF_tup (xs : List T) : itemsF (.tup xs) h = .ok xs h := rfl
@[simp] theorem iRg1_ (r : AT) : iRg1 r st h = (r st h).bind fun xs h1 => match xs with
  | [.int j] => if small62 j then .ok (rangeT 0 j.toNat) h1 else .bad
  | _ => .bad := rfl
@[simp] theorem iRg2_ (r : AT) : iRg2 r st h = (r st h).bind fun xs h1 => match xs with
  | [.int i, .int j] => if small62 i && small62 j then .ok (rangeT i (j - i).toNat) h1 else .bad
  | _ => .bad := rfl
/-! ### statements -/
@[simp] theorem sNext_ : sNext st h = .ok (.nx st) h := rfl
@[simp] theorem sBad_ : sBad st h = .bad := rfl
@[simp] theorem sRet_ (x : ET) : sRet x st h = (x st h).th st fun t h1 => .ok (.ret t) h1 := rfl
@[simp] theorem sRetN_ : sRetN st h = .ok (.ret .non) h := rfl
@[simp] theorem sExpr_ (x : ET) : sExpr x st h = (x st h).th st fun _ h1 => .ok (.nx st) h1 := rfl
@[simp] theorem sIf_ (c : BT) (x y : SM) : sIf c x y st h = (c st h).th st fun b h1 => if b then x st h1 else y st h1 := rfl
@[simp] theorem sSet_ (i : Nat) (x : ET) : sSet i x st h = (x st h).th st fun t h1 => .ok (.nx (st.set i (some t))) h1 := rfl
@[simp] theorem sAsg_ (x : ET) (g : GT) : sAsg x g st h = (x st h).th st fun t h1 => match g t st h1 with
  | .ok a' h' => .ok (.nx a') h'
  | _ => .bad := rfl
@[simp] theorem sFor_ (ri : AT) (g : GT) (b : SM) : sFor ri g b st h = (ri st h).th st fun ts h1 => forL g b ts st h1 := rfl
@[simp] theorem sPar_ (i j : Nat) (r : AT) : sPar i j r st h = (r st h).th st fun ts h1 => match ts with
  | [x, y] => .ok (.nx ((st.set i (some x)).set j (some y))) h1
  | _ => .bad := rfl
@[simp] theorem sFldT_ (cs : List Nat) (fi : Nat) (x o : ET) : sFldT cs fi x o st h = (x st h).th st fun y h1 => (o st h1).th st fun u h2 => match u with
  | .ref l => (match h2[l]? with
    | some (some (.ins c fs)) => if cs.contains c && (y.noRef && decide (fs.length < 1000)) then .ok (.nx st) (h2.set l (some (.ins c (putT fi y fs)))) else .bad
    | _ => .bad)
  | _ => .bad := rfl
@[simp] theorem sSeq_ (x y : SM) : sSeq x y st h = match x st h with
  | .ok (.nx a') h' => y a' h'
  | r => r := rfl
@[simp] theorem gNm_ (i : Nat) : gNm i t st h = .ok (st.set i (some t)) h := rfl
@[simp] theorem gTp_ (n : Nat) (g : List T → StT → Hm → R StT) (xs : List T) : gTp n g (.tup xs) st h = if xs.length = n then g xs st h else .bad := rfl
@[simp] theorem gsNil_ : gsNil [] st h = .ok st h := rfl
@[simp] theorem gsCons_ (g : GT) (r : List T → StT → Hm → R StT) (ts : List T) : gsCons g r (t :: ts) st h = (g t st h).bind fun a' h' => r ts a' h' := rfl
@[simp] theorem gSubT_ (ro ri : ET) : gSubT ro ri t st h = match ro st h with
  | .ok (.ref l) h1 => (match ri st h1 with
    | .ok (.int i) h2 => (match h2[l]? with
      | some (some (.lst xs)) => (match L2.ixN xs.length i with
        | some j => if t.noRef then .ok st (h2.set l (some (.lst (xs.set j t)))) else .bad
        | none => .bad)
      | _ => .bad)
    | _ => .bad)
  | _ => .bad := rfl
@[simp] theorem forL_nil (g : GT) (b : SM) : forL g b [] st h = .ok (.nx st) h := rfl
theorem forL_cons (g : GT) (b : SM) (ts : List T) : forL g b (t :: ts) st h = match g t st h with
    | .ok a1 h1 => (match b a1 h1 with
      | .ok (.nx a2) h2 => forL g b ts a2 h2
      | .ok (.cont a2) h2 => forL g b ts a2 h2
      | .ok (.brk a2) h2 => .ok (.nx a2) h2
      | r => r)
    | _ => .bad := rfl
@[simp] theorem lcL_nil (g : GT) (tt : BT) (te : ET) : lcL g tt te st [] h = .ok [] h := rfl
theorem lcL_cons (g : GT) (tt : BT) (te : ET) (ts : List T) : lcL g tt te st (t :: ts) h = match g t st h with
    | .ok a1 h1 => (match tt a1 h1 with
      | .ok true h2 => (match te a1 h2 with
        | .ok y h3 => (match lcL g tt te st ts h3 with
          | .ok ys h4 => .ok (y :: ys) h4
          | _ => .bad)
        | _ => .bad)
      | .ok false h2 => lcL g tt te st ts h2
      | _ => .bad)
    | _ => .bad := rfl
/-! ### a def's end -/
@[simp] theorem run_ (n : Nat) (b : SM) (ts : List T) : RT.run n b ts h = fin h.length (endOf (b (st0 n ts) h)) := rfl
@[simp] theorem endOf_ret : endOf (.ok (.ret t) h) = .ok t h := rfl
@[simp] theorem endOf_nx : endOf (.ok (.nx st) h) = .ok .non h := rfl
@[simp] theorem endOf_rse : endOf (.ok (.rse e st) h) = .exc e h := rfl
@[simp] theorem fin_ok (n : Nat) : fin n (.ok t h) = if t.noRef then .ok t (h.take n) else .ok t h := rfl
@[simp] theorem st0_z : st0 0 [] = [] := rfl
@[simp] theorem st0_n (n : Nat) : st0 (n + 1) [] = none :: st0 n [] := by simp [st0, List.replicate_succ]
@[simp] theorem st0_c (n : Nat) (ts : List T) : st0 (n + 1) (t :: ts) = some t :: st0 n ts := by simp [st0]
@[simp] theorem nr_int (i : Int) : (T.int i).noRef = true := rfl
@[simp] theorem nr_bl (i : Bool) : (T.bl i).noRef = true := rfl
@[simp] theorem nr_str (i : Str) : (T.str i).noRef = true := rfl
@[simp] theorem nr_non : T.non.noRef = true := rfl
@[simp] theorem nr_emp : T.emp.noRef = true := rfl
@[simp] theorem nr_ref (l : Nat) : (T.ref l).noRef = false := rfl
@[simp] theorem nr_tup (xs : List T) : (T.tup xs).noRef = T.noRefs xs := rfl
@[simp] theorem nr_lst (xs : List T) : (T.lst xs).noRef = T.noRefs xs := rfl
@[simp] theorem nr_obj (c : Nat) (fs : List (Nat × T)) : (T.obj c fs).noRef = T.noRefF fs := rfl
@[simp] theorem nrs_nil : T.noRefs [] = true := rfl
@[simp] theorem nrs_cons (xs : List T) : T.noRefs (t :: xs) = (t.noRef && T.noRefs xs) := rfl
@[simp] theorem nrf_nil : T.noRefF [] = true := rfl
@[simp] theorem nrf_cons (f : Nat) (fs : List (Nat × T)) : T.noRefF ((f, t) :: fs) = (t.noRef && T.noRefF fs) := rfl
/-! ### operators -/
@[simp] theorem add_i (i j : Int) : opAdd (.int i) (.int j) h = .ok (.int (i + j)) h := rfl
@[simp] theorem add_s (x y : Str) : opAdd (.str x) (.str y) h = if x.length + y.length ≤ sizeLine then .ok (.str (x ++ y)) h else .bad := rfl
@[simp] theorem sub_i (i j : Int) : opSub (.int i) (.int j) h = .ok (.int (i - j)) h := rfl
@[simp] theorem mul_i (i j : Int) : opMul (.int i) (.int j) h = if fit i && fit j then .ok (.int (i * j)) h else .bad := rfl
@[simp] theorem mod_i (i j : Int) : opMod (.int i) (.int j) h = if 0 < j then .ok (.int (i % j)) h else .bad := rfl
@[simp] theorem div_i (i j : Int) : opFdiv (.int i) (.int j) h = if decide (0 < j) && fit j then .ok (.int (i / j)) h else .bad := rfl
@[simp] theorem pow_i (i j : Int) : opPow (.int i) (.int j) h = if decide (0 ≤ j) && (decide (j ≤ 1000) && decide (i.natAbs < 2 ^ 64)) then .ok (.int (i ^ j.toNat)) h else .bad := rfl
@[simp] theorem neg_i (i : Int) : opNeg (.int i) h = .ok (.int (-i)) h := rfl
@[simp] theorem lt_i (i j : Int) : opLt (.int i) (.int j) h = .ok (.bl (decide (i < j))) h := rfl
@[simp] theorem le_i (i j : Int) : opLe (.int i) (.int j) h = .ok (.bl (decide (i ≤ j))) h := rfl
@[simp] theorem gt_i (i j : Int) : opGt (.int i) (.int j) h = .ok (.bl (decide (j < i))) h := rfl
@[simp] theorem ge_i (i j : Int) : opGe (.int i) (.int j) h = .ok (.bl (decide (j ≤ i))) h := rfl
theorem eqv_int (i j : Int) : PyData.eqv (.int i) (.int j) = decide (i = j) := by
  unfold PyData.eqv
  by_cases e : i = j
  · subst e; simp
  · simp [e]
@[simp] theorem eq_i (i j : Int) : opEq (.int i) (.int j) h = .ok (.bl (decide (i = j))) h := by
  show (if min (PyData.int i).depth (PyData.int j).depth ≤ 150 then R.ok (T.bl (PyData.eqv (.int i) (.int j))) h else R.bad) = _
  rw [if_pos (by simp [PyData.depth]), eqv_int]
@[simp] theorem ne_i (i j : Int) : opNe (.int i) (.int j) h = .ok (.bl (!decide (i = j))) h := by
  show (if min (PyData.int i).depth (PyData.int j).depth ≤ 150 then R.ok (T.bl (!PyData.eqv (.int i) (.int j))) h else R.bad) = _
  rw [if_pos (by simp [PyData.depth]), eqv_int]
@[simp] theorem toDh_int (i : Int) : T.toDh h (.int i) = some (.int i) := rfl
@[simp] theorem toDh_str (i : Str) : T.toDh h (.str i) = some (.str i) := rfl
@[simp] theorem toDh_tup (xs : List T) : T.toDh h (.tup xs) = (T.toDs xs).map .tuple := rfl
@[simp] theorem toDh_lst (xs : List T) : T.toDh h (.lst xs) = (T.toDs xs).map .list := rfl
@[simp] theorem toD_int (i : Int) : (T.int i).toD = some (.int i) := rfl
@[simp] theorem toD_str (i : Str) : (T.str i).toD = some (.str i) := rfl
@[simp] theorem toD_bl (i : Bool) : (T.bl i).toD = some (.bool i) := rfl
@[simp] theorem toD_non : T.non.toD = some .none := rfl
@[simp] theorem toD_tup (xs : List T) : (T.tup xs).toD = (T.toDs xs).map .tuple := rfl
@[simp] theorem toD_lst (xs : List T) : (T.lst xs).toD = (T.toDs xs).map .list := rfl
@[simp] theorem toD_obj (c : Nat) (fs : List (Nat × T)) : (T.obj c fs).toD = none := rfl
@[simp] theorem toDs_nil : T.toDs [] = some [] := rfl
@[simp] theorem toDs_cons' (xs : List T) : T.toDs (t :: xs) = match t.toD, T.toDs xs with
    | some d, some ds => some (d :: ds)
    | _, _ => none := rfl
@[simp] theorem gAbs_ (i : Int) : gAbs [.int i] h = .ok (.int (if i < 0 then -i else i)) h := rfl
@[simp] theorem gMax_ (i j : Int) : gMax [.int i, .int j] h = .ok (.int (if j > i then j else i)) h := rfl
@[simp] theorem gMin_ (i j : Int) : gMin [.int i, .int j] h = .ok (.int (if j < i then j else i)) h := rfl
@[simp] theorem gDivmod_ (i j : Int) : gDivmod [.int i, .int j] h = if decide (0 < j) && fit j then .ok (.tup [.int (i / j), .int (i % j)]) h else .bad := rfl
end
@[simp] theorem sl_eq : sizeLine = 16777216 := sizeLine_eq
/-! ### sequences -/
def ixR (xs : List T) (i : Int) (h : Hm) : R T := match L2.atI xs i with
  | some t => .ok t h
  | none => .bad
@[simp] theorem ix_l (xs : List T) (i : Int) (h : Hm) : opIx (.lst xs) (.int i) h = ixR xs i h := rfl
@[simp] theorem ix_t (xs : List T) (i : Int) (h : Hm) : opIx (.tup xs) (.int i) h = ixR xs i h := rfl
theorem ix_r {l : Nat} {xs : List T} {h : Hm} (hl : h[l]? = some (some (.lst xs))) (i : Int) : opIx (.ref l) (.int i) h = ixR xs i h := by
  show (match seqOf (.ref l) h with
    | some xs => (match L2.atI xs i with
      | some t => R.ok t h
      | none => .bad)
    | none => .bad) = _
  have e : seqOf (.ref l) h = some xs := by
    show (match h[l]? with
    | some (some (.lst xs)) => some xs
    | _ => none) = _
    rw [hl]
  rw [e]
  rfl
theorem get_set {l : Nat} {h : Hm} (hlt : l < h.length) (c : Option Cell) : (h.set l c)[l]? = some c := List.getElem?_set_self hlt
/-- a number's text -/
def nT (i : Int) : Str := Str.ofString (toString i)
@[simp] theorem emp_app (a : Str) : Str.empty ++ a = a := PySem.Str.empty_append a
@[simp] theorem strL_e (ms : Ms) (xs : List T) (h : Hm) : gStrL ms xs h = if contT xs = true then .bad else gStr ms xs h := rfl
@[simp] theorem reprL_e (ms : Ms) (xs : List T) (h : Hm) : gReprL ms xs h = if contT xs = true then .bad else gRepr ms xs h := rfl
@[simp] theorem fmtL_e (ms : Ms) (x : T) (h : Hm) : oFmtL ms x h = if contT [x] = true then .bad else oFmt ms x h := rfl
@[simp] theorem contT_i (i : Int) : contT [.int i] = false := rfl
@[simp] theorem contT_s (i : Str) : contT [.str i] = false := rfl
@[simp] theorem contT_b (i : Bool) : contT [.bl i] = false := rfl
@[simp] theorem contT_n : contT [.non] = false := rfl
@[simp] theorem contT_o (c : Nat) (fs : List (Nat × T)) : contT [.obj c fs] = false := rfl
@[simp] theorem str_i (ms : Ms) (i : Int) (h : Hm) : gStr ms [.int i] h = if decide (i.natAbs.log2 < 1920) then .ok (.str (nT i)) h else .bad := rfl
@[simp] theorem str_s (ms : Ms) (s : Str) (h : Hm) : gStr ms [.str s] h = .ok (.str s) h := rfl
@[simp] theorem repr_l (ms : Ms) (xs : List T) (h : Hm) : gRepr ms [.lst xs] h = showD (.lst xs) h := rfl
@[simp] theorem fmt_i (ms : Ms) (i : Int) (h : Hm) : oFmt ms (.int i) h = if decide (i.natAbs.log2 < 1920) then .ok (.str (nT i)) h else .bad := rfl
@[simp] theorem asStr_ (s : Str) (h : Hm) : asStr (.str s) h = .ok (.str s) h := rfl
/-- small numbers fit -/
theorem fit_small {i : Int} (h1 : 0 ≤ i) (h2 : i ≤ 10 ^ 200) : fit i = true := fit_of (by
  have : (0 : Int) ≤ 10 ^ 200 := by decide +kernel
  omega) h2
theorem L18 : ((10 : Int) ^ 18) ≤ 10 ^ 200 := by decide +kernel
theorem L60 : ((10 : Int) ^ 60) ≤ 10 ^ 200 := by decide +kernel
theorem L75 : ((10 : Int) ^ 75) ≤ 10 ^ 200 := by decide +kernel
theorem log_small {i : Int} (h : fit i = true) : decide (i.natAbs.log2 < 1920) = true := decide_eq_true (fit_log h)
theorem len_app (a b : Str) : (a ++ b).length = a.length + b.length := PySem.Str.length_append a b
theorem int_len {i : Int} (h : fit i = true) : (nT i).length ≤ 1921 := PyProof.Rows.int_text_len_1921 (fit_log h)
theorem empty_len : Str.empty.length = 0 := rfl
/-! ### how long a shown datum is -/
def GoodS (x : Str) : Prop := ∀ c ∈ x.cps.toList, c < 16 ^ 8
theorem good_app {a b : Str} (h1 : GoodS a) (h2 : GoodS b) : GoodS (a ++ b) := fun c hc => by
  have e : (a ++ b).cps.toList = a.cps.toList ++ b.cps.toList := by
    rw [PySem.Str.cps_append, Array.toList_append]
  rw [e] at hc
  rcases List.mem_append.mp hc with z | z
  · exact h1 c z
  · exact h2 c z
theorem good_of (s : String) : GoodS (Str.ofString s) := fun c hc => by
  rw [Str.ofString_eq_toList] at hc
  have hc : c ∈ s.toList.map Char.toNat := by simpa using hc
  obtain ⟨ch, _, rfl⟩ := List.mem_map.mp hc
  have h := ch.valid
  simp only [UInt32.isValidChar, Nat.isValidChar] at h
  show ch.val.toNat < 16 ^ 8
  omega
theorem good_nT (i : Int) : GoodS (nT i) := good_of _
theorem good_empty : GoodS Str.empty := fun c hc => by
  have : Str.empty.cps.toList = [] := rfl
  rw [this] at hc
  cases hc
mutual
def est : PyData → Nat
  | .none => 4
  | .bool _ => 5
  | .int _ => 1921
  | .str x => 10 * x.length + 2
  | .list xs => estAll xs + 3
  | .tuple xs => estAll xs + 3
  | .dict _ => 0
def estAll : List PyData → Nat
  | [] => 0
  | x :: r => est x + 2 + estAll r
end
mutual
def GoodD : PyData → Prop
  | .none => True
  | .bool _ => True
  | .int i => i.natAbs.log2 < 1920
  | .str x => GoodS x
  | .list xs => GoodDs xs
  | .tuple xs => GoodDs xs
  | .dict _ => False
def GoodDs : List PyData → Prop
  | [] => True
  | x :: r => GoodD x ∧ GoodDs r
end
mutual
theorem shown_est : ∀ d : PyData, GoodD d → d.shown.length ≤ est d ∧ d.showable = true
  | .none, _ => ⟨by rw [PyData.shown, est]; decide, by rw [PyData.showable]⟩
  | .bool b, _ => ⟨by cases b <;> rw [PyData.shown, est] <;> decide, by rw [PyData.showable]⟩
  | .int i, g => by
    rw [GoodD] at g
    exact ⟨by rw [PyData.shown, est]; exact PyProof.Rows.int_text_len_1921 g, by rw [PyData.showable]; exact decide_eq_true g⟩
  | .str x, g => by
    rw [GoodD] at g
    exact ⟨by rw [PyData.shown, est]; exact PySem.StrLaws.reprText_len x g, by rw [PyData.showable]⟩
  | .list xs, g => by
    rw [GoodD] at g
    obtain ⟨h1, h2⟩ := shownAll_est xs g
    refine ⟨?_, by rw [PyData.showable]; exact h2⟩
    rw [PyData.shown, est]
    have := listText_len_le (PyData.shownAll xs)
    have := shownAll_len xs
    omega
  | .tuple xs, g => by
    rw [GoodD] at g
    obtain ⟨h1, h2⟩ := shownAll_est xs g
    refine ⟨?_, by rw [PyData.showable]; exact h2⟩
    rw [PyData.shown, est]
    have := tupleText_len_le (PyData.shownAll xs)
    have := shownAll_len xs
    omega
  | .dict _, g => by rw [GoodD] at g; exact g.elim
theorem shownAll_est : ∀ xs : List PyData, GoodDs xs → ((PyData.shownAll xs).map (·.length)).sum + 2 * xs.length ≤ estAll xs ∧ PyData.showableAll xs = true
  | [], _ => ⟨by rw [PyData.shownAll, estAll]; simp, by rw [PyData.showableAll]⟩
  | x :: r, g => by
    rw [GoodDs] at g
    obtain ⟨h1, h2⟩ := shown_est x g.1
    obtain ⟨h3, h4⟩ := shownAll_est r g.2
    refine ⟨?_, by rw [PyData.showableAll, h2, h4]; rfl⟩
    rw [PyData.shownAll, estAll]
    simp only [List.map_cons, List.sum_cons, List.length_cons]
    omega
theorem shownAll_len : ∀ xs : List PyData, (PyData.shownAll xs).length = xs.length
  | [] => by rw [PyData.shownAll]; rfl
  | x :: r => by rw [PyData.shownAll, List.length_cons, List.length_cons, shownAll_len r]
end
theorem showD_ok {x : T} {h : Hm} {d : PyData} (e : x.toDh h = some d) (g : GoodD d) (hz : est d ≤ 16777216) (hd : d.depth ≤ 100) : showD x h = .ok (.str d.shown) h := by
  obtain ⟨h1, h2⟩ := shown_est d g
  unfold showD
  rw [e]
  show (if d.showable && (decide (d.shown.length ≤ sizeLine) && decide (d.depth ≤ 100)) then R.ok (T.str d.shown) h else .bad) = _
  rw [h2, decide_eq_true hd, sizeLine_eq, decide_eq_true (Nat.le_trans h1 hz)]
  rfl
end RT
set_option Elab.async false
set_option linter.all false
set_option maxRecDepth 100000
set_option maxHeartbeats 4000000
/-! RT, part q: own getitem, methods called by contexts' facts, three names set at once, chained comparisons. -/
namespace RT
open PySem PySem.Spec L2
open PyProof.Rows hiding St
section
variable {C : RC} {P : Program} {w : World} {S : Sta} {mg : Str → Option Value} {base : Heap} {N : List Str} {sc : Scope} {k j : Nat} {pos : Pos}
theorem ix_plain (ok : C.Ok) {a b : Expr} (hs : PlainIx b) : OpT C (subscriptTail a b) opIx := by
  intro pins s σ H G h x y vx vy u w Q I rp rx ry vu vw o2
  refine ix_seq a b pins s σ H vx vy u w Q I vu vw ?_ (hs _ _)
  unfold opIx at o2
  split at o2
  · rename_i i
    cases ry
    split at o2
    · rename_i z
      cases rx
      split at o2
      · rename_i hz
        split at o2
        · rename_i c ec
          exact .inr (.inr ⟨z, i, c, rfl, rfl, hz, ec, out_ok o2 rp (.str _)⟩)
        · exact False.elim o2
      · exact False.elim o2
    · split at o2
      · rename_i xs exs
        split at o2
        · rename_i t et
          obtain ⟨a', vs, rfl, sq, rxs⟩ := seqOf_rel ok rp rx exs
          obtain ⟨v', e', rt⟩ := rxs.atI et
          rcases sq with sq | sq
          · exact .inl ⟨a', vs, i, v', rfl, rfl, sq, e', out_ok o2 rp rt⟩
          · exact .inr (.inl ⟨a', vs, i, v', rfl, rfl, sq, e', out_ok o2 rp rt⟩)
        · exact False.elim o2
      · exact False.elim o2
  · exact False.elim o2
/-- x[y], own classes first -/
def opIxK (ms : Ms) : O2 := fun x y h => match insOf x h with
  | some _ => dunB ms x [y] h
  | none => opIx x y h
theorem je_ixK (ok : C.Ok) {k : Nat} {ms : Ms} (hm : DuOk C k "__getitem__" 2 ms) (hk : k + 1 ≤ C.k) (hf : ∀ c g, ms c = some g → ∀ fa, PySem.W.findIn C.S.K (.ref (C.S.cls c)) "__getitem__" = some (some (.ref fa)) → PySem.W.fnIn C.S.K fa = true)
    {a b : Expr} {ra rb : ET} (ja : JE C a ra) (jb : JE C b rb) (hs : PlainIx b := by intro _ _; rfl)
    (hs2 : ∀ o i, subscripted b true o i = runValue (.builtin "lifetime.subscript" ⟨[o, i], []⟩) := by intro _ _; with_unfolding_all rfl) : JE C (.Subscript a b pos) (eOp (opIxK ms) ra rb) := by
  refine ⟨fun pins s σ H Q I hw => Subscript_ (two ja jb (f := subscriptTail a b) (fun pins s σ H G h x y vx vy u w Q I rp rx ry vu vw o => ?_) I hw)⟩
  unfold opIxK at o
  split at o
  · rename_i pr ei
    obtain ⟨c, fs'⟩ := pr
    have o' := o
    unfold dunB at o'
    rw [ei] at o'
    dsimp only at o'
    split at o'
    · rename_i g eg
      obtain ⟨a0, dx0, ws0, rfl, ea0, _⟩ := insOf_rel rp rx ei
      obtain ⟨a1, c1, dx, fs, e1, ea, fa, q1, q2, q3⟩ := dunB_run (n := 1) ok hm (A := C.X.A.in1) (ok.blw hk).in1 I rp rx (.cons ry .nil) (.cons vw .nil) rfl o
      cases e1
      rw [ea0] at ea
      cases ea
      cases vu
      obtain ⟨ox, od, J⟩ := inst_of I ea0
      obtain ⟨m, hF⟩ := I.fr
      have q1' := q1
      rw [← ok.K] at q1'
      have hfn := hf c g eg fa q1'
      rw [ok.K] at hfn
      exact PySem.W.sub_K hF I.ok.mod.kin J q1 hfn q2 (q3 s I) (hs2 _ _)
    · exact False.elim o'
  · exact ix_plain ok hs pins s σ H G h x y vx vy u w Q I rp rx ry vu vw o

def ckFn (x m : Str) : Chk := fun K => PySem.W.fnIn K (He.fAd K (x, some m))
theorem ixK_ (cf : Cf C P w S mg base N sc k) {ms : Ms} (hm : DuOk C j "__getitem__" 2 ms) (hj : j + 1 ≤ k) (hf : ∀ c g, ms c = some g → ∀ fa, PySem.W.findIn S.K (.ref (S.cls c)) "__getitem__" = some (some (.ref fa)) → PySem.W.fnIn S.K fa = true)
    {a b : Expr} {ra rb : ET} (ja : JE C a ra) (jb : JE C b rb) (hs : PlainIx b := by intro _ _; rfl)
    (hs2 : ∀ o i, subscripted b true o i = runValue (.builtin "lifetime.subscript" ⟨[o, i], []⟩) := by intro _ _; with_unfolding_all rfl) : JE C (.Subscript a b pos) (eOp (opIxK ms) ra rb) :=
  je_ixK cf.ok hm (by rw [cf.k]; exact hj) (by rw [cf.S]; exact hf) ja jb hs hs2

/-! ### methods -/
theorem ms_of (cf : Cf C P w S mg base N sc k) {f : Str} {n : Nat} {ks : List Str} {ms : Nat → Option O3}
    (h : ∀ c g, ms c = some g → Cls S.K (S.cls c) ∧ ∃ a, Meth S.K (S.cls c) f a ∧ CaK C (.ref a) (n + 1) ks g) : MsOk C f n ks ms := by
  have e := cf.S
  subst e
  exact h
variable {o e1 : Expr} {es : List Expr} {f : Str} {ro : ET} {ra rk : AT} {apos : Pos} {ms : Nat → Option O3} {n : Nat} {ks : List Str} {kws : List Keyword}
theorem meth_ (cf : Cf C P w S mg base N sc k) (fi : Nat) (hm : MsOk C f n [] ms) (jo : JE C o ro) (ja : JA C (e1 :: es) ra) {pl : Sem Bool} (ef : S.fld fi = f := by rfl) (hf : fi < S.nf := by exact Nat.le_of_ble_eq_true rfl)
    (hst : starEach (e1 :: es) C.X.env = (false, eval e1 C.X.env) :: starEach es C.X.env := by rfl) (hpl : (backTo pos (starEach es C.X.env)).any (·.1) = false := by rfl)
    (ht : eval (.Call (.Attribute o f apos) (e1 :: es) [] pos) C.X.env = (do
      let ov ← eval o C.X.env
      standAt apos.atName
      let (f, first) ← holding [ov] (getMethod ov f pl)
      callWith pos f first (backTo pos (starEach (e1 :: es) C.X.env)) (backToKw pos (keywordEach [] C.X.env))) := by rfl) : JE C (.Call (.Attribute o f apos) (e1 :: es) [] pos) (eMeth fi n 0 ms ro ra aNil) :=
  je_meth cf.ok jo (by rw [cf.S]; exact ef) (by rw [cf.S]; exact hf) hm ja hst hpl ht
theorem meth0_ (cf : Cf C P w S mg base N sc k) (fi : Nat) (hm : MsOk C f 0 [] ms) (jo : JE C o ro) {pl : Sem Bool} (ef : S.fld fi = f := by rfl) (hf : fi < S.nf := by exact Nat.le_of_ble_eq_true rfl)
    (ht : eval (.Call (.Attribute o f apos) [] [] pos) C.X.env = (do
      let ov ← eval o C.X.env
      standAt apos.atName
      let (f, first) ← holding [ov] (getMethod ov f pl)
      callWith pos f first (backTo pos (starEach [] C.X.env)) (backToKw pos (keywordEach [] C.X.env))) := by rfl) : JE C (.Call (.Attribute o f apos) [] [] pos) (eMeth fi 0 0 ms ro aNil aNil) :=
  je_meth0 cf.ok jo (by rw [cf.S]; exact ef) (by rw [cf.S]; exact hf) hm ht
theorem methK0_ (cf : Cf C P w S mg base N sc k) (fi : Nat) (hm : MsOk C f 0 ks ms) (jo : JE C o ro) (jk : JK C kws rk) {pl : Sem Bool} (ef : S.fld fi = f := by rfl) (hf : fi < S.nf := by exact Nat.le_of_ble_eq_true rfl)
    (hall : (backToKw pos (keywordEach kws C.X.env)).all (·.1.isSome) = true := by rfl) (hks : (backToKw pos (keywordEach kws C.X.env)).filterMap (·.1) = ks := by rfl)
    (hpl : ((backTo pos (starEach [] C.X.env)).any (·.1) || (backToKw pos (keywordEach kws C.X.env)).any (·.1.isNone)) = false := by rfl)
    (ht : eval (.Call (.Attribute o f apos) [] kws pos) C.X.env = (do
      let ov ← eval o C.X.env
      standAt apos.atName
      let (f, first) ← holding [ov] (getMethod ov f pl)
      callWith pos f first (backTo pos (starEach [] C.X.env)) (backToKw pos (keywordEach kws C.X.env))) := by rfl) : JE C (.Call (.Attribute o f apos) [] kws pos) (eMeth fi 0 ks.length ms ro aNil rk) :=
  je_methK0 cf.ok jo (by rw [cf.S]; exact ef) (by rw [cf.S]; exact hf) hm jk hall hks hpl ht
@[simp] theorem eMeth_ (mi n m : Nat) (ms : Nat → Option O3) (ro : ET) (ra rk : AT) (st : StT) (h : Hm) : eMeth mi n m ms ro ra rk st h = (ro st h).bind fun x h1 => match insOf x h1 with
  | some (c, fs) => (match ms c, fs.lookup mi with
    | some g, none => (ra st h1).bind fun xs h2 => (rk st h2).bind fun zs h3 => if xs.length = n ∧ zs.length = m then g (x :: xs) zs h3 else .bad
    | _, _ => .bad)
  | none => .bad := rfl

/-! ### a, b, c = x, y, z -/
def sPar3 (i j l : Nat) (e : AT) : SM := fun a h => (e a h).th a fun ts h1 => match ts with
  | [x, y, z] => .ok (.nx (((a.set i (some x)).set j (some y)).set l (some z))) h1
  | _ => .bad
theorem js_par3 (ok : C.Ok) {i j l : Nat} {x y z : Str} {a b c : Expr} {r : AT} {px py pz pt : Pos} {kt k2 pt2} (hi : C.X.N[i]? = some x) (hj : C.X.N[j]? = some y) (hl : C.X.N[l]? = some z) (hij : i ≠ j) (hil : i ≠ l) (hjl : j ≠ l)
    (hx : C.X.env.scope.names.lookup x = some .local) (hy : C.X.env.scope.names.lookup y = some .local) (hz : C.X.env.scope.names.lookup z = some .local) (ja : JA C [a, b, c] r)
    (hw : swappedStores [.Tuple [.Name x px, .Name y py, .Name z pz] kt pt] (.Tuple [a, b, c] k2 pt2) C.X.env = pure (some [x, y, z]))
    (hs : swapsWithSole [.Tuple [.Name x px, .Name y py, .Name z pz] kt pt] (.Tuple [a, b, c] k2 pt2) pos.line C.X.env = pure false := by rfl) :
    JS C (.Assign [.Tuple [.Name x px, .Name y py, .Name z pz] kt pt] (.Tuple [a, b, c] k2 pt2) pos) (sPar3 i j l r) := by
  refine ⟨fun pins s σ H D I hw' => ?_⟩
  obtain ⟨st, G, h, rp, rs, o⟩ := hw'
  refine (ps_par3 (ta := liA C r) ok.calm ok.nd hi hj hl hij hil hjl hx hy hz ja hw hs).run pins s σ H D I ⟨st, G, h, rp, rs, (OutS.bind (Rel := relA C) rs o).mono fun v H1 ⟨t, G1, h1, st1, rp1, rv, o1⟩ => ?_⟩
  dsimp only at o1
  split at o1
  · rename_i x' y' z'
    cases rv with
    | cons q1 q2 => cases q2 with
      | cons q3 q4 => cases q4 with
        | cons q5 q6 => cases q6 with
          | nil => exact ⟨_, _, _, rfl, o1 _ H1 G1 Step.refl rp1 ((((rs.step st1).set i q1).set j q3).set l q5)⟩
  · exact False.elim o1
theorem par3_ (cf : Cf C P w S mg base N sc k) {i j l : Nat} {x y z : Str} {a b c : Expr} {r : AT} {px py pz pt : Pos} {kt k2 pt2} (ja : JA C [a, b, c] r) (hi : N[i]? = some x := by rfl) (hj : N[j]? = some y := by rfl) (hl : N[l]? = some z := by rfl)
    (hij : i ≠ j := by decide) (hil : i ≠ l := by decide) (hjl : j ≠ l := by decide) (hx : loB sc x = true := by rfl) (hy : loB sc y = true := by rfl) (hz : loB sc z = true := by rfl)
    (hw : ∀ env : Env, swappedStores [.Tuple [.Name x px, .Name y py, .Name z pz] kt pt] (.Tuple [a, b, c] k2 pt2) { env with scope := sc } = pure (some [x, y, z]) := by intro _; rfl)
    (hs : swapsWithSole [.Tuple [.Name x px, .Name y py, .Name z pz] kt pt] (.Tuple [a, b, c] k2 pt2) pos.line C.X.env = pure false := by rfl) :
    JS C (.Assign [.Tuple [.Name x px, .Name y py, .Name z pz] kt pt] (.Tuple [a, b, c] k2 pt2) pos) (sPar3 i j l r) :=
  js_par3 cf.ok (cf.at_ hi) (cf.at_ hj) (cf.at_ hl) hij hil hjl (cf.lo hx) (cf.lo hy) (cf.lo hz) ja (by rw [cf.envE]; exact hw _) hs
theorem asg_ (cf : Cf C P w S mg base N sc k) {tg e : Expr} {r : ET} {g : GT} (j : JE C e r) (jg : JG C tg g) (hs : swapsWithSole [tg] e pos.line C.X.env = pure false := by rfl)
    (hw : ∀ env : Env, swappedStores [tg] e { env with scope := sc } = pure none := by intro _; rfl)
    (h1 : (assignEach [tg] C.X.env).map (·.2) = [assign tg C.X.env] := by rfl) : JS C (.Assign [tg] e pos) (sAsg r g) := js_asg j jg hs (by rw [cf.envE]; exact hw _) h1
/-! ### levels -/
theorem CaA.mono {f : Value} {n : Nat} {o : List T → Hm → R T} (c : CaA C j f n o) (h : j ≤ k) : CaA C k f n o :=
  fun A pins s σ H G hh xs vs us Q bl I rp rx vu l oo => c A pins s σ H G hh xs vs us Q (bl.mono h) I rp rx vu l oo
theorem du_mono {f : Str} {n : Nat} {ms : Ms} (d : DuOk C j f n ms) (h : j ≤ k := by decide) : DuOk C k f n ms := fun c g e =>
  let ⟨a, h1, h2, h3⟩ := d c g e
  ⟨a, h1, h2, h3.mono h⟩
theorem oe_mono {ow : Oe} (d : OeOk C j ow) (h : j ≤ k := by decide) : OeOk C k ow := ⟨fun c f e => let ⟨a, h1, h2, h3⟩ := d.call c f e; ⟨a, h1, h2, h3.mono h⟩, d.ne, d.first, d.refl⟩
/-! ### own binary operators -/
theorem own_ (cf : Cf C P w S mg base N sc k) {op : Operator} {ms : Ms} {o2 : O2} (ho : OpT C (binaryOp op) o2) (hm : DuOk C j (PySem.dunder op.info.2) 2 ms) (hs : ∀ c g, ms c = some g → PySem.W.selfFirst S.K (S.cls c) = true) (hj : j ≤ k) : OpT C (binaryOp op) (opOwn ms o2) :=
  op_own cf.ok ho hm (by rw [cf.S]; exact hs) (by rw [cf.k]; exact hj)
@[simp] theorem sPar3_ (i j l : Nat) (r : AT) (st : StT) (h : Hm) : sPar3 i j l r st h = (r st h).th st fun ts h1 => match ts with
  | [x, y, z] => .ok (.nx (((st.set i (some x)).set j (some y)).set l (some z))) h1
  | _ => .bad := rfl
end
end RT
set_option Elab.async false
set_option linter.all false
set_option maxRecDepth 100000
set_option maxHeartbeats 4000000
/-! RT, part r: more simp lemmas for plain proofs. -/
namespace RT
open PySem
section
variable (h : Hm) (nc : Nat) (ow : Oe) (ms : Ms)
theorem beq_dec {A : Type} [BEq A] [LawfulBEq A] [DecidableEq A] (a b : A) : (a == b) = decide (a = b) := by
  by_cases e : a = b
  · rw [decide_eq_true e]; exact beq_iff_eq.mpr e
  · rw [decide_eq_false e]; exact beq_eq_false_iff_ne.mpr e
/-! ### own index first -/
@[simp] theorem ixK_l (xs : List T) (i : Int) : opIxK ms (.lst xs) (.int i) h = ixR xs i h := rfl
@[simp] theorem ixK_t (xs : List T) (i : Int) : opIxK ms (.tup xs) (.int i) h = ixR xs i h := rfl
theorem ixK_r {l : Nat} {xs : List T} {h : Hm} (hl : h[l]? = some (some (.lst xs))) (i : Int) : opIxK ms (.ref l) (.int i) h = ixR xs i h := by
  have e : insOf (.ref l) h = none := by
    show (match h[l]? with
      | some (some (.ins c fs)) => some (c, fs)
      | _ => none) = _
    rw [hl]
  show (match insOf (.ref l) h with
    | some _ => dunB ms (.ref l) [.int i] h
    | none => opIx (.ref l) (.int i) h) = _
  rw [e]
  exact ix_r hl i
theorem ixK_o (c : Nat) (fs : List (Nat × T)) (y : T) : opIxK ms (.obj c fs) y h = dunB ms (.obj c fs) [y] h := rfl
@[simp] theorem dunB_o (c : Nat) (fs : List (Nat × T)) (xs : List T) : dunB ms (.obj c fs) xs h = match ms c with
  | some g => g (.obj c fs :: xs) h
  | none => .bad := rfl
/-! ### own == first -/
@[simp] theorem eqK_i (i : Int) (y : T) : opEqK nc ow (.int i) y h = opEq (.int i) y h := rfl
@[simp] theorem neK_i (i : Int) (y : T) : opNeK nc ow (.int i) y h = opNe (.int i) y h := rfl
@[simp] theorem eqK_b (i : Bool) (y : T) : opEqK nc ow (.bl i) y h = opEq (.bl i) y h := rfl
@[simp] theorem neK_b (i : Bool) (y : T) : opNeK nc ow (.bl i) y h = opNe (.bl i) y h := rfl
@[simp] theorem eqK_s (i : Str) (y : T) : opEqK nc ow (.str i) y h = opEq (.str i) y h := rfl
@[simp] theorem neK_s (i : Str) (y : T) : opNeK nc ow (.str i) y h = opNe (.str i) y h := rfl
@[simp] theorem eqK_l (i : List T) (y : T) : opEqK nc ow (.lst i) y h = opEq (.lst i) y h := rfl
@[simp] theorem neK_l (i : List T) (y : T) : opNeK nc ow (.lst i) y h = opNe (.lst i) y h := rfl
@[simp] theorem eqK_t (i : List T) (y : T) : opEqK nc ow (.tup i) y h = opEq (.tup i) y h := rfl
@[simp] theorem neK_t (i : List T) (y : T) : opNeK nc ow (.tup i) y h = opNe (.tup i) y h := rfl
@[simp] theorem eqK_n (y : T) : opEqK nc ow .non y h = opEq .non y h := rfl
@[simp] theorem neK_n (y : T) : opNeK nc ow .non y h = opNe .non y h := rfl
/-! ### data -/
@[simp] theorem toDh_bl (i : Bool) : T.toDh h (.bl i) = some (.bool i) := rfl
@[simp] theorem toDh_non : T.toDh h .non = some .none := rfl
@[simp] theorem toDh_obj (c : Nat) (fs : List (Nat × T)) : T.toDh h (.obj c fs) = none := rfl
@[simp] theorem toDh_emp : T.toDh h .emp = none := rfl
@[simp] theorem toD_emp : T.emp.toD = none := rfl
@[simp] theorem eqv_ii (i j : Int) : PyData.eqv (.int i) (.int j) = decide (i = j) := eqv_int i j
@[simp] theorem eqv_bb (i j : Bool) : PyData.eqv (.bool i) (.bool j) = decide (i = j) := by cases i <;> cases j <;> simp [PyData.eqv]
@[simp] theorem eqv_ib (i : Int) (j : Bool) : PyData.eqv (.int i) (.bool j) = decide (i = if j then 1 else 0) := by rw [PyData.eqv]; exact beq_dec _ _
@[simp] theorem eqv_bi (i : Int) (j : Bool) : PyData.eqv (.bool j) (.int i) = decide ((if j then 1 else 0) = i) := by rw [PyData.eqv]; exact beq_dec _ _
@[simp] theorem eqv_ss (a b : Str) : PyData.eqv (.str a) (.str b) = decide (a = b) := by rw [PyData.eqv]; exact beq_dec _ _
@[simp] theorem eqv_nn : PyData.eqv .none .none = true := by rw [PyData.eqv]
@[simp] theorem eqv_ll (a b : List PyData) : PyData.eqv (.list a) (.list b) = PyData.eqvAll a b := by rw [PyData.eqv]
@[simp] theorem eqv_tt (a b : List PyData) : PyData.eqv (.tuple a) (.tuple b) = PyData.eqvAll a b := by rw [PyData.eqv]
@[simp] theorem eqvA_nn : PyData.eqvAll [] [] = true := by rw [PyData.eqvAll]
@[simp] theorem eqvA_cc (x y : PyData) (a b : List PyData) : PyData.eqvAll (x :: a) (y :: b) = (PyData.eqv x y && PyData.eqvAll a b) := by rw [PyData.eqvAll]
@[simp] theorem eqvA_nc (y : PyData) (b : List PyData) : PyData.eqvAll [] (y :: b) = false := by rw [PyData.eqvAll]
@[simp] theorem eqvA_cn (y : PyData) (b : List PyData) : PyData.eqvAll (y :: b) [] = false := by rw [PyData.eqvAll]
@[simp] theorem eqv_ni (i : Int) : PyData.eqv .none (.int i) = false := by rw [PyData.eqv]
@[simp] theorem eqv_in (i : Int) : PyData.eqv (.int i) .none = false := by rw [PyData.eqv]
@[simp] theorem eqv_nl (i : List PyData) : PyData.eqv .none (.list i) = false := by rw [PyData.eqv]
@[simp] theorem eqv_nt (i : List PyData) : PyData.eqv .none (.tuple i) = false := by rw [PyData.eqv]
@[simp] theorem eqv_ln (i : List PyData) : PyData.eqv (.list i) .none = false := by rw [PyData.eqv]
@[simp] theorem eqv_tn (i : List PyData) : PyData.eqv (.tuple i) .none = false := by rw [PyData.eqv]
@[simp] theorem dep_i (i : Int) : (PyData.int i).depth = 0 := by rw [PyData.depth]
@[simp] theorem dep_b (i : Bool) : (PyData.bool i).depth = 0 := by rw [PyData.depth]
@[simp] theorem dep_s (i : Str) : (PyData.str i).depth = 0 := by rw [PyData.depth]
@[simp] theorem dep_n : PyData.none.depth = 0 := by rw [PyData.depth]
@[simp] theorem dep_l (xs : List PyData) : (PyData.list xs).depth = PyData.depthAll xs + 1 := by rw [PyData.depth]
@[simp] theorem dep_t (xs : List PyData) : (PyData.tuple xs).depth = PyData.depthAll xs + 1 := by rw [PyData.depth]
@[simp] theorem depA_n : PyData.depthAll [] = 0 := by rw [PyData.depthAll]
@[simp] theorem depA_c (x : PyData) (xs : List PyData) : PyData.depthAll (x :: xs) = max x.depth (PyData.depthAll xs) := by rw [PyData.depthAll]
def eqR (x y : Option PyData) (h : Hm) : R T := match x, y with
  | some a, some b => if min a.depth b.depth ≤ 150 then .ok (.bl (PyData.eqv a b)) h else .bad
  | _, _ => .bad
def neR (x y : Option PyData) (h : Hm) : R T := match x, y with
  | some a, some b => if min a.depth b.depth ≤ 150 then .ok (.bl (!PyData.eqv a b)) h else .bad
  | _, _ => .bad
@[simp] theorem eqR_s (a b : PyData) : eqR (some a) (some b) h = if min a.depth b.depth ≤ 150 then .ok (.bl (PyData.eqv a b)) h else .bad := rfl
@[simp] theorem neR_s (a b : PyData) : neR (some a) (some b) h = if min a.depth b.depth ≤ 150 then .ok (.bl (!PyData.eqv a b)) h else .bad := rfl
@[simp] theorem opEq_b (i : Bool) (y : T) : opEq (.bl i) y h = eqR (some (.bool i)) (y.toDh h) h := rfl
@[simp] theorem opNe_b (i : Bool) (y : T) : opNe (.bl i) y h = neR (some (.bool i)) (y.toDh h) h := rfl
@[simp] theorem opEq_s (i : Str) (y : T) : opEq (.str i) y h = eqR (some (.str i)) (y.toDh h) h := rfl
@[simp] theorem opNe_s (i : Str) (y : T) : opNe (.str i) y h = neR (some (.str i)) (y.toDh h) h := rfl
@[simp] theorem opEq_l (i : List T) (y : T) : opEq (.lst i) y h = eqR ((T.toDs i).map .list) (y.toDh h) h := rfl
@[simp] theorem opNe_l (i : List T) (y : T) : opNe (.lst i) y h = neR ((T.toDs i).map .list) (y.toDh h) h := rfl
@[simp] theorem opEq_t (i : List T) (y : T) : opEq (.tup i) y h = eqR ((T.toDs i).map .tuple) (y.toDh h) h := rfl
@[simp] theorem opNe_t (i : List T) (y : T) : opNe (.tup i) y h = neR ((T.toDs i).map .tuple) (y.toDh h) h := rfl
@[simp] theorem opEq_n (y : T) : opEq .non y h = eqR (some .none) (y.toDh h) h := rfl
@[simp] theorem opNe_n (y : T) : opNe .non y h = neR (some .none) (y.toDh h) h := rfl
theorem toDs_ints (ns : List Int) : T.toDs (ns.map T.int) = some (ns.map PyData.int) := by
  induction ns with
  | nil => rfl
  | cons n ns ih => rw [List.map_cons, toDs_cons', ih]; rfl
theorem toDs_bools (ns : List Bool) : T.toDs (ns.map T.bl) = some (ns.map PyData.bool) := by
  induction ns with
  | nil => rfl
  | cons n ns ih => rw [List.map_cons, toDs_cons', ih]; rfl
theorem depA_ints (ns : List Int) : PyData.depthAll (ns.map PyData.int) = 0 := by
  induction ns with
  | nil => simp
  | cons n ns ih => simp [ih]
theorem depA_bools (ns : List Bool) : PyData.depthAll (ns.map PyData.bool) = 0 := by
  induction ns with
  | nil => simp
  | cons n ns ih => simp [ih]
theorem eqvA_ints : ∀ ns ms : List Int, PyData.eqvAll (ns.map PyData.int) (ms.map PyData.int) = decide (ns = ms)
  | [], [] => by simp
  | [], _ :: _ => by simp
  | _ :: _, [] => by simp
  | n :: ns, m :: ms => by
    rw [List.map_cons, List.map_cons, eqvA_cc, eqv_ii, eqvA_ints ns ms]
    simp
theorem eqvA_bools : ∀ ns ms : List Bool, PyData.eqvAll (ns.map PyData.bool) (ms.map PyData.bool) = decide (ns = ms)
  | [], [] => by simp
  | [], _ :: _ => by simp
  | _ :: _, [] => by simp
  | n :: ns, m :: ms => by
    rw [List.map_cons, List.map_cons, eqvA_cc, eqv_bb, eqvA_bools ns ms]
    simp
theorem eq_ints (ns ms : List Int) : opEq (.lst (ns.map T.int)) (.lst (ms.map T.int)) h = .ok (.bl (decide (ns = ms))) h := by
  rw [opEq_l, toDh_lst, toDs_ints, toDs_ints]
  simp [depA_ints, eqvA_ints]
theorem eq_bools (ns ms : List Bool) : opEq (.lst (ns.map T.bl)) (.lst (ms.map T.bl)) h = .ok (.bl (decide (ns = ms))) h := by
  rw [opEq_l, toDh_lst, toDs_bools, toDs_bools]
  simp [depA_bools, eqvA_bools]
/-! ### None -/
@[simp] theorem isN_n : opIsN .non .non h = .ok (.bl true) h := rfl
@[simp] theorem isN_o (c : Nat) (fs : List (Nat × T)) : opIsN (.obj c fs) .non h = .ok (.bl false) h := rfl
@[simp] theorem isN_t (xs : List T) : opIsN (.tup xs) .non h = .ok (.bl false) h := rfl
@[simp] theorem isN_i (i : Int) : opIsN (.int i) .non h = .ok (.bl false) h := rfl
@[simp] theorem notN_n : opNotN .non .non h = .ok (.bl false) h := rfl
@[simp] theorem notN_o (c : Nat) (fs : List (Nat × T)) : opNotN (.obj c fs) .non h = .ok (.bl true) h := rfl
@[simp] theorem notN_t (xs : List T) : opNotN (.tup xs) .non h = .ok (.bl true) h := rfl
/-! ### in own classes -/
theorem inK_o (x : T) (c : Nat) (fs : List (Nat × T)) : opInK nc ow ms x (.obj c fs) h = (dunB ms (.obj c fs) [x] h).bind fun t h1 => (asB t h1).bind fun b h2 => .ok (.bl b) h2 := by
  have e : (isStr (.obj c fs) || bothData x (.obj c fs) h) = false := by
    show (false || (x.toD.isSome && false)) = false
    simp
  unfold opInK
  rw [e]
  rfl
/-! ### lists, tuples, all, any -/
@[simp] theorem gList_t (xs : List T) : gList [.tup xs] h = .ok (.lst xs) h := rfl
@[simp] theorem gList_l (xs : List T) : gList [.lst xs] h = .ok (.lst xs) h := rfl
@[simp] theorem gTuple_t (xs : List T) : gTuple [.tup xs] h = .ok (.tup xs) h := rfl
@[simp] theorem gTuple_l (xs : List T) : gTuple [.lst xs] h = .ok (.tup xs) h := rfl
@[simp] theorem gLen_l (xs : List T) : gLenK ms [.lst xs] h = .ok (.int (xs.length : Nat)) h := rfl
@[simp] theorem gLen_t (xs : List T) : gLenK ms [.tup xs] h = .ok (.int (xs.length : Nat)) h := rfl
def allR (o : Option Bool) (h : Hm) : R T := match o with
  | some b => .ok (.bl b) h
  | none => .bad
@[simp] theorem allR_s (b : Bool) : allR (some b) h = .ok (.bl b) h := rfl
@[simp] theorem gAll_l (xs : List T) : gAll [.lst xs] h = allR (allB xs) h := rfl
@[simp] theorem gAny_l (xs : List T) : gAny [.lst xs] h = allR (anyB xs) h := rfl
@[simp] theorem allB_n : allB [] = some true := rfl
@[simp] theorem allB_c (b : Bool) (r : List T) : allB (.bl b :: r) = (allB r).map (b && ·) := rfl
@[simp] theorem anyB_n : anyB [] = some false := rfl
@[simp] theorem anyB_c (b : Bool) (r : List T) : anyB (.bl b :: r) = (anyB r).map (b || ·) := rfl
theorem allB_map (bs : List Bool) : allB (bs.map T.bl) = some (bs.all id) := by
  induction bs with
  | nil => rfl
  | cons b bs ih => rw [List.map_cons, allB_c, ih]; rfl
theorem anyB_map (bs : List Bool) : anyB (bs.map T.bl) = some (bs.any id) := by
  induction bs with
  | nil => rfl
  | cons b bs ih => rw [List.map_cons, anyB_c, ih]; rfl
theorem allB_rep (n : Nat) : allB (List.replicate n (.bl true)) = some true := by
  induction n with
  | zero => rfl
  | succ n ih => rw [List.replicate_succ, allB_c, ih]; rfl
@[simp] theorem repr_i (ms : Ms) (i : Int) (h : Hm) : gRepr ms [.int i] h = if decide (i.natAbs.log2 < 1920) then .ok (.str (nT i)) h else .bad := rfl
@[simp] theorem repr_n (ms : Ms) (h : Hm) : gRepr ms [.non] h = .ok (.str "None") h := rfl
@[simp] theorem repr_b (ms : Ms) (b : Bool) (h : Hm) : gRepr ms [.bl b] h = .ok (.str (if b then "True" else "False")) h := rfl
@[simp] theorem repr_s (ms : Ms) (x : Str) (h : Hm) : gRepr ms [.str x] h = if (reprText x).length ≤ sizeLine then .ok (.str (reprText x)) h else .bad := rfl
@[simp] theorem str_n (ms : Ms) (h : Hm) : gStr ms [.non] h = .ok (.str "None") h := rfl
@[simp] theorem str_b (ms : Ms) (b : Bool) (h : Hm) : gStr ms [.bl b] h = .ok (.str (if b then "True" else "False")) h := rfl
@[simp] theorem repr_t (ms : Ms) (xs : List T) (h : Hm) : gRepr ms [.tup xs] h = showD (.tup xs) h := rfl
@[simp] theorem rangeT_0 (lo : Int) : rangeT lo 0 = [] := rfl
theorem rangeT_eq (lo : Int) (n : Nat) : rangeT lo n = ((List.range n).map fun i => lo + (i : Nat)).map T.int := by
  unfold rangeT
  rw [List.map_map]
  rfl
/-! ### comprehensions of any length -/
theorem lcL_map {g : GT} {tt : BT} {te : ET} {w : StT} (h : Hm) (f : T → Bool) (v : T → T) (gs : T → StT) : ∀ ts : List T,
    (∀ t ∈ ts, g t w h = .ok (gs t) h ∧ tt (gs t) h = .ok (f t) h ∧ (f t = true → te (gs t) h = .ok (v t) h)) → lcL g tt te w ts h = .ok ((ts.filter f).map v) h
  | [], _ => rfl
  | t :: ts, q => by
    obtain ⟨q1, q2, q3⟩ := q t (by simp)
    have ih := lcL_map h f v gs ts fun z hz => q z (by simp [hz])
    rw [lcL_cons, q1]
    dsimp only
    rw [q2]
    cases e : f t with
    | true =>
      dsimp only
      rw [q3 e]
      dsimp only
      rw [ih, List.filter_cons_of_pos e]
      rfl
    | false =>
      dsimp only
      rw [ih, List.filter_cons_of_neg (by simp [e])]
end
/-! ### the pool of a law's draws -/
def Pool (h : Hm) (l k : Nat) : Prop := ∃ s d : Int, h[l]? = some (some (.lst [.int s, .int d, .int (k : Int)])) ∧ 0 ≤ s ∧ s < 2147483323
theorem Pool.lt {h : Hm} {l k : Nat} (p : Pool h l k) : l < h.length := let ⟨_, _, e, _⟩ := p; (List.getElem?_eq_some_iff.mp e).1
theorem Pool.app {h : Hm} {l k : Nat} (p : Pool h l k) (h2 : Hm) : Pool (h ++ h2) l k := let ⟨s, d, e, q⟩ := p; ⟨s, d, by rw [List.getElem?_append_left p.lt]; exact e, q⟩
theorem Pool.other {h : Hm} {l k j : Nat} (p : Pool h l k) (c : Option Cell) (hj : j ≠ l) : Pool (h.set j c) l k := let ⟨s, d, e, q⟩ := p; ⟨s, d, by rw [List.getElem?_set_ne hj]; exact e, q⟩
theorem set_app {h : Hm} {l : Nat} (hl : l < h.length) (c : Option Cell) (h2 : Hm) : (h ++ h2).set l c = h.set l c ++ h2 := List.set_append_left l c hl
def LIMT : Int := 10 ^ 200
theorem limt {i : Int} (h1 : 0 ≤ i) (h2 : i ≤ LIMT) : fit i = true := fit_small h1 h2
theorem limt18 : (10 : Int) ^ 18 ≤ LIMT := by decide +kernel
theorem limt60 : (10 : Int) ^ 60 ≤ LIMT := by decide +kernel
theorem limt75 : (10 : Int) ^ 75 ≤ LIMT := by decide +kernel
theorem ixR_nat {xs : List T} {k : Nat} {t : T} (e : xs[k]? = some t) (h : Hm) : ixR xs (k : Int) h = .ok t h := by
  unfold ixR
  rw [L2.atI_nat e]
theorem cut_ints (ns : List Int) (l u : Option Int) : ∃ ms : List Int, cutT (ns.map T.int) l u = ms.map T.int := by
  unfold cutT
  exact ⟨(ns.drop _).take _, by rw [List.map_take, List.map_drop]⟩
def cellsN (ns : List Int) : Nat := max 2 (min ns.length 6)
theorem cellsN_le (ns : List Int) : cellsN ns ≤ 6 := by unfold cellsN; omega
theorem cellsN_eq (ns : List Int) : ((cellsN ns : Nat) : Int) = if 2 < (if 6 < (ns.length : Int) then (6 : Int) else (ns.length : Int)) then (if 6 < (ns.length : Int) then (6 : Int) else (ns.length : Int)) else 2 := by
  unfold cellsN
  split <;> split at * <;> omega
theorem small_nat {k n : Nat} (h : k ≤ n) (hn : n ≤ 1000000000000 := by decide) : small62 (k : Int) = true := by
  unfold small62
  rw [decide_eq_true (show -(2 ^ 62) ≤ (k : Int) by omega), decide_eq_true (show (k : Int) < 2 ^ 62 by omega)]
  rfl
theorem lc_trueL {n : Nat} (i : Nat) {st : StT} {te : ET} (hte : ∀ (k : Nat) (h : Hm), k ≤ n → ∃ h', te (st.set i (some (.int (k : Nat)))) h = .ok (.bl true) h') : ∀ (ks : List Nat) (h : Hm), (∀ k ∈ ks, k ≤ n) → ∃ h', lcL (gNm i) bYes te st (ks.map fun k => .int (0 + (k : Nat))) h = .ok (List.replicate ks.length (.bl true)) h'
  | [], h, _ => ⟨h, rfl⟩
  | k :: ks, h, hk => by
    obtain ⟨h1, e1⟩ := hte k h (hk k (by simp))
    obtain ⟨h', e4⟩ := lc_trueL i hte ks h1 fun z hz => hk z (by simp [hz])
    refine ⟨h', ?_⟩
    rw [List.map_cons, lcL_cons, Int.zero_add]
    simp only [gNm_, bYes_, e1, e4]
    rfl
theorem lc_true {n : Nat} (i : Nat) {st : StT} {te : ET} (hte : ∀ (k : Nat) (h : Hm), k ≤ n → ∃ h', te (st.set i (some (.int (k : Nat)))) h = .ok (.bl true) h') (v : Nat) (hv : v ≤ n) (h : Hm) : ∃ h', lcL (gNm i) bYes te st (rangeT 0 ((v : Nat) : Int).toNat) h = .ok (List.replicate v (.bl true)) h' := by
  obtain ⟨h', e⟩ := lc_trueL i hte (List.range v) h fun k hk => by have := List.mem_range.mp hk; omega
  rw [List.length_range] at e
  exact ⟨h', e⟩
theorem seq_nx {x y : SM} {st st' : StT} {h h' : Hm} (e : x st h = .ok (.nx st') h') : sSeq x y st h = y st' h' := by rw [sSeq_, e]
theorem seq_ret {x y : SM} {st : StT} {t : T} {h h' : Hm} (e : x st h = .ok (.ret t) h') : sSeq x y st h = .ok (.ret t) h' := by rw [sSeq_, e]
theorem sq_set_set (h : Hm) (l : Nat) (c d : Option Cell) : (h.set l c).set l d = h.set l d := List.set_set ..
theorem run_ret {n : Nat} {b : SM} {ts : List T} {h h' : Hm} {t : T} (e : b (st0 n ts) h = .ok (.ret t) h') (hn : t.noRef = true) : RT.run n b ts h = .ok t (h'.take h.length) := by
  rw [run_, e, endOf_ret, fin_ok, if_pos hn]
theorem run_nx {n : Nat} {b : SM} {ts : List T} {h h' : Hm} {st : StT} (e : b (st0 n ts) h = .ok (.nx st) h') : RT.run n b ts h = .ok .non (h'.take h.length) := by
  rw [run_, e, endOf_nx, fin_ok, if_pos nr_non]
theorem lc_rangeF {i : Nat} {st : StT} {tt : BT} {te : ET} {f : Nat → Bool} {v : Nat → T} (h : Hm) : ∀ ks : List Nat,
    (∀ k ∈ ks, tt (st.set i (some (.int (k : Int)))) h = .ok (f k) h ∧ (f k = true → te (st.set i (some (.int (k : Int)))) h = .ok (v k) h)) → lcL (gNm i) tt te st (ks.map fun (k : Nat) => .int (0 + (k : Int))) h = .ok ((ks.filter f).map v) h
  | [], _ => rfl
  | k :: ks, q => by
    obtain ⟨q1, q2⟩ := q k (by simp)
    have ih := lc_rangeF h ks fun z hz => q z (by simp [hz])
    rw [List.map_cons, lcL_cons, Int.zero_add, gNm_]
    dsimp only
    rw [q1]
    cases e : f k with
    | true =>
      dsimp only
      rw [q2 e]
      dsimp only
      rw [ih, List.filter_cons_of_pos e]
      rfl
    | false =>
      dsimp only
      rw [ih, List.filter_cons_of_neg (by simp [e])]
theorem lc_range {i : Nat} {st : StT} {te : ET} {v : Nat → T} (n : Nat) (h : Hm) (q : ∀ k, k < n → te (st.set i (some (.int (k : Int)))) h = .ok (v k) h) : lcL (gNm i) bYes te st (rangeT 0 n) h = .ok ((List.range n).map v) h := by
  have := lc_rangeF (i := i) (st := st) (tt := bYes) (te := te) (f := fun _ => true) (v := v) h (List.range n) fun k hk => ⟨rfl, fun _ => q k (List.mem_range.mp hk)⟩
  rw [List.filter_eq_self.mpr (by simp)] at this
  exact this
theorem lc_rangeT {i : Nat} {st : StT} {tt : BT} {te : ET} {f : Nat → Bool} {v : Nat → T} (n : Nat) (h : Hm) (q : ∀ k, k < n → tt (st.set i (some (.int (k : Int)))) h = .ok (f k) h ∧ te (st.set i (some (.int (k : Int)))) h = .ok (v k) h) : lcL (gNm i) tt te st (rangeT 0 n) h = .ok (((List.range n).filter f).map v) h :=
  lc_rangeF (i := i) (st := st) (tt := tt) (te := te) (f := f) (v := v) h (List.range n) fun k hk => ⟨(q k (List.mem_range.mp hk)).1, fun _ => (q k (List.mem_range.mp hk)).2⟩
end RT
set_option Elab.async false
set_option linter.all false
set_option maxRecDepth 100000
set_option maxHeartbeats 4000000
/-! RT, part s: while loops in plain proofs. -/
namespace RT
open PySem
section
variable {c : BT} {b : SM}
theorem whileN_succ (n : Nat) (st : StT) (h : Hm) : whileN c b (n + 1) st h = (c st h).th st fun t h1 => if t then (match b st h1 with
    | .ok (.nx a') h' => whileN c b n a' h'
    | .ok (.cont a') h' => whileN c b n a' h'
    | .ok (.brk a') h' => .ok (.nx a') h'
    | r => r) else .ok (.nx st) h1 := rfl
theorem whileN_mono : ∀ (n : Nat) (st : StT) (h : Hm), (whileN c b n st h).isBad = false → ∀ m, n ≤ m → whileN c b m st h = whileN c b n st h
  | 0, st, h, e, _, _ => by cases e
  | n + 1, st, h, e, m, hm => by
    obtain ⟨m, rfl⟩ : ∃ k, m = k + 1 := ⟨m - 1, by omega⟩
    rw [whileN_succ] at e
    rw [whileN_succ, whileN_succ]
    cases q : c st h with
    | ok t h1 =>
      rw [q] at e
      simp only [th_ok] at e ⊢
      cases t with
      | false => rfl
      | true =>
        simp only [if_true] at e ⊢
        cases r : b st h1 with
        | ok x h' =>
          rw [r] at e
          cases x with
          | nx a' => exact whileN_mono n a' h' e m (by omega)
          | cont a' => exact whileN_mono n a' h' e m (by omega)
          | _ => rfl
        | _ => rfl
    | _ => rfl
theorem sWhile_eq {n : Nat} {st : StT} {h : Hm} (e : (whileN c b n st h).isBad = false) : sWhile c b st h = whileN c b n st h := by
  have ex : ∃ n, (whileN c b n st h).isBad = false := ⟨n, e⟩
  unfold sWhile
  rw [dif_pos ex]
  have e2 := Classical.choose_spec ex
  rcases Nat.le_total n (Classical.choose ex) with l | l
  · exact whileN_mono n st h e _ l
  · exact (whileN_mono _ st h e2 _ l).symm
/-- a loop by an invariant and a measure; its heap may change -/
theorem while_ok (I : StT → Hm → Prop) (μ : StT → Nat) (Q : StT → Hm → Prop)
    (step : ∀ st h, I st h → (c st h = .ok false h ∧ Q st h) ∨ (c st h = .ok true h ∧ ∃ st' h', b st h = .ok (.nx st') h' ∧ I st' h' ∧ μ st' < μ st)) :
    ∀ (st : StT) (h : Hm), I st h → ∃ st' h', sWhile c b st h = .ok (.nx st') h' ∧ Q st' h' := by
  have key : ∀ (k : Nat) (st : StT) (h : Hm), μ st ≤ k → I st h → ∃ n st' h', whileN c b n st h = .ok (.nx st') h' ∧ Q st' h' := by
    intro k
    induction k with
    | zero =>
      intro st h hk i
      rcases step st h i with ⟨e, q⟩ | ⟨e, st', h', e2, i2, lt⟩
      · exact ⟨1, st, h, by rw [whileN_succ, e]; rfl, q⟩
      · omega
    | succ k ih =>
      intro st h hk i
      rcases step st h i with ⟨e, q⟩ | ⟨e, st', h', e2, i2, lt⟩
      · exact ⟨1, st, h, by rw [whileN_succ, e]; rfl, q⟩
      · obtain ⟨n, st2, h2, e3, q⟩ := ih st' h' (by omega) i2
        exact ⟨n + 1, st2, h2, by rw [whileN_succ, e]; simp only [th_ok, if_true]; rw [e2]; exact e3, q⟩
  intro st h i
  obtain ⟨n, st', h', e, q⟩ := key _ st h (Nat.le_refl _) i
  exact ⟨st', h', by rw [sWhile_eq (n := n) (by rw [e]; rfl), e], q⟩
/-- the heap stays -/
theorem while_h (h : Hm) (I : StT → Prop) (μ : StT → Nat) (Q : StT → Prop)
    (step : ∀ st, I st → (c st h = .ok false h ∧ Q st) ∨ (c st h = .ok true h ∧ ∃ st', b st h = .ok (.nx st') h ∧ I st' ∧ μ st' < μ st)) (st : StT) (i : I st) :
    ∃ st', sWhile c b st h = .ok (.nx st') h ∧ Q st' := by
  obtain ⟨st', h', e, hq, q⟩ := while_ok (c := c) (b := b) (fun st h' => h' = h ∧ I st) μ (fun st h' => h' = h ∧ Q st) (fun st h' ⟨e, i⟩ => by
    subst e
    rcases step st i with ⟨e, q⟩ | ⟨e, st', e2, i2, lt⟩
    · exact .inl ⟨e, rfl, q⟩
    · exact .inr ⟨e, st', h', e2, ⟨rfl, i2⟩, lt⟩) st h ⟨rfl, i⟩
  subst hq
  exact ⟨st', e, q⟩
end
theorem fit_abs {i j : Int} (h1 : -j ≤ i) (h2 : i ≤ j) (f : fit j = true) : fit i = true := by
  have := fit_lt f
  unfold fit
  refine decide_eq_true ?_
  show i.natAbs < 2 ^ 1900
  omega
/-- for k in range(n), by an invariant -/
theorem for_rng {i : Nat} {b : SM} (I : Nat → StT → Hm → Prop) (n : Nat) (step : ∀ k st h, k < n → I k st h → ∃ st' h', b (st.set i (some (.int (k : Int)))) h = .ok (.nx st') h' ∧ I (k + 1) st' h') (st : StT) (h : Hm) (h0 : I 0 st h) :
    ∃ st' h', forL (gNm i) b (rangeT 0 n) st h = .ok (.nx st') h' ∧ I n st' h' := by
  have key : ∀ (m k : Nat) (st : StT) (h : Hm), k + m = n → I k st h → ∃ st' h', forL (gNm i) b ((List.range' k m).map fun (k : Nat) => T.int (0 + (k : Int))) st h = .ok (.nx st') h' ∧ I n st' h' := by
    intro m
    induction m with
    | zero =>
      intro k st h e i0
      have : k = n := by omega
      subst this
      exact ⟨st, h, rfl, i0⟩
    | succ m ih =>
      intro k st h e i0
      obtain ⟨st1, h1, e1, i1⟩ := step k st h (by omega) i0
      obtain ⟨st2, h2, e2, i2⟩ := ih (k + 1) st1 h1 (by omega) i1
      refine ⟨st2, h2, ?_, i2⟩
      rw [List.range'_succ, List.map_cons, forL_cons, Int.zero_add, gNm_]
      dsimp only
      rw [e1]
      exact e2
  obtain ⟨st', h', e, q⟩ := key n 0 st h (by omega) h0
  refine ⟨st', h', ?_, q⟩
  unfold rangeT
  rw [List.range_eq_range']
  exact e
end RT
set_option Elab.async false
set_option linter.all false
set_option maxRecDepth 100000
set_option maxHeartbeats 4000000
/-! RT, part t: lists that are filled: append, pop, extend; a list cell frozen. -/
namespace RT
open PySem PySem.Spec L2
open PyProof.Rows hiding St
section
variable {C : RC} {P : Program} {w : World} {S : Sta} {mg : Str → Option Value} {base : Heap} {N : List Str} {sc : Scope} {k j : Nat} {pos : Pos}
/-! ### frozen by a ghost step -/
def sFrz (i : Nat) : SM := fun a h => match a[i]? with
  | some (some (.ref l)) => (match h[l]? with
    | some (some (.lst xs)) => .ok (.nx (a.set i (some (.lst xs)))) (h.set l none)
    | _ => .bad)
  | _ => .ok (.nx a) h
theorem set_same {A : Type} {xs : List A} {i : Nat} {x : A} (h : xs[i]? = some x) : xs.set i x = xs := by
  apply List.ext_getElem?
  intro j
  by_cases e : i = j
  · subst e
    rw [List.getElem?_set_self (List.getElem?_eq_some_iff.mp h).1, h]
  · rw [List.getElem?_set_ne e]
theorem jss_frz (i : Nat) {rest : List Stmt} {r : SM} (j : JSs C rest r) : JSs C rest (sSeq (sFrz i) r) := by
  refine ⟨fun pins s σ H D I hw => ?_⟩
  obtain ⟨a, G, h, rp, rs, o⟩ := hw
  have go : ∀ (a1 : StT) (h1 : Hm), sFrz i a h = .ok (.nx a1) h1 → OutS C H G (r a1 h1) D := fun a1 h1 e => by
    unfold sSeq at o
    rw [e] at o
    exact o
  by_cases hl : ∃ l, a[i]? = some (some (.ref l))
  · obtain ⟨l, el⟩ := hl
    by_cases hx : ∃ xs, h[l]? = some (some (.lst xs))
    · obtain ⟨xs, ex⟩ := hx
      have o' := go (a.set i (some (.lst xs))) (h.set l none) (by unfold sFrz; rw [el]; dsimp only; rw [ex])
      obtain ⟨v, e1, rv⟩ := rs.2 i _ el
      cases rv with
      | ref hmu =>
        rename_i p
        obtain ⟨p', u, k1, k2, k3, k4, k5⟩ := rp.cell l _ ex
        rw [hmu] at k1
        cases k1
        cases k3 with
        | lst rvs =>
          obtain ⟨st, rp2⟩ := rp.freeze hmu (by rw [k2]; simp)
          have rs2 := (rs.step st).set i (t := .lst xs) (v := .ref p) (.lst (.inl ⟨.inl rfl, .inl k2⟩) (rvs.step st))
          rw [set_same e1] at rs2
          exact j.run I rp2 rs2 (o'.step st)
    · exfalso
      have e : sFrz i a h = .bad := by
        unfold sFrz
        rw [el]
        dsimp only
        split
        · rename_i xs ex
          exact absurd ⟨xs, ex⟩ hx
        · rfl
      unfold sSeq at o
      rw [e] at o
      exact o
  · refine j.run I rp rs (go a h ?_)
    unfold sFrz
    split
    · rename_i l el
      exact absurd ⟨l, el⟩ hl
    · rfl
@[simp] theorem sFrz_ (i : Nat) (a : StT) (h : Hm) : sFrz i a h = match a[i]? with
  | some (some (.ref l)) => (match h[l]? with
    | some (some (.lst xs)) => .ok (.nx (a.set i (some (.lst xs)))) (h.set l none)
    | _ => .bad)
  | _ => .ok (.nx a) h := rfl

/-! ### methods of list cells -/
/-- x.m(..), x a list cell: what is handed back, what the list is then -/
def eCell (f : List T → List T → Option (T × List T)) (ro : ET) (ra : AT) : ET := fun a h => (ro a h).bind fun x h1 => match x with
  | .ref l => (match h1[l]? with
    | some (some (.lst _)) => (ra a h1).bind fun ys h2 => (match h2[l]? with
      | some (some (.lst xs)) => (match f xs ys with
        | some (t, zs) => .ok t (h2.set l (some (.lst zs)))
        | none => .bad)
      | _ => .bad)
    | _ => .bad)
  | _ => .bad
/-- a rule of it -/
def CellR (C : RC) (id : String) (f : List T → List T → Option (T × List T)) : Prop :=
  ∀ (pins : List (Addr × Obj)) (s : Shared) (σ : St) (H : Hp) (G : Gh) (h : Hm) (l : Nat) (p : Addr) (xs ys zs : List T) (t : T) (vx vs : List V) (us : List Value) (Q : VK), Inv C.X pins σ H s → RepH C.S H G h → G.mu[l]? = some p → h[l]? = some (some (.lst xs)) →
    H p = some (.lst vx) → RelTs C.S H G xs vx → T.noRefs xs = true → RelTs C.S H G ys vs → Vals vs us → f xs ys = some (t, zs) → Out C σ H G (relE C) (.ok t (h.set l (some (.lst zs)))) Q →
    wpAny (model C.X.prog C.X.w) C.X.A (call (.builtin id) (.ref p :: us)) (EP C.X pins σ Q) C.X.xe s
theorem cell_at {S : Sta} {H : Hp} {G : Gh} {h : Hm} (rp : RepH S H G h) {l : Nat} {p : Addr} {xs : List T} (hmu : G.mu[l]? = some p) (ex : h[l]? = some (some (.lst xs))) : ∃ vx, H p = some (.lst vx) ∧ RelTs S H G xs vx ∧ T.noRefs xs = true := by
  obtain ⟨p', u, k1, k2, k3, k4, k5⟩ := rp.cell l _ ex
  rw [hmu] at k1
  cases k1
  cases k3 with
  | lst rvs => exact ⟨_, k2, rvs, k5⟩
theorem je_cellM {f : List T → List T → Option (T × List T)} {name : Str} {id : String} (slot : Slot "list" name id) (hty : typeOf (.builtin id) = pure (.type "method_descriptor")) (hm : CellR C id f) {o e : Expr} {es : List Expr} {ro : ET} {ra : AT} {apos cpos : Pos} (jo : JE C o ro) (ja : JA C (e :: es) ra)
    (hbase : attributeBase o name C.X.env (eval o C.X.env) = eval o C.X.env := by rfl)
    (hfew : ((backTo cpos (starEach (e :: es) C.X.env)).all (fun x => !x.1) && (backToKw cpos (keywordEach [] C.X.env)).all (fun x => x.1.isSome)
      && decide ((e :: es).length + ([] : List Keyword).length + (if ([] : List Keyword).isEmpty then 0 else 1) < 30)) = true := by rfl)
    (hline : (apos.endLine == cpos.line) = true := by rfl) (hs : starEach (e :: es) C.X.env = (false, eval e C.X.env) :: starEach es C.X.env := by rfl) (hplain : (backTo cpos (starEach es C.X.env)).any (·.1) = false := by rfl) :
    JE C (.Call (.Attribute o name apos) (e :: es) [] cpos) (eCell f ro ra) := by
  refine ⟨fun pins s σ H Q I hw => ?_⟩
  obtain ⟨st, G, h, rp, rs, o1⟩ := hw
  refine wpAny_Call_method_late hbase hfew hline rfl (thn (jo.run I rp rs (Out.bind (Rel := relE C) o1)) fun v s1 ⟨x, H1, I1, r1, tx, G1, h1, st1, rp1, rx, o2⟩ => ?_)
  dsimp only at o2
  split at o2
  · rename_i l
    cases rx with
    | ref hmu =>
      rename_i p
      cases r1
      split at o2
      · rename_i xs0 ex0
        obtain ⟨vx0, hH0, _, _⟩ := cell_at rp1 hmu ex0
        obtain ⟨h1', h2'⟩ := tyV_is (T := "list") (x := .ref p) I1 rfl (.inl ⟨rfl, _, .inl (.inl hH0)⟩)
        refine ⟨"list", id, PySem.F.plainAttrs_list, slot, hty, h1', h2', ?_⟩
        have hA := ja.run cpos I1 rp1 (rs.step st1) (Out.bind (Rel := relA C) o2)
        rw [hs] at hA ⊢
        refine Calls.callWith_builtin (by show (false || (backTo cpos (starEach es C.X.env)).any (·.1)) = false; rw [hplain] <;> rfl) (Calls.evalArgs_plain ?_)
        refine thn hA fun us s2 ⟨vs, H2, I2, r2, ys, G2, h2, st2, rp2, rys, o3⟩ => ?_
        dsimp only at o3
        split at o3
        · rename_i xs ex
          split at o3
          · rename_i t zs ef
            have hmu2 := st2.get hmu
            obtain ⟨vx, hH, rxs, nx⟩ := cell_at rp2 hmu2 ex
            exact hm pins s2 σ H2 G2 h2 l p xs ys zs t vx vs us Q I2 rp2 hmu2 ex hH rxs nx rys r2 ef o3
          · exact False.elim o3
        · exact False.elim o3
      · exact False.elim o2
  · exact False.elim o2
def fAppend (xs ys : List T) : Option (T × List T) := match ys with
  | [y] => if decide (xs.length < sizeLine) && y.noRef then some (.non, xs ++ [y]) else none
  | _ => none
theorem cell_append : CellR C "list.append" fAppend := by
  intro pins s σ H G h l p xs ys zs t vx vs us Q I rp hmu ex hH rxs nx rys vu ef o
  unfold fAppend at ef
  split at ef
  · rename_i y
    split at ef
    · rename_i hc
      obtain ⟨hl, hn⟩ := band hc
      cases ef
      obtain ⟨vy, rfl, ry⟩ := rys.one
      obtain ⟨st, rp'⟩ := rp.set (o := .lst (vx ++ [vy])) hmu ex (c := .lst (xs ++ [y])) (.lst (rxs.app (.cons ry .nil))) (noRefs_app nx (by rw [T.noRefs, hn]; rfl))
      exact mt_append pins s σ H (.ref p) [vy] (.ref p) us Q I rfl vu ⟨p, vx, vy, rfl, rfl, hH, by rw [← rxs.length]; exact of_decide_eq_true hl, o .non _ _ st rp' .non⟩
    · cases ef
  · cases ef
def fPopAt (xs ys : List T) : Option (T × List T) := match ys with
  | [.int i] => if decide (-(2 ^ 63) ≤ i) && decide (i < 2 ^ 63) then (match seqIndex? i xs.length with
    | some k => (match xs[k]? with
      | some y => some (y, xs.eraseIdx k)
      | none => none)
    | none => none) else none
  | _ => none
theorem cell_popAt : CellR C "list.pop" fPopAt := by
  intro pins s σ H G h l p xs ys zs t vx vs us Q I rp hmu ex hH rxs nx rys vu ef o
  unfold fPopAt at ef
  split at ef
  · rename_i i
    split at ef
    · rename_i hc
      obtain ⟨b1, b2⟩ := band hc
      split at ef
      · rename_i k ek
        split at ef
        · rename_i y ey
          cases ef
          obtain ⟨vy, rfl, ry⟩ := rys.one
          cases ry
          obtain ⟨v, hv, rv⟩ := rxs.get ey
          obtain ⟨st, rp'⟩ := rp.set (o := .lst (vx.eraseIdx k)) hmu ex (c := .lst (xs.eraseIdx k)) (.lst (rxs.erase k)) (noRefs_erase nx)
          exact mt_popAt pins s σ H (.ref p) [.int i] (.ref p) us Q I rfl vu ⟨p, vx, i, k, v, rfl, rfl, hH, of_decide_eq_true b1, of_decide_eq_true b2, by rw [← rxs.length]; exact ek, hv, o v _ _ st rp' (rv.step st)⟩
        · cases ef
      · cases ef
    · cases ef
  · cases ef
def fExtend (xs ys : List T) : Option (T × List T) := match ys with
  | [.lst zs] => if decide (xs.length + zs.length ≤ sizeLine) && T.noRefs zs then some (.non, xs ++ zs) else none
  | _ => none
theorem cell_extend (ok : C.Ok) : CellR C "list.extend" fExtend := by
  intro pins s σ H G h l p xs ys zs t vx vs us Q I rp hmu ex hH rxs nx rys vu ef o
  unfold fExtend at ef
  split at ef
  · rename_i ws
    split at ef
    · rename_i hc
      obtain ⟨hl, hn⟩ := band hc
      have hl := of_decide_eq_true hl
      cases ef
      obtain ⟨vy, rfl, ry⟩ := rys.one
      cases ry with
      | lst hz rws =>
        rename_i b vw
        obtain ⟨u, rfl, ru⟩ := vals1 vu
        cases ru
        obtain ⟨its2, n2, r2, e2⟩ : ∃ (its2 : List Value) (n2 : Nat), Vals vw its2 ∧ s.heap.get? b = some { cls := .type "list", data := .seq its2.toArray n2 } := by
          rcases hz with ⟨_, rd⟩ | ⟨us, n, lk, _, r⟩
          · obtain ⟨_, its, n, r, e⟩ := rd.ok I.hok
            exact ⟨its, n, r, e⟩
          · rw [ok.K] at lk
            exact ⟨us, n, r, I.kIn b _ lk⟩
        obtain ⟨st, rp'⟩ := rp.set (o := .lst (vx ++ vw)) hmu ex (c := .lst (xs ++ ws)) (.lst (rxs.app rws)) (noRefs_app nx hn)
        obtain ⟨z, its, n, r, hl1, e⟩ := I.lstM hH
        have q1 := rxs.length
        have q2 := rws.length
        have q3 := r2.length
        have hsz : its.toArray.size + its2.toArray.size ≤ sizeLine := by rw [List.size_toArray, List.size_toArray]; omega
        have hlong : ¬ (!its.toArray.isEmpty && Builtin.List.listTooLong (its.toArray.size + its2.toArray.size)) = true := by
          rw [notLongL hsz, Bool.and_false]
          exact Bool.false_ne_true
        refine call_meets F.slot_list_extend ⟨_, e, rfl⟩ F.entry_list_extend (F.args_list_extend_2 _ _)
          (AutoSeq1.list_extend_list_list_0 p its.toArray n b its2.toArray n2 hlong (by rw [List.size_toArray]; omega) (by omega)) ⟨e, e2, ?_⟩
        refine ⟨.non, _, I.lset (its' := its ++ its2) hH e (by simp) (r.append r2) ?_, rfl, o .non _ _ st rp' .non⟩
        rw [List.length_append]
        omega
    · cases ef
  · cases ef
variable {o e : Expr} {es : List Expr} {ro : ET} {ra : AT} {apos cpos : Pos}
theorem app_ (cf : Cf C P w S mg base N sc k) (jo : JE C o ro) (ja : JA C [e] ra) (hbase : attributeBase o "append" C.X.env (eval o C.X.env) = eval o C.X.env := by rfl)
    (hline : (apos.endLine == cpos.line) = true := by rfl) (hs : starEach [e] C.X.env = (false, eval e C.X.env) :: starEach [] C.X.env := by rfl) : JE C (.Call (.Attribute o "append" apos) [e] [] cpos) (eCell fAppend ro ra) :=
  je_cellM PySem.F.slot_list_append PySem.F.type_list_append cell_append jo ja hbase (by rw [hs]; rfl) hline hs rfl
theorem pop1_ (cf : Cf C P w S mg base N sc k) (jo : JE C o ro) (ja : JA C [e] ra) (hbase : attributeBase o "pop" C.X.env (eval o C.X.env) = eval o C.X.env := by rfl)
    (hline : (apos.endLine == cpos.line) = true := by rfl) (hs : starEach [e] C.X.env = (false, eval e C.X.env) :: starEach [] C.X.env := by rfl) : JE C (.Call (.Attribute o "pop" apos) [e] [] cpos) (eCell fPopAt ro ra) :=
  je_cellM PySem.F.slot_list_pop PySem.F.type_list_pop cell_popAt jo ja hbase (by rw [hs]; rfl) hline hs rfl
theorem ext_ (cf : Cf C P w S mg base N sc k) (jo : JE C o ro) (ja : JA C [e] ra) (hbase : attributeBase o "extend" C.X.env (eval o C.X.env) = eval o C.X.env := by rfl)
    (hline : (apos.endLine == cpos.line) = true := by rfl) (hs : starEach [e] C.X.env = (false, eval e C.X.env) :: starEach [] C.X.env := by rfl) : JE C (.Call (.Attribute o "extend" apos) [e] [] cpos) (eCell fExtend ro ra) :=
  je_cellM PySem.F.slot_list_extend PySem.F.type_list_extend (cell_extend cf.ok) jo ja hbase (by rw [hs]; rfl) hline hs rfl
@[simp] theorem eCell_ (f : List T → List T → Option (T × List T)) (ro : ET) (ra : AT) (a : StT) (h : Hm) : eCell f ro ra a h = (ro a h).bind fun x h1 => match x with
  | .ref l => (match h1[l]? with
    | some (some (.lst _)) => (ra a h1).bind fun ys h2 => (match h2[l]? with
      | some (some (.lst xs)) => (match f xs ys with
        | some (t, zs) => .ok t (h2.set l (some (.lst zs)))
        | none => .bad)
      | _ => .bad)
    | _ => .bad)
  | _ => .bad := rfl
end
end RT
set_option Elab.async false
set_option linter.all false
set_option maxRecDepth 100000
set_option maxHeartbeats 4000000
/-! RT, part u: defs with a star parameter. -/
namespace RT
open PySem PySem.Spec L2
open PyProof.Rows hiding St
/-- m parameters, what is left over in a tuple -/
def arrV (m : Nat) (xs : List T) : List T := xs.take m ++ [.tup (xs.drop m)]
theorem rel_split {S : Sta} {H : Hp} {G : Gh} {xs : List T} {vs : List V} (m : Nat) (r : RelTs S H G xs vs) : RelTs S H G (xs.take m) (vs.take m) ∧ RelTs S H G (xs.drop m) (vs.drop m) := ⟨r.take m, r.drop m⟩
theorem vals_take {vs : List V} {us : List Value} (h : Vals vs us) : ∀ m, Vals (vs.take m) (us.take m) ∧ Vals (vs.drop m) (us.drop m) := by
  induction h with
  | nil => intro m; simp; exact .nil
  | cons a r ih =>
    intro m
    cases m with
    | zero => exact ⟨.nil, .cons a r⟩
    | succ m => exact ⟨.cons a (ih m).1, (ih m).2⟩
theorem fn_starG {P : Program} {w : World} {S : Sta} {mg : Str → Option Value} {base : Heap} {k : Nat} {f : Addr} {x qual : Str} {params : Arguments} {body : List Stmt} {scope : Scope} {kws : List (Str × V)} {fd : FuncData} {N ps : List Str} {pv : Str} {b : SM} {g : List T → Hm → R T}
    (F : FunD S.K x qual params body scope [] kws f fd) (Sc : FnScope N (ps ++ [pv]) scope)
    (hb : ∀ (kV doc pm cdv ct : Value) (an : Option Addr) (us rest : List Value), us.length = ps.length → bindArgs (PySem.W.fnOf x qual params body scope .none kV doc pm an cdv ct) ⟨us ++ rest, []⟩ = (newTuple rest >>= fun t => pure (ps.zip us ++ [(pv, t)])))
    (hg : ∀ ts H G h Q E, EndT S H G (g ts h) Q E → G.mu.length = h.length → EndT S H G (endOf (b (st0 N.length ts) h)) Q E)
    (hbody : ∀ (C : RC), C.Ok → C.X.prog = P → C.X.w = w → C.S = S → C.X.mg = mg → C.X.base = base → C.X.N = N → C.X.env.scope = scope → C.k = k → (∀ y, C.X.fn y = true) → PassesOwn (model C.X.prog C.X.w) C.X.A C.X.env C.X.xe → C.X.stack = C.X.env :: C.X.outer → C.X.env.frame = some C.X.env.locals → C.X.ex = [] → JSs C body b)
    (n : Nat) (hn : ps.length ≤ n) (hz : n ≤ sizeLine) : FnC P w S mg base (k + 1) f n [] (fun xs _ h => g (arrV ps.length xs) h) := by
  obtain ⟨oc, od, dV, kV, doc, pm, an, cdv, ct, osl, rfl, lk, hcd, hD, _⟩ := F.ex
  obtain rfl : dV = .none := by
    rcases hD with ⟨_, e⟩ | ⟨e, _⟩
    · exact e
    · exact absurd rfl e
  refine ⟨fun A outer s H G h xs zs vs vz us ws Q E hr gd e0 KX rp rx rz vu vw l1 l2 o => ?_⟩
  have hws : ws = [] := by simpa using l2
  subst hws
  have lx : xs.length = n := by rw [rx.length, vu.length]; exact l1
  have lv : vs.length = n := by rw [vu.length]; exact l1
  obtain ⟨r1, r2⟩ := vals_take vu ps.length
  have hn0 : H s.heap.objs.size = Option.none := e0.hok.fresh (Nat.le_refl _)
  have hl1 : (us.take ps.length).length = ps.length := by rw [List.length_take]; omega
  have hl2 : (us.drop ps.length).length ≤ sizeLine := by rw [List.length_drop]; omega
  have hl3 : (vs.take ps.length).length = ps.length := by rw [List.length_take]; omega
  have hl4 : (vs.drop ps.length).length ≤ sizeLine := by rw [List.length_drop]; omega
  have eu : us = us.take ps.length ++ us.drop ps.length := (List.take_append_drop _ _).symm
  refine StX.run_bnd lk hcd Sc hr e0 (G := fun ys H2 => ∃ p, H p = Option.none ∧ ys = vs.take ps.length ++ [V.ref p] ∧ H2 = upd H p (.tup (vs.drop ps.length))) (fun A' Ex Q' hq => ?_) fun s2 H2 ys ⟨p, hp, ex, eH⟩ hr' => ?_
  · show wpAny _ _ (bindArgs _ ⟨us, []⟩) _ _ _
    rw [eu, hb _ _ _ _ _ _ _ _ hl1]
    refine wpAny_bind (wpAny_newTuple (wpAny_pure ?_) hl2)
    have new : ObjOk P w (upd H s.heap.objs.size (.tup (vs.drop ps.length))) (s.heap.push ({ cls := .type "tuple", data := .seq (us.drop ps.length).toArray } : Obj)) s.heap.objs.size (.tup (vs.drop ps.length)) := ⟨hl4, us.drop ps.length, r2, ⟨_, Heap.get?_push_size _ rfl, rfl, _, rfl⟩⟩
    have un := StX.un_laid (fs := frs outer) (s := s) (o := ({ cls := .type "tuple", data := .seq (us.drop ps.length).toArray } : Obj)) (u := .tup (vs.drop ps.length)) hn0
    have z := hq _ _ (vs.take ps.length ++ [V.ref s.heap.objs.size]) (us.take ps.length ++ [Value.ref s.heap.objs.size]) (StX.env0_laid e0 new) un rfl (fun e s' => StX.cxUp outer s H _ _ E e s' un (fun b o q => Heap.get?_push_of_some _ q) rfl) (r1.append (.cons rfl .nil))
      (by rw [List.length_append, List.length_append, hl3] <;> rfl) ⟨_, hn0, rfl, rfl⟩
    rw [List.zip_append hl1.symm] at z
    exact z
  · subst ex eH
    obtain ⟨st, rp'⟩ := rp.newF (o := .tup (vs.drop ps.length)) hp
    have rt : RelTs S (upd H p (.tup (vs.drop ps.length))) (G.fz p) (arrV ps.length xs) (vs.take ps.length ++ [V.ref p]) :=
      ((rx.take ps.length).step st).app (.cons (.tup (.inl ⟨.inl rfl, .inl upd_same⟩) ((rx.drop ps.length).step st)) .nil)
    have ok : (bodyC P w S mg base N qual scope f cdv A outer s2 (upd H p (.tup (vs.drop ps.length))) E k).Ok := by
      refine ⟨rfl, rfl, hr', (GdK.mono (A := A) gd (Nat.le_succ k)), Sc.nd, ?_⟩
      exact takes_of (X := cxOf (L2.CX P w) P w S.K mg base N qual scope f cdv A outer s2 (upd H p (.tup (vs.drop ps.length))) E) rfl rfl rfl rfl
    have jb := hbody (bodyC P w S mg base N qual scope f cdv A outer s2 (upd H p (.tup (vs.drop ps.length))) E k) ok rfl rfl rfl rfl rfl rfl rfl rfl (fun _ => rfl) (passes_of (X := cxOf (L2.CX P w) P w S.K mg base N qual scope f cdv A outer s2 (upd H p (.tup (vs.drop ps.length))) E) rfl) rfl rfl rfl
    refine ⟨_, jb, st0 N.length (arrV ps.length xs), G.fz p, h, rp', ?_, EndT.outS (fun _ _ _ _ z => z) (hg _ _ _ _ _ _ (o.step st) rp.len.symm)⟩
    have l2 := rt.length
    refine ⟨by unfold st0 L2.start; rw [List.length_append, List.length_append, List.length_map, List.length_map, List.length_replicate, List.length_replicate, l2], fun i t e => ?_⟩
    have hi : i < (arrV ps.length xs).length := by
      by_cases hi : i < (arrV ps.length xs).length
      · exact hi
      · unfold st0 at e
        rw [List.getElem?_append_right (by simpa using hi), List.getElem?_replicate] at e
        split at e <;> cases e
    have e1 : (arrV ps.length xs)[i]? = some t := by
      unfold st0 at e
      rw [List.getElem?_append_left (by simpa using hi), List.getElem?_map] at e
      cases q : (arrV ps.length xs)[i]? with
      | none => rw [q] at e; cases e
      | some a => rw [q] at e; cases e; rfl
    obtain ⟨v, h1, h2⟩ := rt.get e1
    refine ⟨v, ?_, h2⟩
    unfold L2.start
    rw [List.getElem?_append_left (by rw [List.length_map, ← l2]; exact hi), List.getElem?_map, h1]
    rfl
/-- its promise, by facts -/
structure FnV (P : Program) (w : World) (S : Sta) (mg : Str → Option Value) (base : Heap) (k : Nat) (d : He.DefD) (m : Nat) (g : List T → Hm → R T) : Prop where
  ex : (∃ fd, FunD S.K d.name d.qual d.params d.body d.scope (d.dvs S.K) (d.kws S.K) (He.fAd S.K d.at_) fd) ∧ ∀ n, m ≤ n → n ≤ sizeLine → FnC P w S mg base k (He.fAd S.K d.at_) n [] (fun xs _ h => g (arrV m xs) h)
section
variable {C : RC} {P : Program} {w : World} {S : Sta} {mg : Str → Option Value} {base : Heap} {N : List Str} {sc : Scope} {k j : Nat} {pos : Pos} {d : He.DefD} {m : Nat} {g : List T → Hm → R T}
theorem FnV.ca (F : FnV P w S mg base j d m g) (cf : Cf C P w S mg base N sc k) (n : Nat) (hm : m ≤ n) (hz : n ≤ 1000000) (hj : j ≤ k) : CaK C (.ref (He.fAd S.K d.at_)) n [] (fun xs _ h => g (arrV m xs) h) ∧ PySem.W.keepIn C.X.K (.ref (He.fAd S.K d.at_)) = true := by
  obtain ⟨⟨fd, FD⟩, FF⟩ := F.ex
  refine ⟨?_, by rw [cf.K]; exact FD.kp⟩
  have e1 := cf.prog
  have e2 := cf.w
  have e3 := cf.S
  have e4 := cf.mg
  have e5 := cf.base
  subst e1 e2 e3 e4 e5
  exact CaK.fnC cf.ok (FF n hm (by rw [sl_eq]; omega)) (by rw [cf.k]; exact hj)
theorem FnV.make (F : FnV P w S mg base j d m g) (cf : Cf C P w S mg base N sc k) (c n : Nat) (hm : m ≤ n + 1) (hz : n + 1 ≤ 1000000) (M : Mk S.K (S.cls c) (He.fAd S.K d.at_)) (hj : j + 1 ≤ k) : CaK C (.ref (S.cls c)) n [] (mkC c (fun xs _ h => g (arrV m xs) h)) ∧ PySem.W.keepIn C.X.K (.ref (S.cls c)) = true := by
  obtain ⟨⟨fd, FD⟩, FF⟩ := F.ex
  refine ⟨?_, by rw [cf.K]; exact M.kp⟩
  have e1 := cf.prog
  have e2 := cf.w
  have e3 := cf.S
  have e4 := cf.mg
  have e5 := cf.base
  subst e1 e2 e3 e4 e5
  exact CaK.makeC cf.ok M (FF (n + 1) hm (by rw [sl_eq]; omega)) (by rw [cf.k]; exact hj)
end
end RT
set_option Elab.async false
set_option linter.all false
set_option maxRecDepth 100000
set_option maxHeartbeats 4000000
/-! RT, part v: enumerate over a tuple. -/
namespace RT
open PySem PySem.Spec L2
open PyProof.Rows hiding St
theorem meets_enumT (t : Addr) (items : Array Value) :
    Meets (Builtin.«enumerate.__new__» ⟨[.type "enumerate", .ref t], []⟩) (fun _ R s => s.heap.IsTuple t items ∧
      R (.ok (.ret (.ref (s.heap.push { cls := .type "tuple_iterator", data := .fields #[.ref t, .int 0 0] }).objs.size)))
        { s with heap := (s.heap.push { cls := .type "tuple_iterator", data := .fields #[.ref t, .int 0 0] }).push { cls := .type "enumerate", data := .fields #[.none, .bool false, .ref s.heap.objs.size, rawInt 0, .none, .none] } }) :=
  .of_wp fun prog w A R s h => by
    obtain ⟨hp, g, d, tk, os⟩ := s
    obtain ⟨hL, h⟩ := h
    have hsub := sub_enumerate
    wp_walk using wpAny_pyIter_tuple hL
    refine wpAny_stack_any fun st => wpAny_pure ?_
    split
    · rename_i c _ _ _ _ _
      cases (c == Value.type "enumerate")
      · wp_walk using wpAny_pyIter_tuple hL
        exact ⟨_, rfl, h⟩
      · wp_walk using wpAny_pyIter_tuple hL
        exact ⟨_, rfl, h⟩
    · wp_walk using wpAny_pyIter_tuple hL
      exact ⟨_, rfl, h⟩
section
variable {prog : Program} {w : World} {A : Around} {E : Value → Shared → Prop} {s : Shared}
theorem call_enumT {t : Addr} {items : Array Value} {Q : Value → Shared → Prop} (hL : s.heap.IsTuple t items)
    (h : ∀ h', IsEnum h' (s.heap.objs.size + 1) s.heap.objs.size 0 .none → h'.IsTupleIter s.heap.objs.size t 0 → h'.objs.size = s.heap.objs.size + 2 →
      (∀ b o, s.heap.get? b = some o → h'.get? b = some o) → Q (.ref (s.heap.objs.size + 1)) { s with heap := h' }) :
    wpAny (model prog w) A (call (.type "enumerate") [.ref t]) Q E s := by
  refine callType_new F.called_enumerate (by decide) (F.typeCall_enumerate_1 _) (F.newCall_enumerate_1 _) (fun obj => F.args_object_init_2 obj _) F.entry_enumerate_new
    (meets_enumT t items) ⟨hL, ?_⟩
  have hz : (s.heap.push { cls := .type "tuple_iterator", data := .fields #[.ref t, .int 0 0] }).objs.size = s.heap.objs.size + 1 := Heap.size_push ..
  show _ ∧ _
  rw [hz]
  have he : IsEnum ((s.heap.push { cls := .type "tuple_iterator", data := .fields #[.ref t, .int 0 0] }).push
      { cls := .type "enumerate", data := .fields #[.none, .bool false, .ref s.heap.objs.size, rawInt 0, .none, .none] }) (s.heap.objs.size + 1) s.heap.objs.size 0 .none := by
    have := Heap.get?_push_size (s.heap.push { cls := .type "tuple_iterator", data := .fields #[.ref t, .int 0 0] })
      (o := { cls := .type "enumerate", data := .fields #[.none, .bool false, .ref s.heap.objs.size, rawInt 0, .none, .none] }) rfl
    rw [hz] at this; exact this
  refine ⟨⟨_, he, rfl⟩, h _ he ⟨_, Heap.get?_push_of_some _ (Heap.get?_push_size _ rfl), rfl, rfl⟩ (by rw [Heap.size_push, hz]) fun b o x => Heap.get?_push_of_some _ (Heap.get?_push_of_some _ x)⟩
theorem enumT_end {e it t : Addr} {i : Nat} {items : Array Value} {c : Int} {old : Value} {Q : Option Value → Shared → Prop} (hh : A.handled = none)
    (he : IsEnum s.heap e it c old) (hit : s.heap.IsTupleIter it t i) (ht : s.heap.IsTuple t items) (hx : items[i]? = none)
    (hQ : ∀ h', Heap.ExtBut it s.heap h' → Q none { s with heap := h' }) : wpAny (model prog w) A (pyNext (.ref e)) Q E s := by
  have hT : s.TypeIs (.ref e) "enumerate" := ⟨_, he, rfl⟩
  unfold pyNext
  refine wpAny_bind (wpAny_attempt (wpAny_callSpecial?_slot (name := Str.ofString "__next__") hT F.slot_enumerate_next
    (wpAny_call_entry F.slot_enumerate_next hT F.entry_enumerate_next ?_ (F.args_enumerate_next_1 _))))
  show wpAny _ _ (field (.ref e) 2 >>= _) _ _ _
  refine wpAny_bind (wpAny_field he rfl (x := .ref it) rfl ?_)
  refine wpAny_bind (wpAny_nextOf_tuple_end hh hit ht hx fun h' x he' hx' => ?_)
  obtain ⟨o, ho, hc⟩ := hx'
  refine wpAny_bind (wpAny_isInstance (T := "StopIteration") (b := true) ⟨o, ho, hc⟩ isSubtype_stop ?_)
  exact wpAny_pure (hQ _ he')
end
/-- the tuple at a, each item in a new pair with its number -/
def IteT (K : PySem.W.Frag) (a : Addr) : It :=
  ⟨fun i H => ∃ (xs : List V) (x : V), SqT K H a xs ∧ xs[i]? = some x, fun i H v H' => ∃ T x, v = .ref T ∧ H T = none ∧ H' = upd H T (.tup [.int (i : Nat), x]) ∧ ∀ xs, SqT K H a xs → xs[i]? = some x, fun i H => ∃ xs : List V, SqT K H a xs ∧ xs.length ≤ i⟩
theorem turn_enumT {P : Program} {w : World} {K : PySem.W.Frag} {elts : List Expr} {kk : Nat} {tpos : Pos} (a e it : Addr) :
    Turn P w K (.Tuple elts kk tpos) (IteT K a) [e, it] e (fun i h => (∃ old, IsEnum h e it ((i : Nat) : Int) old) ∧ h.IsTupleIter it a i ∧ e ≠ it ∧ a ≠ it ∧ e ≠ a) where
  mem := by simp
  obj := fun i h st b hb => by
    obtain ⟨⟨old, he⟩, ⟨o, ho, hc, hd⟩, _⟩ := st
    have e' : b = e ∨ b = it := by simpa using hb
    rcases e' with z | z
    · rw [z]; exact ⟨_, he, fun v q => nomatch q⟩
    · rw [z]; exact ⟨o, ho, fun v q => by rw [hd] at q; cases q⟩
  keep := fun i h h' st k => let ⟨⟨old, he⟩, hi, hne⟩ := st; ⟨⟨old, k e (by simp) _ he⟩, hi.at fun o q => k it (by simp) o q, hne⟩
  item := by
    intro X hP hw hK hc i pins s σ H E I hf st hg
    subst hP hw hK
    obtain ⟨⟨old, he⟩, hit, hne, hna, hea⟩ := st
    obtain ⟨xs, x, hq, hx⟩ := hg
    obtain ⟨its, rv, p, hz⟩ := I.tuple hq
    obtain ⟨u, hu, ru⟩ := rv.get hx
    have hel : e < s.heap.objs.size := Heap.lt_size he
    have hil : it < s.heap.objs.size := by obtain ⟨_, q, _⟩ := hit; exact Heap.lt_size q
    have hlt : i < its.toArray.size := by rw [List.size_toArray]; exact (List.getElem?_eq_some_iff.mp hu).1
    refine wpAny_pyNext_enum_itemD (Draws.tuple (A := X.A.in1) (show X.A.in1.handled = none from I.ok.hd hc) it a hna its.toArray) he ⟨hit, p⟩ hlt hne (by simp [hne, hea]) fun x' h' tk hPx ho hst hT hsz hk => ?_
    have hx' : x' = u := by
      rw [show its.toArray[i]? = some u by simpa using hu] at hPx
      exact (Option.some.inj hPx).symm
    subst hx'
    refine ⟨_, rfl, wpAny_letOwnedTupleGo_enum (s := { s with heap := h', toks := tk + 1 }) ho fun h'' he' sb => ?_⟩
    have hT2 : h''.get? s.heap.objs.size = some { cls := .type "tuple", data := .seq #[.int i tk, x'] } := (sb.2 _ (Nat.ne_of_gt hel)).trans hT
    have new : ObjOk X.prog X.w (upd H s.heap.objs.size (.tup [.int (i : Nat), x])) h'' s.heap.objs.size (.tup [.int (i : Nat), x]) :=
      ⟨by show 2 ≤ sizeLine; decide, [.int i tk, x'], .cons ⟨_, rfl⟩ (.cons ru .nil), ⟨_, hT2, rfl, _, rfl⟩⟩
    have I1 : Inv X pins σ (upd H s.heap.objs.size (.tup [.int (i : Nat), x])) { s with heap := h'', toks := tk + 1 } :=
      I.turnedNew (ch := [e, it]) (fun b ob hb q => (sb.2 b (fun z => hb (by simp [z]))).trans (hk b ob (fun z => hb (by simp [z])) (fun z => hb (by simp [z])) q)) hf (Nat.le_refl _) new
    refine ⟨.ref s.heap.objs.size, _, I1, rfl, ⟨_, x, rfl, I.hok.fresh (Nat.le_refl _), rfl, fun ys hy => by rw [I.tuple_inj hy hq]; exact hx⟩, ⟨⟨x', ?_⟩, hst.1.at fun o q => (sb.2 it (Ne.symm hne)).trans q, hne, hna, hea⟩, fun b hb => ?_⟩
    · have e1 : ((i + 1 : Nat) : Int) = (i : Int) + 1 := by omega
      rw [e1]; exact he'
    · have hb' : b < s.heap.objs.size := by
        have e' : b = e ∨ b = it := by simpa using hb
        rcases e' with z | z
        · rw [z]; exact hel
        · rw [z]; exact hil
      rw [upd_ne (Nat.ne_of_lt hb')]
      exact (hf b hb).1
  done := by
    intro X hP hw hK hc i pins s σ H E I hf st hg
    subst hP hw hK
    obtain ⟨⟨old, he⟩, hit, hne, hna, hea⟩ := st
    obtain ⟨xs, hq, hx⟩ := hg
    obtain ⟨its, rv, p, hz⟩ := I.tuple hq
    obtain ⟨f0, f1, f2, f3, f4, f5⟩ := hf it (by simp)
    have hl := rv.length
    exact enumT_end (I.ok.hd hc) he hit p (by simp; omega) fun h' eb => ⟨rfl, I.turned (t' := s.toks) (fun b o hb q => eb b o hb q) f0 f1 f3 f4 f5⟩
  self := fun A i s Q E st h => let ⟨⟨_, he⟩, _⟩ := st; wpAny_pyIter_enum he h
section
variable {C : RC} {P : Program} {w : World} {S : Sta} {mg : Str → Option Value} {base : Heap} {N : List Str} {sc : Scope} {k j : Nat} {pos p : Pos} {e : Expr}
theorem yields_enumT (ok : C.Ok) {a : Addr} {vs : List V} {ts : List T} {H : Hp} {G : Gh} (hz : FzT C.S H G a vs) (rs : RelTs C.S H G ts vs) : Yields C (IteT C.X.K a) (enumT 0 ts) H G := by
  intro X H2 G2 st th i
  have sq := (hz.step st).sq
  rw [ok.K] at sq
  have rs2 := rs.step st
  refine ⟨fun hi => ⟨vs, sq, by rw [← rs.length]; rw [enumT_length] at hi; exact hi⟩, fun t et => ?_⟩
  rw [enumT_get] at et
  cases q : ts[i]? with
  | none => rw [q] at et; cases et
  | some t0 =>
    rw [q] at et
    cases et
    obtain ⟨v, e1, r1⟩ := rs2.get q
    refine ⟨⟨vs, v, sq, e1⟩, fun x H3 y => ?_⟩
    obtain ⟨p, y0, rfl, hp, rfl, y⟩ := y
    have := y vs sq
    rw [e1] at this
    cases this
    have g := grown_upd (o := .tup [.int (i : Nat), v]) hp
    have st0 := g.step th
    have st1 : Step H2 G2 (upd H2 p (.tup [.int (i : Nat), v])) (G2.fz p) := ⟨⟨[], by simp [Gh.fz]⟩, fun a z => .inr z, st0.keep, st0.there, st0.frame, fun a z => .inl z, fun a z => by
      rcases z with z | z
      · subst z; exact .inr (.inr hp)
      · exact .inl z, st0.tabs⟩
    refine ⟨G2.fz p, st1, fun h rp => (rp.newF hp).2, ?_⟩
    rw [Nat.zero_add]
    exact .tup (.inl ⟨.inl rfl, .inl upd_same⟩) (.cons (.int _) (.cons (r1.step st1) .nil))
/-- enumerate over a list or a tuple that is not changed -/
def iEnumA (ra : AT) : AT := fun st h => (ra st h).bind fun xs h1 => match xs with
  | [.lst ts] => .ok (enumT 0 ts) h1
  | [.tup ts] => .ok (enumT 0 ts) h1
  | _ => .bad
theorem ji_enumA (ok : C.Ok) {ra : AT} {tpos : Pos} {elts : List Expr} {kk : Nat} (hg : Gl C.X "enumerate") (hm : C.X.mg "enumerate" = none) (ja : JA C [e] ra) (hs : starEach [e] C.X.env = [(false, eval e C.X.env)] := by rfl) :
    JI C (.Tuple elts kk tpos) (.Call (.Name "enumerate" p) [e] [] pos) (iEnumA ra) := by
  refine ⟨fun pins s σ H Rr I hw => ?_⟩
  obtain ⟨st, G, h, rp, rs, o⟩ := hw
  refine Call_ (ld_blt I hg hm boot_enumerate (PyProof.Rows.callWith_type1 (thn (ja.run pos I rp rs (OutI.bind (Rel := relA C) o)) fun us s1 ⟨vs, H1, I1, r1, ts, G1, h1, st1, rp1, rts, o1⟩ => ?_) hs rfl))
  have hle : ∀ b, (b = s1.heap.objs.size + 1 ∨ b = s1.heap.objs.size) → FpOk C.X pins H1 b := fun b e' => by
    have hle : s1.heap.objs.size ≤ b := by
      rcases e' with z | z
      · rw [z]; exact Nat.le_add_right _ _
      · rw [z]; exact Nat.le_refl _
    exact I1.fpOk hle (I1.hok.fresh hle)
  split at o1
  · rename_i ys
    obtain ⟨v, rfl, rv⟩ := rts.one
    obtain ⟨u, rfl, ru⟩ := vals1 r1
    cases rv with
    | lst hz rs' =>
      cases ru
      have sq := hz.sq
      rw [ok.K] at sq
      obtain ⟨its, rv, p', hz'⟩ := I1.list sq
      refine call_enumerate_list p'.isList fun h' he hit hsz hk => wpAny_pyIter_enum he ?_
      have I2 : Inv C.X pins σ H1 { s1 with heap := h' } := I1.kept (t' := s1.toks) hk
      exact ⟨s1.heap.objs.size + 1, [s1.heap.objs.size + 1, s1.heap.objs.size], _, _, H1, rfl, I2, turn_enum _ (s1.heap.objs.size + 1) s1.heap.objs.size, ⟨⟨.none, he⟩, hit, Nat.succ_ne_self _⟩, fun b hb => hle b (by simpa using hb), o1 _ _ _ Step.refl rp1 (yields_enum ok hz rs')⟩
  · rename_i ys
    obtain ⟨v, rfl, rv⟩ := rts.one
    obtain ⟨u, rfl, ru⟩ := vals1 r1
    cases rv with
    | tup hz rs' =>
      rename_i a _
      cases ru
      have sq := hz.sq
      rw [ok.K] at sq
      obtain ⟨its, rv, p', hz'⟩ := I1.tuple sq
      have hal : a < s1.heap.objs.size := by
        obtain ⟨o, ho, _⟩ := id p'
        exact Heap.lt_size ho
      refine call_enumT p' fun h' he hit hsz hk => wpAny_pyIter_enum he ?_
      have I2 : Inv C.X pins σ H1 { s1 with heap := h' } := I1.kept (t' := s1.toks) hk
      exact ⟨s1.heap.objs.size + 1, [s1.heap.objs.size + 1, s1.heap.objs.size], _, _, H1, rfl, I2, turn_enumT _ (s1.heap.objs.size + 1) s1.heap.objs.size, ⟨⟨.none, he⟩, hit, Nat.succ_ne_self _, Nat.ne_of_lt hal, Nat.ne_of_gt (Nat.lt_succ_of_lt hal)⟩, fun b hb => hle b (by simpa using hb), o1 _ _ _ Step.refl rp1 (yields_enumT ok hz rs')⟩
  · exact False.elim o1
theorem enA_ (cf : Cf C P w S mg base N sc k) {ra : AT} {tpos : Pos} {elts : List Expr} {kk : Nat} (hm : mg "enumerate" = none) (ja : JA C [e] ra) (hg : glB sc "enumerate" = true := by rfl) (hs : starEach [e] C.X.env = [(false, eval e C.X.env)] := by rfl) : JI C (.Tuple elts kk tpos) (.Call (.Name "enumerate" p) [e] [] pos) (iEnumA ra) :=
  ji_enumA cf.ok (cf.gl hg) (cf.mgE hm) ja hs
@[simp] theorem iEnumA_ (ra : AT) (st : StT) (h : Hm) : iEnumA ra st h = (ra st h).bind fun xs h1 => match xs with
  | [.lst ts] => .ok (enumT 0 ts) h1
  | [.tup ts] => .ok (enumT 0 ts) h1
  | _ => .bad := rfl
end
end RT
set_option Elab.async false
set_option linter.all false
set_option maxRecDepth 100000
set_option maxHeartbeats 4000000
/-! RT, part w: list + list, list * int, xs[::-1], int(..). -/
namespace RT
open PySem PySem.Spec L2
open PyProof.Rows hiding St
section
variable {C : RC} {P : Program} {w : World} {S : Sta} {mg : Str → Option Value} {base : Heap} {N : List Str} {sc : Scope} {k j : Nat} {pos p : Pos} {e : Expr}
theorem lst_exact (ok : C.Ok) {pins : List (Addr × Obj)} {s : Shared} {σ : St} {H : Hp} {G : Gh} (I : Inv C.X pins σ H s) {a : Addr} {vs : List V} (hz : FzL C.S H G a vs) : ∃ (its : List Value) (n : Nat), Vals vs its ∧ vs.length = its.length ∧ its.length ≤ sizeLine ∧ s.heap.get? a = some { cls := .type "list", data := .seq its.toArray n } := by
  rcases hz with ⟨_, rd⟩ | ⟨us, n, lk, l, r⟩
  · obtain ⟨z, its, n, r, e⟩ := rd.ok I.hok
    exact ⟨its, n, r, r.length, by rw [← r.length]; exact z, e⟩
  · rw [ok.K] at lk
    exact ⟨us, n, r, r.length, l, I.kIn a _ lk⟩
/-- + of ints, texts, lists that are not changed -/
def opAddL : O2 := fun x y h => match x, y with
  | .lst xs, .lst ys => if xs.length + ys.length ≤ sizeLine then .ok (.lst (xs ++ ys)) h else .bad
  | x, y => opAdd x y h
theorem op_addL (ok : C.Ok) : OpT C (binaryOp .Add) opAddL := by
  intro pins s σ H G h x y vx vy u w Q I rp rx ry vu vw o
  unfold opAddL at o
  split at o
  · rename_i xs ys
    split at o
    · rename_i hl
      cases rx with
      | lst hz1 rs1 =>
        cases ry with
        | lst hz2 rs2 =>
          cases vu
          cases vw
          obtain ⟨its, n, r, hl1, _, e⟩ := lst_exact ok I hz1
          obtain ⟨its2, n2, r2, hl2, _, e2⟩ := lst_exact ok I hz2
          have q1 := rs1.length
          have q2 := rs2.length
          refine PySem.P.add_list e e2 ?_ (by rw [List.size_toArray, List.size_toArray]; omega)
          have ea : its.toArray ++ its2.toArray = (its ++ its2).toArray := by simp
          rw [ea]
          refine ⟨.ref _, _, I.lnew (t' := s.toks) (r.append r2) (by rw [List.length_append]; omega), rfl, ?_⟩
          obtain ⟨st2, rp2⟩ := rp.newF (o := .lst _) I.fresh
          exact o _ _ _ st2 rp2 (.lst (.inl ⟨.inl rfl, .inl upd_same⟩) ((rs1.app rs2).step st2))
    · exact False.elim o
  · exact op_addT pins s σ H G h x y vx vy u w Q I rp rx ry vu vw o
/-- * of ints, a list that is not changed and an int -/
def opMulL : O2 := fun x y h => match x, y with
  | .lst xs, .int i => if decide (-(2 ^ 63) ≤ i) && (decide (i < 2 ^ 63) && decide (xs.length * i.toNat ≤ sizeLine)) then .ok (.lst (List.replicate i.toNat xs).flatten) h else .bad
  | x, y => opMul x y h
theorem RelTs.rep {S : Sta} {H : Hp} {G : Gh} {ts : List T} {vs : List V} (r : RelTs S H G ts vs) : ∀ n : Nat, RelTs S H G (List.replicate n ts).flatten (List.replicate n vs).flatten
  | 0 => by simp; exact .nil
  | n + 1 => by rw [List.replicate_succ, List.replicate_succ, List.flatten_cons, List.flatten_cons]; exact r.app (RelTs.rep r n)
theorem op_mulL (ok : C.Ok) : OpT C (binaryOp .Mult) opMulL := by
  intro pins s σ H G h x y vx vy u w Q I rp rx ry vu vw o
  unfold opMulL at o
  split at o
  · rename_i xs i
    split at o
    · rename_i hc
      obtain ⟨h1, hc⟩ := band hc
      obtain ⟨h2, hz⟩ := band hc
      have h1 := of_decide_eq_true h1
      have h2 := of_decide_eq_true h2
      have hz := of_decide_eq_true hz
      cases rx with
      | lst hz1 rs1 =>
        cases ry
        cases vu
        obtain ⟨t, rfl⟩ := vw
        obtain ⟨its, n, r, hl, _, e⟩ := lst_exact ok I hz1
        have q1 := rs1.length
        have hlen : its.toArray.size * i.toNat ≤ sizeLine := by rw [List.size_toArray, ← hl, ← q1]; exact hz
        have hcap : ¬ its.toArray.size * i.toNat > (2 ^ 63 - 1) / 8 := by
          have : (sizeLine : Nat) ≤ (2 ^ 63 - 1) / 8 := by decide
          omega
        have hfit : ¬ (!Builtin.List.listFitsIndex i) = true := by
          rw [fitsIndex_both h1 h2]
          exact Bool.false_ne_true
        have hlong : ¬ Builtin.List.listTooLong (its.toArray.size * i.toNat) = true := by
          rw [notLongL hlen]
          exact Bool.false_ne_true
        have hnew : List.foldl (fun x1 x2 => x1 ++ x2) #[] (List.replicate (if its.toArray.isEmpty = true then 0 else i.toNat) its.toArray) = (List.replicate i.toNat its).flatten.toArray := by
          have f0 : ∀ m : Nat, List.foldl (fun x1 x2 => x1 ++ x2) #[] (List.replicate m its.toArray) = (List.replicate m its).flatten.toArray := fun m => by
            have := foldl_rep its m []
            rw [List.nil_append] at this
            exact this
          rw [f0]
          cases its with
          | nil => simp
          | cons a r' => rw [if_neg (by simp)]
        refine wpAny_binaryOp_repeat_ref (T := "list") (U := "int") (by decide) ⟨_, e, rfl⟩ (fun s' => typeIs_int s' i t) noFill_list_mul F.fills_int_mul F.slot_int_rmul repeat_list F.slot_int_index.lookup
          (call_meets F.slot_int_rmul (typeIs_int s i t) F.entry_int_rmul (F.args_int_rmul_2 _ _) (int___rmul___int_list i t _ its.toArray n)
            ⟨e, rfl, ⟨_, e, rfl⟩, call_meets F.slot_list_mul ⟨_, e, rfl⟩ F.entry_list_mul (F.args_list_mul_2 _ _) (AutoListH.list___mul___list_int_3 _ its.toArray n i t hfit hcap hlong) ⟨e, ?_⟩⟩)
        rw [hnew]
        refine ⟨.ref _, _, I.lnew (t' := s.toks) (r.rep i.toNat) (by rw [PyProof.Rows.lm_len_rep_flat, Nat.mul_comm, ← q1]; exact hz), rfl, ?_⟩
        obtain ⟨st2, rp2⟩ := rp.newF (o := .lst _) I.fresh
        exact o _ _ _ st2 rp2 (.lst (.inl ⟨.inl rfl, .inl upd_same⟩) ((rs1.rep i.toNat).step st2))
    · exact False.elim o
  · exact op_mulT pins s σ H G h x y vx vy u w Q I rp rx ry vu vw o
/-- xs[::-1] -/
def eRev (r : ET) : ET := fun st h => (r st h).bind fun x h1 => match x with
  | .lst xs => .ok (.lst xs.reverse) h1
  | _ => .bad
theorem RelTs.rev {S : Sta} {H : Hp} {G : Gh} : ∀ {ts : List T} {vs : List V}, RelTs S H G ts vs → RelTs S H G ts.reverse vs.reverse
  | _, _, .nil => .nil
  | _, _, .cons a r => by rw [List.reverse_cons, List.reverse_cons]; exact (RelTs.rev r).app (.cons a .nil)
theorem je_rev (ok : C.Ok) {r : ET} {kk : Nat} {p1 p2 p3 : Pos} (j : JE C e r) : JE C (.Subscript e (.Slice none none (some (.UnaryOp .USub (.Constant (.int 1) kk p1) p2)) p3) pos) (eRev r) := by
  refine ⟨fun pins s σ H Q I hw => ?_⟩
  obtain ⟨st, G, h, rp, rs, o⟩ := hw
  refine (pe_revL (te := liE C r) j).run pins s σ H Q I ⟨st, G, h, rp, rs, (Out.bind (Rel := relE C) o).mono fun v H1 ⟨t, G1, h1, st1, rp1, rt, o1⟩ => ?_⟩
  dsimp only at o1
  split at o1
  · cases rt with
    | lst hz rs1 =>
      have sq := hz.sq
      rw [ok.K] at sq
      refine ⟨_, _, rfl, sq, fun p hp => ?_⟩
      obtain ⟨st2, rp2⟩ := rp1.newF (o := .lst _) hp
      exact o1 _ _ _ st2 rp2 (.lst (.inl ⟨.inl rfl, .inl upd_same⟩) (rs1.rev.step st2))
  · exact False.elim o1
/-- int(..): of an int, a bool, digits -/
def gInt : List T → Hm → R T := fun xs h => match xs with
  | [.int i] => .ok (.int i) h
  | [.bl b] => .ok (.int (if b then 1 else 0)) h
  | [.str a] => (match PySem.intText? a with
    | some n => if a.length ≤ 640 then .ok (.int n) h else .bad
    | none => .bad)
  | _ => .bad
theorem ca_int : CaT C (.type "int") gInt := by
  intro pins s σ H G h xs vs us Q I rp rx vu o
  unfold gInt at o
  split at o
  · rename_i i
    obtain ⟨v, rfl, rv⟩ := rx.one
    cases rv
    exact call_int1 pins s σ H _ us Q I vu (.inl ⟨i, rfl, out_ok o rp (.int _)⟩)
  · rename_i b
    obtain ⟨v, rfl, rv⟩ := rx.one
    cases rv
    exact call_int1 pins s σ H _ us Q I vu (.inr ⟨b, rfl, out_ok o rp (.int _)⟩)
  · rename_i a
    obtain ⟨v, rfl, rv⟩ := rx.one
    cases rv
    split at o
    · rename_i n en
      split at o
      · rename_i hl
        exact call_int_str pins s σ H _ us Q I vu ⟨a, n, rfl, en, hl, out_ok o rp (.int _)⟩
      · exact False.elim o
    · exact False.elim o
  · exact False.elim o
variable (h : Hm) (st : StT)
@[simp] theorem addL_l (xs ys : List T) : opAddL (.lst xs) (.lst ys) h = if xs.length + ys.length ≤ sizeLine then .ok (.lst (xs ++ ys)) h else .bad := rfl
@[simp] theorem addL_i (i : Int) (y : T) : opAddL (.int i) y h = opAdd (.int i) y h := rfl
@[simp] theorem addL_s (i : Str) (y : T) : opAddL (.str i) y h = opAdd (.str i) y h := rfl
@[simp] theorem mulL_l (xs : List T) (i : Int) : opMulL (.lst xs) (.int i) h = if decide (-(2 ^ 63) ≤ i) && (decide (i < 2 ^ 63) && decide (xs.length * i.toNat ≤ sizeLine)) then .ok (.lst (List.replicate i.toNat xs).flatten) h else .bad := rfl
@[simp] theorem mulL_i (i : Int) (y : T) : opMulL (.int i) y h = opMul (.int i) y h := rfl
@[simp] theorem eRev_ (r : ET) : eRev r st h = (r st h).bind fun x h1 => match x with
  | .lst xs => .ok (.lst xs.reverse) h1
  | _ => .bad := rfl
@[simp] theorem gInt_i (i : Int) : gInt [.int i] h = .ok (.int i) h := rfl
@[simp] theorem gInt_b (i : Bool) : gInt [.bl i] h = .ok (.int (if i then 1 else 0)) h := rfl
end
end RT
set_option Elab.async false
set_option linter.all false
set_option maxRecDepth 100000
set_option maxHeartbeats 4000000
/-! RT, part x: zip of three lists. -/
namespace RT
open PySem PySem.Spec L2
open PyProof.Rows hiding St
def Itz3 (K : PySem.W.Frag) (a b c : Addr) (n1 n2 n3 : Nat) : It :=
  ⟨fun i H => ∃ (xs ys zs : List V) (x y z : V), (SqL K H a xs ∧ SqL K H b ys ∧ SqL K H c zs) ∧ (xs.length = n1 ∧ ys.length = n2 ∧ zs.length = n3) ∧ xs[i]? = some x ∧ ys[i]? = some y ∧ zs[i]? = some z,
    fun i H v H' => ∃ T x y z, v = .ref T ∧ H T = none ∧ H' = upd H T (.tup [x, y, z]) ∧ (∀ xs, SqL K H a xs → xs[i]? = some x) ∧ (∀ ys, SqL K H b ys → ys[i]? = some y) ∧ ∀ zs, SqL K H c zs → zs[i]? = some z,
    fun i H => ∃ xs ys zs : List V, (SqL K H a xs ∧ SqL K H b ys ∧ SqL K H c zs) ∧ (xs.length = n1 ∧ ys.length = n2 ∧ zs.length = n3) ∧ (n1 ≤ i ∨ n2 ≤ i ∨ n3 ≤ i)⟩
theorem turn_zip3 {P : Program} {w : World} {K : PySem.W.Frag} {elts : List Expr} {kk : Nat} {tpos : Pos} {a b c z TI TO i1 i2 i3 : Addr} (n1 n2 n3 : Nat) (D : ZipSep3 z TI TO i1 i2 i3 [i1, a] [i2, b] [i3, c]) :
    Turn P w K (.Tuple elts kk tpos) (Itz3 K a b c n1 n2 n3) [z, TI, TO, i1, i2, i3] z (fun i h => IsZip h z TI TO .none ∧ IsTupOf3 h TI (.ref i1) (.ref i2) (.ref i3) ∧ (∃ x y u, IsTupOf3 h TO x y u) ∧ (h.IsListIter i1 a i ∧ h.IsListIter i2 b i ∧ h.IsListIter i3 c i) ∧ i ≤ n1 ∧ i ≤ n2 ∧ i ≤ n3) where
  mem := by simp
  obj := fun i h st c' hc => by
    obtain ⟨hz, hTI, ⟨x, y, u, hTO⟩, ⟨⟨o1, e1, _, d1⟩, ⟨o2, e2, _, d2⟩, ⟨o3, e3, _, d3⟩⟩, _⟩ := st
    have e' : c' = z ∨ c' = TI ∨ c' = TO ∨ c' = i1 ∨ c' = i2 ∨ c' = i3 := by simpa using hc
    rcases e' with q | q | q | q | q | q
    · rw [q]; exact ⟨_, hz, fun v q => nomatch q⟩
    · rw [q]; exact ⟨_, hTI, fun v q => nomatch q⟩
    · rw [q]; exact ⟨_, hTO, fun v q => nomatch q⟩
    · rw [q]; exact ⟨o1, e1, fun v q => by rw [d1] at q; cases q⟩
    · rw [q]; exact ⟨o2, e2, fun v q => by rw [d2] at q; cases q⟩
    · rw [q]; exact ⟨o3, e3, fun v q => by rw [d3] at q; cases q⟩
  keep := fun i h h' st k => by
    obtain ⟨hz, hTI, ⟨x, y, u, hTO⟩, ⟨h1, h2, h3⟩, hn⟩ := st
    exact ⟨k z (by simp) _ hz, k TI (by simp) _ hTI, ⟨x, y, u, k TO (by simp) _ hTO⟩, ⟨h1.at fun o q => k i1 (by simp) o q, h2.at fun o q => k i2 (by simp) o q, h3.at fun o q => k i3 (by simp) o q⟩, hn⟩
  item := by
    intro X hP hw hK hc i pins s σ H E I hf st hg
    subst hP hw hK
    obtain ⟨hz, hTI, ⟨x0, y0, u0, hTO⟩, ⟨h1, h2, h3⟩, hn1, hn2, hn3⟩ := st
    obtain ⟨xs, ys, zs, x, y, u, ⟨hqx, hqy, hqz⟩, ⟨l1, l2, l3⟩, hx, hy, hu⟩ := hg
    obtain ⟨its, rv, p, _⟩ := I.list hqx
    obtain ⟨its2, rv2, p2, _⟩ := I.list hqy
    obtain ⟨its3, rv3, p3, _⟩ := I.list hqz
    obtain ⟨v1, hv1, r1⟩ := rv.get hx
    obtain ⟨v2, hv2, r2⟩ := rv2.get hy
    obtain ⟨v3, hv3, r3⟩ := rv3.get hu
    have hzl : z < s.heap.objs.size := Heap.lt_size hz
    have hh : X.A.in1.handled = none := I.ok.hd hc
    have ne1 : a ≠ i1 := fun e => by
      obtain ⟨o, ho, hcl, _⟩ := id h1
      obtain ⟨o', ho', hcl', _⟩ := id p.isList
      rw [e] at ho'
      rw [ho] at ho'
      cases ho'
      rw [hcl] at hcl'
      exact absurd (Value.type.inj hcl') (by decide)
    have ne2 : b ≠ i2 := fun e => by
      obtain ⟨o, ho, hcl, _⟩ := id h2
      obtain ⟨o', ho', hcl', _⟩ := id p2.isList
      rw [e] at ho'
      rw [ho] at ho'
      cases ho'
      rw [hcl] at hcl'
      exact absurd (Value.type.inj hcl') (by decide)
    have ne3 : c ≠ i3 := fun e => by
      obtain ⟨o, ho, hcl, _⟩ := id h3
      obtain ⟨o', ho', hcl', _⟩ := id p3.isList
      rw [e] at ho'
      rw [ho] at ho'
      cases ho'
      rw [hcl] at hcl'
      exact absurd (Value.type.inj hcl') (by decide)
    have q1 : i < its.toArray.size := by rw [List.size_toArray]; exact (List.getElem?_eq_some_iff.mp hv1).1
    have q2 : i < its2.toArray.size := by rw [List.size_toArray]; exact (List.getElem?_eq_some_iff.mp hv2).1
    have q3 : i < its3.toArray.size := by rw [List.size_toArray]; exact (List.getElem?_eq_some_iff.mp hv3).1
    refine wpAny_pyNext_zipD3_item D (Draws.list hh i1 a ne1 its.toArray) (Draws.list hh i2 b ne2 its2.toArray) (Draws.list hh i3 c ne3 its3.toArray) hz hTI hTO ⟨h1, p.isList⟩ ⟨h2, p2.isList⟩ ⟨h3, p3.isList⟩ q1 q2 q3
      fun x1 x2 x3 h' tk e1 e2 e3 hz' hTO' s1 s2 s3 hT hsz hk => ?_
    rw [show its.toArray[i]? = some v1 by simpa using hv1] at e1
    rw [show its2.toArray[i]? = some v2 by simpa using hv2] at e2
    rw [show its3.toArray[i]? = some v3 by simpa using hv3] at e3
    cases e1
    cases e2
    cases e3
    refine ⟨_, rfl, wpAny_letOwnedTupleGo_zip (s := { s with heap := h', toks := tk }) hz' fun h'' z'' sb => ?_⟩
    have hT2 : h''.get? s.heap.objs.size = some { cls := .type "tuple", data := .seq #[v1, v2, v3] } := (sb.2 _ (Nat.ne_of_gt hzl)).trans hT
    have new : ObjOk X.prog X.w (upd H s.heap.objs.size (.tup [x, y, u])) h'' s.heap.objs.size (.tup [x, y, u]) :=
      ⟨by show 3 ≤ sizeLine; decide, [v1, v2, v3], .cons r1 (.cons r2 (.cons r3 .nil)), ⟨_, hT2, rfl, _, rfl⟩⟩
    have I1 : Inv X pins σ (upd H s.heap.objs.size (.tup [x, y, u])) { s with heap := h'', toks := tk } :=
      I.turnedNew (t' := tk) (ch := [z, TI, TO, i1, i2, i3]) (fun d o hb q => (sb.2 d (fun q' => hb (by simp [q']))).trans (hk d o (fun q' => hb (by simp [q'])) (fun q' => hb (by simp [q'])) (fun q' => hb (by simp [q'])) (fun q' => hb (by simp [q'])) (fun q' => hb (by simp [q'])) q)) hf (Nat.le_refl _) new
    refine ⟨.ref s.heap.objs.size, _, I1, rfl, ⟨_, x, y, u, rfl, I.hok.fresh (Nat.le_refl _), rfl, fun l hl => by rw [I.list_inj hl hqx]; exact hx, fun l hl => by rw [I.list_inj hl hqy]; exact hy, fun l hl => by rw [I.list_inj hl hqz]; exact hu⟩, ⟨z'', ?_, ⟨v1, v2, v3, ?_⟩, ⟨?_, ?_, ?_⟩, ?_, ?_, ?_⟩, fun d hcm => ?_⟩
    · exact (sb.2 _ D.TIz).trans (hk _ _ D.TIz D.TITO D.TIi1 D.TIi2 D.TIi3 hTI)
    · exact (sb.2 _ D.TOz).trans hTO'
    · exact s1.1.at fun o q => (sb.2 _ (Ne.symm D.zi1)).trans q
    · exact s2.1.at fun o q => (sb.2 _ (Ne.symm D.zi2)).trans q
    · exact s3.1.at fun o q => (sb.2 _ (Ne.symm D.zi3)).trans q
    · have := rv.length; rw [List.size_toArray] at q1; omega
    · have := rv2.length; rw [List.size_toArray] at q2; omega
    · have := rv3.length; rw [List.size_toArray] at q3; omega
    · have hlt : d < s.heap.objs.size := by
        have e' : d = z ∨ d = TI ∨ d = TO ∨ d = i1 ∨ d = i2 ∨ d = i3 := by simpa using hcm
        rcases e' with q | q | q | q | q | q
        · rw [q]; exact hzl
        · rw [q]; exact Heap.lt_size hTI
        · rw [q]; exact Heap.lt_size hTO
        · rw [q]; obtain ⟨_, e1, _⟩ := h1; exact Heap.lt_size e1
        · rw [q]; obtain ⟨_, e2, _⟩ := h2; exact Heap.lt_size e2
        · rw [q]; obtain ⟨_, e2, _⟩ := h3; exact Heap.lt_size e2
      rw [upd_ne (Nat.ne_of_lt hlt)]
      exact (hf d hcm).1
  done := by
    intro X hP hw hK hc i pins s σ H E I hf st hg
    subst hP hw hK
    obtain ⟨hz, hTI, ⟨x0, y0, u0, hTO⟩, ⟨h1, h2, h3⟩, hn1, hn2, hn3⟩ := st
    obtain ⟨xs, ys, zs, ⟨hqx, hqy, hqz⟩, ⟨l1, l2, l3⟩, hend⟩ := hg
    obtain ⟨its, rv, p, _⟩ := I.list hqx
    obtain ⟨its2, rv2, p2, _⟩ := I.list hqy
    obtain ⟨its3, rv3, p3, _⟩ := I.list hqz
    have hh : X.A.in1.handled = none := I.ok.hd hc
    have ne1 : a ≠ i1 := fun e => by
      obtain ⟨o, ho, hcl, _⟩ := id h1
      obtain ⟨o', ho', hcl', _⟩ := id p.isList
      rw [e] at ho'
      rw [ho] at ho'
      cases ho'
      rw [hcl] at hcl'
      exact absurd (Value.type.inj hcl') (by decide)
    have ne2 : b ≠ i2 := fun e => by
      obtain ⟨o, ho, hcl, _⟩ := id h2
      obtain ⟨o', ho', hcl', _⟩ := id p2.isList
      rw [e] at ho'
      rw [ho] at ho'
      cases ho'
      rw [hcl] at hcl'
      exact absurd (Value.type.inj hcl') (by decide)
    have ne3 : c ≠ i3 := fun e => by
      obtain ⟨o, ho, hcl, _⟩ := id h3
      obtain ⟨o', ho', hcl', _⟩ := id p3.isList
      rw [e] at ho'
      rw [ho] at ho'
      cases ho'
      rw [hcl] at hcl'
      exact absurd (Value.type.inj hcl') (by decide)
    have e1 := rv.length
    have e2 := rv2.length
    have e3 := rv3.length
    exact wpAny_pyNext_zipD3_end D (Draws.list hh i1 a ne1 its.toArray) (Draws.list hh i2 b ne2 its2.toArray) (Draws.list hh i3 c ne3 its3.toArray) hz hTI hTO ⟨h1, p.isList⟩ ⟨h2, p2.isList⟩ ⟨h3, p3.isList⟩
      (by rw [List.size_toArray]; omega) (by rw [List.size_toArray]; omega) (by rw [List.size_toArray]; omega) (by rw [List.size_toArray, List.size_toArray, List.size_toArray]; omega)
      fun h' tk hk => ⟨rfl, I.turnedL (t' := tk) (ch := [z, TI, TO, i1, i2, i3]) (fun d o hb q =>
        hk d o (fun q' => hb (by simp [q'])) (fun q' => hb (by simp [q'])) (fun q' => hb (by simp [q'])) (fun q' => hb (by simp [q'])) (fun q' => hb (by simp [q'])) q) hf⟩
  self := fun A i s Q E st h => wpAny_pyIter_zip st.1 h
def zip3T : List T → List T → List T → List T
  | x :: xs, y :: ys, z :: zs => .tup [x, y, z] :: zip3T xs ys zs
  | _, _, _ => []
theorem zip3T_get : ∀ (xs ys zs : List T) (i : Nat), (zip3T xs ys zs)[i]? = match xs[i]?, ys[i]?, zs[i]? with
    | some x, some y, some z => some (.tup [x, y, z])
    | _, _, _ => none
  | [], ys, zs, i => by simp [zip3T]
  | x :: xs, [], zs, i => by
    have e : zip3T (x :: xs) [] zs = [] := by simp [zip3T]
    rw [e]
    cases h : (x :: xs)[i]? <;> simp
  | x :: xs, y :: ys, [], i => by
    have e : zip3T (x :: xs) (y :: ys) [] = [] := by simp [zip3T]
    rw [e]
    cases h : (x :: xs)[i]? <;> cases h2 : (y :: ys)[i]? <;> simp
  | x :: xs, y :: ys, z :: zs, 0 => by simp [zip3T]
  | x :: xs, y :: ys, z :: zs, i + 1 => by
    rw [zip3T, List.getElem?_cons_succ, zip3T_get xs ys zs i, List.getElem?_cons_succ, List.getElem?_cons_succ, List.getElem?_cons_succ]
section
variable {C : RC} {P : Program} {w : World} {S : Sta} {mg : Str → Option Value} {base : Heap} {N : List Str} {sc : Scope} {k j : Nat} {pos p : Pos} {e e2 e3 : Expr}
theorem yields_zip3 (ok : C.Ok) {a b c : Addr} {vs ws us : List V} {xs ys zs : List T} {H : Hp} {G : Gh} (hz : FzL C.S H G a vs) (rs : RelTs C.S H G xs vs) (hz' : FzL C.S H G b ws) (rs' : RelTs C.S H G ys ws) (hz'' : FzL C.S H G c us) (rs'' : RelTs C.S H G zs us) :
    Yields C (Itz3 C.X.K a b c vs.length ws.length us.length) (zip3T xs ys zs) H G := by
  intro X H2 G2 st th i
  have sq := (hz.step st).sq
  have sq' := (hz'.step st).sq
  have sq'' := (hz''.step st).sq
  rw [ok.K] at sq sq' sq''
  have r1 := rs.step st
  have r2 := rs'.step st
  have r3 := rs''.step st
  refine ⟨fun hi => ⟨vs, ws, us, ⟨sq, sq', sq''⟩, ⟨rfl, rfl, rfl⟩, ?_⟩, fun t et => ?_⟩
  · have hn : (zip3T xs ys zs)[i]? = none := List.getElem?_eq_none hi
    rw [zip3T_get] at hn
    rw [← rs.length, ← rs'.length, ← rs''.length]
    cases h1 : xs[i]? with
    | none => exact .inl (List.getElem?_eq_none_iff.mp h1)
    | some x =>
      cases h2 : ys[i]? with
      | none => exact .inr (.inl (List.getElem?_eq_none_iff.mp h2))
      | some y =>
        cases h3 : zs[i]? with
        | none => exact .inr (.inr (List.getElem?_eq_none_iff.mp h3))
        | some z => rw [h1, h2, h3] at hn; cases hn
  rw [zip3T_get] at et
  cases h1 : xs[i]? with
  | none => rw [h1] at et; cases et
  | some x =>
    cases h2 : ys[i]? with
    | none => rw [h1, h2] at et; cases et
    | some y =>
      cases h3 : zs[i]? with
      | none => rw [h1, h2, h3] at et; cases et
      | some z =>
        rw [h1, h2, h3] at et
        cases et
        obtain ⟨v1, e1, q1⟩ := r1.get h1
        obtain ⟨v2, e2, q2⟩ := r2.get h2
        obtain ⟨v3, e3, q3⟩ := r3.get h3
        refine ⟨⟨vs, ws, us, v1, v2, v3, ⟨sq, sq', sq''⟩, ⟨rfl, rfl, rfl⟩, e1, e2, e3⟩, fun x' H3 y' => ?_⟩
        obtain ⟨p, x1, x2, x3, rfl, hp, rfl, y1, y2, y3⟩ := y'
        have a1 := y1 vs sq
        have a2 := y2 ws sq'
        have a3 := y3 us sq''
        rw [e1] at a1
        rw [e2] at a2
        rw [e3] at a3
        cases a1
        cases a2
        cases a3
        have g := grown_upd (o := .tup [v1, v2, v3]) hp
        have st0 := g.step th
        have st1 : Step H2 G2 (upd H2 p (.tup [v1, v2, v3])) (G2.fz p) := ⟨⟨[], by simp [Gh.fz]⟩, fun a z => .inr z, st0.keep, st0.there, st0.frame, fun a z => .inl z, fun a z => by
          rcases z with z | z
          · subst z; exact .inr (.inr hp)
          · exact .inl z, st0.tabs⟩
        exact ⟨G2.fz p, st1, fun h rp => (rp.newF hp).2, .tup (.inl ⟨.inl rfl, .inl upd_same⟩) (.cons (q1.step st1) (.cons (q2.step st1) (.cons (q3.step st1) .nil)))⟩
def iZip3 (ra : AT) : AT := fun st h => (ra st h).bind fun xs h1 => match xs with
  | [.lst x, .lst y, .lst z] => .ok (zip3T x y z) h1
  | _ => .bad
theorem ji_zip3 (ok : C.Ok) {ra : AT} {tpos : Pos} {elts : List Expr} {kk : Nat} (hg : Gl C.X "zip") (hm : C.X.mg "zip" = none) (ja : JA C [e, e2, e3] ra)
    (hs : starEach [e, e2, e3] C.X.env = (false, eval e C.X.env) :: starEach [e2, e3] C.X.env := by rfl) (hpl : (backTo pos (starEach [e2, e3] C.X.env)).any (·.1) = false := by rfl) :
    JI C (.Tuple elts kk tpos) (.Call (.Name "zip" p) [e, e2, e3] [] pos) (iZip3 ra) := by
  refine ⟨fun pins s σ H Rr I hw => ?_⟩
  obtain ⟨st, G, h, rp, rs, o⟩ := hw
  refine Call_ (ld_blt I hg hm PyProof.Rows.boot_zip (PyProof.Rows.callWith_type1 (thn (ja.run pos I rp rs (OutI.bind (Rel := relA C) o)) fun us s1 ⟨vs, H1, I1, r1, ts, G1, h1, st1, rp1, rts, o1⟩ => ?_) hs hpl))
  split at o1
  · cases rts with
    | cons q1 q => cases q with
      | cons q2 q => cases q with
        | cons q3 q => cases q with
          | nil =>
            cases q1 with
            | lst hz1 s1' => cases q2 with
              | lst hz2 s2' => cases q3 with
                | lst hz3 s3' =>
                  rename_i a vs1 b vs2 c vs3
                  cases r1 with
                  | cons u1 r => cases r with
                    | cons u2 r => cases r with
                      | cons u3 r => cases r with
                        | nil =>
                          cases u1
                          cases u2
                          cases u3
                          have sq1 := hz1.sq
                          have sq2 := hz2.sq
                          have sq3 := hz3.sq
                          rw [ok.K] at sq1 sq2 sq3
                          obtain ⟨its, rv, p1, _⟩ := I1.list sq1
                          obtain ⟨its2, rv2, p2, _⟩ := I1.list sq2
                          obtain ⟨its3, rv3, p3, _⟩ := I1.list sq3
                          refine zip_begins3 (begins_list a its.toArray) (begins_list b its2.toArray) (begins_list c its3.toArray) p1.isList p2.isList p3.isList fun h' hz hTI hTO g1 g2 g3 hsz hk => wpAny_pyIter_zip hz ?_
                          have I2 : Inv C.X pins σ H1 { s1 with heap := h' } := I1.kept (t' := s1.toks) hk
                          have sep := zip_sep3 (N := s1.heap.objs.size) (fp1 := [a]) (fp2 := [b]) (fp3 := [c]) (by intro d hd; rw [List.mem_singleton.mp hd]; exact p1.lt) (by intro d hd; rw [List.mem_singleton.mp hd]; exact p2.lt) (by intro d hd; rw [List.mem_singleton.mp hd]; exact p3.lt)
                          refine ⟨s1.heap.objs.size + 5, [s1.heap.objs.size + 5, s1.heap.objs.size + 3, s1.heap.objs.size + 4, s1.heap.objs.size, s1.heap.objs.size + 1, s1.heap.objs.size + 2], _, _, H1, rfl, I2, turn_zip3 vs1.length vs2.length vs3.length sep, ⟨hz, hTI, ⟨_, _, _, hTO⟩, ⟨⟨_, g1, rfl, rfl⟩, ⟨_, g2, rfl, rfl⟩, ⟨_, g3, rfl, rfl⟩⟩, Nat.zero_le _, Nat.zero_le _, Nat.zero_le _⟩, fun d hd => ?_, o1 _ _ _ Step.refl rp1 (yields_zip3 ok hz1 s1' hz2 s2' hz3 s3')⟩
                          have hle : s1.heap.objs.size ≤ d := by
                            have e' : d = s1.heap.objs.size + 5 ∨ d = s1.heap.objs.size + 3 ∨ d = s1.heap.objs.size + 4 ∨ d = s1.heap.objs.size ∨ d = s1.heap.objs.size + 1 ∨ d = s1.heap.objs.size + 2 := by simpa using hd
                            rcases e' with z | z | z | z | z | z
                            · rw [z]; exact Nat.le_add_right _ _
                            · rw [z]; exact Nat.le_add_right _ _
                            · rw [z]; exact Nat.le_add_right _ _
                            · rw [z]; exact Nat.le_refl _
                            · rw [z]; exact Nat.le_add_right _ _
                            · rw [z]; exact Nat.le_add_right _ _
                          exact I1.fpOk hle (I1.hok.fresh hle)
  · exact False.elim o1
theorem zip3_ (cf : Cf C P w S mg base N sc k) {ra : AT} {tpos : Pos} {elts : List Expr} {kk : Nat} (hm : mg "zip" = none) (ja : JA C [e, e2, e3] ra) (hg : glB sc "zip" = true := by rfl)
    (hs : starEach [e, e2, e3] C.X.env = (false, eval e C.X.env) :: starEach [e2, e3] C.X.env := by rfl) (hpl : (backTo pos (starEach [e2, e3] C.X.env)).any (·.1) = false := by rfl) : JI C (.Tuple elts kk tpos) (.Call (.Name "zip" p) [e, e2, e3] [] pos) (iZip3 ra) :=
  ji_zip3 cf.ok (cf.gl hg) (cf.mgE hm) ja hs hpl
@[simp] theorem iZip3_ (ra : AT) (st : StT) (h : Hm) : iZip3 ra st h = (ra st h).bind fun xs h1 => match xs with
  | [.lst x, .lst y, .lst z] => .ok (zip3T x y z) h1
  | _ => .bad := rfl
end
end RT
set_option Elab.async false
set_option linter.all false
set_option maxRecDepth 100000
set_option maxHeartbeats 4000000
/-! RT, part y: == and != of a list with [], whatever the list holds. -/
namespace RT
open PySem PySem.Spec L2
open PyProof.Rows hiding St
section
variable {C : RC} {P : Program} {w : World} {S : Sta} {mg : Str → Option Value} {base : Heap} {N : List Str} {sc : Scope} {k j : Nat}
def opEqE (o : O2) : O2 := fun x y h => match x, y with
  | .lst (_ :: _), .lst [] => .ok (.bl false) h
  | x, y => o x y h
def opNeE (o : O2) : O2 := fun x y h => match x, y with
  | .lst (_ :: _), .lst [] => .ok (.bl true) h
  | x, y => o x y h
theorem op_eqE (ok : C.Ok) {f : O2} (q : OpT C (compareOp .Eq) f) : OpT C (compareOp .Eq) (opEqE f) := by
  intro pins s σ H G h x y vx vy u w Q I rp rx ry vu vw o
  unfold opEqE at o
  split at o
  · cases rx with
    | lst hz1 rs1 =>
      cases ry with
      | lst hz2 rs2 =>
        cases vu
        cases vw
        obtain ⟨its, n, r, hl1, _, e⟩ := lst_exact ok I hz1
        obtain ⟨its2, n2, r2, hl2, _, e2⟩ := lst_exact ok I hz2
        have q1 := rs1.length
        have q2 := rs2.length
        refine PySem.P.eq_list_lengths e e2 ?_ (by have := ok.units; omega) ⟨.bl _, H, I, rfl, out_ok o rp (.bl _)⟩
        rw [List.size_toArray, List.size_toArray, ← hl1, ← hl2, ← q1, ← q2]
        simp
  · exact q pins s σ H G h x y vx vy u w Q I rp rx ry vu vw o
theorem op_neE (ok : C.Ok) {f : O2} (q : OpT C (compareOp .NotEq) f) : OpT C (compareOp .NotEq) (opNeE f) := by
  intro pins s σ H G h x y vx vy u w Q I rp rx ry vu vw o
  unfold opNeE at o
  split at o
  · cases rx with
    | lst hz1 rs1 =>
      cases ry with
      | lst hz2 rs2 =>
        cases vu
        cases vw
        obtain ⟨its, n, r, hl1, _, e⟩ := lst_exact ok I hz1
        obtain ⟨its2, n2, r2, hl2, _, e2⟩ := lst_exact ok I hz2
        have q1 := rs1.length
        have q2 := rs2.length
        refine PySem.SeqAt.RcNeAt.lists_lengths (items := its.toArray) (items2 := its2.toArray) ⟨_, e, rfl, _, rfl⟩ ⟨_, e2, rfl, _, rfl⟩ ?_ (by have := ok.units; omega) _ _ _ _ ⟨.bl _, H, I, rfl, out_ok o rp (.bl _)⟩
        rw [List.size_toArray, List.size_toArray, ← hl1, ← hl2, ← q1, ← q2]
        simp
  · exact q pins s σ H G h x y vx vy u w Q I rp rx ry vu vw o
/-- a, b, .. = a tuple or a list of that length -/
def gTpL (n : Nat) (g : List T → StT → Hm → R StT) : GT := fun t a h => match t with
  | .tup xs => if xs.length = n then g xs a h else .bad
  | .lst xs => if xs.length = n then g xs a h else .bad
  | _ => .bad
theorem jg_tupL {pos : Pos} (ok : C.Ok) {es : List Expr} {k : Nat} {n : Nat} {gs : List T → StT → Hm → R StT} (j : JGs C es gs)
    (hn : (assignEach es C.X.env).length = n := by rfl) (hst : (assignEach es C.X.env).findIdx? (·.1) = none := by rfl) : JG C (.Tuple es k pos) (gTpL n gs) := by
  refine ⟨fun pins s σ H v u Q I r hw => ?_⟩
  obtain ⟨t, a, G, h, rp, rs, rt, a', h', e, q⟩ := hw
  unfold gTpL at e
  cases rt with
  | tup hz hr => exact (jg_tup ok j hn hst).run pins s σ H _ u Q I r ⟨_, a, G, h, rp, rs, .tup hz hr, a', h', e, q⟩
  | lst hz hr =>
    refine (pg_unl (t := liGs C gs) ok.calm j hn hst).run pins s σ H _ u Q I r ?_
    dsimp only at e
    split at e
    · rename_i hl
      refine ⟨_, _, rfl, by rw [← ok.K]; exact hz.sq, by rw [← hr.length]; exact hl, _, a, G, h, rp, rs, hr, a', h', e, q⟩
    · cases e
  | _ => cases e
@[simp] theorem gTpL_t (n : Nat) (g : List T → StT → Hm → R StT) (xs : List T) (st : StT) (h : Hm) : gTpL n g (.tup xs) st h = if xs.length = n then g xs st h else .bad := rfl
@[simp] theorem gTpL_l (n : Nat) (g : List T → StT → Hm → R StT) (xs : List T) (st : StT) (h : Hm) : gTpL n g (.lst xs) st h = if xs.length = n then g xs st h else .bad := rfl
section
variable {o : O2} {h : Hm}
@[simp] theorem eqE_c (a : T) (xs : List T) : opEqE o (.lst (a :: xs)) (.lst []) h = .ok (.bl false) h := rfl
@[simp] theorem eqE_n (y : T) : opEqE o (.lst []) y h = o (.lst []) y h := by
  cases y with
  | lst l => cases l <;> rfl
  | _ => rfl
@[simp] theorem neE_c (a : T) (xs : List T) : opNeE o (.lst (a :: xs)) (.lst []) h = .ok (.bl true) h := rfl
@[simp] theorem neE_n (y : T) : opNeE o (.lst []) y h = o (.lst []) y h := by
  cases y with
  | lst l => cases l <;> rfl
  | _ => rfl
@[simp] theorem eqE_r (l : Nat) (y : T) : opEqE o (.ref l) y h = o (.ref l) y h := rfl
@[simp] theorem neE_r (l : Nat) (y : T) : opNeE o (.ref l) y h = o (.ref l) y h := rfl
@[simp] theorem eqE_t (l : List T) (y : T) : opEqE o (.tup l) y h = o (.tup l) y h := rfl
@[simp] theorem neE_t (l : List T) (y : T) : opNeE o (.tup l) y h = o (.tup l) y h := rfl
@[simp] theorem eqE_non (y : T) : opEqE o .non y h = o .non y h := rfl
@[simp] theorem neE_non (y : T) : opNeE o .non y h = o .non y h := rfl
@[simp] theorem eqE_s (s : Str) (y : T) : opEqE o (.str s) y h = o (.str s) y h := rfl
@[simp] theorem neE_s (s : Str) (y : T) : opNeE o (.str s) y h = o (.str s) y h := rfl
end
end
end RT
set_option Elab.async false
set_option linter.all false
set_option maxRecDepth 100000
set_option maxHeartbeats 4000000
/-! RT, part z: one turn of a for loop, ranges, in plain proofs. -/
namespace RT
open PySem
section
variable {g : GT} {b : SM} {t v : T} {ts : List T} {st a1 a2 : StT} {h h1 h2 : Hm}
theorem forL_nx (e1 : g t st h = .ok a1 h1) (e2 : b a1 h1 = .ok (.nx a2) h2) : forL g b (t :: ts) st h = forL g b ts a2 h2 := by
  rw [forL_cons, e1]
  dsimp only
  rw [e2]
theorem forL_ret (e1 : g t st h = .ok a1 h1) (e2 : b a1 h1 = .ok (.ret v) h2) : forL g b (t :: ts) st h = .ok (.ret v) h2 := by
  rw [forL_cons, e1]
  dsimp only
  rw [e2]
theorem lcL_yes {te : ET} {y : T} {ys : List T} {h3 h4 : Hm} (e1 : g t st h = .ok a1 h1) (e2 : te a1 h1 = .ok y h3) (e3 : lcL g bYes te st ts h3 = .ok ys h4) : lcL g bYes te st (t :: ts) h = .ok (y :: ys) h4 := by
  rw [lcL_cons, e1]
  show (match te a1 h1 with
        | .ok y h3 => (match lcL g bYes te st ts h3 with
          | .ok ys h4 => R.ok (y :: ys) h4
          | _ => .bad)
        | _ => .bad) = _
  rw [e2]
  dsimp only
  rw [e3]
theorem rg2_ok {r : AT} {i j : Int} (e : r st h = .ok [.int i, .int j] h1) (s1 : small62 i = true) (s2 : small62 j = true) : iRg2 r st h = .ok (rangeT i (j - i).toNat) h1 := by
  rw [iRg2_, e, bind_ok']
  show (if small62 i && small62 j then R.ok (rangeT i (j - i).toNat) h1 else .bad) = _
  rw [s1, s2]
  rfl
theorem rg1_ok {r : AT} {j : Int} (e : r st h = .ok [.int j] h1) (s2 : small62 j = true) : iRg1 r st h = .ok (rangeT 0 j.toNat) h1 := by
  rw [iRg1_, e, bind_ok']
  show (if small62 j then R.ok (rangeT 0 j.toNat) h1 else .bad) = _
  rw [s2]
  rfl
theorem gtp2_ok {i j : Nat} {x y : T} : gTp 2 (gsCons (gNm i) (gsCons (gNm j) gsNil)) (.tup [x, y]) st h = .ok ((st.set i (some x)).set j (some y)) h := rfl
theorem small_s (i : Nat) (hi : i < 1000) : small62 ((i : Int) + 1) = true := by
  have := small_nat (k := i + 1) (n := 1000) (by omega)
  rwa [show ((i + 1 : Nat) : Int) = (i : Int) + 1 by omega] at this
theorem small_n (n : Nat) (hn : n ≤ 1000) : small62 (n : Int) = true := small_nat (n := 1000) hn
end
end RT
set_option Elab.async false
set_option linter.all false
set_option maxRecDepth 100000
set_option maxHeartbeats 4000000
/-! RU, part a: repr of a list of own objects. -/
namespace RT
open PySem PySem.Spec L2
open PyProof.Rows hiding St
section
variable {C : RC} {P : Program} {w : World} {S : Sta} {mg : Str → Option Value} {base : Heap} {N : List Str} {sc : Scope} {k j : Nat}
/-- the items' texts, one by one -/
def reprsT (ms : Ms) : List T → Hm → R (List Str)
  | [], h => .ok [] h
  | y :: ys, h => match dunS ms y h with
    | .ok (.str s) h1 => (match reprsT ms ys h1 with
      | .ok r h2 => .ok (s :: r) h2
      | _ => .bad)
    | _ => .bad
/-- repr: of a list of own objects, too -/
def gReprO (ms : Ms) : List T → Hm → R T := fun xs h => match xs with
  | [.lst (y :: ys)] => (match T.toDh h (.lst (y :: ys)) with
    | some _ => gRepr ms [.lst (y :: ys)] h
    | none => (match reprsT ms (y :: ys) h with
      | .ok ts h1 => if (listText ts).length ≤ sizeLine then .ok (.str (listText ts)) h1 else .bad
      | _ => .bad))
  | xs => gRepr ms xs h
theorem reprUnder_own {prog : Program} {w : World} {K : PySem.W.Frag} {A : Around} {E : Value → Shared → Prop} {s : Shared} {Q : Value → Shared → Prop} {b : Nat} {x Cc f : Addr} {ox : Obj} {od : Option Obj} (hu : A.units < cLine) (X : K.In s.heap) (I : PySem.W.InstAt s.heap x ox Cc od)
    (hs : PySem.W.findIn K (.ref Cc) "__repr__" = some (some (.ref f))) (hf : PySem.W.isFn K (.ref f) = true)
    (h : wpAny (model prog w) A (call (.ref f) [.ref x]) (PySem.W.StrBack Q) E s) : wpAny (model prog w) A (pyReprObjUnder b (.ref x)) (fun v s' => ∃ t u, v = .str t u ∧ Q v s') E s := by
  unfold pyReprObjUnder pyReprObjBy
  refine wpAny_bind (wpAny_cRoomFor hu ?_)
  refine wpAny_bind (wpAny_bind (I.type.here ((PySem.W.looks_findIn X hs).here ?_)))
  show wpAny _ _ (if (some (Value.ref f)).isNone = true then _ else _) _ _ _
  rw [if_neg (by simp)]
  refine wpAny_bind (m := callSpecialIfBoundBy? _ (.ref x) (Str.ofString "__repr__")) ?_
  simp only [callSpecialIfBoundBy?, bindSpecialIfBound?]
  refine wpAny_holding (wpAny_bind (wpAny_bind (wpAny_bind (I.type.here ((PySem.W.looks_findIn X hs).here ?_)))))
  refine wpAny_bind (wpAny_askSetting (wpAny_ite ?_))
  have fin : wpAny (model prog w) A (call (.ref f) ([.ref x] ++ []) >>= fun v => pure (some v)) (fun r s' => wpAny (model prog w) A (match r with
      | some r => (do if ← isInstance r (.type "str") then pure r else raiseError "TypeError" s!"__repr__ returned non-string (type {← typeNameOf r})")
      | none => unsupported "repr:special-get-raises") (fun v s' => ∃ t u, v = .str t u ∧ Q v s') E s') E s := by
    refine wpAny_bind (wpAny_mono h (fun r s' hr => wpAny_pure ?_) fun _ _ z => z)
    cases r <;> first | exact hr.elim | skip
    refine wpAny_bind (wpAny_isInstance (typeIs_str _ _ _) isSubtype_str_str ?_)
    first
      | exact wpAny_pure ⟨_, _, rfl, hr⟩
      | (rw [if_pos rfl]; exact wpAny_pure ⟨_, _, rfl, hr⟩)
      | (simp only [if_true]; exact wpAny_pure ⟨_, _, rfl, hr⟩)
  split
  · exact wpAny_bind ((PySem.W.bind_fn X _ (beq_iff_eq.mp hf)).here (wpAny_pure (by exact fin)))
  · exact wpAny_tryCatch (wpAny_bind ((PySem.W.bind_fn X _ (beq_iff_eq.mp hf)).here (wpAny_pure (by exact fin))))
theorem blw_loop {A : Around} {args : Args} (bl : Blw C (j + 1) A) (hj : j < 100) {g : List Code} (hg : A.guards = some g) : Blw C j (A.under (.builtin "list.__repr__.loop" args)) := by
  have e1 : (A.under (.builtin "list.__repr__.loop" args)).handled = A.handled := by first | rfl | simp [Around.under]
  have e2 : (A.under (.builtin "list.__repr__.loop" args)).depth ≤ A.depth + 1 := by
    first
      | exact Nat.le_refl _
      | simp [Around.under, Code.weight, Code.isCreation, Code.isGuard, Code.isCaller, Code.frames, Code.isFrame, guardIds]
  have e3 := units_under_list_loop A args
  have e4 : (A.under (.builtin "list.__repr__.loop" args)).frames = A.frames := by first | rfl | simp [Around.under, Code.frames, Code.isFrame]
  refine ⟨⟨e1.trans bl.room.hd, ?_, ?_⟩, e4.trans bl.fr, ⟨_, guards_under_guard (isGuard_list_loop _) hg, fun z => absurd z (by omega)⟩⟩
  · have := bl.room.dp; omega
  · have := bl.room.un; omega
theorem piled_snoc (ts : List Str) (t : Str) : piled (ts ++ [t]) = piled ts + (t.length + 2) := by
  rw [piled_append]
  simp [piled]
theorem two_piled : ∀ ts : List Str, 2 * ts.length ≤ piled ts
  | [] => Nat.zero_le _
  | t :: ts => by
    have := two_piled ts
    rw [piled_cons, List.length_cons]
    omega
theorem reprs_loop (ok : C.Ok) {ms : Ms} (hm : DuOk C j "__repr__" 1 ms) (hj : j < 100) {A : Around} (bl : Blw C (j + 1) A) {g : List Code} (hg : A.guards = some g) {a P : Addr} (hne : a ≠ P) {vs : List V} {xs : List T} {pins : List (Addr × Obj)} {σ : St}
    (p1 : P ∈ C.X.ex ∨ C.X.s_0.heap.objs.size ≤ P) (p2 : ∀ x c, C.X.env.cells.lookup x = some c → c ≠ P) (p3 : ∀ p ∈ C.X.pn ++ pins, p.1 ≠ P) (ts : List Str) (hsz : (listText ts).length ≤ sizeLine) {R : Result → Shared → Prop} (he : ∀ e s', C.X.xe e s' → R (.error e) s') (hN : Hm) :
    ∀ (ys pre : List T) (tpre tys : List Str) (s : Shared) (H : Hp) (G : Gh) (h : Hm) (acc : Array Value) (c : Nat) (done : List (Str × Tok)), xs = pre ++ ys → ts = tpre ++ tys → tpre.length = pre.length → reprsT ms ys h = .ok tys hN →
      Inv C.X ((P, { cls := .type "list", data := .seq acc c }) :: pins) σ H s → RepH C.S H G h → FzL C.S H G a vs → RelTs C.S H G xs vs → acc.toList = strValues done → done.map (·.1) = tpre →
      (∀ u H' G' s', Inv C.X pins σ H' s' → Step H G H' G' → RepH C.S H' G' hN → R (.ok (.ret (.str (listText ts) u))) s') →
      codeAny (model C.X.prog C.X.w) A (.builtin "list.__repr__.loop" ⟨[.ref a, rawInt pre.length, .ref P, rawInt ((piled tpre : Nat) : Int)], []⟩) R s
  | [], pre, tpre, tys, s, H, G, h, acc, c, done, ex, et, el, er, I, rp, hz, rs, ea, ed, hR => by
    cases er
    rw [List.append_nil] at ex et
    obtain ⟨its, n, rv, hl, _, ho⟩ := lst_exact ok I hz
    have hlen := rs.length
    refine codeAny_builtin F.entry_list_repr_loop ?_
    show wpAny _ _ (Builtin.«list.__repr__.loop» ⟨[.ref a, .int (pre.length : Nat) 0, .ref P, .int ((piled tpre : Nat) : Int) 0], []⟩) _ _ s
    rw [repr_loop_tree]
    refine wpAny_bind (wpAny_listItems ho rfl ?_)
    have hnone : its.toArray[((pre.length : Nat) : Int).toNat]? = none := by
      have := congrArg List.length ex
      simp
      omega
    simp only [hnone]
    unfold reprEnd
    obtain ⟨q1, _⟩ := I.pin (P, { cls := .type "list", data := .seq acc c }) (by simp)
    refine wpAny_bind (wpAny_listItems q1 rfl ?_)
    rw [ea, repr_fold]
    refine wpAny_bind (wpAny_pure ?_)
    rw [ed, ← et]
    refine wpAny_bind (wpAny_mkStr (wpAny_pure ?_) hsz)
    exact hR _ H G _ ((I.pins_of fun p hp => I.pin p (by simp [hp])).tok _) Step.refl rp
  | y :: ys, pre, tpre, tys, s, H, G, h, acc, c, done, ex, et, el, er, I, rp, hz, rs, ea, ed, hR => by
    rw [reprsT] at er
    cases e1 : dunS ms y h with
    | bad => rw [e1] at er; cases er
    | exc x h1 => rw [e1] at er; cases er
    | ok t1 h1 =>
      rw [e1] at er
      cases t1 with
      | str t =>
        dsimp only at er
        cases e2 : reprsT ms ys h1 with
        | bad => rw [e2] at er; cases er
        | exc x h1 => rw [e2] at er; cases er
        | ok tys' h2 =>
          rw [e2] at er
          cases er
          obtain ⟨its, n, rv, hl, _, ho⟩ := lst_exact ok I hz
          have hlen := rs.length
          have hlt : pre.length < its.length := by
            rw [← hl, ← hlen, ex, List.length_append, List.length_cons]
            omega
          obtain ⟨vy, hvy, ry⟩ := rs.get (i := pre.length) (t := y) (by rw [ex]; simp)
          obtain ⟨u, hu, ru⟩ := rv.get hvy
          have hs1 : tpre ++ t :: tys' = (tpre ++ [t]) ++ tys' := by simp
          have hp0 := piled_le_listText ts
          have hp1 : piled ts = piled tpre + ((t.length + 2) + piled tys') := by rw [et, piled_append, piled_cons]
          have htl : t.length ≤ sizeLine := by omega
          have hpl : piled tpre + 1 ≤ sizeLine := by omega
          refine codeAny_builtin F.entry_list_repr_loop ?_
          show wpAny _ _ (Builtin.«list.__repr__.loop» ⟨[.ref a, .int (pre.length : Nat) 0, .ref P, .int ((piled tpre : Nat) : Int) 0], []⟩) _ _ s
          rw [repr_loop_tree]
          refine wpAny_bind (wpAny_listItems ho rfl ?_)
          have hsome : its.toArray[((pre.length : Nat) : Int).toNat]? = some u := by simpa using hu
          simp only [hsome]
          rw [Int.toNat_natCast]
          have bl2 := blw_loop (args := ⟨[.ref a, rawInt pre.length, .ref P, rawInt ((piled tpre : Nat) : Int)], []⟩) bl hj hg
          have o : Out C σ H G (relE C) (dunS ms y h) (fun v H' => v = .str t ∧ ∃ G', Step H G H' G' ∧ RepH C.S H' G' h1) := by
            rw [e1]
            intro v H' G' st rp' rv'
            cases rv'
            exact ⟨rfl, G', st, rp'⟩
          obtain ⟨b, cc, dx, fs, ev, eb, fa, q1, q2, q3⟩ := dunS_run ok hm bl2 I rp ry o
          subst ev
          cases ru
          obtain ⟨ox, od, J⟩ := inst_of I eb
          refine wpAny_bind (wpAny_holding (wpAny_pyReprUnder_ref hpl (wpAny_mono (reprUnder_own bl2.room.units0 I.kIn J q1 q2 (q3 s I)) (fun v s2 hv => ?_) he)))
          obtain ⟨t', u', rfl, v', H2, I2, rr, rfl, G2, st2, rp2⟩ := hv
          obtain ⟨tk0, e0⟩ := _root_.id rr
          cases e0
          refine ⟨_, _, rfl, ?_⟩
          refine wpAny_bind (wpAny_mkStr ?_ htl)
          obtain ⟨g1, g2, g3, g4, g5⟩ := I2.pin (P, { cls := .type "list", data := .seq acc c }) (by simp)
          have hasz : acc.size ≤ sizeLine := by
            have z1 : acc.toList.length = acc.size := by simp
            have z2 : (strValues done).length = done.length := by simp [strValues]
            have z3 : done.length = tpre.length := by rw [← ed, List.length_map]
            have z4 := two_piled tpre
            rw [ea] at z1; omega
          refine wpAny_bind ?_
          show wpAny _ _ (updateSeq P _) _ _ _
          refine wpAny_updateSeq g1 rfl (wpAny_pure ⟨F.quiet_list_repr_loop _, ?_⟩) hasz
          have e3 : ((pre.length : Nat) : Int) + 1 = (((pre ++ [y]).length : Nat) : Int) := by simp
          have e4 : piled tpre + (t.length + 2) = piled (tpre ++ [t]) := (piled_snoc tpre t).symm
          rw [e3, e4]
          have I3 : Inv C.X pins σ H2 s2 := I2.pins_of fun p hp => I2.pin p (by simp [hp])
          have I4 := I3.turned (it := P) (t' := s2.toks + 1) (h' := s2.heap.update P (Obj.mapSeq (·.push (.str t s2.toks)))) (fun b o hb e => (Heap.get?_update_other _ _ (fun z : P = b => hb z.symm)).trans e) g2 g3 p1 p2 p3
          have g1' : s2.heap.get? P = some { cls := .type "list", data := .seq acc c } := g1
          have gu := Heap.get?_update_self (Obj.mapSeq (·.push (.str t s2.toks))) g1' rfl
          obtain ⟨c', hc'⟩ : ∃ c', Obj.mapSeq (·.push (.str t s2.toks)) { cls := .type "list", data := .seq acc c } = { cls := .type "list", data := .seq (acc.push (.str t s2.toks)) c' } := ⟨_, rfl⟩
          rw [hc'] at gu
          have I5 := I4.pins_of (pins' := (P, { cls := .type "list", data := .seq (acc.push (.str t s2.toks)) c' }) :: pins) (fun p hp => by
            rcases List.mem_cons.mp hp with z | z
            · subst z
              exact ⟨gu, g2, g3, g4, fun _ => nofun⟩
            · exact I4.pin p (by simp [z]))
          exact reprs_loop ok hm hj bl hg hne p1 p2 p3 ts hsz he hN ys (pre ++ [y]) (tpre ++ [t]) tys' _ H2 G2 h1 (acc.push (.str t s2.toks)) c' (done ++ [(t, s2.toks)]) (by rw [ex]; simp) (by rw [et]; simp) (by simp [el]) e2 I5 rp2 (hz.step st2) (rs.step st2) (by simp [ea, strValues]) (by simp [ed]) fun u H' G' s' I' st' rp' => hR u H' G' s' I' (st2.trans st') rp'
      | _ => cases er
theorem ca_reprO (ok : C.Ok) {ms : Ms} (hm : DuOk C j "__repr__" 1 ms) (hj : j < 100) (hk : j + 2 ≤ C.k) (hg : 100 ≤ C.k) : CaT C (.builtin "repr") (gReprO ms) := by
  intro pins s σ H G h xs vs us Q I rp rx vu o
  unfold gReprO at o
  split at o
  · rename_i y ys
    split at o
    · exact ca_repr ok hm hk hg pins s σ H G h _ vs us Q I rp rx vu o
    · split at o
      · rename_i ts h1 er
        split at o
        · rename_i hsz
          obtain ⟨v, rfl, rv⟩ := rx.one
          obtain ⟨u, rfl, r1⟩ := vals1 vu
          cases rv with
          | lst hz rs =>
            rename_i a ws
            cases r1
            obtain ⟨its, n, rw', hl, _, ho⟩ := lst_exact ok I hz
            have hlen := rs.length
            obtain ⟨i0, ir, ei⟩ : ∃ i0 ir, its = i0 :: ir := by
              cases its with
              | nil => simp at hl; rw [hl] at hlen; simp at hlen
              | cons a b => exact ⟨a, b, rfl⟩
            have hTy : s.TypeIs (.ref a) "list" := ⟨_, ho, rfl⟩
            have hgd : C.X.A.in1.guards = some [] := ok.gd.none hg
            have bl : Blw C (j + 1) C.X.A.in1 := (ok.blw (n := j + 2) hk).in1
            refine call_repr_slot (by have := ok.room.un; omega) hTy F.slot_list_repr.toG ?_
            refine wpAny_call (codeAny_call_builtin F.slot_list_repr.plain F.entry_list_repr (F.slot_list_repr.check _ _ _ _ _ _ _ _ hTy (F.args_list_repr_1 _) ?_))
            show wpAny _ _ (Builtin.listReprAt 0 ⟨[.ref a], []⟩) _ _ s
            refine wpAny_list_repr_head (A := C.X.A.in1.in1) (g := []) hgd (fun _ _ _ z => nomatch z) ho (by rw [ei]) ?_
            refine wpAny_bind (m := newList []) (wpAny_newObj_type ?_)
            refine wpAny_pure ⟨F.quiet_list_repr_loop _, ?_⟩
            obtain ⟨k1, k2, k3, k4, k5, k6⟩ := I.fpOk (b := s.heap.objs.size) (Nat.le_refl _) (I.hok.fresh (Nat.le_refl _))
            have I1 : Inv C.X pins σ H { s with heap := s.heap.push { cls := .type "list", data := .seq #[] } } := I.kept (t' := s.toks) fun b o e => Heap.get?_push_of_some _ e
            have I2 := I1.pins_of (pins' := (s.heap.objs.size, { cls := .type "list", data := .seq #[] }) :: pins) (fun p hp => by
              rcases List.mem_cons.mp hp with z | z
              · subst z
                exact ⟨Heap.get?_push_size _ rfl, k1, k2, k3, fun _ => nofun⟩
              · exact I1.pin p (by simp [z]))
            exact reprs_loop ok hm hj bl hgd (Nat.ne_of_lt (Heap.lt_size ho)) k4 k5 k6 ts hsz (fun e s' z => z) h1 (y :: ys) [] [] ts _ H G h #[] 0 [] rfl rfl rfl er I2 rp hz rs (by simp [strValues]) rfl fun u H' G' s' I' st' rp' => ⟨_, _, rfl, .str _, H', I', ⟨_, rfl⟩, o (.str _) H' G' st' rp' (.str _)⟩
        · exact False.elim o
      · exact False.elim o
  · exact ca_repr ok hm hk hg pins s σ H G h _ vs us Q I rp rx vu o
theorem reprO_ (cf : Cf C P w S mg base N sc k) {ms : Ms} (hm : DuOk C j "__repr__" 1 ms) (hj : j < 100) (hk : j + 2 ≤ k) (hg : 100 ≤ k) : CaT C (.builtin "repr") (gReprO ms) := ca_reprO cf.ok hm hj (by rw [cf.k]; exact hk) (by rw [cf.k]; exact hg)
section
variable (ms : Ms) (h : Hm)
@[simp] theorem reprO_i (i : Int) : gReprO ms [.int i] h = gRepr ms [.int i] h := rfl
@[simp] theorem reprO_n : gReprO ms [.non] h = gRepr ms [.non] h := rfl
@[simp] theorem reprO_s (i : Str) : gReprO ms [.str i] h = gRepr ms [.str i] h := rfl
@[simp] theorem reprO_b (i : Bool) : gReprO ms [.bl i] h = gRepr ms [.bl i] h := rfl
@[simp] theorem reprO_t (xs : List T) : gReprO ms [.tup xs] h = gRepr ms [.tup xs] h := rfl
@[simp] theorem reprO_e : gReprO ms [.lst []] h = gRepr ms [.lst []] h := rfl
@[simp] theorem reprO_o (c : Nat) (fs : List (Nat × T)) : gReprO ms [.obj c fs] h = gRepr ms [.obj c fs] h := rfl
@[simp] theorem reprO_2i (a b : Int) : gReprO ms [.lst [.int a, .int b]] h = showD (.lst [.int a, .int b]) h := rfl
theorem reprO_l (y : T) (ys : List T) : gReprO ms [.lst (y :: ys)] h = match T.toDh h (.lst (y :: ys)) with
    | some _ => gRepr ms [.lst (y :: ys)] h
    | none => (match reprsT ms (y :: ys) h with
      | .ok ts h1 => if (listText ts).length ≤ sizeLine then .ok (.str (listText ts)) h1 else .bad
      | _ => .bad) := rfl
end
end
end RT
set_option Elab.async false
set_option linter.all false
set_option maxRecDepth 100000
set_option maxHeartbeats 4000000
/-! RU, part b: a op1 b op2 c. -/
namespace RT
open PySem PySem.Spec L2
open PyProof.Rows hiding St
section
variable {C : RC} {P : Program} {w : World} {S : Sta} {mg : Str → Option Value} {base : Heap} {N : List Str} {sc : Scope} {k j : Nat}
/-- a op1 b op2 c -/
def eChain (o1 o2 : O2) (ra rb rc : ET) : ET := fun st h => (ra st h).bind fun x h1 => (rb st h1).bind fun y h2 => (o1 x y h2).bind fun t h3 => match t with
  | .bl true => (rc st h3).bind fun z h4 => o2 y z h4
  | .bl false => .ok (.bl false) h3
  | _ => .bad
theorem je_chain {op op' : CmpOp} {o1 o2 : O2} (ho : OpT C (compareOp op) o1) (ho' : OpT C (compareOp op') o2) {a b c : Expr} {ra rb rc : ET} {pos : Pos} (ja : JE C a ra) (jb : JE C b rb) (jc : JE C c rc)
    (hm : lastMarks [op, op'] [b, c] = false := by with_unfolding_all rfl) : JE C (.Compare a [op, op'] [b, c] pos) (eChain o1 o2 ra rb rc) := by
  refine ⟨fun pins s σ H Q I hw => ?_⟩
  obtain ⟨st, G, h, rp, rs, o⟩ := hw
  refine Compare_chain (thn (ja.run I rp rs (Out.bind (Rel := relE C) o)) fun v s1 ⟨x, H1, I1, r1, tx, G1, h1, st1, rp1, rx, q1⟩ => chain_link (thn (jb.run I1 rp1 (rs.step st1) (Out.bind (Rel := relE C) q1)) fun u s2 ⟨y, H2, I2, r2, ty, G2, h2, st2, rp2, ry, q2⟩ =>
    thn (ho pins s2 σ H2 G2 h2 tx ty x y v u _ I2 rp2 (rx.step st2) ry r1 r2 (Out.bind (Rel := relE C) q2)) fun d s3 ⟨z, H3, I3, r3, tz, G3, h3, st3, rp3, rz, q3⟩ => ?_)) hm
  dsimp only at q3
  split at q3
  · cases rz
    cases r3
    refine wpAny_truthy_bool ?_
    exact ite_tt (chain_last (thn (jc.run I3 rp3 (((rs.step st1).step st2).step st3) (Out.bind (Rel := relE C) q3)) fun w' s4 ⟨z', H4, I4, r4, tz', G4, h4, st4, rp4, rz', q4⟩ =>
      ho' pins s4 σ H4 G4 h4 ty tz' y z' u w' Q I4 rp4 ((ry.step st3).step st4) rz' r2 r4 q4))
  · cases rz
    cases r3
    refine wpAny_truthy_bool ?_
    exact ite_ff ⟨.bl false, H3, I3, rfl, out_ok q3 rp3 (.bl _)⟩
  · exact False.elim q3
theorem jb_chain {op op' : CmpOp} {o1 o2 : O2} (ho : OpT C (compareOp op) o1) (ho' : OpT C (compareOp op') o2) {a b c : Expr} {ra rb rc : ET} {pos : Pos} (ja : JE C a ra) (jb : JE C b rb) (jc : JE C c rc)
    (hm : lastMarks [op, op'] [b, c] = false := by with_unfolding_all rfl) : JB C (.Compare a [op, op'] [b, c] pos) (bE (eChain o1 o2 ra rb rc)) := by
  refine ⟨fun pins s σ H Q I hw => ?_⟩
  obtain ⟨st, G, h, rp, rs, o0⟩ := hw
  have o := Out.bind (Rel := relE C) o0
  refine isTrue_chain (thn (ja.run I rp rs (Out.bind (Rel := relE C) o)) fun v s1 ⟨x, H1, I1, r1, tx, G1, h1, st1, rp1, rx, q1⟩ => test_link (thn (jb.run I1 rp1 (rs.step st1) (Out.bind (Rel := relE C) q1)) fun u s2 ⟨y, H2, I2, r2, ty, G2, h2, st2, rp2, ry, q2⟩ =>
    thn (ho pins s2 σ H2 G2 h2 tx ty x y v u _ I2 rp2 (rx.step st2) ry r1 r2 (Out.bind (Rel := relE C) q2)) fun d s3 ⟨z, H3, I3, r3, tz, G3, h3, st3, rp3, rz, q3⟩ => ?_)) hm
  dsimp only at q3
  split at q3
  · cases rz
    cases r3
    refine wpAny_truthy_bool ?_
    refine ite_tt (test_last (thn (jc.run I3 rp3 (((rs.step st1).step st2).step st3) (Out.bind (Rel := relE C) q3)) fun w' s4 ⟨z', H4, I4, r4, tz', G4, h4, st4, rp4, rz', q4⟩ =>
      thn (ho' pins s4 σ H4 G4 h4 ty tz' y z' u w' _ I4 rp4 ((ry.step st3).step st4) rz' r2 r4 q4) fun d' s5 ⟨z2, H5, I5, r5, q5⟩ => ?_))
    obtain ⟨t5, G5, h5, st5, rp5, rx5, o5⟩ := q5
    obtain ⟨b', rfl, q⟩ := out_asB o5 Step.refl rp5 rx5
    cases r5
    exact wpAny_truthy_bool ⟨H5, I5, q⟩
  · cases rz
    cases r3
    refine wpAny_truthy_bool ?_
    obtain ⟨t5, G5, h5, st5, rp5, rx5, o5⟩ := out_ok q3 rp3 (.bl false)
    obtain ⟨b', e', q⟩ := out_asB o5 Step.refl rp5 rx5
    cases e'
    exact ite_ff ⟨H3, I3, q⟩
  · exact False.elim q3
@[simp] theorem eChain_ (o1 o2 : O2) (ra rb rc : ET) (st : StT) (h : Hm) : eChain o1 o2 ra rb rc st h = (ra st h).bind fun x h1 => (rb st h1).bind fun y h2 => (o1 x y h2).bind fun t h3 => match t with
  | .bl true => (rc st h3).bind fun z h4 => o2 y z h4
  | .bl false => .ok (.bl false) h3
  | _ => .bad := rfl
end
end RT
set_option Elab.async false
set_option linter.all false
set_option maxRecDepth 100000
set_option maxHeartbeats 4000000
/-! RT, part Uc: own exceptions as values: made, their field set and read, isinstance of them. -/
namespace RT
open PySem PySem.Spec L2
open PyProof.Rows hiding St

/-! ### the class, told -/
structure XcB (K : PySem.W.Frag) (C : Addr) : Prop where
  ex : ∃ B newId initId tl, HandSPX.TlF B newId initId tl ∧ HandSPX.OexG K C newId tl
structure MkE (K : PySem.W.Frag) (C f : Addr) : Prop where
  b : XcB K C
  init : PySem.W.findIn K (.ref C) "__init__" = some (some (.ref f))
  fn : PySem.W.isFn K (.ref f) = true
  kp : PySem.W.keepIn K (.ref C) = true
/-- for isinstance, for fields -/
structure XcI (K : PySem.W.Frag) (C : Addr) : Prop where
  cl : (PySem.W.clsIn K C).isSome = true
  ga : PySem.W.findIn K (.ref C) "__getattribute__" = some (some (.builtin "BaseException.__getattribute__"))
  gg : PySem.W.findIn K (.ref C) "__getattr__" = some none
  exC : PySem.W.subIn K (.ref C) (.type "BaseException") = some true
  hdC : PySem.W.hasDictIn K C = true
  ha : PySem.W.findIn K (.ref C) "__class__" = some (some (.builtin "object.__class__"))
  hn : PySem.W.specialIn K (.builtin "object.__class__") "__get__" = some (some (.builtin "getset_descriptor.__get__"))
  ht : PySem.W.takesIn K (.builtin "object.__class__") = some true
  hm : PySem.W.mroIn K C (.type "object") = some true

/-! ### a field set, the first one -/
section
variable {X : Cx} {pins : List (Addr × Obj)} {σ : St} {H : Hp} {s : Shared} {a C dx : Addr} {f : Str} {y : V} {u : Value} {Q : Unit → Shared → Prop} {E : Value → Shared → Prop} {A : Around}
theorem ost_newT (T : XcB X.K C) (I : Inv X pins σ H s) (e : H a = some (L2.exo a C none)) (hno : PySem.W.findIn X.K (.ref C) f = some none) (ry : RelV y u)
    (h : ∀ dx s', H dx = none → dx ≠ a → Inv X pins σ (upd (upd H dx (.xd [(f, y)])) a (L2.exo a C (some dx))) s' → Q () s') : wpAny (model X.prog X.w) A (setAttr (.ref a) f u) Q E s := by
  obtain ⟨B, newId, initId, tl, TF, OG⟩ := T.ex
  obtain ⟨nm, q, N, bs, bm, sn, sub, ab, col, dd, k0, k1, k2, k3, k5, hC, hbm⟩ := OG.cls
  have hcl : PySem.W.clsIn X.K C = some { name := nm, bases := bs, mro := .ref C :: bm, ns := N, qualname := q, hasDict := true, slotNames := sn, subclasses := sub, abstract := ab, collection := col, hasDel := false } := by unfold PySem.W.clsIn; rw [hC] <;> rfl
  obtain ⟨t1, ho⟩ := exo_at I.hok e
  obtain ⟨hp, g, d, t, os⟩ := s
  refine PySem.W.set_plain I.kIn (ox := { cls := .ref C, dict := none, data := .fields #[.ref t1, .none, .none, .none, .bool false, .none] }) (od := none) ⟨ho, rfl, rfl, trivial⟩ OG.sa ?_
  refine PySem.HandSPX.exc_osaT TF I.kIn ho hcl (show PySem.HandSPX.refsT tl (.ref C :: bm) = true from hbm) rfl hno (fun h' tk' dx k dn dne hx hn => ?_)
  have hnd : H dx = none := I.hok.fresh dn
  have nd : ∀ {b : Addr} {o : Obj}, hp.get? b = some o → b ≠ dx := fun {b o} q => Nat.ne_of_lt (Nat.lt_of_lt_of_le (Heap.lt_size q) dn)
  have na : ∀ {b : Addr}, H b = none → b ≠ a := fun {b} n z => by
    rw [z, e] at n
    cases n
  have Un1 : Un X.fs [] H (upd (upd H dx (.xd [(f, y)])) a (L2.exo a C (some dx))) hp h' := {
    keep := fun b o q n _ _ => k b o (na n) q
    slot := fun b o q n _ _ => ⟨o.slots, k b o (na n) q⟩
    free := fun b o q n _ => by rw [upd_ne (na n), upd_ne (nd q)]; exact n
    there := fun b o q _ => by
      by_cases hb : b = a
      · exact ⟨_, by rw [hb]; exact hx⟩
      · exact ⟨o, k b o hb q⟩
    tups := fun b xs q => by rw [upd_ne (at_ne e q exo_tup), upd_ne (ne_of_none q hnd)]; exact q
    frzs := fun b o v q => by rw [upd_ne (at_ne e q exo_frz), upd_ne (ne_of_none q hnd)]; exact q
    tbls := fun b ps q => ⟨#[], by rw [upd_ne (at_ne e q exo_tbl), upd_ne (ne_of_none q hnd), q]; simp⟩ }
  refine h dx _ hnd dne (I.un (t' := tk') Un1 fun b o q => ?_)
  by_cases hb : b = a
  · subst hb
    rw [upd_same] at q
    cases q
    exact exo_ok hx
  · rw [upd_ne hb] at q
    by_cases hd : b = dx
    · subst hd
      rw [upd_same] at q
      cases q
      exact ⟨_, hn, relO_put (fs := []) ry fun g => True.intro⟩
    · rw [upd_ne hd] at q
      exact (I.hok b o q).stay (fun c v hc z => k c v (by
          rcases hc with hc | hc
          · rw [hc]
            exact hb
          · exact at_ne e hc exo_own) z)
        (fun c hc => by rw [upd_ne (at_ne e hc exo_own), upd_ne (ne_of_none hc hnd)]; exact hc) (fun c xs hc => by rw [upd_ne (at_ne e hc exo_tup), upd_ne (ne_of_none hc hnd)]; exact hc)
end
section
variable {C : RC} {pos : Pos} {e o : Expr} {re ro : ET} {f : Str} {fi : Nat}
/-- o.f = e, o an exception in the making -/
def sXst (cs : List Nat) (fi : Nat) (re ro : ET) : SM := fun a h => (re a h).th a fun y h1 => (ro a h1).th a fun x h2 => match x with
  | .ref l => (match h2[l]? with
    | some (some (.exn c [])) => if cs.contains c && y.noRef then .ok (.nx a) (h2.set l (some (.exn c [(fi, y)]))) else .bad
    | _ => .bad)
  | _ => .bad
theorem js_xst (ok : C.Ok) {cs : List Nat} {pos' : Pos} (jo : JE C o ro) (je : JE C e re) (ef : C.S.fld fi = f) (hf : fi < C.S.nf) (hc : ∀ c ∈ cs, XcB C.S.K (C.S.cls c) ∧ PySem.W.findIn C.S.K (.ref (C.S.cls c)) f = some none)
    (hs : swapsWith e (some (.Attribute o f pos')) pos.line C.X.env = pure false := by rfl) : JS C (.Assign [.Attribute o f pos'] e pos) (sXst cs fi re ro) := by
  refine ⟨fun pins s σ H D I hw => ?_⟩
  obtain ⟨a, G, h, rp, rs, ho⟩ := hw
  refine plainObj_wpAny_Assign_Attribute (thn (je.run I rp rs (OutS.bind (Rel := relE C) rs ho)) fun u s1 ⟨v, H1, I1, ru, y, G1, h1, st1, rp1, ry, o1⟩ => ?_) hs
  refine thn (jo.run I1 rp1 (rs.step st1) (OutS.bind (Rel := relE C) (rs.step st1) o1)) fun u2 s2 ⟨v2, H2, I2, ru2, x, G2, h2, st2, rp2, rx, o2⟩ => ?_
  dsimp only at o2
  split at o2
  · rename_i l
    split at o2
    · rename_i c q
      split at o2
      · rename_i hcs
        obtain ⟨k1, k2⟩ := band hcs
        cases rx with
        | @ref _ a' hl =>
          cases ru2
          obtain ⟨a2, o', h1', h2', h3', _, hnr⟩ := rp2.cell _ _ q
          rw [hl] at h1'; cases h1'
          obtain ⟨c1, c2⟩ := hc c (List.contains_iff_mem.mp k1)
          rw [ok.K] at c1 c2
          cases h3' with
          | exn0 =>
            subst ef
            refine ost_newT c1 I2 h2' c2 ru fun dx s3 hdx ndx I3 => ?_
            obtain ⟨st3, rp3⟩ := rp2.newF (o := .xd [(C.S.fld fi, v)]) hdx
            have rf : RelFs C.S (upd H2 dx (.xd [(C.S.fld fi, v)])) (G2.fz dx) [(fi, y)] [(C.S.fld fi, v)] := .cons hf ((ry.step st2).step st3) .nil
            obtain ⟨st4, rp4⟩ := rp3.set (G := G2.fz dx) hl q (.exn (c := c) (f := (fi, y)) (fs := []) (.inl rfl) upd_same rf) (by show T.noRefF [(fi, y)] = true; rw [T.noRefF, k2]; rfl)
            exact ⟨σ, _, I3, o2 σ _ _ (st3.trans st4) rp4 ((((rs.step st1).step st2).step st3).step st4)⟩
      · exact False.elim o2
    · exact False.elim o2
  · exact False.elim o2
end
/-! ### made -/
def mkXFin (c n : Nat) : R T → R T
  | .ok t h => (match t, h[n]? with
    | .non, some (some (.exn c' fs)) => if c' = c then .ok (.exo c fs) (h.take n) else .bad
    | _, _ => .bad)
  | .exc e h => if e.noRef then .exc e (h.take n) else .bad
  | .bad => .bad
def mkXC (c : Nat) (o : O3) : O3 := fun xs zs h => mkXFin c h.length (o (.ref h.length :: xs) zs (h ++ [some (.exn c [])]))
def mkXO (c : Nat) (g : List T → Hm → R T) (arr : List T → List T → List T) : O3 := fun xs zs h => mkXFin c h.length (g (arr (.ref h.length :: xs) zs) (h ++ [some (.exn c [])]))
theorem CaK.makeXC {C : RC} (ok : C.Ok) {k c : Nat} {f : Addr} {ks : List Str} {n : Nat} {oo : O3} (M : MkE C.S.K (C.S.cls c) f)
    (F : FnC C.X.prog C.X.w C.S C.X.mg C.X.base k f (n + 1) ks oo) (hk : k + 1 ≤ C.k) (hn : n ≤ 1000 := by decide) : CaK C (.ref (C.S.cls c)) n ks (mkXC c oo) := by
  intro pins s σ H G h xs zs vs vz us ws Q I rp rx rz vu vw l1 l2 o
  have hr : Room (k + 1) C.X.A := ok.room.mono hk
  obtain ⟨⟨B, newId, initId, tl, TF, OG⟩, iC, tI, kp⟩ := M
  obtain ⟨nm, q, N, bs, bm, sn, sub, ab, col, dd, k0, k1, k2, k3, k5, hC, hbm⟩ := OG.cls
  rw [ok.K] at hC iC tI
  have typ := OG.typ
  rw [ok.K] at typ
  obtain ⟨hp, g, dr, tk, os⟩ := s
  have hsz : hp.objs.size ≤ hp.objs.size + 1 := Nat.le_succ _
  have f1 : H (hp.objs.size + 1) = none := I.hok.fresh hsz
  have hus : us.length ≤ sizeLine := by
    rw [l1, sizeLine_eq]
    omega
  have kk : ∀ b o, hp.get? b = some o → ((hp.push (PySem.W.kdv_tup us)).push (PySem.HandSPX.excO (C.S.cls c) hp.objs.size)).get? b = some o := fun b o e => Heap.get?_push_of_some _ (Heap.get?_push_of_some _ e)
  have hget : ((hp.push (PySem.W.kdv_tup us)).push (PySem.HandSPX.excO (C.S.cls c) hp.objs.size)).get? (hp.objs.size + 1) = some (PySem.HandSPX.excO (C.S.cls c) hp.objs.size) := by heap_get
  have I2 : Inv C.X pins σ (upd H (hp.objs.size + 1) (L2.exo (hp.objs.size + 1) (C.S.cls c) none)) ⟨(hp.push (PySem.W.kdv_tup us)).push (PySem.HandSPX.excO (C.S.cls c) hp.objs.size), g, dr, tk, os⟩ :=
    I.laid (t' := tk) (a := hp.objs.size + 1) (o := L2.exo (hp.objs.size + 1) (C.S.cls c) none) (h' := (hp.push (PySem.W.kdv_tup us)).push (PySem.HandSPX.excO (C.S.cls c) hp.objs.size)) kk hsz (exo_ok hget)
  obtain ⟨st3, rp2⟩ := rp.newC (o := L2.exo (hp.objs.size + 1) (C.S.cls c) none) (c := .exn c []) f1 .exn0 rfl
  have eref : (G.ad (hp.objs.size + 1)).mu[h.length]? = some (hp.objs.size + 1) := by
    show (G.mu ++ [hp.objs.size + 1])[h.length]? = _
    rw [rp.len, List.getElem?_append_right (Nat.le_refl _)]; simp
  have rx' : RelTs C.S _ (G.ad (hp.objs.size + 1)) (.ref h.length :: xs) (.ref (hp.objs.size + 1) :: vs) := .cons (.ref eref) (rx.step st3)
  have KX : C.S.K.In ((hp.push (PySem.W.kdv_tup us)).push (PySem.HandSPX.excO (C.S.cls c) hp.objs.size)) := by rw [ok.K]; exact I2.kIn
  have e0 := I2.env0.make (C.S.cls c) us (ks.zip ws)
  rw [← ok.K] at e0
  have hmu : (G.ad (hp.objs.size + 1)).mu.length = h.length + 1 := by simp [Gh.ad, rp.len]
  have hend : EndT C.S (upd H (hp.objs.size + 1) (L2.exo (hp.objs.size + 1) (C.S.cls c) none)) (G.ad (hp.objs.size + 1)) (oo (.ref h.length :: xs) zs (h ++ [some (.exn c [])])) (fun v H2 => v = .non ∧ Q (.ref (hp.objs.size + 1)) H2) (fun cls d H' => C.W cls d σ H') := by
    have o2 := Out.endT o
    unfold mkXC at o2
    cases q : oo (.ref h.length :: xs) zs (h ++ [some (.exn c [])]) with
    | ok t h' =>
      rw [q] at o2
      unfold mkXFin at o2
      dsimp only at o2
      split at o2
      · rename_i c' fs e2
        split at o2
        · rename_i ec
          subst ec
          intro v H' G' st rp' rv
          cases rv
          refine ⟨rfl, ?_⟩
          obtain ⟨a, u, h1, h2, h3, h4, h5⟩ := rp'.cell _ _ e2
          rw [st.get eref] at h1; cases h1
          obtain ⟨st4, rp4⟩ := rp'.freeze (st.get eref) (by rw [h2]; simp)
          have cutl : ((h'.set h.length none).take h.length) = h'.take h.length := by rw [List.take_set_of_le (Nat.le_refl _)]
          have rp5 := rp4.cut h.length
          rw [cutl] at rp5
          have st5 := ((st3.trans st).trans st4).cut
          rw [← rp.len] at st5
          cases h3 with
          | exn0 => exact o2 _ H' _ st5 rp5 (.exo0 (.inl rfl) h2)
          | exn zz hd rf => exact o2 _ H' _ st5 rp5 (.exo (.inl rfl) (.inr zz) h2 hd (RelFs.indep (G := G') (G' := (G'.fz (hp.objs.size + 1)).cut h.length) (fun _ z => .inr z) rf h5))
        · exact False.elim o2
      · exact False.elim o2
    | exc e h' =>
      rw [q] at o2
      unfold mkXFin at o2
      dsimp only at o2
      split at o2
      · rename_i nr
        intro cl d H' G' st rp' rx
        have st5 := (st3.trans st).cut
        rw [← rp.len] at st5
        exact o2 cl d H' _ st5 (rp'.cut h.length) (RelX.indep (G := G') (G' := G'.cut h.length) (fun _ z => z) rx nr)
      · exact False.elim o2
    | bad => rw [q] at o2; exact o2
  have l1' : (Value.ref (hp.objs.size + 1) :: us).length = n + 1 := by simp [l1]
  have vu' : Vals (V.ref (hp.objs.size + 1) :: vs) (Value.ref (hp.objs.size + 1) :: us) := .cons rfl vu
  refine wpAny_call (PySem.HandSPX.call_kw TF.F (fun Y => PySem.HandSPX.refsT_contains Y bm hbm) (I.kIn _ _ hC) (PySem.W.looks_instIn I.kIn typ) (PySem.W.looks_findIn I.kIn iC) (fun self => PySem.W.bind_fn I.kIn self (beq_iff_eq.mp tI)) hus
    (codeAny_mono (F.run _ C.X.stack _ _ (G.ad (hp.objs.size + 1)) (h ++ [some (.exn c [])]) (.ref h.length :: xs) zs _ _ (Value.ref (hp.objs.size + 1) :: us) ws _ (fun cls d H' => C.W cls d σ H')
      (hr.make _ us (ks.zip ws)) (guards_make (ok.gd.mono (Nat.le_trans (Nat.le_succ k) hk))) e0 KX rp2 rx' (rz.step st3) vu' vw l1' l2 hend) fun r s' hq' => ?_))
  cases r with
  | error e => exact ok.tk e s' (XE.of_call I2 (fun _ _ _ z => z) hq')
  | ok fl =>
    cases fl with
    | ret u =>
      obtain ⟨v, H', I3, rv, ev, q3⟩ := I2.after hq'
      subst ev
      exact ⟨rv, ⟨V.ref (hp.objs.size + 1), H', I3, rfl, q3⟩⟩
    | next => exact False.elim hq'
    | brk => exact False.elim hq'
    | cont => exact False.elim hq'
theorem CaK.makeX {C : RC} (ok : C.Ok) {k c : Nat} {f : Addr} {fd : FuncData} {ps ks : List Str} {n : Nat} {arr : List T → List T → List T} {g : List T → Hm → R T} (M : MkE C.S.K (C.S.cls c) f)
    (F : FnG C.X.prog C.X.w C.S.K C.X.mg C.X.base k f fd ps (spT C.S ps.length g)) (B : BindT C.S fd ps (n + 1) ks arr) (hk : k + 1 ≤ C.k) (hn : n ≤ 1000 := by decide) : CaK C (.ref (C.S.cls c)) n ks (mkXO c g arr) := CaK.makeXC ok M (F.toC B) hk hn
/-- a class without an own __init__ -/
structure MkE0 (K : PySem.W.Frag) (C : Addr) : Prop where
  ex : ∃ B newId initId tl, ExcBaseFacts B newId initId tl ∧ PySem.W.excIn K C tl newId = true
  kp : PySem.W.keepIn K (.ref C) = true
def mkX0 (c : Nat) : O3 := fun _ _ h => .ok (.exo c []) h
theorem CaK.makeX0 {C : RC} (ok : C.Ok) {c : Nat} (M : MkE0 C.S.K (C.S.cls c)) : CaK C (.ref (C.S.cls c)) 0 [] (mkX0 c) := by
  intro pins s σ H G h xs zs vs vz us ws Q I rp rx rz vu vw l1 l2 o
  obtain ⟨B, newId, initId, tl, F, q⟩ := M.ex
  rw [ok.K] at q
  obtain ⟨bm, N, nm, qn, bs, hdct, sn, sub, ab, col, dd, k0, k1, k2, k3, k5, mN, hC, hN, hni, Tt⟩ := exc_obj I.kIn q
  cases us with
  | cons _ _ => cases l1
  | nil =>
    cases ws with
    | cons _ _ => cases l2
    | nil =>
      refine wpAny_call_exc_subT F Tt hC hN hni (fun h' e hm => ?_) (by show 0 ≤ sizeLine; exact Nat.zero_le _)
      obtain ⟨t, he, _, _⟩ := hm.there
      have na : H e = none := I.hok.gone hm.new
      have I2 : Inv C.X pins σ (upd H e (L2.exo e (C.S.cls c) none)) { s with heap := h' } := I.laidN (t' := s.toks) hm.keeps hm.new na (exo_ok he)
      obtain ⟨st2, rp2⟩ := rp.newF (o := L2.exo e (C.S.cls c) none) na
      exact ⟨.ref e, _, I2, rfl, o _ _ _ st2 rp2 (.exo0 (.inl rfl) upd_same)⟩
/-! ### a field read -/
section
variable {C : RC} {pos : Pos} {e : Expr} {re : ET} {f : Str} {fi : Nat}
/-- e.f, e an exception as a value -/
def eXfld (cs : List Nat) (fi : Nat) (re : ET) : ET := fun st h => (re st h).bind fun x h1 => match x with
  | .exo c fs => if cs.contains c then (match fs.lookup fi with
    | some t => .ok t h1
    | none => .bad) else .bad
  | _ => .bad
theorem je_xfld (ok : C.Ok) {cs : List Nat} (j : JE C e re) (ef : C.S.fld fi = f) (hf : fi < C.S.nf) (hc : ∀ c ∈ cs, XcI C.S.K (C.S.cls c) ∧ PySem.W.findIn C.S.K (.ref (C.S.cls c)) f = some none)
    (hb : attributeBase e f C.X.env (eval e C.X.env) = eval e C.X.env := by rfl) : JE C (.Attribute e f pos) (eXfld cs fi re) := by
  refine ⟨fun pins s σ H Q I hw => ?_⟩
  obtain ⟨st, G, h, rp, rs, ho⟩ := hw
  refine attr_of hb (thn (j.run I rp rs (Out.bind (Rel := relE C) ho)) fun u s1 ⟨v, H1, I1, ru, x, G1, h1, st1, rp1, rx, o1⟩ => ?_)
  dsimp only at o1
  split at o1
  · rename_i c fs
    split at o1
    · rename_i hcs
      split at o1
      · rename_i t e2
        obtain ⟨T, hno⟩ := hc c (List.contains_iff_mem.mp hcs)
        rw [ok.K] at T hno
        cases rx with
        | exo0 z q => cases e2
        | @exo _ _ _ a dx vs z zd q qd rf =>
          cases ru
          obtain ⟨t1, ha⟩ := exo_at I1.hok q
          obtain ⟨mA, hns, hr⟩ := (show ObjOk C.X.prog C.X.w H1 s1.heap dx (.xd vs) from I1.hok dx _ qd)
          obtain ⟨v', l1, rt⟩ := rf.look hf e2
          rw [ef] at l1
          obtain ⟨od, ho, hl⟩ := lookIn_ns hns
          obtain ⟨u, hu, ru⟩ := RelO.some_of (v := v') (o := mA f) (by rw [← l1]; exact hr f)
          have J : PySem.W.InstAt s1.heap a { cls := .ref (C.S.cls c), dict := some dx, data := .fields #[.ref t1, .none, .none, .none, .bool false, .none] } (C.S.cls c) (some od) := ⟨ha, rfl, rfl, ho⟩
          exact HandSPX.exc_get I1.kIn J T.ga T.gg T.exC (PySem.W.findObj_own T.hdC hno rfl (by rw [hl, hu])) (handed_of ru) ⟨v', H1, I1.tok _, ru, out_ok o1 rp1 rt⟩
      · exact False.elim o1
    · exact False.elim o1
  · exact False.elim o1
/-! ### isinstance -/
def gIsiX (nc : Nat) (tab : IsTab) (xs : List Nat) : List T → Hm → R T := fun ys h => match ys with
  | [.exo c _, k] => (match asTg k with
    | some b => if xs.contains c then (match isLook tab (.cl c) b with
      | some r => .ok (.bl r) h
      | none => .bad) else .bad
    | none => .bad)
  | _ => gIsi nc tab ys h
theorem ca_isiX (ok : C.Ok) {tab : IsTab} {xc : List Nat} (io : IsOk C.S tab) (xo : ∀ c ∈ xc, XcI C.S.K (C.S.cls c)) : CaT C (.builtin "isinstance") (gIsiX C.S.nc tab xc) := by
  intro pins s σ H G h xs vs us Q I rp rx vu o
  unfold gIsiX at o
  split at o
  · rename_i c fs k
    split at o
    · rename_i b eb
      split at o
      · rename_i hcs
        split at o
        · rename_i r er
          have kk := io.tab (.cl c) b r er
          rw [ok.K] at kk
          have T := xo c (List.contains_iff_mem.mp hcs)
          rw [ok.K] at T
          cases rx with
          | cons r1 rr =>
            cases rr with
            | cons r2 rr =>
              cases rr
              cases vu with
              | cons u1 uu =>
                cases uu with
                | cons u2 uu =>
                  cases uu
                  rename_i w
                  have ew : w = b.val C.S := by
                    cases k with
                    | ty n => cases eb; cases r2; exact u2
                    | cl c => cases eb; cases r2; exact u2
                    | _ => cases eb
                  subst ew
                  cases r1 with
                  | @exo0 _ a z q =>
                    cases u1
                    obtain ⟨t1, ha⟩ := exo_at I.hok q
                    have J : PySem.W.InstAt s.heap a { cls := .ref (C.S.cls c), dict := none, data := .fields #[.ref t1, .none, .none, .none, .bool false, .none] } (C.S.cls c) none := ⟨ha, rfl, rfl, trivial⟩
                    exact PySem.W.kia_one (PySem.W.kitx_exc T.cl T.ga T.gg T.exC T.ha T.hn T.ht T.hm) I.kIn J kk (fun z => nomatch z) fun tk => ⟨.bl r, H, I.kept (t' := tk) fun _ _ z => z, rfl, out_ok o rp (.bl r)⟩
                  | @exo _ _ _ a dx vs z zd q qd rf =>
                    cases u1
                    obtain ⟨t1, ha⟩ := exo_at I.hok q
                    obtain ⟨mA, hns, hr⟩ := (show ObjOk C.X.prog C.X.w H s.heap dx (.xd vs) from I.hok dx _ qd)
                    obtain ⟨od, ho, hl⟩ := lookIn_ns hns
                    have J : PySem.W.InstAt s.heap a { cls := .ref (C.S.cls c), dict := some dx, data := .fields #[.ref t1, .none, .none, .none, .bool false, .none] } (C.S.cls c) (some od) := ⟨ha, rfl, rfl, ho⟩
                    exact PySem.W.kia_one (PySem.W.kitx_exc T.cl T.ga T.gg T.exC T.ha T.hn T.ht T.hm) I.kIn J kk (fun z => nomatch z) fun tk => ⟨.bl r, H, I.kept (t' := tk) fun _ _ z => z, rfl, out_ok o rp (.bl r)⟩
        · exact False.elim o
      · exact False.elim o
    · exact False.elim o
  · exact ca_isi ok io pins s σ H G h xs vs us Q I rp rx vu o
end
end RT
set_option Elab.async false
set_option linter.all false
set_option maxRecDepth 100000
set_option maxHeartbeats 4000000
/-! RT, part Ud: methods of lists that are not changed (count, index); list + list where cells stand; own classes beside exceptions. -/
namespace RT
open PySem PySem.Spec L2
open PyProof.Rows hiding St
section
variable {C : RC} {P : Program} {w : World} {S : Sta} {mg : Str → Option Value} {base : Heap} {N : List Str} {sc : Scope} {k j : Nat} {pos : Pos}
/-- x.m(..), x a list that is not changed -/
def eLM (f : List T → List T → Option T) (ro : ET) (ra : AT) : ET := fun a h => (ro a h).bind fun x h1 => match x with
  | .lst xs => (ra a h1).bind fun ys h2 => (match f xs ys with
    | some t => .ok t h2
    | none => .bad)
  | _ => .bad
def LmR (C : RC) (id : String) (f : List T → List T → Option T) : Prop :=
  ∀ (pins : List (Addr × Obj)) (s : Shared) (σ : St) (H : Hp) (G : Gh) (h : Hm) (p : Addr) (xs ys : List T) (t : T) (vx vs : List V) (its us : List Value) (n : Nat) (Q : VK), Inv C.X pins σ H s → RepH C.S H G h → s.heap.get? p = some { cls := .type "list", data := .seq its.toArray n } → Vals vx its → its.length ≤ sizeLine →
    RelTs C.S H G xs vx → RelTs C.S H G ys vs → Vals vs us → f xs ys = some t → Out C σ H G (relE C) (.ok t h) Q → wpAny (model C.X.prog C.X.w) C.X.A (call (.builtin id) (.ref p :: us)) (EP C.X pins σ Q) C.X.xe s
theorem lst_exactK (hK : C.S.K = C.X.K) {pins : List (Addr × Obj)} {s : Shared} {σ : St} {H : Hp} {G : Gh} (I : Inv C.X pins σ H s) {a : Addr} {vs : List V} (hz : FzL C.S H G a vs) : ∃ (its : List Value) (n : Nat), Vals vs its ∧ vs.length = its.length ∧ its.length ≤ sizeLine ∧ s.heap.get? a = some { cls := .type "list", data := .seq its.toArray n } := by
  rcases hz with ⟨_, rd⟩ | ⟨us, n, lk, l, r⟩
  · obtain ⟨z, its, n, r, e⟩ := rd.ok I.hok
    exact ⟨its, n, r, r.length, by rw [← r.length]; exact z, e⟩
  · rw [hK] at lk
    exact ⟨us, n, r, r.length, l, I.kIn a _ lk⟩
theorem je_lmM (hK : C.S.K = C.X.K) {f : List T → List T → Option T} {name : Str} {id : String} (slot : Slot "list" name id) (hty : typeOf (.builtin id) = pure (.type "method_descriptor")) (hm : LmR C id f) {o e : Expr} {es : List Expr} {ro : ET} {ra : AT} {apos cpos : Pos} (jo : JE C o ro) (ja : JA C (e :: es) ra)
    (hbase : attributeBase o name C.X.env (eval o C.X.env) = eval o C.X.env := by rfl)
    (hfew : ((backTo cpos (starEach (e :: es) C.X.env)).all (fun x => !x.1) && (backToKw cpos (keywordEach [] C.X.env)).all (fun x => x.1.isSome)
      && decide ((e :: es).length + ([] : List Keyword).length + (if ([] : List Keyword).isEmpty then 0 else 1) < 30)) = true := by rfl)
    (hline : (apos.endLine == cpos.line) = true := by rfl) (hs : starEach (e :: es) C.X.env = (false, eval e C.X.env) :: starEach es C.X.env := by rfl) (hplain : (backTo cpos (starEach es C.X.env)).any (·.1) = false := by rfl) :
    JE C (.Call (.Attribute o name apos) (e :: es) [] cpos) (eLM f ro ra) := by
  refine ⟨fun pins s σ H Q I hw => ?_⟩
  obtain ⟨st, G, h, rp, rs, o1⟩ := hw
  refine wpAny_Call_method_late hbase hfew hline rfl (thn (jo.run I rp rs (Out.bind (Rel := relE C) o1)) fun v s1 ⟨x, H1, I1, r1, tx, G1, h1, st1, rp1, rx, o2⟩ => ?_)
  dsimp only at o2
  split at o2
  · rename_i xs
    cases rx with
    | @lst _ p vx hz rxs =>
      cases r1
      have sq := hz.sq
      rw [hK] at sq
      obtain ⟨h1', h2'⟩ := tyV_is (T := "list") (x := .ref p) I1 rfl (.inl ⟨rfl, _, sq⟩)
      refine ⟨"list", id, PySem.F.plainAttrs_list, slot, hty, h1', h2', ?_⟩
      have hA := ja.run cpos I1 rp1 (rs.step st1) (Out.bind (Rel := relA C) o2)
      rw [hs] at hA ⊢
      refine Calls.callWith_builtin (by show (false || (backTo cpos (starEach es C.X.env)).any (·.1)) = false; rw [hplain] <;> rfl) (Calls.evalArgs_plain ?_)
      refine thn hA fun us s2 ⟨vs, H2, I2, r2, ys, G2, h2, st2, rp2, rys, o3⟩ => ?_
      dsimp only at o3
      split at o3
      · rename_i t ef
        obtain ⟨its, n, rv, _, hl, eo⟩ := lst_exactK hK I2 (hz.step st2)
        exact hm pins s2 σ H2 G2 h2 p xs ys t vx vs its us n Q I2 rp2 eo rv hl (rxs.step st2) rys r2 ef o3
      · exact False.elim o3
  · exact False.elim o2
/-- the bools of a list -/
def boolsOf : List T → Option (List Bool)
  | [] => some []
  | .bl b :: r => (boolsOf r).map (b :: ·)
  | _ => none
theorem bools_vals {H : Hp} {G : Gh} : ∀ {xs : List T} {vx : List V} {its : List Value} {bs : List Bool}, boolsOf xs = some bs → RelTs S H G xs vx → Vals vx its → its = bs.map Value.bool
  | [], _, _, _, e, .nil, .nil => by rw [boolsOf] at e; cases e; rfl
  | x :: r, _, _, bs, e, .cons rx rr, .cons v1 vr => by
    cases x with
    | bl b =>
      rw [boolsOf, Option.map_eq_some_iff] at e
      obtain ⟨bs', e1, rfl⟩ := e
      cases rx
      cases v1
      rw [bools_vals e1 rr vr]
      rfl
    | _ => rw [boolsOf] at e <;> first | cases e | (intro _ _ z; cases z)
theorem eq_blk (k : Bool) {bs : List Bool} (A : Around) (s : Shared) : ∀ y, y ∈ (bs.map Value.bool).toArray → SeqAt.EqAt A s y (.bool k) (isBoolOf k y) := fun y hy => by
  have hy' : y ∈ bs.map Value.bool := by simpa using hy
  obtain ⟨b, _, rfl⟩ := List.mem_map.mp hy'
  exact SeqAt.EqAt.bool_bool b k
theorem count_bools (k : Bool) : ∀ bs : List Bool, (bs.map Value.bool).countP (isBoolOf k) = bs.count k
  | [] => rfl
  | b :: r => by
    rw [List.map_cons, List.countP_cons, List.count_cons, count_bools k r]
    rfl
def fCountB (xs ys : List T) : Option T := match ys with
  | [.bl k] => (boolsOf xs).map fun bs => .int (bs.count k : Nat)
  | _ => none
theorem lm_count : LmR C "list.count" fCountB := by
  intro pins s σ H G h p xs ys t vx vs its us n Q I rp eo rv hl rxs rys vu ef o
  unfold fCountB at ef
  split at ef
  · rename_i k
    rw [Option.map_eq_some_iff] at ef
    obtain ⟨bs, e1, rfl⟩ := ef
    have e2 := bools_vals e1 rxs rv
    subst e2
    obtain ⟨v, rfl, r1⟩ := rys.one
    cases r1
    obtain ⟨u, rfl, ru⟩ := vals1 vu
    cases ru
    refine call_meets PySem.F.slot_list_count ⟨_, eo, rfl⟩ PySem.F.entry_list_count (PySem.F.args_list_count_2 _ _) (SeqAt.list_countAt p _ n none _ (.bool k) (isBoolOf k)) ⟨eo, eq_blk k _ _, ?_⟩
    refine ⟨.int _, H, I.tok _, ⟨s.toks, ?_⟩, out_ok o rp (.int _)⟩
    rw [show (bs.map Value.bool).toArray.toList = bs.map Value.bool from rfl, count_bools]
  · cases ef
def fIndexB (xs ys : List T) : Option T := match ys with
  | [.bl k] => (boolsOf xs).bind fun bs => if decide (bs.idxOf k < bs.length) then some (.int (bs.idxOf k : Nat)) else none
  | _ => none
theorem lm_index : LmR C "list.index" fIndexB := by
  intro pins s σ H G h p xs ys t vx vs its us n Q I rp eo rv hl rxs rys vu ef o
  unfold fIndexB at ef
  split at ef
  · rename_i k
    rw [Option.bind_eq_some_iff] at ef
    obtain ⟨bs, e1, ef⟩ := ef
    split at ef
    · rename_i hd
      cases ef
      have hd := of_decide_eq_true hd
      have e2 := bools_vals e1 rxs rv
      subst e2
      obtain ⟨v, rfl, r1⟩ := rys.one
      cases r1
      obtain ⟨u, rfl, ru⟩ := vals1 vu
      cases ru
      rw [List.length_map, sizeLine_eq] at hl
      refine call_meets PySem.F.slot_list_index ⟨_, eo, rfl⟩ PySem.F.entry_list_index (PySem.F.args_list_index_2 _ _) (SeqAt.list_indexAt p _ n none _ (.bool k) (isBoolOf k) (bs.idxOf k) (by simpa using hd) (by omega) ?_ ?_) ⟨eo, eq_blk k _ _, ?_⟩
      · simp [isBoolOf, List.getElem_idxOf hd]
      · intro m hm hlt
        have hm' : m < bs.length := by simpa using hm
        have ne : bs[m] ≠ k := SeqAt.lt_idxOf_ne hlt hm'
        simpa [isBoolOf] using ne
      · exact ⟨.int _, H, I.tok _, ⟨s.toks, rfl⟩, out_ok o rp (.int _)⟩
    · cases ef
  · cases ef
/-! ### list + list where cells stand -/
def lstH (t : T) (h : Hm) : Option (List T) := match t with
  | .lst xs => some xs
  | .ref l => (match h[l]? with
    | some (some (.lst xs)) => some xs
    | _ => none)
  | _ => none
theorem lstH_exact (hK : C.S.K = C.X.K) {pins : List (Addr × Obj)} {s : Shared} {σ : St} {H : Hp} {G : Gh} {h : Hm} (I : Inv C.X pins σ H s) (rp : RepH C.S H G h) {t : T} {v : V} (r : RelT C.S H G t v) {xs : List T} (e : lstH t h = some xs) :
    ∃ (a : Addr) (vs : List V) (its : List Value) (n : Nat), v = .ref a ∧ RelTs C.S H G xs vs ∧ Vals vs its ∧ its.length ≤ sizeLine ∧ s.heap.get? a = some { cls := .type "list", data := .seq its.toArray n } := by
  cases t with
  | lst ys =>
    cases e
    cases r with
    | lst hz rs =>
      obtain ⟨its, n, rv, _, hl, eo⟩ := lst_exactK hK I hz
      exact ⟨_, _, its, n, rfl, rs, rv, hl, eo⟩
  | ref l =>
    unfold lstH at e
    dsimp only at e
    split at e
    · rename_i ys ex
      cases e
      cases r with
      | ref hmu =>
        obtain ⟨vx, hH, rxs, _⟩ := cell_at rp hmu ex
        obtain ⟨z, its, n, rv, hl1, eo⟩ := I.lstM hH
        exact ⟨_, vx, its, n, rfl, rxs, rv, by have := rv.length; omega, eo⟩
    · cases e
  | _ => cases e
/-- a new list that is not changed -/
def opAddF : O2 := fun x y h => match lstH x h, lstH y h with
  | some xs, some ys => if xs.length + ys.length ≤ sizeLine then .ok (.lst (xs ++ ys)) h else .bad
  | _, _ => .bad
/-- a new cell -/
def opAddC : O2 := fun x y h => match lstH x h, lstH y h with
  | some xs, some ys => if decide (xs.length + ys.length ≤ sizeLine) && (T.noRefs xs && T.noRefs ys) then .ok (.ref h.length) (h ++ [some (.lst (xs ++ ys))]) else .bad
  | _, _ => .bad
theorem add_run (hK : C.S.K = C.X.K) {pins : List (Addr × Obj)} {s : Shared} {σ : St} {H : Hp} {G : Gh} {h : Hm} {x y : T} {vx vy : V} {u w : Value} {Q : VK} (I : Inv C.X pins σ H s) (rp : RepH C.S H G h) (rx : RelT C.S H G x vx) (ry : RelT C.S H G y vy) (vu : RelV vx u) (vw : RelV vy w) {xs ys : List T} (e1 : lstH x h = some xs) (e2 : lstH y h = some ys) (hl : xs.length + ys.length ≤ sizeLine)
    (go : ∀ (a : Addr) (vs : List V) s', H a = none → RelTs C.S H G (xs ++ ys) vs → Inv C.X pins σ (upd H a (.lst vs)) s' → EP C.X pins σ Q (.ref a) s') : wpAny (model C.X.prog C.X.w) C.X.A (binaryOp .Add u w) (EP C.X pins σ Q) C.X.xe s := by
  obtain ⟨a, v1, i1, n1, rfl, r1, q1, b1, o1⟩ := lstH_exact hK I rp rx e1
  obtain ⟨b, v2, i2, n2, rfl, r2, q2, b2, o2⟩ := lstH_exact hK I rp ry e2
  cases vu
  cases vw
  have l1 := r1.length
  have l2 := r2.length
  have m1 := q1.length
  have m2 := q2.length
  refine PySem.P.add_list o1 o2 ?_ (by rw [List.size_toArray, List.size_toArray]; omega)
  have ea : i1.toArray ++ i2.toArray = (i1 ++ i2).toArray := by simp
  rw [ea]
  exact go _ _ _ I.fresh (r1.app r2) (I.lnew (t' := s.toks) (q1.append q2) (by rw [List.length_append]; omega))
theorem op_addF (hK : C.S.K = C.X.K) : OpT C (binaryOp .Add) opAddF := by
  intro pins s σ H G h x y vx vy u w Q I rp rx ry vu vw o
  unfold opAddF at o
  split at o
  · rename_i xs ys e1 e2
    split at o
    · rename_i hl
      refine add_run hK I rp rx ry vu vw e1 e2 hl fun a vs s' ha rv I' => ⟨.ref a, _, I', rfl, ?_⟩
      obtain ⟨st2, rp2⟩ := rp.newF (o := .lst vs) ha
      exact o _ _ _ st2 rp2 (.lst (.inl ⟨.inl rfl, .inl upd_same⟩) (rv.step st2))
    · exact False.elim o
  · exact False.elim o
theorem op_addC (hK : C.S.K = C.X.K) : OpT C (binaryOp .Add) opAddC := by
  intro pins s σ H G h x y vx vy u w Q I rp rx ry vu vw o
  unfold opAddC at o
  split at o
  · rename_i xs ys e1 e2
    split at o
    · rename_i hc
      obtain ⟨hl, hn⟩ := band hc
      obtain ⟨n1, n2⟩ := band hn
      refine add_run hK I rp rx ry vu vw e1 e2 (of_decide_eq_true hl) fun a vs s' ha rv I' => ⟨.ref a, _, I', rfl, ?_⟩
      obtain ⟨st2, rp2⟩ := rp.newC (o := .lst vs) ha (c := .lst (xs ++ ys)) (.lst rv) (noRefs_app n1 n2)
      refine o _ _ _ st2 rp2 (.ref ?_)
      show (G.mu ++ [a])[h.length]? = some a
      rw [rp.len, List.getElem?_append_right (Nat.le_refl _)]
      simp
    · exact False.elim o
  · exact False.elim o
/-! ### by contexts' facts -/
variable {o e : Expr} {es : List Expr} {ro re : ET} {ra : AT} {apos cpos : Pos}
theorem cnt_ (cf : Cf C P w S mg base N sc k) (jo : JE C o ro) (ja : JA C [e] ra) (hbase : attributeBase o "count" C.X.env (eval o C.X.env) = eval o C.X.env := by rfl)
    (hline : (apos.endLine == cpos.line) = true := by rfl) (hs : starEach [e] C.X.env = (false, eval e C.X.env) :: starEach [] C.X.env := by rfl) : JE C (.Call (.Attribute o "count" apos) [e] [] cpos) (eLM fCountB ro ra) :=
  je_lmM cf.ok.K PySem.F.slot_list_count PySem.F.type_list_count lm_count jo ja hbase (by rw [hs]; rfl) hline hs rfl
theorem idx_ (cf : Cf C P w S mg base N sc k) (jo : JE C o ro) (ja : JA C [e] ra) (hbase : attributeBase o "index" C.X.env (eval o C.X.env) = eval o C.X.env := by rfl)
    (hline : (apos.endLine == cpos.line) = true := by rfl) (hs : starEach [e] C.X.env = (false, eval e C.X.env) :: starEach [] C.X.env := by rfl) : JE C (.Call (.Attribute o "index" apos) [e] [] cpos) (eLM fIndexB ro ra) :=
  je_lmM cf.ok.K PySem.F.slot_list_index PySem.F.type_list_index lm_index jo ja hbase (by rw [hs]; rfl) hline hs rfl
/-- a module's int -/
theorem gint_ (cf : Cf C P w S mg base N sc k) {x : Str} {i : Int} {t : Tok} (hm : mg x = some (.int i t)) (hg : glB sc x = true := by rfl) (hd : (x == ("__debug__" : Str)) = false := by decide) : JE C (.Name x pos) (eC (.int i)) :=
  je_glob (v := .int i) (.int i) (cf.gl hg) (cf.mgE hm) ⟨t, rfl⟩ (fun _ _ => .int i) hd
/-- .. as a check tells it -/
def ckGint (x : Str) (i : Int) : Chk := fun K => match PySem.W.nsIn K mainGlobals x with
  | some (some (.int j _)) => j == i
  | _ => false
theorem gint_ok {K : PySem.W.Frag} {base : Heap} {x : Str} {i : Int} (X : K.In base) (Gn : base.Ns mainGlobals mg) (h : ckGint x i K = true) : ∃ t, mg x = some (.int i t) := by
  unfold ckGint at h
  split at h
  · rename_i j t e
    obtain rfl : j = i := beq_iff_eq.mp h
    exact ⟨t, PySem.W.mg_of X Gn e⟩
  · cases h
/-! ### own exceptions, from names -/
/-- own classes cn, own exceptions xn -/
def mkStaX (K : PySem.W.Frag) (cn xn fl gn : List Str) (hf : fl.Nodup) (hc : (cn.map (He.ga K)).Nodup) : Sta where
  K := K
  cls := fun i => ((cn ++ xn).map (He.ga K)).getD i 0
  fld := fun i => fl.getD i Str.empty
  nf := fl.length
  inj := fun i j hi hj e => by
    rw [List.getD_eq_getElem?_getD, List.getD_eq_getElem?_getD, List.getElem?_eq_getElem hi, List.getElem?_eq_getElem hj] at e
    exact (List.getElem_inj hf).mp e
  gl := fun i => (gn.map (He.ga K)).getD i 0
  nc := cn.length
  cinj := fun i j hi hj e => by
    have hi' : i < (cn.map (He.ga K)).length := by simpa using hi
    have hj' : j < (cn.map (He.ga K)).length := by simpa using hj
    rw [List.map_append, List.getD_eq_getElem?_getD, List.getD_eq_getElem?_getD, List.getElem?_append_left hi', List.getElem?_append_left hj', List.getElem?_eq_getElem hi', List.getElem?_eq_getElem hj'] at e
    exact (List.getElem_inj hc).mp e
theorem is_okX {K : PySem.W.Frag} {cn xn fl gn : List Str} {hf : fl.Nodup} {hc : (cn.map (He.ga K)).Nodup} {tab : IsTab} (h : ckIs (cn ++ xn) tab K = true) (hcl : ∀ c, c < cn.length → ClsI K (((cn ++ xn).map (He.ga K)).getD c 0)) : IsOk (mkStaX K cn xn fl gn hf hc) tab := by
  refine ⟨fun a b r e => ?_, hcl⟩
  have q := of_decide_eq_true (List.all_eq_true.mp h _ (isLook_mem e))
  have v : ∀ t : Tg, t.val (mkStaX K cn xn fl gn hf hc) = tgvK (cn ++ xn) K t := fun t => by cases t <;> rfl
  rw [v, v]
  exact q
def ckFirstX (cn xn : List Str) (c : Nat) : Chk := fun K => (eqTags cn.length).all fun a => PySem.W.notFirst K (((cn ++ xn).map (He.ga K)).getD c 0) (tgvK (cn ++ xn) K a)
theorem first_okX {K : PySem.W.Frag} {cn xn fl gn : List Str} {hf : fl.Nodup} {hc : (cn.map (He.ga K)).Nodup} {c : Nat} (h : ckFirstX cn xn c K = true) : ∀ a, Tg.okEq cn.length a = true → PySem.W.notFirst K (((cn ++ xn).map (He.ga K)).getD c 0) (a.val (mkStaX K cn xn fl gn hf hc)) = true := fun a ha => by
  have v : a.val (mkStaX K cn xn fl gn hf hc) = tgvK (cn ++ xn) K a := by cases a <;> rfl
  rw [v]
  refine List.all_eq_true.mp h a ?_
  unfold eqTags
  cases a with
  | cl c => exact List.mem_append_right _ (List.mem_map.mpr ⟨c, List.mem_range.mpr (of_decide_eq_true ha), rfl⟩)
  | ty n =>
    refine List.mem_append_left _ ?_
    have ha' : n ∈ ["NoneType", "bool", "int", "str", "tuple", "list", "dict"] := by
      have : (["NoneType", "bool", "int", "str", "tuple", "list", "dict"].contains n) = true := ha
      exact List.contains_iff_mem.mp this
    simp only [List.mem_cons, List.not_mem_nil, or_false] at ha' ⊢
    rcases ha' with e | e | e | e | e | e | e <;> subst e <;> simp
def tailOf : Nat → String × String × List Value
  | 0 => ("ValueError.__new__", "ValueError.__init__", [.type "ValueError", .type "Exception", .type "BaseException", .type "object"])
  | 1 => ("LookupError.__new__", "LookupError.__init__", [.type "LookupError", .type "Exception", .type "BaseException", .type "object"])
  | _ => ("ArithmeticError.__new__", "ArithmeticError.__init__", [.type "ArithmeticError", .type "Exception", .type "BaseException", .type "object"])
theorem tail_ok : ∀ i : Nat, ∃ B, HandSPX.TlF B (tailOf i).1 (tailOf i).2.1 (tailOf i).2.2
  | 0 => ⟨_, HandSPX.tl_ve⟩
  | 1 => ⟨_, HandSPX.tl_le⟩
  | _ + 2 => ⟨_, HandSPX.tl_ae⟩
def ckXb (x : Str) (i : Nat) : Chk := fun K => HandSPX.oexB K (He.ga K x) (tailOf i).1 (tailOf i).2.2
theorem xb_ok {K : PySem.W.Frag} {x : Str} {i : Nat} (h : ckXb x i K = true) : XcB K (He.ga K x) := let ⟨B, t⟩ := tail_ok i; ⟨B, _, _, _, t, HandSPX.oexB_ok h⟩
def ckXmk (x : Str) : Chk := fun K => He.eqO (PySem.W.findIn K (.ref (He.ga K x)) "__init__") (some (some (.ref (He.fAd K (x, some "__init__"))))) && (PySem.W.isFn K (.ref (He.fAd K (x, some "__init__"))) && PySem.W.keepIn K (.ref (He.ga K x)))
theorem xmk_ok {K : PySem.W.Frag} {x : Str} {i : Nat} (hb : ckXb x i K = true) (h : ckXmk x K = true) : MkE K (He.ga K x) (He.fAd K (x, some "__init__")) := by
  obtain ⟨h1, h2⟩ := band h
  obtain ⟨h2, h3⟩ := band h2
  exact ⟨xb_ok hb, He.eqO_ok h1, h2, h3⟩
def ckXmk0 (x : Str) (i : Nat) : Chk := fun K => PySem.W.excIn K (He.ga K x) (tailOf i).2.2 (tailOf i).1 && PySem.W.keepIn K (.ref (He.ga K x))
theorem xmk0_ok {K : PySem.W.Frag} {x : Str} {i : Nat} (h : ckXmk0 x i K = true) : MkE0 K (He.ga K x) := by
  obtain ⟨h1, h2⟩ := band h
  obtain ⟨B, t⟩ := tail_ok i
  exact ⟨⟨B, _, _, _, t.F, h1⟩, h2⟩
def ckXno (x f : Str) : Chk := fun K => decide (PySem.W.findIn K (.ref (He.ga K x)) f = some none)
theorem xno_ok {K : PySem.W.Frag} {x f : Str} (h : ckXno x f K = true) : PySem.W.findIn K (.ref (He.ga K x)) f = some none := of_decide_eq_true h
def ckXi (x : Str) : Chk := fun K => (PySem.W.clsIn K (He.ga K x)).isSome && (xfB K (He.ga K x) && (He.eqO (PySem.W.findIn K (.ref (He.ga K x)) "__class__") (some (some (.builtin "object.__class__"))) &&
  (He.eqO (PySem.W.specialIn K (.builtin "object.__class__") "__get__") (some (some (.builtin "getset_descriptor.__get__"))) && (decide (PySem.W.takesIn K (.builtin "object.__class__") = some true) && decide (PySem.W.mroIn K (He.ga K x) (.type "object") = some true)))))
theorem xi_ok {K : PySem.W.Frag} {x : Str} (h : ckXi x K = true) : XcI K (He.ga K x) := by
  obtain ⟨h1, h⟩ := band h
  obtain ⟨h2, h⟩ := band h
  obtain ⟨h3, h⟩ := band h
  obtain ⟨h4, h⟩ := band h
  obtain ⟨h5, h6⟩ := band h
  have q := xfB_ok h2
  exact ⟨h1, q.ga, q.gg, q.exC, q.hdC, He.eqO_ok h3, He.eqO_ok h4, of_decide_eq_true h5, of_decide_eq_true h6⟩
/-- a class of errors made -/
theorem FnX.makeX {d : He.DefD} {ps : List Str} {g : List T → Hm → R T} {n : Nat} {ks : List Str} {src : List (Nat × Nat)} {ds : List T} (F : FnX P w S mg base j d ps g) (cf : Cf C P w S mg base N sc k) (c : Nat) (B : Bnd d ps (n + 1) ks src ds) (M : MkE S.K (S.cls c) (He.fAd S.K d.at_)) (hj : j + 1 ≤ k) (hn : n ≤ 1000 := by decide) : CaK C (.ref (S.cls c)) n ks (mkXO c g (arrS src ds)) ∧ PySem.W.keepIn C.X.K (.ref (S.cls c)) = true := by
  obtain ⟨fd, kp, BT, FG⟩ := F.bnd B
  refine ⟨?_, by rw [cf.K]; exact M.kp⟩
  have e1 := cf.prog
  have e2 := cf.w
  have e3 := cf.S
  have e4 := cf.mg
  have e5 := cf.base
  subst e1 e2 e3 e4 e5
  exact CaK.makeX cf.ok M FG BT (by rw [cf.k]; exact hj) hn
theorem makeX0_ (cf : Cf C P w S mg base N sc k) (c : Nat) (M : MkE0 S.K (S.cls c)) : CaK C (.ref (S.cls c)) 0 [] (mkX0 c) ∧ PySem.W.keepIn C.X.K (.ref (S.cls c)) = true := by
  refine ⟨?_, by rw [cf.K]; exact M.kp⟩
  have e3 := cf.S
  subst e3
  exact CaK.makeX0 cf.ok M
theorem xst_ (cf : Cf C P w S mg base N sc k) {fa : Str} {pos' : Pos} (cs : List Nat) (fi : Nat) (jo : JE C o ro) (je : JE C e re) (hc : ∀ c ∈ cs, XcB S.K (S.cls c) ∧ PySem.W.findIn S.K (.ref (S.cls c)) fa = some none) (ef : S.fld fi = fa := by rfl) (hf : fi < S.nf := by exact Nat.le_of_ble_eq_true rfl)
    (hs : swapsWith e (some (.Attribute o fa pos')) pos.line C.X.env = pure false := by rfl) : JS C (.Assign [.Attribute o fa pos'] e pos) (sXst cs fi re ro) :=
  js_xst cf.ok jo je (by rw [cf.S]; exact ef) (by rw [cf.S]; exact hf) (by rw [cf.S]; exact hc) hs
theorem xfld_ (cf : Cf C P w S mg base N sc k) {fa : Str} (cs : List Nat) (fi : Nat) (j : JE C e re) (hc : ∀ c ∈ cs, XcI S.K (S.cls c) ∧ PySem.W.findIn S.K (.ref (S.cls c)) fa = some none) (ef : S.fld fi = fa := by rfl) (hf : fi < S.nf := by exact Nat.le_of_ble_eq_true rfl) (hb : attributeBase e fa C.X.env (eval e C.X.env) = eval e C.X.env := by rfl) : JE C (.Attribute e fa pos) (eXfld cs fi re) :=
  je_xfld cf.ok j (by rw [cf.S]; exact ef) (by rw [cf.S]; exact hf) (by rw [cf.S]; exact hc) hb
theorem isiX_ (cf : Cf C P w S mg base N sc k) {tab : IsTab} {xc : List Nat} (io : IsOk S tab) (xo : ∀ c ∈ xc, XcI S.K (S.cls c)) : CaT C (.builtin "isinstance") (gIsiX S.nc tab xc) := by
  have q := ca_isiX cf.ok (tab := tab) (xc := xc) (by rw [cf.S]; exact io) (by rw [cf.S]; exact xo)
  rw [cf.S] at q
  exact q
end
end RT
set_option Elab.async false
set_option linter.all false
set_option maxRecDepth 100000
set_option maxHeartbeats 0
/-! printed by gen.py: the mirror of the law and of what it reaches, its derivation, its facts -/
namespace K09
open PySem PySem.Spec L2 RT
open PyProof.Rows hiding St
abbrev PW : Program := PySem.Challenge.pw_robintrees_k09_limits_and_errors
def top (i : Nat) : Stmt := PW.main.body.getD i (.Pass ⟨0, 0, 0, 0⟩)
def clsBody (s : Stmt) : List Stmt := match s with
  | .ClassDef _ _ _ b _ _ _ _ _ _ _ => b
  | _ => []
def mth (i j : Nat) : Stmt := (clsBody (top i)).getD j (.Pass ⟨0, 0, 0, 0⟩)
abbrev s__law_draw : Stmt := top 37
def d__law_draw : He.DefD := ⟨("_law_draw", none), "_law_draw", "_law_draw", defArgs s__law_draw, defBody s__law_draw, defScope s__law_draw, [], []⟩
def N__law_draw : List Str := ["_law_pool_here", "_law_many", "_law_state", "_law_digit"]
def P__law_draw : List Str := ["_law_pool_here", "_law_many"]
abbrev s_InvalidStepq_initq : Stmt := mth 3 0
def d_InvalidStepq_initq : He.DefD := ⟨("InvalidStep", some "__init__"), "__init__", "InvalidStep.__init__", defArgs s_InvalidStepq_initq, defBody s_InvalidStepq_initq, defScope s_InvalidStepq_initq, [], []⟩
def N_InvalidStepq_initq : List Str := ["self", "step"]
def P_InvalidStepq_initq : List Str := ["self", "step"]
abbrev s_InvalidNumberq_initq : Stmt := mth 2 0
def d_InvalidNumberq_initq : He.DefD := ⟨("InvalidNumber", some "__init__"), "__init__", "InvalidNumber.__init__", defArgs s_InvalidNumberq_initq, defBody s_InvalidNumberq_initq, defScope s_InvalidNumberq_initq, [], []⟩
def N_InvalidNumberq_initq : List Str := ["self", "number"]
def P_InvalidNumberq_initq : List Str := ["self", "number"]
abbrev s_InvalidProgressionq_initq : Stmt := mth 4 0
def d_InvalidProgressionq_initq : He.DefD := ⟨("InvalidProgression", some "__init__"), "__init__", "InvalidProgression.__init__", defArgs s_InvalidProgressionq_initq, defBody s_InvalidProgressionq_initq, defScope s_InvalidProgressionq_initq, [], []⟩
def N_InvalidProgressionq_initq : List Str := ["self", "value"]
def P_InvalidProgressionq_initq : List Str := ["self", "value"]
abbrev s_InvalidProgressionsq_initq : Stmt := mth 5 0
def d_InvalidProgressionsq_initq : He.DefD := ⟨("InvalidProgressions", some "__init__"), "__init__", "InvalidProgressions.__init__", defArgs s_InvalidProgressionsq_initq, defBody s_InvalidProgressionsq_initq, defScope s_InvalidProgressionsq_initq, [], []⟩
def N_InvalidProgressionsq_initq : List Str := ["self", "index"]
def P_InvalidProgressionsq_initq : List Str := ["self", "index"]
abbrev s_InvalidArityq_initq : Stmt := mth 7 0
def d_InvalidArityq_initq : He.DefD := ⟨("InvalidArity", some "__init__"), "__init__", "InvalidArity.__init__", defArgs s_InvalidArityq_initq, defBody s_InvalidArityq_initq, defScope s_InvalidArityq_initq, [], []⟩
def N_InvalidArityq_initq : List Str := ["self", "arity"]
def P_InvalidArityq_initq : List Str := ["self", "arity"]
abbrev s_InvalidNameq_initq : Stmt := mth 6 0
def d_InvalidNameq_initq : He.DefD := ⟨("InvalidName", some "__init__"), "__init__", "InvalidName.__init__", defArgs s_InvalidNameq_initq, defBody s_InvalidNameq_initq, defScope s_InvalidNameq_initq, [], []⟩
def N_InvalidNameq_initq : List Str := ["self", "name"]
def P_InvalidNameq_initq : List Str := ["self", "name"]
abbrev s_InvalidTextq_initq : Stmt := mth 9 0
def d_InvalidTextq_initq : He.DefD := ⟨("InvalidText", some "__init__"), "__init__", "InvalidText.__init__", defArgs s_InvalidTextq_initq, defBody s_InvalidTextq_initq, defScope s_InvalidTextq_initq, [], []⟩
def N_InvalidTextq_initq : List Str := ["self", "text"]
def P_InvalidTextq_initq : List Str := ["self", "text"]
abbrev s_InvalidTargetsq_initq : Stmt := mth 8 0
def d_InvalidTargetsq_initq : He.DefD := ⟨("InvalidTargets", some "__init__"), "__init__", "InvalidTargets.__init__", defArgs s_InvalidTargetsq_initq, defBody s_InvalidTargetsq_initq, defScope s_InvalidTargetsq_initq, [], []⟩
def N_InvalidTargetsq_initq : List Str := ["self", "index"]
def P_InvalidTargetsq_initq : List Str := ["self", "index"]
abbrev s_InvalidTableq_initq : Stmt := mth 11 0
def d_InvalidTableq_initq : He.DefD := ⟨("InvalidTable", some "__init__"), "__init__", "InvalidTable.__init__", defArgs s_InvalidTableq_initq, defBody s_InvalidTableq_initq, defScope s_InvalidTableq_initq, [], []⟩
def N_InvalidTableq_initq : List Str := ["self", "index"]
def P_InvalidTableq_initq : List Str := ["self", "index"]
abbrev s_InvalidTreeq_initq : Stmt := mth 10 0
def d_InvalidTreeq_initq : He.DefD := ⟨("InvalidTree", some "__init__"), "__init__", "InvalidTree.__init__", defArgs s_InvalidTreeq_initq, defBody s_InvalidTreeq_initq, defScope s_InvalidTreeq_initq, [], []⟩
def N_InvalidTreeq_initq : List Str := ["self", "value"]
def P_InvalidTreeq_initq : List Str := ["self", "value"]
abbrev s_InvalidSettingq_initq : Stmt := mth 12 0
def d_InvalidSettingq_initq : He.DefD := ⟨("InvalidSetting", some "__init__"), "__init__", "InvalidSetting.__init__", defArgs s_InvalidSettingq_initq, defBody s_InvalidSettingq_initq, defScope s_InvalidSettingq_initq, [], []⟩
def N_InvalidSettingq_initq : List Str := ["self", "index"]
def P_InvalidSettingq_initq : List Str := ["self", "index"]
abbrev s_InvalidSightingsq_initq : Stmt := mth 13 0
def d_InvalidSightingsq_initq : He.DefD := ⟨("InvalidSightings", some "__init__"), "__init__", "InvalidSightings.__init__", defArgs s_InvalidSightingsq_initq, defBody s_InvalidSightingsq_initq, defScope s_InvalidSightingsq_initq, [], []⟩
def N_InvalidSightingsq_initq : List Str := ["self", "index"]
def P_InvalidSightingsq_initq : List Str := ["self", "index"]
abbrev s_InvalidDeedsq_initq : Stmt := mth 15 0
def d_InvalidDeedsq_initq : He.DefD := ⟨("InvalidDeeds", some "__init__"), "__init__", "InvalidDeeds.__init__", defArgs s_InvalidDeedsq_initq, defBody s_InvalidDeedsq_initq, defScope s_InvalidDeedsq_initq, [], []⟩
def N_InvalidDeedsq_initq : List Str := ["self", "index"]
def P_InvalidDeedsq_initq : List Str := ["self", "index"]
abbrev s_InvalidDeedq_initq : Stmt := mth 14 0
def d_InvalidDeedq_initq : He.DefD := ⟨("InvalidDeed", some "__init__"), "__init__", "InvalidDeed.__init__", defArgs s_InvalidDeedq_initq, defBody s_InvalidDeedq_initq, defScope s_InvalidDeedq_initq, [], []⟩
def N_InvalidDeedq_initq : List Str := ["self", "deed"]
def P_InvalidDeedq_initq : List Str := ["self", "deed"]
abbrev s_NameTakenq_initq : Stmt := mth 18 0
def d_NameTakenq_initq : He.DefD := ⟨("NameTaken", some "__init__"), "__init__", "NameTaken.__init__", defArgs s_NameTakenq_initq, defBody s_NameTakenq_initq, defScope s_NameTakenq_initq, [], []⟩
def N_NameTakenq_initq : List Str := ["self", "name"]
def P_NameTakenq_initq : List Str := ["self", "name"]
abbrev s_UnknownNameq_initq : Stmt := mth 17 0
def d_UnknownNameq_initq : He.DefD := ⟨("UnknownName", some "__init__"), "__init__", "UnknownName.__init__", defArgs s_UnknownNameq_initq, defBody s_UnknownNameq_initq, defScope s_UnknownNameq_initq, [], []⟩
def N_UnknownNameq_initq : List Str := ["self", "name"]
def P_UnknownNameq_initq : List Str := ["self", "name"]
abbrev s_Unexplainedq_initq : Stmt := mth 20 0
def d_Unexplainedq_initq : He.DefD := ⟨("Unexplained", some "__init__"), "__init__", "Unexplained.__init__", defArgs s_Unexplainedq_initq, defBody s_Unexplainedq_initq, defScope s_Unexplainedq_initq, [], []⟩
def N_Unexplainedq_initq : List Str := ["self", "numbers"]
def P_Unexplainedq_initq : List Str := ["self", "numbers"]
abbrev s_NotFullq_initq : Stmt := mth 19 0
def d_NotFullq_initq : He.DefD := ⟨("NotFull", some "__init__"), "__init__", "NotFull.__init__", defArgs s_NotFullq_initq, defBody s_NotFullq_initq, defScope s_NotFullq_initq, [], []⟩
def N_NotFullq_initq : List Str := ["self", "number"]
def P_NotFullq_initq : List Str := ["self", "number"]
abbrev s_LastServerq_initq : Stmt := mth 21 0
def d_LastServerq_initq : He.DefD := ⟨("LastServer", some "__init__"), "__init__", "LastServer.__init__", defArgs s_LastServerq_initq, defBody s_LastServerq_initq, defScope s_LastServerq_initq, [], []⟩
def N_LastServerq_initq : List Str := ["self", "name"]
def P_LastServerq_initq : List Str := ["self", "name"]
abbrev s_TooDeepq_initq : Stmt := mth 25 0
def d_TooDeepq_initq : He.DefD := ⟨("TooDeep", some "__init__"), "__init__", "TooDeep.__init__", defArgs s_TooDeepq_initq, defBody s_TooDeepq_initq, defScope s_TooDeepq_initq, [], []⟩
def N_TooDeepq_initq : List Str := ["self", "found"]
def P_TooDeepq_initq : List Str := ["self", "found"]
abbrev s_TooManyNamesq_initq : Stmt := mth 24 0
def d_TooManyNamesq_initq : He.DefD := ⟨("TooManyNames", some "__init__"), "__init__", "TooManyNames.__init__", defArgs s_TooManyNamesq_initq, defBody s_TooManyNamesq_initq, defScope s_TooManyNamesq_initq, [], []⟩
def N_TooManyNamesq_initq : List Str := ["self", "count"]
def P_TooManyNamesq_initq : List Str := ["self", "count"]
abbrev s_TooManyRequestsq_initq : Stmt := mth 27 0
def d_TooManyRequestsq_initq : He.DefD := ⟨("TooManyRequests", some "__init__"), "__init__", "TooManyRequests.__init__", defArgs s_TooManyRequestsq_initq, defBody s_TooManyRequestsq_initq, defScope s_TooManyRequestsq_initq, [], []⟩
def N_TooManyRequestsq_initq : List Str := ["self", "count"]
def P_TooManyRequestsq_initq : List Str := ["self", "count"]
abbrev s_TooLongq_initq : Stmt := mth 26 0
def d_TooLongq_initq : He.DefD := ⟨("TooLong", some "__init__"), "__init__", "TooLong.__init__", defArgs s_TooLongq_initq, defBody s_TooLongq_initq, defScope s_TooLongq_initq, [], []⟩
def N_TooLongq_initq : List Str := ["self", "step"]
def P_TooLongq_initq : List Str := ["self", "step"]
abbrev s__law_made : Stmt := top 39
def d__law_made : He.DefD := ⟨("_law_made", none), "_law_made", "_law_made", defArgs s__law_made, defBody s__law_made, defScope s__law_made, [], []⟩
def N__law_made : List Str := ["_law_thing", "_law_some"]
def P__law_made : List Str := ["_law_thing"]
abbrev s__law_kind : Stmt := top 38
def d__law_kind : He.DefD := ⟨("_law_kind", none), "_law_kind", "_law_kind", defArgs s__law_kind, defBody s__law_kind, defScope s__law_kind, [], []⟩
def N__law_kind : List Str := ["_law_e", "_law_fits", "_law_bases", "_law_own", "_law_at"]
def P__law_kind : List Str := ["_law_e"]
abbrev s__law_rare_field : Stmt := top 41
def d__law_rare_field : He.DefD := ⟨("_law_rare_field", none), "_law_rare_field", "_law_rare_field", defArgs s__law_rare_field, defBody s__law_rare_field, defScope s__law_rare_field, [], []⟩
def N__law_rare_field : List Str := ["_law_e", "_law_at"]
def P__law_rare_field : List Str := ["_law_e", "_law_at"]
abbrev s__law_field : Stmt := top 40
def d__law_field : He.DefD := ⟨("_law_field", none), "_law_field", "_law_field", defArgs s__law_field, defBody s__law_field, defScope s__law_field, [], []⟩
def N__law_field : List Str := ["_law_e", "_law_at"]
def P__law_field : List Str := ["_law_e", "_law_at"]
abbrev s__law_right : Stmt := top 42
def d__law_right : He.DefD := ⟨("_law_right", none), "_law_right", "_law_right", defArgs s__law_right, defBody s__law_right, defScope s__law_right, [], []⟩
def N__law_right : List Str := ["_law_pool_here", "_law_thing", "_law_at", "_law_pair", "_law_e"]
def P__law_right : List Str := ["_law_pool_here"]
abbrev s__law_pool : Stmt := top 36
def d__law_pool : He.DefD := ⟨("_law_pool", none), "_law_pool", "_law_pool", defArgs s__law_pool, defBody s__law_pool, defScope s__law_pool, [], []⟩
def N__law_pool : List Str := ["_law_figure", "_law_digits"]
def P__law_pool : List Str := ["_law_figure"]
abbrev s__law_cell : Stmt := top 35
def d__law_cell : He.DefD := ⟨("_law_cell", none), "_law_cell", "_law_cell", defArgs s__law_cell, defBody s__law_cell, defScope s__law_cell, [], []⟩
def N__law_cell : List Str := ["_law_script", "_law_k", "_law_state", "_law_figure"]
def P__law_cell : List Str := ["_law_script", "_law_k"]
abbrev s_law : Stmt := top 43
def d_law : He.DefD := ⟨("law", none), "law", "law", defArgs s_law, defBody s_law, defScope s_law, [], []⟩
def N_law : List Str := ["_law_script", "_law_limits_here", "_law_k"]
def P_law : List Str := ["_law_script"]
def DEFS : List He.DefD := [d__law_draw, d_InvalidStepq_initq, d_InvalidNumberq_initq, d_InvalidProgressionq_initq, d_InvalidProgressionsq_initq, d_InvalidArityq_initq, d_InvalidNameq_initq, d_InvalidTextq_initq, d_InvalidTargetsq_initq, d_InvalidTableq_initq, d_InvalidTreeq_initq, d_InvalidSettingq_initq, d_InvalidSightingsq_initq, d_InvalidDeedsq_initq, d_InvalidDeedq_initq, d_NameTakenq_initq, d_UnknownNameq_initq, d_Unexplainedq_initq, d_NotFullq_initq, d_LastServerq_initq, d_TooDeepq_initq, d_TooManyNamesq_initq, d_TooManyRequestsq_initq, d_TooLongq_initq, d__law_made, d__law_kind, d__law_rare_field, d__law_field, d__law_right, d__law_pool, d__law_cell, d_law]
def CN : List Str := []
def XN : List Str := ["InvalidNumber", "InvalidStep", "InvalidProgression", "InvalidProgressions", "InvalidName", "InvalidArity", "InvalidTargets", "InvalidText", "InvalidTree", "InvalidTable", "InvalidSetting", "InvalidSightings", "InvalidDeed", "InvalidDeeds", "UnknownName", "NameTaken", "NotFull", "Unexplained", "LastServer", "NothingToUndo", "TooManyNames", "TooDeep", "TooLong", "TooManyRequests", "RobinError", "SearchError", "SizeError"]
def XC : List Nat := [0, 1, 2, 3, 4, 5, 6, 7, 8, 9, 10, 11, 12, 13, 14, 15, 16, 17, 18, 19, 20, 21, 22, 23, 24, 25, 26]
def FL : List Str := ["number", "step", "value", "index", "name", "arity", "text", "deed", "numbers", "count", "found"]
def TAB : IsTab := [((.cl 0), (.cl 0), true), ((.cl 1), (.cl 0), false), ((.cl 2), (.cl 0), false), ((.cl 3), (.cl 0), false), ((.cl 4), (.cl 0), false), ((.cl 5), (.cl 0), false), ((.cl 6), (.cl 0), false), ((.cl 7), (.cl 0), false), ((.cl 8), (.cl 0), false), ((.cl 9), (.cl 0), false), ((.cl 10), (.cl 0), false), ((.cl 11), (.cl 0), false), ((.cl 12), (.cl 0), false), ((.cl 13), (.cl 0), false), ((.cl 14), (.cl 0), false), ((.cl 15), (.cl 0), false), ((.cl 16), (.cl 0), false), ((.cl 17), (.cl 0), false), ((.cl 18), (.cl 0), false), ((.cl 19), (.cl 0), false), ((.cl 20), (.cl 0), false), ((.cl 21), (.cl 0), false), ((.cl 22), (.cl 0), false), ((.cl 23), (.cl 0), false), ((.cl 24), (.cl 0), false), ((.cl 25), (.cl 0), false), ((.cl 26), (.cl 0), false), ((.cl 0), (.cl 1), false), ((.cl 1), (.cl 1), true), ((.cl 2), (.cl 1), false), ((.cl 3), (.cl 1), false), ((.cl 4), (.cl 1), false), ((.cl 5), (.cl 1), false), ((.cl 6), (.cl 1), false), ((.cl 7), (.cl 1), false), ((.cl 8), (.cl 1), false), ((.cl 9), (.cl 1), false), ((.cl 10), (.cl 1), false), ((.cl 11), (.cl 1), false), ((.cl 12), (.cl 1), false), ((.cl 13), (.cl 1), false), ((.cl 14), (.cl 1), false), ((.cl 15), (.cl 1), false), ((.cl 16), (.cl 1), false), ((.cl 17), (.cl 1), false), ((.cl 18), (.cl 1), false), ((.cl 19), (.cl 1), false), ((.cl 20), (.cl 1), false), ((.cl 21), (.cl 1), false), ((.cl 22), (.cl 1), false), ((.cl 23), (.cl 1), false), ((.cl 24), (.cl 1), false), ((.cl 25), (.cl 1), false), ((.cl 26), (.cl 1), false), ((.cl 0), (.cl 2), false), ((.cl 1), (.cl 2), false), ((.cl 2), (.cl 2), true), ((.cl 3), (.cl 2), false), ((.cl 4), (.cl 2), false), ((.cl 5), (.cl 2), false), ((.cl 6), (.cl 2), false), ((.cl 7), (.cl 2), false), ((.cl 8), (.cl 2), false), ((.cl 9), (.cl 2), false), ((.cl 10), (.cl 2), false), ((.cl 11), (.cl 2), false), ((.cl 12), (.cl 2), false), ((.cl 13), (.cl 2), false), ((.cl 14), (.cl 2), false), ((.cl 15), (.cl 2), false), ((.cl 16), (.cl 2), false), ((.cl 17), (.cl 2), false), ((.cl 18), (.cl 2), false), ((.cl 19), (.cl 2), false), ((.cl 20), (.cl 2), false), ((.cl 21), (.cl 2), false), ((.cl 22), (.cl 2), false), ((.cl 23), (.cl 2), false), ((.cl 24), (.cl 2), false), ((.cl 25), (.cl 2), false), ((.cl 26), (.cl 2), false), ((.cl 0), (.cl 24), true), ((.cl 1), (.cl 24), true), ((.cl 2), (.cl 24), true), ((.cl 3), (.cl 24), true), ((.cl 4), (.cl 24), true), ((.cl 5), (.cl 24), true), ((.cl 6), (.cl 24), true), ((.cl 7), (.cl 24), true), ((.cl 8), (.cl 24), true), ((.cl 9), (.cl 24), true), ((.cl 10), (.cl 24), true), ((.cl 11), (.cl 24), true), ((.cl 12), (.cl 24), true), ((.cl 13), (.cl 24), true), ((.cl 14), (.cl 24), false), ((.cl 15), (.cl 24), false), ((.cl 16), (.cl 24), false), ((.cl 17), (.cl 24), false), ((.cl 18), (.cl 24), false), ((.cl 19), (.cl 24), false), ((.cl 20), (.cl 24), false), ((.cl 21), (.cl 24), false), ((.cl 22), (.cl 24), false), ((.cl 23), (.cl 24), false), ((.cl 24), (.cl 24), true), ((.cl 25), (.cl 24), false), ((.cl 26), (.cl 24), false), ((.cl 0), (.cl 25), false), ((.cl 1), (.cl 25), false), ((.cl 2), (.cl 25), false), ((.cl 3), (.cl 25), false), ((.cl 4), (.cl 25), false), ((.cl 5), (.cl 25), false), ((.cl 6), (.cl 25), false), ((.cl 7), (.cl 25), false), ((.cl 8), (.cl 25), false), ((.cl 9), (.cl 25), false), ((.cl 10), (.cl 25), false), ((.cl 11), (.cl 25), false), ((.cl 12), (.cl 25), false), ((.cl 13), (.cl 25), false), ((.cl 14), (.cl 25), true), ((.cl 15), (.cl 25), true), ((.cl 16), (.cl 25), true), ((.cl 17), (.cl 25), true), ((.cl 18), (.cl 25), true), ((.cl 19), (.cl 25), true), ((.cl 20), (.cl 25), false), ((.cl 21), (.cl 25), false), ((.cl 22), (.cl 25), false), ((.cl 23), (.cl 25), false), ((.cl 24), (.cl 25), false), ((.cl 25), (.cl 25), true), ((.cl 26), (.cl 25), false), ((.cl 0), (.cl 26), false), ((.cl 1), (.cl 26), false), ((.cl 2), (.cl 26), false), ((.cl 3), (.cl 26), false), ((.cl 4), (.cl 26), false), ((.cl 5), (.cl 26), false), ((.cl 6), (.cl 26), false), ((.cl 7), (.cl 26), false), ((.cl 8), (.cl 26), false), ((.cl 9), (.cl 26), false), ((.cl 10), (.cl 26), false), ((.cl 11), (.cl 26), false), ((.cl 12), (.cl 26), false), ((.cl 13), (.cl 26), false), ((.cl 14), (.cl 26), false), ((.cl 15), (.cl 26), false), ((.cl 16), (.cl 26), false), ((.cl 17), (.cl 26), false), ((.cl 18), (.cl 26), false), ((.cl 19), (.cl 26), false), ((.cl 20), (.cl 26), true), ((.cl 21), (.cl 26), true), ((.cl 22), (.cl 26), true), ((.cl 23), (.cl 26), true), ((.cl 24), (.cl 26), false), ((.cl 25), (.cl 26), false), ((.cl 26), (.cl 26), true), ((.cl 0), (.ty "ValueError"), true), ((.cl 1), (.ty "ValueError"), true), ((.cl 2), (.ty "ValueError"), true), ((.cl 3), (.ty "ValueError"), true), ((.cl 4), (.ty "ValueError"), true), ((.cl 5), (.ty "ValueError"), true), ((.cl 6), (.ty "ValueError"), true), ((.cl 7), (.ty "ValueError"), true), ((.cl 8), (.ty "ValueError"), true), ((.cl 9), (.ty "ValueError"), true), ((.cl 10), (.ty "ValueError"), true), ((.cl 11), (.ty "ValueError"), true), ((.cl 12), (.ty "ValueError"), true), ((.cl 13), (.ty "ValueError"), true), ((.cl 14), (.ty "ValueError"), false), ((.cl 15), (.ty "ValueError"), false), ((.cl 16), (.ty "ValueError"), false), ((.cl 17), (.ty "ValueError"), false), ((.cl 18), (.ty "ValueError"), false), ((.cl 19), (.ty "ValueError"), false), ((.cl 20), (.ty "ValueError"), false), ((.cl 21), (.ty "ValueError"), false), ((.cl 22), (.ty "ValueError"), false), ((.cl 23), (.ty "ValueError"), false), ((.cl 24), (.ty "ValueError"), true), ((.cl 25), (.ty "ValueError"), false), ((.cl 26), (.ty "ValueError"), false), ((.cl 0), (.ty "LookupError"), false), ((.cl 1), (.ty "LookupError"), false), ((.cl 2), (.ty "LookupError"), false), ((.cl 3), (.ty "LookupError"), false), ((.cl 4), (.ty "LookupError"), false), ((.cl 5), (.ty "LookupError"), false), ((.cl 6), (.ty "LookupError"), false), ((.cl 7), (.ty "LookupError"), false), ((.cl 8), (.ty "LookupError"), false), ((.cl 9), (.ty "LookupError"), false), ((.cl 10), (.ty "LookupError"), false), ((.cl 11), (.ty "LookupError"), false), ((.cl 12), (.ty "LookupError"), false), ((.cl 13), (.ty "LookupError"), false), ((.cl 14), (.ty "LookupError"), true), ((.cl 15), (.ty "LookupError"), true), ((.cl 16), (.ty "LookupError"), true), ((.cl 17), (.ty "LookupError"), true), ((.cl 18), (.ty "LookupError"), true), ((.cl 19), (.ty "LookupError"), true), ((.cl 20), (.ty "LookupError"), false), ((.cl 21), (.ty "LookupError"), false), ((.cl 22), (.ty "LookupError"), false), ((.cl 23), (.ty "LookupError"), false), ((.cl 24), (.ty "LookupError"), false), ((.cl 25), (.ty "LookupError"), true), ((.cl 26), (.ty "LookupError"), false), ((.cl 0), (.ty "ArithmeticError"), false), ((.cl 1), (.ty "ArithmeticError"), false), ((.cl 2), (.ty "ArithmeticError"), false), ((.cl 3), (.ty "ArithmeticError"), false), ((.cl 4), (.ty "ArithmeticError"), false), ((.cl 5), (.ty "ArithmeticError"), false), ((.cl 6), (.ty "ArithmeticError"), false), ((.cl 7), (.ty "ArithmeticError"), false), ((.cl 8), (.ty "ArithmeticError"), false), ((.cl 9), (.ty "ArithmeticError"), false), ((.cl 10), (.ty "ArithmeticError"), false), ((.cl 11), (.ty "ArithmeticError"), false), ((.cl 12), (.ty "ArithmeticError"), false), ((.cl 13), (.ty "ArithmeticError"), false), ((.cl 14), (.ty "ArithmeticError"), false), ((.cl 15), (.ty "ArithmeticError"), false), ((.cl 16), (.ty "ArithmeticError"), false), ((.cl 17), (.ty "ArithmeticError"), false), ((.cl 18), (.ty "ArithmeticError"), false), ((.cl 19), (.ty "ArithmeticError"), false), ((.cl 20), (.ty "ArithmeticError"), true), ((.cl 21), (.ty "ArithmeticError"), true), ((.cl 22), (.ty "ArithmeticError"), true), ((.cl 23), (.ty "ArithmeticError"), true), ((.cl 24), (.ty "ArithmeticError"), false), ((.cl 25), (.ty "ArithmeticError"), false), ((.cl 26), (.ty "ArithmeticError"), true), ((.cl 0), (.cl 3), false), ((.cl 1), (.cl 3), false), ((.cl 2), (.cl 3), false), ((.cl 3), (.cl 3), true), ((.cl 4), (.cl 3), false), ((.cl 5), (.cl 3), false), ((.cl 6), (.cl 3), false), ((.cl 7), (.cl 3), false), ((.cl 8), (.cl 3), false), ((.cl 9), (.cl 3), false), ((.cl 10), (.cl 3), false), ((.cl 11), (.cl 3), false), ((.cl 12), (.cl 3), false), ((.cl 13), (.cl 3), false), ((.cl 14), (.cl 3), false), ((.cl 15), (.cl 3), false), ((.cl 16), (.cl 3), false), ((.cl 17), (.cl 3), false), ((.cl 18), (.cl 3), false), ((.cl 19), (.cl 3), false), ((.cl 20), (.cl 3), false), ((.cl 21), (.cl 3), false), ((.cl 22), (.cl 3), false), ((.cl 23), (.cl 3), false), ((.cl 24), (.cl 3), false), ((.cl 25), (.cl 3), false), ((.cl 26), (.cl 3), false), ((.cl 0), (.cl 4), false), ((.cl 1), (.cl 4), false), ((.cl 2), (.cl 4), false), ((.cl 3), (.cl 4), false), ((.cl 4), (.cl 4), true), ((.cl 5), (.cl 4), false), ((.cl 6), (.cl 4), false), ((.cl 7), (.cl 4), false), ((.cl 8), (.cl 4), false), ((.cl 9), (.cl 4), false), ((.cl 10), (.cl 4), false), ((.cl 11), (.cl 4), false), ((.cl 12), (.cl 4), false), ((.cl 13), (.cl 4), false), ((.cl 14), (.cl 4), false), ((.cl 15), (.cl 4), false), ((.cl 16), (.cl 4), false), ((.cl 17), (.cl 4), false), ((.cl 18), (.cl 4), false), ((.cl 19), (.cl 4), false), ((.cl 20), (.cl 4), false), ((.cl 21), (.cl 4), false), ((.cl 22), (.cl 4), false), ((.cl 23), (.cl 4), false), ((.cl 24), (.cl 4), false), ((.cl 25), (.cl 4), false), ((.cl 26), (.cl 4), false), ((.cl 0), (.cl 5), false), ((.cl 1), (.cl 5), false), ((.cl 2), (.cl 5), false), ((.cl 3), (.cl 5), false), ((.cl 4), (.cl 5), false), ((.cl 5), (.cl 5), true), ((.cl 6), (.cl 5), false), ((.cl 7), (.cl 5), false), ((.cl 8), (.cl 5), false), ((.cl 9), (.cl 5), false), ((.cl 10), (.cl 5), false), ((.cl 11), (.cl 5), false), ((.cl 12), (.cl 5), false), ((.cl 13), (.cl 5), false), ((.cl 14), (.cl 5), false), ((.cl 15), (.cl 5), false), ((.cl 16), (.cl 5), false), ((.cl 17), (.cl 5), false), ((.cl 18), (.cl 5), false), ((.cl 19), (.cl 5), false), ((.cl 20), (.cl 5), false), ((.cl 21), (.cl 5), false), ((.cl 22), (.cl 5), false), ((.cl 23), (.cl 5), false), ((.cl 24), (.cl 5), false), ((.cl 25), (.cl 5), false), ((.cl 26), (.cl 5), false), ((.cl 0), (.cl 6), false), ((.cl 1), (.cl 6), false), ((.cl 2), (.cl 6), false), ((.cl 3), (.cl 6), false), ((.cl 4), (.cl 6), false), ((.cl 5), (.cl 6), false), ((.cl 6), (.cl 6), true), ((.cl 7), (.cl 6), false), ((.cl 8), (.cl 6), false), ((.cl 9), (.cl 6), false), ((.cl 10), (.cl 6), false), ((.cl 11), (.cl 6), false), ((.cl 12), (.cl 6), false), ((.cl 13), (.cl 6), false), ((.cl 14), (.cl 6), false), ((.cl 15), (.cl 6), false), ((.cl 16), (.cl 6), false), ((.cl 17), (.cl 6), false), ((.cl 18), (.cl 6), false), ((.cl 19), (.cl 6), false), ((.cl 20), (.cl 6), false), ((.cl 21), (.cl 6), false), ((.cl 22), (.cl 6), false), ((.cl 23), (.cl 6), false), ((.cl 24), (.cl 6), false), ((.cl 25), (.cl 6), false), ((.cl 26), (.cl 6), false), ((.cl 0), (.cl 7), false), ((.cl 1), (.cl 7), false), ((.cl 2), (.cl 7), false), ((.cl 3), (.cl 7), false), ((.cl 4), (.cl 7), false), ((.cl 5), (.cl 7), false), ((.cl 6), (.cl 7), false), ((.cl 7), (.cl 7), true), ((.cl 8), (.cl 7), false), ((.cl 9), (.cl 7), false), ((.cl 10), (.cl 7), false), ((.cl 11), (.cl 7), false), ((.cl 12), (.cl 7), false), ((.cl 13), (.cl 7), false), ((.cl 14), (.cl 7), false), ((.cl 15), (.cl 7), false), ((.cl 16), (.cl 7), false), ((.cl 17), (.cl 7), false), ((.cl 18), (.cl 7), false), ((.cl 19), (.cl 7), false), ((.cl 20), (.cl 7), false), ((.cl 21), (.cl 7), false), ((.cl 22), (.cl 7), false), ((.cl 23), (.cl 7), false), ((.cl 24), (.cl 7), false), ((.cl 25), (.cl 7), false), ((.cl 26), (.cl 7), false), ((.cl 0), (.cl 8), false), ((.cl 1), (.cl 8), false), ((.cl 2), (.cl 8), false), ((.cl 3), (.cl 8), false), ((.cl 4), (.cl 8), false), ((.cl 5), (.cl 8), false), ((.cl 6), (.cl 8), false), ((.cl 7), (.cl 8), false), ((.cl 8), (.cl 8), true), ((.cl 9), (.cl 8), false), ((.cl 10), (.cl 8), false), ((.cl 11), (.cl 8), false), ((.cl 12), (.cl 8), false), ((.cl 13), (.cl 8), false), ((.cl 14), (.cl 8), false), ((.cl 15), (.cl 8), false), ((.cl 16), (.cl 8), false), ((.cl 17), (.cl 8), false), ((.cl 18), (.cl 8), false), ((.cl 19), (.cl 8), false), ((.cl 20), (.cl 8), false), ((.cl 21), (.cl 8), false), ((.cl 22), (.cl 8), false), ((.cl 23), (.cl 8), false), ((.cl 24), (.cl 8), false), ((.cl 25), (.cl 8), false), ((.cl 26), (.cl 8), false), ((.cl 0), (.cl 9), false), ((.cl 1), (.cl 9), false), ((.cl 2), (.cl 9), false), ((.cl 3), (.cl 9), false), ((.cl 4), (.cl 9), false), ((.cl 5), (.cl 9), false), ((.cl 6), (.cl 9), false), ((.cl 7), (.cl 9), false), ((.cl 8), (.cl 9), false), ((.cl 9), (.cl 9), true), ((.cl 10), (.cl 9), false), ((.cl 11), (.cl 9), false), ((.cl 12), (.cl 9), false), ((.cl 13), (.cl 9), false), ((.cl 14), (.cl 9), false), ((.cl 15), (.cl 9), false), ((.cl 16), (.cl 9), false), ((.cl 17), (.cl 9), false), ((.cl 18), (.cl 9), false), ((.cl 19), (.cl 9), false), ((.cl 20), (.cl 9), false), ((.cl 21), (.cl 9), false), ((.cl 22), (.cl 9), false), ((.cl 23), (.cl 9), false), ((.cl 24), (.cl 9), false), ((.cl 25), (.cl 9), false), ((.cl 26), (.cl 9), false), ((.cl 0), (.cl 10), false), ((.cl 1), (.cl 10), false), ((.cl 2), (.cl 10), false), ((.cl 3), (.cl 10), false), ((.cl 4), (.cl 10), false), ((.cl 5), (.cl 10), false), ((.cl 6), (.cl 10), false), ((.cl 7), (.cl 10), false), ((.cl 8), (.cl 10), false), ((.cl 9), (.cl 10), false), ((.cl 10), (.cl 10), true), ((.cl 11), (.cl 10), false), ((.cl 12), (.cl 10), false), ((.cl 13), (.cl 10), false), ((.cl 14), (.cl 10), false), ((.cl 15), (.cl 10), false), ((.cl 16), (.cl 10), false), ((.cl 17), (.cl 10), false), ((.cl 18), (.cl 10), false), ((.cl 19), (.cl 10), false), ((.cl 20), (.cl 10), false), ((.cl 21), (.cl 10), false), ((.cl 22), (.cl 10), false), ((.cl 23), (.cl 10), false), ((.cl 24), (.cl 10), false), ((.cl 25), (.cl 10), false), ((.cl 26), (.cl 10), false), ((.cl 0), (.cl 11), false), ((.cl 1), (.cl 11), false), ((.cl 2), (.cl 11), false), ((.cl 3), (.cl 11), false), ((.cl 4), (.cl 11), false), ((.cl 5), (.cl 11), false), ((.cl 6), (.cl 11), false), ((.cl 7), (.cl 11), false), ((.cl 8), (.cl 11), false), ((.cl 9), (.cl 11), false), ((.cl 10), (.cl 11), false), ((.cl 11), (.cl 11), true), ((.cl 12), (.cl 11), false), ((.cl 13), (.cl 11), false), ((.cl 14), (.cl 11), false), ((.cl 15), (.cl 11), false), ((.cl 16), (.cl 11), false), ((.cl 17), (.cl 11), false), ((.cl 18), (.cl 11), false), ((.cl 19), (.cl 11), false), ((.cl 20), (.cl 11), false), ((.cl 21), (.cl 11), false), ((.cl 22), (.cl 11), false), ((.cl 23), (.cl 11), false), ((.cl 24), (.cl 11), false), ((.cl 25), (.cl 11), false), ((.cl 26), (.cl 11), false), ((.cl 0), (.cl 12), false), ((.cl 1), (.cl 12), false), ((.cl 2), (.cl 12), false), ((.cl 3), (.cl 12), false), ((.cl 4), (.cl 12), false), ((.cl 5), (.cl 12), false), ((.cl 6), (.cl 12), false), ((.cl 7), (.cl 12), false), ((.cl 8), (.cl 12), false), ((.cl 9), (.cl 12), false), ((.cl 10), (.cl 12), false), ((.cl 11), (.cl 12), false), ((.cl 12), (.cl 12), true), ((.cl 13), (.cl 12), false), ((.cl 14), (.cl 12), false), ((.cl 15), (.cl 12), false), ((.cl 16), (.cl 12), false), ((.cl 17), (.cl 12), false), ((.cl 18), (.cl 12), false), ((.cl 19), (.cl 12), false), ((.cl 20), (.cl 12), false), ((.cl 21), (.cl 12), false), ((.cl 22), (.cl 12), false), ((.cl 23), (.cl 12), false), ((.cl 24), (.cl 12), false), ((.cl 25), (.cl 12), false), ((.cl 26), (.cl 12), false), ((.cl 0), (.cl 13), false), ((.cl 1), (.cl 13), false), ((.cl 2), (.cl 13), false), ((.cl 3), (.cl 13), false), ((.cl 4), (.cl 13), false), ((.cl 5), (.cl 13), false), ((.cl 6), (.cl 13), false), ((.cl 7), (.cl 13), false), ((.cl 8), (.cl 13), false), ((.cl 9), (.cl 13), false), ((.cl 10), (.cl 13), false), ((.cl 11), (.cl 13), false), ((.cl 12), (.cl 13), false), ((.cl 13), (.cl 13), true), ((.cl 14), (.cl 13), false), ((.cl 15), (.cl 13), false), ((.cl 16), (.cl 13), false), ((.cl 17), (.cl 13), false), ((.cl 18), (.cl 13), false), ((.cl 19), (.cl 13), false), ((.cl 20), (.cl 13), false), ((.cl 21), (.cl 13), false), ((.cl 22), (.cl 13), false), ((.cl 23), (.cl 13), false), ((.cl 24), (.cl 13), false), ((.cl 25), (.cl 13), false), ((.cl 26), (.cl 13), false), ((.cl 0), (.cl 14), false), ((.cl 1), (.cl 14), false), ((.cl 2), (.cl 14), false), ((.cl 3), (.cl 14), false), ((.cl 4), (.cl 14), false), ((.cl 5), (.cl 14), false), ((.cl 6), (.cl 14), false), ((.cl 7), (.cl 14), false), ((.cl 8), (.cl 14), false), ((.cl 9), (.cl 14), false), ((.cl 10), (.cl 14), false), ((.cl 11), (.cl 14), false), ((.cl 12), (.cl 14), false), ((.cl 13), (.cl 14), false), ((.cl 14), (.cl 14), true), ((.cl 15), (.cl 14), false), ((.cl 16), (.cl 14), false), ((.cl 17), (.cl 14), false), ((.cl 18), (.cl 14), false), ((.cl 19), (.cl 14), false), ((.cl 20), (.cl 14), false), ((.cl 21), (.cl 14), false), ((.cl 22), (.cl 14), false), ((.cl 23), (.cl 14), false), ((.cl 24), (.cl 14), false), ((.cl 25), (.cl 14), false), ((.cl 26), (.cl 14), false), ((.cl 0), (.cl 15), false), ((.cl 1), (.cl 15), false), ((.cl 2), (.cl 15), false), ((.cl 3), (.cl 15), false), ((.cl 4), (.cl 15), false), ((.cl 5), (.cl 15), false), ((.cl 6), (.cl 15), false), ((.cl 7), (.cl 15), false), ((.cl 8), (.cl 15), false), ((.cl 9), (.cl 15), false), ((.cl 10), (.cl 15), false), ((.cl 11), (.cl 15), false), ((.cl 12), (.cl 15), false), ((.cl 13), (.cl 15), false), ((.cl 14), (.cl 15), false), ((.cl 15), (.cl 15), true), ((.cl 16), (.cl 15), false), ((.cl 17), (.cl 15), false), ((.cl 18), (.cl 15), false), ((.cl 19), (.cl 15), false), ((.cl 20), (.cl 15), false), ((.cl 21), (.cl 15), false), ((.cl 22), (.cl 15), false), ((.cl 23), (.cl 15), false), ((.cl 24), (.cl 15), false), ((.cl 25), (.cl 15), false), ((.cl 26), (.cl 15), false), ((.cl 0), (.cl 16), false), ((.cl 1), (.cl 16), false), ((.cl 2), (.cl 16), false), ((.cl 3), (.cl 16), false), ((.cl 4), (.cl 16), false), ((.cl 5), (.cl 16), false), ((.cl 6), (.cl 16), false), ((.cl 7), (.cl 16), false), ((.cl 8), (.cl 16), false), ((.cl 9), (.cl 16), false), ((.cl 10), (.cl 16), false), ((.cl 11), (.cl 16), false), ((.cl 12), (.cl 16), false), ((.cl 13), (.cl 16), false), ((.cl 14), (.cl 16), false), ((.cl 15), (.cl 16), false), ((.cl 16), (.cl 16), true), ((.cl 17), (.cl 16), false), ((.cl 18), (.cl 16), false), ((.cl 19), (.cl 16), false), ((.cl 20), (.cl 16), false), ((.cl 21), (.cl 16), false), ((.cl 22), (.cl 16), false), ((.cl 23), (.cl 16), false), ((.cl 24), (.cl 16), false), ((.cl 25), (.cl 16), false), ((.cl 26), (.cl 16), false), ((.cl 0), (.cl 17), false), ((.cl 1), (.cl 17), false), ((.cl 2), (.cl 17), false), ((.cl 3), (.cl 17), false), ((.cl 4), (.cl 17), false), ((.cl 5), (.cl 17), false), ((.cl 6), (.cl 17), false), ((.cl 7), (.cl 17), false), ((.cl 8), (.cl 17), false), ((.cl 9), (.cl 17), false), ((.cl 10), (.cl 17), false), ((.cl 11), (.cl 17), false), ((.cl 12), (.cl 17), false), ((.cl 13), (.cl 17), false), ((.cl 14), (.cl 17), false), ((.cl 15), (.cl 17), false), ((.cl 16), (.cl 17), false), ((.cl 17), (.cl 17), true), ((.cl 18), (.cl 17), false), ((.cl 19), (.cl 17), false), ((.cl 20), (.cl 17), false), ((.cl 21), (.cl 17), false), ((.cl 22), (.cl 17), false), ((.cl 23), (.cl 17), false), ((.cl 24), (.cl 17), false), ((.cl 25), (.cl 17), false), ((.cl 26), (.cl 17), false), ((.cl 0), (.cl 18), false), ((.cl 1), (.cl 18), false), ((.cl 2), (.cl 18), false), ((.cl 3), (.cl 18), false), ((.cl 4), (.cl 18), false), ((.cl 5), (.cl 18), false), ((.cl 6), (.cl 18), false), ((.cl 7), (.cl 18), false), ((.cl 8), (.cl 18), false), ((.cl 9), (.cl 18), false), ((.cl 10), (.cl 18), false), ((.cl 11), (.cl 18), false), ((.cl 12), (.cl 18), false), ((.cl 13), (.cl 18), false), ((.cl 14), (.cl 18), false), ((.cl 15), (.cl 18), false), ((.cl 16), (.cl 18), false), ((.cl 17), (.cl 18), false), ((.cl 18), (.cl 18), true), ((.cl 19), (.cl 18), false), ((.cl 20), (.cl 18), false), ((.cl 21), (.cl 18), false), ((.cl 22), (.cl 18), false), ((.cl 23), (.cl 18), false), ((.cl 24), (.cl 18), false), ((.cl 25), (.cl 18), false), ((.cl 26), (.cl 18), false), ((.cl 0), (.cl 19), false), ((.cl 1), (.cl 19), false), ((.cl 2), (.cl 19), false), ((.cl 3), (.cl 19), false), ((.cl 4), (.cl 19), false), ((.cl 5), (.cl 19), false), ((.cl 6), (.cl 19), false), ((.cl 7), (.cl 19), false), ((.cl 8), (.cl 19), false), ((.cl 9), (.cl 19), false), ((.cl 10), (.cl 19), false), ((.cl 11), (.cl 19), false), ((.cl 12), (.cl 19), false), ((.cl 13), (.cl 19), false), ((.cl 14), (.cl 19), false), ((.cl 15), (.cl 19), false), ((.cl 16), (.cl 19), false), ((.cl 17), (.cl 19), false), ((.cl 18), (.cl 19), false), ((.cl 19), (.cl 19), true), ((.cl 20), (.cl 19), false), ((.cl 21), (.cl 19), false), ((.cl 22), (.cl 19), false), ((.cl 23), (.cl 19), false), ((.cl 24), (.cl 19), false), ((.cl 25), (.cl 19), false), ((.cl 26), (.cl 19), false), ((.cl 0), (.cl 20), false), ((.cl 1), (.cl 20), false), ((.cl 2), (.cl 20), false), ((.cl 3), (.cl 20), false), ((.cl 4), (.cl 20), false), ((.cl 5), (.cl 20), false), ((.cl 6), (.cl 20), false), ((.cl 7), (.cl 20), false), ((.cl 8), (.cl 20), false), ((.cl 9), (.cl 20), false), ((.cl 10), (.cl 20), false), ((.cl 11), (.cl 20), false), ((.cl 12), (.cl 20), false), ((.cl 13), (.cl 20), false), ((.cl 14), (.cl 20), false), ((.cl 15), (.cl 20), false), ((.cl 16), (.cl 20), false), ((.cl 17), (.cl 20), false), ((.cl 18), (.cl 20), false), ((.cl 19), (.cl 20), false), ((.cl 20), (.cl 20), true), ((.cl 21), (.cl 20), false), ((.cl 22), (.cl 20), false), ((.cl 23), (.cl 20), false), ((.cl 24), (.cl 20), false), ((.cl 25), (.cl 20), false), ((.cl 26), (.cl 20), false), ((.cl 0), (.cl 21), false), ((.cl 1), (.cl 21), false), ((.cl 2), (.cl 21), false), ((.cl 3), (.cl 21), false), ((.cl 4), (.cl 21), false), ((.cl 5), (.cl 21), false), ((.cl 6), (.cl 21), false), ((.cl 7), (.cl 21), false), ((.cl 8), (.cl 21), false), ((.cl 9), (.cl 21), false), ((.cl 10), (.cl 21), false), ((.cl 11), (.cl 21), false), ((.cl 12), (.cl 21), false), ((.cl 13), (.cl 21), false), ((.cl 14), (.cl 21), false), ((.cl 15), (.cl 21), false), ((.cl 16), (.cl 21), false), ((.cl 17), (.cl 21), false), ((.cl 18), (.cl 21), false), ((.cl 19), (.cl 21), false), ((.cl 20), (.cl 21), false), ((.cl 21), (.cl 21), true), ((.cl 22), (.cl 21), false), ((.cl 23), (.cl 21), false), ((.cl 24), (.cl 21), false), ((.cl 25), (.cl 21), false), ((.cl 26), (.cl 21), false), ((.cl 0), (.cl 22), false), ((.cl 1), (.cl 22), false), ((.cl 2), (.cl 22), false), ((.cl 3), (.cl 22), false), ((.cl 4), (.cl 22), false), ((.cl 5), (.cl 22), false), ((.cl 6), (.cl 22), false), ((.cl 7), (.cl 22), false), ((.cl 8), (.cl 22), false), ((.cl 9), (.cl 22), false), ((.cl 10), (.cl 22), false), ((.cl 11), (.cl 22), false), ((.cl 12), (.cl 22), false), ((.cl 13), (.cl 22), false), ((.cl 14), (.cl 22), false), ((.cl 15), (.cl 22), false), ((.cl 16), (.cl 22), false), ((.cl 17), (.cl 22), false), ((.cl 18), (.cl 22), false), ((.cl 19), (.cl 22), false), ((.cl 20), (.cl 22), false), ((.cl 21), (.cl 22), false), ((.cl 22), (.cl 22), true), ((.cl 23), (.cl 22), false), ((.cl 24), (.cl 22), false), ((.cl 25), (.cl 22), false), ((.cl 26), (.cl 22), false), ((.cl 0), (.cl 23), false), ((.cl 1), (.cl 23), false), ((.cl 2), (.cl 23), false), ((.cl 3), (.cl 23), false), ((.cl 4), (.cl 23), false), ((.cl 5), (.cl 23), false), ((.cl 6), (.cl 23), false), ((.cl 7), (.cl 23), false), ((.cl 8), (.cl 23), false), ((.cl 9), (.cl 23), false), ((.cl 10), (.cl 23), false), ((.cl 11), (.cl 23), false), ((.cl 12), (.cl 23), false), ((.cl 13), (.cl 23), false), ((.cl 14), (.cl 23), false), ((.cl 15), (.cl 23), false), ((.cl 16), (.cl 23), false), ((.cl 17), (.cl 23), false), ((.cl 18), (.cl 23), false), ((.cl 19), (.cl 23), false), ((.cl 20), (.cl 23), false), ((.cl 21), (.cl 23), false), ((.cl 22), (.cl 23), false), ((.cl 23), (.cl 23), true), ((.cl 24), (.cl 23), false), ((.cl 25), (.cl 23), false), ((.cl 26), (.cl 23), false)]
def FAS : List Chk := [ckGint "MOST_NUMBER" 1000000000000000000000000000000,
  ckGint "MOST_SEEN" 20,
  ckGint "MOST_SIGHTINGS" 40,
  ckGint "MOST_STEP" 1000000000000000000000000000000000000000000000000000000000000,
  ckGint "MOST_DEPTH" 40,
  ckGint "MOST_NAMES" 24,
  ckFree "repr",
  ckFree "len",
  ckFree "min",
  ckFree "max",
  ckFree "range",
  ckFree "divmod",
  ckGlo "_law_draw",
  ckXb "InvalidStep" 0,
  ckXno "InvalidStep" "step",
  ckXmk "InvalidStep",
  ckGlo "InvalidStep",
  ckXb "InvalidNumber" 0,
  ckXno "InvalidNumber" "number",
  ckXmk "InvalidNumber",
  ckGlo "InvalidNumber",
  ckXb "InvalidProgression" 0,
  ckXno "InvalidProgression" "value",
  ckXmk "InvalidProgression",
  ckGlo "InvalidProgression",
  ckXb "InvalidProgressions" 0,
  ckXno "InvalidProgressions" "index",
  ckXmk "InvalidProgressions",
  ckGlo "InvalidProgressions",
  ckXb "InvalidArity" 0,
  ckXno "InvalidArity" "arity",
  ckXmk "InvalidArity",
  ckGlo "InvalidArity",
  ckXb "InvalidName" 0,
  ckXno "InvalidName" "name",
  ckXmk "InvalidName",
  ckGlo "InvalidName",
  ckXb "InvalidText" 0,
  ckXno "InvalidText" "text",
  ckXmk "InvalidText",
  ckGlo "InvalidText",
  ckXb "InvalidTargets" 0,
  ckXno "InvalidTargets" "index",
  ckXmk "InvalidTargets",
  ckGlo "InvalidTargets",
  ckXb "InvalidTable" 0,
  ckXno "InvalidTable" "index",
  ckXmk "InvalidTable",
  ckGlo "InvalidTable",
  ckXb "InvalidTree" 0,
  ckXno "InvalidTree" "value",
  ckXmk "InvalidTree",
  ckGlo "InvalidTree",
  ckXb "InvalidSetting" 0,
  ckXno "InvalidSetting" "index",
  ckXmk "InvalidSetting",
  ckGlo "InvalidSetting",
  ckXb "InvalidSightings" 0,
  ckXno "InvalidSightings" "index",
  ckXmk "InvalidSightings",
  ckGlo "InvalidSightings",
  ckXb "InvalidDeeds" 0,
  ckXno "InvalidDeeds" "index",
  ckXmk "InvalidDeeds",
  ckGlo "InvalidDeeds",
  ckXb "InvalidDeed" 0,
  ckXno "InvalidDeed" "deed",
  ckXmk "InvalidDeed",
  ckGlo "InvalidDeed",
  ckXb "NameTaken" 1,
  ckXno "NameTaken" "name",
  ckXmk "NameTaken",
  ckGlo "NameTaken",
  ckXb "UnknownName" 1,
  ckXno "UnknownName" "name",
  ckXmk "UnknownName",
  ckGlo "UnknownName",
  ckXb "Unexplained" 1,
  ckXno "Unexplained" "numbers",
  ckXmk "Unexplained",
  ckGlo "Unexplained",
  ckXb "NotFull" 1,
  ckXno "NotFull" "number",
  ckXmk "NotFull",
  ckGlo "NotFull",
  ckXmk0 "NothingToUndo" 1,
  ckGlo "NothingToUndo",
  ckXb "LastServer" 1,
  ckXno "LastServer" "name",
  ckXmk "LastServer",
  ckGlo "LastServer",
  ckXb "TooDeep" 2,
  ckXno "TooDeep" "found",
  ckXmk "TooDeep",
  ckGlo "TooDeep",
  ckXb "TooManyNames" 2,
  ckXno "TooManyNames" "count",
  ckXmk "TooManyNames",
  ckGlo "TooManyNames",
  ckXb "TooManyRequests" 2,
  ckXno "TooManyRequests" "count",
  ckXmk "TooManyRequests",
  ckGlo "TooManyRequests",
  ckXb "TooLong" 2,
  ckXno "TooLong" "step",
  ckXmk "TooLong",
  ckGlo "TooLong",
  ckGlo "_law_made",
  ckFree "enumerate",
  ckFree "isinstance",
  ckGlo "SizeError",
  ckGlo "SearchError",
  ckGlo "RobinError",
  ckFree "ArithmeticError",
  ckFree "LookupError",
  ckFree "ValueError",
  ckGlo "_law_kind",
  ckXi "InvalidNumber",
  ckXi "NotFull",
  ckXi "InvalidStep",
  ckXi "TooLong",
  ckXi "InvalidProgression",
  ckXi "InvalidTree",
  ckXi "InvalidProgressions",
  ckXi "InvalidTargets",
  ckXi "InvalidTable",
  ckXi "InvalidSetting",
  ckXi "InvalidSightings",
  ckXi "InvalidDeeds",
  ckXi "InvalidName",
  ckXi "UnknownName",
  ckXi "NameTaken",
  ckXi "LastServer",
  ckXi "TooManyNames",
  ckXi "TooManyRequests",
  ckXi "InvalidArity",
  ckXi "InvalidText",
  ckXi "InvalidDeed",
  ckXi "Unexplained",
  ckXi "TooDeep",
  ckGlo "_law_rare_field",
  ckGlo "_law_field",
  ckFree "all",
  ckFree "abs",
  ckGlo "_law_cell",
  ckGlo "_law_pool",
  ckGlo "_law_right",
  ckIs (CN ++ XN) TAB,
  ckNd CN,
  ckXi "NothingToUndo",
  ckXi "RobinError",
  ckXi "SearchError",
  ckXi "SizeError",
  ckGlo "law"]
def CHK : Chk := fun K => FAS.all fun f => f K
structure Fx (K : PySem.W.Frag) (mg : Str → Option Value) (h : Heap) : Prop where
  X : K.In h
  G : h.Ns mainGlobals mg
  q : SaysR CHK DEFS K
section
variable {K : PySem.W.Frag} {mg : Str → Option Value} {base : Heap} {w : World}
theorem Fx.at_ (fx : Fx K mg base) (i : Nat) {f : Chk} (h : FAS[i]? = some f := by rfl) : f K = true := List.all_eq_true.mp fx.q.chk f (List.mem_of_getElem? h)
theorem fl_nd : FL.Nodup := by decide +kernel
abbrev SS (fx : Fx K mg base) : Sta := mkStaX K CN XN FL [] fl_nd (nd_ok (fx.at_ 148))
theorem fx_cls (fx : Fx K mg base) : ∀ c, c < CN.length → ClsI K (((CN ++ XN).map (He.ga K)).getD c 0)
  | _ + 0, h => absurd h (by show ¬ (_ + 0 < 0); omega)
theorem fx_is (fx : Fx K mg base) : IsOk (SS fx) TAB := is_okX (fx.at_ 147) (fx_cls fx)
theorem fx_xi (fx : Fx K mg base) : ∀ c ∈ XC, XcI (SS fx).K ((SS fx).cls c) := by
  intro c hc
  have hc : c ∈ [0, 1, 2, 3, 4, 5, 6, 7, 8, 9, 10, 11, 12, 13, 14, 15, 16, 17, 18, 19, 20, 21, 22, 23, 24, 25, 26] := hc
  simp only [List.mem_cons, List.not_mem_nil, or_false] at hc
  obtain rfl | rfl | rfl | rfl | rfl | rfl | rfl | rfl | rfl | rfl | rfl | rfl | rfl | rfl | rfl | rfl | rfl | rfl | rfl | rfl | rfl | rfl | rfl | rfl | rfl | rfl | rfl := hc
  · exact xi_ok (x := "InvalidNumber") (fx.at_ 117)
  · exact xi_ok (x := "InvalidStep") (fx.at_ 119)
  · exact xi_ok (x := "InvalidProgression") (fx.at_ 121)
  · exact xi_ok (x := "InvalidProgressions") (fx.at_ 123)
  · exact xi_ok (x := "InvalidName") (fx.at_ 129)
  · exact xi_ok (x := "InvalidArity") (fx.at_ 135)
  · exact xi_ok (x := "InvalidTargets") (fx.at_ 124)
  · exact xi_ok (x := "InvalidText") (fx.at_ 136)
  · exact xi_ok (x := "InvalidTree") (fx.at_ 122)
  · exact xi_ok (x := "InvalidTable") (fx.at_ 125)
  · exact xi_ok (x := "InvalidSetting") (fx.at_ 126)
  · exact xi_ok (x := "InvalidSightings") (fx.at_ 127)
  · exact xi_ok (x := "InvalidDeed") (fx.at_ 137)
  · exact xi_ok (x := "InvalidDeeds") (fx.at_ 128)
  · exact xi_ok (x := "UnknownName") (fx.at_ 130)
  · exact xi_ok (x := "NameTaken") (fx.at_ 131)
  · exact xi_ok (x := "NotFull") (fx.at_ 118)
  · exact xi_ok (x := "Unexplained") (fx.at_ 138)
  · exact xi_ok (x := "LastServer") (fx.at_ 132)
  · exact xi_ok (x := "NothingToUndo") (fx.at_ 149)
  · exact xi_ok (x := "TooManyNames") (fx.at_ 133)
  · exact xi_ok (x := "TooDeep") (fx.at_ 139)
  · exact xi_ok (x := "TooLong") (fx.at_ 120)
  · exact xi_ok (x := "TooManyRequests") (fx.at_ 134)
  · exact xi_ok (x := "RobinError") (fx.at_ 150)
  · exact xi_ok (x := "SearchError") (fx.at_ 151)
  · exact xi_ok (x := "SizeError") (fx.at_ 152)
theorem fx_xfld_number (fx : Fx K mg base) : ∀ c ∈ [0, 16], XcI (SS fx).K ((SS fx).cls c) ∧ PySem.W.findIn (SS fx).K (.ref ((SS fx).cls c)) "number" = some none := by
  intro c hc
  simp only [List.mem_cons, List.not_mem_nil, or_false] at hc
  obtain rfl | rfl := hc
  · exact ⟨xi_ok (x := "InvalidNumber") (fx.at_ 117), xno_ok (x := "InvalidNumber") (f := "number") (fx.at_ 18)⟩
  · exact ⟨xi_ok (x := "NotFull") (fx.at_ 118), xno_ok (x := "NotFull") (f := "number") (fx.at_ 82)⟩
theorem fx_xfld_step (fx : Fx K mg base) : ∀ c ∈ [1, 22], XcI (SS fx).K ((SS fx).cls c) ∧ PySem.W.findIn (SS fx).K (.ref ((SS fx).cls c)) "step" = some none := by
  intro c hc
  simp only [List.mem_cons, List.not_mem_nil, or_false] at hc
  obtain rfl | rfl := hc
  · exact ⟨xi_ok (x := "InvalidStep") (fx.at_ 119), xno_ok (x := "InvalidStep") (f := "step") (fx.at_ 14)⟩
  · exact ⟨xi_ok (x := "TooLong") (fx.at_ 120), xno_ok (x := "TooLong") (f := "step") (fx.at_ 104)⟩
theorem fx_xfld_value (fx : Fx K mg base) : ∀ c ∈ [2, 8], XcI (SS fx).K ((SS fx).cls c) ∧ PySem.W.findIn (SS fx).K (.ref ((SS fx).cls c)) "value" = some none := by
  intro c hc
  simp only [List.mem_cons, List.not_mem_nil, or_false] at hc
  obtain rfl | rfl := hc
  · exact ⟨xi_ok (x := "InvalidProgression") (fx.at_ 121), xno_ok (x := "InvalidProgression") (f := "value") (fx.at_ 22)⟩
  · exact ⟨xi_ok (x := "InvalidTree") (fx.at_ 122), xno_ok (x := "InvalidTree") (f := "value") (fx.at_ 50)⟩
theorem fx_xfld_index (fx : Fx K mg base) : ∀ c ∈ [3, 6, 9, 10, 11, 13], XcI (SS fx).K ((SS fx).cls c) ∧ PySem.W.findIn (SS fx).K (.ref ((SS fx).cls c)) "index" = some none := by
  intro c hc
  simp only [List.mem_cons, List.not_mem_nil, or_false] at hc
  obtain rfl | rfl | rfl | rfl | rfl | rfl := hc
  · exact ⟨xi_ok (x := "InvalidProgressions") (fx.at_ 123), xno_ok (x := "InvalidProgressions") (f := "index") (fx.at_ 26)⟩
  · exact ⟨xi_ok (x := "InvalidTargets") (fx.at_ 124), xno_ok (x := "InvalidTargets") (f := "index") (fx.at_ 42)⟩
  · exact ⟨xi_ok (x := "InvalidTable") (fx.at_ 125), xno_ok (x := "InvalidTable") (f := "index") (fx.at_ 46)⟩
  · exact ⟨xi_ok (x := "InvalidSetting") (fx.at_ 126), xno_ok (x := "InvalidSetting") (f := "index") (fx.at_ 54)⟩
  · exact ⟨xi_ok (x := "InvalidSightings") (fx.at_ 127), xno_ok (x := "InvalidSightings") (f := "index") (fx.at_ 58)⟩
  · exact ⟨xi_ok (x := "InvalidDeeds") (fx.at_ 128), xno_ok (x := "InvalidDeeds") (f := "index") (fx.at_ 62)⟩
theorem fx_xfld_name (fx : Fx K mg base) : ∀ c ∈ [4, 14, 15, 18], XcI (SS fx).K ((SS fx).cls c) ∧ PySem.W.findIn (SS fx).K (.ref ((SS fx).cls c)) "name" = some none := by
  intro c hc
  simp only [List.mem_cons, List.not_mem_nil, or_false] at hc
  obtain rfl | rfl | rfl | rfl := hc
  · exact ⟨xi_ok (x := "InvalidName") (fx.at_ 129), xno_ok (x := "InvalidName") (f := "name") (fx.at_ 34)⟩
  · exact ⟨xi_ok (x := "UnknownName") (fx.at_ 130), xno_ok (x := "UnknownName") (f := "name") (fx.at_ 74)⟩
  · exact ⟨xi_ok (x := "NameTaken") (fx.at_ 131), xno_ok (x := "NameTaken") (f := "name") (fx.at_ 70)⟩
  · exact ⟨xi_ok (x := "LastServer") (fx.at_ 132), xno_ok (x := "LastServer") (f := "name") (fx.at_ 88)⟩
theorem fx_xfld_count (fx : Fx K mg base) : ∀ c ∈ [20, 23], XcI (SS fx).K ((SS fx).cls c) ∧ PySem.W.findIn (SS fx).K (.ref ((SS fx).cls c)) "count" = some none := by
  intro c hc
  simp only [List.mem_cons, List.not_mem_nil, or_false] at hc
  obtain rfl | rfl := hc
  · exact ⟨xi_ok (x := "TooManyNames") (fx.at_ 133), xno_ok (x := "TooManyNames") (f := "count") (fx.at_ 96)⟩
  · exact ⟨xi_ok (x := "TooManyRequests") (fx.at_ 134), xno_ok (x := "TooManyRequests") (f := "count") (fx.at_ 100)⟩
theorem fx_xfld_arity (fx : Fx K mg base) : ∀ c ∈ [5], XcI (SS fx).K ((SS fx).cls c) ∧ PySem.W.findIn (SS fx).K (.ref ((SS fx).cls c)) "arity" = some none := by
  intro c hc
  simp only [List.mem_cons, List.not_mem_nil, or_false] at hc
  obtain rfl := hc
  · exact ⟨xi_ok (x := "InvalidArity") (fx.at_ 135), xno_ok (x := "InvalidArity") (f := "arity") (fx.at_ 30)⟩
theorem fx_xfld_text (fx : Fx K mg base) : ∀ c ∈ [7], XcI (SS fx).K ((SS fx).cls c) ∧ PySem.W.findIn (SS fx).K (.ref ((SS fx).cls c)) "text" = some none := by
  intro c hc
  simp only [List.mem_cons, List.not_mem_nil, or_false] at hc
  obtain rfl := hc
  · exact ⟨xi_ok (x := "InvalidText") (fx.at_ 136), xno_ok (x := "InvalidText") (f := "text") (fx.at_ 38)⟩
theorem fx_xfld_deed (fx : Fx K mg base) : ∀ c ∈ [12], XcI (SS fx).K ((SS fx).cls c) ∧ PySem.W.findIn (SS fx).K (.ref ((SS fx).cls c)) "deed" = some none := by
  intro c hc
  simp only [List.mem_cons, List.not_mem_nil, or_false] at hc
  obtain rfl := hc
  · exact ⟨xi_ok (x := "InvalidDeed") (fx.at_ 137), xno_ok (x := "InvalidDeed") (f := "deed") (fx.at_ 66)⟩
theorem fx_xfld_numbers (fx : Fx K mg base) : ∀ c ∈ [17], XcI (SS fx).K ((SS fx).cls c) ∧ PySem.W.findIn (SS fx).K (.ref ((SS fx).cls c)) "numbers" = some none := by
  intro c hc
  simp only [List.mem_cons, List.not_mem_nil, or_false] at hc
  obtain rfl := hc
  · exact ⟨xi_ok (x := "Unexplained") (fx.at_ 138), xno_ok (x := "Unexplained") (f := "numbers") (fx.at_ 78)⟩
theorem fx_xfld_found (fx : Fx K mg base) : ∀ c ∈ [21], XcI (SS fx).K ((SS fx).cls c) ∧ PySem.W.findIn (SS fx).K (.ref ((SS fx).cls c)) "found" = some none := by
  intro c hc
  simp only [List.mem_cons, List.not_mem_nil, or_false] at hc
  obtain rfl := hc
  · exact ⟨xi_ok (x := "TooDeep") (fx.at_ 139), xno_ok (x := "TooDeep") (f := "found") (fx.at_ 92)⟩
noncomputable def b__law_draw_1 : SM :=
    (sAsg (eOp opAdd (eOp opIx (eVar 0) (eC (.int 2))) (eC (.int 1))) (gSubT (eVar 0) (eC (.int 2))))
noncomputable def b__law_draw_2 : SM :=
    (sSet 2 (eOp opIx (eVar 0) (eC (.int 0))))
noncomputable def b__law_draw_3 : SM :=
    (sAsg (eOp opMod (eOp opAddL (eOp opMulL (eVar 2) (eOp opAdd (eOp opMod (eVar 2) (eC (.int 50023))) (eC (.int 30013)))) (eOp opMul (eC (.int 90017)) (eOp opIx (eVar 0) (eC (.int 2))))) (eC (.int 2147483323))) (gSubT (eVar 0) (eC (.int 0))))
noncomputable def b__law_draw_4t_1 : SM :=
    (sAsg (eCB gDivmod (aCons (eOp opIx (eVar 0) (eC (.int 1))) (aCons (eVar 1) aNil))) (gTp 2 (gsCons (gSubT (eVar 0) (eC (.int 1))) (gsCons (gNm 3) gsNil))))
noncomputable def b__law_draw_4t_2 : SM :=
    (sRet (eVar 3))
noncomputable def b__law_draw_4 : SM :=
    (sIf (bE (eOp opGt (eOp opIx (eVar 0) (eC (.int 1))) (eC (.int 0)))) (sSeq b__law_draw_4t_1
    b__law_draw_4t_2) sNext)
noncomputable def b__law_draw_5 : SM :=
    (sRet (eOp opMod (eOp opFdiv (eOp opIx (eVar 0) (eC (.int 0))) (eC (.int 64))) (eVar 1)))
noncomputable def b__law_draw : SM :=
    (sSeq b__law_draw_1
    (sSeq b__law_draw_2
    (sSeq b__law_draw_3
    (sSeq b__law_draw_4
    b__law_draw_5))))
noncomputable def m__law_draw : List T → Hm → R T := run 4 b__law_draw
theorem j__law_draw (fx : Fx K mg base) {C : RC} (cf : Cf C PW w (SS fx) mg base N__law_draw (defScope s__law_draw) 0) (hfn : ∀ y, C.X.fn y = true) (hp : PassesOwn (model C.X.prog C.X.w) C.X.A C.X.env C.X.xe) : JSs C (defBody s__law_draw) b__law_draw :=
    (jss_cons (asg_ cf (je_op op_addT (je_ix cf.ok (v_ cf 0) je_int) je_int) (jg_sub (v_ cf 0) je_int))
    (jss_cons (set_ cf 2 (je_ix cf.ok (v_ cf 0) je_int))
    (jss_cons (asg_ cf (je_op op_modT (je_op (op_addL cf.ok) (je_op (op_mulL cf.ok) (v_ cf 2) (je_op op_addT (je_op op_modT (v_ cf 2) je_int) je_int)) (je_op op_mulT je_int (je_ix cf.ok (v_ cf 0) je_int))) je_int) (jg_sub (v_ cf 0) je_int))
    (jss_cons (js_if (jb_cmp op_gtT (je_ix cf.ok (v_ cf 0) je_int) je_int (by rfl)) (jss_cons (asg_ cf (cb_ cf ca_divmod (He.free_ok fx.X fx.G (fx.at_ 11)) (ja_cons (je_ix cf.ok (v_ cf 0) je_int) (ja_cons (v_ cf 1) ja_nil))) (jg_tup cf.ok (jgs_cons (jg_sub (v_ cf 0) je_int) (jgs_cons (gnm_ cf 3) jgs_nil))))
    (jss_one (js_ret (v_ cf 3)))) jss_nil)
    (jss_one (js_ret (je_op op_modT (je_op op_fdivT (je_ix cf.ok (v_ cf 0) je_int) je_int) (v_ cf 1))))))))
theorem ok__law_draw (fx : Fx K mg base) : FnX PW w (SS fx) mg base 1 d__law_draw P__law_draw m__law_draw := by
  obtain ⟨fd, F⟩ := fx.q.def_ 0 (d := d__law_draw) rfl
  exact ⟨fd, F, fn_ofG (S := SS fx) (N := N__law_draw) F ⟨rfl, rfl, rfl, by decide +kernel, rfl, by decide +kernel, by decide +kernel⟩ fn_run fun C ok e1 e2 e3 e4 e5 e6 e7 e8 hfn hp _ _ _ => j__law_draw fx ⟨ok, e1, e2, e3, e4, e5, e6, e7, e8⟩ hfn hp⟩

theorem B__law_draw_2 : Bnd d__law_draw P__law_draw 2 [] [(0, 0), (0, 1)] [] := ⟨by decide, rfl, rfl, fun _ _ _ => .nil, .inl ⟨rfl, fun _ _ _ _ _ _ us ws h1 h2 => match us, ws, h1, h2 with
  | [_, _], [], _, _ => rfl⟩⟩
noncomputable def b_InvalidStepq_initq : SM :=
    (sXst [1] 1 (eVar 1) (eVar 0))
noncomputable def m_InvalidStepq_initq : List T → Hm → R T := run 2 b_InvalidStepq_initq
theorem j_InvalidStepq_initq (fx : Fx K mg base) {C : RC} (cf : Cf C PW w (SS fx) mg base N_InvalidStepq_initq (defScope s_InvalidStepq_initq) 0) (hfn : ∀ y, C.X.fn y = true) (hp : PassesOwn (model C.X.prog C.X.w) C.X.A C.X.env C.X.xe) : JSs C (defBody s_InvalidStepq_initq) b_InvalidStepq_initq :=
    (jss_one (xst_ cf [1] 1 (v_ cf 0) (v_ cf 1) (fun c hc => by obtain rfl : c = 1 := List.mem_singleton.mp hc; exact ⟨xb_ok (x := "InvalidStep") (i := 0) (fx.at_ 13), xno_ok (x := "InvalidStep") (f := "step") (fx.at_ 14)⟩)))
theorem ok_InvalidStepq_initq (fx : Fx K mg base) : FnX PW w (SS fx) mg base 1 d_InvalidStepq_initq P_InvalidStepq_initq m_InvalidStepq_initq := by
  obtain ⟨fd, F⟩ := fx.q.def_ 1 (d := d_InvalidStepq_initq) rfl
  exact ⟨fd, F, fn_ofG (S := SS fx) (N := N_InvalidStepq_initq) F ⟨rfl, rfl, rfl, by decide +kernel, rfl, by decide +kernel, by decide +kernel⟩ fn_run fun C ok e1 e2 e3 e4 e5 e6 e7 e8 hfn hp _ _ _ => j_InvalidStepq_initq fx ⟨ok, e1, e2, e3, e4, e5, e6, e7, e8⟩ hfn hp⟩

theorem B_InvalidStepq_initq_1_step : Bnd d_InvalidStepq_initq P_InvalidStepq_initq 1 ["step"] [(0, 0), (1, 0)] [] := ⟨by decide, rfl, rfl, fun _ _ _ => .nil, .inl ⟨rfl, fun _ _ _ _ _ _ us ws h1 h2 => match us, ws, h1, h2 with
  | [_], [_], _, _ => rfl⟩⟩

theorem B_InvalidStepq_initq_2 : Bnd d_InvalidStepq_initq P_InvalidStepq_initq 2 [] [(0, 0), (0, 1)] [] := ⟨by decide, rfl, rfl, fun _ _ _ => .nil, .inl ⟨rfl, fun _ _ _ _ _ _ us ws h1 h2 => match us, ws, h1, h2 with
  | [_, _], [], _, _ => rfl⟩⟩
noncomputable def b_InvalidNumberq_initq : SM :=
    (sXst [0] 0 (eVar 1) (eVar 0))
noncomputable def m_InvalidNumberq_initq : List T → Hm → R T := run 2 b_InvalidNumberq_initq
theorem j_InvalidNumberq_initq (fx : Fx K mg base) {C : RC} (cf : Cf C PW w (SS fx) mg base N_InvalidNumberq_initq (defScope s_InvalidNumberq_initq) 0) (hfn : ∀ y, C.X.fn y = true) (hp : PassesOwn (model C.X.prog C.X.w) C.X.A C.X.env C.X.xe) : JSs C (defBody s_InvalidNumberq_initq) b_InvalidNumberq_initq :=
    (jss_one (xst_ cf [0] 0 (v_ cf 0) (v_ cf 1) (fun c hc => by obtain rfl : c = 0 := List.mem_singleton.mp hc; exact ⟨xb_ok (x := "InvalidNumber") (i := 0) (fx.at_ 17), xno_ok (x := "InvalidNumber") (f := "number") (fx.at_ 18)⟩)))
theorem ok_InvalidNumberq_initq (fx : Fx K mg base) : FnX PW w (SS fx) mg base 1 d_InvalidNumberq_initq P_InvalidNumberq_initq m_InvalidNumberq_initq := by
  obtain ⟨fd, F⟩ := fx.q.def_ 2 (d := d_InvalidNumberq_initq) rfl
  exact ⟨fd, F, fn_ofG (S := SS fx) (N := N_InvalidNumberq_initq) F ⟨rfl, rfl, rfl, by decide +kernel, rfl, by decide +kernel, by decide +kernel⟩ fn_run fun C ok e1 e2 e3 e4 e5 e6 e7 e8 hfn hp _ _ _ => j_InvalidNumberq_initq fx ⟨ok, e1, e2, e3, e4, e5, e6, e7, e8⟩ hfn hp⟩

theorem B_InvalidNumberq_initq_1_number : Bnd d_InvalidNumberq_initq P_InvalidNumberq_initq 1 ["number"] [(0, 0), (1, 0)] [] := ⟨by decide, rfl, rfl, fun _ _ _ => .nil, .inl ⟨rfl, fun _ _ _ _ _ _ us ws h1 h2 => match us, ws, h1, h2 with
  | [_], [_], _, _ => rfl⟩⟩

theorem B_InvalidNumberq_initq_2 : Bnd d_InvalidNumberq_initq P_InvalidNumberq_initq 2 [] [(0, 0), (0, 1)] [] := ⟨by decide, rfl, rfl, fun _ _ _ => .nil, .inl ⟨rfl, fun _ _ _ _ _ _ us ws h1 h2 => match us, ws, h1, h2 with
  | [_, _], [], _, _ => rfl⟩⟩
noncomputable def b_InvalidProgressionq_initq : SM :=
    (sXst [2] 2 (eVar 1) (eVar 0))
noncomputable def m_InvalidProgressionq_initq : List T → Hm → R T := run 2 b_InvalidProgressionq_initq
theorem j_InvalidProgressionq_initq (fx : Fx K mg base) {C : RC} (cf : Cf C PW w (SS fx) mg base N_InvalidProgressionq_initq (defScope s_InvalidProgressionq_initq) 0) (hfn : ∀ y, C.X.fn y = true) (hp : PassesOwn (model C.X.prog C.X.w) C.X.A C.X.env C.X.xe) : JSs C (defBody s_InvalidProgressionq_initq) b_InvalidProgressionq_initq :=
    (jss_one (xst_ cf [2] 2 (v_ cf 0) (v_ cf 1) (fun c hc => by obtain rfl : c = 2 := List.mem_singleton.mp hc; exact ⟨xb_ok (x := "InvalidProgression") (i := 0) (fx.at_ 21), xno_ok (x := "InvalidProgression") (f := "value") (fx.at_ 22)⟩)))
theorem ok_InvalidProgressionq_initq (fx : Fx K mg base) : FnX PW w (SS fx) mg base 1 d_InvalidProgressionq_initq P_InvalidProgressionq_initq m_InvalidProgressionq_initq := by
  obtain ⟨fd, F⟩ := fx.q.def_ 3 (d := d_InvalidProgressionq_initq) rfl
  exact ⟨fd, F, fn_ofG (S := SS fx) (N := N_InvalidProgressionq_initq) F ⟨rfl, rfl, rfl, by decide +kernel, rfl, by decide +kernel, by decide +kernel⟩ fn_run fun C ok e1 e2 e3 e4 e5 e6 e7 e8 hfn hp _ _ _ => j_InvalidProgressionq_initq fx ⟨ok, e1, e2, e3, e4, e5, e6, e7, e8⟩ hfn hp⟩

theorem B_InvalidProgressionq_initq_1_value : Bnd d_InvalidProgressionq_initq P_InvalidProgressionq_initq 1 ["value"] [(0, 0), (1, 0)] [] := ⟨by decide, rfl, rfl, fun _ _ _ => .nil, .inl ⟨rfl, fun _ _ _ _ _ _ us ws h1 h2 => match us, ws, h1, h2 with
  | [_], [_], _, _ => rfl⟩⟩

theorem B_InvalidProgressionq_initq_2 : Bnd d_InvalidProgressionq_initq P_InvalidProgressionq_initq 2 [] [(0, 0), (0, 1)] [] := ⟨by decide, rfl, rfl, fun _ _ _ => .nil, .inl ⟨rfl, fun _ _ _ _ _ _ us ws h1 h2 => match us, ws, h1, h2 with
  | [_, _], [], _, _ => rfl⟩⟩
noncomputable def b_InvalidProgressionsq_initq : SM :=
    (sXst [3] 3 (eVar 1) (eVar 0))
noncomputable def m_InvalidProgressionsq_initq : List T → Hm → R T := run 2 b_InvalidProgressionsq_initq
theorem j_InvalidProgressionsq_initq (fx : Fx K mg base) {C : RC} (cf : Cf C PW w (SS fx) mg base N_InvalidProgressionsq_initq (defScope s_InvalidProgressionsq_initq) 0) (hfn : ∀ y, C.X.fn y = true) (hp : PassesOwn (model C.X.prog C.X.w) C.X.A C.X.env C.X.xe) : JSs C (defBody s_InvalidProgressionsq_initq) b_InvalidProgressionsq_initq :=
    (jss_one (xst_ cf [3] 3 (v_ cf 0) (v_ cf 1) (fun c hc => by obtain rfl : c = 3 := List.mem_singleton.mp hc; exact ⟨xb_ok (x := "InvalidProgressions") (i := 0) (fx.at_ 25), xno_ok (x := "InvalidProgressions") (f := "index") (fx.at_ 26)⟩)))
theorem ok_InvalidProgressionsq_initq (fx : Fx K mg base) : FnX PW w (SS fx) mg base 1 d_InvalidProgressionsq_initq P_InvalidProgressionsq_initq m_InvalidProgressionsq_initq := by
  obtain ⟨fd, F⟩ := fx.q.def_ 4 (d := d_InvalidProgressionsq_initq) rfl
  exact ⟨fd, F, fn_ofG (S := SS fx) (N := N_InvalidProgressionsq_initq) F ⟨rfl, rfl, rfl, by decide +kernel, rfl, by decide +kernel, by decide +kernel⟩ fn_run fun C ok e1 e2 e3 e4 e5 e6 e7 e8 hfn hp _ _ _ => j_InvalidProgressionsq_initq fx ⟨ok, e1, e2, e3, e4, e5, e6, e7, e8⟩ hfn hp⟩

theorem B_InvalidProgressionsq_initq_1_index : Bnd d_InvalidProgressionsq_initq P_InvalidProgressionsq_initq 1 ["index"] [(0, 0), (1, 0)] [] := ⟨by decide, rfl, rfl, fun _ _ _ => .nil, .inl ⟨rfl, fun _ _ _ _ _ _ us ws h1 h2 => match us, ws, h1, h2 with
  | [_], [_], _, _ => rfl⟩⟩

theorem B_InvalidProgressionsq_initq_2 : Bnd d_InvalidProgressionsq_initq P_InvalidProgressionsq_initq 2 [] [(0, 0), (0, 1)] [] := ⟨by decide, rfl, rfl, fun _ _ _ => .nil, .inl ⟨rfl, fun _ _ _ _ _ _ us ws h1 h2 => match us, ws, h1, h2 with
  | [_, _], [], _, _ => rfl⟩⟩
noncomputable def b_InvalidArityq_initq : SM :=
    (sXst [5] 5 (eVar 1) (eVar 0))
noncomputable def m_InvalidArityq_initq : List T → Hm → R T := run 2 b_InvalidArityq_initq
theorem j_InvalidArityq_initq (fx : Fx K mg base) {C : RC} (cf : Cf C PW w (SS fx) mg base N_InvalidArityq_initq (defScope s_InvalidArityq_initq) 0) (hfn : ∀ y, C.X.fn y = true) (hp : PassesOwn (model C.X.prog C.X.w) C.X.A C.X.env C.X.xe) : JSs C (defBody s_InvalidArityq_initq) b_InvalidArityq_initq :=
    (jss_one (xst_ cf [5] 5 (v_ cf 0) (v_ cf 1) (fun c hc => by obtain rfl : c = 5 := List.mem_singleton.mp hc; exact ⟨xb_ok (x := "InvalidArity") (i := 0) (fx.at_ 29), xno_ok (x := "InvalidArity") (f := "arity") (fx.at_ 30)⟩)))
theorem ok_InvalidArityq_initq (fx : Fx K mg base) : FnX PW w (SS fx) mg base 1 d_InvalidArityq_initq P_InvalidArityq_initq m_InvalidArityq_initq := by
  obtain ⟨fd, F⟩ := fx.q.def_ 5 (d := d_InvalidArityq_initq) rfl
  exact ⟨fd, F, fn_ofG (S := SS fx) (N := N_InvalidArityq_initq) F ⟨rfl, rfl, rfl, by decide +kernel, rfl, by decide +kernel, by decide +kernel⟩ fn_run fun C ok e1 e2 e3 e4 e5 e6 e7 e8 hfn hp _ _ _ => j_InvalidArityq_initq fx ⟨ok, e1, e2, e3, e4, e5, e6, e7, e8⟩ hfn hp⟩

theorem B_InvalidArityq_initq_1_arity : Bnd d_InvalidArityq_initq P_InvalidArityq_initq 1 ["arity"] [(0, 0), (1, 0)] [] := ⟨by decide, rfl, rfl, fun _ _ _ => .nil, .inl ⟨rfl, fun _ _ _ _ _ _ us ws h1 h2 => match us, ws, h1, h2 with
  | [_], [_], _, _ => rfl⟩⟩

theorem B_InvalidArityq_initq_2 : Bnd d_InvalidArityq_initq P_InvalidArityq_initq 2 [] [(0, 0), (0, 1)] [] := ⟨by decide, rfl, rfl, fun _ _ _ => .nil, .inl ⟨rfl, fun _ _ _ _ _ _ us ws h1 h2 => match us, ws, h1, h2 with
  | [_, _], [], _, _ => rfl⟩⟩
noncomputable def b_InvalidNameq_initq : SM :=
    (sXst [4] 4 (eVar 1) (eVar 0))
noncomputable def m_InvalidNameq_initq : List T → Hm → R T := run 2 b_InvalidNameq_initq
theorem j_InvalidNameq_initq (fx : Fx K mg base) {C : RC} (cf : Cf C PW w (SS fx) mg base N_InvalidNameq_initq (defScope s_InvalidNameq_initq) 0) (hfn : ∀ y, C.X.fn y = true) (hp : PassesOwn (model C.X.prog C.X.w) C.X.A C.X.env C.X.xe) : JSs C (defBody s_InvalidNameq_initq) b_InvalidNameq_initq :=
    (jss_one (xst_ cf [4] 4 (v_ cf 0) (v_ cf 1) (fun c hc => by obtain rfl : c = 4 := List.mem_singleton.mp hc; exact ⟨xb_ok (x := "InvalidName") (i := 0) (fx.at_ 33), xno_ok (x := "InvalidName") (f := "name") (fx.at_ 34)⟩)))
theorem ok_InvalidNameq_initq (fx : Fx K mg base) : FnX PW w (SS fx) mg base 1 d_InvalidNameq_initq P_InvalidNameq_initq m_InvalidNameq_initq := by
  obtain ⟨fd, F⟩ := fx.q.def_ 6 (d := d_InvalidNameq_initq) rfl
  exact ⟨fd, F, fn_ofG (S := SS fx) (N := N_InvalidNameq_initq) F ⟨rfl, rfl, rfl, by decide +kernel, rfl, by decide +kernel, by decide +kernel⟩ fn_run fun C ok e1 e2 e3 e4 e5 e6 e7 e8 hfn hp _ _ _ => j_InvalidNameq_initq fx ⟨ok, e1, e2, e3, e4, e5, e6, e7, e8⟩ hfn hp⟩

theorem B_InvalidNameq_initq_1_name : Bnd d_InvalidNameq_initq P_InvalidNameq_initq 1 ["name"] [(0, 0), (1, 0)] [] := ⟨by decide, rfl, rfl, fun _ _ _ => .nil, .inl ⟨rfl, fun _ _ _ _ _ _ us ws h1 h2 => match us, ws, h1, h2 with
  | [_], [_], _, _ => rfl⟩⟩

theorem B_InvalidNameq_initq_2 : Bnd d_InvalidNameq_initq P_InvalidNameq_initq 2 [] [(0, 0), (0, 1)] [] := ⟨by decide, rfl, rfl, fun _ _ _ => .nil, .inl ⟨rfl, fun _ _ _ _ _ _ us ws h1 h2 => match us, ws, h1, h2 with
  | [_, _], [], _, _ => rfl⟩⟩
noncomputable def b_InvalidTextq_initq : SM :=
    (sXst [7] 6 (eVar 1) (eVar 0))
noncomputable def m_InvalidTextq_initq : List T → Hm → R T := run 2 b_InvalidTextq_initq
theorem j_InvalidTextq_initq (fx : Fx K mg base) {C : RC} (cf : Cf C PW w (SS fx) mg base N_InvalidTextq_initq (defScope s_InvalidTextq_initq) 0) (hfn : ∀ y, C.X.fn y = true) (hp : PassesOwn (model C.X.prog C.X.w) C.X.A C.X.env C.X.xe) : JSs C (defBody s_InvalidTextq_initq) b_InvalidTextq_initq :=
    (jss_one (xst_ cf [7] 6 (v_ cf 0) (v_ cf 1) (fun c hc => by obtain rfl : c = 7 := List.mem_singleton.mp hc; exact ⟨xb_ok (x := "InvalidText") (i := 0) (fx.at_ 37), xno_ok (x := "InvalidText") (f := "text") (fx.at_ 38)⟩)))
theorem ok_InvalidTextq_initq (fx : Fx K mg base) : FnX PW w (SS fx) mg base 1 d_InvalidTextq_initq P_InvalidTextq_initq m_InvalidTextq_initq := by
  obtain ⟨fd, F⟩ := fx.q.def_ 7 (d := d_InvalidTextq_initq) rfl
  exact ⟨fd, F, fn_ofG (S := SS fx) (N := N_InvalidTextq_initq) F ⟨rfl, rfl, rfl, by decide +kernel, rfl, by decide +kernel, by decide +kernel⟩ fn_run fun C ok e1 e2 e3 e4 e5 e6 e7 e8 hfn hp _ _ _ => j_InvalidTextq_initq fx ⟨ok, e1, e2, e3, e4, e5, e6, e7, e8⟩ hfn hp⟩

theorem B_InvalidTextq_initq_1_text : Bnd d_InvalidTextq_initq P_InvalidTextq_initq 1 ["text"] [(0, 0), (1, 0)] [] := ⟨by decide, rfl, rfl, fun _ _ _ => .nil, .inl ⟨rfl, fun _ _ _ _ _ _ us ws h1 h2 => match us, ws, h1, h2 with
  | [_], [_], _, _ => rfl⟩⟩

theorem B_InvalidTextq_initq_2 : Bnd d_InvalidTextq_initq P_InvalidTextq_initq 2 [] [(0, 0), (0, 1)] [] := ⟨by decide, rfl, rfl, fun _ _ _ => .nil, .inl ⟨rfl, fun _ _ _ _ _ _ us ws h1 h2 => match us, ws, h1, h2 with
  | [_, _], [], _, _ => rfl⟩⟩
noncomputable def b_InvalidTargetsq_initq : SM :=
    (sXst [6] 3 (eVar 1) (eVar 0))
noncomputable def m_InvalidTargetsq_initq : List T → Hm → R T := run 2 b_InvalidTargetsq_initq
theorem j_InvalidTargetsq_initq (fx : Fx K mg base) {C : RC} (cf : Cf C PW w (SS fx) mg base N_InvalidTargetsq_initq (defScope s_InvalidTargetsq_initq) 0) (hfn : ∀ y, C.X.fn y = true) (hp : PassesOwn (model C.X.prog C.X.w) C.X.A C.X.env C.X.xe) : JSs C (defBody s_InvalidTargetsq_initq) b_InvalidTargetsq_initq :=
    (jss_one (xst_ cf [6] 3 (v_ cf 0) (v_ cf 1) (fun c hc => by obtain rfl : c = 6 := List.mem_singleton.mp hc; exact ⟨xb_ok (x := "InvalidTargets") (i := 0) (fx.at_ 41), xno_ok (x := "InvalidTargets") (f := "index") (fx.at_ 42)⟩)))
theorem ok_InvalidTargetsq_initq (fx : Fx K mg base) : FnX PW w (SS fx) mg base 1 d_InvalidTargetsq_initq P_InvalidTargetsq_initq m_InvalidTargetsq_initq := by
  obtain ⟨fd, F⟩ := fx.q.def_ 8 (d := d_InvalidTargetsq_initq) rfl
  exact ⟨fd, F, fn_ofG (S := SS fx) (N := N_InvalidTargetsq_initq) F ⟨rfl, rfl, rfl, by decide +kernel, rfl, by decide +kernel, by decide +kernel⟩ fn_run fun C ok e1 e2 e3 e4 e5 e6 e7 e8 hfn hp _ _ _ => j_InvalidTargetsq_initq fx ⟨ok, e1, e2, e3, e4, e5, e6, e7, e8⟩ hfn hp⟩

theorem B_InvalidTargetsq_initq_1_index : Bnd d_InvalidTargetsq_initq P_InvalidTargetsq_initq 1 ["index"] [(0, 0), (1, 0)] [] := ⟨by decide, rfl, rfl, fun _ _ _ => .nil, .inl ⟨rfl, fun _ _ _ _ _ _ us ws h1 h2 => match us, ws, h1, h2 with
  | [_], [_], _, _ => rfl⟩⟩

theorem B_InvalidTargetsq_initq_2 : Bnd d_InvalidTargetsq_initq P_InvalidTargetsq_initq 2 [] [(0, 0), (0, 1)] [] := ⟨by decide, rfl, rfl, fun _ _ _ => .nil, .inl ⟨rfl, fun _ _ _ _ _ _ us ws h1 h2 => match us, ws, h1, h2 with
  | [_, _], [], _, _ => rfl⟩⟩
noncomputable def b_InvalidTableq_initq : SM :=
    (sXst [9] 3 (eVar 1) (eVar 0))
noncomputable def m_InvalidTableq_initq : List T → Hm → R T := run 2 b_InvalidTableq_initq
theorem j_InvalidTableq_initq (fx : Fx K mg base) {C : RC} (cf : Cf C PW w (SS fx) mg base N_InvalidTableq_initq (defScope s_InvalidTableq_initq) 0) (hfn : ∀ y, C.X.fn y = true) (hp : PassesOwn (model C.X.prog C.X.w) C.X.A C.X.env C.X.xe) : JSs C (defBody s_InvalidTableq_initq) b_InvalidTableq_initq :=
    (jss_one (xst_ cf [9] 3 (v_ cf 0) (v_ cf 1) (fun c hc => by obtain rfl : c = 9 := List.mem_singleton.mp hc; exact ⟨xb_ok (x := "InvalidTable") (i := 0) (fx.at_ 45), xno_ok (x := "InvalidTable") (f := "index") (fx.at_ 46)⟩)))
theorem ok_InvalidTableq_initq (fx : Fx K mg base) : FnX PW w (SS fx) mg base 1 d_InvalidTableq_initq P_InvalidTableq_initq m_InvalidTableq_initq := by
  obtain ⟨fd, F⟩ := fx.q.def_ 9 (d := d_InvalidTableq_initq) rfl
  exact ⟨fd, F, fn_ofG (S := SS fx) (N := N_InvalidTableq_initq) F ⟨rfl, rfl, rfl, by decide +kernel, rfl, by decide +kernel, by decide +kernel⟩ fn_run fun C ok e1 e2 e3 e4 e5 e6 e7 e8 hfn hp _ _ _ => j_InvalidTableq_initq fx ⟨ok, e1, e2, e3, e4, e5, e6, e7, e8⟩ hfn hp⟩

theorem B_InvalidTableq_initq_1_index : Bnd d_InvalidTableq_initq P_InvalidTableq_initq 1 ["index"] [(0, 0), (1, 0)] [] := ⟨by decide, rfl, rfl, fun _ _ _ => .nil, .inl ⟨rfl, fun _ _ _ _ _ _ us ws h1 h2 => match us, ws, h1, h2 with
  | [_], [_], _, _ => rfl⟩⟩

theorem B_InvalidTableq_initq_2 : Bnd d_InvalidTableq_initq P_InvalidTableq_initq 2 [] [(0, 0), (0, 1)] [] := ⟨by decide, rfl, rfl, fun _ _ _ => .nil, .inl ⟨rfl, fun _ _ _ _ _ _ us ws h1 h2 => match us, ws, h1, h2 with
  | [_, _], [], _, _ => rfl⟩⟩
noncomputable def b_InvalidTreeq_initq : SM :=
    (sXst [8] 2 (eVar 1) (eVar 0))
noncomputable def m_InvalidTreeq_initq : List T → Hm → R T := run 2 b_InvalidTreeq_initq
theorem j_InvalidTreeq_initq (fx : Fx K mg base) {C : RC} (cf : Cf C PW w (SS fx) mg base N_InvalidTreeq_initq (defScope s_InvalidTreeq_initq) 0) (hfn : ∀ y, C.X.fn y = true) (hp : PassesOwn (model C.X.prog C.X.w) C.X.A C.X.env C.X.xe) : JSs C (defBody s_InvalidTreeq_initq) b_InvalidTreeq_initq :=
    (jss_one (xst_ cf [8] 2 (v_ cf 0) (v_ cf 1) (fun c hc => by obtain rfl : c = 8 := List.mem_singleton.mp hc; exact ⟨xb_ok (x := "InvalidTree") (i := 0) (fx.at_ 49), xno_ok (x := "InvalidTree") (f := "value") (fx.at_ 50)⟩)))
theorem ok_InvalidTreeq_initq (fx : Fx K mg base) : FnX PW w (SS fx) mg base 1 d_InvalidTreeq_initq P_InvalidTreeq_initq m_InvalidTreeq_initq := by
  obtain ⟨fd, F⟩ := fx.q.def_ 10 (d := d_InvalidTreeq_initq) rfl
  exact ⟨fd, F, fn_ofG (S := SS fx) (N := N_InvalidTreeq_initq) F ⟨rfl, rfl, rfl, by decide +kernel, rfl, by decide +kernel, by decide +kernel⟩ fn_run fun C ok e1 e2 e3 e4 e5 e6 e7 e8 hfn hp _ _ _ => j_InvalidTreeq_initq fx ⟨ok, e1, e2, e3, e4, e5, e6, e7, e8⟩ hfn hp⟩

theorem B_InvalidTreeq_initq_1_value : Bnd d_InvalidTreeq_initq P_InvalidTreeq_initq 1 ["value"] [(0, 0), (1, 0)] [] := ⟨by decide, rfl, rfl, fun _ _ _ => .nil, .inl ⟨rfl, fun _ _ _ _ _ _ us ws h1 h2 => match us, ws, h1, h2 with
  | [_], [_], _, _ => rfl⟩⟩

theorem B_InvalidTreeq_initq_2 : Bnd d_InvalidTreeq_initq P_InvalidTreeq_initq 2 [] [(0, 0), (0, 1)] [] := ⟨by decide, rfl, rfl, fun _ _ _ => .nil, .inl ⟨rfl, fun _ _ _ _ _ _ us ws h1 h2 => match us, ws, h1, h2 with
  | [_, _], [], _, _ => rfl⟩⟩
noncomputable def b_InvalidSettingq_initq : SM :=
    (sXst [10] 3 (eVar 1) (eVar 0))
noncomputable def m_InvalidSettingq_initq : List T → Hm → R T := run 2 b_InvalidSettingq_initq
theorem j_InvalidSettingq_initq (fx : Fx K mg base) {C : RC} (cf : Cf C PW w (SS fx) mg base N_InvalidSettingq_initq (defScope s_InvalidSettingq_initq) 0) (hfn : ∀ y, C.X.fn y = true) (hp : PassesOwn (model C.X.prog C.X.w) C.X.A C.X.env C.X.xe) : JSs C (defBody s_InvalidSettingq_initq) b_InvalidSettingq_initq :=
    (jss_one (xst_ cf [10] 3 (v_ cf 0) (v_ cf 1) (fun c hc => by obtain rfl : c = 10 := List.mem_singleton.mp hc; exact ⟨xb_ok (x := "InvalidSetting") (i := 0) (fx.at_ 53), xno_ok (x := "InvalidSetting") (f := "index") (fx.at_ 54)⟩)))
theorem ok_InvalidSettingq_initq (fx : Fx K mg base) : FnX PW w (SS fx) mg base 1 d_InvalidSettingq_initq P_InvalidSettingq_initq m_InvalidSettingq_initq := by
  obtain ⟨fd, F⟩ := fx.q.def_ 11 (d := d_InvalidSettingq_initq) rfl
  exact ⟨fd, F, fn_ofG (S := SS fx) (N := N_InvalidSettingq_initq) F ⟨rfl, rfl, rfl, by decide +kernel, rfl, by decide +kernel, by decide +kernel⟩ fn_run fun C ok e1 e2 e3 e4 e5 e6 e7 e8 hfn hp _ _ _ => j_InvalidSettingq_initq fx ⟨ok, e1, e2, e3, e4, e5, e6, e7, e8⟩ hfn hp⟩

theorem B_InvalidSettingq_initq_1_index : Bnd d_InvalidSettingq_initq P_InvalidSettingq_initq 1 ["index"] [(0, 0), (1, 0)] [] := ⟨by decide, rfl, rfl, fun _ _ _ => .nil, .inl ⟨rfl, fun _ _ _ _ _ _ us ws h1 h2 => match us, ws, h1, h2 with
  | [_], [_], _, _ => rfl⟩⟩

theorem B_InvalidSettingq_initq_2 : Bnd d_InvalidSettingq_initq P_InvalidSettingq_initq 2 [] [(0, 0), (0, 1)] [] := ⟨by decide, rfl, rfl, fun _ _ _ => .nil, .inl ⟨rfl, fun _ _ _ _ _ _ us ws h1 h2 => match us, ws, h1, h2 with
  | [_, _], [], _, _ => rfl⟩⟩
noncomputable def b_InvalidSightingsq_initq : SM :=
    (sXst [11] 3 (eVar 1) (eVar 0))
noncomputable def m_InvalidSightingsq_initq : List T → Hm → R T := run 2 b_InvalidSightingsq_initq
theorem j_InvalidSightingsq_initq (fx : Fx K mg base) {C : RC} (cf : Cf C PW w (SS fx) mg base N_InvalidSightingsq_initq (defScope s_InvalidSightingsq_initq) 0) (hfn : ∀ y, C.X.fn y = true) (hp : PassesOwn (model C.X.prog C.X.w) C.X.A C.X.env C.X.xe) : JSs C (defBody s_InvalidSightingsq_initq) b_InvalidSightingsq_initq :=
    (jss_one (xst_ cf [11] 3 (v_ cf 0) (v_ cf 1) (fun c hc => by obtain rfl : c = 11 := List.mem_singleton.mp hc; exact ⟨xb_ok (x := "InvalidSightings") (i := 0) (fx.at_ 57), xno_ok (x := "InvalidSightings") (f := "index") (fx.at_ 58)⟩)))
theorem ok_InvalidSightingsq_initq (fx : Fx K mg base) : FnX PW w (SS fx) mg base 1 d_InvalidSightingsq_initq P_InvalidSightingsq_initq m_InvalidSightingsq_initq := by
  obtain ⟨fd, F⟩ := fx.q.def_ 12 (d := d_InvalidSightingsq_initq) rfl
  exact ⟨fd, F, fn_ofG (S := SS fx) (N := N_InvalidSightingsq_initq) F ⟨rfl, rfl, rfl, by decide +kernel, rfl, by decide +kernel, by decide +kernel⟩ fn_run fun C ok e1 e2 e3 e4 e5 e6 e7 e8 hfn hp _ _ _ => j_InvalidSightingsq_initq fx ⟨ok, e1, e2, e3, e4, e5, e6, e7, e8⟩ hfn hp⟩

theorem B_InvalidSightingsq_initq_1_index : Bnd d_InvalidSightingsq_initq P_InvalidSightingsq_initq 1 ["index"] [(0, 0), (1, 0)] [] := ⟨by decide, rfl, rfl, fun _ _ _ => .nil, .inl ⟨rfl, fun _ _ _ _ _ _ us ws h1 h2 => match us, ws, h1, h2 with
  | [_], [_], _, _ => rfl⟩⟩

theorem B_InvalidSightingsq_initq_2 : Bnd d_InvalidSightingsq_initq P_InvalidSightingsq_initq 2 [] [(0, 0), (0, 1)] [] := ⟨by decide, rfl, rfl, fun _ _ _ => .nil, .inl ⟨rfl, fun _ _ _ _ _ _ us ws h1 h2 => match us, ws, h1, h2 with
  | [_, _], [], _, _ => rfl⟩⟩
noncomputable def b_InvalidDeedsq_initq : SM :=
    (sXst [13] 3 (eVar 1) (eVar 0))
noncomputable def m_InvalidDeedsq_initq : List T → Hm → R T := run 2 b_InvalidDeedsq_initq
theorem j_InvalidDeedsq_initq (fx : Fx K mg base) {C : RC} (cf : Cf C PW w (SS fx) mg base N_InvalidDeedsq_initq (defScope s_InvalidDeedsq_initq) 0) (hfn : ∀ y, C.X.fn y = true) (hp : PassesOwn (model C.X.prog C.X.w) C.X.A C.X.env C.X.xe) : JSs C (defBody s_InvalidDeedsq_initq) b_InvalidDeedsq_initq :=
    (jss_one (xst_ cf [13] 3 (v_ cf 0) (v_ cf 1) (fun c hc => by obtain rfl : c = 13 := List.mem_singleton.mp hc; exact ⟨xb_ok (x := "InvalidDeeds") (i := 0) (fx.at_ 61), xno_ok (x := "InvalidDeeds") (f := "index") (fx.at_ 62)⟩)))
theorem ok_InvalidDeedsq_initq (fx : Fx K mg base) : FnX PW w (SS fx) mg base 1 d_InvalidDeedsq_initq P_InvalidDeedsq_initq m_InvalidDeedsq_initq := by
  obtain ⟨fd, F⟩ := fx.q.def_ 13 (d := d_InvalidDeedsq_initq) rfl
  exact ⟨fd, F, fn_ofG (S := SS fx) (N := N_InvalidDeedsq_initq) F ⟨rfl, rfl, rfl, by decide +kernel, rfl, by decide +kernel, by decide +kernel⟩ fn_run fun C ok e1 e2 e3 e4 e5 e6 e7 e8 hfn hp _ _ _ => j_InvalidDeedsq_initq fx ⟨ok, e1, e2, e3, e4, e5, e6, e7, e8⟩ hfn hp⟩

theorem B_InvalidDeedsq_initq_1_index : Bnd d_InvalidDeedsq_initq P_InvalidDeedsq_initq 1 ["index"] [(0, 0), (1, 0)] [] := ⟨by decide, rfl, rfl, fun _ _ _ => .nil, .inl ⟨rfl, fun _ _ _ _ _ _ us ws h1 h2 => match us, ws, h1, h2 with
  | [_], [_], _, _ => rfl⟩⟩

theorem B_InvalidDeedsq_initq_2 : Bnd d_InvalidDeedsq_initq P_InvalidDeedsq_initq 2 [] [(0, 0), (0, 1)] [] := ⟨by decide, rfl, rfl, fun _ _ _ => .nil, .inl ⟨rfl, fun _ _ _ _ _ _ us ws h1 h2 => match us, ws, h1, h2 with
  | [_, _], [], _, _ => rfl⟩⟩
noncomputable def b_InvalidDeedq_initq : SM :=
    (sXst [12] 7 (eVar 1) (eVar 0))
noncomputable def m_InvalidDeedq_initq : List T → Hm → R T := run 2 b_InvalidDeedq_initq
theorem j_InvalidDeedq_initq (fx : Fx K mg base) {C : RC} (cf : Cf C PW w (SS fx) mg base N_InvalidDeedq_initq (defScope s_InvalidDeedq_initq) 0) (hfn : ∀ y, C.X.fn y = true) (hp : PassesOwn (model C.X.prog C.X.w) C.X.A C.X.env C.X.xe) : JSs C (defBody s_InvalidDeedq_initq) b_InvalidDeedq_initq :=
    (jss_one (xst_ cf [12] 7 (v_ cf 0) (v_ cf 1) (fun c hc => by obtain rfl : c = 12 := List.mem_singleton.mp hc; exact ⟨xb_ok (x := "InvalidDeed") (i := 0) (fx.at_ 65), xno_ok (x := "InvalidDeed") (f := "deed") (fx.at_ 66)⟩)))
theorem ok_InvalidDeedq_initq (fx : Fx K mg base) : FnX PW w (SS fx) mg base 1 d_InvalidDeedq_initq P_InvalidDeedq_initq m_InvalidDeedq_initq := by
  obtain ⟨fd, F⟩ := fx.q.def_ 14 (d := d_InvalidDeedq_initq) rfl
  exact ⟨fd, F, fn_ofG (S := SS fx) (N := N_InvalidDeedq_initq) F ⟨rfl, rfl, rfl, by decide +kernel, rfl, by decide +kernel, by decide +kernel⟩ fn_run fun C ok e1 e2 e3 e4 e5 e6 e7 e8 hfn hp _ _ _ => j_InvalidDeedq_initq fx ⟨ok, e1, e2, e3, e4, e5, e6, e7, e8⟩ hfn hp⟩

theorem B_InvalidDeedq_initq_1_deed : Bnd d_InvalidDeedq_initq P_InvalidDeedq_initq 1 ["deed"] [(0, 0), (1, 0)] [] := ⟨by decide, rfl, rfl, fun _ _ _ => .nil, .inl ⟨rfl, fun _ _ _ _ _ _ us ws h1 h2 => match us, ws, h1, h2 with
  | [_], [_], _, _ => rfl⟩⟩

theorem B_InvalidDeedq_initq_2 : Bnd d_InvalidDeedq_initq P_InvalidDeedq_initq 2 [] [(0, 0), (0, 1)] [] := ⟨by decide, rfl, rfl, fun _ _ _ => .nil, .inl ⟨rfl, fun _ _ _ _ _ _ us ws h1 h2 => match us, ws, h1, h2 with
  | [_, _], [], _, _ => rfl⟩⟩
noncomputable def b_NameTakenq_initq : SM :=
    (sXst [15] 4 (eVar 1) (eVar 0))
noncomputable def m_NameTakenq_initq : List T → Hm → R T := run 2 b_NameTakenq_initq
theorem j_NameTakenq_initq (fx : Fx K mg base) {C : RC} (cf : Cf C PW w (SS fx) mg base N_NameTakenq_initq (defScope s_NameTakenq_initq) 0) (hfn : ∀ y, C.X.fn y = true) (hp : PassesOwn (model C.X.prog C.X.w) C.X.A C.X.env C.X.xe) : JSs C (defBody s_NameTakenq_initq) b_NameTakenq_initq :=
    (jss_one (xst_ cf [15] 4 (v_ cf 0) (v_ cf 1) (fun c hc => by obtain rfl : c = 15 := List.mem_singleton.mp hc; exact ⟨xb_ok (x := "NameTaken") (i := 1) (fx.at_ 69), xno_ok (x := "NameTaken") (f := "name") (fx.at_ 70)⟩)))
theorem ok_NameTakenq_initq (fx : Fx K mg base) : FnX PW w (SS fx) mg base 1 d_NameTakenq_initq P_NameTakenq_initq m_NameTakenq_initq := by
  obtain ⟨fd, F⟩ := fx.q.def_ 15 (d := d_NameTakenq_initq) rfl
  exact ⟨fd, F, fn_ofG (S := SS fx) (N := N_NameTakenq_initq) F ⟨rfl, rfl, rfl, by decide +kernel, rfl, by decide +kernel, by decide +kernel⟩ fn_run fun C ok e1 e2 e3 e4 e5 e6 e7 e8 hfn hp _ _ _ => j_NameTakenq_initq fx ⟨ok, e1, e2, e3, e4, e5, e6, e7, e8⟩ hfn hp⟩

theorem B_NameTakenq_initq_1_name : Bnd d_NameTakenq_initq P_NameTakenq_initq 1 ["name"] [(0, 0), (1, 0)] [] := ⟨by decide, rfl, rfl, fun _ _ _ => .nil, .inl ⟨rfl, fun _ _ _ _ _ _ us ws h1 h2 => match us, ws, h1, h2 with
  | [_], [_], _, _ => rfl⟩⟩

theorem B_NameTakenq_initq_2 : Bnd d_NameTakenq_initq P_NameTakenq_initq 2 [] [(0, 0), (0, 1)] [] := ⟨by decide, rfl, rfl, fun _ _ _ => .nil, .inl ⟨rfl, fun _ _ _ _ _ _ us ws h1 h2 => match us, ws, h1, h2 with
  | [_, _], [], _, _ => rfl⟩⟩
noncomputable def b_UnknownNameq_initq : SM :=
    (sXst [14] 4 (eVar 1) (eVar 0))
noncomputable def m_UnknownNameq_initq : List T → Hm → R T := run 2 b_UnknownNameq_initq
theorem j_UnknownNameq_initq (fx : Fx K mg base) {C : RC} (cf : Cf C PW w (SS fx) mg base N_UnknownNameq_initq (defScope s_UnknownNameq_initq) 0) (hfn : ∀ y, C.X.fn y = true) (hp : PassesOwn (model C.X.prog C.X.w) C.X.A C.X.env C.X.xe) : JSs C (defBody s_UnknownNameq_initq) b_UnknownNameq_initq :=
    (jss_one (xst_ cf [14] 4 (v_ cf 0) (v_ cf 1) (fun c hc => by obtain rfl : c = 14 := List.mem_singleton.mp hc; exact ⟨xb_ok (x := "UnknownName") (i := 1) (fx.at_ 73), xno_ok (x := "UnknownName") (f := "name") (fx.at_ 74)⟩)))
theorem ok_UnknownNameq_initq (fx : Fx K mg base) : FnX PW w (SS fx) mg base 1 d_UnknownNameq_initq P_UnknownNameq_initq m_UnknownNameq_initq := by
  obtain ⟨fd, F⟩ := fx.q.def_ 16 (d := d_UnknownNameq_initq) rfl
  exact ⟨fd, F, fn_ofG (S := SS fx) (N := N_UnknownNameq_initq) F ⟨rfl, rfl, rfl, by decide +kernel, rfl, by decide +kernel, by decide +kernel⟩ fn_run fun C ok e1 e2 e3 e4 e5 e6 e7 e8 hfn hp _ _ _ => j_UnknownNameq_initq fx ⟨ok, e1, e2, e3, e4, e5, e6, e7, e8⟩ hfn hp⟩

theorem B_UnknownNameq_initq_1_name : Bnd d_UnknownNameq_initq P_UnknownNameq_initq 1 ["name"] [(0, 0), (1, 0)] [] := ⟨by decide, rfl, rfl, fun _ _ _ => .nil, .inl ⟨rfl, fun _ _ _ _ _ _ us ws h1 h2 => match us, ws, h1, h2 with
  | [_], [_], _, _ => rfl⟩⟩

theorem B_UnknownNameq_initq_2 : Bnd d_UnknownNameq_initq P_UnknownNameq_initq 2 [] [(0, 0), (0, 1)] [] := ⟨by decide, rfl, rfl, fun _ _ _ => .nil, .inl ⟨rfl, fun _ _ _ _ _ _ us ws h1 h2 => match us, ws, h1, h2 with
  | [_, _], [], _, _ => rfl⟩⟩
noncomputable def b_Unexplainedq_initq : SM :=
    (sXst [17] 8 (eVar 1) (eVar 0))
noncomputable def m_Unexplainedq_initq : List T → Hm → R T := run 2 b_Unexplainedq_initq
theorem j_Unexplainedq_initq (fx : Fx K mg base) {C : RC} (cf : Cf C PW w (SS fx) mg base N_Unexplainedq_initq (defScope s_Unexplainedq_initq) 0) (hfn : ∀ y, C.X.fn y = true) (hp : PassesOwn (model C.X.prog C.X.w) C.X.A C.X.env C.X.xe) : JSs C (defBody s_Unexplainedq_initq) b_Unexplainedq_initq :=
    (jss_one (xst_ cf [17] 8 (v_ cf 0) (v_ cf 1) (fun c hc => by obtain rfl : c = 17 := List.mem_singleton.mp hc; exact ⟨xb_ok (x := "Unexplained") (i := 1) (fx.at_ 77), xno_ok (x := "Unexplained") (f := "numbers") (fx.at_ 78)⟩)))
theorem ok_Unexplainedq_initq (fx : Fx K mg base) : FnX PW w (SS fx) mg base 1 d_Unexplainedq_initq P_Unexplainedq_initq m_Unexplainedq_initq := by
  obtain ⟨fd, F⟩ := fx.q.def_ 17 (d := d_Unexplainedq_initq) rfl
  exact ⟨fd, F, fn_ofG (S := SS fx) (N := N_Unexplainedq_initq) F ⟨rfl, rfl, rfl, by decide +kernel, rfl, by decide +kernel, by decide +kernel⟩ fn_run fun C ok e1 e2 e3 e4 e5 e6 e7 e8 hfn hp _ _ _ => j_Unexplainedq_initq fx ⟨ok, e1, e2, e3, e4, e5, e6, e7, e8⟩ hfn hp⟩

theorem B_Unexplainedq_initq_1_numbers : Bnd d_Unexplainedq_initq P_Unexplainedq_initq 1 ["numbers"] [(0, 0), (1, 0)] [] := ⟨by decide, rfl, rfl, fun _ _ _ => .nil, .inl ⟨rfl, fun _ _ _ _ _ _ us ws h1 h2 => match us, ws, h1, h2 with
  | [_], [_], _, _ => rfl⟩⟩

theorem B_Unexplainedq_initq_2 : Bnd d_Unexplainedq_initq P_Unexplainedq_initq 2 [] [(0, 0), (0, 1)] [] := ⟨by decide, rfl, rfl, fun _ _ _ => .nil, .inl ⟨rfl, fun _ _ _ _ _ _ us ws h1 h2 => match us, ws, h1, h2 with
  | [_, _], [], _, _ => rfl⟩⟩
noncomputable def b_NotFullq_initq : SM :=
    (sXst [16] 0 (eVar 1) (eVar 0))
noncomputable def m_NotFullq_initq : List T → Hm → R T := run 2 b_NotFullq_initq
theorem j_NotFullq_initq (fx : Fx K mg base) {C : RC} (cf : Cf C PW w (SS fx) mg base N_NotFullq_initq (defScope s_NotFullq_initq) 0) (hfn : ∀ y, C.X.fn y = true) (hp : PassesOwn (model C.X.prog C.X.w) C.X.A C.X.env C.X.xe) : JSs C (defBody s_NotFullq_initq) b_NotFullq_initq :=
    (jss_one (xst_ cf [16] 0 (v_ cf 0) (v_ cf 1) (fun c hc => by obtain rfl : c = 16 := List.mem_singleton.mp hc; exact ⟨xb_ok (x := "NotFull") (i := 1) (fx.at_ 81), xno_ok (x := "NotFull") (f := "number") (fx.at_ 82)⟩)))
theorem ok_NotFullq_initq (fx : Fx K mg base) : FnX PW w (SS fx) mg base 1 d_NotFullq_initq P_NotFullq_initq m_NotFullq_initq := by
  obtain ⟨fd, F⟩ := fx.q.def_ 18 (d := d_NotFullq_initq) rfl
  exact ⟨fd, F, fn_ofG (S := SS fx) (N := N_NotFullq_initq) F ⟨rfl, rfl, rfl, by decide +kernel, rfl, by decide +kernel, by decide +kernel⟩ fn_run fun C ok e1 e2 e3 e4 e5 e6 e7 e8 hfn hp _ _ _ => j_NotFullq_initq fx ⟨ok, e1, e2, e3, e4, e5, e6, e7, e8⟩ hfn hp⟩

theorem B_NotFullq_initq_1_number : Bnd d_NotFullq_initq P_NotFullq_initq 1 ["number"] [(0, 0), (1, 0)] [] := ⟨by decide, rfl, rfl, fun _ _ _ => .nil, .inl ⟨rfl, fun _ _ _ _ _ _ us ws h1 h2 => match us, ws, h1, h2 with
  | [_], [_], _, _ => rfl⟩⟩

theorem B_NotFullq_initq_2 : Bnd d_NotFullq_initq P_NotFullq_initq 2 [] [(0, 0), (0, 1)] [] := ⟨by decide, rfl, rfl, fun _ _ _ => .nil, .inl ⟨rfl, fun _ _ _ _ _ _ us ws h1 h2 => match us, ws, h1, h2 with
  | [_, _], [], _, _ => rfl⟩⟩
noncomputable def b_LastServerq_initq : SM :=
    (sXst [18] 4 (eVar 1) (eVar 0))
noncomputable def m_LastServerq_initq : List T → Hm → R T := run 2 b_LastServerq_initq
theorem j_LastServerq_initq (fx : Fx K mg base) {C : RC} (cf : Cf C PW w (SS fx) mg base N_LastServerq_initq (defScope s_LastServerq_initq) 0) (hfn : ∀ y, C.X.fn y = true) (hp : PassesOwn (model C.X.prog C.X.w) C.X.A C.X.env C.X.xe) : JSs C (defBody s_LastServerq_initq) b_LastServerq_initq :=
    (jss_one (xst_ cf [18] 4 (v_ cf 0) (v_ cf 1) (fun c hc => by obtain rfl : c = 18 := List.mem_singleton.mp hc; exact ⟨xb_ok (x := "LastServer") (i := 1) (fx.at_ 87), xno_ok (x := "LastServer") (f := "name") (fx.at_ 88)⟩)))
theorem ok_LastServerq_initq (fx : Fx K mg base) : FnX PW w (SS fx) mg base 1 d_LastServerq_initq P_LastServerq_initq m_LastServerq_initq := by
  obtain ⟨fd, F⟩ := fx.q.def_ 19 (d := d_LastServerq_initq) rfl
  exact ⟨fd, F, fn_ofG (S := SS fx) (N := N_LastServerq_initq) F ⟨rfl, rfl, rfl, by decide +kernel, rfl, by decide +kernel, by decide +kernel⟩ fn_run fun C ok e1 e2 e3 e4 e5 e6 e7 e8 hfn hp _ _ _ => j_LastServerq_initq fx ⟨ok, e1, e2, e3, e4, e5, e6, e7, e8⟩ hfn hp⟩

theorem B_LastServerq_initq_1_name : Bnd d_LastServerq_initq P_LastServerq_initq 1 ["name"] [(0, 0), (1, 0)] [] := ⟨by decide, rfl, rfl, fun _ _ _ => .nil, .inl ⟨rfl, fun _ _ _ _ _ _ us ws h1 h2 => match us, ws, h1, h2 with
  | [_], [_], _, _ => rfl⟩⟩

theorem B_LastServerq_initq_2 : Bnd d_LastServerq_initq P_LastServerq_initq 2 [] [(0, 0), (0, 1)] [] := ⟨by decide, rfl, rfl, fun _ _ _ => .nil, .inl ⟨rfl, fun _ _ _ _ _ _ us ws h1 h2 => match us, ws, h1, h2 with
  | [_, _], [], _, _ => rfl⟩⟩
noncomputable def b_TooDeepq_initq : SM :=
    (sXst [21] 10 (eVar 1) (eVar 0))
noncomputable def m_TooDeepq_initq : List T → Hm → R T := run 2 b_TooDeepq_initq
theorem j_TooDeepq_initq (fx : Fx K mg base) {C : RC} (cf : Cf C PW w (SS fx) mg base N_TooDeepq_initq (defScope s_TooDeepq_initq) 0) (hfn : ∀ y, C.X.fn y = true) (hp : PassesOwn (model C.X.prog C.X.w) C.X.A C.X.env C.X.xe) : JSs C (defBody s_TooDeepq_initq) b_TooDeepq_initq :=
    (jss_one (xst_ cf [21] 10 (v_ cf 0) (v_ cf 1) (fun c hc => by obtain rfl : c = 21 := List.mem_singleton.mp hc; exact ⟨xb_ok (x := "TooDeep") (i := 2) (fx.at_ 91), xno_ok (x := "TooDeep") (f := "found") (fx.at_ 92)⟩)))
theorem ok_TooDeepq_initq (fx : Fx K mg base) : FnX PW w (SS fx) mg base 1 d_TooDeepq_initq P_TooDeepq_initq m_TooDeepq_initq := by
  obtain ⟨fd, F⟩ := fx.q.def_ 20 (d := d_TooDeepq_initq) rfl
  exact ⟨fd, F, fn_ofG (S := SS fx) (N := N_TooDeepq_initq) F ⟨rfl, rfl, rfl, by decide +kernel, rfl, by decide +kernel, by decide +kernel⟩ fn_run fun C ok e1 e2 e3 e4 e5 e6 e7 e8 hfn hp _ _ _ => j_TooDeepq_initq fx ⟨ok, e1, e2, e3, e4, e5, e6, e7, e8⟩ hfn hp⟩

theorem B_TooDeepq_initq_1_found : Bnd d_TooDeepq_initq P_TooDeepq_initq 1 ["found"] [(0, 0), (1, 0)] [] := ⟨by decide, rfl, rfl, fun _ _ _ => .nil, .inl ⟨rfl, fun _ _ _ _ _ _ us ws h1 h2 => match us, ws, h1, h2 with
  | [_], [_], _, _ => rfl⟩⟩

theorem B_TooDeepq_initq_2 : Bnd d_TooDeepq_initq P_TooDeepq_initq 2 [] [(0, 0), (0, 1)] [] := ⟨by decide, rfl, rfl, fun _ _ _ => .nil, .inl ⟨rfl, fun _ _ _ _ _ _ us ws h1 h2 => match us, ws, h1, h2 with
  | [_, _], [], _, _ => rfl⟩⟩
noncomputable def b_TooManyNamesq_initq : SM :=
    (sXst [20] 9 (eVar 1) (eVar 0))
noncomputable def m_TooManyNamesq_initq : List T → Hm → R T := run 2 b_TooManyNamesq_initq
theorem j_TooManyNamesq_initq (fx : Fx K mg base) {C : RC} (cf : Cf C PW w (SS fx) mg base N_TooManyNamesq_initq (defScope s_TooManyNamesq_initq) 0) (hfn : ∀ y, C.X.fn y = true) (hp : PassesOwn (model C.X.prog C.X.w) C.X.A C.X.env C.X.xe) : JSs C (defBody s_TooManyNamesq_initq) b_TooManyNamesq_initq :=
    (jss_one (xst_ cf [20] 9 (v_ cf 0) (v_ cf 1) (fun c hc => by obtain rfl : c = 20 := List.mem_singleton.mp hc; exact ⟨xb_ok (x := "TooManyNames") (i := 2) (fx.at_ 95), xno_ok (x := "TooManyNames") (f := "count") (fx.at_ 96)⟩)))
theorem ok_TooManyNamesq_initq (fx : Fx K mg base) : FnX PW w (SS fx) mg base 1 d_TooManyNamesq_initq P_TooManyNamesq_initq m_TooManyNamesq_initq := by
  obtain ⟨fd, F⟩ := fx.q.def_ 21 (d := d_TooManyNamesq_initq) rfl
  exact ⟨fd, F, fn_ofG (S := SS fx) (N := N_TooManyNamesq_initq) F ⟨rfl, rfl, rfl, by decide +kernel, rfl, by decide +kernel, by decide +kernel⟩ fn_run fun C ok e1 e2 e3 e4 e5 e6 e7 e8 hfn hp _ _ _ => j_TooManyNamesq_initq fx ⟨ok, e1, e2, e3, e4, e5, e6, e7, e8⟩ hfn hp⟩

theorem B_TooManyNamesq_initq_1_count : Bnd d_TooManyNamesq_initq P_TooManyNamesq_initq 1 ["count"] [(0, 0), (1, 0)] [] := ⟨by decide, rfl, rfl, fun _ _ _ => .nil, .inl ⟨rfl, fun _ _ _ _ _ _ us ws h1 h2 => match us, ws, h1, h2 with
  | [_], [_], _, _ => rfl⟩⟩

theorem B_TooManyNamesq_initq_2 : Bnd d_TooManyNamesq_initq P_TooManyNamesq_initq 2 [] [(0, 0), (0, 1)] [] := ⟨by decide, rfl, rfl, fun _ _ _ => .nil, .inl ⟨rfl, fun _ _ _ _ _ _ us ws h1 h2 => match us, ws, h1, h2 with
  | [_, _], [], _, _ => rfl⟩⟩
noncomputable def b_TooManyRequestsq_initq : SM :=
    (sXst [23] 9 (eVar 1) (eVar 0))
noncomputable def m_TooManyRequestsq_initq : List T → Hm → R T := run 2 b_TooManyRequestsq_initq
theorem j_TooManyRequestsq_initq (fx : Fx K mg base) {C : RC} (cf : Cf C PW w (SS fx) mg base N_TooManyRequestsq_initq (defScope s_TooManyRequestsq_initq) 0) (hfn : ∀ y, C.X.fn y = true) (hp : PassesOwn (model C.X.prog C.X.w) C.X.A C.X.env C.X.xe) : JSs C (defBody s_TooManyRequestsq_initq) b_TooManyRequestsq_initq :=
    (jss_one (xst_ cf [23] 9 (v_ cf 0) (v_ cf 1) (fun c hc => by obtain rfl : c = 23 := List.mem_singleton.mp hc; exact ⟨xb_ok (x := "TooManyRequests") (i := 2) (fx.at_ 99), xno_ok (x := "TooManyRequests") (f := "count") (fx.at_ 100)⟩)))
theorem ok_TooManyRequestsq_initq (fx : Fx K mg base) : FnX PW w (SS fx) mg base 1 d_TooManyRequestsq_initq P_TooManyRequestsq_initq m_TooManyRequestsq_initq := by
  obtain ⟨fd, F⟩ := fx.q.def_ 22 (d := d_TooManyRequestsq_initq) rfl
  exact ⟨fd, F, fn_ofG (S := SS fx) (N := N_TooManyRequestsq_initq) F ⟨rfl, rfl, rfl, by decide +kernel, rfl, by decide +kernel, by decide +kernel⟩ fn_run fun C ok e1 e2 e3 e4 e5 e6 e7 e8 hfn hp _ _ _ => j_TooManyRequestsq_initq fx ⟨ok, e1, e2, e3, e4, e5, e6, e7, e8⟩ hfn hp⟩

theorem B_TooManyRequestsq_initq_1_count : Bnd d_TooManyRequestsq_initq P_TooManyRequestsq_initq 1 ["count"] [(0, 0), (1, 0)] [] := ⟨by decide, rfl, rfl, fun _ _ _ => .nil, .inl ⟨rfl, fun _ _ _ _ _ _ us ws h1 h2 => match us, ws, h1, h2 with
  | [_], [_], _, _ => rfl⟩⟩

theorem B_TooManyRequestsq_initq_2 : Bnd d_TooManyRequestsq_initq P_TooManyRequestsq_initq 2 [] [(0, 0), (0, 1)] [] := ⟨by decide, rfl, rfl, fun _ _ _ => .nil, .inl ⟨rfl, fun _ _ _ _ _ _ us ws h1 h2 => match us, ws, h1, h2 with
  | [_, _], [], _, _ => rfl⟩⟩
noncomputable def b_TooLongq_initq : SM :=
    (sXst [22] 1 (eVar 1) (eVar 0))
noncomputable def m_TooLongq_initq : List T → Hm → R T := run 2 b_TooLongq_initq
theorem j_TooLongq_initq (fx : Fx K mg base) {C : RC} (cf : Cf C PW w (SS fx) mg base N_TooLongq_initq (defScope s_TooLongq_initq) 0) (hfn : ∀ y, C.X.fn y = true) (hp : PassesOwn (model C.X.prog C.X.w) C.X.A C.X.env C.X.xe) : JSs C (defBody s_TooLongq_initq) b_TooLongq_initq :=
    (jss_one (xst_ cf [22] 1 (v_ cf 0) (v_ cf 1) (fun c hc => by obtain rfl : c = 22 := List.mem_singleton.mp hc; exact ⟨xb_ok (x := "TooLong") (i := 2) (fx.at_ 103), xno_ok (x := "TooLong") (f := "step") (fx.at_ 104)⟩)))
theorem ok_TooLongq_initq (fx : Fx K mg base) : FnX PW w (SS fx) mg base 1 d_TooLongq_initq P_TooLongq_initq m_TooLongq_initq := by
  obtain ⟨fd, F⟩ := fx.q.def_ 23 (d := d_TooLongq_initq) rfl
  exact ⟨fd, F, fn_ofG (S := SS fx) (N := N_TooLongq_initq) F ⟨rfl, rfl, rfl, by decide +kernel, rfl, by decide +kernel, by decide +kernel⟩ fn_run fun C ok e1 e2 e3 e4 e5 e6 e7 e8 hfn hp _ _ _ => j_TooLongq_initq fx ⟨ok, e1, e2, e3, e4, e5, e6, e7, e8⟩ hfn hp⟩

theorem B_TooLongq_initq_1_step : Bnd d_TooLongq_initq P_TooLongq_initq 1 ["step"] [(0, 0), (1, 0)] [] := ⟨by decide, rfl, rfl, fun _ _ _ => .nil, .inl ⟨rfl, fun _ _ _ _ _ _ us ws h1 h2 => match us, ws, h1, h2 with
  | [_], [_], _, _ => rfl⟩⟩

theorem B_TooLongq_initq_2 : Bnd d_TooLongq_initq P_TooLongq_initq 2 [] [(0, 0), (0, 1)] [] := ⟨by decide, rfl, rfl, fun _ _ _ => .nil, .inl ⟨rfl, fun _ _ _ _ _ _ us ws h1 h2 => match us, ws, h1, h2 with
  | [_, _], [], _, _ => rfl⟩⟩
noncomputable def b__law_made_1 : SM :=
    (sSet 1 (eLstM (aCons (eLst (aCons (eCall 1 (mkXO 0 m_InvalidNumberq_initq (arrS [(0, 0), (0, 1)] [])) (aCons (eVar 0) aNil)) (aCons (eCallK 0 1 (mkXO 0 m_InvalidNumberq_initq (arrS [(0, 0), (1, 0)] [])) aNil (aCons (eVar 0) aNil)) aNil))) (aCons (eLst (aCons (eCall 1 (mkXO 1 m_InvalidStepq_initq (arrS [(0, 0), (0, 1)] [])) (aCons (eVar 0) aNil)) (aCons (eCallK 0 1 (mkXO 1 m_InvalidStepq_initq (arrS [(0, 0), (1, 0)] [])) aNil (aCons (eVar 0) aNil)) aNil))) aNil))))
noncomputable def b__law_made_2 : SM :=
    (sExpr (eCell fAppend (eVar 1) (aCons (eLst (aCons (eCall 1 (mkXO 2 m_InvalidProgressionq_initq (arrS [(0, 0), (0, 1)] [])) (aCons (eVar 0) aNil)) (aCons (eCallK 0 1 (mkXO 2 m_InvalidProgressionq_initq (arrS [(0, 0), (1, 0)] [])) aNil (aCons (eVar 0) aNil)) aNil))) aNil)))
noncomputable def b__law_made_3 : SM :=
    (sExpr (eCell fAppend (eVar 1) (aCons (eLst (aCons (eCall 1 (mkXO 3 m_InvalidProgressionsq_initq (arrS [(0, 0), (0, 1)] [])) (aCons (eVar 0) aNil)) (aCons (eCallK 0 1 (mkXO 3 m_InvalidProgressionsq_initq (arrS [(0, 0), (1, 0)] [])) aNil (aCons (eVar 0) aNil)) aNil))) aNil)))
noncomputable def b__law_made_4 : SM :=
    (sSet 1 (eOp opAddC (eVar 1) (eLst (aCons (eLst (aCons (eCall 1 (mkXO 4 m_InvalidNameq_initq (arrS [(0, 0), (0, 1)] [])) (aCons (eVar 0) aNil)) (aCons (eCallK 0 1 (mkXO 4 m_InvalidNameq_initq (arrS [(0, 0), (1, 0)] [])) aNil (aCons (eVar 0) aNil)) aNil))) (aCons (eLst (aCons (eCall 1 (mkXO 5 m_InvalidArityq_initq (arrS [(0, 0), (0, 1)] [])) (aCons (eVar 0) aNil)) (aCons (eCallK 0 1 (mkXO 5 m_InvalidArityq_initq (arrS [(0, 0), (1, 0)] [])) aNil (aCons (eVar 0) aNil)) aNil))) aNil)))))
noncomputable def b__law_made_5 : SM :=
    (sSet 1 (eOp opAddC (eVar 1) (eLst (aCons (eLst (aCons (eCall 1 (mkXO 6 m_InvalidTargetsq_initq (arrS [(0, 0), (0, 1)] [])) (aCons (eVar 0) aNil)) (aCons (eCallK 0 1 (mkXO 6 m_InvalidTargetsq_initq (arrS [(0, 0), (1, 0)] [])) aNil (aCons (eVar 0) aNil)) aNil))) (aCons (eLst (aCons (eCall 1 (mkXO 7 m_InvalidTextq_initq (arrS [(0, 0), (0, 1)] [])) (aCons (eVar 0) aNil)) (aCons (eCallK 0 1 (mkXO 7 m_InvalidTextq_initq (arrS [(0, 0), (1, 0)] [])) aNil (aCons (eVar 0) aNil)) aNil))) aNil)))))
noncomputable def b__law_made_6 : SM :=
    (sSet 1 (eOp opAddC (eVar 1) (eLst (aCons (eLst (aCons (eCall 1 (mkXO 8 m_InvalidTreeq_initq (arrS [(0, 0), (0, 1)] [])) (aCons (eVar 0) aNil)) (aCons (eCallK 0 1 (mkXO 8 m_InvalidTreeq_initq (arrS [(0, 0), (1, 0)] [])) aNil (aCons (eVar 0) aNil)) aNil))) (aCons (eLst (aCons (eCall 1 (mkXO 9 m_InvalidTableq_initq (arrS [(0, 0), (0, 1)] [])) (aCons (eVar 0) aNil)) (aCons (eCallK 0 1 (mkXO 9 m_InvalidTableq_initq (arrS [(0, 0), (1, 0)] [])) aNil (aCons (eVar 0) aNil)) aNil))) aNil)))))
noncomputable def b__law_made_7 : SM :=
    (sExpr (eCell fAppend (eVar 1) (aCons (eLst (aCons (eCall 1 (mkXO 10 m_InvalidSettingq_initq (arrS [(0, 0), (0, 1)] [])) (aCons (eVar 0) aNil)) (aCons (eCallK 0 1 (mkXO 10 m_InvalidSettingq_initq (arrS [(0, 0), (1, 0)] [])) aNil (aCons (eVar 0) aNil)) aNil))) aNil)))
noncomputable def b__law_made_8 : SM :=
    (sExpr (eCell fAppend (eVar 1) (aCons (eLst (aCons (eCall 1 (mkXO 11 m_InvalidSightingsq_initq (arrS [(0, 0), (0, 1)] [])) (aCons (eVar 0) aNil)) (aCons (eCallK 0 1 (mkXO 11 m_InvalidSightingsq_initq (arrS [(0, 0), (1, 0)] [])) aNil (aCons (eVar 0) aNil)) aNil))) aNil)))
noncomputable def b__law_made_9 : SM :=
    (sSet 1 (eOp opAddC (eVar 1) (eLst (aCons (eLst (aCons (eCall 1 (mkXO 12 m_InvalidDeedq_initq (arrS [(0, 0), (0, 1)] [])) (aCons (eVar 0) aNil)) (aCons (eCallK 0 1 (mkXO 12 m_InvalidDeedq_initq (arrS [(0, 0), (1, 0)] [])) aNil (aCons (eVar 0) aNil)) aNil))) (aCons (eLst (aCons (eCall 1 (mkXO 13 m_InvalidDeedsq_initq (arrS [(0, 0), (0, 1)] [])) (aCons (eVar 0) aNil)) (aCons (eCallK 0 1 (mkXO 13 m_InvalidDeedsq_initq (arrS [(0, 0), (1, 0)] [])) aNil (aCons (eVar 0) aNil)) aNil))) aNil)))))
noncomputable def b__law_made_10 : SM :=
    (sSet 1 (eOp opAddC (eVar 1) (eLst (aCons (eLst (aCons (eCall 1 (mkXO 14 m_UnknownNameq_initq (arrS [(0, 0), (0, 1)] [])) (aCons (eVar 0) aNil)) (aCons (eCallK 0 1 (mkXO 14 m_UnknownNameq_initq (arrS [(0, 0), (1, 0)] [])) aNil (aCons (eVar 0) aNil)) aNil))) (aCons (eLst (aCons (eCall 1 (mkXO 15 m_NameTakenq_initq (arrS [(0, 0), (0, 1)] [])) (aCons (eVar 0) aNil)) (aCons (eCallK 0 1 (mkXO 15 m_NameTakenq_initq (arrS [(0, 0), (1, 0)] [])) aNil (aCons (eVar 0) aNil)) aNil))) aNil)))))
noncomputable def b__law_made_11 : SM :=
    (sSet 1 (eOp opAddC (eVar 1) (eLst (aCons (eLst (aCons (eCall 1 (mkXO 16 m_NotFullq_initq (arrS [(0, 0), (0, 1)] [])) (aCons (eVar 0) aNil)) (aCons (eCallK 0 1 (mkXO 16 m_NotFullq_initq (arrS [(0, 0), (1, 0)] [])) aNil (aCons (eVar 0) aNil)) aNil))) (aCons (eLst (aCons (eCall 1 (mkXO 17 m_Unexplainedq_initq (arrS [(0, 0), (0, 1)] [])) (aCons (eVar 0) aNil)) (aCons (eCallK 0 1 (mkXO 17 m_Unexplainedq_initq (arrS [(0, 0), (1, 0)] [])) aNil (aCons (eVar 0) aNil)) aNil))) aNil)))))
noncomputable def b__law_made_12 : SM :=
    (sSet 1 (eOp opAddC (eVar 1) (eLst (aCons (eLst (aCons (eCall 1 (mkXO 18 m_LastServerq_initq (arrS [(0, 0), (0, 1)] [])) (aCons (eVar 0) aNil)) (aCons (eCallK 0 1 (mkXO 18 m_LastServerq_initq (arrS [(0, 0), (1, 0)] [])) aNil (aCons (eVar 0) aNil)) aNil))) (aCons (eLst (aCons (eCall 0 (mkX0 19) aNil) (aCons (eCall 0 (mkX0 19) aNil) aNil))) aNil)))))
noncomputable def b__law_made_13 : SM :=
    (sSet 1 (eOp opAddC (eVar 1) (eLst (aCons (eLst (aCons (eCall 1 (mkXO 20 m_TooManyNamesq_initq (arrS [(0, 0), (0, 1)] [])) (aCons (eVar 0) aNil)) (aCons (eCallK 0 1 (mkXO 20 m_TooManyNamesq_initq (arrS [(0, 0), (1, 0)] [])) aNil (aCons (eVar 0) aNil)) aNil))) (aCons (eLst (aCons (eCall 1 (mkXO 21 m_TooDeepq_initq (arrS [(0, 0), (0, 1)] [])) (aCons (eVar 0) aNil)) (aCons (eCallK 0 1 (mkXO 21 m_TooDeepq_initq (arrS [(0, 0), (1, 0)] [])) aNil (aCons (eVar 0) aNil)) aNil))) aNil)))))
noncomputable def b__law_made_14 : SM :=
    (sRet (eOp opAddF (eVar 1) (eLst (aCons (eLst (aCons (eCall 1 (mkXO 22 m_TooLongq_initq (arrS [(0, 0), (0, 1)] [])) (aCons (eVar 0) aNil)) (aCons (eCallK 0 1 (mkXO 22 m_TooLongq_initq (arrS [(0, 0), (1, 0)] [])) aNil (aCons (eVar 0) aNil)) aNil))) (aCons (eLst (aCons (eCall 1 (mkXO 23 m_TooManyRequestsq_initq (arrS [(0, 0), (0, 1)] [])) (aCons (eVar 0) aNil)) (aCons (eCallK 0 1 (mkXO 23 m_TooManyRequestsq_initq (arrS [(0, 0), (1, 0)] [])) aNil (aCons (eVar 0) aNil)) aNil))) aNil)))))
noncomputable def b__law_made : SM :=
    (sSeq b__law_made_1
    (sSeq b__law_made_2
    (sSeq b__law_made_3
    (sSeq b__law_made_4
    (sSeq b__law_made_5
    (sSeq b__law_made_6
    (sSeq b__law_made_7
    (sSeq b__law_made_8
    (sSeq (sFrz 1)
    (sSeq (sFrz 1)
    (sSeq (sFrz 1)
    (sSeq (sFrz 1)
    (sSeq b__law_made_9
    (sSeq b__law_made_10
    (sSeq b__law_made_11
    (sSeq b__law_made_12
    (sSeq b__law_made_13
    b__law_made_14)))))))))))))))))
noncomputable def m__law_made : List T → Hm → R T := run 2 b__law_made
theorem j__law_made (fx : Fx K mg base) {C : RC} (cf : Cf C PW w (SS fx) mg base N__law_made (defScope s__law_made) 2) (hfn : ∀ y, C.X.fn y = true) (hp : PassesOwn (model C.X.prog C.X.w) C.X.A C.X.env C.X.xe) : JSs C (defBody s__law_made) b__law_made :=
    (jss_cons (set_ cf 1 (je_lstM (ja_cons (je_lst (ja_cons (call_ cf (FnX.makeX (ok_InvalidNumberq_initq (w := w) fx) cf 0 B_InvalidNumberq_initq_2 (xmk_ok (fx.at_ 17) (fx.at_ 19)) (by decide)) (He.glo_ok fx.X fx.G (fx.at_ 20)) (ja_cons (v_ cf 0) ja_nil)) (ja_cons (callK0_ cf (FnX.makeX (ok_InvalidNumberq_initq (w := w) fx) cf 0 B_InvalidNumberq_initq_1_number (xmk_ok (fx.at_ 17) (fx.at_ 19)) (by decide)) (He.glo_ok fx.X fx.G (fx.at_ 20)) (jk_cons (v_ cf 0) jk_nil)) ja_nil))) (ja_cons (je_lst (ja_cons (call_ cf (FnX.makeX (ok_InvalidStepq_initq (w := w) fx) cf 1 B_InvalidStepq_initq_2 (xmk_ok (fx.at_ 13) (fx.at_ 15)) (by decide)) (He.glo_ok fx.X fx.G (fx.at_ 16)) (ja_cons (v_ cf 0) ja_nil)) (ja_cons (callK0_ cf (FnX.makeX (ok_InvalidStepq_initq (w := w) fx) cf 1 B_InvalidStepq_initq_1_step (xmk_ok (fx.at_ 13) (fx.at_ 15)) (by decide)) (He.glo_ok fx.X fx.G (fx.at_ 16)) (jk_cons (v_ cf 0) jk_nil)) ja_nil))) ja_nil))))
    (jss_cons (js_expr (app_ cf (v_ cf 1) (ja_cons (je_lst (ja_cons (call_ cf (FnX.makeX (ok_InvalidProgressionq_initq (w := w) fx) cf 2 B_InvalidProgressionq_initq_2 (xmk_ok (fx.at_ 21) (fx.at_ 23)) (by decide)) (He.glo_ok fx.X fx.G (fx.at_ 24)) (ja_cons (v_ cf 0) ja_nil)) (ja_cons (callK0_ cf (FnX.makeX (ok_InvalidProgressionq_initq (w := w) fx) cf 2 B_InvalidProgressionq_initq_1_value (xmk_ok (fx.at_ 21) (fx.at_ 23)) (by decide)) (He.glo_ok fx.X fx.G (fx.at_ 24)) (jk_cons (v_ cf 0) jk_nil)) ja_nil))) ja_nil)))
    (jss_cons (js_expr (app_ cf (v_ cf 1) (ja_cons (je_lst (ja_cons (call_ cf (FnX.makeX (ok_InvalidProgressionsq_initq (w := w) fx) cf 3 B_InvalidProgressionsq_initq_2 (xmk_ok (fx.at_ 25) (fx.at_ 27)) (by decide)) (He.glo_ok fx.X fx.G (fx.at_ 28)) (ja_cons (v_ cf 0) ja_nil)) (ja_cons (callK0_ cf (FnX.makeX (ok_InvalidProgressionsq_initq (w := w) fx) cf 3 B_InvalidProgressionsq_initq_1_index (xmk_ok (fx.at_ 25) (fx.at_ 27)) (by decide)) (He.glo_ok fx.X fx.G (fx.at_ 28)) (jk_cons (v_ cf 0) jk_nil)) ja_nil))) ja_nil)))
    (jss_cons (set_ cf 1 (je_op (op_addC cf.ok.K) (v_ cf 1) (je_lst (ja_cons (je_lst (ja_cons (call_ cf (FnX.makeX (ok_InvalidNameq_initq (w := w) fx) cf 4 B_InvalidNameq_initq_2 (xmk_ok (fx.at_ 33) (fx.at_ 35)) (by decide)) (He.glo_ok fx.X fx.G (fx.at_ 36)) (ja_cons (v_ cf 0) ja_nil)) (ja_cons (callK0_ cf (FnX.makeX (ok_InvalidNameq_initq (w := w) fx) cf 4 B_InvalidNameq_initq_1_name (xmk_ok (fx.at_ 33) (fx.at_ 35)) (by decide)) (He.glo_ok fx.X fx.G (fx.at_ 36)) (jk_cons (v_ cf 0) jk_nil)) ja_nil))) (ja_cons (je_lst (ja_cons (call_ cf (FnX.makeX (ok_InvalidArityq_initq (w := w) fx) cf 5 B_InvalidArityq_initq_2 (xmk_ok (fx.at_ 29) (fx.at_ 31)) (by decide)) (He.glo_ok fx.X fx.G (fx.at_ 32)) (ja_cons (v_ cf 0) ja_nil)) (ja_cons (callK0_ cf (FnX.makeX (ok_InvalidArityq_initq (w := w) fx) cf 5 B_InvalidArityq_initq_1_arity (xmk_ok (fx.at_ 29) (fx.at_ 31)) (by decide)) (He.glo_ok fx.X fx.G (fx.at_ 32)) (jk_cons (v_ cf 0) jk_nil)) ja_nil))) ja_nil)))))
    (jss_cons (set_ cf 1 (je_op (op_addC cf.ok.K) (v_ cf 1) (je_lst (ja_cons (je_lst (ja_cons (call_ cf (FnX.makeX (ok_InvalidTargetsq_initq (w := w) fx) cf 6 B_InvalidTargetsq_initq_2 (xmk_ok (fx.at_ 41) (fx.at_ 43)) (by decide)) (He.glo_ok fx.X fx.G (fx.at_ 44)) (ja_cons (v_ cf 0) ja_nil)) (ja_cons (callK0_ cf (FnX.makeX (ok_InvalidTargetsq_initq (w := w) fx) cf 6 B_InvalidTargetsq_initq_1_index (xmk_ok (fx.at_ 41) (fx.at_ 43)) (by decide)) (He.glo_ok fx.X fx.G (fx.at_ 44)) (jk_cons (v_ cf 0) jk_nil)) ja_nil))) (ja_cons (je_lst (ja_cons (call_ cf (FnX.makeX (ok_InvalidTextq_initq (w := w) fx) cf 7 B_InvalidTextq_initq_2 (xmk_ok (fx.at_ 37) (fx.at_ 39)) (by decide)) (He.glo_ok fx.X fx.G (fx.at_ 40)) (ja_cons (v_ cf 0) ja_nil)) (ja_cons (callK0_ cf (FnX.makeX (ok_InvalidTextq_initq (w := w) fx) cf 7 B_InvalidTextq_initq_1_text (xmk_ok (fx.at_ 37) (fx.at_ 39)) (by decide)) (He.glo_ok fx.X fx.G (fx.at_ 40)) (jk_cons (v_ cf 0) jk_nil)) ja_nil))) ja_nil)))))
    (jss_cons (set_ cf 1 (je_op (op_addC cf.ok.K) (v_ cf 1) (je_lst (ja_cons (je_lst (ja_cons (call_ cf (FnX.makeX (ok_InvalidTreeq_initq (w := w) fx) cf 8 B_InvalidTreeq_initq_2 (xmk_ok (fx.at_ 49) (fx.at_ 51)) (by decide)) (He.glo_ok fx.X fx.G (fx.at_ 52)) (ja_cons (v_ cf 0) ja_nil)) (ja_cons (callK0_ cf (FnX.makeX (ok_InvalidTreeq_initq (w := w) fx) cf 8 B_InvalidTreeq_initq_1_value (xmk_ok (fx.at_ 49) (fx.at_ 51)) (by decide)) (He.glo_ok fx.X fx.G (fx.at_ 52)) (jk_cons (v_ cf 0) jk_nil)) ja_nil))) (ja_cons (je_lst (ja_cons (call_ cf (FnX.makeX (ok_InvalidTableq_initq (w := w) fx) cf 9 B_InvalidTableq_initq_2 (xmk_ok (fx.at_ 45) (fx.at_ 47)) (by decide)) (He.glo_ok fx.X fx.G (fx.at_ 48)) (ja_cons (v_ cf 0) ja_nil)) (ja_cons (callK0_ cf (FnX.makeX (ok_InvalidTableq_initq (w := w) fx) cf 9 B_InvalidTableq_initq_1_index (xmk_ok (fx.at_ 45) (fx.at_ 47)) (by decide)) (He.glo_ok fx.X fx.G (fx.at_ 48)) (jk_cons (v_ cf 0) jk_nil)) ja_nil))) ja_nil)))))
    (jss_cons (js_expr (app_ cf (v_ cf 1) (ja_cons (je_lst (ja_cons (call_ cf (FnX.makeX (ok_InvalidSettingq_initq (w := w) fx) cf 10 B_InvalidSettingq_initq_2 (xmk_ok (fx.at_ 53) (fx.at_ 55)) (by decide)) (He.glo_ok fx.X fx.G (fx.at_ 56)) (ja_cons (v_ cf 0) ja_nil)) (ja_cons (callK0_ cf (FnX.makeX (ok_InvalidSettingq_initq (w := w) fx) cf 10 B_InvalidSettingq_initq_1_index (xmk_ok (fx.at_ 53) (fx.at_ 55)) (by decide)) (He.glo_ok fx.X fx.G (fx.at_ 56)) (jk_cons (v_ cf 0) jk_nil)) ja_nil))) ja_nil)))
    (jss_cons (js_expr (app_ cf (v_ cf 1) (ja_cons (je_lst (ja_cons (call_ cf (FnX.makeX (ok_InvalidSightingsq_initq (w := w) fx) cf 11 B_InvalidSightingsq_initq_2 (xmk_ok (fx.at_ 57) (fx.at_ 59)) (by decide)) (He.glo_ok fx.X fx.G (fx.at_ 60)) (ja_cons (v_ cf 0) ja_nil)) (ja_cons (callK0_ cf (FnX.makeX (ok_InvalidSightingsq_initq (w := w) fx) cf 11 B_InvalidSightingsq_initq_1_index (xmk_ok (fx.at_ 57) (fx.at_ 59)) (by decide)) (He.glo_ok fx.X fx.G (fx.at_ 60)) (jk_cons (v_ cf 0) jk_nil)) ja_nil))) ja_nil)))
    (jss_frz 1 (jss_frz 1 (jss_frz 1 (jss_frz 1 (jss_cons (set_ cf 1 (je_op (op_addC cf.ok.K) (v_ cf 1) (je_lst (ja_cons (je_lst (ja_cons (call_ cf (FnX.makeX (ok_InvalidDeedq_initq (w := w) fx) cf 12 B_InvalidDeedq_initq_2 (xmk_ok (fx.at_ 65) (fx.at_ 67)) (by decide)) (He.glo_ok fx.X fx.G (fx.at_ 68)) (ja_cons (v_ cf 0) ja_nil)) (ja_cons (callK0_ cf (FnX.makeX (ok_InvalidDeedq_initq (w := w) fx) cf 12 B_InvalidDeedq_initq_1_deed (xmk_ok (fx.at_ 65) (fx.at_ 67)) (by decide)) (He.glo_ok fx.X fx.G (fx.at_ 68)) (jk_cons (v_ cf 0) jk_nil)) ja_nil))) (ja_cons (je_lst (ja_cons (call_ cf (FnX.makeX (ok_InvalidDeedsq_initq (w := w) fx) cf 13 B_InvalidDeedsq_initq_2 (xmk_ok (fx.at_ 61) (fx.at_ 63)) (by decide)) (He.glo_ok fx.X fx.G (fx.at_ 64)) (ja_cons (v_ cf 0) ja_nil)) (ja_cons (callK0_ cf (FnX.makeX (ok_InvalidDeedsq_initq (w := w) fx) cf 13 B_InvalidDeedsq_initq_1_index (xmk_ok (fx.at_ 61) (fx.at_ 63)) (by decide)) (He.glo_ok fx.X fx.G (fx.at_ 64)) (jk_cons (v_ cf 0) jk_nil)) ja_nil))) ja_nil)))))
    (jss_cons (set_ cf 1 (je_op (op_addC cf.ok.K) (v_ cf 1) (je_lst (ja_cons (je_lst (ja_cons (call_ cf (FnX.makeX (ok_UnknownNameq_initq (w := w) fx) cf 14 B_UnknownNameq_initq_2 (xmk_ok (fx.at_ 73) (fx.at_ 75)) (by decide)) (He.glo_ok fx.X fx.G (fx.at_ 76)) (ja_cons (v_ cf 0) ja_nil)) (ja_cons (callK0_ cf (FnX.makeX (ok_UnknownNameq_initq (w := w) fx) cf 14 B_UnknownNameq_initq_1_name (xmk_ok (fx.at_ 73) (fx.at_ 75)) (by decide)) (He.glo_ok fx.X fx.G (fx.at_ 76)) (jk_cons (v_ cf 0) jk_nil)) ja_nil))) (ja_cons (je_lst (ja_cons (call_ cf (FnX.makeX (ok_NameTakenq_initq (w := w) fx) cf 15 B_NameTakenq_initq_2 (xmk_ok (fx.at_ 69) (fx.at_ 71)) (by decide)) (He.glo_ok fx.X fx.G (fx.at_ 72)) (ja_cons (v_ cf 0) ja_nil)) (ja_cons (callK0_ cf (FnX.makeX (ok_NameTakenq_initq (w := w) fx) cf 15 B_NameTakenq_initq_1_name (xmk_ok (fx.at_ 69) (fx.at_ 71)) (by decide)) (He.glo_ok fx.X fx.G (fx.at_ 72)) (jk_cons (v_ cf 0) jk_nil)) ja_nil))) ja_nil)))))
    (jss_cons (set_ cf 1 (je_op (op_addC cf.ok.K) (v_ cf 1) (je_lst (ja_cons (je_lst (ja_cons (call_ cf (FnX.makeX (ok_NotFullq_initq (w := w) fx) cf 16 B_NotFullq_initq_2 (xmk_ok (fx.at_ 81) (fx.at_ 83)) (by decide)) (He.glo_ok fx.X fx.G (fx.at_ 84)) (ja_cons (v_ cf 0) ja_nil)) (ja_cons (callK0_ cf (FnX.makeX (ok_NotFullq_initq (w := w) fx) cf 16 B_NotFullq_initq_1_number (xmk_ok (fx.at_ 81) (fx.at_ 83)) (by decide)) (He.glo_ok fx.X fx.G (fx.at_ 84)) (jk_cons (v_ cf 0) jk_nil)) ja_nil))) (ja_cons (je_lst (ja_cons (call_ cf (FnX.makeX (ok_Unexplainedq_initq (w := w) fx) cf 17 B_Unexplainedq_initq_2 (xmk_ok (fx.at_ 77) (fx.at_ 79)) (by decide)) (He.glo_ok fx.X fx.G (fx.at_ 80)) (ja_cons (v_ cf 0) ja_nil)) (ja_cons (callK0_ cf (FnX.makeX (ok_Unexplainedq_initq (w := w) fx) cf 17 B_Unexplainedq_initq_1_numbers (xmk_ok (fx.at_ 77) (fx.at_ 79)) (by decide)) (He.glo_ok fx.X fx.G (fx.at_ 80)) (jk_cons (v_ cf 0) jk_nil)) ja_nil))) ja_nil)))))
    (jss_cons (set_ cf 1 (je_op (op_addC cf.ok.K) (v_ cf 1) (je_lst (ja_cons (je_lst (ja_cons (call_ cf (FnX.makeX (ok_LastServerq_initq (w := w) fx) cf 18 B_LastServerq_initq_2 (xmk_ok (fx.at_ 87) (fx.at_ 89)) (by decide)) (He.glo_ok fx.X fx.G (fx.at_ 90)) (ja_cons (v_ cf 0) ja_nil)) (ja_cons (callK0_ cf (FnX.makeX (ok_LastServerq_initq (w := w) fx) cf 18 B_LastServerq_initq_1_name (xmk_ok (fx.at_ 87) (fx.at_ 89)) (by decide)) (He.glo_ok fx.X fx.G (fx.at_ 90)) (jk_cons (v_ cf 0) jk_nil)) ja_nil))) (ja_cons (je_lst (ja_cons (call0_ cf (makeX0_ cf 19 (xmk0_ok (fx.at_ 85))) (He.glo_ok fx.X fx.G (fx.at_ 86))) (ja_cons (call0_ cf (makeX0_ cf 19 (xmk0_ok (fx.at_ 85))) (He.glo_ok fx.X fx.G (fx.at_ 86))) ja_nil))) ja_nil)))))
    (jss_cons (set_ cf 1 (je_op (op_addC cf.ok.K) (v_ cf 1) (je_lst (ja_cons (je_lst (ja_cons (call_ cf (FnX.makeX (ok_TooManyNamesq_initq (w := w) fx) cf 20 B_TooManyNamesq_initq_2 (xmk_ok (fx.at_ 95) (fx.at_ 97)) (by decide)) (He.glo_ok fx.X fx.G (fx.at_ 98)) (ja_cons (v_ cf 0) ja_nil)) (ja_cons (callK0_ cf (FnX.makeX (ok_TooManyNamesq_initq (w := w) fx) cf 20 B_TooManyNamesq_initq_1_count (xmk_ok (fx.at_ 95) (fx.at_ 97)) (by decide)) (He.glo_ok fx.X fx.G (fx.at_ 98)) (jk_cons (v_ cf 0) jk_nil)) ja_nil))) (ja_cons (je_lst (ja_cons (call_ cf (FnX.makeX (ok_TooDeepq_initq (w := w) fx) cf 21 B_TooDeepq_initq_2 (xmk_ok (fx.at_ 91) (fx.at_ 93)) (by decide)) (He.glo_ok fx.X fx.G (fx.at_ 94)) (ja_cons (v_ cf 0) ja_nil)) (ja_cons (callK0_ cf (FnX.makeX (ok_TooDeepq_initq (w := w) fx) cf 21 B_TooDeepq_initq_1_found (xmk_ok (fx.at_ 91) (fx.at_ 93)) (by decide)) (He.glo_ok fx.X fx.G (fx.at_ 94)) (jk_cons (v_ cf 0) jk_nil)) ja_nil))) ja_nil)))))
    (jss_one (js_ret (je_op (op_addF cf.ok.K) (v_ cf 1) (je_lst (ja_cons (je_lst (ja_cons (call_ cf (FnX.makeX (ok_TooLongq_initq (w := w) fx) cf 22 B_TooLongq_initq_2 (xmk_ok (fx.at_ 103) (fx.at_ 105)) (by decide)) (He.glo_ok fx.X fx.G (fx.at_ 106)) (ja_cons (v_ cf 0) ja_nil)) (ja_cons (callK0_ cf (FnX.makeX (ok_TooLongq_initq (w := w) fx) cf 22 B_TooLongq_initq_1_step (xmk_ok (fx.at_ 103) (fx.at_ 105)) (by decide)) (He.glo_ok fx.X fx.G (fx.at_ 106)) (jk_cons (v_ cf 0) jk_nil)) ja_nil))) (ja_cons (je_lst (ja_cons (call_ cf (FnX.makeX (ok_TooManyRequestsq_initq (w := w) fx) cf 23 B_TooManyRequestsq_initq_2 (xmk_ok (fx.at_ 99) (fx.at_ 101)) (by decide)) (He.glo_ok fx.X fx.G (fx.at_ 102)) (ja_cons (v_ cf 0) ja_nil)) (ja_cons (callK0_ cf (FnX.makeX (ok_TooManyRequestsq_initq (w := w) fx) cf 23 B_TooManyRequestsq_initq_1_count (xmk_ok (fx.at_ 99) (fx.at_ 101)) (by decide)) (He.glo_ok fx.X fx.G (fx.at_ 102)) (jk_cons (v_ cf 0) jk_nil)) ja_nil))) ja_nil)))))))))))))))))))))))
theorem ok__law_made (fx : Fx K mg base) : FnX PW w (SS fx) mg base 3 d__law_made P__law_made m__law_made := by
  obtain ⟨fd, F⟩ := fx.q.def_ 24 (d := d__law_made) rfl
  exact ⟨fd, F, fn_ofG (S := SS fx) (N := N__law_made) F ⟨rfl, rfl, rfl, by decide +kernel, rfl, by decide +kernel, by decide +kernel⟩ fn_run fun C ok e1 e2 e3 e4 e5 e6 e7 e8 hfn hp _ _ _ => j__law_made fx ⟨ok, e1, e2, e3, e4, e5, e6, e7, e8⟩ hfn hp⟩

theorem B__law_made_1 : Bnd d__law_made P__law_made 1 [] [(0, 0)] [] := ⟨by decide, rfl, rfl, fun _ _ _ => .nil, .inl ⟨rfl, fun _ _ _ _ _ _ us ws h1 h2 => match us, ws, h1, h2 with
  | [_], [], _, _ => rfl⟩⟩
noncomputable def b__law_kind_1 : SM :=
    (sSet 1 (eLst (aCons (eCB (gIsiX 0 TAB XC) (aCons (eVar 0) (aCons (eC (.cl 0)) aNil))) (aCons (eCB (gIsiX 0 TAB XC) (aCons (eVar 0) (aCons (eC (.cl 1)) aNil))) (aCons (eCB (gIsiX 0 TAB XC) (aCons (eVar 0) (aCons (eC (.cl 2)) aNil))) aNil)))))
noncomputable def b__law_kind_2 : SM :=
    (sSet 1 (eOp opAddL (eVar 1) (eLst (aCons (eCB (gIsiX 0 TAB XC) (aCons (eVar 0) (aCons (eC (.cl 3)) aNil))) (aCons (eCB (gIsiX 0 TAB XC) (aCons (eVar 0) (aCons (eC (.cl 4)) aNil))) (aCons (eCB (gIsiX 0 TAB XC) (aCons (eVar 0) (aCons (eC (.cl 5)) aNil))) aNil))))))
noncomputable def b__law_kind_3 : SM :=
    (sSet 1 (eOp opAddL (eVar 1) (eLst (aCons (eCB (gIsiX 0 TAB XC) (aCons (eVar 0) (aCons (eC (.cl 6)) aNil))) (aCons (eCB (gIsiX 0 TAB XC) (aCons (eVar 0) (aCons (eC (.cl 7)) aNil))) (aCons (eCB (gIsiX 0 TAB XC) (aCons (eVar 0) (aCons (eC (.cl 8)) aNil))) aNil))))))
noncomputable def b__law_kind_4 : SM :=
    (sSet 1 (eOp opAddL (eVar 1) (eLst (aCons (eCB (gIsiX 0 TAB XC) (aCons (eVar 0) (aCons (eC (.cl 9)) aNil))) (aCons (eCB (gIsiX 0 TAB XC) (aCons (eVar 0) (aCons (eC (.cl 10)) aNil))) (aCons (eCB (gIsiX 0 TAB XC) (aCons (eVar 0) (aCons (eC (.cl 11)) aNil))) aNil))))))
noncomputable def b__law_kind_5 : SM :=
    (sSet 1 (eOp opAddL (eVar 1) (eLst (aCons (eCB (gIsiX 0 TAB XC) (aCons (eVar 0) (aCons (eC (.cl 12)) aNil))) (aCons (eCB (gIsiX 0 TAB XC) (aCons (eVar 0) (aCons (eC (.cl 13)) aNil))) (aCons (eCB (gIsiX 0 TAB XC) (aCons (eVar 0) (aCons (eC (.cl 14)) aNil))) aNil))))))
noncomputable def b__law_kind_6 : SM :=
    (sSet 1 (eOp opAddL (eVar 1) (eLst (aCons (eCB (gIsiX 0 TAB XC) (aCons (eVar 0) (aCons (eC (.cl 15)) aNil))) (aCons (eCB (gIsiX 0 TAB XC) (aCons (eVar 0) (aCons (eC (.cl 16)) aNil))) (aCons (eCB (gIsiX 0 TAB XC) (aCons (eVar 0) (aCons (eC (.cl 17)) aNil))) aNil))))))
noncomputable def b__law_kind_7 : SM :=
    (sSet 1 (eOp opAddL (eVar 1) (eLst (aCons (eCB (gIsiX 0 TAB XC) (aCons (eVar 0) (aCons (eC (.cl 18)) aNil))) (aCons (eCB (gIsiX 0 TAB XC) (aCons (eVar 0) (aCons (eC (.cl 19)) aNil))) (aCons (eCB (gIsiX 0 TAB XC) (aCons (eVar 0) (aCons (eC (.cl 20)) aNil))) aNil))))))
noncomputable def b__law_kind_8 : SM :=
    (sSet 1 (eOp opAddL (eVar 1) (eLst (aCons (eCB (gIsiX 0 TAB XC) (aCons (eVar 0) (aCons (eC (.cl 21)) aNil))) (aCons (eCB (gIsiX 0 TAB XC) (aCons (eVar 0) (aCons (eC (.cl 22)) aNil))) (aCons (eCB (gIsiX 0 TAB XC) (aCons (eVar 0) (aCons (eC (.cl 23)) aNil))) aNil))))))
noncomputable def b__law_kind_9 : SM :=
    (sSet 2 (eLst (aCons (eCB (gIsiX 0 TAB XC) (aCons (eVar 0) (aCons (eC (.cl 24)) aNil))) (aCons (eCB (gIsiX 0 TAB XC) (aCons (eVar 0) (aCons (eC (.cl 25)) aNil))) (aCons (eCB (gIsiX 0 TAB XC) (aCons (eVar 0) (aCons (eC (.cl 26)) aNil))) aNil)))))
noncomputable def b__law_kind_10 : SM :=
    (sSet 3 (eLst (aCons (eCB (gIsiX 0 TAB XC) (aCons (eVar 0) (aCons (eC (.ty "ValueError")) aNil))) (aCons (eCB (gIsiX 0 TAB XC) (aCons (eVar 0) (aCons (eC (.ty "LookupError")) aNil))) (aCons (eCB (gIsiX 0 TAB XC) (aCons (eVar 0) (aCons (eC (.ty "ArithmeticError")) aNil))) aNil)))))
noncomputable def b__law_kind_11 : SM :=
    (sIf (bOr (bE (eOp opNe (eLM fCountB (eVar 1) (aCons (eC (.bl true)) aNil)) (eC (.int 1)))) (bE (eOp opNe (eVar 3) (eVar 2)))) (sRet (eOp opSub (eC (.int 0)) (eC (.int 1)))) sNext)
noncomputable def b__law_kind_12 : SM :=
    (sSet 4 (eLM fIndexB (eVar 1) (aCons (eC (.bl true)) aNil)))
noncomputable def b__law_kind_13 : SM :=
    (sRet (eIf (bE (eOp opEq (eVar 2) (eLst (aCons (eOp opLt (eVar 4) (eC (.int 14))) (aCons (eChain opLt opLt (eC (.int 13)) (eVar 4) (eC (.int 20))) (aCons (eOp opGt (eVar 4) (eC (.int 19))) aNil)))))) (eVar 4) (eOp opSub (eC (.int 0)) (eC (.int 1)))))
noncomputable def b__law_kind : SM :=
    (sSeq b__law_kind_1
    (sSeq b__law_kind_2
    (sSeq b__law_kind_3
    (sSeq b__law_kind_4
    (sSeq b__law_kind_5
    (sSeq b__law_kind_6
    (sSeq b__law_kind_7
    (sSeq b__law_kind_8
    (sSeq b__law_kind_9
    (sSeq b__law_kind_10
    (sSeq b__law_kind_11
    (sSeq b__law_kind_12
    b__law_kind_13))))))))))))
noncomputable def m__law_kind : List T → Hm → R T := run 5 b__law_kind
theorem j__law_kind (fx : Fx K mg base) {C : RC} (cf : Cf C PW w (SS fx) mg base N__law_kind (defScope s__law_kind) 0) (hfn : ∀ y, C.X.fn y = true) (hp : PassesOwn (model C.X.prog C.X.w) C.X.A C.X.env C.X.xe) : JSs C (defBody s__law_kind) b__law_kind :=
    (jss_cons (set_ cf 1 (je_lst (ja_cons (cb_ cf (isiX_ cf (fx_is fx) (fx_xi fx)) (He.free_ok fx.X fx.G (fx.at_ 109)) (ja_cons (v_ cf 0) (ja_cons (cl_ cf 0 (He.glo_ok fx.X fx.G (fx.at_ 20))) ja_nil))) (ja_cons (cb_ cf (isiX_ cf (fx_is fx) (fx_xi fx)) (He.free_ok fx.X fx.G (fx.at_ 109)) (ja_cons (v_ cf 0) (ja_cons (cl_ cf 1 (He.glo_ok fx.X fx.G (fx.at_ 16))) ja_nil))) (ja_cons (cb_ cf (isiX_ cf (fx_is fx) (fx_xi fx)) (He.free_ok fx.X fx.G (fx.at_ 109)) (ja_cons (v_ cf 0) (ja_cons (cl_ cf 2 (He.glo_ok fx.X fx.G (fx.at_ 24))) ja_nil))) ja_nil)))))
    (jss_cons (set_ cf 1 (je_op (op_addL cf.ok) (v_ cf 1) (je_lst (ja_cons (cb_ cf (isiX_ cf (fx_is fx) (fx_xi fx)) (He.free_ok fx.X fx.G (fx.at_ 109)) (ja_cons (v_ cf 0) (ja_cons (cl_ cf 3 (He.glo_ok fx.X fx.G (fx.at_ 28))) ja_nil))) (ja_cons (cb_ cf (isiX_ cf (fx_is fx) (fx_xi fx)) (He.free_ok fx.X fx.G (fx.at_ 109)) (ja_cons (v_ cf 0) (ja_cons (cl_ cf 4 (He.glo_ok fx.X fx.G (fx.at_ 36))) ja_nil))) (ja_cons (cb_ cf (isiX_ cf (fx_is fx) (fx_xi fx)) (He.free_ok fx.X fx.G (fx.at_ 109)) (ja_cons (v_ cf 0) (ja_cons (cl_ cf 5 (He.glo_ok fx.X fx.G (fx.at_ 32))) ja_nil))) ja_nil))))))
    (jss_cons (set_ cf 1 (je_op (op_addL cf.ok) (v_ cf 1) (je_lst (ja_cons (cb_ cf (isiX_ cf (fx_is fx) (fx_xi fx)) (He.free_ok fx.X fx.G (fx.at_ 109)) (ja_cons (v_ cf 0) (ja_cons (cl_ cf 6 (He.glo_ok fx.X fx.G (fx.at_ 44))) ja_nil))) (ja_cons (cb_ cf (isiX_ cf (fx_is fx) (fx_xi fx)) (He.free_ok fx.X fx.G (fx.at_ 109)) (ja_cons (v_ cf 0) (ja_cons (cl_ cf 7 (He.glo_ok fx.X fx.G (fx.at_ 40))) ja_nil))) (ja_cons (cb_ cf (isiX_ cf (fx_is fx) (fx_xi fx)) (He.free_ok fx.X fx.G (fx.at_ 109)) (ja_cons (v_ cf 0) (ja_cons (cl_ cf 8 (He.glo_ok fx.X fx.G (fx.at_ 52))) ja_nil))) ja_nil))))))
    (jss_cons (set_ cf 1 (je_op (op_addL cf.ok) (v_ cf 1) (je_lst (ja_cons (cb_ cf (isiX_ cf (fx_is fx) (fx_xi fx)) (He.free_ok fx.X fx.G (fx.at_ 109)) (ja_cons (v_ cf 0) (ja_cons (cl_ cf 9 (He.glo_ok fx.X fx.G (fx.at_ 48))) ja_nil))) (ja_cons (cb_ cf (isiX_ cf (fx_is fx) (fx_xi fx)) (He.free_ok fx.X fx.G (fx.at_ 109)) (ja_cons (v_ cf 0) (ja_cons (cl_ cf 10 (He.glo_ok fx.X fx.G (fx.at_ 56))) ja_nil))) (ja_cons (cb_ cf (isiX_ cf (fx_is fx) (fx_xi fx)) (He.free_ok fx.X fx.G (fx.at_ 109)) (ja_cons (v_ cf 0) (ja_cons (cl_ cf 11 (He.glo_ok fx.X fx.G (fx.at_ 60))) ja_nil))) ja_nil))))))
    (jss_cons (set_ cf 1 (je_op (op_addL cf.ok) (v_ cf 1) (je_lst (ja_cons (cb_ cf (isiX_ cf (fx_is fx) (fx_xi fx)) (He.free_ok fx.X fx.G (fx.at_ 109)) (ja_cons (v_ cf 0) (ja_cons (cl_ cf 12 (He.glo_ok fx.X fx.G (fx.at_ 68))) ja_nil))) (ja_cons (cb_ cf (isiX_ cf (fx_is fx) (fx_xi fx)) (He.free_ok fx.X fx.G (fx.at_ 109)) (ja_cons (v_ cf 0) (ja_cons (cl_ cf 13 (He.glo_ok fx.X fx.G (fx.at_ 64))) ja_nil))) (ja_cons (cb_ cf (isiX_ cf (fx_is fx) (fx_xi fx)) (He.free_ok fx.X fx.G (fx.at_ 109)) (ja_cons (v_ cf 0) (ja_cons (cl_ cf 14 (He.glo_ok fx.X fx.G (fx.at_ 76))) ja_nil))) ja_nil))))))
    (jss_cons (set_ cf 1 (je_op (op_addL cf.ok) (v_ cf 1) (je_lst (ja_cons (cb_ cf (isiX_ cf (fx_is fx) (fx_xi fx)) (He.free_ok fx.X fx.G (fx.at_ 109)) (ja_cons (v_ cf 0) (ja_cons (cl_ cf 15 (He.glo_ok fx.X fx.G (fx.at_ 72))) ja_nil))) (ja_cons (cb_ cf (isiX_ cf (fx_is fx) (fx_xi fx)) (He.free_ok fx.X fx.G (fx.at_ 109)) (ja_cons (v_ cf 0) (ja_cons (cl_ cf 16 (He.glo_ok fx.X fx.G (fx.at_ 84))) ja_nil))) (ja_cons (cb_ cf (isiX_ cf (fx_is fx) (fx_xi fx)) (He.free_ok fx.X fx.G (fx.at_ 109)) (ja_cons (v_ cf 0) (ja_cons (cl_ cf 17 (He.glo_ok fx.X fx.G (fx.at_ 80))) ja_nil))) ja_nil))))))
    (jss_cons (set_ cf 1 (je_op (op_addL cf.ok) (v_ cf 1) (je_lst (ja_cons (cb_ cf (isiX_ cf (fx_is fx) (fx_xi fx)) (He.free_ok fx.X fx.G (fx.at_ 109)) (ja_cons (v_ cf 0) (ja_cons (cl_ cf 18 (He.glo_ok fx.X fx.G (fx.at_ 90))) ja_nil))) (ja_cons (cb_ cf (isiX_ cf (fx_is fx) (fx_xi fx)) (He.free_ok fx.X fx.G (fx.at_ 109)) (ja_cons (v_ cf 0) (ja_cons (cl_ cf 19 (He.glo_ok fx.X fx.G (fx.at_ 86))) ja_nil))) (ja_cons (cb_ cf (isiX_ cf (fx_is fx) (fx_xi fx)) (He.free_ok fx.X fx.G (fx.at_ 109)) (ja_cons (v_ cf 0) (ja_cons (cl_ cf 20 (He.glo_ok fx.X fx.G (fx.at_ 98))) ja_nil))) ja_nil))))))
    (jss_cons (set_ cf 1 (je_op (op_addL cf.ok) (v_ cf 1) (je_lst (ja_cons (cb_ cf (isiX_ cf (fx_is fx) (fx_xi fx)) (He.free_ok fx.X fx.G (fx.at_ 109)) (ja_cons (v_ cf 0) (ja_cons (cl_ cf 21 (He.glo_ok fx.X fx.G (fx.at_ 94))) ja_nil))) (ja_cons (cb_ cf (isiX_ cf (fx_is fx) (fx_xi fx)) (He.free_ok fx.X fx.G (fx.at_ 109)) (ja_cons (v_ cf 0) (ja_cons (cl_ cf 22 (He.glo_ok fx.X fx.G (fx.at_ 106))) ja_nil))) (ja_cons (cb_ cf (isiX_ cf (fx_is fx) (fx_xi fx)) (He.free_ok fx.X fx.G (fx.at_ 109)) (ja_cons (v_ cf 0) (ja_cons (cl_ cf 23 (He.glo_ok fx.X fx.G (fx.at_ 102))) ja_nil))) ja_nil))))))
    (jss_cons (set_ cf 2 (je_lst (ja_cons (cb_ cf (isiX_ cf (fx_is fx) (fx_xi fx)) (He.free_ok fx.X fx.G (fx.at_ 109)) (ja_cons (v_ cf 0) (ja_cons (cl_ cf 24 (He.glo_ok fx.X fx.G (fx.at_ 112))) ja_nil))) (ja_cons (cb_ cf (isiX_ cf (fx_is fx) (fx_xi fx)) (He.free_ok fx.X fx.G (fx.at_ 109)) (ja_cons (v_ cf 0) (ja_cons (cl_ cf 25 (He.glo_ok fx.X fx.G (fx.at_ 111))) ja_nil))) (ja_cons (cb_ cf (isiX_ cf (fx_is fx) (fx_xi fx)) (He.free_ok fx.X fx.G (fx.at_ 109)) (ja_cons (v_ cf 0) (ja_cons (cl_ cf 26 (He.glo_ok fx.X fx.G (fx.at_ 110))) ja_nil))) ja_nil)))))
    (jss_cons (set_ cf 3 (je_lst (ja_cons (cb_ cf (isiX_ cf (fx_is fx) (fx_xi fx)) (He.free_ok fx.X fx.G (fx.at_ 109)) (ja_cons (v_ cf 0) (ja_cons (ty_ cf (He.free_ok fx.X fx.G (fx.at_ 115))) ja_nil))) (ja_cons (cb_ cf (isiX_ cf (fx_is fx) (fx_xi fx)) (He.free_ok fx.X fx.G (fx.at_ 109)) (ja_cons (v_ cf 0) (ja_cons (ty_ cf (He.free_ok fx.X fx.G (fx.at_ 114))) ja_nil))) (ja_cons (cb_ cf (isiX_ cf (fx_is fx) (fx_xi fx)) (He.free_ok fx.X fx.G (fx.at_ 109)) (ja_cons (v_ cf 0) (ja_cons (ty_ cf (He.free_ok fx.X fx.G (fx.at_ 113))) ja_nil))) ja_nil)))))
    (jss_cons (js_if (JW.jb (jw_or (jb_cmp (neP_ cf) (cnt_ cf (v_ cf 1) (ja_cons je_bl ja_nil)) je_int (by rfl)) (jw_one (jb_cmp (neP_ cf) (v_ cf 3) (v_ cf 2) (by rfl))))) (jss_one (js_ret (je_op op_subT je_int je_int))) jss_nil)
    (jss_cons (set_ cf 4 (idx_ cf (v_ cf 1) (ja_cons je_bl ja_nil)))
    (jss_one (js_ret (je_if (jb_cmp (eqP_ cf) (v_ cf 2) (je_lst (ja_cons (je_cmp op_ltT' (v_ cf 4) je_int (by rfl)) (ja_cons (je_chain op_ltT' op_ltT' je_int (v_ cf 4) je_int) (ja_cons (je_cmp op_gtT (v_ cf 4) je_int (by rfl)) ja_nil)))) (by rfl)) (v_ cf 4) (je_op op_subT je_int je_int))))))))))))))))
theorem ok__law_kind (fx : Fx K mg base) : FnX PW w (SS fx) mg base 1 d__law_kind P__law_kind m__law_kind := by
  obtain ⟨fd, F⟩ := fx.q.def_ 25 (d := d__law_kind) rfl
  exact ⟨fd, F, fn_ofG (S := SS fx) (N := N__law_kind) F ⟨rfl, rfl, rfl, by decide +kernel, rfl, by decide +kernel, by decide +kernel⟩ fn_run fun C ok e1 e2 e3 e4 e5 e6 e7 e8 hfn hp _ _ _ => j__law_kind fx ⟨ok, e1, e2, e3, e4, e5, e6, e7, e8⟩ hfn hp⟩

theorem B__law_kind_1 : Bnd d__law_kind P__law_kind 1 [] [(0, 0)] [] := ⟨by decide, rfl, rfl, fun _ _ _ => .nil, .inl ⟨rfl, fun _ _ _ _ _ _ us ws h1 h2 => match us, ws, h1, h2 with
  | [_], [], _, _ => rfl⟩⟩
noncomputable def b__law_rare_field_1 : SM :=
    (sIf (bE (eOp opEq (eVar 1) (eC (.int 5)))) (sRet (eXfld [5] 5 (eVar 0))) sNext)
noncomputable def b__law_rare_field_2 : SM :=
    (sIf (bE (eOp opEq (eVar 1) (eC (.int 7)))) (sRet (eXfld [7] 6 (eVar 0))) sNext)
noncomputable def b__law_rare_field_3 : SM :=
    (sIf (bE (eOp opEq (eVar 1) (eC (.int 12)))) (sRet (eXfld [12] 7 (eVar 0))) sNext)
noncomputable def b__law_rare_field_4 : SM :=
    (sRet (eIf (bE (eOp opEq (eVar 1) (eC (.int 17)))) (eXfld [17] 8 (eVar 0)) (eXfld [21] 10 (eVar 0))))
noncomputable def b__law_rare_field : SM :=
    (sSeq b__law_rare_field_1
    (sSeq b__law_rare_field_2
    (sSeq b__law_rare_field_3
    b__law_rare_field_4)))
noncomputable def m__law_rare_field : List T → Hm → R T := run 2 b__law_rare_field
theorem j__law_rare_field (fx : Fx K mg base) {C : RC} (cf : Cf C PW w (SS fx) mg base N__law_rare_field (defScope s__law_rare_field) 0) (hfn : ∀ y, C.X.fn y = true) (hp : PassesOwn (model C.X.prog C.X.w) C.X.A C.X.env C.X.xe) : JSs C (defBody s__law_rare_field) b__law_rare_field :=
    (jss_cons (js_if (jb_cmp (eqP_ cf) (v_ cf 1) je_int (by rfl)) (jss_one (js_ret (xfld_ cf [5] 5 (v_ cf 0) (fx_xfld_arity fx)))) jss_nil)
    (jss_cons (js_if (jb_cmp (eqP_ cf) (v_ cf 1) je_int (by rfl)) (jss_one (js_ret (xfld_ cf [7] 6 (v_ cf 0) (fx_xfld_text fx)))) jss_nil)
    (jss_cons (js_if (jb_cmp (eqP_ cf) (v_ cf 1) je_int (by rfl)) (jss_one (js_ret (xfld_ cf [12] 7 (v_ cf 0) (fx_xfld_deed fx)))) jss_nil)
    (jss_one (js_ret (je_if (jb_cmp (eqP_ cf) (v_ cf 1) je_int (by rfl)) (xfld_ cf [17] 8 (v_ cf 0) (fx_xfld_numbers fx)) (xfld_ cf [21] 10 (v_ cf 0) (fx_xfld_found fx))))))))
theorem ok__law_rare_field (fx : Fx K mg base) : FnX PW w (SS fx) mg base 1 d__law_rare_field P__law_rare_field m__law_rare_field := by
  obtain ⟨fd, F⟩ := fx.q.def_ 26 (d := d__law_rare_field) rfl
  exact ⟨fd, F, fn_ofG (S := SS fx) (N := N__law_rare_field) F ⟨rfl, rfl, rfl, by decide +kernel, rfl, by decide +kernel, by decide +kernel⟩ fn_run fun C ok e1 e2 e3 e4 e5 e6 e7 e8 hfn hp _ _ _ => j__law_rare_field fx ⟨ok, e1, e2, e3, e4, e5, e6, e7, e8⟩ hfn hp⟩

theorem B__law_rare_field_2 : Bnd d__law_rare_field P__law_rare_field 2 [] [(0, 0), (0, 1)] [] := ⟨by decide, rfl, rfl, fun _ _ _ => .nil, .inl ⟨rfl, fun _ _ _ _ _ _ us ws h1 h2 => match us, ws, h1, h2 with
  | [_, _], [], _, _ => rfl⟩⟩
noncomputable def b__law_field_1 : SM :=
    (sIf (bE (eOp opIn (eVar 1) (eTup (aCons (eC (.int 0)) (aCons (eC (.int 16)) aNil))))) (sRet (eXfld [0, 16] 0 (eVar 0))) sNext)
noncomputable def b__law_field_2 : SM :=
    (sIf (bE (eOp opIn (eVar 1) (eTup (aCons (eC (.int 1)) (aCons (eC (.int 22)) aNil))))) (sRet (eXfld [1, 22] 1 (eVar 0))) sNext)
noncomputable def b__law_field_3 : SM :=
    (sIf (bE (eOp opIn (eVar 1) (eTup (aCons (eC (.int 2)) (aCons (eC (.int 8)) aNil))))) (sRet (eXfld [2, 8] 2 (eVar 0))) sNext)
noncomputable def b__law_field_4 : SM :=
    (sIf (bE (eOp opIn (eVar 1) (eTup (aCons (eC (.int 3)) (aCons (eC (.int 6)) (aCons (eC (.int 9)) (aCons (eC (.int 10)) (aCons (eC (.int 11)) (aCons (eC (.int 13)) aNil))))))))) (sRet (eXfld [3, 6, 9, 10, 11, 13] 3 (eVar 0))) sNext)
noncomputable def b__law_field_5 : SM :=
    (sIf (bE (eOp opIn (eVar 1) (eTup (aCons (eC (.int 4)) (aCons (eC (.int 14)) (aCons (eC (.int 15)) (aCons (eC (.int 18)) aNil))))))) (sRet (eXfld [4, 14, 15, 18] 4 (eVar 0))) sNext)
noncomputable def b__law_field_6 : SM :=
    (sIf (bE (eOp opIn (eVar 1) (eTup (aCons (eC (.int 20)) (aCons (eC (.int 23)) aNil))))) (sRet (eXfld [20, 23] 9 (eVar 0))) sNext)
noncomputable def b__law_field_7 : SM :=
    (sRet (eCall 2 (fun xs zs h => m__law_rare_field (arrS [(0, 0), (0, 1)] [] xs zs) h) (aCons (eVar 0) (aCons (eVar 1) aNil))))
noncomputable def b__law_field : SM :=
    (sSeq b__law_field_1
    (sSeq b__law_field_2
    (sSeq b__law_field_3
    (sSeq b__law_field_4
    (sSeq b__law_field_5
    (sSeq b__law_field_6
    b__law_field_7))))))
noncomputable def m__law_field : List T → Hm → R T := run 2 b__law_field
theorem j__law_field (fx : Fx K mg base) {C : RC} (cf : Cf C PW w (SS fx) mg base N__law_field (defScope s__law_field) 1) (hfn : ∀ y, C.X.fn y = true) (hp : PassesOwn (model C.X.prog C.X.w) C.X.A C.X.env C.X.xe) : JSs C (defBody s__law_field) b__law_field :=
    (jss_cons (js_if (jb_cmp (op_inT cf.ok) (v_ cf 1) (je_tup (ja_cons je_int (ja_cons je_int ja_nil))) (by rfl)) (jss_one (js_ret (xfld_ cf [0, 16] 0 (v_ cf 0) (fx_xfld_number fx)))) jss_nil)
    (jss_cons (js_if (jb_cmp (op_inT cf.ok) (v_ cf 1) (je_tup (ja_cons je_int (ja_cons je_int ja_nil))) (by rfl)) (jss_one (js_ret (xfld_ cf [1, 22] 1 (v_ cf 0) (fx_xfld_step fx)))) jss_nil)
    (jss_cons (js_if (jb_cmp (op_inT cf.ok) (v_ cf 1) (je_tup (ja_cons je_int (ja_cons je_int ja_nil))) (by rfl)) (jss_one (js_ret (xfld_ cf [2, 8] 2 (v_ cf 0) (fx_xfld_value fx)))) jss_nil)
    (jss_cons (js_if (jb_cmp (op_inT cf.ok) (v_ cf 1) (je_tup (ja_cons je_int (ja_cons je_int (ja_cons je_int (ja_cons je_int (ja_cons je_int (ja_cons je_int ja_nil))))))) (by rfl)) (jss_one (js_ret (xfld_ cf [3, 6, 9, 10, 11, 13] 3 (v_ cf 0) (fx_xfld_index fx)))) jss_nil)
    (jss_cons (js_if (jb_cmp (op_inT cf.ok) (v_ cf 1) (je_tup (ja_cons je_int (ja_cons je_int (ja_cons je_int (ja_cons je_int ja_nil))))) (by rfl)) (jss_one (js_ret (xfld_ cf [4, 14, 15, 18] 4 (v_ cf 0) (fx_xfld_name fx)))) jss_nil)
    (jss_cons (js_if (jb_cmp (op_inT cf.ok) (v_ cf 1) (je_tup (ja_cons je_int (ja_cons je_int ja_nil))) (by rfl)) (jss_one (js_ret (xfld_ cf [20, 23] 9 (v_ cf 0) (fx_xfld_count fx)))) jss_nil)
    (jss_one (js_ret (call_ cf (FnX.ca (ok__law_rare_field (w := w) fx) cf B__law_rare_field_2 (by decide)) (He.glo_ok fx.X fx.G (fx.at_ 140)) (ja_cons (v_ cf 0) (ja_cons (v_ cf 1) ja_nil)))))))))))
theorem ok__law_field (fx : Fx K mg base) : FnX PW w (SS fx) mg base 2 d__law_field P__law_field m__law_field := by
  obtain ⟨fd, F⟩ := fx.q.def_ 27 (d := d__law_field) rfl
  exact ⟨fd, F, fn_ofG (S := SS fx) (N := N__law_field) F ⟨rfl, rfl, rfl, by decide +kernel, rfl, by decide +kernel, by decide +kernel⟩ fn_run fun C ok e1 e2 e3 e4 e5 e6 e7 e8 hfn hp _ _ _ => j__law_field fx ⟨ok, e1, e2, e3, e4, e5, e6, e7, e8⟩ hfn hp⟩

theorem B__law_field_2 : Bnd d__law_field P__law_field 2 [] [(0, 0), (0, 1)] [] := ⟨by decide, rfl, rfl, fun _ _ _ => .nil, .inl ⟨rfl, fun _ _ _ _ _ _ us ws h1 h2 => match us, ws, h1, h2 with
  | [_, _], [], _, _ => rfl⟩⟩
noncomputable def b__law_right_1b_1b_1_e1 : ET :=
    (eCall 1 (fun xs zs h => m__law_kind (arrS [(0, 0)] [] xs zs) h) (aCons (eVar 4) aNil))
noncomputable def b__law_right_1b_1b_1 : SM :=
    (sIf (bE (eOp opNe (eLc [4] (iVal (eVar 3)) (gNm 4) bYes b__law_right_1b_1b_1_e1) (eOp opMulL (eLst (aCons (eVar 2) aNil)) (eC (.int 2))))) (sRet (eC (.bl false))) sNext)
noncomputable def b__law_right_1b_1b_2_e1 : ET :=
    (eOp opEq (eCall 2 (fun xs zs h => m__law_field (arrS [(0, 0), (0, 1)] [] xs zs) h) (aCons (eVar 4) (aCons (eVar 2) aNil))) (eVar 1))
noncomputable def b__law_right_1b_1b_2 : SM :=
    (sIf (bAnd (bE (eOp opNe (eVar 2) (eC (.int 19)))) (bNot (bE (eCB gAll (aCons (eLc [4] (iVal (eVar 3)) (gNm 4) bYes b__law_right_1b_1b_2_e1) aNil))))) (sRet (eC (.bl false))) sNext)
noncomputable def b__law_right_1b_1b : SM :=
    (sSeq b__law_right_1b_1b_1
    b__law_right_1b_1b_2)
noncomputable def b__law_right_1b : SM :=
    (sFor (iEnumA (aCons (eCall 1 (fun xs zs h => m__law_made (arrS [(0, 0)] [] xs zs) h) (aCons (eVar 1) aNil)) aNil)) (gTp 2 (gsCons (gNm 2) (gsCons (gNm 3) gsNil))) b__law_right_1b_1b)
noncomputable def b__law_right_1 : SM :=
    (sFor (iVal (eLst (aCons (eC .non) (aCons (eCall 2 (fun xs zs h => m__law_draw (arrS [(0, 0), (0, 1)] [] xs zs) h) (aCons (eVar 0) (aCons (eOp opPow (eC (.int 10)) (eC (.int 60))) aNil))) (aCons (eC (.str "word")) (aCons (eTup (aCons (eC (.int 0)) (aCons (eTup (aCons (eC (.int 1)) aNil)) aNil))) (aCons (eOp opSub (eC (.int 0)) (eCall 2 (fun xs zs h => m__law_draw (arrS [(0, 0), (0, 1)] [] xs zs) h) (aCons (eVar 0) (aCons (eC (.int 50)) aNil)))) aNil))))))) (gNm 1) b__law_right_1b)
noncomputable def b__law_right_2 : SM :=
    (sRet (eC (.bl true)))
noncomputable def b__law_right : SM :=
    (sSeq b__law_right_1
    b__law_right_2)
noncomputable def m__law_right : List T → Hm → R T := run 5 b__law_right
theorem j__law_right (fx : Fx K mg base) {C : RC} (cf : Cf C PW w (SS fx) mg base N__law_right (defScope s__law_right) 3) (hfn : ∀ y, C.X.fn y = true) (hp : PassesOwn (model C.X.prog C.X.w) C.X.A C.X.env C.X.xe) : JSs C (defBody s__law_right) b__law_right :=
    (jss_cons (js_for hp cf.ok (ji_val cf.ok (je_lst (ja_cons je_non (ja_cons (call_ cf (FnX.ca (ok__law_draw (w := w) fx) cf B__law_draw_2 (by decide)) (He.glo_ok fx.X fx.G (fx.at_ 12)) (ja_cons (v_ cf 0) (ja_cons (je_op op_powT je_int je_int) ja_nil))) (ja_cons je_str (ja_cons (je_tup (ja_cons je_int (ja_cons (je_tup (ja_cons je_int ja_nil)) ja_nil))) (ja_cons (je_op op_subT je_int (call_ cf (FnX.ca (ok__law_draw (w := w) fx) cf B__law_draw_2 (by decide)) (He.glo_ok fx.X fx.G (fx.at_ 12)) (ja_cons (v_ cf 0) (ja_cons je_int ja_nil)))) ja_nil))))))) (gnmC_ cf hfn 1) (jss_one (js_for hp cf.ok (enA_ cf (He.free_ok fx.X fx.G (fx.at_ 108)) (ja_cons (call_ cf (FnX.ca (ok__law_made (w := w) fx) cf B__law_made_1 (by decide)) (He.glo_ok fx.X fx.G (fx.at_ 107)) (ja_cons (v_ cf 1) ja_nil)) ja_nil)) (jg_tup cf.ok (jgs_cons (gnmC_ cf hfn 2) (jgs_cons (gnm_ cf 3) jgs_nil))) (jss_cons (js_if (jb_cmp (neP_ cf) (lc_ cf [("_law_e", 4)] (ji_val cf.ok (v_ cf 3)) (sim_name (by decide)) (fun _ c1 hc1 => (pgn_ c1 4)) (fun _ c1 => jts_nil) (fun _ c1 => (call_ c1 (FnX.ca (ok__law_kind (w := w) fx) c1 B__law_kind_1 (by decide)) (He.glo_ok fx.X fx.G (fx.at_ 116)) (ja_cons (v_ c1 4) ja_nil)))) (je_op (op_mulL cf.ok) (je_lst (ja_cons (v_ cf 2) ja_nil)) je_int) (by rfl)) (jss_one (js_ret je_bl)) jss_nil)
    (jss_one (js_if (JW.jb (jw_and (jb_cmp (neP_ cf) (v_ cf 2) je_int (by rfl)) (jw_one (jb_not (jb_val (cb_ cf (ca_all cf.ok) (He.free_ok fx.X fx.G (fx.at_ 142)) (ja_cons (lc_ cf [("_law_e", 4)] (ji_val cf.ok (v_ cf 3)) (sim_name (by decide)) (fun _ c1 hc1 => (pgn_ c1 4)) (fun _ c1 => jts_nil) (fun _ c1 => (je_cmp (eqP_ c1) (call_ c1 (FnX.ca (ok__law_field (w := w) fx) c1 B__law_field_2 (by decide)) (He.glo_ok fx.X fx.G (fx.at_ 141)) (ja_cons (v_ c1 4) (ja_cons (v_ c1 2) ja_nil))) (v_ c1 1) (by rfl)))) ja_nil))))))) (jss_one (js_ret je_bl)) jss_nil))))))
    (jss_one (js_ret je_bl)))
theorem ok__law_right (fx : Fx K mg base) : FnX PW w (SS fx) mg base 4 d__law_right P__law_right m__law_right := by
  obtain ⟨fd, F⟩ := fx.q.def_ 28 (d := d__law_right) rfl
  exact ⟨fd, F, fn_ofG (S := SS fx) (N := N__law_right) F ⟨rfl, rfl, rfl, by decide +kernel, rfl, by decide +kernel, by decide +kernel⟩ fn_run fun C ok e1 e2 e3 e4 e5 e6 e7 e8 hfn hp _ _ _ => j__law_right fx ⟨ok, e1, e2, e3, e4, e5, e6, e7, e8⟩ hfn hp⟩

theorem B__law_right_1 : Bnd d__law_right P__law_right 1 [] [(0, 0)] [] := ⟨by decide, rfl, rfl, fun _ _ _ => .nil, .inl ⟨rfl, fun _ _ _ _ _ _ us ws h1 h2 => match us, ws, h1, h2 with
  | [_], [], _, _ => rfl⟩⟩
noncomputable def b__law_pool_1 : SM :=
    (sSet 1 (eIf (bOr (bE (eOp opLt (eVar 0) (eC (.int 0)))) (bE (eOp opGe (eVar 0) (eOp opPow (eC (.int 10)) (eC (.int 18)))))) (eCB gAbs (aCons (eVar 0) aNil)) (eC (.int 0))))
noncomputable def b__law_pool_2 : SM :=
    (sRet (eLstM (aCons (eOp opMod (eVar 0) (eC (.int 2147483323))) (aCons (eVar 1) (aCons (eC (.int 0)) aNil)))))
noncomputable def b__law_pool : SM :=
    (sSeq b__law_pool_1
    b__law_pool_2)
noncomputable def m__law_pool : List T → Hm → R T := run 2 b__law_pool
theorem j__law_pool (fx : Fx K mg base) {C : RC} (cf : Cf C PW w (SS fx) mg base N__law_pool (defScope s__law_pool) 0) (hfn : ∀ y, C.X.fn y = true) (hp : PassesOwn (model C.X.prog C.X.w) C.X.A C.X.env C.X.xe) : JSs C (defBody s__law_pool) b__law_pool :=
    (jss_cons (set_ cf 1 (je_if (JW.jb (jw_or (jb_cmp op_ltT' (v_ cf 0) je_int (by rfl)) (jw_one (jb_cmp op_geT (v_ cf 0) (je_op op_powT je_int je_int) (by rfl))))) (cb_ cf ca_abs (He.free_ok fx.X fx.G (fx.at_ 143)) (ja_cons (v_ cf 0) ja_nil)) je_int))
    (jss_one (js_ret (je_lstM (ja_cons (je_op op_modT (v_ cf 0) je_int) (ja_cons (v_ cf 1) (ja_cons je_int ja_nil)))))))
theorem ok__law_pool (fx : Fx K mg base) : FnX PW w (SS fx) mg base 1 d__law_pool P__law_pool m__law_pool := by
  obtain ⟨fd, F⟩ := fx.q.def_ 29 (d := d__law_pool) rfl
  exact ⟨fd, F, fn_ofG (S := SS fx) (N := N__law_pool) F ⟨rfl, rfl, rfl, by decide +kernel, rfl, by decide +kernel, by decide +kernel⟩ fn_run fun C ok e1 e2 e3 e4 e5 e6 e7 e8 hfn hp _ _ _ => j__law_pool fx ⟨ok, e1, e2, e3, e4, e5, e6, e7, e8⟩ hfn hp⟩

theorem B__law_pool_1 : Bnd d__law_pool P__law_pool 1 [] [(0, 0)] [] := ⟨by decide, rfl, rfl, fun _ _ _ => .nil, .inl ⟨rfl, fun _ _ _ _ _ _ us ws h1 h2 => match us, ws, h1, h2 with
  | [_], [], _, _ => rfl⟩⟩
noncomputable def b__law_cell_1 : SM :=
    (sIf (bE (eOp opLt (eVar 1) (eCB (gLenK (fun _ => none)) (aCons (eVar 0) aNil)))) (sRet (eOp opIx (eVar 0) (eVar 1))) sNext)
noncomputable def b__law_cell_2 : SM :=
    (sSet 2 (eOp opMod (eOp opMul (eC (.int 70001)) (eOp opAdd (eOp opAddL (eOp opMulL (eVar 1) (eVar 1)) (eOp opMul (eC (.int 7)) (eVar 1))) (eC (.int 5)))) (eC (.int 2147483323))))
noncomputable def b__law_cell_3b : SM :=
    (sSet 2 (eOp opMod (eOp opAddL (eOp opMulL (eVar 2) (eC (.int 42043))) (eVar 3)) (eC (.int 2147483323))))
noncomputable def b__law_cell_3 : SM :=
    (sFor (iVal (eSl (eVar 0) oNone (oSome (eC (.int 3))))) (gNm 3) b__law_cell_3b)
noncomputable def b__law_cell_4 : SM :=
    (sRet (eVar 2))
noncomputable def b__law_cell : SM :=
    (sSeq b__law_cell_1
    (sSeq b__law_cell_2
    (sSeq b__law_cell_3
    b__law_cell_4)))
noncomputable def m__law_cell : List T → Hm → R T := run 4 b__law_cell
theorem j__law_cell (fx : Fx K mg base) {C : RC} (cf : Cf C PW w (SS fx) mg base N__law_cell (defScope s__law_cell) 1) (hfn : ∀ y, C.X.fn y = true) (hp : PassesOwn (model C.X.prog C.X.w) C.X.A C.X.env C.X.xe) : JSs C (defBody s__law_cell) b__law_cell :=
    (jss_cons (js_if (jb_cmp op_ltT' (v_ cf 1) (cb_ cf (len_ cf (du_none (j := 0)) (by decide)) (He.free_ok fx.X fx.G (fx.at_ 7)) (ja_cons (v_ cf 0) ja_nil)) (by rfl)) (jss_one (js_ret (je_ix cf.ok (v_ cf 0) (v_ cf 1)))) jss_nil)
    (jss_cons (set_ cf 2 (je_op op_modT (je_op op_mulT je_int (je_op op_addT (je_op (op_addL cf.ok) (je_op (op_mulL cf.ok) (v_ cf 1) (v_ cf 1)) (je_op op_mulT je_int (v_ cf 1))) je_int)) je_int))
    (jss_cons (js_for hp cf.ok (ji_val cf.ok (je_sl cf.ok (v_ cf 0) jo_none (jo_some je_int))) (gnm_ cf 3) (jss_one (set_ cf 2 (je_op op_modT (je_op (op_addL cf.ok) (je_op (op_mulL cf.ok) (v_ cf 2) je_int) (v_ cf 3)) je_int))))
    (jss_one (js_ret (v_ cf 2))))))
theorem ok__law_cell (fx : Fx K mg base) : FnX PW w (SS fx) mg base 2 d__law_cell P__law_cell m__law_cell := by
  obtain ⟨fd, F⟩ := fx.q.def_ 30 (d := d__law_cell) rfl
  exact ⟨fd, F, fn_ofG (S := SS fx) (N := N__law_cell) F ⟨rfl, rfl, rfl, by decide +kernel, rfl, by decide +kernel, by decide +kernel⟩ fn_run fun C ok e1 e2 e3 e4 e5 e6 e7 e8 hfn hp _ _ _ => j__law_cell fx ⟨ok, e1, e2, e3, e4, e5, e6, e7, e8⟩ hfn hp⟩

theorem B__law_cell_2 : Bnd d__law_cell P__law_cell 2 [] [(0, 0), (0, 1)] [] := ⟨by decide, rfl, rfl, fun _ _ _ => .nil, .inl ⟨rfl, fun _ _ _ _ _ _ us ws h1 h2 => match us, ws, h1, h2 with
  | [_, _], [], _, _ => rfl⟩⟩
noncomputable def b_law_1 : SM :=
    (sSet 1 (eLst (aCons (eC (.int 24)) (aCons (eC (.int 40)) (aCons (eC (.int 1000000000000000000000000000000000000000000000000000000000000)) (aCons (eC (.int 40)) (aCons (eC (.int 20)) (aCons (eC (.int 1000000000000000000000000000000)) aNil))))))))
noncomputable def b_law_2 : SM :=
    (sIf (bE (eOp opNe (eCB (gRepr (fun _ => none)) (aCons (eVar 1) aNil)) (eCB (gRepr (fun _ => none)) (aCons (eLst (aCons (eC (.int 24)) (aCons (eC (.int 40)) (aCons (eOp opPow (eC (.int 10)) (eC (.int 60))) (aCons (eC (.int 40)) (aCons (eC (.int 20)) (aCons (eOp opPow (eC (.int 10)) (eC (.int 30))) aNil))))))) aNil)))) (sRet (eC (.bl false))) sNext)
noncomputable def b_law_3_e1 : ET :=
    (eCall 1 (fun xs zs h => m__law_right (arrS [(0, 0)] [] xs zs) h) (aCons (eCall 1 (fun xs zs h => m__law_pool (arrS [(0, 0)] [] xs zs) h) (aCons (eCall 2 (fun xs zs h => m__law_cell (arrS [(0, 0), (0, 1)] [] xs zs) h) (aCons (eVar 0) (aCons (eVar 2) aNil))) aNil)) aNil))
noncomputable def b_law_3 : SM :=
    (sRet (eCB gAll (aCons (eLc [2] (iRg1 (aCons (eCB gMax (aCons (eC (.int 2)) (aCons (eCB gMin (aCons (eC (.int 4)) (aCons (eCB (gLenK (fun _ => none)) (aCons (eVar 0) aNil)) aNil))) aNil))) aNil)) (gNm 2) bYes b_law_3_e1) aNil)))
noncomputable def b_law : SM :=
    (sSeq b_law_1
    (sSeq b_law_2
    b_law_3))
noncomputable def m_law : List T → Hm → R T := run 3 b_law
theorem j_law (fx : Fx K mg base) {C : RC} (cf : Cf C PW w (SS fx) mg base N_law (defScope s_law) 100) (hfn : ∀ y, C.X.fn y = true) (hp : PassesOwn (model C.X.prog C.X.w) C.X.A C.X.env C.X.xe) : JSs C (defBody s_law) b_law :=
    (jss_cons (set_ cf 1 (je_lst (ja_cons (let ⟨_, hm⟩ := gint_ok fx.X fx.G (fx.at_ 5); gint_ cf hm) (ja_cons (let ⟨_, hm⟩ := gint_ok fx.X fx.G (fx.at_ 4); gint_ cf hm) (ja_cons (let ⟨_, hm⟩ := gint_ok fx.X fx.G (fx.at_ 3); gint_ cf hm) (ja_cons (let ⟨_, hm⟩ := gint_ok fx.X fx.G (fx.at_ 2); gint_ cf hm) (ja_cons (let ⟨_, hm⟩ := gint_ok fx.X fx.G (fx.at_ 1); gint_ cf hm) (ja_cons (let ⟨_, hm⟩ := gint_ok fx.X fx.G (fx.at_ 0); gint_ cf hm) ja_nil))))))))
    (jss_cons (js_if (jb_cmp (neP_ cf) (cb_ cf (repr_ cf (du_none (j := 0)) (by decide) (by decide)) (He.free_ok fx.X fx.G (fx.at_ 6)) (ja_cons (v_ cf 1) ja_nil)) (cb_ cf (repr_ cf (du_none (j := 0)) (by decide) (by decide)) (He.free_ok fx.X fx.G (fx.at_ 6)) (ja_cons (je_lst (ja_cons je_int (ja_cons je_int (ja_cons (je_op op_powT je_int je_int) (ja_cons je_int (ja_cons je_int (ja_cons (je_op op_powT je_int je_int) ja_nil))))))) ja_nil)) (by rfl)) (jss_one (js_ret je_bl)) jss_nil)
    (jss_one (js_ret (cb_ cf (ca_all cf.ok) (He.free_ok fx.X fx.G (fx.at_ 142)) (ja_cons (lc_ cf [("_law_k", 2)] (rg1_ cf (He.free_ok fx.X fx.G (fx.at_ 10)) (ja_cons (cb_ cf (ca_max cf.ok) (He.free_ok fx.X fx.G (fx.at_ 9)) (ja_cons je_int (ja_cons (cb_ cf (ca_min cf.ok) (He.free_ok fx.X fx.G (fx.at_ 8)) (ja_cons je_int (ja_cons (cb_ cf (len_ cf (du_none (j := 0)) (by decide)) (He.free_ok fx.X fx.G (fx.at_ 7)) (ja_cons (v_ cf 0) ja_nil)) ja_nil))) ja_nil))) ja_nil)) (sim_name (by decide)) (fun _ c1 hc1 => (pgn_ c1 2)) (fun _ c1 => jts_nil) (fun _ c1 => (call_ c1 (FnX.ca (ok__law_right (w := w) fx) c1 B__law_right_1 (by decide)) (He.glo_ok fx.X fx.G (fx.at_ 146)) (ja_cons (call_ c1 (FnX.ca (ok__law_pool (w := w) fx) c1 B__law_pool_1 (by decide)) (He.glo_ok fx.X fx.G (fx.at_ 145)) (ja_cons (call_ c1 (FnX.ca (ok__law_cell (w := w) fx) c1 B__law_cell_2 (by decide)) (He.glo_ok fx.X fx.G (fx.at_ 144)) (ja_cons (v_ c1 0) (ja_cons (v_ c1 2) ja_nil))) ja_nil)) ja_nil)))) ja_nil))))))
theorem ok_law (fx : Fx K mg base) : FnX PW w (SS fx) mg base 101 d_law P_law m_law := by
  obtain ⟨fd, F⟩ := fx.q.def_ 31 (d := d_law) rfl
  exact ⟨fd, F, fn_ofG (S := SS fx) (N := N_law) F ⟨rfl, rfl, rfl, by decide +kernel, rfl, by decide +kernel, by decide +kernel⟩ fn_run fun C ok e1 e2 e3 e4 e5 e6 e7 e8 hfn hp _ _ _ => j_law fx ⟨ok, e1, e2, e3, e4, e5, e6, e7, e8⟩ hfn hp⟩
end
abbrev RR : PySem.W.OpenRow := PySem.W.OpenLaw.row PySem.Challenge.rw_robintrees_k09_limits_and_errors
abbrev hk : PySem.W.Hook := hookR 5 CHK DEFS
def ob (s : PySem.W.SharedT) : He.AlD := obsRG 5 CHK DEFS (HandSHeadRun.getT s)
theorem ob_eq (s : PySem.W.SharedT) : ob s = hk.obs s.abs := obsRG_eq (HandSHeadRun.getT_eq s)
theorem head (w : World) : HandSHeadRun.RunEq RR (PySem.W.view RR.prog [43]) hk ob 20000 (("RobinError" : Str) :: ("InvalidNumber" : Str) :: ("InvalidStep" : Str) :: ("InvalidProgression" : Str) :: ("InvalidProgressions" : Str) :: ("InvalidName" : Str) :: ("InvalidArity" : Str) :: ("InvalidTargets" : Str) :: ("InvalidText" : Str) :: ("InvalidTree" : Str) :: ("InvalidTable" : Str) :: ("InvalidSetting" : Str) :: ("InvalidSightings" : Str) :: ("InvalidDeed" : Str) :: ("InvalidDeeds" : Str) :: ("SearchError" : Str) :: ("UnknownName" : Str) :: ("NameTaken" : Str) :: ("NotFull" : Str) :: ("Unexplained" : Str) :: ("LastServer" : Str) :: ("NothingToUndo" : Str) :: ("SizeError" : Str) :: ("TooManyNames" : Str) :: ("TooDeep" : Str) :: ("TooLong" : Str) :: ("TooManyRequests" : Str) :: ("_law_cell" : Str) :: ("_law_pool" : Str) :: ("_law_draw" : Str) :: ("_law_kind" : Str) :: ("_law_made" : Str) :: ("_law_field" : Str) :: ("_law_rare_field" : Str) :: ("_law_right" : Str) :: ("MOST_NAMES" : Str) :: ("MOST_DEPTH" : Str) :: ("MOST_STEP" : Str) :: ("MOST_SIGHTINGS" : Str) :: ("MOST_SEEN" : Str) :: ("MOST_NUMBER" : Str) :: ([] : List Str)) w := by
  intro os
  kernel_rfl
end K09
set_option linter.all false
/-! plain arithmetic: Euclid, inverses, common numbers of two progressions -/
namespace PM
/-! ### gcd -/
theorem gcd_mod (a b : Int) : Int.gcd b (a % b) = Int.gcd b a := by
  have := Int.gcd_add_mul_left_right b (a % b) (a / b)
  rw [Int.emod_add_mul_ediv] at this
  exact this.symm
theorem gcd_step {a b : Int} (ha : 0 ≤ a) (hb : 0 < b) : (Int.gcd b (a % b) : Int) = (Int.gcd a b : Int) := by
  rw [gcd_mod, Int.gcd_comm]
theorem gcd_pos {a b : Int} (hb : 0 < b) : 0 < (Int.gcd a b : Int) := by
  have := Int.gcd_pos_of_ne_zero_right a (show b ≠ 0 by omega)
  omega
theorem gcd_dvd_l (a b : Int) : (Int.gcd a b : Int) ∣ a := Int.gcd_dvd_left ..
theorem gcd_dvd_r (a b : Int) : (Int.gcd a b : Int) ∣ b := Int.gcd_dvd_right ..
theorem gcd_le_r {a b : Int} (hb : 0 < b) : (Int.gcd a b : Int) ≤ b := Int.le_of_dvd hb (gcd_dvd_r a b)
theorem gcd_le_l {a b : Int} (ha : 0 < a) : (Int.gcd a b : Int) ≤ a := Int.le_of_dvd ha (gcd_dvd_l a b)
/-! ### the extended one: what holds between two turns -/
/-- |before| and |times| with opposite signs -/
structure Ext (number modulus rest other times before : Int) : Prop where
  r0 : 0 ≤ rest
  ro : rest < other
  o1 : 1 ≤ other
  om : other ≤ modulus
  sg : (0 ≤ before ∧ times ≤ 0 ∧ rest * before - other * times = modulus) ∨ (before ≤ 0 ∧ 0 ≤ times ∧ other * times - rest * before = modulus)
  ct : (number * times - rest) % modulus = 0
  cb : (number * before - other) % modulus = 0
  g : (Int.gcd other rest : Int) = (Int.gcd number modulus : Int)
  bb : -modulus ≤ before ∧ before ≤ modulus
theorem Ext.start {number modulus : Int} (hm : 1 ≤ modulus) : Ext number modulus (number % modulus) modulus 1 0 := by
  have h0 := Int.emod_nonneg number (show modulus ≠ 0 by omega)
  have h1 := Int.emod_lt_of_pos number (show 0 < modulus by omega)
  refine ⟨h0, h1, hm, Int.le_refl _, .inr ⟨by omega, by omega, by simp⟩, ?_, ?_, ?_, by omega⟩
  · rw [Int.mul_one]
    have := Int.emod_add_mul_ediv number modulus
    rw [show number - number % modulus = modulus * (number / modulus) by omega]
    exact Int.mul_emod_right ..
  · simp
  · rw [gcd_mod, Int.gcd_comm]
theorem Ext.bounds {number modulus rest other times before : Int} (e : Ext number modulus rest other times before) : -modulus ≤ times ∧ times ≤ modulus ∧ (rest = 0 ∨ (-modulus ≤ before ∧ before ≤ modulus)) := by
  have o1 := e.o1
  have r0 := e.r0
  have P : ∀ x y : Int, 0 ≤ x → 1 ≤ y → x ≤ y * x := fun x y hx hy => by
    have := Int.mul_le_mul_of_nonneg_right hy hx
    omega
  rcases e.sg with ⟨s1, s2, s3⟩ | ⟨s1, s2, s3⟩
  · have a := P (-times) other (by omega) o1
    rw [Int.mul_neg] at a
    have b := Int.mul_nonneg r0 s1
    refine ⟨by omega, by omega, ?_⟩
    by_cases c : rest = 0
    · exact .inl c
    · have d := P before rest s1 (by omega)
      have o2 : 0 ≤ -(other * times) := by rw [← Int.mul_neg]; exact Int.mul_nonneg (by omega) (by omega)
      exact .inr ⟨by omega, by omega⟩
  · have a := P times other s2 o1
    have b : 0 ≤ -(rest * before) := by rw [← Int.mul_neg]; exact Int.mul_nonneg r0 (by omega)
    refine ⟨by omega, by omega, ?_⟩
    by_cases c : rest = 0
    · exact .inl c
    · have d := P (-before) rest (by omega) (by omega)
      rw [Int.mul_neg] at d
      have o2 : 0 ≤ other * times := Int.mul_nonneg (by omega) (by omega)
      exact .inr ⟨by omega, by omega⟩
theorem Ext.turn {number modulus rest other times before : Int} (e : Ext number modulus rest other times before) (hr : 0 < rest) : Ext number modulus (other - other / rest * rest) rest (before - other / rest * times) times := by
  have q0 : 0 ≤ other / rest := Int.ediv_nonneg (by have := e.o1; omega) (by omega)
  have em : other - other / rest * rest = other % rest := by
    have := Int.emod_add_mul_ediv other rest
    rw [Int.mul_comm (other / rest)]
    omega
  have m0 := Int.emod_nonneg other (show rest ≠ 0 by omega)
  have m1 := Int.emod_lt_of_pos other hr
  have ro := e.ro
  have om := e.om
  refine ⟨by omega, by omega, by omega, by omega, ?_, ?_, e.ct, ?_, e.bounds.1, e.bounds.2.1⟩
  · generalize other / rest = q at *
    rcases e.sg with ⟨s1, s2, s3⟩ | ⟨s1, s2, s3⟩
    · refine .inr ⟨s2, ?_, ?_⟩
      · have : q * times ≤ 0 := Int.mul_nonpos_of_nonneg_of_nonpos q0 s2
        omega
      · rw [← s3, Int.mul_sub, Int.sub_mul, Int.mul_assoc q rest times, ← Int.mul_assoc rest q times, Int.mul_comm rest q, Int.mul_assoc q rest times]
        omega
    · refine .inl ⟨s2, ?_, ?_⟩
      · have : 0 ≤ q * times := Int.mul_nonneg q0 s2
        omega
      · rw [← s3, Int.mul_sub, Int.sub_mul, Int.mul_assoc q rest times, ← Int.mul_assoc rest q times, Int.mul_comm rest q, Int.mul_assoc q rest times]
        omega
  · generalize other / rest = q at *
    have a1 := Int.dvd_of_emod_eq_zero e.cb
    have a2 := Int.dvd_of_emod_eq_zero e.ct
    refine Int.emod_eq_zero_of_dvd ?_
    have : number * (before - q * times) - (other - q * rest) = (number * before - other) - q * (number * times - rest) := by
      rw [Int.mul_sub, Int.mul_sub, ← Int.mul_assoc number q times, Int.mul_comm number q, Int.mul_assoc q number times]
      omega
    rw [this]
    exact Int.dvd_sub a1 (Int.dvd_trans a2 (Int.dvd_mul_left _ _))
  · rw [em, gcd_step (by have := e.o1; omega) hr]
    exact e.g
theorem Ext.done {number modulus other times before : Int} (e : Ext number modulus 0 other times before) : (number * before - (Int.gcd number modulus : Int)) % modulus = 0 := by
  have g := e.g
  have o : (Int.gcd other 0 : Int) = other := by rw [Int.gcd_zero_right]; have := e.o1; omega
  rw [o] at g
  rw [← g]
  exact e.cb
/-! ### common numbers of two progressions -/
/-- the common numbers: t is the one below the other's part -/
theorem meet_fits {a1 p1 a2 p2 t iv : Int} (h1 : 0 < p1) (h2 : 0 < p2) (hg : (a2 - a1) % (Int.gcd p1 p2 : Int) = 0)
    (hi : ((p1 / (Int.gcd p1 p2 : Int)) * iv - 1) % (p2 / (Int.gcd p1 p2 : Int)) = 0) (ht : t = (a2 - a1) / (Int.gcd p1 p2 : Int) * iv % (p2 / (Int.gcd p1 p2 : Int))) :
    (a1 + p1 * t - a2) % p2 = 0 := by
  have gp : 0 < (Int.gcd p1 p2 : Int) := gcd_pos h2
  obtain ⟨m1, e1⟩ := gcd_dvd_l p1 p2
  obtain ⟨m2, e2⟩ := gcd_dvd_r p1 p2
  obtain ⟨d, e3⟩ := Int.dvd_of_emod_eq_zero hg
  generalize (Int.gcd p1 p2 : Int) = g at *
  have q1 : p1 / g = m1 := by rw [e1]; exact Int.mul_ediv_cancel_left _ (by omega)
  have q2 : p2 / g = m2 := by rw [e2]; exact Int.mul_ediv_cancel_left _ (by omega)
  have q3 : (a2 - a1) / g = d := by rw [e3]; exact Int.mul_ediv_cancel_left _ (by omega)
  rw [q1, q2] at hi
  rw [q2, q3] at ht
  have k := Int.emod_add_mul_ediv (d * iv) m2
  rw [← ht] at k
  generalize (d * iv) / m2 = u at k
  obtain ⟨x, ex⟩ := Int.dvd_of_emod_eq_zero hi
  refine Int.emod_eq_zero_of_dvd ⟨d * x - m1 * u, ?_⟩
  have ea : a1 - a2 = -(g * d) := by omega
  have e5 : t = d * iv - m2 * u := by omega
  calc a1 + p1 * t - a2 = g * m1 * (d * iv - m2 * u) - g * d := by rw [e1, e5] at *; omega
    _ = g * m2 * (d * x - m1 * u) := by
      have : m1 * iv = m2 * x + 1 := by omega
      have l : g * m1 * (d * iv - m2 * u) = g * d * (m1 * iv) - g * m1 * (m2 * u) := by
        rw [Int.mul_sub]
        congr 1
        rw [Int.mul_assoc, Int.mul_assoc]
        congr 1
        rw [← Int.mul_assoc, Int.mul_comm m1 d, Int.mul_assoc]
      rw [l, this, Int.mul_add, Int.mul_one, Int.mul_sub]
      have l2 : g * d * (m2 * x) = g * m2 * (d * x) := by
        rw [Int.mul_assoc, Int.mul_assoc]; congr 1; rw [← Int.mul_assoc, Int.mul_comm d m2, Int.mul_assoc]
      have l3 : g * m1 * (m2 * u) = g * m2 * (m1 * u) := by
        rw [Int.mul_assoc, Int.mul_assoc]; congr 1; rw [← Int.mul_assoc, Int.mul_comm m1 m2, Int.mul_assoc]
      rw [l2, l3]
      omega
    _ = p2 * (d * x - m1 * u) := by rw [← e2]
theorem part_cop {p1 p2 : Int} (h2 : 0 < p2) : (Int.gcd (p1 / (Int.gcd p1 p2 : Int)) (p2 / (Int.gcd p1 p2 : Int)) : Int) = 1 := by
  have gp : 0 < (Int.gcd p1 p2 : Int) := gcd_pos h2
  obtain ⟨m1, e1⟩ := gcd_dvd_l p1 p2
  obtain ⟨m2, e2⟩ := gcd_dvd_r p1 p2
  have q1 : p1 / (Int.gcd p1 p2 : Int) = m1 := by conv => lhs; lhs; rw [e1]
                                                  exact Int.mul_ediv_cancel_left _ (by omega)
  have q2 : p2 / (Int.gcd p1 p2 : Int) = m2 := by conv => lhs; lhs; rw [e2]
                                                  exact Int.mul_ediv_cancel_left _ (by omega)
  rw [q1, q2]
  have e : (Int.gcd p1 p2 : Int) = (Int.gcd p1 p2 : Int) * (Int.gcd m1 m2 : Int) := by
    have := Int.gcd_mul_left (Int.gcd p1 p2 : Int) m1 m2
    rw [← e1, ← e2, Int.natAbs_natCast] at this
    exact_mod_cast this
  generalize (Int.gcd p1 p2 : Int) = g at *
  have : g * ((Int.gcd m1 m2 : Int) - 1) = 0 := by rw [Int.mul_sub, ← e]; omega
  rcases Int.mul_eq_zero.mp this with z | z <;> omega
/-- a coprime factor is cancelled -/
theorem cop_cancel {m n x : Int} (h : (Int.gcd m n : Int) = 1) (d : n ∣ m * x) : n ∣ x := by
  have h1 : (Int.gcd (m * x) (n * x) : Int) = x.natAbs := by
    rw [Int.gcd_mul_right]
    have : Int.gcd m n = 1 := by exact_mod_cast h
    rw [this]; simp
  have : n ∣ (Int.gcd (m * x) (n * x) : Int) := Int.dvd_coe_gcd d (Int.dvd_mul_right ..)
  rw [h1] at this
  exact Int.dvd_natAbs.mp this
theorem meet_uniq {a1 p1 a2 p2 t t' : Int} (h1 : 0 < p1) (h2 : 0 < p2) (t0 : 0 ≤ t) (t1 : t < p2 / (Int.gcd p1 p2 : Int)) (t0' : 0 ≤ t') (t1' : t' < p2 / (Int.gcd p1 p2 : Int))
    (e : (a1 + p1 * t - a2) % p2 = 0) (e' : (a1 + p1 * t' - a2) % p2 = 0) : t = t' := by
  have cop := part_cop (p1 := p1) h2
  have gp : 0 < (Int.gcd p1 p2 : Int) := gcd_pos h2
  obtain ⟨m1, e1⟩ := gcd_dvd_l p1 p2
  obtain ⟨m2, e2⟩ := gcd_dvd_r p1 p2
  have d := Int.dvd_sub (Int.dvd_of_emod_eq_zero e) (Int.dvd_of_emod_eq_zero e')
  rw [show a1 + p1 * t - a2 - (a1 + p1 * t' - a2) = p1 * (t - t') by rw [Int.mul_sub]; omega] at d
  generalize (Int.gcd p1 p2 : Int) = g at *
  have q1 : p1 / g = m1 := by rw [e1]; exact Int.mul_ediv_cancel_left _ (by omega)
  have q2 : p2 / g = m2 := by rw [e2]; exact Int.mul_ediv_cancel_left _ (by omega)
  rw [q1, q2] at cop
  rw [q2] at t1 t1'
  rw [e1, e2, Int.mul_assoc] at d
  have d2 : m2 ∣ m1 * (t - t') := Int.dvd_of_mul_dvd_mul_left (by omega) d
  obtain ⟨k, ek⟩ := cop_cancel cop d2
  have : k = 0 := by
    rcases Int.lt_trichotomy k 0 with z | z | z
    · have := Int.mul_le_mul_of_nonneg_left (show k ≤ -1 by omega) (show 0 ≤ m2 by omega)
      rw [Int.mul_neg, Int.mul_one] at this
      omega
    · exact z
    · have := Int.mul_le_mul_of_nonneg_left (show 1 ≤ k by omega) (show 0 ≤ m2 by omega)
      rw [Int.mul_one] at this
      omega
  rw [this, Int.mul_zero] at ek
  omega
/-- a number is common exactly if it is the one met, modulo the common step -/
theorem meet_none {a1 p1 a2 p2 v : Int} (h2 : 0 < p2) (hg : (a2 - a1) % (Int.gcd p1 p2 : Int) ≠ 0) (e1 : (v - a1) % p1 = 0) (e2 : (v - a2) % p2 = 0) : False := by
  refine hg (Int.emod_eq_zero_of_dvd ?_)
  have := Int.dvd_sub (Int.dvd_trans (gcd_dvd_l p1 p2) (Int.dvd_of_emod_eq_zero e1)) (Int.dvd_trans (gcd_dvd_r p1 p2) (Int.dvd_of_emod_eq_zero e2))
  rwa [show v - a1 - (v - a2) = a2 - a1 by omega] at this
theorem neg_mod0 {a b g : Int} (h : (a - b) % g = 0) : (b - a) % g = 0 := by
  refine Int.emod_eq_zero_of_dvd ?_
  have := Int.dvd_neg.mpr (Int.dvd_of_emod_eq_zero h)
  rwa [show -(a - b) = b - a by omega] at this
theorem neg_mod {a b g : Int} (h : (a - b) % g ≠ 0) : (b - a) % g ≠ 0 := fun e => h (neg_mod0 e)
end PM
set_option Elab.async false
set_option linter.all false
set_option maxRecDepth 100000
set_option maxHeartbeats 4000000
namespace K09
open PySem RT
/-! ### the pool -/
theorem draw_ok {l k : Nat} {h : Hm} (P : Pool h l k) (hk : k ≤ 1000000) (many : Int) (hm : 0 < many) (hm2 : many ≤ LIMT) :
    ∃ (r : Int) (c : Option Cell), m__law_draw [.ref l, .int many] h = .ok (.int r) (h.set l c) ∧ Pool (h.set l c) l (k + 1) ∧ 0 ≤ r ∧ r < many := by
  obtain ⟨s, d, hl, hs, hs2⟩ := P
  have hg : ∀ c, (h.set l c)[l]? = some c := get_set (List.getElem?_eq_some_iff.mp hl).1
  have hx : ∀ (c : List T) (i : Int), opIx (.ref l) (.int i) (h.set l (some (.lst c))) = ixR c i (h.set l (some (.lst c))) := fun c i => ix_r (hg _) i
  have hx0 := fun i => ix_r hl i
  have f1 : fit s = true := limt hs (by have := limt18; omega)
  have f2 : fit (s % 50023 + 30013) = true := limt (by omega) (by have := limt18; omega)
  have f3 : fit 90017 = true := by decide +kernel
  have f4 : fit ((k : Int) + 1) = true := limt (by omega) (by have := limt18; omega)
  have f5 : fit many = true := limt (by omega) hm2
  have f6 : fit 64 = true := by decide +kernel
  by_cases hd : 0 < d
  · refine ⟨d % many, some (.lst [.int ((s * (s % 50023 + 30013) + 90017 * ((k : Int) + 1)) % 2147483323), .int (d / many), .int ((k : Int) + 1)]), ?_, ⟨_, _, hg _, Int.emod_nonneg _ (by decide), Int.emod_lt_of_pos _ (by decide)⟩, Int.emod_nonneg _ (by omega), Int.emod_lt_of_pos _ hm⟩
    simp [m__law_draw, b__law_draw, b__law_draw_1, b__law_draw_2, b__law_draw_3, b__law_draw_4, b__law_draw_5, b__law_draw_4t_1, b__law_draw_4t_2,  ixR, L2.atI, L2.ixN, hl, hg, hx, hx0, f1, f2, f3, f4, f5, f6, hd, hm]
  · refine ⟨((s * (s % 50023 + 30013) + 90017 * ((k : Int) + 1)) % 2147483323) / 64 % many, some (.lst [.int ((s * (s % 50023 + 30013) + 90017 * ((k : Int) + 1)) % 2147483323), .int d, .int ((k : Int) + 1)]), ?_, ⟨_, _, hg _, Int.emod_nonneg _ (by decide), Int.emod_lt_of_pos _ (by decide)⟩, Int.emod_nonneg _ (by omega), Int.emod_lt_of_pos _ hm⟩
    simp [m__law_draw, b__law_draw, b__law_draw_1, b__law_draw_2, b__law_draw_3, b__law_draw_4, b__law_draw_5, b__law_draw_4t_1, b__law_draw_4t_2,  ixR, L2.atI, L2.ixN, hl, hg, hx, hx0, f1, f2, f3, f4, f5, f6, hd, hm]
/-! ### cells, the pool -/
theorem pool_ok (f : Int) (h : Hm) : ∃ c : Option Cell, m__law_pool [.int f] h = .ok (.ref h.length) (h ++ [c]) ∧ Pool (h ++ [c]) h.length 0 := by
  have P : ∀ d : Int, Pool (h ++ [some (.lst [.int (f % 2147483323), .int d, .int 0])]) h.length 0 := fun d => ⟨_, d, by simp; rfl, Int.emod_nonneg _ (by decide), Int.emod_lt_of_pos _ (by decide)⟩
  have e18 : (10 : Int) ^ 18 = 1000000000000000000 := by decide +kernel
  by_cases c : f < 0 ∨ 10 ^ 18 ≤ f
  · refine ⟨_, ?_, P (if f < 0 then -f else f)⟩
    simp [m__law_pool, b__law_pool, b__law_pool_1, b__law_pool_2]
    rcases c with c | c
    · simp [c]
    · rw [e18] at c
      by_cases c2 : f < 0 <;> simp [c, c2]
  · refine ⟨_, ?_, P 0⟩
    rw [e18] at c
    have c1 : ¬ f < 0 := fun z => c (.inl z)
    have c2 : ¬ 1000000000000000000 ≤ f := fun z => c (.inr z)
    simp [m__law_pool, b__law_pool, b__law_pool_1, b__law_pool_2, c1, c2]
theorem loop_ok (h : Hm) (A B : Option T) : ∀ (ms : List Int) (s : Int) (x : Option T), 0 ≤ s → s < 2147483323 →
    ∃ (s' : Int) (x' : Option T), forL (gNm 3) b__law_cell_3b (ms.map T.int) [A, B, some (.int s), x] h = .ok (.nx [A, B, some (.int s'), x']) h
  | [], s, x, _, _ => ⟨s, x, rfl⟩
  | m :: ms, s, x, h1, h2 => by
    obtain ⟨s', x', e⟩ := loop_ok h A B ms ((s * 42043 + m) % 2147483323) (some (.int m)) (Int.emod_nonneg _ (by decide)) (Int.emod_lt_of_pos _ (by decide))
    refine ⟨s', x', ?_⟩
    have f1 : fit s = true := limt h1 (by have := limt18; omega)
    have f2 : fit 42043 = true := by decide +kernel
    rw [List.map_cons, forL_cons]
    simp [b__law_cell_3b, f1, f2] at e ⊢
    exact e
theorem cell_ok (ns : List Int) (k : Nat) (hk : k ≤ 6) (h : Hm) : ∃ i : Int, m__law_cell [.lst (ns.map T.int), .int k] h = .ok (.int i) h := by
  by_cases c : k < ns.length
  · refine ⟨ns[k], ?_⟩
    have c2 : (k : Int) < (ns.length : Int) := by omega
    have e : ∀ h', ixR (ns.map T.int) (k : Int) h' = .ok (.int ns[k]) h' := fun h' => ixR_nat (by simp [c]) h'
    simp [m__law_cell, b__law_cell, b__law_cell_1, c2, e]
  · have c2 : ¬ (k : Int) < (ns.length : Int) := by omega
    obtain ⟨ms, em⟩ := cut_ints ns none (some 3)
    have sl : ∀ h', slT (.lst (ns.map T.int)) none (some 3) h' = .ok (.lst (ms.map T.int)) h' := fun h' => by
      show R.ok (T.lst (cutT (ns.map T.int) none (some 3))) h' = _
      rw [em]
    obtain ⟨s', x', el⟩ := loop_ok h (some (.lst (ns.map T.int))) (some (.int (k : Int))) ms (70001 * ((k : Int) * k + 7 * k + 5) % 2147483323) none (Int.emod_nonneg _ (by decide)) (Int.emod_lt_of_pos _ (by decide))
    refine ⟨s', ?_⟩
    have f1 : fit (k : Int) = true := limt (by omega) (by have := limt18; omega)
    have f2 : fit 70001 = true := by decide +kernel
    have f3 : fit 7 = true := by decide +kernel
    have f4 : fit ((k : Int) * k + 7 * k + 5) = true := by
      have hk' : k = 0 ∨ k = 1 ∨ k = 2 ∨ k = 3 ∨ k = 4 ∨ k = 5 ∨ k = 6 := by omega
      rcases hk' with z | z | z | z | z | z | z <;> subst z <;> decide +kernel
    simp [m__law_cell, b__law_cell, b__law_cell_1, b__law_cell_2, b__law_cell_3, b__law_cell_4, c2, sl, f1, f2, f3, f4, el]
end K09
set_option Elab.async false
set_option linter.all false
set_option maxRecDepth 100000
set_option maxHeartbeats 4000000
namespace K09
open PySem RT
/-! ### exceptions as values -/
section
variable (t : T) (h : Hm)
theorem xst_go (c f : Nat) (l : Nat) (hl : h[l]? = some (some (.exn c []))) (ht : t.noRef = true) : sXst [c] f (eVar 1) (eVar 0) [some (.ref l), some t] h = .ok (.nx [some (.ref l), some t]) (h.set l (some (.exn c [(f, t)]))) := by
  simp [sXst, hl, ht]
theorem mkx_go (c f : Nat) (g : List T → Hm → R T) (eg : g = RT.run 2 (sXst [c] f (eVar 1) (eVar 0))) (ht : t.noRef = true) (xs zs : List T) (src : List (Nat × Nat)) (e : arrS src [] (.ref h.length :: xs) zs = [.ref h.length, t]) : mkXO c g (arrS src []) xs zs h = .ok (.exo c [(f, t)]) h := by
  subst eg
  have q := xst_go t (h ++ [some (.exn c [])]) c f h.length (by simp) ht
  unfold mkXO
  rw [e]
  simp [RT.run, st0, q, mkXFin, endOf]

theorem mk_0 (ht : t.noRef = true) : mkXO 0 m_InvalidNumberq_initq (arrS [(0, 0), (0, 1)] []) [t] [] h = .ok (.exo 0 [(0, t)]) h := mkx_go t h 0 0 _ rfl ht [t] [] _ rfl
theorem mkk_0 (ht : t.noRef = true) : mkXO 0 m_InvalidNumberq_initq (arrS [(0, 0), (1, 0)] []) [] [t] h = .ok (.exo 0 [(0, t)]) h := mkx_go t h 0 0 _ rfl ht [] [t] _ rfl
theorem mk_1 (ht : t.noRef = true) : mkXO 1 m_InvalidStepq_initq (arrS [(0, 0), (0, 1)] []) [t] [] h = .ok (.exo 1 [(1, t)]) h := mkx_go t h 1 1 _ rfl ht [t] [] _ rfl
theorem mkk_1 (ht : t.noRef = true) : mkXO 1 m_InvalidStepq_initq (arrS [(0, 0), (1, 0)] []) [] [t] h = .ok (.exo 1 [(1, t)]) h := mkx_go t h 1 1 _ rfl ht [] [t] _ rfl
theorem mk_2 (ht : t.noRef = true) : mkXO 2 m_InvalidProgressionq_initq (arrS [(0, 0), (0, 1)] []) [t] [] h = .ok (.exo 2 [(2, t)]) h := mkx_go t h 2 2 _ rfl ht [t] [] _ rfl
theorem mkk_2 (ht : t.noRef = true) : mkXO 2 m_InvalidProgressionq_initq (arrS [(0, 0), (1, 0)] []) [] [t] h = .ok (.exo 2 [(2, t)]) h := mkx_go t h 2 2 _ rfl ht [] [t] _ rfl
theorem mk_3 (ht : t.noRef = true) : mkXO 3 m_InvalidProgressionsq_initq (arrS [(0, 0), (0, 1)] []) [t] [] h = .ok (.exo 3 [(3, t)]) h := mkx_go t h 3 3 _ rfl ht [t] [] _ rfl
theorem mkk_3 (ht : t.noRef = true) : mkXO 3 m_InvalidProgressionsq_initq (arrS [(0, 0), (1, 0)] []) [] [t] h = .ok (.exo 3 [(3, t)]) h := mkx_go t h 3 3 _ rfl ht [] [t] _ rfl
theorem mk_4 (ht : t.noRef = true) : mkXO 4 m_InvalidNameq_initq (arrS [(0, 0), (0, 1)] []) [t] [] h = .ok (.exo 4 [(4, t)]) h := mkx_go t h 4 4 _ rfl ht [t] [] _ rfl
theorem mkk_4 (ht : t.noRef = true) : mkXO 4 m_InvalidNameq_initq (arrS [(0, 0), (1, 0)] []) [] [t] h = .ok (.exo 4 [(4, t)]) h := mkx_go t h 4 4 _ rfl ht [] [t] _ rfl
theorem mk_5 (ht : t.noRef = true) : mkXO 5 m_InvalidArityq_initq (arrS [(0, 0), (0, 1)] []) [t] [] h = .ok (.exo 5 [(5, t)]) h := mkx_go t h 5 5 _ rfl ht [t] [] _ rfl
theorem mkk_5 (ht : t.noRef = true) : mkXO 5 m_InvalidArityq_initq (arrS [(0, 0), (1, 0)] []) [] [t] h = .ok (.exo 5 [(5, t)]) h := mkx_go t h 5 5 _ rfl ht [] [t] _ rfl
theorem mk_6 (ht : t.noRef = true) : mkXO 6 m_InvalidTargetsq_initq (arrS [(0, 0), (0, 1)] []) [t] [] h = .ok (.exo 6 [(3, t)]) h := mkx_go t h 6 3 _ rfl ht [t] [] _ rfl
theorem mkk_6 (ht : t.noRef = true) : mkXO 6 m_InvalidTargetsq_initq (arrS [(0, 0), (1, 0)] []) [] [t] h = .ok (.exo 6 [(3, t)]) h := mkx_go t h 6 3 _ rfl ht [] [t] _ rfl
theorem mk_7 (ht : t.noRef = true) : mkXO 7 m_InvalidTextq_initq (arrS [(0, 0), (0, 1)] []) [t] [] h = .ok (.exo 7 [(6, t)]) h := mkx_go t h 7 6 _ rfl ht [t] [] _ rfl
theorem mkk_7 (ht : t.noRef = true) : mkXO 7 m_InvalidTextq_initq (arrS [(0, 0), (1, 0)] []) [] [t] h = .ok (.exo 7 [(6, t)]) h := mkx_go t h 7 6 _ rfl ht [] [t] _ rfl
theorem mk_8 (ht : t.noRef = true) : mkXO 8 m_InvalidTreeq_initq (arrS [(0, 0), (0, 1)] []) [t] [] h = .ok (.exo 8 [(2, t)]) h := mkx_go t h 8 2 _ rfl ht [t] [] _ rfl
theorem mkk_8 (ht : t.noRef = true) : mkXO 8 m_InvalidTreeq_initq (arrS [(0, 0), (1, 0)] []) [] [t] h = .ok (.exo 8 [(2, t)]) h := mkx_go t h 8 2 _ rfl ht [] [t] _ rfl
theorem mk_9 (ht : t.noRef = true) : mkXO 9 m_InvalidTableq_initq (arrS [(0, 0), (0, 1)] []) [t] [] h = .ok (.exo 9 [(3, t)]) h := mkx_go t h 9 3 _ rfl ht [t] [] _ rfl
theorem mkk_9 (ht : t.noRef = true) : mkXO 9 m_InvalidTableq_initq (arrS [(0, 0), (1, 0)] []) [] [t] h = .ok (.exo 9 [(3, t)]) h := mkx_go t h 9 3 _ rfl ht [] [t] _ rfl
theorem mk_10 (ht : t.noRef = true) : mkXO 10 m_InvalidSettingq_initq (arrS [(0, 0), (0, 1)] []) [t] [] h = .ok (.exo 10 [(3, t)]) h := mkx_go t h 10 3 _ rfl ht [t] [] _ rfl
theorem mkk_10 (ht : t.noRef = true) : mkXO 10 m_InvalidSettingq_initq (arrS [(0, 0), (1, 0)] []) [] [t] h = .ok (.exo 10 [(3, t)]) h := mkx_go t h 10 3 _ rfl ht [] [t] _ rfl
theorem mk_11 (ht : t.noRef = true) : mkXO 11 m_InvalidSightingsq_initq (arrS [(0, 0), (0, 1)] []) [t] [] h = .ok (.exo 11 [(3, t)]) h := mkx_go t h 11 3 _ rfl ht [t] [] _ rfl
theorem mkk_11 (ht : t.noRef = true) : mkXO 11 m_InvalidSightingsq_initq (arrS [(0, 0), (1, 0)] []) [] [t] h = .ok (.exo 11 [(3, t)]) h := mkx_go t h 11 3 _ rfl ht [] [t] _ rfl
theorem mk_12 (ht : t.noRef = true) : mkXO 12 m_InvalidDeedq_initq (arrS [(0, 0), (0, 1)] []) [t] [] h = .ok (.exo 12 [(7, t)]) h := mkx_go t h 12 7 _ rfl ht [t] [] _ rfl
theorem mkk_12 (ht : t.noRef = true) : mkXO 12 m_InvalidDeedq_initq (arrS [(0, 0), (1, 0)] []) [] [t] h = .ok (.exo 12 [(7, t)]) h := mkx_go t h 12 7 _ rfl ht [] [t] _ rfl
theorem mk_13 (ht : t.noRef = true) : mkXO 13 m_InvalidDeedsq_initq (arrS [(0, 0), (0, 1)] []) [t] [] h = .ok (.exo 13 [(3, t)]) h := mkx_go t h 13 3 _ rfl ht [t] [] _ rfl
theorem mkk_13 (ht : t.noRef = true) : mkXO 13 m_InvalidDeedsq_initq (arrS [(0, 0), (1, 0)] []) [] [t] h = .ok (.exo 13 [(3, t)]) h := mkx_go t h 13 3 _ rfl ht [] [t] _ rfl
theorem mk_14 (ht : t.noRef = true) : mkXO 14 m_UnknownNameq_initq (arrS [(0, 0), (0, 1)] []) [t] [] h = .ok (.exo 14 [(4, t)]) h := mkx_go t h 14 4 _ rfl ht [t] [] _ rfl
theorem mkk_14 (ht : t.noRef = true) : mkXO 14 m_UnknownNameq_initq (arrS [(0, 0), (1, 0)] []) [] [t] h = .ok (.exo 14 [(4, t)]) h := mkx_go t h 14 4 _ rfl ht [] [t] _ rfl
theorem mk_15 (ht : t.noRef = true) : mkXO 15 m_NameTakenq_initq (arrS [(0, 0), (0, 1)] []) [t] [] h = .ok (.exo 15 [(4, t)]) h := mkx_go t h 15 4 _ rfl ht [t] [] _ rfl
theorem mkk_15 (ht : t.noRef = true) : mkXO 15 m_NameTakenq_initq (arrS [(0, 0), (1, 0)] []) [] [t] h = .ok (.exo 15 [(4, t)]) h := mkx_go t h 15 4 _ rfl ht [] [t] _ rfl
theorem mk_16 (ht : t.noRef = true) : mkXO 16 m_NotFullq_initq (arrS [(0, 0), (0, 1)] []) [t] [] h = .ok (.exo 16 [(0, t)]) h := mkx_go t h 16 0 _ rfl ht [t] [] _ rfl
theorem mkk_16 (ht : t.noRef = true) : mkXO 16 m_NotFullq_initq (arrS [(0, 0), (1, 0)] []) [] [t] h = .ok (.exo 16 [(0, t)]) h := mkx_go t h 16 0 _ rfl ht [] [t] _ rfl
theorem mk_17 (ht : t.noRef = true) : mkXO 17 m_Unexplainedq_initq (arrS [(0, 0), (0, 1)] []) [t] [] h = .ok (.exo 17 [(8, t)]) h := mkx_go t h 17 8 _ rfl ht [t] [] _ rfl
theorem mkk_17 (ht : t.noRef = true) : mkXO 17 m_Unexplainedq_initq (arrS [(0, 0), (1, 0)] []) [] [t] h = .ok (.exo 17 [(8, t)]) h := mkx_go t h 17 8 _ rfl ht [] [t] _ rfl
theorem mk_18 (ht : t.noRef = true) : mkXO 18 m_LastServerq_initq (arrS [(0, 0), (0, 1)] []) [t] [] h = .ok (.exo 18 [(4, t)]) h := mkx_go t h 18 4 _ rfl ht [t] [] _ rfl
theorem mkk_18 (ht : t.noRef = true) : mkXO 18 m_LastServerq_initq (arrS [(0, 0), (1, 0)] []) [] [t] h = .ok (.exo 18 [(4, t)]) h := mkx_go t h 18 4 _ rfl ht [] [t] _ rfl
theorem mk_20 (ht : t.noRef = true) : mkXO 20 m_TooManyNamesq_initq (arrS [(0, 0), (0, 1)] []) [t] [] h = .ok (.exo 20 [(9, t)]) h := mkx_go t h 20 9 _ rfl ht [t] [] _ rfl
theorem mkk_20 (ht : t.noRef = true) : mkXO 20 m_TooManyNamesq_initq (arrS [(0, 0), (1, 0)] []) [] [t] h = .ok (.exo 20 [(9, t)]) h := mkx_go t h 20 9 _ rfl ht [] [t] _ rfl
theorem mk_21 (ht : t.noRef = true) : mkXO 21 m_TooDeepq_initq (arrS [(0, 0), (0, 1)] []) [t] [] h = .ok (.exo 21 [(10, t)]) h := mkx_go t h 21 10 _ rfl ht [t] [] _ rfl
theorem mkk_21 (ht : t.noRef = true) : mkXO 21 m_TooDeepq_initq (arrS [(0, 0), (1, 0)] []) [] [t] h = .ok (.exo 21 [(10, t)]) h := mkx_go t h 21 10 _ rfl ht [] [t] _ rfl
theorem mk_22 (ht : t.noRef = true) : mkXO 22 m_TooLongq_initq (arrS [(0, 0), (0, 1)] []) [t] [] h = .ok (.exo 22 [(1, t)]) h := mkx_go t h 22 1 _ rfl ht [t] [] _ rfl
theorem mkk_22 (ht : t.noRef = true) : mkXO 22 m_TooLongq_initq (arrS [(0, 0), (1, 0)] []) [] [t] h = .ok (.exo 22 [(1, t)]) h := mkx_go t h 22 1 _ rfl ht [] [t] _ rfl
theorem mk_23 (ht : t.noRef = true) : mkXO 23 m_TooManyRequestsq_initq (arrS [(0, 0), (0, 1)] []) [t] [] h = .ok (.exo 23 [(9, t)]) h := mkx_go t h 23 9 _ rfl ht [t] [] _ rfl
theorem mkk_23 (ht : t.noRef = true) : mkXO 23 m_TooManyRequestsq_initq (arrS [(0, 0), (1, 0)] []) [] [t] h = .ok (.exo 23 [(9, t)]) h := mkx_go t h 23 9 _ rfl ht [] [t] _ rfl
end
def fOf : Nat → Nat
  | 0 => 0
  | 1 => 1
  | 2 => 2
  | 3 => 3
  | 4 => 4
  | 5 => 5
  | 6 => 3
  | 7 => 6
  | 8 => 2
  | 9 => 3
  | 10 => 3
  | 11 => 3
  | 12 => 7
  | 13 => 3
  | 14 => 4
  | 15 => 4
  | 16 => 0
  | 17 => 8
  | 18 => 4
  | 20 => 9
  | 21 => 10
  | 22 => 1
  | 23 => 9
  | _ => 0
/-- the error with this number, of this thing -/
def X (c : Nat) (t : T) : T := .exo c (if c = 19 then [] else [(fOf c, t)])
def pr (c : Nat) (t : T) : T := .lst [X c t, X c t]
theorem nr_pr {c : Nat} {t : T} (ht : t.noRef = true) : (pr c t).noRef = true := by
  by_cases e : c = 19 <;> simp [pr, X, e, T.noRef, T.noRefs, T.noRefF, ht]

section
variable (t : T) (ht : t.noRef = true) (h : Hm)
include ht
theorem md_1 : b__law_made_1 [some t, none] h = .ok (.nx [some t, some (.ref h.length)]) (h ++ [some (.lst [pr 0 t, pr 1 t])]) := by
  simp [b__law_made_1, mk_0 _ _ ht, mkk_0 _ _ ht, mk_1 _ _ ht, mkk_1 _ _ ht, pr, X, fOf, mkX0, T.noRefs, T.noRef, T.noRefF, ht]
theorem md_2 (l : Nat) (L : List T) (hl : h[l]? = some (some (.lst L))) (hn : L.length ≤ 40) : b__law_made_2 [some t, some (.ref l)] h = .ok (.nx [some t, some (.ref l)]) (h.set l (some (.lst (L ++ [pr 2 t])))) := by
  have q : L.length < 16777216 := by omega
  simp [b__law_made_2, mk_2 _ _ ht, mkk_2 _ _ ht, pr, X, fOf, mkX0, T.noRefs, T.noRef, T.noRefF, ht, hl, fAppend, q]
theorem md_3 (l : Nat) (L : List T) (hl : h[l]? = some (some (.lst L))) (hn : L.length ≤ 40) : b__law_made_3 [some t, some (.ref l)] h = .ok (.nx [some t, some (.ref l)]) (h.set l (some (.lst (L ++ [pr 3 t])))) := by
  have q : L.length < 16777216 := by omega
  simp [b__law_made_3, mk_3 _ _ ht, mkk_3 _ _ ht, pr, X, fOf, mkX0, T.noRefs, T.noRef, T.noRefF, ht, hl, fAppend, q]
theorem md_4 (x : T) (L : List T) (hx : lstH x h = some L) (hn : L.length ≤ 40) (hr : T.noRefs L = true) : b__law_made_4 [some t, some x] h = .ok (.nx [some t, some (.ref h.length)]) (h ++ [some (.lst (L ++ [pr 4 t, pr 5 t]))]) := by
  have q : L.length + 2 ≤ 16777216 := by omega
  have hx2 : ∀ ys, lstH (.lst ys) h = some ys := fun _ => rfl
  simp [b__law_made_4, mk_4 _ _ ht, mkk_4 _ _ ht, mk_5 _ _ ht, mkk_5 _ _ ht, pr, X, fOf, mkX0, T.noRefs, T.noRef, T.noRefF, ht, opAddC, hx, hx2, hr, q]
theorem md_5 (x : T) (L : List T) (hx : lstH x h = some L) (hn : L.length ≤ 40) (hr : T.noRefs L = true) : b__law_made_5 [some t, some x] h = .ok (.nx [some t, some (.ref h.length)]) (h ++ [some (.lst (L ++ [pr 6 t, pr 7 t]))]) := by
  have q : L.length + 2 ≤ 16777216 := by omega
  have hx2 : ∀ ys, lstH (.lst ys) h = some ys := fun _ => rfl
  simp [b__law_made_5, mk_6 _ _ ht, mkk_6 _ _ ht, mk_7 _ _ ht, mkk_7 _ _ ht, pr, X, fOf, mkX0, T.noRefs, T.noRef, T.noRefF, ht, opAddC, hx, hx2, hr, q]
theorem md_6 (x : T) (L : List T) (hx : lstH x h = some L) (hn : L.length ≤ 40) (hr : T.noRefs L = true) : b__law_made_6 [some t, some x] h = .ok (.nx [some t, some (.ref h.length)]) (h ++ [some (.lst (L ++ [pr 8 t, pr 9 t]))]) := by
  have q : L.length + 2 ≤ 16777216 := by omega
  have hx2 : ∀ ys, lstH (.lst ys) h = some ys := fun _ => rfl
  simp [b__law_made_6, mk_8 _ _ ht, mkk_8 _ _ ht, mk_9 _ _ ht, mkk_9 _ _ ht, pr, X, fOf, mkX0, T.noRefs, T.noRef, T.noRefF, ht, opAddC, hx, hx2, hr, q]
theorem md_7 (l : Nat) (L : List T) (hl : h[l]? = some (some (.lst L))) (hn : L.length ≤ 40) : b__law_made_7 [some t, some (.ref l)] h = .ok (.nx [some t, some (.ref l)]) (h.set l (some (.lst (L ++ [pr 10 t])))) := by
  have q : L.length < 16777216 := by omega
  simp [b__law_made_7, mk_10 _ _ ht, mkk_10 _ _ ht, pr, X, fOf, mkX0, T.noRefs, T.noRef, T.noRefF, ht, hl, fAppend, q]
theorem md_8 (l : Nat) (L : List T) (hl : h[l]? = some (some (.lst L))) (hn : L.length ≤ 40) : b__law_made_8 [some t, some (.ref l)] h = .ok (.nx [some t, some (.ref l)]) (h.set l (some (.lst (L ++ [pr 11 t])))) := by
  have q : L.length < 16777216 := by omega
  simp [b__law_made_8, mk_11 _ _ ht, mkk_11 _ _ ht, pr, X, fOf, mkX0, T.noRefs, T.noRef, T.noRefF, ht, hl, fAppend, q]
theorem md_9 (x : T) (L : List T) (hx : lstH x h = some L) (hn : L.length ≤ 40) (hr : T.noRefs L = true) : b__law_made_9 [some t, some x] h = .ok (.nx [some t, some (.ref h.length)]) (h ++ [some (.lst (L ++ [pr 12 t, pr 13 t]))]) := by
  have q : L.length + 2 ≤ 16777216 := by omega
  have hx2 : ∀ ys, lstH (.lst ys) h = some ys := fun _ => rfl
  simp [b__law_made_9, mk_12 _ _ ht, mkk_12 _ _ ht, mk_13 _ _ ht, mkk_13 _ _ ht, pr, X, fOf, mkX0, T.noRefs, T.noRef, T.noRefF, ht, opAddC, hx, hx2, hr, q]
theorem md_10 (x : T) (L : List T) (hx : lstH x h = some L) (hn : L.length ≤ 40) (hr : T.noRefs L = true) : b__law_made_10 [some t, some x] h = .ok (.nx [some t, some (.ref h.length)]) (h ++ [some (.lst (L ++ [pr 14 t, pr 15 t]))]) := by
  have q : L.length + 2 ≤ 16777216 := by omega
  have hx2 : ∀ ys, lstH (.lst ys) h = some ys := fun _ => rfl
  simp [b__law_made_10, mk_14 _ _ ht, mkk_14 _ _ ht, mk_15 _ _ ht, mkk_15 _ _ ht, pr, X, fOf, mkX0, T.noRefs, T.noRef, T.noRefF, ht, opAddC, hx, hx2, hr, q]
theorem md_11 (x : T) (L : List T) (hx : lstH x h = some L) (hn : L.length ≤ 40) (hr : T.noRefs L = true) : b__law_made_11 [some t, some x] h = .ok (.nx [some t, some (.ref h.length)]) (h ++ [some (.lst (L ++ [pr 16 t, pr 17 t]))]) := by
  have q : L.length + 2 ≤ 16777216 := by omega
  have hx2 : ∀ ys, lstH (.lst ys) h = some ys := fun _ => rfl
  simp [b__law_made_11, mk_16 _ _ ht, mkk_16 _ _ ht, mk_17 _ _ ht, mkk_17 _ _ ht, pr, X, fOf, mkX0, T.noRefs, T.noRef, T.noRefF, ht, opAddC, hx, hx2, hr, q]
theorem md_12 (x : T) (L : List T) (hx : lstH x h = some L) (hn : L.length ≤ 40) (hr : T.noRefs L = true) : b__law_made_12 [some t, some x] h = .ok (.nx [some t, some (.ref h.length)]) (h ++ [some (.lst (L ++ [pr 18 t, pr 19 t]))]) := by
  have q : L.length + 2 ≤ 16777216 := by omega
  have hx2 : ∀ ys, lstH (.lst ys) h = some ys := fun _ => rfl
  simp [b__law_made_12, mk_18 _ _ ht, mkk_18 _ _ ht, pr, X, fOf, mkX0, T.noRefs, T.noRef, T.noRefF, ht, opAddC, hx, hx2, hr, q]
theorem md_13 (x : T) (L : List T) (hx : lstH x h = some L) (hn : L.length ≤ 40) (hr : T.noRefs L = true) : b__law_made_13 [some t, some x] h = .ok (.nx [some t, some (.ref h.length)]) (h ++ [some (.lst (L ++ [pr 20 t, pr 21 t]))]) := by
  have q : L.length + 2 ≤ 16777216 := by omega
  have hx2 : ∀ ys, lstH (.lst ys) h = some ys := fun _ => rfl
  simp [b__law_made_13, mk_20 _ _ ht, mkk_20 _ _ ht, mk_21 _ _ ht, mkk_21 _ _ ht, pr, X, fOf, mkX0, T.noRefs, T.noRef, T.noRefF, ht, opAddC, hx, hx2, hr, q]
theorem md_14 (x : T) (L : List T) (hx : lstH x h = some L) (hn : L.length ≤ 40) : b__law_made_14 [some t, some x] h = .ok (.ret (.lst (L ++ [pr 22 t, pr 23 t]))) h := by
  have q : L.length + 2 ≤ 16777216 := by omega
  have hx2 : ∀ ys, lstH (.lst ys) h = some ys := fun _ => rfl
  simp [b__law_made_14, mk_22 _ _ ht, mkk_22 _ _ ht, mk_23 _ _ ht, mkk_23 _ _ ht, pr, X, fOf, mkX0, T.noRefs, T.noRef, T.noRefF, ht, opAddF, hx, hx2, q]
end
end K09
set_option Elab.async false
set_option linter.all false
set_option maxRecDepth 100000
set_option maxHeartbeats 4000000
namespace K09
open PySem RT
structure Lies (h hh : Hm) (l : Nat) (L : List T) : Prop where
  g : hh[l]? = some (some (.lst L))
  k : hh.take h.length = h
  b : h.length ≤ l
theorem Lies.len {h hh : Hm} (k : hh.take h.length = h) : h.length ≤ hh.length := by
  have := congrArg List.length k
  rw [List.length_take] at this
  omega
theorem Lies.new {h hh : Hm} (k : hh.take h.length = h) (L : List T) : Lies h (hh ++ [some (.lst L)]) hh.length L :=
  ⟨by simp, by rw [List.take_append_of_le_length (Lies.len k)]; exact k, Lies.len k⟩
theorem Lies.set {h hh : Hm} {l : Nat} {L : List T} (o : Lies h hh l L) (L' : List T) : Lies h (hh.set l (some (.lst L'))) l L' :=
  ⟨get_set (List.getElem?_eq_some_iff.mp o.g).1 _, by rw [List.take_set_of_le o.b]; exact o.k, o.b⟩
theorem Lies.ref {h hh : Hm} {l : Nat} {L : List T} (o : Lies h hh l L) : lstH (.ref l) hh = some L := by
  simp [lstH, o.g]
theorem Lies.frz {h hh : Hm} {l : Nat} {L : List T} (o : Lies h hh l L) (t : T) : sFrz 1 [some t, some (.ref l)] hh = .ok (.nx [some t, some (.lst L)]) (hh.set l none) := by
  simp [o.g]
theorem frz_no (t : T) (L : List T) (hh : Hm) : sFrz 1 [some t, some (.lst L)] hh = .ok (.nx [some t, some (.lst L)]) hh := rfl
theorem nr_all {t : T} (ht : t.noRef = true) : ∀ cs : List Nat, T.noRefs (cs.map (pr · t)) = true
  | [] => rfl
  | c :: cs => by rw [List.map_cons, T.noRefs, nr_pr ht, nr_all ht cs]; rfl
theorem made_ok (t : T) (ht : t.noRef = true) (h : Hm) : m__law_made [t] h = .ok (.lst ((List.range 24).map (pr · t))) h := by
  show RT.run 2 b__law_made [t] h = _
  have s0 : st0 2 [t] = [some t, none] := rfl
  have k0 : h.take h.length = h := List.take_length ..
  have e1 := md_1 t ht h
  have o1 : Lies h _ _ _ := Lies.new k0 [pr 0 t, pr 1 t]
  have e2 := md_2 t ht _ _ _ o1.g (Nat.le_of_ble_eq_true rfl)
  have o2 : Lies h _ _ [pr 0 t, pr 1 t, pr 2 t] := o1.set _
  have e3 := md_3 t ht _ _ _ o2.g (Nat.le_of_ble_eq_true rfl)
  have o3 : Lies h _ _ [pr 0 t, pr 1 t, pr 2 t, pr 3 t] := o2.set _
  have e4 := md_4 t ht _ _ [pr 0 t, pr 1 t, pr 2 t, pr 3 t] o3.ref (Nat.le_of_ble_eq_true rfl) (nr_all ht (List.range 4))
  have o4 : Lies h _ _ [pr 0 t, pr 1 t, pr 2 t, pr 3 t, pr 4 t, pr 5 t] := Lies.new o3.k _
  have e5 := md_5 t ht _ _ [pr 0 t, pr 1 t, pr 2 t, pr 3 t, pr 4 t, pr 5 t] o4.ref (Nat.le_of_ble_eq_true rfl) (nr_all ht (List.range 6))
  have o5 : Lies h _ _ [pr 0 t, pr 1 t, pr 2 t, pr 3 t, pr 4 t, pr 5 t, pr 6 t, pr 7 t] := Lies.new o4.k _
  have e6 := md_6 t ht _ _ [pr 0 t, pr 1 t, pr 2 t, pr 3 t, pr 4 t, pr 5 t, pr 6 t, pr 7 t] o5.ref (Nat.le_of_ble_eq_true rfl) (nr_all ht (List.range 8))
  have o6 : Lies h _ _ [pr 0 t, pr 1 t, pr 2 t, pr 3 t, pr 4 t, pr 5 t, pr 6 t, pr 7 t, pr 8 t, pr 9 t] := Lies.new o5.k _
  have e7 := md_7 t ht _ _ _ o6.g (Nat.le_of_ble_eq_true rfl)
  have o7 : Lies h _ _ [pr 0 t, pr 1 t, pr 2 t, pr 3 t, pr 4 t, pr 5 t, pr 6 t, pr 7 t, pr 8 t, pr 9 t, pr 10 t] := o6.set _
  have e8 := md_8 t ht _ _ _ o7.g (Nat.le_of_ble_eq_true rfl)
  have o8 : Lies h _ _ [pr 0 t, pr 1 t, pr 2 t, pr 3 t, pr 4 t, pr 5 t, pr 6 t, pr 7 t, pr 8 t, pr 9 t, pr 10 t, pr 11 t] := o7.set _
  obtain ⟨hz, z1, zk⟩ : ∃ hz, sFrz 1 [some t, some (.ref _)] _ = .ok (.nx [some t, some (.lst [pr 0 t, pr 1 t, pr 2 t, pr 3 t, pr 4 t, pr 5 t, pr 6 t, pr 7 t, pr 8 t, pr 9 t, pr 10 t, pr 11 t])]) hz ∧ hz.take h.length = h := ⟨_, o8.frz t, (List.take_set_of_le o8.b).trans o8.k⟩
  have e9 := md_9 t ht hz (.lst [pr 0 t, pr 1 t, pr 2 t, pr 3 t, pr 4 t, pr 5 t, pr 6 t, pr 7 t, pr 8 t, pr 9 t, pr 10 t, pr 11 t]) [pr 0 t, pr 1 t, pr 2 t, pr 3 t, pr 4 t, pr 5 t, pr 6 t, pr 7 t, pr 8 t, pr 9 t, pr 10 t, pr 11 t] rfl (Nat.le_of_ble_eq_true rfl) (nr_all ht (List.range 12))
  have o9 : Lies h _ _ [pr 0 t, pr 1 t, pr 2 t, pr 3 t, pr 4 t, pr 5 t, pr 6 t, pr 7 t, pr 8 t, pr 9 t, pr 10 t, pr 11 t, pr 12 t, pr 13 t] := Lies.new zk _
  have e10 := md_10 t ht _ _ [pr 0 t, pr 1 t, pr 2 t, pr 3 t, pr 4 t, pr 5 t, pr 6 t, pr 7 t, pr 8 t, pr 9 t, pr 10 t, pr 11 t, pr 12 t, pr 13 t] o9.ref (Nat.le_of_ble_eq_true rfl) (nr_all ht (List.range 14))
  have o10 : Lies h _ _ [pr 0 t, pr 1 t, pr 2 t, pr 3 t, pr 4 t, pr 5 t, pr 6 t, pr 7 t, pr 8 t, pr 9 t, pr 10 t, pr 11 t, pr 12 t, pr 13 t, pr 14 t, pr 15 t] := Lies.new o9.k _
  have e11 := md_11 t ht _ _ [pr 0 t, pr 1 t, pr 2 t, pr 3 t, pr 4 t, pr 5 t, pr 6 t, pr 7 t, pr 8 t, pr 9 t, pr 10 t, pr 11 t, pr 12 t, pr 13 t, pr 14 t, pr 15 t] o10.ref (Nat.le_of_ble_eq_true rfl) (nr_all ht (List.range 16))
  have o11 : Lies h _ _ [pr 0 t, pr 1 t, pr 2 t, pr 3 t, pr 4 t, pr 5 t, pr 6 t, pr 7 t, pr 8 t, pr 9 t, pr 10 t, pr 11 t, pr 12 t, pr 13 t, pr 14 t, pr 15 t, pr 16 t, pr 17 t] := Lies.new o10.k _
  have e12 := md_12 t ht _ _ [pr 0 t, pr 1 t, pr 2 t, pr 3 t, pr 4 t, pr 5 t, pr 6 t, pr 7 t, pr 8 t, pr 9 t, pr 10 t, pr 11 t, pr 12 t, pr 13 t, pr 14 t, pr 15 t, pr 16 t, pr 17 t] o11.ref (Nat.le_of_ble_eq_true rfl) (nr_all ht (List.range 18))
  have o12 : Lies h _ _ [pr 0 t, pr 1 t, pr 2 t, pr 3 t, pr 4 t, pr 5 t, pr 6 t, pr 7 t, pr 8 t, pr 9 t, pr 10 t, pr 11 t, pr 12 t, pr 13 t, pr 14 t, pr 15 t, pr 16 t, pr 17 t, pr 18 t, pr 19 t] := Lies.new o11.k _
  have e13 := md_13 t ht _ _ [pr 0 t, pr 1 t, pr 2 t, pr 3 t, pr 4 t, pr 5 t, pr 6 t, pr 7 t, pr 8 t, pr 9 t, pr 10 t, pr 11 t, pr 12 t, pr 13 t, pr 14 t, pr 15 t, pr 16 t, pr 17 t, pr 18 t, pr 19 t] o12.ref (Nat.le_of_ble_eq_true rfl) (nr_all ht (List.range 20))
  have o13 : Lies h _ _ [pr 0 t, pr 1 t, pr 2 t, pr 3 t, pr 4 t, pr 5 t, pr 6 t, pr 7 t, pr 8 t, pr 9 t, pr 10 t, pr 11 t, pr 12 t, pr 13 t, pr 14 t, pr 15 t, pr 16 t, pr 17 t, pr 18 t, pr 19 t, pr 20 t, pr 21 t] := Lies.new o12.k _
  have e14 := md_14 t ht _ _ [pr 0 t, pr 1 t, pr 2 t, pr 3 t, pr 4 t, pr 5 t, pr 6 t, pr 7 t, pr 8 t, pr 9 t, pr 10 t, pr 11 t, pr 12 t, pr 13 t, pr 14 t, pr 15 t, pr 16 t, pr 17 t, pr 18 t, pr 19 t, pr 20 t, pr 21 t] o13.ref (Nat.le_of_ble_eq_true rfl)
  obtain ⟨hF, bb, kF⟩ : ∃ hF, b__law_made [some t, none] h = .ok (.ret (.lst [pr 0 t, pr 1 t, pr 2 t, pr 3 t, pr 4 t, pr 5 t, pr 6 t, pr 7 t, pr 8 t, pr 9 t, pr 10 t, pr 11 t, pr 12 t, pr 13 t, pr 14 t, pr 15 t, pr 16 t, pr 17 t, pr 18 t, pr 19 t, pr 20 t, pr 21 t, pr 22 t, pr 23 t])) hF ∧ hF.take h.length = h := ⟨_, (seq_nx e1).trans ((seq_nx e2).trans ((seq_nx e3).trans ((seq_nx e4).trans ((seq_nx e5).trans ((seq_nx e6).trans ((seq_nx e7).trans ((seq_nx e8).trans ((seq_nx z1).trans ((seq_nx (frz_no t _ _)).trans ((seq_nx (frz_no t _ _)).trans ((seq_nx (frz_no t _ _)).trans ((seq_nx e9).trans ((seq_nx e10).trans ((seq_nx e11).trans ((seq_nx e12).trans ((seq_nx e13).trans (e14))))))))))))))))), o13.k⟩
  have nr : (T.lst [pr 0 t, pr 1 t, pr 2 t, pr 3 t, pr 4 t, pr 5 t, pr 6 t, pr 7 t, pr 8 t, pr 9 t, pr 10 t, pr 11 t, pr 12 t, pr 13 t, pr 14 t, pr 15 t, pr 16 t, pr 17 t, pr 18 t, pr 19 t, pr 20 t, pr 21 t, pr 22 t, pr 23 t]).noRef = true := nr_all ht (List.range 24)
  rw [run_ret (h := h) (ts := [t]) (n := 2) bb nr, kF]
  rfl
end K09
set_option Elab.async false
set_option linter.all false
set_option maxRecDepth 100000
set_option maxHeartbeats 4000000
namespace K09
open PySem RT
/-! ### the number of an error's class -/
theorem look_leaf : ∀ c < 24, ∀ d < 24, isLook TAB (.cl c) (.cl d) = some (decide (c = d)) := by decide +kernel
theorem look_base : ∀ c < 24, isLook TAB (.cl c) (.cl 24) = some (decide (c < 14)) ∧ isLook TAB (.cl c) (.cl 25) = some (decide (14 ≤ c) && decide (c < 20)) ∧ isLook TAB (.cl c) (.cl 26) = some (decide (20 ≤ c)) := by decide +kernel
theorem look_own : ∀ c < 24, isLook TAB (.cl c) (.ty "ValueError") = some (decide (c < 14)) ∧ isLook TAB (.cl c) (.ty "LookupError") = some (decide (14 ≤ c) && decide (c < 20)) ∧ isLook TAB (.cl c) (.ty "ArithmeticError") = some (decide (20 ≤ c)) := by decide +kernel
theorem in_xc : ∀ c < 24, XC.contains c = true := by decide
theorem isx {c : Nat} (hc : c < 24) {k : T} {b : Tg} {r : Bool} (eb : asTg k = some b) (er : isLook TAB (.cl c) b = some r) (fs : List (Nat × T)) (h : Hm) : gIsiX 0 TAB XC [.exo c fs, k] h = .ok (.bl r) h := by
  unfold gIsiX
  dsimp only
  rw [eb]
  dsimp only
  rw [in_xc c hc, if_pos rfl, er]
theorem isx_l {c : Nat} (hc : c < 24) {d : Nat} (hd : d < 24) (fs : List (Nat × T)) (h : Hm) : gIsiX 0 TAB XC [.exo c fs, .cl d] h = .ok (.bl (decide (c = d))) h := isx hc rfl (look_leaf c hc d hd) fs h
end K09
set_option Elab.async false
set_option linter.all false
set_option maxRecDepth 100000
set_option maxHeartbeats 4000000
namespace K09
open PySem RT
def FB (c n : Nat) : List T := (List.range n).map fun d => .bl (decide (c = d))
def BB (c : Nat) : List T := [.bl (decide (c < 14)), .bl (decide (14 ≤ c) && decide (c < 20)), .bl (decide (20 ≤ c))]
section
variable {c : Nat} (hc : c < 24) (fs : List (Nat × T)) (h : Hm)
include hc
theorem kd_1 : b__law_kind_1 [some (.exo c fs), none, none, none, none] h = .ok (.nx [some (.exo c fs), some (.lst (FB c 3)), none, none, none]) h := by
  simp [b__law_kind_1, isx_l hc (d := 0) (by decide) fs, isx_l hc (d := 1) (by decide) fs, isx_l hc (d := 2) (by decide) fs]
  rfl
theorem kd_2 : b__law_kind_2 [some (.exo c fs), some (.lst (FB c 3)), none, none, none] h = .ok (.nx [some (.exo c fs), some (.lst (FB c 6)), none, none, none]) h := by
  have l : (FB c 3).length + 3 ≤ 16777216 := by rw [FB, List.length_map, List.length_range]; decide
  simp [b__law_kind_2, isx_l hc (d := 3) (by decide) fs, isx_l hc (d := 4) (by decide) fs, isx_l hc (d := 5) (by decide) fs, l]
  rfl
theorem kd_3 : b__law_kind_3 [some (.exo c fs), some (.lst (FB c 6)), none, none, none] h = .ok (.nx [some (.exo c fs), some (.lst (FB c 9)), none, none, none]) h := by
  have l : (FB c 6).length + 3 ≤ 16777216 := by rw [FB, List.length_map, List.length_range]; decide
  simp [b__law_kind_3, isx_l hc (d := 6) (by decide) fs, isx_l hc (d := 7) (by decide) fs, isx_l hc (d := 8) (by decide) fs, l]
  rfl
theorem kd_4 : b__law_kind_4 [some (.exo c fs), some (.lst (FB c 9)), none, none, none] h = .ok (.nx [some (.exo c fs), some (.lst (FB c 12)), none, none, none]) h := by
  have l : (FB c 9).length + 3 ≤ 16777216 := by rw [FB, List.length_map, List.length_range]; decide
  simp [b__law_kind_4, isx_l hc (d := 9) (by decide) fs, isx_l hc (d := 10) (by decide) fs, isx_l hc (d := 11) (by decide) fs, l]
  rfl
theorem kd_5 : b__law_kind_5 [some (.exo c fs), some (.lst (FB c 12)), none, none, none] h = .ok (.nx [some (.exo c fs), some (.lst (FB c 15)), none, none, none]) h := by
  have l : (FB c 12).length + 3 ≤ 16777216 := by rw [FB, List.length_map, List.length_range]; decide
  simp [b__law_kind_5, isx_l hc (d := 12) (by decide) fs, isx_l hc (d := 13) (by decide) fs, isx_l hc (d := 14) (by decide) fs, l]
  rfl
theorem kd_6 : b__law_kind_6 [some (.exo c fs), some (.lst (FB c 15)), none, none, none] h = .ok (.nx [some (.exo c fs), some (.lst (FB c 18)), none, none, none]) h := by
  have l : (FB c 15).length + 3 ≤ 16777216 := by rw [FB, List.length_map, List.length_range]; decide
  simp [b__law_kind_6, isx_l hc (d := 15) (by decide) fs, isx_l hc (d := 16) (by decide) fs, isx_l hc (d := 17) (by decide) fs, l]
  rfl
theorem kd_7 : b__law_kind_7 [some (.exo c fs), some (.lst (FB c 18)), none, none, none] h = .ok (.nx [some (.exo c fs), some (.lst (FB c 21)), none, none, none]) h := by
  have l : (FB c 18).length + 3 ≤ 16777216 := by rw [FB, List.length_map, List.length_range]; decide
  simp [b__law_kind_7, isx_l hc (d := 18) (by decide) fs, isx_l hc (d := 19) (by decide) fs, isx_l hc (d := 20) (by decide) fs, l]
  rfl
theorem kd_8 : b__law_kind_8 [some (.exo c fs), some (.lst (FB c 21)), none, none, none] h = .ok (.nx [some (.exo c fs), some (.lst (FB c 24)), none, none, none]) h := by
  have l : (FB c 21).length + 3 ≤ 16777216 := by rw [FB, List.length_map, List.length_range]; decide
  simp [b__law_kind_8, isx_l hc (d := 21) (by decide) fs, isx_l hc (d := 22) (by decide) fs, isx_l hc (d := 23) (by decide) fs, l]
  rfl
theorem kd_9 (X : T) : b__law_kind_9 [some (.exo c fs), some X, none, none, none] h = .ok (.nx [some (.exo c fs), some X, some (.lst (BB c)), none, none]) h := by
  obtain ⟨b1, b2, b3⟩ := look_base c hc
  simp [b__law_kind_9, isx hc (k := .cl 24) rfl b1 fs, isx hc (k := .cl 25) rfl b2 fs, isx hc (k := .cl 26) rfl b3 fs]
  rfl
theorem kd_10 (X Y : T) : b__law_kind_10 [some (.exo c fs), some X, some Y, none, none] h = .ok (.nx [some (.exo c fs), some X, some Y, some (.lst (BB c)), none]) h := by
  obtain ⟨b1, b2, b3⟩ := look_own c hc
  simp [b__law_kind_10, isx hc (k := .ty "ValueError") rfl b1 fs, isx hc (k := .ty "LookupError") rfl b2 fs, isx hc (k := .ty "ArithmeticError") rfl b3 fs]
  rfl
omit hc in
theorem ne_same {ds : List PyData} {xs : List T} (e : T.toDs xs = some ds) (hd : min (PyData.list ds).depth (PyData.list ds).depth ≤ 150) (hr : PyData.eqv (.list ds) (.list ds) = true) : opNe (.lst xs) (.lst xs) h = .ok (.bl false) h := by
  have t : (T.lst xs).toDh h = some (.list ds) := by show (T.lst xs).toD = _; rw [T.toD, e]; rfl
  unfold opNe
  rw [t]
  dsimp only
  rw [if_pos hd, hr]
  rfl
omit hc in
theorem eq_same {ds : List PyData} {xs : List T} (e : T.toDs xs = some ds) (hd : min (PyData.list ds).depth (PyData.list ds).depth ≤ 150) (hr : PyData.eqv (.list ds) (.list ds) = true) : opEq (.lst xs) (.lst xs) h = .ok (.bl true) h := by
  have t : (T.lst xs).toDh h = some (.list ds) := by show (T.lst xs).toD = _; rw [T.toD, e]; rfl
  unfold opEq
  rw [t]
  dsimp only
  rw [if_pos hd, hr]
omit hc in
theorem bools3 (a b c : Bool) : T.toDs [.bl a, .bl b, .bl c] = some [.bool a, .bool b, .bool c] ∧ min (PyData.list [.bool a, .bool b, .bool c]).depth (PyData.list [.bool a, .bool b, .bool c]).depth ≤ 150 ∧ PyData.eqv (.list [.bool a, .bool b, .bool c]) (.list [.bool a, .bool b, .bool c]) = true := by
  refine ⟨rfl, by simp, ?_⟩
  cases a <;> cases b <;> cases c <;> simp
omit hc in
theorem ne_BB : opNe (.lst (BB c)) (.lst (BB c)) h = .ok (.bl false) h := let ⟨q1, q2, q3⟩ := bools3 _ _ _; ne_same h q1 q2 q3
omit hc in
theorem eq_BB : opEq (.lst (BB c)) (.lst (BB c)) h = .ok (.bl true) h := let ⟨q1, q2, q3⟩ := bools3 _ _ _; eq_same h q1 q2 q3
theorem cnt_FB : fCountB (FB c 24) [.bl true] = some (.int 1) := by
  match c, hc with
  | 0, _ => exact rfl
  | 1, _ => exact rfl
  | 2, _ => exact rfl
  | 3, _ => exact rfl
  | 4, _ => exact rfl
  | 5, _ => exact rfl
  | 6, _ => exact rfl
  | 7, _ => exact rfl
  | 8, _ => exact rfl
  | 9, _ => exact rfl
  | 10, _ => exact rfl
  | 11, _ => exact rfl
  | 12, _ => exact rfl
  | 13, _ => exact rfl
  | 14, _ => exact rfl
  | 15, _ => exact rfl
  | 16, _ => exact rfl
  | 17, _ => exact rfl
  | 18, _ => exact rfl
  | 19, _ => exact rfl
  | 20, _ => exact rfl
  | 21, _ => exact rfl
  | 22, _ => exact rfl
  | 23, _ => exact rfl
  | n + 24, hh => exact absurd hh (by omega)
theorem idx_FB : fIndexB (FB c 24) [.bl true] = some (.int c) := by
  match c, hc with
  | 0, _ => exact rfl
  | 1, _ => exact rfl
  | 2, _ => exact rfl
  | 3, _ => exact rfl
  | 4, _ => exact rfl
  | 5, _ => exact rfl
  | 6, _ => exact rfl
  | 7, _ => exact rfl
  | 8, _ => exact rfl
  | 9, _ => exact rfl
  | 10, _ => exact rfl
  | 11, _ => exact rfl
  | 12, _ => exact rfl
  | 13, _ => exact rfl
  | 14, _ => exact rfl
  | 15, _ => exact rfl
  | 16, _ => exact rfl
  | 17, _ => exact rfl
  | 18, _ => exact rfl
  | 19, _ => exact rfl
  | 20, _ => exact rfl
  | 21, _ => exact rfl
  | 22, _ => exact rfl
  | 23, _ => exact rfl
  | n + 24, hh => exact absurd hh (by omega)
theorem kd_11 : b__law_kind_11 [some (.exo c fs), some (.lst (FB c 24)), some (.lst (BB c)), some (.lst (BB c)), none] h = .ok (.nx [some (.exo c fs), some (.lst (FB c 24)), some (.lst (BB c)), some (.lst (BB c)), none]) h := by
  have q := cnt_FB hc
  have q2 := ne_BB (c := c) h
  simp only [b__law_kind_11, eLM, eVar_, aCons_, aNil_, eC_, bind_ok', sIf_, bOr_, bE_, eOp_, asB_, List.getElem?_cons_zero, List.getElem?_cons_succ, q, q2, ne_i, sNext_]
  rfl
theorem kd_12 : b__law_kind_12 [some (.exo c fs), some (.lst (FB c 24)), some (.lst (BB c)), some (.lst (BB c)), none] h = .ok (.nx [some (.exo c fs), some (.lst (FB c 24)), some (.lst (BB c)), some (.lst (BB c)), some (.int c)]) h := by
  have q := idx_FB hc
  simp [b__law_kind_12, eLM, q]
theorem kd_13 : b__law_kind_13 [some (.exo c fs), some (.lst (FB c 24)), some (.lst (BB c)), some (.lst (BB c)), some (.int c)] h = .ok (.ret (.int c)) h := by
  have e : ([.bl (decide ((c : Int) < 14)), .bl (decide ((13 : Int) < c) && decide ((c : Int) < 20)), .bl (decide ((19 : Int) < c))] : List T) = BB c := by
    unfold BB
    have e1 : decide ((c : Int) < 14) = decide (c < 14) := by by_cases q : c < 14 <;> simp [q] <;> omega
    have e2 : decide ((13 : Int) < c) = decide (14 ≤ c) := by by_cases q : 14 ≤ c <;> simp [q] <;> omega
    have e3 : decide ((c : Int) < 20) = decide (c < 20) := by by_cases q : c < 20 <;> simp [q] <;> omega
    have e4 : decide ((19 : Int) < c) = decide (20 ≤ c) := by by_cases q : 20 ≤ c <;> simp [q] <;> omega
    rw [e1, e2, e3, e4]
  have q2 := eq_BB (c := c) h
  have l3 : (BB c).length ≤ 16777216 := by show 3 ≤ _; decide
  by_cases q3 : (13 : Int) < c <;> simp [q3] at e <;> simp [-RT.opEq_l, b__law_kind_13, q3, e, q2, l3]
theorem kind_ok : m__law_kind [.exo c fs] h = .ok (.int c) h := by
  have bb : b__law_kind [some (.exo c fs), none, none, none, none] h = .ok (.ret (.int c)) h :=
    (seq_nx (kd_1 hc fs h)).trans ((seq_nx (kd_2 hc fs h)).trans ((seq_nx (kd_3 hc fs h)).trans ((seq_nx (kd_4 hc fs h)).trans ((seq_nx (kd_5 hc fs h)).trans ((seq_nx (kd_6 hc fs h)).trans ((seq_nx (kd_7 hc fs h)).trans ((seq_nx (kd_8 hc fs h)).trans ((seq_nx (kd_9 hc fs h _)).trans ((seq_nx (kd_10 hc fs h _ _)).trans ((seq_nx (kd_11 hc fs h)).trans ((seq_nx (kd_12 hc fs h)).trans (kd_13 hc fs h))))))))))))
  have r := run_ret (h := h) (ts := [T.exo c fs]) (n := 5) bb rfl
  rw [List.take_length] at r
  exact r
end
end K09
set_option Elab.async false
set_option linter.all false
set_option maxRecDepth 100000
set_option maxHeartbeats 4000000
namespace K09
open PySem RT
section
variable (t : T) (h : Hm)

theorem field_0 (ht : t.noRef = true) : m__law_field [X 0 t, .int 0] h = .ok t h := by
  simp [m__law_field, b__law_field, b__law_field_1, b__law_field_2, b__law_field_3, b__law_field_4, b__law_field_5, b__law_field_6, b__law_field_7, m__law_rare_field, b__law_rare_field, b__law_rare_field_1, b__law_rare_field_2, b__law_rare_field_3, b__law_rare_field_4, X, fOf, eXfld, arrS, pick, ocn, opIn, T.toD, T.toDs, T.toDh, ht, depA_ints]
theorem field_1 (ht : t.noRef = true) : m__law_field [X 1 t, .int 1] h = .ok t h := by
  simp [m__law_field, b__law_field, b__law_field_1, b__law_field_2, b__law_field_3, b__law_field_4, b__law_field_5, b__law_field_6, b__law_field_7, m__law_rare_field, b__law_rare_field, b__law_rare_field_1, b__law_rare_field_2, b__law_rare_field_3, b__law_rare_field_4, X, fOf, eXfld, arrS, pick, ocn, opIn, T.toD, T.toDs, T.toDh, ht, depA_ints]
theorem field_2 (ht : t.noRef = true) : m__law_field [X 2 t, .int 2] h = .ok t h := by
  simp [m__law_field, b__law_field, b__law_field_1, b__law_field_2, b__law_field_3, b__law_field_4, b__law_field_5, b__law_field_6, b__law_field_7, m__law_rare_field, b__law_rare_field, b__law_rare_field_1, b__law_rare_field_2, b__law_rare_field_3, b__law_rare_field_4, X, fOf, eXfld, arrS, pick, ocn, opIn, T.toD, T.toDs, T.toDh, ht, depA_ints]
theorem field_3 (ht : t.noRef = true) : m__law_field [X 3 t, .int 3] h = .ok t h := by
  simp [m__law_field, b__law_field, b__law_field_1, b__law_field_2, b__law_field_3, b__law_field_4, b__law_field_5, b__law_field_6, b__law_field_7, m__law_rare_field, b__law_rare_field, b__law_rare_field_1, b__law_rare_field_2, b__law_rare_field_3, b__law_rare_field_4, X, fOf, eXfld, arrS, pick, ocn, opIn, T.toD, T.toDs, T.toDh, ht, depA_ints]
theorem field_4 (ht : t.noRef = true) : m__law_field [X 4 t, .int 4] h = .ok t h := by
  simp [m__law_field, b__law_field, b__law_field_1, b__law_field_2, b__law_field_3, b__law_field_4, b__law_field_5, b__law_field_6, b__law_field_7, m__law_rare_field, b__law_rare_field, b__law_rare_field_1, b__law_rare_field_2, b__law_rare_field_3, b__law_rare_field_4, X, fOf, eXfld, arrS, pick, ocn, opIn, T.toD, T.toDs, T.toDh, ht, depA_ints]
theorem field_5 (ht : t.noRef = true) : m__law_field [X 5 t, .int 5] h = .ok t h := by
  simp [m__law_field, b__law_field, b__law_field_1, b__law_field_2, b__law_field_3, b__law_field_4, b__law_field_5, b__law_field_6, b__law_field_7, m__law_rare_field, b__law_rare_field, b__law_rare_field_1, b__law_rare_field_2, b__law_rare_field_3, b__law_rare_field_4, X, fOf, eXfld, arrS, pick, ocn, opIn, T.toD, T.toDs, T.toDh, ht, depA_ints]
theorem field_6 (ht : t.noRef = true) : m__law_field [X 6 t, .int 6] h = .ok t h := by
  simp [m__law_field, b__law_field, b__law_field_1, b__law_field_2, b__law_field_3, b__law_field_4, b__law_field_5, b__law_field_6, b__law_field_7, m__law_rare_field, b__law_rare_field, b__law_rare_field_1, b__law_rare_field_2, b__law_rare_field_3, b__law_rare_field_4, X, fOf, eXfld, arrS, pick, ocn, opIn, T.toD, T.toDs, T.toDh, ht, depA_ints]
theorem field_7 (ht : t.noRef = true) : m__law_field [X 7 t, .int 7] h = .ok t h := by
  simp [m__law_field, b__law_field, b__law_field_1, b__law_field_2, b__law_field_3, b__law_field_4, b__law_field_5, b__law_field_6, b__law_field_7, m__law_rare_field, b__law_rare_field, b__law_rare_field_1, b__law_rare_field_2, b__law_rare_field_3, b__law_rare_field_4, X, fOf, eXfld, arrS, pick, ocn, opIn, T.toD, T.toDs, T.toDh, ht, depA_ints]
theorem field_8 (ht : t.noRef = true) : m__law_field [X 8 t, .int 8] h = .ok t h := by
  simp [m__law_field, b__law_field, b__law_field_1, b__law_field_2, b__law_field_3, b__law_field_4, b__law_field_5, b__law_field_6, b__law_field_7, m__law_rare_field, b__law_rare_field, b__law_rare_field_1, b__law_rare_field_2, b__law_rare_field_3, b__law_rare_field_4, X, fOf, eXfld, arrS, pick, ocn, opIn, T.toD, T.toDs, T.toDh, ht, depA_ints]
theorem field_9 (ht : t.noRef = true) : m__law_field [X 9 t, .int 9] h = .ok t h := by
  simp [m__law_field, b__law_field, b__law_field_1, b__law_field_2, b__law_field_3, b__law_field_4, b__law_field_5, b__law_field_6, b__law_field_7, m__law_rare_field, b__law_rare_field, b__law_rare_field_1, b__law_rare_field_2, b__law_rare_field_3, b__law_rare_field_4, X, fOf, eXfld, arrS, pick, ocn, opIn, T.toD, T.toDs, T.toDh, ht, depA_ints]
theorem field_10 (ht : t.noRef = true) : m__law_field [X 10 t, .int 10] h = .ok t h := by
  simp [m__law_field, b__law_field, b__law_field_1, b__law_field_2, b__law_field_3, b__law_field_4, b__law_field_5, b__law_field_6, b__law_field_7, m__law_rare_field, b__law_rare_field, b__law_rare_field_1, b__law_rare_field_2, b__law_rare_field_3, b__law_rare_field_4, X, fOf, eXfld, arrS, pick, ocn, opIn, T.toD, T.toDs, T.toDh, ht, depA_ints]
theorem field_11 (ht : t.noRef = true) : m__law_field [X 11 t, .int 11] h = .ok t h := by
  simp [m__law_field, b__law_field, b__law_field_1, b__law_field_2, b__law_field_3, b__law_field_4, b__law_field_5, b__law_field_6, b__law_field_7, m__law_rare_field, b__law_rare_field, b__law_rare_field_1, b__law_rare_field_2, b__law_rare_field_3, b__law_rare_field_4, X, fOf, eXfld, arrS, pick, ocn, opIn, T.toD, T.toDs, T.toDh, ht, depA_ints]
theorem field_12 (ht : t.noRef = true) : m__law_field [X 12 t, .int 12] h = .ok t h := by
  simp [m__law_field, b__law_field, b__law_field_1, b__law_field_2, b__law_field_3, b__law_field_4, b__law_field_5, b__law_field_6, b__law_field_7, m__law_rare_field, b__law_rare_field, b__law_rare_field_1, b__law_rare_field_2, b__law_rare_field_3, b__law_rare_field_4, X, fOf, eXfld, arrS, pick, ocn, opIn, T.toD, T.toDs, T.toDh, ht, depA_ints]
theorem field_13 (ht : t.noRef = true) : m__law_field [X 13 t, .int 13] h = .ok t h := by
  simp [m__law_field, b__law_field, b__law_field_1, b__law_field_2, b__law_field_3, b__law_field_4, b__law_field_5, b__law_field_6, b__law_field_7, m__law_rare_field, b__law_rare_field, b__law_rare_field_1, b__law_rare_field_2, b__law_rare_field_3, b__law_rare_field_4, X, fOf, eXfld, arrS, pick, ocn, opIn, T.toD, T.toDs, T.toDh, ht, depA_ints]
theorem field_14 (ht : t.noRef = true) : m__law_field [X 14 t, .int 14] h = .ok t h := by
  simp [m__law_field, b__law_field, b__law_field_1, b__law_field_2, b__law_field_3, b__law_field_4, b__law_field_5, b__law_field_6, b__law_field_7, m__law_rare_field, b__law_rare_field, b__law_rare_field_1, b__law_rare_field_2, b__law_rare_field_3, b__law_rare_field_4, X, fOf, eXfld, arrS, pick, ocn, opIn, T.toD, T.toDs, T.toDh, ht, depA_ints]
theorem field_15 (ht : t.noRef = true) : m__law_field [X 15 t, .int 15] h = .ok t h := by
  simp [m__law_field, b__law_field, b__law_field_1, b__law_field_2, b__law_field_3, b__law_field_4, b__law_field_5, b__law_field_6, b__law_field_7, m__law_rare_field, b__law_rare_field, b__law_rare_field_1, b__law_rare_field_2, b__law_rare_field_3, b__law_rare_field_4, X, fOf, eXfld, arrS, pick, ocn, opIn, T.toD, T.toDs, T.toDh, ht, depA_ints]
theorem field_16 (ht : t.noRef = true) : m__law_field [X 16 t, .int 16] h = .ok t h := by
  simp [m__law_field, b__law_field, b__law_field_1, b__law_field_2, b__law_field_3, b__law_field_4, b__law_field_5, b__law_field_6, b__law_field_7, m__law_rare_field, b__law_rare_field, b__law_rare_field_1, b__law_rare_field_2, b__law_rare_field_3, b__law_rare_field_4, X, fOf, eXfld, arrS, pick, ocn, opIn, T.toD, T.toDs, T.toDh, ht, depA_ints]
theorem field_17 (ht : t.noRef = true) : m__law_field [X 17 t, .int 17] h = .ok t h := by
  simp [m__law_field, b__law_field, b__law_field_1, b__law_field_2, b__law_field_3, b__law_field_4, b__law_field_5, b__law_field_6, b__law_field_7, m__law_rare_field, b__law_rare_field, b__law_rare_field_1, b__law_rare_field_2, b__law_rare_field_3, b__law_rare_field_4, X, fOf, eXfld, arrS, pick, ocn, opIn, T.toD, T.toDs, T.toDh, ht, depA_ints]
theorem field_18 (ht : t.noRef = true) : m__law_field [X 18 t, .int 18] h = .ok t h := by
  simp [m__law_field, b__law_field, b__law_field_1, b__law_field_2, b__law_field_3, b__law_field_4, b__law_field_5, b__law_field_6, b__law_field_7, m__law_rare_field, b__law_rare_field, b__law_rare_field_1, b__law_rare_field_2, b__law_rare_field_3, b__law_rare_field_4, X, fOf, eXfld, arrS, pick, ocn, opIn, T.toD, T.toDs, T.toDh, ht, depA_ints]
theorem field_20 (ht : t.noRef = true) : m__law_field [X 20 t, .int 20] h = .ok t h := by
  simp [m__law_field, b__law_field, b__law_field_1, b__law_field_2, b__law_field_3, b__law_field_4, b__law_field_5, b__law_field_6, b__law_field_7, m__law_rare_field, b__law_rare_field, b__law_rare_field_1, b__law_rare_field_2, b__law_rare_field_3, b__law_rare_field_4, X, fOf, eXfld, arrS, pick, ocn, opIn, T.toD, T.toDs, T.toDh, ht, depA_ints]
theorem field_21 (ht : t.noRef = true) : m__law_field [X 21 t, .int 21] h = .ok t h := by
  simp [m__law_field, b__law_field, b__law_field_1, b__law_field_2, b__law_field_3, b__law_field_4, b__law_field_5, b__law_field_6, b__law_field_7, m__law_rare_field, b__law_rare_field, b__law_rare_field_1, b__law_rare_field_2, b__law_rare_field_3, b__law_rare_field_4, X, fOf, eXfld, arrS, pick, ocn, opIn, T.toD, T.toDs, T.toDh, ht, depA_ints]
theorem field_22 (ht : t.noRef = true) : m__law_field [X 22 t, .int 22] h = .ok t h := by
  simp [m__law_field, b__law_field, b__law_field_1, b__law_field_2, b__law_field_3, b__law_field_4, b__law_field_5, b__law_field_6, b__law_field_7, m__law_rare_field, b__law_rare_field, b__law_rare_field_1, b__law_rare_field_2, b__law_rare_field_3, b__law_rare_field_4, X, fOf, eXfld, arrS, pick, ocn, opIn, T.toD, T.toDs, T.toDh, ht, depA_ints]
theorem field_23 (ht : t.noRef = true) : m__law_field [X 23 t, .int 23] h = .ok t h := by
  simp [m__law_field, b__law_field, b__law_field_1, b__law_field_2, b__law_field_3, b__law_field_4, b__law_field_5, b__law_field_6, b__law_field_7, m__law_rare_field, b__law_rare_field, b__law_rare_field_1, b__law_rare_field_2, b__law_rare_field_3, b__law_rare_field_4, X, fOf, eXfld, arrS, pick, ocn, opIn, T.toD, T.toDs, T.toDh, ht, depA_ints]
end
end K09
set_option Elab.async false
set_option linter.all false
set_option maxRecDepth 100000
set_option maxHeartbeats 4000000
namespace K09
open PySem RT
section
variable (t : T) (ht : t.noRef = true) (h : Hm)
include ht
theorem field_ok {c : Nat} (hc : c < 24) (h19 : c ≠ 19) : m__law_field [X c t, .int c] h = .ok t h := by
  match c, hc, h19 with
  | 0, _, _ => exact field_0 t h ht
  | 1, _, _ => exact field_1 t h ht
  | 2, _, _ => exact field_2 t h ht
  | 3, _, _ => exact field_3 t h ht
  | 4, _, _ => exact field_4 t h ht
  | 5, _, _ => exact field_5 t h ht
  | 6, _, _ => exact field_6 t h ht
  | 7, _, _ => exact field_7 t h ht
  | 8, _, _ => exact field_8 t h ht
  | 9, _, _ => exact field_9 t h ht
  | 10, _, _ => exact field_10 t h ht
  | 11, _, _ => exact field_11 t h ht
  | 12, _, _ => exact field_12 t h ht
  | 13, _, _ => exact field_13 t h ht
  | 14, _, _ => exact field_14 t h ht
  | 15, _, _ => exact field_15 t h ht
  | 16, _, _ => exact field_16 t h ht
  | 17, _, _ => exact field_17 t h ht
  | 18, _, _ => exact field_18 t h ht
  | 19, _, hh => exact absurd rfl hh
  | 20, _, _ => exact field_20 t h ht
  | 21, _, _ => exact field_21 t h ht
  | 22, _, _ => exact field_22 t h ht
  | 23, _, _ => exact field_23 t h ht
  | n + 24, hh, _ => exact absurd hh (by omega)
omit ht in
theorem lc2 {te : ET} {x y : T} {st : StT} (i : Nat) (e : te (st.set i (some x)) h = .ok y h) : lcL (gNm i) bYes te st [x, x] h = .ok [y, y] h :=
  lcL_yes (e1 := rfl) (e2 := e) (e3 := lcL_yes (e1 := rfl) (e2 := e) (e3 := rfl))
variable (P : Option T) {c : Nat} (hc : c < 24) (x : Option T)
include hc
theorem in_1 : b__law_right_1b_1b_1 [P, some t, some (.int c), some (pr c t), x] h = .ok (.nx [P, some t, some (.int c), some (pr c t), x]) h := by
  have k := kind_ok hc (if c = 19 then [] else [(fOf c, t)]) h
  have l := lc2 (te := b__law_right_1b_1b_1_e1) (x := X c t) (y := .int c) (st := wipeT [P, some t, some (.int c), some (.lst [X c t, X c t]), x] [4]) h 4 (by show b__law_right_1b_1b_1_e1 [P, some t, some (.int c), some (.lst [X c t, X c t]), some (X c t)] h = _; simp [b__law_right_1b_1b_1_e1, arrS, pick, ocn, X, k])
  have m := ne_same (xs := [.int c, .int c]) h rfl (by simp) (by simp)
  simp [-RT.opNe_l, b__law_right_1b_1b_1, pr, l, m]
theorem in_2 (he : opEq t t h = .ok (.bl true) h) : b__law_right_1b_1b_2 [P, some t, some (.int c), some (pr c t), x] h = .ok (.nx [P, some t, some (.int c), some (pr c t), x]) h := by
  by_cases h19 : c = 19
  · subst h19
    simp [b__law_right_1b_1b_2]
  · have k := field_ok t ht h hc h19
    have l := lc2 (te := b__law_right_1b_1b_2_e1) (x := X c t) (y := .bl true) (st := wipeT [P, some t, some (.int c), some (.lst [X c t, X c t]), x] [4]) h 4 (by show b__law_right_1b_1b_2_e1 [P, some t, some (.int c), some (.lst [X c t, X c t]), some (X c t)] h = _; simp [b__law_right_1b_1b_2_e1, arrS, pick, ocn, k, he])
    have hz : ¬ (c : Int) = 19 := by omega
    simp [b__law_right_1b_1b_2, pr, l, hz, allB]
end
end K09
set_option Elab.async false
set_option linter.all false
set_option maxRecDepth 100000
set_option maxHeartbeats 4000000
namespace K09
open PySem RT
section
variable (t : T) (ht : t.noRef = true) (h : Hm) (he : opEq t t h = .ok (.bl true) h) (P : Option T)
include ht he
theorem in_b {c : Nat} (hc : c < 24) (x : Option T) : b__law_right_1b_1b [P, some t, some (.int c), some (pr c t), x] h = .ok (.nx [P, some t, some (.int c), some (pr c t), x]) h :=
  (seq_nx (in_1 t ht h P hc x)).trans (in_2 t ht h P hc x he)
theorem in_loop (x : Option T) : ∀ (n k : Nat) (a b : Option T), k + n ≤ 24 → ∃ a' b', forL (gTp 2 (gsCons (gNm 2) (gsCons (gNm 3) gsNil))) b__law_right_1b_1b (enumT k ((List.range' k n).map (pr · t))) [P, some t, a, b, x] h = .ok (.nx [P, some t, a', b', x]) h
  | 0, k, a, b, _ => ⟨a, b, rfl⟩
  | n + 1, k, a, b, hk => by
    obtain ⟨a', b', e⟩ := in_loop x n (k + 1) (some (.int k)) (some (pr k t)) (by omega)
    refine ⟨a', b', ?_⟩
    rw [List.range'_succ, List.map_cons, enumT]
    rw [forL_nx (e1 := gtp2_ok) (e2 := in_b t ht h he P (c := k) (by omega) x)]
    exact e
theorem out_b (a b x : Option T) : ∃ a' b', b__law_right_1b [P, some t, a, b, x] h = .ok (.nx [P, some t, a', b', x]) h := by
  obtain ⟨a', b', e⟩ := in_loop t ht h he P x 24 0 a b (by omega)
  refine ⟨a', b', ?_⟩
  have m := made_ok t ht h
  rw [List.range_eq_range'] at m
  generalize (List.range' 0 24).map (pr · t) = L at m e
  have it : iEnumA (aCons (eCall 1 (fun xs zs h => m__law_made (arrS [(0, 0)] [] xs zs) h) (aCons (eVar 1) aNil)) aNil) [P, some t, a, b, x] h = .ok (enumT 0 L) h := by
    simp [arrS, pick, ocn, m]
  rw [b__law_right_1b, sFor_, it, th_ok]
  exact e
end
theorem five {l : Nat} {h : Hm} (tb tz : T) (H : ∀ t ∈ [T.non, tb, .str "word", .tup [.int 0, .tup [.int 1]], tz], t.noRef = true ∧ opEq t t h = .ok (.bl true) h) (P : Option T) :
    ∃ a0 a1 a2, forL (gNm 1) b__law_right_1b [T.non, tb, .str "word", .tup [.int 0, .tup [.int 1]], tz] [P, none, none, none, none] h = .ok (.nx [P, a0, a1, a2, none]) h := by
  obtain ⟨p1, q1, e1⟩ := out_b T.non (H _ (by simp)).1 h (H _ (by simp)).2 P none none none
  obtain ⟨p2, q2, e2⟩ := out_b tb (H _ (by simp)).1 h (H _ (by simp)).2 P p1 q1 none
  obtain ⟨p3, q3, e3⟩ := out_b (.str "word") (H _ (by simp)).1 h (H _ (by simp)).2 P p2 q2 none
  obtain ⟨p4, q4, e4⟩ := out_b (.tup [.int 0, .tup [.int 1]]) (H _ (by simp)).1 h (H _ (by simp)).2 P p3 q3 none
  obtain ⟨p5, q5, e5⟩ := out_b tz (H tz (by simp)).1 h (H tz (by simp)).2 P p4 q4 none
  refine ⟨some tz, p5, q5, ?_⟩
  rw [forL_nx (e1 := rfl) (e2 := e1), forL_nx (e1 := rfl) (e2 := e2), forL_nx (e1 := rfl) (e2 := e3), forL_nx (e1 := rfl) (e2 := e4), forL_nx (e1 := rfl) (e2 := e5)]
  rfl
end K09
set_option Elab.async false
set_option linter.all false
set_option maxRecDepth 100000
set_option maxHeartbeats 4000000
namespace K09
open PySem RT
theorem right_ok (l : Nat) (h : Hm) (P : Pool h l 0) : ∃ h', m__law_right [.ref l] h = .ok (.bl true) h' := by
  obtain ⟨r1, c1, e1, P1, a1, a2⟩ := draw_ok P (by omega) (10 ^ 60) (by decide +kernel) (by have := limt60; omega)
  obtain ⟨r2, c2, e2, P2, b1, b2⟩ := draw_ok P1 (by omega) 50 (by decide) (by have := limt18; omega)
  rw [List.set_set] at e2 P2
  have big : (10 : Int) ^ 60 = 1000000000000000000000000000000000000000000000000000000000000 := by decide +kernel
  rw [big] at e1
  generalize hh : h.set l c2 = h2 at *
  have H : ∀ t ∈ [T.non, .int r1, .str "word", .tup [.int 0, .tup [.int 1]], .int (0 - r2)], t.noRef = true ∧ opEq t t h2 = .ok (.bl true) h2 := by
    intro t ht
    simp only [List.mem_cons, List.not_mem_nil, or_false] at ht
    rcases ht with e | e | e | e | e <;> subst e
    · exact ⟨rfl, by simp [T.toDh, T.toD]⟩
    · exact ⟨rfl, by simp⟩
    · exact ⟨rfl, by simp [T.toDh, T.toD]⟩
    · exact ⟨rfl, by simp [T.toDh, T.toD, T.toDs]⟩
    · exact ⟨rfl, by simp⟩
  obtain ⟨x0, x1, x2, e5⟩ := five (l := l) (.int r1) (.int (0 - r2)) H (some (.ref l))
  have it : iVal (eLst (aCons (eC .non) (aCons (eCall 2 (fun xs zs h => m__law_draw (arrS [(0, 0), (0, 1)] [] xs zs) h) (aCons (eVar 0) (aCons (eOp opPow (eC (.int 10)) (eC (.int 60))) aNil))) (aCons (eC (.str "word")) (aCons (eTup (aCons (eC (.int 0)) (aCons (eTup (aCons (eC (.int 1)) aNil)) aNil))) (aCons (eOp opSub (eC (.int 0)) (eCall 2 (fun xs zs h => m__law_draw (arrS [(0, 0), (0, 1)] [] xs zs) h) (aCons (eVar 0) (aCons (eC (.int 50)) aNil)))) aNil)))))) [some (.ref l), none, none, none, none] h = .ok [T.non, .int r1, .str "word", .tup [.int 0, .tup [.int 1]], .int (0 - r2)] h2 := by
    simp [arrS, pick, ocn, e1, e2, itemsF]
  refine ⟨h2.take h.length, ?_⟩
  have b1 : b__law_right_1 [some (.ref l), none, none, none, none] h = .ok (.nx [some (.ref l), x0, x1, x2, none]) h2 := by
    rw [b__law_right_1, sFor_, it, th_ok]
    exact e5
  have bb : b__law_right [some (.ref l), none, none, none, none] h = .ok (.ret (.bl true)) h2 := (seq_nx b1).trans (by simp [b__law_right_2])
  exact run_ret (h := h) (ts := [.ref l]) (n := 5) bb rfl
/-! ### the law -/
def n4 (ns : List Int) : Nat := max 2 (min 4 ns.length)
theorem n4_le (ns : List Int) : n4 ns ≤ 6 := by unfold n4; omega
theorem teC_ok (ns : List Int) (st : StT) (e0 : st[0]? = some (some (.lst (ns.map T.int)))) (k : Nat) (h : Hm) (gi : st[2]? = some (some (.int (k : Int)))) (hk : k ≤ 6) : ∃ h', b_law_3_e1 st h = .ok (.bl true) h' := by
  obtain ⟨f, e1⟩ := cell_ok ns k hk h
  obtain ⟨c, e2, P⟩ := pool_ok f h
  obtain ⟨h3, e3⟩ := right_ok _ _ P
  exact ⟨h3, by simp only [b_law_3_e1, eCall_, aCons_, aNil_, eVar_, bind_ok', e0, gi, arrS, pick, ocn, List.getElem?_cons_zero, List.getElem?_cons_succ, List.length_cons, List.length_nil, if_true, e1, e2, e3]⟩
theorem max_ok (ns : List Int) (st : StT) (e0 : st[0]? = some (some (.lst (ns.map T.int)))) (h : Hm) : (eCB gMax (aCons (eC (.int 2)) (aCons (eCB gMin (aCons (eC (.int 4)) (aCons (eCB (gLenK (fun _ => none)) (aCons (eVar 0) aNil)) aNil))) aNil))) st h = .ok (.int (n4 ns : Nat)) h := by
  have e : ((n4 ns : Nat) : Int) = if 2 < (if (ns.length : Int) < 4 then (ns.length : Int) else (4 : Int)) then (if (ns.length : Int) < 4 then (ns.length : Int) else (4 : Int)) else 2 := by
    unfold n4
    split <;> split <;> omega
  simp [e0, e]
theorem last3 (ns : List Int) (x : Option T) (h : Hm) : ∃ h', b_law_3 [some (.lst (ns.map T.int)), x, none] h = .ok (.ret (.bl true)) h' := by
  obtain ⟨h', e⟩ := lc_true (n := 6) 2 (st := wipeT [some (.lst (ns.map T.int)), x, none] [2]) (te := b_law_3_e1)
    (fun k h hk => teC_ok ns _ rfl k h rfl hk) (n4 ns) (n4_le ns) h
  refine ⟨h', ?_⟩
  have mm := max_ok ns [some (.lst (ns.map T.int)), x, none] rfl h
  have sm := small_nat (n4_le ns)
  have sz : (rangeT 0 ((n4 ns : Nat) : Int).toNat).length ≤ sizeLine := by have := n4_le ns; simp [rangeT]; omega
  rw [b_law_3, sRet_, eCB_, aCons_, eLc_, iRg1_, aCons_, mm, bind_ok', aNil_, bind_ok', bind_ok']
  dsimp only
  rw [if_pos sm, bind_ok', if_pos sz, e, bind_ok', bind_ok', aNil_, bind_ok', bind_ok', gAll_l, allB_rep, allR_s, th_ok]
def LIMS : T := .lst [.int 24, .int 40, .int 1000000000000000000000000000000000000000000000000000000000000, .int 40, .int 20, .int 1000000000000000000000000000000]
theorem two_ok (ns : T) (h : Hm) : b_law_2 [some ns, some LIMS, none] h = .ok (.nx [some ns, some LIMS, none]) h := by
  have sh := showD_ok (x := .lst [.int 24, .int 40, .int 1000000000000000000000000000000000000000000000000000000000000, .int 40, .int 20, .int 1000000000000000000000000000000]) (h := h) (d := .list [.int 24, .int 40, .int 1000000000000000000000000000000000000000000000000000000000000, .int 40, .int 20, .int 1000000000000000000000000000000]) (by simp [T.toDh, T.toD, T.toDs]) (by simp only [GoodD, GoodDs]; decide +kernel) (by simp only [est, estAll]; omega) (by simp)
  generalize PyData.shown _ = s at sh
  simp [LIMS, b_law_2, sh]
theorem law_true (ns : List Int) (hn : ns.length ≤ 63) (hb : ∀ z ∈ ns, Builtin.Int.intBits z ≤ 1048576) : ∃ hE, m_law [.lst (ns.map T.int)] [] = .ok (.bl true) hE := by
  obtain ⟨h', s3⟩ := last3 ns (some LIMS) []
  have s1 : b_law_1 [some (.lst (ns.map T.int)), none, none] [] = .ok (.nx [some (.lst (ns.map T.int)), some LIMS, none]) [] := by
    simp [b_law_1, LIMS]
  exact ⟨_, run_ret (h' := h') (by
    show b_law [some (.lst (ns.map T.int)), none, none] [] = _
    rw [b_law, seq_nx s1, seq_nx (two_ok _ _), s3]) rfl⟩
end K09
open PySem PySem.W PySem.Calls PyProof.Rows
theorem PySem.Challenge.cw_robintrees_k09_limits_and_errors_holds : PySem.Challenge.rw_robintrees_k09_limits_and_errors.Holds := by
  w_on; o_law
  refine HandSHeadRun.head_any (r := OpenLaw.row PySem.Challenge.rw_robintrees_k09_limits_and_errors) (q := view (OpenLaw.row PySem.Challenge.rw_robintrees_k09_limits_and_errors).prog [43]) (H := K09.hk) (ob := K09.ob) (M := 20000) (loose := (("RobinError" : Str) :: ("InvalidNumber" : Str) :: ("InvalidStep" : Str) :: ("InvalidProgression" : Str) :: ("InvalidProgressions" : Str) :: ("InvalidName" : Str) :: ("InvalidArity" : Str) :: ("InvalidTargets" : Str) :: ("InvalidText" : Str) :: ("InvalidTree" : Str) :: ("InvalidTable" : Str) :: ("InvalidSetting" : Str) :: ("InvalidSightings" : Str) :: ("InvalidDeed" : Str) :: ("InvalidDeeds" : Str) :: ("SearchError" : Str) :: ("UnknownName" : Str) :: ("NameTaken" : Str) :: ("NotFull" : Str) :: ("Unexplained" : Str) :: ("LastServer" : Str) :: ("NothingToUndo" : Str) :: ("SizeError" : Str) :: ("TooManyNames" : Str) :: ("TooDeep" : Str) :: ("TooLong" : Str) :: ("TooManyRequests" : Str) :: ("_law_cell" : Str) :: ("_law_pool" : Str) :: ("_law_draw" : Str) :: ("_law_kind" : Str) :: ("_law_made" : Str) :: ("_law_field" : Str) :: ("_law_rare_field" : Str) :: ("_law_right" : Str) :: ("MOST_NAMES" : Str) :: ("MOST_DEPTH" : Str) :: ("MOST_STEP" : Str) :: ("MOST_SIGHTINGS" : Str) :: ("MOST_SEEN" : Str) :: ("MOST_NUMBER" : Str) :: ([] : List Str))) (d := HandSHeadRun.topDef (OpenLaw.row PySem.Challenge.rw_robintrees_k09_limits_and_errors).prog 43) (kwd := []) K09.ob_eq
    (by kernel_rfl) (fun s => by kernel_rfl) K09.head (by kernel_rfl) (by kernel_rfl) (by kernel_rfl) (by rfl) (by first | assumption | decide +kernel) (by decide +kernel) ⟨rfl, rfl, rfl, rfl, rfl, by decide +kernel⟩ ?hw ?hc
  case hw => w_witness2
  case hc =>
    refine RT.walk_go (l := PySem.Challenge.rw_robintrees_k09_limits_and_errors) (n := 63) (k := 101) (x := "_law_script") (g := K09.m_law) rfl (by decide) (by kernel_rfl) ⟨rfl, by decide, by decide⟩ rfl ?F K09.law_true
    intro w mg fa h Y G hmg0
    obtain ⟨K, KX, q⟩ := Y
    have hmg : mg ("law" : PySem.Str) = some (.ref fa) := by
      have e : (HandSHeadRun.topDef (OpenLaw.row PySem.Challenge.rw_robintrees_k09_limits_and_errors).prog 43).name = ("law" : PySem.Str) := by kernel_rfl
      rw [← e]
      exact hmg0
    have fx : K09.Fx K mg h := ⟨KX, G, q⟩
    have e := hmg.symm.trans (He.glo_ok fx.X fx.G (fx.at_ 153))
    cases e
    obtain ⟨fd, F⟩ := q.def_ 31 (d := K09.d_law) rfl
    have b := L2.FunD.bindsA (ps := ["_law_script"]) F fun _ _ _ _ _ _ us hl => match us, hl with | [_], _ => rfl
    refine ⟨K09.SS fx, fd, rfl, KX, fun s v => b s [v] rfl, fun b hb hG => ?_⟩
    have fy : K09.Fx K mg b := ⟨hb, hG, q⟩
    obtain ⟨fd2, F2, R2⟩ := K09.ok_law (w := w) fy
    have same := RT.fd_same F F2
    subst same
    exact R2
