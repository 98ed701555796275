import PyProof.Rows.All
import Wide.All
import OpenK.AllK
import Wide.FinOn
import HandS.ForSpec
import HandS.IsInst
import HandS.Wide
import HandS.ExcInit
import HandS.ClsMeth
import PyProof.InstNe
import PyProof.StrReplace2
import HandS.SlotsOwn
import HandS.ExcBuiltin
import HandS.RaiseOp
import PyProof.AutoIntOpsIf
import HandS.Defaults
import HandS.ExcField
import HandS.Steps
import HandS.Evl
import PyProof.Rows.Range3
import PyProof.Conv_bool
import HandS.ExcIs
import KE.KExcIs
import HandS.ExcValue
import HandS.MakeKwOnly
import HandS.OwnEq
import PySem.Challenge.RW_anytune_k08_marks
set_option Elab.async false
set_option maxRecDepth 100000
set_option maxHeartbeats 4000000
set_option linter.all false
section
/-! Operators of an own class, over the hand layer. -/
namespace AT
open PySem PySem.Spec PyProof.Rows L2
open AutoSeq1 (wpAny_loadPart')

/-- an object that is no int within -/
def NoPrim (o : Obj) : Prop := ∀ v, o.data ≠ .prim v
theorem noprim_inst {C dx : Addr} : NoPrim (PySem.W.instObj C dx) := fun v e => by cases e

def HasObj (x : Addr) (s : Shared) : Prop := ∃ C dx, s.heap.get? x = some (PySem.W.instObj C dx)

theorem decl_add (a : Int) (t : Tok) (x : Addr) : GivesAt (HasObj x) (Builtin.«int.__add__» ⟨[.int a t, .ref x], []⟩) (.val .notImplemented) := by
  intro prog w A R s hP hq
  obtain ⟨C, dx, hx⟩ := hP
  obtain ⟨hp, g, d, tk, os⟩ := s
  wp_walk using wpAny_loadPart' hx
  exact hq
theorem decl_sub (a : Int) (t : Tok) (x : Addr) : GivesAt (HasObj x) (Builtin.«int.__sub__» ⟨[.int a t, .ref x], []⟩) (.val .notImplemented) := by
  intro prog w A R s hP hq
  obtain ⟨C, dx, hx⟩ := hP
  obtain ⟨hp, g, d, tk, os⟩ := s
  wp_walk using wpAny_loadPart' hx
  exact hq
theorem decl_mul (a : Int) (t : Tok) (x : Addr) : GivesAt (HasObj x) (Builtin.«int.__mul__» ⟨[.int a t, .ref x], []⟩) (.val .notImplemented) := by
  intro prog w A R s hP hq
  obtain ⟨C, dx, hx⟩ := hP
  obtain ⟨hp, g, d, tk, os⟩ := s
  wp_walk using wpAny_loadPart' hx
  exact hq
theorem decl_floordiv (a : Int) (t : Tok) (x : Addr) : GivesAt (HasObj x) (Builtin.«int.__floordiv__» ⟨[.int a t, .ref x], []⟩) (.val .notImplemented) := by
  intro prog w A R s hP hq
  obtain ⟨C, dx, hx⟩ := hP
  obtain ⟨hp, g, d, tk, os⟩ := s
  wp_walk using wpAny_loadPart' hx
  exact hq
theorem decl_mod (a : Int) (t : Tok) (x : Addr) : GivesAt (HasObj x) (Builtin.«int.__mod__» ⟨[.int a t, .ref x], []⟩) (.val .notImplemented) := by
  intro prog w A R s hP hq
  obtain ⟨C, dx, hx⟩ := hP
  obtain ⟨hp, g, d, tk, os⟩ := s
  wp_walk using wpAny_loadPart' hx
  exact hq
theorem decl_lt (a : Int) (t : Tok) (x : Addr) : GivesAt (HasObj x) (Builtin.«int.__lt__» ⟨[.int a t, .ref x], []⟩) (.val .notImplemented) := by
  intro prog w A R s hP hq
  obtain ⟨C, dx, hx⟩ := hP
  obtain ⟨hp, g, d, tk, os⟩ := s
  wp_walk using wpAny_loadPart' hx
  exact hq
theorem decl_le (a : Int) (t : Tok) (x : Addr) : GivesAt (HasObj x) (Builtin.«int.__le__» ⟨[.int a t, .ref x], []⟩) (.val .notImplemented) := by
  intro prog w A R s hP hq
  obtain ⟨C, dx, hx⟩ := hP
  obtain ⟨hp, g, d, tk, os⟩ := s
  wp_walk using wpAny_loadPart' hx
  exact hq
theorem decl_gt (a : Int) (t : Tok) (x : Addr) : GivesAt (HasObj x) (Builtin.«int.__gt__» ⟨[.int a t, .ref x], []⟩) (.val .notImplemented) := by
  intro prog w A R s hP hq
  obtain ⟨C, dx, hx⟩ := hP
  obtain ⟨hp, g, d, tk, os⟩ := s
  wp_walk using wpAny_loadPart' hx
  exact hq
theorem decl_ge (a : Int) (t : Tok) (x : Addr) : GivesAt (HasObj x) (Builtin.«int.__ge__» ⟨[.int a t, .ref x], []⟩) (.val .notImplemented) := by
  intro prog w A R s hP hq
  obtain ⟨C, dx, hx⟩ := hP
  obtain ⟨hp, g, d, tk, os⟩ := s
  wp_walk using wpAny_loadPart' hx
  exact hq
theorem decl_eq (a : Int) (t : Tok) (x : Addr) : GivesAt (HasObj x) (Builtin.«int.__eq__» ⟨[.int a t, .ref x], []⟩) (.val .notImplemented) := by
  intro prog w A R s hP hq
  obtain ⟨C, dx, hx⟩ := hP
  obtain ⟨hp, g, d, tk, os⟩ := s
  wp_walk using wpAny_loadPart' hx
  exact hq
theorem decl_ne (a : Int) (t : Tok) (x : Addr) : GivesAt (HasObj x) (Builtin.«int.__ne__» ⟨[.int a t, .ref x], []⟩) (.val .notImplemented) := by
  intro prog w A R s hP hq
  obtain ⟨C, dx, hx⟩ := hP
  obtain ⟨hp, g, d, tk, os⟩ := s
  wp_walk using wpAny_loadPart' hx
  exact hq

section
variable {prog : Program} {w : World} {A : Around} {E : Value → Shared → Prop} {s : Shared} {K : PySem.W.Frag} {x C L f : Addr} {h₀ : Heap} {m : Str → Option Value} {ox : Obj} {od : Option Obj}
open PySem.W

/-- x op y, two instances of one class -/
theorem bin_same {op : Operator} {y : Addr} {oy : Obj} {od' : Option Obj} {Q : Value → Shared → Prop} (X : K.In s.heap) (I : InstAt s.heap x ox C od) (J : InstAt s.heap y oy C od') (hc : selfFirst K C = true)
    (hs : findIn K (.ref C) (PySem.dunder op.info.2) = some (some (.ref f))) (hf : isFn K (.ref f) = true)
    (h : wpAny (model prog w) A (call (.ref f) [.ref x, .ref y]) (PySem.W.CmpBack Q) E s) : wpAny (model prog w) A (binaryOp op (.ref x) (.ref y)) Q E s := by
  obtain ⟨cd, rest, hcd, hm⟩ := ksp_first hc
  rcases hi : op.info with ⟨sym, nm'⟩
  rw [hi] at hs
  dsimp only at hs
  have one := ksp_try X I hs hf h
  obtain ⟨hh, g, d, tt, os⟩ := s
  have L1 : Looks (model prog w) hh (typeOf (.ref x)) (.ref C) := I.type
  have L2 : Looks (model prog w) hh (typeOf (.ref y)) (.ref C) := J.type
  have L3 : Looks (model prog w) hh (fillsNumberSlot (.ref C) nm') true := fills_K X hcd hm hs
  simp only [binaryOp, hi]
  refine wpAny_holding (wpAny_bind ?_)
  unfold binaryOp1
  refine wpAny_bind (L1.at (wpAny_bind (L2.at (wpAny_bind (L3.at ?_)))))
  simp only [beq_self_eq_true, if_true]
  ksp_lk
  refine wpAny_mono one (fun r s' hr' => ?_) fun _ _ e => e
  obtain ⟨v, rfl, hq⟩ := hr'
  ksp_lk
  exact hq

/-- int op y, y an instance with the reflected method -/
theorem bin_refl {op : Operator} {i : Int} {t : Tok} {id : String} {B : Builtin} {dx : Addr} {Q : Value → Shared → Prop} (X : K.In s.heap) (I : InstAt s.heap x (instObj C dx) C od) (hc : selfFirst K C = true)
    (hl : findIn K (.ref C) (PySem.dunder op.info.2) = some (some (.ref L))) (hs : findIn K (.ref C) (dunderR op.info.2) = some (some (.ref f))) (hf : isFn K (.ref f) = true)
    (hsub : subIn K (.ref C) (.type "int") = some false) (hfi : fillsNumberSlot (.type "int") op.info.2 = pure true)
    (slot : Slot "int" (PySem.dunder op.info.2) id) (entry : entryFor table id = some B) (args : argsOk id ⟨[.int i t, .ref x], []⟩) (dec : GivesAt (HasObj x) (B ⟨[.int i t, .ref x], []⟩) (.val .notImplemented))
    (h : wpAny (model prog w) A (call (.ref f) [.ref x, .int i t]) (PySem.W.CmpBack Q) E s) : wpAny (model prog w) A (binaryOp op (.int i t) (.ref x)) Q E s := by
  obtain ⟨cd, rest, hcd, hm⟩ := ksp_first hc
  have hx : HasObj x s := ⟨C, dx, I.at_⟩
  rcases hi : op.info with ⟨sym, nm'⟩
  rw [hi] at hs hl hfi slot
  dsimp only at hs hl hfi slot
  have one := ksp_try X I hs hf h
  have two : ∀ {Q' : Option Value → Shared → Prop}, Q' none s → wpAny (model prog w) A (tryMethod (.int i t) (PySem.dunder nm') (.ref x)) Q' E s := fun q =>
    wpAny_tryMethod_declines (typeIs_int s i t) slot (call_givesAt slot (typeIs_int s i t) entry args dec hx ⟨rfl, q⟩)
  obtain ⟨hh, g, d, tt, os⟩ := s
  have L1 : Looks (model prog w) hh (typeOf (.int i t)) (.type "int") := Looks.of_pure rfl
  have L2 : Looks (model prog w) hh (typeOf (.ref x)) (.ref C) := I.type
  have L3 : Looks (model prog w) hh (fillsNumberSlot (.type "int") nm') true := Looks.of_pure hfi
  have L4 : Looks (model prog w) hh (fillsNumberSlot (.ref C) nm') true := fills_K X hcd hm hl
  have L5 : Looks (model prog w) hh (isSubtype (.ref C) (.type "int")) false := looks_subIn X hsub
  have hne : (Value.type "int" == Value.ref C) = false := Bool.eq_false_iff.mpr fun q => by cases beq_iff_eq.mp q
  have hpy : numberSlotInPython (.type "int") nm' = pure false := rfl
  simp only [binaryOp, hi]
  refine wpAny_holding (wpAny_bind ?_)
  unfold binaryOp1
  refine wpAny_bind (L1.at (wpAny_bind (L2.at (wpAny_bind (L3.at ?_)))))
  simp only [hne, Bool.false_eq_true, if_false]
  refine wpAny_bind (L4.at ?_)
  simp only [Bool.and_self, if_true]
  refine wpAny_bind (L5.at ?_)
  simp only [Bool.false_eq_true, if_false, pure_bind, Bool.not_false, Bool.and_self, if_true, hpy]
  refine wpAny_bind (two ?_)
  refine wpAny_bind (wpAny_mono one (fun r s' hr' => ?_) fun _ _ e => e)
  obtain ⟨v, rfl, hq⟩ := hr'
  ksp_lk
  exact hq
end
end AT

end

section
namespace AT
open PySem PySem.Spec PyProof.Rows L2
open AutoSeq1 (wpAny_loadPart')
section
variable {prog : Program} {w : World} {A : Around} {E : Value → Shared → Prop} {s : Shared} {K : PySem.W.Frag} {x C L f : Addr} {h₀ : Heap} {m : Str → Option Value} {ox : Obj} {od : Option Obj} {b : Value}
open PySem.W

/-- int op x by comparison, x an instance with the reflected method -/
theorem cmp_refl {op : CmpOp} {i : Int} {t : Tok} {id : String} {B : Builtin} {dx : Addr} {Q : Value → Shared → Prop} (hu : A.units < cLine) (X : K.In s.heap) (I : InstAt s.heap x (instObj C dx) C od)
    (hs : findIn K (.ref C) (cmpInfo op).2.2 = some (some (.ref f))) (hf : isFn K (.ref f) = true) (hsub : subIn K (.ref C) (.type "int") = some false)
    (slot : Slot "int" (cmpInfo op).2.1 id) (entry : entryFor table id = some B) (args : argsOk id ⟨[.int i t, .ref x], []⟩) (dec : GivesAt (HasObj x) (B ⟨[.int i t, .ref x], []⟩) (.val .notImplemented))
    (h : wpAny (model prog w) A (call (.ref f) [.ref x, .int i t]) (PySem.W.CmpBack Q) E s) : wpAny (model prog w) A (richCompare op (.int i t) (.ref x)) Q E s := by
  have hx : HasObj x s := ⟨C, dx, I.at_⟩
  have one : wpAny (model prog w) A (tryCompare (.ref x) (cmpInfo op).2.2 (.int i t)) (fun r s' => ∃ v, r = some v ∧ Q v s') E s := by
    unfold tryCompare
    refine wpAny_bind (ifBound_K X I hs hf (wpAny_mono h (fun v s' hv => ?_) fun _ _ e => e))
    cases v <;> first | exact hv.elim | exact wpAny_pure ⟨_, rfl, hv⟩
  have two : ∀ {Q' : Option Value → Shared → Prop}, Q' none s → wpAny (model prog w) A (tryCompare (.int i t) (cmpInfo op).2.1 (.ref x)) Q' E s := fun q =>
    wpAny_tryCompare_declines (typeIs_int s i t) slot (call_givesAt slot (typeIs_int s i t) entry args dec hx ⟨rfl, q⟩)
  have hne : (Value.type "int" != Value.ref C) = true := by simp
  unfold richCompare
  simp only [(typeIs_int s i t).oneThing_none]
  refine wpAny_holding (wpAny_bind (wpAny_cRoomFor hu ?_))
  refine wpAny_bind (wpAny_typeOf (typeIs_int s i t) (wpAny_bind (I.type.here ?_)))
  simp only [hne, if_true]
  refine wpAny_bind ((looks_subIn X hsub).here ?_)
  simp only [Bool.false_eq_true, if_false, Bool.not_false, if_true]
  refine wpAny_bind (two ?_)
  refine wpAny_bind (wpAny_mono one (fun r s' z => ?_) fun _ _ e => e)
  obtain ⟨v, rfl, hq⟩ := z
  exact wpAny_pure hq

theorem check_ne {Q : Unit → Shared → Prop} (X : K.In s.heap) (I : InstAt s.heap x ox C od) (hm : mroIn K C (.type "object") = some true) (h : Q () s) : wpAny (model prog w) A (checkBuiltinCall "object.__ne__" ⟨[.ref x, b], []⟩) Q E s := by
  simp only [checkBuiltinCall, F.cmpKind_ne, F.cmpSplit_ne]
  refine wpAny_bind ?_
  have LI : Looks (model prog w) s.heap (isInstance (.ref x) (.type "object")) true := I.type.andThen (looks_mroIn X hm)
  refine LI.here ?_
  cases hsig : Manifest.signature? "object.__ne__" with
  | none => exact wpAny_pure h
  | some sig =>
    have ha := F.cmpArgs_ne (.ref x) b
    simp only [argsOk, hsig] at ha
    have h2 : Bind.checkArgs "object.__ne__" sig ⟨[.ref x, b], []⟩ = pure () := ha
    show wpAny _ A (Bind.checkArgs "object.__ne__" sig ⟨[.ref x, b], []⟩) Q E _
    rw [h2]
    exact wpAny_pure h
/-- object.__ne__ asks the own __eq__ -/
theorem run_ne {Q : Fin → Shared → Prop} (hu : A.units < cLine) (X : K.In s.heap) (I : InstAt s.heap x ox C od) (hs : findIn K (.ref C) "__eq__" = some (some (.ref f))) (hf : isFn K (.ref f) = true)
    (h : wpAny (model prog w) A (call (.ref f) [.ref x, b]) (fun v s' => ∃ k, v = .bool k ∧ Q (.done (.ret (.bool (!k)))) s') E s) : wpAny (model prog w) A (Builtin.«object.__ne__» ⟨[.ref x, b], []⟩) Q E s := by
  unfold Builtin.«object.__ne__»
  repeat (first
    | with_reducible refine wpAny_cRoomFor hu ?_
    | (refine wpAny_bind (m := callSpecialIfBound? (.ref x) (Str.ofString "__eq__") [b])
        (ifBound_K X I hs hf (wpAny_mono h (fun r s' hr => by
          obtain ⟨k, rfl, hq⟩ := hr
          repeat (first | exact hq | exact wpAny_pure hq | exact wpAny_truthy_bool hq | (refine wpAny_bind (m := truthy (.bool _)) (wpAny_truthy_bool ?_)) | wp_step)) fun _ _ e => e)))
    | wp_step)
theorem try_ne {Q : Option Value → Shared → Prop} (hu : A.units + 1 < cLine) (X : K.In s.heap) (I : InstAt s.heap x ox C od) (hn : findIn K (.ref C) "__ne__" = some (some (.builtin "object.__ne__"))) (hm : mroIn K C (.type "object") = some true)
    (hs : findIn K (.ref C) "__eq__" = some (some (.ref f))) (hf : isFn K (.ref f) = true)
    (h : wpAny (model prog w) A.in1 (call (.ref f) [.ref x, b]) (fun v s' => ∃ k, v = .bool k ∧ Q (some (.bool (!k))) s') E s) : wpAny (model prog w) A (tryCompare (.ref x) "__ne__" b) Q E s := by
  have fin : wpAny (model prog w) A (call (.builtin "object.__ne__") [.ref x, b]) (fun v s' => ∃ k, v = .bool k ∧ Q (some v) s') E s := by
    refine wpAny_call (codeAny_call_builtin F.cmp_object.ne.plain F.cmpEntry_ne (check_ne X I hm (run_ne (A := A.in1) hu X I hs hf (wpAny_mono h (fun v s' hv => ?_) fun _ _ e => e))))
    obtain ⟨k, rfl, hq⟩ := hv
    exact ⟨k, rfl, !k, rfl, hq⟩
  unfold tryCompare
  simp only [callSpecialIfBound?, bindSpecialIfBound?]
  refine wpAny_bind (wpAny_holding (wpAny_bind (wpAny_bind (wpAny_bind (I.type.here ((looks_findIn X hn).here ?_))))))
  simp only [F.cmp_object.ne.bind]
  refine wpAny_bind (wpAny_askSetting (wpAny_ite ?_))
  have fin2 : wpAny (model prog w) A (call (.builtin "object.__ne__") ([.ref x] ++ [b]) >>= fun v => pure (some v)) (fun r s' => ∃ k, r = some (.bool k) ∧ Q r s') E s :=
    wpAny_bind (wpAny_mono fin (fun v s' h' => by obtain ⟨k, rfl, q⟩ := h'; exact wpAny_pure ⟨k, rfl, q⟩) fun _ _ h' => h')
  have fin3 : wpAny (model prog w) A (call (.builtin "object.__ne__") ([.ref x] ++ [b]) >>= fun v => pure (some v)) (fun r s' => wpAny (model prog w) A (match r with | some .notImplemented | none => pure none | some v => pure (some v)) Q E s') E s :=
    wpAny_mono fin2 (fun r s' h' => by obtain ⟨k, rfl, q⟩ := h'; exact wpAny_pure q) fun _ _ h' => h'
  split
  · exact wpAny_bind (wpAny_pure (wpAny_pure fin3))
  · exact wpAny_tryCatch (wpAny_bind (wpAny_pure (wpAny_pure fin3)))
/-- x != b, x an instance whose class has an own __eq__ alone; b of a class that is not below -/
theorem ne_own {tb : Value} {Q : Value → Shared → Prop} (hu : A.units + 1 < cLine) (X : K.In s.heap) (I : InstAt s.heap x ox C od) (hb : Looks (model prog w) s.heap (typeOf b) tb) (hnf : notFirst K C tb = true) (hn : findIn K (.ref C) "__ne__" = some (some (.builtin "object.__ne__")))
    (hm : mroIn K C (.type "object") = some true) (hs : findIn K (.ref C) "__eq__" = some (some (.ref f))) (hf : isFn K (.ref f) = true)
    (h : wpAny (model prog w) A.in1 (call (.ref f) [.ref x, b]) (fun v s' => ∃ k, v = .bool k ∧ Q (.bool (!k)) s') E s) : wpAny (model prog w) A (richCompare .NotEq (.ref x) b) Q E s := by
  have one : wpAny (model prog w) A (tryCompare (.ref x) "__ne__" b) (fun r s' => ∃ v, r = some v ∧ Q v s') E s :=
    try_ne hu X I hn hm hs hf (wpAny_mono h (fun v s' hv => by obtain ⟨k, rfl, q⟩ := hv; exact ⟨k, rfl, _, rfl, q⟩) fun _ _ e => e)
  unfold richCompare
  simp only [oneThing_ref]
  refine wpAny_holding (wpAny_bind (wpAny_cRoomFor (Nat.lt_of_succ_lt hu) ?_))
  rw [cmpInfo_NotEq]
  dsimp only
  refine wpAny_bind (I.type.here (wpAny_bind (hb.here ?_)))
  split
  · rename_i q
    have e : subIn K tb (.ref C) = some false := by
      rcases Bool.or_eq_true_iff.mp hnf with e | e
      · rw [beq_iff_eq.mp e] at q; simp at q
      · exact beq_iff_eq.mp e
    refine wpAny_bind ((looks_subIn X e).here ?_)
    simp only [Bool.false_eq_true, if_false]
    refine wpAny_bind (wpAny_mono one (fun r s' z => ?_) fun _ _ e => e)
    obtain ⟨v, rfl, hq⟩ := z
    exact wpAny_pure hq
  · refine wpAny_bind (wpAny_pure ?_)
    simp only [Bool.false_eq_true, if_false]
    refine wpAny_bind (wpAny_mono one (fun r s' z => ?_) fun _ _ e => e)
    obtain ⟨v, rfl, hq⟩ := z
    exact wpAny_pure hq
/-- int != x -/
theorem ne_refl {i : Int} {t : Tok} {dx : Addr} {Q : Value → Shared → Prop} (hu : A.units + 1 < cLine) (X : K.In s.heap) (I : InstAt s.heap x (instObj C dx) C od) (hsub : subIn K (.ref C) (.type "int") = some false)
    (hn : findIn K (.ref C) "__ne__" = some (some (.builtin "object.__ne__"))) (hm : mroIn K C (.type "object") = some true) (hs : findIn K (.ref C) "__eq__" = some (some (.ref f))) (hf : isFn K (.ref f) = true)
    (h : wpAny (model prog w) A.in1 (call (.ref f) [.ref x, .int i t]) (fun v s' => ∃ k, v = .bool k ∧ Q (.bool (!k)) s') E s) : wpAny (model prog w) A (richCompare .NotEq (.int i t) (.ref x)) Q E s := by
  have hx : HasObj x s := ⟨C, dx, I.at_⟩
  have one : wpAny (model prog w) A (tryCompare (.ref x) "__ne__" (.int i t)) (fun r s' => ∃ v, r = some v ∧ Q v s') E s :=
    try_ne hu X I hn hm hs hf (wpAny_mono h (fun v s' hv => by obtain ⟨k, rfl, q⟩ := hv; exact ⟨k, rfl, _, rfl, q⟩) fun _ _ e => e)
  have two : ∀ {Q' : Option Value → Shared → Prop}, Q' none s → wpAny (model prog w) A (tryCompare (.int i t) "__ne__" (.ref x)) Q' E s := fun q =>
    wpAny_tryCompare_declines (typeIs_int s i t) F.slot_int_ne (call_givesAt F.slot_int_ne (typeIs_int s i t) F.entry_int_ne (F.args_int_ne_2 _ _) (decl_ne i t x) hx ⟨rfl, q⟩)
  have hne : (Value.type "int" != Value.ref C) = true := by simp
  unfold richCompare
  simp only [(typeIs_int s i t).oneThing_none]
  refine wpAny_holding (wpAny_bind (wpAny_cRoomFor (Nat.lt_of_succ_lt hu) ?_))
  rw [cmpInfo_NotEq]
  dsimp only
  refine wpAny_bind (wpAny_typeOf (typeIs_int s i t) (wpAny_bind (I.type.here ?_)))
  simp only [hne, if_true]
  refine wpAny_bind ((looks_subIn X hsub).here ?_)
  simp only [Bool.false_eq_true, if_false, Bool.not_false, if_true]
  refine wpAny_bind (two ?_)
  refine wpAny_bind (wpAny_mono one (fun r s' z => ?_) fun _ _ e => e)
  obtain ⟨v, rfl, hq⟩ := z
  exact wpAny_pure hq
end
end AT

end

section
namespace AT
open PySem PySem.Spec PyProof.Rows L2
/-- what the written part says of a class whose operators are its own -/
structure OwnC (K : PySem.W.Frag) (C : Addr) : Prop where
  cl : Cls K C
  first : PySem.W.selfFirst K C = true
  notInt : PySem.W.subIn K (.ref C) (.type "int") = some false
  obj : PySem.W.mroIn K C (.type "object") = some true
  ca : PySem.W.findIn K (.ref C) "__class__" = some (some (.builtin "object.__class__"))
  cn : PySem.W.specialIn K (.builtin "object.__class__") "__get__" = some (some (.builtin "getset_descriptor.__get__"))
  ct : PySem.W.takesIn K (.builtin "object.__class__") = some true
/-- a method of the class by its name -/
structure OwnM (K : PySem.W.Frag) (C f : Addr) (name : Str) : Prop where
  at_ : PySem.W.findIn K (.ref C) name = some (some (.ref f))
  fn : PySem.W.isFn K (.ref f) = true
theorem OwnC.ty {K : PySem.W.Frag} {C a dx : Addr} {H : Hp} {fs : List (Str × V)} (o : OwnC K C) (h : H a = some (.ins C dx fs)) : TyX K H (.ref a) (.ref C) := .base (.ins h o.cl o.ca o.cn o.ct o.obj)

theorem rel_ref {a : Addr} : RelV (.ref a) (.ref a) := rfl
theorem rel_int {i : Int} {t : Tok} : RelV (.int i) (.int i t) := ⟨t, rfl⟩
section
variable {X : Cx} {CX : CXT} {C g r : Addr} {fd fd' : FuncData} {ps ps' : List Str} {n : Nat} {sp : Sp} {E : XK} {op : Operator} {cop : CmpOp}
theorem inst_at {pins : List (Addr × Obj)} {σ : L2.St} {H : Hp} {s : Shared} {a dx : Addr} {fs : List (Str × V)} (I : Inv X pins σ H s) (h : H a = some (.ins C dx fs)) : ∃ od, PySem.W.InstAt s.heap a (PySem.W.instObj C dx) C (some od) := by
  obtain ⟨mA, O, _⟩ := ins_get I.hok h
  obtain ⟨od, J, _⟩ := O.look
  exact ⟨od, J⟩
theorem run_two {pins : List (Addr × Obj)} {σ : L2.St} {H : Hp} {s : Shared} {Q : VK} {x y : V} {u v : Value} (F : FnOk X.prog X.w X.K X.mg X.base CX n g fd ps sp) (hr : Room n X.A) (hb : Binds X.K fd ps []) (hx : Passes CX X E) (I : Inv X pins σ H s)
    (rx : RelV x u) (ry : RelV y v) (h : sp [x, y] H Q E) : wpAny (model X.prog X.w) X.A (call (.ref g) [u, v]) (PySem.W.CmpBack (EP X pins σ Q)) X.xe s := by
  have z : wpAny (model X.prog X.w) X.A (call (.ref g) [u, v]) (EP X pins σ Q) X.xe s := run_fn (us := [u, v]) (vs := [x, y]) F hr hb .nil hx I (.cons rx (.cons ry .nil)) (by simpa using h)
  refine thn z fun w s' q => ?_
  obtain ⟨z', H', I', rz, qz⟩ := q
  exact SlX.cmpback rz ⟨z', H', I', rz, qz⟩
/-- x op y: both instances of the class -/
def rInsIns (C : Addr) (sp : Sp) (E : XK) : R2 := fun x y H Q => ∃ a dx fs b dy gs, x = .ref a ∧ y = .ref b ∧ H a = some (.ins C dx fs) ∧ H b = some (.ins C dy gs) ∧ sp [x, y] H Q E
/-- x op i, i an int -/
def rInsInt (C : Addr) (sp : Sp) (E : XK) : R2 := fun x y H Q => ∃ a dx fs i, x = .ref a ∧ y = .int i ∧ H a = some (.ins C dx fs) ∧ sp [x, y] H Q E
/-- i op y: the reflected method of y -/
def rIntIns (C : Addr) (sp : Sp) (E : XK) : R2 := fun x y H Q => ∃ i b dy gs, x = .int i ∧ y = .ref b ∧ H b = some (.ins C dy gs) ∧ sp [y, x] H Q E
theorem op_insIns (o : OwnC X.K C) (m : OwnM X.K C g (PySem.dunder op.info.2)) (F : FnOk X.prog X.w X.K X.mg X.base CX n g fd ps sp) (hr : Room n X.A) (hb : Binds X.K fd ps []) (hx : Passes CX X E) : OpR X (binaryOp op) (rInsIns C sp E) := by
  intro pins s σ H x y v u Q I rx ry h
  obtain ⟨a, dx, fs, b, dy, gs, rfl, rfl, ha, hb', q⟩ := h
  cases (show v = Value.ref a from rx)
  cases (show u = Value.ref b from ry)
  obtain ⟨od, J⟩ := inst_at I ha
  obtain ⟨od', J'⟩ := inst_at I hb'
  exact bin_same I.kIn J J' o.first m.at_ m.fn (run_two F hr hb hx I rel_ref rel_ref q)
theorem op_insInt {fo ro rc : Option Value} (o : OwnC X.K C) (m : OwnM X.K C g (PySem.dunder op.info.2)) (hrc : PySem.W.findIn X.K (.ref C) (dunderR op.info.2) = some rc) (hp : rc = none ∨ ∃ q : Addr, rc = some (.ref q))
    (h1 : PySem.W.findIn X.K (.type "int") (PySem.dunder op.info.2) = some fo) (h2 : PySem.W.findIn X.K (.type "int") (dunderR op.info.2) = some ro) (hsub : PySem.W.subIn X.K (.type "int") (.ref C) = some false)
    (F : FnOk X.prog X.w X.K X.mg X.base CX n g fd ps sp) (hr : Room n X.A) (hb : Binds X.K fd ps []) (hx : Passes CX X E) : OpR X (binaryOp op) (rInsInt C sp E) := by
  intro pins s σ H x y v u Q I rx ry h
  obtain ⟨a, dx, fs, i, rfl, rfl, ha, q⟩ := h
  cases (show v = Value.ref a from rx)
  obtain ⟨t, rfl⟩ := (show ∃ t, u = Value.int i t from ry)
  obtain ⟨od, J⟩ := inst_at I ha
  obtain ⟨mm, hF⟩ := I.fr
  exact PySem.W.ksp_binT hF I.ok.mod.kin J rfl o.first m.at_ m.fn hrc hp h1 h2 hsub (run_two F hr hb hx I rel_ref rel_int q)
/-- the int's own slot declines -/
structure IntDeclines (op : Operator) : Prop where
  fills : fillsNumberSlot (.type "int") op.info.2 = pure true
  ex : ∃ (id : String) (B : Builtin), Slot "int" (PySem.dunder op.info.2) id ∧ entryFor table id = some B ∧ ∀ (i : Int) (t : Tok) (x : Addr), argsOk id ⟨[.int i t, .ref x], []⟩ ∧ GivesAt (HasObj x) (B ⟨[.int i t, .ref x], []⟩) (.val .notImplemented)
theorem dec_add : IntDeclines .Add := ⟨PySem.F.fills_int_add, _, _, PySem.F.slot_int_add, PySem.F.entry_int_add, fun i t x => ⟨PySem.F.args_int_add_2 _ _, decl_add i t x⟩⟩
theorem dec_sub : IntDeclines .Sub := ⟨PySem.F.fills_int_sub, _, _, PySem.F.slot_int_sub, PySem.F.entry_int_sub, fun i t x => ⟨PySem.F.args_int_sub_2 _ _, decl_sub i t x⟩⟩
theorem dec_mul : IntDeclines .Mult := ⟨PySem.F.fills_int_mul, _, _, PySem.F.slot_int_mul, PySem.F.entry_int_mul, fun i t x => ⟨PySem.F.args_int_mul_2 _ _, decl_mul i t x⟩⟩
theorem dec_fdiv : IntDeclines .FloorDiv := ⟨PySem.F.fills_int_floordiv, _, _, PySem.F.slot_int_floordiv, PySem.F.entry_int_floordiv, fun i t x => ⟨PySem.F.args_int_floordiv_2 _ _, decl_floordiv i t x⟩⟩
theorem dec_mod : IntDeclines .Mod := ⟨PySem.F.fills_int_mod, _, _, PySem.F.slot_int_mod, PySem.F.entry_int_mod, fun i t x => ⟨PySem.F.args_int_mod_2 _ _, decl_mod i t x⟩⟩
theorem op_intIns {l : Addr} (d : IntDeclines op) (o : OwnC X.K C) (hl : PySem.W.findIn X.K (.ref C) (PySem.dunder op.info.2) = some (some (.ref l))) (m : OwnM X.K C g (dunderR op.info.2))
    (F : FnOk X.prog X.w X.K X.mg X.base CX n g fd ps sp) (hr : Room n X.A) (hb : Binds X.K fd ps []) (hx : Passes CX X E) : OpR X (binaryOp op) (rIntIns C sp E) := by
  intro pins s σ H x y v u Q I rx ry h
  obtain ⟨i, b, dy, gs, rfl, rfl, hb', q⟩ := h
  obtain ⟨t, rfl⟩ := (show ∃ t, v = Value.int i t from rx)
  cases (show u = Value.ref b from ry)
  obtain ⟨od, J⟩ := inst_at I hb'
  obtain ⟨hfi, id, B, slot, entry, dd⟩ := d
  exact bin_refl I.kIn J o.first hl m.at_ m.fn o.notInt hfi slot entry (dd i t b).1 (dd i t b).2 (run_two F hr hb hx I rel_ref rel_int q)
/-- x cop y, x an instance, y of any kind told -/
def rCmpIns (K : PySem.W.Frag) (C : Addr) (sp : Sp) (E : XK) : R2 := fun x y H Q => ∃ a dx fs ty, x = .ref a ∧ H a = some (.ins C dx fs) ∧ TyX K H y ty ∧ PySem.W.notFirst K C ty = true ∧ sp [x, y] H Q E
theorem op_cmpIns (hop : ∀ a b, compareOp cop a b = richCompare cop a b) (m : OwnM X.K C g (cmpInfo cop).2.1) (F : FnOk X.prog X.w X.K X.mg X.base CX n g fd ps sp) (hr : Room n X.A) (hb : Binds X.K fd ps []) (hx : Passes CX X E) :
    OpR X (compareOp cop) (rCmpIns X.K C sp E) := by
  intro pins s σ H x y v u Q I rx ry h
  obtain ⟨a, dx, fs, ty, rfl, ha, hty, hn, q⟩ := h
  cases (show v = Value.ref a from rx)
  obtain ⟨od, J⟩ := inst_at I ha
  obtain ⟨P, Z, p, _⟩ := kit_of I ry hty
  obtain ⟨mm, hF⟩ := I.fr
  rw [hop]
  exact PySem.W.cmp_K (op := cop) hr.units0 hF I.ok.mod.kin J (Z.ty _ _ I.kIn p) hn m.at_ m.fn (run_two F hr hb hx I rel_ref ry q)
structure IntDeclinesC (op : CmpOp) : Prop where
  ex : ∃ (id : String) (B : Builtin), Slot "int" (cmpInfo op).2.1 id ∧ entryFor table id = some B ∧ ∀ (i : Int) (t : Tok) (x : Addr), argsOk id ⟨[.int i t, .ref x], []⟩ ∧ GivesAt (HasObj x) (B ⟨[.int i t, .ref x], []⟩) (.val .notImplemented)
theorem dec_lt : IntDeclinesC .Lt := ⟨_, _, PySem.F.slot_int_lt, PySem.F.entry_int_lt, fun i t x => ⟨PySem.F.args_int_lt_2 _ _, decl_lt i t x⟩⟩
theorem dec_le : IntDeclinesC .LtE := ⟨_, _, PySem.F.slot_int_le, PySem.F.entry_int_le, fun i t x => ⟨PySem.F.args_int_le_2 _ _, decl_le i t x⟩⟩
theorem dec_gt : IntDeclinesC .Gt := ⟨_, _, PySem.F.slot_int_gt, PySem.F.entry_int_gt, fun i t x => ⟨PySem.F.args_int_gt_2 _ _, decl_gt i t x⟩⟩
theorem dec_ge : IntDeclinesC .GtE := ⟨_, _, PySem.F.slot_int_ge, PySem.F.entry_int_ge, fun i t x => ⟨PySem.F.args_int_ge_2 _ _, decl_ge i t x⟩⟩
theorem dec_eq : IntDeclinesC .Eq := ⟨_, _, PySem.F.slot_int_eq, PySem.F.entry_int_eq, fun i t x => ⟨PySem.F.args_int_eq_2 _ _, decl_eq i t x⟩⟩
theorem op_cmpInt (hop : ∀ a b, compareOp cop a b = richCompare cop a b) (d : IntDeclinesC cop) (o : OwnC X.K C) (m : OwnM X.K C g (cmpInfo cop).2.2) (F : FnOk X.prog X.w X.K X.mg X.base CX n g fd ps sp) (hr : Room n X.A) (hb : Binds X.K fd ps []) (hx : Passes CX X E) :
    OpR X (compareOp cop) (rIntIns C sp E) := by
  intro pins s σ H x y v u Q I rx ry h
  obtain ⟨i, b, dy, gs, rfl, rfl, hb', q⟩ := h
  obtain ⟨t, rfl⟩ := (show ∃ t, v = Value.int i t from rx)
  cases (show u = Value.ref b from ry)
  obtain ⟨od, J⟩ := inst_at I hb'
  obtain ⟨id, B, slot, entry, dd⟩ := d
  rw [hop]
  exact cmp_refl hr.units0 I.kIn J m.at_ m.fn o.notInt slot entry (dd i t b).1 (dd i t b).2 (run_two F hr hb hx I rel_ref rel_int q)
/-- the callee runs one call deeper -/
theorem run_deep {A : Around} {pins : List (Addr × Obj)} {σ : L2.St} {H : Hp} {s : Shared} {Q : VK} {x y : V} {u v : Value} (F : FnOk X.prog X.w X.K X.mg X.base CX n g fd ps sp) (hr : Room n A) (e0 : Env0 X.prog X.w X.K X.mg X.base A X.stack s H) (hb : Binds X.K fd ps []) (hx : Passes CX X E)
    (I : Inv X pins σ H s) (rx : RelV x u) (ry : RelV y v) (h : sp [x, y] H Q E) : wpAny (model X.prog X.w) A (call (.ref g) [u, v]) (EP X pins σ Q) X.xe s := by
  have r2 : Vals [x, y] [u, v] := .cons rx (.cons ry .nil)
  have hl : [u, v].length = ps.length := by rw [← r2.length]; exact F.len _ _ _ _ h
  refine wpAny_call (codeAny_mono (F.run A X.stack s H ⟨[u, v], []⟩ [u, v] [x, y] Q E hr e0 (by have := hb s [u, v] I.kIn (by simpa using hl); simpa using this) r2 h) fun r s' hq => ?_)
  cases r with
  | error e => exact hx pins σ H s e s' I hq
  | ok fl => cases fl with
    | ret w => exact I.after hq
    | next => exact (show False from hq).elim
    | brk => exact (show False from hq).elim
    | cont => exact (show False from hq).elim
/-- x != y by an own == alone -/
def rNeIns (K : PySem.W.Frag) (C : Addr) (sp : Sp) (E : XK) : R2 := fun x y H Q => ∃ a dx fs ty, x = .ref a ∧ H a = some (.ins C dx fs) ∧ TyX K H y ty ∧ PySem.W.notFirst K C ty = true ∧ sp [x, y] H (fun z H' => ∃ k, z = .bl k ∧ Q (.bl (!k)) H') E
def rNeInt (C : Addr) (sp : Sp) (E : XK) : R2 := fun x y H Q => ∃ i b dy gs, x = .int i ∧ y = .ref b ∧ H b = some (.ins C dy gs) ∧ sp [y, x] H (fun z H' => ∃ k, z = .bl k ∧ Q (.bl (!k)) H') E
theorem op_neIns (o : OwnC X.K C) (hn : PySem.W.findIn X.K (.ref C) "__ne__" = some (some (.builtin "object.__ne__"))) (m : OwnM X.K C g "__eq__") (F : FnOk X.prog X.w X.K X.mg X.base CX n g fd ps sp) (hr : Room (n + 1) X.A) (hb : Binds X.K fd ps []) (hx : Passes CX X E) :
    OpR X (compareOp .NotEq) (rNeIns X.K C sp E) := by
  intro pins s σ H x y v u Q I rx ry h
  obtain ⟨a, dx, fs, ty, rfl, ha, hty, hnf, q⟩ := h
  cases (show v = Value.ref a from rx)
  obtain ⟨od, J⟩ := inst_at I ha
  obtain ⟨P, Z, p, _⟩ := kit_of I ry hty
  show wpAny _ _ (richCompare .NotEq _ _) _ _ _
  have dd := run_deep (Q := fun z H' => ∃ k, z = .bl k ∧ Q (.bl (!k)) H') F hr.in1 I.env0.in1 hb hx I rel_ref ry q
  refine ne_own (s := s) (hu_of hr) I.kIn J (Z.ty _ _ I.kIn p) hnf hn o.obj m.at_ m.fn (thn dd fun w s' z => ?_)
  obtain ⟨z', H', I', rz, k, rfl, qz⟩ := z
  exact ⟨k, rz, .bl (!k), H', I', rfl, qz⟩
theorem op_neInt (o : OwnC X.K C) (hn : PySem.W.findIn X.K (.ref C) "__ne__" = some (some (.builtin "object.__ne__"))) (m : OwnM X.K C g "__eq__") (F : FnOk X.prog X.w X.K X.mg X.base CX n g fd ps sp) (hr : Room (n + 1) X.A) (hb : Binds X.K fd ps []) (hx : Passes CX X E) :
    OpR X (compareOp .NotEq) (rNeInt C sp E) := by
  intro pins s σ H x y v u Q I rx ry h
  obtain ⟨i, b, dy, gs, rfl, rfl, hb', q⟩ := h
  obtain ⟨t, rfl⟩ := (show ∃ t, v = Value.int i t from rx)
  cases (show u = Value.ref b from ry)
  obtain ⟨od, J⟩ := inst_at I hb'
  show wpAny _ _ (richCompare .NotEq _ _) _ _ _
  have dd := run_deep (v := .int i t) (Q := fun z H' => ∃ k, z = .bl k ∧ Q (.bl (!k)) H') F hr.in1 I.env0.in1 hb hx I rel_ref rel_int q
  refine ne_refl (s := s) (hu_of hr) I.kIn J o.notInt hn o.obj m.at_ m.fn (thn dd fun w s' z => ?_)
  obtain ⟨z', H', I', rz, k, rfl, qz⟩ := z
  exact ⟨k, rz, .bl (!k), H', I', rfl, qz⟩
/-- -x -/
def rUnIns (C : Addr) (sp : Sp) (E : XK) : V → Hp → VK → Prop := fun x H Q => ∃ a dx fs, x = .ref a ∧ H a = some (.ins C dx fs) ∧ sp [x] H Q E
theorem un_negIns (m : OwnM X.K C g "__neg__") (F : FnOk X.prog X.w X.K X.mg X.base CX n g fd ps sp) (hr : Room n X.A) (hb : Binds X.K fd ps []) (hx : Passes CX X E) : UnR X (unaryOp .USub) (rUnIns C sp E) := by
  intro pins s σ H x v Q I rx h
  obtain ⟨a, dx, fs, rfl, ha, q⟩ := h
  cases (show v = Value.ref a from rx)
  obtain ⟨od, J⟩ := inst_at I ha
  obtain ⟨mm, hF⟩ := I.fr
  exact PySem.W.ksp_neg hF I.ok.mod.kin J m.at_ m.fn (run_fn (us := [.ref a]) (vs := [.ref a]) F hr hb .nil hx I (.cons rfl .nil) (by simpa using q))
/-- // that may be by zero -/
theorem op_fdivX {W : XK} (hc : X.calm = true) (tk : Takes X (fun cls d _ H => W cls d H)) : OpR X (binaryOp .FloorDiv) (fun x y H Q => ∃ i j, x = .int i ∧ y = .int j ∧ ((j ≠ 0 ∧ j.natAbs.log2 < 9000 ∧ Q (.int (i.fdiv j)) H) ∨ (j = 0 ∧ ∀ d, W (.type "ZeroDivisionError") d H))) := by
  intro pins s σ H x y v u Q I rx ry h
  obtain ⟨i, j, rfl, rfl, h⟩ := h
  obtain ⟨t, rfl⟩ := (show ∃ t, v = Value.int i t from rx)
  obtain ⟨t', rfl⟩ := (show ∃ t, u = Value.int j t from ry)
  rcases h with ⟨h0, hl, q⟩ | ⟨rfl, w⟩
  · exact floordiv_int h0 ⟨.int (i.fdiv j), H, I.tok _, ⟨_, rfl⟩, q⟩ (.inl (PyProof.noPylong_of_log2 hl))
  · refine PySem.AutoIntOps.floordiv_0 rfl ?_
    exact ⟨I.ok.hd hc, fun h' tk' e hx => takes_new (t' := tk') tk I hx w⟩
end
end AT

end

section
namespace AT
open PySem PySem.Spec PyProof.Rows L2
section
variable {prog : Program} {w : World} {M : Model} {A : Around} {E : Value → Shared → Prop} {s : Shared} {K : PySem.W.Frag} {x C L f : Addr} {h₀ : Heap} {m : Str → Option Value} {ox : Obj} {od : Option Obj} {nm T : String} {h : Heap} {cd : ClassData}
open PySem.W
/-- no own op= -/
theorem noI {add : Bool} (X : K.In h) (hc : clsIn K C = some cd) (hm : cd.mro = [.ref C, .type "object"]) (h1 : findIn K (.ref C) (dunderI nm) = some none) (h2 : findIn K (.type "object") (dunderI nm) = some none) : Looks M h (fillsInplaceSlot (.ref C) nm add) false := by
  intro A Q E s k q
  have Lm : Looks M h (mroOf (.ref C)) cd.mro := (looks_clsIn X hc).andThen (f := fun cd => pure cd.mro) .now
  have Lm' := Lm.keeps k
  obtain ⟨hh, g, d, tk, os⟩ := s
  have X' : K.In hh := X.keeps k
  have L1 : Looks M hh (typeLookup (.ref C) (dunderI nm)) none := looks_findIn X' h1
  have L2 : Looks M hh (typeLookup (.type "object") (dunderI nm)) none := looks_findIn X' h2
  unfold fillsInplaceSlot
  refine wpAny_bind (Lm'.at ?_)
  rw [hm, List.anyM_cons]
  refine wpAny_bind ?_
  repeat lk
  exact q
/-- x op= y, two instances of one class, by op -/
theorem ibin_same {op : Operator} {y : Addr} {oy : Obj} {od' : Option Obj} {Q : Value → Shared → Prop} (X : K.In s.heap) (I : InstAt s.heap x ox C od) (J : InstAt s.heap y oy C od') (hcd : clsIn K C = some cd) (hm : cd.mro = [.ref C, .type "object"])
    (i1 : findIn K (.ref C) (dunderI op.info.2) = some none) (i2 : findIn K (.type "object") (dunderI op.info.2) = some none)
    (hs : findIn K (.ref C) (PySem.dunder op.info.2) = some (some (.ref f))) (hf : isFn K (.ref f) = true)
    (h : wpAny (model prog w) A (call (.ref f) [.ref x, .ref y]) (PySem.W.CmpBack Q) E s) : wpAny (model prog w) A (inplaceOp op (.ref x) (.ref y)) Q E s := by
  have one := ksp_try X I hs hf h
  obtain ⟨hh, g, d, tt, os⟩ := s
  have L1 : Looks (model prog w) hh (typeOf (.ref x)) (.ref C) := I.type
  have L2 : Looks (model prog w) hh (typeOf (.ref y)) (.ref C) := J.type
  have L3 : Looks (model prog w) hh (fillsNumberSlot (.ref C) op.info.2) true := fills_K X hcd hm hs
  have L4 : Looks (model prog w) hh (fillsInplaceSlot (.ref C) op.info.2 (op == .Add)) false := noI X hcd hm i1 i2
  unfold inplaceOp
  refine wpAny_holding ?_
  refine wpAny_bind (L1.at (wpAny_bind (L4.at ?_)))
  simp only [Bool.false_eq_true, if_false, pure_bind]
  refine wpAny_bind ?_
  unfold binaryOp1
  refine wpAny_bind (L1.at (wpAny_bind (L2.at (wpAny_bind (L3.at ?_)))))
  simp only [beq_self_eq_true, if_true]
  ksp_lk
  refine wpAny_mono one (fun r s' hr' => ?_) fun _ _ e => e
  obtain ⟨v, rfl, hq⟩ := hr'
  ksp_lk
  exact hq
/-- x op= i, i of a built-in type -/
theorem ibin_ty {op : Operator} {b : Value} {fo ro rc : Option Value} {Q : Value → Shared → Prop} (X : K.In s.heap) (I : InstAt s.heap x ox C od) (hb : typeOf b = pure (.type T)) (hcd : clsIn K C = some cd) (hm : cd.mro = [.ref C, .type "object"])
    (i1 : findIn K (.ref C) (dunderI op.info.2) = some none) (i2 : findIn K (.type "object") (dunderI op.info.2) = some none)
    (hs : findIn K (.ref C) (PySem.dunder op.info.2) = some (some (.ref f))) (hf : isFn K (.ref f) = true) (hr : findIn K (.ref C) (dunderR op.info.2) = some rc) (hp : rc = none ∨ ∃ g : Addr, rc = some (.ref g))
    (h1 : findIn K (.type T) (PySem.dunder op.info.2) = some fo) (h2 : findIn K (.type T) (dunderR op.info.2) = some ro) (hsub : subIn K (.type T) (.ref C) = some false)
    (h : wpAny (model prog w) A (call (.ref f) [.ref x, b]) (PySem.W.CmpBack Q) E s) : wpAny (model prog w) A (inplaceOp op (.ref x) b) Q E s := by
  have one := ksp_try X I hs hf h
  obtain ⟨hh, g, d, tt, os⟩ := s
  have L1 : Looks (model prog w) hh (typeOf (.ref x)) (.ref C) := I.type
  have L2 : Looks (model prog w) hh (typeOf b) (.type T) := Looks.of_pure hb
  have L3 : Looks (model prog w) hh (fillsNumberSlot (.ref C) op.info.2) true := fills_K X hcd hm hs
  have L4 : Looks (model prog w) hh (fillsNumberSlot (.type T) op.info.2) ((fo.isSome && !isSeqSlot fo) || (ro.isSome && !isSeqSlot ro)) := ksp_fillsT X h1 h2
  have L5 : Looks (model prog w) hh (isSubtype (.type T) (.ref C)) false := looks_subIn X hsub
  have L6 : Looks (model prog w) hh (numberSlotInPython (.ref C) op.info.2) true := ksp_inPy X hs hr hp
  have L7 : Looks (model prog w) hh (numberSlotInPython (.type T) op.info.2) false := Looks.of_pure rfl
  have L8 : Looks (model prog w) hh (typeLookup (.type T) (dunderR op.info.2)) ro := looks_findIn X h2
  have L9 : Looks (model prog w) hh (fillsInplaceSlot (.ref C) op.info.2 (op == .Add)) false := noI X hcd hm i1 i2
  generalize ((fo.isSome && !isSeqSlot fo) || (ro.isSome && !isSeqSlot ro)) = right at L4
  have hne : (Value.ref C == Value.type T) = false := Bool.eq_false_iff.mpr fun q => by cases beq_iff_eq.mp q
  unfold inplaceOp
  refine wpAny_holding ?_
  refine wpAny_bind (L1.at (wpAny_bind (L9.at ?_)))
  simp only [Bool.false_eq_true, if_false, pure_bind]
  refine wpAny_bind ?_
  unfold binaryOp1
  refine wpAny_bind (L1.at (wpAny_bind (L2.at (wpAny_bind (L3.at ?_)))))
  simp only [hne, Bool.false_eq_true, if_false]
  cases right with
  | false =>
    ksp_lk
    refine wpAny_mono one (fun r s' hr' => ?_) fun _ _ e => e
    obtain ⟨v, rfl, hq⟩ := hr'
    ksp_lk
    exact hq
  | true =>
    ksp_lk
    refine wpAny_mono one (fun r s' hr' => ?_) fun _ _ e => e
    obtain ⟨v, rfl, hq⟩ := hr'
    ksp_lk
    exact hq
end
/-- names of the operators' methods -/
theorem dn_add : PySem.dunder (Operator.info .Add).2 = "__add__" := by decide +kernel
theorem dn_sub : PySem.dunder (Operator.info .Sub).2 = "__sub__" := by decide +kernel
theorem dn_mul : PySem.dunder (Operator.info .Mult).2 = "__mul__" := by decide +kernel
theorem dn_fdiv : PySem.dunder (Operator.info .FloorDiv).2 = "__floordiv__" := by decide +kernel
theorem dn_mod : PySem.dunder (Operator.info .Mod).2 = "__mod__" := by decide +kernel
theorem dn_pow : PySem.dunder (Operator.info .Pow).2 = "__pow__" := by decide +kernel
theorem dr_add : dunderR (Operator.info .Add).2 = "__radd__" := by decide +kernel
theorem dr_sub : dunderR (Operator.info .Sub).2 = "__rsub__" := by decide +kernel
theorem dr_mul : dunderR (Operator.info .Mult).2 = "__rmul__" := by decide +kernel
theorem dr_fdiv : dunderR (Operator.info .FloorDiv).2 = "__rfloordiv__" := by decide +kernel
theorem dr_mod : dunderR (Operator.info .Mod).2 = "__rmod__" := by decide +kernel
theorem dr_pow : dunderR (Operator.info .Pow).2 = "__rpow__" := by decide +kernel
theorem di_add : dunderI (Operator.info .Add).2 = "__iadd__" := by decide +kernel
theorem di_sub : dunderI (Operator.info .Sub).2 = "__isub__" := by decide +kernel
/-- the method, and how int's own type is looked at -/
structure IntOp (K : PySem.W.Frag) (C : Addr) (op : Operator) (l r : Addr) : Prop where
  ml : OwnM K C l (PySem.dunder op.info.2)
  mr : PySem.W.findIn K (.ref C) (dunderR op.info.2) = some none ∨ OwnM K C r (dunderR op.info.2)
  h1 : ∃ fo, PySem.W.findIn K (.type "int") (PySem.dunder op.info.2) = some fo
  h2 : ∃ ro, PySem.W.findIn K (.type "int") (dunderR op.info.2) = some ro
  hs : PySem.W.subIn K (.type "int") (.ref C) = some false
section
variable {X : Cx} {CX : CXT} {C l r : Addr} {fd : FuncData} {ps : List Str} {n : Nat} {sp : Sp} {E : XK} {op : Operator} {cd : ClassData}
theorem IntOp.rc {K : PySem.W.Frag} (o : IntOp K C op l r) : ∃ rc, PySem.W.findIn K (.ref C) (dunderR op.info.2) = some rc ∧ (rc = none ∨ ∃ q : Addr, rc = some (.ref q)) := by
  rcases o.mr with h | h
  · exact ⟨_, h, .inl rfl⟩
  · exact ⟨_, h.at_, .inr ⟨_, rfl⟩⟩
/-- x op y, x an instance, y one too or an int -/
def rIns (C : Addr) (sp : Sp) (E : XK) : R2 := fun x y H Q => ∃ a dx fs, x = .ref a ∧ H a = some (.ins C dx fs) ∧ ((∃ i, y = .int i) ∨ ∃ b dy gs, y = .ref b ∧ H b = some (.ins C dy gs)) ∧ sp [x, y] H Q E
theorem op_ins (o : OwnC X.K C) (i : IntOp X.K C op l r) (F : FnOk X.prog X.w X.K X.mg X.base CX n l fd ps sp) (hr : Room n X.A) (hb : Binds X.K fd ps []) (hx : Passes CX X E) : OpR X (binaryOp op) (rIns C sp E) := by
  intro pins s σ H x y v u Q I rx ry h
  obtain ⟨a, dx, fs, rfl, ha, hy, q⟩ := h
  obtain ⟨rc, e1, e2⟩ := i.rc
  obtain ⟨fo, h1⟩ := i.h1
  obtain ⟨ro, h2⟩ := i.h2
  rcases hy with ⟨j, rfl⟩ | ⟨b, dy, gs, rfl, hb'⟩
  · exact op_insInt o i.ml e1 e2 h1 h2 i.hs F hr hb hx pins s σ H _ _ v u Q I rx ry ⟨a, dx, fs, j, rfl, rfl, ha, q⟩
  · exact op_insIns o i.ml F hr hb hx pins s σ H _ _ v u Q I rx ry ⟨a, dx, fs, b, dy, gs, rfl, rfl, ha, hb', q⟩
structure MroC (K : PySem.W.Frag) (C : Addr) : Prop where
  at_ : ∃ cd, PySem.W.clsIn K C = some cd ∧ cd.mro = [.ref C, .type "object"]
theorem iop_ins (o : OwnC X.K C) (mr : MroC X.K C) (i1 : PySem.W.findIn X.K (.ref C) (dunderI op.info.2) = some none) (i2 : PySem.W.findIn X.K (.type "object") (dunderI op.info.2) = some none) (i : IntOp X.K C op l r)
    (F : FnOk X.prog X.w X.K X.mg X.base CX n l fd ps sp) (hr : Room n X.A) (hb : Binds X.K fd ps []) (hx : Passes CX X E) : PIp X op (rIns C sp E) := by
  intro pins s σ H x y v u Q I rx ry h
  obtain ⟨a, dx, fs, rfl, ha, hy, q⟩ := h
  obtain ⟨rc, e1, e2⟩ := i.rc
  obtain ⟨fo, h1⟩ := i.h1
  obtain ⟨ro, h2⟩ := i.h2
  obtain ⟨cd, c1, c2⟩ := mr.at_
  cases (show v = Value.ref a from rx)
  obtain ⟨od, J⟩ := inst_at I ha
  rcases hy with ⟨j, rfl⟩ | ⟨b, dy, gs, rfl, hb'⟩
  · obtain ⟨t, rfl⟩ := (show ∃ t, u = Value.int j t from ry)
    exact ibin_ty I.kIn J rfl c1 c2 i1 i2 i.ml.at_ i.ml.fn e1 e2 h1 h2 i.hs (run_two F hr hb hx I rel_ref rel_int q)
  · cases (show u = Value.ref b from ry)
    obtain ⟨od', J'⟩ := inst_at I hb'
    exact ibin_same I.kIn J J' c1 c2 i1 i2 i.ml.at_ i.ml.fn (run_two F hr hb hx I rel_ref rel_ref q)
end
end AT

end

section
namespace AT
open PySem PySem.Spec PyProof.Rows L2
section
variable {X : Cx} {e : Expr} {es : List Expr} {ta : TA} {p1 p2 pos : Pos} {B : Addr} {mc : Value} {x : Str}
/-- B.__init__(self, ..), B an own class over ValueError without an __init__ of its own -/
theorem pe_clsinit {pl : Sem Bool} (hg : Gl X x) (hm : X.mg x = some (.ref B)) (r : ClX.CRead X.K B mc) (hv : PySem.W.findCls X.K (.ref B) mc "__init__" = some (.val (.builtin "ValueError.__init__"))) (ha : PA X (e :: es) ta)
    (hd : (x == ("__debug__" : Str)) = false := by decide)
    (hcall : eval (.Call (.Attribute (.Name x p1) "__init__" p2) (e :: es) [] pos) X.env = (eval (.Name x p1) X.env >>= fun ov => standAt p2.atName >>= fun _ => holding [ov] (getMethod ov "__init__" pl) >>= fun q =>
      callWith pos q.1 q.2 (backTo pos (starEach (e :: es) X.env)) (backToKw pos (keywordEach [] X.env))) := by rfl)
    (hst : starEach (e :: es) X.env = (false, eval e X.env) :: starEach es X.env := by rfl) (hnp : (backTo pos (starEach es X.env)).any (·.1) = false := by rfl) :
    PE X (.Call (.Attribute (.Name x p1) "__init__" p2) (e :: es) [] pos) (tVeI X.K ta) := by
  constructor
  intro pins s σ H Q I h
  refine PySem.W.methodCall_KW (ld_glob I hg hm ?_ hd) hcall
  refine PySem.W.method_cls I.kIn r.ga (PySem.W.cls_value I.kIn r.rd hv rfl ?_)
  show wpAny _ _ (callWith pos (Value.builtin "ValueError.__init__") [] (backTo pos (starEach (e :: es) X.env)) []) _ _ _
  refine PyProof.Rows.callWith_method1 (thn (ha.run pos pins _ σ H _ (I.tok _) h) fun us s1 q1 => ?_) hst hnp
  obtain ⟨vs, H1, I1, r1, a, C, ws, rfl, hl, T, ea, q⟩ := q1
  cases r1 with
  | @cons _ u0 _ ur ra rw' =>
    obtain rfl : u0 = Value.ref a := ra
    refine oinit_ok T I1 ea ?_ fun s' J => ⟨.non, H1, J, rfl, q⟩
    rw [← Paired.length rw', sizeLine_eq]
    omega
end
end AT

end

section
/-! Steps of a reading, one by one. -/
namespace AT
open PySem PySem.Spec PyProof.Rows L2
abbrev rNewL (xs : List V) : Hp → VK → Prop := fun H Q => xs.length ≤ sizeLine ∧ ∀ p, H p = none → Q (.ref p) (upd H p (.lst xs))
abbrev rNewT (xs : List V) : Hp → VK → Prop := fun H Q => xs.length ≤ sizeLine ∧ ∀ p, H p = none → Q (.ref p) (upd H p (.tup xs))
/-- all that stood stands -/
abbrev Ext (H H' : Hp) : Prop := Same H H'
theorem Ext.new {H : Hp} {p : Addr} {o : HO} (h : H p = none) : Ext H (upd H p o) := fun b u e => by rw [upd_ne (ne_of_none e h)]; exact e
theorem Ext.mut {H H' : Hp} {p : Addr} {o : HO} (e : Ext H H') (h : H p = none) : Ext H (upd H' p o) := fun b u z => by rw [upd_ne (ne_of_none z h)]; exact e b u z
theorem Ext.t {H H1 H2 : Hp} (a : Ext H H1) (b : Ext H1 H2) : Ext H H2 := Same.trans a b
theorem Ext.fresh {H H' : Hp} (e : Ext H H') {p : Addr} (h : H' p = none) : H p = none := Same.free e h
theorem n_lst {xs : List V} {H : Hp} {Q : VK} (z : xs.length ≤ 100000) (k : ∀ p H', H p = none → Ext H H' → H' p = some (.lst xs) → Q (.ref p) H') : rNewL xs H Q := ⟨Nat.le_trans z (by decide), fun p np => k p _ np (Ext.new np) upd_same⟩
theorem n_tup {xs : List V} {H : Hp} {Q : VK} (z : xs.length ≤ 100000) (k : ∀ p H', H p = none → Ext H H' → H' p = some (.tup xs) → Q (.ref p) H') : rNewT xs H Q := ⟨Nat.le_trans z (by decide), fun p np => k p _ np (Ext.new np) upd_same⟩
end AT
namespace AT
open PySem PySem.Spec PyProof.Rows L2
/-- x.f of an instance; x.f = y -/
def rFld (K : PySem.W.Frag) (f : Str) : V → Hp → VK → Prop := fun x H Q => ∃ a C dx fs v, x = .ref a ∧ H a = some (.ins C dx fs) ∧ Cls K C ∧ NoAttr K C f ∧ fs.lookup f = some v ∧ Q v H
def rSFld (K : PySem.W.Frag) (f : Str) : V → V → Hp → (Hp → Prop) → Prop := fun x y H Q => ∃ a C dx fs, x = .ref a ∧ H a = some (.ins C dx fs) ∧ Cls K C ∧ NoAttr K C f ∧ fs.length < 1000 ∧ Q (upd H a (.ins C dx (putF f y fs)))
end AT
namespace AT
open PySem PySem.Spec PyProof.Rows L2
section
variable {K : PySem.W.Frag} {σ : L2.St} {H : Hp} {Q : VK} {tl : TE} {ta : TA} {R : It → Hp → Prop} {a : Addr} {xs : List V} {j i : Int} {x c : V} {t u : Value} {b : Bool} {g : TGs} {tg : TG} {QS : L2.St → Hp → Prop}
theorem w_iList (h : tl σ H fun x H1 => ∃ a, x = .ref a ∧ (∃ xs, SqL K H1 a xs) ∧ R (Itl K a) H1) : iList K tl σ H R := h
theorem w_itL (l : SqL K H a xs) (h : R (Itl K a) H) : ∃ a', V.ref a = .ref a' ∧ (∃ xs, SqL K H a' xs) ∧ R (Itl K a') H := ⟨a, rfl, ⟨xs, l⟩, h⟩
theorem w_iTup (h : tl σ H fun x H1 => ∃ a, x = .ref a ∧ (∃ xs, SqT K H1 a xs) ∧ R (Itt K a) H1) : iTup K tl σ H R := h
theorem w_itT (l : SqT K H a xs) (h : R (Itt K a) H) : ∃ a', V.ref a = .ref a' ∧ (∃ xs, SqT K H a' xs) ∧ R (Itt K a') H := ⟨a, rfl, ⟨xs, l⟩, h⟩
theorem w_iRng1 (h : ta σ H fun vs H1 => ∃ j : Int, vs = [.int j] ∧ -(2 ^ 62) ≤ j ∧ j < 2 ^ 62 ∧ R (Itr 0 j.toNat) H1) : iRng1 ta σ H R := h
theorem w_itR1 (h1 : -(2 ^ 62) ≤ j) (h2 : j < 2 ^ 62) (h : R (Itr 0 j.toNat) H) : ∃ j' : Int, [V.int j] = [.int j'] ∧ -(2 ^ 62) ≤ j' ∧ j' < 2 ^ 62 ∧ R (Itr 0 j'.toNat) H := ⟨j, rfl, h1, h2, h⟩
theorem w_gname {k : Nat} {v : V} (h : QS (σ.set k (some v)) H) : gName k v σ H QS := h
/-- isinstance -/
theorem w_isi (k : ClsV c u) (ty : TyX K H x t) (e : PySem.W.kitOne K t u = some b) (h : Q (.bl b) H) : rIsi K [x, c] H Q := ⟨x, c, t, u, b, rfl, k, ty, e, h⟩
theorem w_intInt (h : Q (.bl true) H) : rIsi K [.int i, .ty "int"] H Q := w_isi (.ty "int") (.base (.int i)) (kit_ty (by decide +kernel)) h
theorem w_intBool (h : Q (.bl false) H) : rIsi K [.int i, .ty "bool"] H Q := w_isi (.ty "bool") (.base (.int i)) (kit_ty (by decide +kernel)) h
theorem w_boolBool {k : Bool} (h : Q (.bl true) H) : rIsi K [.bl k, .ty "bool"] H Q := w_isi (.ty "bool") (.base (.bl k)) (kit_ty (by decide +kernel)) h
theorem kit_own {C : Addr} (h1 : PySem.W.isClsIn K C = true) (h2 : PySem.W.typeIn K (.ref C) = some (.type "type")) (h3 : PySem.W.subIn K t (.ref C) = some b) (hn : (t == .ref C) = false) : PySem.W.kitOne K t (.ref C) = some b := by
  have h1' : (PySem.W.clsIn K C).isSome = true := h1
  unfold PySem.W.kitOne
  rw [hn, if_neg (by decide)]
  simp only [PySem.W.kitCls]
  rw [h1', h2, if_pos (by simp)]
  exact h3
theorem kit_insTy {C : Addr} {T : String} (h3 : PySem.W.subIn K (.ref C) (.type T) = some b) (hm : PySem.W.kitMeta T = true) : PySem.W.kitOne K (.ref C) (.type T) = some b := by
  unfold PySem.W.kitOne
  rw [if_neg (by simp)]
  simp only [PySem.W.kitCls]
  rw [if_pos hm]
  exact h3
theorem kit_self {C : Addr} : PySem.W.kitOne K (.ref C) (.ref C) = some true := by
  unfold PySem.W.kitOne
  rw [if_pos (by simp)]
end
end AT
namespace AT
open PySem PySem.Spec PyProof.Rows L2
/-- a while by what holds ahead of each turn and a measure -/
theorem w_while {c : TT} {tb : TS} {D : Ends} {σ : L2.St} {H : Hp} (Pv : L2.St → Hp → Prop) (μ : L2.St → Hp → Nat) (h0 : Pv σ H)
    (hs : ∀ σ H, Pv σ H → c σ H fun b H1 => if b = true then ∃ N : L2.St → Hp → Prop, (∀ σ' H', N σ' H' → ∃ m', m' < μ σ H ∧ m' = μ σ' H' ∧ Pv σ' H') ∧ tb { D with nx := N, ct := N, bk := D.nx } σ H1 else D.nx σ H1) : tWhile c tb D σ H := by
  refine ⟨fun m σ H => m = μ σ H ∧ Pv σ H, ⟨_, rfl, h0⟩, ?_⟩
  rintro m σ H ⟨rfl, p⟩
  exact hs σ H p
theorem w_wturn {Pv : L2.St → Hp → Prop} {μ : L2.St → Hp → Nat} {m : Nat} {D : Ends} {tb : TS} {σ : L2.St} {H : Hp}
    (h : tb { D with nx := fun σ' H' => μ σ' H' < m ∧ Pv σ' H', ct := fun σ' H' => μ σ' H' < m ∧ Pv σ' H', bk := D.nx } σ H) :
    ∃ N : L2.St → Hp → Prop, (∀ σ' H', N σ' H' → ∃ m', m' < m ∧ m' = μ σ' H' ∧ Pv σ' H') ∧ tb { D with nx := N, ct := N, bk := D.nx } σ H := ⟨_, fun _ _ z => ⟨_, z.1, rfl, z.2⟩, h⟩
end AT
namespace AT
open PySem PySem.Spec PyProof.Rows L2
def rAbs : List V → Hp → VK → Prop := fun xs H Q => ∃ i, xs = [.int i] ∧ Q (.int (if i < 0 then -i else i)) H
theorem call_absR {X : Cx} : CallR X (.builtin "abs") rAbs := call_abs
def rInt1 : List V → Hp → VK → Prop := fun xs H Q => (∃ i, xs = [.int i] ∧ Q (.int i) H) ∨ ∃ k, xs = [.bl k] ∧ Q (.int (if k then 1 else 0)) H
theorem call_intR {X : Cx} : CallR X (.type "int") rInt1 := call_int1
def rLenS (K : PySem.W.Frag) : List V → Hp → VK → Prop := fun xs H Q => ∃ p ys, xs = [.ref p] ∧ (SqL K H p ys ∨ SqT K H p ys) ∧ Q (.int ys.length) H
theorem call_lenR {X : Cx} : CallR X (.builtin "len") (rLenS X.K) := call_len_seq
section
variable {K : PySem.W.Frag} {H : Hp} {Q : VK} {a : Int} {p : Addr} {xs : List V} {v x : V} {i : Int}
theorem w_abs (h : Q (.int (a.natAbs : Int)) H) : rAbs [.int a] H Q := ⟨a, rfl, by
  have e : (if a < 0 then -a else a) = (a.natAbs : Int) := by split <;> omega
  rw [e]; exact h⟩
theorem w_int (h : Q (.int a) H) : rInt1 [.int a] H Q := .inl ⟨a, rfl, h⟩
theorem w_len (l : SqL K H p xs) (h : Q (.int xs.length) H) : rLenS K [.ref p] H Q := ⟨p, xs, rfl, .inl l, h⟩
theorem w_lenT (l : SqT K H p xs) (h : Q (.int xs.length) H) : rLenS K [.ref p] H Q := ⟨p, xs, rfl, .inr l, h⟩
theorem w_ixL (l : SqL K H p xs) (e : atI xs i = some v) (h : Q v H) : rIxL K (.ref p) (.int i) H Q := ⟨p, xs, i, v, rfl, rfl, l, e, h⟩
theorem w_ixT (l : SqT K H p xs) (e : atI xs i = some v) (h : Q v H) : rIxT K (.ref p) (.int i) H Q := ⟨p, xs, i, v, rfl, rfl, l, e, h⟩
theorem w_app (l : H p = some (.lst xs)) (z : xs.length < 100000) (h : Q .non (upd H p (.lst (xs ++ [x])))) : rAppend (.ref p) [x] H Q := ⟨p, xs, x, rfl, rfl, l, Nat.lt_of_lt_of_le z (by decide), h⟩
end
end AT
namespace AT
open PySem PySem.Spec PyProof.Rows L2
/-- floor division by any divisor below 2 ^ 9000 but 0 -/
theorem op_fdivG {X : Cx} : OpR X (binaryOp .FloorDiv) (rI (fun _ j => j ≠ 0 ∧ j.natAbs.log2 < 9000) fun i j => .int (i.fdiv j)) := opI fun _ _ _ _ _ _ _ hc q => floordiv_int hc.1 q (.inl (PyProof.noPylong_of_log2 hc.2))
end AT
namespace AT
open PySem PySem.Spec PyProof.Rows L2
section
variable {K : PySem.W.Frag} {σ : L2.St} {H : Hp} {Q : VK} {D : Ends} {te ta tb : TE} {t u : TS} {c d : TT} {v x y : V} {i j : Nat} {r : R2} {QB : Bool → Hp → Prop} {QA : List V → Hp → Prop} {tr : TA} {tl : TA}
theorem w_seq (h : t { D with nx := u D } σ H) : tSeq t u D σ H := h
theorem w_next (h : D.nx σ H) : tNext D σ H := h
theorem w_if (h : c σ H fun b H1 => if b = true then t D σ H1 else u D σ H1) : tIfS c t u D σ H := h
theorem w_set (h : te σ H fun x H1 => D.nx (σ.set i (some x)) H1) : tAsg te (gName i) D σ H := h
theorem w_par (h : tr σ H fun vs H1 => ∃ v w, vs = [v, w] ∧ D.nx ((σ.set i (some v)).set j (some w)) H1) : tPar i j tr D σ H := h
theorem w_two {P : V → V → Prop} (h : P x y) : ∃ v w, [x, y] = [v, w] ∧ P v w := ⟨x, y, rfl, h⟩
theorem w_drop (h : te σ H fun _ H1 => D.nx σ H1) : tDrop te D σ H := h
theorem w_ret (h : te σ H D.rt) : tRet te D σ H := h
theorem w_retN (h : D.rt .non H) : tRetN D σ H := h
theorem w_var (e : σ[i]? = some (some v)) (h : Q v H) : tVar i σ H Q := ⟨v, e, h⟩
theorem w_aug {ti : TIp} (e : σ[i]? = some (some x)) (h : te σ H fun y H1 => ti x y H1 fun z H2 => D.nx (σ.set i (some z)) H2) : tAug i te ti D σ H := ⟨x, e, h⟩
theorem w_c (h : Q v H) : tC v σ H Q := h
theorem w_test (h : te σ H fun x H' => ∃ k, x = .bl k ∧ QB k H') : tTest te σ H QB := h
theorem w_B (h : te σ H fun x H' => ∃ k, x = .bl k ∧ QB k H') : tB te σ H QB := h
theorem w_bl {k : Bool} (h : QB k H) : ∃ k', V.bl k = .bl k' ∧ QB k' H := ⟨k, rfl, h⟩
theorem w_op (h : ta σ H fun x H1 => tb σ H1 fun y H2 => r x y H2 Q) : tOp r ta tb σ H Q := h
theorem w_un {ru : V → Hp → VK → Prop} (h : ta σ H fun x H1 => ru x H1 Q) : tUn ru ta σ H Q := h
theorem w_rU {g : Int → V} {a : Int} (h : Q (g a) H) : rU g (.int a) H Q := ⟨a, rfl, h⟩
theorem w_rI0 {g : Int → Int → V} {a b : Int} (h : Q (g a b) H) : rI0 g (.int a) (.int b) H Q := ⟨a, b, rfl, rfl, h⟩
theorem w_rI {C : Int → Int → Prop} {g : Int → Int → V} {a b : Int} (hc : C a b) (h : Q (g a b) H) : rI C g (.int a) (.int b) H Q := ⟨a, b, rfl, rfl, hc, h⟩
theorem w_pow {g : Int → Int → V} {a b : Int} (c : 0 ≤ b ∧ b ≤ 1000000 ∧ a.natAbs < 2 ^ 64) (h : Q (g a b) H) : rI CPow g (.int a) (.int b) H Q := ⟨a, b, rfl, rfl, c, h⟩
theorem w_mod {g : Int → Int → V} {a b : Int} (c : 0 < b) (h : Q (g a b) H) : rI (fun _ j => 0 < j) g (.int a) (.int b) H Q := ⟨a, b, rfl, rfl, c, h⟩
theorem w_eqI {a b : Int} (h : Q (.bl (decide (a = b))) H) : rEq (.int a) (.int b) H Q := ⟨rfl, by
  have e : decide (V.int a = V.int b) = decide (a = b) := by rw [dec_int, Bool.eq_iff_iff, beq_iff_eq, decide_eq_true_iff]
  rw [e]
  exact h⟩
theorem w_neI {a b : Int} (h : Q (.bl (!decide (a = b))) H) : rNe (.int a) (.int b) H Q := ⟨rfl, by
  have e : decide (V.int a = V.int b) = decide (a = b) := by rw [dec_int, Bool.eq_iff_iff, beq_iff_eq, decide_eq_true_iff]
  rw [e]
  exact h⟩
theorem w_chain {r' : R2} {tc : TE} (h : ta σ H fun x H1 => tb σ H1 fun y H2 => r x y H2 fun z H3 => ∃ k, z = .bl k ∧ (if k = true then tc σ H3 fun w' H4 => r' y w' H4 Q else Q (.bl false) H3)) : tChain r r' ta tb tc σ H Q := h
theorem w_blV {k : Bool} {P : Bool → Prop} (h : P k) : ∃ k', V.bl k = .bl k' ∧ P k' := ⟨k, rfl, h⟩
theorem w_and (h : c σ H fun b H1 => if b = true then d σ H1 QB else QB false H1) : tAnd c d σ H QB := h
theorem w_or (h : c σ H fun b H1 => if b = true then QB true H1 else d σ H1 QB) : tOr c d σ H QB := h
theorem w_not (h : c σ H fun b H1 => QB (!b) H1) : tNot c σ H QB := h
theorem w_andV (h : ta σ H fun x H1 => ∃ k, x = .bl k ∧ if k = true then tb σ H1 Q else Q (.bl false) H1) : tAndV ta tb σ H Q := h
theorem w_orV (h : ta σ H fun x H1 => ∃ k, x = .bl k ∧ if k = true then Q (.bl true) H1 else tb σ H1 Q) : tOrV ta tb σ H Q := h
theorem w_notV (h : ta σ H fun x H1 => ∃ k, x = .bl k ∧ Q (.bl (!k)) H1) : tNotV ta σ H Q := h
theorem w_ifE (h : c σ H fun b H1 => if b = true then ta σ H1 Q else tb σ H1 Q) : tIf c ta tb σ H Q := h
theorem w_nil (h : QA [] H) : tNil σ H QA := h
theorem w_cons (h : te σ H fun x H1 => tl σ H1 fun xs H2 => QA (x :: xs) H2) : tCons te tl σ H QA := h
theorem w_call {sp : Sp} {dvs : List V} {E : XK} (h : tr σ H fun vs H1 => sp (vs ++ dvs) H1 Q E) : tCall sp dvs E tr σ H Q := h
theorem w_callS {sp : Sp} {E : L2.St → XK} (h : tr σ H fun vs H1 => sp vs H1 Q (E σ)) : tCallS sp E tr σ H Q := h
theorem w_cb {rc : List V → Hp → VK → Prop} (h : tr σ H fun vs H1 => rc vs H1 Q) : tCB rc tr σ H Q := h
theorem w_fld {f : Str} (h : ta σ H fun x H1 => rFld K f x H1 Q) : tFld K ta f σ H Q := h
theorem w_sfld {f : Str} (h : tb σ H fun y H1 => ta σ H1 fun x H2 => rSFld K f x y H2 (D.nx σ)) : sFld K ta tb f D σ H := h
theorem w_lst (h : tr σ H fun xs H1 => rNewL xs H1 Q) : tLst tr σ H Q := h
theorem w_tup (h : tr σ H fun xs H1 => rNewT xs H1 Q) : tTup tr σ H Q := h
theorem w_bm {T : String} {rm : V → List V → Hp → VK → Prop} (h : ta σ H fun x H1 => tyV K T x H1 ∧ tr σ H1 fun xs H2 => rm x xs H2 Q) : tBM K T rm ta tr σ H Q := h
theorem w_for {wi : TI} {g : TG} (h : wi σ H fun J H1 => ∃ W : Nat → Nat → L2.St → Hp → Prop, (∃ m, W 0 m σ H1) ∧ ∀ i m σ H, W i m σ H →
  (J.stop i H ∧ D.nx σ H) ∨ (J.go i H ∧ ∃ N : L2.St → Hp → Prop, (∀ σ' H', N σ' H' → ∃ m', m' < m ∧ W (i + 1) m' σ' H') ∧ ∀ x H', J.yld i H x H' → g x σ H' fun σ2 H2 => t { D with nx := N, ct := N, bk := D.nx } σ2 H2)) : tFor wi g t D σ H := h
end
section
variable {p q : Prop} [Decidable p] {A B : Prop} {b : Bool}
theorem i_dec (h1 : p → A) (h2 : ¬ p → B) : if decide p = true then A else B := by
  by_cases hp : p
  · rw [decide_eq_true hp]; exact h1 hp
  · rw [decide_eq_false hp]; exact h2 hp
theorem i_ndec (h1 : p → B) (h2 : ¬ p → A) : if (!decide p) = true then A else B := by
  by_cases hp : p
  · rw [decide_eq_true hp]; exact h1 hp
  · rw [decide_eq_false hp]; exact h2 hp
theorem i_yes (hp : b = true) (h : A) : if b = true then A else B := by rw [hp]; exact h
theorem i_no (hp : b = false) (h : B) : if b = true then A else B := by rw [hp]; exact h
end
end AT
namespace AT
open PySem PySem.Spec PyProof.Rows L2
theorem w_mulW {H : Hp} {Q : VK} {i j : Int} {m n : Nat} (h1 : i.natAbs < 2 ^ m) (h2 : j.natAbs < 2 ^ n) (h0 : 0 < m) (h3 : 0 < n) (h4 : m + n ≤ 1000000) (k : Q (.int (i * j)) H) : rI CMulW (fun i j => .int (i * j)) (.int i) (.int j) H Q :=
  ⟨i, j, rfl, rfl, wide_mul h1 h2 h0 h3 h4, k⟩
end AT
namespace L2
open PySem PySem.Spec PyProof.Rows
theorem Same.seqT {K : PySem.W.Frag} {H H' : Hp} {a : Addr} {xs : List V} (e : Same H H') (h : SqT K H a xs) : SqT K H' a xs := by
  rcases h with (h | ⟨o, h⟩) | h
  · exact .inl (.inl (e _ _ h))
  · exact .inl (.inr ⟨o, e _ _ h⟩)
  · exact .inr h
end L2

end

section
/-! Making an object, methods and operators in a try: what is raised is wished for at the slots as they stand. -/
namespace AT
open PySem PySem.Spec PyProof.Rows L2
/-- C(e, ..) in a try -/
def rMakeS (C : Addr) (sp : Sp) (dvs : List V) (E : XK) : List V → Hp → VK → Prop := fun vs H1 Q => ∀ x dx, H1 x = none → H1 dx = none → dx ≠ x →
  sp (.ref x :: (vs ++ dvs)) (upd (upd H1 dx (.own x)) x (.ins C dx [])) (fun v H2 => v = .non ∧ Q (.ref x) H2) E
def tMakeS (C : Addr) (sp : Sp) (dvs : List V) (E : L2.St → XK) (t : TA) : TE := fun σ H Q => t σ H fun vs H1 => rMakeS C sp dvs (E σ) vs H1 Q
section
variable {X : Cx} {CX : CXT} {k : Nat} {f C : Addr} {fd : FuncData} {ps : List Str} {sp : Sp} {E : L2.St → XK} {x : Str} {p pos : Pos} {e : Expr} {es : List Expr} {t : TA} {dvs : List V} {ds : List Value}
theorem run_makeS {pins : List (Addr × Obj)} {σ : L2.St} {H : Hp} {s : Shared} {Q : VK} {us : List Value} {vs : List V} (M : Mk X.K C f) (F : FnOk X.prog X.w X.K X.mg X.base CX k f fd ps sp) (hr : Room (k + 1) X.A) (hb : Binds X.K fd ps ds) (hd : Vals dvs ds)
    (hx : PassesAt CX X σ (E σ)) (I : Inv X pins σ H s) (r : Vals vs us) (h : rMakeS C sp dvs (E σ) vs H Q) : wpAny (model X.prog X.w) X.A (call (.ref C) us) (EP X pins σ Q) X.xe s := by
  have hq := h (s.heap.objs.size + 1) s.heap.objs.size (I.hok.fresh (Nat.le_succ _)) (I.hok.fresh (Nat.le_refl _)) (Nat.ne_of_lt (Nat.lt_succ_self _))
  have J := Inv.made (C := C) I
  have r2 : Vals (V.ref (s.heap.objs.size + 1) :: (vs ++ dvs)) (Value.ref (s.heap.objs.size + 1) :: (us ++ ds)) := Paired.cons rfl (Vals.append r hd)
  have hl : (Value.ref (s.heap.objs.size + 1) :: us ++ ds).length = ps.length := (Vals.length r2).symm.trans (F.len _ _ _ _ hq)
  have bb := hb _ (Value.ref (s.heap.objs.size + 1) :: us) J.kIn hl
  refine wpAny_call (make_map (f := f) I.kIn M.makes M.init (beq_iff_eq.mp M.fn) (codeAny_mono (F.run _ X.stack _ _ ⟨Value.ref (s.heap.objs.size + 1) :: us, []⟩ (Value.ref (s.heap.objs.size + 1) :: (us ++ ds)) _ _ (E σ)
    (hr.make C us []) (J.env0.make C us []) bb r2 hq) fun q s1 z => ?_))
  cases q with
  | error er => exact hx pins _ _ er s1 J z
  | ok fl =>
    cases fl with
    | ret u =>
      obtain ⟨v, H2, I2, rv, ev, q2⟩ := J.after z
      subst ev
      exact ⟨rv, V.ref (s.heap.objs.size + 1), H2, I2, rfl, q2⟩
    | next => exact (show False from z).elim
    | brk => exact (show False from z).elim
    | cont => exact (show False from z).elim
theorem pe_makeS (M : Mk X.K C f) (F : FnOk X.prog X.w X.K X.mg X.base CX k f fd ps sp) (hr : Room (k + 1) X.A) (hg : Gl X x) (hm : X.mg x = some (.ref C)) (hb : Binds X.K fd ps ds) (hd : Vals dvs ds) (hx : ∀ σ, PassesAt CX X σ (E σ)) (ha : PA X (e :: es) t)
    (hdb : (x == ("__debug__" : Str)) = false := by decide) (hst : starEach (e :: es) X.env = (false, eval e X.env) :: starEach es X.env := by rfl) (hnp : (backTo pos (starEach es X.env)).any (·.1) = false := by rfl) :
    PE X (.Call (.Name x p) (e :: es) [] pos) (tMakeS C sp dvs E t) := by
  constructor
  intro pins s σ H Q I h
  refine wpAny_Call_Name_kw (ld_glob I hg hm ?_ hdb)
  refine PySem.W.callWith_K (h₀ := X.base) I.ok.mod.kin M.kp (thn (ha.run pos pins s σ H _ I h) fun us s1 q1 => ?_) hst hnp
  obtain ⟨vs, H1, I1, r, q⟩ := q1
  exact ⟨I1.kIn, run_makeS M F hr hb hd (hx σ) I1 r q⟩
/-- C(e, ..) with the made part named -/
theorem pe_makeR {E1 : XK} (M : Mk X.K C f) (F : FnOk X.prog X.w X.K X.mg X.base CX k f fd ps sp) (hr : Room (k + 1) X.A) (hg : Gl X x) (hm : X.mg x = some (.ref C)) (hb : Binds X.K fd ps ds) (hd : Vals dvs ds) (hx : Passes CX X E1) (ha : PA X (e :: es) t)
    (hdb : (x == ("__debug__" : Str)) = false := by decide) (hst : starEach (e :: es) X.env = (false, eval e X.env) :: starEach es X.env := by rfl) (hnp : (backTo pos (starEach es X.env)).any (·.1) = false := by rfl) :
    PE X (.Call (.Name x p) (e :: es) [] pos) (tMakeS C sp dvs (fun _ => E1) t) := pe_makeS M F hr hg hm hb hd (fun σ pins H s e s' I c => hx pins σ H s e s' I c) ha hdb hst hnp
theorem w_makeS {σ : L2.St} {H : Hp} {Q : VK} (h : t σ H fun vs H1 => rMakeS C sp dvs (E σ) vs H1 Q) : tMakeS C sp dvs E t σ H Q := h
end
theorem exm_own {K : PySem.W.Frag} {D C : Addr} {b : Bool} (h1 : PySem.W.subIn K (.ref C) (.type "BaseException") = some true) (h2 : PySem.W.isClsIn K C = true) (h3 : PySem.W.typeIn K (.ref C) = some (.type "type")) (h4 : PySem.W.subIn K (.ref D) (.ref C) = some b) :
    PySem.W.exmOne K (.ref D) (.ref C) = some b := by
  have h2' : (PySem.W.clsIn K C).isSome = true := h2
  unfold PySem.W.exmOne
  rw [h1, if_pos (by simp)]
  simp only [PySem.W.kitCls]
  rw [h2', h3, if_pos (by simp)]
  exact h4
/-- e.f of a caught error -/
abbrev rXf (a : Addr) (cls : Value) (d : Option Addr) (C : Addr) (f : Str) : V → Hp → VK → Prop := fun x H1 Q => x = .ref a ∧ cls = .ref C ∧ ∃ (dd : Addr) (fs : List (Str × V)) (v : V), d = some dd ∧ H1 dd = some (.xd fs) ∧ fs.lookup f = some v ∧ Q v H1
section
variable {σ : L2.St} {H : Hp} {Q : VK} {a C dd : Addr} {cls : Value} {d : Option Addr} {f g : Str} {te : TE} {fs : List (Str × V)} {v w : V} {K : PySem.W.Frag} {p q : Addr}
theorem w_xf (h : te σ H fun x H1 => rXf a cls d C f x H1 Q) : tXf a cls d C f te σ H Q := h
theorem n_xf (hd : H dd = some (.xd fs)) (hl : fs.lookup f = some v) (k : Q v H) : rXf a (.ref C) (some dd) C f (.ref a) H Q := ⟨rfl, rfl, dd, fs, v, rfl, hd, hl, k⟩
theorem lk_1 {r : List (Str × V)} : List.lookup f ((f, v) :: r) = some v := by simp
theorem lk_2 {r : List (Str × V)} (h : (g == f) = false) : List.lookup g ((f, v) :: (g, w) :: r) = some w := by
  rw [List.lookup_cons, h]
  simp
/-- == of lists of data -/
theorem n_eqD {d e : PyData} {x y : V} (h1 : Dp K H x d) (h2 : Dp K H y e) (s1 : SeqAt.shaped d = true) (s2 : SeqAt.shaped e = true) (k : Q (.bl (PyData.eqv d e)) H) : rEqD K x y H Q := ⟨d, e, h1, h2, s1, s2, k⟩
theorem n_neD {d e : PyData} {x y : V} (h1 : Dp K H x d) (h2 : Dp K H y e) (s1 : SeqAt.shaped d = true) (s2 : SeqAt.shaped e = true) (k : Q (.bl (!PyData.eqv d e)) H) : rNeD K x y H Q := ⟨d, e, h1, h2, s1, s2, k⟩
/-- is None, is not None -/
theorem n_isN {x : V} (k : Q (.bl (decide (x = .non))) H) : L2.rIsN x .non H Q := ⟨rfl, k⟩
theorem n_notN {x : V} (k : Q (.bl (!decide (x = .non))) H) : L2.rNotN x .non H Q := ⟨rfl, k⟩
end
end AT

end

section
/-! Fractions in lowest terms: plain arithmetic. -/
namespace AT
/-- smaller than 2 ^ n -/
def Bn (n : Nat) (i : Int) : Prop := i.natAbs < 2 ^ n
instance {n : Nat} {i : Int} : Decidable (Bn n i) := inferInstanceAs (Decidable (i.natAbs < 2 ^ n))
theorem Bn.mono {m n : Nat} {i : Int} (h : Bn m i) (l : m ≤ n) : Bn n i := Nat.lt_of_lt_of_le h (Nat.pow_le_pow_right (by decide) l)
theorem Bn.neg {n : Nat} {i : Int} (h : Bn n i) : Bn n (-i) := by unfold Bn at *; rw [Int.natAbs_neg]; exact h
theorem Bn.mul {m n : Nat} {i j : Int} (h : Bn m i) (l : Bn n j) : Bn (m + n) (i * j) := by
  unfold Bn at *
  rw [Int.natAbs_mul, Nat.pow_add]
  exact Nat.mul_lt_mul'' h l
theorem Bn.add {n : Nat} {i j : Int} (h : Bn n i) (l : Bn n j) : Bn (n + 1) (i + j) := by
  unfold Bn at *
  have := Int.natAbs_add_le i j
  rw [Nat.pow_succ]
  omega
theorem Bn.sub {n : Nat} {i j : Int} (h : Bn n i) (l : Bn n j) : Bn (n + 1) (i - j) := by
  rw [Int.sub_eq_add_neg]
  exact h.add l.neg
theorem Bn.le {n : Nat} {i j : Int} (h : Bn n j) (l : i.natAbs ≤ j.natAbs) : Bn n i := Nat.lt_of_le_of_lt l h
theorem Bn.pos {n : Nat} {i : Int} (h : Bn n i) : 0 ≤ n := Nat.zero_le _
theorem Bn.log {n : Nat} {i : Int} (h : Bn n i) (h0 : 0 < n) : i.natAbs.log2 < n := by
  unfold Bn at h
  by_cases hz : i.natAbs = 0
  · rw [hz]; simpa using h0
  · exact (Nat.log2_lt hz).mpr h
theorem Bn.log' {n m : Nat} {i : Int} (h : Bn n i) (h0 : n < m) : i.natAbs.log2 < m := Bn.log (h.mono (Nat.le_of_lt h0)) (by omega)
theorem Bn.nat {n k : Nat} (h : k < 2 ^ n) : Bn n (k : Int) := by unfold Bn; simpa using h
theorem Bn.abs {n : Nat} {i : Int} (h : Bn n i) : Bn n (i.natAbs : Int) := by unfold Bn at *; simpa using h

/-! ### one step of the common divisor -/
theorem rest_eq {a b : Int} (hb : 0 < b) : a - b * (a.fdiv b) = a % b := by
  rw [Int.fdiv_eq_ediv_of_nonneg a (by omega)]
  have := Int.emod_add_mul_ediv a b
  omega
theorem gcd_step {a b : Int} (hb : 0 < b) : Int.gcd b (a - b * (a.fdiv b)) = Int.gcd a b := by
  have e : a - b * (a.fdiv b) = a + b * (-(a.fdiv b)) := by rw [Int.mul_neg]; omega
  rw [e, Int.gcd_comm, Int.gcd_add_mul_left_left]
theorem abs_if (i : Int) : (if i < 0 then -i else i) = (i.natAbs : Int) := by split <;> omega

/-! ### lowest terms -/
theorem fdiv_dvd {a g : Int} (hg : g ≠ 0) (h : g ∣ a) : a.fdiv g * g = a := by
  exact Int.fdiv_mul_cancel_of_dvd h
theorem fdiv_eq {a g k : Int} (hg : g ≠ 0) (h : a = k * g) : a.fdiv g = k := by
  subst h
  exact Int.mul_fdiv_cancel k hg
/-- the part that is divided out -/
def part (t b : Int) : Int := if b < 0 then -(Int.gcd t b : Int) else (Int.gcd t b : Int)
theorem part_ne {t b : Int} (hb : b ≠ 0) : part t b ≠ 0 := by
  have h : Int.gcd t b ≠ 0 := fun e => hb (Int.gcd_eq_zero_iff.mp e).2
  unfold part
  split <;> omega
theorem num_eq {t b : Int} (hb : b ≠ 0) : t.fdiv (part t b) = (Rat.divInt t b).num := by
  obtain ⟨k, hk⟩ : ((Int.gcd t b : Nat) : Int) ∣ t := Int.gcd_dvd_left t b
  have h : (Int.gcd t b : Int) ≠ 0 := by
    have : Int.gcd t b ≠ 0 := fun e => hb (Int.gcd_eq_zero_iff.mp e).2
    omega
  rw [Rat.num_divInt, Int.gcd_comm b t]
  unfold part
  split
  · rename_i hn
    rw [Int.sign_eq_neg_one_of_neg hn]
    have e1 : t.fdiv (-(Int.gcd t b : Int)) = -k := fdiv_eq (by omega) (by rw [Int.neg_mul_neg, Int.mul_comm]; exact hk)
    rw [e1]
    refine (Int.ediv_eq_of_eq_mul_left h ?_).symm
    rw [Int.neg_mul, Int.one_mul, Int.neg_mul, Int.mul_comm k, ← hk]
  · rename_i hn
    have hp : 0 < b := by omega
    rw [Int.sign_eq_one_of_pos hp, Int.one_mul]
    have e1 : t.fdiv (Int.gcd t b : Int) = k := fdiv_eq h (by rw [Int.mul_comm]; exact hk)
    rw [e1]
    refine (Int.ediv_eq_of_eq_mul_left h ?_).symm
    rw [Int.mul_comm, ← hk]
theorem den_eq {t b : Int} (hb : b ≠ 0) : b.fdiv (part t b) = ((Rat.divInt t b).den : Int) := by
  obtain ⟨k, hk⟩ : ((Int.gcd t b : Nat) : Int) ∣ b := Int.gcd_dvd_right t b
  have h : (Int.gcd t b : Int) ≠ 0 := by
    have : Int.gcd t b ≠ 0 := fun e => hb (Int.gcd_eq_zero_iff.mp e).2
    omega
  rw [Rat.den_divInt, if_neg hb, Int.gcd_comm b t, Int.natCast_ediv]
  unfold part
  split
  · rename_i hn
    have e1 : b.fdiv (-(Int.gcd t b : Int)) = -k := fdiv_eq (by omega) (by rw [Int.neg_mul_neg, Int.mul_comm]; exact hk)
    rw [e1]
    refine (Int.ediv_eq_of_eq_mul_left h ?_).symm
    have : (b.natAbs : Int) = -b := by omega
    rw [this, Int.neg_mul, Int.mul_comm k, ← hk]
  · rename_i hn
    have e1 : b.fdiv (Int.gcd t b : Int) = k := fdiv_eq h (by rw [Int.mul_comm]; exact hk)
    rw [e1]
    refine (Int.ediv_eq_of_eq_mul_left h ?_).symm
    have : (b.natAbs : Int) = b := by omega
    rw [this, Int.mul_comm k, ← hk]
theorem den_pos (q : Rat) : 0 < (q.den : Int) := by have := q.den_pos; omega
theorem gcd_low (q : Rat) : Int.gcd q.num q.den = 1 := q.reduced
/-- as a fraction the two are the same -/
theorem cross {t b : Int} (hb : b ≠ 0) : (Rat.divInt t b).num * b = t * ((Rat.divInt t b).den : Int) := by
  have h1 := num_eq (t := t) hb
  have h2 := den_eq (t := t) hb
  have hp := part_ne (t := t) hb
  have d1 : part t b ∣ t := by
    have := Int.gcd_dvd_left t b
    unfold part
    split
    · exact (Int.neg_dvd).mpr this
    · exact this
  have d2 : part t b ∣ b := by
    have := Int.gcd_dvd_right t b
    unfold part
    split
    · exact (Int.neg_dvd).mpr this
    · exact this
  have e1 := fdiv_dvd hp d1
  have e2 := fdiv_dvd hp d2
  rw [h1] at e1
  rw [h2] at e2
  generalize (Rat.divInt t b).num = n at *
  generalize ((Rat.divInt t b).den : Int) = d at *
  generalize part t b = p at *
  subst e1
  rw [← e2]
  grind
theorem num_le {t b : Int} (hb : b ≠ 0) : (Rat.divInt t b).num.natAbs ≤ t.natAbs := by
  have h1 := num_eq (t := t) hb
  have d1 : part t b ∣ t := by
    have := Int.gcd_dvd_left t b
    unfold part
    split
    · exact (Int.neg_dvd).mpr this
    · exact this
  have e1 := fdiv_dvd (part_ne (t := t) hb) d1
  rw [h1] at e1
  have := part_ne (t := t) hb
  have e2 := congrArg Int.natAbs e1
  rw [Int.natAbs_mul] at e2
  have hpp : 0 < (part t b).natAbs := Int.natAbs_pos.mpr this
  rw [← e2]
  exact Nat.le_mul_of_pos_right _ hpp
theorem den_le {t b : Int} (hb : b ≠ 0) : (Rat.divInt t b).den ≤ b.natAbs := by
  have h1 := den_eq (t := t) hb
  have d1 : part t b ∣ b := by
    have := Int.gcd_dvd_right t b
    unfold part
    split
    · exact (Int.neg_dvd).mpr this
    · exact this
  have e1 := fdiv_dvd (part_ne (t := t) hb) d1
  rw [h1] at e1
  have := part_ne (t := t) hb
  have e2 := congrArg Int.natAbs e1
  rw [Int.natAbs_mul, Int.natAbs_natCast] at e2
  have hpp : 0 < (part t b).natAbs := Int.natAbs_pos.mpr this
  rw [← e2]
  exact Nat.le_mul_of_pos_right _ hpp
end AT
namespace AT
theorem fdiv_abs {a b : Int} (hb : 0 < b) (ha : 0 ≤ a) : (a.fdiv b).natAbs ≤ a.natAbs := by
  rw [Int.fdiv_eq_ediv_of_nonneg a (by omega)]
  have h1 := Int.ediv_nonneg ha (by omega : 0 ≤ b)
  have h2 := Int.ediv_le_self b ha
  omega
end AT
namespace AT
theorem part_bn {n : Nat} {t b : Int} (ht : Bn n t) (hb : Bn n b) (h0 : b ≠ 0) : Bn n (part t b) := by
  have h1 : (Int.gcd t b : Int).natAbs ≤ b.natAbs := by
    rw [Int.natAbs_natCast]
    exact Nat.le_of_dvd (by omega) (Int.gcd_dvd_natAbs_right t b)
  unfold part
  split
  · exact (hb.le h1).neg
  · exact hb.le h1
end AT
namespace AT
theorem bn_of {n : Nat} {m i : Int} (hm : Bn n m) (h1 : -m ≤ i) (h2 : i ≤ m) : Bn n i := hm.le (by omega)
theorem divInt_neg {t b : Int} : Rat.divInt (-t) (-b) = Rat.divInt t b := Rat.neg_divInt_neg t b
theorem divInt_one {t : Int} : Rat.divInt t 1 = (t : Rat) := by rw [Rat.divInt_eq_div]; grind
end AT
namespace AT
theorem qd (q : Rat) : q = Rat.divInt q.num q.den := by rw [Rat.divInt_ofNat, Rat.mkRat_self]
theorem dne (q : Rat) : (q.den : Int) ≠ 0 := by have := q.den_nz; omega
theorem add_eq (q r : Rat) : Rat.divInt (q.num * r.den + r.num * q.den) (q.den * r.den) = q + r := by
  conv => rhs; rw [qd q, qd r, Rat.divInt_add_divInt _ _ (dne q) (dne r)]
theorem sub_eq (q r : Rat) : Rat.divInt (q.num * r.den - r.num * q.den) (q.den * r.den) = q - r := by
  conv => rhs; rw [qd q, qd r, Rat.divInt_sub_divInt _ _ (dne q) (dne r)]
theorem mul_eq (q r : Rat) : Rat.divInt (q.num * r.num) (q.den * r.den) = q * r := by
  conv => rhs; rw [qd q, qd r, Rat.divInt_mul_divInt _ _]
theorem addI_eq (q : Rat) (i : Int) : Rat.divInt (q.num + i * q.den) q.den = q + (i : Rat) := by
  have h := add_eq q i
  rw [Rat.num_intCast, Rat.den_intCast] at h
  simpa using h
theorem subI_eq (q : Rat) (i : Int) : Rat.divInt (q.num - i * q.den) q.den = q - (i : Rat) := by
  have h := sub_eq q i
  rw [Rat.num_intCast, Rat.den_intCast] at h
  simpa using h
theorem rsubI_eq (q : Rat) (i : Int) : Rat.divInt (i * q.den - q.num) q.den = (i : Rat) - q := by
  have h := sub_eq i q
  rw [Rat.num_intCast, Rat.den_intCast] at h
  simpa using h
theorem mulI_eq (q : Rat) (i : Int) : Rat.divInt (q.num * i) q.den = q * (i : Rat) := by
  have h := mul_eq q i
  rw [Rat.num_intCast, Rat.den_intCast] at h
  simpa using h
end AT
namespace AT
theorem fdiv_scale {a b c : Int} (hc : c ≠ 0) : (a * c).fdiv (b * c) = a.fdiv b := by
  rcases Int.lt_or_gt_of_ne hc with h | h
  · have e : (a * c).fdiv (b * c) = (a * (-c)).fdiv (b * (-c)) := by
      rw [Int.mul_neg, Int.mul_neg, Int.neg_fdiv_neg]
    rw [e, Int.mul_comm a, Int.mul_comm b]
    exact Int.mul_fdiv_mul_of_pos _ _ (by omega)
  · rw [Int.mul_comm a, Int.mul_comm b]
    exact Int.mul_fdiv_mul_of_pos _ _ h
theorem fdiv_cross {a b c d : Int} (hb : b ≠ 0) (hd : d ≠ 0) (e : a * d = c * b) : a.fdiv b = c.fdiv d := by
  rw [← fdiv_scale (a := a) (b := b) hd, ← fdiv_scale (a := c) (b := d) hb, e, Int.mul_comm b d]
theorem fdiv_small {a b : Int} : (a.fdiv b).natAbs ≤ a.natAbs := by
  by_cases hb : b = 0
  · subst hb; simp
  have key : ∀ {a b : Int}, 0 < b → (a.fdiv b).natAbs ≤ a.natAbs := by
    intro a b hb
    rw [Int.fdiv_eq_ediv_of_nonneg _ (by omega)]
    rcases (by omega : a < 0 ∨ 0 ≤ a) with h | h
    · have h1 : a / b < 0 := Int.ediv_neg_of_neg_of_pos h hb
      have h2 : a ≤ a / b := by
        apply Int.le_ediv_of_mul_le hb
        have : a * b ≤ a * 1 := Int.mul_le_mul_of_nonpos_left (by omega) (by omega)
        omega
      omega
    · have h1 : 0 ≤ a / b := Int.ediv_nonneg h (by omega)
      have h2 : a / b ≤ a := Int.ediv_le_self _ h
      omega
  rcases Int.lt_or_gt_of_ne hb with h | h
  · have := key (a := -a) (b := -b) (by omega)
    rw [Int.neg_fdiv_neg] at this
    omega
  · exact key h
/-- floor of the quotient -/
def fl (q r : Rat) : Int := (q.num * r.den).fdiv (q.den * r.num)
theorem flI_eq (q : Rat) (i : Int) : q.num.fdiv (q.den * i) = fl q (i : Rat) := by unfold fl; simp
theorem rflI_eq (q : Rat) (i : Int) : (i * q.den).fdiv q.num = fl (i : Rat) q := by unfold fl; simp
theorem rat_num0 {t b : Int} (hb : b ≠ 0) : (Rat.divInt t b).num = 0 ↔ t = 0 := by
  have c := cross (t := t) hb
  have d := den_pos (Rat.divInt t b)
  constructor
  · intro h
    rw [h, Int.zero_mul] at c
    rcases Int.mul_eq_zero.mp c.symm with h | h
    · exact h
    · omega
  · intro h
    subst h
    rw [Int.zero_mul] at c
    rcases Int.mul_eq_zero.mp c with h | h
    · exact h
    · exact absurd h hb
theorem fl_div {t b t' b' : Int} (hb : b ≠ 0) (hb' : b' ≠ 0) (ht' : t' ≠ 0) : fl (Rat.divInt t b) (Rat.divInt t' b') = (t * b').fdiv (b * t') := by
  have c1 := cross (t := t) hb
  have c2 := cross (t := t') hb'
  have d1 := den_pos (Rat.divInt t b)
  have d2 := den_pos (Rat.divInt t' b')
  have n2 : (Rat.divInt t' b').num ≠ 0 := fun h => ht' ((rat_num0 hb').mp h)
  unfold fl
  generalize (Rat.divInt t b).num = n at *
  generalize ((Rat.divInt t b).den : Int) = d at *
  generalize (Rat.divInt t' b').num = n' at *
  generalize ((Rat.divInt t' b').den : Int) = d' at *
  refine fdiv_cross (Int.mul_ne_zero (by omega) n2) (Int.mul_ne_zero hb ht') ?_
  have e1 : n * d' * (b * t') = (n * b) * (t' * d') := by ac_rfl
  have e2 : t * b' * (d * n') = (t * d) * (n' * b') := by ac_rfl
  rw [e1, e2, c1, c2]
theorem bn_fl {q r : Rat} {m n : Nat} (h1 : Bn m q.num) (h2 : Bn n (r.den : Int)) : Bn (m + n) (fl q r) := (h1.mul h2).le fdiv_small
end AT
namespace AT
theorem lt_num (q r : Rat) : q < r ↔ q.num * r.den < r.num * q.den := Rat.lt_iff q r
/-- the sign of a difference of two quotients -/
theorem sgn {t b t' b' : Int} (h : b ≠ 0) (h' : b' ≠ 0) : ∃ m : Int, 0 < m ∧ ∃ m' : Int, 0 < m' ∧ ((t * b' - t' * b) * b * b') * m = ((Rat.divInt t b).num * ((Rat.divInt t' b').den : Int) - (Rat.divInt t' b').num * ((Rat.divInt t b).den : Int)) * m' := by
  have c1 := cross (t := t) h
  have c2 := cross (t := t') h'
  have d1 := den_pos (Rat.divInt t b)
  have d2 := den_pos (Rat.divInt t' b')
  generalize (Rat.divInt t b).num = n at *
  generalize ((Rat.divInt t b).den : Int) = d at *
  generalize (Rat.divInt t' b').num = n' at *
  generalize ((Rat.divInt t' b').den : Int) = d' at *
  refine ⟨d * d', Int.mul_pos d1 d2, (b * b') * (b * b'), ?_, ?_⟩
  · have z := Int.mul_ne_zero h h'
    rcases Int.lt_or_gt_of_ne z with z | z
    · exact Int.mul_pos_of_neg_of_neg z z
    · exact Int.mul_pos z z
  · have e1 : (t * b' - t' * b) * b * b' * (d * d') = (t * d) * (b' * b * b' * d') - (t' * d') * (b * b * b' * d) := by
      rw [Int.sub_mul, Int.sub_mul, Int.sub_mul]
      congr 1 <;> ac_rfl
    have e2 : (n * d' - n' * d) * (b * b' * (b * b')) = (n * b) * (b' * b * b' * d') - (n' * b') * (b * b * b' * d) := by
      rw [Int.sub_mul]
      congr 1 <;> ac_rfl
    rw [e1, e2, c1, c2]
theorem sgn_lt {t b t' b' : Int} (h : b ≠ 0) (h' : b' ≠ 0) : (t * b' - t' * b) * b * b' < 0 ↔ Rat.divInt t b < Rat.divInt t' b' := by
  obtain ⟨m, hm, m', hm', e⟩ := sgn (t := t) (t' := t') h h'
  rw [lt_num]
  generalize (t * b' - t' * b) * b * b' = s at *
  generalize (Rat.divInt t b).num * ((Rat.divInt t' b').den : Int) = x at *
  generalize (Rat.divInt t' b').num * ((Rat.divInt t b).den : Int) = y at *
  constructor
  · intro hs
    have : (x - y) * m' < 0 := by rw [← e]; exact Int.mul_neg_of_neg_of_pos hs hm
    have := Int.neg_of_mul_neg_left this (by omega)
    omega
  · intro hs
    have : s * m < 0 := by rw [e]; exact Int.mul_neg_of_neg_of_pos (by omega) hm'
    exact Int.neg_of_mul_neg_left this (by omega)
theorem rat_eq_num (q r : Rat) : q = r ↔ q.num * r.den = r.num * q.den := by
  constructor
  · rintro rfl; rfl
  · intro h
    refine Rat.le_antisymm ?_ ?_
    · rw [Rat.le_iff]; omega
    · rw [Rat.le_iff]; omega
theorem sgn_eq {t b t' b' : Int} (h : b ≠ 0) (h' : b' ≠ 0) : (t * b' - t' * b) * b * b' = 0 ↔ Rat.divInt t b = Rat.divInt t' b' := by
  obtain ⟨m, hm, m', hm', e⟩ := sgn (t := t) (t' := t') h h'
  rw [rat_eq_num]
  generalize (t * b' - t' * b) * b * b' = s at *
  generalize (Rat.divInt t b).num * ((Rat.divInt t' b').den : Int) = x at *
  generalize (Rat.divInt t' b').num * ((Rat.divInt t b).den : Int) = y at *
  constructor
  · intro hs
    subst hs
    rw [Int.zero_mul] at e
    rcases Int.mul_eq_zero.mp e.symm with h | h <;> omega
  · intro hs
    have : x - y = 0 := by omega
    rw [this, Int.zero_mul] at e
    rcases Int.mul_eq_zero.mp e with h | h <;> omega
/-- the sign s tells how q stands to r -/
structure Sgn (q r : Rat) (s : Int) : Prop where
  lt : s < 0 ↔ q < r
  eq : s = 0 ↔ q = r
theorem Sgn.of {t b t' b' : Int} (h : b ≠ 0) (h' : b' ≠ 0) : Sgn (Rat.divInt t b) (Rat.divInt t' b') ((t * b' - t' * b) * b * b') := ⟨sgn_lt h h', sgn_eq h h'⟩
theorem Sgn.gt {q r : Rat} {s : Int} (h : Sgn q r s) : s > 0 ↔ r < q := by
  constructor
  · intro hs
    have h1 : ¬ q < r := fun z => by have := h.lt.mpr z; omega
    have h2 : ¬ q = r := fun z => by have := h.eq.mpr z; omega
    rw [Rat.not_lt] at h1
    exact Rat.lt_iff_le_and_ne.mpr ⟨h1, fun e => h2 e.symm⟩
  · intro hs
    have h1 : ¬ s < 0 := fun z => Rat.not_lt.mpr (Rat.le_iff_lt_or_eq.mpr (.inl hs)) (h.lt.mp z)
    have h2 : ¬ s = 0 := fun z => by rw [h.eq.mp z] at hs; exact Rat.lt_irrefl hs
    omega
theorem Sgn.le {q r : Rat} {s : Int} (h : Sgn q r s) : s ≤ 0 ↔ q ≤ r := by
  rw [← Rat.not_lt, ← h.gt]; omega
theorem Sgn.ge {q r : Rat} {s : Int} (h : Sgn q r s) : s ≥ 0 ↔ r ≤ q := by
  rw [← Rat.not_lt, ← h.lt]; omega
theorem Sgn.swap {q r : Rat} {s : Int} (h : Sgn q r s) : Sgn r q (-s) := ⟨by rw [← h.gt]; omega, by rw [eq_comm (a := r), ← h.eq]; omega⟩
theorem ltI (q : Rat) (i : Int) : q.num < i * q.den ↔ q < (i : Rat) := by rw [lt_num]; simp
theorem leI (q : Rat) (i : Int) : q.num ≤ i * q.den ↔ q ≤ (i : Rat) := by rw [Rat.le_iff]; simp
theorem gtI (q : Rat) (i : Int) : q.num > i * q.den ↔ (i : Rat) < q := by rw [lt_num]; simp
theorem geI (q : Rat) (i : Int) : q.num ≥ i * q.den ↔ (i : Rat) ≤ q := by rw [Rat.le_iff]; simp
end AT
namespace AT
theorem neg_eq (q : Rat) : Rat.divInt (-q.num) q.den = -q := by
  conv => rhs; rw [qd q]
  exact (Rat.neg_divInt _ _).symm
theorem neg_div {t b : Int} : -(Rat.divInt t b) = Rat.divInt (-t) b := Rat.neg_divInt _ _
theorem dvC {t b t' b' : Int} : Rat.divInt t b * Rat.divInt t' b' = Rat.divInt (t * t') (b * b') := Rat.divInt_mul_divInt _ _
theorem pow_div {t b : Int} : ∀ n : Nat, (Rat.divInt t b) ^ n = Rat.divInt (t ^ n) (b ^ n)
  | 0 => by rw [Rat.pow_zero, Int.pow_zero, Int.pow_zero, divInt_one]; rfl
  | n + 1 => by rw [Rat.pow_succ, pow_div n, dvC, ← Int.pow_succ, ← Int.pow_succ]
theorem pow_ne {b : Int} (h : b ≠ 0) : ∀ n : Nat, b ^ n ≠ 0
  | 0 => by simp
  | n + 1 => by rw [Int.pow_succ]; exact Int.mul_ne_zero (pow_ne h n) h
theorem bn_pow {m : Nat} {t : Int} (h : Bn m t) : ∀ n : Nat, Bn (m * n + 1) (t ^ n)
  | 0 => by rw [Int.pow_zero, Nat.mul_zero]; decide
  | n + 1 => by
    rw [Int.pow_succ]
    exact ((bn_pow h n).mul h).mono (by rw [Nat.mul_succ]; omega)
theorem quo_eq {t b t' b' : Int} (h : b ≠ 0) (h' : b' ≠ 0) (n : t' ≠ 0) : Rat.divInt ((Rat.divInt t b).num * (Rat.divInt t' b').den) ((Rat.divInt t b).den * (Rat.divInt t' b').num) = Rat.divInt (t * b') (b * t') := by
  have c1 := cross (t := t) h
  have c2 := cross (t := t') h'
  have d1 := den_pos (Rat.divInt t b)
  have d2 := den_pos (Rat.divInt t' b')
  have n2 : (Rat.divInt t' b').num ≠ 0 := fun e => n ((rat_num0 h').mp e)
  generalize (Rat.divInt t b).num = x at *
  generalize ((Rat.divInt t b).den : Int) = d at *
  generalize (Rat.divInt t' b').num = x' at *
  generalize ((Rat.divInt t' b').den : Int) = d' at *
  rw [Rat.divInt_eq_divInt_iff (Int.mul_ne_zero (by omega) n2) (Int.mul_ne_zero h n)]
  have e1 : x * d' * (b * t') = (x * b) * (t' * d') := by ac_rfl
  have e2 : t * b' * (d * x') = (t * d) * (x' * b') := by ac_rfl
  rw [e1, e2, c1, c2]
theorem abs_div {t b : Int} (h : b ≠ 0) {s : Int} (hs : if t * b < 0 then s = -1 else s = 1) : Rat.divInt ((Rat.divInt t b).num.natAbs : Int) (Rat.divInt t b).den = Rat.divInt (s * t) b := by
  have c := cross (t := t) h
  have d := den_pos (Rat.divInt t b)
  have q := qd (Rat.divInt t b)
  have bb : 0 < b * b := by
    rcases Int.lt_or_gt_of_ne h with z | z
    · exact Int.mul_pos_of_neg_of_neg z z
    · exact Int.mul_pos z z
  have key : (Rat.divInt t b).num * (b * b) = (t * b) * (Rat.divInt t b).den := by
    rw [← Int.mul_assoc, c]; ac_rfl
  by_cases z : t * b < 0
  · rw [if_pos z] at hs
    subst hs
    have hn : (Rat.divInt t b).num < 0 := by
      have : (Rat.divInt t b).num * (b * b) < 0 := by rw [key]; exact Int.mul_neg_of_neg_of_pos z d
      exact Int.neg_of_mul_neg_left this (by omega)
    have e : ((Rat.divInt t b).num.natAbs : Int) = -(Rat.divInt t b).num := by omega
    rw [e, neg_eq, neg_div, Int.neg_mul, Int.one_mul]
  · rw [if_neg z] at hs
    subst hs
    have hn : 0 ≤ (Rat.divInt t b).num := by
      have : 0 ≤ (Rat.divInt t b).num * (b * b) := by rw [key]; exact Int.mul_nonneg (by omega) (by omega)
      rcases (by omega : (Rat.divInt t b).num < 0 ∨ 0 ≤ (Rat.divInt t b).num) with w | w
      · have := Int.mul_neg_of_neg_of_pos w bb
        omega
      · exact w
    have e : ((Rat.divInt t b).num.natAbs : Int) = (Rat.divInt t b).num := by omega
    rw [e, ← q, Int.one_mul]
end AT

end

section
/-! Operators of an own class in a try; two readings of one operator. -/
namespace AT
open PySem PySem.Spec PyProof.Rows L2
/-- an operation at slots that are told -/
def OpRA (X : Cx) (σ : L2.St) (f : Value → Value → Sem Value) (r : R2) : Prop :=
  ∀ (pins : List (Addr × Obj)) (s : Shared) (H : Hp) (x y : V) (v u : Value) (Q : VK), Inv X pins σ H s → RelV x v → RelV y u → r x y H Q →
    wpAny (model X.prog X.w) X.A (f v u) (EP X pins σ Q) X.xe s
def tOpS (r : L2.St → R2) (ta tb : TE) : TE := fun σ H Q => ta σ H fun x H1 => tb σ H1 fun y H2 => r σ x y H2 Q
def rOr2 (r r' : R2) : R2 := fun x y H Q => r x y H Q ∨ r' x y H Q
section
variable {X : Cx} {CX : CXT} {C l r : Addr} {fd fd' : FuncData} {ps ps' : List Str} {n : Nat} {sp sp' : Sp} {E E' : XK} {op : Operator} {σ : L2.St} {f : Value → Value → Sem Value} {a b : Expr} {ta tb : TE} {pos : Pos} {W : WX}
theorem pe_opS {r : L2.St → R2} (ho : ∀ σ, OpRA X σ (binaryOp op) (r σ)) (ha : PE X a ta) (hb : PE X b tb) : PE X (.BinOp a op b pos) (tOpS r ta tb) := by
  refine ⟨fun pins s σ H Q I h => ?_⟩
  exact wpAny_BinOp (binT ha hb I h fun v u s2 x y H2 I2 rx ry q => ho σ pins s2 H2 x y v u Q I2 rx ry q)
theorem w_opS {r : L2.St → R2} {H : Hp} {Q : VK} (h : ta σ H fun x H1 => tb σ H1 fun y H2 => r σ x y H2 Q) : tOpS r ta tb σ H Q := h
theorem OpRA.or {r r' : R2} (h : OpRA X σ f r) (h' : OpRA X σ f r') : OpRA X σ f (rOr2 r r') := fun pins s H x y v u Q I rx ry q => q.elim (h pins s H x y v u Q I rx ry) (h' pins s H x y v u Q I rx ry)
theorem OpR.or {r r' : R2} (h : OpR X f r) (h' : OpR X f r') : OpR X f (rOr2 r r') := fun pins s σ H x y v u Q I rx ry q => q.elim (h pins s σ H x y v u Q I rx ry) (h' pins s σ H x y v u Q I rx ry)
theorem run_twoA {g : Addr} {pins : List (Addr × Obj)} {H : Hp} {s : Shared} {Q : VK} {x y : V} {u v : Value} (F : FnOk X.prog X.w X.K X.mg X.base CX n g fd ps sp) (hr : Room n X.A) (hb : Binds X.K fd ps []) (hx : PassesAt CX X σ E) (I : Inv X pins σ H s)
    (rx : RelV x u) (ry : RelV y v) (h : sp [x, y] H Q E) : wpAny (model X.prog X.w) X.A (call (.ref g) [u, v]) (PySem.W.CmpBack (EP X pins σ Q)) X.xe s := by
  have z : wpAny (model X.prog X.w) X.A (call (.ref g) [u, v]) (EP X pins σ Q) X.xe s := run_fnS (E := fun _ => E) (us := [u, v]) (vs := [x, y]) F hr hb hx I (.cons rx (.cons ry .nil)) h
  refine thn z fun w s' q => ?_
  obtain ⟨z', H', I', rz, qz⟩ := q
  exact SlX.cmpback rz ⟨z', H', I', rz, qz⟩
theorem opA_ins (o : OwnC X.K C) (i : IntOp X.K C op l r) (F : FnOk X.prog X.w X.K X.mg X.base CX n l fd ps sp) (hr : Room n X.A) (hb : Binds X.K fd ps []) (hx : PassesAt CX X σ E) : OpRA X σ (binaryOp op) (rIns C sp E) := by
  intro pins s H x y v u Q I rx ry h
  obtain ⟨a, dx, fs, rfl, ha, hy, q⟩ := h
  obtain ⟨rc, e1, e2⟩ := i.rc
  obtain ⟨fo, h1⟩ := i.h1
  obtain ⟨ro, h2⟩ := i.h2
  cases (show v = Value.ref a from rx)
  obtain ⟨od, J⟩ := inst_at I ha
  rcases hy with ⟨j, rfl⟩ | ⟨b, dy, gs, rfl, hb'⟩
  · obtain ⟨t, rfl⟩ := (show ∃ t, u = Value.int j t from ry)
    obtain ⟨mm, hF⟩ := I.fr
    exact PySem.W.ksp_binT hF I.ok.mod.kin J rfl o.first i.ml.at_ i.ml.fn e1 e2 h1 h2 i.hs (run_twoA F hr hb hx I rel_ref rel_int q)
  · cases (show u = Value.ref b from ry)
    obtain ⟨od', J'⟩ := inst_at I hb'
    exact bin_same I.kIn J J' o.first i.ml.at_ i.ml.fn (run_twoA F hr hb hx I rel_ref rel_ref q)
theorem opA_intIns {lo : Addr} (d : IntDeclines op) (o : OwnC X.K C) (hl : PySem.W.findIn X.K (.ref C) (PySem.dunder op.info.2) = some (some (.ref lo))) (m : OwnM X.K C l (dunderR op.info.2))
    (F : FnOk X.prog X.w X.K X.mg X.base CX n l fd ps sp) (hr : Room n X.A) (hb : Binds X.K fd ps []) (hx : PassesAt CX X σ E) : OpRA X σ (binaryOp op) (rIntIns C sp E) := by
  intro pins s H x y v u Q I rx ry h
  obtain ⟨i, b, dy, gs, rfl, rfl, hb', q⟩ := h
  obtain ⟨t, rfl⟩ := (show ∃ t, v = Value.int i t from rx)
  cases (show u = Value.ref b from ry)
  obtain ⟨od, J⟩ := inst_at I hb'
  obtain ⟨hfi, id, B, slot, entry, dd⟩ := d
  exact bin_refl I.kIn J o.first hl m.at_ m.fn o.notInt hfi slot entry (dd i t b).1 (dd i t b).2 (run_twoA F hr hb hx I rel_ref rel_int q)
theorem passX (tk : Takes X (fun cls d _ H => E cls d H)) : Passes (L2.CX X.prog X.w) X E := L2.passes_call tk fun _ _ _ _ h => h
theorem exm_ZDE {K : PySem.W.Frag} : PySem.W.exmOne K (.type "ZeroDivisionError") (.type "ZeroDivisionError") = some true := by kernel_rfl
/-- // that may be by zero, named -/
def rFdX (W : XK) : R2 := fun x y H Q => ∃ i j, x = .int i ∧ y = .int j ∧ ((j ≠ 0 ∧ j.natAbs.log2 < 9000 ∧ Q (.int (i.fdiv j)) H) ∨ (j = 0 ∧ ∀ d, W (.type "ZeroDivisionError") d H))
theorem op_fdX {W : XK} (hc : X.calm = true) (tk : Takes X (fun cls d _ H => W cls d H)) : OpR X (binaryOp .FloorDiv) (rFdX W) := op_fdivX hc tk
theorem w_fdX {W : XK} {H : Hp} {Q : VK} {i j : Int} (h0 : j = 0 → ∀ d, W (.type "ZeroDivisionError") d H) (hl : Bn 8900 j) (h : j ≠ 0 → Q (.int (i.fdiv j)) H) : rFdX W (.int i) (.int j) H Q := by
  by_cases e : j = 0
  · exact ⟨i, j, rfl, rfl, .inr ⟨e, h0 e⟩⟩
  · exact ⟨i, j, rfl, rfl, .inl ⟨e, hl.log' (by decide), h e⟩⟩
/-- isinstance(x, (c1, ..)) -/
theorem w_isiT {K : PySem.W.Frag} {x : V} {tp : Addr} {cs : List V} {t : Value} {us : List Value} {b : Bool} {H : Hp} {Q : VK} (u : H tp = some (.tup cs)) (k : Paired ClsV cs us) (ty : TyX K H x t) (e : PySem.W.kitAny K t us = some b) (h : Q (.bl b) H) : rIsiT K [x, .ref tp] H Q := ⟨x, tp, cs, t, us, b, rfl, u, k, ty, e, h⟩
theorem kitAny_hit {K : PySem.W.Frag} {t c : Value} {r : List Value} (h : PySem.W.kitOne K t c = some true) : PySem.W.kitAny K t (c :: r) = some true := by
  unfold PySem.W.kitAny
  rw [h]
theorem kitAny_miss {K : PySem.W.Frag} {t c : Value} {r : List Value} {b : Bool} (h : PySem.W.kitOne K t c = some false) (h' : PySem.W.kitAny K t r = some b) : PySem.W.kitAny K t (c :: r) = some b := by
  conv => lhs; unfold PySem.W.kitAny
  rw [h]
  exact h'
end
/-- a list comprehension -/
theorem w_lc {wi : TI} {g : TG} {tt : TT} {te : TE} {vs : List Nat} {σ : L2.St} {H : Hp} {Q : VK} (h : wi σ H fun J H1 => ∀ D, H1 D = none → ∃ W : Nat → Nat → Hp → Prop, (∃ m, W 0 m (upd H1 D (.lst []))) ∧ ∀ i m H, W i m H →
  (J.stop i H ∧ Q (.ref D) H) ∨ (J.go i H ∧ ∃ Nx : Hp → Prop, (∀ H', Nx H' → ∃ m', m' < m ∧ W (i + 1) m' H') ∧ ∀ x H', J.yld i H x H' → g x (L2.wipe σ vs) H' fun σ2 H2 => L2.wipe σ2 vs = L2.wipe σ vs ∧ tt σ2 H2 fun b H3 =>
    if b = true then te σ2 H3 fun y H4 => ∃ acc, H4 D = some (.lst acc) ∧ acc.length < sizeLine ∧ Nx (upd H4 D (.lst (acc ++ [y]))) else Nx H3)) : tLc wi g tt te vs σ H Q := h
/-- str(i) -/
def rStrI : List V → Hp → VK → Prop := fun xs H Q => ∃ i, xs = [.int i] ∧ i.natAbs.log2 < 1920 ∧ Q (.str (toString i)) H
theorem call_strR {X : Cx} : CallR X (.type "str") rStrI := call_str_int
theorem w_strI {i : Int} {H : Hp} {Q : VK} (b : Bn 1900 i) (k : Q (.str (toString i)) H) : rStrI [.int i] H Q := ⟨i, rfl, b.log' (by decide), k⟩
end AT

end

section
/-! abs, bool of an own class; methods in a try. -/
namespace AT
open PySem PySem.Spec PyProof.Rows L2
/-- abs(x) by x's own method, bool(x) likewise -/
def rOwn1 (C : Addr) (sp : Sp) (E : XK) : List V → Hp → VK → Prop := fun xs H Q => ∃ a dx fs, xs = [.ref a] ∧ H a = some (.ins C dx fs) ∧ sp [.ref a] H Q E
def rOwnB (C : Addr) (sp : Sp) (E : XK) : List V → Hp → VK → Prop := fun xs H Q => ∃ a dx fs, xs = [.ref a] ∧ H a = some (.ins C dx fs) ∧ sp [.ref a] H (fun z H' => ∃ k, z = .bl k ∧ Q (.bl k) H') E
section
variable {X : Cx} {CX : CXT} {C g : Addr} {fd : FuncData} {ps : List Str} {n : Nat} {sp : Sp} {E : XK}
theorem run_deep1 {A : Around} {pins : List (Addr × Obj)} {σ : L2.St} {H : Hp} {s : Shared} {Q : VK} {x : V} {u : Value} (F : FnOk X.prog X.w X.K X.mg X.base CX n g fd ps sp) (hr : Room n A) (e0 : Env0 X.prog X.w X.K X.mg X.base A X.stack s H) (hb : Binds X.K fd ps []) (hx : Passes CX X E)
    (I : Inv X pins σ H s) (rx : RelV x u) (h : sp [x] H Q E) : wpAny (model X.prog X.w) A (call (.ref g) [u]) (EP X pins σ Q) X.xe s := by
  have r2 : Vals [x] [u] := .cons rx .nil
  have hl : [u].length = ps.length := by rw [← r2.length]; exact F.len _ _ _ _ h
  refine wpAny_call (codeAny_mono (F.run A X.stack s H ⟨[u], []⟩ [u] [x] Q E hr e0 (by have := hb s [u] I.kIn (by simpa using hl); simpa using this) r2 h) fun r s' hq => ?_)
  cases r with
  | error e => exact hx pins σ H s e s' I hq
  | ok fl => cases fl with
    | ret w => exact I.after hq
    | next => exact (show False from hq).elim
    | brk => exact (show False from hq).elim
    | cont => exact (show False from hq).elim
theorem call_absOwn (m : OwnM X.K C g "__abs__") (F : FnOk X.prog X.w X.K X.mg X.base CX n g fd ps sp) (hr : Room (n + 1) X.A) (hb : Binds X.K fd ps []) (hx : Passes CX X E) : CallR X (.builtin "abs") (rOwn1 C sp E) := by
  intro pins s σ H xs us Q I r h
  obtain ⟨a, dx, fs, rfl, ha, q⟩ := h
  obtain ⟨u, rfl, r1⟩ := vals1 r
  cases (show u = Value.ref a from r1)
  obtain ⟨od, J⟩ := inst_at I ha
  refine PySem.Calls.call_function_entry kind_abs plain_abs entry_abs (args_abs _) ?_
  unfold Builtin.«abs»
  refine wpAny_bind (m := oneArg "abs" _) (wpAny_pure ?_)
  refine wpAny_bind (m := callSpecial? (.ref a) (Str.ofString "__abs__")) (PySem.W.special_fn I.kIn J m.at_ (beq_iff_eq.mp m.fn) (thn (run_deep1 F hr.in1 I.env0.in1 hb hx I rel_ref q) fun w s' z => ?_))
  exact wpAny_pure ⟨w, rfl, z⟩
theorem tru_own {A : Around} {pins : List (Addr × Obj)} {σ : L2.St} {H : Hp} {s : Shared} {Q : Bool → Hp → Prop} {a dx : Addr} {fs : List (Str × V)} (m : OwnM X.K C g "__bool__") (F : FnOk X.prog X.w X.K X.mg X.base CX n g fd ps sp) (hr : Room n A) (e0 : Env0 X.prog X.w X.K X.mg X.base A X.stack s H) (hb : Binds X.K fd ps []) (hx : Passes CX X E)
    (I : Inv X pins σ H s) (ha : H a = some (.ins C dx fs)) (h : sp [.ref a] H (fun z H' => ∃ k, z = .bl k ∧ Q k H') E) : wpAny (model X.prog X.w) A (truthy (.ref a)) (TP X pins σ Q) X.xe s := by
  obtain ⟨od, J⟩ := inst_at I ha
  unfold truthy
  have main : ∀ {Q' : Option Value → Shared → Prop}, (∀ (k : Bool) s', TP X pins σ Q k s' → Q' (some (.bool k)) s') → wpAny (model X.prog X.w) A (callSpecial? (.ref a) (Str.ofString "__bool__")) Q' X.xe s := fun {Q'} hq =>
    PySem.W.special_fn I.kIn J m.at_ (beq_iff_eq.mp m.fn) (thn (run_deep1 F hr e0 hb hx I rel_ref h) fun w s' z => by
      obtain ⟨z', H', I', rz, k, rfl, qz⟩ := z
      cases (show w = Value.bool k from rz)
      exact hq k s' ⟨H', I', qz⟩)
  first
    | refine wpAny_bind (main fun k s' z => ?_)
    | refine wpAny_bind (wpAny_pure (wpAny_bind (main fun k s' z => ?_)))
  exact wpAny_pure z
theorem call_boolOwn (m : OwnM X.K C g "__bool__") (F : FnOk X.prog X.w X.K X.mg X.base CX n g fd ps sp) (hr : Room (n + 2) X.A) (hb : Binds X.K fd ps []) (hx : Passes CX X E) : CallR X (.type "bool") (rOwnB C sp E) := by
  intro pins s σ H xs us Q I r h
  obtain ⟨a, dx, fs, rfl, ha, q⟩ := h
  obtain ⟨u, rfl, r1⟩ := vals1 r
  cases (show u = Value.ref a from r1)
  refine callType_newIn (S := fun A R s => wpAny (model X.prog X.w) A.in1 (truthy (.ref a)) (fun b s' => R (.ok (.ret (.bool b))) s') (fun e s' => R (.error e) s') s) PySem.F.called_bool PySem.F.newNe_bool (PySem.F.typeCall_bool_1 _) (PySem.F.newCall_bool_1 _) (fun obj => PySem.F.args_object_init_2 obj _) PySem.F.entry_bool_new
    (MeetsIn.of_wp fun A R s hs => ?_) ?_
  · obtain ⟨hp, g, d, tk, os⟩ := s
    have f1 := PySem.F.conv_sub_bool
    repeat (any_goals (first | assumption | with_reducible refine wpAny_mono hs (fun b s' z => ?_) (fun _ _ z => z) | wp_step))
    all_goals exact ⟨_, rfl, z⟩
  · show wpAny _ _ _ _ _ _
    refine wpAny_mono (tru_own (Q := fun k H' => Q (.bl k) H') m F hr.in1.in1 I.env0.in1.in1 hb hx I ha q) (fun b s' z => ?_) (fun _ _ z => z)
    obtain ⟨H', I', qz⟩ := z
    exact ⟨rfl, .bl b, H', I', rfl, qz⟩
/-- o.m(e, ..) in a try -/
def tMethS (C : Addr) (m : Str) (sp : Sp) (dvs : List V) (E : L2.St → XK) (ta : TE) (t : TA) : TE := fun σ H Q => ta σ H fun x H1 => ∃ a dx fs, x = .ref a ∧ H1 a = some (.ins C dx fs) ∧ fs.lookup m = none ∧ t σ H1 fun vs H2 => sp (.ref a :: (vs ++ dvs)) H2 Q (E σ)
theorem pe_methA {f : Addr} {m : Str} {o e : Expr} {es : List Expr} {E : L2.St → XK} {ta : TE} {t : TA} {apos pos : Pos} {pl : Sem Bool} (he : PE X o ta) (c : Cls X.K C) (hm : Meth X.K C m f) (F : FnOk X.prog X.w X.K X.mg X.base CX n f fd ps sp) (hr : Room n X.A) (hb : Binds X.K fd ps []) (hx : ∀ σ, PassesAt CX X σ (E σ)) (ha : PA X (e :: es) t)
    (hst : starEach (e :: es) X.env = (false, eval e X.env) :: starEach es X.env := by rfl) (hpl : (backTo pos (starEach es X.env)).any (·.1) = false := by rfl)
    (ht : eval (.Call (.Attribute o m apos) (e :: es) [] pos) X.env = (do
      let ov ← eval o X.env
      standAt apos.atName
      let (f, first) ← holding [ov] (getMethod ov m pl)
      callWith pos f first (backTo pos (starEach (e :: es) X.env)) (backToKw pos (keywordEach [] X.env))) := by rfl) :
    PE X (.Call (.Attribute o m apos) (e :: es) [] pos) (tMethS C m sp [] E ta t) := by
  refine ⟨fun pins s σ H Q I h => ?_⟩
  refine PySem.W.methodCall_KW (pl := pl) (thn (he.run pins s σ H _ I h) fun u s1 ⟨x, H1, I1, rx, a, dx, fs, ex, ea, l, q⟩ => ?_) ht
  subst ex
  obtain rfl : u = Value.ref a := rx
  refine getmeth_ok I1 ea c hm l ?_
  refine PySem.W.callWith_K (first := [.ref a]) (h₀ := X.base) I.ok.mod.kin hm.kp (thn (ha.run pos pins s1 σ H1 _ I1 q) fun us s2 ⟨vs, H2, I2, r, q2⟩ => ⟨I2.kIn, ?_⟩) hst hpl
  exact run_fnS (us := .ref a :: us) (vs := .ref a :: vs) F hr hb (hx σ) I2 (.cons rfl r) (by simpa using q2)
theorem w_methS {m : Str} {E : L2.St → XK} {ta : TE} {t : TA} {dvs : List V} {σ : L2.St} {H : Hp} {Q : VK} (h : ta σ H fun x H1 => ∃ a dx fs, x = .ref a ∧ H1 a = some (.ins C dx fs) ∧ fs.lookup m = none ∧ t σ H1 fun vs H2 => sp (.ref a :: (vs ++ dvs)) H2 Q (E σ)) : tMethS C m sp dvs E ta t σ H Q := h
/-- -x, named -/
theorem w_gtup {K : PySem.W.Frag} {k : Nat} {t : TGs} {p : Addr} {xs : List V} {σ : L2.St} {H : Hp} {Q : L2.St → Hp → Prop} (u : SqT K H p xs) (e : xs.length = k) (h : t xs σ H Q) : gTup K k t (.ref p) σ H Q := ⟨p, xs, rfl, u, e, h⟩
end
end AT

end

section
/-! Own exceptions as values: making one, reading its attributes, asking its kind. -/
namespace AT
open PySem PySem.Spec PyProof.Rows L2
/-- C(e, ..), an own exception with its own __init__ -/
def rMkV (C : Addr) (sp : Sp) : List V → Hp → VK → Prop := fun vs H1 Q => vs.length ≤ 1000 ∧ ∀ a, H1 a = none → sp (.ref a :: vs) (upd H1 a (exo a C none)) (fun v H2 => v = .non ∧ Q (.ref a) H2) (fun _ _ _ => False)
def tMkV (C : Addr) (sp : Sp) (t : TA) : TE := fun σ H Q => t σ H fun vs H1 => rMkV C sp vs H1 Q
/-- C(), an own exception without -/
def rMkV0 (C : Addr) : Hp → VK → Prop := fun H Q => ∀ a, H a = none → Q (.ref a) (upd H a (exo a C none))
def tMkV0 (C : Addr) : TE := fun _ H Q => rMkV0 C H Q
/-- e.f -/
def rXv (C : Addr) (f : Str) : V → Hp → VK → Prop := fun x H Q => ∃ (a d : Addr) (fs : List (Str × V)) (v : V), x = .ref a ∧ H a = some (exo a C (some d)) ∧ H d = some (exd d fs) ∧ fs.lookup f = some v ∧ Q v H
def tXv (C : Addr) (f : Str) (te : TE) : TE := fun σ H Q => te σ H fun x H1 => rXv C f x H1 Q
/-- isinstance(e, c) -/
def rIsX (K : PySem.W.Frag) : List V → Hp → VK → Prop := fun xs H Q => ∃ (a C : Addr) (c : V) (u : Value) (b : Bool), xs = [.ref a, c] ∧ (H a = some (exo a C none) ∨ ∃ d fs, H a = some (exo a C (some d)) ∧ H d = some (exd d fs)) ∧ ExcC K C ∧ ClsV c u ∧ PySem.W.kitOne K (.ref C) u = some b ∧ Q (.bl b) H
section
variable {X : Cx} {e : Expr} {es : List Expr} {te : TE} {ta : TA} {p pos : Pos}
theorem pe_exV {CX : CXT} {x : Str} {C fI : Addr} {k : Nat} {fd : FuncData} {ps : List Str} {sp : Sp} (T : OexC X.K C) (iC : PySem.W.findIn X.K (.ref C) "__init__" = some (some (.ref fI))) (tI : PySem.W.typeIn X.K (.ref fI) = some (.type "function"))
    (F1 : FnOk X.prog X.w X.K X.mg X.base CX k fI fd ps sp) (hr : Room (k + 1) X.A) (hb : Binds X.K fd ps []) (hx : Passes CX X (fun _ _ _ => False)) (hg : Gl X x) (hm : X.mg x = some (.ref C)) (ha : PA X (e :: es) ta)
    (hdb : (x == ("__debug__" : Str)) = false := by decide) (he : starEach (e :: es) X.env = (false, eval e X.env) :: starEach es X.env := by rfl) (hpl : (backTo pos (starEach es X.env)).any (·.1) = false := by rfl) :
    PE X (.Call (.Name x p) (e :: es) [] pos) (tMkV C sp ta) := by
  refine ⟨fun pins s σ H Q I h => ?_⟩
  obtain ⟨nm, q, N, bs, bm, sn, sub, ab, col, dd, k0, k1, k2, k3, k5, hC, hbm⟩ := T.cls
  refine wpAny_Call_Name_kw (ld_glob I hg hm ?_ hdb)
  refine PySem.W.callWith_K (h₀ := X.base) I.ok.mod.kin T.kC (thn (ha.run pos pins s σ H _ I h) fun us s1 ⟨vs, H1, I1, r1, hz, q1⟩ => ⟨I1.kIn, ?_⟩) he hpl
  show wpAny _ _ (call (.ref C) us) _ _ _
  obtain ⟨hp, g, dr, tk, os⟩ := s1
  have hsz : hp.objs.size ≤ hp.objs.size + 1 := Nat.le_succ _
  have hn : H1 (hp.objs.size + 1) = none := I1.hok.fresh hsz
  have hq := q1 (hp.objs.size + 1) hn
  have kk : ∀ b o, hp.get? b = some o → ((hp.push (PySem.W.kdv_tup us)).push (PySem.HandSPX.excO C hp.objs.size)).get? b = some o := fun b o e => Heap.get?_push_of_some _ (Heap.get?_push_of_some _ e)
  have hget : ((hp.push (PySem.W.kdv_tup us)).push (PySem.HandSPX.excO C hp.objs.size)).get? (hp.objs.size + 1) = some (PySem.HandSPX.excO C hp.objs.size) := by heap_get
  have I2 : Inv X pins σ (upd H1 (hp.objs.size + 1) (exo (hp.objs.size + 1) C none)) ⟨(hp.push (PySem.W.kdv_tup us)).push (PySem.HandSPX.excO C hp.objs.size), g, dr, tk, os⟩ :=
    I1.laid (t' := tk) (a := hp.objs.size + 1) (o := exo (hp.objs.size + 1) C none) (h' := (hp.push (PySem.W.kdv_tup us)).push (PySem.HandSPX.excO C hp.objs.size)) kk hsz (exo_ok hget)
  have r2 : Vals (V.ref (hp.objs.size + 1) :: vs) (Value.ref (hp.objs.size + 1) :: us) := .cons rfl r1
  have hl : (Value.ref (hp.objs.size + 1) :: us).length = ps.length := by
    have e := r2.length
    rw [F1.len _ _ _ _ hq] at e
    exact e.symm
  have hus : us.length ≤ sizeLine := by
    rw [← Paired.length r1, sizeLine_eq]
    omega
  refine wpAny_call (PySem.HandSPX.call_own PySem.F.excBase_ValueError (fun Y => PySem.HandSPX.refsVE_contains Y bm hbm) (I1.kIn _ _ hC) (PySem.W.looks_findIn I1.kIn iC) (fun self => PySem.W.bind_fn I1.kIn self tI) hus
    (codeAny_mono (F1.run _ X.stack _ _ ⟨Value.ref (hp.objs.size + 1) :: us, []⟩ (Value.ref (hp.objs.size + 1) :: us) _ _ (fun _ _ _ => False) (hr.make C us []) (I2.env0.make C us []) (by have := hb _ (Value.ref (hp.objs.size + 1) :: us) I2.kIn (by simpa using hl); simpa using this) r2 hq) fun r s' hq' => ?_))
  cases r with
  | error er => exact hx pins σ _ _ er s' I2 hq'
  | ok fl =>
    cases fl with
    | ret u =>
      obtain ⟨v, H2, I3, rv, ev, q2⟩ := I2.after hq'
      subst ev
      exact ⟨rv, V.ref (hp.objs.size + 1), H2, I3, rfl, q2⟩
    | next => exact False.elim hq'
    | brk => exact False.elim hq'
    | cont => exact False.elim hq'
theorem pe_exV0 {C : Addr} {bmB : List Value} {B newId initId : String} {x : Str} (F : ExcBaseFacts B newId initId bmB) (q : PySem.W.excIn X.K C bmB newId = true) (kC : PySem.W.keepIn X.K (.ref C) = true) (hg : Gl X x) (gC : X.mg x = some (.ref C))
    (hdb : (x == ("__debug__" : Str)) = false := by decide) : PE X (.Call (.Name x p) [] [] pos) (tMkV0 C) := by
  refine ⟨fun pins s σ H Q I h => ?_⟩
  refine wpAny_Call_Name_kw (ld_glob I hg gC ?_ hdb)
  refine PySem.W.callWith_K0 I.kIn kC ?_
  obtain ⟨bm, N, nm, qn, bs, hdct, sn, sub, ab, col, dd, k0, k1, k2, k3, k5, mN, hC, hN, hni, T⟩ := exc_obj I.kIn q
  obtain ⟨hp, g, dr, tk, os⟩ := s
  refine wpAny_call_exc_subT F T hC hN hni (fun h' e hm => ?_) (by show 0 ≤ sizeLine; omega)
  obtain ⟨t, he, _, _⟩ := hm.there
  exact ⟨.ref e, _, I.laidN (t' := tk) hm.keeps hm.new (I.hok.gone hm.new) (exo_ok he), rfl, h e (I.hok.gone hm.new)⟩
theorem pe_xv {C : Addr} {n : Str} (T : XfC X.K C) (hno : PySem.W.findIn X.K (.ref C) n = some none) (he : PE X e te) (hb : attributeBase e n X.env (eval e X.env) = eval e X.env := by rfl) : PE X (.Attribute e n pos) (tXv C n te) := by
  refine ⟨fun pins s σ H Q I h => ?_⟩
  refine attr_of hb (thn (he.run pins s σ H _ I h) fun u s1 hh => ?_)
  obtain ⟨x, H1, I1, rx, a, dd, fs, v, ex, ea, ed, l, q⟩ := hh
  subst ex
  obtain rfl : u = Value.ref a := rx
  obtain ⟨t1, ha⟩ := exo_at I1.hok ea
  obtain ⟨mA, hns, hr⟩ := exd_at I1.hok ed
  obtain ⟨od, ho, hl⟩ := lookIn_ns hns
  obtain ⟨u, hu, ru⟩ := RelO.some_of (v := v) (o := mA n) (by rw [← l]; exact hr n)
  have J : PySem.W.InstAt s1.heap a _ C (some od) := ⟨ha, rfl, rfl, ho⟩
  exact HandSPX.exc_get I1.kIn J T.ga T.gg T.exC (PySem.W.findObj_own T.hdC hno rfl (by rw [hl, hu])) (handed_of ru) ⟨v, H1, I1.tok _, ru, q⟩
theorem call_isX : CallR X (.builtin "isinstance") (rIsX X.K) := by
  intro pins s σ H xs us Q I r h
  obtain ⟨a, C, c, u, b, rfl, hx, T, k, ek, q⟩ := h
  obtain ⟨u1, u2, rfl, r1, r2⟩ := vals2 r
  cases (show u1 = Value.ref a from r1)
  have e2 := k.eq r2
  subst e2
  rcases hx with ha | ⟨d, fs, ha, hd⟩
  · obtain ⟨t1, hg⟩ := exo_at I.hok ha
    have J : PySem.W.InstAt s.heap a _ C none := ⟨hg, rfl, rfl, True.intro⟩
    exact PySem.W.kia_one (PySem.W.handS_kitx_exc T.hg T.hk T.hs T.hd T.ha T.hn T.ht T.hm) I.kIn J ek (fun z => nomatch z) fun tk => ⟨.bl b, H, I.tok tk, rfl, q⟩
  · obtain ⟨t1, hg⟩ := exo_at I.hok ha
    obtain ⟨mA, hns, _⟩ := exd_at I.hok hd
    obtain ⟨od, ho, _⟩ := lookIn_ns hns
    have J : PySem.W.InstAt s.heap a _ C (some od) := ⟨hg, rfl, rfl, ho⟩
    obtain ⟨cd, hc, _⟩ := PySem.W.any_some T.hd
    exact PySem.W.kia_one (PySem.W.kitx_exc (Option.isSome_iff_exists.mpr ⟨cd, hc⟩) T.hg T.hk T.hs T.ha T.hn T.ht T.hm) I.kIn J ek (fun z => nomatch z) fun tk => ⟨.bl b, H, I.tok tk, rfl, q⟩
end
/-- the kinds of an own error -/
def mroE (C A : Addr) : List Value := [.ref C, .ref A, .type "ValueError", .type "Exception", .type "BaseException", .type "object"]
structure ErrO (K : PySem.W.Frag) (A C : Addr) : Prop where
  mro : ∃ cd, PySem.W.clsIn K C = some cd ∧ cd.mro = mroE C A
  hg : PySem.W.findIn K (.ref C) "__getattribute__" = some (some (.builtin "BaseException.__getattribute__"))
  hk : PySem.W.findIn K (.ref C) "__getattr__" = some none
  hd : PySem.W.hasDictIn K C = true
  ha : PySem.W.findIn K (.ref C) "__class__" = some (some (.builtin "object.__class__"))
  hn : PySem.W.specialIn K (.builtin "object.__class__") "__get__" = some (some (.builtin "getset_descriptor.__get__"))
  ht : PySem.W.takesIn K (.builtin "object.__class__") = some true
  ty : PySem.W.typeIn K (.ref C) = some (.type "type")
theorem ErrO.sub {K : PySem.W.Frag} {A C : Addr} (o : ErrO K A C) (c : Value) : PySem.W.subIn K (.ref C) c = some ((mroE C A).contains c) := by
  obtain ⟨cd, h1, h2⟩ := o.mro
  show PySem.W.mroIn K C c = _
  unfold PySem.W.mroIn
  rw [h1]
  show (if cd.mro.isEmpty then none else some (cd.mro.contains c)) = _
  rw [h2]
  rfl
theorem ErrO.isC {K : PySem.W.Frag} {A C : Addr} (o : ErrO K A C) : PySem.W.isClsIn K C = true := by
  obtain ⟨cd, h1, h2⟩ := o.mro
  show (PySem.W.clsIn K C).isSome = true
  rw [h1]
  rfl
theorem ErrO.exc {K : PySem.W.Frag} {A C : Addr} (o : ErrO K A C) : ExcC K C := ⟨o.hg, o.hk, by rw [o.sub]; simp [mroE], o.hd, o.ha, o.hn, o.ht, (o.sub (.type "object")).trans (by simp [mroE])⟩
theorem ErrO.kit {K : PySem.W.Frag} {A C D : Addr} (o : ErrO K A C) (od : ErrO K A D) (h : D ≠ A) : PySem.W.kitOne K (.ref C) (.ref D) = some (decide (C = D)) := by
  by_cases e : C = D
  · subst e
    rw [kit_self, decide_eq_true rfl]
  · have hne : (Value.ref C == Value.ref D) = false := Bool.eq_false_iff.mpr fun q => by cases beq_iff_eq.mp q; exact e rfl
    rw [kit_own od.isC od.ty (o.sub _) hne, decide_eq_false e]
    have h' : ¬ D = C := fun z => e z.symm
    simp [mroE, h, h']
theorem ErrO.kitA {K : PySem.W.Frag} {A C : Addr} (o : ErrO K A C) (i : PySem.W.isClsIn K A = true) (t : PySem.W.typeIn K (.ref A) = some (.type "type")) (h : C ≠ A) : PySem.W.kitOne K (.ref C) (.ref A) = some true := by
  have hne : (Value.ref C == Value.ref A) = false := Bool.eq_false_iff.mpr fun q => by cases beq_iff_eq.mp q; exact h rfl
  rw [kit_own i t (o.sub _) hne]
  simp [mroE]
theorem ErrO.kitV {K : PySem.W.Frag} {A C : Addr} (o : ErrO K A C) : PySem.W.kitOne K (.ref C) (.type "ValueError") = some true := by
  rw [kit_insTy (o.sub _) (by decide +kernel)]
  simp [mroE]
/-- what stands of an error: itself, perhaps its dict -/
def IsEx (H : Hp) (a C : Addr) : Prop := H a = some (exo a C none) ∨ ∃ d fs, H a = some (exo a C (some d)) ∧ H d = some (exd d fs)
theorem IsEx.up {H H' : Hp} {a C : Addr} (e : Ext H H') (h : IsEx H a C) : IsEx H' a C := h.imp (fun h => e _ _ h) fun ⟨d, fs, h1, h2⟩ => ⟨d, fs, e _ _ h1, e _ _ h2⟩
def ExAt (H : Hp) (a C : Addr) (fs : List (Str × V)) : Prop := ∃ d, H a = some (exo a C (some d)) ∧ H d = some (exd d fs)
theorem ExAt.up {H H' : Hp} {a C : Addr} {fs : List (Str × V)} (e : Ext H H') (h : ExAt H a C fs) : ExAt H' a C fs := by
  obtain ⟨d, h1, h2⟩ := h
  exact ⟨d, e _ _ h1, e _ _ h2⟩
theorem ExAt.is {H : Hp} {a C : Addr} {fs : List (Str × V)} (h : ExAt H a C fs) : IsEx H a C := by
  obtain ⟨d, h1, h2⟩ := h
  exact .inr ⟨d, fs, h1, h2⟩
/-- an error's own __init__: fs its attributes -/
def spErr (C : Addr) (fs : List Str) : Sp := fun vs H Q _ => ∃ (a : Addr) (xs : List V), vs = .ref a :: xs ∧ xs.length = fs.length ∧ H a = some (exo a C none) ∧
  ∀ d H', H d = none → H' a = some (exo a C (some d)) → H' d = some (exd d (fs.zip xs).reverse) → (∀ b o, H b = some o → b ≠ a → H' b = some o) → Q .non H'
section
variable {K : PySem.W.Frag} {H : Hp} {Q : VK} {a C : Addr} {fs : List Str} {vs : List V} {f : Str} {v c : V} {u : Value} {b : Bool} {l : List (Str × V)}
theorem w_mkV (e : vs.length = fs.length) (z : fs.length ≤ 1000) (k : ∀ a H', Ext H H' → ExAt H' a C (fs.zip vs).reverse → Q (.ref a) H') : rMkV C (spErr C fs) vs H Q := by
  refine ⟨by omega, fun a na => ⟨a, vs, rfl, e, upd_same, fun d H' nd h1 h2 kp => ⟨rfl, k a H' (fun q o eo => ?_) ⟨d, h1, h2⟩⟩⟩⟩
  exact kp q o (by rw [upd_ne (ne_of_none eo na)]; exact eo) (ne_of_none eo na)
theorem w_mkV0 (k : ∀ a H', Ext H H' → IsEx H' a C → Q (.ref a) H') : rMkV0 C H Q := fun a na => k a _ (Ext.new na) (.inl upd_same)
theorem w_xv (x : ExAt H a C l) (e : l.lookup f = some v) (k : Q v H) : rXv C f (.ref a) H Q := by
  obtain ⟨d, h1, h2⟩ := x
  exact ⟨a, d, l, v, rfl, h1, h2, e, k⟩
theorem w_isX (x : IsEx H a C) (o : ExcC K C) (kc : ClsV c u) (e : PySem.W.kitOne K (.ref C) u = some b) (k : Q (.bl b) H) : rIsX K [.ref a, c] H Q := ⟨a, C, c, u, b, rfl, x, o, kc, e, k⟩
theorem w_tMkV {sp : Sp} {t : TA} {σ : L2.St} (h : t σ H fun vs H1 => rMkV C sp vs H1 Q) : tMkV C sp t σ H Q := h
theorem w_tMkV0 {σ : L2.St} (h : rMkV0 C H Q) : tMkV0 C σ H Q := h
theorem w_tXv {te : TE} {σ : L2.St} (h : te σ H fun x H1 => rXv C f x H1 Q) : tXv C f te σ H Q := h
end
end AT

end

section
namespace AT
open PySem PySem.Spec PyProof.Rows L2
theorem i_decN {p : Prop} [Decidable p] {A B : Prop} (h2 : ¬ p → B) (h1 : p → A) : if decide p = true then A else B := i_dec h1 h2
theorem i_ndecN {p : Prop} [Decidable p] {A B : Prop} (h2 : ¬ p → A) (h1 : p → B) : if (!decide p) = true then A else B := i_ndec h1 h2
theorem lk_ne {f g : Str} {v : V} {r : List (Str × V)} (h : (f == g) = false) : List.lookup f ((g, v) :: r) = List.lookup f r := by rw [List.lookup_cons, h]
theorem w_makeK {C : Addr} {n m : Nat} {sp : Sp} {gV : List V → List V → List V} {E : XK} {t tk : TA} {σ : L2.St} {H : Hp} {Q : VK} (h : t σ H fun vs H1 => tk σ H1 fun zs H2 => vs.length = n ∧ zs.length = m ∧ ∀ x dx, H2 x = none → H2 dx = none → dx ≠ x →
  sp (gV (.ref x :: vs) zs) (upd (upd H2 dx (.own x)) x (.ins C dx [])) (fun v H3 => v = .non ∧ Q (.ref x) H3) E) : tMakeK C n m sp gV E t tk σ H Q := h
end AT

end
namespace AT
open PySem L2
def top (i : Nat) : Stmt := PySem.Challenge.pw_anytune_k08_marks.main.body.getD i (.Pass ⟨0, 0, 0, 0⟩)
abbrev s_NoMoment___init__ : Stmt := inClass (top 3) 0
theorem sc_NoMoment___init__ : FnScope ["self", "top", "bottom"] ["self", "top", "bottom"] (defScope s_NoMoment___init__) := ⟨rfl, rfl, rfl, by decide +kernel, rfl, by decide +kernel, by decide +kernel⟩
abbrev s_NoMark___init__ : Stmt := inClass (top 5) 0
theorem sc_NoMark___init__ : FnScope ["self", "tone", "begin", "end"] ["self", "tone", "begin", "end"] (defScope s_NoMark___init__) := ⟨rfl, rfl, rfl, by decide +kernel, rfl, by decide +kernel, by decide +kernel⟩
abbrev s_common : Stmt := top 9
theorem sc_common : FnScope ["a", "b"] ["a", "b"] (defScope s_common) := ⟨rfl, rfl, rfl, by decide +kernel, rfl, by decide +kernel, by decide +kernel⟩
abbrev s_Moment___init__ : Stmt := inClass (top 10) 0
theorem sc_Moment___init__ : FnScope ["self", "top", "bottom", "part"] ["self", "top", "bottom"] (defScope s_Moment___init__) := ⟨rfl, rfl, rfl, by decide +kernel, rfl, by decide +kernel, by decide +kernel⟩
abbrev s_Moment___eq__ : Stmt := inClass (top 10) 15
theorem sc_Moment___eq__ : FnScope ["self", "other"] ["self", "other"] (defScope s_Moment___eq__) := ⟨rfl, rfl, rfl, by decide +kernel, rfl, by decide +kernel, by decide +kernel⟩
abbrev s_Moment___lt__ : Stmt := inClass (top 10) 16
theorem sc_Moment___lt__ : FnScope ["self", "other"] ["self", "other"] (defScope s_Moment___lt__) := ⟨rfl, rfl, rfl, by decide +kernel, rfl, by decide +kernel, by decide +kernel⟩
abbrev s_Moment___le__ : Stmt := inClass (top 10) 17
theorem sc_Moment___le__ : FnScope ["self", "other"] ["self", "other"] (defScope s_Moment___le__) := ⟨rfl, rfl, rfl, by decide +kernel, rfl, by decide +kernel, by decide +kernel⟩
abbrev s_Moment___gt__ : Stmt := inClass (top 10) 18
theorem sc_Moment___gt__ : FnScope ["self", "other"] ["self", "other"] (defScope s_Moment___gt__) := ⟨rfl, rfl, rfl, by decide +kernel, rfl, by decide +kernel, by decide +kernel⟩
abbrev s_Moment___ge__ : Stmt := inClass (top 10) 19
theorem sc_Moment___ge__ : FnScope ["self", "other"] ["self", "other"] (defScope s_Moment___ge__) := ⟨rfl, rfl, rfl, by decide +kernel, rfl, by decide +kernel, by decide +kernel⟩
abbrev s_as_moment : Stmt := top 11
theorem sc_as_moment : FnScope ["value"] ["value"] (defScope s_as_moment) := ⟨rfl, rfl, rfl, by decide +kernel, rfl, by decide +kernel, by decide +kernel⟩
abbrev s_Mark___init__ : Stmt := inClass (top 15) 0
theorem sc_Mark___init__ : FnScope ["self", "tone", "begin", "end", "start", "stop"] ["self", "tone", "begin", "end", "start", "stop"] (defScope s_Mark___init__) := ⟨rfl, rfl, rfl, by decide +kernel, rfl, by decide +kernel, by decide +kernel⟩
abbrev s_Mark___eq__ : Stmt := inClass (top 15) 1
theorem sc_Mark___eq__ : FnScope ["self", "other"] ["self", "other"] (defScope s_Mark___eq__) := ⟨rfl, rfl, rfl, by decide +kernel, rfl, by decide +kernel, by decide +kernel⟩
abbrev s__law_cell : Stmt := top 17
theorem sc__law_cell : FnScope ["_law_script", "_law_k"] ["_law_script", "_law_k"] (defScope s__law_cell) := ⟨rfl, rfl, rfl, by decide +kernel, rfl, by decide +kernel, by decide +kernel⟩
abbrev s__law_row : Stmt := top 18
theorem sc__law_row : FnScope ["_law_cell_here", "_law_sizes", "_law_out", "_law_size", "_law_seed", "_law_k", "_law_mixed"] ["_law_cell_here", "_law_sizes"] (defScope s__law_row) := ⟨rfl, rfl, rfl, by decide +kernel, rfl, by decide +kernel, by decide +kernel⟩
abbrev s__law_gcd : Stmt := top 19
theorem sc__law_gcd : FnScope ["_law_a", "_law_b", "_law_rest"] ["_law_a", "_law_b"] (defScope s__law_gcd) := ⟨rfl, rfl, rfl, by decide +kernel, rfl, by decide +kernel, by decide +kernel⟩
abbrev s__law_low : Stmt := top 20
theorem sc__law_low : FnScope ["_law_top", "_law_bottom", "_law_part"] ["_law_top", "_law_bottom"] (defScope s__law_low) := ⟨rfl, rfl, rfl, by decide +kernel, rfl, by decide +kernel, by decide +kernel⟩
abbrev s__law_add : Stmt := top 21
theorem sc__law_add : FnScope ["_law_a", "_law_b"] ["_law_a", "_law_b"] (defScope s__law_add) := ⟨rfl, rfl, rfl, by decide +kernel, rfl, by decide +kernel, by decide +kernel⟩
abbrev s__law_under : Stmt := top 22
theorem sc__law_under : FnScope ["_law_a", "_law_b"] ["_law_a", "_law_b"] (defScope s__law_under) := ⟨rfl, rfl, rfl, by decide +kernel, rfl, by decide +kernel, by decide +kernel⟩
abbrev s__law_is_int : Stmt := top 23
theorem sc__law_is_int : FnScope ["_law_actual"] ["_law_actual"] (defScope s__law_is_int) := ⟨rfl, rfl, rfl, by decide +kernel, rfl, by decide +kernel, by decide +kernel⟩
abbrev s__law_holds : Stmt := top 24
theorem sc__law_holds : FnScope ["_law_actual", "_law_top", "_law_bottom"] ["_law_actual", "_law_top", "_law_bottom"] (defScope s__law_holds) := ⟨rfl, rfl, rfl, by decide +kernel, rfl, by decide +kernel, by decide +kernel⟩
abbrev s__law_whole : Stmt := top 25
theorem sc__law_whole : FnScope ["_law_cell_here", "_law_most"] ["_law_cell_here", "_law_most"] (defScope s__law_whole) := ⟨rfl, rfl, rfl, by decide +kernel, rfl, by decide +kernel, by decide +kernel⟩
abbrev s__law_passed : Stmt := top 26
theorem sc__law_passed : FnScope ["_law_pair", "_law_plain"] ["_law_pair", "_law_plain"] (defScope s__law_passed) := ⟨rfl, rfl, rfl, by decide +kernel, rfl, by decide +kernel, by decide +kernel⟩
abbrev s__law_mark : Stmt := top 27
theorem sc__law_mark : FnScope ["_law_tone", "_law_times", "_law_plain", "_law_left", "_law_begin", "_law_end"] ["_law_tone", "_law_times", "_law_plain", "_law_left"] (defScope s__law_mark) := ⟨rfl, rfl, rfl, by decide +kernel, rfl, by decide +kernel, by decide +kernel⟩
abbrev s__law_valid : Stmt := top 28
theorem sc__law_valid : FnScope ["_law_times"] ["_law_times"] (defScope s__law_valid) := ⟨rfl, rfl, rfl, by decide +kernel, rfl, by decide +kernel, by decide +kernel⟩
abbrev s__law_tried : Stmt := top 29
theorem sc__law_tried : FnScope ["_law_tone", "_law_times", "_law_plain", "_law_left", "_law_mark_here", "_law_refused", "e", "_law_due", "_law_held", "_law_k"] ["_law_tone", "_law_times", "_law_plain", "_law_left"] (defScope s__law_tried) := ⟨rfl, rfl, rfl, by decide +kernel, rfl, by decide +kernel, by decide +kernel⟩
abbrev s_law : Stmt := top 30
theorem sc_law : FnScope ["_law_script", "_law_row_here", "_law_tone", "_law_origin", "_law_times", "_law_k", "_law_one", "_law_left", "_law_other_tone", "_law_others", "_law_pair", "_law_two", "_law_same"] ["_law_script"] (defScope s_law) := ⟨rfl, rfl, rfl, by decide +kernel, rfl, by decide +kernel, by decide +kernel⟩
structure Tx (K : PySem.W.Frag) (mg : Str → Option Value) where
  a_NoMoment___init__ : Addr
  d_NoMoment___init__ : FuncData
  F_NoMoment___init__ : Fun K "__init__" "NoMoment.__init__" s_NoMoment___init__ a_NoMoment___init__ d_NoMoment___init__
  a_NoMark___init__ : Addr
  d_NoMark___init__ : FuncData
  F_NoMark___init__ : Fun K "__init__" "NoMark.__init__" s_NoMark___init__ a_NoMark___init__ d_NoMark___init__
  a_common : Addr
  d_common : FuncData
  F_common : Fun K "common" "common" s_common a_common d_common
  g_common : mg "common" = some (.ref a_common)
  a_Moment___init__ : Addr
  d_Moment___init__ : FuncData
  F_Moment___init__ : FunD K "__init__" "Moment.__init__" (defArgs s_Moment___init__) (defBody s_Moment___init__) (defScope s_Moment___init__) [.int 1] [] a_Moment___init__ d_Moment___init__
  a_Moment___eq__ : Addr
  d_Moment___eq__ : FuncData
  F_Moment___eq__ : Fun K "__eq__" "Moment.__eq__" s_Moment___eq__ a_Moment___eq__ d_Moment___eq__
  a_Moment___lt__ : Addr
  d_Moment___lt__ : FuncData
  F_Moment___lt__ : Fun K "__lt__" "Moment.__lt__" s_Moment___lt__ a_Moment___lt__ d_Moment___lt__
  a_Moment___le__ : Addr
  d_Moment___le__ : FuncData
  F_Moment___le__ : Fun K "__le__" "Moment.__le__" s_Moment___le__ a_Moment___le__ d_Moment___le__
  a_Moment___gt__ : Addr
  d_Moment___gt__ : FuncData
  F_Moment___gt__ : Fun K "__gt__" "Moment.__gt__" s_Moment___gt__ a_Moment___gt__ d_Moment___gt__
  a_Moment___ge__ : Addr
  d_Moment___ge__ : FuncData
  F_Moment___ge__ : Fun K "__ge__" "Moment.__ge__" s_Moment___ge__ a_Moment___ge__ d_Moment___ge__
  a_as_moment : Addr
  d_as_moment : FuncData
  F_as_moment : Fun K "as_moment" "as_moment" s_as_moment a_as_moment d_as_moment
  g_as_moment : mg "as_moment" = some (.ref a_as_moment)
  a_Mark___init__ : Addr
  d_Mark___init__ : FuncData
  F_Mark___init__ : FunD K "__init__" "Mark.__init__" (defArgs s_Mark___init__) (defBody s_Mark___init__) (defScope s_Mark___init__) [] [("start", .non), ("stop", .non)] a_Mark___init__ d_Mark___init__
  a_Mark___eq__ : Addr
  d_Mark___eq__ : FuncData
  F_Mark___eq__ : Fun K "__eq__" "Mark.__eq__" s_Mark___eq__ a_Mark___eq__ d_Mark___eq__
  a__law_cell : Addr
  d__law_cell : FuncData
  F__law_cell : Fun K "_law_cell" "_law_cell" s__law_cell a__law_cell d__law_cell
  g__law_cell : mg "_law_cell" = some (.ref a__law_cell)
  a__law_row : Addr
  d__law_row : FuncData
  F__law_row : Fun K "_law_row" "_law_row" s__law_row a__law_row d__law_row
  g__law_row : mg "_law_row" = some (.ref a__law_row)
  a__law_gcd : Addr
  d__law_gcd : FuncData
  F__law_gcd : Fun K "_law_gcd" "_law_gcd" s__law_gcd a__law_gcd d__law_gcd
  g__law_gcd : mg "_law_gcd" = some (.ref a__law_gcd)
  a__law_low : Addr
  d__law_low : FuncData
  F__law_low : Fun K "_law_low" "_law_low" s__law_low a__law_low d__law_low
  g__law_low : mg "_law_low" = some (.ref a__law_low)
  a__law_add : Addr
  d__law_add : FuncData
  F__law_add : Fun K "_law_add" "_law_add" s__law_add a__law_add d__law_add
  g__law_add : mg "_law_add" = some (.ref a__law_add)
  a__law_under : Addr
  d__law_under : FuncData
  F__law_under : Fun K "_law_under" "_law_under" s__law_under a__law_under d__law_under
  g__law_under : mg "_law_under" = some (.ref a__law_under)
  a__law_is_int : Addr
  d__law_is_int : FuncData
  F__law_is_int : Fun K "_law_is_int" "_law_is_int" s__law_is_int a__law_is_int d__law_is_int
  g__law_is_int : mg "_law_is_int" = some (.ref a__law_is_int)
  a__law_holds : Addr
  d__law_holds : FuncData
  F__law_holds : Fun K "_law_holds" "_law_holds" s__law_holds a__law_holds d__law_holds
  g__law_holds : mg "_law_holds" = some (.ref a__law_holds)
  a__law_whole : Addr
  d__law_whole : FuncData
  F__law_whole : Fun K "_law_whole" "_law_whole" s__law_whole a__law_whole d__law_whole
  g__law_whole : mg "_law_whole" = some (.ref a__law_whole)
  a__law_passed : Addr
  d__law_passed : FuncData
  F__law_passed : Fun K "_law_passed" "_law_passed" s__law_passed a__law_passed d__law_passed
  g__law_passed : mg "_law_passed" = some (.ref a__law_passed)
  a__law_mark : Addr
  d__law_mark : FuncData
  F__law_mark : Fun K "_law_mark" "_law_mark" s__law_mark a__law_mark d__law_mark
  g__law_mark : mg "_law_mark" = some (.ref a__law_mark)
  a__law_valid : Addr
  d__law_valid : FuncData
  F__law_valid : Fun K "_law_valid" "_law_valid" s__law_valid a__law_valid d__law_valid
  g__law_valid : mg "_law_valid" = some (.ref a__law_valid)
  a__law_tried : Addr
  d__law_tried : FuncData
  F__law_tried : Fun K "_law_tried" "_law_tried" s__law_tried a__law_tried d__law_tried
  g__law_tried : mg "_law_tried" = some (.ref a__law_tried)
  a_law : Addr
  d_law : FuncData
  F_law : Fun K "law" "law" s_law a_law d_law
  g_law : mg "law" = some (.ref a_law)
  C_AnytuneError : Addr
  g_AnytuneError : mg "AnytuneError" = some (.ref C_AnytuneError)
  rd_AnytuneError : ClX.CRead K C_AnytuneError (.type "type")
  in_AnytuneError : PySem.W.findCls K (.ref C_AnytuneError) (.type "type") "__init__" = some (.val (.builtin "ValueError.__init__"))
  C_NoMoment : Addr
  g_NoMoment : mg "NoMoment" = some (.ref C_NoMoment)
  ox_NoMoment : OexC K C_NoMoment
  xf_NoMoment : XfC K C_NoMoment
  em_NoMoment : PySem.W.exmOne K (.ref C_NoMoment) (.ref C_NoMoment) = some true
  na_NoMoment_top : PySem.W.findIn K (.ref C_NoMoment) "top" = some none
  na_NoMoment_bottom : PySem.W.findIn K (.ref C_NoMoment) "bottom" = some none
  C_NoMark : Addr
  g_NoMark : mg "NoMark" = some (.ref C_NoMark)
  ox_NoMark : OexC K C_NoMark
  xf_NoMark : XfC K C_NoMark
  em_NoMark : PySem.W.exmOne K (.ref C_NoMark) (.ref C_NoMark) = some true
  na_NoMark_tone : PySem.W.findIn K (.ref C_NoMark) "tone" = some none
  na_NoMark_begin : PySem.W.findIn K (.ref C_NoMark) "begin" = some none
  na_NoMark_end : PySem.W.findIn K (.ref C_NoMark) "end" = some none
  C_Moment : Addr
  g_Moment : mg "Moment" = some (.ref C_Moment)
  o_Moment : OwnC K C_Moment
  k1_Moment : PySem.W.isClsIn K C_Moment = true
  k2_Moment : PySem.W.typeIn K (.ref C_Moment) = some (.type "type")
  k3_Moment : PySem.W.keepIn K (.ref C_Moment) = true
  mk_Moment : PySem.W.makesIn K C_Moment = true
  na_Moment_top : NoAttr K C_Moment "top"
  na_Moment_bottom : NoAttr K C_Moment "bottom"
  z_Moment_int : PySem.W.subIn K (.type "int") (.ref C_Moment) = some false
  z_Moment_str : PySem.W.subIn K (.type "str") (.ref C_Moment) = some false
  z_Moment_list : PySem.W.subIn K (.type "list") (.ref C_Moment) = some false
  z_Moment_tuple : PySem.W.subIn K (.type "tuple") (.ref C_Moment) = some false
  z_Moment_NoneType : PySem.W.subIn K (.type "NoneType") (.ref C_Moment) = some false
  z_Moment_bool : PySem.W.subIn K (.type "bool") (.ref C_Moment) = some false
  ne_Moment : PySem.W.findIn K (.ref C_Moment) "__ne__" = some (some (.builtin "object.__ne__"))
  C_Mark : Addr
  g_Mark : mg "Mark" = some (.ref C_Mark)
  o_Mark : OwnC K C_Mark
  k1_Mark : PySem.W.isClsIn K C_Mark = true
  k2_Mark : PySem.W.typeIn K (.ref C_Mark) = some (.type "type")
  k3_Mark : PySem.W.keepIn K (.ref C_Mark) = true
  mk_Mark : PySem.W.makesIn K C_Mark = true
  na_Mark_tone : NoAttr K C_Mark "tone"
  na_Mark_begin : NoAttr K C_Mark "begin"
  na_Mark_end : NoAttr K C_Mark "end"
  na_Mark_start : NoAttr K C_Mark "start"
  na_Mark_stop : NoAttr K C_Mark "stop"
  z_Mark_int : PySem.W.subIn K (.type "int") (.ref C_Mark) = some false
  z_Mark_str : PySem.W.subIn K (.type "str") (.ref C_Mark) = some false
  z_Mark_list : PySem.W.subIn K (.type "list") (.ref C_Mark) = some false
  z_Mark_tuple : PySem.W.subIn K (.type "tuple") (.ref C_Mark) = some false
  z_Mark_NoneType : PySem.W.subIn K (.type "NoneType") (.ref C_Mark) = some false
  z_Mark_bool : PySem.W.subIn K (.type "bool") (.ref C_Mark) = some false
  ne_Mark : PySem.W.findIn K (.ref C_Mark) "__ne__" = some (some (.builtin "object.__ne__"))
  m_NoMoment___init__ : OwnM K C_NoMoment a_NoMoment___init__ "__init__"
  m_NoMark___init__ : OwnM K C_NoMark a_NoMark___init__ "__init__"
  m_Moment___init__ : OwnM K C_Moment a_Moment___init__ "__init__"
  m_Moment___eq__ : OwnM K C_Moment a_Moment___eq__ "__eq__"
  m_Moment___lt__ : OwnM K C_Moment a_Moment___lt__ "__lt__"
  m_Moment___le__ : OwnM K C_Moment a_Moment___le__ "__le__"
  m_Moment___gt__ : OwnM K C_Moment a_Moment___gt__ "__gt__"
  m_Moment___ge__ : OwnM K C_Moment a_Moment___ge__ "__ge__"
  m_Mark___init__ : OwnM K C_Mark a_Mark___init__ "__init__"
  m_Mark___eq__ : OwnM K C_Mark a_Mark___eq__ "__eq__"
  n_abs : mg "abs" = none
  n_isinstance : mg "isinstance" = none
  n_int : mg "int" = none
  n_len : mg "len" = none
  n_range : mg "range" = none
  n_bool : mg "bool" = none
section
variable {K : PySem.W.Frag} {mg : Str → Option Value}
theorem Tx.b_NoMoment___init__ (T : Tx K mg) : Binds K T.d_NoMoment___init__ ["self", "top", "bottom"] [] := T.F_NoMoment___init__.binds (ps := ["self", "top", "bottom"]) fun _ _ _ _ _ _ us hl => match us, hl with | [_, _, _], _ => rfl
theorem Tx.b_NoMark___init__ (T : Tx K mg) : Binds K T.d_NoMark___init__ ["self", "tone", "begin", "end"] [] := T.F_NoMark___init__.binds (ps := ["self", "tone", "begin", "end"]) fun _ _ _ _ _ _ us hl => match us, hl with | [_, _, _, _], _ => rfl
theorem Tx.b_common (T : Tx K mg) : Binds K T.d_common ["a", "b"] [] := T.F_common.binds (ps := ["a", "b"]) fun _ _ _ _ _ _ us hl => match us, hl with | [_, _], _ => rfl
theorem Tx.M_Moment (T : Tx K mg) : Mk K T.C_Moment T.a_Moment___init__ := ⟨T.mk_Moment, T.m_Moment___init__.at_, T.m_Moment___init__.fn, T.k3_Moment⟩
theorem Tx.mt_Moment___init__ (T : Tx K mg) : Meth K T.C_Moment "__init__" T.a_Moment___init__ := ⟨T.m_Moment___init__.at_, T.m_Moment___init__.fn, T.F_Moment___init__.kp⟩
theorem Tx.b_Moment___eq__ (T : Tx K mg) : Binds K T.d_Moment___eq__ ["self", "other"] [] := T.F_Moment___eq__.binds (ps := ["self", "other"]) fun _ _ _ _ _ _ us hl => match us, hl with | [_, _], _ => rfl
theorem Tx.mt_Moment___eq__ (T : Tx K mg) : Meth K T.C_Moment "__eq__" T.a_Moment___eq__ := ⟨T.m_Moment___eq__.at_, T.m_Moment___eq__.fn, T.F_Moment___eq__.kp⟩
theorem Tx.b_Moment___lt__ (T : Tx K mg) : Binds K T.d_Moment___lt__ ["self", "other"] [] := T.F_Moment___lt__.binds (ps := ["self", "other"]) fun _ _ _ _ _ _ us hl => match us, hl with | [_, _], _ => rfl
theorem Tx.mt_Moment___lt__ (T : Tx K mg) : Meth K T.C_Moment "__lt__" T.a_Moment___lt__ := ⟨T.m_Moment___lt__.at_, T.m_Moment___lt__.fn, T.F_Moment___lt__.kp⟩
theorem Tx.b_Moment___le__ (T : Tx K mg) : Binds K T.d_Moment___le__ ["self", "other"] [] := T.F_Moment___le__.binds (ps := ["self", "other"]) fun _ _ _ _ _ _ us hl => match us, hl with | [_, _], _ => rfl
theorem Tx.mt_Moment___le__ (T : Tx K mg) : Meth K T.C_Moment "__le__" T.a_Moment___le__ := ⟨T.m_Moment___le__.at_, T.m_Moment___le__.fn, T.F_Moment___le__.kp⟩
theorem Tx.b_Moment___gt__ (T : Tx K mg) : Binds K T.d_Moment___gt__ ["self", "other"] [] := T.F_Moment___gt__.binds (ps := ["self", "other"]) fun _ _ _ _ _ _ us hl => match us, hl with | [_, _], _ => rfl
theorem Tx.mt_Moment___gt__ (T : Tx K mg) : Meth K T.C_Moment "__gt__" T.a_Moment___gt__ := ⟨T.m_Moment___gt__.at_, T.m_Moment___gt__.fn, T.F_Moment___gt__.kp⟩
theorem Tx.b_Moment___ge__ (T : Tx K mg) : Binds K T.d_Moment___ge__ ["self", "other"] [] := T.F_Moment___ge__.binds (ps := ["self", "other"]) fun _ _ _ _ _ _ us hl => match us, hl with | [_, _], _ => rfl
theorem Tx.mt_Moment___ge__ (T : Tx K mg) : Meth K T.C_Moment "__ge__" T.a_Moment___ge__ := ⟨T.m_Moment___ge__.at_, T.m_Moment___ge__.fn, T.F_Moment___ge__.kp⟩
theorem Tx.b_as_moment (T : Tx K mg) : Binds K T.d_as_moment ["value"] [] := T.F_as_moment.binds (ps := ["value"]) fun _ _ _ _ _ _ us hl => match us, hl with | [_], _ => rfl
theorem Tx.M_Mark (T : Tx K mg) : Mk K T.C_Mark T.a_Mark___init__ := ⟨T.mk_Mark, T.m_Mark___init__.at_, T.m_Mark___init__.fn, T.k3_Mark⟩
theorem Tx.mt_Mark___init__ (T : Tx K mg) : Meth K T.C_Mark "__init__" T.a_Mark___init__ := ⟨T.m_Mark___init__.at_, T.m_Mark___init__.fn, T.F_Mark___init__.kp⟩
theorem Tx.b_Mark___eq__ (T : Tx K mg) : Binds K T.d_Mark___eq__ ["self", "other"] [] := T.F_Mark___eq__.binds (ps := ["self", "other"]) fun _ _ _ _ _ _ us hl => match us, hl with | [_, _], _ => rfl
theorem Tx.mt_Mark___eq__ (T : Tx K mg) : Meth K T.C_Mark "__eq__" T.a_Mark___eq__ := ⟨T.m_Mark___eq__.at_, T.m_Mark___eq__.fn, T.F_Mark___eq__.kp⟩
theorem Tx.b__law_cell (T : Tx K mg) : Binds K T.d__law_cell ["_law_script", "_law_k"] [] := T.F__law_cell.binds (ps := ["_law_script", "_law_k"]) fun _ _ _ _ _ _ us hl => match us, hl with | [_, _], _ => rfl
theorem Tx.b__law_row (T : Tx K mg) : Binds K T.d__law_row ["_law_cell_here", "_law_sizes"] [] := T.F__law_row.binds (ps := ["_law_cell_here", "_law_sizes"]) fun _ _ _ _ _ _ us hl => match us, hl with | [_, _], _ => rfl
theorem Tx.b__law_gcd (T : Tx K mg) : Binds K T.d__law_gcd ["_law_a", "_law_b"] [] := T.F__law_gcd.binds (ps := ["_law_a", "_law_b"]) fun _ _ _ _ _ _ us hl => match us, hl with | [_, _], _ => rfl
theorem Tx.b__law_low (T : Tx K mg) : Binds K T.d__law_low ["_law_top", "_law_bottom"] [] := T.F__law_low.binds (ps := ["_law_top", "_law_bottom"]) fun _ _ _ _ _ _ us hl => match us, hl with | [_, _], _ => rfl
theorem Tx.b__law_add (T : Tx K mg) : Binds K T.d__law_add ["_law_a", "_law_b"] [] := T.F__law_add.binds (ps := ["_law_a", "_law_b"]) fun _ _ _ _ _ _ us hl => match us, hl with | [_, _], _ => rfl
theorem Tx.b__law_under (T : Tx K mg) : Binds K T.d__law_under ["_law_a", "_law_b"] [] := T.F__law_under.binds (ps := ["_law_a", "_law_b"]) fun _ _ _ _ _ _ us hl => match us, hl with | [_, _], _ => rfl
theorem Tx.b__law_is_int (T : Tx K mg) : Binds K T.d__law_is_int ["_law_actual"] [] := T.F__law_is_int.binds (ps := ["_law_actual"]) fun _ _ _ _ _ _ us hl => match us, hl with | [_], _ => rfl
theorem Tx.b__law_holds (T : Tx K mg) : Binds K T.d__law_holds ["_law_actual", "_law_top", "_law_bottom"] [] := T.F__law_holds.binds (ps := ["_law_actual", "_law_top", "_law_bottom"]) fun _ _ _ _ _ _ us hl => match us, hl with | [_, _, _], _ => rfl
theorem Tx.b__law_whole (T : Tx K mg) : Binds K T.d__law_whole ["_law_cell_here", "_law_most"] [] := T.F__law_whole.binds (ps := ["_law_cell_here", "_law_most"]) fun _ _ _ _ _ _ us hl => match us, hl with | [_, _], _ => rfl
theorem Tx.b__law_passed (T : Tx K mg) : Binds K T.d__law_passed ["_law_pair", "_law_plain"] [] := T.F__law_passed.binds (ps := ["_law_pair", "_law_plain"]) fun _ _ _ _ _ _ us hl => match us, hl with | [_, _], _ => rfl
theorem Tx.b__law_mark (T : Tx K mg) : Binds K T.d__law_mark ["_law_tone", "_law_times", "_law_plain", "_law_left"] [] := T.F__law_mark.binds (ps := ["_law_tone", "_law_times", "_law_plain", "_law_left"]) fun _ _ _ _ _ _ us hl => match us, hl with | [_, _, _, _], _ => rfl
theorem Tx.b__law_valid (T : Tx K mg) : Binds K T.d__law_valid ["_law_times"] [] := T.F__law_valid.binds (ps := ["_law_times"]) fun _ _ _ _ _ _ us hl => match us, hl with | [_], _ => rfl
theorem Tx.b__law_tried (T : Tx K mg) : Binds K T.d__law_tried ["_law_tone", "_law_times", "_law_plain", "_law_left"] [] := T.F__law_tried.binds (ps := ["_law_tone", "_law_times", "_law_plain", "_law_left"]) fun _ _ _ _ _ _ us hl => match us, hl with | [_, _, _, _], _ => rfl
theorem Tx.b_law (T : Tx K mg) : Binds K T.d_law ["_law_script"] [] := T.F_law.binds (ps := ["_law_script"]) fun _ _ _ _ _ _ us hl => match us, hl with | [_], _ => rfl
end
end AT
open AT
local macro_rules | `(tactic| walk_at "vc1") => `(tactic| (with_reducible first
  | refine w_seq ?_ | refine w_if ?_ | refine w_set ?_ | refine w_par ?_ | refine w_drop ?_ | refine w_ret ?_ | refine w_retN ?_ | refine w_next ?_
  | refine w_c ?_ | refine w_test ?_ | refine w_B ?_ | refine w_op ?_ | refine w_un ?_ | refine w_chain ?_ | refine w_and ?_ | refine w_or ?_ | refine w_not ?_
  | refine w_andV ?_ | refine w_orV ?_ | refine w_notV ?_ | refine w_ifE ?_ | refine w_nil ?_ | refine w_cons ?_ | refine w_call ?_ | refine w_callS ?_ | refine w_cb ?_
  | refine w_fld ?_ | refine w_sfld ?_ | refine w_lst ?_ | refine w_tup ?_ | refine w_bm ?_
  | refine w_rI0 ?_ | refine w_rU ?_ | refine w_eqI ?_ | refine w_neI ?_ | refine w_bl ?_ | refine w_blV ?_ | refine w_abs ?_ | refine w_int ?_ | refine w_two ?_ | refine w_iList ?_ | refine w_iTup ?_ | refine w_iRng1 ?_ | refine w_gname ?_ | refine w_intInt ?_ | refine w_intBool ?_ | refine w_boolBool ?_ | refine w_for ?_ | refine w_makeS ?_ | refine w_xf ?_ | refine n_isN ?_ | refine n_notN ?_ | refine w_opS ?_ | refine w_lc ?_ | refine i_yes rfl ?_ | refine i_no rfl ?_))
local macro_rules | `(tactic| walk_at "vc") => `(tactic| (repeat (first | (walk_at "vc1") | (refine w_var (by rfl) ?_) | (refine w_aug (by rfl) ?_) | (refine w_pow (by decide) ?_) | (refine w_mod (by decide) ?_))))
namespace AT
open PySem PySem.Spec PyProof.Rows L2
section
variable {P : Program} {w : World} {K : PySem.W.Frag} {mg : Str → Option Value} {base : Heap}
/-- two ints, both below 2 ^ 8000: their greatest common divisor -/
def spGcd : Sp := fun vs H Q _ => ∃ a b : Int, vs = [.int a, .int b] ∧ Bn 8000 a ∧ Bn 8000 b ∧ Q (.int (Int.gcd a b)) H
theorem c_gcd {a b : Int} {H : Hp} {Q : VK} {E : XK} (ha : Bn 8000 a) (hb : Bn 8000 b) (h : Q (.int (Int.gcd a b)) H) : spGcd [.int a, .int b] H Q E := ⟨a, b, rfl, ha, hb, h⟩
theorem gcd_turn {a b a0 b0 : Int} (hb : 0 < b) (ha : 0 ≤ a) (g : Int.gcd a b = Int.gcd a0 b0) (z : Bn 8000 b) : 0 ≤ b ∧ 0 ≤ a - b * (a.fdiv b) ∧ Int.gcd b (a - b * (a.fdiv b)) = Int.gcd a0 b0 ∧ Bn 8000 b ∧ Bn 8000 (a - b * (a.fdiv b)) ∧ (a - b * (a.fdiv b)).toNat < b.toNat := by
  have e := rest_eq (a := a) hb
  have h1 := Int.emod_nonneg a (by omega : b ≠ 0)
  have h2 := Int.emod_lt_of_pos a hb
  refine ⟨by omega, by omega, (gcd_step hb).trans g, z, z.le (by omega), by omega⟩
theorem gcd_out {a b a0 b0 : Int} (hb : ¬ 0 < b) (hb0 : 0 ≤ b) (ha : 0 ≤ a) (g : Int.gcd a b = Int.gcd a0 b0) : a = (Int.gcd a0 b0 : Int) := by
  have : b = 0 := by omega
  subst this
  rw [← g, Int.gcd_zero_right]
  omega
theorem ok_common (T : Tx K mg) : FnOk P w K mg base CX0 1 T.a_common T.d_common ["a", "b"] spGcd := by
  refine T.F_common.ok sc_common (fun vs H Q E h => ?_) (fun cdv A outer s H vs Q E hr h => ?_)
  · obtain ⟨a, b, rfl, _⟩ := h
    rfl
  · obtain ⟨a, b, rfl, ha, hb, k⟩ := h
    refine ⟨_, ((pss_cons (ps_set (i := 0) sc_common.nd rfl (Or.inl rfl) (pe_callB call_absR (by rfl) T.n_abs boot_abs (pa_cons (pv 0) pa_nil)))
 (pss_cons (ps_set (i := 1) sc_common.nd rfl (Or.inl rfl) (pe_callB call_absR (by rfl) T.n_abs boot_abs (pa_cons (pv 1) pa_nil)))
 (pss_cons (ps_while PassesOwn.never (pt_cmpR op_gt (pv 1) pe_int (nomark _)) (pss_one (ps_par (i := 0) (j := 1) rfl sc_common.nd rfl rfl (by decide) rfl rfl (pa_cons (pv 1) (pa_cons (pe_op op_sub (pv 0) (pe_op op_mulW (pv 1) (pe_op op_fdivG (pv 0) (pv 1)))) pa_nil)) rfl)))
 (pss_one (ps_ret (pv 0))))))), ?_⟩
    walk_at "vc"
    refine w_while (fun σ H' => H' = H ∧ ∃ x y : Int, σ = [some (.int x), some (.int y)] ∧ 0 ≤ x ∧ 0 ≤ y ∧ Int.gcd x y = Int.gcd a b ∧ Bn 8000 x ∧ Bn 8000 y) (fun σ _ => match σ with | [_, some (.int y)] => y.toNat | _ => 0)
      ⟨rfl, _, _, rfl, by omega, by omega, rfl, ha.abs, hb.abs⟩ ?_
    rintro σ H' ⟨rfl, x, y, rfl, hx, hy, g, bx, bY⟩
    walk_at "vc"
    refine i_dec (fun hp => ?_) (fun hp => ?_)
    · refine w_wturn ?_
      walk_at "vc"
      refine w_rI ⟨by omega, bY.log' (by decide)⟩ ?_
      obtain ⟨t1, t2, t3, t4, t5, t6⟩ := gcd_turn hp hx g bY
      refine w_rI (wide_mul (a := 8000) (b := 8000) bY (bx.le (fdiv_abs hp hx)) (by decide) (by decide) (by decide)) ?_
      walk_at "vc"
      exact ⟨t6, rfl, _, _, rfl, t1, t2, t3, t4, t5⟩
    · walk_at "vc"
      rw [gcd_out hp hy hx g]
      exact k
end
end AT
namespace AT
open PySem PySem.Spec PyProof.Rows L2
/-- the attributes of a moment -/
def momF (q : Rat) : List (Str × V) := [("top", .int q.num), ("bottom", .int (q.den : Int))]
theorem momF_new (q : Rat) : putF "bottom" (.int (q.den : Int)) (putF "top" (.int q.num) []) = momF q := by
  show (if ("top" : Str) = "bottom" then _ else (("top" : Str), V.int q.num) :: putF "bottom" _ []) = _
  rw [if_neg (by decide +kernel)]
  rfl
theorem momF_top (q : Rat) : (momF q).lookup ("top" : Str) = some (.int q.num) := rfl
theorem momF_bottom (q : Rat) : (momF q).lookup ("bottom" : Str) = some (.int (q.den : Int)) := by
  rw [← momF_new, lookup_putF, if_pos rfl]
/-- v is a moment that is worth q -/
def Mo (C : Addr) (H : Hp) (v : V) (q : Rat) : Prop := ∃ a dx, v = .ref a ∧ H a = some (.ins C dx (momF q))
theorem Mo.up {C : Addr} {H H' : Hp} {v : V} {q : Rat} (e : Ext H H') (h : Mo C H v q) : Mo C H' v q := by
  obtain ⟨a, dx, rfl, z⟩ := h
  exact ⟨a, dx, rfl, e _ _ z⟩
/-- small enough to reckon with: both parts below 2 ^ n -/
structure Sm (n : Nat) (q : Rat) : Prop where
  num : Bn n q.num
  den : Bn n (q.den : Int)
theorem Sm.mono {m n : Nat} {q : Rat} (h : Sm m q) (l : m ≤ n) : Sm n q := ⟨h.num.mono l, h.den.mono l⟩
theorem sm_div {n : Nat} {t b : Int} (hb : b ≠ 0) (ht : Bn n t) (hb' : Bn n b) : Sm n (Rat.divInt t b) := ⟨ht.le (num_le hb), hb'.le (by rw [Int.natAbs_natCast]; exact den_le hb)⟩
section
variable {P : Program} {w : World} {K : PySem.W.Frag} {mg : Str → Option Value} {base : Heap}
/-- an error of two values -/
def spErr2 (C : Addr) (f g : Str) : Sp := fun vs H Q _ => ∃ (a : Addr) (x y : V), vs = [.ref a, x, y] ∧ H a = some (exo a C none) ∧
  ∀ d H', H d = none → H' a = some (exo a C (some d)) → H' d = some (exd d [(g, y), (f, x)]) → (∀ b o, H b = some o → b ≠ a → H' b = some o) → Q .non H'
theorem ok_NoMoment___init__ (T : Tx K mg) : FnOk P w K mg base CX0 1 T.a_NoMoment___init__ T.d_NoMoment___init__ ["self", "top", "bottom"] (spErr2 T.C_NoMoment "top" "bottom") := by
  refine T.F_NoMoment___init__.ok sc_NoMoment___init__ (fun vs H Q E h => ?_) (fun cdv A outer s H vs Q E hr h => ?_)
  · obtain ⟨a, x, y, rfl, _⟩ := h
    rfl
  · obtain ⟨a, x, y, rfl, ha, k⟩ := h
    refine ⟨_, ((pss_cons (ps_expr (pe_clsinit rfl T.g_AnytuneError T.rd_AnytuneError T.in_AnytuneError (pa_cons (pv 0) (pa_cons pe_str pa_nil))))
 (pss_cons (ps_ost (pv 0) (pv 1))
 (pss_one (ps_ost (pv 0) (pv 2)))))), ?_⟩
    refine ⟨_, rfl, a, T.C_NoMoment, _, rfl, by decide, T.ox_NoMoment, ha, ?_⟩
    refine ⟨_, rfl, _, rfl, a, T.C_NoMoment, rfl, T.ox_NoMoment, T.na_NoMoment_top, .inl ⟨ha, fun dx nd ne => ?_⟩⟩
    refine ⟨_, rfl, _, rfl, a, T.C_NoMoment, rfl, T.ox_NoMoment, T.na_NoMoment_bottom, .inr ⟨dx, _, upd_same, by rw [upd_ne ne, upd_same], (by show 1 ≤ 900; decide), ?_⟩⟩
    refine k dx _ nd (by rw [upd_ne (Ne.symm ne), upd_same]) upd_same fun b o e hb => ?_
    rw [upd_ne (ne_of_none e nd), upd_ne hb, upd_ne (ne_of_none e nd)]
    exact e
/-- Moment(top, bottom) on a new instance -/
def spMom (C CE : Addr) : Sp := fun vs H Q E => ∃ (x dx : Addr) (t b : Int), vs = [.ref x, .int t, .int b] ∧ H x = some (.ins C dx []) ∧ Bn 8000 t ∧ Bn 8000 b ∧
  (b = 0 → ∀ d H', H d = none → Ext H H' → H' d = some (.xd [("bottom", .int b), ("top", .int t)]) → E (.ref CE) (some d) H') ∧
  (b ≠ 0 → Q .non (upd H x (.ins C dx (momF (Rat.divInt t b)))))
theorem ok_Moment___init__ (T : Tx K mg) : FnOk P w K mg base (L2.CX P w) 3 T.a_Moment___init__ T.d_Moment___init__ ["self", "top", "bottom"] (spMom T.C_Moment T.C_NoMoment) := by
  refine T.F_Moment___init__.ok sc_Moment___init__ (fun vs H Q E h => ?_) (fun cdv A outer s H vs Q E hr h => ?_)
  · obtain ⟨x, dx, t, b, rfl, _⟩ := h
    rfl
  · obtain ⟨x, dx, t, b, rfl, hx, ht, hb, kE, kQ⟩ := h
    have G_common : FnOk P w K mg base CX0 1 T.a_common T.d_common ["a", "b"] spGcd := ok_common T
    have G_err : FnOk P w K mg base CX0 1 T.a_NoMoment___init__ T.d_NoMoment___init__ ["self", "top", "bottom"] (spErr2 T.C_NoMoment "top" "bottom") := ok_NoMoment___init__ T
    have hr_common : Room 1 _ := hr.mono (by decide : 1 ≤ 2)
    refine ⟨_, ((pss_cons (ps_if (pt_cmpR op_eq (pv 2) pe_int (nomark _)) (pss_one (ps_raise rfl (takes_of rfl rfl rfl rfl) (pmk_oex T.ox_NoMoment T.m_NoMoment___init__.at_ (beq_iff_eq.mp T.m_NoMoment___init__.fn) G_err hr T.b_NoMoment___init__ .nil pass0 rfl T.g_NoMoment (pa_cons (pv 1) (pa_cons (pv 2) pa_nil))))) pss_nil)
 (pss_cons (ps_set (i := 3) sc_Moment___init__.nd rfl (Or.inl rfl) (pe_call G_common hr_common rfl T.g_common T.F_common.kp T.b_common .nil pass0 (pa_cons (pv 1) (pa_cons (pv 2) pa_nil))))
 (pss_cons (ps_if (pt_cmpR op_lt (pv 2) pe_int (nomark _)) (pss_one (ps_set (i := 3) sc_Moment___init__.nd rfl (Or.inl rfl) (pe_un un_neg (pv 3)))) pss_nil)
 (pss_cons (ps_fld (pv 0) (pe_op op_fdivG (pv 1) (pv 3)) rfl)
 (pss_one (ps_fld (pv 0) (pe_op op_fdivG (pv 2) (pv 3)) rfl))))))), ?_⟩
    walk_at "vc"
    refine i_dec (fun h0 => ?_) (fun h0 => ?_)
    · refine ⟨_, rfl, _, rfl, (by decide : 2 ≤ 1000), fun a na => ⟨a, _, _, rfl, upd_same, fun d H' nd h1 h2 kp => ⟨rfl, d, _, h1, h2, Ext.fresh (Ext.new na) nd, ?_⟩⟩⟩
      have nd' : H d = none := Ext.fresh (Ext.new na) nd
      refine kE h0 d _ nd' (fun q o e => ?_) upd_same
      rw [upd_ne (ne_of_none e nd'), del_ne (ne_of_none e na)]
      exact kp q o (by rw [upd_ne (ne_of_none e na)]; exact e) (ne_of_none e na)
    · walk_at "vc"
      refine c_gcd ht hb ?_
      walk_at "vc"
      have hp := part_ne (t := t) h0
      have pb : Bn 8000 (part t b) := part_bn ht hb h0
      refine i_dec (fun hn => ?_) (fun hn => ?_)
      · walk_at "vc"
        have e : -(Int.gcd t b : Int) = part t b := by unfold part; rw [if_pos hn]
        rw [e]
        refine w_rI ⟨hp, pb.log' (by decide)⟩ ?_
        walk_at "vc"
        refine ⟨x, _, dx, [], rfl, hx, T.o_Moment.cl, T.na_Moment_top, by decide, ?_⟩
        walk_at "vc"
        refine w_rI ⟨hp, pb.log' (by decide)⟩ ?_
        walk_at "vc"
        refine ⟨x, _, dx, _, rfl, upd_same, T.o_Moment.cl, T.na_Moment_bottom, (by show 1 < 1000; decide), ?_⟩
        have z := kQ h0
        rw [num_eq h0, den_eq h0, momF_new, upd_upd]
        exact z
      · walk_at "vc"
        have e : (Int.gcd t b : Int) = part t b := by unfold part; rw [if_neg hn]
        rw [e]
        refine w_rI ⟨hp, pb.log' (by decide)⟩ ?_
        walk_at "vc"
        refine ⟨x, _, dx, [], rfl, hx, T.o_Moment.cl, T.na_Moment_top, by decide, ?_⟩
        walk_at "vc"
        refine w_rI ⟨hp, pb.log' (by decide)⟩ ?_
        walk_at "vc"
        refine ⟨x, _, dx, _, rfl, upd_same, T.o_Moment.cl, T.na_Moment_bottom, (by show 1 < 1000; decide), ?_⟩
        have z := kQ h0
        rw [num_eq h0, den_eq h0, momF_new, upd_upd]
        exact z
end
end AT
namespace AT
open PySem PySem.Spec PyProof.Rows L2
theorem map_at {α β : Type} {f : α → β} {l : List α} {i : Nat} {y : β} (h : (l.map f)[i]? = some y) : ∃ x, l[i]? = some x ∧ y = f x := by
  rw [List.getElem?_map] at h
  cases e : l[i]? with
  | none => rw [e] at h; cases h
  | some x => rw [e] at h; exact ⟨x, rfl, (Option.some.inj h).symm⟩
theorem at_map {α β : Type} {f : α → β} {l : List α} {i : Nat} {x : α} (h : l[i]? = some x) : (l.map f)[i]? = some (f x) := by
  rw [List.getElem?_map, h]
  rfl
section
variable {P : Program} {w : World} {K : PySem.W.Frag} {mg : Str → Option Value} {base : Heap}
/-- a cell of the script: some int -/
def spCell (K : PySem.W.Frag) : Sp := fun vs H Q _ => ∃ (a : Addr) (ns : List Int) (k : Int), vs = [.ref a, .int k] ∧ SqL K H a (ns.map V.int) ∧ 0 ≤ k ∧ ∀ c : Int, Q (.int c) H
theorem c_cell {a : Addr} {ns : List Int} {k : Int} {H : Hp} {Q : VK} {E : XK} (l : SqL K H a (ns.map V.int)) (hk : 0 ≤ k) (h : ∀ c : Int, Q (.int c) H) : spCell K [.ref a, .int k] H Q E := ⟨a, ns, k, rfl, l, hk, h⟩
theorem ok__law_cell (T : Tx K mg) : FnOk P w K mg base CX0 1 T.a__law_cell T.d__law_cell ["_law_script", "_law_k"] (spCell K) := by
  refine T.F__law_cell.ok sc__law_cell (fun vs H Q E h => ?_) (fun cdv A outer s H vs Q E hr h => ?_)
  · obtain ⟨a, ns, k, rfl, _⟩ := h
    rfl
  · obtain ⟨a, ns, k, rfl, l, hk, q⟩ := h
    refine ⟨_, ((pss_cons (ps_if (pt_cmpR op_lt (pv 1) (pe_callB call_lenR (by rfl) T.n_len PySem.boot_len (pa_cons (pv 0) pa_nil)) (nomark _)) (pss_one (ps_ret (pe_ix ix_list (pv 0) (pv 1) (fun _ _ => rfl)))) pss_nil)
 (pss_one (ps_ret pe_int)))), ?_⟩
    walk_at "vc"
    refine w_len l ?_
    walk_at "vc"
    refine i_dec (fun hp => ?_) (fun hp => ?_)
    · walk_at "vc"
      rw [List.length_map] at hp
      obtain ⟨j, rfl⟩ : ∃ j : Nat, k = (j : Int) := ⟨k.toNat, by omega⟩
      have hj : j < ns.length := by omega
      exact w_ixL l (atI_nat (at_map (List.getElem?_eq_getElem hj))) (q _)
    · walk_at "vc"
      exact q 0
theorem mw {i j : Int} (hi : Bn 64 i) (hj : Bn 8000 j) : CMulW i j := wide_mul (a := 64) (b := 8000) hi hj (by decide) (by decide) (by decide)
end
end AT
namespace AT
open PySem PySem.Spec PyProof.Rows L2
section
variable {P : Program} {w : World} {K : PySem.W.Frag} {mg : Str → Option Value} {base : Heap}
/-- numbers below their sizes -/
def RowOk (ss ns : List Int) : Prop := ns.length = ss.length ∧ ∀ (i : Nat) s, ss[i]? = some s → ∃ n, ns[i]? = some n ∧ 0 ≤ n ∧ n < s
theorem RowOk.nil : RowOk [] [] := ⟨rfl, fun i s h => by simp at h⟩
theorem RowOk.more {ss ns : List Int} {i : Nat} {s n : Int} (h : RowOk (ss.take i) ns) (e : ss[i]? = some s) (h0 : 0 ≤ n) (h1 : n < s) : RowOk (ss.take (i + 1)) (ns ++ [n]) := by
  have hi : i < ss.length := (List.getElem?_eq_some_iff.mp e).1
  have hl : ns.length = i := by rw [h.1, List.length_take]; omega
  refine ⟨by rw [List.length_append, hl, List.length_take]; simp; omega, fun j s' hj => ?_⟩
  have hj' : j < i + 1 := by
    have := (List.getElem?_eq_some_iff.mp hj).1
    rw [List.length_take] at this
    omega
  rw [List.getElem?_take, if_pos hj'] at hj
  by_cases hji : j = i
  · subst hji
    rw [e] at hj
    cases hj
    refine ⟨n, ?_, h0, h1⟩
    rw [List.getElem?_append_right (by omega), hl]
    simp
  · obtain ⟨m, h2, h3, h4⟩ := h.2 j s' (by rw [List.getElem?_take, if_pos (by omega)]; exact hj)
    exact ⟨m, by rw [List.getElem?_append_left (by omega)]; exact h2, h3, h4⟩
theorem RowOk.one {s : Int} {ns : List Int} (h : RowOk [s] ns) : ∃ a, ns = [a] ∧ 0 ≤ a ∧ a < s := by
  obtain ⟨h1, h2⟩ := h
  obtain ⟨a, ea, pa⟩ := h2 0 s rfl
  match ns, h1 with
  | [x], _ =>
    cases ea
    exact ⟨_, rfl, pa⟩
theorem RowOk.cons {s : Int} {ss ns : List Int} (h : RowOk (s :: ss) ns) : ∃ a r, ns = a :: r ∧ 0 ≤ a ∧ a < s ∧ RowOk ss r := by
  obtain ⟨h1, h2⟩ := h
  obtain ⟨a, ea, pa⟩ := h2 0 s rfl
  match ns, h1 with
  | x :: r, h1 =>
    cases ea
    refine ⟨_, r, rfl, pa.1, pa.2, by simpa using h1, fun i s' e => ?_⟩
    obtain ⟨n, e1, e2⟩ := h2 (i + 1) s' (by simpa using e)
    exact ⟨n, by simpa using e1, e2⟩
def spRow (K : PySem.W.Frag) : Sp := fun vs H Q _ => ∃ (c : Int) (l : Addr) (ss : List Int), vs = [.int c, .ref l] ∧ SqL K H l (ss.map V.int) ∧ ss.length ≤ 63 ∧ (∀ s ∈ ss, 0 < s ∧ s < 1073741824) ∧
  ∀ p ns, H p = none → RowOk ss ns → Q (.ref p) (upd H p (.lst (ns.map V.int)))
theorem c_row {c : Int} {l : Addr} {ss : List Int} {H : Hp} {Q : VK} {E : XK} (hl : SqL K H l (ss.map V.int)) (hz : ss.length ≤ 63) (hs : ∀ s ∈ ss, 0 < s ∧ s < 1073741824)
    (h : ∀ p ns, H p = none → RowOk ss ns → Q (.ref p) (upd H p (.lst (ns.map V.int)))) : spRow K [.int c, .ref l] H Q E := ⟨c, l, ss, rfl, hl, hz, hs, h⟩
theorem pow5 {x : Int} (h : x.natAbs < 2 ^ 64) : CPow x 5 := ⟨by decide, by decide, h⟩
theorem ok__law_row (T : Tx K mg) : FnOk P w K mg base CX0 1 T.a__law_row T.d__law_row ["_law_cell_here", "_law_sizes"] (spRow K) := by
  refine T.F__law_row.ok sc__law_row (fun vs H Q E h => ?_) (fun cdv A outer s H vs Q E hr h => ?_)
  · obtain ⟨c, l, ss, rfl, _⟩ := h
    rfl
  · obtain ⟨c, l, ss, rfl, hl, hz, hs, q⟩ := h
    refine ⟨_, ((pss_cons (ps_set (i := 2) sc__law_row.nd rfl (Or.inl rfl) (pe_lst pa_nil))
 (pss_cons (ps_if (pt_cmpR op_ge (pv 0) (pe_op op_pow pe_int pe_int) (nomark _)) (pss_cons (ps_for PassesOwn.never rfl (pi_list (pv 1)) (pg_name (i := 3) sc__law_row.nd rfl (Or.inl rfl)) (pss_cons (ps_expr (pe_bm PySem.F.plainAttrs_list PySem.F.slot_list_append PySem.F.type_list_append mt_append (pv 2) (pa_cons (pe_op op_mod (pe_callTy call_intR (by rfl) T.n_int boot_int (pa_cons (pv 0) pa_nil)) (pv 3)) pa_nil)))
 (pss_one (ps_set (i := 0) sc__law_row.nd rfl (Or.inl rfl) (pe_op op_fdivG (pv 0) (pv 3))))))
 (pss_one (ps_ret (pv 2)))) pss_nil)
 (pss_cons (ps_set (i := 4) sc__law_row.nd rfl (Or.inl rfl) (pe_op op_mod (pe_callTy call_intR (by rfl) T.n_int boot_int (pa_cons (pv 0) pa_nil)) pe_int))
 (pss_cons (ps_for PassesOwn.never rfl (pi_range1 rfl T.n_range (pa_cons (pe_callB call_lenR (by rfl) T.n_len PySem.boot_len (pa_cons (pv 1) pa_nil)) pa_nil)) (pg_name (i := 5) sc__law_row.nd rfl (Or.inl rfl)) (pss_cons (ps_set (i := 6) sc__law_row.nd rfl (Or.inl rfl) (pe_op op_add (pe_op op_mod (pe_callTy call_intR (by rfl) T.n_int boot_int (pa_cons (pe_op op_pow (pe_op op_add (pe_op op_add (pv 4) (pe_op op_mulW pe_int (pv 5))) pe_int) pe_int) pa_nil)) pe_int) (pv 5)))
 (pss_one (ps_expr (pe_bm PySem.F.plainAttrs_list PySem.F.slot_list_append PySem.F.type_list_append mt_append (pv 2) (pa_cons (pe_op op_mod (pe_callTy call_intR (by rfl) T.n_int boot_int (pa_cons (pe_op op_mod (pe_callTy call_intR (by rfl) T.n_int boot_int (pa_cons (pe_op op_mulW (pv 6) pe_int) pa_nil)) pe_int) pa_nil)) (pe_ix ix_list (pv 1) (pv 5) (fun _ _ => rfl))) pa_nil))))))
 (pss_one (ps_ret (pv 2)))))))), ?_⟩
    walk_at "vc"
    refine ⟨by decide, fun p np => ?_⟩
    have hl1 : ∀ o, SqL K (upd H p o) l (ss.map V.int) := fun o => Same.seq (fun b u e => by rw [upd_ne (ne_of_none e np)]; exact e) hl
    walk_at "vc"
    refine i_dec (fun hp => ?_) (fun hp => ?_)
    · walk_at "vc"
      refine ⟨l, rfl, ⟨_, hl1 _⟩, for_list (K := K) (a := l) (xs := ss.map V.int) (fun i σ H' => ∃ (z : Int) (ns : List Int) (v4 v5 v6 v7 : Option V), σ = [some (.int z), some (.ref l), some (.ref p), v4, v5, v6, v7] ∧ H' = upd H p (.lst (ns.map V.int)) ∧ RowOk (ss.take i) ns)
        ⟨c, [], none, none, none, none, rfl, rfl, RowOk.nil⟩ (fun i σ H' _ h => by obtain ⟨_, _, _, _, _, _, _, rfl, _⟩ := h; exact hl1 _) ?_ ?_⟩
      · rintro i y σ H' hi ⟨z, ns, v4, v5, v6, v7, rfl, rfl, r⟩
        obtain ⟨sz, hsz, rfl⟩ := map_at hi
        have hpos := hs sz (List.mem_of_getElem? hsz)
        walk_at "vc"
        refine ⟨.inl ⟨rfl, _, SqL.of upd_same⟩, ?_⟩
        walk_at "vc"
        refine w_rI hpos.1 ?_
        walk_at "vc"
        have hln : ns.length ≤ 63 := by
          have := r.1
          rw [List.length_take] at this
          omega
        refine w_app upd_same (by rw [List.length_map]; omega) ?_
        walk_at "vc"
        refine w_rI ⟨by omega, by have : Bn 30 sz := by (unfold Bn; omega)
                                  exact this.log' (by decide)⟩ ?_
        walk_at "vc"
        exact ⟨_, ns ++ [z % sz], _, _, _, _, rfl, by rw [upd_upd, List.map_append]; rfl, r.more hsz (Int.emod_nonneg _ (by omega)) (Int.emod_lt_of_pos _ hpos.1)⟩
      · rintro σ H' ⟨z, ns, v4, v5, v6, v7, rfl, rfl, r⟩
        walk_at "vc"
        rw [List.length_map, List.take_length] at r
        exact q p ns np r
    · walk_at "vc"
      refine w_len (hl1 _) ?_
      walk_at "vc"
      have e1 : 0 ≤ c % 2147483647 := Int.emod_nonneg _ (by decide)
      have e2 : c % 2147483647 < 2147483647 := Int.emod_lt_of_pos _ (by decide)
      generalize c % 2147483647 = sd at e1 e2
      refine ⟨_, rfl, by omega, by rw [List.length_map]; omega, for_range (lo := 0) (n := ((ss.map V.int).length : Int).toNat) (fun i σ H' => ∃ (ns : List Int) (v4 v6 v7 : Option V), σ = [some (.int c), some (.ref l), some (.ref p), v4, some (.int sd), v6, v7] ∧ H' = upd H p (.lst (ns.map V.int)) ∧ RowOk (ss.take i) ns)
        ⟨[], none, none, none, rfl, rfl, RowOk.nil⟩ ?_ ?_⟩
      · rintro i σ H' hi ⟨ns, v4, v6, v7, rfl, rfl, r⟩
        have hi' : i < ss.length := by simpa using hi
        have hsz := List.getElem?_eq_getElem hi'
        generalize ss[i] = sz at hsz
        have hpos := hs sz (List.mem_of_getElem? hsz)
        walk_at "vc"
        refine w_rI (mw (by unfold Bn; omega) (Bn.mono (m := 64) (by unfold Bn; omega) (by decide))) ?_
        walk_at "vc"
        refine w_rI (pow5 (by omega)) ?_
        walk_at "vc"
        generalize (sd + 7919 * (0 + (i : Int)) + 104729) ^ (5 : Int).toNat = pw
        have f1 : 0 ≤ pw % 2147483647 := Int.emod_nonneg _ (by decide)
        have f2 : pw % 2147483647 < 2147483647 := Int.emod_lt_of_pos _ (by decide)
        generalize pw % 2147483647 = mx at f1 f2
        refine ⟨.inl ⟨rfl, _, SqL.of upd_same⟩, ?_⟩
        walk_at "vc"
        refine w_rI (mw (by unfold Bn; omega) (Bn.mono (m := 64) (by unfold Bn; omega) (by decide))) ?_
        walk_at "vc"
        refine w_ixL (hl1 _) (at_of (by omega) (at_map hsz)) ?_
        refine w_rI hpos.1 ?_
        walk_at "vc"
        have hln : ns.length ≤ 63 := by
          have := r.1
          rw [List.length_take] at this
          omega
        refine w_app upd_same (by rw [List.length_map]; omega) ?_
        walk_at "vc"
        exact ⟨ns ++ [_], _, _, _, rfl, by rw [upd_upd, List.map_append]; rfl, r.more hsz (Int.emod_nonneg _ (by omega)) (Int.emod_lt_of_pos _ hpos.1)⟩
      · rintro σ H' ⟨ns, v4, v6, v7, rfl, rfl, r⟩
        walk_at "vc"
        have e : ((ss.map V.int).length : Int).toNat = ss.length := by simp
        rw [e, List.take_length] at r
        exact q p ns np r
end
end AT
namespace AT
open PySem PySem.Spec PyProof.Rows L2
section
variable {P : Program} {w : World} {K : PySem.W.Frag} {mg : Str → Option Value} {base : Heap}
def spWhole : Sp := fun vs H Q _ => ∃ c m : Int, vs = [.int c, .int m] ∧ 0 ≤ m ∧ Bn 400 m ∧ ∀ r : Int, -m ≤ r → r ≤ m → Q (.int r) H
theorem c_whole {c m : Int} {H : Hp} {Q : VK} {E : XK} (h0 : 0 ≤ m) (hm : Bn 400 m) (h : ∀ r : Int, -m ≤ r → r ≤ m → Q (.int r) H) : spWhole [.int c, .int m] H Q E := ⟨c, m, rfl, h0, hm, h⟩
theorem ok__law_whole (T : Tx K mg) : FnOk P w K mg base CX0 1 T.a__law_whole T.d__law_whole ["_law_cell_here", "_law_most"] spWhole := by
  refine T.F__law_whole.ok sc__law_whole (fun vs H Q E h => ?_) (fun cdv A outer s H vs Q E hr h => ?_)
  · obtain ⟨c, m, rfl, _⟩ := h
    rfl
  · obtain ⟨c, m, rfl, h0, hm, q⟩ := h
    refine ⟨_, ((pss_cons (ps_if (pt_chain op_le op_le (pe_un un_neg (pv 1)) (pv 0) (pv 1)) (pss_one (ps_ret (pv 0))) pss_nil)
 (pss_one (ps_ret (pe_op op_sub (pe_op op_mod (pe_callTy call_intR (by rfl) T.n_int boot_int (pa_cons (pv 0) pa_nil)) (pe_op op_add (pe_op op_mulW pe_int (pv 1)) pe_int)) (pv 1)))))), ?_⟩
    walk_at "vc"
    have last : ¬ (-m ≤ c ∧ c ≤ m) → Q (.int (c % (2 * m + 1) - m)) H := fun _ => q _ (by have := Int.emod_nonneg c (by omega : 2 * m + 1 ≠ 0); omega) (by have := Int.emod_lt_of_pos c (by omega : 0 < 2 * m + 1); omega)
    refine i_dec (fun h1 => ?_) (fun h1 => ?_)
    · walk_at "vc"
      refine i_dec (fun h2 => ?_) (fun h2 => ?_)
      · walk_at "vc"
        exact q c h1 h2
      · walk_at "vc"
        refine w_rI (mw (by unfold Bn; omega) (hm.mono (by decide))) ?_
        walk_at "vc"
        refine w_rI (by omega) ?_
        walk_at "vc"
        exact last (by omega)
    · walk_at "vc"
      refine w_rI (mw (by unfold Bn; omega) (hm.mono (by decide))) ?_
      walk_at "vc"
      refine w_rI (by omega) ?_
      walk_at "vc"
      exact last (by omega)
end
end AT
namespace AT
open PySem PySem.Spec PyProof.Rows L2
section
variable {P : Program} {w : World} {K : PySem.W.Frag} {mg : Str → Option Value} {base : Heap}
/-- making a moment -/
theorem w_mom {C CE : Addr} {t b : Int} {dvs vs : List V} {H : Hp} {Q : VK} {E : XK} (e : vs ++ dvs = [.int t, .int b]) (ht : Bn 8000 t) (hb : Bn 8000 b) (h0 : b ≠ 0)
    (k : ∀ p H', Ext H H' → Mo C H' (.ref p) (Rat.divInt t b) → Q (.ref p) H') : rMakeS C (spMom C CE) dvs E vs H Q := by
  intro x dx nx ndx ne
  refine ⟨x, dx, t, b, by rw [e], upd_same, ht, hb, fun z => absurd z h0, fun _ => ⟨rfl, k x _ ?_ ⟨x, dx, rfl, upd_same⟩⟩⟩
  exact Ext.mut (Ext.mut (Ext.new ndx) nx) nx
/-- .. or the error -/
theorem w_momX {C CE : Addr} {t b : Int} {dvs vs : List V} {H : Hp} {Q : VK} {E : XK} (e : vs ++ dvs = [.int t, .int b]) (ht : Bn 8000 t) (hb : Bn 8000 b)
    (hE : b = 0 → ∀ d H', H d = none → Ext H H' → H' d = some (.xd [("bottom", .int b), ("top", .int t)]) → E (.ref CE) (some d) H')
    (k : b ≠ 0 → ∀ p H', Ext H H' → Mo C H' (.ref p) (Rat.divInt t b) → Q (.ref p) H') : rMakeS C (spMom C CE) dvs E vs H Q := by
  intro x dx nx ndx ne
  have e1 : ∀ o o', Ext H (upd (upd H dx o) x o') := fun o o' => Ext.mut (Ext.new ndx) nx
  refine ⟨x, dx, t, b, by rw [e], upd_same, ht, hb, fun z d H' nd x1 hd => hE z d H' ((e1 _ _).fresh nd) ((e1 _ _).t x1) hd, fun h0 => ⟨rfl, k h0 x _ ?_ ⟨x, dx, rfl, upd_same⟩⟩⟩
  exact Ext.mut (e1 _ _) nx
theorem mom_binds2 (T : Tx K mg) : ∃ ds, Vals [.int 1] ds ∧ Binds K T.d_Moment___init__ ["self", "top", "bottom"] ds :=
  T.F_Moment___init__.binds1 2 0 (by simp) (by decide) fun Td kV doc pm an cdv ct us its hu hi => match us, its, hu, hi with
    | [_, _], [_], _, _ => ⟨_, rfl, rfl⟩
theorem mom_binds3 (T : Tx K mg) : ∃ ds, Vals [] ds ∧ Binds K T.d_Moment___init__ ["self", "top", "bottom"] ds :=
  T.F_Moment___init__.binds1 3 1 (by simp) (by decide) fun Td kV doc pm an cdv ct us its hu hi => match us, its, hu, hi with
    | [_, _, _], [_], _, _ => ⟨_, rfl, rfl⟩
end
end AT
namespace AT
open PySem PySem.Spec PyProof.Rows L2
section
variable {P : Program} {w : World} {K : PySem.W.Frag} {mg : Str → Option Value} {base : Heap}
/-- an int or a moment that is worth r -/
def Opd (n : Nat) (C : Addr) (H : Hp) (y : V) (r : Rat) : Prop := (∃ i : Int, y = .int i ∧ r = (i : Rat) ∧ Bn n i) ∨ (Mo C H y r ∧ Sm n r)
theorem Opd.int {n : Nat} {C : Addr} {H : Hp} {i : Int} (b : Bn n i) : Opd n C H (.int i) (i : Rat) := .inl ⟨i, rfl, rfl, b⟩
theorem Opd.up {n : Nat} {C : Addr} {H H' : Hp} {y : V} {r : Rat} (h : Opd n C H y r) (e : Ext H H') : Opd n C H' y r := h.imp id fun h => ⟨h.1.up e, h.2⟩
theorem Opd.mono {m n : Nat} {C : Addr} {H : Hp} {y : V} {r : Rat} (h : Opd m C H y r) (l : m ≤ n) : Opd n C H y r := h.imp (fun ⟨i, a, b, c⟩ => ⟨i, a, b, c.mono l⟩) fun h => ⟨h.1, h.2.mono l⟩
/-- v op y -/
def spBin (f : Rat → Rat → Rat) (C : Addr) : Sp := fun vs H Q _ => ∃ (v y : V) (q r : Rat), vs = [v, y] ∧ Mo C H v q ∧ Sm 3900 q ∧ Opd 3900 C H y r ∧ ∀ p H', Ext H H' → Mo C H' (.ref p) (f q r) → Q (.ref p) H'
/-- i op v, by v's method -/
def spRBin (f : Rat → Rat → Rat) (C : Addr) : Sp := fun vs H Q _ => ∃ (v : V) (i : Int) (q : Rat), vs = [v, .int i] ∧ Mo C H v q ∧ Sm 3900 q ∧ Bn 3900 i ∧ ∀ p H', Ext H H' → Mo C H' (.ref p) (f q (i : Rat)) → Q (.ref p) H'
theorem w_bin {f : Rat → Rat → Rat} {C : Addr} {v y : V} {q r : Rat} {H : Hp} {Q : VK} {E : XK} (m : Mo C H v q) (s : Sm 3900 q) (o : Opd 3900 C H y r) (k : ∀ p H', Ext H H' → Mo C H' (.ref p) (f q r) → Q (.ref p) H') : rIns C (spBin f C) E v y H Q := by
  obtain ⟨a, dx, rfl, z⟩ := id m
  refine ⟨a, dx, _, rfl, z, ?_, _, _, q, r, rfl, m, s, o, k⟩
  rcases o with ⟨i, rfl, _⟩ | ⟨⟨b, dy, rfl, z2⟩, _⟩
  · exact .inl ⟨i, rfl⟩
  · exact .inr ⟨b, dy, _, rfl, z2⟩
theorem w_rbin {f : Rat → Rat → Rat} {C : Addr} {v : V} {i : Int} {q : Rat} {H : Hp} {Q : VK} {E : XK} (m : Mo C H v q) (s : Sm 3900 q) (b : Bn 3900 i) (k : ∀ p H', Ext H H' → Mo C H' (.ref p) (f q (i : Rat)) → Q (.ref p) H') : rIntIns C (spRBin f C) E (.int i) v H Q := by
  obtain ⟨a, dx, rfl, z⟩ := id m
  exact ⟨i, a, dx, _, rfl, rfl, z, _, i, q, rfl, m, s, b, k⟩
theorem bn_mul {i j : Int} (h : Bn 3900 i) (l : Bn 3900 j) : Bn 7800 (i * j) := (h.mul l).mono (by decide)
theorem bn_addM {i j k l : Int} (h : Bn 3900 i) (h2 : Bn 3900 j) (h3 : Bn 3900 k) (h4 : Bn 3900 l) : Bn 8000 (i * j + k * l) := ((bn_mul h h2).add (bn_mul h3 h4)).mono (by decide)
theorem bn_subM {i j k l : Int} (h : Bn 3900 i) (h2 : Bn 3900 j) (h3 : Bn 3900 k) (h4 : Bn 3900 l) : Bn 8000 (i * j - k * l) := ((bn_mul h h2).sub (bn_mul h3 h4)).mono (by decide)
theorem bn_add1 {i k l : Int} (h : Bn 3900 i) (h3 : Bn 3900 k) (h4 : Bn 3900 l) : Bn 8000 (i + k * l) := ((h.mono (by decide)).add (bn_mul h3 h4)).mono (by decide)
theorem bn_sub1 {i k l : Int} (h : Bn 3900 i) (h3 : Bn 3900 k) (h4 : Bn 3900 l) : Bn 8000 (i - k * l) := ((h.mono (by decide)).sub (bn_mul h3 h4)).mono (by decide)
theorem bn_sub2 {i k l : Int} (h : Bn 3900 i) (h3 : Bn 3900 k) (h4 : Bn 3900 l) : Bn 8000 (k * l - i) := ((bn_mul h3 h4).sub (h.mono (by decide))).mono (by decide)
theorem bn_up {i : Int} (h : Bn 3900 i) : Bn 8000 i := h.mono (by decide)
theorem bn_mulU {i j : Int} (h : Bn 3900 i) (l : Bn 3900 j) : Bn 8000 (i * j) := (bn_mul h l).mono (by decide)
theorem w_m39 {H : Hp} {Q : VK} {i j : Int} (h1 : Bn 3900 i) (h2 : Bn 3900 j) (k : Q (.int (i * j)) H) : rI CMulW (fun i j => .int (i * j)) (.int i) (.int j) H Q := w_mulW (m := 3900) (n := 3900) h1 h2 (by decide) (by decide) (by decide) k
end
end AT
namespace AT
open PySem PySem.Spec PyProof.Rows L2
section
variable {P : Program} {w : World} {K : PySem.W.Frag} {mg : Str → Option Value} {base : Heap}
/-- a moment's attributes -/
theorem w_top {T : Tx K mg} {H : Hp} {Q : VK} {v : V} {q : Rat} (h : Mo T.C_Moment H v q) (k : Q (.int q.num) H) : rFld K "top" v H Q := by
  obtain ⟨a, dx, rfl, z⟩ := h
  exact ⟨a, _, dx, _, _, rfl, z, T.o_Moment.cl, T.na_Moment_top, momF_top q, k⟩
theorem w_bottom {T : Tx K mg} {H : Hp} {Q : VK} {v : V} {q : Rat} (h : Mo T.C_Moment H v q) (k : Q (.int (q.den : Int)) H) : rFld K "bottom" v H Q := by
  obtain ⟨a, dx, rfl, z⟩ := h
  exact ⟨a, _, dx, _, _, rfl, z, T.o_Moment.cl, T.na_Moment_bottom, momF_bottom q, k⟩
theorem Mo.ty {T : Tx K mg} {H : Hp} {v : V} {q : Rat} (h : Mo T.C_Moment H v q) : TyX K H v (.ref T.C_Moment) := by
  obtain ⟨a, dx, rfl, z⟩ := h
  exact T.o_Moment.ty z
theorem w_moMo {T : Tx K mg} {H : Hp} {Q : VK} {v : V} {q : Rat} (h : Mo T.C_Moment H v q) (k : Q (.bl true) H) : rIsi K [v, .ref T.C_Moment] H Q := w_isi (.own _) h.ty kit_self k
theorem w_moInt {T : Tx K mg} {H : Hp} {Q : VK} {v : V} {q : Rat} (h : Mo T.C_Moment H v q) (k : Q (.bl false) H) : rIsi K [v, .ty "int"] H Q := w_isi (.ty "int") h.ty (kit_insTy T.o_Moment.notInt (by decide +kernel)) k
theorem w_tyMo {T : Tx K mg} {H : Hp} {Q : VK} {v : V} {t : String} (h : TyX K H v (.type t)) (hs : PySem.W.subIn K (.type t) (.ref T.C_Moment) = some false) (k : Q (.bl false) H) : rIsi K [v, .ref T.C_Moment] H Q :=
  w_isi (.own _) h (kit_own T.k1_Moment T.k2_Moment hs (by simp)) k
end
end AT
namespace AT
open PySem PySem.Spec PyProof.Rows L2
section
variable {P : Program} {w : World} {K : PySem.W.Frag} {mg : Str → Option Value} {base : Heap}
theorem gcd_turn2 {a b a0 b0 : Int} (hb : 0 < b) (ha : 0 ≤ a) (g : Int.gcd a b = Int.gcd a0 b0) (z : Bn 8000 b) : 0 ≤ b ∧ 0 ≤ a - a.fdiv b * b ∧ Int.gcd b (a - a.fdiv b * b) = Int.gcd a0 b0 ∧ Bn 8000 b ∧ Bn 8000 (a - a.fdiv b * b) ∧ (a - a.fdiv b * b).toNat < b.toNat := by
  rw [Int.mul_comm (a.fdiv b) b]
  exact gcd_turn hb ha g z
theorem ok__law_gcd (T : Tx K mg) : FnOk P w K mg base CX0 1 T.a__law_gcd T.d__law_gcd ["_law_a", "_law_b"] spGcd := by
  refine T.F__law_gcd.ok sc__law_gcd (fun vs H Q E h => ?_) (fun cdv A outer s H vs Q E hr h => ?_)
  · obtain ⟨a, b, rfl, _⟩ := h
    rfl
  · obtain ⟨a, b, rfl, ha, hb, k⟩ := h
    refine ⟨_, ((pss_cons (ps_set (i := 0) sc__law_gcd.nd rfl (Or.inl rfl) (pe_callB call_absR (by rfl) T.n_abs boot_abs (pa_cons (pv 0) pa_nil)))
 (pss_cons (ps_set (i := 1) sc__law_gcd.nd rfl (Or.inl rfl) (pe_callB call_absR (by rfl) T.n_abs boot_abs (pa_cons (pv 1) pa_nil)))
 (pss_cons (ps_while PassesOwn.never (pt_cmpR op_gt (pv 1) pe_int (nomark _)) (pss_cons (ps_set (i := 2) sc__law_gcd.nd rfl (Or.inl rfl) (pe_op op_sub (pv 0) (pe_op op_mulW (pe_op op_fdivG (pv 0) (pv 1)) (pv 1))))
 (pss_cons (ps_set (i := 0) sc__law_gcd.nd rfl (Or.inl rfl) (pv 1))
 (pss_one (ps_set (i := 1) sc__law_gcd.nd rfl (Or.inl rfl) (pv 2))))))
 (pss_one (ps_ret (pv 0))))))), ?_⟩
    walk_at "vc"
    refine w_while (fun σ H' => H' = H ∧ ∃ (x y : Int) (v : Option V), σ = [some (.int x), some (.int y), v] ∧ 0 ≤ x ∧ 0 ≤ y ∧ Int.gcd x y = Int.gcd a b ∧ Bn 8000 x ∧ Bn 8000 y) (fun σ _ => match σ with | [_, some (.int y), _] => y.toNat | _ => 0)
      ⟨rfl, _, _, _, rfl, by omega, by omega, rfl, ha.abs, hb.abs⟩ ?_
    rintro σ H' ⟨rfl, x, y, v, rfl, hx, hy, g, bx, bY⟩
    walk_at "vc"
    refine i_dec (fun hp => ?_) (fun hp => ?_)
    · refine w_wturn ?_
      walk_at "vc"
      refine w_rI ⟨by omega, bY.log' (by decide)⟩ ?_
      obtain ⟨t1, t2, t3, t4, t5, t6⟩ := gcd_turn2 hp hx g bY
      walk_at "vc"
      refine w_rI (wide_mul (a := 8000) (b := 8000) (bx.le (fdiv_abs hp hx)) bY (by decide) (by decide) (by decide)) ?_
      walk_at "vc"
      exact ⟨t6, rfl, _, _, _, rfl, t1, t2, t3, t4, t5⟩
    · walk_at "vc"
      rw [gcd_out hp hy hx g]
      exact k
def spIsInt : Sp := fun vs H Q _ => ∃ a : Int, vs = [.int a] ∧ Q (.bl true) H
theorem c_isInt {a : Int} {H : Hp} {Q : VK} {E : XK} (h : Q (.bl true) H) : spIsInt [.int a] H Q E := ⟨a, rfl, h⟩
theorem ok__law_is_int (T : Tx K mg) : FnOk P w K mg base CX0 1 T.a__law_is_int T.d__law_is_int ["_law_actual"] spIsInt := by
  refine T.F__law_is_int.ok sc__law_is_int (fun vs H Q E h => ?_) (fun cdv A outer s H vs Q E hr h => ?_)
  · obtain ⟨a, rfl, _⟩ := h
    rfl
  · obtain ⟨a, rfl, q⟩ := h
    refine ⟨_, ((pss_one (ps_ret (pe_and (pe_callB call_isi (by rfl) T.n_isinstance boot_isinstance (pa_cons (pv 0) (pa_cons (pe_bltn (v := .ty "int") rfl T.n_int boot_int rfl) pa_nil))) (pe_one (pe_not (pe_callB call_isi (by rfl) T.n_isinstance boot_isinstance (pa_cons (pv 0) (pa_cons (pe_bltn (v := .ty "bool") rfl T.n_bool boot_bool rfl) pa_nil))))))))), ?_⟩
    walk_at "vc"
    exact q
def spHolds (C : Addr) : Sp := fun vs H Q _ => ∃ (v : V) (q : Rat) (t b : Int), vs = [v, .int t, .int b] ∧ Mo C H v q ∧ Sm 8000 q ∧ Bn 8000 t ∧ Bn 8000 b ∧ q.num * b = t * (q.den : Int) ∧ Q (.bl true) H
theorem c_holds {C : Addr} {v : V} {q : Rat} {t b : Int} {H : Hp} {Q : VK} {E : XK} (m : Mo C H v q) (sq : Sm 8000 q) (ht : Bn 8000 t) (hb : Bn 8000 b) (e : q.num * b = t * (q.den : Int)) (h : Q (.bl true) H) : spHolds C [v, .int t, .int b] H Q E := ⟨v, q, t, b, rfl, m, sq, ht, hb, e, h⟩
theorem ok__law_holds (T : Tx K mg) : FnOk P w K mg base CX0 2 T.a__law_holds T.d__law_holds ["_law_actual", "_law_top", "_law_bottom"] (spHolds T.C_Moment) := by
  refine T.F__law_holds.ok sc__law_holds (fun vs H Q E h => ?_) (fun cdv A outer s H vs Q E hr h => ?_)
  · obtain ⟨v, q, t, b, rfl, _⟩ := h
    rfl
  · obtain ⟨v, q, t, b, rfl, m, sq, ht, hb, e, k⟩ := h
    have G__law_gcd : FnOk P w K mg base CX0 1 T.a__law_gcd T.d__law_gcd ["_law_a", "_law_b"] spGcd := ok__law_gcd T
    have G__law_is_int : FnOk P w K mg base CX0 1 T.a__law_is_int T.d__law_is_int ["_law_actual"] spIsInt := ok__law_is_int T
    have hr__law_gcd : Room 1 _ := hr
    have hr__law_is_int : Room 1 _ := hr
    refine ⟨_, ((pss_cons (ps_if (PW.pt (pw_or (pt_not (pt_val (pe_callB call_isi (by rfl) T.n_isinstance boot_isinstance (pa_cons (pv 0) (pa_cons (pe_glob (v := .ref T.C_Moment) rfl T.g_Moment rfl) pa_nil))))) (pw_or (pt_not (pt_val (pe_call G__law_is_int hr__law_is_int rfl T.g__law_is_int T.F__law_is_int.kp T.b__law_is_int .nil pass0 (pa_cons (pe_fld (pv 0) rfl) pa_nil)))) (pw_or1 (pt_not (pt_val (pe_call G__law_is_int hr__law_is_int rfl T.g__law_is_int T.F__law_is_int.kp T.b__law_is_int .nil pass0 (pa_cons (pe_fld (pv 0) rfl) pa_nil)))))))) (pss_one (ps_ret pe_bl)) pss_nil)
 (pss_cons (ps_if (PW.pt (pw_or (pt_cmpR op_lt (pe_fld (pv 0) rfl) pe_int (nomark _)) (pw_or1 (pt_cmpR op_ne (pe_call G__law_gcd hr__law_gcd rfl T.g__law_gcd T.F__law_gcd.kp T.b__law_gcd .nil pass0 (pa_cons (pe_fld (pv 0) rfl) (pa_cons (pe_fld (pv 0) rfl) pa_nil))) pe_int (nomark _))))) (pss_one (ps_ret pe_bl)) pss_nil)
 (pss_one (ps_ret (pe_cmpR op_eq (pe_op op_mulW (pe_fld (pv 0) rfl) (pv 2)) (pe_op op_mulW (pv 1) (pe_fld (pv 0) rfl)) (nomark _))))))), ?_⟩
    walk_at "vc"
    refine w_moMo m ?_
    walk_at "vc"
    refine w_top m ?_
    walk_at "vc"
    refine c_isInt ?_
    walk_at "vc"
    refine w_bottom m ?_
    walk_at "vc"
    refine c_isInt ?_
    walk_at "vc"
    refine w_bottom m ?_
    walk_at "vc"
    have dp := den_pos q
    refine i_dec (fun z => absurd z (by omega)) (fun _ => ?_)
    walk_at "vc"
    refine w_top m ?_
    walk_at "vc"
    refine w_bottom m ?_
    walk_at "vc"
    refine c_gcd sq.num sq.den ?_
    rw [gcd_low]
    walk_at "vc"
    refine w_top m ?_
    walk_at "vc"
    refine w_rI (wide_mul (a := 8000) (b := 8000) sq.num hb (by decide) (by decide) (by decide)) ?_
    walk_at "vc"
    refine w_bottom m ?_
    walk_at "vc"
    refine w_rI (wide_mul (a := 8000) (b := 8000) ht sq.den (by decide) (by decide) (by decide)) ?_
    walk_at "vc"
    rw [decide_eq_true e]
    exact k
end
end AT
namespace AT
open PySem PySem.Spec PyProof.Rows L2
theorem rat_int {q : Rat} {i : Int} : q = (i : Rat) ↔ (q.den : Int) = 1 ∧ q.num = i := by
  constructor
  · rintro rfl
    exact ⟨by simp, by simp⟩
  · rintro ⟨h1, h2⟩
    refine Rat.ext ?_ ?_
    · simpa using h2
    · simp; omega
theorem rat_two {q r : Rat} : q = r ↔ q.num = r.num ∧ (q.den : Int) = (r.den : Int) := by
  constructor
  · rintro rfl
    exact ⟨rfl, rfl⟩
  · rintro ⟨h1, h2⟩
    exact Rat.ext h1 (by omega)
section
variable {P : Program} {w : World} {K : PySem.W.Frag} {mg : Str → Option Value} {base : Heap}
/-- == of a moment: with an int, with a moment, with another kind -/
def spEqM (K : PySem.W.Frag) (C : Addr) : Sp := fun vs H Q _ => ∃ (v y : V) (q : Rat), vs = [v, y] ∧ Mo C H v q ∧
  ((∃ i : Int, y = .int i ∧ Q (.bl (decide (q = (i : Rat)))) H) ∨ (∃ r : Rat, Mo C H y r ∧ Q (.bl (decide (q = r))) H) ∨
    (∃ t, TyX K H y (.type t) ∧ kitB t "int" = some false ∧ PySem.W.subIn K (.type t) (.ref C) = some false ∧ Q (.bl false) H))
theorem ok_Moment___eq__ (T : Tx K mg) : FnOk P w K mg base CX0 1 T.a_Moment___eq__ T.d_Moment___eq__ ["self", "other"] (spEqM K T.C_Moment) := by
  refine T.F_Moment___eq__.ok sc_Moment___eq__ (fun vs H Q E h => ?_) (fun cdv A outer s H vs Q E hr h => ?_)
  · obtain ⟨v, y, q, rfl, _⟩ := h
    rfl
  · obtain ⟨v, y, q, rfl, m, h⟩ := h
    refine ⟨_, ((pss_cons (ps_if (pt_val (pe_callB call_isi (by rfl) T.n_isinstance boot_isinstance (pa_cons (pv 1) (pa_cons (pe_bltn (v := .ty "int") rfl T.n_int boot_int rfl) pa_nil)))) (pss_one (ps_ret (pe_and (pe_cmpR op_eq (pe_fld (pv 0) rfl) pe_int (nomark _)) (pe_one (pe_cmpR op_eq (pe_fld (pv 0) rfl) (pv 1) (nomark _)))))) pss_nil)
 (pss_cons (ps_if (pt_val (pe_callB call_isi (by rfl) T.n_isinstance boot_isinstance (pa_cons (pv 1) (pa_cons (pe_glob (v := .ref T.C_Moment) rfl T.g_Moment rfl) pa_nil)))) (pss_one (ps_ret (pe_and (pe_cmpR op_eq (pe_fld (pv 0) rfl) (pe_fld (pv 1) rfl) (nomark _)) (pe_one (pe_cmpR op_eq (pe_fld (pv 0) rfl) (pe_fld (pv 1) rfl) (nomark _)))))) pss_nil)
 (pss_one (ps_ret pe_bl))))), ?_⟩
    rcases h with ⟨i, rfl, k⟩ | ⟨r, m2, k⟩ | ⟨t, ty, k1, k2, k⟩
    · walk_at "vc"
      refine w_bottom m ?_
      walk_at "vc"
      refine i_dec (fun h1 => ?_) (fun h1 => ?_)
      · walk_at "vc"
        refine w_top m ?_
        walk_at "vc"
        have e : decide (q.num = i) = decide (q = (i : Rat)) := by rw [decide_eq_decide, rat_int]; simp [h1]
        rw [e]
        exact k
      · walk_at "vc"
        have e : decide (q = (i : Rat)) = false := decide_eq_false fun z => h1 (rat_int.mp z).1
        rw [e] at k
        exact k
    · walk_at "vc"
      refine w_moInt m2 ?_
      walk_at "vc"
      refine w_moMo m2 ?_
      walk_at "vc"
      refine w_top m ?_
      walk_at "vc"
      refine w_top m2 ?_
      walk_at "vc"
      refine i_dec (fun h1 => ?_) (fun h1 => ?_)
      · walk_at "vc"
        refine w_bottom m ?_
        walk_at "vc"
        refine w_bottom m2 ?_
        walk_at "vc"
        have e : decide ((q.den : Int) = (r.den : Int)) = decide (q = r) := by rw [decide_eq_decide, rat_two]; simp [h1]
        rw [e]
        exact k
      · walk_at "vc"
        have e : decide (q = r) = false := decide_eq_false fun z => h1 (rat_two.mp z).1
        rw [e] at k
        exact k
    · walk_at "vc"
      refine w_isi (.ty "int") ty (kit_ty k1) ?_
      walk_at "vc"
      refine w_tyMo ty k2 ?_
      walk_at "vc"
      exact k
theorem nf_self {C : Addr} : PySem.W.notFirst K C (.ref C) = true := by simp [PySem.W.notFirst]
theorem nf_ty {C : Addr} {t : String} (h : PySem.W.subIn K (.type t) (.ref C) = some false) : PySem.W.notFirst K C (.type t) = true := by simp [PySem.W.notFirst, h]
theorem w_eqMM {T : Tx K mg} {v y : V} {q r : Rat} {H : Hp} {Q : VK} {E : XK} (h1 : Mo T.C_Moment H v q) (h2 : Mo T.C_Moment H y r) (k : Q (.bl (decide (q = r))) H) : rCmpIns K T.C_Moment (spEqM K T.C_Moment) E v y H Q := by
  obtain ⟨a, dx, rfl, z⟩ := id h1
  exact ⟨a, dx, _, _, rfl, z, h2.ty, nf_self, _, _, q, rfl, h1, .inr (.inl ⟨r, h2, k⟩)⟩
theorem w_neMM {T : Tx K mg} {v y : V} {q r : Rat} {H : Hp} {Q : VK} {E : XK} (h1 : Mo T.C_Moment H v q) (h2 : Mo T.C_Moment H y r) (k : Q (.bl (!decide (q = r))) H) : rNeIns K T.C_Moment (spEqM K T.C_Moment) E v y H Q := by
  obtain ⟨a, dx, rfl, z⟩ := id h1
  exact ⟨a, dx, _, _, rfl, z, h2.ty, nf_self, _, _, q, rfl, h1, .inr (.inl ⟨r, h2, _, rfl, k⟩)⟩
end
end AT
namespace AT
open PySem PySem.Spec PyProof.Rows L2
section
variable {P : Program} {w : World} {K : PySem.W.Frag} {mg : Str → Option Value} {base : Heap}
/-- an order of v and y -/
def spCmp (f : Rat → Rat → Bool) (C : Addr) : Sp := fun vs H Q _ => ∃ (v y : V) (q r : Rat), vs = [v, y] ∧ Mo C H v q ∧ Sm 3900 q ∧ Opd 3900 C H y r ∧ Q (.bl (f q r)) H
theorem ok_Moment___lt__ (T : Tx K mg) : FnOk P w K mg base CX0 1 T.a_Moment___lt__ T.d_Moment___lt__ ["self", "other"] (spCmp (fun q r => decide (q < r)) T.C_Moment) := by
  refine T.F_Moment___lt__.ok sc_Moment___lt__ (fun vs H Q E h => ?_) (fun cdv A outer s H vs Q E hr h => ?_)
  · obtain ⟨v, y, q, r, rfl, _⟩ := h
    rfl
  · obtain ⟨v, y, q, r, rfl, m, sq, ho, k⟩ := h
    refine ⟨_, ((pss_cons (ps_if (pt_val (pe_callB call_isi (by rfl) T.n_isinstance boot_isinstance (pa_cons (pv 1) (pa_cons (pe_bltn (v := .ty "int") rfl T.n_int boot_int rfl) pa_nil)))) (pss_one (ps_ret (pe_cmpR op_lt (pe_fld (pv 0) rfl) (pe_op op_mulW (pv 1) (pe_fld (pv 0) rfl)) (nomark _)))) pss_nil)
 (pss_cons (ps_if (pt_val (pe_callB call_isi (by rfl) T.n_isinstance boot_isinstance (pa_cons (pv 1) (pa_cons (pe_glob (v := .ref T.C_Moment) rfl T.g_Moment rfl) pa_nil)))) (pss_one (ps_ret (pe_cmpR op_lt (pe_op op_mulW (pe_fld (pv 0) rfl) (pe_fld (pv 1) rfl)) (pe_op op_mulW (pe_fld (pv 1) rfl) (pe_fld (pv 0) rfl)) (nomark _)))) pss_nil)
 (pss_one ps_never)))), ?_⟩
    rcases ho with ⟨i, rfl, rfl, bi⟩ | ⟨m2, s2⟩
    · walk_at "vc"
      refine w_top m ?_
      walk_at "vc"
      refine w_bottom m ?_
      walk_at "vc"
      refine w_m39 bi sq.den ?_
      walk_at "vc"
      have e : decide (q.num < i * (q.den : Int)) = decide (q < (i : Rat)) := by rw [decide_eq_decide]; exact ltI q i
      rw [e]
      exact k
    · walk_at "vc"
      refine w_moInt m2 ?_
      walk_at "vc"
      refine w_moMo m2 ?_
      walk_at "vc"
      refine w_top m ?_
      walk_at "vc"
      refine w_bottom m2 ?_
      walk_at "vc"
      refine w_m39 sq.num s2.den ?_
      walk_at "vc"
      refine w_top m2 ?_
      walk_at "vc"
      refine w_bottom m ?_
      walk_at "vc"
      refine w_m39 s2.num sq.den ?_
      walk_at "vc"
      have e : decide (q.num * (r.den : Int) < r.num * (q.den : Int)) = decide (q < r) := by rw [decide_eq_decide, Rat.lt_iff]
      rw [e]
      exact k
theorem ok_Moment___le__ (T : Tx K mg) : FnOk P w K mg base CX0 1 T.a_Moment___le__ T.d_Moment___le__ ["self", "other"] (spCmp (fun q r => decide (q ≤ r)) T.C_Moment) := by
  refine T.F_Moment___le__.ok sc_Moment___le__ (fun vs H Q E h => ?_) (fun cdv A outer s H vs Q E hr h => ?_)
  · obtain ⟨v, y, q, r, rfl, _⟩ := h
    rfl
  · obtain ⟨v, y, q, r, rfl, m, sq, ho, k⟩ := h
    refine ⟨_, ((pss_cons (ps_if (pt_val (pe_callB call_isi (by rfl) T.n_isinstance boot_isinstance (pa_cons (pv 1) (pa_cons (pe_bltn (v := .ty "int") rfl T.n_int boot_int rfl) pa_nil)))) (pss_one (ps_ret (pe_cmpR op_le (pe_fld (pv 0) rfl) (pe_op op_mulW (pv 1) (pe_fld (pv 0) rfl)) (nomark _)))) pss_nil)
 (pss_cons (ps_if (pt_val (pe_callB call_isi (by rfl) T.n_isinstance boot_isinstance (pa_cons (pv 1) (pa_cons (pe_glob (v := .ref T.C_Moment) rfl T.g_Moment rfl) pa_nil)))) (pss_one (ps_ret (pe_cmpR op_le (pe_op op_mulW (pe_fld (pv 0) rfl) (pe_fld (pv 1) rfl)) (pe_op op_mulW (pe_fld (pv 1) rfl) (pe_fld (pv 0) rfl)) (nomark _)))) pss_nil)
 (pss_one ps_never)))), ?_⟩
    rcases ho with ⟨i, rfl, rfl, bi⟩ | ⟨m2, s2⟩
    · walk_at "vc"
      refine w_top m ?_
      walk_at "vc"
      refine w_bottom m ?_
      walk_at "vc"
      refine w_m39 bi sq.den ?_
      walk_at "vc"
      have e : decide (q.num ≤ i * (q.den : Int)) = decide (q ≤ (i : Rat)) := by rw [decide_eq_decide]; exact leI q i
      rw [e]
      exact k
    · walk_at "vc"
      refine w_moInt m2 ?_
      walk_at "vc"
      refine w_moMo m2 ?_
      walk_at "vc"
      refine w_top m ?_
      walk_at "vc"
      refine w_bottom m2 ?_
      walk_at "vc"
      refine w_m39 sq.num s2.den ?_
      walk_at "vc"
      refine w_top m2 ?_
      walk_at "vc"
      refine w_bottom m ?_
      walk_at "vc"
      refine w_m39 s2.num sq.den ?_
      walk_at "vc"
      have e : decide (q.num * (r.den : Int) ≤ r.num * (q.den : Int)) = decide (q ≤ r) := by rw [decide_eq_decide, Rat.le_iff]
      rw [e]
      exact k
theorem ok_Moment___gt__ (T : Tx K mg) : FnOk P w K mg base CX0 1 T.a_Moment___gt__ T.d_Moment___gt__ ["self", "other"] (spCmp (fun q r => decide (r < q)) T.C_Moment) := by
  refine T.F_Moment___gt__.ok sc_Moment___gt__ (fun vs H Q E h => ?_) (fun cdv A outer s H vs Q E hr h => ?_)
  · obtain ⟨v, y, q, r, rfl, _⟩ := h
    rfl
  · obtain ⟨v, y, q, r, rfl, m, sq, ho, k⟩ := h
    refine ⟨_, ((pss_cons (ps_if (pt_val (pe_callB call_isi (by rfl) T.n_isinstance boot_isinstance (pa_cons (pv 1) (pa_cons (pe_bltn (v := .ty "int") rfl T.n_int boot_int rfl) pa_nil)))) (pss_one (ps_ret (pe_cmpR op_gt (pe_fld (pv 0) rfl) (pe_op op_mulW (pv 1) (pe_fld (pv 0) rfl)) (nomark _)))) pss_nil)
 (pss_cons (ps_if (pt_val (pe_callB call_isi (by rfl) T.n_isinstance boot_isinstance (pa_cons (pv 1) (pa_cons (pe_glob (v := .ref T.C_Moment) rfl T.g_Moment rfl) pa_nil)))) (pss_one (ps_ret (pe_cmpR op_gt (pe_op op_mulW (pe_fld (pv 0) rfl) (pe_fld (pv 1) rfl)) (pe_op op_mulW (pe_fld (pv 1) rfl) (pe_fld (pv 0) rfl)) (nomark _)))) pss_nil)
 (pss_one ps_never)))), ?_⟩
    rcases ho with ⟨i, rfl, rfl, bi⟩ | ⟨m2, s2⟩
    · walk_at "vc"
      refine w_top m ?_
      walk_at "vc"
      refine w_bottom m ?_
      walk_at "vc"
      refine w_m39 bi sq.den ?_
      walk_at "vc"
      have e : decide (q.num > i * (q.den : Int)) = decide ((i : Rat) < q) := by rw [decide_eq_decide]; exact gtI q i
      rw [e]
      exact k
    · walk_at "vc"
      refine w_moInt m2 ?_
      walk_at "vc"
      refine w_moMo m2 ?_
      walk_at "vc"
      refine w_top m ?_
      walk_at "vc"
      refine w_bottom m2 ?_
      walk_at "vc"
      refine w_m39 sq.num s2.den ?_
      walk_at "vc"
      refine w_top m2 ?_
      walk_at "vc"
      refine w_bottom m ?_
      walk_at "vc"
      refine w_m39 s2.num sq.den ?_
      walk_at "vc"
      have e : decide (q.num * (r.den : Int) > r.num * (q.den : Int)) = decide (r < q) := by rw [decide_eq_decide, Rat.lt_iff]
      rw [e]
      exact k
theorem ok_Moment___ge__ (T : Tx K mg) : FnOk P w K mg base CX0 1 T.a_Moment___ge__ T.d_Moment___ge__ ["self", "other"] (spCmp (fun q r => decide (r ≤ q)) T.C_Moment) := by
  refine T.F_Moment___ge__.ok sc_Moment___ge__ (fun vs H Q E h => ?_) (fun cdv A outer s H vs Q E hr h => ?_)
  · obtain ⟨v, y, q, r, rfl, _⟩ := h
    rfl
  · obtain ⟨v, y, q, r, rfl, m, sq, ho, k⟩ := h
    refine ⟨_, ((pss_cons (ps_if (pt_val (pe_callB call_isi (by rfl) T.n_isinstance boot_isinstance (pa_cons (pv 1) (pa_cons (pe_bltn (v := .ty "int") rfl T.n_int boot_int rfl) pa_nil)))) (pss_one (ps_ret (pe_cmpR op_ge (pe_fld (pv 0) rfl) (pe_op op_mulW (pv 1) (pe_fld (pv 0) rfl)) (nomark _)))) pss_nil)
 (pss_cons (ps_if (pt_val (pe_callB call_isi (by rfl) T.n_isinstance boot_isinstance (pa_cons (pv 1) (pa_cons (pe_glob (v := .ref T.C_Moment) rfl T.g_Moment rfl) pa_nil)))) (pss_one (ps_ret (pe_cmpR op_ge (pe_op op_mulW (pe_fld (pv 0) rfl) (pe_fld (pv 1) rfl)) (pe_op op_mulW (pe_fld (pv 1) rfl) (pe_fld (pv 0) rfl)) (nomark _)))) pss_nil)
 (pss_one ps_never)))), ?_⟩
    rcases ho with ⟨i, rfl, rfl, bi⟩ | ⟨m2, s2⟩
    · walk_at "vc"
      refine w_top m ?_
      walk_at "vc"
      refine w_bottom m ?_
      walk_at "vc"
      refine w_m39 bi sq.den ?_
      walk_at "vc"
      have e : decide (q.num ≥ i * (q.den : Int)) = decide ((i : Rat) ≤ q) := by rw [decide_eq_decide]; exact geI q i
      rw [e]
      exact k
    · walk_at "vc"
      refine w_moInt m2 ?_
      walk_at "vc"
      refine w_moMo m2 ?_
      walk_at "vc"
      refine w_top m ?_
      walk_at "vc"
      refine w_bottom m2 ?_
      walk_at "vc"
      refine w_m39 sq.num s2.den ?_
      walk_at "vc"
      refine w_top m2 ?_
      walk_at "vc"
      refine w_bottom m ?_
      walk_at "vc"
      refine w_m39 s2.num sq.den ?_
      walk_at "vc"
      have e : decide (q.num * (r.den : Int) ≥ r.num * (q.den : Int)) = decide (r ≤ q) := by rw [decide_eq_decide, Rat.le_iff]
      rw [e]
      exact k
end
end AT
namespace AT
open PySem PySem.Spec PyProof.Rows L2
section
variable {P : Program} {w : World} {K : PySem.W.Frag} {mg : Str → Option Value} {base : Heap}
theorem rIns_of {C : Addr} {sp : Sp} {n : Nat} {v y : V} {q r : Rat} {H : Hp} {Q : VK} {E : XK} (m : Mo C H v q) (o : Opd n C H y r) (k : sp [v, y] H Q E) : rIns C sp E v y H Q := by
  obtain ⟨a, dx, rfl, z⟩ := id m
  refine ⟨a, dx, _, rfl, z, ?_, k⟩
  rcases o with ⟨i, rfl, _⟩ | ⟨⟨b, dy, rfl, z2⟩, _⟩
  · exact .inl ⟨i, rfl⟩
  · exact .inr ⟨b, dy, _, rfl, z2⟩
theorem rIntIns_of {C : Addr} {sp : Sp} {v : V} {i : Int} {q : Rat} {H : Hp} {Q : VK} {E : XK} (m : Mo C H v q) (k : sp [v, .int i] H Q E) : rIntIns C sp E (.int i) v H Q := by
  obtain ⟨a, dx, rfl, z⟩ := id m
  exact ⟨i, a, dx, _, rfl, rfl, z, k⟩
end
end AT
namespace AT
open PySem PySem.Spec PyProof.Rows L2
section
variable {P : Program} {w : World} {K : PySem.W.Frag} {mg : Str → Option Value} {base : Heap}
/-- a pair of ints, in lowest terms: worth q -/
def PrQ (K : PySem.W.Frag) (H : Hp) (v : V) (q : Rat) : Prop := ∃ p, v = .ref p ∧ SqT K H p [.int q.num, .int (q.den : Int)]
theorem PrQ.up {H H' : Hp} {v : V} {q : Rat} (e : Ext H H') (h : PrQ K H v q) : PrQ K H' v q := by
  obtain ⟨p, rfl, u⟩ := h
  exact ⟨p, rfl, e.seqT u⟩
def spLow (K : PySem.W.Frag) : Sp := fun vs H Q _ => ∃ t b : Int, vs = [.int t, .int b] ∧ 0 < b ∧ Bn 8000 t ∧ Bn 8000 b ∧ ∀ p H', Ext H H' → PrQ K H' (.ref p) (Rat.divInt t b) → Q (.ref p) H'
theorem c_low {t b : Int} {H : Hp} {Q : VK} {E : XK} (h0 : 0 < b) (ht : Bn 8000 t) (hb : Bn 8000 b) (k : ∀ p H', Ext H H' → PrQ K H' (.ref p) (Rat.divInt t b) → Q (.ref p) H') : spLow K [.int t, .int b] H Q E := ⟨t, b, rfl, h0, ht, hb, k⟩
theorem ok__law_low (T : Tx K mg) : FnOk P w K mg base CX0 2 T.a__law_low T.d__law_low ["_law_top", "_law_bottom"] (spLow K) := by
  refine T.F__law_low.ok sc__law_low (fun vs H Q E h => ?_) (fun cdv A outer s H vs Q E hr h => ?_)
  · obtain ⟨t, b, rfl, _⟩ := h
    rfl
  · obtain ⟨t, b, rfl, h0, ht, hb, k⟩ := h
    have G__law_gcd : FnOk P w K mg base CX0 1 T.a__law_gcd T.d__law_gcd ["_law_a", "_law_b"] spGcd := ok__law_gcd T
    have hr__law_gcd : Room 1 _ := hr
    refine ⟨_, ((pss_cons (ps_set (i := 2) sc__law_low.nd rfl (Or.inl rfl) (pe_call G__law_gcd hr__law_gcd rfl T.g__law_gcd T.F__law_gcd.kp T.b__law_gcd .nil pass0 (pa_cons (pv 0) (pa_cons (pv 1) pa_nil))))
 (pss_one (ps_ret (pe_tup (pa_cons (pe_op op_fdivG (pv 0) (pv 2)) (pa_cons (pe_op op_fdivG (pv 1) (pv 2)) pa_nil))))))), ?_⟩
    walk_at "vc"
    refine c_gcd ht hb ?_
    walk_at "vc"
    have hn : b ≠ 0 := by omega
    have hp := part_ne (t := t) hn
    have pb : Bn 8000 (part t b) := part_bn ht hb hn
    have e : (Int.gcd t b : Int) = part t b := by unfold part; rw [if_neg (by omega)]
    rw [e]
    refine w_rI ⟨hp, pb.log' (by decide)⟩ ?_
    walk_at "vc"
    refine w_rI ⟨hp, pb.log' (by decide)⟩ ?_
    walk_at "vc"
    rw [num_eq hn, den_eq hn]
    exact n_tup (by show 2 ≤ 100000; decide) fun p H1 _ e1 u1 => k p H1 e1 ⟨p, rfl, SqT.of u1⟩
def spAddQ (K : PySem.W.Frag) : Sp := fun vs H Q _ => ∃ (x : V) (p2 : Addr) (q : Rat) (t b : Int), vs = [x, .ref p2] ∧ PrQ K H x q ∧ SqT K H p2 [.int t, .int b] ∧ 0 < b ∧ Sm 3900 q ∧ Bn 3900 t ∧ Bn 3900 b ∧ ∀ p H', Ext H H' → PrQ K H' (.ref p) (q + Rat.divInt t b) → Q (.ref p) H'
theorem add_eqI (q : Rat) {t b : Int} (h : b ≠ 0) : Rat.divInt (q.num * b + t * q.den) (q.den * b) = q + Rat.divInt t b := by
  conv => rhs; rw [qd q]
  rw [Rat.divInt_add_divInt _ _ (dne q) h]
theorem c_addQ {x : V} {p2 : Addr} {q : Rat} {t b : Int} {H : Hp} {Q : VK} {E : XK} (h : PrQ K H x q) (u : SqT K H p2 [.int t, .int b]) (h0 : 0 < b) (sq : Sm 3900 q) (bt : Bn 3900 t) (bb : Bn 3900 b) (k : ∀ p H', Ext H H' → PrQ K H' (.ref p) (q + Rat.divInt t b) → Q (.ref p) H') : spAddQ K [x, .ref p2] H Q E := ⟨x, p2, q, t, b, rfl, h, u, h0, sq, bt, bb, k⟩
theorem ok__law_add (T : Tx K mg) : FnOk P w K mg base CX0 3 T.a__law_add T.d__law_add ["_law_a", "_law_b"] (spAddQ K) := by
  refine T.F__law_add.ok sc__law_add (fun vs H Q E h => ?_) (fun cdv A outer s H vs Q E hr h => ?_)
  · obtain ⟨x, y, q, t, b, rfl, _⟩ := h
    rfl
  · obtain ⟨x, p2, q, t, b, rfl, ⟨p1, rfl, u1⟩, u2, h0, sq, bt, bb, k⟩ := h
    have G__law_low : FnOk P w K mg base CX0 2 T.a__law_low T.d__law_low ["_law_top", "_law_bottom"] (spLow K) := ok__law_low T
    have hr__law_low : Room 2 _ := hr
    refine ⟨_, ((pss_one (ps_ret (pe_call G__law_low hr__law_low rfl T.g__law_low T.F__law_low.kp T.b__law_low .nil pass0 (pa_cons (pe_op op_add (pe_op op_mulW (pe_ix ix_tup (pv 0) pe_int (fun _ _ => rfl)) (pe_ix ix_tup (pv 1) pe_int (fun _ _ => rfl))) (pe_op op_mulW (pe_ix ix_tup (pv 1) pe_int (fun _ _ => rfl)) (pe_ix ix_tup (pv 0) pe_int (fun _ _ => rfl)))) (pa_cons (pe_op op_mulW (pe_ix ix_tup (pv 0) pe_int (fun _ _ => rfl)) (pe_ix ix_tup (pv 1) pe_int (fun _ _ => rfl))) pa_nil)))))), ?_⟩
    walk_at "vc"
    refine w_ixT u1 rfl ?_
    walk_at "vc"
    refine w_ixT u2 rfl ?_
    walk_at "vc"
    refine w_m39 sq.num bb ?_
    walk_at "vc"
    refine w_ixT u2 rfl ?_
    walk_at "vc"
    refine w_ixT u1 rfl ?_
    walk_at "vc"
    refine w_m39 bt sq.den ?_
    walk_at "vc"
    refine w_ixT u1 rfl ?_
    walk_at "vc"
    refine w_ixT u2 rfl ?_
    walk_at "vc"
    refine w_m39 sq.den bb ?_
    walk_at "vc"
    refine c_low (Int.mul_pos (den_pos q) h0) (bn_addM sq.num bb bt sq.den) (bn_mulU sq.den bb) fun p H1 e1 m => ?_
    rw [add_eqI q (by omega)] at m
    exact k p H1 e1 m
def spUnder (K : PySem.W.Frag) : Sp := fun vs H Q _ => ∃ (x y : V) (q r : Rat), vs = [x, y] ∧ PrQ K H x q ∧ PrQ K H y r ∧ Sm 3900 q ∧ Sm 3900 r ∧ Q (.bl (decide (q < r))) H
theorem ok__law_under (T : Tx K mg) : FnOk P w K mg base CX0 1 T.a__law_under T.d__law_under ["_law_a", "_law_b"] (spUnder K) := by
  refine T.F__law_under.ok sc__law_under (fun vs H Q E h => ?_) (fun cdv A outer s H vs Q E hr h => ?_)
  · obtain ⟨x, y, q, r, rfl, _⟩ := h
    rfl
  · obtain ⟨x, y, q, r, rfl, ⟨p1, rfl, u1⟩, ⟨p2, rfl, u2⟩, sq, sr, k⟩ := h
    refine ⟨_, ((pss_one (ps_ret (pe_cmpR op_lt (pe_op op_mulW (pe_ix ix_tup (pv 0) pe_int (fun _ _ => rfl)) (pe_ix ix_tup (pv 1) pe_int (fun _ _ => rfl))) (pe_op op_mulW (pe_ix ix_tup (pv 1) pe_int (fun _ _ => rfl)) (pe_ix ix_tup (pv 0) pe_int (fun _ _ => rfl))) (nomark _))))), ?_⟩
    walk_at "vc"
    refine w_ixT u1 rfl ?_
    walk_at "vc"
    refine w_ixT u2 rfl ?_
    walk_at "vc"
    refine w_m39 sq.num sr.den ?_
    walk_at "vc"
    refine w_ixT u2 rfl ?_
    walk_at "vc"
    refine w_ixT u1 rfl ?_
    walk_at "vc"
    refine w_m39 sr.num sq.den ?_
    walk_at "vc"
    have e : decide (q.num * (r.den : Int) < r.num * (q.den : Int)) = decide (q < r) := by rw [decide_eq_decide, Rat.lt_iff]
    rw [e]
    exact k
/-- a time, passed as an int where it is one and plain is 1 -/
def spPassed (K : PySem.W.Frag) (C : Addr) : Sp := fun vs H Q _ => ∃ (x : V) (q : Rat) (pl : Int), vs = [x, .int pl] ∧ PrQ K H x q ∧ Sm 3900 q ∧ ∀ y H', Ext H H' → Opd 3900 C H' y q → ((∃ i, y = .int i) ↔ (q.den : Int) = 1 ∧ pl = 1) → Q y H'
theorem ok__law_passed (T : Tx K mg) : FnOk P w K mg base CX0 5 T.a__law_passed T.d__law_passed ["_law_pair", "_law_plain"] (spPassed K T.C_Moment) := by
  refine T.F__law_passed.ok sc__law_passed (fun vs H Q E h => ?_) (fun cdv A outer s H vs Q E hr h => ?_)
  · obtain ⟨x, q, pl, rfl, _⟩ := h
    rfl
  · obtain ⟨x, q, pl, rfl, ⟨p1, rfl, u1⟩, sq, k⟩ := h
    have G_Moment___init__ : FnOk P w K mg base (L2.CX P w) 3 T.a_Moment___init__ T.d_Moment___init__ ["self", "top", "bottom"] (spMom T.C_Moment T.C_NoMoment) := ok_Moment___init__ T
    obtain ⟨ds3, V3_Moment___init__, B3_Moment___init__⟩ := mom_binds3 T
    have hr_Moment___init__ : Room 4 _ := hr
    refine ⟨_, ((pss_cons (ps_if (PW.pt (pw_and (pt_cmpR op_eq (pe_ix ix_tup (pv 0) pe_int (fun _ _ => rfl)) pe_int (nomark _)) (pw_and1 (pt_cmpR op_eq (pv 1) pe_int (nomark _))))) (pss_one (ps_ret (pe_ix ix_tup (pv 0) pe_int (fun _ _ => rfl)))) pss_nil)
 (pss_one (ps_ret (pe_makeR T.M_Moment G_Moment___init__ hr_Moment___init__ rfl T.g_Moment B3_Moment___init__ V3_Moment___init__ passL (pa_cons (pe_ix ix_tup (pv 0) pe_int (fun _ _ => rfl)) (pa_cons (pe_ix ix_tup (pv 0) pe_int (fun _ _ => rfl)) pa_nil))))))), ?_⟩
    have made : ∀ Q' : VK, (¬ ((q.den : Int) = 1 ∧ pl = 1)) → (∀ y H', Ext H H' → Opd 3900 T.C_Moment H' y q → ((∃ i, y = V.int i) ↔ (q.den : Int) = 1 ∧ pl = 1) → Q' y H') → ∀ E', rMakeS T.C_Moment (spMom T.C_Moment T.C_NoMoment) [] E' [.int q.num, .int (q.den : Int)] H Q' := fun Q' n kk E' =>
      w_mom rfl (bn_up sq.num) (bn_up sq.den) (dne q) fun p H1 e1 m => kk _ H1 e1 (.inr ⟨by rw [← qd] at m; exact m, sq⟩) ⟨fun ⟨i, z⟩ => (by cases z), fun z => absurd z n⟩
    walk_at "vc"
    refine w_ixT u1 rfl ?_
    walk_at "vc"
    refine i_dec (fun h1 => ?_) (fun h1 => ?_)
    · walk_at "vc"
      refine i_dec (fun h2 => ?_) (fun h2 => ?_)
      · walk_at "vc"
        refine w_ixT u1 rfl ?_
        refine k _ H (fun _ _ e => e) (.inl ⟨_, rfl, rat_int.mpr ⟨h1, rfl⟩, sq.num⟩) ⟨fun _ => ⟨h1, h2⟩, fun _ => ⟨_, rfl⟩⟩
      · walk_at "vc"
        refine w_ixT u1 rfl ?_
        walk_at "vc"
        refine w_ixT u1 rfl ?_
        walk_at "vc"
        exact made _ (fun z => h2 z.2) k _
    · walk_at "vc"
      refine w_ixT u1 rfl ?_
      walk_at "vc"
      refine w_ixT u1 rfl ?_
      walk_at "vc"
      exact made _ (fun z => h1 z.1) k _
end
end AT
namespace AT
open PySem PySem.Spec PyProof.Rows L2
section
variable {P : Program} {w : World} {K : PySem.W.Frag} {mg : Str → Option Value} {base : Heap}
def spAsM (C : Addr) : Sp := fun vs H Q _ => ∃ (y : V) (r : Rat), vs = [y] ∧ Opd 3900 C H y r ∧ ∀ p H', Ext H H' → Mo C H' (.ref p) r → Q (.ref p) H'
theorem c_asM {C : Addr} {y : V} {r : Rat} {H : Hp} {Q : VK} {E : XK} (o : Opd 3900 C H y r) (k : ∀ p H', Ext H H' → Mo C H' (.ref p) r → Q (.ref p) H') : spAsM C [y] H Q E := ⟨y, r, rfl, o, k⟩
theorem ok_as_moment (T : Tx K mg) : FnOk P w K mg base CX0 5 T.a_as_moment T.d_as_moment ["value"] (spAsM T.C_Moment) := by
  refine T.F_as_moment.ok sc_as_moment (fun vs H Q E h => ?_) (fun cdv A outer s H vs Q E hr h => ?_)
  · obtain ⟨y, r, rfl, _⟩ := h
    rfl
  · obtain ⟨y, r, rfl, o, k⟩ := h
    have G_Moment___init__ : FnOk P w K mg base (L2.CX P w) 3 T.a_Moment___init__ T.d_Moment___init__ ["self", "top", "bottom"] (spMom T.C_Moment T.C_NoMoment) := ok_Moment___init__ T
    obtain ⟨ds2, V2_Moment___init__, B2_Moment___init__⟩ := mom_binds2 T
    have hr_Moment___init__ : Room 4 _ := hr
    refine ⟨_, ((pss_cons (ps_if (pt_val (pe_callB call_isi (by rfl) T.n_isinstance boot_isinstance (pa_cons (pv 0) (pa_cons (pe_bltn (v := .ty "int") rfl T.n_int boot_int rfl) pa_nil)))) (pss_one (ps_ret (pe_makeR T.M_Moment G_Moment___init__ hr_Moment___init__ rfl T.g_Moment B2_Moment___init__ V2_Moment___init__ passL (pa_cons (pv 0) pa_nil)))) pss_nil)
 (pss_one (ps_ret (pv 0))))), ?_⟩
    rcases o with ⟨i, rfl, rfl, bi⟩ | ⟨m, sm⟩
    · walk_at "vc"
      refine w_mom rfl (bn_up bi) (by decide) (by decide) fun p H1 e m1 => ?_
      rw [divInt_one] at m1
      exact k p H1 e m1
    · walk_at "vc"
      refine w_moInt m ?_
      walk_at "vc"
      obtain ⟨a, dx, rfl, z⟩ := m
      exact k a H (fun _ _ e => e) ⟨a, dx, rfl, z⟩
end
end AT
namespace AT
open PySem PySem.Spec PyProof.Rows L2
/-- all but x stands -/
def ExtB (x : Addr) (H H' : Hp) : Prop := ∀ b o, H b = some o → b ≠ x → H' b = some o
theorem ExtB.of {x : Addr} {H H' : Hp} (e : Ext H H') : ExtB x H H' := fun b o h _ => e b o h
theorem ExtB.st {x : Addr} {H H' : Hp} {o : HO} (e : ExtB x H H') : ExtB x H (upd H' x o) := fun b u h n => by rw [upd_ne n]; exact e b u h n
theorem ExtB.t {x : Addr} {H H1 H2 : Hp} (a : ExtB x H H1) (b : ExtB x H1 H2) : ExtB x H H2 := fun q o h n => b q o (a q o h n) n
/-- the attributes of a mark -/
def mkF (t : V) (m0 m1 m2 m3 : V) : List (Str × V) := [("tone", t), ("begin", m0), ("end", m1), ("start", m2), ("stop", m3)]
/-- a moment that does not stand at x -/
def MoB (x : Addr) (C : Addr) (H : Hp) (v : V) (q : Rat) : Prop := ∃ a dx, v = .ref a ∧ a ≠ x ∧ H a = some (.ins C dx (momF q))
theorem MoB.up {x C : Addr} {H H' : Hp} {v : V} {q : Rat} (h : MoB x C H v q) (e : ExtB x H H') : MoB x C H' v q := by
  obtain ⟨a, dx, rfl, n, z⟩ := h
  exact ⟨a, dx, rfl, n, e _ _ z n⟩
theorem MoB.mo {x C : Addr} {H : Hp} {v : V} {q : Rat} (h : MoB x C H v q) : Mo C H v q := by
  obtain ⟨a, dx, rfl, n, z⟩ := h
  exact ⟨a, dx, rfl, z⟩
theorem momF_hd {q : Rat} {fs : List (Str × V)} (h : fs = momF q) : fs.head?.map (·.1) = some "top" := by rw [h]; rfl
theorem Mo.b {x C D dy : Addr} {fs : List (Str × V)} {H : Hp} {v : V} {q : Rat} (h : Mo C H v q) (hx : H x = some (.ins D (dy) fs)) (n : fs.head?.map (·.1) ≠ some ("top" : Str)) : MoB x C H v q := by
  obtain ⟨a, dx, rfl, z⟩ := h
  refine ⟨a, dx, rfl, fun e => ?_, z⟩
  subst e
  rw [z] at hx
  cases hx
  exact n rfl
/-- an int, or a moment that does not stand at x -/
def OpdB (x : Addr) (n : Nat) (C : Addr) (H : Hp) (y : V) (r : Rat) : Prop := (∃ i : Int, y = .int i ∧ r = (i : Rat) ∧ Bn n i) ∨ (MoB x C H y r ∧ Sm n r)
theorem OpdB.o {x : Addr} {n : Nat} {C : Addr} {H : Hp} {y : V} {r : Rat} (h : OpdB x n C H y r) : Opd n C H y r := h.imp id fun h => ⟨h.1.mo, h.2⟩
theorem OpdB.up {x : Addr} {n : Nat} {C : Addr} {H H' : Hp} {y : V} {r : Rat} (h : OpdB x n C H y r) (e : ExtB x H H') : OpdB x n C H' y r := h.imp id fun h => ⟨h.1.up e, h.2⟩
theorem Opd.b {x C D dy : Addr} {fs : List (Str × V)} {n : Nat} {H : Hp} {y : V} {r : Rat} (h : Opd n C H y r) (hx : H x = some (.ins D (dy) fs)) (m : fs.head?.map (·.1) ≠ some ("top" : Str)) : OpdB x n C H y r := h.imp id fun h => ⟨h.1.b hx m, h.2⟩
/-- the times of a mark are in order -/
def MkOk (q0 q1 q2 q3 : Rat) : Prop := q0 < q1 ∧ q0 ≤ q2 ∧ q2 < q3 ∧ q3 ≤ q1
section
variable {P : Program} {w : World} {K : PySem.W.Frag} {mg : Str → Option Value} {base : Heap}
/-- an error of three values -/
def spErr3 (C : Addr) (f g h : Str) : Sp := fun vs H Q _ => ∃ (a : Addr) (x y z : V), vs = [.ref a, x, y, z] ∧ H a = some (exo a C none) ∧
  ∀ d H', H d = none → H' a = some (exo a C (some d)) → H' d = some (exd d [(h, z), (g, y), (f, x)]) → (∀ b o, H b = some o → b ≠ a → H' b = some o) → Q .non H'
theorem ok_NoMark___init__ (T : Tx K mg) : FnOk P w K mg base CX0 1 T.a_NoMark___init__ T.d_NoMark___init__ ["self", "tone", "begin", "end"] (spErr3 T.C_NoMark "tone" "begin" "end") := by
  refine T.F_NoMark___init__.ok sc_NoMark___init__ (fun vs H Q E h => ?_) (fun cdv A outer s H vs Q E hr h => ?_)
  · obtain ⟨a, x, y, z, rfl, _⟩ := h
    rfl
  · obtain ⟨a, x, y, z, rfl, ha, k⟩ := h
    refine ⟨_, ((pss_cons (ps_expr (pe_clsinit rfl T.g_AnytuneError T.rd_AnytuneError T.in_AnytuneError (pa_cons (pv 0) (pa_cons pe_str pa_nil))))
 (pss_cons (ps_ost (pv 0) (pv 1))
 (pss_cons (ps_ost (pv 0) (pv 2))
 (pss_one (ps_ost (pv 0) (pv 3))))))), ?_⟩
    refine ⟨_, rfl, a, T.C_NoMark, _, rfl, by decide, T.ox_NoMark, ha, ?_⟩
    refine ⟨_, rfl, _, rfl, a, T.C_NoMark, rfl, T.ox_NoMark, T.na_NoMark_tone, .inl ⟨ha, fun dx nd ne => ?_⟩⟩
    refine ⟨_, rfl, _, rfl, a, T.C_NoMark, rfl, T.ox_NoMark, T.na_NoMark_begin, .inr ⟨dx, _, upd_same, by rw [upd_ne ne, upd_same], (by show 1 ≤ 900; decide), ?_⟩⟩
    refine ⟨_, rfl, _, rfl, a, T.C_NoMark, rfl, T.ox_NoMark, T.na_NoMark_end, .inr ⟨dx, _, by rw [upd_ne (Ne.symm ne), upd_same], upd_same, (by show 2 ≤ 900; decide), ?_⟩⟩
    refine k dx _ nd (by rw [upd_ne (Ne.symm ne), upd_ne (Ne.symm ne), upd_same]) upd_same fun b o e hb => ?_
    rw [upd_ne (ne_of_none e nd), upd_ne (ne_of_none e nd), upd_ne hb, upd_ne (ne_of_none e nd)]
    exact e
theorem Opd.ty' {T : Tx K mg} {H : Hp} {y : V} {r : Rat} (h : Opd 3900 T.C_Moment H y r) : ∃ ty, TyX K H y ty ∧ PySem.W.notFirst K T.C_Moment ty = true := by
  rcases h with ⟨i, rfl, _, _⟩ | ⟨m, _⟩
  · exact ⟨_, .base (.int i), nf_ty T.z_Moment_int⟩
  · exact ⟨_, m.ty, nf_self⟩
/-- an order of two times, both of any kind -/
theorem r_cmp3 {T : Tx K mg} {f g : Rat → Rat → Bool} {c : Int → Int → Bool} {H : Hp} {x y : V} {q r : Rat} {Q : VK} {E E' : XK} (hx : Opd 3900 T.C_Moment H x q) (hy : Opd 3900 T.C_Moment H y r) (hfg : g r q = f q r) (hc : ∀ i j : Int, c i j = f (i : Rat) (j : Rat)) (k : Q (.bl (f q r)) H) :
    rOr2 (rI0 fun i j => .bl (c i j)) (rOr2 (rCmpIns K T.C_Moment (spCmp f T.C_Moment) E) (rIntIns T.C_Moment (spCmp g T.C_Moment) E')) x y H Q := by
  rcases hx with ⟨i, rfl, rfl, bi⟩ | ⟨m, s⟩
  · rcases hy with ⟨j, rfl, rfl, bj⟩ | ⟨m, s⟩
    · exact .inl ⟨i, j, rfl, rfl, by show Q (.bl (c i j)) H; rw [hc]; exact k⟩
    · exact .inr (.inr (rIntIns_of m ⟨_, _, r, _, rfl, m, s, Opd.int bi, by rw [hfg]; exact k⟩))
  · obtain ⟨a, dx, rfl, z⟩ := id m
    obtain ⟨ty, t1, t2⟩ := hy.ty'
    exact .inr (.inl ⟨a, dx, _, ty, rfl, z, t1, t2, _, _, q, r, rfl, m, s, hy, k⟩)
theorem ltc (i j : Int) : decide (i < j) = decide ((i : Rat) < (j : Rat)) := by rw [decide_eq_decide]; exact Rat.intCast_lt_intCast.symm
theorem lec (i j : Int) : decide (i ≤ j) = decide ((i : Rat) ≤ (j : Rat)) := by rw [decide_eq_decide]; exact Rat.intCast_le_intCast.symm
theorem putF_n {f g : Str} {v w : V} {r : List (Str × V)} (h : ¬ g = f) : putF f v ((g, w) :: r) = (g, w) :: putF f v r := by
  show (if g = f then _ else _) = _
  rw [if_neg h]
theorem mkF1 {t : V} : putF "tone" t ([] : List (Str × V)) = ([("tone", t)] : List (Str × V)) := rfl
theorem mkF2 {t m0 : V} : putF "begin" m0 ([("tone", t)] : List (Str × V)) = ([("tone", t), ("begin", m0)] : List (Str × V)) := by rw [putF_n (by decide)]; rfl
theorem mkF3 {t m0 m1 : V} : putF "end" m1 ([("tone", t), ("begin", m0)] : List (Str × V)) = ([("tone", t), ("begin", m0), ("end", m1)] : List (Str × V)) := by rw [putF_n (by decide), putF_n (by decide)]; rfl
theorem mkF4 {t m0 m1 m2 : V} : putF "start" m2 ([("tone", t), ("begin", m0), ("end", m1)] : List (Str × V)) = ([("tone", t), ("begin", m0), ("end", m1), ("start", m2)] : List (Str × V)) := by rw [putF_n (by decide), putF_n (by decide), putF_n (by decide)]; rfl
theorem mkF5 {t m0 m1 m2 m3 : V} : putF "stop" m3 ([("tone", t), ("begin", m0), ("end", m1), ("start", m2)] : List (Str × V)) = (mkF t m0 m1 m2 m3 : List (Str × V)) := by rw [putF_n (by decide), putF_n (by decide), putF_n (by decide), putF_n (by decide)]; rfl
/-- self.f = v -/
theorem w_sf {C x dx : Addr} {f : Str} {v : V} {fs fs' : List (Str × V)} {H : Hp} {Q : Hp → Prop} (hx : H x = some (.ins C dx fs)) (c : Cls K C) (na : NoAttr K C f) (hl : fs.length < 1000) (hp : putF f v fs = fs') (k : ∀ H', ExtB x H H' → H' x = some (.ins C dx fs') → Q H') : rSFld K f (.ref x) v H Q :=
  ⟨x, C, dx, fs, rfl, hx, c, na, hl, k _ (ExtB.st fun b o h _ => h) (by rw [upd_same, hp])⟩
def spMark (C CM CE : Addr) : Sp := fun vs H Q E => ∃ (x dx : Addr) (t : Int) (b e st sp : V) (q0 q1 q2 q3 : Rat), vs = [.ref x, .int t, b, e, st, sp] ∧ H x = some (.ins C dx []) ∧ Opd 3900 CM H b q0 ∧ Opd 3900 CM H e q1 ∧
  ((st = .non ∧ q2 = q0) ∨ Opd 3900 CM H st q2) ∧ ((sp = .non ∧ q3 = q1) ∨ Opd 3900 CM H sp q3) ∧
  (¬ MkOk q0 q1 q2 q3 → ∀ d H', H d = none → Ext H H' → H' d = some (.xd [("end", e), ("begin", b), ("tone", .int t)]) → E (.ref CE) (some d) H') ∧
  (MkOk q0 q1 q2 q3 → ∀ H' m0 m1 m2 m3, ExtB x H H' → H' x = some (.ins C dx (mkF (.int t) m0 m1 m2 m3)) → Mo CM H' m0 q0 → Mo CM H' m1 q1 → Mo CM H' m2 q2 → Mo CM H' m3 q3 → Q .non H')
theorem Opd.nn {C : Addr} {H : Hp} {y : V} {r : Rat} (h : Opd 3900 C H y r) : y ≠ .non := by
  rintro rfl
  rcases h with ⟨i, e, _⟩ | ⟨⟨a, dx, e, _⟩, _⟩ <;> cases e
theorem ok_Mark___init__ (T : Tx K mg) : FnOk P w K mg base (L2.CX P w) 6 T.a_Mark___init__ T.d_Mark___init__ ["self", "tone", "begin", "end", "start", "stop"] (spMark T.C_Mark T.C_Moment T.C_NoMark) := by
  refine T.F_Mark___init__.ok sc_Mark___init__ (fun vs H Q E h => ?_) (fun cdv A outer s H vs Q E hr h => ?_)
  · obtain ⟨x, dx, t, b, e, st, sp, q0, q1, q2, q3, rfl, _⟩ := h
    rfl
  · obtain ⟨x, dx, t, b, e, st, sp, q0, q1, q2, q3, rfl, hx, hb, he, hst, hsp, kE, kQ⟩ := h
    have G_as_moment : FnOk P w K mg base CX0 5 T.a_as_moment T.d_as_moment ["value"] (spAsM T.C_Moment) := ok_as_moment T
    have G_err : FnOk P w K mg base CX0 1 T.a_NoMark___init__ T.d_NoMark___init__ ["self", "tone", "begin", "end"] (spErr3 T.C_NoMark "tone" "begin" "end") := ok_NoMark___init__ T
    have G_lt : FnOk P w K mg base CX0 1 T.a_Moment___lt__ T.d_Moment___lt__ ["self", "other"] (spCmp (fun q r => decide (q < r)) T.C_Moment) := ok_Moment___lt__ T
    have G_le : FnOk P w K mg base CX0 1 T.a_Moment___le__ T.d_Moment___le__ ["self", "other"] (spCmp (fun q r => decide (q ≤ r)) T.C_Moment) := ok_Moment___le__ T
    have G_gt : FnOk P w K mg base CX0 1 T.a_Moment___gt__ T.d_Moment___gt__ ["self", "other"] (spCmp (fun q r => decide (r < q)) T.C_Moment) := ok_Moment___gt__ T
    have G_ge : FnOk P w K mg base CX0 1 T.a_Moment___ge__ T.d_Moment___ge__ ["self", "other"] (spCmp (fun q r => decide (r ≤ q)) T.C_Moment) := ok_Moment___ge__ T
    have hr1 : Room 1 _ := hr.mono (by decide : 1 ≤ 5)
    have hr2 : Room 2 _ := hr.mono (by decide : 2 ≤ 5)
    have hr_as_moment : Room 5 _ := hr
    refine ⟨_, ((pss_cons (ps_if (pt_cmpR op_isN1 (pv 4) pe_non (nomark _)) (pss_one (ps_set (i := 4) sc_Mark___init__.nd rfl (Or.inl rfl) (pv 2))) pss_nil)
 (Evl.pss_cut (ps_if (pt_cmpR op_isN1 (pv 5) pe_non (nomark _)) (pss_one (ps_set (i := 5) sc_Mark___init__.nd rfl (Or.inl rfl) (pv 3))) pss_nil)
 (pss_cons (ps_if (pt_not (PW.pt (pw_and (pt_cmpR (OpR.or op_lt (OpR.or (op_cmpIns (fun _ _ => rfl) T.m_Moment___lt__ G_lt hr1 T.b_Moment___lt__ pass0) (op_cmpInt (fun _ _ => rfl) dec_lt T.o_Moment T.m_Moment___gt__ G_gt hr1 T.b_Moment___gt__ pass0))) (pv 2) (pv 3) (nomark _)) (pw_and (pt_cmpR (OpR.or op_le (OpR.or (op_cmpIns (fun _ _ => rfl) T.m_Moment___le__ G_le hr1 T.b_Moment___le__ pass0) (op_cmpInt (fun _ _ => rfl) dec_le T.o_Moment T.m_Moment___ge__ G_ge hr1 T.b_Moment___ge__ pass0))) (pv 2) (pv 4) (nomark _)) (pw_and (pt_cmpR (OpR.or op_lt (OpR.or (op_cmpIns (fun _ _ => rfl) T.m_Moment___lt__ G_lt hr1 T.b_Moment___lt__ pass0) (op_cmpInt (fun _ _ => rfl) dec_lt T.o_Moment T.m_Moment___gt__ G_gt hr1 T.b_Moment___gt__ pass0))) (pv 4) (pv 5) (nomark _)) (pw_and1 (pt_cmpR (OpR.or op_le (OpR.or (op_cmpIns (fun _ _ => rfl) T.m_Moment___le__ G_le hr1 T.b_Moment___le__ pass0) (op_cmpInt (fun _ _ => rfl) dec_le T.o_Moment T.m_Moment___ge__ G_ge hr1 T.b_Moment___ge__ pass0))) (pv 5) (pv 3) (nomark _)))))))) (pss_one (ps_raise rfl (takes_of rfl rfl rfl rfl) (pmk_oex T.ox_NoMark T.m_NoMark___init__.at_ (beq_iff_eq.mp T.m_NoMark___init__.fn) G_err hr2 T.b_NoMark___init__ .nil pass0 rfl T.g_NoMark (pa_cons (pv 1) (pa_cons (pv 2) (pa_cons (pv 3) pa_nil)))))) pss_nil)
 (pss_cons (ps_fld (pv 0) (pv 1) rfl)
 (pss_cons (ps_fld (pv 0) (pe_call G_as_moment hr_as_moment rfl T.g_as_moment T.F_as_moment.kp T.b_as_moment .nil pass0 (pa_cons (pv 2) pa_nil)) rfl)
 (pss_cons (ps_fld (pv 0) (pe_call G_as_moment hr_as_moment rfl T.g_as_moment T.F_as_moment.kp T.b_as_moment .nil pass0 (pa_cons (pv 3) pa_nil)) rfl)
 (pss_cons (ps_fld (pv 0) (pe_call G_as_moment hr_as_moment rfl T.g_as_moment T.F_as_moment.kp T.b_as_moment .nil pass0 (pa_cons (pv 4) pa_nil)) rfl)
 (pss_one (ps_fld (pv 0) (pe_call G_as_moment hr_as_moment rfl T.g_as_moment T.F_as_moment.kp T.b_as_moment .nil pass0 (pa_cons (pv 5) pa_nil)) rfl)))))))))), ?_⟩
    walk_at "vc"
    have mid : ∀ st', Opd 3900 T.C_Moment H st' q2 → ∀ D : Ends, (∀ sp', Opd 3900 T.C_Moment H sp' q3 → D.nx [some (.ref x), some (.int t), some b, some e, some st', some sp'] H) →
        (if decide (sp = .non) = true then tAsg (tVar 3) (gName 5) D [some (.ref x), some (.int t), some b, some e, some st', some sp] H else D.nx [some (.ref x), some (.int t), some b, some e, some st', some sp] H) := fun st' o D k => by
      rcases hsp with ⟨rfl, rfl⟩ | o3
      · refine i_yes (decide_eq_true rfl) ?_
        walk_at "vc"
        exact k _ he
      · exact i_no (decide_eq_false o3.nn) (k _ o3)
    have h1 : ∀ (D : Ends), (∀ st', Opd 3900 T.C_Moment H st' q2 → D.nx [some (.ref x), some (.int t), some b, some e, some st', some sp] H) →
        (if decide (st = .non) = true then tAsg (tVar 2) (gName 4) D [some (.ref x), some (.int t), some b, some e, some st, some sp] H else D.nx [some (.ref x), some (.int t), some b, some e, some st, some sp] H) := fun D k => by
      rcases hst with ⟨rfl, rfl⟩ | o3
      · refine i_yes (decide_eq_true rfl) ?_
        walk_at "vc"
        exact k _ hb
      · exact i_no (decide_eq_false o3.nn) (k _ o3)
    refine h1 _ fun st' o2 => ?_
    refine ⟨fun σ' H' => ∃ sp', σ' = [some (.ref x), some (.int t), some b, some e, some st', some sp'] ∧ H = H' ∧ Opd 3900 T.C_Moment H sp' q3, ?_, ?_⟩
    · walk_at "vc"
      exact mid _ o2 _ fun sp' o3 => ⟨sp', rfl, rfl, o3⟩
    rintro σ' H' ⟨sp', rfl, rfl, o3⟩
    walk_at "vc"
    refine r_cmp3 (T := T) (f := fun q r => decide (q < r)) (g := fun q r => decide (r < q)) (c := fun i j => decide (i < j)) hb he rfl ltc ?_
    walk_at "vc"
    refine i_decN (fun n1 => ?_) (fun n1 => ?_)
    · walk_at "vc"
      refine ⟨_, rfl, _, rfl, _, rfl, (by decide : 3 ≤ 1000), fun a na => ⟨a, _, _, _, rfl, upd_same, fun d H' nd h1 h2 kp => ⟨rfl, d, _, h1, h2, Ext.fresh (Ext.new na) nd, ?_⟩⟩⟩
      have nd' : H d = none := Ext.fresh (Ext.new na) nd
      refine kE (fun z => n1 z.1) d _ nd' (fun q o e => ?_) upd_same
      rw [upd_ne (ne_of_none e nd'), del_ne (ne_of_none e na)]
      exact kp q o (by rw [upd_ne (ne_of_none e na)]; exact e) (ne_of_none e na)
    walk_at "vc"
    refine r_cmp3 (T := T) (f := fun q r => decide (q ≤ r)) (g := fun q r => decide (r ≤ q)) (c := fun i j => decide (i ≤ j)) hb o2 rfl lec ?_
    walk_at "vc"
    refine i_decN (fun n2 => ?_) (fun n2 => ?_)
    · walk_at "vc"
      refine ⟨_, rfl, _, rfl, _, rfl, (by decide : 3 ≤ 1000), fun a na => ⟨a, _, _, _, rfl, upd_same, fun d H' nd h1 h2 kp => ⟨rfl, d, _, h1, h2, Ext.fresh (Ext.new na) nd, ?_⟩⟩⟩
      have nd' : H d = none := Ext.fresh (Ext.new na) nd
      refine kE (fun z => n2 z.2.1) d _ nd' (fun q o e => ?_) upd_same
      rw [upd_ne (ne_of_none e nd'), del_ne (ne_of_none e na)]
      exact kp q o (by rw [upd_ne (ne_of_none e na)]; exact e) (ne_of_none e na)
    walk_at "vc"
    refine r_cmp3 (T := T) (f := fun q r => decide (q < r)) (g := fun q r => decide (r < q)) (c := fun i j => decide (i < j)) o2 o3 rfl ltc ?_
    walk_at "vc"
    refine i_decN (fun n3 => ?_) (fun n3 => ?_)
    · walk_at "vc"
      refine ⟨_, rfl, _, rfl, _, rfl, (by decide : 3 ≤ 1000), fun a na => ⟨a, _, _, _, rfl, upd_same, fun d H' nd h1 h2 kp => ⟨rfl, d, _, h1, h2, Ext.fresh (Ext.new na) nd, ?_⟩⟩⟩
      have nd' : H d = none := Ext.fresh (Ext.new na) nd
      refine kE (fun z => n3 z.2.2.1) d _ nd' (fun q o e => ?_) upd_same
      rw [upd_ne (ne_of_none e nd'), del_ne (ne_of_none e na)]
      exact kp q o (by rw [upd_ne (ne_of_none e na)]; exact e) (ne_of_none e na)
    walk_at "vc"
    refine r_cmp3 (T := T) (f := fun q r => decide (q ≤ r)) (g := fun q r => decide (r ≤ q)) (c := fun i j => decide (i ≤ j)) o3 he rfl lec ?_
    walk_at "vc"
    refine i_ndecN (fun n4 => ?_) (fun n4 => ?_)
    · walk_at "vc"
      refine ⟨_, rfl, _, rfl, _, rfl, (by decide : 3 ≤ 1000), fun a na => ⟨a, _, _, _, rfl, upd_same, fun d H' nd h1 h2 kp => ⟨rfl, d, _, h1, h2, Ext.fresh (Ext.new na) nd, ?_⟩⟩⟩
      have nd' : H d = none := Ext.fresh (Ext.new na) nd
      refine kE (fun z => n4 z.2.2.2) d _ nd' (fun q o e => ?_) upd_same
      rw [upd_ne (ne_of_none e nd'), del_ne (ne_of_none e na)]
      exact kp q o (by rw [upd_ne (ne_of_none e na)]; exact e) (ne_of_none e na)
    walk_at "vc"
    have hk : MkOk q0 q1 q2 q3 := ⟨n1, n2, n3, n4⟩
    have nt : ∀ {r : List (Str × V)}, (((("tone" : Str), V.int t) :: r).head?.map (·.1)) ≠ some ("top" : Str) := fun z => absurd (show ("tone" : Str) = "top" from Option.some.inj z) (by decide)
    have nn : (([] : List (Str × V)).head?.map (·.1)) ≠ some ("top" : Str) := fun z => by cases z
    have kb := hb.b hx nn
    have ke := he.b hx nn
    have k2 := o2.b hx nn
    have k3 := o3.b hx nn
    refine w_sf hx T.o_Mark.cl T.na_Mark_tone (by decide) mkF1 fun H1 e1 x1 => ?_
    walk_at "vc"
    refine c_asM (kb.up e1).o fun p0 H2 e2 m0 => ?_
    have x2 := e2 _ _ x1
    have m0 := m0.b x2 nt
    have E2 := e1.t (ExtB.of e2)
    walk_at "vc"
    refine w_sf x2 T.o_Mark.cl T.na_Mark_begin (by show 1 < 1000; decide) mkF2 fun H3 e3 x3 => ?_
    have E3 := E2.t e3
    walk_at "vc"
    refine c_asM (ke.up E3).o fun p1 H4 e4 m1 => ?_
    have x4 := e4 _ _ x3
    have m1 := m1.b x4 nt
    have E4 := E3.t (ExtB.of e4)
    walk_at "vc"
    refine w_sf x4 T.o_Mark.cl T.na_Mark_end (by show 2 < 1000; decide) mkF3 fun H5 e5 x5 => ?_
    have E5 := E4.t e5
    walk_at "vc"
    refine c_asM (k2.up E5).o fun p2 H6 e6 m2 => ?_
    have x6 := e6 _ _ x5
    have m2 := m2.b x6 nt
    have E6 := E5.t (ExtB.of e6)
    walk_at "vc"
    refine w_sf x6 T.o_Mark.cl T.na_Mark_start (by show 3 < 1000; decide) mkF4 fun H7 e7 x7 => ?_
    have E7 := E6.t e7
    walk_at "vc"
    refine c_asM (k3.up E7).o fun p3 H8 e8 m3 => ?_
    have x8 := e8 _ _ x7
    have m3 := m3.b x8 nt
    have E8 := E7.t (ExtB.of e8)
    walk_at "vc"
    refine w_sf x8 T.o_Mark.cl T.na_Mark_stop (by show 4 < 1000; decide) mkF5 fun H9 e9 x9 => ?_
    have E9 := E8.t e9
    have f8 := e9
    have f7 := (ExtB.of (x := x) e8).t f8
    have f6 := e7.t f7
    have f5 := (ExtB.of (x := x) e6).t f6
    have f4 := e5.t f5
    have f3 := (ExtB.of (x := x) e4).t f4
    have f2 := e3.t f3
    exact kQ hk H9 _ _ _ _ E9 x9 (m0.up f2).mo (m1.up f4).mo (m2.up f6).mo (m3.up f8).mo
end
end AT
namespace AT
open PySem PySem.Spec PyProof.Rows L2
/-- v is a mark with these values -/
def MkA (C CM : Addr) (H : Hp) (v : V) (t : Int) (q0 q1 q2 q3 : Rat) : Prop := ∃ a dx m0 m1 m2 m3, v = .ref a ∧ H a = some (.ins C dx (mkF (.int t) m0 m1 m2 m3)) ∧ Mo CM H m0 q0 ∧ Mo CM H m1 q1 ∧ Mo CM H m2 q2 ∧ Mo CM H m3 q3
theorem MkA.up {C CM : Addr} {H H' : Hp} {v : V} {t : Int} {q0 q1 q2 q3 : Rat} (e : Ext H H') (h : MkA C CM H v t q0 q1 q2 q3) : MkA C CM H' v t q0 q1 q2 q3 := by
  obtain ⟨a, dx, m0, m1, m2, m3, rfl, h, a0, a1, a2, a3⟩ := h
  exact ⟨a, dx, m0, m1, m2, m3, rfl, e _ _ h, a0.up e, a1.up e, a2.up e, a3.up e⟩
theorem up_opd {n : Nat} {C : Addr} {H H' : Hp} {y : V} {r : Rat} (e : Ext H H') (h : Opd n C H y r) : Opd n C H' y r := h.up e
section
variable {P : Program} {w : World} {K : PySem.W.Frag} {mg : Str → Option Value} {base : Heap}
/-- making a mark -/
theorem spMark_new {C CM CE x dx : Addr} {t : Int} {b e st sp : V} {q0 q1 q2 q3 : Rat} {H : Hp} {Q : VK} {E : XK} (nx : H x = none) (nd : H dx = none) (ne : dx ≠ x) (hb : Opd 3900 CM H b q0) (he : Opd 3900 CM H e q1)
    (hst : (st = .non ∧ q2 = q0) ∨ Opd 3900 CM H st q2) (hsp : (sp = .non ∧ q3 = q1) ∨ Opd 3900 CM H sp q3)
    (kE : ¬ MkOk q0 q1 q2 q3 → ∀ d H', H d = none → Ext H H' → H' d = some (.xd [("end", e), ("begin", b), ("tone", .int t)]) → E (.ref CE) (some d) H')
    (kQ : MkOk q0 q1 q2 q3 → ∀ p H', Ext H H' → MkA C CM H' (.ref p) t q0 q1 q2 q3 → Q (.ref p) H') : spMark C CM CE [.ref x, .int t, b, e, st, sp] (upd (upd H dx (.own x)) x (.ins C dx [])) (fun v H3 => v = .non ∧ Q (.ref x) H3) E := by
  have e1 : Ext H (upd (upd H dx (.own x)) x (.ins C dx [])) := Ext.mut (Ext.new nd) nx
  refine ⟨x, dx, t, b, e, st, sp, q0, q1, q2, q3, rfl, upd_same, hb.up e1, he.up e1, hst.imp id fun h => h.up e1, hsp.imp id fun h => h.up e1, fun n d H' nd x1 hd => kE n d H' (e1.fresh nd) (e1.t x1) hd, fun n H' m0 m1 m2 m3 eb hx a0 a1 a2 a3 => ⟨rfl, kQ n x H' (fun q o h => eb q o (e1 q o h) (ne_of_none h nx)) ⟨x, dx, m0, m1, m2, m3, rfl, hx, a0, a1, a2, a3⟩⟩⟩
theorem mk_binds (T : Tx K mg) : ∃ ds, Vals [.non, .non] ds ∧ Binds K T.d_Mark___init__ ["self", "tone", "begin", "end", "start", "stop"] ds :=
  T.F_Mark___init__.binds0 4 (by simp) rfl fun D doc pm an cdv ct us ks hu hk => match us, ks, hu, hk with
    | [_, _, _, _], [_, _], _, _ => ⟨_, _, _, _, _, _, rfl, rfl, _, _, _, _, _, _, rfl, rfl, rfl⟩
theorem mk_bindsT (T : Tx K mg) : ∃ mv : List Value, KBn K T.d_Mark___init__ ["self", "tone", "begin", "end", "start", "stop"] 4 ["stop"] (fun us ws => us ++ (mv ++ ws)) (fun vs zs => vs ++ ([.non] ++ zs)) :=
  T.F_Mark___init__.kbinds0 4 ["stop"] [("start", .non)] (fun us mv ws => us ++ (mv ++ ws)) (by simp) (by simp) (fun r1 r2 r3 => r1.append (r2.append r3)) fun D doc pm an cdv ct us mv ws hu hm hw => match us, mv, ws, hu, hm, hw with
    | [_, _, _, _], [_], [_], _, _, _ => ⟨_, _, _, _, _, _, rfl, rfl, rfl⟩
theorem mk_bindsS (T : Tx K mg) : ∃ mv : List Value, KBn K T.d_Mark___init__ ["self", "tone", "begin", "end", "start", "stop"] 4 ["start"] (fun us ws => us ++ (ws ++ mv)) (fun vs zs => vs ++ (zs ++ [.non])) :=
  T.F_Mark___init__.kbinds0 4 ["start"] [("stop", .non)] (fun us mv ws => us ++ (ws ++ mv)) (by simp) (by simp) (fun r1 r2 r3 => r1.append (r3.append r2)) fun D doc pm an cdv ct us mv ws hu hm hw => match us, mv, ws, hu, hm, hw with
    | [_, _, _, _], [_], [_], _, _, _ => ⟨_, _, _, _, _, _, rfl, rfl, rfl⟩
theorem mk_bindsB (T : Tx K mg) : ∃ mv : List Value, KBn K T.d_Mark___init__ ["self", "tone", "begin", "end", "start", "stop"] 4 ["start", "stop"] (fun us ws => us ++ (mv ++ ws)) (fun vs zs => vs ++ ([] ++ zs)) :=
  T.F_Mark___init__.kbinds0 4 ["start", "stop"] [] (fun us mv ws => us ++ (mv ++ ws)) (by simp) (by simp) (fun r1 r2 r3 => r1.append (r2.append r3)) fun D doc pm an cdv ct us mv ws hu hm hw => match us, mv, ws, hu, hm, hw with
    | [_, _, _, _], [], [_, _], _, _, _ => rfl
/-- a mark's attributes -/
theorem w_mkFld {T : Tx K mg} {f : Str} {a dx : Addr} {m0 m1 m2 m3 t v : V} {H : Hp} {Q : VK} (h : H a = some (.ins T.C_Mark dx (mkF t m0 m1 m2 m3))) (na : NoAttr K T.C_Mark f) (l : (mkF t m0 m1 m2 m3).lookup f = some v) (k : Q v H) : rFld K f (.ref a) H Q := ⟨a, _, dx, _, _, rfl, h, T.o_Mark.cl, na, l, k⟩
theorem lk_tone {m0 m1 m2 m3 t : V} : (mkF t m0 m1 m2 m3).lookup ("tone" : Str) = some t := rfl
theorem lk_begin {m0 m1 m2 m3 t : V} : (mkF t m0 m1 m2 m3).lookup ("begin" : Str) = some m0 := by unfold mkF; rw [lk_ne (by decide)]; exact lk_1
theorem lk_end {m0 m1 m2 m3 t : V} : (mkF t m0 m1 m2 m3).lookup ("end" : Str) = some m1 := by unfold mkF; rw [lk_ne (by decide), lk_ne (by decide)]; exact lk_1
theorem lk_start {m0 m1 m2 m3 t : V} : (mkF t m0 m1 m2 m3).lookup ("start" : Str) = some m2 := by unfold mkF; rw [lk_ne (by decide), lk_ne (by decide), lk_ne (by decide)]; exact lk_1
theorem lk_stop {m0 m1 m2 m3 t : V} : (mkF t m0 m1 m2 m3).lookup ("stop" : Str) = some m3 := by unfold mkF; rw [lk_ne (by decide), lk_ne (by decide), lk_ne (by decide), lk_ne (by decide)]; exact lk_1
theorem MkA.ty {T : Tx K mg} {H : Hp} {v : V} {t : Int} {q0 q1 q2 q3 : Rat} (h : MkA T.C_Mark T.C_Moment H v t q0 q1 q2 q3) : TyX K H v (.ref T.C_Mark) := by
  obtain ⟨a, dx, m0, m1, m2, m3, rfl, h, _⟩ := h
  exact T.o_Mark.ty h
def spEqMk (C CM : Addr) : Sp := fun vs H Q _ => ∃ (v y : V) (t t' : Int) (q0 q1 q2 q3 r0 r1 r2 r3 : Rat), vs = [v, y] ∧ MkA C CM H v t q0 q1 q2 q3 ∧ MkA C CM H y t' r0 r1 r2 r3 ∧ Q (.bl (decide (t = t' ∧ q0 = r0 ∧ q1 = r1 ∧ q2 = r2 ∧ q3 = r3))) H
theorem ok_Mark___eq__ (T : Tx K mg) : FnOk P w K mg base CX0 3 T.a_Mark___eq__ T.d_Mark___eq__ ["self", "other"] (spEqMk T.C_Mark T.C_Moment) := by
  refine T.F_Mark___eq__.ok sc_Mark___eq__ (fun vs H Q E h => ?_) (fun cdv A outer s H vs Q E hr h => ?_)
  · obtain ⟨v, y, t, t', q0, q1, q2, q3, r0, r1, r2, r3, rfl, _⟩ := h
    rfl
  · obtain ⟨v, y, t, t', q0, q1, q2, q3, r0, r1, r2, r3, rfl, hv, hy, k⟩ := h
    have G_eq : FnOk P w K mg base CX0 1 T.a_Moment___eq__ T.d_Moment___eq__ ["self", "other"] (spEqM K T.C_Moment) := ok_Moment___eq__ T
    have hr1 : Room 1 _ := hr.mono (by decide : 1 ≤ 2)
    have hr2 : Room 2 _ := hr
    have ty := hy.ty
    obtain ⟨a, dx, m0, m1, m2, m3, rfl, ha, a0, a1, a2, a3⟩ := hv
    obtain ⟨b, dy, n0, n1, n2, n3, rfl, hb, b0, b1, b2, b3⟩ := hy
    refine ⟨_, ((pss_cons (ps_if (pt_not (pt_val (pe_callB call_isi (by rfl) T.n_isinstance boot_isinstance (pa_cons (pv 1) (pa_cons (pe_glob (v := .ref T.C_Mark) rfl T.g_Mark rfl) pa_nil))))) (pss_one (ps_ret pe_bl)) pss_nil)
 (pss_cons (ps_if (PW.pt (pw_or (pt_cmpR op_ne (pe_fld (pv 0) rfl) (pe_fld (pv 1) rfl) (nomark _)) (pw_or (pt_cmpR (op_neIns T.o_Moment T.ne_Moment T.m_Moment___eq__ G_eq hr2 T.b_Moment___eq__ pass0) (pe_fld (pv 0) rfl) (pe_fld (pv 1) rfl) (nomark _)) (pw_or1 (pt_cmpR (op_neIns T.o_Moment T.ne_Moment T.m_Moment___eq__ G_eq hr2 T.b_Moment___eq__ pass0) (pe_fld (pv 0) rfl) (pe_fld (pv 1) rfl) (nomark _)))))) (pss_one (ps_ret pe_bl)) pss_nil)
 (pss_one (ps_ret (pe_and (pe_cmpR (op_cmpIns (fun _ _ => rfl) T.m_Moment___eq__ G_eq hr1 T.b_Moment___eq__ pass0) (pe_fld (pv 0) rfl) (pe_fld (pv 1) rfl) (nomark _)) (pe_one (pe_cmpR (op_cmpIns (fun _ _ => rfl) T.m_Moment___eq__ G_eq hr1 T.b_Moment___eq__ pass0) (pe_fld (pv 0) rfl) (pe_fld (pv 1) rfl) (nomark _))))))))), ?_⟩
    have no : ¬ (t = t' ∧ q0 = r0 ∧ q1 = r1 ∧ q2 = r2 ∧ q3 = r3) → Q (.bl false) H := fun n => by rw [decide_eq_false n] at k; exact k
    walk_at "vc"
    refine w_isi (.own _) ty kit_self ?_
    walk_at "vc"
    refine w_mkFld ha T.na_Mark_tone lk_tone ?_
    walk_at "vc"
    refine w_mkFld hb T.na_Mark_tone lk_tone ?_
    walk_at "vc"
    refine i_ndecN (fun e0 => ?_) (fun e0 => ?_)
    · walk_at "vc"
      exact no fun z => e0 z.1
    walk_at "vc"
    refine w_mkFld ha T.na_Mark_begin lk_begin ?_
    walk_at "vc"
    refine w_mkFld hb T.na_Mark_begin lk_begin ?_
    walk_at "vc"
    refine w_neMM a0 b0 ?_
    walk_at "vc"
    refine i_ndecN (fun e1 => ?_) (fun e1 => ?_)
    · walk_at "vc"
      exact no fun z => e1 z.2.1
    walk_at "vc"
    refine w_mkFld ha T.na_Mark_end lk_end ?_
    walk_at "vc"
    refine w_mkFld hb T.na_Mark_end lk_end ?_
    walk_at "vc"
    refine w_neMM a1 b1 ?_
    walk_at "vc"
    refine i_ndecN (fun e2 => ?_) (fun e2 => ?_)
    · walk_at "vc"
      exact no fun z => e2 z.2.2.1
    walk_at "vc"
    refine w_mkFld ha T.na_Mark_start lk_start ?_
    walk_at "vc"
    refine w_mkFld hb T.na_Mark_start lk_start ?_
    walk_at "vc"
    refine w_eqMM a2 b2 ?_
    walk_at "vc"
    refine i_decN (fun e3 => ?_) (fun e3 => ?_)
    · exact no fun z => e3 z.2.2.2.1
    walk_at "vc"
    refine w_mkFld ha T.na_Mark_stop lk_stop ?_
    walk_at "vc"
    refine w_mkFld hb T.na_Mark_stop lk_stop ?_
    walk_at "vc"
    refine w_eqMM a3 b3 ?_
    have e : decide (t = t' ∧ q0 = r0 ∧ q1 = r1 ∧ q2 = r2 ∧ q3 = r3) = decide (q3 = r3) := by rw [decide_eq_decide]; exact ⟨fun z => z.2.2.2.2, fun z => ⟨e0, e1, e2, e3, z⟩⟩
    rw [e] at k
    exact k
end
end AT
local macro_rules | `(tactic| walk_at "up") => `(tactic| (first | assumption | (apply Mo.up; assumption; walk_at "up") | (apply AT.up_opd; assumption; walk_at "up") | (apply PrQ.up; assumption; walk_at "up") | (apply MkA.up; assumption; walk_at "up") | (apply L2.Same.seq; assumption; walk_at "up") | (apply L2.Same.seqT; assumption; walk_at "up")))
local macro_rules | `(tactic| walk_at "go") => `(tactic| (repeat (first | (walk_at "vc1") | (refine w_var (by rfl) ?_) | (refine w_aug (by rfl) ?_) | (refine w_pow (by decide) ?_) | (refine w_mod (by decide) ?_) | (refine w_ixT (by walk_at "up") (by rfl) ?_) | (refine w_ixL (by walk_at "up") (by rfl) ?_) | (refine w_top (by walk_at "up") ?_) | (refine w_bottom (by walk_at "up") ?_) | (refine w_eqMM (by walk_at "up") (by walk_at "up") ?_) | (refine w_neMM (by walk_at "up") (by walk_at "up") ?_))))
namespace AT
open PySem PySem.Spec PyProof.Rows L2
section
variable {P : Program} {w : World} {K : PySem.W.Frag} {mg : Str → Option Value} {base : Heap}
/-- a time as it is passed: an int where it is one and plain is 1 -/
def OpP (pl : Int) (C : Addr) (H : Hp) (y : V) (q : Rat) : Prop := Opd 3900 C H y q ∧ ((∃ i, y = V.int i) ↔ (q.den : Int) = 1 ∧ pl = 1)
theorem OpP.up {pl : Int} {C : Addr} {H H' : Hp} {y : V} {q : Rat} (e : Ext H H') (h : OpP pl C H y q) : OpP pl C H' y q := ⟨h.1.up e, h.2⟩
theorem c_passed {C : Addr} {x : V} {q : Rat} {pl : Int} {H : Hp} {Q : VK} {E : XK} (h : PrQ K H x q) (s : Sm 3900 q) (k : ∀ y H', Ext H H' → OpP pl C H' y q → Q y H') : spPassed K C [x, .int pl] H Q E := ⟨x, q, pl, rfl, h, s, fun y H' e o n => k y H' e ⟨o, n⟩⟩
/-- four times -/
def Tms (K : PySem.W.Frag) (H : Hp) (v : V) (q0 q1 q2 q3 : Rat) : Prop := ∃ p x0 x1 x2 x3, v = .ref p ∧ SqL K H p [x0, x1, x2, x3] ∧ PrQ K H x0 q0 ∧ PrQ K H x1 q1 ∧ PrQ K H x2 q2 ∧ PrQ K H x3 q3 ∧ Sm 3900 q0 ∧ Sm 3900 q1 ∧ Sm 3900 q2 ∧ Sm 3900 q3
theorem Tms.up {H H' : Hp} {v : V} {q0 q1 q2 q3 : Rat} (e : Ext H H') (h : Tms K H v q0 q1 q2 q3) : Tms K H' v q0 q1 q2 q3 := by
  obtain ⟨p, x0, x1, x2, x3, rfl, l, a0, a1, a2, a3, s⟩ := h
  exact ⟨p, x0, x1, x2, x3, rfl, e.seq l, a0.up e, a1.up e, a2.up e, a3.up e, s⟩
def spLMark (K : PySem.W.Frag) (C CM CE : Addr) : Sp := fun vs H Q E => ∃ (t : Int) (tv : V) (pl lf : Int) (q0 q1 q2 q3 : Rat), vs = [.int t, tv, .int pl, .int lf] ∧ Tms K H tv q0 q1 q2 q3 ∧ (lf = 0 ∨ lf = 1 ∨ lf = 2 ∨ lf = 3) ∧ (lf = 0 ∨ lf = 1 → q2 = q0) ∧ (lf = 0 ∨ lf = 2 → q3 = q1) ∧
  (¬ MkOk q0 q1 q2 q3 → ∀ d H' b e, H d = none → Ext H H' → H' d = some (.xd [("end", e), ("begin", b), ("tone", .int t)]) → OpP pl CM H' b q0 → OpP pl CM H' e q1 → E (.ref CE) (some d) H') ∧
  (MkOk q0 q1 q2 q3 → ∀ p H', Ext H H' → MkA C CM H' (.ref p) t q0 q1 q2 q3 → Q (.ref p) H')
theorem ok__law_mark (T : Tx K mg) : FnOk P w K mg base (L2.CX P w) 8 T.a__law_mark T.d__law_mark ["_law_tone", "_law_times", "_law_plain", "_law_left"] (spLMark K T.C_Mark T.C_Moment T.C_NoMark) := by
  refine T.F__law_mark.okX sc__law_mark (fun vs H Q E h => ?_) (fun cdv A outer s H vs Q E hr h => ?_)
  · obtain ⟨t, tv, pl, lf, q0, q1, q2, q3, rfl, _⟩ := h
    rfl
  · obtain ⟨t, tv, pl, lf, q0, q1, q2, q3, rfl, ⟨p, x0, x1, x2, x3, rfl, l, a0, a1, a2, a3, s0, s1, s2, s3⟩, hl, h2, h3, kE, kQ⟩ := h
    have G__law_passed : FnOk P w K mg base CX0 5 T.a__law_passed T.d__law_passed ["_law_pair", "_law_plain"] (spPassed K T.C_Moment) := ok__law_passed T
    have G_Mark___init__ : FnOk P w K mg base (L2.CX P w) 6 T.a_Mark___init__ T.d_Mark___init__ ["self", "tone", "begin", "end", "start", "stop"] (spMark T.C_Mark T.C_Moment T.C_NoMark) := ok_Mark___init__ T
    obtain ⟨dsM, VM, BM⟩ := mk_binds T
    obtain ⟨mvT, BT⟩ := mk_bindsT T
    obtain ⟨mvS, BS⟩ := mk_bindsS T
    obtain ⟨mvB, BB⟩ := mk_bindsB T
    have hr__law_passed : Room 5 _ := hr.mono (by decide : 5 ≤ 7)
    have hr_Mark___init__ : Room 7 _ := hr
    refine ⟨_, ((pss_cons (ps_set (i := 4) sc__law_mark.nd rfl (Or.inl rfl) (pe_call G__law_passed hr__law_passed rfl T.g__law_passed T.F__law_passed.kp T.b__law_passed .nil pass0 (pa_cons (pe_ix ix_list (pv 1) pe_int (fun _ _ => rfl)) (pa_cons (pv 2) pa_nil))))
 (pss_cons (ps_set (i := 5) sc__law_mark.nd rfl (Or.inl rfl) (pe_call G__law_passed hr__law_passed rfl T.g__law_passed T.F__law_passed.kp T.b__law_passed .nil pass0 (pa_cons (pe_ix ix_list (pv 1) pe_int (fun _ _ => rfl)) (pa_cons (pv 2) pa_nil))))
 (pss_cons (ps_if (pt_cmpR op_eq (pv 3) pe_int (nomark _)) (pss_one (ps_ret (pe_makeR T.M_Mark G_Mark___init__ hr_Mark___init__ rfl T.g_Mark BM VM (passX (takes_of rfl rfl rfl rfl)) (pa_cons (pv 0) (pa_cons (pv 4) (pa_cons (pv 5) pa_nil)))))) pss_nil)
 (pss_cons (ps_if (pt_cmpR op_eq (pv 3) pe_int (nomark _)) (pss_one (ps_ret (pe_makeK (n := 3) T.M_Mark G_Mark___init__ hr_Mark___init__ rfl T.g_Mark BT (passX (takes_of rfl rfl rfl rfl)) (pa_cons (pv 0) (pa_cons (pv 4) (pa_cons (pv 5) pa_nil))) (pk_cons (pe_call G__law_passed hr__law_passed rfl T.g__law_passed T.F__law_passed.kp T.b__law_passed .nil pass0 (pa_cons (pe_ix ix_list (pv 1) pe_int (fun _ _ => rfl)) (pa_cons (pv 2) pa_nil))) pk_nil)))) pss_nil)
 (pss_cons (ps_if (pt_cmpR op_eq (pv 3) pe_int (nomark _)) (pss_one (ps_ret (pe_makeK (n := 3) T.M_Mark G_Mark___init__ hr_Mark___init__ rfl T.g_Mark BS (passX (takes_of rfl rfl rfl rfl)) (pa_cons (pv 0) (pa_cons (pv 4) (pa_cons (pv 5) pa_nil))) (pk_cons (pe_call G__law_passed hr__law_passed rfl T.g__law_passed T.F__law_passed.kp T.b__law_passed .nil pass0 (pa_cons (pe_ix ix_list (pv 1) pe_int (fun _ _ => rfl)) (pa_cons (pv 2) pa_nil))) pk_nil)))) pss_nil)
 (pss_one (ps_ret (pe_makeK (n := 3) T.M_Mark G_Mark___init__ hr_Mark___init__ rfl T.g_Mark BB (passX (takes_of rfl rfl rfl rfl)) (pa_cons (pv 0) (pa_cons (pv 4) (pa_cons (pv 5) pa_nil))) (pk_cons (pe_call G__law_passed hr__law_passed rfl T.g__law_passed T.F__law_passed.kp T.b__law_passed .nil pass0 (pa_cons (pe_ix ix_list (pv 1) pe_int (fun _ _ => rfl)) (pa_cons (pv 2) pa_nil))) (pk_cons (pe_call G__law_passed hr__law_passed rfl T.g__law_passed T.F__law_passed.kp T.b__law_passed .nil pass0 (pa_cons (pe_ix ix_list (pv 1) pe_int (fun _ _ => rfl)) (pa_cons (pv 2) pa_nil))) pk_nil))))))))))), ?_⟩
    walk_at "go"
    refine c_passed (by walk_at "up") s0 fun b H1 e1 ob => ?_
    walk_at "go"
    refine c_passed (by walk_at "up") s1 fun e H2 e2 oe => ?_
    have ob2 := ob.up e2
    have ee := e1.t e2
    walk_at "go"
    rcases hl with rfl | rfl | rfl | rfl
    · refine i_yes rfl ?_
      walk_at "go"
      exact fun x dx nx nd ne => spMark_new nx nd ne ob2.1 oe.1 (.inl ⟨rfl, h2 (.inl rfl)⟩) (.inl ⟨rfl, h3 (.inl rfl)⟩) (fun n d H' nd' x hd => kE n d H' b e (ee.fresh nd') (ee.t x) hd (ob2.up x) (oe.up x)) (fun n p H' x m => kQ n p H' (ee.t x) m)
    · refine i_no rfl ?_
      walk_at "go"
      refine w_makeK ?_
      walk_at "go"
      refine c_passed (by walk_at "up") s3 fun sp H3 e3 osp => ?_
      walk_at "go"
      have ob3 := ob2.up e3
      have oe3 := oe.up e3
      have ee := ee.t e3
      exact ⟨rfl, rfl, fun x dx nx nd ne => spMark_new nx nd ne ob3.1 oe3.1 (.inl ⟨rfl, h2 (.inr rfl)⟩) (.inr osp.1) (fun n d H' nd' x hd => kE n d H' b e (ee.fresh nd') (ee.t x) hd (ob3.up x) (oe3.up x)) (fun n p H' x m => kQ n p H' (ee.t x) m)⟩
    · refine i_no rfl ?_
      walk_at "go"
      refine w_makeK ?_
      walk_at "go"
      refine c_passed (by walk_at "up") s2 fun sp H3 e3 osp => ?_
      walk_at "go"
      have ob3 := ob2.up e3
      have oe3 := oe.up e3
      have ee := ee.t e3
      exact ⟨rfl, rfl, fun x dx nx nd ne => spMark_new nx nd ne ob3.1 oe3.1 (.inr osp.1) (.inl ⟨rfl, h3 (.inr rfl)⟩) (fun n d H' nd' x hd => kE n d H' b e (ee.fresh nd') (ee.t x) hd (ob3.up x) (oe3.up x)) (fun n p H' x m => kQ n p H' (ee.t x) m)⟩
    · refine i_no rfl ?_
      walk_at "go"
      refine w_makeK ?_
      walk_at "go"
      refine c_passed (by walk_at "up") s2 fun sp H3 e3 osp => ?_
      walk_at "go"
      refine c_passed (by walk_at "up") s3 fun st H4 e4 ost => ?_
      walk_at "go"
      have ob3 := (ob2.up e3).up e4
      have oe3 := (oe.up e3).up e4
      have osp := osp.up e4
      have ee := (ee.t e3).t e4
      exact ⟨rfl, rfl, fun x dx nx nd ne => spMark_new nx nd ne ob3.1 oe3.1 (.inr osp.1) (.inr ost.1) (fun n d H' nd' x hd => kE n d H' b e (ee.fresh nd') (ee.t x) hd (ob3.up x) (oe3.up x)) (fun n p H' x m => kQ n p H' (ee.t x) m)⟩
instance {q0 q1 q2 q3 : Rat} : Decidable (MkOk q0 q1 q2 q3) := inferInstanceAs (Decidable (_ ∧ _ ∧ _ ∧ _))
def spValid (K : PySem.W.Frag) : Sp := fun vs H Q _ => ∃ (tv : V) (q0 q1 q2 q3 : Rat), vs = [tv] ∧ Tms K H tv q0 q1 q2 q3 ∧ Q (.bl (decide (MkOk q0 q1 q2 q3))) H
theorem c_under {x y : V} {q r : Rat} {H : Hp} {Q : VK} {E : XK} (h : PrQ K H x q) (h2 : PrQ K H y r) (s : Sm 3900 q) (s2 : Sm 3900 r) (k : Q (.bl (decide (q < r))) H) : spUnder K [x, y] H Q E := ⟨x, y, q, r, rfl, h, h2, s, s2, k⟩
theorem ok__law_valid (T : Tx K mg) : FnOk P w K mg base CX0 2 T.a__law_valid T.d__law_valid ["_law_times"] (spValid K) := by
  refine T.F__law_valid.ok sc__law_valid (fun vs H Q E h => ?_) (fun cdv A outer s H vs Q E hr h => ?_)
  · obtain ⟨tv, q0, q1, q2, q3, rfl, _⟩ := h
    rfl
  · obtain ⟨tv, q0, q1, q2, q3, rfl, ⟨p, x0, x1, x2, x3, rfl, l, a0, a1, a2, a3, s0, s1, s2, s3⟩, k⟩ := h
    have G__law_under : FnOk P w K mg base CX0 1 T.a__law_under T.d__law_under ["_law_a", "_law_b"] (spUnder K) := ok__law_under T
    have hr__law_under : Room 1 _ := hr
    refine ⟨_, ((pss_cons (ps_if (PW.pt (pw_or (pt_not (pt_val (pe_call G__law_under hr__law_under rfl T.g__law_under T.F__law_under.kp T.b__law_under .nil pass0 (pa_cons (pe_ix ix_list (pv 0) pe_int (fun _ _ => rfl)) (pa_cons (pe_ix ix_list (pv 0) pe_int (fun _ _ => rfl)) pa_nil))))) (pw_or1 (pt_val (pe_call G__law_under hr__law_under rfl T.g__law_under T.F__law_under.kp T.b__law_under .nil pass0 (pa_cons (pe_ix ix_list (pv 0) pe_int (fun _ _ => rfl)) (pa_cons (pe_ix ix_list (pv 0) pe_int (fun _ _ => rfl)) pa_nil))))))) (pss_one (ps_ret pe_bl)) pss_nil)
 (pss_one (ps_ret (pe_and (pe_call G__law_under hr__law_under rfl T.g__law_under T.F__law_under.kp T.b__law_under .nil pass0 (pa_cons (pe_ix ix_list (pv 0) pe_int (fun _ _ => rfl)) (pa_cons (pe_ix ix_list (pv 0) pe_int (fun _ _ => rfl)) pa_nil))) (pe_one (pe_not (pe_call G__law_under hr__law_under rfl T.g__law_under T.F__law_under.kp T.b__law_under .nil pass0 (pa_cons (pe_ix ix_list (pv 0) pe_int (fun _ _ => rfl)) (pa_cons (pe_ix ix_list (pv 0) pe_int (fun _ _ => rfl)) pa_nil)))))))))), ?_⟩
    have no : ¬ MkOk q0 q1 q2 q3 → Q (.bl false) H := fun n => by rw [decide_eq_false n] at k; exact k
    walk_at "go"
    refine c_under a0 a1 s0 s1 ?_
    walk_at "go"
    refine i_ndecN (fun n0 => ?_) (fun n0 => ?_)
    · walk_at "go"
      exact no fun z => n0 z.1
    walk_at "go"
    refine c_under a2 a0 s2 s0 ?_
    walk_at "go"
    refine i_dec (fun n1 => ?_) (fun n1 => ?_)
    · walk_at "go"
      exact no fun z => absurd z.2.1 (Rat.not_le.mpr n1)
    walk_at "go"
    refine c_under a2 a3 s2 s3 ?_
    walk_at "go"
    refine i_decN (fun n2 => ?_) (fun n2 => ?_)
    · exact no fun z => n2 z.2.2.1
    walk_at "go"
    refine c_under a1 a3 s1 s3 ?_
    walk_at "go"
    have e : (!decide (q1 < q3)) = decide (MkOk q0 q1 q2 q3) := by
      rw [← decide_not, decide_eq_decide]
      exact ⟨fun z => ⟨n0, Rat.not_lt.mp n1, n2, Rat.not_lt.mp z⟩, fun z => Rat.not_lt.mpr z.2.2.2⟩
    rw [e]
    exact k
end
end AT
namespace AT
open PySem PySem.Spec PyProof.Rows L2
section
variable {P : Program} {w : World} {K : PySem.W.Frag} {mg : Str → Option Value} {base : Heap}
theorem c_valid {tv : V} {q0 q1 q2 q3 : Rat} {H : Hp} {Q : VK} {E : XK} (h : Tms K H tv q0 q1 q2 q3) (k : Q (.bl (decide (MkOk q0 q1 q2 q3))) H) : spValid K [tv] H Q E := ⟨tv, q0, q1, q2, q3, rfl, h, k⟩
/-- two moments of the same worth -/
def RMo (C : Addr) (a b : Addr) (H : Hp) : Prop := ∃ q, Mo C H (.ref a) q ∧ Mo C H (.ref b) q
theorem ok_eqR (T : Tx K mg) : FnOk P w K mg base CX0 1 T.a_Moment___eq__ T.d_Moment___eq__ ["self", "other"] (spEq (RMo T.C_Moment)) :=
  (ok_Moment___eq__ T).imp fun vs H Q E h => by
    obtain ⟨a, b, rfl, ⟨q, ma, mb⟩, k⟩ := h
    exact ⟨_, _, q, rfl, ma, .inr (.inl ⟨q, mb, by rw [decide_eq_true rfl]; exact k H fun _ _ e => e⟩)⟩
/-- equal ints or moments -/
def DNum (C : Addr) : Eqv := fun x y H => DFlat x y H ∨ DIns C (RMo C) x y H
theorem mon_num {C : Addr} : Mon (DNum C) := mon_flat.or (mon_ins fun a b H H' e ⟨q, m, n⟩ => ⟨q, m.up e, n.up e⟩)
theorem dnum_i {C : Addr} {H : Hp} {i : Int} : DNum C (.int i) (.int i) H := .inl ⟨rfl, rfl, by simp [eqV]⟩
theorem dnum_p {pl : Int} {C : Addr} {H : Hp} {x y : V} {q : Rat} (h : OpP pl C H x q) (h2 : OpP pl C H y q) : DNum C x y H := by
  obtain ⟨o, n⟩ := h
  obtain ⟨o2, n2⟩ := h2
  rcases o with ⟨i, rfl, rfl, _⟩ | ⟨m, _⟩
  · obtain ⟨j, rfl⟩ := n2.mpr (n.mp ⟨_, rfl⟩)
    rcases o2 with ⟨j, e, e2, _⟩ | ⟨⟨b, dx, e, _⟩, _⟩
    · cases e
      have e3 : i = j := Rat.intCast_inj.mp e2
      subst e3
      exact dnum_i
    · cases e
  · obtain ⟨a, dx, rfl, ha⟩ := m
    rcases o2 with ⟨j, rfl, rfl, _⟩ | ⟨⟨b, dy, rfl, hb⟩, _⟩
    · obtain ⟨j, e⟩ := n.mpr (n2.mp ⟨_, rfl⟩)
      cases e
    · exact .inr ⟨a, b, dx, dy, _, _, rfl, rfl, ha, hb, q, ⟨a, dx, rfl, ha⟩, ⟨b, dy, rfl, hb⟩⟩
def spTried (K : PySem.W.Frag) (C CM : Addr) : Sp := fun vs H Q _ => ∃ (t : Int) (tv : V) (pl lf : Int) (q0 q1 q2 q3 : Rat), vs = [.int t, tv, .int pl, .int lf] ∧ Tms K H tv q0 q1 q2 q3 ∧ (lf = 0 ∨ lf = 1 ∨ lf = 2 ∨ lf = 3) ∧ (lf = 0 ∨ lf = 1 → q2 = q0) ∧ (lf = 0 ∨ lf = 2 → q3 = q1) ∧
  ∀ p H' m, Ext H H' → SqT K H' p [.bl true, m] → ((MkOk q0 q1 q2 q3 ∧ MkA C CM H' m t q0 q1 q2 q3) ∨ (¬ MkOk q0 q1 q2 q3 ∧ m = .non)) → Q (.ref p) H'
theorem ok__law_tried (T : Tx K mg) : FnOk P w K mg base CX0 9 T.a__law_tried T.d__law_tried ["_law_tone", "_law_times", "_law_plain", "_law_left"] (spTried K T.C_Mark T.C_Moment) := by
  refine T.F__law_tried.ok sc__law_tried (fun vs H Q E h => ?_) (fun cdv A outer s H vs Q E hr h => ?_)
  · obtain ⟨t, tv, pl, lf, q0, q1, q2, q3, rfl, _⟩ := h
    rfl
  · obtain ⟨t, tv, pl, lf, q0, q1, q2, q3, rfl, tms, hl, h2, h3, k⟩ := h
    have G__law_passed : FnOk P w K mg base CX0 5 T.a__law_passed T.d__law_passed ["_law_pair", "_law_plain"] (spPassed K T.C_Moment) := ok__law_passed T
    have G__law_mark : FnOk P w K mg base (L2.CX P w) 8 T.a__law_mark T.d__law_mark ["_law_tone", "_law_times", "_law_plain", "_law_left"] (spLMark K T.C_Mark T.C_Moment T.C_NoMark) := ok__law_mark T
    have G__law_valid : FnOk P w K mg base CX0 2 T.a__law_valid T.d__law_valid ["_law_times"] (spValid K) := ok__law_valid T
    have G__law_is_int : FnOk P w K mg base CX0 1 T.a__law_is_int T.d__law_is_int ["_law_actual"] spIsInt := ok__law_is_int T
    have G__law_holds : FnOk P w K mg base CX0 2 T.a__law_holds T.d__law_holds ["_law_actual", "_law_top", "_law_bottom"] (spHolds T.C_Moment) := ok__law_holds T
    have G_eqR : FnOk P w K mg base CX0 1 T.a_Moment___eq__ T.d_Moment___eq__ ["self", "other"] (spEq (RMo T.C_Moment)) := ok_eqR T
    have hr1 : Room 1 _ := hr.mono (by decide : 1 ≤ 8)
    have hr2 : Room 2 _ := hr.mono (by decide : 2 ≤ 8)
    have hr__law_passed : Room 5 _ := hr.mono (by decide : 5 ≤ 8)
    have hr__law_mark : Room 8 _ := hr
    have hr__law_valid := hr2
    have hr__law_is_int := hr1
    have hr__law_holds := hr2
    refine ⟨_, ((pss_cons (ps_set (i := 4) sc__law_tried.nd rfl (Or.inl rfl) pe_non)
 (pss_cons (ps_set (i := 5) sc__law_tried.nd rfl (Or.inl rfl) pe_non)
 (pss_cons (ps_try_as (i := 6) rfl rfl sc__law_tried.nd rfl rfl ⟨rfl, by decide, Or.inl T.g_NoMark⟩ takes0 (fun W pn xe tk _ => (pss_one (ps_set (i := 4) sc__law_tried.nd rfl (Or.inl rfl) (pe_callS G__law_mark hr__law_mark rfl T.g__law_mark T.F__law_mark.kp T.b__law_mark (fun σ => passAt tk σ) (pa_cons (pv 0) (pa_cons (pv 1) (pa_cons (pv 2) (pa_cons (pv 3) pa_nil)))))))) (fun a oe cls d pn hz hf => (pss_one (ps_set (i := 5) sc__law_tried.nd rfl (Or.inl rfl) (pe_lst (pa_cons (pe_xf T.xf_NoMark T.na_NoMark_tone hz hf (pv 6)) (pa_cons (pe_xf T.xf_NoMark T.na_NoMark_begin hz hf (pv 6)) (pa_cons (pe_xf T.xf_NoMark T.na_NoMark_end hz hf (pv 6)) pa_nil))))))))
 (pss_cons (ps_if (pt_not (pt_val (pe_call G__law_valid hr__law_valid rfl T.g__law_valid T.F__law_valid.kp T.b__law_valid .nil pass0 (pa_cons (pv 1) pa_nil)))) (pss_cons (ps_set (i := 7) sc__law_tried.nd rfl (Or.inl rfl) (pe_lst (pa_cons (pv 0) (pa_cons (pe_call G__law_passed hr__law_passed rfl T.g__law_passed T.F__law_passed.kp T.b__law_passed .nil pass0 (pa_cons (pe_ix ix_list (pv 1) pe_int (fun _ _ => rfl)) (pa_cons (pv 2) pa_nil))) (pa_cons (pe_call G__law_passed hr__law_passed rfl T.g__law_passed T.F__law_passed.kp T.b__law_passed .nil pass0 (pa_cons (pe_ix ix_list (pv 1) pe_int (fun _ _ => rfl)) (pa_cons (pv 2) pa_nil))) pa_nil)))))
 (pss_one (ps_ret (pe_tup (pa_cons (pe_cmpR (op_eqG (rcG_list mon_num ((eqG_flat.mono (by decide)).or (eqG_ins G_eqR T.m_Moment___eq__.at_ T.m_Moment___eq__.fn T.b_Moment___eq__ pass0))) hr2) (pv 5) (pv 7) (nomark _)) (pa_cons pe_non pa_nil)))))) pss_nil)
 (pss_cons (ps_if (PW.pt (pw_or (pt_cmpR op_notN1 (pv 5) pe_non (nomark _)) (pw_or (pt_not (pt_val (pe_call G__law_is_int hr__law_is_int rfl T.g__law_is_int T.F__law_is_int.kp T.b__law_is_int .nil pass0 (pa_cons (pe_fld (pv 4) rfl) pa_nil)))) (pw_or1 (pt_cmpR op_ne (pe_fld (pv 4) rfl) (pv 0) (nomark _)))))) (pss_one (ps_ret (pe_tup (pa_cons pe_bl (pa_cons pe_non pa_nil))))) pss_nil)
 (pss_cons (ps_set (i := 8) sc__law_tried.nd rfl (Or.inl rfl) (pe_lst (pa_cons (pe_fld (pv 4) rfl) (pa_cons (pe_fld (pv 4) rfl) (pa_cons (pe_fld (pv 4) rfl) (pa_cons (pe_fld (pv 4) rfl) pa_nil))))))
 (pss_cons (ps_for PassesOwn.never rfl (pi_range1 rfl T.n_range (pa_cons pe_int pa_nil)) (pg_name (i := 9) sc__law_tried.nd rfl (Or.inl rfl)) (pss_one (ps_if (pt_not (pt_val (pe_call G__law_holds hr__law_holds rfl T.g__law_holds T.F__law_holds.kp T.b__law_holds .nil pass0 (pa_cons (pe_ix ix_list (pv 8) (pv 9) (fun _ _ => rfl)) (pa_cons (pe_ix ix_tup (pe_ix ix_list (pv 1) (pv 9) (fun _ _ => rfl)) pe_int (fun _ _ => rfl)) (pa_cons (pe_ix ix_tup (pe_ix ix_list (pv 1) (pv 9) (fun _ _ => rfl)) pe_int (fun _ _ => rfl)) pa_nil)))))) (pss_one (ps_ret (pe_tup (pa_cons pe_bl (pa_cons pe_non pa_nil))))) pss_nil)))
 (pss_one (ps_ret (pe_tup (pa_cons pe_bl (pa_cons (pv 4) pa_nil))))))))))))), ?_⟩
    walk_at "go"
    refine ⟨t, tv, pl, lf, q0, q1, q2, q3, rfl, tms, hl, h2, h3, fun n d H1 b e nd e1 hd ob oe => ⟨true, T.em_NoMark, fun _ ae nae => ?_, fun z => nomatch z⟩, fun n p H1 e1 m => ?_⟩
    · walk_at "go"
      refine n_xf hd (by rw [lk_ne (by decide +kernel), lk_ne (by decide +kernel)]; exact lk_1) ?_
      walk_at "go"
      refine n_xf hd (by rw [lk_ne (by decide +kernel)]; exact lk_1) ?_
      walk_at "go"
      refine n_xf hd lk_1 ?_
      walk_at "go"
      refine n_lst (by show 3 ≤ 100000; decide) fun p2 H2 _ e2 u2 => ?_
      have tm2 := (tms.up e1).up e2
      walk_at "go"
      refine c_valid tm2 ?_
      rw [decide_eq_false n]
      walk_at "go"
      obtain ⟨pt, x0, x1, x2, x3, rfl, l, a0, a1, a2, a3, s0, s1, s2, s3⟩ := tm2
      walk_at "go"
      refine c_passed a0 s0 fun b' H3 e3 ob' => ?_
      walk_at "go"
      refine c_passed (by walk_at "up") s1 fun ee H4 e4 oe' => ?_
      walk_at "go"
      refine n_lst (by show 3 ≤ 100000; decide) fun p5 H5 _ e5 u5 => ?_
      walk_at "go"
      refine ⟨⟨_, _, _, _, rfl, rfl, e5 _ _ (e4 _ _ (e3 _ _ u2)), u5, .cons dnum_i (.cons (dnum_p ((((ob.up e2).up e3).up e4).up e5) ((ob'.up e4).up e5)) (.cons (dnum_p ((((oe.up e2).up e3).up e4).up e5) (oe'.up e5)) .nil))⟩, fun H6 e6 => ?_⟩
      walk_at "go"
      refine n_tup (by show 2 ≤ 100000; decide) fun p7 H7 _ e7 u7 => ?_
      exact k p7 H7 _ (((((e1.t e2).t e3).t e4).t e5).t (Ext.t e6 e7)) (SqT.of u7) (.inr ⟨n, rfl⟩)
    · walk_at "go"
      refine c_valid (tms.up e1) ?_
      rw [decide_eq_true n]
      walk_at "go"
      have mA := m
      obtain ⟨a, dx, m0, m1, m2, m3, ea, ha, b0, b1, b2, b3⟩ := m
      cases ea
      refine w_mkFld ha T.na_Mark_tone lk_tone ?_
      walk_at "go"
      refine c_isInt ?_
      walk_at "go"
      refine w_mkFld ha T.na_Mark_tone lk_tone ?_
      walk_at "go"
      refine i_ndec (fun _ => ?_) (fun z => absurd rfl z)
      walk_at "go"
      refine w_mkFld ha T.na_Mark_begin lk_begin ?_
      walk_at "go"
      refine w_mkFld ha T.na_Mark_end lk_end ?_
      walk_at "go"
      refine w_mkFld ha T.na_Mark_start lk_start ?_
      walk_at "go"
      refine w_mkFld ha T.na_Mark_stop lk_stop ?_
      walk_at "go"
      refine n_lst (by show 4 ≤ 100000; decide) fun p2 H2 _ e2 u2 => ?_
      have tm2 := (tms.up e1).up e2
      obtain ⟨pt, x0, x1, x2, x3, rfl, l, a0, a1, a2, a3, s0, s1, s2, s3⟩ := tm2
      have b0 := b0.up e2
      have b1 := b1.up e2
      have b2 := b2.up e2
      have b3 := b3.up e2
      have turn : ∀ i : Nat, i < 4 → ∃ v x q, [m0, m1, m2, m3][i]? = some v ∧ [x0, x1, x2, x3][i]? = some x ∧ Mo T.C_Moment H2 v q ∧ PrQ K H2 x q ∧ Sm 3900 q := fun i hi => by
        match i, hi with
        | 0, _ => exact ⟨_, _, q0, rfl, rfl, b0, a0, s0⟩
        | 1, _ => exact ⟨_, _, q1, rfl, rfl, b1, a1, s1⟩
        | 2, _ => exact ⟨_, _, q2, rfl, rfl, b2, a2, s2⟩
        | 3, _ => exact ⟨_, _, q3, rfl, rfl, b3, a3, s3⟩
      walk_at "go"
      refine ⟨_, rfl, by omega, by omega, for_range (lo := 0) (n := (4 : Int).toNat) (fun i σ H' => H' = H2 ∧ ∃ (v9 : Option V), σ = [some (.int t), some (.ref pt), some (.int pl), some (.int lf), some (.ref p), some .non, none, none, some (.ref p2), v9]) ⟨rfl, none, rfl⟩ ?_ ?_⟩
      · rintro i σ H' hi ⟨rfl, v9, rfl⟩
        obtain ⟨v, x, q, hv, hx, hm, ⟨px, rfl, ux⟩, hs⟩ := turn i hi
        walk_at "go"
        refine w_ixL (SqL.of u2) (by rw [Int.zero_add]; exact atI_nat hv) ?_
        walk_at "go"
        refine w_ixL l (by rw [Int.zero_add]; exact atI_nat hx) ?_
        walk_at "go"
        refine w_ixL l (by rw [Int.zero_add]; exact atI_nat hx) ?_
        walk_at "go"
        refine c_holds hm (hs.mono (by decide)) (hs.num.mono (by decide)) (hs.den.mono (by decide)) rfl ?_
        walk_at "go"
        exact ⟨rfl, _, rfl⟩
      · rintro σ H' ⟨rfl, v9, rfl⟩
        walk_at "go"
        refine n_tup (by show 2 ≤ 100000; decide) fun p7 H7 _ e7 u7 => ?_
        exact k p7 H7 _ ((e1.t e2).t e7) (SqT.of u7) (.inl ⟨n, (mA.up e2).up e7⟩)
end
end AT
namespace AT
open PySem PySem.Spec PyProof.Rows L2
section
variable {P : Program} {w : World} {K : PySem.W.Frag} {mg : Str → Option Value} {base : Heap}
/-- pairs, one a worth -/
def PAll (K : PySem.W.Frag) (H : Hp) : List V → List Rat → Prop
  | [], [] => True
  | x :: xs, q :: qs => PrQ K H x q ∧ PAll K H xs qs
  | _, _ => False
theorem PAll.imp {H H' : Hp} (f : ∀ v q, PrQ K H v q → PrQ K H' v q) : ∀ {xs : List V} {qs : List Rat}, PAll K H xs qs → PAll K H' xs qs
  | [], [], _ => True.intro
  | _ :: _, _ :: _, h => ⟨f _ _ h.1, PAll.imp f h.2⟩
  | [], _ :: _, h => h.elim
  | _ :: _, [], h => h.elim
theorem PAll.up {H H' : Hp} (e : Ext H H') {xs : List V} {qs : List Rat} (h : PAll K H xs qs) : PAll K H' xs qs := h.imp fun _ _ h => h.up e
theorem PAll.len {H : Hp} : ∀ {xs : List V} {qs : List Rat}, PAll K H xs qs → xs.length = qs.length
  | [], [], _ => rfl
  | _ :: _, _ :: _, h => congrArg Nat.succ (PAll.len h.2)
  | [], _ :: _, h => h.elim
  | _ :: _, [], h => h.elim
theorem PAll.snoc {H : Hp} {x : V} {q : Rat} (h1 : PrQ K H x q) : ∀ {xs : List V} {qs : List Rat}, PAll K H xs qs → PAll K H (xs ++ [x]) (qs ++ [q])
  | [], [], _ => ⟨h1, True.intro⟩
  | _ :: _, _ :: _, h => ⟨h.1, PAll.snoc h1 h.2⟩
  | [], _ :: _, h => h.elim
  | _ :: _, [], h => h.elim
theorem PAll.get {H : Hp} : ∀ {xs : List V} {qs : List Rat} {i : Nat} {x : V}, PAll K H xs qs → xs[i]? = some x → ∃ q, qs[i]? = some q ∧ PrQ K H x q
  | _ :: _, _ :: _, 0, _, h, e => by cases e; exact ⟨_, rfl, h.1⟩
  | _ :: xs, _ :: qs, i + 1, x, h, e => PAll.get (xs := xs) (qs := qs) h.2 (by simpa using e)
  | [], [], i, x, _, e => by simp at e
  | [], _ :: _, _, _, h, _ => h.elim
  | _ :: _, [], _, _, h, _ => h.elim
theorem PAll.set {H : Hp} {x : V} {q : Rat} (h1 : PrQ K H x q) : ∀ {xs : List V} {qs : List Rat} {i : Nat}, PAll K H xs qs → PAll K H (xs.set i x) (qs.set i q)
  | [], [], i, _ => True.intro
  | _ :: _, _ :: _, 0, h => ⟨h1, h.2⟩
  | _ :: _, _ :: _, i + 1, h => ⟨h.1, PAll.set h1 h.2⟩
  | [], _ :: _, _, h => h.elim
  | _ :: _, [], _, h => h.elim
theorem Rd.st {H : Hp} {p a : Addr} {l : List V} {o u : HO} (hp : H p = some (.lst l)) (n : ∀ l', u ≠ .lst l') (h : Rd H a u) : Rd (upd H p o) a u := by
  rcases h with h | ⟨z, h⟩
  · exact .inl (by rw [upd_ne fun e => by subst e; rw [hp] at h; cases h; exact n _ rfl]; exact h)
  · exact .inr ⟨z, by rw [upd_ne fun e => by subst e; rw [hp] at h; cases h]; exact h⟩
theorem SqT.st {H : Hp} {p a : Addr} {l xs : List V} {o : HO} (hp : H p = some (.lst l)) (h : SqT K H a xs) : SqT K (upd H p o) a xs := h.imp (fun h => Rd.st hp (fun _ z => by cases z) h) id
theorem PrQ.st {H : Hp} {p : Addr} {l : List V} {o : HO} {v : V} {q : Rat} (hp : H p = some (.lst l)) (h : PrQ K H v q) : PrQ K (upd H p o) v q := by
  obtain ⟨a, rfl, u⟩ := h
  exact ⟨a, rfl, SqT.st hp u⟩
theorem PAll.st {H : Hp} {p : Addr} {l : List V} {o : HO} {xs : List V} {qs : List Rat} (hp : H p = some (.lst l)) (h : PAll K H xs qs) : PAll K (upd H p o) xs qs := h.imp fun _ _ h => h.st hp
theorem c_rowE {c : Int} {l : Addr} {ss : List Int} {H : Hp} {Q : VK} {E : XK} (hl : SqL K H l (ss.map V.int)) (hz : ss.length ≤ 63) (hs : ∀ s ∈ ss, 0 < s ∧ s < 1073741824)
    (h : ∀ p ns H', Ext H H' → SqL K H' p (ns.map V.int) → RowOk ss ns → Q (.ref p) H') : spRow K [.int c, .ref l] H Q E := c_row hl hz hs fun p ns n r => h p ns _ (Ext.new n) (SqL.of upd_same) r
theorem sm_addD {m n : Nat} {q : Rat} {t b : Int} (h : Sm m q) (h0 : b ≠ 0) (bt : Bn n t) (bb : Bn n b) : Sm (m + n + 1) (q + Rat.divInt t b) := by
  have e := add_eqI q h0 (t := t)
  have x1 : Bn (m + n) (q.num * b) := h.num.mul bb
  have x2 : Bn (m + n) (t * (q.den : Int)) := by
    have x := bt.mul h.den
    rw [Nat.add_comm n m] at x
    exact x
  have x3 : Bn (m + n) ((q.den : Int) * b) := h.den.mul bb
  have x4 : Bn (m + n + 1) (q.num * b + t * (q.den : Int)) := x1.add x2
  have x5 : Bn (m + n + 1) ((q.den : Int) * b) := x3.mono (Nat.le_succ _)
  have x6 : (q.den : Int) * b ≠ 0 := Int.mul_ne_zero (dne q) h0
  have x7 := sm_div x6 x4 x5
  rw [e] at x7
  exact x7
theorem w_eqB {a b : Bool} {H : Hp} {Q : VK} (h : Q (.bl (decide (a = b))) H) : rEq (.bl a) (.bl b) H Q := ⟨rfl, by
  have e : decide (V.bl a = V.bl b) = decide (a = b) := by rw [decide_eq_decide]; exact ⟨fun z => by cases z; rfl, fun z => by rw [z]⟩
  rw [e]
  exact h⟩
theorem w_yes {σ : L2.St} {H : Hp} {QB : Bool → Hp → Prop} (h : QB true H) : tYes σ H QB := h
theorem left_at : ∀ x y : Bool, atI [V.int 0, .int 2, .int 1, .int 3] (2 * (if x = true then 1 else 0) + (if y = true then 1 else 0)) = some (.int ((if x = true then 1 else 0) + 2 * (if y = true then 1 else 0)))
  | true, true => rfl
  | true, false => rfl
  | false, true => rfl
  | false, false => rfl
theorem w_asgS {te to ti : TE} {t : TSet} {D : Ends} {σ : L2.St} {H : Hp} (h : te σ H fun x H1 => to σ H1 fun o H2 => ti σ H2 fun i H3 => t o i x H3 fun H4 => D.nx σ H4) : tAsg te (gSub to ti t) D σ H := h
theorem w_setL {p : Addr} {k : Int} {j : Nat} {xs : List V} {v : V} {H : Hp} {Q : Hp → Prop} (hp : H p = some (.lst xs)) (hj : ixN xs.length k = some j) (h : Q (upd H p (.lst (xs.set j v)))) : rSetL (.ref p) (.int k) v H Q := ⟨p, xs, k, j, rfl, rfl, hp, hj, h⟩
theorem w_intB {k : Bool} {H : Hp} {Q : VK} (h : Q (.int (if k then 1 else 0)) H) : rInt1 [.bl k] H Q := .inr ⟨k, rfl, h⟩
theorem PAll.four {H : Hp} {xs : List V} {q0 q1 q2 q3 : Rat} (h : PAll K H xs [q0, q1, q2, q3]) : ∃ x0 x1 x2 x3, xs = [x0, x1, x2, x3] ∧ PrQ K H x0 q0 ∧ PrQ K H x1 q1 ∧ PrQ K H x2 q2 ∧ PrQ K H x3 q3 := by
  cases xs with
  | nil => exact h.elim
  | cons x0 xs =>
    obtain ⟨h0, h⟩ := h
    cases xs with
    | nil => exact h.elim
    | cons x1 xs =>
      obtain ⟨h1, h⟩ := h
      cases xs with
      | nil => exact h.elim
      | cons x2 xs =>
        obtain ⟨h2, h⟩ := h
        cases xs with
        | nil => exact h.elim
        | cons x3 xs =>
          obtain ⟨h3, h⟩ := h
          cases xs with
          | nil => exact ⟨_, _, _, _, rfl, h0, h1, h2, h3⟩
          | cons x4 xs => exact h.elim
theorem tms_of {H : Hp} {p : Addr} {xs : List V} {q0 q1 q2 q3 : Rat} (l : SqL K H p xs) (h : PAll K H xs [q0, q1, q2, q3]) (s0 : Sm 3900 q0) (s1 : Sm 3900 q1) (s2 : Sm 3900 q2) (s3 : Sm 3900 q3) : Tms K H (.ref p) q0 q1 q2 q3 := by
  obtain ⟨x0, x1, x2, x3, e, h0, h1, h2, h3⟩ := h.four
  exact ⟨p, x0, x1, x2, x3, rfl, by rw [← e]; exact l, h0, h1, h2, h3, s0, s1, s2, s3⟩
theorem c_tried {C CM : Addr} {t : Int} {tv : V} {pl lf : Int} {q0 q1 q2 q3 : Rat} {H : Hp} {Q : VK} {E : XK} (tm : Tms K H tv q0 q1 q2 q3) (hl : lf = 0 ∨ lf = 1 ∨ lf = 2 ∨ lf = 3) (h2 : lf = 0 ∨ lf = 1 → q2 = q0) (h3 : lf = 0 ∨ lf = 2 → q3 = q1)
    (k : ∀ p H' m, Ext H H' → SqT K H' p [.bl true, m] → ((MkOk q0 q1 q2 q3 ∧ MkA C CM H' m t q0 q1 q2 q3) ∨ (¬ MkOk q0 q1 q2 q3 ∧ m = .non)) → Q (.ref p) H') : spTried K C CM [.int t, tv, .int pl, .int lf] H Q E := ⟨t, tv, pl, lf, q0, q1, q2, q3, rfl, tm, hl, h2, h3, k⟩
def pD (q : Rat) : PyData := .tuple [.int q.num, .int (q.den : Int)]
theorem dp_all {H : Hp} : ∀ {xs : List V} {qs : List Rat}, PAll K H xs qs → DpAll K H xs (qs.map pD)
  | [], [], _ => .nil
  | _ :: _, q :: _, ⟨⟨p, e, u⟩, h⟩ => by subst e; exact .cons (.tup u (.cons (.int _) (.cons (.int _) .nil))) (dp_all h)
  | [], _ :: _, h => h.elim
  | _ :: _, [], h => h.elim
theorem eqv_pD (q r : Rat) : PyData.eqv (pD q) (pD r) = decide (q = r) := by
  have e : PyData.eqv (pD q) (pD r) = (decide (q.num = r.num) && decide ((q.den : Int) = (r.den : Int))) := by
    simp only [pD, PyData.eqv, PyData.eqvAll, Bool.and_true]
    rfl
  rw [e, ← Bool.decide_and, decide_eq_decide, ← rat_two]
theorem eqv_all : ∀ (qs rs : List Rat), PyData.eqvAll (qs.map pD) (rs.map pD) = decide (qs = rs)
  | [], [] => by simp [PyData.eqvAll]
  | [], _ :: _ => by simp [PyData.eqvAll]
  | _ :: _, [] => by simp [PyData.eqvAll]
  | q :: qs, r :: rs => by simp [PyData.eqvAll, eqv_pD, eqv_all qs rs]
theorem MkA.nn {C CM : Addr} {H : Hp} {v : V} {t : Int} {q0 q1 q2 q3 : Rat} (h : MkA C CM H v t q0 q1 q2 q3) : ¬ v = .non := by
  obtain ⟨a, dx, m0, m1, m2, m3, rfl, _⟩ := h
  intro z
  cases z
theorem r_mkeq {T : Tx K mg} {H : Hp} {v y : V} {t t' : Int} {q0 q1 q2 q3 r0 r1 r2 r3 : Rat} {Q : VK} {E : XK} (h : MkA T.C_Mark T.C_Moment H v t q0 q1 q2 q3) (h2 : MkA T.C_Mark T.C_Moment H y t' r0 r1 r2 r3)
    (k : Q (.bl (decide (t = t' ∧ q0 = r0 ∧ q1 = r1 ∧ q2 = r2 ∧ q3 = r3))) H) : rCmpIns K T.C_Mark (spEqMk T.C_Mark T.C_Moment) E v y H Q := by
  obtain ⟨a, dx, m0, m1, m2, m3, rfl, ha, _⟩ := id h
  exact ⟨a, dx, _, _, rfl, ha, h2.ty, nf_self, _, _, t, t', q0, q1, q2, q3, r0, r1, r2, r3, rfl, h, h2, k⟩
theorem r_mkne {T : Tx K mg} {H : Hp} {v y : V} {t t' : Int} {q0 q1 q2 q3 r0 r1 r2 r3 : Rat} {Q : VK} {E : XK} (h : MkA T.C_Mark T.C_Moment H v t q0 q1 q2 q3) (h2 : MkA T.C_Mark T.C_Moment H y t' r0 r1 r2 r3)
    (k : Q (.bl (!decide (t = t' ∧ q0 = r0 ∧ q1 = r1 ∧ q2 = r2 ∧ q3 = r3))) H) : rNeIns K T.C_Mark (spEqMk T.C_Mark T.C_Moment) E v y H Q := by
  obtain ⟨a, dx, m0, m1, m2, m3, rfl, ha, _⟩ := id h
  exact ⟨a, dx, _, _, rfl, ha, h2.ty, nf_self, _, _, t, t', q0, q1, q2, q3, r0, r1, r2, r3, rfl, h, h2, _, rfl, k⟩
def spLaw (K : PySem.W.Frag) : Sp := fun vs H Q _ => ∃ (a : Addr) (ns : List Int), vs = [.ref a] ∧ SqL K H a (ns.map V.int) ∧ ns.length ≤ 63 ∧ ∀ H', Q (.bl true) H'
theorem ok_law (T : Tx K mg) : FnOk P w K mg base CX0 10 T.a_law T.d_law ["_law_script"] (spLaw K) := by
  refine T.F_law.ok sc_law (fun vs H Q E h => ?_) (fun cdv A outer s H vs Q E hr h => ?_)
  · obtain ⟨a, ns, rfl, _⟩ := h
    rfl
  · obtain ⟨a, ns, rfl, l, hz, q⟩ := h
    have G__law_cell : FnOk P w K mg base CX0 1 T.a__law_cell T.d__law_cell ["_law_script", "_law_k"] (spCell K) := ok__law_cell T
    have G__law_row : FnOk P w K mg base CX0 1 T.a__law_row T.d__law_row ["_law_cell_here", "_law_sizes"] (spRow K) := ok__law_row T
    have G__law_whole : FnOk P w K mg base CX0 1 T.a__law_whole T.d__law_whole ["_law_cell_here", "_law_most"] spWhole := ok__law_whole T
    have G__law_low : FnOk P w K mg base CX0 2 T.a__law_low T.d__law_low ["_law_top", "_law_bottom"] (spLow K) := ok__law_low T
    have G__law_add : FnOk P w K mg base CX0 3 T.a__law_add T.d__law_add ["_law_a", "_law_b"] (spAddQ K) := ok__law_add T
    have G__law_tried : FnOk P w K mg base CX0 9 T.a__law_tried T.d__law_tried ["_law_tone", "_law_times", "_law_plain", "_law_left"] (spTried K T.C_Mark T.C_Moment) := ok__law_tried T
    have G_mkeq : FnOk P w K mg base CX0 3 T.a_Mark___eq__ T.d_Mark___eq__ ["self", "other"] (spEqMk T.C_Mark T.C_Moment) := ok_Mark___eq__ T
    have hr1 : Room 1 _ := hr.mono (by decide : 1 ≤ 9)
    have hr3 : Room 3 _ := hr.mono (by decide : 3 ≤ 9)
    have hr4 : Room 4 _ := hr.mono (by decide : 4 ≤ 9)
    have hr__law_cell := hr1
    have hr__law_row := hr1
    have hr__law_whole := hr1
    have hr__law_low : Room 2 _ := hr.mono (by decide : 2 ≤ 9)
    have hr__law_add := hr3
    have hr__law_tried : Room 9 _ := hr
    refine ⟨_, ((pss_cons (ps_set (i := 1) sc_law.nd rfl (Or.inl rfl) (pe_call G__law_row hr__law_row rfl T.g__law_row T.F__law_row.kp T.b__law_row .nil pass0 (pa_cons (pe_call G__law_cell hr__law_cell rfl T.g__law_cell T.F__law_cell.kp T.b__law_cell .nil pass0 (pa_cons (pv 0) (pa_cons pe_int pa_nil))) (pa_cons (pe_lst (pa_cons pe_int (pa_cons pe_int (pa_cons pe_int (pa_cons pe_int (pa_cons pe_int (pa_cons pe_int (pa_cons pe_int (pa_cons pe_int (pa_cons pe_int (pa_cons pe_int pa_nil))))))))))) pa_nil))))
 (pss_cons (ps_set (i := 2) sc_law.nd rfl (Or.inl rfl) (pe_call G__law_whole hr__law_whole rfl T.g__law_whole T.F__law_whole.kp T.b__law_whole .nil pass0 (pa_cons (pe_call G__law_cell hr__law_cell rfl T.g__law_cell T.F__law_cell.kp T.b__law_cell .nil pass0 (pa_cons (pv 0) (pa_cons pe_int pa_nil))) (pa_cons (pe_op op_pow pe_int pe_int) pa_nil))))
 (pss_cons (ps_set (i := 3) sc_law.nd rfl (Or.inl rfl) (pe_call G__law_low hr__law_low rfl T.g__law_low T.F__law_low.kp T.b__law_low .nil pass0 (pa_cons (pe_call G__law_whole hr__law_whole rfl T.g__law_whole T.F__law_whole.kp T.b__law_whole .nil pass0 (pa_cons (pe_call G__law_cell hr__law_cell rfl T.g__law_cell T.F__law_cell.kp T.b__law_cell .nil pass0 (pa_cons (pv 0) (pa_cons pe_int pa_nil))) (pa_cons (pe_op op_pow pe_int pe_int) pa_nil))) (pa_cons (pe_op op_add pe_int (pe_op op_mulW (pe_ix ix_list (pv 1) pe_int (fun _ _ => rfl)) pe_int)) pa_nil))))
 (pss_cons (ps_set (i := 4) sc_law.nd rfl (Or.inl rfl) (pe_lst (pa_cons (pv 3) pa_nil)))
 (Evl.pss_cut (ps_for PassesOwn.never rfl (pi_range1 rfl T.n_range (pa_cons pe_int pa_nil)) (pg_name (i := 5) sc_law.nd rfl (Or.inl rfl)) (pss_one (ps_expr (pe_bm PySem.F.plainAttrs_list PySem.F.slot_list_append PySem.F.type_list_append mt_append (pv 4) (pa_cons (pe_call G__law_add hr__law_add rfl T.g__law_add T.F__law_add.kp T.b__law_add .nil pass0 (pa_cons (pv 3) (pa_cons (pe_tup (pa_cons (pe_op op_sub (pe_ix ix_list (pv 1) (pv 5) (fun _ _ => rfl)) pe_int) (pa_cons (pe_op op_add pe_int (pe_ix ix_list (pv 1) pe_int (fun _ _ => rfl))) pa_nil))) pa_nil))) pa_nil)))))
 (Evl.pss_cut (ps_setLc (i := 4) (own := [("_law_one", 6)]) (g := gName 6) (by rfl) sc_law.nd rfl rfl (sw_true rfl rfl rfl (by decide +kernel)) (pi_list (pv 4)) (blkOk_by (own := [("_law_one", 6)]) (N := ["_law_script", "_law_row_here", "_law_tone", "_law_origin", "_law_times", "_law_k", "_law_one", "_law_left", "_law_other_tone", "_law_others", "_law_pair", "_law_two", "_law_same"]) (sc := defScope s_law) (by decide +kernel)) (fun _ _ _ _ _ => pg_name (i := 6) sc_law.nd rfl (Or.inl rfl)) (fun _ _ _ _ _ => pts_nil) (fun _ _ _ _ _ => (pe_tup (pa_cons (pe_ix (r := rIxT K) ix_tup (pv 6) pe_int (fun _ _ => rfl)) (pa_cons (pe_ix (r := rIxT K) ix_tup (pv 6) pe_int (fun _ _ => rfl)) pa_nil)))))
 (pss_cons (ps_set (i := 7) sc_law.nd rfl (Or.inl rfl) (pe_op op_add (pe_op op_mulW pe_int (pe_callTy call_intR (by rfl) T.n_int boot_int (pa_cons (pe_cmpR op_gt (pe_ix ix_list (pv 1) pe_int (fun _ _ => rfl)) pe_int (nomark _)) pa_nil))) (pe_callTy call_intR (by rfl) T.n_int boot_int (pa_cons (pe_cmpR op_gt (pe_ix ix_list (pv 1) pe_int (fun _ _ => rfl)) pe_int (nomark _)) pa_nil))))
 (pss_cons (ps_set (i := 7) sc_law.nd rfl (Or.inl rfl) (pe_ix ix_list (pe_lst (pa_cons pe_int (pa_cons pe_int (pa_cons pe_int (pa_cons pe_int pa_nil))))) (pv 7) (fun _ _ => rfl)))
 (Evl.pss_cut (ps_if (pt_cmpR op_eq (pe_ix ix_list (pv 1) pe_int (fun _ _ => rfl)) pe_int (nomark _)) (pss_one (ps_asg (pe_ix ix_list (pv 4) pe_int (fun _ _ => rfl)) (pg_sub (pv 4) pe_int set_list))) pss_nil)
 (Evl.pss_cut (ps_if (pt_cmpR op_eq (pe_ix ix_list (pv 1) pe_int (fun _ _ => rfl)) pe_int (nomark _)) (pss_one (ps_asg (pe_ix ix_list (pv 4) pe_int (fun _ _ => rfl)) (pg_sub (pv 4) pe_int set_list))) pss_nil)
 (pss_cons (ps_set (i := 6) sc_law.nd rfl (Or.inl rfl) (pe_call G__law_tried hr__law_tried rfl T.g__law_tried T.F__law_tried.kp T.b__law_tried .nil pass0 (pa_cons (pv 2) (pa_cons (pv 4) (pa_cons (pe_ix ix_list (pv 1) pe_int (fun _ _ => rfl)) (pa_cons (pv 7) pa_nil))))))
 (pss_cons (ps_set (i := 8) sc_law.nd rfl (Or.inl rfl) (pv 2))
 (Evl.pss_cut (ps_setLc (i := 9) (own := [("_law_pair", 10)]) (g := gName 10) (by rfl) sc_law.nd rfl rfl (sw_true rfl rfl rfl (by decide +kernel)) (pi_list (pv 4)) (blkOk_by (own := [("_law_pair", 10)]) (N := ["_law_script", "_law_row_here", "_law_tone", "_law_origin", "_law_times", "_law_k", "_law_one", "_law_left", "_law_other_tone", "_law_others", "_law_pair", "_law_two", "_law_same"]) (sc := defScope s_law) (by decide +kernel)) (fun _ _ _ _ _ => pg_name (i := 10) sc_law.nd rfl (Or.inl rfl)) (fun _ _ _ _ _ => pts_nil) (fun _ _ _ _ _ => (pv 10)))
 (Evl.pss_cut (ps_if (pt_cmpR op_eq (pe_ix ix_list (pv 1) pe_int (fun _ _ => rfl)) pe_int (nomark _)) (pss_one (ps_set (i := 8) sc_law.nd rfl (Or.inl rfl) (pe_op op_add (pv 2) pe_int))) (pss_one (ps_if (pt_cmpR op_lt (pe_ix ix_list (pv 1) pe_int (fun _ _ => rfl)) pe_int (nomark _)) (pss_one (ps_asg (pe_call G__law_add hr__law_add rfl T.g__law_add T.F__law_add.kp T.b__law_add .nil pass0 (pa_cons (pe_ix ix_list (pv 9) (pe_op op_sub (pe_ix ix_list (pv 1) pe_int (fun _ _ => rfl)) pe_int) (fun _ _ => rfl)) (pa_cons (pe_tup (pa_cons pe_int (pa_cons pe_int pa_nil))) pa_nil))) (pg_sub (pv 9) (pe_op op_sub (pe_ix ix_list (pv 1) pe_int (fun _ _ => rfl)) pe_int) set_list))) pss_nil)))
 (pss_cons (ps_set (i := 11) sc_law.nd rfl (Or.inl rfl) (pe_call G__law_tried hr__law_tried rfl T.g__law_tried T.F__law_tried.kp T.b__law_tried .nil pass0 (pa_cons (pv 8) (pa_cons (pv 9) (pa_cons (pe_ix ix_list (pv 1) pe_int (fun _ _ => rfl)) (pa_cons pe_int pa_nil))))))
 (pss_cons (ps_if (PW.pt (pw_or (pt_not (pt_val (pe_ix ix_tup (pv 6) pe_int (fun _ _ => rfl)))) (pw_or1 (pt_not (pt_val (pe_ix ix_tup (pv 11) pe_int (fun _ _ => rfl))))))) (pss_one (ps_ret pe_bl)) pss_nil)
 (pss_cons (ps_if (PW.pt (pw_or (pt_cmpR op_isN1 (pe_ix ix_tup (pv 6) pe_int (fun _ _ => rfl)) pe_non (nomark _)) (pw_or1 (pt_cmpR op_isN1 (pe_ix ix_tup (pv 11) pe_int (fun _ _ => rfl)) pe_non (nomark _))))) (pss_one (ps_ret pe_bl)) pss_nil)
 (pss_cons (ps_set (i := 12) sc_law.nd rfl (Or.inl rfl) (pe_and (pe_cmpR op_eq (pv 8) (pv 2) (nomark _)) (pe_one (pe_cmpR (op_eqD hr1.units) (pv 9) (pv 4) (nomark _)))))
 (pss_one (ps_ret (pe_and (pe_cmpR op_eq (pe_cmpR (op_cmpIns (fun _ _ => rfl) T.m_Mark___eq__ G_mkeq hr3 T.b_Mark___eq__ pass0) (pe_ix ix_tup (pv 6) pe_int (fun _ _ => rfl)) (pe_ix ix_tup (pv 11) pe_int (fun _ _ => rfl)) (nomark _)) (pv 12) (nomark _)) (pe_one (pe_cmpR op_eq (pe_cmpR (op_neIns T.o_Mark T.ne_Mark T.m_Mark___eq__ G_mkeq hr4 T.b_Mark___eq__ pass0) (pe_ix ix_tup (pv 6) pe_int (fun _ _ => rfl)) (pe_ix ix_tup (pv 11) pe_int (fun _ _ => rfl)) (nomark _)) (pe_not (pv 12)) (nomark _))))))))))))))))))))))))), ?_⟩
    walk_at "go"
    refine c_cell l (by decide) fun c2 => ?_
    walk_at "go"
    refine n_lst (by decide) fun p1 H1 _ e1 u1 => ?_
    walk_at "go"
    refine c_rowE (ss := [13, 13, 13, 6, 2, 3, 3, 2, 12, 9]) (SqL.of u1) (by decide) (by decide) fun r0 rows H2 e2 uR rk => ?_
    obtain ⟨k0, r1, rfl, a0, b0, rk⟩ := rk.cons
    obtain ⟨k1, r1, rfl, a1, b1, rk⟩ := rk.cons
    obtain ⟨k2, r1, rfl, a2, b2, rk⟩ := rk.cons
    obtain ⟨k3, r1, rfl, a3, b3, rk⟩ := rk.cons
    obtain ⟨k4, r1, rfl, a4, b4, rk⟩ := rk.cons
    obtain ⟨k5, r1, rfl, a5, b5, rk⟩ := rk.cons
    obtain ⟨k6, r1, rfl, a6, b6, rk⟩ := rk.cons
    obtain ⟨k7, r1, rfl, a7, b7, rk⟩ := rk.cons
    obtain ⟨k8, r1, rfl, a8, b8, rk⟩ := rk.cons
    obtain ⟨k9, rfl, a9, b9⟩ := rk.one
    change SqL K H2 r0 [.int k0, .int k1, .int k2, .int k3, .int k4, .int k5, .int k6, .int k7, .int k8, .int k9] at uR
    have l2 : SqL K H2 a (ns.map V.int) := e2.seq (e1.seq l)
    clear e1 e2 u1
    walk_at "go"
    refine c_cell l2 (by decide) fun c0 => ?_
    walk_at "go"
    refine c_whole (by decide +kernel) (by decide +kernel) fun tone ta tb => ?_
    walk_at "go"
    refine c_cell l2 (by decide) fun c1 => ?_
    walk_at "go"
    refine c_whole (by decide +kernel) (by decide +kernel) fun top oa ob => ?_
    walk_at "go"
    refine w_mulW (m := 8) (n := 8) (Nat.lt_of_le_of_lt (show k9.natAbs ≤ 9 by omega) (by decide)) (by decide) (by decide) (by decide) (by decide) ?_
    walk_at "go"
    have h9 : (1 + k9 * 111 : Int) ≠ 0 := by omega
    have bt : Bn 100 top := bn_of (by decide +kernel) oa ob
    have bb : Bn 100 (1 + k9 * 111) := Nat.lt_of_le_of_lt (show (1 + k9 * 111).natAbs ≤ 1000 by omega) (by decide +kernel)
    have so : Sm 100 (Rat.divInt top (1 + k9 * 111)) := sm_div h9 bt bb
    refine c_low (by omega) (bt.mono (by decide)) (bb.mono (by decide)) fun po H3 e3 mo => ?_
    generalize Rat.divInt top (1 + k9 * 111) = o at so mo
    have uR := e3.seq uR
    clear l2 e3 bt bb h9 l
    walk_at "go"
    refine n_lst (by show 1 ≤ 100000; decide) fun p4 H4 np4 e4 u4 => ?_
    have hd : ∀ i : Nat, i < 3 → ∃ k : Int, ([k0, k1, k2] : List Int)[i]? = some k ∧ ([.int k0, .int k1, .int k2, .int k3, .int k4, .int k5, .int k6, .int k7, .int k8, .int k9] : List V)[i]? = some (.int k) ∧ 0 ≤ k ∧ k < 13 := fun i hi => by
      match i, hi with
      | 0, _ => exact ⟨k0, rfl, rfl, a0, b0⟩
      | 1, _ => exact ⟨k1, rfl, rfl, a1, b1⟩
      | 2, _ => exact ⟨k2, rfl, rfl, a2, b2⟩
    walk_at "go"
    refine ⟨fun σ H' => ∃ xs v5, σ = [some (.ref a), some (.ref r0), some (.int tone), some (.ref po), some (.ref p4), v5, none, none, none, none, none, none, none] ∧ Ext H3 H' ∧ H' p4 = some (.lst xs) ∧
      PAll K H' xs (o :: ([k0, k1, k2].map fun k => o + Rat.divInt (k - 2) (1 + k3))), ?_, ?_⟩
    · walk_at "go"
      refine ⟨_, rfl, by omega, by omega, for_range (lo := 0) (n := (3 : Int).toNat) (fun i σ H' => ∃ xs v5, σ = [some (.ref a), some (.ref r0), some (.int tone), some (.ref po), some (.ref p4), v5, none, none, none, none, none, none, none] ∧ Ext H3 H' ∧ H' p4 = some (.lst xs) ∧
        PAll K H' xs (o :: (([k0, k1, k2].take i).map fun k => o + Rat.divInt (k - 2) (1 + k3))))
        ⟨[.ref po], none, rfl, e4, u4, mo.up e4, True.intro⟩ ?_ ?_⟩
      · rintro i σ H' hi ⟨xs, v5, rfl, ee, u4, pa⟩
        obtain ⟨k, hk, hk', ka, kb⟩ := hd i hi
        walk_at "go"
        refine ⟨.inl ⟨rfl, _, SqL.of u4⟩, ?_⟩
        walk_at "go"
        refine w_ixL (by walk_at "up") (by rw [Int.zero_add]; exact atI_nat hk') ?_
        walk_at "go"
        refine n_tup (by show 2 ≤ 100000; decide) fun p6 H6 _ e6 u6 => ?_
        walk_at "go"
        have mo6 := (mo.up ee).up e6
        refine c_addQ (t := k - 2) (b := 1 + k3) mo6 (SqT.of u6) (by omega) (so.mono (by decide)) (Nat.lt_of_le_of_lt (show (k - 2).natAbs ≤ 20 by omega) (by decide +kernel)) (Nat.lt_of_le_of_lt (show (1 + k3).natAbs ≤ 20 by omega) (by decide +kernel)) fun p7 H7 e7 m7 => ?_
        walk_at "go"
        have u7 := e7 _ _ (e6 _ _ u4)
        have pa7 := (pa.up e6).up e7
        have len : xs.length < 100000 := by
          rw [pa.len]
          simp
          omega
        refine w_app u7 len ?_
        walk_at "go"
        refine ⟨_, _, rfl, Ext.mut ((ee.t e6).t e7) np4, upd_same, ?_⟩
        have pz := (PAll.snoc m7 pa7).st (o := .lst (xs ++ [V.ref p7])) u7
        rw [List.take_add_one, hk, List.map_append]
        exact pz
      · rintro σ H' ⟨xs, v5, rfl, ee, u4, pa⟩
        exact ⟨xs, v5, rfl, ee, u4, pa⟩
    rintro σ H5 ⟨xs, v5, rfl, e5, u5, pa5⟩
    walk_at "go"
    have sk : ∀ k : Int, 0 ≤ k → k < 13 → Sm 200 (o + Rat.divInt (k - 2) (1 + k3)) := fun k ka kb => (sm_addD so (by omega) (Nat.lt_of_le_of_lt (show (k - 2).natAbs ≤ 20 by omega) (by decide +kernel) : Bn 10 (k - 2)) (Nat.lt_of_le_of_lt (show (1 + k3).natAbs ≤ 20 by omega) (by decide +kernel))).mono (by decide)
    have s1 := sk k0 a0 b0
    have s2 := sk k1 a1 b1
    have s3 := sk k2 a2 b2
    have s0 := so.mono (show 100 ≤ 200 by decide)
    change PAll K H5 xs [o, o + Rat.divInt (k0 - 2) (1 + k3), o + Rat.divInt (k1 - 2) (1 + k3), o + Rat.divInt (k2 - 2) (1 + k3)] at pa5
    clear sk hd so
    generalize o + Rat.divInt (k0 - 2) (1 + k3) = q1 at s1 pa5
    generalize o + Rat.divInt (k1 - 2) (1 + k3) = q2 at s2 pa5
    generalize o + Rat.divInt (k2 - 2) (1 + k3) = q3 at s3 pa5
    refine ⟨fun σ H' => ∃ p9 ys, σ = [some (.ref a), some (.ref r0), some (.int tone), some (.ref po), some (.ref p9), v5, none, none, none, none, none, none, none] ∧ Ext H3 H' ∧ H3 p9 = none ∧ H' p9 = some (.lst ys) ∧ PAll K H' ys [o, q1, q2, q3], ?_, ?_⟩
    · walk_at "go"
      refine ⟨p4, rfl, ⟨_, SqL.of u5⟩, fun D nD => lc_list (K := K) (a := p4) (xs := xs) (fun i H' => Ext H5 H' ∧ ∃ acc, H' D = some (.lst acc) ∧ PAll K H' acc ([o, q1, q2, q3].take i)) ⟨Ext.new nD, [], upd_same, True.intro⟩ (fun i H' _ h => SqL.of (h.1 _ _ u5)) ?_ ?_⟩
      · rintro i z H' hi ⟨ee, acc, ua, pa⟩
        obtain ⟨qz, hq, p, rfl, uz⟩ := pa5.get hi
        have uz := ee.seqT uz
        refine w_gname ⟨rfl, ?_⟩
        walk_at "go"
        refine w_yes ?_
        walk_at "go"
        refine n_tup (by show 2 ≤ 100000; decide) fun p6 H6 _ e6 u6 => ?_
        have ua6 := e6 _ _ ua
        refine ⟨acc, ua6, ?_, Ext.mut (ee.t e6) nD, _, upd_same, ?_⟩
        · rw [pa.len]
          exact Nat.lt_of_le_of_lt (List.length_take_le' ..) (by show 4 < sizeLine; rw [sizeLine_eq]; decide)
        · rw [List.take_add_one, hq]
          exact (PAll.snoc ⟨p6, rfl, SqT.of u6⟩ (pa.up e6)).st ua6
      · rintro H' ⟨ee, acc, ua, pa⟩
        rw [pa5.len] at pa
        walk_at "go"
        exact ⟨D, acc, rfl, e5.t ee, e5.fresh nD, ua, pa⟩
    rintro σ H6 ⟨p9, ys, rfl, e6, n9, u6, pa6⟩
    walk_at "go"
    refine w_intB ?_
    walk_at "go"
    refine w_mulW (m := 8) (n := 8) (by decide) (by cases decide (0 < k5) <;> decide) (by decide) (by decide) (by decide) ?_
    walk_at "go"
    refine w_intB ?_
    walk_at "go"
    refine n_lst (by show 4 ≤ 100000; decide) fun p7 H7 n7 e7 u7 => ?_
    walk_at "go"
    refine w_ixL (SqL.of u7) (left_at _ _) ?_
    have u6 := e7 _ _ u6
    have pa6 := pa6.up e7
    have e6 := e6.t e7
    have hlf : ∀ lf : Int, lf = (if decide (0 < k5) = true then 1 else 0) + 2 * (if decide (0 < k6) = true then 1 else 0) → (lf = 0 ∨ lf = 1 ∨ lf = 2 ∨ lf = 3) ∧ (lf = 0 ∨ lf = 1 → k6 = 0) ∧ (lf = 0 ∨ lf = 2 → k5 = 0) := fun lf e => by
      by_cases c5 : 0 < k5 <;> by_cases c6 : 0 < k6 <;> simp [c5, c6] at e <;> omega
    generalize hz : ((if decide (0 < k5) = true then 1 else 0) + 2 * (if decide (0 < k6) = true then 1 else 0) : Int) = lf
    obtain ⟨l1, l2, l3⟩ := hlf lf hz.symm
    clear hlf
    clear hz
    clear e7 u7 n7
    walk_at "go"
    refine ⟨fun σ H' => ∃ ys q3', σ = [some (.ref a), some (.ref r0), some (.int tone), some (.ref po), some (.ref p9), v5, none, some (.int lf), none, none, none, none, none] ∧ Ext H3 H' ∧ H' p9 = some (.lst ys) ∧ PAll K H' ys [o, q1, q2, q3'] ∧ Sm 200 q3' ∧ (k5 = 0 → q3' = q1), ?_, ?_⟩
    · walk_at "go"
      refine i_dec (fun c => ?_) (fun c => ?_)
      · walk_at "go"
        obtain ⟨x0, x1, x2, x3, rfl, h0, h1, h2, h3⟩ := pa6.four
        refine w_asgS ?_
        walk_at "go"
        refine w_ixL (SqL.of u6) rfl ?_
        walk_at "go"
        refine w_setL u6 (j := 3) rfl ?_
        have h0 := h0.st (o := .lst [x0, x1, x2, x1]) u6
        have h1 := h1.st (o := .lst [x0, x1, x2, x1]) u6
        have h2 := h2.st (o := .lst [x0, x1, x2, x1]) u6
        walk_at "go"
        exact ⟨[x0, x1, x2, x1], q1, rfl, Ext.mut e6 n9, upd_same, ⟨h0, h1, h2, h1, True.intro⟩, s1, fun _ => rfl⟩
      · walk_at "go"
        exact ⟨ys, q3, rfl, e6, u6, pa6, s3, fun z => absurd z c⟩
    clear u6 pa6 e6
    rintro σ H8 ⟨ys, q3', rfl, e8, u8, pa8, s3', l3'⟩
    clear s3
    refine ⟨fun σ H' => ∃ ys q2', σ = [some (.ref a), some (.ref r0), some (.int tone), some (.ref po), some (.ref p9), v5, none, some (.int lf), none, none, none, none, none] ∧ Ext H3 H' ∧ H' p9 = some (.lst ys) ∧ PAll K H' ys [o, q1, q2', q3'] ∧ Sm 200 q2' ∧ (k6 = 0 → q2' = o), ?_, ?_⟩
    · walk_at "go"
      refine i_dec (fun c => ?_) (fun c => ?_)
      · walk_at "go"
        obtain ⟨x0, x1, x2, x3, rfl, h0, h1, h2, h3⟩ := pa8.four
        refine w_asgS ?_
        walk_at "go"
        refine w_ixL (SqL.of u8) rfl ?_
        walk_at "go"
        refine w_setL u8 (j := 2) rfl ?_
        have h0 := h0.st (o := .lst [x0, x1, x0, x3]) u8
        have h1 := h1.st (o := .lst [x0, x1, x0, x3]) u8
        have h3 := h3.st (o := .lst [x0, x1, x0, x3]) u8
        walk_at "go"
        exact ⟨[x0, x1, x0, x3], o, rfl, Ext.mut e8 n9, upd_same, ⟨h0, h1, h0, h3, True.intro⟩, s0, fun _ => rfl⟩
      · walk_at "go"
        exact ⟨ys, q2, rfl, e8, u8, pa8, s2, fun z => absurd z c⟩
    clear u8 pa8 e8
    rintro σ H9 ⟨ys, q2', rfl, e9, u9, pa9, s2', l2'⟩
    clear s2
    walk_at "go"
    refine c_tried (tms_of (SqL.of u9) pa9 (s0.mono (by decide)) (s1.mono (by decide)) (s2'.mono (by decide)) (s3'.mono (by decide))) l1 (fun z => l2' (l2 z)) (fun z => l3' (l3 z)) fun t1 H10 m1 e10 ut1 hm1 => ?_
    have u10 := e10 _ _ u9
    have pa10 := pa9.up e10
    have e10' := e9.t e10
    walk_at "go"
    refine ⟨fun σ H' => ∃ pA zs, σ = [some (.ref a), some (.ref r0), some (.int tone), some (.ref po), some (.ref p9), v5, some (.ref t1), some (.int lf), some (.int tone), some (.ref pA), none, none, none] ∧ Ext H10 H' ∧ H10 pA = none ∧ H' pA = some (.lst zs) ∧ PAll K H' zs [o, q1, q2', q3'], ?_, ?_⟩
    · walk_at "go"
      refine ⟨p9, rfl, ⟨_, SqL.of u10⟩, fun D nD => lc_list (K := K) (a := p9) (xs := ys) (fun i H' => Ext H10 H' ∧ ∃ acc, H' D = some (.lst acc) ∧ PAll K H' acc ([o, q1, q2', q3'].take i)) ⟨Ext.new nD, [], upd_same, True.intro⟩ (fun i H' _ h => SqL.of (h.1 _ _ u10)) ?_ ?_⟩
      · rintro i z H' hi ⟨ee, acc, ua, pa⟩
        obtain ⟨qz, hq, mz⟩ := pa10.get hi
        refine w_gname ⟨rfl, ?_⟩
        walk_at "go"
        refine w_yes ?_
        walk_at "go"
        refine ⟨acc, ua, ?_, Ext.mut ee nD, _, upd_same, ?_⟩
        · rw [pa.len]
          exact Nat.lt_of_le_of_lt (List.length_take_le' ..) (by show 4 < sizeLine; rw [sizeLine_eq]; decide)
        · rw [List.take_add_one, hq]
          exact (PAll.snoc (mz.up ee) pa).st ua
      · rintro H' ⟨ee, acc, ua, pa⟩
        rw [pa10.len] at pa
        walk_at "go"
        exact ⟨D, acc, rfl, ee, nD, ua, pa⟩
    rintro σ H11 ⟨pA, zs, rfl, e11, nA, u11, pa11⟩
    refine ⟨fun σ H' => ∃ tone' zs rs, σ = [some (.ref a), some (.ref r0), some (.int tone), some (.ref po), some (.ref p9), v5, some (.ref t1), some (.int lf), some (.int tone'), some (.ref pA), none, none, none] ∧ Ext H10 H' ∧ H' pA = some (.lst zs) ∧ PAll K H' zs rs ∧ rs.length = 4 ∧ ∀ r ∈ rs, Sm 3900 r, ?_, ?_⟩
    · have uR := (e10'.t e11).seq uR
      have al : ∀ r ∈ [o, q1, q2', q3'], Sm 200 r := by
        intro r hr
        simp only [List.mem_cons, List.not_mem_nil, or_false] at hr
        rcases hr with rfl | rfl | rfl | rfl
        · exact s0
        · exact s1
        · exact s2'
        · exact s3'
      walk_at "go"
      refine i_dec (fun c => ?_) (fun c => ?_)
      · walk_at "go"
        exact ⟨_, zs, _, rfl, e11, u11, pa11, rfl, fun r hr => (al r hr).mono (by decide)⟩
      · walk_at "go"
        refine i_dec (fun c5 => ?_) (fun c5 => ?_)
        · obtain ⟨j, hj, ej⟩ : ∃ j : Nat, j < 4 ∧ k8 - 1 = (j : Int) := ⟨(k8 - 1).toNat, by omega, by omega⟩
          have lz : zs.length = 4 := pa11.len
          obtain ⟨z, hz⟩ : ∃ z, zs[j]? = some z := ⟨zs[j]'(by omega), List.getElem?_eq_getElem (by omega)⟩
          obtain ⟨qz, hq, mz⟩ := pa11.get hz
          refine w_asgS ?_
          walk_at "go"
          rw [ej]
          refine w_ixL (SqL.of u11) (atI_nat hz) ?_
          walk_at "go"
          refine n_tup (by show 2 ≤ 100000; decide) fun p12 H12 _ e12 u12 => ?_
          walk_at "go"
          refine c_addQ (t := 1) (b := 7) (mz.up e12) (SqT.of u12) (by decide) ((al qz (List.mem_of_getElem? hq)).mono (by decide)) (by decide) (by decide) fun p13 H13 e13 m13 => ?_
          have uR := (e12.t e13).seq uR
          have u13 := e13 _ _ (e12 _ _ u11)
          have pa13 := (pa11.up e12).up e13
          walk_at "go"
          rw [ej]
          refine w_setL u13 (j := j) (by unfold ixN; rw [if_pos (by omega), if_pos (by omega)]; rfl) ?_
          walk_at "go"
          refine ⟨_, _, _, rfl, Ext.mut ((e11.t e12).t e13) nA, upd_same, (PAll.set m13 pa13).st u13, by rw [List.length_set]; rfl, fun r hr => ?_⟩
          rcases List.mem_or_eq_of_mem_set hr with h | rfl
          · exact (al r h).mono (by decide)
          · exact (sm_addD (al qz (List.mem_of_getElem? hq)) (by decide : (7 : Int) ≠ 0) (by decide : Bn 10 1) (by decide : Bn 10 7)).mono (by decide)
        · walk_at "go"
          exact ⟨_, zs, _, rfl, e11, u11, pa11, rfl, fun r hr => (al r hr).mono (by decide)⟩
    clear u11 pa11 e11
    rintro σ H14 ⟨tone', zs, rs, rfl, e14, u14, pa14, lr, sr⟩
    obtain ⟨o', r1, r2, r3, rfl⟩ : ∃ o' r1 r2 r3, rs = [o', r1, r2, r3] := by
      match rs, lr with
      | [x0, x1, x2, x3], _ => exact ⟨_, _, _, _, rfl⟩
    walk_at "go"
    refine c_tried (tms_of (SqL.of u14) pa14 (sr _ (by simp)) (sr _ (by simp)) (sr _ (by simp)) (sr _ (by simp))) (.inr (.inr (.inr rfl))) (fun z => by omega) (fun z => by omega) fun t2 H15 m2 e15 ut2 hm2 => ?_
    have u15 := e15 _ _ u14
    have pa15 := pa14.up e15
    have e15' : Ext H10 H15 := Ext.t e14 e15
    have ut1 := e15'.seqT ut1
    have u10 := e15' _ _ u10
    have pa10 := pa10.up e15'
    clear e14 u14 pa14 uR
    walk_at "go"
    rcases hm1 with ⟨ok1, hm1⟩ | ⟨_, rfl⟩
    rotate_left
    · refine i_yes (decide_eq_true rfl) ?_
      walk_at "go"
      exact q _
    have hm1 := hm1.up e15'
    refine i_no (decide_eq_false hm1.nn) ?_
    walk_at "go"
    rcases hm2 with ⟨ok2, hm2⟩ | ⟨_, rfl⟩
    rotate_left
    · refine i_yes (decide_eq_true rfl) ?_
      walk_at "go"
      exact q _
    refine i_no (decide_eq_false hm2.nn) ?_
    walk_at "go"
    have key : decide (tone = tone' ∧ o = o' ∧ q1 = r1 ∧ q2' = r2 ∧ q3' = r3) = (decide (tone' = tone) && decide ([o', r1, r2, r3] = [o, q1, q2', q3'])) := by
      rw [← Bool.decide_and, decide_eq_decide]
      simp only [List.cons.injEq, and_true]
      exact ⟨fun ⟨a, b, c, d, e⟩ => ⟨a.symm, b.symm, c.symm, d.symm, e.symm⟩, fun ⟨a, b, c, d, e⟩ => ⟨a.symm, b.symm, c.symm, d.symm, e.symm⟩⟩
    refine i_dec (fun c => ?_) (fun c => ?_)
    · walk_at "go"
      refine n_eqD (.lst (SqL.of u15) (dp_all pa15)) (.lst (SqL.of u10) (dp_all pa10)) rfl rfl ?_
      have ev : PyData.eqv (.list ([o', r1, r2, r3].map pD)) (.list ([o, q1, q2', q3'].map pD)) = decide (tone = tone' ∧ o = o' ∧ q1 = r1 ∧ q2' = r2 ∧ q3' = r3) := by
        rw [key, decide_eq_true c, Bool.true_and, ← eqv_all]
        simp only [PyData.eqv]
      rw [ev]
      walk_at "go"
      refine r_mkeq hm1 hm2 ?_
      walk_at "go"
      refine w_eqB ?_
      refine ⟨_, rfl, i_yes (decide_eq_true rfl) ?_⟩
      walk_at "go"
      refine r_mkne hm1 hm2 ?_
      walk_at "go"
      refine w_eqB ?_
      rw [decide_eq_true rfl]
      exact q _
    · walk_at "go"
      have ev : decide (tone = tone' ∧ o = o' ∧ q1 = r1 ∧ q2' = r2 ∧ q3' = r3) = false := by rw [key, decide_eq_false c, Bool.false_and]
      refine r_mkeq hm1 hm2 ?_
      rw [ev]
      walk_at "go"
      refine w_eqB ?_
      refine ⟨_, rfl, i_yes (decide_eq_true rfl) ?_⟩
      walk_at "go"
      refine r_mkne hm1 hm2 ?_
      rw [ev]
      walk_at "go"
      refine w_eqB ?_
      rw [decide_eq_true rfl]
      exact q _
end
end AT
namespace AT
open PySem L2
theorem all_mk {K : PySem.W.Frag} {h : Heap} {mg : Str → Option Value} {fa : Addr} (X : K.In h) (G : h.Ns mainGlobals mg) (hfa : mg "law" = some (.ref fa))
    {C_AnytuneError : Addr}
    {C_NoMoment : Addr}
    {C_NoMark : Addr}
    {C_Moment : Addr}
    {C_Mark : Addr}
    {a_NoMoment___init__ : Addr} {oc_NoMoment___init__ kV_NoMoment___init__ dc_NoMoment___init__ pm_NoMoment___init__ cd_NoMoment___init__ ct_NoMoment___init__ : Value} {od_NoMoment___init__ an_NoMoment___init__ : Option Addr} {sl_NoMoment___init__ : Array (Option Value)}
    {a_NoMark___init__ : Addr} {oc_NoMark___init__ kV_NoMark___init__ dc_NoMark___init__ pm_NoMark___init__ cd_NoMark___init__ ct_NoMark___init__ : Value} {od_NoMark___init__ an_NoMark___init__ : Option Addr} {sl_NoMark___init__ : Array (Option Value)}
    {a_common : Addr} {oc_common kV_common dc_common pm_common cd_common ct_common : Value} {od_common an_common : Option Addr} {sl_common : Array (Option Value)}
    {a_Moment___init__ : Addr} {oc_Moment___init__ kV_Moment___init__ dc_Moment___init__ pm_Moment___init__ cd_Moment___init__ ct_Moment___init__ : Value} {od_Moment___init__ an_Moment___init__ : Option Addr} {sl_Moment___init__ : Array (Option Value)}
    {td_Moment___init__ : Addr} {to_Moment___init__ : Obj} {ti_Moment___init__ : List Value} {tn_Moment___init__ : Nat}
    {a_Moment___eq__ : Addr} {oc_Moment___eq__ kV_Moment___eq__ dc_Moment___eq__ pm_Moment___eq__ cd_Moment___eq__ ct_Moment___eq__ : Value} {od_Moment___eq__ an_Moment___eq__ : Option Addr} {sl_Moment___eq__ : Array (Option Value)}
    {a_Moment___lt__ : Addr} {oc_Moment___lt__ kV_Moment___lt__ dc_Moment___lt__ pm_Moment___lt__ cd_Moment___lt__ ct_Moment___lt__ : Value} {od_Moment___lt__ an_Moment___lt__ : Option Addr} {sl_Moment___lt__ : Array (Option Value)}
    {a_Moment___le__ : Addr} {oc_Moment___le__ kV_Moment___le__ dc_Moment___le__ pm_Moment___le__ cd_Moment___le__ ct_Moment___le__ : Value} {od_Moment___le__ an_Moment___le__ : Option Addr} {sl_Moment___le__ : Array (Option Value)}
    {a_Moment___gt__ : Addr} {oc_Moment___gt__ kV_Moment___gt__ dc_Moment___gt__ pm_Moment___gt__ cd_Moment___gt__ ct_Moment___gt__ : Value} {od_Moment___gt__ an_Moment___gt__ : Option Addr} {sl_Moment___gt__ : Array (Option Value)}
    {a_Moment___ge__ : Addr} {oc_Moment___ge__ kV_Moment___ge__ dc_Moment___ge__ pm_Moment___ge__ cd_Moment___ge__ ct_Moment___ge__ : Value} {od_Moment___ge__ an_Moment___ge__ : Option Addr} {sl_Moment___ge__ : Array (Option Value)}
    {a_as_moment : Addr} {oc_as_moment kV_as_moment dc_as_moment pm_as_moment cd_as_moment ct_as_moment : Value} {od_as_moment an_as_moment : Option Addr} {sl_as_moment : Array (Option Value)}
    {a_Mark___init__ : Addr} {oc_Mark___init__ dc_Mark___init__ pm_Mark___init__ cd_Mark___init__ ct_Mark___init__ : Value} {od_Mark___init__ an_Mark___init__ : Option Addr} {sl_Mark___init__ : Array (Option Value)}
    {kd_Mark___init__ : Addr}
    {kw_Mark___init___start : Value}
    {kw_Mark___init___stop : Value}
    {a_Mark___eq__ : Addr} {oc_Mark___eq__ kV_Mark___eq__ dc_Mark___eq__ pm_Mark___eq__ cd_Mark___eq__ ct_Mark___eq__ : Value} {od_Mark___eq__ an_Mark___eq__ : Option Addr} {sl_Mark___eq__ : Array (Option Value)}
    {a__law_cell : Addr} {oc__law_cell kV__law_cell dc__law_cell pm__law_cell cd__law_cell ct__law_cell : Value} {od__law_cell an__law_cell : Option Addr} {sl__law_cell : Array (Option Value)}
    {a__law_row : Addr} {oc__law_row kV__law_row dc__law_row pm__law_row cd__law_row ct__law_row : Value} {od__law_row an__law_row : Option Addr} {sl__law_row : Array (Option Value)}
    {a__law_gcd : Addr} {oc__law_gcd kV__law_gcd dc__law_gcd pm__law_gcd cd__law_gcd ct__law_gcd : Value} {od__law_gcd an__law_gcd : Option Addr} {sl__law_gcd : Array (Option Value)}
    {a__law_low : Addr} {oc__law_low kV__law_low dc__law_low pm__law_low cd__law_low ct__law_low : Value} {od__law_low an__law_low : Option Addr} {sl__law_low : Array (Option Value)}
    {a__law_add : Addr} {oc__law_add kV__law_add dc__law_add pm__law_add cd__law_add ct__law_add : Value} {od__law_add an__law_add : Option Addr} {sl__law_add : Array (Option Value)}
    {a__law_under : Addr} {oc__law_under kV__law_under dc__law_under pm__law_under cd__law_under ct__law_under : Value} {od__law_under an__law_under : Option Addr} {sl__law_under : Array (Option Value)}
    {a__law_is_int : Addr} {oc__law_is_int kV__law_is_int dc__law_is_int pm__law_is_int cd__law_is_int ct__law_is_int : Value} {od__law_is_int an__law_is_int : Option Addr} {sl__law_is_int : Array (Option Value)}
    {a__law_holds : Addr} {oc__law_holds kV__law_holds dc__law_holds pm__law_holds cd__law_holds ct__law_holds : Value} {od__law_holds an__law_holds : Option Addr} {sl__law_holds : Array (Option Value)}
    {a__law_whole : Addr} {oc__law_whole kV__law_whole dc__law_whole pm__law_whole cd__law_whole ct__law_whole : Value} {od__law_whole an__law_whole : Option Addr} {sl__law_whole : Array (Option Value)}
    {a__law_passed : Addr} {oc__law_passed kV__law_passed dc__law_passed pm__law_passed cd__law_passed ct__law_passed : Value} {od__law_passed an__law_passed : Option Addr} {sl__law_passed : Array (Option Value)}
    {a__law_mark : Addr} {oc__law_mark kV__law_mark dc__law_mark pm__law_mark cd__law_mark ct__law_mark : Value} {od__law_mark an__law_mark : Option Addr} {sl__law_mark : Array (Option Value)}
    {a__law_valid : Addr} {oc__law_valid kV__law_valid dc__law_valid pm__law_valid cd__law_valid ct__law_valid : Value} {od__law_valid an__law_valid : Option Addr} {sl__law_valid : Array (Option Value)}
    {a__law_tried : Addr} {oc__law_tried kV__law_tried dc__law_tried pm__law_tried cd__law_tried ct__law_tried : Value} {od__law_tried an__law_tried : Option Addr} {sl__law_tried : Array (Option Value)}
    {a_law : Addr} {oc_law kV_law dc_law pm_law cd_law ct_law : Value} {od_law an_law : Option Addr} {sl_law : Array (Option Value)}
    {nm_NoMoment q_NoMoment : Str} {N_NoMoment : Addr} {bs_NoMoment bm_NoMoment : List Value} {sn_NoMoment : List Str} {sub_NoMoment : List Value} {ab_NoMoment : Bool} {col_NoMoment : Option Bool} {dd_NoMoment : Option Addr} {k0_NoMoment k1_NoMoment k2_NoMoment k3_NoMoment k5_NoMoment : Option Value}
    {nm_NoMark q_NoMark : Str} {N_NoMark : Addr} {bs_NoMark bm_NoMark : List Value} {sn_NoMark : List Str} {sub_NoMark : List Value} {ab_NoMark : Bool} {col_NoMark : Option Bool} {dd_NoMark : Option Addr} {k0_NoMark k1_NoMark k2_NoMark k3_NoMark k5_NoMark : Option Value}
    (g_AnytuneError : PySem.W.nsIn K mainGlobals "AnytuneError" = some (some (.ref C_AnytuneError)))
    (g_NoMoment : PySem.W.nsIn K mainGlobals "NoMoment" = some (some (.ref C_NoMoment)))
    (g_NoMark : PySem.W.nsIn K mainGlobals "NoMark" = some (some (.ref C_NoMark)))
    (g_Moment : PySem.W.nsIn K mainGlobals "Moment" = some (some (.ref C_Moment)))
    (g_Mark : PySem.W.nsIn K mainGlobals "Mark" = some (some (.ref C_Mark)))
    (x_NoMoment___init__ : PySem.W.findIn K (.ref C_NoMoment) "__init__" = some (some (.ref a_NoMoment___init__)))
    (l_NoMoment___init__ : K.lookup a_NoMoment___init__ = some ⟨oc_NoMoment___init__, od_NoMoment___init__, .func (PySem.W.fnOf "__init__" "NoMoment.__init__" (defArgs s_NoMoment___init__) (defBody s_NoMoment___init__) (defScope s_NoMoment___init__) .none kV_NoMoment___init__ dc_NoMoment___init__ pm_NoMoment___init__ an_NoMoment___init__ cd_NoMoment___init__ ct_NoMoment___init__), sl_NoMoment___init__⟩)
    (c_NoMoment___init__ : PySem.W.codeIn K cd_NoMoment___init__ "NoMoment.__init__" = true)
    (p_NoMoment___init__ : PySem.W.keepIn K (.ref a_NoMoment___init__) = true)
    (f_NoMoment___init__ : PySem.W.isFn K (.ref a_NoMoment___init__) = true)
    (x_NoMark___init__ : PySem.W.findIn K (.ref C_NoMark) "__init__" = some (some (.ref a_NoMark___init__)))
    (l_NoMark___init__ : K.lookup a_NoMark___init__ = some ⟨oc_NoMark___init__, od_NoMark___init__, .func (PySem.W.fnOf "__init__" "NoMark.__init__" (defArgs s_NoMark___init__) (defBody s_NoMark___init__) (defScope s_NoMark___init__) .none kV_NoMark___init__ dc_NoMark___init__ pm_NoMark___init__ an_NoMark___init__ cd_NoMark___init__ ct_NoMark___init__), sl_NoMark___init__⟩)
    (c_NoMark___init__ : PySem.W.codeIn K cd_NoMark___init__ "NoMark.__init__" = true)
    (p_NoMark___init__ : PySem.W.keepIn K (.ref a_NoMark___init__) = true)
    (f_NoMark___init__ : PySem.W.isFn K (.ref a_NoMark___init__) = true)
    (g_common : PySem.W.nsIn K mainGlobals "common" = some (some (.ref a_common)))
    (l_common : K.lookup a_common = some ⟨oc_common, od_common, .func (PySem.W.fnOf "common" "common" (defArgs s_common) (defBody s_common) (defScope s_common) .none kV_common dc_common pm_common an_common cd_common ct_common), sl_common⟩)
    (c_common : PySem.W.codeIn K cd_common "common" = true)
    (p_common : PySem.W.keepIn K (.ref a_common) = true)
    (x_Moment___init__ : PySem.W.findIn K (.ref C_Moment) "__init__" = some (some (.ref a_Moment___init__)))
    (l_Moment___init__ : K.lookup a_Moment___init__ = some ⟨oc_Moment___init__, od_Moment___init__, .func (PySem.W.fnOf "__init__" "Moment.__init__" (defArgs s_Moment___init__) (defBody s_Moment___init__) (defScope s_Moment___init__) (.ref td_Moment___init__) kV_Moment___init__ dc_Moment___init__ pm_Moment___init__ an_Moment___init__ cd_Moment___init__ ct_Moment___init__), sl_Moment___init__⟩)
    (c_Moment___init__ : PySem.W.codeIn K cd_Moment___init__ "Moment.__init__" = true)
    (p_Moment___init__ : PySem.W.keepIn K (.ref a_Moment___init__) = true)
    (f_Moment___init__ : PySem.W.isFn K (.ref a_Moment___init__) = true)
    (t_Moment___init__ : K.lookup td_Moment___init__ = some to_Moment___init__)
    (u_Moment___init__ : to_Moment___init__.data = .seq ti_Moment___init__.toArray tn_Moment___init__) (v_Moment___init__ : Vals [.int 1] ti_Moment___init__)
    (x_Moment___eq__ : PySem.W.findIn K (.ref C_Moment) "__eq__" = some (some (.ref a_Moment___eq__)))
    (l_Moment___eq__ : K.lookup a_Moment___eq__ = some ⟨oc_Moment___eq__, od_Moment___eq__, .func (PySem.W.fnOf "__eq__" "Moment.__eq__" (defArgs s_Moment___eq__) (defBody s_Moment___eq__) (defScope s_Moment___eq__) .none kV_Moment___eq__ dc_Moment___eq__ pm_Moment___eq__ an_Moment___eq__ cd_Moment___eq__ ct_Moment___eq__), sl_Moment___eq__⟩)
    (c_Moment___eq__ : PySem.W.codeIn K cd_Moment___eq__ "Moment.__eq__" = true)
    (p_Moment___eq__ : PySem.W.keepIn K (.ref a_Moment___eq__) = true)
    (f_Moment___eq__ : PySem.W.isFn K (.ref a_Moment___eq__) = true)
    (x_Moment___lt__ : PySem.W.findIn K (.ref C_Moment) "__lt__" = some (some (.ref a_Moment___lt__)))
    (l_Moment___lt__ : K.lookup a_Moment___lt__ = some ⟨oc_Moment___lt__, od_Moment___lt__, .func (PySem.W.fnOf "__lt__" "Moment.__lt__" (defArgs s_Moment___lt__) (defBody s_Moment___lt__) (defScope s_Moment___lt__) .none kV_Moment___lt__ dc_Moment___lt__ pm_Moment___lt__ an_Moment___lt__ cd_Moment___lt__ ct_Moment___lt__), sl_Moment___lt__⟩)
    (c_Moment___lt__ : PySem.W.codeIn K cd_Moment___lt__ "Moment.__lt__" = true)
    (p_Moment___lt__ : PySem.W.keepIn K (.ref a_Moment___lt__) = true)
    (f_Moment___lt__ : PySem.W.isFn K (.ref a_Moment___lt__) = true)
    (x_Moment___le__ : PySem.W.findIn K (.ref C_Moment) "__le__" = some (some (.ref a_Moment___le__)))
    (l_Moment___le__ : K.lookup a_Moment___le__ = some ⟨oc_Moment___le__, od_Moment___le__, .func (PySem.W.fnOf "__le__" "Moment.__le__" (defArgs s_Moment___le__) (defBody s_Moment___le__) (defScope s_Moment___le__) .none kV_Moment___le__ dc_Moment___le__ pm_Moment___le__ an_Moment___le__ cd_Moment___le__ ct_Moment___le__), sl_Moment___le__⟩)
    (c_Moment___le__ : PySem.W.codeIn K cd_Moment___le__ "Moment.__le__" = true)
    (p_Moment___le__ : PySem.W.keepIn K (.ref a_Moment___le__) = true)
    (f_Moment___le__ : PySem.W.isFn K (.ref a_Moment___le__) = true)
    (x_Moment___gt__ : PySem.W.findIn K (.ref C_Moment) "__gt__" = some (some (.ref a_Moment___gt__)))
    (l_Moment___gt__ : K.lookup a_Moment___gt__ = some ⟨oc_Moment___gt__, od_Moment___gt__, .func (PySem.W.fnOf "__gt__" "Moment.__gt__" (defArgs s_Moment___gt__) (defBody s_Moment___gt__) (defScope s_Moment___gt__) .none kV_Moment___gt__ dc_Moment___gt__ pm_Moment___gt__ an_Moment___gt__ cd_Moment___gt__ ct_Moment___gt__), sl_Moment___gt__⟩)
    (c_Moment___gt__ : PySem.W.codeIn K cd_Moment___gt__ "Moment.__gt__" = true)
    (p_Moment___gt__ : PySem.W.keepIn K (.ref a_Moment___gt__) = true)
    (f_Moment___gt__ : PySem.W.isFn K (.ref a_Moment___gt__) = true)
    (x_Moment___ge__ : PySem.W.findIn K (.ref C_Moment) "__ge__" = some (some (.ref a_Moment___ge__)))
    (l_Moment___ge__ : K.lookup a_Moment___ge__ = some ⟨oc_Moment___ge__, od_Moment___ge__, .func (PySem.W.fnOf "__ge__" "Moment.__ge__" (defArgs s_Moment___ge__) (defBody s_Moment___ge__) (defScope s_Moment___ge__) .none kV_Moment___ge__ dc_Moment___ge__ pm_Moment___ge__ an_Moment___ge__ cd_Moment___ge__ ct_Moment___ge__), sl_Moment___ge__⟩)
    (c_Moment___ge__ : PySem.W.codeIn K cd_Moment___ge__ "Moment.__ge__" = true)
    (p_Moment___ge__ : PySem.W.keepIn K (.ref a_Moment___ge__) = true)
    (f_Moment___ge__ : PySem.W.isFn K (.ref a_Moment___ge__) = true)
    (g_as_moment : PySem.W.nsIn K mainGlobals "as_moment" = some (some (.ref a_as_moment)))
    (l_as_moment : K.lookup a_as_moment = some ⟨oc_as_moment, od_as_moment, .func (PySem.W.fnOf "as_moment" "as_moment" (defArgs s_as_moment) (defBody s_as_moment) (defScope s_as_moment) .none kV_as_moment dc_as_moment pm_as_moment an_as_moment cd_as_moment ct_as_moment), sl_as_moment⟩)
    (c_as_moment : PySem.W.codeIn K cd_as_moment "as_moment" = true)
    (p_as_moment : PySem.W.keepIn K (.ref a_as_moment) = true)
    (x_Mark___init__ : PySem.W.findIn K (.ref C_Mark) "__init__" = some (some (.ref a_Mark___init__)))
    (l_Mark___init__ : K.lookup a_Mark___init__ = some ⟨oc_Mark___init__, od_Mark___init__, .func (PySem.W.fnOf "__init__" "Mark.__init__" (defArgs s_Mark___init__) (defBody s_Mark___init__) (defScope s_Mark___init__) .none (.ref kd_Mark___init__) dc_Mark___init__ pm_Mark___init__ an_Mark___init__ cd_Mark___init__ ct_Mark___init__), sl_Mark___init__⟩)
    (c_Mark___init__ : PySem.W.codeIn K cd_Mark___init__ "Mark.__init__" = true)
    (p_Mark___init__ : PySem.W.keepIn K (.ref a_Mark___init__) = true)
    (f_Mark___init__ : PySem.W.isFn K (.ref a_Mark___init__) = true)
    (k_Mark___init___start : PySem.W.nsIn K kd_Mark___init__ "start" = some (some kw_Mark___init___start))
    (r_Mark___init___start : RelV (.non) kw_Mark___init___start)
    (k_Mark___init___stop : PySem.W.nsIn K kd_Mark___init__ "stop" = some (some kw_Mark___init___stop))
    (r_Mark___init___stop : RelV (.non) kw_Mark___init___stop)
    (x_Mark___eq__ : PySem.W.findIn K (.ref C_Mark) "__eq__" = some (some (.ref a_Mark___eq__)))
    (l_Mark___eq__ : K.lookup a_Mark___eq__ = some ⟨oc_Mark___eq__, od_Mark___eq__, .func (PySem.W.fnOf "__eq__" "Mark.__eq__" (defArgs s_Mark___eq__) (defBody s_Mark___eq__) (defScope s_Mark___eq__) .none kV_Mark___eq__ dc_Mark___eq__ pm_Mark___eq__ an_Mark___eq__ cd_Mark___eq__ ct_Mark___eq__), sl_Mark___eq__⟩)
    (c_Mark___eq__ : PySem.W.codeIn K cd_Mark___eq__ "Mark.__eq__" = true)
    (p_Mark___eq__ : PySem.W.keepIn K (.ref a_Mark___eq__) = true)
    (f_Mark___eq__ : PySem.W.isFn K (.ref a_Mark___eq__) = true)
    (g__law_cell : PySem.W.nsIn K mainGlobals "_law_cell" = some (some (.ref a__law_cell)))
    (l__law_cell : K.lookup a__law_cell = some ⟨oc__law_cell, od__law_cell, .func (PySem.W.fnOf "_law_cell" "_law_cell" (defArgs s__law_cell) (defBody s__law_cell) (defScope s__law_cell) .none kV__law_cell dc__law_cell pm__law_cell an__law_cell cd__law_cell ct__law_cell), sl__law_cell⟩)
    (c__law_cell : PySem.W.codeIn K cd__law_cell "_law_cell" = true)
    (p__law_cell : PySem.W.keepIn K (.ref a__law_cell) = true)
    (g__law_row : PySem.W.nsIn K mainGlobals "_law_row" = some (some (.ref a__law_row)))
    (l__law_row : K.lookup a__law_row = some ⟨oc__law_row, od__law_row, .func (PySem.W.fnOf "_law_row" "_law_row" (defArgs s__law_row) (defBody s__law_row) (defScope s__law_row) .none kV__law_row dc__law_row pm__law_row an__law_row cd__law_row ct__law_row), sl__law_row⟩)
    (c__law_row : PySem.W.codeIn K cd__law_row "_law_row" = true)
    (p__law_row : PySem.W.keepIn K (.ref a__law_row) = true)
    (g__law_gcd : PySem.W.nsIn K mainGlobals "_law_gcd" = some (some (.ref a__law_gcd)))
    (l__law_gcd : K.lookup a__law_gcd = some ⟨oc__law_gcd, od__law_gcd, .func (PySem.W.fnOf "_law_gcd" "_law_gcd" (defArgs s__law_gcd) (defBody s__law_gcd) (defScope s__law_gcd) .none kV__law_gcd dc__law_gcd pm__law_gcd an__law_gcd cd__law_gcd ct__law_gcd), sl__law_gcd⟩)
    (c__law_gcd : PySem.W.codeIn K cd__law_gcd "_law_gcd" = true)
    (p__law_gcd : PySem.W.keepIn K (.ref a__law_gcd) = true)
    (g__law_low : PySem.W.nsIn K mainGlobals "_law_low" = some (some (.ref a__law_low)))
    (l__law_low : K.lookup a__law_low = some ⟨oc__law_low, od__law_low, .func (PySem.W.fnOf "_law_low" "_law_low" (defArgs s__law_low) (defBody s__law_low) (defScope s__law_low) .none kV__law_low dc__law_low pm__law_low an__law_low cd__law_low ct__law_low), sl__law_low⟩)
    (c__law_low : PySem.W.codeIn K cd__law_low "_law_low" = true)
    (p__law_low : PySem.W.keepIn K (.ref a__law_low) = true)
    (g__law_add : PySem.W.nsIn K mainGlobals "_law_add" = some (some (.ref a__law_add)))
    (l__law_add : K.lookup a__law_add = some ⟨oc__law_add, od__law_add, .func (PySem.W.fnOf "_law_add" "_law_add" (defArgs s__law_add) (defBody s__law_add) (defScope s__law_add) .none kV__law_add dc__law_add pm__law_add an__law_add cd__law_add ct__law_add), sl__law_add⟩)
    (c__law_add : PySem.W.codeIn K cd__law_add "_law_add" = true)
    (p__law_add : PySem.W.keepIn K (.ref a__law_add) = true)
    (g__law_under : PySem.W.nsIn K mainGlobals "_law_under" = some (some (.ref a__law_under)))
    (l__law_under : K.lookup a__law_under = some ⟨oc__law_under, od__law_under, .func (PySem.W.fnOf "_law_under" "_law_under" (defArgs s__law_under) (defBody s__law_under) (defScope s__law_under) .none kV__law_under dc__law_under pm__law_under an__law_under cd__law_under ct__law_under), sl__law_under⟩)
    (c__law_under : PySem.W.codeIn K cd__law_under "_law_under" = true)
    (p__law_under : PySem.W.keepIn K (.ref a__law_under) = true)
    (g__law_is_int : PySem.W.nsIn K mainGlobals "_law_is_int" = some (some (.ref a__law_is_int)))
    (l__law_is_int : K.lookup a__law_is_int = some ⟨oc__law_is_int, od__law_is_int, .func (PySem.W.fnOf "_law_is_int" "_law_is_int" (defArgs s__law_is_int) (defBody s__law_is_int) (defScope s__law_is_int) .none kV__law_is_int dc__law_is_int pm__law_is_int an__law_is_int cd__law_is_int ct__law_is_int), sl__law_is_int⟩)
    (c__law_is_int : PySem.W.codeIn K cd__law_is_int "_law_is_int" = true)
    (p__law_is_int : PySem.W.keepIn K (.ref a__law_is_int) = true)
    (g__law_holds : PySem.W.nsIn K mainGlobals "_law_holds" = some (some (.ref a__law_holds)))
    (l__law_holds : K.lookup a__law_holds = some ⟨oc__law_holds, od__law_holds, .func (PySem.W.fnOf "_law_holds" "_law_holds" (defArgs s__law_holds) (defBody s__law_holds) (defScope s__law_holds) .none kV__law_holds dc__law_holds pm__law_holds an__law_holds cd__law_holds ct__law_holds), sl__law_holds⟩)
    (c__law_holds : PySem.W.codeIn K cd__law_holds "_law_holds" = true)
    (p__law_holds : PySem.W.keepIn K (.ref a__law_holds) = true)
    (g__law_whole : PySem.W.nsIn K mainGlobals "_law_whole" = some (some (.ref a__law_whole)))
    (l__law_whole : K.lookup a__law_whole = some ⟨oc__law_whole, od__law_whole, .func (PySem.W.fnOf "_law_whole" "_law_whole" (defArgs s__law_whole) (defBody s__law_whole) (defScope s__law_whole) .none kV__law_whole dc__law_whole pm__law_whole an__law_whole cd__law_whole ct__law_whole), sl__law_whole⟩)
    (c__law_whole : PySem.W.codeIn K cd__law_whole "_law_whole" = true)
    (p__law_whole : PySem.W.keepIn K (.ref a__law_whole) = true)
    (g__law_passed : PySem.W.nsIn K mainGlobals "_law_passed" = some (some (.ref a__law_passed)))
    (l__law_passed : K.lookup a__law_passed = some ⟨oc__law_passed, od__law_passed, .func (PySem.W.fnOf "_law_passed" "_law_passed" (defArgs s__law_passed) (defBody s__law_passed) (defScope s__law_passed) .none kV__law_passed dc__law_passed pm__law_passed an__law_passed cd__law_passed ct__law_passed), sl__law_passed⟩)
    (c__law_passed : PySem.W.codeIn K cd__law_passed "_law_passed" = true)
    (p__law_passed : PySem.W.keepIn K (.ref a__law_passed) = true)
    (g__law_mark : PySem.W.nsIn K mainGlobals "_law_mark" = some (some (.ref a__law_mark)))
    (l__law_mark : K.lookup a__law_mark = some ⟨oc__law_mark, od__law_mark, .func (PySem.W.fnOf "_law_mark" "_law_mark" (defArgs s__law_mark) (defBody s__law_mark) (defScope s__law_mark) .none kV__law_mark dc__law_mark pm__law_mark an__law_mark cd__law_mark ct__law_mark), sl__law_mark⟩)
    (c__law_mark : PySem.W.codeIn K cd__law_mark "_law_mark" = true)
    (p__law_mark : PySem.W.keepIn K (.ref a__law_mark) = true)
    (g__law_valid : PySem.W.nsIn K mainGlobals "_law_valid" = some (some (.ref a__law_valid)))
    (l__law_valid : K.lookup a__law_valid = some ⟨oc__law_valid, od__law_valid, .func (PySem.W.fnOf "_law_valid" "_law_valid" (defArgs s__law_valid) (defBody s__law_valid) (defScope s__law_valid) .none kV__law_valid dc__law_valid pm__law_valid an__law_valid cd__law_valid ct__law_valid), sl__law_valid⟩)
    (c__law_valid : PySem.W.codeIn K cd__law_valid "_law_valid" = true)
    (p__law_valid : PySem.W.keepIn K (.ref a__law_valid) = true)
    (g__law_tried : PySem.W.nsIn K mainGlobals "_law_tried" = some (some (.ref a__law_tried)))
    (l__law_tried : K.lookup a__law_tried = some ⟨oc__law_tried, od__law_tried, .func (PySem.W.fnOf "_law_tried" "_law_tried" (defArgs s__law_tried) (defBody s__law_tried) (defScope s__law_tried) .none kV__law_tried dc__law_tried pm__law_tried an__law_tried cd__law_tried ct__law_tried), sl__law_tried⟩)
    (c__law_tried : PySem.W.codeIn K cd__law_tried "_law_tried" = true)
    (p__law_tried : PySem.W.keepIn K (.ref a__law_tried) = true)
    (g_law : PySem.W.nsIn K mainGlobals "law" = some (some (.ref a_law)))
    (l_law : K.lookup a_law = some ⟨oc_law, od_law, .func (PySem.W.fnOf "law" "law" (defArgs s_law) (defBody s_law) (defScope s_law) .none kV_law dc_law pm_law an_law cd_law ct_law), sl_law⟩)
    (c_law : PySem.W.codeIn K cd_law "law" = true)
    (p_law : PySem.W.keepIn K (.ref a_law) = true)
    (r1_AnytuneError : PySem.W.readsIn K C_AnytuneError (.type "type") = true)
    (r2_AnytuneError : PySem.W.specialIn K (.ref C_AnytuneError) "__getattribute__" = some (some (.builtin "type.__getattribute__")))
    (r3_AnytuneError : PySem.W.findCls K (.ref C_AnytuneError) (.type "type") "__init__" = some (.val (.builtin "ValueError.__init__")))
    (o1_NoMoment : K.lookup C_NoMoment = some (excClassObj nm_NoMoment q_NoMoment C_NoMoment N_NoMoment bs_NoMoment bm_NoMoment true sn_NoMoment sub_NoMoment ab_NoMoment col_NoMoment dd_NoMoment k0_NoMoment k1_NoMoment k2_NoMoment k3_NoMoment k5_NoMoment "ValueError.__new__"))
    (o2_NoMoment : PySem.HandSPX.refsVE bm_NoMoment = true)
    (o3_NoMoment : PySem.W.findIn K (.ref C_NoMoment) "__setattr__" = some (some (.builtin "object.__setattr__")))
    (o4_NoMoment : PySem.W.subIn K (.ref C_NoMoment) (.type "BaseException") = some true)
    (o5_NoMoment : PySem.W.typeIn K (.ref C_NoMoment) = some (.type "type"))
    (o6_NoMoment : PySem.W.keepIn K (.ref C_NoMoment) = true)
    (o7_NoMoment : PySem.W.findIn K (.ref C_NoMoment) "__getattribute__" = some (some (.builtin "BaseException.__getattribute__")))
    (o8_NoMoment : PySem.W.findIn K (.ref C_NoMoment) "__getattr__" = some none)
    (o9_NoMoment : PySem.W.hasDictIn K C_NoMoment = true)
    (oA_NoMoment : PySem.W.isClsIn K C_NoMoment = true)
    (oB_NoMoment : PySem.W.subIn K (.ref C_NoMoment) (.ref C_NoMoment) = some true)
    (na_NoMoment_top : PySem.W.findIn K (.ref C_NoMoment) "top" = some none)
    (na_NoMoment_bottom : PySem.W.findIn K (.ref C_NoMoment) "bottom" = some none)
    (o1_NoMark : K.lookup C_NoMark = some (excClassObj nm_NoMark q_NoMark C_NoMark N_NoMark bs_NoMark bm_NoMark true sn_NoMark sub_NoMark ab_NoMark col_NoMark dd_NoMark k0_NoMark k1_NoMark k2_NoMark k3_NoMark k5_NoMark "ValueError.__new__"))
    (o2_NoMark : PySem.HandSPX.refsVE bm_NoMark = true)
    (o3_NoMark : PySem.W.findIn K (.ref C_NoMark) "__setattr__" = some (some (.builtin "object.__setattr__")))
    (o4_NoMark : PySem.W.subIn K (.ref C_NoMark) (.type "BaseException") = some true)
    (o5_NoMark : PySem.W.typeIn K (.ref C_NoMark) = some (.type "type"))
    (o6_NoMark : PySem.W.keepIn K (.ref C_NoMark) = true)
    (o7_NoMark : PySem.W.findIn K (.ref C_NoMark) "__getattribute__" = some (some (.builtin "BaseException.__getattribute__")))
    (o8_NoMark : PySem.W.findIn K (.ref C_NoMark) "__getattr__" = some none)
    (o9_NoMark : PySem.W.hasDictIn K C_NoMark = true)
    (oA_NoMark : PySem.W.isClsIn K C_NoMark = true)
    (oB_NoMark : PySem.W.subIn K (.ref C_NoMark) (.ref C_NoMark) = some true)
    (na_NoMark_tone : PySem.W.findIn K (.ref C_NoMark) "tone" = some none)
    (na_NoMark_begin : PySem.W.findIn K (.ref C_NoMark) "begin" = some none)
    (na_NoMark_end : PySem.W.findIn K (.ref C_NoMark) "end" = some none)
    (y1_Moment : PySem.W.plainGet K C_Moment Str.empty = true)
    (y2_Moment : PySem.W.hasDictIn K C_Moment = true)
    (y3_Moment : PySem.W.plainOver K C_Moment = true)
    (y4_Moment : PySem.W.findIn K (.ref C_Moment) "__setattr__" = some (some (.builtin "object.__setattr__")))
    (y5_Moment : PySem.W.selfFirst K C_Moment = true)
    (y6_Moment : PySem.W.subIn K (.ref C_Moment) (.type "int") = some false)
    (y7_Moment : PySem.W.mroIn K C_Moment (.type "object") = some true)
    (y8_Moment : PySem.W.findIn K (.ref C_Moment) "__class__" = some (some (.builtin "object.__class__")))
    (y9_Moment : PySem.W.specialIn K (.builtin "object.__class__") "__get__" = some (some (.builtin "getset_descriptor.__get__")))
    (yA_Moment : PySem.W.takesIn K (.builtin "object.__class__") = some true)
    (yB_Moment : PySem.W.isClsIn K C_Moment = true)
    (yC_Moment : PySem.W.typeIn K (.ref C_Moment) = some (.type "type"))
    (yD_Moment : PySem.W.keepIn K (.ref C_Moment) = true)
    (yE_Moment : PySem.W.makesIn K C_Moment = true)
    (na_Moment_top : PySem.W.findIn K (.ref C_Moment) "top" = some none)
    (na_Moment_bottom : PySem.W.findIn K (.ref C_Moment) "bottom" = some none)
    (z_Moment_int : PySem.W.subIn K (.type "int") (.ref C_Moment) = some false)
    (z_Moment_str : PySem.W.subIn K (.type "str") (.ref C_Moment) = some false)
    (z_Moment_list : PySem.W.subIn K (.type "list") (.ref C_Moment) = some false)
    (z_Moment_tuple : PySem.W.subIn K (.type "tuple") (.ref C_Moment) = some false)
    (z_Moment_NoneType : PySem.W.subIn K (.type "NoneType") (.ref C_Moment) = some false)
    (z_Moment_bool : PySem.W.subIn K (.type "bool") (.ref C_Moment) = some false)
    (ne_Moment : PySem.W.findIn K (.ref C_Moment) "__ne__" = some (some (.builtin "object.__ne__")))
    (y1_Mark : PySem.W.plainGet K C_Mark Str.empty = true)
    (y2_Mark : PySem.W.hasDictIn K C_Mark = true)
    (y3_Mark : PySem.W.plainOver K C_Mark = true)
    (y4_Mark : PySem.W.findIn K (.ref C_Mark) "__setattr__" = some (some (.builtin "object.__setattr__")))
    (y5_Mark : PySem.W.selfFirst K C_Mark = true)
    (y6_Mark : PySem.W.subIn K (.ref C_Mark) (.type "int") = some false)
    (y7_Mark : PySem.W.mroIn K C_Mark (.type "object") = some true)
    (y8_Mark : PySem.W.findIn K (.ref C_Mark) "__class__" = some (some (.builtin "object.__class__")))
    (y9_Mark : PySem.W.specialIn K (.builtin "object.__class__") "__get__" = some (some (.builtin "getset_descriptor.__get__")))
    (yA_Mark : PySem.W.takesIn K (.builtin "object.__class__") = some true)
    (yB_Mark : PySem.W.isClsIn K C_Mark = true)
    (yC_Mark : PySem.W.typeIn K (.ref C_Mark) = some (.type "type"))
    (yD_Mark : PySem.W.keepIn K (.ref C_Mark) = true)
    (yE_Mark : PySem.W.makesIn K C_Mark = true)
    (na_Mark_tone : PySem.W.findIn K (.ref C_Mark) "tone" = some none)
    (na_Mark_begin : PySem.W.findIn K (.ref C_Mark) "begin" = some none)
    (na_Mark_end : PySem.W.findIn K (.ref C_Mark) "end" = some none)
    (na_Mark_start : PySem.W.findIn K (.ref C_Mark) "start" = some none)
    (na_Mark_stop : PySem.W.findIn K (.ref C_Mark) "stop" = some none)
    (z_Mark_int : PySem.W.subIn K (.type "int") (.ref C_Mark) = some false)
    (z_Mark_str : PySem.W.subIn K (.type "str") (.ref C_Mark) = some false)
    (z_Mark_list : PySem.W.subIn K (.type "list") (.ref C_Mark) = some false)
    (z_Mark_tuple : PySem.W.subIn K (.type "tuple") (.ref C_Mark) = some false)
    (z_Mark_NoneType : PySem.W.subIn K (.type "NoneType") (.ref C_Mark) = some false)
    (z_Mark_bool : PySem.W.subIn K (.type "bool") (.ref C_Mark) = some false)
    (ne_Mark : PySem.W.findIn K (.ref C_Mark) "__ne__" = some (some (.builtin "object.__ne__")))
    (n_abs : PySem.W.nsIn K mainGlobals "abs" = some none)
    (n_isinstance : PySem.W.nsIn K mainGlobals "isinstance" = some none)
    (n_int : PySem.W.nsIn K mainGlobals "int" = some none)
    (n_len : PySem.W.nsIn K mainGlobals "len" = some none)
    (n_range : PySem.W.nsIn K mainGlobals "range" = some none)
    (n_bool : PySem.W.nsIn K mainGlobals "bool" = some none) :
    ∃ T : Tx K mg, T.a_law = fa := by
  have e := hfa.symm.trans (PySem.W.mg_of X G g_law)
  cases e
  exact ⟨⟨_,
    _,
    (fun_mk (st := s_NoMoment___init__) l_NoMoment___init__ c_NoMoment___init__ p_NoMoment___init__),
    _,
    _,
    (fun_mk (st := s_NoMark___init__) l_NoMark___init__ c_NoMark___init__ p_NoMark___init__),
    _,
    _,
    (fun_mk (st := s_common) l_common c_common p_common),
    (PySem.W.mg_of X G g_common),
    _,
    _,
    ⟨⟨_, _, _, _, _, _, _, _, _, _, rfl, l_Moment___init__, c_Moment___init__, .inr ⟨by simp, td_Moment___init__, to_Moment___init__, ti_Moment___init__, tn_Moment___init__, rfl, t_Moment___init__, u_Moment___init__, v_Moment___init__⟩, .inl rfl⟩, p_Moment___init__⟩,
    _,
    _,
    (fun_mk (st := s_Moment___eq__) l_Moment___eq__ c_Moment___eq__ p_Moment___eq__),
    _,
    _,
    (fun_mk (st := s_Moment___lt__) l_Moment___lt__ c_Moment___lt__ p_Moment___lt__),
    _,
    _,
    (fun_mk (st := s_Moment___le__) l_Moment___le__ c_Moment___le__ p_Moment___le__),
    _,
    _,
    (fun_mk (st := s_Moment___gt__) l_Moment___gt__ c_Moment___gt__ p_Moment___gt__),
    _,
    _,
    (fun_mk (st := s_Moment___ge__) l_Moment___ge__ c_Moment___ge__ p_Moment___ge__),
    _,
    _,
    (fun_mk (st := s_as_moment) l_as_moment c_as_moment p_as_moment),
    (PySem.W.mg_of X G g_as_moment),
    _,
    _,
    ⟨⟨_, _, _, _, _, _, _, _, _, _, rfl, l_Mark___init__, c_Mark___init__, .inl ⟨rfl, rfl⟩, .inr ⟨kd_Mark___init__, rfl, (List.forall_mem_cons.mpr ⟨⟨_, k_Mark___init___start, r_Mark___init___start⟩, (List.forall_mem_cons.mpr ⟨⟨_, k_Mark___init___stop, r_Mark___init___stop⟩, (fun _ h => nomatch h)⟩)⟩)⟩⟩, p_Mark___init__⟩,
    _,
    _,
    (fun_mk (st := s_Mark___eq__) l_Mark___eq__ c_Mark___eq__ p_Mark___eq__),
    _,
    _,
    (fun_mk (st := s__law_cell) l__law_cell c__law_cell p__law_cell),
    (PySem.W.mg_of X G g__law_cell),
    _,
    _,
    (fun_mk (st := s__law_row) l__law_row c__law_row p__law_row),
    (PySem.W.mg_of X G g__law_row),
    _,
    _,
    (fun_mk (st := s__law_gcd) l__law_gcd c__law_gcd p__law_gcd),
    (PySem.W.mg_of X G g__law_gcd),
    _,
    _,
    (fun_mk (st := s__law_low) l__law_low c__law_low p__law_low),
    (PySem.W.mg_of X G g__law_low),
    _,
    _,
    (fun_mk (st := s__law_add) l__law_add c__law_add p__law_add),
    (PySem.W.mg_of X G g__law_add),
    _,
    _,
    (fun_mk (st := s__law_under) l__law_under c__law_under p__law_under),
    (PySem.W.mg_of X G g__law_under),
    _,
    _,
    (fun_mk (st := s__law_is_int) l__law_is_int c__law_is_int p__law_is_int),
    (PySem.W.mg_of X G g__law_is_int),
    _,
    _,
    (fun_mk (st := s__law_holds) l__law_holds c__law_holds p__law_holds),
    (PySem.W.mg_of X G g__law_holds),
    _,
    _,
    (fun_mk (st := s__law_whole) l__law_whole c__law_whole p__law_whole),
    (PySem.W.mg_of X G g__law_whole),
    _,
    _,
    (fun_mk (st := s__law_passed) l__law_passed c__law_passed p__law_passed),
    (PySem.W.mg_of X G g__law_passed),
    _,
    _,
    (fun_mk (st := s__law_mark) l__law_mark c__law_mark p__law_mark),
    (PySem.W.mg_of X G g__law_mark),
    _,
    _,
    (fun_mk (st := s__law_valid) l__law_valid c__law_valid p__law_valid),
    (PySem.W.mg_of X G g__law_valid),
    _,
    _,
    (fun_mk (st := s__law_tried) l__law_tried c__law_tried p__law_tried),
    (PySem.W.mg_of X G g__law_tried),
    _,
    _,
    (fun_mk (st := s_law) l_law c_law p_law),
    (PySem.W.mg_of X G g_law),
    C_AnytuneError,
    (PySem.W.mg_of X G g_AnytuneError),
    ⟨r1_AnytuneError, r2_AnytuneError⟩,
    r3_AnytuneError,
    C_NoMoment,
    (PySem.W.mg_of X G g_NoMoment),
    ⟨⟨_, _, _, _, _, _, _, _, _, _, _, _, _, _, _, o1_NoMoment, o2_NoMoment⟩, o3_NoMoment, o4_NoMoment, o5_NoMoment, o6_NoMoment⟩,
    ⟨o7_NoMoment, o8_NoMoment, o4_NoMoment, o9_NoMoment⟩,
    (exm_own o4_NoMoment oA_NoMoment o5_NoMoment oB_NoMoment),
    na_NoMoment_top,
    na_NoMoment_bottom,
    C_NoMark,
    (PySem.W.mg_of X G g_NoMark),
    ⟨⟨_, _, _, _, _, _, _, _, _, _, _, _, _, _, _, o1_NoMark, o2_NoMark⟩, o3_NoMark, o4_NoMark, o5_NoMark, o6_NoMark⟩,
    ⟨o7_NoMark, o8_NoMark, o4_NoMark, o9_NoMark⟩,
    (exm_own o4_NoMark oA_NoMark o5_NoMark oB_NoMark),
    na_NoMark_tone,
    na_NoMark_begin,
    na_NoMark_end,
    C_Moment,
    (PySem.W.mg_of X G g_Moment),
    ⟨⟨y1_Moment, y2_Moment, y3_Moment, y4_Moment⟩, y5_Moment, y6_Moment, y7_Moment, y8_Moment, y9_Moment, yA_Moment⟩,
    yB_Moment,
    yC_Moment,
    yD_Moment,
    yE_Moment,
    na_Moment_top,
    na_Moment_bottom,
    z_Moment_int,
    z_Moment_str,
    z_Moment_list,
    z_Moment_tuple,
    z_Moment_NoneType,
    z_Moment_bool,
    ne_Moment,
    C_Mark,
    (PySem.W.mg_of X G g_Mark),
    ⟨⟨y1_Mark, y2_Mark, y3_Mark, y4_Mark⟩, y5_Mark, y6_Mark, y7_Mark, y8_Mark, y9_Mark, yA_Mark⟩,
    yB_Mark,
    yC_Mark,
    yD_Mark,
    yE_Mark,
    na_Mark_tone,
    na_Mark_begin,
    na_Mark_end,
    na_Mark_start,
    na_Mark_stop,
    z_Mark_int,
    z_Mark_str,
    z_Mark_list,
    z_Mark_tuple,
    z_Mark_NoneType,
    z_Mark_bool,
    ne_Mark,
    ⟨x_NoMoment___init__, f_NoMoment___init__⟩,
    ⟨x_NoMark___init__, f_NoMark___init__⟩,
    ⟨x_Moment___init__, f_Moment___init__⟩,
    ⟨x_Moment___eq__, f_Moment___eq__⟩,
    ⟨x_Moment___lt__, f_Moment___lt__⟩,
    ⟨x_Moment___le__, f_Moment___le__⟩,
    ⟨x_Moment___gt__, f_Moment___gt__⟩,
    ⟨x_Moment___ge__, f_Moment___ge__⟩,
    ⟨x_Mark___init__, f_Mark___init__⟩,
    ⟨x_Mark___eq__, f_Mark___eq__⟩,
    (PySem.W.mg_none_of X G n_abs),
    (PySem.W.mg_none_of X G n_isinstance),
    (PySem.W.mg_none_of X G n_int),
    (PySem.W.mg_none_of X G n_len),
    (PySem.W.mg_none_of X G n_range),
    (PySem.W.mg_none_of X G n_bool)⟩, rfl⟩
theorem walk {l : PySem.W.OpenLaw} {pr : Program} {loose : List Str} {XP : (Str → Option Value) → Heap → Prop} {YP : World → Heap → Prop} {d : DefRec} {K : Params → PySem.W.Frag} (hn : l.most = some 63) (hdf : d.params.defaults = [])
    (hY : ∀ (w : World) (h : Heap), YP w h → (K w.params).In h)
    (F : ∀ (w : World) (mg : Str → Option Value) (fa : Addr) (h : Heap), (K w.params).In h → h.Ns mainGlobals mg → mg d.name = some (.ref fa) → ∃ T : Tx (K w.params) mg, T.a_law = fa) :
    PySem.W.WalkO pr loose XP YP l.row.toRowW d [] (fun f vs => PySem.call f vs) :=
  L2.walk_of (n := 63) (k := 10) (x := "_law_script") (CX := fun _ => CX0) (sp := fun w => spLaw (K w.params)) hn (by decide) hdf ⟨rfl, by decide, by decide⟩ hY
    (fun w mg fa h KX G hmg => by
      obtain ⟨T, rfl⟩ := F w mg fa h KX G hmg
      exact ⟨T.d_law, fun s v => by
        obtain ⟨oc, od, kV, doc, pm, an, cdv, ct, osl, e, _⟩ := T.F_law.ex
        rw [e]
        exact .of_eq rfl, fun base _ _ => ok_law T⟩)
    (fun _ _ a ns hl _ hS => ⟨a, ns, rfl, hS, hl, fun _ => rfl⟩) fun _ _ _ _ _ z => z
end AT
open PySem PySem.W PyProof.Rows
set_option maxRecDepth 100000 in
set_option maxHeartbeats 0 in
theorem PySem.Challenge.cw_anytune_k08_marks_holds : PySem.Challenge.rw_anytune_k08_marks.Holds := by
  w_on; o_law; k_head; (case hw => w_witness2)
  k_fill
  refine AT.walk (l := PySem.Challenge.rw_anytune_k08_marks) rfl rfl (fun w h Y => PySem.W.kIn_of Y) ?F
  case F =>
    intro w mg fa h KX G hmg
    refine' AT.all_mk KX G hmg ?g_AnytuneError ?g_NoMoment ?g_NoMark ?g_Moment ?g_Mark ?x_NoMoment___init__ ?l_NoMoment___init__ ?c_NoMoment___init__ ?p_NoMoment___init__ ?f_NoMoment___init__ ?x_NoMark___init__ ?l_NoMark___init__ ?c_NoMark___init__ ?p_NoMark___init__ ?f_NoMark___init__ ?g_common ?l_common ?c_common ?p_common ?x_Moment___init__ ?l_Moment___init__ ?c_Moment___init__ ?p_Moment___init__ ?f_Moment___init__ ?t_Moment___init__ ?u_Moment___init__ ?v_Moment___init__ ?x_Moment___eq__ ?l_Moment___eq__ ?c_Moment___eq__ ?p_Moment___eq__ ?f_Moment___eq__ ?x_Moment___lt__ ?l_Moment___lt__ ?c_Moment___lt__ ?p_Moment___lt__ ?f_Moment___lt__ ?x_Moment___le__ ?l_Moment___le__ ?c_Moment___le__ ?p_Moment___le__ ?f_Moment___le__ ?x_Moment___gt__ ?l_Moment___gt__ ?c_Moment___gt__ ?p_Moment___gt__ ?f_Moment___gt__ ?x_Moment___ge__ ?l_Moment___ge__ ?c_Moment___ge__ ?p_Moment___ge__ ?f_Moment___ge__ ?g_as_moment ?l_as_moment ?c_as_moment ?p_as_moment ?x_Mark___init__ ?l_Mark___init__ ?c_Mark___init__ ?p_Mark___init__ ?f_Mark___init__ ?k_Mark___init___start ?r_Mark___init___start ?k_Mark___init___stop ?r_Mark___init___stop ?x_Mark___eq__ ?l_Mark___eq__ ?c_Mark___eq__ ?p_Mark___eq__ ?f_Mark___eq__ ?g__law_cell ?l__law_cell ?c__law_cell ?p__law_cell ?g__law_row ?l__law_row ?c__law_row ?p__law_row ?g__law_gcd ?l__law_gcd ?c__law_gcd ?p__law_gcd ?g__law_low ?l__law_low ?c__law_low ?p__law_low ?g__law_add ?l__law_add ?c__law_add ?p__law_add ?g__law_under ?l__law_under ?c__law_under ?p__law_under ?g__law_is_int ?l__law_is_int ?c__law_is_int ?p__law_is_int ?g__law_holds ?l__law_holds ?c__law_holds ?p__law_holds ?g__law_whole ?l__law_whole ?c__law_whole ?p__law_whole ?g__law_passed ?l__law_passed ?c__law_passed ?p__law_passed ?g__law_mark ?l__law_mark ?c__law_mark ?p__law_mark ?g__law_valid ?l__law_valid ?c__law_valid ?p__law_valid ?g__law_tried ?l__law_tried ?c__law_tried ?p__law_tried ?g_law ?l_law ?c_law ?p_law ?r1_AnytuneError ?r2_AnytuneError ?r3_AnytuneError ?o1_NoMoment ?o2_NoMoment ?o3_NoMoment ?o4_NoMoment ?o5_NoMoment ?o6_NoMoment ?o7_NoMoment ?o8_NoMoment ?o9_NoMoment ?oA_NoMoment ?oB_NoMoment ?na_NoMoment_top ?na_NoMoment_bottom ?o1_NoMark ?o2_NoMark ?o3_NoMark ?o4_NoMark ?o5_NoMark ?o6_NoMark ?o7_NoMark ?o8_NoMark ?o9_NoMark ?oA_NoMark ?oB_NoMark ?na_NoMark_tone ?na_NoMark_begin ?na_NoMark_end ?y1_Moment ?y2_Moment ?y3_Moment ?y4_Moment ?y5_Moment ?y6_Moment ?y7_Moment ?y8_Moment ?y9_Moment ?yA_Moment ?yB_Moment ?yC_Moment ?yD_Moment ?yE_Moment ?na_Moment_top ?na_Moment_bottom ?z_Moment_int ?z_Moment_str ?z_Moment_list ?z_Moment_tuple ?z_Moment_NoneType ?z_Moment_bool ?ne_Moment ?y1_Mark ?y2_Mark ?y3_Mark ?y4_Mark ?y5_Mark ?y6_Mark ?y7_Mark ?y8_Mark ?y9_Mark ?yA_Mark ?yB_Mark ?yC_Mark ?yD_Mark ?yE_Mark ?na_Mark_tone ?na_Mark_begin ?na_Mark_end ?na_Mark_start ?na_Mark_stop ?z_Mark_int ?z_Mark_str ?z_Mark_list ?z_Mark_tuple ?z_Mark_NoneType ?z_Mark_bool ?ne_Mark ?n_abs ?n_isinstance ?n_int ?n_len ?n_range ?n_bool
    (case g_AnytuneError => k_is)
    (case g_NoMoment => k_is)
    (case g_NoMark => k_is)
    (case g_Moment => k_is)
    (case g_Mark => k_is)
    (case x_NoMoment___init__ => k_is)
    (case l_NoMoment___init__ => k_is)
    (case c_NoMoment___init__ => k_is)
    (case p_NoMoment___init__ => k_is)
    (case f_NoMoment___init__ => k_is)
    (case x_NoMark___init__ => k_is)
    (case l_NoMark___init__ => k_is)
    (case c_NoMark___init__ => k_is)
    (case p_NoMark___init__ => k_is)
    (case f_NoMark___init__ => k_is)
    (case g_common => k_is)
    (case l_common => k_is)
    (case c_common => k_is)
    (case p_common => k_is)
    (case x_Moment___init__ => k_is)
    (case l_Moment___init__ => k_is)
    (case c_Moment___init__ => k_is)
    (case p_Moment___init__ => k_is)
    (case f_Moment___init__ => k_is)
    (case t_Moment___init__ => k_is)
    (case u_Moment___init__ => exact rfl)
    (case v_Moment___init__ => exact (.cons ⟨_, rfl⟩ .nil))
    (case x_Moment___eq__ => k_is)
    (case l_Moment___eq__ => k_is)
    (case c_Moment___eq__ => k_is)
    (case p_Moment___eq__ => k_is)
    (case f_Moment___eq__ => k_is)
    (case x_Moment___lt__ => k_is)
    (case l_Moment___lt__ => k_is)
    (case c_Moment___lt__ => k_is)
    (case p_Moment___lt__ => k_is)
    (case f_Moment___lt__ => k_is)
    (case x_Moment___le__ => k_is)
    (case l_Moment___le__ => k_is)
    (case c_Moment___le__ => k_is)
    (case p_Moment___le__ => k_is)
    (case f_Moment___le__ => k_is)
    (case x_Moment___gt__ => k_is)
    (case l_Moment___gt__ => k_is)
    (case c_Moment___gt__ => k_is)
    (case p_Moment___gt__ => k_is)
    (case f_Moment___gt__ => k_is)
    (case x_Moment___ge__ => k_is)
    (case l_Moment___ge__ => k_is)
    (case c_Moment___ge__ => k_is)
    (case p_Moment___ge__ => k_is)
    (case f_Moment___ge__ => k_is)
    (case g_as_moment => k_is)
    (case l_as_moment => k_is)
    (case c_as_moment => k_is)
    (case p_as_moment => k_is)
    (case x_Mark___init__ => k_is)
    (case l_Mark___init__ => k_is)
    (case c_Mark___init__ => k_is)
    (case p_Mark___init__ => k_is)
    (case f_Mark___init__ => k_is)
    (case k_Mark___init___start => k_is)
    (case r_Mark___init___start => exact rfl)
    (case k_Mark___init___stop => k_is)
    (case r_Mark___init___stop => exact rfl)
    (case x_Mark___eq__ => k_is)
    (case l_Mark___eq__ => k_is)
    (case c_Mark___eq__ => k_is)
    (case p_Mark___eq__ => k_is)
    (case f_Mark___eq__ => k_is)
    (case g__law_cell => k_is)
    (case l__law_cell => k_is)
    (case c__law_cell => k_is)
    (case p__law_cell => k_is)
    (case g__law_row => k_is)
    (case l__law_row => k_is)
    (case c__law_row => k_is)
    (case p__law_row => k_is)
    (case g__law_gcd => k_is)
    (case l__law_gcd => k_is)
    (case c__law_gcd => k_is)
    (case p__law_gcd => k_is)
    (case g__law_low => k_is)
    (case l__law_low => k_is)
    (case c__law_low => k_is)
    (case p__law_low => k_is)
    (case g__law_add => k_is)
    (case l__law_add => k_is)
    (case c__law_add => k_is)
    (case p__law_add => k_is)
    (case g__law_under => k_is)
    (case l__law_under => k_is)
    (case c__law_under => k_is)
    (case p__law_under => k_is)
    (case g__law_is_int => k_is)
    (case l__law_is_int => k_is)
    (case c__law_is_int => k_is)
    (case p__law_is_int => k_is)
    (case g__law_holds => k_is)
    (case l__law_holds => k_is)
    (case c__law_holds => k_is)
    (case p__law_holds => k_is)
    (case g__law_whole => k_is)
    (case l__law_whole => k_is)
    (case c__law_whole => k_is)
    (case p__law_whole => k_is)
    (case g__law_passed => k_is)
    (case l__law_passed => k_is)
    (case c__law_passed => k_is)
    (case p__law_passed => k_is)
    (case g__law_mark => k_is)
    (case l__law_mark => k_is)
    (case c__law_mark => k_is)
    (case p__law_mark => k_is)
    (case g__law_valid => k_is)
    (case l__law_valid => k_is)
    (case c__law_valid => k_is)
    (case p__law_valid => k_is)
    (case g__law_tried => k_is)
    (case l__law_tried => k_is)
    (case c__law_tried => k_is)
    (case p__law_tried => k_is)
    (case g_law => k_is)
    (case l_law => k_is)
    (case c_law => k_is)
    (case p_law => k_is)
    (case r1_AnytuneError => k_is)
    (case r2_AnytuneError => k_is)
    (case r3_AnytuneError => k_is)
    (case o1_NoMoment => k_is)
    (case o2_NoMoment => decide +kernel)
    (case o3_NoMoment => k_is)
    (case o4_NoMoment => k_is)
    (case o5_NoMoment => k_is)
    (case o6_NoMoment => k_is)
    (case o7_NoMoment => k_is)
    (case o8_NoMoment => k_is)
    (case o9_NoMoment => k_is)
    (case oA_NoMoment => k_is)
    (case oB_NoMoment => k_is)
    (case na_NoMoment_top => k_is)
    (case na_NoMoment_bottom => k_is)
    (case o1_NoMark => k_is)
    (case o2_NoMark => decide +kernel)
    (case o3_NoMark => k_is)
    (case o4_NoMark => k_is)
    (case o5_NoMark => k_is)
    (case o6_NoMark => k_is)
    (case o7_NoMark => k_is)
    (case o8_NoMark => k_is)
    (case o9_NoMark => k_is)
    (case oA_NoMark => k_is)
    (case oB_NoMark => k_is)
    (case na_NoMark_tone => k_is)
    (case na_NoMark_begin => k_is)
    (case na_NoMark_end => k_is)
    (case y1_Moment => k_is)
    (case y2_Moment => k_is)
    (case y3_Moment => k_is)
    (case y4_Moment => k_is)
    (case y5_Moment => k_is)
    (case y6_Moment => k_is)
    (case y7_Moment => k_is)
    (case y8_Moment => k_is)
    (case y9_Moment => k_is)
    (case yA_Moment => k_is)
    (case yB_Moment => k_is)
    (case yC_Moment => k_is)
    (case yD_Moment => k_is)
    (case yE_Moment => k_is)
    (case na_Moment_top => k_is)
    (case na_Moment_bottom => k_is)
    (case z_Moment_int => k_is)
    (case z_Moment_str => k_is)
    (case z_Moment_list => k_is)
    (case z_Moment_tuple => k_is)
    (case z_Moment_NoneType => k_is)
    (case z_Moment_bool => k_is)
    (case ne_Moment => k_is)
    (case y1_Mark => k_is)
    (case y2_Mark => k_is)
    (case y3_Mark => k_is)
    (case y4_Mark => k_is)
    (case y5_Mark => k_is)
    (case y6_Mark => k_is)
    (case y7_Mark => k_is)
    (case y8_Mark => k_is)
    (case y9_Mark => k_is)
    (case yA_Mark => k_is)
    (case yB_Mark => k_is)
    (case yC_Mark => k_is)
    (case yD_Mark => k_is)
    (case yE_Mark => k_is)
    (case na_Mark_tone => k_is)
    (case na_Mark_begin => k_is)
    (case na_Mark_end => k_is)
    (case na_Mark_start => k_is)
    (case na_Mark_stop => k_is)
    (case z_Mark_int => k_is)
    (case z_Mark_str => k_is)
    (case z_Mark_list => k_is)
    (case z_Mark_tuple => k_is)
    (case z_Mark_NoneType => k_is)
    (case z_Mark_bool => k_is)
    (case ne_Mark => k_is)
    (case n_abs => k_is)
    (case n_isinstance => k_is)
    (case n_int => k_is)
    (case n_len => k_is)
    (case n_range => k_is)
    (case n_bool => k_is)
#print axioms PySem.Challenge.cw_anytune_k08_marks_holds
