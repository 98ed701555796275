import PyProof.Rows.All
import Wide.All
import OpenK.AllK
import Wide.FinOn
import HandS.ForSpec
import HandS.IsInst
import HandS.Wide
import HandS.ExcInit
import HandS.ClsMeth
import PyProof.InstNe
import PyProof.StrReplace2
import HandS.SlotsOwn
import HandS.ExcBuiltin
import HandS.RaiseOp
import PyProof.AutoIntOpsIf
import HandS.Defaults
import HandS.ExcField
import HandS.Steps
import HandS.Evl
import PyProof.Rows.Range3
import PyProof.Conv_bool
import HandS.ExcIs
import KE.KExcIs
import HandS.ExcValue
import PySem.Challenge.RW_anytune_k01_errors
set_option Elab.async false
set_option maxRecDepth 100000
set_option maxHeartbeats 4000000
set_option linter.all false
section
/-! Operators of an own class, over the hand layer. -/
namespace AT
open PySem PySem.Spec PyProof.Rows L2
open AutoSeq1 (wpAny_loadPart')

/-- an object that is no int within -/
def NoPrim (o : Obj) : Prop := ∀ v, o.data ≠ .prim v
theorem noprim_inst {C dx : Addr} : NoPrim (PySem.W.instObj C dx) := fun v e => by cases e

def HasObj (x : Addr) (s : Shared) : Prop := ∃ C dx, s.heap.get? x = some (PySem.W.instObj C dx)

theorem decl_add (a : Int) (t : Tok) (x : Addr) : GivesAt (HasObj x) (Builtin.«int.__add__» ⟨[.int a t, .ref x], []⟩) (.val .notImplemented) := by
  intro prog w A R s hP hq
  obtain ⟨C, dx, hx⟩ := hP
  obtain ⟨hp, g, d, tk, os⟩ := s
  wp_walk using wpAny_loadPart' hx
  exact hq
theorem decl_sub (a : Int) (t : Tok) (x : Addr) : GivesAt (HasObj x) (Builtin.«int.__sub__» ⟨[.int a t, .ref x], []⟩) (.val .notImplemented) := by
  intro prog w A R s hP hq
  obtain ⟨C, dx, hx⟩ := hP
  obtain ⟨hp, g, d, tk, os⟩ := s
  wp_walk using wpAny_loadPart' hx
  exact hq
theorem decl_mul (a : Int) (t : Tok) (x : Addr) : GivesAt (HasObj x) (Builtin.«int.__mul__» ⟨[.int a t, .ref x], []⟩) (.val .notImplemented) := by
  intro prog w A R s hP hq
  obtain ⟨C, dx, hx⟩ := hP
  obtain ⟨hp, g, d, tk, os⟩ := s
  wp_walk using wpAny_loadPart' hx
  exact hq
theorem decl_floordiv (a : Int) (t : Tok) (x : Addr) : GivesAt (HasObj x) (Builtin.«int.__floordiv__» ⟨[.int a t, .ref x], []⟩) (.val .notImplemented) := by
  intro prog w A R s hP hq
  obtain ⟨C, dx, hx⟩ := hP
  obtain ⟨hp, g, d, tk, os⟩ := s
  wp_walk using wpAny_loadPart' hx
  exact hq
theorem decl_mod (a : Int) (t : Tok) (x : Addr) : GivesAt (HasObj x) (Builtin.«int.__mod__» ⟨[.int a t, .ref x], []⟩) (.val .notImplemented) := by
  intro prog w A R s hP hq
  obtain ⟨C, dx, hx⟩ := hP
  obtain ⟨hp, g, d, tk, os⟩ := s
  wp_walk using wpAny_loadPart' hx
  exact hq
theorem decl_lt (a : Int) (t : Tok) (x : Addr) : GivesAt (HasObj x) (Builtin.«int.__lt__» ⟨[.int a t, .ref x], []⟩) (.val .notImplemented) := by
  intro prog w A R s hP hq
  obtain ⟨C, dx, hx⟩ := hP
  obtain ⟨hp, g, d, tk, os⟩ := s
  wp_walk using wpAny_loadPart' hx
  exact hq
theorem decl_le (a : Int) (t : Tok) (x : Addr) : GivesAt (HasObj x) (Builtin.«int.__le__» ⟨[.int a t, .ref x], []⟩) (.val .notImplemented) := by
  intro prog w A R s hP hq
  obtain ⟨C, dx, hx⟩ := hP
  obtain ⟨hp, g, d, tk, os⟩ := s
  wp_walk using wpAny_loadPart' hx
  exact hq
theorem decl_gt (a : Int) (t : Tok) (x : Addr) : GivesAt (HasObj x) (Builtin.«int.__gt__» ⟨[.int a t, .ref x], []⟩) (.val .notImplemented) := by
  intro prog w A R s hP hq
  obtain ⟨C, dx, hx⟩ := hP
  obtain ⟨hp, g, d, tk, os⟩ := s
  wp_walk using wpAny_loadPart' hx
  exact hq
theorem decl_ge (a : Int) (t : Tok) (x : Addr) : GivesAt (HasObj x) (Builtin.«int.__ge__» ⟨[.int a t, .ref x], []⟩) (.val .notImplemented) := by
  intro prog w A R s hP hq
  obtain ⟨C, dx, hx⟩ := hP
  obtain ⟨hp, g, d, tk, os⟩ := s
  wp_walk using wpAny_loadPart' hx
  exact hq
theorem decl_eq (a : Int) (t : Tok) (x : Addr) : GivesAt (HasObj x) (Builtin.«int.__eq__» ⟨[.int a t, .ref x], []⟩) (.val .notImplemented) := by
  intro prog w A R s hP hq
  obtain ⟨C, dx, hx⟩ := hP
  obtain ⟨hp, g, d, tk, os⟩ := s
  wp_walk using wpAny_loadPart' hx
  exact hq
theorem decl_ne (a : Int) (t : Tok) (x : Addr) : GivesAt (HasObj x) (Builtin.«int.__ne__» ⟨[.int a t, .ref x], []⟩) (.val .notImplemented) := by
  intro prog w A R s hP hq
  obtain ⟨C, dx, hx⟩ := hP
  obtain ⟨hp, g, d, tk, os⟩ := s
  wp_walk using wpAny_loadPart' hx
  exact hq

section
variable {prog : Program} {w : World} {A : Around} {E : Value → Shared → Prop} {s : Shared} {K : PySem.W.Frag} {x C L f : Addr} {h₀ : Heap} {m : Str → Option Value} {ox : Obj} {od : Option Obj}
open PySem.W

/-- x op y, two instances of one class -/
theorem bin_same {op : Operator} {y : Addr} {oy : Obj} {od' : Option Obj} {Q : Value → Shared → Prop} (X : K.In s.heap) (I : InstAt s.heap x ox C od) (J : InstAt s.heap y oy C od') (hc : selfFirst K C = true)
    (hs : findIn K (.ref C) (PySem.dunder op.info.2) = some (some (.ref f))) (hf : isFn K (.ref f) = true)
    (h : wpAny (model prog w) A (call (.ref f) [.ref x, .ref y]) (PySem.W.CmpBack Q) E s) : wpAny (model prog w) A (binaryOp op (.ref x) (.ref y)) Q E s := by
  obtain ⟨cd, rest, hcd, hm⟩ := ksp_first hc
  rcases hi : op.info with ⟨sym, nm'⟩
  rw [hi] at hs
  dsimp only at hs
  have one := ksp_try X I hs hf h
  obtain ⟨hh, g, d, tt, os⟩ := s
  have L1 : Looks (model prog w) hh (typeOf (.ref x)) (.ref C) := I.type
  have L2 : Looks (model prog w) hh (typeOf (.ref y)) (.ref C) := J.type
  have L3 : Looks (model prog w) hh (fillsNumberSlot (.ref C) nm') true := fills_K X hcd hm hs
  simp only [binaryOp, hi]
  refine wpAny_holding (wpAny_bind ?_)
  unfold binaryOp1
  refine wpAny_bind (L1.at (wpAny_bind (L2.at (wpAny_bind (L3.at ?_)))))
  simp only [beq_self_eq_true, if_true]
  ksp_lk
  refine wpAny_mono one (fun r s' hr' => ?_) fun _ _ e => e
  obtain ⟨v, rfl, hq⟩ := hr'
  ksp_lk
  exact hq

/-- int op y, y an instance with the reflected method -/
theorem bin_refl {op : Operator} {i : Int} {t : Tok} {id : String} {B : Builtin} {dx : Addr} {Q : Value → Shared → Prop} (X : K.In s.heap) (I : InstAt s.heap x (instObj C dx) C od) (hc : selfFirst K C = true)
    (hl : findIn K (.ref C) (PySem.dunder op.info.2) = some (some (.ref L))) (hs : findIn K (.ref C) (dunderR op.info.2) = some (some (.ref f))) (hf : isFn K (.ref f) = true)
    (hsub : subIn K (.ref C) (.type "int") = some false) (hfi : fillsNumberSlot (.type "int") op.info.2 = pure true)
    (slot : Slot "int" (PySem.dunder op.info.2) id) (entry : entryFor table id = some B) (args : argsOk id ⟨[.int i t, .ref x], []⟩) (dec : GivesAt (HasObj x) (B ⟨[.int i t, .ref x], []⟩) (.val .notImplemented))
    (h : wpAny (model prog w) A (call (.ref f) [.ref x, .int i t]) (PySem.W.CmpBack Q) E s) : wpAny (model prog w) A (binaryOp op (.int i t) (.ref x)) Q E s := by
  obtain ⟨cd, rest, hcd, hm⟩ := ksp_first hc
  have hx : HasObj x s := ⟨C, dx, I.at_⟩
  rcases hi : op.info with ⟨sym, nm'⟩
  rw [hi] at hs hl hfi slot
  dsimp only at hs hl hfi slot
  have one := ksp_try X I hs hf h
  have two : ∀ {Q' : Option Value → Shared → Prop}, Q' none s → wpAny (model prog w) A (tryMethod (.int i t) (PySem.dunder nm') (.ref x)) Q' E s := fun q =>
    wpAny_tryMethod_declines (typeIs_int s i t) slot (call_givesAt slot (typeIs_int s i t) entry args dec hx ⟨rfl, q⟩)
  obtain ⟨hh, g, d, tt, os⟩ := s
  have L1 : Looks (model prog w) hh (typeOf (.int i t)) (.type "int") := Looks.of_pure rfl
  have L2 : Looks (model prog w) hh (typeOf (.ref x)) (.ref C) := I.type
  have L3 : Looks (model prog w) hh (fillsNumberSlot (.type "int") nm') true := Looks.of_pure hfi
  have L4 : Looks (model prog w) hh (fillsNumberSlot (.ref C) nm') true := fills_K X hcd hm hl
  have L5 : Looks (model prog w) hh (isSubtype (.ref C) (.type "int")) false := looks_subIn X hsub
  have hne : (Value.type "int" == Value.ref C) = false := Bool.eq_false_iff.mpr fun q => by cases beq_iff_eq.mp q
  have hpy : numberSlotInPython (.type "int") nm' = pure false := rfl
  simp only [binaryOp, hi]
  refine wpAny_holding (wpAny_bind ?_)
  unfold binaryOp1
  refine wpAny_bind (L1.at (wpAny_bind (L2.at (wpAny_bind (L3.at ?_)))))
  simp only [hne, Bool.false_eq_true, if_false]
  refine wpAny_bind (L4.at ?_)
  simp only [Bool.and_self, if_true]
  refine wpAny_bind (L5.at ?_)
  simp only [Bool.false_eq_true, if_false, pure_bind, Bool.not_false, Bool.and_self, if_true, hpy]
  refine wpAny_bind (two ?_)
  refine wpAny_bind (wpAny_mono one (fun r s' hr' => ?_) fun _ _ e => e)
  obtain ⟨v, rfl, hq⟩ := hr'
  ksp_lk
  exact hq
end
end AT

end

section
namespace AT
open PySem PySem.Spec PyProof.Rows L2
open AutoSeq1 (wpAny_loadPart')
section
variable {prog : Program} {w : World} {A : Around} {E : Value → Shared → Prop} {s : Shared} {K : PySem.W.Frag} {x C L f : Addr} {h₀ : Heap} {m : Str → Option Value} {ox : Obj} {od : Option Obj} {b : Value}
open PySem.W

/-- int op x by comparison, x an instance with the reflected method -/
theorem cmp_refl {op : CmpOp} {i : Int} {t : Tok} {id : String} {B : Builtin} {dx : Addr} {Q : Value → Shared → Prop} (hu : A.units < cLine) (X : K.In s.heap) (I : InstAt s.heap x (instObj C dx) C od)
    (hs : findIn K (.ref C) (cmpInfo op).2.2 = some (some (.ref f))) (hf : isFn K (.ref f) = true) (hsub : subIn K (.ref C) (.type "int") = some false)
    (slot : Slot "int" (cmpInfo op).2.1 id) (entry : entryFor table id = some B) (args : argsOk id ⟨[.int i t, .ref x], []⟩) (dec : GivesAt (HasObj x) (B ⟨[.int i t, .ref x], []⟩) (.val .notImplemented))
    (h : wpAny (model prog w) A (call (.ref f) [.ref x, .int i t]) (PySem.W.CmpBack Q) E s) : wpAny (model prog w) A (richCompare op (.int i t) (.ref x)) Q E s := by
  have hx : HasObj x s := ⟨C, dx, I.at_⟩
  have one : wpAny (model prog w) A (tryCompare (.ref x) (cmpInfo op).2.2 (.int i t)) (fun r s' => ∃ v, r = some v ∧ Q v s') E s := by
    unfold tryCompare
    refine wpAny_bind (ifBound_K X I hs hf (wpAny_mono h (fun v s' hv => ?_) fun _ _ e => e))
    cases v <;> first | exact hv.elim | exact wpAny_pure ⟨_, rfl, hv⟩
  have two : ∀ {Q' : Option Value → Shared → Prop}, Q' none s → wpAny (model prog w) A (tryCompare (.int i t) (cmpInfo op).2.1 (.ref x)) Q' E s := fun q =>
    wpAny_tryCompare_declines (typeIs_int s i t) slot (call_givesAt slot (typeIs_int s i t) entry args dec hx ⟨rfl, q⟩)
  have hne : (Value.type "int" != Value.ref C) = true := by simp
  unfold richCompare
  simp only [(typeIs_int s i t).oneThing_none]
  refine wpAny_holding (wpAny_bind (wpAny_cRoomFor hu ?_))
  refine wpAny_bind (wpAny_typeOf (typeIs_int s i t) (wpAny_bind (I.type.here ?_)))
  simp only [hne, if_true]
  refine wpAny_bind ((looks_subIn X hsub).here ?_)
  simp only [Bool.false_eq_true, if_false, Bool.not_false, if_true]
  refine wpAny_bind (two ?_)
  refine wpAny_bind (wpAny_mono one (fun r s' z => ?_) fun _ _ e => e)
  obtain ⟨v, rfl, hq⟩ := z
  exact wpAny_pure hq

theorem check_ne {Q : Unit → Shared → Prop} (X : K.In s.heap) (I : InstAt s.heap x ox C od) (hm : mroIn K C (.type "object") = some true) (h : Q () s) : wpAny (model prog w) A (checkBuiltinCall "object.__ne__" ⟨[.ref x, b], []⟩) Q E s := by
  simp only [checkBuiltinCall, F.cmpKind_ne, F.cmpSplit_ne]
  refine wpAny_bind ?_
  have LI : Looks (model prog w) s.heap (isInstance (.ref x) (.type "object")) true := I.type.andThen (looks_mroIn X hm)
  refine LI.here ?_
  cases hsig : Manifest.signature? "object.__ne__" with
  | none => exact wpAny_pure h
  | some sig =>
    have ha := F.cmpArgs_ne (.ref x) b
    simp only [argsOk, hsig] at ha
    have h2 : Bind.checkArgs "object.__ne__" sig ⟨[.ref x, b], []⟩ = pure () := ha
    show wpAny _ A (Bind.checkArgs "object.__ne__" sig ⟨[.ref x, b], []⟩) Q E _
    rw [h2]
    exact wpAny_pure h
/-- object.__ne__ asks the own __eq__ -/
theorem run_ne {Q : Fin → Shared → Prop} (hu : A.units < cLine) (X : K.In s.heap) (I : InstAt s.heap x ox C od) (hs : findIn K (.ref C) "__eq__" = some (some (.ref f))) (hf : isFn K (.ref f) = true)
    (h : wpAny (model prog w) A (call (.ref f) [.ref x, b]) (fun v s' => ∃ k, v = .bool k ∧ Q (.done (.ret (.bool (!k)))) s') E s) : wpAny (model prog w) A (Builtin.«object.__ne__» ⟨[.ref x, b], []⟩) Q E s := by
  unfold Builtin.«object.__ne__»
  repeat (first
    | with_reducible refine wpAny_cRoomFor hu ?_
    | (refine wpAny_bind (m := callSpecialIfBound? (.ref x) (Str.ofString "__eq__") [b])
        (ifBound_K X I hs hf (wpAny_mono h (fun r s' hr => by
          obtain ⟨k, rfl, hq⟩ := hr
          repeat (first | exact hq | exact wpAny_pure hq | exact wpAny_truthy_bool hq | (refine wpAny_bind (m := truthy (.bool _)) (wpAny_truthy_bool ?_)) | wp_step)) fun _ _ e => e)))
    | wp_step)
theorem try_ne {Q : Option Value → Shared → Prop} (hu : A.units + 1 < cLine) (X : K.In s.heap) (I : InstAt s.heap x ox C od) (hn : findIn K (.ref C) "__ne__" = some (some (.builtin "object.__ne__"))) (hm : mroIn K C (.type "object") = some true)
    (hs : findIn K (.ref C) "__eq__" = some (some (.ref f))) (hf : isFn K (.ref f) = true)
    (h : wpAny (model prog w) A.in1 (call (.ref f) [.ref x, b]) (fun v s' => ∃ k, v = .bool k ∧ Q (some (.bool (!k))) s') E s) : wpAny (model prog w) A (tryCompare (.ref x) "__ne__" b) Q E s := by
  have fin : wpAny (model prog w) A (call (.builtin "object.__ne__") [.ref x, b]) (fun v s' => ∃ k, v = .bool k ∧ Q (some v) s') E s := by
    refine wpAny_call (codeAny_call_builtin F.cmp_object.ne.plain F.cmpEntry_ne (check_ne X I hm (run_ne (A := A.in1) hu X I hs hf (wpAny_mono h (fun v s' hv => ?_) fun _ _ e => e))))
    obtain ⟨k, rfl, hq⟩ := hv
    exact ⟨k, rfl, !k, rfl, hq⟩
  unfold tryCompare
  simp only [callSpecialIfBound?, bindSpecialIfBound?]
  refine wpAny_bind (wpAny_holding (wpAny_bind (wpAny_bind (wpAny_bind (I.type.here ((looks_findIn X hn).here ?_))))))
  simp only [F.cmp_object.ne.bind]
  refine wpAny_bind (wpAny_askSetting (wpAny_ite ?_))
  have fin2 : wpAny (model prog w) A (call (.builtin "object.__ne__") ([.ref x] ++ [b]) >>= fun v => pure (some v)) (fun r s' => ∃ k, r = some (.bool k) ∧ Q r s') E s :=
    wpAny_bind (wpAny_mono fin (fun v s' h' => by obtain ⟨k, rfl, q⟩ := h'; exact wpAny_pure ⟨k, rfl, q⟩) fun _ _ h' => h')
  have fin3 : wpAny (model prog w) A (call (.builtin "object.__ne__") ([.ref x] ++ [b]) >>= fun v => pure (some v)) (fun r s' => wpAny (model prog w) A (match r with | some .notImplemented | none => pure none | some v => pure (some v)) Q E s') E s :=
    wpAny_mono fin2 (fun r s' h' => by obtain ⟨k, rfl, q⟩ := h'; exact wpAny_pure q) fun _ _ h' => h'
  split
  · exact wpAny_bind (wpAny_pure (wpAny_pure fin3))
  · exact wpAny_tryCatch (wpAny_bind (wpAny_pure (wpAny_pure fin3)))
/-- x != b, x an instance whose class has an own __eq__ alone; b of a class that is not below -/
theorem ne_own {tb : Value} {Q : Value → Shared → Prop} (hu : A.units + 1 < cLine) (X : K.In s.heap) (I : InstAt s.heap x ox C od) (hb : Looks (model prog w) s.heap (typeOf b) tb) (hnf : notFirst K C tb = true) (hn : findIn K (.ref C) "__ne__" = some (some (.builtin "object.__ne__")))
    (hm : mroIn K C (.type "object") = some true) (hs : findIn K (.ref C) "__eq__" = some (some (.ref f))) (hf : isFn K (.ref f) = true)
    (h : wpAny (model prog w) A.in1 (call (.ref f) [.ref x, b]) (fun v s' => ∃ k, v = .bool k ∧ Q (.bool (!k)) s') E s) : wpAny (model prog w) A (richCompare .NotEq (.ref x) b) Q E s := by
  have one : wpAny (model prog w) A (tryCompare (.ref x) "__ne__" b) (fun r s' => ∃ v, r = some v ∧ Q v s') E s :=
    try_ne hu X I hn hm hs hf (wpAny_mono h (fun v s' hv => by obtain ⟨k, rfl, q⟩ := hv; exact ⟨k, rfl, _, rfl, q⟩) fun _ _ e => e)
  unfold richCompare
  simp only [oneThing_ref]
  refine wpAny_holding (wpAny_bind (wpAny_cRoomFor (Nat.lt_of_succ_lt hu) ?_))
  rw [cmpInfo_NotEq]
  dsimp only
  refine wpAny_bind (I.type.here (wpAny_bind (hb.here ?_)))
  split
  · rename_i q
    have e : subIn K tb (.ref C) = some false := by
      rcases Bool.or_eq_true_iff.mp hnf with e | e
      · rw [beq_iff_eq.mp e] at q; simp at q
      · exact beq_iff_eq.mp e
    refine wpAny_bind ((looks_subIn X e).here ?_)
    simp only [Bool.false_eq_true, if_false]
    refine wpAny_bind (wpAny_mono one (fun r s' z => ?_) fun _ _ e => e)
    obtain ⟨v, rfl, hq⟩ := z
    exact wpAny_pure hq
  · refine wpAny_bind (wpAny_pure ?_)
    simp only [Bool.false_eq_true, if_false]
    refine wpAny_bind (wpAny_mono one (fun r s' z => ?_) fun _ _ e => e)
    obtain ⟨v, rfl, hq⟩ := z
    exact wpAny_pure hq
/-- int != x -/
theorem ne_refl {i : Int} {t : Tok} {dx : Addr} {Q : Value → Shared → Prop} (hu : A.units + 1 < cLine) (X : K.In s.heap) (I : InstAt s.heap x (instObj C dx) C od) (hsub : subIn K (.ref C) (.type "int") = some false)
    (hn : findIn K (.ref C) "__ne__" = some (some (.builtin "object.__ne__"))) (hm : mroIn K C (.type "object") = some true) (hs : findIn K (.ref C) "__eq__" = some (some (.ref f))) (hf : isFn K (.ref f) = true)
    (h : wpAny (model prog w) A.in1 (call (.ref f) [.ref x, .int i t]) (fun v s' => ∃ k, v = .bool k ∧ Q (.bool (!k)) s') E s) : wpAny (model prog w) A (richCompare .NotEq (.int i t) (.ref x)) Q E s := by
  have hx : HasObj x s := ⟨C, dx, I.at_⟩
  have one : wpAny (model prog w) A (tryCompare (.ref x) "__ne__" (.int i t)) (fun r s' => ∃ v, r = some v ∧ Q v s') E s :=
    try_ne hu X I hn hm hs hf (wpAny_mono h (fun v s' hv => by obtain ⟨k, rfl, q⟩ := hv; exact ⟨k, rfl, _, rfl, q⟩) fun _ _ e => e)
  have two : ∀ {Q' : Option Value → Shared → Prop}, Q' none s → wpAny (model prog w) A (tryCompare (.int i t) "__ne__" (.ref x)) Q' E s := fun q =>
    wpAny_tryCompare_declines (typeIs_int s i t) F.slot_int_ne (call_givesAt F.slot_int_ne (typeIs_int s i t) F.entry_int_ne (F.args_int_ne_2 _ _) (decl_ne i t x) hx ⟨rfl, q⟩)
  have hne : (Value.type "int" != Value.ref C) = true := by simp
  unfold richCompare
  simp only [(typeIs_int s i t).oneThing_none]
  refine wpAny_holding (wpAny_bind (wpAny_cRoomFor (Nat.lt_of_succ_lt hu) ?_))
  rw [cmpInfo_NotEq]
  dsimp only
  refine wpAny_bind (wpAny_typeOf (typeIs_int s i t) (wpAny_bind (I.type.here ?_)))
  simp only [hne, if_true]
  refine wpAny_bind ((looks_subIn X hsub).here ?_)
  simp only [Bool.false_eq_true, if_false, Bool.not_false, if_true]
  refine wpAny_bind (two ?_)
  refine wpAny_bind (wpAny_mono one (fun r s' z => ?_) fun _ _ e => e)
  obtain ⟨v, rfl, hq⟩ := z
  exact wpAny_pure hq
end
end AT

end

section
namespace AT
open PySem PySem.Spec PyProof.Rows L2
/-- what the written part says of a class whose operators are its own -/
structure OwnC (K : PySem.W.Frag) (C : Addr) : Prop where
  cl : Cls K C
  first : PySem.W.selfFirst K C = true
  notInt : PySem.W.subIn K (.ref C) (.type "int") = some false
  obj : PySem.W.mroIn K C (.type "object") = some true
  ca : PySem.W.findIn K (.ref C) "__class__" = some (some (.builtin "object.__class__"))
  cn : PySem.W.specialIn K (.builtin "object.__class__") "__get__" = some (some (.builtin "getset_descriptor.__get__"))
  ct : PySem.W.takesIn K (.builtin "object.__class__") = some true
/-- a method of the class by its name -/
structure OwnM (K : PySem.W.Frag) (C f : Addr) (name : Str) : Prop where
  at_ : PySem.W.findIn K (.ref C) name = some (some (.ref f))
  fn : PySem.W.isFn K (.ref f) = true
theorem OwnC.ty {K : PySem.W.Frag} {C a dx : Addr} {H : Hp} {fs : List (Str × V)} (o : OwnC K C) (h : H a = some (.ins C dx fs)) : TyX K H (.ref a) (.ref C) := .base (.ins h o.cl o.ca o.cn o.ct o.obj)

theorem rel_ref {a : Addr} : RelV (.ref a) (.ref a) := rfl
theorem rel_int {i : Int} {t : Tok} : RelV (.int i) (.int i t) := ⟨t, rfl⟩
section
variable {X : Cx} {CX : CXT} {C g r : Addr} {fd fd' : FuncData} {ps ps' : List Str} {n : Nat} {sp : Sp} {E : XK} {op : Operator} {cop : CmpOp}
theorem inst_at {pins : List (Addr × Obj)} {σ : L2.St} {H : Hp} {s : Shared} {a dx : Addr} {fs : List (Str × V)} (I : Inv X pins σ H s) (h : H a = some (.ins C dx fs)) : ∃ od, PySem.W.InstAt s.heap a (PySem.W.instObj C dx) C (some od) := by
  obtain ⟨mA, O, _⟩ := ins_get I.hok h
  obtain ⟨od, J, _⟩ := O.look
  exact ⟨od, J⟩
theorem run_two {pins : List (Addr × Obj)} {σ : L2.St} {H : Hp} {s : Shared} {Q : VK} {x y : V} {u v : Value} (F : FnOk X.prog X.w X.K X.mg X.base CX n g fd ps sp) (hr : Room n X.A) (hb : Binds X.K fd ps []) (hx : Passes CX X E) (I : Inv X pins σ H s)
    (rx : RelV x u) (ry : RelV y v) (h : sp [x, y] H Q E) : wpAny (model X.prog X.w) X.A (call (.ref g) [u, v]) (PySem.W.CmpBack (EP X pins σ Q)) X.xe s := by
  have z : wpAny (model X.prog X.w) X.A (call (.ref g) [u, v]) (EP X pins σ Q) X.xe s := run_fn (us := [u, v]) (vs := [x, y]) F hr hb .nil hx I (.cons rx (.cons ry .nil)) (by simpa using h)
  refine thn z fun w s' q => ?_
  obtain ⟨z', H', I', rz, qz⟩ := q
  exact SlX.cmpback rz ⟨z', H', I', rz, qz⟩
/-- x op y: both instances of the class -/
def rInsIns (C : Addr) (sp : Sp) (E : XK) : R2 := fun x y H Q => ∃ a dx fs b dy gs, x = .ref a ∧ y = .ref b ∧ H a = some (.ins C dx fs) ∧ H b = some (.ins C dy gs) ∧ sp [x, y] H Q E
/-- x op i, i an int -/
def rInsInt (C : Addr) (sp : Sp) (E : XK) : R2 := fun x y H Q => ∃ a dx fs i, x = .ref a ∧ y = .int i ∧ H a = some (.ins C dx fs) ∧ sp [x, y] H Q E
/-- i op y: the reflected method of y -/
def rIntIns (C : Addr) (sp : Sp) (E : XK) : R2 := fun x y H Q => ∃ i b dy gs, x = .int i ∧ y = .ref b ∧ H b = some (.ins C dy gs) ∧ sp [y, x] H Q E
theorem op_insIns (o : OwnC X.K C) (m : OwnM X.K C g (PySem.dunder op.info.2)) (F : FnOk X.prog X.w X.K X.mg X.base CX n g fd ps sp) (hr : Room n X.A) (hb : Binds X.K fd ps []) (hx : Passes CX X E) : OpR X (binaryOp op) (rInsIns C sp E) := by
  intro pins s σ H x y v u Q I rx ry h
  obtain ⟨a, dx, fs, b, dy, gs, rfl, rfl, ha, hb', q⟩ := h
  cases (show v = Value.ref a from rx)
  cases (show u = Value.ref b from ry)
  obtain ⟨od, J⟩ := inst_at I ha
  obtain ⟨od', J'⟩ := inst_at I hb'
  exact bin_same I.kIn J J' o.first m.at_ m.fn (run_two F hr hb hx I rel_ref rel_ref q)
theorem op_insInt {fo ro rc : Option Value} (o : OwnC X.K C) (m : OwnM X.K C g (PySem.dunder op.info.2)) (hrc : PySem.W.findIn X.K (.ref C) (dunderR op.info.2) = some rc) (hp : rc = none ∨ ∃ q : Addr, rc = some (.ref q))
    (h1 : PySem.W.findIn X.K (.type "int") (PySem.dunder op.info.2) = some fo) (h2 : PySem.W.findIn X.K (.type "int") (dunderR op.info.2) = some ro) (hsub : PySem.W.subIn X.K (.type "int") (.ref C) = some false)
    (F : FnOk X.prog X.w X.K X.mg X.base CX n g fd ps sp) (hr : Room n X.A) (hb : Binds X.K fd ps []) (hx : Passes CX X E) : OpR X (binaryOp op) (rInsInt C sp E) := by
  intro pins s σ H x y v u Q I rx ry h
  obtain ⟨a, dx, fs, i, rfl, rfl, ha, q⟩ := h
  cases (show v = Value.ref a from rx)
  obtain ⟨t, rfl⟩ := (show ∃ t, u = Value.int i t from ry)
  obtain ⟨od, J⟩ := inst_at I ha
  obtain ⟨mm, hF⟩ := I.fr
  exact PySem.W.ksp_binT hF I.ok.mod.kin J rfl o.first m.at_ m.fn hrc hp h1 h2 hsub (run_two F hr hb hx I rel_ref rel_int q)
/-- the int's own slot declines -/
structure IntDeclines (op : Operator) : Prop where
  fills : fillsNumberSlot (.type "int") op.info.2 = pure true
  ex : ∃ (id : String) (B : Builtin), Slot "int" (PySem.dunder op.info.2) id ∧ entryFor table id = some B ∧ ∀ (i : Int) (t : Tok) (x : Addr), argsOk id ⟨[.int i t, .ref x], []⟩ ∧ GivesAt (HasObj x) (B ⟨[.int i t, .ref x], []⟩) (.val .notImplemented)
theorem dec_add : IntDeclines .Add := ⟨PySem.F.fills_int_add, _, _, PySem.F.slot_int_add, PySem.F.entry_int_add, fun i t x => ⟨PySem.F.args_int_add_2 _ _, decl_add i t x⟩⟩
theorem dec_sub : IntDeclines .Sub := ⟨PySem.F.fills_int_sub, _, _, PySem.F.slot_int_sub, PySem.F.entry_int_sub, fun i t x => ⟨PySem.F.args_int_sub_2 _ _, decl_sub i t x⟩⟩
theorem dec_mul : IntDeclines .Mult := ⟨PySem.F.fills_int_mul, _, _, PySem.F.slot_int_mul, PySem.F.entry_int_mul, fun i t x => ⟨PySem.F.args_int_mul_2 _ _, decl_mul i t x⟩⟩
theorem dec_fdiv : IntDeclines .FloorDiv := ⟨PySem.F.fills_int_floordiv, _, _, PySem.F.slot_int_floordiv, PySem.F.entry_int_floordiv, fun i t x => ⟨PySem.F.args_int_floordiv_2 _ _, decl_floordiv i t x⟩⟩
theorem dec_mod : IntDeclines .Mod := ⟨PySem.F.fills_int_mod, _, _, PySem.F.slot_int_mod, PySem.F.entry_int_mod, fun i t x => ⟨PySem.F.args_int_mod_2 _ _, decl_mod i t x⟩⟩
theorem op_intIns {l : Addr} (d : IntDeclines op) (o : OwnC X.K C) (hl : PySem.W.findIn X.K (.ref C) (PySem.dunder op.info.2) = some (some (.ref l))) (m : OwnM X.K C g (dunderR op.info.2))
    (F : FnOk X.prog X.w X.K X.mg X.base CX n g fd ps sp) (hr : Room n X.A) (hb : Binds X.K fd ps []) (hx : Passes CX X E) : OpR X (binaryOp op) (rIntIns C sp E) := by
  intro pins s σ H x y v u Q I rx ry h
  obtain ⟨i, b, dy, gs, rfl, rfl, hb', q⟩ := h
  obtain ⟨t, rfl⟩ := (show ∃ t, v = Value.int i t from rx)
  cases (show u = Value.ref b from ry)
  obtain ⟨od, J⟩ := inst_at I hb'
  obtain ⟨hfi, id, B, slot, entry, dd⟩ := d
  exact bin_refl I.kIn J o.first hl m.at_ m.fn o.notInt hfi slot entry (dd i t b).1 (dd i t b).2 (run_two F hr hb hx I rel_ref rel_int q)
/-- x cop y, x an instance, y of any kind told -/
def rCmpIns (K : PySem.W.Frag) (C : Addr) (sp : Sp) (E : XK) : R2 := fun x y H Q => ∃ a dx fs ty, x = .ref a ∧ H a = some (.ins C dx fs) ∧ TyX K H y ty ∧ PySem.W.notFirst K C ty = true ∧ sp [x, y] H Q E
theorem op_cmpIns (hop : ∀ a b, compareOp cop a b = richCompare cop a b) (m : OwnM X.K C g (cmpInfo cop).2.1) (F : FnOk X.prog X.w X.K X.mg X.base CX n g fd ps sp) (hr : Room n X.A) (hb : Binds X.K fd ps []) (hx : Passes CX X E) :
    OpR X (compareOp cop) (rCmpIns X.K C sp E) := by
  intro pins s σ H x y v u Q I rx ry h
  obtain ⟨a, dx, fs, ty, rfl, ha, hty, hn, q⟩ := h
  cases (show v = Value.ref a from rx)
  obtain ⟨od, J⟩ := inst_at I ha
  obtain ⟨P, Z, p, _⟩ := kit_of I ry hty
  obtain ⟨mm, hF⟩ := I.fr
  rw [hop]
  exact PySem.W.cmp_K (op := cop) hr.units0 hF I.ok.mod.kin J (Z.ty _ _ I.kIn p) hn m.at_ m.fn (run_two F hr hb hx I rel_ref ry q)
structure IntDeclinesC (op : CmpOp) : Prop where
  ex : ∃ (id : String) (B : Builtin), Slot "int" (cmpInfo op).2.1 id ∧ entryFor table id = some B ∧ ∀ (i : Int) (t : Tok) (x : Addr), argsOk id ⟨[.int i t, .ref x], []⟩ ∧ GivesAt (HasObj x) (B ⟨[.int i t, .ref x], []⟩) (.val .notImplemented)
theorem dec_lt : IntDeclinesC .Lt := ⟨_, _, PySem.F.slot_int_lt, PySem.F.entry_int_lt, fun i t x => ⟨PySem.F.args_int_lt_2 _ _, decl_lt i t x⟩⟩
theorem dec_le : IntDeclinesC .LtE := ⟨_, _, PySem.F.slot_int_le, PySem.F.entry_int_le, fun i t x => ⟨PySem.F.args_int_le_2 _ _, decl_le i t x⟩⟩
theorem dec_gt : IntDeclinesC .Gt := ⟨_, _, PySem.F.slot_int_gt, PySem.F.entry_int_gt, fun i t x => ⟨PySem.F.args_int_gt_2 _ _, decl_gt i t x⟩⟩
theorem dec_ge : IntDeclinesC .GtE := ⟨_, _, PySem.F.slot_int_ge, PySem.F.entry_int_ge, fun i t x => ⟨PySem.F.args_int_ge_2 _ _, decl_ge i t x⟩⟩
theorem dec_eq : IntDeclinesC .Eq := ⟨_, _, PySem.F.slot_int_eq, PySem.F.entry_int_eq, fun i t x => ⟨PySem.F.args_int_eq_2 _ _, decl_eq i t x⟩⟩
theorem op_cmpInt (hop : ∀ a b, compareOp cop a b = richCompare cop a b) (d : IntDeclinesC cop) (o : OwnC X.K C) (m : OwnM X.K C g (cmpInfo cop).2.2) (F : FnOk X.prog X.w X.K X.mg X.base CX n g fd ps sp) (hr : Room n X.A) (hb : Binds X.K fd ps []) (hx : Passes CX X E) :
    OpR X (compareOp cop) (rIntIns C sp E) := by
  intro pins s σ H x y v u Q I rx ry h
  obtain ⟨i, b, dy, gs, rfl, rfl, hb', q⟩ := h
  obtain ⟨t, rfl⟩ := (show ∃ t, v = Value.int i t from rx)
  cases (show u = Value.ref b from ry)
  obtain ⟨od, J⟩ := inst_at I hb'
  obtain ⟨id, B, slot, entry, dd⟩ := d
  rw [hop]
  exact cmp_refl hr.units0 I.kIn J m.at_ m.fn o.notInt slot entry (dd i t b).1 (dd i t b).2 (run_two F hr hb hx I rel_ref rel_int q)
/-- the callee runs one call deeper -/
theorem run_deep {A : Around} {pins : List (Addr × Obj)} {σ : L2.St} {H : Hp} {s : Shared} {Q : VK} {x y : V} {u v : Value} (F : FnOk X.prog X.w X.K X.mg X.base CX n g fd ps sp) (hr : Room n A) (e0 : Env0 X.prog X.w X.K X.mg X.base A X.stack s H) (hb : Binds X.K fd ps []) (hx : Passes CX X E)
    (I : Inv X pins σ H s) (rx : RelV x u) (ry : RelV y v) (h : sp [x, y] H Q E) : wpAny (model X.prog X.w) A (call (.ref g) [u, v]) (EP X pins σ Q) X.xe s := by
  have r2 : Vals [x, y] [u, v] := .cons rx (.cons ry .nil)
  have hl : [u, v].length = ps.length := by rw [← r2.length]; exact F.len _ _ _ _ h
  refine wpAny_call (codeAny_mono (F.run A X.stack s H ⟨[u, v], []⟩ [u, v] [x, y] Q E hr e0 (by have := hb s [u, v] I.kIn (by simpa using hl); simpa using this) r2 h) fun r s' hq => ?_)
  cases r with
  | error e => exact hx pins σ H s e s' I hq
  | ok fl => cases fl with
    | ret w => exact I.after hq
    | next => exact (show False from hq).elim
    | brk => exact (show False from hq).elim
    | cont => exact (show False from hq).elim
/-- x != y by an own == alone -/
def rNeIns (K : PySem.W.Frag) (C : Addr) (sp : Sp) (E : XK) : R2 := fun x y H Q => ∃ a dx fs ty, x = .ref a ∧ H a = some (.ins C dx fs) ∧ TyX K H y ty ∧ PySem.W.notFirst K C ty = true ∧ sp [x, y] H (fun z H' => ∃ k, z = .bl k ∧ Q (.bl (!k)) H') E
def rNeInt (C : Addr) (sp : Sp) (E : XK) : R2 := fun x y H Q => ∃ i b dy gs, x = .int i ∧ y = .ref b ∧ H b = some (.ins C dy gs) ∧ sp [y, x] H (fun z H' => ∃ k, z = .bl k ∧ Q (.bl (!k)) H') E
theorem op_neIns (o : OwnC X.K C) (hn : PySem.W.findIn X.K (.ref C) "__ne__" = some (some (.builtin "object.__ne__"))) (m : OwnM X.K C g "__eq__") (F : FnOk X.prog X.w X.K X.mg X.base CX n g fd ps sp) (hr : Room (n + 1) X.A) (hb : Binds X.K fd ps []) (hx : Passes CX X E) :
    OpR X (compareOp .NotEq) (rNeIns X.K C sp E) := by
  intro pins s σ H x y v u Q I rx ry h
  obtain ⟨a, dx, fs, ty, rfl, ha, hty, hnf, q⟩ := h
  cases (show v = Value.ref a from rx)
  obtain ⟨od, J⟩ := inst_at I ha
  obtain ⟨P, Z, p, _⟩ := kit_of I ry hty
  show wpAny _ _ (richCompare .NotEq _ _) _ _ _
  have dd := run_deep (Q := fun z H' => ∃ k, z = .bl k ∧ Q (.bl (!k)) H') F hr.in1 I.env0.in1 hb hx I rel_ref ry q
  refine ne_own (s := s) (hu_of hr) I.kIn J (Z.ty _ _ I.kIn p) hnf hn o.obj m.at_ m.fn (thn dd fun w s' z => ?_)
  obtain ⟨z', H', I', rz, k, rfl, qz⟩ := z
  exact ⟨k, rz, .bl (!k), H', I', rfl, qz⟩
theorem op_neInt (o : OwnC X.K C) (hn : PySem.W.findIn X.K (.ref C) "__ne__" = some (some (.builtin "object.__ne__"))) (m : OwnM X.K C g "__eq__") (F : FnOk X.prog X.w X.K X.mg X.base CX n g fd ps sp) (hr : Room (n + 1) X.A) (hb : Binds X.K fd ps []) (hx : Passes CX X E) :
    OpR X (compareOp .NotEq) (rNeInt C sp E) := by
  intro pins s σ H x y v u Q I rx ry h
  obtain ⟨i, b, dy, gs, rfl, rfl, hb', q⟩ := h
  obtain ⟨t, rfl⟩ := (show ∃ t, v = Value.int i t from rx)
  cases (show u = Value.ref b from ry)
  obtain ⟨od, J⟩ := inst_at I hb'
  show wpAny _ _ (richCompare .NotEq _ _) _ _ _
  have dd := run_deep (v := .int i t) (Q := fun z H' => ∃ k, z = .bl k ∧ Q (.bl (!k)) H') F hr.in1 I.env0.in1 hb hx I rel_ref rel_int q
  refine ne_refl (s := s) (hu_of hr) I.kIn J o.notInt hn o.obj m.at_ m.fn (thn dd fun w s' z => ?_)
  obtain ⟨z', H', I', rz, k, rfl, qz⟩ := z
  exact ⟨k, rz, .bl (!k), H', I', rfl, qz⟩
/-- -x -/
def rUnIns (C : Addr) (sp : Sp) (E : XK) : V → Hp → VK → Prop := fun x H Q => ∃ a dx fs, x = .ref a ∧ H a = some (.ins C dx fs) ∧ sp [x] H Q E
theorem un_negIns (m : OwnM X.K C g "__neg__") (F : FnOk X.prog X.w X.K X.mg X.base CX n g fd ps sp) (hr : Room n X.A) (hb : Binds X.K fd ps []) (hx : Passes CX X E) : UnR X (unaryOp .USub) (rUnIns C sp E) := by
  intro pins s σ H x v Q I rx h
  obtain ⟨a, dx, fs, rfl, ha, q⟩ := h
  cases (show v = Value.ref a from rx)
  obtain ⟨od, J⟩ := inst_at I ha
  obtain ⟨mm, hF⟩ := I.fr
  exact PySem.W.ksp_neg hF I.ok.mod.kin J m.at_ m.fn (run_fn (us := [.ref a]) (vs := [.ref a]) F hr hb .nil hx I (.cons rfl .nil) (by simpa using q))
/-- // that may be by zero -/
theorem op_fdivX {W : XK} (hc : X.calm = true) (tk : Takes X (fun cls d _ H => W cls d H)) : OpR X (binaryOp .FloorDiv) (fun x y H Q => ∃ i j, x = .int i ∧ y = .int j ∧ ((j ≠ 0 ∧ j.natAbs.log2 < 9000 ∧ Q (.int (i.fdiv j)) H) ∨ (j = 0 ∧ ∀ d, W (.type "ZeroDivisionError") d H))) := by
  intro pins s σ H x y v u Q I rx ry h
  obtain ⟨i, j, rfl, rfl, h⟩ := h
  obtain ⟨t, rfl⟩ := (show ∃ t, v = Value.int i t from rx)
  obtain ⟨t', rfl⟩ := (show ∃ t, u = Value.int j t from ry)
  rcases h with ⟨h0, hl, q⟩ | ⟨rfl, w⟩
  · exact floordiv_int h0 ⟨.int (i.fdiv j), H, I.tok _, ⟨_, rfl⟩, q⟩ (.inl (PyProof.noPylong_of_log2 hl))
  · refine PySem.AutoIntOps.floordiv_0 rfl ?_
    exact ⟨I.ok.hd hc, fun h' tk' e hx => takes_new (t' := tk') tk I hx w⟩
end
end AT

end

section
namespace AT
open PySem PySem.Spec PyProof.Rows L2
section
variable {prog : Program} {w : World} {M : Model} {A : Around} {E : Value → Shared → Prop} {s : Shared} {K : PySem.W.Frag} {x C L f : Addr} {h₀ : Heap} {m : Str → Option Value} {ox : Obj} {od : Option Obj} {nm T : String} {h : Heap} {cd : ClassData}
open PySem.W
/-- no own op= -/
theorem noI {add : Bool} (X : K.In h) (hc : clsIn K C = some cd) (hm : cd.mro = [.ref C, .type "object"]) (h1 : findIn K (.ref C) (dunderI nm) = some none) (h2 : findIn K (.type "object") (dunderI nm) = some none) : Looks M h (fillsInplaceSlot (.ref C) nm add) false := by
  intro A Q E s k q
  have Lm : Looks M h (mroOf (.ref C)) cd.mro := (looks_clsIn X hc).andThen (f := fun cd => pure cd.mro) .now
  have Lm' := Lm.keeps k
  obtain ⟨hh, g, d, tk, os⟩ := s
  have X' : K.In hh := X.keeps k
  have L1 : Looks M hh (typeLookup (.ref C) (dunderI nm)) none := looks_findIn X' h1
  have L2 : Looks M hh (typeLookup (.type "object") (dunderI nm)) none := looks_findIn X' h2
  unfold fillsInplaceSlot
  refine wpAny_bind (Lm'.at ?_)
  rw [hm, List.anyM_cons]
  refine wpAny_bind ?_
  repeat lk
  exact q
/-- x op= y, two instances of one class, by op -/
theorem ibin_same {op : Operator} {y : Addr} {oy : Obj} {od' : Option Obj} {Q : Value → Shared → Prop} (X : K.In s.heap) (I : InstAt s.heap x ox C od) (J : InstAt s.heap y oy C od') (hcd : clsIn K C = some cd) (hm : cd.mro = [.ref C, .type "object"])
    (i1 : findIn K (.ref C) (dunderI op.info.2) = some none) (i2 : findIn K (.type "object") (dunderI op.info.2) = some none)
    (hs : findIn K (.ref C) (PySem.dunder op.info.2) = some (some (.ref f))) (hf : isFn K (.ref f) = true)
    (h : wpAny (model prog w) A (call (.ref f) [.ref x, .ref y]) (PySem.W.CmpBack Q) E s) : wpAny (model prog w) A (inplaceOp op (.ref x) (.ref y)) Q E s := by
  have one := ksp_try X I hs hf h
  obtain ⟨hh, g, d, tt, os⟩ := s
  have L1 : Looks (model prog w) hh (typeOf (.ref x)) (.ref C) := I.type
  have L2 : Looks (model prog w) hh (typeOf (.ref y)) (.ref C) := J.type
  have L3 : Looks (model prog w) hh (fillsNumberSlot (.ref C) op.info.2) true := fills_K X hcd hm hs
  have L4 : Looks (model prog w) hh (fillsInplaceSlot (.ref C) op.info.2 (op == .Add)) false := noI X hcd hm i1 i2
  unfold inplaceOp
  refine wpAny_holding ?_
  refine wpAny_bind (L1.at (wpAny_bind (L4.at ?_)))
  simp only [Bool.false_eq_true, if_false, pure_bind]
  refine wpAny_bind ?_
  unfold binaryOp1
  refine wpAny_bind (L1.at (wpAny_bind (L2.at (wpAny_bind (L3.at ?_)))))
  simp only [beq_self_eq_true, if_true]
  ksp_lk
  refine wpAny_mono one (fun r s' hr' => ?_) fun _ _ e => e
  obtain ⟨v, rfl, hq⟩ := hr'
  ksp_lk
  exact hq
/-- x op= i, i of a built-in type -/
theorem ibin_ty {op : Operator} {b : Value} {fo ro rc : Option Value} {Q : Value → Shared → Prop} (X : K.In s.heap) (I : InstAt s.heap x ox C od) (hb : typeOf b = pure (.type T)) (hcd : clsIn K C = some cd) (hm : cd.mro = [.ref C, .type "object"])
    (i1 : findIn K (.ref C) (dunderI op.info.2) = some none) (i2 : findIn K (.type "object") (dunderI op.info.2) = some none)
    (hs : findIn K (.ref C) (PySem.dunder op.info.2) = some (some (.ref f))) (hf : isFn K (.ref f) = true) (hr : findIn K (.ref C) (dunderR op.info.2) = some rc) (hp : rc = none ∨ ∃ g : Addr, rc = some (.ref g))
    (h1 : findIn K (.type T) (PySem.dunder op.info.2) = some fo) (h2 : findIn K (.type T) (dunderR op.info.2) = some ro) (hsub : subIn K (.type T) (.ref C) = some false)
    (h : wpAny (model prog w) A (call (.ref f) [.ref x, b]) (PySem.W.CmpBack Q) E s) : wpAny (model prog w) A (inplaceOp op (.ref x) b) Q E s := by
  have one := ksp_try X I hs hf h
  obtain ⟨hh, g, d, tt, os⟩ := s
  have L1 : Looks (model prog w) hh (typeOf (.ref x)) (.ref C) := I.type
  have L2 : Looks (model prog w) hh (typeOf b) (.type T) := Looks.of_pure hb
  have L3 : Looks (model prog w) hh (fillsNumberSlot (.ref C) op.info.2) true := fills_K X hcd hm hs
  have L4 : Looks (model prog w) hh (fillsNumberSlot (.type T) op.info.2) ((fo.isSome && !isSeqSlot fo) || (ro.isSome && !isSeqSlot ro)) := ksp_fillsT X h1 h2
  have L5 : Looks (model prog w) hh (isSubtype (.type T) (.ref C)) false := looks_subIn X hsub
  have L6 : Looks (model prog w) hh (numberSlotInPython (.ref C) op.info.2) true := ksp_inPy X hs hr hp
  have L7 : Looks (model prog w) hh (numberSlotInPython (.type T) op.info.2) false := Looks.of_pure rfl
  have L8 : Looks (model prog w) hh (typeLookup (.type T) (dunderR op.info.2)) ro := looks_findIn X h2
  have L9 : Looks (model prog w) hh (fillsInplaceSlot (.ref C) op.info.2 (op == .Add)) false := noI X hcd hm i1 i2
  generalize ((fo.isSome && !isSeqSlot fo) || (ro.isSome && !isSeqSlot ro)) = right at L4
  have hne : (Value.ref C == Value.type T) = false := Bool.eq_false_iff.mpr fun q => by cases beq_iff_eq.mp q
  unfold inplaceOp
  refine wpAny_holding ?_
  refine wpAny_bind (L1.at (wpAny_bind (L9.at ?_)))
  simp only [Bool.false_eq_true, if_false, pure_bind]
  refine wpAny_bind ?_
  unfold binaryOp1
  refine wpAny_bind (L1.at (wpAny_bind (L2.at (wpAny_bind (L3.at ?_)))))
  simp only [hne, Bool.false_eq_true, if_false]
  cases right with
  | false =>
    ksp_lk
    refine wpAny_mono one (fun r s' hr' => ?_) fun _ _ e => e
    obtain ⟨v, rfl, hq⟩ := hr'
    ksp_lk
    exact hq
  | true =>
    ksp_lk
    refine wpAny_mono one (fun r s' hr' => ?_) fun _ _ e => e
    obtain ⟨v, rfl, hq⟩ := hr'
    ksp_lk
    exact hq
end
/-- names of the operators' methods -/
theorem dn_add : PySem.dunder (Operator.info .Add).2 = "__add__" := by decide +kernel
theorem dn_sub : PySem.dunder (Operator.info .Sub).2 = "__sub__" := by decide +kernel
theorem dn_mul : PySem.dunder (Operator.info .Mult).2 = "__mul__" := by decide +kernel
theorem dn_fdiv : PySem.dunder (Operator.info .FloorDiv).2 = "__floordiv__" := by decide +kernel
theorem dn_mod : PySem.dunder (Operator.info .Mod).2 = "__mod__" := by decide +kernel
theorem dn_pow : PySem.dunder (Operator.info .Pow).2 = "__pow__" := by decide +kernel
theorem dr_add : dunderR (Operator.info .Add).2 = "__radd__" := by decide +kernel
theorem dr_sub : dunderR (Operator.info .Sub).2 = "__rsub__" := by decide +kernel
theorem dr_mul : dunderR (Operator.info .Mult).2 = "__rmul__" := by decide +kernel
theorem dr_fdiv : dunderR (Operator.info .FloorDiv).2 = "__rfloordiv__" := by decide +kernel
theorem dr_mod : dunderR (Operator.info .Mod).2 = "__rmod__" := by decide +kernel
theorem dr_pow : dunderR (Operator.info .Pow).2 = "__rpow__" := by decide +kernel
theorem di_add : dunderI (Operator.info .Add).2 = "__iadd__" := by decide +kernel
theorem di_sub : dunderI (Operator.info .Sub).2 = "__isub__" := by decide +kernel
/-- the method, and how int's own type is looked at -/
structure IntOp (K : PySem.W.Frag) (C : Addr) (op : Operator) (l r : Addr) : Prop where
  ml : OwnM K C l (PySem.dunder op.info.2)
  mr : PySem.W.findIn K (.ref C) (dunderR op.info.2) = some none ∨ OwnM K C r (dunderR op.info.2)
  h1 : ∃ fo, PySem.W.findIn K (.type "int") (PySem.dunder op.info.2) = some fo
  h2 : ∃ ro, PySem.W.findIn K (.type "int") (dunderR op.info.2) = some ro
  hs : PySem.W.subIn K (.type "int") (.ref C) = some false
section
variable {X : Cx} {CX : CXT} {C l r : Addr} {fd : FuncData} {ps : List Str} {n : Nat} {sp : Sp} {E : XK} {op : Operator} {cd : ClassData}
theorem IntOp.rc {K : PySem.W.Frag} (o : IntOp K C op l r) : ∃ rc, PySem.W.findIn K (.ref C) (dunderR op.info.2) = some rc ∧ (rc = none ∨ ∃ q : Addr, rc = some (.ref q)) := by
  rcases o.mr with h | h
  · exact ⟨_, h, .inl rfl⟩
  · exact ⟨_, h.at_, .inr ⟨_, rfl⟩⟩
/-- x op y, x an instance, y one too or an int -/
def rIns (C : Addr) (sp : Sp) (E : XK) : R2 := fun x y H Q => ∃ a dx fs, x = .ref a ∧ H a = some (.ins C dx fs) ∧ ((∃ i, y = .int i) ∨ ∃ b dy gs, y = .ref b ∧ H b = some (.ins C dy gs)) ∧ sp [x, y] H Q E
theorem op_ins (o : OwnC X.K C) (i : IntOp X.K C op l r) (F : FnOk X.prog X.w X.K X.mg X.base CX n l fd ps sp) (hr : Room n X.A) (hb : Binds X.K fd ps []) (hx : Passes CX X E) : OpR X (binaryOp op) (rIns C sp E) := by
  intro pins s σ H x y v u Q I rx ry h
  obtain ⟨a, dx, fs, rfl, ha, hy, q⟩ := h
  obtain ⟨rc, e1, e2⟩ := i.rc
  obtain ⟨fo, h1⟩ := i.h1
  obtain ⟨ro, h2⟩ := i.h2
  rcases hy with ⟨j, rfl⟩ | ⟨b, dy, gs, rfl, hb'⟩
  · exact op_insInt o i.ml e1 e2 h1 h2 i.hs F hr hb hx pins s σ H _ _ v u Q I rx ry ⟨a, dx, fs, j, rfl, rfl, ha, q⟩
  · exact op_insIns o i.ml F hr hb hx pins s σ H _ _ v u Q I rx ry ⟨a, dx, fs, b, dy, gs, rfl, rfl, ha, hb', q⟩
structure MroC (K : PySem.W.Frag) (C : Addr) : Prop where
  at_ : ∃ cd, PySem.W.clsIn K C = some cd ∧ cd.mro = [.ref C, .type "object"]
theorem iop_ins (o : OwnC X.K C) (mr : MroC X.K C) (i1 : PySem.W.findIn X.K (.ref C) (dunderI op.info.2) = some none) (i2 : PySem.W.findIn X.K (.type "object") (dunderI op.info.2) = some none) (i : IntOp X.K C op l r)
    (F : FnOk X.prog X.w X.K X.mg X.base CX n l fd ps sp) (hr : Room n X.A) (hb : Binds X.K fd ps []) (hx : Passes CX X E) : PIp X op (rIns C sp E) := by
  intro pins s σ H x y v u Q I rx ry h
  obtain ⟨a, dx, fs, rfl, ha, hy, q⟩ := h
  obtain ⟨rc, e1, e2⟩ := i.rc
  obtain ⟨fo, h1⟩ := i.h1
  obtain ⟨ro, h2⟩ := i.h2
  obtain ⟨cd, c1, c2⟩ := mr.at_
  cases (show v = Value.ref a from rx)
  obtain ⟨od, J⟩ := inst_at I ha
  rcases hy with ⟨j, rfl⟩ | ⟨b, dy, gs, rfl, hb'⟩
  · obtain ⟨t, rfl⟩ := (show ∃ t, u = Value.int j t from ry)
    exact ibin_ty I.kIn J rfl c1 c2 i1 i2 i.ml.at_ i.ml.fn e1 e2 h1 h2 i.hs (run_two F hr hb hx I rel_ref rel_int q)
  · cases (show u = Value.ref b from ry)
    obtain ⟨od', J'⟩ := inst_at I hb'
    exact ibin_same I.kIn J J' c1 c2 i1 i2 i.ml.at_ i.ml.fn (run_two F hr hb hx I rel_ref rel_ref q)
end
end AT

end

section
namespace AT
open PySem PySem.Spec PyProof.Rows L2
section
variable {X : Cx} {e : Expr} {es : List Expr} {ta : TA} {p1 p2 pos : Pos} {B : Addr} {mc : Value} {x : Str}
/-- B.__init__(self, ..), B an own class over ValueError without an __init__ of its own -/
theorem pe_clsinit {pl : Sem Bool} (hg : Gl X x) (hm : X.mg x = some (.ref B)) (r : ClX.CRead X.K B mc) (hv : PySem.W.findCls X.K (.ref B) mc "__init__" = some (.val (.builtin "ValueError.__init__"))) (ha : PA X (e :: es) ta)
    (hd : (x == ("__debug__" : Str)) = false := by decide)
    (hcall : eval (.Call (.Attribute (.Name x p1) "__init__" p2) (e :: es) [] pos) X.env = (eval (.Name x p1) X.env >>= fun ov => standAt p2.atName >>= fun _ => holding [ov] (getMethod ov "__init__" pl) >>= fun q =>
      callWith pos q.1 q.2 (backTo pos (starEach (e :: es) X.env)) (backToKw pos (keywordEach [] X.env))) := by rfl)
    (hst : starEach (e :: es) X.env = (false, eval e X.env) :: starEach es X.env := by rfl) (hnp : (backTo pos (starEach es X.env)).any (·.1) = false := by rfl) :
    PE X (.Call (.Attribute (.Name x p1) "__init__" p2) (e :: es) [] pos) (tVeI X.K ta) := by
  constructor
  intro pins s σ H Q I h
  refine PySem.W.methodCall_KW (ld_glob I hg hm ?_ hd) hcall
  refine PySem.W.method_cls I.kIn r.ga (PySem.W.cls_value I.kIn r.rd hv rfl ?_)
  show wpAny _ _ (callWith pos (Value.builtin "ValueError.__init__") [] (backTo pos (starEach (e :: es) X.env)) []) _ _ _
  refine PyProof.Rows.callWith_method1 (thn (ha.run pos pins _ σ H _ (I.tok _) h) fun us s1 q1 => ?_) hst hnp
  obtain ⟨vs, H1, I1, r1, a, C, ws, rfl, hl, T, ea, q⟩ := q1
  cases r1 with
  | @cons _ u0 _ ur ra rw' =>
    obtain rfl : u0 = Value.ref a := ra
    refine oinit_ok T I1 ea ?_ fun s' J => ⟨.non, H1, J, rfl, q⟩
    rw [← Paired.length rw', sizeLine_eq]
    omega
end
end AT

end

section
/-! Steps of a reading, one by one. -/
namespace AT
open PySem PySem.Spec PyProof.Rows L2
abbrev rNewL (xs : List V) : Hp → VK → Prop := fun H Q => xs.length ≤ sizeLine ∧ ∀ p, H p = none → Q (.ref p) (upd H p (.lst xs))
abbrev rNewT (xs : List V) : Hp → VK → Prop := fun H Q => xs.length ≤ sizeLine ∧ ∀ p, H p = none → Q (.ref p) (upd H p (.tup xs))
/-- all that stood stands -/
abbrev Ext (H H' : Hp) : Prop := Same H H'
theorem Ext.new {H : Hp} {p : Addr} {o : HO} (h : H p = none) : Ext H (upd H p o) := fun b u e => by rw [upd_ne (ne_of_none e h)]; exact e
theorem Ext.mut {H H' : Hp} {p : Addr} {o : HO} (e : Ext H H') (h : H p = none) : Ext H (upd H' p o) := fun b u z => by rw [upd_ne (ne_of_none z h)]; exact e b u z
theorem Ext.t {H H1 H2 : Hp} (a : Ext H H1) (b : Ext H1 H2) : Ext H H2 := Same.trans a b
theorem Ext.fresh {H H' : Hp} (e : Ext H H') {p : Addr} (h : H' p = none) : H p = none := Same.free e h
theorem n_lst {xs : List V} {H : Hp} {Q : VK} (z : xs.length ≤ 100000) (k : ∀ p H', H p = none → Ext H H' → H' p = some (.lst xs) → Q (.ref p) H') : rNewL xs H Q := ⟨Nat.le_trans z (by decide), fun p np => k p _ np (Ext.new np) upd_same⟩
theorem n_tup {xs : List V} {H : Hp} {Q : VK} (z : xs.length ≤ 100000) (k : ∀ p H', H p = none → Ext H H' → H' p = some (.tup xs) → Q (.ref p) H') : rNewT xs H Q := ⟨Nat.le_trans z (by decide), fun p np => k p _ np (Ext.new np) upd_same⟩
end AT
namespace AT
open PySem PySem.Spec PyProof.Rows L2
/-- x.f of an instance; x.f = y -/
def rFld (K : PySem.W.Frag) (f : Str) : V → Hp → VK → Prop := fun x H Q => ∃ a C dx fs v, x = .ref a ∧ H a = some (.ins C dx fs) ∧ Cls K C ∧ NoAttr K C f ∧ fs.lookup f = some v ∧ Q v H
def rSFld (K : PySem.W.Frag) (f : Str) : V → V → Hp → (Hp → Prop) → Prop := fun x y H Q => ∃ a C dx fs, x = .ref a ∧ H a = some (.ins C dx fs) ∧ Cls K C ∧ NoAttr K C f ∧ fs.length < 1000 ∧ Q (upd H a (.ins C dx (putF f y fs)))
end AT
namespace AT
open PySem PySem.Spec PyProof.Rows L2
section
variable {K : PySem.W.Frag} {σ : L2.St} {H : Hp} {Q : VK} {tl : TE} {ta : TA} {R : It → Hp → Prop} {a : Addr} {xs : List V} {j i : Int} {x c : V} {t u : Value} {b : Bool} {g : TGs} {tg : TG} {QS : L2.St → Hp → Prop}
theorem w_iList (h : tl σ H fun x H1 => ∃ a, x = .ref a ∧ (∃ xs, SqL K H1 a xs) ∧ R (Itl K a) H1) : iList K tl σ H R := h
theorem w_itL (l : SqL K H a xs) (h : R (Itl K a) H) : ∃ a', V.ref a = .ref a' ∧ (∃ xs, SqL K H a' xs) ∧ R (Itl K a') H := ⟨a, rfl, ⟨xs, l⟩, h⟩
theorem w_iTup (h : tl σ H fun x H1 => ∃ a, x = .ref a ∧ (∃ xs, SqT K H1 a xs) ∧ R (Itt K a) H1) : iTup K tl σ H R := h
theorem w_itT (l : SqT K H a xs) (h : R (Itt K a) H) : ∃ a', V.ref a = .ref a' ∧ (∃ xs, SqT K H a' xs) ∧ R (Itt K a') H := ⟨a, rfl, ⟨xs, l⟩, h⟩
theorem w_iRng1 (h : ta σ H fun vs H1 => ∃ j : Int, vs = [.int j] ∧ -(2 ^ 62) ≤ j ∧ j < 2 ^ 62 ∧ R (Itr 0 j.toNat) H1) : iRng1 ta σ H R := h
theorem w_itR1 (h1 : -(2 ^ 62) ≤ j) (h2 : j < 2 ^ 62) (h : R (Itr 0 j.toNat) H) : ∃ j' : Int, [V.int j] = [.int j'] ∧ -(2 ^ 62) ≤ j' ∧ j' < 2 ^ 62 ∧ R (Itr 0 j'.toNat) H := ⟨j, rfl, h1, h2, h⟩
theorem w_gname {k : Nat} {v : V} (h : QS (σ.set k (some v)) H) : gName k v σ H QS := h
/-- isinstance -/
theorem w_isi (k : ClsV c u) (ty : TyX K H x t) (e : PySem.W.kitOne K t u = some b) (h : Q (.bl b) H) : rIsi K [x, c] H Q := ⟨x, c, t, u, b, rfl, k, ty, e, h⟩
theorem w_intInt (h : Q (.bl true) H) : rIsi K [.int i, .ty "int"] H Q := w_isi (.ty "int") (.base (.int i)) (kit_ty (by decide +kernel)) h
theorem w_intBool (h : Q (.bl false) H) : rIsi K [.int i, .ty "bool"] H Q := w_isi (.ty "bool") (.base (.int i)) (kit_ty (by decide +kernel)) h
theorem w_boolBool {k : Bool} (h : Q (.bl true) H) : rIsi K [.bl k, .ty "bool"] H Q := w_isi (.ty "bool") (.base (.bl k)) (kit_ty (by decide +kernel)) h
theorem kit_own {C : Addr} (h1 : PySem.W.isClsIn K C = true) (h2 : PySem.W.typeIn K (.ref C) = some (.type "type")) (h3 : PySem.W.subIn K t (.ref C) = some b) (hn : (t == .ref C) = false) : PySem.W.kitOne K t (.ref C) = some b := by
  have h1' : (PySem.W.clsIn K C).isSome = true := h1
  unfold PySem.W.kitOne
  rw [hn, if_neg (by decide)]
  simp only [PySem.W.kitCls]
  rw [h1', h2, if_pos (by simp)]
  exact h3
theorem kit_insTy {C : Addr} {T : String} (h3 : PySem.W.subIn K (.ref C) (.type T) = some b) (hm : PySem.W.kitMeta T = true) : PySem.W.kitOne K (.ref C) (.type T) = some b := by
  unfold PySem.W.kitOne
  rw [if_neg (by simp)]
  simp only [PySem.W.kitCls]
  rw [if_pos hm]
  exact h3
theorem kit_self {C : Addr} : PySem.W.kitOne K (.ref C) (.ref C) = some true := by
  unfold PySem.W.kitOne
  rw [if_pos (by simp)]
end
end AT
namespace AT
open PySem PySem.Spec PyProof.Rows L2
/-- a while by what holds ahead of each turn and a measure -/
theorem w_while {c : TT} {tb : TS} {D : Ends} {σ : L2.St} {H : Hp} (Pv : L2.St → Hp → Prop) (μ : L2.St → Hp → Nat) (h0 : Pv σ H)
    (hs : ∀ σ H, Pv σ H → c σ H fun b H1 => if b = true then ∃ N : L2.St → Hp → Prop, (∀ σ' H', N σ' H' → ∃ m', m' < μ σ H ∧ m' = μ σ' H' ∧ Pv σ' H') ∧ tb { D with nx := N, ct := N, bk := D.nx } σ H1 else D.nx σ H1) : tWhile c tb D σ H := by
  refine ⟨fun m σ H => m = μ σ H ∧ Pv σ H, ⟨_, rfl, h0⟩, ?_⟩
  rintro m σ H ⟨rfl, p⟩
  exact hs σ H p
theorem w_wturn {Pv : L2.St → Hp → Prop} {μ : L2.St → Hp → Nat} {m : Nat} {D : Ends} {tb : TS} {σ : L2.St} {H : Hp}
    (h : tb { D with nx := fun σ' H' => μ σ' H' < m ∧ Pv σ' H', ct := fun σ' H' => μ σ' H' < m ∧ Pv σ' H', bk := D.nx } σ H) :
    ∃ N : L2.St → Hp → Prop, (∀ σ' H', N σ' H' → ∃ m', m' < m ∧ m' = μ σ' H' ∧ Pv σ' H') ∧ tb { D with nx := N, ct := N, bk := D.nx } σ H := ⟨_, fun _ _ z => ⟨_, z.1, rfl, z.2⟩, h⟩
end AT
namespace AT
open PySem PySem.Spec PyProof.Rows L2
def rAbs : List V → Hp → VK → Prop := fun xs H Q => ∃ i, xs = [.int i] ∧ Q (.int (if i < 0 then -i else i)) H
theorem call_absR {X : Cx} : CallR X (.builtin "abs") rAbs := call_abs
def rInt1 : List V → Hp → VK → Prop := fun xs H Q => (∃ i, xs = [.int i] ∧ Q (.int i) H) ∨ ∃ k, xs = [.bl k] ∧ Q (.int (if k then 1 else 0)) H
theorem call_intR {X : Cx} : CallR X (.type "int") rInt1 := call_int1
def rLenS (K : PySem.W.Frag) : List V → Hp → VK → Prop := fun xs H Q => ∃ p ys, xs = [.ref p] ∧ (SqL K H p ys ∨ SqT K H p ys) ∧ Q (.int ys.length) H
theorem call_lenR {X : Cx} : CallR X (.builtin "len") (rLenS X.K) := call_len_seq
section
variable {K : PySem.W.Frag} {H : Hp} {Q : VK} {a : Int} {p : Addr} {xs : List V} {v x : V} {i : Int}
theorem w_abs (h : Q (.int (a.natAbs : Int)) H) : rAbs [.int a] H Q := ⟨a, rfl, by
  have e : (if a < 0 then -a else a) = (a.natAbs : Int) := by split <;> omega
  rw [e]; exact h⟩
theorem w_int (h : Q (.int a) H) : rInt1 [.int a] H Q := .inl ⟨a, rfl, h⟩
theorem w_len (l : SqL K H p xs) (h : Q (.int xs.length) H) : rLenS K [.ref p] H Q := ⟨p, xs, rfl, .inl l, h⟩
theorem w_lenT (l : SqT K H p xs) (h : Q (.int xs.length) H) : rLenS K [.ref p] H Q := ⟨p, xs, rfl, .inr l, h⟩
theorem w_ixL (l : SqL K H p xs) (e : atI xs i = some v) (h : Q v H) : rIxL K (.ref p) (.int i) H Q := ⟨p, xs, i, v, rfl, rfl, l, e, h⟩
theorem w_ixT (l : SqT K H p xs) (e : atI xs i = some v) (h : Q v H) : rIxT K (.ref p) (.int i) H Q := ⟨p, xs, i, v, rfl, rfl, l, e, h⟩
theorem w_app (l : H p = some (.lst xs)) (z : xs.length < 100000) (h : Q .non (upd H p (.lst (xs ++ [x])))) : rAppend (.ref p) [x] H Q := ⟨p, xs, x, rfl, rfl, l, Nat.lt_of_lt_of_le z (by decide), h⟩
end
end AT
namespace AT
open PySem PySem.Spec PyProof.Rows L2
/-- floor division by any divisor below 2 ^ 9000 but 0 -/
theorem op_fdivG {X : Cx} : OpR X (binaryOp .FloorDiv) (rI (fun _ j => j ≠ 0 ∧ j.natAbs.log2 < 9000) fun i j => .int (i.fdiv j)) := opI fun _ _ _ _ _ _ _ hc q => floordiv_int hc.1 q (.inl (PyProof.noPylong_of_log2 hc.2))
end AT
namespace AT
open PySem PySem.Spec PyProof.Rows L2
section
variable {K : PySem.W.Frag} {σ : L2.St} {H : Hp} {Q : VK} {D : Ends} {te ta tb : TE} {t u : TS} {c d : TT} {v x y : V} {i j : Nat} {r : R2} {QB : Bool → Hp → Prop} {QA : List V → Hp → Prop} {tr : TA} {tl : TA}
theorem w_seq (h : t { D with nx := u D } σ H) : tSeq t u D σ H := h
theorem w_next (h : D.nx σ H) : tNext D σ H := h
theorem w_if (h : c σ H fun b H1 => if b = true then t D σ H1 else u D σ H1) : tIfS c t u D σ H := h
theorem w_set (h : te σ H fun x H1 => D.nx (σ.set i (some x)) H1) : tAsg te (gName i) D σ H := h
theorem w_par (h : tr σ H fun vs H1 => ∃ v w, vs = [v, w] ∧ D.nx ((σ.set i (some v)).set j (some w)) H1) : tPar i j tr D σ H := h
theorem w_two {P : V → V → Prop} (h : P x y) : ∃ v w, [x, y] = [v, w] ∧ P v w := ⟨x, y, rfl, h⟩
theorem w_drop (h : te σ H fun _ H1 => D.nx σ H1) : tDrop te D σ H := h
theorem w_ret (h : te σ H D.rt) : tRet te D σ H := h
theorem w_retN (h : D.rt .non H) : tRetN D σ H := h
theorem w_var (e : σ[i]? = some (some v)) (h : Q v H) : tVar i σ H Q := ⟨v, e, h⟩
theorem w_aug {ti : TIp} (e : σ[i]? = some (some x)) (h : te σ H fun y H1 => ti x y H1 fun z H2 => D.nx (σ.set i (some z)) H2) : tAug i te ti D σ H := ⟨x, e, h⟩
theorem w_c (h : Q v H) : tC v σ H Q := h
theorem w_test (h : te σ H fun x H' => ∃ k, x = .bl k ∧ QB k H') : tTest te σ H QB := h
theorem w_B (h : te σ H fun x H' => ∃ k, x = .bl k ∧ QB k H') : tB te σ H QB := h
theorem w_bl {k : Bool} (h : QB k H) : ∃ k', V.bl k = .bl k' ∧ QB k' H := ⟨k, rfl, h⟩
theorem w_op (h : ta σ H fun x H1 => tb σ H1 fun y H2 => r x y H2 Q) : tOp r ta tb σ H Q := h
theorem w_un {ru : V → Hp → VK → Prop} (h : ta σ H fun x H1 => ru x H1 Q) : tUn ru ta σ H Q := h
theorem w_rU {g : Int → V} {a : Int} (h : Q (g a) H) : rU g (.int a) H Q := ⟨a, rfl, h⟩
theorem w_rI0 {g : Int → Int → V} {a b : Int} (h : Q (g a b) H) : rI0 g (.int a) (.int b) H Q := ⟨a, b, rfl, rfl, h⟩
theorem w_rI {C : Int → Int → Prop} {g : Int → Int → V} {a b : Int} (hc : C a b) (h : Q (g a b) H) : rI C g (.int a) (.int b) H Q := ⟨a, b, rfl, rfl, hc, h⟩
theorem w_pow {g : Int → Int → V} {a b : Int} (c : 0 ≤ b ∧ b ≤ 1000000 ∧ a.natAbs < 2 ^ 64) (h : Q (g a b) H) : rI CPow g (.int a) (.int b) H Q := ⟨a, b, rfl, rfl, c, h⟩
theorem w_mod {g : Int → Int → V} {a b : Int} (c : 0 < b) (h : Q (g a b) H) : rI (fun _ j => 0 < j) g (.int a) (.int b) H Q := ⟨a, b, rfl, rfl, c, h⟩
theorem w_eqI {a b : Int} (h : Q (.bl (decide (a = b))) H) : rEq (.int a) (.int b) H Q := ⟨rfl, by
  have e : decide (V.int a = V.int b) = decide (a = b) := by rw [dec_int, Bool.eq_iff_iff, beq_iff_eq, decide_eq_true_iff]
  rw [e]
  exact h⟩
theorem w_neI {a b : Int} (h : Q (.bl (!decide (a = b))) H) : rNe (.int a) (.int b) H Q := ⟨rfl, by
  have e : decide (V.int a = V.int b) = decide (a = b) := by rw [dec_int, Bool.eq_iff_iff, beq_iff_eq, decide_eq_true_iff]
  rw [e]
  exact h⟩
theorem w_chain {r' : R2} {tc : TE} (h : ta σ H fun x H1 => tb σ H1 fun y H2 => r x y H2 fun z H3 => ∃ k, z = .bl k ∧ (if k = true then tc σ H3 fun w' H4 => r' y w' H4 Q else Q (.bl false) H3)) : tChain r r' ta tb tc σ H Q := h
theorem w_blV {k : Bool} {P : Bool → Prop} (h : P k) : ∃ k', V.bl k = .bl k' ∧ P k' := ⟨k, rfl, h⟩
theorem w_and (h : c σ H fun b H1 => if b = true then d σ H1 QB else QB false H1) : tAnd c d σ H QB := h
theorem w_or (h : c σ H fun b H1 => if b = true then QB true H1 else d σ H1 QB) : tOr c d σ H QB := h
theorem w_not (h : c σ H fun b H1 => QB (!b) H1) : tNot c σ H QB := h
theorem w_andV (h : ta σ H fun x H1 => ∃ k, x = .bl k ∧ if k = true then tb σ H1 Q else Q (.bl false) H1) : tAndV ta tb σ H Q := h
theorem w_orV (h : ta σ H fun x H1 => ∃ k, x = .bl k ∧ if k = true then Q (.bl true) H1 else tb σ H1 Q) : tOrV ta tb σ H Q := h
theorem w_notV (h : ta σ H fun x H1 => ∃ k, x = .bl k ∧ Q (.bl (!k)) H1) : tNotV ta σ H Q := h
theorem w_ifE (h : c σ H fun b H1 => if b = true then ta σ H1 Q else tb σ H1 Q) : tIf c ta tb σ H Q := h
theorem w_nil (h : QA [] H) : tNil σ H QA := h
theorem w_cons (h : te σ H fun x H1 => tl σ H1 fun xs H2 => QA (x :: xs) H2) : tCons te tl σ H QA := h
theorem w_call {sp : Sp} {dvs : List V} {E : XK} (h : tr σ H fun vs H1 => sp (vs ++ dvs) H1 Q E) : tCall sp dvs E tr σ H Q := h
theorem w_callS {sp : Sp} {E : L2.St → XK} (h : tr σ H fun vs H1 => sp vs H1 Q (E σ)) : tCallS sp E tr σ H Q := h
theorem w_cb {rc : List V → Hp → VK → Prop} (h : tr σ H fun vs H1 => rc vs H1 Q) : tCB rc tr σ H Q := h
theorem w_fld {f : Str} (h : ta σ H fun x H1 => rFld K f x H1 Q) : tFld K ta f σ H Q := h
theorem w_sfld {f : Str} (h : tb σ H fun y H1 => ta σ H1 fun x H2 => rSFld K f x y H2 (D.nx σ)) : sFld K ta tb f D σ H := h
theorem w_lst (h : tr σ H fun xs H1 => rNewL xs H1 Q) : tLst tr σ H Q := h
theorem w_tup (h : tr σ H fun xs H1 => rNewT xs H1 Q) : tTup tr σ H Q := h
theorem w_bm {T : String} {rm : V → List V → Hp → VK → Prop} (h : ta σ H fun x H1 => tyV K T x H1 ∧ tr σ H1 fun xs H2 => rm x xs H2 Q) : tBM K T rm ta tr σ H Q := h
theorem w_for {wi : TI} {g : TG} (h : wi σ H fun J H1 => ∃ W : Nat → Nat → L2.St → Hp → Prop, (∃ m, W 0 m σ H1) ∧ ∀ i m σ H, W i m σ H →
  (J.stop i H ∧ D.nx σ H) ∨ (J.go i H ∧ ∃ N : L2.St → Hp → Prop, (∀ σ' H', N σ' H' → ∃ m', m' < m ∧ W (i + 1) m' σ' H') ∧ ∀ x H', J.yld i H x H' → g x σ H' fun σ2 H2 => t { D with nx := N, ct := N, bk := D.nx } σ2 H2)) : tFor wi g t D σ H := h
end
section
variable {p q : Prop} [Decidable p] {A B : Prop} {b : Bool}
theorem i_dec (h1 : p → A) (h2 : ¬ p → B) : if decide p = true then A else B := by
  by_cases hp : p
  · rw [decide_eq_true hp]; exact h1 hp
  · rw [decide_eq_false hp]; exact h2 hp
theorem i_ndec (h1 : p → B) (h2 : ¬ p → A) : if (!decide p) = true then A else B := by
  by_cases hp : p
  · rw [decide_eq_true hp]; exact h1 hp
  · rw [decide_eq_false hp]; exact h2 hp
theorem i_yes (hp : b = true) (h : A) : if b = true then A else B := by rw [hp]; exact h
theorem i_no (hp : b = false) (h : B) : if b = true then A else B := by rw [hp]; exact h
end
end AT
namespace AT
open PySem PySem.Spec PyProof.Rows L2
theorem w_mulW {H : Hp} {Q : VK} {i j : Int} {m n : Nat} (h1 : i.natAbs < 2 ^ m) (h2 : j.natAbs < 2 ^ n) (h0 : 0 < m) (h3 : 0 < n) (h4 : m + n ≤ 1000000) (k : Q (.int (i * j)) H) : rI CMulW (fun i j => .int (i * j)) (.int i) (.int j) H Q :=
  ⟨i, j, rfl, rfl, wide_mul h1 h2 h0 h3 h4, k⟩
end AT
namespace L2
open PySem PySem.Spec PyProof.Rows
theorem Same.seqT {K : PySem.W.Frag} {H H' : Hp} {a : Addr} {xs : List V} (e : Same H H') (h : SqT K H a xs) : SqT K H' a xs := by
  rcases h with (h | ⟨o, h⟩) | h
  · exact .inl (.inl (e _ _ h))
  · exact .inl (.inr ⟨o, e _ _ h⟩)
  · exact .inr h
end L2

end

section
/-! Making an object, methods and operators in a try: what is raised is wished for at the slots as they stand. -/
namespace AT
open PySem PySem.Spec PyProof.Rows L2
/-- C(e, ..) in a try -/
def rMakeS (C : Addr) (sp : Sp) (dvs : List V) (E : XK) : List V → Hp → VK → Prop := fun vs H1 Q => ∀ x dx, H1 x = none → H1 dx = none → dx ≠ x →
  sp (.ref x :: (vs ++ dvs)) (upd (upd H1 dx (.own x)) x (.ins C dx [])) (fun v H2 => v = .non ∧ Q (.ref x) H2) E
def tMakeS (C : Addr) (sp : Sp) (dvs : List V) (E : L2.St → XK) (t : TA) : TE := fun σ H Q => t σ H fun vs H1 => rMakeS C sp dvs (E σ) vs H1 Q
section
variable {X : Cx} {CX : CXT} {k : Nat} {f C : Addr} {fd : FuncData} {ps : List Str} {sp : Sp} {E : L2.St → XK} {x : Str} {p pos : Pos} {e : Expr} {es : List Expr} {t : TA} {dvs : List V} {ds : List Value}
theorem run_makeS {pins : List (Addr × Obj)} {σ : L2.St} {H : Hp} {s : Shared} {Q : VK} {us : List Value} {vs : List V} (M : Mk X.K C f) (F : FnOk X.prog X.w X.K X.mg X.base CX k f fd ps sp) (hr : Room (k + 1) X.A) (hb : Binds X.K fd ps ds) (hd : Vals dvs ds)
    (hx : PassesAt CX X σ (E σ)) (I : Inv X pins σ H s) (r : Vals vs us) (h : rMakeS C sp dvs (E σ) vs H Q) : wpAny (model X.prog X.w) X.A (call (.ref C) us) (EP X pins σ Q) X.xe s := by
  have hq := h (s.heap.objs.size + 1) s.heap.objs.size (I.hok.fresh (Nat.le_succ _)) (I.hok.fresh (Nat.le_refl _)) (Nat.ne_of_lt (Nat.lt_succ_self _))
  have J := Inv.made (C := C) I
  have r2 : Vals (V.ref (s.heap.objs.size + 1) :: (vs ++ dvs)) (Value.ref (s.heap.objs.size + 1) :: (us ++ ds)) := Paired.cons rfl (Vals.append r hd)
  have hl : (Value.ref (s.heap.objs.size + 1) :: us ++ ds).length = ps.length := (Vals.length r2).symm.trans (F.len _ _ _ _ hq)
  have bb := hb _ (Value.ref (s.heap.objs.size + 1) :: us) J.kIn hl
  refine wpAny_call (make_map (f := f) I.kIn M.makes M.init (beq_iff_eq.mp M.fn) (codeAny_mono (F.run _ X.stack _ _ ⟨Value.ref (s.heap.objs.size + 1) :: us, []⟩ (Value.ref (s.heap.objs.size + 1) :: (us ++ ds)) _ _ (E σ)
    (hr.make C us []) (J.env0.make C us []) bb r2 hq) fun q s1 z => ?_))
  cases q with
  | error er => exact hx pins _ _ er s1 J z
  | ok fl =>
    cases fl with
    | ret u =>
      obtain ⟨v, H2, I2, rv, ev, q2⟩ := J.after z
      subst ev
      exact ⟨rv, V.ref (s.heap.objs.size + 1), H2, I2, rfl, q2⟩
    | next => exact (show False from z).elim
    | brk => exact (show False from z).elim
    | cont => exact (show False from z).elim
theorem pe_makeS (M : Mk X.K C f) (F : FnOk X.prog X.w X.K X.mg X.base CX k f fd ps sp) (hr : Room (k + 1) X.A) (hg : Gl X x) (hm : X.mg x = some (.ref C)) (hb : Binds X.K fd ps ds) (hd : Vals dvs ds) (hx : ∀ σ, PassesAt CX X σ (E σ)) (ha : PA X (e :: es) t)
    (hdb : (x == ("__debug__" : Str)) = false := by decide) (hst : starEach (e :: es) X.env = (false, eval e X.env) :: starEach es X.env := by rfl) (hnp : (backTo pos (starEach es X.env)).any (·.1) = false := by rfl) :
    PE X (.Call (.Name x p) (e :: es) [] pos) (tMakeS C sp dvs E t) := by
  constructor
  intro pins s σ H Q I h
  refine wpAny_Call_Name_kw (ld_glob I hg hm ?_ hdb)
  refine PySem.W.callWith_K (h₀ := X.base) I.ok.mod.kin M.kp (thn (ha.run pos pins s σ H _ I h) fun us s1 q1 => ?_) hst hnp
  obtain ⟨vs, H1, I1, r, q⟩ := q1
  exact ⟨I1.kIn, run_makeS M F hr hb hd (hx σ) I1 r q⟩
/-- C(e, ..) with the made part named -/
theorem pe_makeR {E1 : XK} (M : Mk X.K C f) (F : FnOk X.prog X.w X.K X.mg X.base CX k f fd ps sp) (hr : Room (k + 1) X.A) (hg : Gl X x) (hm : X.mg x = some (.ref C)) (hb : Binds X.K fd ps ds) (hd : Vals dvs ds) (hx : Passes CX X E1) (ha : PA X (e :: es) t)
    (hdb : (x == ("__debug__" : Str)) = false := by decide) (hst : starEach (e :: es) X.env = (false, eval e X.env) :: starEach es X.env := by rfl) (hnp : (backTo pos (starEach es X.env)).any (·.1) = false := by rfl) :
    PE X (.Call (.Name x p) (e :: es) [] pos) (tMakeS C sp dvs (fun _ => E1) t) := pe_makeS M F hr hg hm hb hd (fun σ pins H s e s' I c => hx pins σ H s e s' I c) ha hdb hst hnp
theorem w_makeS {σ : L2.St} {H : Hp} {Q : VK} (h : t σ H fun vs H1 => rMakeS C sp dvs (E σ) vs H1 Q) : tMakeS C sp dvs E t σ H Q := h
end
theorem exm_own {K : PySem.W.Frag} {D C : Addr} {b : Bool} (h1 : PySem.W.subIn K (.ref C) (.type "BaseException") = some true) (h2 : PySem.W.isClsIn K C = true) (h3 : PySem.W.typeIn K (.ref C) = some (.type "type")) (h4 : PySem.W.subIn K (.ref D) (.ref C) = some b) :
    PySem.W.exmOne K (.ref D) (.ref C) = some b := by
  have h2' : (PySem.W.clsIn K C).isSome = true := h2
  unfold PySem.W.exmOne
  rw [h1, if_pos (by simp)]
  simp only [PySem.W.kitCls]
  rw [h2', h3, if_pos (by simp)]
  exact h4
/-- e.f of a caught error -/
abbrev rXf (a : Addr) (cls : Value) (d : Option Addr) (C : Addr) (f : Str) : V → Hp → VK → Prop := fun x H1 Q => x = .ref a ∧ cls = .ref C ∧ ∃ (dd : Addr) (fs : List (Str × V)) (v : V), d = some dd ∧ H1 dd = some (.xd fs) ∧ fs.lookup f = some v ∧ Q v H1
section
variable {σ : L2.St} {H : Hp} {Q : VK} {a C dd : Addr} {cls : Value} {d : Option Addr} {f g : Str} {te : TE} {fs : List (Str × V)} {v w : V} {K : PySem.W.Frag} {p q : Addr}
theorem w_xf (h : te σ H fun x H1 => rXf a cls d C f x H1 Q) : tXf a cls d C f te σ H Q := h
theorem n_xf (hd : H dd = some (.xd fs)) (hl : fs.lookup f = some v) (k : Q v H) : rXf a (.ref C) (some dd) C f (.ref a) H Q := ⟨rfl, rfl, dd, fs, v, rfl, hd, hl, k⟩
theorem lk_1 {r : List (Str × V)} : List.lookup f ((f, v) :: r) = some v := by simp
theorem lk_2 {r : List (Str × V)} (h : (g == f) = false) : List.lookup g ((f, v) :: (g, w) :: r) = some w := by
  rw [List.lookup_cons, h]
  simp
/-- == of lists of data -/
theorem n_eqD {d e : PyData} {x y : V} (h1 : Dp K H x d) (h2 : Dp K H y e) (s1 : SeqAt.shaped d = true) (s2 : SeqAt.shaped e = true) (k : Q (.bl (PyData.eqv d e)) H) : rEqD K x y H Q := ⟨d, e, h1, h2, s1, s2, k⟩
theorem n_neD {d e : PyData} {x y : V} (h1 : Dp K H x d) (h2 : Dp K H y e) (s1 : SeqAt.shaped d = true) (s2 : SeqAt.shaped e = true) (k : Q (.bl (!PyData.eqv d e)) H) : rNeD K x y H Q := ⟨d, e, h1, h2, s1, s2, k⟩
/-- is None, is not None -/
theorem n_isN {x : V} (k : Q (.bl (decide (x = .non))) H) : L2.rIsN x .non H Q := ⟨rfl, k⟩
theorem n_notN {x : V} (k : Q (.bl (!decide (x = .non))) H) : L2.rNotN x .non H Q := ⟨rfl, k⟩
end
end AT

end

section
/-! Fractions in lowest terms: plain arithmetic. -/
namespace AT
/-- smaller than 2 ^ n -/
def Bn (n : Nat) (i : Int) : Prop := i.natAbs < 2 ^ n
instance {n : Nat} {i : Int} : Decidable (Bn n i) := inferInstanceAs (Decidable (i.natAbs < 2 ^ n))
theorem Bn.mono {m n : Nat} {i : Int} (h : Bn m i) (l : m ≤ n) : Bn n i := Nat.lt_of_lt_of_le h (Nat.pow_le_pow_right (by decide) l)
theorem Bn.neg {n : Nat} {i : Int} (h : Bn n i) : Bn n (-i) := by unfold Bn at *; rw [Int.natAbs_neg]; exact h
theorem Bn.mul {m n : Nat} {i j : Int} (h : Bn m i) (l : Bn n j) : Bn (m + n) (i * j) := by
  unfold Bn at *
  rw [Int.natAbs_mul, Nat.pow_add]
  exact Nat.mul_lt_mul'' h l
theorem Bn.add {n : Nat} {i j : Int} (h : Bn n i) (l : Bn n j) : Bn (n + 1) (i + j) := by
  unfold Bn at *
  have := Int.natAbs_add_le i j
  rw [Nat.pow_succ]
  omega
theorem Bn.sub {n : Nat} {i j : Int} (h : Bn n i) (l : Bn n j) : Bn (n + 1) (i - j) := by
  rw [Int.sub_eq_add_neg]
  exact h.add l.neg
theorem Bn.le {n : Nat} {i j : Int} (h : Bn n j) (l : i.natAbs ≤ j.natAbs) : Bn n i := Nat.lt_of_le_of_lt l h
theorem Bn.pos {n : Nat} {i : Int} (h : Bn n i) : 0 ≤ n := Nat.zero_le _
theorem Bn.log {n : Nat} {i : Int} (h : Bn n i) (h0 : 0 < n) : i.natAbs.log2 < n := by
  unfold Bn at h
  by_cases hz : i.natAbs = 0
  · rw [hz]; simpa using h0
  · exact (Nat.log2_lt hz).mpr h
theorem Bn.log' {n m : Nat} {i : Int} (h : Bn n i) (h0 : n < m) : i.natAbs.log2 < m := Bn.log (h.mono (Nat.le_of_lt h0)) (by omega)
theorem Bn.nat {n k : Nat} (h : k < 2 ^ n) : Bn n (k : Int) := by unfold Bn; simpa using h
theorem Bn.abs {n : Nat} {i : Int} (h : Bn n i) : Bn n (i.natAbs : Int) := by unfold Bn at *; simpa using h

/-! ### one step of the common divisor -/
theorem rest_eq {a b : Int} (hb : 0 < b) : a - b * (a.fdiv b) = a % b := by
  rw [Int.fdiv_eq_ediv_of_nonneg a (by omega)]
  have := Int.emod_add_mul_ediv a b
  omega
theorem gcd_step {a b : Int} (hb : 0 < b) : Int.gcd b (a - b * (a.fdiv b)) = Int.gcd a b := by
  have e : a - b * (a.fdiv b) = a + b * (-(a.fdiv b)) := by rw [Int.mul_neg]; omega
  rw [e, Int.gcd_comm, Int.gcd_add_mul_left_left]
theorem abs_if (i : Int) : (if i < 0 then -i else i) = (i.natAbs : Int) := by split <;> omega

/-! ### lowest terms -/
theorem fdiv_dvd {a g : Int} (hg : g ≠ 0) (h : g ∣ a) : a.fdiv g * g = a := by
  exact Int.fdiv_mul_cancel_of_dvd h
theorem fdiv_eq {a g k : Int} (hg : g ≠ 0) (h : a = k * g) : a.fdiv g = k := by
  subst h
  exact Int.mul_fdiv_cancel k hg
/-- the part that is divided out -/
def part (t b : Int) : Int := if b < 0 then -(Int.gcd t b : Int) else (Int.gcd t b : Int)
theorem part_ne {t b : Int} (hb : b ≠ 0) : part t b ≠ 0 := by
  have h : Int.gcd t b ≠ 0 := fun e => hb (Int.gcd_eq_zero_iff.mp e).2
  unfold part
  split <;> omega
theorem num_eq {t b : Int} (hb : b ≠ 0) : t.fdiv (part t b) = (Rat.divInt t b).num := by
  obtain ⟨k, hk⟩ : ((Int.gcd t b : Nat) : Int) ∣ t := Int.gcd_dvd_left t b
  have h : (Int.gcd t b : Int) ≠ 0 := by
    have : Int.gcd t b ≠ 0 := fun e => hb (Int.gcd_eq_zero_iff.mp e).2
    omega
  rw [Rat.num_divInt, Int.gcd_comm b t]
  unfold part
  split
  · rename_i hn
    rw [Int.sign_eq_neg_one_of_neg hn]
    have e1 : t.fdiv (-(Int.gcd t b : Int)) = -k := fdiv_eq (by omega) (by rw [Int.neg_mul_neg, Int.mul_comm]; exact hk)
    rw [e1]
    refine (Int.ediv_eq_of_eq_mul_left h ?_).symm
    rw [Int.neg_mul, Int.one_mul, Int.neg_mul, Int.mul_comm k, ← hk]
  · rename_i hn
    have hp : 0 < b := by omega
    rw [Int.sign_eq_one_of_pos hp, Int.one_mul]
    have e1 : t.fdiv (Int.gcd t b : Int) = k := fdiv_eq h (by rw [Int.mul_comm]; exact hk)
    rw [e1]
    refine (Int.ediv_eq_of_eq_mul_left h ?_).symm
    rw [Int.mul_comm, ← hk]
theorem den_eq {t b : Int} (hb : b ≠ 0) : b.fdiv (part t b) = ((Rat.divInt t b).den : Int) := by
  obtain ⟨k, hk⟩ : ((Int.gcd t b : Nat) : Int) ∣ b := Int.gcd_dvd_right t b
  have h : (Int.gcd t b : Int) ≠ 0 := by
    have : Int.gcd t b ≠ 0 := fun e => hb (Int.gcd_eq_zero_iff.mp e).2
    omega
  rw [Rat.den_divInt, if_neg hb, Int.gcd_comm b t, Int.natCast_ediv]
  unfold part
  split
  · rename_i hn
    have e1 : b.fdiv (-(Int.gcd t b : Int)) = -k := fdiv_eq (by omega) (by rw [Int.neg_mul_neg, Int.mul_comm]; exact hk)
    rw [e1]
    refine (Int.ediv_eq_of_eq_mul_left h ?_).symm
    have : (b.natAbs : Int) = -b := by omega
    rw [this, Int.neg_mul, Int.mul_comm k, ← hk]
  · rename_i hn
    have e1 : b.fdiv (Int.gcd t b : Int) = k := fdiv_eq h (by rw [Int.mul_comm]; exact hk)
    rw [e1]
    refine (Int.ediv_eq_of_eq_mul_left h ?_).symm
    have : (b.natAbs : Int) = b := by omega
    rw [this, Int.mul_comm k, ← hk]
theorem den_pos (q : Rat) : 0 < (q.den : Int) := by have := q.den_pos; omega
theorem gcd_low (q : Rat) : Int.gcd q.num q.den = 1 := q.reduced
/-- as a fraction the two are the same -/
theorem cross {t b : Int} (hb : b ≠ 0) : (Rat.divInt t b).num * b = t * ((Rat.divInt t b).den : Int) := by
  have h1 := num_eq (t := t) hb
  have h2 := den_eq (t := t) hb
  have hp := part_ne (t := t) hb
  have d1 : part t b ∣ t := by
    have := Int.gcd_dvd_left t b
    unfold part
    split
    · exact (Int.neg_dvd).mpr this
    · exact this
  have d2 : part t b ∣ b := by
    have := Int.gcd_dvd_right t b
    unfold part
    split
    · exact (Int.neg_dvd).mpr this
    · exact this
  have e1 := fdiv_dvd hp d1
  have e2 := fdiv_dvd hp d2
  rw [h1] at e1
  rw [h2] at e2
  generalize (Rat.divInt t b).num = n at *
  generalize ((Rat.divInt t b).den : Int) = d at *
  generalize part t b = p at *
  subst e1
  rw [← e2]
  grind
theorem num_le {t b : Int} (hb : b ≠ 0) : (Rat.divInt t b).num.natAbs ≤ t.natAbs := by
  have h1 := num_eq (t := t) hb
  have d1 : part t b ∣ t := by
    have := Int.gcd_dvd_left t b
    unfold part
    split
    · exact (Int.neg_dvd).mpr this
    · exact this
  have e1 := fdiv_dvd (part_ne (t := t) hb) d1
  rw [h1] at e1
  have := part_ne (t := t) hb
  have e2 := congrArg Int.natAbs e1
  rw [Int.natAbs_mul] at e2
  have hpp : 0 < (part t b).natAbs := Int.natAbs_pos.mpr this
  rw [← e2]
  exact Nat.le_mul_of_pos_right _ hpp
theorem den_le {t b : Int} (hb : b ≠ 0) : (Rat.divInt t b).den ≤ b.natAbs := by
  have h1 := den_eq (t := t) hb
  have d1 : part t b ∣ b := by
    have := Int.gcd_dvd_right t b
    unfold part
    split
    · exact (Int.neg_dvd).mpr this
    · exact this
  have e1 := fdiv_dvd (part_ne (t := t) hb) d1
  rw [h1] at e1
  have := part_ne (t := t) hb
  have e2 := congrArg Int.natAbs e1
  rw [Int.natAbs_mul, Int.natAbs_natCast] at e2
  have hpp : 0 < (part t b).natAbs := Int.natAbs_pos.mpr this
  rw [← e2]
  exact Nat.le_mul_of_pos_right _ hpp
end AT
namespace AT
theorem fdiv_abs {a b : Int} (hb : 0 < b) (ha : 0 ≤ a) : (a.fdiv b).natAbs ≤ a.natAbs := by
  rw [Int.fdiv_eq_ediv_of_nonneg a (by omega)]
  have h1 := Int.ediv_nonneg ha (by omega : 0 ≤ b)
  have h2 := Int.ediv_le_self b ha
  omega
end AT
namespace AT
theorem part_bn {n : Nat} {t b : Int} (ht : Bn n t) (hb : Bn n b) (h0 : b ≠ 0) : Bn n (part t b) := by
  have h1 : (Int.gcd t b : Int).natAbs ≤ b.natAbs := by
    rw [Int.natAbs_natCast]
    exact Nat.le_of_dvd (by omega) (Int.gcd_dvd_natAbs_right t b)
  unfold part
  split
  · exact (hb.le h1).neg
  · exact hb.le h1
end AT
namespace AT
theorem bn_of {n : Nat} {m i : Int} (hm : Bn n m) (h1 : -m ≤ i) (h2 : i ≤ m) : Bn n i := hm.le (by omega)
theorem divInt_neg {t b : Int} : Rat.divInt (-t) (-b) = Rat.divInt t b := Rat.neg_divInt_neg t b
theorem divInt_one {t : Int} : Rat.divInt t 1 = (t : Rat) := by rw [Rat.divInt_eq_div]; grind
end AT
namespace AT
theorem qd (q : Rat) : q = Rat.divInt q.num q.den := by rw [Rat.divInt_ofNat, Rat.mkRat_self]
theorem dne (q : Rat) : (q.den : Int) ≠ 0 := by have := q.den_nz; omega
theorem add_eq (q r : Rat) : Rat.divInt (q.num * r.den + r.num * q.den) (q.den * r.den) = q + r := by
  conv => rhs; rw [qd q, qd r, Rat.divInt_add_divInt _ _ (dne q) (dne r)]
theorem sub_eq (q r : Rat) : Rat.divInt (q.num * r.den - r.num * q.den) (q.den * r.den) = q - r := by
  conv => rhs; rw [qd q, qd r, Rat.divInt_sub_divInt _ _ (dne q) (dne r)]
theorem mul_eq (q r : Rat) : Rat.divInt (q.num * r.num) (q.den * r.den) = q * r := by
  conv => rhs; rw [qd q, qd r, Rat.divInt_mul_divInt _ _]
theorem addI_eq (q : Rat) (i : Int) : Rat.divInt (q.num + i * q.den) q.den = q + (i : Rat) := by
  have h := add_eq q i
  rw [Rat.num_intCast, Rat.den_intCast] at h
  simpa using h
theorem subI_eq (q : Rat) (i : Int) : Rat.divInt (q.num - i * q.den) q.den = q - (i : Rat) := by
  have h := sub_eq q i
  rw [Rat.num_intCast, Rat.den_intCast] at h
  simpa using h
theorem rsubI_eq (q : Rat) (i : Int) : Rat.divInt (i * q.den - q.num) q.den = (i : Rat) - q := by
  have h := sub_eq i q
  rw [Rat.num_intCast, Rat.den_intCast] at h
  simpa using h
theorem mulI_eq (q : Rat) (i : Int) : Rat.divInt (q.num * i) q.den = q * (i : Rat) := by
  have h := mul_eq q i
  rw [Rat.num_intCast, Rat.den_intCast] at h
  simpa using h
end AT
namespace AT
theorem fdiv_scale {a b c : Int} (hc : c ≠ 0) : (a * c).fdiv (b * c) = a.fdiv b := by
  rcases Int.lt_or_gt_of_ne hc with h | h
  · have e : (a * c).fdiv (b * c) = (a * (-c)).fdiv (b * (-c)) := by
      rw [Int.mul_neg, Int.mul_neg, Int.neg_fdiv_neg]
    rw [e, Int.mul_comm a, Int.mul_comm b]
    exact Int.mul_fdiv_mul_of_pos _ _ (by omega)
  · rw [Int.mul_comm a, Int.mul_comm b]
    exact Int.mul_fdiv_mul_of_pos _ _ h
theorem fdiv_cross {a b c d : Int} (hb : b ≠ 0) (hd : d ≠ 0) (e : a * d = c * b) : a.fdiv b = c.fdiv d := by
  rw [← fdiv_scale (a := a) (b := b) hd, ← fdiv_scale (a := c) (b := d) hb, e, Int.mul_comm b d]
theorem fdiv_small {a b : Int} : (a.fdiv b).natAbs ≤ a.natAbs := by
  by_cases hb : b = 0
  · subst hb; simp
  have key : ∀ {a b : Int}, 0 < b → (a.fdiv b).natAbs ≤ a.natAbs := by
    intro a b hb
    rw [Int.fdiv_eq_ediv_of_nonneg _ (by omega)]
    rcases (by omega : a < 0 ∨ 0 ≤ a) with h | h
    · have h1 : a / b < 0 := Int.ediv_neg_of_neg_of_pos h hb
      have h2 : a ≤ a / b := by
        apply Int.le_ediv_of_mul_le hb
        have : a * b ≤ a * 1 := Int.mul_le_mul_of_nonpos_left (by omega) (by omega)
        omega
      omega
    · have h1 : 0 ≤ a / b := Int.ediv_nonneg h (by omega)
      have h2 : a / b ≤ a := Int.ediv_le_self _ h
      omega
  rcases Int.lt_or_gt_of_ne hb with h | h
  · have := key (a := -a) (b := -b) (by omega)
    rw [Int.neg_fdiv_neg] at this
    omega
  · exact key h
/-- floor of the quotient -/
def fl (q r : Rat) : Int := (q.num * r.den).fdiv (q.den * r.num)
theorem flI_eq (q : Rat) (i : Int) : q.num.fdiv (q.den * i) = fl q (i : Rat) := by unfold fl; simp
theorem rflI_eq (q : Rat) (i : Int) : (i * q.den).fdiv q.num = fl (i : Rat) q := by unfold fl; simp
theorem rat_num0 {t b : Int} (hb : b ≠ 0) : (Rat.divInt t b).num = 0 ↔ t = 0 := by
  have c := cross (t := t) hb
  have d := den_pos (Rat.divInt t b)
  constructor
  · intro h
    rw [h, Int.zero_mul] at c
    rcases Int.mul_eq_zero.mp c.symm with h | h
    · exact h
    · omega
  · intro h
    subst h
    rw [Int.zero_mul] at c
    rcases Int.mul_eq_zero.mp c with h | h
    · exact h
    · exact absurd h hb
theorem fl_div {t b t' b' : Int} (hb : b ≠ 0) (hb' : b' ≠ 0) (ht' : t' ≠ 0) : fl (Rat.divInt t b) (Rat.divInt t' b') = (t * b').fdiv (b * t') := by
  have c1 := cross (t := t) hb
  have c2 := cross (t := t') hb'
  have d1 := den_pos (Rat.divInt t b)
  have d2 := den_pos (Rat.divInt t' b')
  have n2 : (Rat.divInt t' b').num ≠ 0 := fun h => ht' ((rat_num0 hb').mp h)
  unfold fl
  generalize (Rat.divInt t b).num = n at *
  generalize ((Rat.divInt t b).den : Int) = d at *
  generalize (Rat.divInt t' b').num = n' at *
  generalize ((Rat.divInt t' b').den : Int) = d' at *
  refine fdiv_cross (Int.mul_ne_zero (by omega) n2) (Int.mul_ne_zero hb ht') ?_
  have e1 : n * d' * (b * t') = (n * b) * (t' * d') := by ac_rfl
  have e2 : t * b' * (d * n') = (t * d) * (n' * b') := by ac_rfl
  rw [e1, e2, c1, c2]
theorem bn_fl {q r : Rat} {m n : Nat} (h1 : Bn m q.num) (h2 : Bn n (r.den : Int)) : Bn (m + n) (fl q r) := (h1.mul h2).le fdiv_small
end AT
namespace AT
theorem lt_num (q r : Rat) : q < r ↔ q.num * r.den < r.num * q.den := Rat.lt_iff q r
/-- the sign of a difference of two quotients -/
theorem sgn {t b t' b' : Int} (h : b ≠ 0) (h' : b' ≠ 0) : ∃ m : Int, 0 < m ∧ ∃ m' : Int, 0 < m' ∧ ((t * b' - t' * b) * b * b') * m = ((Rat.divInt t b).num * ((Rat.divInt t' b').den : Int) - (Rat.divInt t' b').num * ((Rat.divInt t b).den : Int)) * m' := by
  have c1 := cross (t := t) h
  have c2 := cross (t := t') h'
  have d1 := den_pos (Rat.divInt t b)
  have d2 := den_pos (Rat.divInt t' b')
  generalize (Rat.divInt t b).num = n at *
  generalize ((Rat.divInt t b).den : Int) = d at *
  generalize (Rat.divInt t' b').num = n' at *
  generalize ((Rat.divInt t' b').den : Int) = d' at *
  refine ⟨d * d', Int.mul_pos d1 d2, (b * b') * (b * b'), ?_, ?_⟩
  · have z := Int.mul_ne_zero h h'
    rcases Int.lt_or_gt_of_ne z with z | z
    · exact Int.mul_pos_of_neg_of_neg z z
    · exact Int.mul_pos z z
  · have e1 : (t * b' - t' * b) * b * b' * (d * d') = (t * d) * (b' * b * b' * d') - (t' * d') * (b * b * b' * d) := by
      rw [Int.sub_mul, Int.sub_mul, Int.sub_mul]
      congr 1 <;> ac_rfl
    have e2 : (n * d' - n' * d) * (b * b' * (b * b')) = (n * b) * (b' * b * b' * d') - (n' * b') * (b * b * b' * d) := by
      rw [Int.sub_mul]
      congr 1 <;> ac_rfl
    rw [e1, e2, c1, c2]
theorem sgn_lt {t b t' b' : Int} (h : b ≠ 0) (h' : b' ≠ 0) : (t * b' - t' * b) * b * b' < 0 ↔ Rat.divInt t b < Rat.divInt t' b' := by
  obtain ⟨m, hm, m', hm', e⟩ := sgn (t := t) (t' := t') h h'
  rw [lt_num]
  generalize (t * b' - t' * b) * b * b' = s at *
  generalize (Rat.divInt t b).num * ((Rat.divInt t' b').den : Int) = x at *
  generalize (Rat.divInt t' b').num * ((Rat.divInt t b).den : Int) = y at *
  constructor
  · intro hs
    have : (x - y) * m' < 0 := by rw [← e]; exact Int.mul_neg_of_neg_of_pos hs hm
    have := Int.neg_of_mul_neg_left this (by omega)
    omega
  · intro hs
    have : s * m < 0 := by rw [e]; exact Int.mul_neg_of_neg_of_pos (by omega) hm'
    exact Int.neg_of_mul_neg_left this (by omega)
theorem rat_eq_num (q r : Rat) : q = r ↔ q.num * r.den = r.num * q.den := by
  constructor
  · rintro rfl; rfl
  · intro h
    refine Rat.le_antisymm ?_ ?_
    · rw [Rat.le_iff]; omega
    · rw [Rat.le_iff]; omega
theorem sgn_eq {t b t' b' : Int} (h : b ≠ 0) (h' : b' ≠ 0) : (t * b' - t' * b) * b * b' = 0 ↔ Rat.divInt t b = Rat.divInt t' b' := by
  obtain ⟨m, hm, m', hm', e⟩ := sgn (t := t) (t' := t') h h'
  rw [rat_eq_num]
  generalize (t * b' - t' * b) * b * b' = s at *
  generalize (Rat.divInt t b).num * ((Rat.divInt t' b').den : Int) = x at *
  generalize (Rat.divInt t' b').num * ((Rat.divInt t b).den : Int) = y at *
  constructor
  · intro hs
    subst hs
    rw [Int.zero_mul] at e
    rcases Int.mul_eq_zero.mp e.symm with h | h <;> omega
  · intro hs
    have : x - y = 0 := by omega
    rw [this, Int.zero_mul] at e
    rcases Int.mul_eq_zero.mp e with h | h <;> omega
/-- the sign s tells how q stands to r -/
structure Sgn (q r : Rat) (s : Int) : Prop where
  lt : s < 0 ↔ q < r
  eq : s = 0 ↔ q = r
theorem Sgn.of {t b t' b' : Int} (h : b ≠ 0) (h' : b' ≠ 0) : Sgn (Rat.divInt t b) (Rat.divInt t' b') ((t * b' - t' * b) * b * b') := ⟨sgn_lt h h', sgn_eq h h'⟩
theorem Sgn.gt {q r : Rat} {s : Int} (h : Sgn q r s) : s > 0 ↔ r < q := by
  constructor
  · intro hs
    have h1 : ¬ q < r := fun z => by have := h.lt.mpr z; omega
    have h2 : ¬ q = r := fun z => by have := h.eq.mpr z; omega
    rw [Rat.not_lt] at h1
    exact Rat.lt_iff_le_and_ne.mpr ⟨h1, fun e => h2 e.symm⟩
  · intro hs
    have h1 : ¬ s < 0 := fun z => Rat.not_lt.mpr (Rat.le_iff_lt_or_eq.mpr (.inl hs)) (h.lt.mp z)
    have h2 : ¬ s = 0 := fun z => by rw [h.eq.mp z] at hs; exact Rat.lt_irrefl hs
    omega
theorem Sgn.le {q r : Rat} {s : Int} (h : Sgn q r s) : s ≤ 0 ↔ q ≤ r := by
  rw [← Rat.not_lt, ← h.gt]; omega
theorem Sgn.ge {q r : Rat} {s : Int} (h : Sgn q r s) : s ≥ 0 ↔ r ≤ q := by
  rw [← Rat.not_lt, ← h.lt]; omega
theorem Sgn.swap {q r : Rat} {s : Int} (h : Sgn q r s) : Sgn r q (-s) := ⟨by rw [← h.gt]; omega, by rw [eq_comm (a := r), ← h.eq]; omega⟩
theorem ltI (q : Rat) (i : Int) : q.num < i * q.den ↔ q < (i : Rat) := by rw [lt_num]; simp
theorem leI (q : Rat) (i : Int) : q.num ≤ i * q.den ↔ q ≤ (i : Rat) := by rw [Rat.le_iff]; simp
theorem gtI (q : Rat) (i : Int) : q.num > i * q.den ↔ (i : Rat) < q := by rw [lt_num]; simp
theorem geI (q : Rat) (i : Int) : q.num ≥ i * q.den ↔ (i : Rat) ≤ q := by rw [Rat.le_iff]; simp
end AT
namespace AT
theorem neg_eq (q : Rat) : Rat.divInt (-q.num) q.den = -q := by
  conv => rhs; rw [qd q]
  exact (Rat.neg_divInt _ _).symm
theorem neg_div {t b : Int} : -(Rat.divInt t b) = Rat.divInt (-t) b := Rat.neg_divInt _ _
theorem dvC {t b t' b' : Int} : Rat.divInt t b * Rat.divInt t' b' = Rat.divInt (t * t') (b * b') := Rat.divInt_mul_divInt _ _
theorem pow_div {t b : Int} : ∀ n : Nat, (Rat.divInt t b) ^ n = Rat.divInt (t ^ n) (b ^ n)
  | 0 => by rw [Rat.pow_zero, Int.pow_zero, Int.pow_zero, divInt_one]; rfl
  | n + 1 => by rw [Rat.pow_succ, pow_div n, dvC, ← Int.pow_succ, ← Int.pow_succ]
theorem pow_ne {b : Int} (h : b ≠ 0) : ∀ n : Nat, b ^ n ≠ 0
  | 0 => by simp
  | n + 1 => by rw [Int.pow_succ]; exact Int.mul_ne_zero (pow_ne h n) h
theorem bn_pow {m : Nat} {t : Int} (h : Bn m t) : ∀ n : Nat, Bn (m * n + 1) (t ^ n)
  | 0 => by rw [Int.pow_zero, Nat.mul_zero]; decide
  | n + 1 => by
    rw [Int.pow_succ]
    exact ((bn_pow h n).mul h).mono (by rw [Nat.mul_succ]; omega)
theorem quo_eq {t b t' b' : Int} (h : b ≠ 0) (h' : b' ≠ 0) (n : t' ≠ 0) : Rat.divInt ((Rat.divInt t b).num * (Rat.divInt t' b').den) ((Rat.divInt t b).den * (Rat.divInt t' b').num) = Rat.divInt (t * b') (b * t') := by
  have c1 := cross (t := t) h
  have c2 := cross (t := t') h'
  have d1 := den_pos (Rat.divInt t b)
  have d2 := den_pos (Rat.divInt t' b')
  have n2 : (Rat.divInt t' b').num ≠ 0 := fun e => n ((rat_num0 h').mp e)
  generalize (Rat.divInt t b).num = x at *
  generalize ((Rat.divInt t b).den : Int) = d at *
  generalize (Rat.divInt t' b').num = x' at *
  generalize ((Rat.divInt t' b').den : Int) = d' at *
  rw [Rat.divInt_eq_divInt_iff (Int.mul_ne_zero (by omega) n2) (Int.mul_ne_zero h n)]
  have e1 : x * d' * (b * t') = (x * b) * (t' * d') := by ac_rfl
  have e2 : t * b' * (d * x') = (t * d) * (x' * b') := by ac_rfl
  rw [e1, e2, c1, c2]
theorem abs_div {t b : Int} (h : b ≠ 0) {s : Int} (hs : if t * b < 0 then s = -1 else s = 1) : Rat.divInt ((Rat.divInt t b).num.natAbs : Int) (Rat.divInt t b).den = Rat.divInt (s * t) b := by
  have c := cross (t := t) h
  have d := den_pos (Rat.divInt t b)
  have q := qd (Rat.divInt t b)
  have bb : 0 < b * b := by
    rcases Int.lt_or_gt_of_ne h with z | z
    · exact Int.mul_pos_of_neg_of_neg z z
    · exact Int.mul_pos z z
  have key : (Rat.divInt t b).num * (b * b) = (t * b) * (Rat.divInt t b).den := by
    rw [← Int.mul_assoc, c]; ac_rfl
  by_cases z : t * b < 0
  · rw [if_pos z] at hs
    subst hs
    have hn : (Rat.divInt t b).num < 0 := by
      have : (Rat.divInt t b).num * (b * b) < 0 := by rw [key]; exact Int.mul_neg_of_neg_of_pos z d
      exact Int.neg_of_mul_neg_left this (by omega)
    have e : ((Rat.divInt t b).num.natAbs : Int) = -(Rat.divInt t b).num := by omega
    rw [e, neg_eq, neg_div, Int.neg_mul, Int.one_mul]
  · rw [if_neg z] at hs
    subst hs
    have hn : 0 ≤ (Rat.divInt t b).num := by
      have : 0 ≤ (Rat.divInt t b).num * (b * b) := by rw [key]; exact Int.mul_nonneg (by omega) (by omega)
      rcases (by omega : (Rat.divInt t b).num < 0 ∨ 0 ≤ (Rat.divInt t b).num) with w | w
      · have := Int.mul_neg_of_neg_of_pos w bb
        omega
      · exact w
    have e : ((Rat.divInt t b).num.natAbs : Int) = (Rat.divInt t b).num := by omega
    rw [e, ← q, Int.one_mul]
end AT

end

section
/-! Operators of an own class in a try; two readings of one operator. -/
namespace AT
open PySem PySem.Spec PyProof.Rows L2
/-- an operation at slots that are told -/
def OpRA (X : Cx) (σ : L2.St) (f : Value → Value → Sem Value) (r : R2) : Prop :=
  ∀ (pins : List (Addr × Obj)) (s : Shared) (H : Hp) (x y : V) (v u : Value) (Q : VK), Inv X pins σ H s → RelV x v → RelV y u → r x y H Q →
    wpAny (model X.prog X.w) X.A (f v u) (EP X pins σ Q) X.xe s
def tOpS (r : L2.St → R2) (ta tb : TE) : TE := fun σ H Q => ta σ H fun x H1 => tb σ H1 fun y H2 => r σ x y H2 Q
def rOr2 (r r' : R2) : R2 := fun x y H Q => r x y H Q ∨ r' x y H Q
section
variable {X : Cx} {CX : CXT} {C l r : Addr} {fd fd' : FuncData} {ps ps' : List Str} {n : Nat} {sp sp' : Sp} {E E' : XK} {op : Operator} {σ : L2.St} {f : Value → Value → Sem Value} {a b : Expr} {ta tb : TE} {pos : Pos} {W : WX}
theorem pe_opS {r : L2.St → R2} (ho : ∀ σ, OpRA X σ (binaryOp op) (r σ)) (ha : PE X a ta) (hb : PE X b tb) : PE X (.BinOp a op b pos) (tOpS r ta tb) := by
  refine ⟨fun pins s σ H Q I h => ?_⟩
  exact wpAny_BinOp (binT ha hb I h fun v u s2 x y H2 I2 rx ry q => ho σ pins s2 H2 x y v u Q I2 rx ry q)
theorem w_opS {r : L2.St → R2} {H : Hp} {Q : VK} (h : ta σ H fun x H1 => tb σ H1 fun y H2 => r σ x y H2 Q) : tOpS r ta tb σ H Q := h
theorem OpRA.or {r r' : R2} (h : OpRA X σ f r) (h' : OpRA X σ f r') : OpRA X σ f (rOr2 r r') := fun pins s H x y v u Q I rx ry q => q.elim (h pins s H x y v u Q I rx ry) (h' pins s H x y v u Q I rx ry)
theorem OpR.or {r r' : R2} (h : OpR X f r) (h' : OpR X f r') : OpR X f (rOr2 r r') := fun pins s σ H x y v u Q I rx ry q => q.elim (h pins s σ H x y v u Q I rx ry) (h' pins s σ H x y v u Q I rx ry)
theorem run_twoA {g : Addr} {pins : List (Addr × Obj)} {H : Hp} {s : Shared} {Q : VK} {x y : V} {u v : Value} (F : FnOk X.prog X.w X.K X.mg X.base CX n g fd ps sp) (hr : Room n X.A) (hb : Binds X.K fd ps []) (hx : PassesAt CX X σ E) (I : Inv X pins σ H s)
    (rx : RelV x u) (ry : RelV y v) (h : sp [x, y] H Q E) : wpAny (model X.prog X.w) X.A (call (.ref g) [u, v]) (PySem.W.CmpBack (EP X pins σ Q)) X.xe s := by
  have z : wpAny (model X.prog X.w) X.A (call (.ref g) [u, v]) (EP X pins σ Q) X.xe s := run_fnS (E := fun _ => E) (us := [u, v]) (vs := [x, y]) F hr hb hx I (.cons rx (.cons ry .nil)) h
  refine thn z fun w s' q => ?_
  obtain ⟨z', H', I', rz, qz⟩ := q
  exact SlX.cmpback rz ⟨z', H', I', rz, qz⟩
theorem opA_ins (o : OwnC X.K C) (i : IntOp X.K C op l r) (F : FnOk X.prog X.w X.K X.mg X.base CX n l fd ps sp) (hr : Room n X.A) (hb : Binds X.K fd ps []) (hx : PassesAt CX X σ E) : OpRA X σ (binaryOp op) (rIns C sp E) := by
  intro pins s H x y v u Q I rx ry h
  obtain ⟨a, dx, fs, rfl, ha, hy, q⟩ := h
  obtain ⟨rc, e1, e2⟩ := i.rc
  obtain ⟨fo, h1⟩ := i.h1
  obtain ⟨ro, h2⟩ := i.h2
  cases (show v = Value.ref a from rx)
  obtain ⟨od, J⟩ := inst_at I ha
  rcases hy with ⟨j, rfl⟩ | ⟨b, dy, gs, rfl, hb'⟩
  · obtain ⟨t, rfl⟩ := (show ∃ t, u = Value.int j t from ry)
    obtain ⟨mm, hF⟩ := I.fr
    exact PySem.W.ksp_binT hF I.ok.mod.kin J rfl o.first i.ml.at_ i.ml.fn e1 e2 h1 h2 i.hs (run_twoA F hr hb hx I rel_ref rel_int q)
  · cases (show u = Value.ref b from ry)
    obtain ⟨od', J'⟩ := inst_at I hb'
    exact bin_same I.kIn J J' o.first i.ml.at_ i.ml.fn (run_twoA F hr hb hx I rel_ref rel_ref q)
theorem opA_intIns {lo : Addr} (d : IntDeclines op) (o : OwnC X.K C) (hl : PySem.W.findIn X.K (.ref C) (PySem.dunder op.info.2) = some (some (.ref lo))) (m : OwnM X.K C l (dunderR op.info.2))
    (F : FnOk X.prog X.w X.K X.mg X.base CX n l fd ps sp) (hr : Room n X.A) (hb : Binds X.K fd ps []) (hx : PassesAt CX X σ E) : OpRA X σ (binaryOp op) (rIntIns C sp E) := by
  intro pins s H x y v u Q I rx ry h
  obtain ⟨i, b, dy, gs, rfl, rfl, hb', q⟩ := h
  obtain ⟨t, rfl⟩ := (show ∃ t, v = Value.int i t from rx)
  cases (show u = Value.ref b from ry)
  obtain ⟨od, J⟩ := inst_at I hb'
  obtain ⟨hfi, id, B, slot, entry, dd⟩ := d
  exact bin_refl I.kIn J o.first hl m.at_ m.fn o.notInt hfi slot entry (dd i t b).1 (dd i t b).2 (run_twoA F hr hb hx I rel_ref rel_int q)
theorem passX (tk : Takes X (fun cls d _ H => E cls d H)) : Passes (L2.CX X.prog X.w) X E := L2.passes_call tk fun _ _ _ _ h => h
theorem exm_ZDE {K : PySem.W.Frag} : PySem.W.exmOne K (.type "ZeroDivisionError") (.type "ZeroDivisionError") = some true := by kernel_rfl
/-- // that may be by zero, named -/
def rFdX (W : XK) : R2 := fun x y H Q => ∃ i j, x = .int i ∧ y = .int j ∧ ((j ≠ 0 ∧ j.natAbs.log2 < 9000 ∧ Q (.int (i.fdiv j)) H) ∨ (j = 0 ∧ ∀ d, W (.type "ZeroDivisionError") d H))
theorem op_fdX {W : XK} (hc : X.calm = true) (tk : Takes X (fun cls d _ H => W cls d H)) : OpR X (binaryOp .FloorDiv) (rFdX W) := op_fdivX hc tk
theorem w_fdX {W : XK} {H : Hp} {Q : VK} {i j : Int} (h0 : j = 0 → ∀ d, W (.type "ZeroDivisionError") d H) (hl : Bn 8900 j) (h : j ≠ 0 → Q (.int (i.fdiv j)) H) : rFdX W (.int i) (.int j) H Q := by
  by_cases e : j = 0
  · exact ⟨i, j, rfl, rfl, .inr ⟨e, h0 e⟩⟩
  · exact ⟨i, j, rfl, rfl, .inl ⟨e, hl.log' (by decide), h e⟩⟩
/-- isinstance(x, (c1, ..)) -/
theorem w_isiT {K : PySem.W.Frag} {x : V} {tp : Addr} {cs : List V} {t : Value} {us : List Value} {b : Bool} {H : Hp} {Q : VK} (u : H tp = some (.tup cs)) (k : Paired ClsV cs us) (ty : TyX K H x t) (e : PySem.W.kitAny K t us = some b) (h : Q (.bl b) H) : rIsiT K [x, .ref tp] H Q := ⟨x, tp, cs, t, us, b, rfl, u, k, ty, e, h⟩
theorem kitAny_hit {K : PySem.W.Frag} {t c : Value} {r : List Value} (h : PySem.W.kitOne K t c = some true) : PySem.W.kitAny K t (c :: r) = some true := by
  unfold PySem.W.kitAny
  rw [h]
theorem kitAny_miss {K : PySem.W.Frag} {t c : Value} {r : List Value} {b : Bool} (h : PySem.W.kitOne K t c = some false) (h' : PySem.W.kitAny K t r = some b) : PySem.W.kitAny K t (c :: r) = some b := by
  conv => lhs; unfold PySem.W.kitAny
  rw [h]
  exact h'
end
/-- a list comprehension -/
theorem w_lc {wi : TI} {g : TG} {tt : TT} {te : TE} {vs : List Nat} {σ : L2.St} {H : Hp} {Q : VK} (h : wi σ H fun J H1 => ∀ D, H1 D = none → ∃ W : Nat → Nat → Hp → Prop, (∃ m, W 0 m (upd H1 D (.lst []))) ∧ ∀ i m H, W i m H →
  (J.stop i H ∧ Q (.ref D) H) ∨ (J.go i H ∧ ∃ Nx : Hp → Prop, (∀ H', Nx H' → ∃ m', m' < m ∧ W (i + 1) m' H') ∧ ∀ x H', J.yld i H x H' → g x (L2.wipe σ vs) H' fun σ2 H2 => L2.wipe σ2 vs = L2.wipe σ vs ∧ tt σ2 H2 fun b H3 =>
    if b = true then te σ2 H3 fun y H4 => ∃ acc, H4 D = some (.lst acc) ∧ acc.length < sizeLine ∧ Nx (upd H4 D (.lst (acc ++ [y]))) else Nx H3)) : tLc wi g tt te vs σ H Q := h
/-- str(i) -/
def rStrI : List V → Hp → VK → Prop := fun xs H Q => ∃ i, xs = [.int i] ∧ i.natAbs.log2 < 1920 ∧ Q (.str (toString i)) H
theorem call_strR {X : Cx} : CallR X (.type "str") rStrI := call_str_int
theorem w_strI {i : Int} {H : Hp} {Q : VK} (b : Bn 1900 i) (k : Q (.str (toString i)) H) : rStrI [.int i] H Q := ⟨i, rfl, b.log' (by decide), k⟩
end AT

end

section
/-! abs, bool of an own class; methods in a try. -/
namespace AT
open PySem PySem.Spec PyProof.Rows L2
/-- abs(x) by x's own method, bool(x) likewise -/
def rOwn1 (C : Addr) (sp : Sp) (E : XK) : List V → Hp → VK → Prop := fun xs H Q => ∃ a dx fs, xs = [.ref a] ∧ H a = some (.ins C dx fs) ∧ sp [.ref a] H Q E
def rOwnB (C : Addr) (sp : Sp) (E : XK) : List V → Hp → VK → Prop := fun xs H Q => ∃ a dx fs, xs = [.ref a] ∧ H a = some (.ins C dx fs) ∧ sp [.ref a] H (fun z H' => ∃ k, z = .bl k ∧ Q (.bl k) H') E
section
variable {X : Cx} {CX : CXT} {C g : Addr} {fd : FuncData} {ps : List Str} {n : Nat} {sp : Sp} {E : XK}
theorem run_deep1 {A : Around} {pins : List (Addr × Obj)} {σ : L2.St} {H : Hp} {s : Shared} {Q : VK} {x : V} {u : Value} (F : FnOk X.prog X.w X.K X.mg X.base CX n g fd ps sp) (hr : Room n A) (e0 : Env0 X.prog X.w X.K X.mg X.base A X.stack s H) (hb : Binds X.K fd ps []) (hx : Passes CX X E)
    (I : Inv X pins σ H s) (rx : RelV x u) (h : sp [x] H Q E) : wpAny (model X.prog X.w) A (call (.ref g) [u]) (EP X pins σ Q) X.xe s := by
  have r2 : Vals [x] [u] := .cons rx .nil
  have hl : [u].length = ps.length := by rw [← r2.length]; exact F.len _ _ _ _ h
  refine wpAny_call (codeAny_mono (F.run A X.stack s H ⟨[u], []⟩ [u] [x] Q E hr e0 (by have := hb s [u] I.kIn (by simpa using hl); simpa using this) r2 h) fun r s' hq => ?_)
  cases r with
  | error e => exact hx pins σ H s e s' I hq
  | ok fl => cases fl with
    | ret w => exact I.after hq
    | next => exact (show False from hq).elim
    | brk => exact (show False from hq).elim
    | cont => exact (show False from hq).elim
theorem call_absOwn (m : OwnM X.K C g "__abs__") (F : FnOk X.prog X.w X.K X.mg X.base CX n g fd ps sp) (hr : Room (n + 1) X.A) (hb : Binds X.K fd ps []) (hx : Passes CX X E) : CallR X (.builtin "abs") (rOwn1 C sp E) := by
  intro pins s σ H xs us Q I r h
  obtain ⟨a, dx, fs, rfl, ha, q⟩ := h
  obtain ⟨u, rfl, r1⟩ := vals1 r
  cases (show u = Value.ref a from r1)
  obtain ⟨od, J⟩ := inst_at I ha
  refine PySem.Calls.call_function_entry kind_abs plain_abs entry_abs (args_abs _) ?_
  unfold Builtin.«abs»
  refine wpAny_bind (m := oneArg "abs" _) (wpAny_pure ?_)
  refine wpAny_bind (m := callSpecial? (.ref a) (Str.ofString "__abs__")) (PySem.W.special_fn I.kIn J m.at_ (beq_iff_eq.mp m.fn) (thn (run_deep1 F hr.in1 I.env0.in1 hb hx I rel_ref q) fun w s' z => ?_))
  exact wpAny_pure ⟨w, rfl, z⟩
theorem tru_own {A : Around} {pins : List (Addr × Obj)} {σ : L2.St} {H : Hp} {s : Shared} {Q : Bool → Hp → Prop} {a dx : Addr} {fs : List (Str × V)} (m : OwnM X.K C g "__bool__") (F : FnOk X.prog X.w X.K X.mg X.base CX n g fd ps sp) (hr : Room n A) (e0 : Env0 X.prog X.w X.K X.mg X.base A X.stack s H) (hb : Binds X.K fd ps []) (hx : Passes CX X E)
    (I : Inv X pins σ H s) (ha : H a = some (.ins C dx fs)) (h : sp [.ref a] H (fun z H' => ∃ k, z = .bl k ∧ Q k H') E) : wpAny (model X.prog X.w) A (truthy (.ref a)) (TP X pins σ Q) X.xe s := by
  obtain ⟨od, J⟩ := inst_at I ha
  unfold truthy
  have main : ∀ {Q' : Option Value → Shared → Prop}, (∀ (k : Bool) s', TP X pins σ Q k s' → Q' (some (.bool k)) s') → wpAny (model X.prog X.w) A (callSpecial? (.ref a) (Str.ofString "__bool__")) Q' X.xe s := fun {Q'} hq =>
    PySem.W.special_fn I.kIn J m.at_ (beq_iff_eq.mp m.fn) (thn (run_deep1 F hr e0 hb hx I rel_ref h) fun w s' z => by
      obtain ⟨z', H', I', rz, k, rfl, qz⟩ := z
      cases (show w = Value.bool k from rz)
      exact hq k s' ⟨H', I', qz⟩)
  first
    | refine wpAny_bind (main fun k s' z => ?_)
    | refine wpAny_bind (wpAny_pure (wpAny_bind (main fun k s' z => ?_)))
  exact wpAny_pure z
theorem call_boolOwn (m : OwnM X.K C g "__bool__") (F : FnOk X.prog X.w X.K X.mg X.base CX n g fd ps sp) (hr : Room (n + 2) X.A) (hb : Binds X.K fd ps []) (hx : Passes CX X E) : CallR X (.type "bool") (rOwnB C sp E) := by
  intro pins s σ H xs us Q I r h
  obtain ⟨a, dx, fs, rfl, ha, q⟩ := h
  obtain ⟨u, rfl, r1⟩ := vals1 r
  cases (show u = Value.ref a from r1)
  refine callType_newIn (S := fun A R s => wpAny (model X.prog X.w) A.in1 (truthy (.ref a)) (fun b s' => R (.ok (.ret (.bool b))) s') (fun e s' => R (.error e) s') s) PySem.F.called_bool PySem.F.newNe_bool (PySem.F.typeCall_bool_1 _) (PySem.F.newCall_bool_1 _) (fun obj => PySem.F.args_object_init_2 obj _) PySem.F.entry_bool_new
    (MeetsIn.of_wp fun A R s hs => ?_) ?_
  · obtain ⟨hp, g, d, tk, os⟩ := s
    have f1 := PySem.F.conv_sub_bool
    repeat (any_goals (first | assumption | with_reducible refine wpAny_mono hs (fun b s' z => ?_) (fun _ _ z => z) | wp_step))
    all_goals exact ⟨_, rfl, z⟩
  · show wpAny _ _ _ _ _ _
    refine wpAny_mono (tru_own (Q := fun k H' => Q (.bl k) H') m F hr.in1.in1 I.env0.in1.in1 hb hx I ha q) (fun b s' z => ?_) (fun _ _ z => z)
    obtain ⟨H', I', qz⟩ := z
    exact ⟨rfl, .bl b, H', I', rfl, qz⟩
/-- o.m(e, ..) in a try -/
def tMethS (C : Addr) (m : Str) (sp : Sp) (dvs : List V) (E : L2.St → XK) (ta : TE) (t : TA) : TE := fun σ H Q => ta σ H fun x H1 => ∃ a dx fs, x = .ref a ∧ H1 a = some (.ins C dx fs) ∧ fs.lookup m = none ∧ t σ H1 fun vs H2 => sp (.ref a :: (vs ++ dvs)) H2 Q (E σ)
theorem pe_methA {f : Addr} {m : Str} {o e : Expr} {es : List Expr} {E : L2.St → XK} {ta : TE} {t : TA} {apos pos : Pos} {pl : Sem Bool} (he : PE X o ta) (c : Cls X.K C) (hm : Meth X.K C m f) (F : FnOk X.prog X.w X.K X.mg X.base CX n f fd ps sp) (hr : Room n X.A) (hb : Binds X.K fd ps []) (hx : ∀ σ, PassesAt CX X σ (E σ)) (ha : PA X (e :: es) t)
    (hst : starEach (e :: es) X.env = (false, eval e X.env) :: starEach es X.env := by rfl) (hpl : (backTo pos (starEach es X.env)).any (·.1) = false := by rfl)
    (ht : eval (.Call (.Attribute o m apos) (e :: es) [] pos) X.env = (do
      let ov ← eval o X.env
      standAt apos.atName
      let (f, first) ← holding [ov] (getMethod ov m pl)
      callWith pos f first (backTo pos (starEach (e :: es) X.env)) (backToKw pos (keywordEach [] X.env))) := by rfl) :
    PE X (.Call (.Attribute o m apos) (e :: es) [] pos) (tMethS C m sp [] E ta t) := by
  refine ⟨fun pins s σ H Q I h => ?_⟩
  refine PySem.W.methodCall_KW (pl := pl) (thn (he.run pins s σ H _ I h) fun u s1 ⟨x, H1, I1, rx, a, dx, fs, ex, ea, l, q⟩ => ?_) ht
  subst ex
  obtain rfl : u = Value.ref a := rx
  refine getmeth_ok I1 ea c hm l ?_
  refine PySem.W.callWith_K (first := [.ref a]) (h₀ := X.base) I.ok.mod.kin hm.kp (thn (ha.run pos pins s1 σ H1 _ I1 q) fun us s2 ⟨vs, H2, I2, r, q2⟩ => ⟨I2.kIn, ?_⟩) hst hpl
  exact run_fnS (us := .ref a :: us) (vs := .ref a :: vs) F hr hb (hx σ) I2 (.cons rfl r) (by simpa using q2)
theorem w_methS {m : Str} {E : L2.St → XK} {ta : TE} {t : TA} {dvs : List V} {σ : L2.St} {H : Hp} {Q : VK} (h : ta σ H fun x H1 => ∃ a dx fs, x = .ref a ∧ H1 a = some (.ins C dx fs) ∧ fs.lookup m = none ∧ t σ H1 fun vs H2 => sp (.ref a :: (vs ++ dvs)) H2 Q (E σ)) : tMethS C m sp dvs E ta t σ H Q := h
/-- -x, named -/
theorem w_gtup {K : PySem.W.Frag} {k : Nat} {t : TGs} {p : Addr} {xs : List V} {σ : L2.St} {H : Hp} {Q : L2.St → Hp → Prop} (u : SqT K H p xs) (e : xs.length = k) (h : t xs σ H Q) : gTup K k t (.ref p) σ H Q := ⟨p, xs, rfl, u, e, h⟩
end
end AT

end

section
/-! Own exceptions as values: making one, reading its attributes, asking its kind. -/
namespace AT
open PySem PySem.Spec PyProof.Rows L2
/-- C(e, ..), an own exception with its own __init__ -/
def rMkV (C : Addr) (sp : Sp) : List V → Hp → VK → Prop := fun vs H1 Q => vs.length ≤ 1000 ∧ ∀ a, H1 a = none → sp (.ref a :: vs) (upd H1 a (exo a C none)) (fun v H2 => v = .non ∧ Q (.ref a) H2) (fun _ _ _ => False)
def tMkV (C : Addr) (sp : Sp) (t : TA) : TE := fun σ H Q => t σ H fun vs H1 => rMkV C sp vs H1 Q
/-- C(), an own exception without -/
def rMkV0 (C : Addr) : Hp → VK → Prop := fun H Q => ∀ a, H a = none → Q (.ref a) (upd H a (exo a C none))
def tMkV0 (C : Addr) : TE := fun _ H Q => rMkV0 C H Q
/-- e.f -/
def rXv (C : Addr) (f : Str) : V → Hp → VK → Prop := fun x H Q => ∃ (a d : Addr) (fs : List (Str × V)) (v : V), x = .ref a ∧ H a = some (exo a C (some d)) ∧ H d = some (exd d fs) ∧ fs.lookup f = some v ∧ Q v H
def tXv (C : Addr) (f : Str) (te : TE) : TE := fun σ H Q => te σ H fun x H1 => rXv C f x H1 Q
/-- isinstance(e, c) -/
def rIsX (K : PySem.W.Frag) : List V → Hp → VK → Prop := fun xs H Q => ∃ (a C : Addr) (c : V) (u : Value) (b : Bool), xs = [.ref a, c] ∧ (H a = some (exo a C none) ∨ ∃ d fs, H a = some (exo a C (some d)) ∧ H d = some (exd d fs)) ∧ ExcC K C ∧ ClsV c u ∧ PySem.W.kitOne K (.ref C) u = some b ∧ Q (.bl b) H
section
variable {X : Cx} {e : Expr} {es : List Expr} {te : TE} {ta : TA} {p pos : Pos}
theorem pe_exV {CX : CXT} {x : Str} {C fI : Addr} {k : Nat} {fd : FuncData} {ps : List Str} {sp : Sp} (T : OexC X.K C) (iC : PySem.W.findIn X.K (.ref C) "__init__" = some (some (.ref fI))) (tI : PySem.W.typeIn X.K (.ref fI) = some (.type "function"))
    (F1 : FnOk X.prog X.w X.K X.mg X.base CX k fI fd ps sp) (hr : Room (k + 1) X.A) (hb : Binds X.K fd ps []) (hx : Passes CX X (fun _ _ _ => False)) (hg : Gl X x) (hm : X.mg x = some (.ref C)) (ha : PA X (e :: es) ta)
    (hdb : (x == ("__debug__" : Str)) = false := by decide) (he : starEach (e :: es) X.env = (false, eval e X.env) :: starEach es X.env := by rfl) (hpl : (backTo pos (starEach es X.env)).any (·.1) = false := by rfl) :
    PE X (.Call (.Name x p) (e :: es) [] pos) (tMkV C sp ta) := by
  refine ⟨fun pins s σ H Q I h => ?_⟩
  obtain ⟨nm, q, N, bs, bm, sn, sub, ab, col, dd, k0, k1, k2, k3, k5, hC, hbm⟩ := T.cls
  refine wpAny_Call_Name_kw (ld_glob I hg hm ?_ hdb)
  refine PySem.W.callWith_K (h₀ := X.base) I.ok.mod.kin T.kC (thn (ha.run pos pins s σ H _ I h) fun us s1 ⟨vs, H1, I1, r1, hz, q1⟩ => ⟨I1.kIn, ?_⟩) he hpl
  show wpAny _ _ (call (.ref C) us) _ _ _
  obtain ⟨hp, g, dr, tk, os⟩ := s1
  have hsz : hp.objs.size ≤ hp.objs.size + 1 := Nat.le_succ _
  have hn : H1 (hp.objs.size + 1) = none := I1.hok.fresh hsz
  have hq := q1 (hp.objs.size + 1) hn
  have kk : ∀ b o, hp.get? b = some o → ((hp.push (PySem.W.kdv_tup us)).push (PySem.HandSPX.excO C hp.objs.size)).get? b = some o := fun b o e => Heap.get?_push_of_some _ (Heap.get?_push_of_some _ e)
  have hget : ((hp.push (PySem.W.kdv_tup us)).push (PySem.HandSPX.excO C hp.objs.size)).get? (hp.objs.size + 1) = some (PySem.HandSPX.excO C hp.objs.size) := by heap_get
  have I2 : Inv X pins σ (upd H1 (hp.objs.size + 1) (exo (hp.objs.size + 1) C none)) ⟨(hp.push (PySem.W.kdv_tup us)).push (PySem.HandSPX.excO C hp.objs.size), g, dr, tk, os⟩ :=
    I1.laid (t' := tk) (a := hp.objs.size + 1) (o := exo (hp.objs.size + 1) C none) (h' := (hp.push (PySem.W.kdv_tup us)).push (PySem.HandSPX.excO C hp.objs.size)) kk hsz (exo_ok hget)
  have r2 : Vals (V.ref (hp.objs.size + 1) :: vs) (Value.ref (hp.objs.size + 1) :: us) := .cons rfl r1
  have hl : (Value.ref (hp.objs.size + 1) :: us).length = ps.length := by
    have e := r2.length
    rw [F1.len _ _ _ _ hq] at e
    exact e.symm
  have hus : us.length ≤ sizeLine := by
    rw [← Paired.length r1, sizeLine_eq]
    omega
  refine wpAny_call (PySem.HandSPX.call_own PySem.F.excBase_ValueError (fun Y => PySem.HandSPX.refsVE_contains Y bm hbm) (I1.kIn _ _ hC) (PySem.W.looks_findIn I1.kIn iC) (fun self => PySem.W.bind_fn I1.kIn self tI) hus
    (codeAny_mono (F1.run _ X.stack _ _ ⟨Value.ref (hp.objs.size + 1) :: us, []⟩ (Value.ref (hp.objs.size + 1) :: us) _ _ (fun _ _ _ => False) (hr.make C us []) (I2.env0.make C us []) (by have := hb _ (Value.ref (hp.objs.size + 1) :: us) I2.kIn (by simpa using hl); simpa using this) r2 hq) fun r s' hq' => ?_))
  cases r with
  | error er => exact hx pins σ _ _ er s' I2 hq'
  | ok fl =>
    cases fl with
    | ret u =>
      obtain ⟨v, H2, I3, rv, ev, q2⟩ := I2.after hq'
      subst ev
      exact ⟨rv, V.ref (hp.objs.size + 1), H2, I3, rfl, q2⟩
    | next => exact False.elim hq'
    | brk => exact False.elim hq'
    | cont => exact False.elim hq'
theorem pe_exV0 {C : Addr} {bmB : List Value} {B newId initId : String} {x : Str} (F : ExcBaseFacts B newId initId bmB) (q : PySem.W.excIn X.K C bmB newId = true) (kC : PySem.W.keepIn X.K (.ref C) = true) (hg : Gl X x) (gC : X.mg x = some (.ref C))
    (hdb : (x == ("__debug__" : Str)) = false := by decide) : PE X (.Call (.Name x p) [] [] pos) (tMkV0 C) := by
  refine ⟨fun pins s σ H Q I h => ?_⟩
  refine wpAny_Call_Name_kw (ld_glob I hg gC ?_ hdb)
  refine PySem.W.callWith_K0 I.kIn kC ?_
  obtain ⟨bm, N, nm, qn, bs, hdct, sn, sub, ab, col, dd, k0, k1, k2, k3, k5, mN, hC, hN, hni, T⟩ := exc_obj I.kIn q
  obtain ⟨hp, g, dr, tk, os⟩ := s
  refine wpAny_call_exc_subT F T hC hN hni (fun h' e hm => ?_) (by show 0 ≤ sizeLine; omega)
  obtain ⟨t, he, _, _⟩ := hm.there
  exact ⟨.ref e, _, I.laidN (t' := tk) hm.keeps hm.new (I.hok.gone hm.new) (exo_ok he), rfl, h e (I.hok.gone hm.new)⟩
theorem pe_xv {C : Addr} {n : Str} (T : XfC X.K C) (hno : PySem.W.findIn X.K (.ref C) n = some none) (he : PE X e te) (hb : attributeBase e n X.env (eval e X.env) = eval e X.env := by rfl) : PE X (.Attribute e n pos) (tXv C n te) := by
  refine ⟨fun pins s σ H Q I h => ?_⟩
  refine attr_of hb (thn (he.run pins s σ H _ I h) fun u s1 hh => ?_)
  obtain ⟨x, H1, I1, rx, a, dd, fs, v, ex, ea, ed, l, q⟩ := hh
  subst ex
  obtain rfl : u = Value.ref a := rx
  obtain ⟨t1, ha⟩ := exo_at I1.hok ea
  obtain ⟨mA, hns, hr⟩ := exd_at I1.hok ed
  obtain ⟨od, ho, hl⟩ := lookIn_ns hns
  obtain ⟨u, hu, ru⟩ := RelO.some_of (v := v) (o := mA n) (by rw [← l]; exact hr n)
  have J : PySem.W.InstAt s1.heap a _ C (some od) := ⟨ha, rfl, rfl, ho⟩
  exact HandSPX.exc_get I1.kIn J T.ga T.gg T.exC (PySem.W.findObj_own T.hdC hno rfl (by rw [hl, hu])) (handed_of ru) ⟨v, H1, I1.tok _, ru, q⟩
theorem call_isX : CallR X (.builtin "isinstance") (rIsX X.K) := by
  intro pins s σ H xs us Q I r h
  obtain ⟨a, C, c, u, b, rfl, hx, T, k, ek, q⟩ := h
  obtain ⟨u1, u2, rfl, r1, r2⟩ := vals2 r
  cases (show u1 = Value.ref a from r1)
  have e2 := k.eq r2
  subst e2
  rcases hx with ha | ⟨d, fs, ha, hd⟩
  · obtain ⟨t1, hg⟩ := exo_at I.hok ha
    have J : PySem.W.InstAt s.heap a _ C none := ⟨hg, rfl, rfl, True.intro⟩
    exact PySem.W.kia_one (PySem.W.handS_kitx_exc T.hg T.hk T.hs T.hd T.ha T.hn T.ht T.hm) I.kIn J ek (fun z => nomatch z) fun tk => ⟨.bl b, H, I.tok tk, rfl, q⟩
  · obtain ⟨t1, hg⟩ := exo_at I.hok ha
    obtain ⟨mA, hns, _⟩ := exd_at I.hok hd
    obtain ⟨od, ho, _⟩ := lookIn_ns hns
    have J : PySem.W.InstAt s.heap a _ C (some od) := ⟨hg, rfl, rfl, ho⟩
    obtain ⟨cd, hc, _⟩ := PySem.W.any_some T.hd
    exact PySem.W.kia_one (PySem.W.kitx_exc (Option.isSome_iff_exists.mpr ⟨cd, hc⟩) T.hg T.hk T.hs T.ha T.hn T.ht T.hm) I.kIn J ek (fun z => nomatch z) fun tk => ⟨.bl b, H, I.tok tk, rfl, q⟩
end
/-- the kinds of an own error -/
def mroE (C A : Addr) : List Value := [.ref C, .ref A, .type "ValueError", .type "Exception", .type "BaseException", .type "object"]
structure ErrO (K : PySem.W.Frag) (A C : Addr) : Prop where
  mro : ∃ cd, PySem.W.clsIn K C = some cd ∧ cd.mro = mroE C A
  hg : PySem.W.findIn K (.ref C) "__getattribute__" = some (some (.builtin "BaseException.__getattribute__"))
  hk : PySem.W.findIn K (.ref C) "__getattr__" = some none
  hd : PySem.W.hasDictIn K C = true
  ha : PySem.W.findIn K (.ref C) "__class__" = some (some (.builtin "object.__class__"))
  hn : PySem.W.specialIn K (.builtin "object.__class__") "__get__" = some (some (.builtin "getset_descriptor.__get__"))
  ht : PySem.W.takesIn K (.builtin "object.__class__") = some true
  ty : PySem.W.typeIn K (.ref C) = some (.type "type")
theorem ErrO.sub {K : PySem.W.Frag} {A C : Addr} (o : ErrO K A C) (c : Value) : PySem.W.subIn K (.ref C) c = some ((mroE C A).contains c) := by
  obtain ⟨cd, h1, h2⟩ := o.mro
  show PySem.W.mroIn K C c = _
  unfold PySem.W.mroIn
  rw [h1]
  show (if cd.mro.isEmpty then none else some (cd.mro.contains c)) = _
  rw [h2]
  rfl
theorem ErrO.isC {K : PySem.W.Frag} {A C : Addr} (o : ErrO K A C) : PySem.W.isClsIn K C = true := by
  obtain ⟨cd, h1, h2⟩ := o.mro
  show (PySem.W.clsIn K C).isSome = true
  rw [h1]
  rfl
theorem ErrO.exc {K : PySem.W.Frag} {A C : Addr} (o : ErrO K A C) : ExcC K C := ⟨o.hg, o.hk, by rw [o.sub]; simp [mroE], o.hd, o.ha, o.hn, o.ht, (o.sub (.type "object")).trans (by simp [mroE])⟩
theorem ErrO.kit {K : PySem.W.Frag} {A C D : Addr} (o : ErrO K A C) (od : ErrO K A D) (h : D ≠ A) : PySem.W.kitOne K (.ref C) (.ref D) = some (decide (C = D)) := by
  by_cases e : C = D
  · subst e
    rw [kit_self, decide_eq_true rfl]
  · have hne : (Value.ref C == Value.ref D) = false := Bool.eq_false_iff.mpr fun q => by cases beq_iff_eq.mp q; exact e rfl
    rw [kit_own od.isC od.ty (o.sub _) hne, decide_eq_false e]
    have h' : ¬ D = C := fun z => e z.symm
    simp [mroE, h, h']
theorem ErrO.kitA {K : PySem.W.Frag} {A C : Addr} (o : ErrO K A C) (i : PySem.W.isClsIn K A = true) (t : PySem.W.typeIn K (.ref A) = some (.type "type")) (h : C ≠ A) : PySem.W.kitOne K (.ref C) (.ref A) = some true := by
  have hne : (Value.ref C == Value.ref A) = false := Bool.eq_false_iff.mpr fun q => by cases beq_iff_eq.mp q; exact h rfl
  rw [kit_own i t (o.sub _) hne]
  simp [mroE]
theorem ErrO.kitV {K : PySem.W.Frag} {A C : Addr} (o : ErrO K A C) : PySem.W.kitOne K (.ref C) (.type "ValueError") = some true := by
  rw [kit_insTy (o.sub _) (by decide +kernel)]
  simp [mroE]
/-- what stands of an error: itself, perhaps its dict -/
def IsEx (H : Hp) (a C : Addr) : Prop := H a = some (exo a C none) ∨ ∃ d fs, H a = some (exo a C (some d)) ∧ H d = some (exd d fs)
theorem IsEx.up {H H' : Hp} {a C : Addr} (e : Ext H H') (h : IsEx H a C) : IsEx H' a C := h.imp (fun h => e _ _ h) fun ⟨d, fs, h1, h2⟩ => ⟨d, fs, e _ _ h1, e _ _ h2⟩
def ExAt (H : Hp) (a C : Addr) (fs : List (Str × V)) : Prop := ∃ d, H a = some (exo a C (some d)) ∧ H d = some (exd d fs)
theorem ExAt.up {H H' : Hp} {a C : Addr} {fs : List (Str × V)} (e : Ext H H') (h : ExAt H a C fs) : ExAt H' a C fs := by
  obtain ⟨d, h1, h2⟩ := h
  exact ⟨d, e _ _ h1, e _ _ h2⟩
theorem ExAt.is {H : Hp} {a C : Addr} {fs : List (Str × V)} (h : ExAt H a C fs) : IsEx H a C := by
  obtain ⟨d, h1, h2⟩ := h
  exact .inr ⟨d, fs, h1, h2⟩
/-- an error's own __init__: fs its attributes -/
def spErr (C : Addr) (fs : List Str) : Sp := fun vs H Q _ => ∃ (a : Addr) (xs : List V), vs = .ref a :: xs ∧ xs.length = fs.length ∧ H a = some (exo a C none) ∧
  ∀ d H', H d = none → H' a = some (exo a C (some d)) → H' d = some (exd d (fs.zip xs).reverse) → (∀ b o, H b = some o → b ≠ a → H' b = some o) → Q .non H'
section
variable {K : PySem.W.Frag} {H : Hp} {Q : VK} {a C : Addr} {fs : List Str} {vs : List V} {f : Str} {v c : V} {u : Value} {b : Bool} {l : List (Str × V)}
theorem w_mkV (e : vs.length = fs.length) (z : fs.length ≤ 1000) (k : ∀ a H', Ext H H' → ExAt H' a C (fs.zip vs).reverse → Q (.ref a) H') : rMkV C (spErr C fs) vs H Q := by
  refine ⟨by omega, fun a na => ⟨a, vs, rfl, e, upd_same, fun d H' nd h1 h2 kp => ⟨rfl, k a H' (fun q o eo => ?_) ⟨d, h1, h2⟩⟩⟩⟩
  exact kp q o (by rw [upd_ne (ne_of_none eo na)]; exact eo) (ne_of_none eo na)
theorem w_mkV0 (k : ∀ a H', Ext H H' → IsEx H' a C → Q (.ref a) H') : rMkV0 C H Q := fun a na => k a _ (Ext.new na) (.inl upd_same)
theorem w_xv (x : ExAt H a C l) (e : l.lookup f = some v) (k : Q v H) : rXv C f (.ref a) H Q := by
  obtain ⟨d, h1, h2⟩ := x
  exact ⟨a, d, l, v, rfl, h1, h2, e, k⟩
theorem w_isX (x : IsEx H a C) (o : ExcC K C) (kc : ClsV c u) (e : PySem.W.kitOne K (.ref C) u = some b) (k : Q (.bl b) H) : rIsX K [.ref a, c] H Q := ⟨a, C, c, u, b, rfl, x, o, kc, e, k⟩
theorem w_tMkV {sp : Sp} {t : TA} {σ : L2.St} (h : t σ H fun vs H1 => rMkV C sp vs H1 Q) : tMkV C sp t σ H Q := h
theorem w_tMkV0 {σ : L2.St} (h : rMkV0 C H Q) : tMkV0 C σ H Q := h
theorem w_tXv {te : TE} {σ : L2.St} (h : te σ H fun x H1 => rXv C f x H1 Q) : tXv C f te σ H Q := h
end
end AT

end
namespace AT
open PySem L2
def top (i : Nat) : Stmt := PySem.Challenge.pw_anytune_k01_errors.main.body.getD i (.Pass ⟨0, 0, 0, 0⟩)
abbrev s_NoMoment___init__ : Stmt := inClass (top 2) 0
theorem sc_NoMoment___init__ : FnScope ["self", "top", "bottom"] ["self", "top", "bottom"] (defScope s_NoMoment___init__) := ⟨rfl, rfl, rfl, by decide +kernel, rfl, by decide +kernel, by decide +kernel⟩
abbrev s_NoMark___init__ : Stmt := inClass (top 4) 0
theorem sc_NoMark___init__ : FnScope ["self", "tone", "begin", "end"] ["self", "tone", "begin", "end"] (defScope s_NoMark___init__) := ⟨rfl, rfl, rfl, by decide +kernel, rfl, by decide +kernel, by decide +kernel⟩
abbrev s_NoWindow___init__ : Stmt := inClass (top 8) 0
theorem sc_NoWindow___init__ : FnScope ["self", "begin", "end", "rounds"] ["self", "begin", "end", "rounds"] (defScope s_NoWindow___init__) := ⟨rfl, rfl, rfl, by decide +kernel, rfl, by decide +kernel, by decide +kernel⟩
abbrev s_NoPace___init__ : Stmt := inClass (top 14) 0
theorem sc_NoPace___init__ : FnScope ["self", "hole", "speed"] ["self", "hole", "speed"] (defScope s_NoPace___init__) := ⟨rfl, rfl, rfl, by decide +kernel, rfl, by decide +kernel, by decide +kernel⟩
abbrev s_Lost___init__ : Stmt := inClass (top 19) 0
theorem sc_Lost___init__ : FnScope ["self", "start", "stop"] ["self", "start", "stop"] (defScope s_Lost___init__) := ⟨rfl, rfl, rfl, by decide +kernel, rfl, by decide +kernel, by decide +kernel⟩
abbrev s_LooksAhead___init__ : Stmt := inClass (top 20) 0
theorem sc_LooksAhead___init__ : FnScope ["self", "name", "hole"] ["self", "name", "hole"] (defScope s_LooksAhead___init__) := ⟨rfl, rfl, rfl, by decide +kernel, rfl, by decide +kernel, by decide +kernel⟩
abbrev s_NoText___init__ : Stmt := inClass (top 3) 0
theorem sc_NoText___init__ : FnScope ["self", "text"] ["self", "text"] (defScope s_NoText___init__) := ⟨rfl, rfl, rfl, by decide +kernel, rfl, by decide +kernel, by decide +kernel⟩
abbrev s_NoRounds___init__ : Stmt := inClass (top 5) 0
theorem sc_NoRounds___init__ : FnScope ["self", "rounds"] ["self", "rounds"] (defScope s_NoRounds___init__) := ⟨rfl, rfl, rfl, by decide +kernel, rfl, by decide +kernel, by decide +kernel⟩
abbrev s_NoName___init__ : Stmt := inClass (top 6) 0
theorem sc_NoName___init__ : FnScope ["self", "name"] ["self", "name"] (defScope s_NoName___init__) := ⟨rfl, rfl, rfl, by decide +kernel, rfl, by decide +kernel, by decide +kernel⟩
abbrev s_BadPace___init__ : Stmt := inClass (top 7) 0
theorem sc_BadPace___init__ : FnScope ["self", "pace"] ["self", "pace"] (defScope s_BadPace___init__) := ⟨rfl, rfl, rfl, by decide +kernel, rfl, by decide +kernel, by decide +kernel⟩
abbrev s_NoStep___init__ : Stmt := inClass (top 9) 0
theorem sc_NoStep___init__ : FnScope ["self", "step"] ["self", "step"] (defScope s_NoStep___init__) := ⟨rfl, rfl, rfl, by decide +kernel, rfl, by decide +kernel, by decide +kernel⟩
abbrev s_Unfilled___init__ : Stmt := inClass (top 11) 0
theorem sc_Unfilled___init__ : FnScope ["self", "name"] ["self", "name"] (defScope s_Unfilled___init__) := ⟨rfl, rfl, rfl, by decide +kernel, rfl, by decide +kernel, by decide +kernel⟩
abbrev s_NoChart___init__ : Stmt := inClass (top 12) 0
theorem sc_NoChart___init__ : FnScope ["self", "line"] ["self", "line"] (defScope s_NoChart___init__) := ⟨rfl, rfl, rfl, by decide +kernel, rfl, by decide +kernel, by decide +kernel⟩
abbrev s_TooSoon___init__ : Stmt := inClass (top 15) 0
theorem sc_TooSoon___init__ : FnScope ["self", "least"] ["self", "least"] (defScope s_TooSoon___init__) := ⟨rfl, rfl, rfl, by decide +kernel, rfl, by decide +kernel, by decide +kernel⟩
abbrev s_NoStretch___init__ : Stmt := inClass (top 16) 0
theorem sc_NoStretch___init__ : FnScope ["self", "until"] ["self", "until"] (defScope s_NoStretch___init__) := ⟨rfl, rfl, rfl, by decide +kernel, rfl, by decide +kernel, by decide +kernel⟩
abbrev s_OutOfWindow___init__ : Stmt := inClass (top 17) 0
theorem sc_OutOfWindow___init__ : FnScope ["self", "name"] ["self", "name"] (defScope s_OutOfWindow___init__) := ⟨rfl, rfl, rfl, by decide +kernel, rfl, by decide +kernel, by decide +kernel⟩
abbrev s_NoMove___init__ : Stmt := inClass (top 18) 0
theorem sc_NoMove___init__ : FnScope ["self", "begin"] ["self", "begin"] (defScope s_NoMove___init__) := ⟨rfl, rfl, rfl, by decide +kernel, rfl, by decide +kernel, by decide +kernel⟩
abbrev s_NoChannel___init__ : Stmt := inClass (top 21) 0
theorem sc_NoChannel___init__ : FnScope ["self", "name"] ["self", "name"] (defScope s_NoChannel___init__) := ⟨rfl, rfl, rfl, by decide +kernel, rfl, by decide +kernel, by decide +kernel⟩
abbrev s_NoSpan___init__ : Stmt := inClass (top 22) 0
theorem sc_NoSpan___init__ : FnScope ["self", "span"] ["self", "span"] (defScope s_NoSpan___init__) := ⟨rfl, rfl, rfl, by decide +kernel, rfl, by decide +kernel, by decide +kernel⟩
abbrev s_Ringed___init__ : Stmt := inClass (top 23) 0
theorem sc_Ringed___init__ : FnScope ["self", "ring"] ["self", "ring"] (defScope s_Ringed___init__) := ⟨rfl, rfl, rfl, by decide +kernel, rfl, by decide +kernel, by decide +kernel⟩
abbrev s__law_cell : Stmt := top 25
theorem sc__law_cell : FnScope ["_law_script", "_law_k"] ["_law_script", "_law_k"] (defScope s__law_cell) := ⟨rfl, rfl, rfl, by decide +kernel, rfl, by decide +kernel, by decide +kernel⟩
abbrev s__law_pairs : Stmt := top 26
theorem sc__law_pairs : FnScope ["_law_a", "_law_b", "_law_c", "_law_moment", "_law_mark", "_law_window", "_law_pace", "_law_lost", "_law_early"] ["_law_a", "_law_b", "_law_c"] (defScope s__law_pairs) := ⟨rfl, rfl, rfl, by decide +kernel, rfl, by decide +kernel, by decide +kernel⟩
abbrev s__law_singles : Stmt := top 27
theorem sc__law_singles : FnScope ["_law_a"] ["_law_a"] (defScope s__law_singles) := ⟨rfl, rfl, rfl, by decide +kernel, rfl, by decide +kernel, by decide +kernel⟩
abbrev s__law_kinds : Stmt := top 28
theorem sc__law_kinds : FnScope ["_law_error"] ["_law_error"] (defScope s__law_kinds) := ⟨rfl, rfl, rfl, by decide +kernel, rfl, by decide +kernel, by decide +kernel⟩
abbrev s_law : Stmt := top 29
theorem sc_law : FnScope ["_law_script", "_law_a", "_law_b", "_law_c", "_law_rows", "_law_at", "_law_error", "_law_actual", "_law_due", "_law_kinds_here", "_law_one"] ["_law_script"] (defScope s_law) := ⟨rfl, rfl, rfl, by decide +kernel, rfl, by decide +kernel, by decide +kernel⟩
structure Tx (K : PySem.W.Frag) (mg : Str → Option Value) where
  a_NoMoment___init__ : Addr
  d_NoMoment___init__ : FuncData
  F_NoMoment___init__ : Fun K "__init__" "NoMoment.__init__" s_NoMoment___init__ a_NoMoment___init__ d_NoMoment___init__
  a_NoMark___init__ : Addr
  d_NoMark___init__ : FuncData
  F_NoMark___init__ : Fun K "__init__" "NoMark.__init__" s_NoMark___init__ a_NoMark___init__ d_NoMark___init__
  a_NoWindow___init__ : Addr
  d_NoWindow___init__ : FuncData
  F_NoWindow___init__ : Fun K "__init__" "NoWindow.__init__" s_NoWindow___init__ a_NoWindow___init__ d_NoWindow___init__
  a_NoPace___init__ : Addr
  d_NoPace___init__ : FuncData
  F_NoPace___init__ : Fun K "__init__" "NoPace.__init__" s_NoPace___init__ a_NoPace___init__ d_NoPace___init__
  a_Lost___init__ : Addr
  d_Lost___init__ : FuncData
  F_Lost___init__ : Fun K "__init__" "Lost.__init__" s_Lost___init__ a_Lost___init__ d_Lost___init__
  a_LooksAhead___init__ : Addr
  d_LooksAhead___init__ : FuncData
  F_LooksAhead___init__ : Fun K "__init__" "LooksAhead.__init__" s_LooksAhead___init__ a_LooksAhead___init__ d_LooksAhead___init__
  a_NoText___init__ : Addr
  d_NoText___init__ : FuncData
  F_NoText___init__ : Fun K "__init__" "NoText.__init__" s_NoText___init__ a_NoText___init__ d_NoText___init__
  a_NoRounds___init__ : Addr
  d_NoRounds___init__ : FuncData
  F_NoRounds___init__ : Fun K "__init__" "NoRounds.__init__" s_NoRounds___init__ a_NoRounds___init__ d_NoRounds___init__
  a_NoName___init__ : Addr
  d_NoName___init__ : FuncData
  F_NoName___init__ : Fun K "__init__" "NoName.__init__" s_NoName___init__ a_NoName___init__ d_NoName___init__
  a_BadPace___init__ : Addr
  d_BadPace___init__ : FuncData
  F_BadPace___init__ : Fun K "__init__" "BadPace.__init__" s_BadPace___init__ a_BadPace___init__ d_BadPace___init__
  a_NoStep___init__ : Addr
  d_NoStep___init__ : FuncData
  F_NoStep___init__ : Fun K "__init__" "NoStep.__init__" s_NoStep___init__ a_NoStep___init__ d_NoStep___init__
  a_Unfilled___init__ : Addr
  d_Unfilled___init__ : FuncData
  F_Unfilled___init__ : Fun K "__init__" "Unfilled.__init__" s_Unfilled___init__ a_Unfilled___init__ d_Unfilled___init__
  a_NoChart___init__ : Addr
  d_NoChart___init__ : FuncData
  F_NoChart___init__ : Fun K "__init__" "NoChart.__init__" s_NoChart___init__ a_NoChart___init__ d_NoChart___init__
  a_TooSoon___init__ : Addr
  d_TooSoon___init__ : FuncData
  F_TooSoon___init__ : Fun K "__init__" "TooSoon.__init__" s_TooSoon___init__ a_TooSoon___init__ d_TooSoon___init__
  a_NoStretch___init__ : Addr
  d_NoStretch___init__ : FuncData
  F_NoStretch___init__ : Fun K "__init__" "NoStretch.__init__" s_NoStretch___init__ a_NoStretch___init__ d_NoStretch___init__
  a_OutOfWindow___init__ : Addr
  d_OutOfWindow___init__ : FuncData
  F_OutOfWindow___init__ : Fun K "__init__" "OutOfWindow.__init__" s_OutOfWindow___init__ a_OutOfWindow___init__ d_OutOfWindow___init__
  a_NoMove___init__ : Addr
  d_NoMove___init__ : FuncData
  F_NoMove___init__ : Fun K "__init__" "NoMove.__init__" s_NoMove___init__ a_NoMove___init__ d_NoMove___init__
  a_NoChannel___init__ : Addr
  d_NoChannel___init__ : FuncData
  F_NoChannel___init__ : Fun K "__init__" "NoChannel.__init__" s_NoChannel___init__ a_NoChannel___init__ d_NoChannel___init__
  a_NoSpan___init__ : Addr
  d_NoSpan___init__ : FuncData
  F_NoSpan___init__ : Fun K "__init__" "NoSpan.__init__" s_NoSpan___init__ a_NoSpan___init__ d_NoSpan___init__
  a_Ringed___init__ : Addr
  d_Ringed___init__ : FuncData
  F_Ringed___init__ : Fun K "__init__" "Ringed.__init__" s_Ringed___init__ a_Ringed___init__ d_Ringed___init__
  a__law_cell : Addr
  d__law_cell : FuncData
  F__law_cell : Fun K "_law_cell" "_law_cell" s__law_cell a__law_cell d__law_cell
  g__law_cell : mg "_law_cell" = some (.ref a__law_cell)
  a__law_pairs : Addr
  d__law_pairs : FuncData
  F__law_pairs : Fun K "_law_pairs" "_law_pairs" s__law_pairs a__law_pairs d__law_pairs
  g__law_pairs : mg "_law_pairs" = some (.ref a__law_pairs)
  a__law_singles : Addr
  d__law_singles : FuncData
  F__law_singles : Fun K "_law_singles" "_law_singles" s__law_singles a__law_singles d__law_singles
  g__law_singles : mg "_law_singles" = some (.ref a__law_singles)
  a__law_kinds : Addr
  d__law_kinds : FuncData
  F__law_kinds : Fun K "_law_kinds" "_law_kinds" s__law_kinds a__law_kinds d__law_kinds
  g__law_kinds : mg "_law_kinds" = some (.ref a__law_kinds)
  a_law : Addr
  d_law : FuncData
  F_law : Fun K "law" "law" s_law a_law d_law
  g_law : mg "law" = some (.ref a_law)
  C_AnytuneError : Addr
  g_AnytuneError : mg "AnytuneError" = some (.ref C_AnytuneError)
  rd_AnytuneError : ClX.CRead K C_AnytuneError (.type "type")
  in_AnytuneError : PySem.W.findCls K (.ref C_AnytuneError) (.type "type") "__init__" = some (.val (.builtin "ValueError.__init__"))
  C_NoMoment : Addr
  g_NoMoment : mg "NoMoment" = some (.ref C_NoMoment)
  ox_NoMoment : OexC K C_NoMoment
  xf_NoMoment : XfC K C_NoMoment
  em_NoMoment : PySem.W.exmOne K (.ref C_NoMoment) (.ref C_NoMoment) = some true
  na_NoMoment_top : PySem.W.findIn K (.ref C_NoMoment) "top" = some none
  na_NoMoment_bottom : PySem.W.findIn K (.ref C_NoMoment) "bottom" = some none
  C_NoMark : Addr
  g_NoMark : mg "NoMark" = some (.ref C_NoMark)
  ox_NoMark : OexC K C_NoMark
  xf_NoMark : XfC K C_NoMark
  em_NoMark : PySem.W.exmOne K (.ref C_NoMark) (.ref C_NoMark) = some true
  na_NoMark_tone : PySem.W.findIn K (.ref C_NoMark) "tone" = some none
  na_NoMark_begin : PySem.W.findIn K (.ref C_NoMark) "begin" = some none
  na_NoMark_end : PySem.W.findIn K (.ref C_NoMark) "end" = some none
  C_NoWindow : Addr
  g_NoWindow : mg "NoWindow" = some (.ref C_NoWindow)
  ox_NoWindow : OexC K C_NoWindow
  xf_NoWindow : XfC K C_NoWindow
  em_NoWindow : PySem.W.exmOne K (.ref C_NoWindow) (.ref C_NoWindow) = some true
  na_NoWindow_begin : PySem.W.findIn K (.ref C_NoWindow) "begin" = some none
  na_NoWindow_end : PySem.W.findIn K (.ref C_NoWindow) "end" = some none
  na_NoWindow_rounds : PySem.W.findIn K (.ref C_NoWindow) "rounds" = some none
  C_NoPace : Addr
  g_NoPace : mg "NoPace" = some (.ref C_NoPace)
  ox_NoPace : OexC K C_NoPace
  xf_NoPace : XfC K C_NoPace
  em_NoPace : PySem.W.exmOne K (.ref C_NoPace) (.ref C_NoPace) = some true
  na_NoPace_hole : PySem.W.findIn K (.ref C_NoPace) "hole" = some none
  na_NoPace_speed : PySem.W.findIn K (.ref C_NoPace) "speed" = some none
  C_Lost : Addr
  g_Lost : mg "Lost" = some (.ref C_Lost)
  ox_Lost : OexC K C_Lost
  xf_Lost : XfC K C_Lost
  em_Lost : PySem.W.exmOne K (.ref C_Lost) (.ref C_Lost) = some true
  na_Lost_start : PySem.W.findIn K (.ref C_Lost) "start" = some none
  na_Lost_stop : PySem.W.findIn K (.ref C_Lost) "stop" = some none
  C_LooksAhead : Addr
  g_LooksAhead : mg "LooksAhead" = some (.ref C_LooksAhead)
  ox_LooksAhead : OexC K C_LooksAhead
  xf_LooksAhead : XfC K C_LooksAhead
  em_LooksAhead : PySem.W.exmOne K (.ref C_LooksAhead) (.ref C_LooksAhead) = some true
  na_LooksAhead_name : PySem.W.findIn K (.ref C_LooksAhead) "name" = some none
  na_LooksAhead_hole : PySem.W.findIn K (.ref C_LooksAhead) "hole" = some none
  C_NoText : Addr
  g_NoText : mg "NoText" = some (.ref C_NoText)
  ox_NoText : OexC K C_NoText
  xf_NoText : XfC K C_NoText
  em_NoText : PySem.W.exmOne K (.ref C_NoText) (.ref C_NoText) = some true
  na_NoText_text : PySem.W.findIn K (.ref C_NoText) "text" = some none
  C_NoRounds : Addr
  g_NoRounds : mg "NoRounds" = some (.ref C_NoRounds)
  ox_NoRounds : OexC K C_NoRounds
  xf_NoRounds : XfC K C_NoRounds
  em_NoRounds : PySem.W.exmOne K (.ref C_NoRounds) (.ref C_NoRounds) = some true
  na_NoRounds_rounds : PySem.W.findIn K (.ref C_NoRounds) "rounds" = some none
  C_NoName : Addr
  g_NoName : mg "NoName" = some (.ref C_NoName)
  ox_NoName : OexC K C_NoName
  xf_NoName : XfC K C_NoName
  em_NoName : PySem.W.exmOne K (.ref C_NoName) (.ref C_NoName) = some true
  na_NoName_name : PySem.W.findIn K (.ref C_NoName) "name" = some none
  C_BadPace : Addr
  g_BadPace : mg "BadPace" = some (.ref C_BadPace)
  ox_BadPace : OexC K C_BadPace
  xf_BadPace : XfC K C_BadPace
  em_BadPace : PySem.W.exmOne K (.ref C_BadPace) (.ref C_BadPace) = some true
  na_BadPace_pace : PySem.W.findIn K (.ref C_BadPace) "pace" = some none
  C_NoStep : Addr
  g_NoStep : mg "NoStep" = some (.ref C_NoStep)
  ox_NoStep : OexC K C_NoStep
  xf_NoStep : XfC K C_NoStep
  em_NoStep : PySem.W.exmOne K (.ref C_NoStep) (.ref C_NoStep) = some true
  na_NoStep_step : PySem.W.findIn K (.ref C_NoStep) "step" = some none
  C_Unfilled : Addr
  g_Unfilled : mg "Unfilled" = some (.ref C_Unfilled)
  ox_Unfilled : OexC K C_Unfilled
  xf_Unfilled : XfC K C_Unfilled
  em_Unfilled : PySem.W.exmOne K (.ref C_Unfilled) (.ref C_Unfilled) = some true
  na_Unfilled_name : PySem.W.findIn K (.ref C_Unfilled) "name" = some none
  C_NoChart : Addr
  g_NoChart : mg "NoChart" = some (.ref C_NoChart)
  ox_NoChart : OexC K C_NoChart
  xf_NoChart : XfC K C_NoChart
  em_NoChart : PySem.W.exmOne K (.ref C_NoChart) (.ref C_NoChart) = some true
  na_NoChart_line : PySem.W.findIn K (.ref C_NoChart) "line" = some none
  C_TooSoon : Addr
  g_TooSoon : mg "TooSoon" = some (.ref C_TooSoon)
  ox_TooSoon : OexC K C_TooSoon
  xf_TooSoon : XfC K C_TooSoon
  em_TooSoon : PySem.W.exmOne K (.ref C_TooSoon) (.ref C_TooSoon) = some true
  na_TooSoon_least : PySem.W.findIn K (.ref C_TooSoon) "least" = some none
  C_NoStretch : Addr
  g_NoStretch : mg "NoStretch" = some (.ref C_NoStretch)
  ox_NoStretch : OexC K C_NoStretch
  xf_NoStretch : XfC K C_NoStretch
  em_NoStretch : PySem.W.exmOne K (.ref C_NoStretch) (.ref C_NoStretch) = some true
  na_NoStretch_until : PySem.W.findIn K (.ref C_NoStretch) "until" = some none
  C_OutOfWindow : Addr
  g_OutOfWindow : mg "OutOfWindow" = some (.ref C_OutOfWindow)
  ox_OutOfWindow : OexC K C_OutOfWindow
  xf_OutOfWindow : XfC K C_OutOfWindow
  em_OutOfWindow : PySem.W.exmOne K (.ref C_OutOfWindow) (.ref C_OutOfWindow) = some true
  na_OutOfWindow_name : PySem.W.findIn K (.ref C_OutOfWindow) "name" = some none
  C_NoMove : Addr
  g_NoMove : mg "NoMove" = some (.ref C_NoMove)
  ox_NoMove : OexC K C_NoMove
  xf_NoMove : XfC K C_NoMove
  em_NoMove : PySem.W.exmOne K (.ref C_NoMove) (.ref C_NoMove) = some true
  na_NoMove_begin : PySem.W.findIn K (.ref C_NoMove) "begin" = some none
  C_NoChannel : Addr
  g_NoChannel : mg "NoChannel" = some (.ref C_NoChannel)
  ox_NoChannel : OexC K C_NoChannel
  xf_NoChannel : XfC K C_NoChannel
  em_NoChannel : PySem.W.exmOne K (.ref C_NoChannel) (.ref C_NoChannel) = some true
  na_NoChannel_name : PySem.W.findIn K (.ref C_NoChannel) "name" = some none
  C_NoSpan : Addr
  g_NoSpan : mg "NoSpan" = some (.ref C_NoSpan)
  ox_NoSpan : OexC K C_NoSpan
  xf_NoSpan : XfC K C_NoSpan
  em_NoSpan : PySem.W.exmOne K (.ref C_NoSpan) (.ref C_NoSpan) = some true
  na_NoSpan_span : PySem.W.findIn K (.ref C_NoSpan) "span" = some none
  C_Ringed : Addr
  g_Ringed : mg "Ringed" = some (.ref C_Ringed)
  ox_Ringed : OexC K C_Ringed
  xf_Ringed : XfC K C_Ringed
  em_Ringed : PySem.W.exmOne K (.ref C_Ringed) (.ref C_Ringed) = some true
  na_Ringed_ring : PySem.W.findIn K (.ref C_Ringed) "ring" = some none
  C_NoTurns : Addr
  g_NoTurns : mg "NoTurns" = some (.ref C_NoTurns)
  q_NoTurns : PySem.W.excIn K C_NoTurns [.type "ValueError", .type "Exception", .type "BaseException", .type "object"] "ValueError.__new__" = true
  kp_NoTurns : PySem.W.keepIn K (.ref C_NoTurns) = true
  tyC_NoTurns : PySem.W.typeIn K (.ref C_NoTurns) = some (.type "type")
  C_NotPlain : Addr
  g_NotPlain : mg "NotPlain" = some (.ref C_NotPlain)
  q_NotPlain : PySem.W.excIn K C_NotPlain [.type "ValueError", .type "Exception", .type "BaseException", .type "object"] "ValueError.__new__" = true
  kp_NotPlain : PySem.W.keepIn K (.ref C_NotPlain) = true
  tyC_NotPlain : PySem.W.typeIn K (.ref C_NotPlain) = some (.type "type")
  eo_NoMoment : ErrO K C_AnytuneError C_NoMoment
  eo_NoMark : ErrO K C_AnytuneError C_NoMark
  eo_NoWindow : ErrO K C_AnytuneError C_NoWindow
  eo_NoPace : ErrO K C_AnytuneError C_NoPace
  eo_Lost : ErrO K C_AnytuneError C_Lost
  eo_LooksAhead : ErrO K C_AnytuneError C_LooksAhead
  eo_NoTurns : ErrO K C_AnytuneError C_NoTurns
  eo_NotPlain : ErrO K C_AnytuneError C_NotPlain
  eo_NoText : ErrO K C_AnytuneError C_NoText
  eo_NoRounds : ErrO K C_AnytuneError C_NoRounds
  eo_NoName : ErrO K C_AnytuneError C_NoName
  eo_BadPace : ErrO K C_AnytuneError C_BadPace
  eo_NoStep : ErrO K C_AnytuneError C_NoStep
  eo_Unfilled : ErrO K C_AnytuneError C_Unfilled
  eo_NoChart : ErrO K C_AnytuneError C_NoChart
  eo_TooSoon : ErrO K C_AnytuneError C_TooSoon
  eo_NoStretch : ErrO K C_AnytuneError C_NoStretch
  eo_OutOfWindow : ErrO K C_AnytuneError C_OutOfWindow
  eo_NoMove : ErrO K C_AnytuneError C_NoMove
  eo_NoChannel : ErrO K C_AnytuneError C_NoChannel
  eo_NoSpan : ErrO K C_AnytuneError C_NoSpan
  eo_Ringed : ErrO K C_AnytuneError C_Ringed
  tyA : PySem.W.typeIn K (.ref C_AnytuneError) = some (.type "type")
  isA : PySem.W.isClsIn K C_AnytuneError = true
  nd : [C_AnytuneError, C_NoMoment, C_NoMark, C_NoWindow, C_NoPace, C_Lost, C_LooksAhead, C_NoTurns, C_NotPlain, C_NoText, C_NoRounds, C_NoName, C_BadPace, C_NoStep, C_Unfilled, C_NoChart, C_TooSoon, C_NoStretch, C_OutOfWindow, C_NoMove, C_NoChannel, C_NoSpan, C_Ringed].Nodup
  m_NoMoment___init__ : OwnM K C_NoMoment a_NoMoment___init__ "__init__"
  m_NoMark___init__ : OwnM K C_NoMark a_NoMark___init__ "__init__"
  m_NoWindow___init__ : OwnM K C_NoWindow a_NoWindow___init__ "__init__"
  m_NoPace___init__ : OwnM K C_NoPace a_NoPace___init__ "__init__"
  m_Lost___init__ : OwnM K C_Lost a_Lost___init__ "__init__"
  m_LooksAhead___init__ : OwnM K C_LooksAhead a_LooksAhead___init__ "__init__"
  m_NoText___init__ : OwnM K C_NoText a_NoText___init__ "__init__"
  m_NoRounds___init__ : OwnM K C_NoRounds a_NoRounds___init__ "__init__"
  m_NoName___init__ : OwnM K C_NoName a_NoName___init__ "__init__"
  m_BadPace___init__ : OwnM K C_BadPace a_BadPace___init__ "__init__"
  m_NoStep___init__ : OwnM K C_NoStep a_NoStep___init__ "__init__"
  m_Unfilled___init__ : OwnM K C_Unfilled a_Unfilled___init__ "__init__"
  m_NoChart___init__ : OwnM K C_NoChart a_NoChart___init__ "__init__"
  m_TooSoon___init__ : OwnM K C_TooSoon a_TooSoon___init__ "__init__"
  m_NoStretch___init__ : OwnM K C_NoStretch a_NoStretch___init__ "__init__"
  m_OutOfWindow___init__ : OwnM K C_OutOfWindow a_OutOfWindow___init__ "__init__"
  m_NoMove___init__ : OwnM K C_NoMove a_NoMove___init__ "__init__"
  m_NoChannel___init__ : OwnM K C_NoChannel a_NoChannel___init__ "__init__"
  m_NoSpan___init__ : OwnM K C_NoSpan a_NoSpan___init__ "__init__"
  m_Ringed___init__ : OwnM K C_Ringed a_Ringed___init__ "__init__"
  n_len : mg "len" = none
  n_isinstance : mg "isinstance" = none
  n_range : mg "range" = none
  n_int : mg "int" = none
  n_ValueError : mg "ValueError" = none
section
variable {K : PySem.W.Frag} {mg : Str → Option Value}
theorem Tx.b_NoMoment___init__ (T : Tx K mg) : Binds K T.d_NoMoment___init__ ["self", "top", "bottom"] [] := T.F_NoMoment___init__.binds (ps := ["self", "top", "bottom"]) fun _ _ _ _ _ _ us hl => match us, hl with | [_, _, _], _ => rfl
theorem Tx.b_NoMark___init__ (T : Tx K mg) : Binds K T.d_NoMark___init__ ["self", "tone", "begin", "end"] [] := T.F_NoMark___init__.binds (ps := ["self", "tone", "begin", "end"]) fun _ _ _ _ _ _ us hl => match us, hl with | [_, _, _, _], _ => rfl
theorem Tx.b_NoWindow___init__ (T : Tx K mg) : Binds K T.d_NoWindow___init__ ["self", "begin", "end", "rounds"] [] := T.F_NoWindow___init__.binds (ps := ["self", "begin", "end", "rounds"]) fun _ _ _ _ _ _ us hl => match us, hl with | [_, _, _, _], _ => rfl
theorem Tx.b_NoPace___init__ (T : Tx K mg) : Binds K T.d_NoPace___init__ ["self", "hole", "speed"] [] := T.F_NoPace___init__.binds (ps := ["self", "hole", "speed"]) fun _ _ _ _ _ _ us hl => match us, hl with | [_, _, _], _ => rfl
theorem Tx.b_Lost___init__ (T : Tx K mg) : Binds K T.d_Lost___init__ ["self", "start", "stop"] [] := T.F_Lost___init__.binds (ps := ["self", "start", "stop"]) fun _ _ _ _ _ _ us hl => match us, hl with | [_, _, _], _ => rfl
theorem Tx.b_LooksAhead___init__ (T : Tx K mg) : Binds K T.d_LooksAhead___init__ ["self", "name", "hole"] [] := T.F_LooksAhead___init__.binds (ps := ["self", "name", "hole"]) fun _ _ _ _ _ _ us hl => match us, hl with | [_, _, _], _ => rfl
theorem Tx.b_NoText___init__ (T : Tx K mg) : Binds K T.d_NoText___init__ ["self", "text"] [] := T.F_NoText___init__.binds (ps := ["self", "text"]) fun _ _ _ _ _ _ us hl => match us, hl with | [_, _], _ => rfl
theorem Tx.b_NoRounds___init__ (T : Tx K mg) : Binds K T.d_NoRounds___init__ ["self", "rounds"] [] := T.F_NoRounds___init__.binds (ps := ["self", "rounds"]) fun _ _ _ _ _ _ us hl => match us, hl with | [_, _], _ => rfl
theorem Tx.b_NoName___init__ (T : Tx K mg) : Binds K T.d_NoName___init__ ["self", "name"] [] := T.F_NoName___init__.binds (ps := ["self", "name"]) fun _ _ _ _ _ _ us hl => match us, hl with | [_, _], _ => rfl
theorem Tx.b_BadPace___init__ (T : Tx K mg) : Binds K T.d_BadPace___init__ ["self", "pace"] [] := T.F_BadPace___init__.binds (ps := ["self", "pace"]) fun _ _ _ _ _ _ us hl => match us, hl with | [_, _], _ => rfl
theorem Tx.b_NoStep___init__ (T : Tx K mg) : Binds K T.d_NoStep___init__ ["self", "step"] [] := T.F_NoStep___init__.binds (ps := ["self", "step"]) fun _ _ _ _ _ _ us hl => match us, hl with | [_, _], _ => rfl
theorem Tx.b_Unfilled___init__ (T : Tx K mg) : Binds K T.d_Unfilled___init__ ["self", "name"] [] := T.F_Unfilled___init__.binds (ps := ["self", "name"]) fun _ _ _ _ _ _ us hl => match us, hl with | [_, _], _ => rfl
theorem Tx.b_NoChart___init__ (T : Tx K mg) : Binds K T.d_NoChart___init__ ["self", "line"] [] := T.F_NoChart___init__.binds (ps := ["self", "line"]) fun _ _ _ _ _ _ us hl => match us, hl with | [_, _], _ => rfl
theorem Tx.b_TooSoon___init__ (T : Tx K mg) : Binds K T.d_TooSoon___init__ ["self", "least"] [] := T.F_TooSoon___init__.binds (ps := ["self", "least"]) fun _ _ _ _ _ _ us hl => match us, hl with | [_, _], _ => rfl
theorem Tx.b_NoStretch___init__ (T : Tx K mg) : Binds K T.d_NoStretch___init__ ["self", "until"] [] := T.F_NoStretch___init__.binds (ps := ["self", "until"]) fun _ _ _ _ _ _ us hl => match us, hl with | [_, _], _ => rfl
theorem Tx.b_OutOfWindow___init__ (T : Tx K mg) : Binds K T.d_OutOfWindow___init__ ["self", "name"] [] := T.F_OutOfWindow___init__.binds (ps := ["self", "name"]) fun _ _ _ _ _ _ us hl => match us, hl with | [_, _], _ => rfl
theorem Tx.b_NoMove___init__ (T : Tx K mg) : Binds K T.d_NoMove___init__ ["self", "begin"] [] := T.F_NoMove___init__.binds (ps := ["self", "begin"]) fun _ _ _ _ _ _ us hl => match us, hl with | [_, _], _ => rfl
theorem Tx.b_NoChannel___init__ (T : Tx K mg) : Binds K T.d_NoChannel___init__ ["self", "name"] [] := T.F_NoChannel___init__.binds (ps := ["self", "name"]) fun _ _ _ _ _ _ us hl => match us, hl with | [_, _], _ => rfl
theorem Tx.b_NoSpan___init__ (T : Tx K mg) : Binds K T.d_NoSpan___init__ ["self", "span"] [] := T.F_NoSpan___init__.binds (ps := ["self", "span"]) fun _ _ _ _ _ _ us hl => match us, hl with | [_, _], _ => rfl
theorem Tx.b_Ringed___init__ (T : Tx K mg) : Binds K T.d_Ringed___init__ ["self", "ring"] [] := T.F_Ringed___init__.binds (ps := ["self", "ring"]) fun _ _ _ _ _ _ us hl => match us, hl with | [_, _], _ => rfl
theorem Tx.b__law_cell (T : Tx K mg) : Binds K T.d__law_cell ["_law_script", "_law_k"] [] := T.F__law_cell.binds (ps := ["_law_script", "_law_k"]) fun _ _ _ _ _ _ us hl => match us, hl with | [_, _], _ => rfl
theorem Tx.b__law_pairs (T : Tx K mg) : Binds K T.d__law_pairs ["_law_a", "_law_b", "_law_c"] [] := T.F__law_pairs.binds (ps := ["_law_a", "_law_b", "_law_c"]) fun _ _ _ _ _ _ us hl => match us, hl with | [_, _, _], _ => rfl
theorem Tx.b__law_singles (T : Tx K mg) : Binds K T.d__law_singles ["_law_a"] [] := T.F__law_singles.binds (ps := ["_law_a"]) fun _ _ _ _ _ _ us hl => match us, hl with | [_], _ => rfl
theorem Tx.b__law_kinds (T : Tx K mg) : Binds K T.d__law_kinds ["_law_error"] [] := T.F__law_kinds.binds (ps := ["_law_error"]) fun _ _ _ _ _ _ us hl => match us, hl with | [_], _ => rfl
theorem Tx.b_law (T : Tx K mg) : Binds K T.d_law ["_law_script"] [] := T.F_law.binds (ps := ["_law_script"]) fun _ _ _ _ _ _ us hl => match us, hl with | [_], _ => rfl
end
end AT
open AT
local macro_rules | `(tactic| walk_at "vc1") => `(tactic| (with_reducible first
  | refine w_seq ?_ | refine w_if ?_ | refine w_set ?_ | refine w_par ?_ | refine w_drop ?_ | refine w_ret ?_ | refine w_retN ?_ | refine w_next ?_
  | refine w_c ?_ | refine w_test ?_ | refine w_B ?_ | refine w_op ?_ | refine w_un ?_ | refine w_chain ?_ | refine w_and ?_ | refine w_or ?_ | refine w_not ?_
  | refine w_andV ?_ | refine w_orV ?_ | refine w_notV ?_ | refine w_ifE ?_ | refine w_nil ?_ | refine w_cons ?_ | refine w_call ?_ | refine w_callS ?_ | refine w_cb ?_
  | refine w_fld ?_ | refine w_sfld ?_ | refine w_lst ?_ | refine w_tup ?_ | refine w_bm ?_
  | refine w_rI0 ?_ | refine w_rU ?_ | refine w_eqI ?_ | refine w_neI ?_ | refine w_bl ?_ | refine w_blV ?_ | refine w_abs ?_ | refine w_int ?_ | refine w_two ?_ | refine w_iList ?_ | refine w_iTup ?_ | refine w_iRng1 ?_ | refine w_gname ?_ | refine w_intInt ?_ | refine w_intBool ?_ | refine w_boolBool ?_ | refine w_for ?_ | refine w_makeS ?_ | refine w_xf ?_ | refine n_isN ?_ | refine n_notN ?_ | refine w_opS ?_ | refine w_lc ?_ | refine i_yes rfl ?_ | refine i_no rfl ?_))
local macro_rules | `(tactic| walk_at "vc") => `(tactic| (repeat (first | (walk_at "vc1") | (refine w_var (by rfl) ?_) | (refine w_aug (by rfl) ?_) | (refine w_pow (by decide) ?_) | (refine w_mod (by decide) ?_))))
namespace AT
open PySem PySem.Spec PyProof.Rows L2
theorem map_at {α β : Type} {f : α → β} {l : List α} {i : Nat} {y : β} (h : (l.map f)[i]? = some y) : ∃ x, l[i]? = some x ∧ y = f x := by
  rw [List.getElem?_map] at h
  cases e : l[i]? with
  | none => rw [e] at h; cases h
  | some x => rw [e] at h; exact ⟨x, rfl, (Option.some.inj h).symm⟩
theorem at_map {α β : Type} {f : α → β} {l : List α} {i : Nat} {x : α} (h : l[i]? = some x) : (l.map f)[i]? = some (f x) := by
  rw [List.getElem?_map, h]
  rfl
section
variable {P : Program} {w : World} {K : PySem.W.Frag} {mg : Str → Option Value} {base : Heap}
/-- a cell of the script: some int -/
def spCell (K : PySem.W.Frag) : Sp := fun vs H Q _ => ∃ (a : Addr) (ns : List Int) (k : Int), vs = [.ref a, .int k] ∧ SqL K H a (ns.map V.int) ∧ 0 ≤ k ∧ ∀ c : Int, Q (.int c) H
theorem c_cell {a : Addr} {ns : List Int} {k : Int} {H : Hp} {Q : VK} {E : XK} (l : SqL K H a (ns.map V.int)) (hk : 0 ≤ k) (h : ∀ c : Int, Q (.int c) H) : spCell K [.ref a, .int k] H Q E := ⟨a, ns, k, rfl, l, hk, h⟩
theorem ok__law_cell (T : Tx K mg) : FnOk P w K mg base CX0 1 T.a__law_cell T.d__law_cell ["_law_script", "_law_k"] (spCell K) := by
  refine T.F__law_cell.ok sc__law_cell (fun vs H Q E h => ?_) (fun cdv A outer s H vs Q E hr h => ?_)
  · obtain ⟨a, ns, k, rfl, _⟩ := h
    rfl
  · obtain ⟨a, ns, k, rfl, l, hk, q⟩ := h
    refine ⟨_, ((pss_cons (ps_if (pt_cmpR op_lt (pv 1) (pe_callB call_lenR (by rfl) T.n_len PySem.boot_len (pa_cons (pv 0) pa_nil)) (nomark _)) (pss_one (ps_ret (pe_ix ix_list (pv 0) (pv 1) (fun _ _ => rfl)))) pss_nil)
 (pss_one (ps_ret pe_int)))), ?_⟩
    walk_at "vc"
    refine w_len l ?_
    walk_at "vc"
    refine i_dec (fun hp => ?_) (fun hp => ?_)
    · walk_at "vc"
      rw [List.length_map] at hp
      obtain ⟨j, rfl⟩ : ∃ j : Nat, k = (j : Int) := ⟨k.toNat, by omega⟩
      have hj : j < ns.length := by omega
      exact w_ixL l (atI_nat (at_map (List.getElem?_eq_getElem hj))) (q _)
    · walk_at "vc"
      exact q 0
theorem mw {i j : Int} (hi : Bn 64 i) (hj : Bn 8000 j) : CMulW i j := wide_mul (a := 64) (b := 8000) hi hj (by decide) (by decide) (by decide)
end
end AT
namespace AT
open PySem PySem.Spec PyProof.Rows L2
section
variable {P : Program} {w : World} {K : PySem.W.Frag} {mg : Str → Option Value} {base : Heap}
theorem ok_NoMoment___init__ (T : Tx K mg) : FnOk P w K mg base CX0 1 T.a_NoMoment___init__ T.d_NoMoment___init__ ["self", "top", "bottom"] (spErr T.C_NoMoment ["top", "bottom"]) := by
  refine T.F_NoMoment___init__.ok sc_NoMoment___init__ (fun vs H Q E h => ?_) (fun cdv A outer s H vs Q E hr h => ?_)
  · obtain ⟨a, xs, rfl, e, _⟩ := h
    show xs.length + 1 = _
    rw [e]
    rfl
  · obtain ⟨a, xs, rfl, e, ha, k⟩ := h
    match xs, e with
    | [x0, x1], _ =>
      refine ⟨_, ((pss_cons (ps_expr (pe_clsinit rfl T.g_AnytuneError T.rd_AnytuneError T.in_AnytuneError (pa_cons (pv 0) (pa_cons pe_str pa_nil))))
 (pss_cons (ps_ost (pv 0) (pv 1))
 (pss_one (ps_ost (pv 0) (pv 2)))))), ?_⟩
      refine ⟨_, rfl, a, T.C_NoMoment, _, rfl, by decide, T.ox_NoMoment, ha, ?_⟩
      refine ⟨_, rfl, _, rfl, a, T.C_NoMoment, rfl, T.ox_NoMoment, T.na_NoMoment_top, .inl ⟨ha, fun dx nd ne => ?_⟩⟩
      refine ⟨_, rfl, _, rfl, a, T.C_NoMoment, rfl, T.ox_NoMoment, T.na_NoMoment_bottom, .inr ⟨dx, _, upd_same, by rw [upd_ne ne, upd_same], (by show 1 ≤ 900; decide), ?_⟩⟩
      refine k dx _ nd (by rw [upd_ne (Ne.symm ne), upd_same]) upd_same fun b o e hb => ?_
      rw [upd_ne (ne_of_none e nd), upd_ne hb, upd_ne (ne_of_none e nd)]
      exact e
theorem ok_NoMark___init__ (T : Tx K mg) : FnOk P w K mg base CX0 1 T.a_NoMark___init__ T.d_NoMark___init__ ["self", "tone", "begin", "end"] (spErr T.C_NoMark ["tone", "begin", "end"]) := by
  refine T.F_NoMark___init__.ok sc_NoMark___init__ (fun vs H Q E h => ?_) (fun cdv A outer s H vs Q E hr h => ?_)
  · obtain ⟨a, xs, rfl, e, _⟩ := h
    show xs.length + 1 = _
    rw [e]
    rfl
  · obtain ⟨a, xs, rfl, e, ha, k⟩ := h
    match xs, e with
    | [x0, x1, x2], _ =>
      refine ⟨_, ((pss_cons (ps_expr (pe_clsinit rfl T.g_AnytuneError T.rd_AnytuneError T.in_AnytuneError (pa_cons (pv 0) (pa_cons pe_str pa_nil))))
 (pss_cons (ps_ost (pv 0) (pv 1))
 (pss_cons (ps_ost (pv 0) (pv 2))
 (pss_one (ps_ost (pv 0) (pv 3))))))), ?_⟩
      refine ⟨_, rfl, a, T.C_NoMark, _, rfl, by decide, T.ox_NoMark, ha, ?_⟩
      refine ⟨_, rfl, _, rfl, a, T.C_NoMark, rfl, T.ox_NoMark, T.na_NoMark_tone, .inl ⟨ha, fun dx nd ne => ?_⟩⟩
      refine ⟨_, rfl, _, rfl, a, T.C_NoMark, rfl, T.ox_NoMark, T.na_NoMark_begin, .inr ⟨dx, _, upd_same, by rw [upd_ne ne, upd_same], (by show 1 ≤ 900; decide), ?_⟩⟩
      refine ⟨_, rfl, _, rfl, a, T.C_NoMark, rfl, T.ox_NoMark, T.na_NoMark_end, .inr ⟨dx, _, by rw [upd_ne (Ne.symm ne), upd_same], upd_same, (by show 2 ≤ 900; decide), ?_⟩⟩
      refine k dx _ nd (by rw [upd_ne (Ne.symm ne), upd_ne (Ne.symm ne), upd_same]) upd_same fun b o e hb => ?_
      rw [upd_ne (ne_of_none e nd), upd_ne (ne_of_none e nd), upd_ne hb, upd_ne (ne_of_none e nd)]
      exact e
theorem ok_NoWindow___init__ (T : Tx K mg) : FnOk P w K mg base CX0 1 T.a_NoWindow___init__ T.d_NoWindow___init__ ["self", "begin", "end", "rounds"] (spErr T.C_NoWindow ["begin", "end", "rounds"]) := by
  refine T.F_NoWindow___init__.ok sc_NoWindow___init__ (fun vs H Q E h => ?_) (fun cdv A outer s H vs Q E hr h => ?_)
  · obtain ⟨a, xs, rfl, e, _⟩ := h
    show xs.length + 1 = _
    rw [e]
    rfl
  · obtain ⟨a, xs, rfl, e, ha, k⟩ := h
    match xs, e with
    | [x0, x1, x2], _ =>
      refine ⟨_, ((pss_cons (ps_expr (pe_clsinit rfl T.g_AnytuneError T.rd_AnytuneError T.in_AnytuneError (pa_cons (pv 0) (pa_cons pe_str pa_nil))))
 (pss_cons (ps_ost (pv 0) (pv 1))
 (pss_cons (ps_ost (pv 0) (pv 2))
 (pss_one (ps_ost (pv 0) (pv 3))))))), ?_⟩
      refine ⟨_, rfl, a, T.C_NoWindow, _, rfl, by decide, T.ox_NoWindow, ha, ?_⟩
      refine ⟨_, rfl, _, rfl, a, T.C_NoWindow, rfl, T.ox_NoWindow, T.na_NoWindow_begin, .inl ⟨ha, fun dx nd ne => ?_⟩⟩
      refine ⟨_, rfl, _, rfl, a, T.C_NoWindow, rfl, T.ox_NoWindow, T.na_NoWindow_end, .inr ⟨dx, _, upd_same, by rw [upd_ne ne, upd_same], (by show 1 ≤ 900; decide), ?_⟩⟩
      refine ⟨_, rfl, _, rfl, a, T.C_NoWindow, rfl, T.ox_NoWindow, T.na_NoWindow_rounds, .inr ⟨dx, _, by rw [upd_ne (Ne.symm ne), upd_same], upd_same, (by show 2 ≤ 900; decide), ?_⟩⟩
      refine k dx _ nd (by rw [upd_ne (Ne.symm ne), upd_ne (Ne.symm ne), upd_same]) upd_same fun b o e hb => ?_
      rw [upd_ne (ne_of_none e nd), upd_ne (ne_of_none e nd), upd_ne hb, upd_ne (ne_of_none e nd)]
      exact e
theorem ok_NoPace___init__ (T : Tx K mg) : FnOk P w K mg base CX0 1 T.a_NoPace___init__ T.d_NoPace___init__ ["self", "hole", "speed"] (spErr T.C_NoPace ["hole", "speed"]) := by
  refine T.F_NoPace___init__.ok sc_NoPace___init__ (fun vs H Q E h => ?_) (fun cdv A outer s H vs Q E hr h => ?_)
  · obtain ⟨a, xs, rfl, e, _⟩ := h
    show xs.length + 1 = _
    rw [e]
    rfl
  · obtain ⟨a, xs, rfl, e, ha, k⟩ := h
    match xs, e with
    | [x0, x1], _ =>
      refine ⟨_, ((pss_cons (ps_expr (pe_clsinit rfl T.g_AnytuneError T.rd_AnytuneError T.in_AnytuneError (pa_cons (pv 0) (pa_cons pe_str pa_nil))))
 (pss_cons (ps_ost (pv 0) (pv 1))
 (pss_one (ps_ost (pv 0) (pv 2)))))), ?_⟩
      refine ⟨_, rfl, a, T.C_NoPace, _, rfl, by decide, T.ox_NoPace, ha, ?_⟩
      refine ⟨_, rfl, _, rfl, a, T.C_NoPace, rfl, T.ox_NoPace, T.na_NoPace_hole, .inl ⟨ha, fun dx nd ne => ?_⟩⟩
      refine ⟨_, rfl, _, rfl, a, T.C_NoPace, rfl, T.ox_NoPace, T.na_NoPace_speed, .inr ⟨dx, _, upd_same, by rw [upd_ne ne, upd_same], (by show 1 ≤ 900; decide), ?_⟩⟩
      refine k dx _ nd (by rw [upd_ne (Ne.symm ne), upd_same]) upd_same fun b o e hb => ?_
      rw [upd_ne (ne_of_none e nd), upd_ne hb, upd_ne (ne_of_none e nd)]
      exact e
theorem ok_Lost___init__ (T : Tx K mg) : FnOk P w K mg base CX0 1 T.a_Lost___init__ T.d_Lost___init__ ["self", "start", "stop"] (spErr T.C_Lost ["start", "stop"]) := by
  refine T.F_Lost___init__.ok sc_Lost___init__ (fun vs H Q E h => ?_) (fun cdv A outer s H vs Q E hr h => ?_)
  · obtain ⟨a, xs, rfl, e, _⟩ := h
    show xs.length + 1 = _
    rw [e]
    rfl
  · obtain ⟨a, xs, rfl, e, ha, k⟩ := h
    match xs, e with
    | [x0, x1], _ =>
      refine ⟨_, ((pss_cons (ps_expr (pe_clsinit rfl T.g_AnytuneError T.rd_AnytuneError T.in_AnytuneError (pa_cons (pv 0) (pa_cons pe_str pa_nil))))
 (pss_cons (ps_ost (pv 0) (pv 1))
 (pss_one (ps_ost (pv 0) (pv 2)))))), ?_⟩
      refine ⟨_, rfl, a, T.C_Lost, _, rfl, by decide, T.ox_Lost, ha, ?_⟩
      refine ⟨_, rfl, _, rfl, a, T.C_Lost, rfl, T.ox_Lost, T.na_Lost_start, .inl ⟨ha, fun dx nd ne => ?_⟩⟩
      refine ⟨_, rfl, _, rfl, a, T.C_Lost, rfl, T.ox_Lost, T.na_Lost_stop, .inr ⟨dx, _, upd_same, by rw [upd_ne ne, upd_same], (by show 1 ≤ 900; decide), ?_⟩⟩
      refine k dx _ nd (by rw [upd_ne (Ne.symm ne), upd_same]) upd_same fun b o e hb => ?_
      rw [upd_ne (ne_of_none e nd), upd_ne hb, upd_ne (ne_of_none e nd)]
      exact e
theorem ok_LooksAhead___init__ (T : Tx K mg) : FnOk P w K mg base CX0 1 T.a_LooksAhead___init__ T.d_LooksAhead___init__ ["self", "name", "hole"] (spErr T.C_LooksAhead ["name", "hole"]) := by
  refine T.F_LooksAhead___init__.ok sc_LooksAhead___init__ (fun vs H Q E h => ?_) (fun cdv A outer s H vs Q E hr h => ?_)
  · obtain ⟨a, xs, rfl, e, _⟩ := h
    show xs.length + 1 = _
    rw [e]
    rfl
  · obtain ⟨a, xs, rfl, e, ha, k⟩ := h
    match xs, e with
    | [x0, x1], _ =>
      refine ⟨_, ((pss_cons (ps_expr (pe_clsinit rfl T.g_AnytuneError T.rd_AnytuneError T.in_AnytuneError (pa_cons (pv 0) (pa_cons pe_str pa_nil))))
 (pss_cons (ps_ost (pv 0) (pv 1))
 (pss_one (ps_ost (pv 0) (pv 2)))))), ?_⟩
      refine ⟨_, rfl, a, T.C_LooksAhead, _, rfl, by decide, T.ox_LooksAhead, ha, ?_⟩
      refine ⟨_, rfl, _, rfl, a, T.C_LooksAhead, rfl, T.ox_LooksAhead, T.na_LooksAhead_name, .inl ⟨ha, fun dx nd ne => ?_⟩⟩
      refine ⟨_, rfl, _, rfl, a, T.C_LooksAhead, rfl, T.ox_LooksAhead, T.na_LooksAhead_hole, .inr ⟨dx, _, upd_same, by rw [upd_ne ne, upd_same], (by show 1 ≤ 900; decide), ?_⟩⟩
      refine k dx _ nd (by rw [upd_ne (Ne.symm ne), upd_same]) upd_same fun b o e hb => ?_
      rw [upd_ne (ne_of_none e nd), upd_ne hb, upd_ne (ne_of_none e nd)]
      exact e
theorem ok_NoText___init__ (T : Tx K mg) : FnOk P w K mg base CX0 1 T.a_NoText___init__ T.d_NoText___init__ ["self", "text"] (spErr T.C_NoText ["text"]) := by
  refine T.F_NoText___init__.ok sc_NoText___init__ (fun vs H Q E h => ?_) (fun cdv A outer s H vs Q E hr h => ?_)
  · obtain ⟨a, xs, rfl, e, _⟩ := h
    show xs.length + 1 = _
    rw [e]
    rfl
  · obtain ⟨a, xs, rfl, e, ha, k⟩ := h
    match xs, e with
    | [x0], _ =>
      refine ⟨_, ((pss_cons (ps_expr (pe_clsinit rfl T.g_AnytuneError T.rd_AnytuneError T.in_AnytuneError (pa_cons (pv 0) (pa_cons pe_str pa_nil))))
 (pss_one (ps_ost (pv 0) (pv 1))))), ?_⟩
      refine ⟨_, rfl, a, T.C_NoText, _, rfl, by decide, T.ox_NoText, ha, ?_⟩
      refine ⟨_, rfl, _, rfl, a, T.C_NoText, rfl, T.ox_NoText, T.na_NoText_text, .inl ⟨ha, fun dx nd ne => ?_⟩⟩
      refine k dx _ nd upd_same (by rw [upd_ne ne, upd_same]; rfl) fun b o e hb => ?_
      rw [upd_ne hb, upd_ne (ne_of_none e nd)]
      exact e
theorem ok_NoRounds___init__ (T : Tx K mg) : FnOk P w K mg base CX0 1 T.a_NoRounds___init__ T.d_NoRounds___init__ ["self", "rounds"] (spErr T.C_NoRounds ["rounds"]) := by
  refine T.F_NoRounds___init__.ok sc_NoRounds___init__ (fun vs H Q E h => ?_) (fun cdv A outer s H vs Q E hr h => ?_)
  · obtain ⟨a, xs, rfl, e, _⟩ := h
    show xs.length + 1 = _
    rw [e]
    rfl
  · obtain ⟨a, xs, rfl, e, ha, k⟩ := h
    match xs, e with
    | [x0], _ =>
      refine ⟨_, ((pss_cons (ps_expr (pe_clsinit rfl T.g_AnytuneError T.rd_AnytuneError T.in_AnytuneError (pa_cons (pv 0) (pa_cons pe_str pa_nil))))
 (pss_one (ps_ost (pv 0) (pv 1))))), ?_⟩
      refine ⟨_, rfl, a, T.C_NoRounds, _, rfl, by decide, T.ox_NoRounds, ha, ?_⟩
      refine ⟨_, rfl, _, rfl, a, T.C_NoRounds, rfl, T.ox_NoRounds, T.na_NoRounds_rounds, .inl ⟨ha, fun dx nd ne => ?_⟩⟩
      refine k dx _ nd upd_same (by rw [upd_ne ne, upd_same]; rfl) fun b o e hb => ?_
      rw [upd_ne hb, upd_ne (ne_of_none e nd)]
      exact e
theorem ok_NoName___init__ (T : Tx K mg) : FnOk P w K mg base CX0 1 T.a_NoName___init__ T.d_NoName___init__ ["self", "name"] (spErr T.C_NoName ["name"]) := by
  refine T.F_NoName___init__.ok sc_NoName___init__ (fun vs H Q E h => ?_) (fun cdv A outer s H vs Q E hr h => ?_)
  · obtain ⟨a, xs, rfl, e, _⟩ := h
    show xs.length + 1 = _
    rw [e]
    rfl
  · obtain ⟨a, xs, rfl, e, ha, k⟩ := h
    match xs, e with
    | [x0], _ =>
      refine ⟨_, ((pss_cons (ps_expr (pe_clsinit rfl T.g_AnytuneError T.rd_AnytuneError T.in_AnytuneError (pa_cons (pv 0) (pa_cons pe_str pa_nil))))
 (pss_one (ps_ost (pv 0) (pv 1))))), ?_⟩
      refine ⟨_, rfl, a, T.C_NoName, _, rfl, by decide, T.ox_NoName, ha, ?_⟩
      refine ⟨_, rfl, _, rfl, a, T.C_NoName, rfl, T.ox_NoName, T.na_NoName_name, .inl ⟨ha, fun dx nd ne => ?_⟩⟩
      refine k dx _ nd upd_same (by rw [upd_ne ne, upd_same]; rfl) fun b o e hb => ?_
      rw [upd_ne hb, upd_ne (ne_of_none e nd)]
      exact e
theorem ok_BadPace___init__ (T : Tx K mg) : FnOk P w K mg base CX0 1 T.a_BadPace___init__ T.d_BadPace___init__ ["self", "pace"] (spErr T.C_BadPace ["pace"]) := by
  refine T.F_BadPace___init__.ok sc_BadPace___init__ (fun vs H Q E h => ?_) (fun cdv A outer s H vs Q E hr h => ?_)
  · obtain ⟨a, xs, rfl, e, _⟩ := h
    show xs.length + 1 = _
    rw [e]
    rfl
  · obtain ⟨a, xs, rfl, e, ha, k⟩ := h
    match xs, e with
    | [x0], _ =>
      refine ⟨_, ((pss_cons (ps_expr (pe_clsinit rfl T.g_AnytuneError T.rd_AnytuneError T.in_AnytuneError (pa_cons (pv 0) (pa_cons pe_str pa_nil))))
 (pss_one (ps_ost (pv 0) (pv 1))))), ?_⟩
      refine ⟨_, rfl, a, T.C_BadPace, _, rfl, by decide, T.ox_BadPace, ha, ?_⟩
      refine ⟨_, rfl, _, rfl, a, T.C_BadPace, rfl, T.ox_BadPace, T.na_BadPace_pace, .inl ⟨ha, fun dx nd ne => ?_⟩⟩
      refine k dx _ nd upd_same (by rw [upd_ne ne, upd_same]; rfl) fun b o e hb => ?_
      rw [upd_ne hb, upd_ne (ne_of_none e nd)]
      exact e
theorem ok_NoStep___init__ (T : Tx K mg) : FnOk P w K mg base CX0 1 T.a_NoStep___init__ T.d_NoStep___init__ ["self", "step"] (spErr T.C_NoStep ["step"]) := by
  refine T.F_NoStep___init__.ok sc_NoStep___init__ (fun vs H Q E h => ?_) (fun cdv A outer s H vs Q E hr h => ?_)
  · obtain ⟨a, xs, rfl, e, _⟩ := h
    show xs.length + 1 = _
    rw [e]
    rfl
  · obtain ⟨a, xs, rfl, e, ha, k⟩ := h
    match xs, e with
    | [x0], _ =>
      refine ⟨_, ((pss_cons (ps_expr (pe_clsinit rfl T.g_AnytuneError T.rd_AnytuneError T.in_AnytuneError (pa_cons (pv 0) (pa_cons pe_str pa_nil))))
 (pss_one (ps_ost (pv 0) (pv 1))))), ?_⟩
      refine ⟨_, rfl, a, T.C_NoStep, _, rfl, by decide, T.ox_NoStep, ha, ?_⟩
      refine ⟨_, rfl, _, rfl, a, T.C_NoStep, rfl, T.ox_NoStep, T.na_NoStep_step, .inl ⟨ha, fun dx nd ne => ?_⟩⟩
      refine k dx _ nd upd_same (by rw [upd_ne ne, upd_same]; rfl) fun b o e hb => ?_
      rw [upd_ne hb, upd_ne (ne_of_none e nd)]
      exact e
theorem ok_Unfilled___init__ (T : Tx K mg) : FnOk P w K mg base CX0 1 T.a_Unfilled___init__ T.d_Unfilled___init__ ["self", "name"] (spErr T.C_Unfilled ["name"]) := by
  refine T.F_Unfilled___init__.ok sc_Unfilled___init__ (fun vs H Q E h => ?_) (fun cdv A outer s H vs Q E hr h => ?_)
  · obtain ⟨a, xs, rfl, e, _⟩ := h
    show xs.length + 1 = _
    rw [e]
    rfl
  · obtain ⟨a, xs, rfl, e, ha, k⟩ := h
    match xs, e with
    | [x0], _ =>
      refine ⟨_, ((pss_cons (ps_expr (pe_clsinit rfl T.g_AnytuneError T.rd_AnytuneError T.in_AnytuneError (pa_cons (pv 0) (pa_cons pe_str pa_nil))))
 (pss_one (ps_ost (pv 0) (pv 1))))), ?_⟩
      refine ⟨_, rfl, a, T.C_Unfilled, _, rfl, by decide, T.ox_Unfilled, ha, ?_⟩
      refine ⟨_, rfl, _, rfl, a, T.C_Unfilled, rfl, T.ox_Unfilled, T.na_Unfilled_name, .inl ⟨ha, fun dx nd ne => ?_⟩⟩
      refine k dx _ nd upd_same (by rw [upd_ne ne, upd_same]; rfl) fun b o e hb => ?_
      rw [upd_ne hb, upd_ne (ne_of_none e nd)]
      exact e
theorem ok_NoChart___init__ (T : Tx K mg) : FnOk P w K mg base CX0 1 T.a_NoChart___init__ T.d_NoChart___init__ ["self", "line"] (spErr T.C_NoChart ["line"]) := by
  refine T.F_NoChart___init__.ok sc_NoChart___init__ (fun vs H Q E h => ?_) (fun cdv A outer s H vs Q E hr h => ?_)
  · obtain ⟨a, xs, rfl, e, _⟩ := h
    show xs.length + 1 = _
    rw [e]
    rfl
  · obtain ⟨a, xs, rfl, e, ha, k⟩ := h
    match xs, e with
    | [x0], _ =>
      refine ⟨_, ((pss_cons (ps_expr (pe_clsinit rfl T.g_AnytuneError T.rd_AnytuneError T.in_AnytuneError (pa_cons (pv 0) (pa_cons pe_str pa_nil))))
 (pss_one (ps_ost (pv 0) (pv 1))))), ?_⟩
      refine ⟨_, rfl, a, T.C_NoChart, _, rfl, by decide, T.ox_NoChart, ha, ?_⟩
      refine ⟨_, rfl, _, rfl, a, T.C_NoChart, rfl, T.ox_NoChart, T.na_NoChart_line, .inl ⟨ha, fun dx nd ne => ?_⟩⟩
      refine k dx _ nd upd_same (by rw [upd_ne ne, upd_same]; rfl) fun b o e hb => ?_
      rw [upd_ne hb, upd_ne (ne_of_none e nd)]
      exact e
theorem ok_TooSoon___init__ (T : Tx K mg) : FnOk P w K mg base CX0 1 T.a_TooSoon___init__ T.d_TooSoon___init__ ["self", "least"] (spErr T.C_TooSoon ["least"]) := by
  refine T.F_TooSoon___init__.ok sc_TooSoon___init__ (fun vs H Q E h => ?_) (fun cdv A outer s H vs Q E hr h => ?_)
  · obtain ⟨a, xs, rfl, e, _⟩ := h
    show xs.length + 1 = _
    rw [e]
    rfl
  · obtain ⟨a, xs, rfl, e, ha, k⟩ := h
    match xs, e with
    | [x0], _ =>
      refine ⟨_, ((pss_cons (ps_expr (pe_clsinit rfl T.g_AnytuneError T.rd_AnytuneError T.in_AnytuneError (pa_cons (pv 0) (pa_cons pe_str pa_nil))))
 (pss_one (ps_ost (pv 0) (pv 1))))), ?_⟩
      refine ⟨_, rfl, a, T.C_TooSoon, _, rfl, by decide, T.ox_TooSoon, ha, ?_⟩
      refine ⟨_, rfl, _, rfl, a, T.C_TooSoon, rfl, T.ox_TooSoon, T.na_TooSoon_least, .inl ⟨ha, fun dx nd ne => ?_⟩⟩
      refine k dx _ nd upd_same (by rw [upd_ne ne, upd_same]; rfl) fun b o e hb => ?_
      rw [upd_ne hb, upd_ne (ne_of_none e nd)]
      exact e
theorem ok_NoStretch___init__ (T : Tx K mg) : FnOk P w K mg base CX0 1 T.a_NoStretch___init__ T.d_NoStretch___init__ ["self", "until"] (spErr T.C_NoStretch ["until"]) := by
  refine T.F_NoStretch___init__.ok sc_NoStretch___init__ (fun vs H Q E h => ?_) (fun cdv A outer s H vs Q E hr h => ?_)
  · obtain ⟨a, xs, rfl, e, _⟩ := h
    show xs.length + 1 = _
    rw [e]
    rfl
  · obtain ⟨a, xs, rfl, e, ha, k⟩ := h
    match xs, e with
    | [x0], _ =>
      refine ⟨_, ((pss_cons (ps_expr (pe_clsinit rfl T.g_AnytuneError T.rd_AnytuneError T.in_AnytuneError (pa_cons (pv 0) (pa_cons pe_str pa_nil))))
 (pss_one (ps_ost (pv 0) (pv 1))))), ?_⟩
      refine ⟨_, rfl, a, T.C_NoStretch, _, rfl, by decide, T.ox_NoStretch, ha, ?_⟩
      refine ⟨_, rfl, _, rfl, a, T.C_NoStretch, rfl, T.ox_NoStretch, T.na_NoStretch_until, .inl ⟨ha, fun dx nd ne => ?_⟩⟩
      refine k dx _ nd upd_same (by rw [upd_ne ne, upd_same]; rfl) fun b o e hb => ?_
      rw [upd_ne hb, upd_ne (ne_of_none e nd)]
      exact e
theorem ok_OutOfWindow___init__ (T : Tx K mg) : FnOk P w K mg base CX0 1 T.a_OutOfWindow___init__ T.d_OutOfWindow___init__ ["self", "name"] (spErr T.C_OutOfWindow ["name"]) := by
  refine T.F_OutOfWindow___init__.ok sc_OutOfWindow___init__ (fun vs H Q E h => ?_) (fun cdv A outer s H vs Q E hr h => ?_)
  · obtain ⟨a, xs, rfl, e, _⟩ := h
    show xs.length + 1 = _
    rw [e]
    rfl
  · obtain ⟨a, xs, rfl, e, ha, k⟩ := h
    match xs, e with
    | [x0], _ =>
      refine ⟨_, ((pss_cons (ps_expr (pe_clsinit rfl T.g_AnytuneError T.rd_AnytuneError T.in_AnytuneError (pa_cons (pv 0) (pa_cons pe_str pa_nil))))
 (pss_one (ps_ost (pv 0) (pv 1))))), ?_⟩
      refine ⟨_, rfl, a, T.C_OutOfWindow, _, rfl, by decide, T.ox_OutOfWindow, ha, ?_⟩
      refine ⟨_, rfl, _, rfl, a, T.C_OutOfWindow, rfl, T.ox_OutOfWindow, T.na_OutOfWindow_name, .inl ⟨ha, fun dx nd ne => ?_⟩⟩
      refine k dx _ nd upd_same (by rw [upd_ne ne, upd_same]; rfl) fun b o e hb => ?_
      rw [upd_ne hb, upd_ne (ne_of_none e nd)]
      exact e
theorem ok_NoMove___init__ (T : Tx K mg) : FnOk P w K mg base CX0 1 T.a_NoMove___init__ T.d_NoMove___init__ ["self", "begin"] (spErr T.C_NoMove ["begin"]) := by
  refine T.F_NoMove___init__.ok sc_NoMove___init__ (fun vs H Q E h => ?_) (fun cdv A outer s H vs Q E hr h => ?_)
  · obtain ⟨a, xs, rfl, e, _⟩ := h
    show xs.length + 1 = _
    rw [e]
    rfl
  · obtain ⟨a, xs, rfl, e, ha, k⟩ := h
    match xs, e with
    | [x0], _ =>
      refine ⟨_, ((pss_cons (ps_expr (pe_clsinit rfl T.g_AnytuneError T.rd_AnytuneError T.in_AnytuneError (pa_cons (pv 0) (pa_cons pe_str pa_nil))))
 (pss_one (ps_ost (pv 0) (pv 1))))), ?_⟩
      refine ⟨_, rfl, a, T.C_NoMove, _, rfl, by decide, T.ox_NoMove, ha, ?_⟩
      refine ⟨_, rfl, _, rfl, a, T.C_NoMove, rfl, T.ox_NoMove, T.na_NoMove_begin, .inl ⟨ha, fun dx nd ne => ?_⟩⟩
      refine k dx _ nd upd_same (by rw [upd_ne ne, upd_same]; rfl) fun b o e hb => ?_
      rw [upd_ne hb, upd_ne (ne_of_none e nd)]
      exact e
theorem ok_NoChannel___init__ (T : Tx K mg) : FnOk P w K mg base CX0 1 T.a_NoChannel___init__ T.d_NoChannel___init__ ["self", "name"] (spErr T.C_NoChannel ["name"]) := by
  refine T.F_NoChannel___init__.ok sc_NoChannel___init__ (fun vs H Q E h => ?_) (fun cdv A outer s H vs Q E hr h => ?_)
  · obtain ⟨a, xs, rfl, e, _⟩ := h
    show xs.length + 1 = _
    rw [e]
    rfl
  · obtain ⟨a, xs, rfl, e, ha, k⟩ := h
    match xs, e with
    | [x0], _ =>
      refine ⟨_, ((pss_cons (ps_expr (pe_clsinit rfl T.g_AnytuneError T.rd_AnytuneError T.in_AnytuneError (pa_cons (pv 0) (pa_cons pe_str pa_nil))))
 (pss_one (ps_ost (pv 0) (pv 1))))), ?_⟩
      refine ⟨_, rfl, a, T.C_NoChannel, _, rfl, by decide, T.ox_NoChannel, ha, ?_⟩
      refine ⟨_, rfl, _, rfl, a, T.C_NoChannel, rfl, T.ox_NoChannel, T.na_NoChannel_name, .inl ⟨ha, fun dx nd ne => ?_⟩⟩
      refine k dx _ nd upd_same (by rw [upd_ne ne, upd_same]; rfl) fun b o e hb => ?_
      rw [upd_ne hb, upd_ne (ne_of_none e nd)]
      exact e
theorem ok_NoSpan___init__ (T : Tx K mg) : FnOk P w K mg base CX0 1 T.a_NoSpan___init__ T.d_NoSpan___init__ ["self", "span"] (spErr T.C_NoSpan ["span"]) := by
  refine T.F_NoSpan___init__.ok sc_NoSpan___init__ (fun vs H Q E h => ?_) (fun cdv A outer s H vs Q E hr h => ?_)
  · obtain ⟨a, xs, rfl, e, _⟩ := h
    show xs.length + 1 = _
    rw [e]
    rfl
  · obtain ⟨a, xs, rfl, e, ha, k⟩ := h
    match xs, e with
    | [x0], _ =>
      refine ⟨_, ((pss_cons (ps_expr (pe_clsinit rfl T.g_AnytuneError T.rd_AnytuneError T.in_AnytuneError (pa_cons (pv 0) (pa_cons pe_str pa_nil))))
 (pss_one (ps_ost (pv 0) (pv 1))))), ?_⟩
      refine ⟨_, rfl, a, T.C_NoSpan, _, rfl, by decide, T.ox_NoSpan, ha, ?_⟩
      refine ⟨_, rfl, _, rfl, a, T.C_NoSpan, rfl, T.ox_NoSpan, T.na_NoSpan_span, .inl ⟨ha, fun dx nd ne => ?_⟩⟩
      refine k dx _ nd upd_same (by rw [upd_ne ne, upd_same]; rfl) fun b o e hb => ?_
      rw [upd_ne hb, upd_ne (ne_of_none e nd)]
      exact e
theorem ok_Ringed___init__ (T : Tx K mg) : FnOk P w K mg base CX0 1 T.a_Ringed___init__ T.d_Ringed___init__ ["self", "ring"] (spErr T.C_Ringed ["ring"]) := by
  refine T.F_Ringed___init__.ok sc_Ringed___init__ (fun vs H Q E h => ?_) (fun cdv A outer s H vs Q E hr h => ?_)
  · obtain ⟨a, xs, rfl, e, _⟩ := h
    show xs.length + 1 = _
    rw [e]
    rfl
  · obtain ⟨a, xs, rfl, e, ha, k⟩ := h
    match xs, e with
    | [x0], _ =>
      refine ⟨_, ((pss_cons (ps_expr (pe_clsinit rfl T.g_AnytuneError T.rd_AnytuneError T.in_AnytuneError (pa_cons (pv 0) (pa_cons pe_str pa_nil))))
 (pss_one (ps_ost (pv 0) (pv 1))))), ?_⟩
      refine ⟨_, rfl, a, T.C_Ringed, _, rfl, by decide, T.ox_Ringed, ha, ?_⟩
      refine ⟨_, rfl, _, rfl, a, T.C_Ringed, rfl, T.ox_Ringed, T.na_Ringed_ring, .inl ⟨ha, fun dx nd ne => ?_⟩⟩
      refine k dx _ nd upd_same (by rw [upd_ne ne, upd_same]; rfl) fun b o e hb => ?_
      rw [upd_ne hb, upd_ne (ne_of_none e nd)]
      exact e
end
end AT
namespace AT
open PySem PySem.Spec PyProof.Rows L2
section
variable {P : Program} {w : World} {K : PySem.W.Frag} {mg : Str → Option Value} {base : Heap}
/-- a row of the law: an error, what it has, what is due -/
def RowE (H : Hp) (y : V) (C : Addr) : Prop := ∃ (p e l1 l2 : Addr) (ns : List Int), y = .ref p ∧ H p = some (.tup [.ref e, .ref l1, .ref l2]) ∧ IsEx H e C ∧ H l1 = some (.lst (ns.map V.int)) ∧ H l2 = some (.lst (ns.map V.int)) ∧ SeqAt.shaped (.list (ns.map PyData.int)) = true
theorem RowE.up {H H' : Hp} (e : Ext H H') {y : V} {C : Addr} (h : RowE H y C) : RowE H' y C := by
  obtain ⟨p, x, l1, l2, ns, h1, h2, h3, h4, h5, h6⟩ := h
  exact ⟨p, x, l1, l2, ns, h1, e _ _ h2, h3.up e, e _ _ h4, e _ _ h5, h6⟩
abbrev RowsE (H : Hp) (ys : List V) (Cs : List Addr) : Prop := Paired (RowE H) ys Cs
theorem rows_up {H H' : Hp} (e : Ext H H') {ys : List V} {Cs : List Addr} (h : RowsE H ys Cs) : RowsE H' ys Cs := Paired.mono (fun _ _ x => x.up e) h
theorem xl1 {f : Str} {v : V} {r : List (Str × V)} : List.lookup f ((f, v) :: r) = some v := by simp
theorem xl2 {f g : Str} {v u : V} {r : List (Str × V)} (h : (f == g) = false) : List.lookup f ((g, u) :: (f, v) :: r) = some v := by
  rw [List.lookup_cons, h]
  simp
theorem xl3 {f g k : Str} {v u z : V} {r : List (Str × V)} (h : (f == g) = false) (h' : (f == k) = false) : List.lookup f ((g, u) :: (k, z) :: (f, v) :: r) = some v := by
  rw [List.lookup_cons, h, List.lookup_cons, h']
  simp
def pcs (T : Tx K mg) : List Addr := [T.C_NoMoment, T.C_NoMark, T.C_NoWindow, T.C_NoPace, T.C_Lost, T.C_LooksAhead, T.C_NoTurns, T.C_NotPlain]
def scs (T : Tx K mg) : List Addr := [T.C_NoText, T.C_NoRounds, T.C_NoName, T.C_BadPace, T.C_NoStep, T.C_Unfilled, T.C_NoChart, T.C_TooSoon, T.C_NoStretch, T.C_OutOfWindow, T.C_NoMove, T.C_NoChannel, T.C_NoSpan, T.C_Ringed]
def spPairs (Cs : List Addr) : Sp := fun vs H Q _ => ∃ a b c : Int, vs = [.int a, .int b, .int c] ∧ ∀ p H' ys, Ext H H' → H' p = some (.lst ys) → RowsE H' ys Cs → Q (.ref p) H'
theorem ok__law_pairs (T : Tx K mg) : FnOk P w K mg base CX0 3 T.a__law_pairs T.d__law_pairs ["_law_a", "_law_b", "_law_c"] (spPairs (pcs T)) := by
  refine T.F__law_pairs.ok sc__law_pairs (fun vs H Q E h => ?_) (fun cdv A outer s H vs Q E hr h => ?_)
  · obtain ⟨a, b, c, rfl, _⟩ := h
    rfl
  · obtain ⟨a, b, c, rfl, k⟩ := h
    have G_NoMoment : FnOk P w K mg base CX0 1 T.a_NoMoment___init__ T.d_NoMoment___init__ ["self", "top", "bottom"] (spErr T.C_NoMoment ["top", "bottom"]) := ok_NoMoment___init__ T
    have G_NoMark : FnOk P w K mg base CX0 1 T.a_NoMark___init__ T.d_NoMark___init__ ["self", "tone", "begin", "end"] (spErr T.C_NoMark ["tone", "begin", "end"]) := ok_NoMark___init__ T
    have G_NoWindow : FnOk P w K mg base CX0 1 T.a_NoWindow___init__ T.d_NoWindow___init__ ["self", "begin", "end", "rounds"] (spErr T.C_NoWindow ["begin", "end", "rounds"]) := ok_NoWindow___init__ T
    have G_NoPace : FnOk P w K mg base CX0 1 T.a_NoPace___init__ T.d_NoPace___init__ ["self", "hole", "speed"] (spErr T.C_NoPace ["hole", "speed"]) := ok_NoPace___init__ T
    have G_Lost : FnOk P w K mg base CX0 1 T.a_Lost___init__ T.d_Lost___init__ ["self", "start", "stop"] (spErr T.C_Lost ["start", "stop"]) := ok_Lost___init__ T
    have G_LooksAhead : FnOk P w K mg base CX0 1 T.a_LooksAhead___init__ T.d_LooksAhead___init__ ["self", "name", "hole"] (spErr T.C_LooksAhead ["name", "hole"]) := ok_LooksAhead___init__ T
    have hr2 : Room 2 _ := hr
    refine ⟨_, ((pss_cons (ps_set (i := 3) sc__law_pairs.nd rfl (Or.inl rfl) (pe_exV T.ox_NoMoment T.m_NoMoment___init__.at_ (beq_iff_eq.mp T.m_NoMoment___init__.fn) G_NoMoment hr2 T.b_NoMoment___init__ pass0 rfl T.g_NoMoment (pa_cons (pv 0) (pa_cons (pv 1) pa_nil))))
 (pss_cons (ps_set (i := 4) sc__law_pairs.nd rfl (Or.inl rfl) (pe_exV T.ox_NoMark T.m_NoMark___init__.at_ (beq_iff_eq.mp T.m_NoMark___init__.fn) G_NoMark hr2 T.b_NoMark___init__ pass0 rfl T.g_NoMark (pa_cons (pv 0) (pa_cons (pv 1) (pa_cons (pv 2) pa_nil)))))
 (pss_cons (ps_set (i := 5) sc__law_pairs.nd rfl (Or.inl rfl) (pe_exV T.ox_NoWindow T.m_NoWindow___init__.at_ (beq_iff_eq.mp T.m_NoWindow___init__.fn) G_NoWindow hr2 T.b_NoWindow___init__ pass0 rfl T.g_NoWindow (pa_cons (pv 0) (pa_cons (pv 1) (pa_cons (pv 2) pa_nil)))))
 (pss_cons (ps_set (i := 6) sc__law_pairs.nd rfl (Or.inl rfl) (pe_exV T.ox_NoPace T.m_NoPace___init__.at_ (beq_iff_eq.mp T.m_NoPace___init__.fn) G_NoPace hr2 T.b_NoPace___init__ pass0 rfl T.g_NoPace (pa_cons (pv 0) (pa_cons (pv 1) pa_nil))))
 (pss_cons (ps_set (i := 7) sc__law_pairs.nd rfl (Or.inl rfl) (pe_exV T.ox_Lost T.m_Lost___init__.at_ (beq_iff_eq.mp T.m_Lost___init__.fn) G_Lost hr2 T.b_Lost___init__ pass0 rfl T.g_Lost (pa_cons (pv 0) (pa_cons (pv 1) pa_nil))))
 (pss_cons (ps_set (i := 8) sc__law_pairs.nd rfl (Or.inl rfl) (pe_exV T.ox_LooksAhead T.m_LooksAhead___init__.at_ (beq_iff_eq.mp T.m_LooksAhead___init__.fn) G_LooksAhead hr2 T.b_LooksAhead___init__ pass0 rfl T.g_LooksAhead (pa_cons (pv 0) (pa_cons (pv 1) pa_nil))))
 (pss_one (ps_ret (pe_lst (pa_cons (pe_tup (pa_cons (pv 3) (pa_cons (pe_lst (pa_cons (pe_xv T.xf_NoMoment T.na_NoMoment_top (pv 3)) (pa_cons (pe_xv T.xf_NoMoment T.na_NoMoment_bottom (pv 3)) pa_nil))) (pa_cons (pe_lst (pa_cons (pv 0) (pa_cons (pv 1) pa_nil))) pa_nil)))) (pa_cons (pe_tup (pa_cons (pv 4) (pa_cons (pe_lst (pa_cons (pe_xv T.xf_NoMark T.na_NoMark_tone (pv 4)) (pa_cons (pe_xv T.xf_NoMark T.na_NoMark_begin (pv 4)) (pa_cons (pe_xv T.xf_NoMark T.na_NoMark_end (pv 4)) pa_nil)))) (pa_cons (pe_lst (pa_cons (pv 0) (pa_cons (pv 1) (pa_cons (pv 2) pa_nil)))) pa_nil)))) (pa_cons (pe_tup (pa_cons (pv 5) (pa_cons (pe_lst (pa_cons (pe_xv T.xf_NoWindow T.na_NoWindow_begin (pv 5)) (pa_cons (pe_xv T.xf_NoWindow T.na_NoWindow_end (pv 5)) (pa_cons (pe_xv T.xf_NoWindow T.na_NoWindow_rounds (pv 5)) pa_nil)))) (pa_cons (pe_lst (pa_cons (pv 0) (pa_cons (pv 1) (pa_cons (pv 2) pa_nil)))) pa_nil)))) (pa_cons (pe_tup (pa_cons (pv 6) (pa_cons (pe_lst (pa_cons (pe_xv T.xf_NoPace T.na_NoPace_hole (pv 6)) (pa_cons (pe_xv T.xf_NoPace T.na_NoPace_speed (pv 6)) pa_nil))) (pa_cons (pe_lst (pa_cons (pv 0) (pa_cons (pv 1) pa_nil))) pa_nil)))) (pa_cons (pe_tup (pa_cons (pv 7) (pa_cons (pe_lst (pa_cons (pe_xv T.xf_Lost T.na_Lost_start (pv 7)) (pa_cons (pe_xv T.xf_Lost T.na_Lost_stop (pv 7)) pa_nil))) (pa_cons (pe_lst (pa_cons (pv 0) (pa_cons (pv 1) pa_nil))) pa_nil)))) (pa_cons (pe_tup (pa_cons (pv 8) (pa_cons (pe_lst (pa_cons (pe_xv T.xf_LooksAhead T.na_LooksAhead_name (pv 8)) (pa_cons (pe_xv T.xf_LooksAhead T.na_LooksAhead_hole (pv 8)) pa_nil))) (pa_cons (pe_lst (pa_cons (pv 0) (pa_cons (pv 1) pa_nil))) pa_nil)))) (pa_cons (pe_tup (pa_cons (pe_exV0 PySem.F.excBase_ValueError T.q_NoTurns T.kp_NoTurns rfl T.g_NoTurns) (pa_cons (pe_lst pa_nil) (pa_cons (pe_lst pa_nil) pa_nil)))) (pa_cons (pe_tup (pa_cons (pe_exV0 PySem.F.excBase_ValueError T.q_NotPlain T.kp_NotPlain rfl T.g_NotPlain) (pa_cons (pe_lst pa_nil) (pa_cons (pe_lst pa_nil) pa_nil)))) pa_nil)))))))))))))))))), ?_⟩
    walk_at "vc"
    have e0 : Ext H H := fun _ _ e => e
    try refine w_tMkV ?_
    walk_at "vc"
    refine w_mkV rfl (by decide) fun r3 M3 m3 x3 => ?_
    replace e0 := e0.t m3
    walk_at "vc"
    try refine w_tMkV ?_
    walk_at "vc"
    refine w_mkV rfl (by decide) fun r4 M4 m4 x4 => ?_
    replace x3 := x3.up m4
    replace e0 := e0.t m4
    walk_at "vc"
    try refine w_tMkV ?_
    walk_at "vc"
    refine w_mkV rfl (by decide) fun r5 M5 m5 x5 => ?_
    replace x3 := x3.up m5
    replace x4 := x4.up m5
    replace e0 := e0.t m5
    walk_at "vc"
    try refine w_tMkV ?_
    walk_at "vc"
    refine w_mkV rfl (by decide) fun r6 M6 m6 x6 => ?_
    replace x3 := x3.up m6
    replace x4 := x4.up m6
    replace x5 := x5.up m6
    replace e0 := e0.t m6
    walk_at "vc"
    try refine w_tMkV ?_
    walk_at "vc"
    refine w_mkV rfl (by decide) fun r7 M7 m7 x7 => ?_
    replace x3 := x3.up m7
    replace x4 := x4.up m7
    replace x5 := x5.up m7
    replace x6 := x6.up m7
    replace e0 := e0.t m7
    walk_at "vc"
    try refine w_tMkV ?_
    walk_at "vc"
    refine w_mkV rfl (by decide) fun r8 M8 m8 x8 => ?_
    replace x3 := x3.up m8
    replace x4 := x4.up m8
    replace x5 := x5.up m8
    replace x6 := x6.up m8
    replace x7 := x7.up m8
    replace e0 := e0.t m8
    walk_at "vc"
    have L : RowsE M8 [] [] := .nil
    try refine w_tXv ?_
    walk_at "vc"
    refine w_xv x3 (xl2 (by decide +kernel)) ?_
    walk_at "vc"
    try refine w_tXv ?_
    walk_at "vc"
    refine w_xv x3 (xl1) ?_
    walk_at "vc"
    refine n_lst (by show 2 ≤ 100000; decide) fun l0 A0 _ ea0 ua0 => ?_
    replace x3 := x3.up ea0
    replace x4 := x4.up ea0
    replace x5 := x5.up ea0
    replace x6 := x6.up ea0
    replace x7 := x7.up ea0
    replace x8 := x8.up ea0
    replace L := rows_up ea0 L
    replace e0 := e0.t ea0
    walk_at "vc"
    refine n_lst (by show 2 ≤ 100000; decide) fun k0 B0 _ eb0 ub0 => ?_
    replace x3 := x3.up eb0
    replace x4 := x4.up eb0
    replace x5 := x5.up eb0
    replace x6 := x6.up eb0
    replace x7 := x7.up eb0
    replace x8 := x8.up eb0
    replace L := rows_up eb0 L
    replace e0 := e0.t eb0
    replace ua0 := eb0 _ _ ua0
    walk_at "vc"
    refine n_tup (by show 3 ≤ 100000; decide) fun p0 D0 _ ed0 ud0 => ?_
    replace x3 := x3.up ed0
    replace x4 := x4.up ed0
    replace x5 := x5.up ed0
    replace x6 := x6.up ed0
    replace x7 := x7.up ed0
    replace x8 := x8.up ed0
    replace L := rows_up ed0 L
    replace e0 := e0.t ed0
    replace L := L.snoc (b := T.C_NoMoment) ⟨p0, r3, l0, k0, [a, b], rfl, ud0, x3.is, ed0 _ _ ua0, ed0 _ _ ub0, rfl⟩
    walk_at "vc"
    try refine w_tXv ?_
    walk_at "vc"
    refine w_xv x4 (xl3 (by decide +kernel) (by decide +kernel)) ?_
    walk_at "vc"
    try refine w_tXv ?_
    walk_at "vc"
    refine w_xv x4 (xl2 (by decide +kernel)) ?_
    walk_at "vc"
    try refine w_tXv ?_
    walk_at "vc"
    refine w_xv x4 (xl1) ?_
    walk_at "vc"
    refine n_lst (by show 3 ≤ 100000; decide) fun l1 A1 _ ea1 ua1 => ?_
    replace x3 := x3.up ea1
    replace x4 := x4.up ea1
    replace x5 := x5.up ea1
    replace x6 := x6.up ea1
    replace x7 := x7.up ea1
    replace x8 := x8.up ea1
    replace L := rows_up ea1 L
    replace e0 := e0.t ea1
    walk_at "vc"
    refine n_lst (by show 3 ≤ 100000; decide) fun k1 B1 _ eb1 ub1 => ?_
    replace x3 := x3.up eb1
    replace x4 := x4.up eb1
    replace x5 := x5.up eb1
    replace x6 := x6.up eb1
    replace x7 := x7.up eb1
    replace x8 := x8.up eb1
    replace L := rows_up eb1 L
    replace e0 := e0.t eb1
    replace ua1 := eb1 _ _ ua1
    walk_at "vc"
    refine n_tup (by show 3 ≤ 100000; decide) fun p1 D1 _ ed1 ud1 => ?_
    replace x3 := x3.up ed1
    replace x4 := x4.up ed1
    replace x5 := x5.up ed1
    replace x6 := x6.up ed1
    replace x7 := x7.up ed1
    replace x8 := x8.up ed1
    replace L := rows_up ed1 L
    replace e0 := e0.t ed1
    replace L := L.snoc (b := T.C_NoMark) ⟨p1, r4, l1, k1, [a, b, c], rfl, ud1, x4.is, ed1 _ _ ua1, ed1 _ _ ub1, rfl⟩
    walk_at "vc"
    try refine w_tXv ?_
    walk_at "vc"
    refine w_xv x5 (xl3 (by decide +kernel) (by decide +kernel)) ?_
    walk_at "vc"
    try refine w_tXv ?_
    walk_at "vc"
    refine w_xv x5 (xl2 (by decide +kernel)) ?_
    walk_at "vc"
    try refine w_tXv ?_
    walk_at "vc"
    refine w_xv x5 (xl1) ?_
    walk_at "vc"
    refine n_lst (by show 3 ≤ 100000; decide) fun l2 A2 _ ea2 ua2 => ?_
    replace x3 := x3.up ea2
    replace x4 := x4.up ea2
    replace x5 := x5.up ea2
    replace x6 := x6.up ea2
    replace x7 := x7.up ea2
    replace x8 := x8.up ea2
    replace L := rows_up ea2 L
    replace e0 := e0.t ea2
    walk_at "vc"
    refine n_lst (by show 3 ≤ 100000; decide) fun k2 B2 _ eb2 ub2 => ?_
    replace x3 := x3.up eb2
    replace x4 := x4.up eb2
    replace x5 := x5.up eb2
    replace x6 := x6.up eb2
    replace x7 := x7.up eb2
    replace x8 := x8.up eb2
    replace L := rows_up eb2 L
    replace e0 := e0.t eb2
    replace ua2 := eb2 _ _ ua2
    walk_at "vc"
    refine n_tup (by show 3 ≤ 100000; decide) fun p2 D2 _ ed2 ud2 => ?_
    replace x3 := x3.up ed2
    replace x4 := x4.up ed2
    replace x5 := x5.up ed2
    replace x6 := x6.up ed2
    replace x7 := x7.up ed2
    replace x8 := x8.up ed2
    replace L := rows_up ed2 L
    replace e0 := e0.t ed2
    replace L := L.snoc (b := T.C_NoWindow) ⟨p2, r5, l2, k2, [a, b, c], rfl, ud2, x5.is, ed2 _ _ ua2, ed2 _ _ ub2, rfl⟩
    walk_at "vc"
    try refine w_tXv ?_
    walk_at "vc"
    refine w_xv x6 (xl2 (by decide +kernel)) ?_
    walk_at "vc"
    try refine w_tXv ?_
    walk_at "vc"
    refine w_xv x6 (xl1) ?_
    walk_at "vc"
    refine n_lst (by show 2 ≤ 100000; decide) fun l3 A3 _ ea3 ua3 => ?_
    replace x3 := x3.up ea3
    replace x4 := x4.up ea3
    replace x5 := x5.up ea3
    replace x6 := x6.up ea3
    replace x7 := x7.up ea3
    replace x8 := x8.up ea3
    replace L := rows_up ea3 L
    replace e0 := e0.t ea3
    walk_at "vc"
    refine n_lst (by show 2 ≤ 100000; decide) fun k3 B3 _ eb3 ub3 => ?_
    replace x3 := x3.up eb3
    replace x4 := x4.up eb3
    replace x5 := x5.up eb3
    replace x6 := x6.up eb3
    replace x7 := x7.up eb3
    replace x8 := x8.up eb3
    replace L := rows_up eb3 L
    replace e0 := e0.t eb3
    replace ua3 := eb3 _ _ ua3
    walk_at "vc"
    refine n_tup (by show 3 ≤ 100000; decide) fun p3 D3 _ ed3 ud3 => ?_
    replace x3 := x3.up ed3
    replace x4 := x4.up ed3
    replace x5 := x5.up ed3
    replace x6 := x6.up ed3
    replace x7 := x7.up ed3
    replace x8 := x8.up ed3
    replace L := rows_up ed3 L
    replace e0 := e0.t ed3
    replace L := L.snoc (b := T.C_NoPace) ⟨p3, r6, l3, k3, [a, b], rfl, ud3, x6.is, ed3 _ _ ua3, ed3 _ _ ub3, rfl⟩
    walk_at "vc"
    try refine w_tXv ?_
    walk_at "vc"
    refine w_xv x7 (xl2 (by decide +kernel)) ?_
    walk_at "vc"
    try refine w_tXv ?_
    walk_at "vc"
    refine w_xv x7 (xl1) ?_
    walk_at "vc"
    refine n_lst (by show 2 ≤ 100000; decide) fun l4 A4 _ ea4 ua4 => ?_
    replace x3 := x3.up ea4
    replace x4 := x4.up ea4
    replace x5 := x5.up ea4
    replace x6 := x6.up ea4
    replace x7 := x7.up ea4
    replace x8 := x8.up ea4
    replace L := rows_up ea4 L
    replace e0 := e0.t ea4
    walk_at "vc"
    refine n_lst (by show 2 ≤ 100000; decide) fun k4 B4 _ eb4 ub4 => ?_
    replace x3 := x3.up eb4
    replace x4 := x4.up eb4
    replace x5 := x5.up eb4
    replace x6 := x6.up eb4
    replace x7 := x7.up eb4
    replace x8 := x8.up eb4
    replace L := rows_up eb4 L
    replace e0 := e0.t eb4
    replace ua4 := eb4 _ _ ua4
    walk_at "vc"
    refine n_tup (by show 3 ≤ 100000; decide) fun p4 D4 _ ed4 ud4 => ?_
    replace x3 := x3.up ed4
    replace x4 := x4.up ed4
    replace x5 := x5.up ed4
    replace x6 := x6.up ed4
    replace x7 := x7.up ed4
    replace x8 := x8.up ed4
    replace L := rows_up ed4 L
    replace e0 := e0.t ed4
    replace L := L.snoc (b := T.C_Lost) ⟨p4, r7, l4, k4, [a, b], rfl, ud4, x7.is, ed4 _ _ ua4, ed4 _ _ ub4, rfl⟩
    walk_at "vc"
    try refine w_tXv ?_
    walk_at "vc"
    refine w_xv x8 (xl2 (by decide +kernel)) ?_
    walk_at "vc"
    try refine w_tXv ?_
    walk_at "vc"
    refine w_xv x8 (xl1) ?_
    walk_at "vc"
    refine n_lst (by show 2 ≤ 100000; decide) fun l5 A5 _ ea5 ua5 => ?_
    replace x3 := x3.up ea5
    replace x4 := x4.up ea5
    replace x5 := x5.up ea5
    replace x6 := x6.up ea5
    replace x7 := x7.up ea5
    replace x8 := x8.up ea5
    replace L := rows_up ea5 L
    replace e0 := e0.t ea5
    walk_at "vc"
    refine n_lst (by show 2 ≤ 100000; decide) fun k5 B5 _ eb5 ub5 => ?_
    replace x3 := x3.up eb5
    replace x4 := x4.up eb5
    replace x5 := x5.up eb5
    replace x6 := x6.up eb5
    replace x7 := x7.up eb5
    replace x8 := x8.up eb5
    replace L := rows_up eb5 L
    replace e0 := e0.t eb5
    replace ua5 := eb5 _ _ ua5
    walk_at "vc"
    refine n_tup (by show 3 ≤ 100000; decide) fun p5 D5 _ ed5 ud5 => ?_
    replace x3 := x3.up ed5
    replace x4 := x4.up ed5
    replace x5 := x5.up ed5
    replace x6 := x6.up ed5
    replace x7 := x7.up ed5
    replace x8 := x8.up ed5
    replace L := rows_up ed5 L
    replace e0 := e0.t ed5
    replace L := L.snoc (b := T.C_LooksAhead) ⟨p5, r8, l5, k5, [a, b], rfl, ud5, x8.is, ed5 _ _ ua5, ed5 _ _ ub5, rfl⟩
    walk_at "vc"
    try refine w_tMkV0 ?_
    refine w_mkV0 fun r26 M26 m26 x26 => ?_
    replace x3 := x3.up m26
    replace x4 := x4.up m26
    replace x5 := x5.up m26
    replace x6 := x6.up m26
    replace x7 := x7.up m26
    replace x8 := x8.up m26
    replace L := rows_up m26 L
    replace e0 := e0.t m26
    walk_at "vc"
    refine n_lst (by show 0 ≤ 100000; decide) fun l6 A6 _ ea6 ua6 => ?_
    replace x3 := x3.up ea6
    replace x4 := x4.up ea6
    replace x5 := x5.up ea6
    replace x6 := x6.up ea6
    replace x7 := x7.up ea6
    replace x8 := x8.up ea6
    replace x26 := x26.up ea6
    replace L := rows_up ea6 L
    replace e0 := e0.t ea6
    walk_at "vc"
    refine n_lst (by show 0 ≤ 100000; decide) fun k6 B6 _ eb6 ub6 => ?_
    replace x3 := x3.up eb6
    replace x4 := x4.up eb6
    replace x5 := x5.up eb6
    replace x6 := x6.up eb6
    replace x7 := x7.up eb6
    replace x8 := x8.up eb6
    replace x26 := x26.up eb6
    replace L := rows_up eb6 L
    replace e0 := e0.t eb6
    replace ua6 := eb6 _ _ ua6
    walk_at "vc"
    refine n_tup (by show 3 ≤ 100000; decide) fun p6 D6 _ ed6 ud6 => ?_
    replace x3 := x3.up ed6
    replace x4 := x4.up ed6
    replace x5 := x5.up ed6
    replace x6 := x6.up ed6
    replace x7 := x7.up ed6
    replace x8 := x8.up ed6
    replace x26 := x26.up ed6
    replace L := rows_up ed6 L
    replace e0 := e0.t ed6
    replace L := L.snoc (b := T.C_NoTurns) ⟨p6, r26, l6, k6, [], rfl, ud6, x26, ed6 _ _ ua6, ed6 _ _ ub6, rfl⟩
    walk_at "vc"
    try refine w_tMkV0 ?_
    refine w_mkV0 fun r27 M27 m27 x27 => ?_
    replace x3 := x3.up m27
    replace x4 := x4.up m27
    replace x5 := x5.up m27
    replace x6 := x6.up m27
    replace x7 := x7.up m27
    replace x8 := x8.up m27
    replace x26 := x26.up m27
    replace L := rows_up m27 L
    replace e0 := e0.t m27
    walk_at "vc"
    refine n_lst (by show 0 ≤ 100000; decide) fun l7 A7 _ ea7 ua7 => ?_
    replace x3 := x3.up ea7
    replace x4 := x4.up ea7
    replace x5 := x5.up ea7
    replace x6 := x6.up ea7
    replace x7 := x7.up ea7
    replace x8 := x8.up ea7
    replace x26 := x26.up ea7
    replace x27 := x27.up ea7
    replace L := rows_up ea7 L
    replace e0 := e0.t ea7
    walk_at "vc"
    refine n_lst (by show 0 ≤ 100000; decide) fun k7 B7 _ eb7 ub7 => ?_
    replace x3 := x3.up eb7
    replace x4 := x4.up eb7
    replace x5 := x5.up eb7
    replace x6 := x6.up eb7
    replace x7 := x7.up eb7
    replace x8 := x8.up eb7
    replace x26 := x26.up eb7
    replace x27 := x27.up eb7
    replace L := rows_up eb7 L
    replace e0 := e0.t eb7
    replace ua7 := eb7 _ _ ua7
    walk_at "vc"
    refine n_tup (by show 3 ≤ 100000; decide) fun p7 D7 _ ed7 ud7 => ?_
    replace x3 := x3.up ed7
    replace x4 := x4.up ed7
    replace x5 := x5.up ed7
    replace x6 := x6.up ed7
    replace x7 := x7.up ed7
    replace x8 := x8.up ed7
    replace x26 := x26.up ed7
    replace x27 := x27.up ed7
    replace L := rows_up ed7 L
    replace e0 := e0.t ed7
    replace L := L.snoc (b := T.C_NotPlain) ⟨p7, r27, l7, k7, [], rfl, ud7, x27, ed7 _ _ ua7, ed7 _ _ ub7, rfl⟩
    walk_at "vc"
    refine n_lst (by show 8 ≤ 100000; decide) fun p H9 _ e9 u9 => ?_
    exact k p H9 _ (e0.t e9) u9 (rows_up e9 L)
end
end AT
namespace AT
open PySem PySem.Spec PyProof.Rows L2
section
variable {P : Program} {w : World} {K : PySem.W.Frag} {mg : Str → Option Value} {base : Heap}
def spSingles (Cs : List Addr) : Sp := fun vs H Q _ => ∃ a : Int, vs = [.int a] ∧ ∀ p H' ys, Ext H H' → H' p = some (.lst ys) → RowsE H' ys Cs → Q (.ref p) H'
theorem ok__law_singles (T : Tx K mg) : FnOk P w K mg base CX0 3 T.a__law_singles T.d__law_singles ["_law_a"] (spSingles (scs T)) := by
  refine T.F__law_singles.ok sc__law_singles (fun vs H Q E h => ?_) (fun cdv A outer s H vs Q E hr h => ?_)
  · obtain ⟨a, rfl, _⟩ := h
    rfl
  · obtain ⟨a, rfl, k⟩ := h
    have G_NoText : FnOk P w K mg base CX0 1 T.a_NoText___init__ T.d_NoText___init__ ["self", "text"] (spErr T.C_NoText ["text"]) := ok_NoText___init__ T
    have G_NoRounds : FnOk P w K mg base CX0 1 T.a_NoRounds___init__ T.d_NoRounds___init__ ["self", "rounds"] (spErr T.C_NoRounds ["rounds"]) := ok_NoRounds___init__ T
    have G_NoName : FnOk P w K mg base CX0 1 T.a_NoName___init__ T.d_NoName___init__ ["self", "name"] (spErr T.C_NoName ["name"]) := ok_NoName___init__ T
    have G_BadPace : FnOk P w K mg base CX0 1 T.a_BadPace___init__ T.d_BadPace___init__ ["self", "pace"] (spErr T.C_BadPace ["pace"]) := ok_BadPace___init__ T
    have G_NoStep : FnOk P w K mg base CX0 1 T.a_NoStep___init__ T.d_NoStep___init__ ["self", "step"] (spErr T.C_NoStep ["step"]) := ok_NoStep___init__ T
    have G_Unfilled : FnOk P w K mg base CX0 1 T.a_Unfilled___init__ T.d_Unfilled___init__ ["self", "name"] (spErr T.C_Unfilled ["name"]) := ok_Unfilled___init__ T
    have G_NoChart : FnOk P w K mg base CX0 1 T.a_NoChart___init__ T.d_NoChart___init__ ["self", "line"] (spErr T.C_NoChart ["line"]) := ok_NoChart___init__ T
    have G_TooSoon : FnOk P w K mg base CX0 1 T.a_TooSoon___init__ T.d_TooSoon___init__ ["self", "least"] (spErr T.C_TooSoon ["least"]) := ok_TooSoon___init__ T
    have G_NoStretch : FnOk P w K mg base CX0 1 T.a_NoStretch___init__ T.d_NoStretch___init__ ["self", "until"] (spErr T.C_NoStretch ["until"]) := ok_NoStretch___init__ T
    have G_OutOfWindow : FnOk P w K mg base CX0 1 T.a_OutOfWindow___init__ T.d_OutOfWindow___init__ ["self", "name"] (spErr T.C_OutOfWindow ["name"]) := ok_OutOfWindow___init__ T
    have G_NoMove : FnOk P w K mg base CX0 1 T.a_NoMove___init__ T.d_NoMove___init__ ["self", "begin"] (spErr T.C_NoMove ["begin"]) := ok_NoMove___init__ T
    have G_NoChannel : FnOk P w K mg base CX0 1 T.a_NoChannel___init__ T.d_NoChannel___init__ ["self", "name"] (spErr T.C_NoChannel ["name"]) := ok_NoChannel___init__ T
    have G_NoSpan : FnOk P w K mg base CX0 1 T.a_NoSpan___init__ T.d_NoSpan___init__ ["self", "span"] (spErr T.C_NoSpan ["span"]) := ok_NoSpan___init__ T
    have G_Ringed : FnOk P w K mg base CX0 1 T.a_Ringed___init__ T.d_Ringed___init__ ["self", "ring"] (spErr T.C_Ringed ["ring"]) := ok_Ringed___init__ T
    have hr2 : Room 2 _ := hr
    refine ⟨_, ((pss_one (ps_ret (pe_lst (pa_cons (pe_tup (pa_cons (pe_exV T.ox_NoText T.m_NoText___init__.at_ (beq_iff_eq.mp T.m_NoText___init__.fn) G_NoText hr2 T.b_NoText___init__ pass0 rfl T.g_NoText (pa_cons (pv 0) pa_nil)) (pa_cons (pe_lst (pa_cons (pe_xv T.xf_NoText T.na_NoText_text (pe_exV T.ox_NoText T.m_NoText___init__.at_ (beq_iff_eq.mp T.m_NoText___init__.fn) G_NoText hr2 T.b_NoText___init__ pass0 rfl T.g_NoText (pa_cons (pv 0) pa_nil))) pa_nil)) (pa_cons (pe_lst (pa_cons (pv 0) pa_nil)) pa_nil)))) (pa_cons (pe_tup (pa_cons (pe_exV T.ox_NoRounds T.m_NoRounds___init__.at_ (beq_iff_eq.mp T.m_NoRounds___init__.fn) G_NoRounds hr2 T.b_NoRounds___init__ pass0 rfl T.g_NoRounds (pa_cons (pv 0) pa_nil)) (pa_cons (pe_lst (pa_cons (pe_xv T.xf_NoRounds T.na_NoRounds_rounds (pe_exV T.ox_NoRounds T.m_NoRounds___init__.at_ (beq_iff_eq.mp T.m_NoRounds___init__.fn) G_NoRounds hr2 T.b_NoRounds___init__ pass0 rfl T.g_NoRounds (pa_cons (pv 0) pa_nil))) pa_nil)) (pa_cons (pe_lst (pa_cons (pv 0) pa_nil)) pa_nil)))) (pa_cons (pe_tup (pa_cons (pe_exV T.ox_NoName T.m_NoName___init__.at_ (beq_iff_eq.mp T.m_NoName___init__.fn) G_NoName hr2 T.b_NoName___init__ pass0 rfl T.g_NoName (pa_cons (pv 0) pa_nil)) (pa_cons (pe_lst (pa_cons (pe_xv T.xf_NoName T.na_NoName_name (pe_exV T.ox_NoName T.m_NoName___init__.at_ (beq_iff_eq.mp T.m_NoName___init__.fn) G_NoName hr2 T.b_NoName___init__ pass0 rfl T.g_NoName (pa_cons (pv 0) pa_nil))) pa_nil)) (pa_cons (pe_lst (pa_cons (pv 0) pa_nil)) pa_nil)))) (pa_cons (pe_tup (pa_cons (pe_exV T.ox_BadPace T.m_BadPace___init__.at_ (beq_iff_eq.mp T.m_BadPace___init__.fn) G_BadPace hr2 T.b_BadPace___init__ pass0 rfl T.g_BadPace (pa_cons (pv 0) pa_nil)) (pa_cons (pe_lst (pa_cons (pe_xv T.xf_BadPace T.na_BadPace_pace (pe_exV T.ox_BadPace T.m_BadPace___init__.at_ (beq_iff_eq.mp T.m_BadPace___init__.fn) G_BadPace hr2 T.b_BadPace___init__ pass0 rfl T.g_BadPace (pa_cons (pv 0) pa_nil))) pa_nil)) (pa_cons (pe_lst (pa_cons (pv 0) pa_nil)) pa_nil)))) (pa_cons (pe_tup (pa_cons (pe_exV T.ox_NoStep T.m_NoStep___init__.at_ (beq_iff_eq.mp T.m_NoStep___init__.fn) G_NoStep hr2 T.b_NoStep___init__ pass0 rfl T.g_NoStep (pa_cons (pv 0) pa_nil)) (pa_cons (pe_lst (pa_cons (pe_xv T.xf_NoStep T.na_NoStep_step (pe_exV T.ox_NoStep T.m_NoStep___init__.at_ (beq_iff_eq.mp T.m_NoStep___init__.fn) G_NoStep hr2 T.b_NoStep___init__ pass0 rfl T.g_NoStep (pa_cons (pv 0) pa_nil))) pa_nil)) (pa_cons (pe_lst (pa_cons (pv 0) pa_nil)) pa_nil)))) (pa_cons (pe_tup (pa_cons (pe_exV T.ox_Unfilled T.m_Unfilled___init__.at_ (beq_iff_eq.mp T.m_Unfilled___init__.fn) G_Unfilled hr2 T.b_Unfilled___init__ pass0 rfl T.g_Unfilled (pa_cons (pv 0) pa_nil)) (pa_cons (pe_lst (pa_cons (pe_xv T.xf_Unfilled T.na_Unfilled_name (pe_exV T.ox_Unfilled T.m_Unfilled___init__.at_ (beq_iff_eq.mp T.m_Unfilled___init__.fn) G_Unfilled hr2 T.b_Unfilled___init__ pass0 rfl T.g_Unfilled (pa_cons (pv 0) pa_nil))) pa_nil)) (pa_cons (pe_lst (pa_cons (pv 0) pa_nil)) pa_nil)))) (pa_cons (pe_tup (pa_cons (pe_exV T.ox_NoChart T.m_NoChart___init__.at_ (beq_iff_eq.mp T.m_NoChart___init__.fn) G_NoChart hr2 T.b_NoChart___init__ pass0 rfl T.g_NoChart (pa_cons (pv 0) pa_nil)) (pa_cons (pe_lst (pa_cons (pe_xv T.xf_NoChart T.na_NoChart_line (pe_exV T.ox_NoChart T.m_NoChart___init__.at_ (beq_iff_eq.mp T.m_NoChart___init__.fn) G_NoChart hr2 T.b_NoChart___init__ pass0 rfl T.g_NoChart (pa_cons (pv 0) pa_nil))) pa_nil)) (pa_cons (pe_lst (pa_cons (pv 0) pa_nil)) pa_nil)))) (pa_cons (pe_tup (pa_cons (pe_exV T.ox_TooSoon T.m_TooSoon___init__.at_ (beq_iff_eq.mp T.m_TooSoon___init__.fn) G_TooSoon hr2 T.b_TooSoon___init__ pass0 rfl T.g_TooSoon (pa_cons (pv 0) pa_nil)) (pa_cons (pe_lst (pa_cons (pe_xv T.xf_TooSoon T.na_TooSoon_least (pe_exV T.ox_TooSoon T.m_TooSoon___init__.at_ (beq_iff_eq.mp T.m_TooSoon___init__.fn) G_TooSoon hr2 T.b_TooSoon___init__ pass0 rfl T.g_TooSoon (pa_cons (pv 0) pa_nil))) pa_nil)) (pa_cons (pe_lst (pa_cons (pv 0) pa_nil)) pa_nil)))) (pa_cons (pe_tup (pa_cons (pe_exV T.ox_NoStretch T.m_NoStretch___init__.at_ (beq_iff_eq.mp T.m_NoStretch___init__.fn) G_NoStretch hr2 T.b_NoStretch___init__ pass0 rfl T.g_NoStretch (pa_cons (pv 0) pa_nil)) (pa_cons (pe_lst (pa_cons (pe_xv T.xf_NoStretch T.na_NoStretch_until (pe_exV T.ox_NoStretch T.m_NoStretch___init__.at_ (beq_iff_eq.mp T.m_NoStretch___init__.fn) G_NoStretch hr2 T.b_NoStretch___init__ pass0 rfl T.g_NoStretch (pa_cons (pv 0) pa_nil))) pa_nil)) (pa_cons (pe_lst (pa_cons (pv 0) pa_nil)) pa_nil)))) (pa_cons (pe_tup (pa_cons (pe_exV T.ox_OutOfWindow T.m_OutOfWindow___init__.at_ (beq_iff_eq.mp T.m_OutOfWindow___init__.fn) G_OutOfWindow hr2 T.b_OutOfWindow___init__ pass0 rfl T.g_OutOfWindow (pa_cons (pv 0) pa_nil)) (pa_cons (pe_lst (pa_cons (pe_xv T.xf_OutOfWindow T.na_OutOfWindow_name (pe_exV T.ox_OutOfWindow T.m_OutOfWindow___init__.at_ (beq_iff_eq.mp T.m_OutOfWindow___init__.fn) G_OutOfWindow hr2 T.b_OutOfWindow___init__ pass0 rfl T.g_OutOfWindow (pa_cons (pv 0) pa_nil))) pa_nil)) (pa_cons (pe_lst (pa_cons (pv 0) pa_nil)) pa_nil)))) (pa_cons (pe_tup (pa_cons (pe_exV T.ox_NoMove T.m_NoMove___init__.at_ (beq_iff_eq.mp T.m_NoMove___init__.fn) G_NoMove hr2 T.b_NoMove___init__ pass0 rfl T.g_NoMove (pa_cons (pv 0) pa_nil)) (pa_cons (pe_lst (pa_cons (pe_xv T.xf_NoMove T.na_NoMove_begin (pe_exV T.ox_NoMove T.m_NoMove___init__.at_ (beq_iff_eq.mp T.m_NoMove___init__.fn) G_NoMove hr2 T.b_NoMove___init__ pass0 rfl T.g_NoMove (pa_cons (pv 0) pa_nil))) pa_nil)) (pa_cons (pe_lst (pa_cons (pv 0) pa_nil)) pa_nil)))) (pa_cons (pe_tup (pa_cons (pe_exV T.ox_NoChannel T.m_NoChannel___init__.at_ (beq_iff_eq.mp T.m_NoChannel___init__.fn) G_NoChannel hr2 T.b_NoChannel___init__ pass0 rfl T.g_NoChannel (pa_cons (pv 0) pa_nil)) (pa_cons (pe_lst (pa_cons (pe_xv T.xf_NoChannel T.na_NoChannel_name (pe_exV T.ox_NoChannel T.m_NoChannel___init__.at_ (beq_iff_eq.mp T.m_NoChannel___init__.fn) G_NoChannel hr2 T.b_NoChannel___init__ pass0 rfl T.g_NoChannel (pa_cons (pv 0) pa_nil))) pa_nil)) (pa_cons (pe_lst (pa_cons (pv 0) pa_nil)) pa_nil)))) (pa_cons (pe_tup (pa_cons (pe_exV T.ox_NoSpan T.m_NoSpan___init__.at_ (beq_iff_eq.mp T.m_NoSpan___init__.fn) G_NoSpan hr2 T.b_NoSpan___init__ pass0 rfl T.g_NoSpan (pa_cons (pv 0) pa_nil)) (pa_cons (pe_lst (pa_cons (pe_xv T.xf_NoSpan T.na_NoSpan_span (pe_exV T.ox_NoSpan T.m_NoSpan___init__.at_ (beq_iff_eq.mp T.m_NoSpan___init__.fn) G_NoSpan hr2 T.b_NoSpan___init__ pass0 rfl T.g_NoSpan (pa_cons (pv 0) pa_nil))) pa_nil)) (pa_cons (pe_lst (pa_cons (pv 0) pa_nil)) pa_nil)))) (pa_cons (pe_tup (pa_cons (pe_exV T.ox_Ringed T.m_Ringed___init__.at_ (beq_iff_eq.mp T.m_Ringed___init__.fn) G_Ringed hr2 T.b_Ringed___init__ pass0 rfl T.g_Ringed (pa_cons (pv 0) pa_nil)) (pa_cons (pe_lst (pa_cons (pe_xv T.xf_Ringed T.na_Ringed_ring (pe_exV T.ox_Ringed T.m_Ringed___init__.at_ (beq_iff_eq.mp T.m_Ringed___init__.fn) G_Ringed hr2 T.b_Ringed___init__ pass0 rfl T.g_Ringed (pa_cons (pv 0) pa_nil))) pa_nil)) (pa_cons (pe_lst (pa_cons (pv 0) pa_nil)) pa_nil)))) pa_nil)))))))))))))))))), ?_⟩
    have e0 : Ext H H := fun _ _ e => e
    have L : RowsE H [] [] := .nil
    walk_at "vc"
    try refine w_tMkV ?_
    walk_at "vc"
    refine w_mkV rfl (by decide) fun r0 M0 m0 x0 => ?_
    replace L := rows_up m0 L
    replace e0 := e0.t m0
    walk_at "vc"
    try refine w_tXv ?_
    walk_at "vc"
    try refine w_tMkV ?_
    walk_at "vc"
    refine w_mkV rfl (by decide) fun r30 M30 m30 x30 => ?_
    replace x0 := x0.up m30
    replace L := rows_up m30 L
    replace e0 := e0.t m30
    walk_at "vc"
    refine w_xv x30 xl1 ?_
    walk_at "vc"
    refine n_lst (by show 1 ≤ 100000; decide) fun l0 A0 _ ea0 ua0 => ?_
    replace x0 := x0.up ea0
    replace L := rows_up ea0 L
    replace e0 := e0.t ea0
    walk_at "vc"
    refine n_lst (by show 1 ≤ 100000; decide) fun k0 B0 _ eb0 ub0 => ?_
    replace x0 := x0.up eb0
    replace L := rows_up eb0 L
    replace e0 := e0.t eb0
    replace ua0 := eb0 _ _ ua0
    walk_at "vc"
    refine n_tup (by show 3 ≤ 100000; decide) fun p0 D0 _ ed0 ud0 => ?_
    replace x0 := x0.up ed0
    replace L := rows_up ed0 L
    replace e0 := e0.t ed0
    replace L := L.snoc (b := T.C_NoText) ⟨p0, r0, l0, k0, [a], rfl, ud0, x0.is, ed0 _ _ ua0, ed0 _ _ ub0, rfl⟩
    walk_at "vc"
    try refine w_tMkV ?_
    walk_at "vc"
    refine w_mkV rfl (by decide) fun r1 M1 m1 x1 => ?_
    replace L := rows_up m1 L
    replace e0 := e0.t m1
    walk_at "vc"
    try refine w_tXv ?_
    walk_at "vc"
    try refine w_tMkV ?_
    walk_at "vc"
    refine w_mkV rfl (by decide) fun r31 M31 m31 x31 => ?_
    replace x1 := x1.up m31
    replace L := rows_up m31 L
    replace e0 := e0.t m31
    walk_at "vc"
    refine w_xv x31 xl1 ?_
    walk_at "vc"
    refine n_lst (by show 1 ≤ 100000; decide) fun l1 A1 _ ea1 ua1 => ?_
    replace x1 := x1.up ea1
    replace L := rows_up ea1 L
    replace e0 := e0.t ea1
    walk_at "vc"
    refine n_lst (by show 1 ≤ 100000; decide) fun k1 B1 _ eb1 ub1 => ?_
    replace x1 := x1.up eb1
    replace L := rows_up eb1 L
    replace e0 := e0.t eb1
    replace ua1 := eb1 _ _ ua1
    walk_at "vc"
    refine n_tup (by show 3 ≤ 100000; decide) fun p1 D1 _ ed1 ud1 => ?_
    replace x1 := x1.up ed1
    replace L := rows_up ed1 L
    replace e0 := e0.t ed1
    replace L := L.snoc (b := T.C_NoRounds) ⟨p1, r1, l1, k1, [a], rfl, ud1, x1.is, ed1 _ _ ua1, ed1 _ _ ub1, rfl⟩
    walk_at "vc"
    try refine w_tMkV ?_
    walk_at "vc"
    refine w_mkV rfl (by decide) fun r2 M2 m2 x2 => ?_
    replace L := rows_up m2 L
    replace e0 := e0.t m2
    walk_at "vc"
    try refine w_tXv ?_
    walk_at "vc"
    try refine w_tMkV ?_
    walk_at "vc"
    refine w_mkV rfl (by decide) fun r32 M32 m32 x32 => ?_
    replace x2 := x2.up m32
    replace L := rows_up m32 L
    replace e0 := e0.t m32
    walk_at "vc"
    refine w_xv x32 xl1 ?_
    walk_at "vc"
    refine n_lst (by show 1 ≤ 100000; decide) fun l2 A2 _ ea2 ua2 => ?_
    replace x2 := x2.up ea2
    replace L := rows_up ea2 L
    replace e0 := e0.t ea2
    walk_at "vc"
    refine n_lst (by show 1 ≤ 100000; decide) fun k2 B2 _ eb2 ub2 => ?_
    replace x2 := x2.up eb2
    replace L := rows_up eb2 L
    replace e0 := e0.t eb2
    replace ua2 := eb2 _ _ ua2
    walk_at "vc"
    refine n_tup (by show 3 ≤ 100000; decide) fun p2 D2 _ ed2 ud2 => ?_
    replace x2 := x2.up ed2
    replace L := rows_up ed2 L
    replace e0 := e0.t ed2
    replace L := L.snoc (b := T.C_NoName) ⟨p2, r2, l2, k2, [a], rfl, ud2, x2.is, ed2 _ _ ua2, ed2 _ _ ub2, rfl⟩
    walk_at "vc"
    try refine w_tMkV ?_
    walk_at "vc"
    refine w_mkV rfl (by decide) fun r3 M3 m3 x3 => ?_
    replace L := rows_up m3 L
    replace e0 := e0.t m3
    walk_at "vc"
    try refine w_tXv ?_
    walk_at "vc"
    try refine w_tMkV ?_
    walk_at "vc"
    refine w_mkV rfl (by decide) fun r33 M33 m33 x33 => ?_
    replace x3 := x3.up m33
    replace L := rows_up m33 L
    replace e0 := e0.t m33
    walk_at "vc"
    refine w_xv x33 xl1 ?_
    walk_at "vc"
    refine n_lst (by show 1 ≤ 100000; decide) fun l3 A3 _ ea3 ua3 => ?_
    replace x3 := x3.up ea3
    replace L := rows_up ea3 L
    replace e0 := e0.t ea3
    walk_at "vc"
    refine n_lst (by show 1 ≤ 100000; decide) fun k3 B3 _ eb3 ub3 => ?_
    replace x3 := x3.up eb3
    replace L := rows_up eb3 L
    replace e0 := e0.t eb3
    replace ua3 := eb3 _ _ ua3
    walk_at "vc"
    refine n_tup (by show 3 ≤ 100000; decide) fun p3 D3 _ ed3 ud3 => ?_
    replace x3 := x3.up ed3
    replace L := rows_up ed3 L
    replace e0 := e0.t ed3
    replace L := L.snoc (b := T.C_BadPace) ⟨p3, r3, l3, k3, [a], rfl, ud3, x3.is, ed3 _ _ ua3, ed3 _ _ ub3, rfl⟩
    walk_at "vc"
    try refine w_tMkV ?_
    walk_at "vc"
    refine w_mkV rfl (by decide) fun r4 M4 m4 x4 => ?_
    replace L := rows_up m4 L
    replace e0 := e0.t m4
    walk_at "vc"
    try refine w_tXv ?_
    walk_at "vc"
    try refine w_tMkV ?_
    walk_at "vc"
    refine w_mkV rfl (by decide) fun r34 M34 m34 x34 => ?_
    replace x4 := x4.up m34
    replace L := rows_up m34 L
    replace e0 := e0.t m34
    walk_at "vc"
    refine w_xv x34 xl1 ?_
    walk_at "vc"
    refine n_lst (by show 1 ≤ 100000; decide) fun l4 A4 _ ea4 ua4 => ?_
    replace x4 := x4.up ea4
    replace L := rows_up ea4 L
    replace e0 := e0.t ea4
    walk_at "vc"
    refine n_lst (by show 1 ≤ 100000; decide) fun k4 B4 _ eb4 ub4 => ?_
    replace x4 := x4.up eb4
    replace L := rows_up eb4 L
    replace e0 := e0.t eb4
    replace ua4 := eb4 _ _ ua4
    walk_at "vc"
    refine n_tup (by show 3 ≤ 100000; decide) fun p4 D4 _ ed4 ud4 => ?_
    replace x4 := x4.up ed4
    replace L := rows_up ed4 L
    replace e0 := e0.t ed4
    replace L := L.snoc (b := T.C_NoStep) ⟨p4, r4, l4, k4, [a], rfl, ud4, x4.is, ed4 _ _ ua4, ed4 _ _ ub4, rfl⟩
    walk_at "vc"
    try refine w_tMkV ?_
    walk_at "vc"
    refine w_mkV rfl (by decide) fun r5 M5 m5 x5 => ?_
    replace L := rows_up m5 L
    replace e0 := e0.t m5
    walk_at "vc"
    try refine w_tXv ?_
    walk_at "vc"
    try refine w_tMkV ?_
    walk_at "vc"
    refine w_mkV rfl (by decide) fun r35 M35 m35 x35 => ?_
    replace x5 := x5.up m35
    replace L := rows_up m35 L
    replace e0 := e0.t m35
    walk_at "vc"
    refine w_xv x35 xl1 ?_
    walk_at "vc"
    refine n_lst (by show 1 ≤ 100000; decide) fun l5 A5 _ ea5 ua5 => ?_
    replace x5 := x5.up ea5
    replace L := rows_up ea5 L
    replace e0 := e0.t ea5
    walk_at "vc"
    refine n_lst (by show 1 ≤ 100000; decide) fun k5 B5 _ eb5 ub5 => ?_
    replace x5 := x5.up eb5
    replace L := rows_up eb5 L
    replace e0 := e0.t eb5
    replace ua5 := eb5 _ _ ua5
    walk_at "vc"
    refine n_tup (by show 3 ≤ 100000; decide) fun p5 D5 _ ed5 ud5 => ?_
    replace x5 := x5.up ed5
    replace L := rows_up ed5 L
    replace e0 := e0.t ed5
    replace L := L.snoc (b := T.C_Unfilled) ⟨p5, r5, l5, k5, [a], rfl, ud5, x5.is, ed5 _ _ ua5, ed5 _ _ ub5, rfl⟩
    walk_at "vc"
    try refine w_tMkV ?_
    walk_at "vc"
    refine w_mkV rfl (by decide) fun r6 M6 m6 x6 => ?_
    replace L := rows_up m6 L
    replace e0 := e0.t m6
    walk_at "vc"
    try refine w_tXv ?_
    walk_at "vc"
    try refine w_tMkV ?_
    walk_at "vc"
    refine w_mkV rfl (by decide) fun r36 M36 m36 x36 => ?_
    replace x6 := x6.up m36
    replace L := rows_up m36 L
    replace e0 := e0.t m36
    walk_at "vc"
    refine w_xv x36 xl1 ?_
    walk_at "vc"
    refine n_lst (by show 1 ≤ 100000; decide) fun l6 A6 _ ea6 ua6 => ?_
    replace x6 := x6.up ea6
    replace L := rows_up ea6 L
    replace e0 := e0.t ea6
    walk_at "vc"
    refine n_lst (by show 1 ≤ 100000; decide) fun k6 B6 _ eb6 ub6 => ?_
    replace x6 := x6.up eb6
    replace L := rows_up eb6 L
    replace e0 := e0.t eb6
    replace ua6 := eb6 _ _ ua6
    walk_at "vc"
    refine n_tup (by show 3 ≤ 100000; decide) fun p6 D6 _ ed6 ud6 => ?_
    replace x6 := x6.up ed6
    replace L := rows_up ed6 L
    replace e0 := e0.t ed6
    replace L := L.snoc (b := T.C_NoChart) ⟨p6, r6, l6, k6, [a], rfl, ud6, x6.is, ed6 _ _ ua6, ed6 _ _ ub6, rfl⟩
    walk_at "vc"
    try refine w_tMkV ?_
    walk_at "vc"
    refine w_mkV rfl (by decide) fun r7 M7 m7 x7 => ?_
    replace L := rows_up m7 L
    replace e0 := e0.t m7
    walk_at "vc"
    try refine w_tXv ?_
    walk_at "vc"
    try refine w_tMkV ?_
    walk_at "vc"
    refine w_mkV rfl (by decide) fun r37 M37 m37 x37 => ?_
    replace x7 := x7.up m37
    replace L := rows_up m37 L
    replace e0 := e0.t m37
    walk_at "vc"
    refine w_xv x37 xl1 ?_
    walk_at "vc"
    refine n_lst (by show 1 ≤ 100000; decide) fun l7 A7 _ ea7 ua7 => ?_
    replace x7 := x7.up ea7
    replace L := rows_up ea7 L
    replace e0 := e0.t ea7
    walk_at "vc"
    refine n_lst (by show 1 ≤ 100000; decide) fun k7 B7 _ eb7 ub7 => ?_
    replace x7 := x7.up eb7
    replace L := rows_up eb7 L
    replace e0 := e0.t eb7
    replace ua7 := eb7 _ _ ua7
    walk_at "vc"
    refine n_tup (by show 3 ≤ 100000; decide) fun p7 D7 _ ed7 ud7 => ?_
    replace x7 := x7.up ed7
    replace L := rows_up ed7 L
    replace e0 := e0.t ed7
    replace L := L.snoc (b := T.C_TooSoon) ⟨p7, r7, l7, k7, [a], rfl, ud7, x7.is, ed7 _ _ ua7, ed7 _ _ ub7, rfl⟩
    walk_at "vc"
    try refine w_tMkV ?_
    walk_at "vc"
    refine w_mkV rfl (by decide) fun r8 M8 m8 x8 => ?_
    replace L := rows_up m8 L
    replace e0 := e0.t m8
    walk_at "vc"
    try refine w_tXv ?_
    walk_at "vc"
    try refine w_tMkV ?_
    walk_at "vc"
    refine w_mkV rfl (by decide) fun r38 M38 m38 x38 => ?_
    replace x8 := x8.up m38
    replace L := rows_up m38 L
    replace e0 := e0.t m38
    walk_at "vc"
    refine w_xv x38 xl1 ?_
    walk_at "vc"
    refine n_lst (by show 1 ≤ 100000; decide) fun l8 A8 _ ea8 ua8 => ?_
    replace x8 := x8.up ea8
    replace L := rows_up ea8 L
    replace e0 := e0.t ea8
    walk_at "vc"
    refine n_lst (by show 1 ≤ 100000; decide) fun k8 B8 _ eb8 ub8 => ?_
    replace x8 := x8.up eb8
    replace L := rows_up eb8 L
    replace e0 := e0.t eb8
    replace ua8 := eb8 _ _ ua8
    walk_at "vc"
    refine n_tup (by show 3 ≤ 100000; decide) fun p8 D8 _ ed8 ud8 => ?_
    replace x8 := x8.up ed8
    replace L := rows_up ed8 L
    replace e0 := e0.t ed8
    replace L := L.snoc (b := T.C_NoStretch) ⟨p8, r8, l8, k8, [a], rfl, ud8, x8.is, ed8 _ _ ua8, ed8 _ _ ub8, rfl⟩
    walk_at "vc"
    try refine w_tMkV ?_
    walk_at "vc"
    refine w_mkV rfl (by decide) fun r9 M9 m9 x9 => ?_
    replace L := rows_up m9 L
    replace e0 := e0.t m9
    walk_at "vc"
    try refine w_tXv ?_
    walk_at "vc"
    try refine w_tMkV ?_
    walk_at "vc"
    refine w_mkV rfl (by decide) fun r39 M39 m39 x39 => ?_
    replace x9 := x9.up m39
    replace L := rows_up m39 L
    replace e0 := e0.t m39
    walk_at "vc"
    refine w_xv x39 xl1 ?_
    walk_at "vc"
    refine n_lst (by show 1 ≤ 100000; decide) fun l9 A9 _ ea9 ua9 => ?_
    replace x9 := x9.up ea9
    replace L := rows_up ea9 L
    replace e0 := e0.t ea9
    walk_at "vc"
    refine n_lst (by show 1 ≤ 100000; decide) fun k9 B9 _ eb9 ub9 => ?_
    replace x9 := x9.up eb9
    replace L := rows_up eb9 L
    replace e0 := e0.t eb9
    replace ua9 := eb9 _ _ ua9
    walk_at "vc"
    refine n_tup (by show 3 ≤ 100000; decide) fun p9 D9 _ ed9 ud9 => ?_
    replace x9 := x9.up ed9
    replace L := rows_up ed9 L
    replace e0 := e0.t ed9
    replace L := L.snoc (b := T.C_OutOfWindow) ⟨p9, r9, l9, k9, [a], rfl, ud9, x9.is, ed9 _ _ ua9, ed9 _ _ ub9, rfl⟩
    walk_at "vc"
    try refine w_tMkV ?_
    walk_at "vc"
    refine w_mkV rfl (by decide) fun r10 M10 m10 x10 => ?_
    replace L := rows_up m10 L
    replace e0 := e0.t m10
    walk_at "vc"
    try refine w_tXv ?_
    walk_at "vc"
    try refine w_tMkV ?_
    walk_at "vc"
    refine w_mkV rfl (by decide) fun r40 M40 m40 x40 => ?_
    replace x10 := x10.up m40
    replace L := rows_up m40 L
    replace e0 := e0.t m40
    walk_at "vc"
    refine w_xv x40 xl1 ?_
    walk_at "vc"
    refine n_lst (by show 1 ≤ 100000; decide) fun l10 A10 _ ea10 ua10 => ?_
    replace x10 := x10.up ea10
    replace L := rows_up ea10 L
    replace e0 := e0.t ea10
    walk_at "vc"
    refine n_lst (by show 1 ≤ 100000; decide) fun k10 B10 _ eb10 ub10 => ?_
    replace x10 := x10.up eb10
    replace L := rows_up eb10 L
    replace e0 := e0.t eb10
    replace ua10 := eb10 _ _ ua10
    walk_at "vc"
    refine n_tup (by show 3 ≤ 100000; decide) fun p10 D10 _ ed10 ud10 => ?_
    replace x10 := x10.up ed10
    replace L := rows_up ed10 L
    replace e0 := e0.t ed10
    replace L := L.snoc (b := T.C_NoMove) ⟨p10, r10, l10, k10, [a], rfl, ud10, x10.is, ed10 _ _ ua10, ed10 _ _ ub10, rfl⟩
    walk_at "vc"
    try refine w_tMkV ?_
    walk_at "vc"
    refine w_mkV rfl (by decide) fun r11 M11 m11 x11 => ?_
    replace L := rows_up m11 L
    replace e0 := e0.t m11
    walk_at "vc"
    try refine w_tXv ?_
    walk_at "vc"
    try refine w_tMkV ?_
    walk_at "vc"
    refine w_mkV rfl (by decide) fun r41 M41 m41 x41 => ?_
    replace x11 := x11.up m41
    replace L := rows_up m41 L
    replace e0 := e0.t m41
    walk_at "vc"
    refine w_xv x41 xl1 ?_
    walk_at "vc"
    refine n_lst (by show 1 ≤ 100000; decide) fun l11 A11 _ ea11 ua11 => ?_
    replace x11 := x11.up ea11
    replace L := rows_up ea11 L
    replace e0 := e0.t ea11
    walk_at "vc"
    refine n_lst (by show 1 ≤ 100000; decide) fun k11 B11 _ eb11 ub11 => ?_
    replace x11 := x11.up eb11
    replace L := rows_up eb11 L
    replace e0 := e0.t eb11
    replace ua11 := eb11 _ _ ua11
    walk_at "vc"
    refine n_tup (by show 3 ≤ 100000; decide) fun p11 D11 _ ed11 ud11 => ?_
    replace x11 := x11.up ed11
    replace L := rows_up ed11 L
    replace e0 := e0.t ed11
    replace L := L.snoc (b := T.C_NoChannel) ⟨p11, r11, l11, k11, [a], rfl, ud11, x11.is, ed11 _ _ ua11, ed11 _ _ ub11, rfl⟩
    walk_at "vc"
    try refine w_tMkV ?_
    walk_at "vc"
    refine w_mkV rfl (by decide) fun r12 M12 m12 x12 => ?_
    replace L := rows_up m12 L
    replace e0 := e0.t m12
    walk_at "vc"
    try refine w_tXv ?_
    walk_at "vc"
    try refine w_tMkV ?_
    walk_at "vc"
    refine w_mkV rfl (by decide) fun r42 M42 m42 x42 => ?_
    replace x12 := x12.up m42
    replace L := rows_up m42 L
    replace e0 := e0.t m42
    walk_at "vc"
    refine w_xv x42 xl1 ?_
    walk_at "vc"
    refine n_lst (by show 1 ≤ 100000; decide) fun l12 A12 _ ea12 ua12 => ?_
    replace x12 := x12.up ea12
    replace L := rows_up ea12 L
    replace e0 := e0.t ea12
    walk_at "vc"
    refine n_lst (by show 1 ≤ 100000; decide) fun k12 B12 _ eb12 ub12 => ?_
    replace x12 := x12.up eb12
    replace L := rows_up eb12 L
    replace e0 := e0.t eb12
    replace ua12 := eb12 _ _ ua12
    walk_at "vc"
    refine n_tup (by show 3 ≤ 100000; decide) fun p12 D12 _ ed12 ud12 => ?_
    replace x12 := x12.up ed12
    replace L := rows_up ed12 L
    replace e0 := e0.t ed12
    replace L := L.snoc (b := T.C_NoSpan) ⟨p12, r12, l12, k12, [a], rfl, ud12, x12.is, ed12 _ _ ua12, ed12 _ _ ub12, rfl⟩
    walk_at "vc"
    try refine w_tMkV ?_
    walk_at "vc"
    refine w_mkV rfl (by decide) fun r13 M13 m13 x13 => ?_
    replace L := rows_up m13 L
    replace e0 := e0.t m13
    walk_at "vc"
    try refine w_tXv ?_
    walk_at "vc"
    try refine w_tMkV ?_
    walk_at "vc"
    refine w_mkV rfl (by decide) fun r43 M43 m43 x43 => ?_
    replace x13 := x13.up m43
    replace L := rows_up m43 L
    replace e0 := e0.t m43
    walk_at "vc"
    refine w_xv x43 xl1 ?_
    walk_at "vc"
    refine n_lst (by show 1 ≤ 100000; decide) fun l13 A13 _ ea13 ua13 => ?_
    replace x13 := x13.up ea13
    replace L := rows_up ea13 L
    replace e0 := e0.t ea13
    walk_at "vc"
    refine n_lst (by show 1 ≤ 100000; decide) fun k13 B13 _ eb13 ub13 => ?_
    replace x13 := x13.up eb13
    replace L := rows_up eb13 L
    replace e0 := e0.t eb13
    replace ua13 := eb13 _ _ ua13
    walk_at "vc"
    refine n_tup (by show 3 ≤ 100000; decide) fun p13 D13 _ ed13 ud13 => ?_
    replace x13 := x13.up ed13
    replace L := rows_up ed13 L
    replace e0 := e0.t ed13
    replace L := L.snoc (b := T.C_Ringed) ⟨p13, r13, l13, k13, [a], rfl, ud13, x13.is, ed13 _ _ ua13, ed13 _ _ ub13, rfl⟩
    walk_at "vc"
    refine n_lst (by show 14 ≤ 100000; decide) fun p H9 _ e9 u9 => ?_
    exact k p H9 _ (e0.t e9) u9 (rows_up e9 L)
end
end AT
namespace AT
open PySem PySem.Spec PyProof.Rows L2
section
variable {P : Program} {w : World} {K : PySem.W.Frag} {mg : Str → Option Value} {base : Heap}
theorem nd_ne {A : Addr} {l : List Addr} (h : (A :: l).Nodup) {C : Addr} (m : C ∈ l) : C ≠ A := fun e => (List.nodup_cons.mp h).1 (e ▸ m)
def errs (T : Tx K mg) : List Addr := [T.C_NoMoment, T.C_NoMark, T.C_NoWindow, T.C_NoPace, T.C_Lost, T.C_LooksAhead, T.C_NoTurns, T.C_NotPlain, T.C_NoText, T.C_NoRounds, T.C_NoName, T.C_BadPace, T.C_NoStep, T.C_Unfilled, T.C_NoChart, T.C_TooSoon, T.C_NoStretch, T.C_OutOfWindow, T.C_NoMove, T.C_NoChannel, T.C_NoSpan, T.C_Ringed]
def spKinds (K : PySem.W.Frag) (A : Addr) (Ds : List Addr) : Sp := fun vs H Q _ => ∃ (a C : Addr), vs = [.ref a] ∧ IsEx H a C ∧ ErrO K A C ∧ ∀ p H', Ext H H' → H' p = some (.lst (Ds.map fun D => V.bl (decide (C = D)))) → Q (.ref p) H'
theorem ok__law_kinds (T : Tx K mg) : FnOk P w K mg base CX0 3 T.a__law_kinds T.d__law_kinds ["_law_error"] (spKinds K T.C_AnytuneError (errs T)) := by
  refine T.F__law_kinds.ok sc__law_kinds (fun vs H Q E h => ?_) (fun cdv A outer s H vs Q E hr h => ?_)
  · obtain ⟨a, C, rfl, _⟩ := h
    rfl
  · obtain ⟨a, C, rfl, x, o, k⟩ := h
    refine ⟨_, ((pss_one (ps_ret (pe_lst (pa_cons (pe_callB call_isX (by rfl) T.n_isinstance boot_isinstance (pa_cons (pv 0) (pa_cons (pe_glob (v := .ref T.C_NoMoment) rfl T.g_NoMoment rfl) pa_nil))) (pa_cons (pe_callB call_isX (by rfl) T.n_isinstance boot_isinstance (pa_cons (pv 0) (pa_cons (pe_glob (v := .ref T.C_NoMark) rfl T.g_NoMark rfl) pa_nil))) (pa_cons (pe_callB call_isX (by rfl) T.n_isinstance boot_isinstance (pa_cons (pv 0) (pa_cons (pe_glob (v := .ref T.C_NoWindow) rfl T.g_NoWindow rfl) pa_nil))) (pa_cons (pe_callB call_isX (by rfl) T.n_isinstance boot_isinstance (pa_cons (pv 0) (pa_cons (pe_glob (v := .ref T.C_NoPace) rfl T.g_NoPace rfl) pa_nil))) (pa_cons (pe_callB call_isX (by rfl) T.n_isinstance boot_isinstance (pa_cons (pv 0) (pa_cons (pe_glob (v := .ref T.C_Lost) rfl T.g_Lost rfl) pa_nil))) (pa_cons (pe_callB call_isX (by rfl) T.n_isinstance boot_isinstance (pa_cons (pv 0) (pa_cons (pe_glob (v := .ref T.C_LooksAhead) rfl T.g_LooksAhead rfl) pa_nil))) (pa_cons (pe_callB call_isX (by rfl) T.n_isinstance boot_isinstance (pa_cons (pv 0) (pa_cons (pe_glob (v := .ref T.C_NoTurns) rfl T.g_NoTurns rfl) pa_nil))) (pa_cons (pe_callB call_isX (by rfl) T.n_isinstance boot_isinstance (pa_cons (pv 0) (pa_cons (pe_glob (v := .ref T.C_NotPlain) rfl T.g_NotPlain rfl) pa_nil))) (pa_cons (pe_callB call_isX (by rfl) T.n_isinstance boot_isinstance (pa_cons (pv 0) (pa_cons (pe_glob (v := .ref T.C_NoText) rfl T.g_NoText rfl) pa_nil))) (pa_cons (pe_callB call_isX (by rfl) T.n_isinstance boot_isinstance (pa_cons (pv 0) (pa_cons (pe_glob (v := .ref T.C_NoRounds) rfl T.g_NoRounds rfl) pa_nil))) (pa_cons (pe_callB call_isX (by rfl) T.n_isinstance boot_isinstance (pa_cons (pv 0) (pa_cons (pe_glob (v := .ref T.C_NoName) rfl T.g_NoName rfl) pa_nil))) (pa_cons (pe_callB call_isX (by rfl) T.n_isinstance boot_isinstance (pa_cons (pv 0) (pa_cons (pe_glob (v := .ref T.C_BadPace) rfl T.g_BadPace rfl) pa_nil))) (pa_cons (pe_callB call_isX (by rfl) T.n_isinstance boot_isinstance (pa_cons (pv 0) (pa_cons (pe_glob (v := .ref T.C_NoStep) rfl T.g_NoStep rfl) pa_nil))) (pa_cons (pe_callB call_isX (by rfl) T.n_isinstance boot_isinstance (pa_cons (pv 0) (pa_cons (pe_glob (v := .ref T.C_Unfilled) rfl T.g_Unfilled rfl) pa_nil))) (pa_cons (pe_callB call_isX (by rfl) T.n_isinstance boot_isinstance (pa_cons (pv 0) (pa_cons (pe_glob (v := .ref T.C_NoChart) rfl T.g_NoChart rfl) pa_nil))) (pa_cons (pe_callB call_isX (by rfl) T.n_isinstance boot_isinstance (pa_cons (pv 0) (pa_cons (pe_glob (v := .ref T.C_TooSoon) rfl T.g_TooSoon rfl) pa_nil))) (pa_cons (pe_callB call_isX (by rfl) T.n_isinstance boot_isinstance (pa_cons (pv 0) (pa_cons (pe_glob (v := .ref T.C_NoStretch) rfl T.g_NoStretch rfl) pa_nil))) (pa_cons (pe_callB call_isX (by rfl) T.n_isinstance boot_isinstance (pa_cons (pv 0) (pa_cons (pe_glob (v := .ref T.C_OutOfWindow) rfl T.g_OutOfWindow rfl) pa_nil))) (pa_cons (pe_callB call_isX (by rfl) T.n_isinstance boot_isinstance (pa_cons (pv 0) (pa_cons (pe_glob (v := .ref T.C_NoMove) rfl T.g_NoMove rfl) pa_nil))) (pa_cons (pe_callB call_isX (by rfl) T.n_isinstance boot_isinstance (pa_cons (pv 0) (pa_cons (pe_glob (v := .ref T.C_NoChannel) rfl T.g_NoChannel rfl) pa_nil))) (pa_cons (pe_callB call_isX (by rfl) T.n_isinstance boot_isinstance (pa_cons (pv 0) (pa_cons (pe_glob (v := .ref T.C_NoSpan) rfl T.g_NoSpan rfl) pa_nil))) (pa_cons (pe_callB call_isX (by rfl) T.n_isinstance boot_isinstance (pa_cons (pv 0) (pa_cons (pe_glob (v := .ref T.C_Ringed) rfl T.g_Ringed rfl) pa_nil))) pa_nil)))))))))))))))))))))))))), ?_⟩
    have nd := T.nd
    walk_at "vc"
    refine w_isX x o.exc (.own _) (o.kit T.eo_NoMoment (nd_ne T.nd (by simp))) ?_
    walk_at "vc"
    refine w_isX x o.exc (.own _) (o.kit T.eo_NoMark (nd_ne T.nd (by simp))) ?_
    walk_at "vc"
    refine w_isX x o.exc (.own _) (o.kit T.eo_NoWindow (nd_ne T.nd (by simp))) ?_
    walk_at "vc"
    refine w_isX x o.exc (.own _) (o.kit T.eo_NoPace (nd_ne T.nd (by simp))) ?_
    walk_at "vc"
    refine w_isX x o.exc (.own _) (o.kit T.eo_Lost (nd_ne T.nd (by simp))) ?_
    walk_at "vc"
    refine w_isX x o.exc (.own _) (o.kit T.eo_LooksAhead (nd_ne T.nd (by simp))) ?_
    walk_at "vc"
    refine w_isX x o.exc (.own _) (o.kit T.eo_NoTurns (nd_ne T.nd (by simp))) ?_
    walk_at "vc"
    refine w_isX x o.exc (.own _) (o.kit T.eo_NotPlain (nd_ne T.nd (by simp))) ?_
    walk_at "vc"
    refine w_isX x o.exc (.own _) (o.kit T.eo_NoText (nd_ne T.nd (by simp))) ?_
    walk_at "vc"
    refine w_isX x o.exc (.own _) (o.kit T.eo_NoRounds (nd_ne T.nd (by simp))) ?_
    walk_at "vc"
    refine w_isX x o.exc (.own _) (o.kit T.eo_NoName (nd_ne T.nd (by simp))) ?_
    walk_at "vc"
    refine w_isX x o.exc (.own _) (o.kit T.eo_BadPace (nd_ne T.nd (by simp))) ?_
    walk_at "vc"
    refine w_isX x o.exc (.own _) (o.kit T.eo_NoStep (nd_ne T.nd (by simp))) ?_
    walk_at "vc"
    refine w_isX x o.exc (.own _) (o.kit T.eo_Unfilled (nd_ne T.nd (by simp))) ?_
    walk_at "vc"
    refine w_isX x o.exc (.own _) (o.kit T.eo_NoChart (nd_ne T.nd (by simp))) ?_
    walk_at "vc"
    refine w_isX x o.exc (.own _) (o.kit T.eo_TooSoon (nd_ne T.nd (by simp))) ?_
    walk_at "vc"
    refine w_isX x o.exc (.own _) (o.kit T.eo_NoStretch (nd_ne T.nd (by simp))) ?_
    walk_at "vc"
    refine w_isX x o.exc (.own _) (o.kit T.eo_OutOfWindow (nd_ne T.nd (by simp))) ?_
    walk_at "vc"
    refine w_isX x o.exc (.own _) (o.kit T.eo_NoMove (nd_ne T.nd (by simp))) ?_
    walk_at "vc"
    refine w_isX x o.exc (.own _) (o.kit T.eo_NoChannel (nd_ne T.nd (by simp))) ?_
    walk_at "vc"
    refine w_isX x o.exc (.own _) (o.kit T.eo_NoSpan (nd_ne T.nd (by simp))) ?_
    walk_at "vc"
    refine w_isX x o.exc (.own _) (o.kit T.eo_Ringed (nd_ne T.nd (by simp))) ?_
    walk_at "vc"
    refine n_lst (by show 22 ≤ 100000; decide) fun p H1 _ e1 u1 => ?_
    exact k p H1 e1 u1
end
end AT
namespace AT
open PySem PySem.Spec PyProof.Rows L2
section
variable {P : Program} {w : World} {K : PySem.W.Frag} {mg : Str → Option Value} {base : Heap}
theorem pr_app {α β : Type} {F : α → β → Prop} {a c : List α} {b d : List β} (h : Paired F a b) (h' : Paired F c d) : Paired F (a ++ c) (b ++ d) := by
  induction h with
  | nil => exact h'
  | cons x _ ih => exact .cons x ih
theorem pr_get {α β : Type} {F : α → β → Prop} {l : List α} {m : List β} (h : Paired F l m) : ∀ {i : Nat} {b : β}, m[i]? = some b → ∃ a, l[i]? = some a ∧ F a b := by
  induction h with
  | nil => intro i b e; simp at e
  | @cons a b l1 l2 x t ih =>
    intro i c e
    cases i with
    | zero => exact ⟨a, rfl, by cases e; exact x⟩
    | succ i => exact ih (i := i) e
theorem w_asg {te : TE} {g : TG} {D : Ends} {σ : L2.St} {H : Hp} (h : te σ H fun x H1 => g x σ H1 D.nx) : tAsg te g D σ H := h
theorem w_trip {k j l : Nat} {p : Addr} {x y z : V} {σ : L2.St} {H : Hp} {Q : L2.St → Hp → Prop} (u : SqT K H p [x, y, z]) (h : Q (((σ.set k (some x)).set j (some y)).set l (some z)) H) : gTup K 3 (gCons (gName k) (gCons (gName j) (gCons (gName l) gNil))) (.ref p) σ H Q := ⟨p, _, rfl, u, rfl, _, _, rfl, _, _, rfl, _, _, rfl, rfl, h⟩
theorem w_cat {a b : Addr} {xs ys : List V} {H : Hp} {Q : VK} (h : H a = some (.lst xs)) (h' : H b = some (.lst ys)) (z : xs.length + ys.length ≤ 100000) (k : ∀ p H', Ext H H' → H' p = some (.lst (xs ++ ys)) → Q (.ref p) H') : rCat (.ref a) (.ref b) H Q :=
  ⟨a, b, xs, ys, rfl, rfl, h, h', Nat.le_trans z (by decide), fun p np => k p _ (Ext.new np) upd_same⟩
theorem dp_ints {K : PySem.W.Frag} {H : Hp} : ∀ ns : List Int, DpAll K H (ns.map V.int) (ns.map PyData.int)
  | [] => .nil
  | b :: r => .cons (.int b) (dp_ints r)
theorem eqv_ints : ∀ ns : List Int, PyData.eqvAll (ns.map PyData.int) (ns.map PyData.int) = true
  | [] => by simp [PyData.eqvAll]
  | b :: r => by simp [PyData.eqvAll, PyData.eqv, eqv_ints r]
theorem one_of {C : Addr} : ∀ {l : List Addr}, l.Nodup → C ∈ l → (l.filter fun D => decide (C = D)).length = 1
  | [], _, h => by simp at h
  | D :: r, n, h => by
    have n' := List.nodup_cons.mp n
    by_cases e : C = D
    · subst e
      rw [List.filter_cons, decide_eq_true rfl, if_pos rfl, List.length_cons]
      have z : (r.filter fun D => decide (C = D)) = [] := by
        rw [List.filter_eq_nil_iff]
        intro a ha q
        rw [decide_eq_true_iff] at q
        exact n'.1 (q ▸ ha)
      rw [z]
      rfl
    · rw [List.filter_cons, decide_eq_false e, if_neg (by decide)]
      exact one_of n'.2 ((List.mem_cons.mp h).resolve_left e)
def spLaw (K : PySem.W.Frag) : Sp := fun vs H Q _ => ∃ (a : Addr) (ns : List Int), vs = [.ref a] ∧ SqL K H a (ns.map V.int) ∧ ns.length ≤ 63 ∧ ∀ H', Q (.bl true) H'
theorem err_ok (T : Tx K mg) : ∀ C ∈ errs T, ErrO K T.C_AnytuneError C := by
  intro C h
  simp only [errs, List.mem_cons, List.not_mem_nil, or_false] at h
  rcases h with rfl | rfl | rfl | rfl | rfl | rfl | rfl | rfl | rfl | rfl | rfl | rfl | rfl | rfl | rfl | rfl | rfl | rfl | rfl | rfl | rfl | rfl
  · exact T.eo_NoMoment
  · exact T.eo_NoMark
  · exact T.eo_NoWindow
  · exact T.eo_NoPace
  · exact T.eo_Lost
  · exact T.eo_LooksAhead
  · exact T.eo_NoTurns
  · exact T.eo_NotPlain
  · exact T.eo_NoText
  · exact T.eo_NoRounds
  · exact T.eo_NoName
  · exact T.eo_BadPace
  · exact T.eo_NoStep
  · exact T.eo_Unfilled
  · exact T.eo_NoChart
  · exact T.eo_TooSoon
  · exact T.eo_NoStretch
  · exact T.eo_OutOfWindow
  · exact T.eo_NoMove
  · exact T.eo_NoChannel
  · exact T.eo_NoSpan
  · exact T.eo_Ringed
theorem ok_law (T : Tx K mg) : FnOk P w K mg base CX0 4 T.a_law T.d_law ["_law_script"] (spLaw K) := by
  refine T.F_law.ok sc_law (fun vs H Q E h => ?_) (fun cdv A outer s H vs Q E hr h => ?_)
  · obtain ⟨a, ns, rfl, _⟩ := h
    rfl
  · obtain ⟨a, ns, rfl, l, hz, q⟩ := h
    have G__law_cell : FnOk P w K mg base CX0 1 T.a__law_cell T.d__law_cell ["_law_script", "_law_k"] (spCell K) := ok__law_cell T
    have G__law_pairs : FnOk P w K mg base CX0 3 T.a__law_pairs T.d__law_pairs ["_law_a", "_law_b", "_law_c"] (spPairs (pcs T)) := ok__law_pairs T
    have G__law_singles : FnOk P w K mg base CX0 3 T.a__law_singles T.d__law_singles ["_law_a"] (spSingles (scs T)) := ok__law_singles T
    have G__law_kinds : FnOk P w K mg base CX0 3 T.a__law_kinds T.d__law_kinds ["_law_error"] (spKinds K T.C_AnytuneError (errs T)) := ok__law_kinds T
    have hr1 : Room 1 _ := hr.mono (by decide : 1 ≤ 3)
    have hr__law_cell := hr1
    have hr__law_pairs : Room 3 _ := hr
    have hr__law_singles : Room 3 _ := hr
    have hr__law_kinds : Room 3 _ := hr
    refine ⟨_, ((pss_cons (ps_set (i := 1) sc_law.nd rfl (Or.inl rfl) (pe_op op_mod (pe_callTy call_intR (by rfl) T.n_int boot_int (pa_cons (pe_call G__law_cell hr__law_cell rfl T.g__law_cell T.F__law_cell.kp T.b__law_cell .nil pass0 (pa_cons (pv 0) (pa_cons pe_int pa_nil))) pa_nil)) (pe_op op_pow pe_int pe_int)))
 (pss_cons (ps_set (i := 2) sc_law.nd rfl (Or.inl rfl) (pe_op op_mod (pe_callTy call_intR (by rfl) T.n_int boot_int (pa_cons (pe_call G__law_cell hr__law_cell rfl T.g__law_cell T.F__law_cell.kp T.b__law_cell .nil pass0 (pa_cons (pv 0) (pa_cons pe_int pa_nil))) pa_nil)) (pe_op op_pow pe_int pe_int)))
 (pss_cons (ps_set (i := 3) sc_law.nd rfl (Or.inl rfl) (pe_op op_mod (pe_callTy call_intR (by rfl) T.n_int boot_int (pa_cons (pe_call G__law_cell hr__law_cell rfl T.g__law_cell T.F__law_cell.kp T.b__law_cell .nil pass0 (pa_cons (pv 0) (pa_cons pe_int pa_nil))) pa_nil)) (pe_op op_pow pe_int pe_int)))
 (pss_cons (ps_set (i := 4) sc_law.nd rfl (Or.inl rfl) (pe_op op_cat (pe_call G__law_pairs hr__law_pairs rfl T.g__law_pairs T.F__law_pairs.kp T.b__law_pairs .nil pass0 (pa_cons (pv 1) (pa_cons (pv 2) (pa_cons (pv 3) pa_nil)))) (pe_call G__law_singles hr__law_singles rfl T.g__law_singles T.F__law_singles.kp T.b__law_singles .nil pass0 (pa_cons (pe_op op_sub (pv 2) (pv 3)) pa_nil))))
 (pss_cons (ps_for PassesOwn.never rfl (pi_range1 rfl T.n_range (pa_cons (pe_callB call_lenR (by rfl) T.n_len PySem.boot_len (pa_cons (pv 4) pa_nil)) pa_nil)) (pg_name (i := 5) sc_law.nd rfl (Or.inl rfl)) (pss_cons (ps_asg (pe_ix ix_list (pv 4) (pv 5) (fun _ _ => rfl)) (pg_tup rfl (pgs_cons (pg_name (i := 6) sc_law.nd rfl (Or.inl rfl)) (pgs_cons (pg_name (i := 7) sc_law.nd rfl (Or.inl rfl)) (pgs_cons (pg_name (i := 8) sc_law.nd rfl (Or.inl rfl)) pgs_nil)))))
 (pss_cons (ps_if (PW.pt (pw_or (pt_cmpR (op_neD hr1.units) (pv 7) (pv 8) (nomark _)) (pw_or (pt_not (pt_val (pe_callB call_isX (by rfl) T.n_isinstance boot_isinstance (pa_cons (pv 6) (pa_cons (pe_glob (v := .ref T.C_AnytuneError) rfl T.g_AnytuneError rfl) pa_nil))))) (pw_or1 (pt_not (pt_val (pe_callB call_isX (by rfl) T.n_isinstance boot_isinstance (pa_cons (pv 6) (pa_cons (pe_bltn (v := .ty "ValueError") rfl T.n_ValueError boot_ValueError rfl) pa_nil))))))))) (pss_one (ps_ret pe_bl)) pss_nil)
 (pss_cons (ps_set (i := 9) sc_law.nd rfl (Or.inl rfl) (pe_call G__law_kinds hr__law_kinds rfl T.g__law_kinds T.F__law_kinds.kp T.b__law_kinds .nil pass0 (pa_cons (pv 6) pa_nil)))
 (pss_one (ps_if (PW.pt (pw_or (pt_not (pt_val (pe_ix ix_list (pv 9) (pv 5) (fun _ _ => rfl)))) (pw_or1 (pt_cmpR op_ne (pe_callB call_lenR (by rfl) T.n_len PySem.boot_len (pa_cons (pe_lc (own := [("_law_one", 10)]) (g := gName 10) (by rfl) sc_law.nd (pi_list (pv 9)) (blkOk_by (own := [("_law_one", 10)]) (N := ["_law_script", "_law_a", "_law_b", "_law_c", "_law_rows", "_law_at", "_law_error", "_law_actual", "_law_due", "_law_kinds_here", "_law_one"]) (sc := defScope s_law) (by decide +kernel)) (fun _ _ _ _ _ => pg_name (i := 10) sc_law.nd rfl (Or.inl rfl)) (fun _ _ _ _ _ => (pts_one (pt_val (pv 10)))) (fun _ _ _ _ _ => (pv 10))) pa_nil)) pe_int (nomark _))))) (pss_one (ps_ret pe_bl)) pss_nil))))))
 (pss_one (ps_ret pe_bl)))))))), ?_⟩
    walk_at "vc"
    refine c_cell l (by decide) fun c0 => ?_
    walk_at "vc"
    try refine w_rI (by decide +kernel) ?_
    walk_at "vc"
    refine c_cell l (by decide) fun c1 => ?_
    walk_at "vc"
    try refine w_rI (by decide +kernel) ?_
    walk_at "vc"
    refine c_cell l (by decide) fun c2 => ?_
    walk_at "vc"
    try refine w_rI (by decide +kernel) ?_
    walk_at "vc"
    refine ⟨_, _, _, rfl, fun p1 H1 ys e1 u1 L1 => ?_⟩
    walk_at "vc"
    refine ⟨_, rfl, fun p2 H2 zs e2 u2 L2' => ?_⟩
    have n1 := L1.length
    have n2 := L2'.length
    have n1' : (pcs T).length = 8 := rfl
    have n2' : (scs T).length = 14 := rfl
    walk_at "vc"
    refine w_cat (e2 _ _ u1) u2 (by omega) fun p3 H3 e3 u3 => ?_
    have L : RowsE H3 (ys ++ zs) (errs T) := rows_up e3 (pr_app (rows_up e2 L1) L2')
    have nL := L.length
    have n3 : (errs T).length = 22 := rfl
    clear L1 L2' u1 u2
    walk_at "vc"
    refine w_len (SqL.of u3) ?_
    walk_at "vc"
    generalize hgx : c0 % _ = x0
    generalize hgy : c1 % _ = x1
    generalize hgz : c2 % _ = x2
    clear hgx hgy hgz
    refine ⟨_, rfl, by omega, by omega, for_range (lo := 0) (n := ((ys ++ zs).length : Int).toNat) (fun i σ H' => ∃ v5 v6 v7 v8 v9, σ = [some (.ref a), some (.int x0), some (.int x1), some (.int x2), some (.ref p3), v5, v6, v7, v8, v9, none] ∧ Ext H3 H')
      ⟨none, none, none, none, none, rfl, fun _ _ e => e⟩ ?_ ?_⟩
    · rintro i σ H' hi ⟨v5, v6, v7, v8, v9, rfl, e⟩
      have hi' : i < (errs T).length := by omega
      have hC := List.getElem?_eq_getElem hi'
      generalize (errs T)[i] = C at hC
      obtain ⟨y, hy, row⟩ := pr_get L hC
      obtain ⟨p, x, l1, l2, ms, rfl, r2, r3, r4, r5, r6⟩ := row.up e
      have mC := List.mem_of_getElem? hC
      have oC := err_ok T C mC
      have nC := nd_ne T.nd mC
      walk_at "vc"
      try refine w_asg ?_
      walk_at "vc"
      refine w_ixL (SqL.of (e _ _ u3)) (at_of (by omega) hy) ?_
      refine w_trip (SqT.of r2) ?_
      walk_at "vc"
      refine n_neD (.lst (SqL.of r4) (dp_ints ms)) (.lst (SqL.of r5) (dp_ints ms)) r6 r6 ?_
      rw [show PyData.eqv (.list (ms.map PyData.int)) (.list (ms.map PyData.int)) = true from eqv_ints ms]
      walk_at "vc"
      refine w_isX r3 oC.exc (.own _) (oC.kitA T.isA T.tyA nC) ?_
      walk_at "vc"
      refine w_isX r3 oC.exc (.ty "ValueError") oC.kitV ?_
      walk_at "vc"
      refine ⟨x, C, rfl, r3, oC, fun pk H5 e5 u5 => ?_⟩
      walk_at "vc"
      have hk : ((errs T).map fun D => V.bl (decide (C = D)))[i]? = some (.bl true) := by rw [at_map hC, decide_eq_true rfl]
      refine w_ixL (SqL.of u5) (at_of (by omega) hk) ?_
      walk_at "vc"
      refine ⟨pk, rfl, ⟨_, SqL.of u5⟩, fun D nD => lc_list (K := K) (a := pk) (xs := (errs T).map fun D => V.bl (decide (C = D))) (fun j H6 => H6 = upd H5 D (.lst ((((errs T).take j).filter fun D => decide (C = D)).map fun _ => V.bl true))) rfl
        (fun j H6 _ h => by subst h; exact SqL.of (by rw [upd_ne (ne_of_none u5 nD)]; exact u5)) ?_ ?_⟩
      · rintro j z H6 hj rfl
        obtain ⟨F, hF, rfl⟩ := map_at hj
        refine w_gname ⟨rfl, ?_⟩
        walk_at "vc"
        have tk : (errs T).take (j + 1) = (errs T).take j ++ [F] := by rw [List.take_add_one, hF]; rfl
        refine i_dec (fun ce => ?_) (fun ce => ?_)
        · walk_at "vc"
          refine ⟨_, upd_same, ?_, ?_⟩
          · rw [List.length_map]
            have h1 := List.length_filter_le (fun D => decide (C = D)) ((errs T).take j)
            have h2 : ((errs T).take j).length ≤ (errs T).length := by rw [List.length_take]; omega
            exact Nat.lt_of_lt_of_le (by omega : _ < 100000) (by decide)
          · rw [upd_upd, tk, List.filter_append, List.map_append, List.filter_cons, decide_eq_true ce]
            rfl
        · walk_at "vc"
          rw [tk, List.filter_append, List.filter_cons, decide_eq_false ce]
          simp
      · rintro H6 rfl
        walk_at "vc"
        refine w_len (SqL.of upd_same) ?_
        walk_at "vc"
        have one : (((errs T).take ((errs T).map fun D => V.bl (decide (C = D))).length).filter fun D => decide (C = D)).length = 1 := by
          rw [List.length_map, List.take_length]
          exact one_of (List.nodup_cons.mp T.nd).2 mC
        rw [List.length_map, one]
        walk_at "vc"
        refine ⟨_, _, _, _, _, rfl, (e.t e5).t (Ext.new nD)⟩
    · rintro σ H' ⟨v5, v6, v7, v8, v9, rfl, e⟩
      walk_at "vc"
      exact q H'
end
end AT
namespace AT
open PySem L2
theorem all_mk {K : PySem.W.Frag} {h : Heap} {mg : Str → Option Value} {fa : Addr} (X : K.In h) (G : h.Ns mainGlobals mg) (hfa : mg "law" = some (.ref fa))
    {C_AnytuneError : Addr}
    {C_NoMoment : Addr}
    {C_NoMark : Addr}
    {C_NoWindow : Addr}
    {C_NoPace : Addr}
    {C_Lost : Addr}
    {C_LooksAhead : Addr}
    {C_NoText : Addr}
    {C_NoRounds : Addr}
    {C_NoName : Addr}
    {C_BadPace : Addr}
    {C_NoStep : Addr}
    {C_Unfilled : Addr}
    {C_NoChart : Addr}
    {C_TooSoon : Addr}
    {C_NoStretch : Addr}
    {C_OutOfWindow : Addr}
    {C_NoMove : Addr}
    {C_NoChannel : Addr}
    {C_NoSpan : Addr}
    {C_Ringed : Addr}
    {C_NoTurns : Addr}
    {C_NotPlain : Addr}
    {a_NoMoment___init__ : Addr} {oc_NoMoment___init__ kV_NoMoment___init__ dc_NoMoment___init__ pm_NoMoment___init__ cd_NoMoment___init__ ct_NoMoment___init__ : Value} {od_NoMoment___init__ an_NoMoment___init__ : Option Addr} {sl_NoMoment___init__ : Array (Option Value)}
    {a_NoMark___init__ : Addr} {oc_NoMark___init__ kV_NoMark___init__ dc_NoMark___init__ pm_NoMark___init__ cd_NoMark___init__ ct_NoMark___init__ : Value} {od_NoMark___init__ an_NoMark___init__ : Option Addr} {sl_NoMark___init__ : Array (Option Value)}
    {a_NoWindow___init__ : Addr} {oc_NoWindow___init__ kV_NoWindow___init__ dc_NoWindow___init__ pm_NoWindow___init__ cd_NoWindow___init__ ct_NoWindow___init__ : Value} {od_NoWindow___init__ an_NoWindow___init__ : Option Addr} {sl_NoWindow___init__ : Array (Option Value)}
    {a_NoPace___init__ : Addr} {oc_NoPace___init__ kV_NoPace___init__ dc_NoPace___init__ pm_NoPace___init__ cd_NoPace___init__ ct_NoPace___init__ : Value} {od_NoPace___init__ an_NoPace___init__ : Option Addr} {sl_NoPace___init__ : Array (Option Value)}
    {a_Lost___init__ : Addr} {oc_Lost___init__ kV_Lost___init__ dc_Lost___init__ pm_Lost___init__ cd_Lost___init__ ct_Lost___init__ : Value} {od_Lost___init__ an_Lost___init__ : Option Addr} {sl_Lost___init__ : Array (Option Value)}
    {a_LooksAhead___init__ : Addr} {oc_LooksAhead___init__ kV_LooksAhead___init__ dc_LooksAhead___init__ pm_LooksAhead___init__ cd_LooksAhead___init__ ct_LooksAhead___init__ : Value} {od_LooksAhead___init__ an_LooksAhead___init__ : Option Addr} {sl_LooksAhead___init__ : Array (Option Value)}
    {a_NoText___init__ : Addr} {oc_NoText___init__ kV_NoText___init__ dc_NoText___init__ pm_NoText___init__ cd_NoText___init__ ct_NoText___init__ : Value} {od_NoText___init__ an_NoText___init__ : Option Addr} {sl_NoText___init__ : Array (Option Value)}
    {a_NoRounds___init__ : Addr} {oc_NoRounds___init__ kV_NoRounds___init__ dc_NoRounds___init__ pm_NoRounds___init__ cd_NoRounds___init__ ct_NoRounds___init__ : Value} {od_NoRounds___init__ an_NoRounds___init__ : Option Addr} {sl_NoRounds___init__ : Array (Option Value)}
    {a_NoName___init__ : Addr} {oc_NoName___init__ kV_NoName___init__ dc_NoName___init__ pm_NoName___init__ cd_NoName___init__ ct_NoName___init__ : Value} {od_NoName___init__ an_NoName___init__ : Option Addr} {sl_NoName___init__ : Array (Option Value)}
    {a_BadPace___init__ : Addr} {oc_BadPace___init__ kV_BadPace___init__ dc_BadPace___init__ pm_BadPace___init__ cd_BadPace___init__ ct_BadPace___init__ : Value} {od_BadPace___init__ an_BadPace___init__ : Option Addr} {sl_BadPace___init__ : Array (Option Value)}
    {a_NoStep___init__ : Addr} {oc_NoStep___init__ kV_NoStep___init__ dc_NoStep___init__ pm_NoStep___init__ cd_NoStep___init__ ct_NoStep___init__ : Value} {od_NoStep___init__ an_NoStep___init__ : Option Addr} {sl_NoStep___init__ : Array (Option Value)}
    {a_Unfilled___init__ : Addr} {oc_Unfilled___init__ kV_Unfilled___init__ dc_Unfilled___init__ pm_Unfilled___init__ cd_Unfilled___init__ ct_Unfilled___init__ : Value} {od_Unfilled___init__ an_Unfilled___init__ : Option Addr} {sl_Unfilled___init__ : Array (Option Value)}
    {a_NoChart___init__ : Addr} {oc_NoChart___init__ kV_NoChart___init__ dc_NoChart___init__ pm_NoChart___init__ cd_NoChart___init__ ct_NoChart___init__ : Value} {od_NoChart___init__ an_NoChart___init__ : Option Addr} {sl_NoChart___init__ : Array (Option Value)}
    {a_TooSoon___init__ : Addr} {oc_TooSoon___init__ kV_TooSoon___init__ dc_TooSoon___init__ pm_TooSoon___init__ cd_TooSoon___init__ ct_TooSoon___init__ : Value} {od_TooSoon___init__ an_TooSoon___init__ : Option Addr} {sl_TooSoon___init__ : Array (Option Value)}
    {a_NoStretch___init__ : Addr} {oc_NoStretch___init__ kV_NoStretch___init__ dc_NoStretch___init__ pm_NoStretch___init__ cd_NoStretch___init__ ct_NoStretch___init__ : Value} {od_NoStretch___init__ an_NoStretch___init__ : Option Addr} {sl_NoStretch___init__ : Array (Option Value)}
    {a_OutOfWindow___init__ : Addr} {oc_OutOfWindow___init__ kV_OutOfWindow___init__ dc_OutOfWindow___init__ pm_OutOfWindow___init__ cd_OutOfWindow___init__ ct_OutOfWindow___init__ : Value} {od_OutOfWindow___init__ an_OutOfWindow___init__ : Option Addr} {sl_OutOfWindow___init__ : Array (Option Value)}
    {a_NoMove___init__ : Addr} {oc_NoMove___init__ kV_NoMove___init__ dc_NoMove___init__ pm_NoMove___init__ cd_NoMove___init__ ct_NoMove___init__ : Value} {od_NoMove___init__ an_NoMove___init__ : Option Addr} {sl_NoMove___init__ : Array (Option Value)}
    {a_NoChannel___init__ : Addr} {oc_NoChannel___init__ kV_NoChannel___init__ dc_NoChannel___init__ pm_NoChannel___init__ cd_NoChannel___init__ ct_NoChannel___init__ : Value} {od_NoChannel___init__ an_NoChannel___init__ : Option Addr} {sl_NoChannel___init__ : Array (Option Value)}
    {a_NoSpan___init__ : Addr} {oc_NoSpan___init__ kV_NoSpan___init__ dc_NoSpan___init__ pm_NoSpan___init__ cd_NoSpan___init__ ct_NoSpan___init__ : Value} {od_NoSpan___init__ an_NoSpan___init__ : Option Addr} {sl_NoSpan___init__ : Array (Option Value)}
    {a_Ringed___init__ : Addr} {oc_Ringed___init__ kV_Ringed___init__ dc_Ringed___init__ pm_Ringed___init__ cd_Ringed___init__ ct_Ringed___init__ : Value} {od_Ringed___init__ an_Ringed___init__ : Option Addr} {sl_Ringed___init__ : Array (Option Value)}
    {a__law_cell : Addr} {oc__law_cell kV__law_cell dc__law_cell pm__law_cell cd__law_cell ct__law_cell : Value} {od__law_cell an__law_cell : Option Addr} {sl__law_cell : Array (Option Value)}
    {a__law_pairs : Addr} {oc__law_pairs kV__law_pairs dc__law_pairs pm__law_pairs cd__law_pairs ct__law_pairs : Value} {od__law_pairs an__law_pairs : Option Addr} {sl__law_pairs : Array (Option Value)}
    {a__law_singles : Addr} {oc__law_singles kV__law_singles dc__law_singles pm__law_singles cd__law_singles ct__law_singles : Value} {od__law_singles an__law_singles : Option Addr} {sl__law_singles : Array (Option Value)}
    {a__law_kinds : Addr} {oc__law_kinds kV__law_kinds dc__law_kinds pm__law_kinds cd__law_kinds ct__law_kinds : Value} {od__law_kinds an__law_kinds : Option Addr} {sl__law_kinds : Array (Option Value)}
    {a_law : Addr} {oc_law kV_law dc_law pm_law cd_law ct_law : Value} {od_law an_law : Option Addr} {sl_law : Array (Option Value)}
    {nm_NoMoment q_NoMoment : Str} {N_NoMoment : Addr} {bs_NoMoment bm_NoMoment : List Value} {sn_NoMoment : List Str} {sub_NoMoment : List Value} {ab_NoMoment : Bool} {col_NoMoment : Option Bool} {dd_NoMoment : Option Addr} {k0_NoMoment k1_NoMoment k2_NoMoment k3_NoMoment k5_NoMoment : Option Value}
    {nm_NoMark q_NoMark : Str} {N_NoMark : Addr} {bs_NoMark bm_NoMark : List Value} {sn_NoMark : List Str} {sub_NoMark : List Value} {ab_NoMark : Bool} {col_NoMark : Option Bool} {dd_NoMark : Option Addr} {k0_NoMark k1_NoMark k2_NoMark k3_NoMark k5_NoMark : Option Value}
    {nm_NoWindow q_NoWindow : Str} {N_NoWindow : Addr} {bs_NoWindow bm_NoWindow : List Value} {sn_NoWindow : List Str} {sub_NoWindow : List Value} {ab_NoWindow : Bool} {col_NoWindow : Option Bool} {dd_NoWindow : Option Addr} {k0_NoWindow k1_NoWindow k2_NoWindow k3_NoWindow k5_NoWindow : Option Value}
    {nm_NoPace q_NoPace : Str} {N_NoPace : Addr} {bs_NoPace bm_NoPace : List Value} {sn_NoPace : List Str} {sub_NoPace : List Value} {ab_NoPace : Bool} {col_NoPace : Option Bool} {dd_NoPace : Option Addr} {k0_NoPace k1_NoPace k2_NoPace k3_NoPace k5_NoPace : Option Value}
    {nm_Lost q_Lost : Str} {N_Lost : Addr} {bs_Lost bm_Lost : List Value} {sn_Lost : List Str} {sub_Lost : List Value} {ab_Lost : Bool} {col_Lost : Option Bool} {dd_Lost : Option Addr} {k0_Lost k1_Lost k2_Lost k3_Lost k5_Lost : Option Value}
    {nm_LooksAhead q_LooksAhead : Str} {N_LooksAhead : Addr} {bs_LooksAhead bm_LooksAhead : List Value} {sn_LooksAhead : List Str} {sub_LooksAhead : List Value} {ab_LooksAhead : Bool} {col_LooksAhead : Option Bool} {dd_LooksAhead : Option Addr} {k0_LooksAhead k1_LooksAhead k2_LooksAhead k3_LooksAhead k5_LooksAhead : Option Value}
    {nm_NoText q_NoText : Str} {N_NoText : Addr} {bs_NoText bm_NoText : List Value} {sn_NoText : List Str} {sub_NoText : List Value} {ab_NoText : Bool} {col_NoText : Option Bool} {dd_NoText : Option Addr} {k0_NoText k1_NoText k2_NoText k3_NoText k5_NoText : Option Value}
    {nm_NoRounds q_NoRounds : Str} {N_NoRounds : Addr} {bs_NoRounds bm_NoRounds : List Value} {sn_NoRounds : List Str} {sub_NoRounds : List Value} {ab_NoRounds : Bool} {col_NoRounds : Option Bool} {dd_NoRounds : Option Addr} {k0_NoRounds k1_NoRounds k2_NoRounds k3_NoRounds k5_NoRounds : Option Value}
    {nm_NoName q_NoName : Str} {N_NoName : Addr} {bs_NoName bm_NoName : List Value} {sn_NoName : List Str} {sub_NoName : List Value} {ab_NoName : Bool} {col_NoName : Option Bool} {dd_NoName : Option Addr} {k0_NoName k1_NoName k2_NoName k3_NoName k5_NoName : Option Value}
    {nm_BadPace q_BadPace : Str} {N_BadPace : Addr} {bs_BadPace bm_BadPace : List Value} {sn_BadPace : List Str} {sub_BadPace : List Value} {ab_BadPace : Bool} {col_BadPace : Option Bool} {dd_BadPace : Option Addr} {k0_BadPace k1_BadPace k2_BadPace k3_BadPace k5_BadPace : Option Value}
    {nm_NoStep q_NoStep : Str} {N_NoStep : Addr} {bs_NoStep bm_NoStep : List Value} {sn_NoStep : List Str} {sub_NoStep : List Value} {ab_NoStep : Bool} {col_NoStep : Option Bool} {dd_NoStep : Option Addr} {k0_NoStep k1_NoStep k2_NoStep k3_NoStep k5_NoStep : Option Value}
    {nm_Unfilled q_Unfilled : Str} {N_Unfilled : Addr} {bs_Unfilled bm_Unfilled : List Value} {sn_Unfilled : List Str} {sub_Unfilled : List Value} {ab_Unfilled : Bool} {col_Unfilled : Option Bool} {dd_Unfilled : Option Addr} {k0_Unfilled k1_Unfilled k2_Unfilled k3_Unfilled k5_Unfilled : Option Value}
    {nm_NoChart q_NoChart : Str} {N_NoChart : Addr} {bs_NoChart bm_NoChart : List Value} {sn_NoChart : List Str} {sub_NoChart : List Value} {ab_NoChart : Bool} {col_NoChart : Option Bool} {dd_NoChart : Option Addr} {k0_NoChart k1_NoChart k2_NoChart k3_NoChart k5_NoChart : Option Value}
    {nm_TooSoon q_TooSoon : Str} {N_TooSoon : Addr} {bs_TooSoon bm_TooSoon : List Value} {sn_TooSoon : List Str} {sub_TooSoon : List Value} {ab_TooSoon : Bool} {col_TooSoon : Option Bool} {dd_TooSoon : Option Addr} {k0_TooSoon k1_TooSoon k2_TooSoon k3_TooSoon k5_TooSoon : Option Value}
    {nm_NoStretch q_NoStretch : Str} {N_NoStretch : Addr} {bs_NoStretch bm_NoStretch : List Value} {sn_NoStretch : List Str} {sub_NoStretch : List Value} {ab_NoStretch : Bool} {col_NoStretch : Option Bool} {dd_NoStretch : Option Addr} {k0_NoStretch k1_NoStretch k2_NoStretch k3_NoStretch k5_NoStretch : Option Value}
    {nm_OutOfWindow q_OutOfWindow : Str} {N_OutOfWindow : Addr} {bs_OutOfWindow bm_OutOfWindow : List Value} {sn_OutOfWindow : List Str} {sub_OutOfWindow : List Value} {ab_OutOfWindow : Bool} {col_OutOfWindow : Option Bool} {dd_OutOfWindow : Option Addr} {k0_OutOfWindow k1_OutOfWindow k2_OutOfWindow k3_OutOfWindow k5_OutOfWindow : Option Value}
    {nm_NoMove q_NoMove : Str} {N_NoMove : Addr} {bs_NoMove bm_NoMove : List Value} {sn_NoMove : List Str} {sub_NoMove : List Value} {ab_NoMove : Bool} {col_NoMove : Option Bool} {dd_NoMove : Option Addr} {k0_NoMove k1_NoMove k2_NoMove k3_NoMove k5_NoMove : Option Value}
    {nm_NoChannel q_NoChannel : Str} {N_NoChannel : Addr} {bs_NoChannel bm_NoChannel : List Value} {sn_NoChannel : List Str} {sub_NoChannel : List Value} {ab_NoChannel : Bool} {col_NoChannel : Option Bool} {dd_NoChannel : Option Addr} {k0_NoChannel k1_NoChannel k2_NoChannel k3_NoChannel k5_NoChannel : Option Value}
    {nm_NoSpan q_NoSpan : Str} {N_NoSpan : Addr} {bs_NoSpan bm_NoSpan : List Value} {sn_NoSpan : List Str} {sub_NoSpan : List Value} {ab_NoSpan : Bool} {col_NoSpan : Option Bool} {dd_NoSpan : Option Addr} {k0_NoSpan k1_NoSpan k2_NoSpan k3_NoSpan k5_NoSpan : Option Value}
    {nm_Ringed q_Ringed : Str} {N_Ringed : Addr} {bs_Ringed bm_Ringed : List Value} {sn_Ringed : List Str} {sub_Ringed : List Value} {ab_Ringed : Bool} {col_Ringed : Option Bool} {dd_Ringed : Option Addr} {k0_Ringed k1_Ringed k2_Ringed k3_Ringed k5_Ringed : Option Value}
    {cd_e_NoMoment : ClassData}
    {cd_e_NoMark : ClassData}
    {cd_e_NoWindow : ClassData}
    {cd_e_NoPace : ClassData}
    {cd_e_Lost : ClassData}
    {cd_e_LooksAhead : ClassData}
    {cd_e_NoTurns : ClassData}
    {cd_e_NotPlain : ClassData}
    {cd_e_NoText : ClassData}
    {cd_e_NoRounds : ClassData}
    {cd_e_NoName : ClassData}
    {cd_e_BadPace : ClassData}
    {cd_e_NoStep : ClassData}
    {cd_e_Unfilled : ClassData}
    {cd_e_NoChart : ClassData}
    {cd_e_TooSoon : ClassData}
    {cd_e_NoStretch : ClassData}
    {cd_e_OutOfWindow : ClassData}
    {cd_e_NoMove : ClassData}
    {cd_e_NoChannel : ClassData}
    {cd_e_NoSpan : ClassData}
    {cd_e_Ringed : ClassData}
    (g_AnytuneError : PySem.W.nsIn K mainGlobals "AnytuneError" = some (some (.ref C_AnytuneError)))
    (g_NoMoment : PySem.W.nsIn K mainGlobals "NoMoment" = some (some (.ref C_NoMoment)))
    (g_NoMark : PySem.W.nsIn K mainGlobals "NoMark" = some (some (.ref C_NoMark)))
    (g_NoWindow : PySem.W.nsIn K mainGlobals "NoWindow" = some (some (.ref C_NoWindow)))
    (g_NoPace : PySem.W.nsIn K mainGlobals "NoPace" = some (some (.ref C_NoPace)))
    (g_Lost : PySem.W.nsIn K mainGlobals "Lost" = some (some (.ref C_Lost)))
    (g_LooksAhead : PySem.W.nsIn K mainGlobals "LooksAhead" = some (some (.ref C_LooksAhead)))
    (g_NoText : PySem.W.nsIn K mainGlobals "NoText" = some (some (.ref C_NoText)))
    (g_NoRounds : PySem.W.nsIn K mainGlobals "NoRounds" = some (some (.ref C_NoRounds)))
    (g_NoName : PySem.W.nsIn K mainGlobals "NoName" = some (some (.ref C_NoName)))
    (g_BadPace : PySem.W.nsIn K mainGlobals "BadPace" = some (some (.ref C_BadPace)))
    (g_NoStep : PySem.W.nsIn K mainGlobals "NoStep" = some (some (.ref C_NoStep)))
    (g_Unfilled : PySem.W.nsIn K mainGlobals "Unfilled" = some (some (.ref C_Unfilled)))
    (g_NoChart : PySem.W.nsIn K mainGlobals "NoChart" = some (some (.ref C_NoChart)))
    (g_TooSoon : PySem.W.nsIn K mainGlobals "TooSoon" = some (some (.ref C_TooSoon)))
    (g_NoStretch : PySem.W.nsIn K mainGlobals "NoStretch" = some (some (.ref C_NoStretch)))
    (g_OutOfWindow : PySem.W.nsIn K mainGlobals "OutOfWindow" = some (some (.ref C_OutOfWindow)))
    (g_NoMove : PySem.W.nsIn K mainGlobals "NoMove" = some (some (.ref C_NoMove)))
    (g_NoChannel : PySem.W.nsIn K mainGlobals "NoChannel" = some (some (.ref C_NoChannel)))
    (g_NoSpan : PySem.W.nsIn K mainGlobals "NoSpan" = some (some (.ref C_NoSpan)))
    (g_Ringed : PySem.W.nsIn K mainGlobals "Ringed" = some (some (.ref C_Ringed)))
    (g_NoTurns : PySem.W.nsIn K mainGlobals "NoTurns" = some (some (.ref C_NoTurns)))
    (g_NotPlain : PySem.W.nsIn K mainGlobals "NotPlain" = some (some (.ref C_NotPlain)))
    (x_NoMoment___init__ : PySem.W.findIn K (.ref C_NoMoment) "__init__" = some (some (.ref a_NoMoment___init__)))
    (l_NoMoment___init__ : K.lookup a_NoMoment___init__ = some ⟨oc_NoMoment___init__, od_NoMoment___init__, .func (PySem.W.fnOf "__init__" "NoMoment.__init__" (defArgs s_NoMoment___init__) (defBody s_NoMoment___init__) (defScope s_NoMoment___init__) .none kV_NoMoment___init__ dc_NoMoment___init__ pm_NoMoment___init__ an_NoMoment___init__ cd_NoMoment___init__ ct_NoMoment___init__), sl_NoMoment___init__⟩)
    (c_NoMoment___init__ : PySem.W.codeIn K cd_NoMoment___init__ "NoMoment.__init__" = true)
    (p_NoMoment___init__ : PySem.W.keepIn K (.ref a_NoMoment___init__) = true)
    (f_NoMoment___init__ : PySem.W.isFn K (.ref a_NoMoment___init__) = true)
    (x_NoMark___init__ : PySem.W.findIn K (.ref C_NoMark) "__init__" = some (some (.ref a_NoMark___init__)))
    (l_NoMark___init__ : K.lookup a_NoMark___init__ = some ⟨oc_NoMark___init__, od_NoMark___init__, .func (PySem.W.fnOf "__init__" "NoMark.__init__" (defArgs s_NoMark___init__) (defBody s_NoMark___init__) (defScope s_NoMark___init__) .none kV_NoMark___init__ dc_NoMark___init__ pm_NoMark___init__ an_NoMark___init__ cd_NoMark___init__ ct_NoMark___init__), sl_NoMark___init__⟩)
    (c_NoMark___init__ : PySem.W.codeIn K cd_NoMark___init__ "NoMark.__init__" = true)
    (p_NoMark___init__ : PySem.W.keepIn K (.ref a_NoMark___init__) = true)
    (f_NoMark___init__ : PySem.W.isFn K (.ref a_NoMark___init__) = true)
    (x_NoWindow___init__ : PySem.W.findIn K (.ref C_NoWindow) "__init__" = some (some (.ref a_NoWindow___init__)))
    (l_NoWindow___init__ : K.lookup a_NoWindow___init__ = some ⟨oc_NoWindow___init__, od_NoWindow___init__, .func (PySem.W.fnOf "__init__" "NoWindow.__init__" (defArgs s_NoWindow___init__) (defBody s_NoWindow___init__) (defScope s_NoWindow___init__) .none kV_NoWindow___init__ dc_NoWindow___init__ pm_NoWindow___init__ an_NoWindow___init__ cd_NoWindow___init__ ct_NoWindow___init__), sl_NoWindow___init__⟩)
    (c_NoWindow___init__ : PySem.W.codeIn K cd_NoWindow___init__ "NoWindow.__init__" = true)
    (p_NoWindow___init__ : PySem.W.keepIn K (.ref a_NoWindow___init__) = true)
    (f_NoWindow___init__ : PySem.W.isFn K (.ref a_NoWindow___init__) = true)
    (x_NoPace___init__ : PySem.W.findIn K (.ref C_NoPace) "__init__" = some (some (.ref a_NoPace___init__)))
    (l_NoPace___init__ : K.lookup a_NoPace___init__ = some ⟨oc_NoPace___init__, od_NoPace___init__, .func (PySem.W.fnOf "__init__" "NoPace.__init__" (defArgs s_NoPace___init__) (defBody s_NoPace___init__) (defScope s_NoPace___init__) .none kV_NoPace___init__ dc_NoPace___init__ pm_NoPace___init__ an_NoPace___init__ cd_NoPace___init__ ct_NoPace___init__), sl_NoPace___init__⟩)
    (c_NoPace___init__ : PySem.W.codeIn K cd_NoPace___init__ "NoPace.__init__" = true)
    (p_NoPace___init__ : PySem.W.keepIn K (.ref a_NoPace___init__) = true)
    (f_NoPace___init__ : PySem.W.isFn K (.ref a_NoPace___init__) = true)
    (x_Lost___init__ : PySem.W.findIn K (.ref C_Lost) "__init__" = some (some (.ref a_Lost___init__)))
    (l_Lost___init__ : K.lookup a_Lost___init__ = some ⟨oc_Lost___init__, od_Lost___init__, .func (PySem.W.fnOf "__init__" "Lost.__init__" (defArgs s_Lost___init__) (defBody s_Lost___init__) (defScope s_Lost___init__) .none kV_Lost___init__ dc_Lost___init__ pm_Lost___init__ an_Lost___init__ cd_Lost___init__ ct_Lost___init__), sl_Lost___init__⟩)
    (c_Lost___init__ : PySem.W.codeIn K cd_Lost___init__ "Lost.__init__" = true)
    (p_Lost___init__ : PySem.W.keepIn K (.ref a_Lost___init__) = true)
    (f_Lost___init__ : PySem.W.isFn K (.ref a_Lost___init__) = true)
    (x_LooksAhead___init__ : PySem.W.findIn K (.ref C_LooksAhead) "__init__" = some (some (.ref a_LooksAhead___init__)))
    (l_LooksAhead___init__ : K.lookup a_LooksAhead___init__ = some ⟨oc_LooksAhead___init__, od_LooksAhead___init__, .func (PySem.W.fnOf "__init__" "LooksAhead.__init__" (defArgs s_LooksAhead___init__) (defBody s_LooksAhead___init__) (defScope s_LooksAhead___init__) .none kV_LooksAhead___init__ dc_LooksAhead___init__ pm_LooksAhead___init__ an_LooksAhead___init__ cd_LooksAhead___init__ ct_LooksAhead___init__), sl_LooksAhead___init__⟩)
    (c_LooksAhead___init__ : PySem.W.codeIn K cd_LooksAhead___init__ "LooksAhead.__init__" = true)
    (p_LooksAhead___init__ : PySem.W.keepIn K (.ref a_LooksAhead___init__) = true)
    (f_LooksAhead___init__ : PySem.W.isFn K (.ref a_LooksAhead___init__) = true)
    (x_NoText___init__ : PySem.W.findIn K (.ref C_NoText) "__init__" = some (some (.ref a_NoText___init__)))
    (l_NoText___init__ : K.lookup a_NoText___init__ = some ⟨oc_NoText___init__, od_NoText___init__, .func (PySem.W.fnOf "__init__" "NoText.__init__" (defArgs s_NoText___init__) (defBody s_NoText___init__) (defScope s_NoText___init__) .none kV_NoText___init__ dc_NoText___init__ pm_NoText___init__ an_NoText___init__ cd_NoText___init__ ct_NoText___init__), sl_NoText___init__⟩)
    (c_NoText___init__ : PySem.W.codeIn K cd_NoText___init__ "NoText.__init__" = true)
    (p_NoText___init__ : PySem.W.keepIn K (.ref a_NoText___init__) = true)
    (f_NoText___init__ : PySem.W.isFn K (.ref a_NoText___init__) = true)
    (x_NoRounds___init__ : PySem.W.findIn K (.ref C_NoRounds) "__init__" = some (some (.ref a_NoRounds___init__)))
    (l_NoRounds___init__ : K.lookup a_NoRounds___init__ = some ⟨oc_NoRounds___init__, od_NoRounds___init__, .func (PySem.W.fnOf "__init__" "NoRounds.__init__" (defArgs s_NoRounds___init__) (defBody s_NoRounds___init__) (defScope s_NoRounds___init__) .none kV_NoRounds___init__ dc_NoRounds___init__ pm_NoRounds___init__ an_NoRounds___init__ cd_NoRounds___init__ ct_NoRounds___init__), sl_NoRounds___init__⟩)
    (c_NoRounds___init__ : PySem.W.codeIn K cd_NoRounds___init__ "NoRounds.__init__" = true)
    (p_NoRounds___init__ : PySem.W.keepIn K (.ref a_NoRounds___init__) = true)
    (f_NoRounds___init__ : PySem.W.isFn K (.ref a_NoRounds___init__) = true)
    (x_NoName___init__ : PySem.W.findIn K (.ref C_NoName) "__init__" = some (some (.ref a_NoName___init__)))
    (l_NoName___init__ : K.lookup a_NoName___init__ = some ⟨oc_NoName___init__, od_NoName___init__, .func (PySem.W.fnOf "__init__" "NoName.__init__" (defArgs s_NoName___init__) (defBody s_NoName___init__) (defScope s_NoName___init__) .none kV_NoName___init__ dc_NoName___init__ pm_NoName___init__ an_NoName___init__ cd_NoName___init__ ct_NoName___init__), sl_NoName___init__⟩)
    (c_NoName___init__ : PySem.W.codeIn K cd_NoName___init__ "NoName.__init__" = true)
    (p_NoName___init__ : PySem.W.keepIn K (.ref a_NoName___init__) = true)
    (f_NoName___init__ : PySem.W.isFn K (.ref a_NoName___init__) = true)
    (x_BadPace___init__ : PySem.W.findIn K (.ref C_BadPace) "__init__" = some (some (.ref a_BadPace___init__)))
    (l_BadPace___init__ : K.lookup a_BadPace___init__ = some ⟨oc_BadPace___init__, od_BadPace___init__, .func (PySem.W.fnOf "__init__" "BadPace.__init__" (defArgs s_BadPace___init__) (defBody s_BadPace___init__) (defScope s_BadPace___init__) .none kV_BadPace___init__ dc_BadPace___init__ pm_BadPace___init__ an_BadPace___init__ cd_BadPace___init__ ct_BadPace___init__), sl_BadPace___init__⟩)
    (c_BadPace___init__ : PySem.W.codeIn K cd_BadPace___init__ "BadPace.__init__" = true)
    (p_BadPace___init__ : PySem.W.keepIn K (.ref a_BadPace___init__) = true)
    (f_BadPace___init__ : PySem.W.isFn K (.ref a_BadPace___init__) = true)
    (x_NoStep___init__ : PySem.W.findIn K (.ref C_NoStep) "__init__" = some (some (.ref a_NoStep___init__)))
    (l_NoStep___init__ : K.lookup a_NoStep___init__ = some ⟨oc_NoStep___init__, od_NoStep___init__, .func (PySem.W.fnOf "__init__" "NoStep.__init__" (defArgs s_NoStep___init__) (defBody s_NoStep___init__) (defScope s_NoStep___init__) .none kV_NoStep___init__ dc_NoStep___init__ pm_NoStep___init__ an_NoStep___init__ cd_NoStep___init__ ct_NoStep___init__), sl_NoStep___init__⟩)
    (c_NoStep___init__ : PySem.W.codeIn K cd_NoStep___init__ "NoStep.__init__" = true)
    (p_NoStep___init__ : PySem.W.keepIn K (.ref a_NoStep___init__) = true)
    (f_NoStep___init__ : PySem.W.isFn K (.ref a_NoStep___init__) = true)
    (x_Unfilled___init__ : PySem.W.findIn K (.ref C_Unfilled) "__init__" = some (some (.ref a_Unfilled___init__)))
    (l_Unfilled___init__ : K.lookup a_Unfilled___init__ = some ⟨oc_Unfilled___init__, od_Unfilled___init__, .func (PySem.W.fnOf "__init__" "Unfilled.__init__" (defArgs s_Unfilled___init__) (defBody s_Unfilled___init__) (defScope s_Unfilled___init__) .none kV_Unfilled___init__ dc_Unfilled___init__ pm_Unfilled___init__ an_Unfilled___init__ cd_Unfilled___init__ ct_Unfilled___init__), sl_Unfilled___init__⟩)
    (c_Unfilled___init__ : PySem.W.codeIn K cd_Unfilled___init__ "Unfilled.__init__" = true)
    (p_Unfilled___init__ : PySem.W.keepIn K (.ref a_Unfilled___init__) = true)
    (f_Unfilled___init__ : PySem.W.isFn K (.ref a_Unfilled___init__) = true)
    (x_NoChart___init__ : PySem.W.findIn K (.ref C_NoChart) "__init__" = some (some (.ref a_NoChart___init__)))
    (l_NoChart___init__ : K.lookup a_NoChart___init__ = some ⟨oc_NoChart___init__, od_NoChart___init__, .func (PySem.W.fnOf "__init__" "NoChart.__init__" (defArgs s_NoChart___init__) (defBody s_NoChart___init__) (defScope s_NoChart___init__) .none kV_NoChart___init__ dc_NoChart___init__ pm_NoChart___init__ an_NoChart___init__ cd_NoChart___init__ ct_NoChart___init__), sl_NoChart___init__⟩)
    (c_NoChart___init__ : PySem.W.codeIn K cd_NoChart___init__ "NoChart.__init__" = true)
    (p_NoChart___init__ : PySem.W.keepIn K (.ref a_NoChart___init__) = true)
    (f_NoChart___init__ : PySem.W.isFn K (.ref a_NoChart___init__) = true)
    (x_TooSoon___init__ : PySem.W.findIn K (.ref C_TooSoon) "__init__" = some (some (.ref a_TooSoon___init__)))
    (l_TooSoon___init__ : K.lookup a_TooSoon___init__ = some ⟨oc_TooSoon___init__, od_TooSoon___init__, .func (PySem.W.fnOf "__init__" "TooSoon.__init__" (defArgs s_TooSoon___init__) (defBody s_TooSoon___init__) (defScope s_TooSoon___init__) .none kV_TooSoon___init__ dc_TooSoon___init__ pm_TooSoon___init__ an_TooSoon___init__ cd_TooSoon___init__ ct_TooSoon___init__), sl_TooSoon___init__⟩)
    (c_TooSoon___init__ : PySem.W.codeIn K cd_TooSoon___init__ "TooSoon.__init__" = true)
    (p_TooSoon___init__ : PySem.W.keepIn K (.ref a_TooSoon___init__) = true)
    (f_TooSoon___init__ : PySem.W.isFn K (.ref a_TooSoon___init__) = true)
    (x_NoStretch___init__ : PySem.W.findIn K (.ref C_NoStretch) "__init__" = some (some (.ref a_NoStretch___init__)))
    (l_NoStretch___init__ : K.lookup a_NoStretch___init__ = some ⟨oc_NoStretch___init__, od_NoStretch___init__, .func (PySem.W.fnOf "__init__" "NoStretch.__init__" (defArgs s_NoStretch___init__) (defBody s_NoStretch___init__) (defScope s_NoStretch___init__) .none kV_NoStretch___init__ dc_NoStretch___init__ pm_NoStretch___init__ an_NoStretch___init__ cd_NoStretch___init__ ct_NoStretch___init__), sl_NoStretch___init__⟩)
    (c_NoStretch___init__ : PySem.W.codeIn K cd_NoStretch___init__ "NoStretch.__init__" = true)
    (p_NoStretch___init__ : PySem.W.keepIn K (.ref a_NoStretch___init__) = true)
    (f_NoStretch___init__ : PySem.W.isFn K (.ref a_NoStretch___init__) = true)
    (x_OutOfWindow___init__ : PySem.W.findIn K (.ref C_OutOfWindow) "__init__" = some (some (.ref a_OutOfWindow___init__)))
    (l_OutOfWindow___init__ : K.lookup a_OutOfWindow___init__ = some ⟨oc_OutOfWindow___init__, od_OutOfWindow___init__, .func (PySem.W.fnOf "__init__" "OutOfWindow.__init__" (defArgs s_OutOfWindow___init__) (defBody s_OutOfWindow___init__) (defScope s_OutOfWindow___init__) .none kV_OutOfWindow___init__ dc_OutOfWindow___init__ pm_OutOfWindow___init__ an_OutOfWindow___init__ cd_OutOfWindow___init__ ct_OutOfWindow___init__), sl_OutOfWindow___init__⟩)
    (c_OutOfWindow___init__ : PySem.W.codeIn K cd_OutOfWindow___init__ "OutOfWindow.__init__" = true)
    (p_OutOfWindow___init__ : PySem.W.keepIn K (.ref a_OutOfWindow___init__) = true)
    (f_OutOfWindow___init__ : PySem.W.isFn K (.ref a_OutOfWindow___init__) = true)
    (x_NoMove___init__ : PySem.W.findIn K (.ref C_NoMove) "__init__" = some (some (.ref a_NoMove___init__)))
    (l_NoMove___init__ : K.lookup a_NoMove___init__ = some ⟨oc_NoMove___init__, od_NoMove___init__, .func (PySem.W.fnOf "__init__" "NoMove.__init__" (defArgs s_NoMove___init__) (defBody s_NoMove___init__) (defScope s_NoMove___init__) .none kV_NoMove___init__ dc_NoMove___init__ pm_NoMove___init__ an_NoMove___init__ cd_NoMove___init__ ct_NoMove___init__), sl_NoMove___init__⟩)
    (c_NoMove___init__ : PySem.W.codeIn K cd_NoMove___init__ "NoMove.__init__" = true)
    (p_NoMove___init__ : PySem.W.keepIn K (.ref a_NoMove___init__) = true)
    (f_NoMove___init__ : PySem.W.isFn K (.ref a_NoMove___init__) = true)
    (x_NoChannel___init__ : PySem.W.findIn K (.ref C_NoChannel) "__init__" = some (some (.ref a_NoChannel___init__)))
    (l_NoChannel___init__ : K.lookup a_NoChannel___init__ = some ⟨oc_NoChannel___init__, od_NoChannel___init__, .func (PySem.W.fnOf "__init__" "NoChannel.__init__" (defArgs s_NoChannel___init__) (defBody s_NoChannel___init__) (defScope s_NoChannel___init__) .none kV_NoChannel___init__ dc_NoChannel___init__ pm_NoChannel___init__ an_NoChannel___init__ cd_NoChannel___init__ ct_NoChannel___init__), sl_NoChannel___init__⟩)
    (c_NoChannel___init__ : PySem.W.codeIn K cd_NoChannel___init__ "NoChannel.__init__" = true)
    (p_NoChannel___init__ : PySem.W.keepIn K (.ref a_NoChannel___init__) = true)
    (f_NoChannel___init__ : PySem.W.isFn K (.ref a_NoChannel___init__) = true)
    (x_NoSpan___init__ : PySem.W.findIn K (.ref C_NoSpan) "__init__" = some (some (.ref a_NoSpan___init__)))
    (l_NoSpan___init__ : K.lookup a_NoSpan___init__ = some ⟨oc_NoSpan___init__, od_NoSpan___init__, .func (PySem.W.fnOf "__init__" "NoSpan.__init__" (defArgs s_NoSpan___init__) (defBody s_NoSpan___init__) (defScope s_NoSpan___init__) .none kV_NoSpan___init__ dc_NoSpan___init__ pm_NoSpan___init__ an_NoSpan___init__ cd_NoSpan___init__ ct_NoSpan___init__), sl_NoSpan___init__⟩)
    (c_NoSpan___init__ : PySem.W.codeIn K cd_NoSpan___init__ "NoSpan.__init__" = true)
    (p_NoSpan___init__ : PySem.W.keepIn K (.ref a_NoSpan___init__) = true)
    (f_NoSpan___init__ : PySem.W.isFn K (.ref a_NoSpan___init__) = true)
    (x_Ringed___init__ : PySem.W.findIn K (.ref C_Ringed) "__init__" = some (some (.ref a_Ringed___init__)))
    (l_Ringed___init__ : K.lookup a_Ringed___init__ = some ⟨oc_Ringed___init__, od_Ringed___init__, .func (PySem.W.fnOf "__init__" "Ringed.__init__" (defArgs s_Ringed___init__) (defBody s_Ringed___init__) (defScope s_Ringed___init__) .none kV_Ringed___init__ dc_Ringed___init__ pm_Ringed___init__ an_Ringed___init__ cd_Ringed___init__ ct_Ringed___init__), sl_Ringed___init__⟩)
    (c_Ringed___init__ : PySem.W.codeIn K cd_Ringed___init__ "Ringed.__init__" = true)
    (p_Ringed___init__ : PySem.W.keepIn K (.ref a_Ringed___init__) = true)
    (f_Ringed___init__ : PySem.W.isFn K (.ref a_Ringed___init__) = true)
    (g__law_cell : PySem.W.nsIn K mainGlobals "_law_cell" = some (some (.ref a__law_cell)))
    (l__law_cell : K.lookup a__law_cell = some ⟨oc__law_cell, od__law_cell, .func (PySem.W.fnOf "_law_cell" "_law_cell" (defArgs s__law_cell) (defBody s__law_cell) (defScope s__law_cell) .none kV__law_cell dc__law_cell pm__law_cell an__law_cell cd__law_cell ct__law_cell), sl__law_cell⟩)
    (c__law_cell : PySem.W.codeIn K cd__law_cell "_law_cell" = true)
    (p__law_cell : PySem.W.keepIn K (.ref a__law_cell) = true)
    (g__law_pairs : PySem.W.nsIn K mainGlobals "_law_pairs" = some (some (.ref a__law_pairs)))
    (l__law_pairs : K.lookup a__law_pairs = some ⟨oc__law_pairs, od__law_pairs, .func (PySem.W.fnOf "_law_pairs" "_law_pairs" (defArgs s__law_pairs) (defBody s__law_pairs) (defScope s__law_pairs) .none kV__law_pairs dc__law_pairs pm__law_pairs an__law_pairs cd__law_pairs ct__law_pairs), sl__law_pairs⟩)
    (c__law_pairs : PySem.W.codeIn K cd__law_pairs "_law_pairs" = true)
    (p__law_pairs : PySem.W.keepIn K (.ref a__law_pairs) = true)
    (g__law_singles : PySem.W.nsIn K mainGlobals "_law_singles" = some (some (.ref a__law_singles)))
    (l__law_singles : K.lookup a__law_singles = some ⟨oc__law_singles, od__law_singles, .func (PySem.W.fnOf "_law_singles" "_law_singles" (defArgs s__law_singles) (defBody s__law_singles) (defScope s__law_singles) .none kV__law_singles dc__law_singles pm__law_singles an__law_singles cd__law_singles ct__law_singles), sl__law_singles⟩)
    (c__law_singles : PySem.W.codeIn K cd__law_singles "_law_singles" = true)
    (p__law_singles : PySem.W.keepIn K (.ref a__law_singles) = true)
    (g__law_kinds : PySem.W.nsIn K mainGlobals "_law_kinds" = some (some (.ref a__law_kinds)))
    (l__law_kinds : K.lookup a__law_kinds = some ⟨oc__law_kinds, od__law_kinds, .func (PySem.W.fnOf "_law_kinds" "_law_kinds" (defArgs s__law_kinds) (defBody s__law_kinds) (defScope s__law_kinds) .none kV__law_kinds dc__law_kinds pm__law_kinds an__law_kinds cd__law_kinds ct__law_kinds), sl__law_kinds⟩)
    (c__law_kinds : PySem.W.codeIn K cd__law_kinds "_law_kinds" = true)
    (p__law_kinds : PySem.W.keepIn K (.ref a__law_kinds) = true)
    (g_law : PySem.W.nsIn K mainGlobals "law" = some (some (.ref a_law)))
    (l_law : K.lookup a_law = some ⟨oc_law, od_law, .func (PySem.W.fnOf "law" "law" (defArgs s_law) (defBody s_law) (defScope s_law) .none kV_law dc_law pm_law an_law cd_law ct_law), sl_law⟩)
    (c_law : PySem.W.codeIn K cd_law "law" = true)
    (p_law : PySem.W.keepIn K (.ref a_law) = true)
    (r1_AnytuneError : PySem.W.readsIn K C_AnytuneError (.type "type") = true)
    (r2_AnytuneError : PySem.W.specialIn K (.ref C_AnytuneError) "__getattribute__" = some (some (.builtin "type.__getattribute__")))
    (r3_AnytuneError : PySem.W.findCls K (.ref C_AnytuneError) (.type "type") "__init__" = some (.val (.builtin "ValueError.__init__")))
    (o1_NoMoment : K.lookup C_NoMoment = some (excClassObj nm_NoMoment q_NoMoment C_NoMoment N_NoMoment bs_NoMoment bm_NoMoment true sn_NoMoment sub_NoMoment ab_NoMoment col_NoMoment dd_NoMoment k0_NoMoment k1_NoMoment k2_NoMoment k3_NoMoment k5_NoMoment "ValueError.__new__"))
    (o2_NoMoment : PySem.HandSPX.refsVE bm_NoMoment = true)
    (o3_NoMoment : PySem.W.findIn K (.ref C_NoMoment) "__setattr__" = some (some (.builtin "object.__setattr__")))
    (o4_NoMoment : PySem.W.subIn K (.ref C_NoMoment) (.type "BaseException") = some true)
    (o5_NoMoment : PySem.W.typeIn K (.ref C_NoMoment) = some (.type "type"))
    (o6_NoMoment : PySem.W.keepIn K (.ref C_NoMoment) = true)
    (o7_NoMoment : PySem.W.findIn K (.ref C_NoMoment) "__getattribute__" = some (some (.builtin "BaseException.__getattribute__")))
    (o8_NoMoment : PySem.W.findIn K (.ref C_NoMoment) "__getattr__" = some none)
    (o9_NoMoment : PySem.W.hasDictIn K C_NoMoment = true)
    (oA_NoMoment : PySem.W.isClsIn K C_NoMoment = true)
    (oB_NoMoment : PySem.W.subIn K (.ref C_NoMoment) (.ref C_NoMoment) = some true)
    (na_NoMoment_top : PySem.W.findIn K (.ref C_NoMoment) "top" = some none)
    (na_NoMoment_bottom : PySem.W.findIn K (.ref C_NoMoment) "bottom" = some none)
    (o1_NoMark : K.lookup C_NoMark = some (excClassObj nm_NoMark q_NoMark C_NoMark N_NoMark bs_NoMark bm_NoMark true sn_NoMark sub_NoMark ab_NoMark col_NoMark dd_NoMark k0_NoMark k1_NoMark k2_NoMark k3_NoMark k5_NoMark "ValueError.__new__"))
    (o2_NoMark : PySem.HandSPX.refsVE bm_NoMark = true)
    (o3_NoMark : PySem.W.findIn K (.ref C_NoMark) "__setattr__" = some (some (.builtin "object.__setattr__")))
    (o4_NoMark : PySem.W.subIn K (.ref C_NoMark) (.type "BaseException") = some true)
    (o5_NoMark : PySem.W.typeIn K (.ref C_NoMark) = some (.type "type"))
    (o6_NoMark : PySem.W.keepIn K (.ref C_NoMark) = true)
    (o7_NoMark : PySem.W.findIn K (.ref C_NoMark) "__getattribute__" = some (some (.builtin "BaseException.__getattribute__")))
    (o8_NoMark : PySem.W.findIn K (.ref C_NoMark) "__getattr__" = some none)
    (o9_NoMark : PySem.W.hasDictIn K C_NoMark = true)
    (oA_NoMark : PySem.W.isClsIn K C_NoMark = true)
    (oB_NoMark : PySem.W.subIn K (.ref C_NoMark) (.ref C_NoMark) = some true)
    (na_NoMark_tone : PySem.W.findIn K (.ref C_NoMark) "tone" = some none)
    (na_NoMark_begin : PySem.W.findIn K (.ref C_NoMark) "begin" = some none)
    (na_NoMark_end : PySem.W.findIn K (.ref C_NoMark) "end" = some none)
    (o1_NoWindow : K.lookup C_NoWindow = some (excClassObj nm_NoWindow q_NoWindow C_NoWindow N_NoWindow bs_NoWindow bm_NoWindow true sn_NoWindow sub_NoWindow ab_NoWindow col_NoWindow dd_NoWindow k0_NoWindow k1_NoWindow k2_NoWindow k3_NoWindow k5_NoWindow "ValueError.__new__"))
    (o2_NoWindow : PySem.HandSPX.refsVE bm_NoWindow = true)
    (o3_NoWindow : PySem.W.findIn K (.ref C_NoWindow) "__setattr__" = some (some (.builtin "object.__setattr__")))
    (o4_NoWindow : PySem.W.subIn K (.ref C_NoWindow) (.type "BaseException") = some true)
    (o5_NoWindow : PySem.W.typeIn K (.ref C_NoWindow) = some (.type "type"))
    (o6_NoWindow : PySem.W.keepIn K (.ref C_NoWindow) = true)
    (o7_NoWindow : PySem.W.findIn K (.ref C_NoWindow) "__getattribute__" = some (some (.builtin "BaseException.__getattribute__")))
    (o8_NoWindow : PySem.W.findIn K (.ref C_NoWindow) "__getattr__" = some none)
    (o9_NoWindow : PySem.W.hasDictIn K C_NoWindow = true)
    (oA_NoWindow : PySem.W.isClsIn K C_NoWindow = true)
    (oB_NoWindow : PySem.W.subIn K (.ref C_NoWindow) (.ref C_NoWindow) = some true)
    (na_NoWindow_begin : PySem.W.findIn K (.ref C_NoWindow) "begin" = some none)
    (na_NoWindow_end : PySem.W.findIn K (.ref C_NoWindow) "end" = some none)
    (na_NoWindow_rounds : PySem.W.findIn K (.ref C_NoWindow) "rounds" = some none)
    (o1_NoPace : K.lookup C_NoPace = some (excClassObj nm_NoPace q_NoPace C_NoPace N_NoPace bs_NoPace bm_NoPace true sn_NoPace sub_NoPace ab_NoPace col_NoPace dd_NoPace k0_NoPace k1_NoPace k2_NoPace k3_NoPace k5_NoPace "ValueError.__new__"))
    (o2_NoPace : PySem.HandSPX.refsVE bm_NoPace = true)
    (o3_NoPace : PySem.W.findIn K (.ref C_NoPace) "__setattr__" = some (some (.builtin "object.__setattr__")))
    (o4_NoPace : PySem.W.subIn K (.ref C_NoPace) (.type "BaseException") = some true)
    (o5_NoPace : PySem.W.typeIn K (.ref C_NoPace) = some (.type "type"))
    (o6_NoPace : PySem.W.keepIn K (.ref C_NoPace) = true)
    (o7_NoPace : PySem.W.findIn K (.ref C_NoPace) "__getattribute__" = some (some (.builtin "BaseException.__getattribute__")))
    (o8_NoPace : PySem.W.findIn K (.ref C_NoPace) "__getattr__" = some none)
    (o9_NoPace : PySem.W.hasDictIn K C_NoPace = true)
    (oA_NoPace : PySem.W.isClsIn K C_NoPace = true)
    (oB_NoPace : PySem.W.subIn K (.ref C_NoPace) (.ref C_NoPace) = some true)
    (na_NoPace_hole : PySem.W.findIn K (.ref C_NoPace) "hole" = some none)
    (na_NoPace_speed : PySem.W.findIn K (.ref C_NoPace) "speed" = some none)
    (o1_Lost : K.lookup C_Lost = some (excClassObj nm_Lost q_Lost C_Lost N_Lost bs_Lost bm_Lost true sn_Lost sub_Lost ab_Lost col_Lost dd_Lost k0_Lost k1_Lost k2_Lost k3_Lost k5_Lost "ValueError.__new__"))
    (o2_Lost : PySem.HandSPX.refsVE bm_Lost = true)
    (o3_Lost : PySem.W.findIn K (.ref C_Lost) "__setattr__" = some (some (.builtin "object.__setattr__")))
    (o4_Lost : PySem.W.subIn K (.ref C_Lost) (.type "BaseException") = some true)
    (o5_Lost : PySem.W.typeIn K (.ref C_Lost) = some (.type "type"))
    (o6_Lost : PySem.W.keepIn K (.ref C_Lost) = true)
    (o7_Lost : PySem.W.findIn K (.ref C_Lost) "__getattribute__" = some (some (.builtin "BaseException.__getattribute__")))
    (o8_Lost : PySem.W.findIn K (.ref C_Lost) "__getattr__" = some none)
    (o9_Lost : PySem.W.hasDictIn K C_Lost = true)
    (oA_Lost : PySem.W.isClsIn K C_Lost = true)
    (oB_Lost : PySem.W.subIn K (.ref C_Lost) (.ref C_Lost) = some true)
    (na_Lost_start : PySem.W.findIn K (.ref C_Lost) "start" = some none)
    (na_Lost_stop : PySem.W.findIn K (.ref C_Lost) "stop" = some none)
    (o1_LooksAhead : K.lookup C_LooksAhead = some (excClassObj nm_LooksAhead q_LooksAhead C_LooksAhead N_LooksAhead bs_LooksAhead bm_LooksAhead true sn_LooksAhead sub_LooksAhead ab_LooksAhead col_LooksAhead dd_LooksAhead k0_LooksAhead k1_LooksAhead k2_LooksAhead k3_LooksAhead k5_LooksAhead "ValueError.__new__"))
    (o2_LooksAhead : PySem.HandSPX.refsVE bm_LooksAhead = true)
    (o3_LooksAhead : PySem.W.findIn K (.ref C_LooksAhead) "__setattr__" = some (some (.builtin "object.__setattr__")))
    (o4_LooksAhead : PySem.W.subIn K (.ref C_LooksAhead) (.type "BaseException") = some true)
    (o5_LooksAhead : PySem.W.typeIn K (.ref C_LooksAhead) = some (.type "type"))
    (o6_LooksAhead : PySem.W.keepIn K (.ref C_LooksAhead) = true)
    (o7_LooksAhead : PySem.W.findIn K (.ref C_LooksAhead) "__getattribute__" = some (some (.builtin "BaseException.__getattribute__")))
    (o8_LooksAhead : PySem.W.findIn K (.ref C_LooksAhead) "__getattr__" = some none)
    (o9_LooksAhead : PySem.W.hasDictIn K C_LooksAhead = true)
    (oA_LooksAhead : PySem.W.isClsIn K C_LooksAhead = true)
    (oB_LooksAhead : PySem.W.subIn K (.ref C_LooksAhead) (.ref C_LooksAhead) = some true)
    (na_LooksAhead_name : PySem.W.findIn K (.ref C_LooksAhead) "name" = some none)
    (na_LooksAhead_hole : PySem.W.findIn K (.ref C_LooksAhead) "hole" = some none)
    (o1_NoText : K.lookup C_NoText = some (excClassObj nm_NoText q_NoText C_NoText N_NoText bs_NoText bm_NoText true sn_NoText sub_NoText ab_NoText col_NoText dd_NoText k0_NoText k1_NoText k2_NoText k3_NoText k5_NoText "ValueError.__new__"))
    (o2_NoText : PySem.HandSPX.refsVE bm_NoText = true)
    (o3_NoText : PySem.W.findIn K (.ref C_NoText) "__setattr__" = some (some (.builtin "object.__setattr__")))
    (o4_NoText : PySem.W.subIn K (.ref C_NoText) (.type "BaseException") = some true)
    (o5_NoText : PySem.W.typeIn K (.ref C_NoText) = some (.type "type"))
    (o6_NoText : PySem.W.keepIn K (.ref C_NoText) = true)
    (o7_NoText : PySem.W.findIn K (.ref C_NoText) "__getattribute__" = some (some (.builtin "BaseException.__getattribute__")))
    (o8_NoText : PySem.W.findIn K (.ref C_NoText) "__getattr__" = some none)
    (o9_NoText : PySem.W.hasDictIn K C_NoText = true)
    (oA_NoText : PySem.W.isClsIn K C_NoText = true)
    (oB_NoText : PySem.W.subIn K (.ref C_NoText) (.ref C_NoText) = some true)
    (na_NoText_text : PySem.W.findIn K (.ref C_NoText) "text" = some none)
    (o1_NoRounds : K.lookup C_NoRounds = some (excClassObj nm_NoRounds q_NoRounds C_NoRounds N_NoRounds bs_NoRounds bm_NoRounds true sn_NoRounds sub_NoRounds ab_NoRounds col_NoRounds dd_NoRounds k0_NoRounds k1_NoRounds k2_NoRounds k3_NoRounds k5_NoRounds "ValueError.__new__"))
    (o2_NoRounds : PySem.HandSPX.refsVE bm_NoRounds = true)
    (o3_NoRounds : PySem.W.findIn K (.ref C_NoRounds) "__setattr__" = some (some (.builtin "object.__setattr__")))
    (o4_NoRounds : PySem.W.subIn K (.ref C_NoRounds) (.type "BaseException") = some true)
    (o5_NoRounds : PySem.W.typeIn K (.ref C_NoRounds) = some (.type "type"))
    (o6_NoRounds : PySem.W.keepIn K (.ref C_NoRounds) = true)
    (o7_NoRounds : PySem.W.findIn K (.ref C_NoRounds) "__getattribute__" = some (some (.builtin "BaseException.__getattribute__")))
    (o8_NoRounds : PySem.W.findIn K (.ref C_NoRounds) "__getattr__" = some none)
    (o9_NoRounds : PySem.W.hasDictIn K C_NoRounds = true)
    (oA_NoRounds : PySem.W.isClsIn K C_NoRounds = true)
    (oB_NoRounds : PySem.W.subIn K (.ref C_NoRounds) (.ref C_NoRounds) = some true)
    (na_NoRounds_rounds : PySem.W.findIn K (.ref C_NoRounds) "rounds" = some none)
    (o1_NoName : K.lookup C_NoName = some (excClassObj nm_NoName q_NoName C_NoName N_NoName bs_NoName bm_NoName true sn_NoName sub_NoName ab_NoName col_NoName dd_NoName k0_NoName k1_NoName k2_NoName k3_NoName k5_NoName "ValueError.__new__"))
    (o2_NoName : PySem.HandSPX.refsVE bm_NoName = true)
    (o3_NoName : PySem.W.findIn K (.ref C_NoName) "__setattr__" = some (some (.builtin "object.__setattr__")))
    (o4_NoName : PySem.W.subIn K (.ref C_NoName) (.type "BaseException") = some true)
    (o5_NoName : PySem.W.typeIn K (.ref C_NoName) = some (.type "type"))
    (o6_NoName : PySem.W.keepIn K (.ref C_NoName) = true)
    (o7_NoName : PySem.W.findIn K (.ref C_NoName) "__getattribute__" = some (some (.builtin "BaseException.__getattribute__")))
    (o8_NoName : PySem.W.findIn K (.ref C_NoName) "__getattr__" = some none)
    (o9_NoName : PySem.W.hasDictIn K C_NoName = true)
    (oA_NoName : PySem.W.isClsIn K C_NoName = true)
    (oB_NoName : PySem.W.subIn K (.ref C_NoName) (.ref C_NoName) = some true)
    (na_NoName_name : PySem.W.findIn K (.ref C_NoName) "name" = some none)
    (o1_BadPace : K.lookup C_BadPace = some (excClassObj nm_BadPace q_BadPace C_BadPace N_BadPace bs_BadPace bm_BadPace true sn_BadPace sub_BadPace ab_BadPace col_BadPace dd_BadPace k0_BadPace k1_BadPace k2_BadPace k3_BadPace k5_BadPace "ValueError.__new__"))
    (o2_BadPace : PySem.HandSPX.refsVE bm_BadPace = true)
    (o3_BadPace : PySem.W.findIn K (.ref C_BadPace) "__setattr__" = some (some (.builtin "object.__setattr__")))
    (o4_BadPace : PySem.W.subIn K (.ref C_BadPace) (.type "BaseException") = some true)
    (o5_BadPace : PySem.W.typeIn K (.ref C_BadPace) = some (.type "type"))
    (o6_BadPace : PySem.W.keepIn K (.ref C_BadPace) = true)
    (o7_BadPace : PySem.W.findIn K (.ref C_BadPace) "__getattribute__" = some (some (.builtin "BaseException.__getattribute__")))
    (o8_BadPace : PySem.W.findIn K (.ref C_BadPace) "__getattr__" = some none)
    (o9_BadPace : PySem.W.hasDictIn K C_BadPace = true)
    (oA_BadPace : PySem.W.isClsIn K C_BadPace = true)
    (oB_BadPace : PySem.W.subIn K (.ref C_BadPace) (.ref C_BadPace) = some true)
    (na_BadPace_pace : PySem.W.findIn K (.ref C_BadPace) "pace" = some none)
    (o1_NoStep : K.lookup C_NoStep = some (excClassObj nm_NoStep q_NoStep C_NoStep N_NoStep bs_NoStep bm_NoStep true sn_NoStep sub_NoStep ab_NoStep col_NoStep dd_NoStep k0_NoStep k1_NoStep k2_NoStep k3_NoStep k5_NoStep "ValueError.__new__"))
    (o2_NoStep : PySem.HandSPX.refsVE bm_NoStep = true)
    (o3_NoStep : PySem.W.findIn K (.ref C_NoStep) "__setattr__" = some (some (.builtin "object.__setattr__")))
    (o4_NoStep : PySem.W.subIn K (.ref C_NoStep) (.type "BaseException") = some true)
    (o5_NoStep : PySem.W.typeIn K (.ref C_NoStep) = some (.type "type"))
    (o6_NoStep : PySem.W.keepIn K (.ref C_NoStep) = true)
    (o7_NoStep : PySem.W.findIn K (.ref C_NoStep) "__getattribute__" = some (some (.builtin "BaseException.__getattribute__")))
    (o8_NoStep : PySem.W.findIn K (.ref C_NoStep) "__getattr__" = some none)
    (o9_NoStep : PySem.W.hasDictIn K C_NoStep = true)
    (oA_NoStep : PySem.W.isClsIn K C_NoStep = true)
    (oB_NoStep : PySem.W.subIn K (.ref C_NoStep) (.ref C_NoStep) = some true)
    (na_NoStep_step : PySem.W.findIn K (.ref C_NoStep) "step" = some none)
    (o1_Unfilled : K.lookup C_Unfilled = some (excClassObj nm_Unfilled q_Unfilled C_Unfilled N_Unfilled bs_Unfilled bm_Unfilled true sn_Unfilled sub_Unfilled ab_Unfilled col_Unfilled dd_Unfilled k0_Unfilled k1_Unfilled k2_Unfilled k3_Unfilled k5_Unfilled "ValueError.__new__"))
    (o2_Unfilled : PySem.HandSPX.refsVE bm_Unfilled = true)
    (o3_Unfilled : PySem.W.findIn K (.ref C_Unfilled) "__setattr__" = some (some (.builtin "object.__setattr__")))
    (o4_Unfilled : PySem.W.subIn K (.ref C_Unfilled) (.type "BaseException") = some true)
    (o5_Unfilled : PySem.W.typeIn K (.ref C_Unfilled) = some (.type "type"))
    (o6_Unfilled : PySem.W.keepIn K (.ref C_Unfilled) = true)
    (o7_Unfilled : PySem.W.findIn K (.ref C_Unfilled) "__getattribute__" = some (some (.builtin "BaseException.__getattribute__")))
    (o8_Unfilled : PySem.W.findIn K (.ref C_Unfilled) "__getattr__" = some none)
    (o9_Unfilled : PySem.W.hasDictIn K C_Unfilled = true)
    (oA_Unfilled : PySem.W.isClsIn K C_Unfilled = true)
    (oB_Unfilled : PySem.W.subIn K (.ref C_Unfilled) (.ref C_Unfilled) = some true)
    (na_Unfilled_name : PySem.W.findIn K (.ref C_Unfilled) "name" = some none)
    (o1_NoChart : K.lookup C_NoChart = some (excClassObj nm_NoChart q_NoChart C_NoChart N_NoChart bs_NoChart bm_NoChart true sn_NoChart sub_NoChart ab_NoChart col_NoChart dd_NoChart k0_NoChart k1_NoChart k2_NoChart k3_NoChart k5_NoChart "ValueError.__new__"))
    (o2_NoChart : PySem.HandSPX.refsVE bm_NoChart = true)
    (o3_NoChart : PySem.W.findIn K (.ref C_NoChart) "__setattr__" = some (some (.builtin "object.__setattr__")))
    (o4_NoChart : PySem.W.subIn K (.ref C_NoChart) (.type "BaseException") = some true)
    (o5_NoChart : PySem.W.typeIn K (.ref C_NoChart) = some (.type "type"))
    (o6_NoChart : PySem.W.keepIn K (.ref C_NoChart) = true)
    (o7_NoChart : PySem.W.findIn K (.ref C_NoChart) "__getattribute__" = some (some (.builtin "BaseException.__getattribute__")))
    (o8_NoChart : PySem.W.findIn K (.ref C_NoChart) "__getattr__" = some none)
    (o9_NoChart : PySem.W.hasDictIn K C_NoChart = true)
    (oA_NoChart : PySem.W.isClsIn K C_NoChart = true)
    (oB_NoChart : PySem.W.subIn K (.ref C_NoChart) (.ref C_NoChart) = some true)
    (na_NoChart_line : PySem.W.findIn K (.ref C_NoChart) "line" = some none)
    (o1_TooSoon : K.lookup C_TooSoon = some (excClassObj nm_TooSoon q_TooSoon C_TooSoon N_TooSoon bs_TooSoon bm_TooSoon true sn_TooSoon sub_TooSoon ab_TooSoon col_TooSoon dd_TooSoon k0_TooSoon k1_TooSoon k2_TooSoon k3_TooSoon k5_TooSoon "ValueError.__new__"))
    (o2_TooSoon : PySem.HandSPX.refsVE bm_TooSoon = true)
    (o3_TooSoon : PySem.W.findIn K (.ref C_TooSoon) "__setattr__" = some (some (.builtin "object.__setattr__")))
    (o4_TooSoon : PySem.W.subIn K (.ref C_TooSoon) (.type "BaseException") = some true)
    (o5_TooSoon : PySem.W.typeIn K (.ref C_TooSoon) = some (.type "type"))
    (o6_TooSoon : PySem.W.keepIn K (.ref C_TooSoon) = true)
    (o7_TooSoon : PySem.W.findIn K (.ref C_TooSoon) "__getattribute__" = some (some (.builtin "BaseException.__getattribute__")))
    (o8_TooSoon : PySem.W.findIn K (.ref C_TooSoon) "__getattr__" = some none)
    (o9_TooSoon : PySem.W.hasDictIn K C_TooSoon = true)
    (oA_TooSoon : PySem.W.isClsIn K C_TooSoon = true)
    (oB_TooSoon : PySem.W.subIn K (.ref C_TooSoon) (.ref C_TooSoon) = some true)
    (na_TooSoon_least : PySem.W.findIn K (.ref C_TooSoon) "least" = some none)
    (o1_NoStretch : K.lookup C_NoStretch = some (excClassObj nm_NoStretch q_NoStretch C_NoStretch N_NoStretch bs_NoStretch bm_NoStretch true sn_NoStretch sub_NoStretch ab_NoStretch col_NoStretch dd_NoStretch k0_NoStretch k1_NoStretch k2_NoStretch k3_NoStretch k5_NoStretch "ValueError.__new__"))
    (o2_NoStretch : PySem.HandSPX.refsVE bm_NoStretch = true)
    (o3_NoStretch : PySem.W.findIn K (.ref C_NoStretch) "__setattr__" = some (some (.builtin "object.__setattr__")))
    (o4_NoStretch : PySem.W.subIn K (.ref C_NoStretch) (.type "BaseException") = some true)
    (o5_NoStretch : PySem.W.typeIn K (.ref C_NoStretch) = some (.type "type"))
    (o6_NoStretch : PySem.W.keepIn K (.ref C_NoStretch) = true)
    (o7_NoStretch : PySem.W.findIn K (.ref C_NoStretch) "__getattribute__" = some (some (.builtin "BaseException.__getattribute__")))
    (o8_NoStretch : PySem.W.findIn K (.ref C_NoStretch) "__getattr__" = some none)
    (o9_NoStretch : PySem.W.hasDictIn K C_NoStretch = true)
    (oA_NoStretch : PySem.W.isClsIn K C_NoStretch = true)
    (oB_NoStretch : PySem.W.subIn K (.ref C_NoStretch) (.ref C_NoStretch) = some true)
    (na_NoStretch_until : PySem.W.findIn K (.ref C_NoStretch) "until" = some none)
    (o1_OutOfWindow : K.lookup C_OutOfWindow = some (excClassObj nm_OutOfWindow q_OutOfWindow C_OutOfWindow N_OutOfWindow bs_OutOfWindow bm_OutOfWindow true sn_OutOfWindow sub_OutOfWindow ab_OutOfWindow col_OutOfWindow dd_OutOfWindow k0_OutOfWindow k1_OutOfWindow k2_OutOfWindow k3_OutOfWindow k5_OutOfWindow "ValueError.__new__"))
    (o2_OutOfWindow : PySem.HandSPX.refsVE bm_OutOfWindow = true)
    (o3_OutOfWindow : PySem.W.findIn K (.ref C_OutOfWindow) "__setattr__" = some (some (.builtin "object.__setattr__")))
    (o4_OutOfWindow : PySem.W.subIn K (.ref C_OutOfWindow) (.type "BaseException") = some true)
    (o5_OutOfWindow : PySem.W.typeIn K (.ref C_OutOfWindow) = some (.type "type"))
    (o6_OutOfWindow : PySem.W.keepIn K (.ref C_OutOfWindow) = true)
    (o7_OutOfWindow : PySem.W.findIn K (.ref C_OutOfWindow) "__getattribute__" = some (some (.builtin "BaseException.__getattribute__")))
    (o8_OutOfWindow : PySem.W.findIn K (.ref C_OutOfWindow) "__getattr__" = some none)
    (o9_OutOfWindow : PySem.W.hasDictIn K C_OutOfWindow = true)
    (oA_OutOfWindow : PySem.W.isClsIn K C_OutOfWindow = true)
    (oB_OutOfWindow : PySem.W.subIn K (.ref C_OutOfWindow) (.ref C_OutOfWindow) = some true)
    (na_OutOfWindow_name : PySem.W.findIn K (.ref C_OutOfWindow) "name" = some none)
    (o1_NoMove : K.lookup C_NoMove = some (excClassObj nm_NoMove q_NoMove C_NoMove N_NoMove bs_NoMove bm_NoMove true sn_NoMove sub_NoMove ab_NoMove col_NoMove dd_NoMove k0_NoMove k1_NoMove k2_NoMove k3_NoMove k5_NoMove "ValueError.__new__"))
    (o2_NoMove : PySem.HandSPX.refsVE bm_NoMove = true)
    (o3_NoMove : PySem.W.findIn K (.ref C_NoMove) "__setattr__" = some (some (.builtin "object.__setattr__")))
    (o4_NoMove : PySem.W.subIn K (.ref C_NoMove) (.type "BaseException") = some true)
    (o5_NoMove : PySem.W.typeIn K (.ref C_NoMove) = some (.type "type"))
    (o6_NoMove : PySem.W.keepIn K (.ref C_NoMove) = true)
    (o7_NoMove : PySem.W.findIn K (.ref C_NoMove) "__getattribute__" = some (some (.builtin "BaseException.__getattribute__")))
    (o8_NoMove : PySem.W.findIn K (.ref C_NoMove) "__getattr__" = some none)
    (o9_NoMove : PySem.W.hasDictIn K C_NoMove = true)
    (oA_NoMove : PySem.W.isClsIn K C_NoMove = true)
    (oB_NoMove : PySem.W.subIn K (.ref C_NoMove) (.ref C_NoMove) = some true)
    (na_NoMove_begin : PySem.W.findIn K (.ref C_NoMove) "begin" = some none)
    (o1_NoChannel : K.lookup C_NoChannel = some (excClassObj nm_NoChannel q_NoChannel C_NoChannel N_NoChannel bs_NoChannel bm_NoChannel true sn_NoChannel sub_NoChannel ab_NoChannel col_NoChannel dd_NoChannel k0_NoChannel k1_NoChannel k2_NoChannel k3_NoChannel k5_NoChannel "ValueError.__new__"))
    (o2_NoChannel : PySem.HandSPX.refsVE bm_NoChannel = true)
    (o3_NoChannel : PySem.W.findIn K (.ref C_NoChannel) "__setattr__" = some (some (.builtin "object.__setattr__")))
    (o4_NoChannel : PySem.W.subIn K (.ref C_NoChannel) (.type "BaseException") = some true)
    (o5_NoChannel : PySem.W.typeIn K (.ref C_NoChannel) = some (.type "type"))
    (o6_NoChannel : PySem.W.keepIn K (.ref C_NoChannel) = true)
    (o7_NoChannel : PySem.W.findIn K (.ref C_NoChannel) "__getattribute__" = some (some (.builtin "BaseException.__getattribute__")))
    (o8_NoChannel : PySem.W.findIn K (.ref C_NoChannel) "__getattr__" = some none)
    (o9_NoChannel : PySem.W.hasDictIn K C_NoChannel = true)
    (oA_NoChannel : PySem.W.isClsIn K C_NoChannel = true)
    (oB_NoChannel : PySem.W.subIn K (.ref C_NoChannel) (.ref C_NoChannel) = some true)
    (na_NoChannel_name : PySem.W.findIn K (.ref C_NoChannel) "name" = some none)
    (o1_NoSpan : K.lookup C_NoSpan = some (excClassObj nm_NoSpan q_NoSpan C_NoSpan N_NoSpan bs_NoSpan bm_NoSpan true sn_NoSpan sub_NoSpan ab_NoSpan col_NoSpan dd_NoSpan k0_NoSpan k1_NoSpan k2_NoSpan k3_NoSpan k5_NoSpan "ValueError.__new__"))
    (o2_NoSpan : PySem.HandSPX.refsVE bm_NoSpan = true)
    (o3_NoSpan : PySem.W.findIn K (.ref C_NoSpan) "__setattr__" = some (some (.builtin "object.__setattr__")))
    (o4_NoSpan : PySem.W.subIn K (.ref C_NoSpan) (.type "BaseException") = some true)
    (o5_NoSpan : PySem.W.typeIn K (.ref C_NoSpan) = some (.type "type"))
    (o6_NoSpan : PySem.W.keepIn K (.ref C_NoSpan) = true)
    (o7_NoSpan : PySem.W.findIn K (.ref C_NoSpan) "__getattribute__" = some (some (.builtin "BaseException.__getattribute__")))
    (o8_NoSpan : PySem.W.findIn K (.ref C_NoSpan) "__getattr__" = some none)
    (o9_NoSpan : PySem.W.hasDictIn K C_NoSpan = true)
    (oA_NoSpan : PySem.W.isClsIn K C_NoSpan = true)
    (oB_NoSpan : PySem.W.subIn K (.ref C_NoSpan) (.ref C_NoSpan) = some true)
    (na_NoSpan_span : PySem.W.findIn K (.ref C_NoSpan) "span" = some none)
    (o1_Ringed : K.lookup C_Ringed = some (excClassObj nm_Ringed q_Ringed C_Ringed N_Ringed bs_Ringed bm_Ringed true sn_Ringed sub_Ringed ab_Ringed col_Ringed dd_Ringed k0_Ringed k1_Ringed k2_Ringed k3_Ringed k5_Ringed "ValueError.__new__"))
    (o2_Ringed : PySem.HandSPX.refsVE bm_Ringed = true)
    (o3_Ringed : PySem.W.findIn K (.ref C_Ringed) "__setattr__" = some (some (.builtin "object.__setattr__")))
    (o4_Ringed : PySem.W.subIn K (.ref C_Ringed) (.type "BaseException") = some true)
    (o5_Ringed : PySem.W.typeIn K (.ref C_Ringed) = some (.type "type"))
    (o6_Ringed : PySem.W.keepIn K (.ref C_Ringed) = true)
    (o7_Ringed : PySem.W.findIn K (.ref C_Ringed) "__getattribute__" = some (some (.builtin "BaseException.__getattribute__")))
    (o8_Ringed : PySem.W.findIn K (.ref C_Ringed) "__getattr__" = some none)
    (o9_Ringed : PySem.W.hasDictIn K C_Ringed = true)
    (oA_Ringed : PySem.W.isClsIn K C_Ringed = true)
    (oB_Ringed : PySem.W.subIn K (.ref C_Ringed) (.ref C_Ringed) = some true)
    (na_Ringed_ring : PySem.W.findIn K (.ref C_Ringed) "ring" = some none)
    (q_NoTurns : PySem.W.excIn K C_NoTurns [.type "ValueError", .type "Exception", .type "BaseException", .type "object"] "ValueError.__new__" = true)
    (kp_NoTurns : PySem.W.keepIn K (.ref C_NoTurns) = true)
    (o5_NoTurns : PySem.W.typeIn K (.ref C_NoTurns) = some (.type "type"))
    (o7_NoTurns : PySem.W.findIn K (.ref C_NoTurns) "__getattribute__" = some (some (.builtin "BaseException.__getattribute__")))
    (o8_NoTurns : PySem.W.findIn K (.ref C_NoTurns) "__getattr__" = some none)
    (o9_NoTurns : PySem.W.hasDictIn K C_NoTurns = true)
    (q_NotPlain : PySem.W.excIn K C_NotPlain [.type "ValueError", .type "Exception", .type "BaseException", .type "object"] "ValueError.__new__" = true)
    (kp_NotPlain : PySem.W.keepIn K (.ref C_NotPlain) = true)
    (o5_NotPlain : PySem.W.typeIn K (.ref C_NotPlain) = some (.type "type"))
    (o7_NotPlain : PySem.W.findIn K (.ref C_NotPlain) "__getattribute__" = some (some (.builtin "BaseException.__getattribute__")))
    (o8_NotPlain : PySem.W.findIn K (.ref C_NotPlain) "__getattr__" = some none)
    (o9_NotPlain : PySem.W.hasDictIn K C_NotPlain = true)
    (xn : PySem.W.specialIn K (.builtin "object.__class__") "__get__" = some (some (.builtin "getset_descriptor.__get__")))
    (xt : PySem.W.takesIn K (.builtin "object.__class__") = some true)
    (xc1_NoMoment : PySem.W.clsIn K C_NoMoment = some cd_e_NoMoment)
    (xc2_NoMoment : cd_e_NoMoment.mro = mroE C_NoMoment C_AnytuneError)
    (xa_NoMoment : PySem.W.findIn K (.ref C_NoMoment) "__class__" = some (some (.builtin "object.__class__")))
    (xc1_NoMark : PySem.W.clsIn K C_NoMark = some cd_e_NoMark)
    (xc2_NoMark : cd_e_NoMark.mro = mroE C_NoMark C_AnytuneError)
    (xa_NoMark : PySem.W.findIn K (.ref C_NoMark) "__class__" = some (some (.builtin "object.__class__")))
    (xc1_NoWindow : PySem.W.clsIn K C_NoWindow = some cd_e_NoWindow)
    (xc2_NoWindow : cd_e_NoWindow.mro = mroE C_NoWindow C_AnytuneError)
    (xa_NoWindow : PySem.W.findIn K (.ref C_NoWindow) "__class__" = some (some (.builtin "object.__class__")))
    (xc1_NoPace : PySem.W.clsIn K C_NoPace = some cd_e_NoPace)
    (xc2_NoPace : cd_e_NoPace.mro = mroE C_NoPace C_AnytuneError)
    (xa_NoPace : PySem.W.findIn K (.ref C_NoPace) "__class__" = some (some (.builtin "object.__class__")))
    (xc1_Lost : PySem.W.clsIn K C_Lost = some cd_e_Lost)
    (xc2_Lost : cd_e_Lost.mro = mroE C_Lost C_AnytuneError)
    (xa_Lost : PySem.W.findIn K (.ref C_Lost) "__class__" = some (some (.builtin "object.__class__")))
    (xc1_LooksAhead : PySem.W.clsIn K C_LooksAhead = some cd_e_LooksAhead)
    (xc2_LooksAhead : cd_e_LooksAhead.mro = mroE C_LooksAhead C_AnytuneError)
    (xa_LooksAhead : PySem.W.findIn K (.ref C_LooksAhead) "__class__" = some (some (.builtin "object.__class__")))
    (xc1_NoTurns : PySem.W.clsIn K C_NoTurns = some cd_e_NoTurns)
    (xc2_NoTurns : cd_e_NoTurns.mro = mroE C_NoTurns C_AnytuneError)
    (xa_NoTurns : PySem.W.findIn K (.ref C_NoTurns) "__class__" = some (some (.builtin "object.__class__")))
    (xc1_NotPlain : PySem.W.clsIn K C_NotPlain = some cd_e_NotPlain)
    (xc2_NotPlain : cd_e_NotPlain.mro = mroE C_NotPlain C_AnytuneError)
    (xa_NotPlain : PySem.W.findIn K (.ref C_NotPlain) "__class__" = some (some (.builtin "object.__class__")))
    (xc1_NoText : PySem.W.clsIn K C_NoText = some cd_e_NoText)
    (xc2_NoText : cd_e_NoText.mro = mroE C_NoText C_AnytuneError)
    (xa_NoText : PySem.W.findIn K (.ref C_NoText) "__class__" = some (some (.builtin "object.__class__")))
    (xc1_NoRounds : PySem.W.clsIn K C_NoRounds = some cd_e_NoRounds)
    (xc2_NoRounds : cd_e_NoRounds.mro = mroE C_NoRounds C_AnytuneError)
    (xa_NoRounds : PySem.W.findIn K (.ref C_NoRounds) "__class__" = some (some (.builtin "object.__class__")))
    (xc1_NoName : PySem.W.clsIn K C_NoName = some cd_e_NoName)
    (xc2_NoName : cd_e_NoName.mro = mroE C_NoName C_AnytuneError)
    (xa_NoName : PySem.W.findIn K (.ref C_NoName) "__class__" = some (some (.builtin "object.__class__")))
    (xc1_BadPace : PySem.W.clsIn K C_BadPace = some cd_e_BadPace)
    (xc2_BadPace : cd_e_BadPace.mro = mroE C_BadPace C_AnytuneError)
    (xa_BadPace : PySem.W.findIn K (.ref C_BadPace) "__class__" = some (some (.builtin "object.__class__")))
    (xc1_NoStep : PySem.W.clsIn K C_NoStep = some cd_e_NoStep)
    (xc2_NoStep : cd_e_NoStep.mro = mroE C_NoStep C_AnytuneError)
    (xa_NoStep : PySem.W.findIn K (.ref C_NoStep) "__class__" = some (some (.builtin "object.__class__")))
    (xc1_Unfilled : PySem.W.clsIn K C_Unfilled = some cd_e_Unfilled)
    (xc2_Unfilled : cd_e_Unfilled.mro = mroE C_Unfilled C_AnytuneError)
    (xa_Unfilled : PySem.W.findIn K (.ref C_Unfilled) "__class__" = some (some (.builtin "object.__class__")))
    (xc1_NoChart : PySem.W.clsIn K C_NoChart = some cd_e_NoChart)
    (xc2_NoChart : cd_e_NoChart.mro = mroE C_NoChart C_AnytuneError)
    (xa_NoChart : PySem.W.findIn K (.ref C_NoChart) "__class__" = some (some (.builtin "object.__class__")))
    (xc1_TooSoon : PySem.W.clsIn K C_TooSoon = some cd_e_TooSoon)
    (xc2_TooSoon : cd_e_TooSoon.mro = mroE C_TooSoon C_AnytuneError)
    (xa_TooSoon : PySem.W.findIn K (.ref C_TooSoon) "__class__" = some (some (.builtin "object.__class__")))
    (xc1_NoStretch : PySem.W.clsIn K C_NoStretch = some cd_e_NoStretch)
    (xc2_NoStretch : cd_e_NoStretch.mro = mroE C_NoStretch C_AnytuneError)
    (xa_NoStretch : PySem.W.findIn K (.ref C_NoStretch) "__class__" = some (some (.builtin "object.__class__")))
    (xc1_OutOfWindow : PySem.W.clsIn K C_OutOfWindow = some cd_e_OutOfWindow)
    (xc2_OutOfWindow : cd_e_OutOfWindow.mro = mroE C_OutOfWindow C_AnytuneError)
    (xa_OutOfWindow : PySem.W.findIn K (.ref C_OutOfWindow) "__class__" = some (some (.builtin "object.__class__")))
    (xc1_NoMove : PySem.W.clsIn K C_NoMove = some cd_e_NoMove)
    (xc2_NoMove : cd_e_NoMove.mro = mroE C_NoMove C_AnytuneError)
    (xa_NoMove : PySem.W.findIn K (.ref C_NoMove) "__class__" = some (some (.builtin "object.__class__")))
    (xc1_NoChannel : PySem.W.clsIn K C_NoChannel = some cd_e_NoChannel)
    (xc2_NoChannel : cd_e_NoChannel.mro = mroE C_NoChannel C_AnytuneError)
    (xa_NoChannel : PySem.W.findIn K (.ref C_NoChannel) "__class__" = some (some (.builtin "object.__class__")))
    (xc1_NoSpan : PySem.W.clsIn K C_NoSpan = some cd_e_NoSpan)
    (xc2_NoSpan : cd_e_NoSpan.mro = mroE C_NoSpan C_AnytuneError)
    (xa_NoSpan : PySem.W.findIn K (.ref C_NoSpan) "__class__" = some (some (.builtin "object.__class__")))
    (xc1_Ringed : PySem.W.clsIn K C_Ringed = some cd_e_Ringed)
    (xc2_Ringed : cd_e_Ringed.mro = mroE C_Ringed C_AnytuneError)
    (xa_Ringed : PySem.W.findIn K (.ref C_Ringed) "__class__" = some (some (.builtin "object.__class__")))
    (xtA : PySem.W.typeIn K (.ref C_AnytuneError) = some (.type "type"))
    (xiA : PySem.W.isClsIn K C_AnytuneError = true)
    (xnd : [C_AnytuneError, C_NoMoment, C_NoMark, C_NoWindow, C_NoPace, C_Lost, C_LooksAhead, C_NoTurns, C_NotPlain, C_NoText, C_NoRounds, C_NoName, C_BadPace, C_NoStep, C_Unfilled, C_NoChart, C_TooSoon, C_NoStretch, C_OutOfWindow, C_NoMove, C_NoChannel, C_NoSpan, C_Ringed].Nodup)
    (n_len : PySem.W.nsIn K mainGlobals "len" = some none)
    (n_isinstance : PySem.W.nsIn K mainGlobals "isinstance" = some none)
    (n_range : PySem.W.nsIn K mainGlobals "range" = some none)
    (n_int : PySem.W.nsIn K mainGlobals "int" = some none)
    (n_ValueError : PySem.W.nsIn K mainGlobals "ValueError" = some none) :
    ∃ T : Tx K mg, T.a_law = fa := by
  have e := hfa.symm.trans (PySem.W.mg_of X G g_law)
  cases e
  exact ⟨⟨_,
    _,
    (fun_mk (st := s_NoMoment___init__) l_NoMoment___init__ c_NoMoment___init__ p_NoMoment___init__),
    _,
    _,
    (fun_mk (st := s_NoMark___init__) l_NoMark___init__ c_NoMark___init__ p_NoMark___init__),
    _,
    _,
    (fun_mk (st := s_NoWindow___init__) l_NoWindow___init__ c_NoWindow___init__ p_NoWindow___init__),
    _,
    _,
    (fun_mk (st := s_NoPace___init__) l_NoPace___init__ c_NoPace___init__ p_NoPace___init__),
    _,
    _,
    (fun_mk (st := s_Lost___init__) l_Lost___init__ c_Lost___init__ p_Lost___init__),
    _,
    _,
    (fun_mk (st := s_LooksAhead___init__) l_LooksAhead___init__ c_LooksAhead___init__ p_LooksAhead___init__),
    _,
    _,
    (fun_mk (st := s_NoText___init__) l_NoText___init__ c_NoText___init__ p_NoText___init__),
    _,
    _,
    (fun_mk (st := s_NoRounds___init__) l_NoRounds___init__ c_NoRounds___init__ p_NoRounds___init__),
    _,
    _,
    (fun_mk (st := s_NoName___init__) l_NoName___init__ c_NoName___init__ p_NoName___init__),
    _,
    _,
    (fun_mk (st := s_BadPace___init__) l_BadPace___init__ c_BadPace___init__ p_BadPace___init__),
    _,
    _,
    (fun_mk (st := s_NoStep___init__) l_NoStep___init__ c_NoStep___init__ p_NoStep___init__),
    _,
    _,
    (fun_mk (st := s_Unfilled___init__) l_Unfilled___init__ c_Unfilled___init__ p_Unfilled___init__),
    _,
    _,
    (fun_mk (st := s_NoChart___init__) l_NoChart___init__ c_NoChart___init__ p_NoChart___init__),
    _,
    _,
    (fun_mk (st := s_TooSoon___init__) l_TooSoon___init__ c_TooSoon___init__ p_TooSoon___init__),
    _,
    _,
    (fun_mk (st := s_NoStretch___init__) l_NoStretch___init__ c_NoStretch___init__ p_NoStretch___init__),
    _,
    _,
    (fun_mk (st := s_OutOfWindow___init__) l_OutOfWindow___init__ c_OutOfWindow___init__ p_OutOfWindow___init__),
    _,
    _,
    (fun_mk (st := s_NoMove___init__) l_NoMove___init__ c_NoMove___init__ p_NoMove___init__),
    _,
    _,
    (fun_mk (st := s_NoChannel___init__) l_NoChannel___init__ c_NoChannel___init__ p_NoChannel___init__),
    _,
    _,
    (fun_mk (st := s_NoSpan___init__) l_NoSpan___init__ c_NoSpan___init__ p_NoSpan___init__),
    _,
    _,
    (fun_mk (st := s_Ringed___init__) l_Ringed___init__ c_Ringed___init__ p_Ringed___init__),
    _,
    _,
    (fun_mk (st := s__law_cell) l__law_cell c__law_cell p__law_cell),
    (PySem.W.mg_of X G g__law_cell),
    _,
    _,
    (fun_mk (st := s__law_pairs) l__law_pairs c__law_pairs p__law_pairs),
    (PySem.W.mg_of X G g__law_pairs),
    _,
    _,
    (fun_mk (st := s__law_singles) l__law_singles c__law_singles p__law_singles),
    (PySem.W.mg_of X G g__law_singles),
    _,
    _,
    (fun_mk (st := s__law_kinds) l__law_kinds c__law_kinds p__law_kinds),
    (PySem.W.mg_of X G g__law_kinds),
    _,
    _,
    (fun_mk (st := s_law) l_law c_law p_law),
    (PySem.W.mg_of X G g_law),
    C_AnytuneError,
    (PySem.W.mg_of X G g_AnytuneError),
    ⟨r1_AnytuneError, r2_AnytuneError⟩,
    r3_AnytuneError,
    C_NoMoment,
    (PySem.W.mg_of X G g_NoMoment),
    ⟨⟨_, _, _, _, _, _, _, _, _, _, _, _, _, _, _, o1_NoMoment, o2_NoMoment⟩, o3_NoMoment, o4_NoMoment, o5_NoMoment, o6_NoMoment⟩,
    ⟨o7_NoMoment, o8_NoMoment, o4_NoMoment, o9_NoMoment⟩,
    (exm_own o4_NoMoment oA_NoMoment o5_NoMoment oB_NoMoment),
    na_NoMoment_top,
    na_NoMoment_bottom,
    C_NoMark,
    (PySem.W.mg_of X G g_NoMark),
    ⟨⟨_, _, _, _, _, _, _, _, _, _, _, _, _, _, _, o1_NoMark, o2_NoMark⟩, o3_NoMark, o4_NoMark, o5_NoMark, o6_NoMark⟩,
    ⟨o7_NoMark, o8_NoMark, o4_NoMark, o9_NoMark⟩,
    (exm_own o4_NoMark oA_NoMark o5_NoMark oB_NoMark),
    na_NoMark_tone,
    na_NoMark_begin,
    na_NoMark_end,
    C_NoWindow,
    (PySem.W.mg_of X G g_NoWindow),
    ⟨⟨_, _, _, _, _, _, _, _, _, _, _, _, _, _, _, o1_NoWindow, o2_NoWindow⟩, o3_NoWindow, o4_NoWindow, o5_NoWindow, o6_NoWindow⟩,
    ⟨o7_NoWindow, o8_NoWindow, o4_NoWindow, o9_NoWindow⟩,
    (exm_own o4_NoWindow oA_NoWindow o5_NoWindow oB_NoWindow),
    na_NoWindow_begin,
    na_NoWindow_end,
    na_NoWindow_rounds,
    C_NoPace,
    (PySem.W.mg_of X G g_NoPace),
    ⟨⟨_, _, _, _, _, _, _, _, _, _, _, _, _, _, _, o1_NoPace, o2_NoPace⟩, o3_NoPace, o4_NoPace, o5_NoPace, o6_NoPace⟩,
    ⟨o7_NoPace, o8_NoPace, o4_NoPace, o9_NoPace⟩,
    (exm_own o4_NoPace oA_NoPace o5_NoPace oB_NoPace),
    na_NoPace_hole,
    na_NoPace_speed,
    C_Lost,
    (PySem.W.mg_of X G g_Lost),
    ⟨⟨_, _, _, _, _, _, _, _, _, _, _, _, _, _, _, o1_Lost, o2_Lost⟩, o3_Lost, o4_Lost, o5_Lost, o6_Lost⟩,
    ⟨o7_Lost, o8_Lost, o4_Lost, o9_Lost⟩,
    (exm_own o4_Lost oA_Lost o5_Lost oB_Lost),
    na_Lost_start,
    na_Lost_stop,
    C_LooksAhead,
    (PySem.W.mg_of X G g_LooksAhead),
    ⟨⟨_, _, _, _, _, _, _, _, _, _, _, _, _, _, _, o1_LooksAhead, o2_LooksAhead⟩, o3_LooksAhead, o4_LooksAhead, o5_LooksAhead, o6_LooksAhead⟩,
    ⟨o7_LooksAhead, o8_LooksAhead, o4_LooksAhead, o9_LooksAhead⟩,
    (exm_own o4_LooksAhead oA_LooksAhead o5_LooksAhead oB_LooksAhead),
    na_LooksAhead_name,
    na_LooksAhead_hole,
    C_NoText,
    (PySem.W.mg_of X G g_NoText),
    ⟨⟨_, _, _, _, _, _, _, _, _, _, _, _, _, _, _, o1_NoText, o2_NoText⟩, o3_NoText, o4_NoText, o5_NoText, o6_NoText⟩,
    ⟨o7_NoText, o8_NoText, o4_NoText, o9_NoText⟩,
    (exm_own o4_NoText oA_NoText o5_NoText oB_NoText),
    na_NoText_text,
    C_NoRounds,
    (PySem.W.mg_of X G g_NoRounds),
    ⟨⟨_, _, _, _, _, _, _, _, _, _, _, _, _, _, _, o1_NoRounds, o2_NoRounds⟩, o3_NoRounds, o4_NoRounds, o5_NoRounds, o6_NoRounds⟩,
    ⟨o7_NoRounds, o8_NoRounds, o4_NoRounds, o9_NoRounds⟩,
    (exm_own o4_NoRounds oA_NoRounds o5_NoRounds oB_NoRounds),
    na_NoRounds_rounds,
    C_NoName,
    (PySem.W.mg_of X G g_NoName),
    ⟨⟨_, _, _, _, _, _, _, _, _, _, _, _, _, _, _, o1_NoName, o2_NoName⟩, o3_NoName, o4_NoName, o5_NoName, o6_NoName⟩,
    ⟨o7_NoName, o8_NoName, o4_NoName, o9_NoName⟩,
    (exm_own o4_NoName oA_NoName o5_NoName oB_NoName),
    na_NoName_name,
    C_BadPace,
    (PySem.W.mg_of X G g_BadPace),
    ⟨⟨_, _, _, _, _, _, _, _, _, _, _, _, _, _, _, o1_BadPace, o2_BadPace⟩, o3_BadPace, o4_BadPace, o5_BadPace, o6_BadPace⟩,
    ⟨o7_BadPace, o8_BadPace, o4_BadPace, o9_BadPace⟩,
    (exm_own o4_BadPace oA_BadPace o5_BadPace oB_BadPace),
    na_BadPace_pace,
    C_NoStep,
    (PySem.W.mg_of X G g_NoStep),
    ⟨⟨_, _, _, _, _, _, _, _, _, _, _, _, _, _, _, o1_NoStep, o2_NoStep⟩, o3_NoStep, o4_NoStep, o5_NoStep, o6_NoStep⟩,
    ⟨o7_NoStep, o8_NoStep, o4_NoStep, o9_NoStep⟩,
    (exm_own o4_NoStep oA_NoStep o5_NoStep oB_NoStep),
    na_NoStep_step,
    C_Unfilled,
    (PySem.W.mg_of X G g_Unfilled),
    ⟨⟨_, _, _, _, _, _, _, _, _, _, _, _, _, _, _, o1_Unfilled, o2_Unfilled⟩, o3_Unfilled, o4_Unfilled, o5_Unfilled, o6_Unfilled⟩,
    ⟨o7_Unfilled, o8_Unfilled, o4_Unfilled, o9_Unfilled⟩,
    (exm_own o4_Unfilled oA_Unfilled o5_Unfilled oB_Unfilled),
    na_Unfilled_name,
    C_NoChart,
    (PySem.W.mg_of X G g_NoChart),
    ⟨⟨_, _, _, _, _, _, _, _, _, _, _, _, _, _, _, o1_NoChart, o2_NoChart⟩, o3_NoChart, o4_NoChart, o5_NoChart, o6_NoChart⟩,
    ⟨o7_NoChart, o8_NoChart, o4_NoChart, o9_NoChart⟩,
    (exm_own o4_NoChart oA_NoChart o5_NoChart oB_NoChart),
    na_NoChart_line,
    C_TooSoon,
    (PySem.W.mg_of X G g_TooSoon),
    ⟨⟨_, _, _, _, _, _, _, _, _, _, _, _, _, _, _, o1_TooSoon, o2_TooSoon⟩, o3_TooSoon, o4_TooSoon, o5_TooSoon, o6_TooSoon⟩,
    ⟨o7_TooSoon, o8_TooSoon, o4_TooSoon, o9_TooSoon⟩,
    (exm_own o4_TooSoon oA_TooSoon o5_TooSoon oB_TooSoon),
    na_TooSoon_least,
    C_NoStretch,
    (PySem.W.mg_of X G g_NoStretch),
    ⟨⟨_, _, _, _, _, _, _, _, _, _, _, _, _, _, _, o1_NoStretch, o2_NoStretch⟩, o3_NoStretch, o4_NoStretch, o5_NoStretch, o6_NoStretch⟩,
    ⟨o7_NoStretch, o8_NoStretch, o4_NoStretch, o9_NoStretch⟩,
    (exm_own o4_NoStretch oA_NoStretch o5_NoStretch oB_NoStretch),
    na_NoStretch_until,
    C_OutOfWindow,
    (PySem.W.mg_of X G g_OutOfWindow),
    ⟨⟨_, _, _, _, _, _, _, _, _, _, _, _, _, _, _, o1_OutOfWindow, o2_OutOfWindow⟩, o3_OutOfWindow, o4_OutOfWindow, o5_OutOfWindow, o6_OutOfWindow⟩,
    ⟨o7_OutOfWindow, o8_OutOfWindow, o4_OutOfWindow, o9_OutOfWindow⟩,
    (exm_own o4_OutOfWindow oA_OutOfWindow o5_OutOfWindow oB_OutOfWindow),
    na_OutOfWindow_name,
    C_NoMove,
    (PySem.W.mg_of X G g_NoMove),
    ⟨⟨_, _, _, _, _, _, _, _, _, _, _, _, _, _, _, o1_NoMove, o2_NoMove⟩, o3_NoMove, o4_NoMove, o5_NoMove, o6_NoMove⟩,
    ⟨o7_NoMove, o8_NoMove, o4_NoMove, o9_NoMove⟩,
    (exm_own o4_NoMove oA_NoMove o5_NoMove oB_NoMove),
    na_NoMove_begin,
    C_NoChannel,
    (PySem.W.mg_of X G g_NoChannel),
    ⟨⟨_, _, _, _, _, _, _, _, _, _, _, _, _, _, _, o1_NoChannel, o2_NoChannel⟩, o3_NoChannel, o4_NoChannel, o5_NoChannel, o6_NoChannel⟩,
    ⟨o7_NoChannel, o8_NoChannel, o4_NoChannel, o9_NoChannel⟩,
    (exm_own o4_NoChannel oA_NoChannel o5_NoChannel oB_NoChannel),
    na_NoChannel_name,
    C_NoSpan,
    (PySem.W.mg_of X G g_NoSpan),
    ⟨⟨_, _, _, _, _, _, _, _, _, _, _, _, _, _, _, o1_NoSpan, o2_NoSpan⟩, o3_NoSpan, o4_NoSpan, o5_NoSpan, o6_NoSpan⟩,
    ⟨o7_NoSpan, o8_NoSpan, o4_NoSpan, o9_NoSpan⟩,
    (exm_own o4_NoSpan oA_NoSpan o5_NoSpan oB_NoSpan),
    na_NoSpan_span,
    C_Ringed,
    (PySem.W.mg_of X G g_Ringed),
    ⟨⟨_, _, _, _, _, _, _, _, _, _, _, _, _, _, _, o1_Ringed, o2_Ringed⟩, o3_Ringed, o4_Ringed, o5_Ringed, o6_Ringed⟩,
    ⟨o7_Ringed, o8_Ringed, o4_Ringed, o9_Ringed⟩,
    (exm_own o4_Ringed oA_Ringed o5_Ringed oB_Ringed),
    na_Ringed_ring,
    C_NoTurns,
    (PySem.W.mg_of X G g_NoTurns),
    q_NoTurns,
    kp_NoTurns,
    o5_NoTurns,
    C_NotPlain,
    (PySem.W.mg_of X G g_NotPlain),
    q_NotPlain,
    kp_NotPlain,
    o5_NotPlain,
    ⟨⟨_, xc1_NoMoment, xc2_NoMoment⟩, o7_NoMoment, o8_NoMoment, o9_NoMoment, xa_NoMoment, xn, xt, o5_NoMoment⟩,
    ⟨⟨_, xc1_NoMark, xc2_NoMark⟩, o7_NoMark, o8_NoMark, o9_NoMark, xa_NoMark, xn, xt, o5_NoMark⟩,
    ⟨⟨_, xc1_NoWindow, xc2_NoWindow⟩, o7_NoWindow, o8_NoWindow, o9_NoWindow, xa_NoWindow, xn, xt, o5_NoWindow⟩,
    ⟨⟨_, xc1_NoPace, xc2_NoPace⟩, o7_NoPace, o8_NoPace, o9_NoPace, xa_NoPace, xn, xt, o5_NoPace⟩,
    ⟨⟨_, xc1_Lost, xc2_Lost⟩, o7_Lost, o8_Lost, o9_Lost, xa_Lost, xn, xt, o5_Lost⟩,
    ⟨⟨_, xc1_LooksAhead, xc2_LooksAhead⟩, o7_LooksAhead, o8_LooksAhead, o9_LooksAhead, xa_LooksAhead, xn, xt, o5_LooksAhead⟩,
    ⟨⟨_, xc1_NoTurns, xc2_NoTurns⟩, o7_NoTurns, o8_NoTurns, o9_NoTurns, xa_NoTurns, xn, xt, o5_NoTurns⟩,
    ⟨⟨_, xc1_NotPlain, xc2_NotPlain⟩, o7_NotPlain, o8_NotPlain, o9_NotPlain, xa_NotPlain, xn, xt, o5_NotPlain⟩,
    ⟨⟨_, xc1_NoText, xc2_NoText⟩, o7_NoText, o8_NoText, o9_NoText, xa_NoText, xn, xt, o5_NoText⟩,
    ⟨⟨_, xc1_NoRounds, xc2_NoRounds⟩, o7_NoRounds, o8_NoRounds, o9_NoRounds, xa_NoRounds, xn, xt, o5_NoRounds⟩,
    ⟨⟨_, xc1_NoName, xc2_NoName⟩, o7_NoName, o8_NoName, o9_NoName, xa_NoName, xn, xt, o5_NoName⟩,
    ⟨⟨_, xc1_BadPace, xc2_BadPace⟩, o7_BadPace, o8_BadPace, o9_BadPace, xa_BadPace, xn, xt, o5_BadPace⟩,
    ⟨⟨_, xc1_NoStep, xc2_NoStep⟩, o7_NoStep, o8_NoStep, o9_NoStep, xa_NoStep, xn, xt, o5_NoStep⟩,
    ⟨⟨_, xc1_Unfilled, xc2_Unfilled⟩, o7_Unfilled, o8_Unfilled, o9_Unfilled, xa_Unfilled, xn, xt, o5_Unfilled⟩,
    ⟨⟨_, xc1_NoChart, xc2_NoChart⟩, o7_NoChart, o8_NoChart, o9_NoChart, xa_NoChart, xn, xt, o5_NoChart⟩,
    ⟨⟨_, xc1_TooSoon, xc2_TooSoon⟩, o7_TooSoon, o8_TooSoon, o9_TooSoon, xa_TooSoon, xn, xt, o5_TooSoon⟩,
    ⟨⟨_, xc1_NoStretch, xc2_NoStretch⟩, o7_NoStretch, o8_NoStretch, o9_NoStretch, xa_NoStretch, xn, xt, o5_NoStretch⟩,
    ⟨⟨_, xc1_OutOfWindow, xc2_OutOfWindow⟩, o7_OutOfWindow, o8_OutOfWindow, o9_OutOfWindow, xa_OutOfWindow, xn, xt, o5_OutOfWindow⟩,
    ⟨⟨_, xc1_NoMove, xc2_NoMove⟩, o7_NoMove, o8_NoMove, o9_NoMove, xa_NoMove, xn, xt, o5_NoMove⟩,
    ⟨⟨_, xc1_NoChannel, xc2_NoChannel⟩, o7_NoChannel, o8_NoChannel, o9_NoChannel, xa_NoChannel, xn, xt, o5_NoChannel⟩,
    ⟨⟨_, xc1_NoSpan, xc2_NoSpan⟩, o7_NoSpan, o8_NoSpan, o9_NoSpan, xa_NoSpan, xn, xt, o5_NoSpan⟩,
    ⟨⟨_, xc1_Ringed, xc2_Ringed⟩, o7_Ringed, o8_Ringed, o9_Ringed, xa_Ringed, xn, xt, o5_Ringed⟩,
    xtA,
    xiA,
    xnd,
    ⟨x_NoMoment___init__, f_NoMoment___init__⟩,
    ⟨x_NoMark___init__, f_NoMark___init__⟩,
    ⟨x_NoWindow___init__, f_NoWindow___init__⟩,
    ⟨x_NoPace___init__, f_NoPace___init__⟩,
    ⟨x_Lost___init__, f_Lost___init__⟩,
    ⟨x_LooksAhead___init__, f_LooksAhead___init__⟩,
    ⟨x_NoText___init__, f_NoText___init__⟩,
    ⟨x_NoRounds___init__, f_NoRounds___init__⟩,
    ⟨x_NoName___init__, f_NoName___init__⟩,
    ⟨x_BadPace___init__, f_BadPace___init__⟩,
    ⟨x_NoStep___init__, f_NoStep___init__⟩,
    ⟨x_Unfilled___init__, f_Unfilled___init__⟩,
    ⟨x_NoChart___init__, f_NoChart___init__⟩,
    ⟨x_TooSoon___init__, f_TooSoon___init__⟩,
    ⟨x_NoStretch___init__, f_NoStretch___init__⟩,
    ⟨x_OutOfWindow___init__, f_OutOfWindow___init__⟩,
    ⟨x_NoMove___init__, f_NoMove___init__⟩,
    ⟨x_NoChannel___init__, f_NoChannel___init__⟩,
    ⟨x_NoSpan___init__, f_NoSpan___init__⟩,
    ⟨x_Ringed___init__, f_Ringed___init__⟩,
    (PySem.W.mg_none_of X G n_len),
    (PySem.W.mg_none_of X G n_isinstance),
    (PySem.W.mg_none_of X G n_range),
    (PySem.W.mg_none_of X G n_int),
    (PySem.W.mg_none_of X G n_ValueError)⟩, rfl⟩
theorem walk {l : PySem.W.OpenLaw} {pr : Program} {loose : List Str} {XP : (Str → Option Value) → Heap → Prop} {YP : World → Heap → Prop} {d : DefRec} {K : Params → PySem.W.Frag} (hn : l.most = some 63) (hdf : d.params.defaults = [])
    (hY : ∀ (w : World) (h : Heap), YP w h → (K w.params).In h)
    (F : ∀ (w : World) (mg : Str → Option Value) (fa : Addr) (h : Heap), (K w.params).In h → h.Ns mainGlobals mg → mg d.name = some (.ref fa) → ∃ T : Tx (K w.params) mg, T.a_law = fa) :
    PySem.W.WalkO pr loose XP YP l.row.toRowW d [] (fun f vs => PySem.call f vs) :=
  L2.walk_of (n := 63) (k := 4) (x := "_law_script") (CX := fun _ => CX0) (sp := fun w => spLaw (K w.params)) hn (by decide) hdf ⟨rfl, by decide, by decide⟩ hY
    (fun w mg fa h KX G hmg => by
      obtain ⟨T, rfl⟩ := F w mg fa h KX G hmg
      exact ⟨T.d_law, fun s v => by
        obtain ⟨oc, od, kV, doc, pm, an, cdv, ct, osl, e, _⟩ := T.F_law.ex
        rw [e]
        exact .of_eq rfl, fun base _ _ => ok_law T⟩)
    (fun _ _ a ns hl _ hS => ⟨a, ns, rfl, hS, hl, fun _ => rfl⟩) fun _ _ _ _ _ z => z
end AT
open PySem PySem.W PyProof.Rows
set_option maxRecDepth 100000 in
set_option maxHeartbeats 0 in
theorem PySem.Challenge.cw_anytune_k01_errors_holds : PySem.Challenge.rw_anytune_k01_errors.Holds := by
  w_on; o_law; k_head; (case hw => w_witness2)
  k_fill
  refine AT.walk (l := PySem.Challenge.rw_anytune_k01_errors) rfl rfl (fun w h Y => PySem.W.kIn_of Y) ?F
  case F =>
    intro w mg fa h KX G hmg
    refine' AT.all_mk KX G hmg ?g_AnytuneError ?g_NoMoment ?g_NoMark ?g_NoWindow ?g_NoPace ?g_Lost ?g_LooksAhead ?g_NoText ?g_NoRounds ?g_NoName ?g_BadPace ?g_NoStep ?g_Unfilled ?g_NoChart ?g_TooSoon ?g_NoStretch ?g_OutOfWindow ?g_NoMove ?g_NoChannel ?g_NoSpan ?g_Ringed ?g_NoTurns ?g_NotPlain ?x_NoMoment___init__ ?l_NoMoment___init__ ?c_NoMoment___init__ ?p_NoMoment___init__ ?f_NoMoment___init__ ?x_NoMark___init__ ?l_NoMark___init__ ?c_NoMark___init__ ?p_NoMark___init__ ?f_NoMark___init__ ?x_NoWindow___init__ ?l_NoWindow___init__ ?c_NoWindow___init__ ?p_NoWindow___init__ ?f_NoWindow___init__ ?x_NoPace___init__ ?l_NoPace___init__ ?c_NoPace___init__ ?p_NoPace___init__ ?f_NoPace___init__ ?x_Lost___init__ ?l_Lost___init__ ?c_Lost___init__ ?p_Lost___init__ ?f_Lost___init__ ?x_LooksAhead___init__ ?l_LooksAhead___init__ ?c_LooksAhead___init__ ?p_LooksAhead___init__ ?f_LooksAhead___init__ ?x_NoText___init__ ?l_NoText___init__ ?c_NoText___init__ ?p_NoText___init__ ?f_NoText___init__ ?x_NoRounds___init__ ?l_NoRounds___init__ ?c_NoRounds___init__ ?p_NoRounds___init__ ?f_NoRounds___init__ ?x_NoName___init__ ?l_NoName___init__ ?c_NoName___init__ ?p_NoName___init__ ?f_NoName___init__ ?x_BadPace___init__ ?l_BadPace___init__ ?c_BadPace___init__ ?p_BadPace___init__ ?f_BadPace___init__ ?x_NoStep___init__ ?l_NoStep___init__ ?c_NoStep___init__ ?p_NoStep___init__ ?f_NoStep___init__ ?x_Unfilled___init__ ?l_Unfilled___init__ ?c_Unfilled___init__ ?p_Unfilled___init__ ?f_Unfilled___init__ ?x_NoChart___init__ ?l_NoChart___init__ ?c_NoChart___init__ ?p_NoChart___init__ ?f_NoChart___init__ ?x_TooSoon___init__ ?l_TooSoon___init__ ?c_TooSoon___init__ ?p_TooSoon___init__ ?f_TooSoon___init__ ?x_NoStretch___init__ ?l_NoStretch___init__ ?c_NoStretch___init__ ?p_NoStretch___init__ ?f_NoStretch___init__ ?x_OutOfWindow___init__ ?l_OutOfWindow___init__ ?c_OutOfWindow___init__ ?p_OutOfWindow___init__ ?f_OutOfWindow___init__ ?x_NoMove___init__ ?l_NoMove___init__ ?c_NoMove___init__ ?p_NoMove___init__ ?f_NoMove___init__ ?x_NoChannel___init__ ?l_NoChannel___init__ ?c_NoChannel___init__ ?p_NoChannel___init__ ?f_NoChannel___init__ ?x_NoSpan___init__ ?l_NoSpan___init__ ?c_NoSpan___init__ ?p_NoSpan___init__ ?f_NoSpan___init__ ?x_Ringed___init__ ?l_Ringed___init__ ?c_Ringed___init__ ?p_Ringed___init__ ?f_Ringed___init__ ?g__law_cell ?l__law_cell ?c__law_cell ?p__law_cell ?g__law_pairs ?l__law_pairs ?c__law_pairs ?p__law_pairs ?g__law_singles ?l__law_singles ?c__law_singles ?p__law_singles ?g__law_kinds ?l__law_kinds ?c__law_kinds ?p__law_kinds ?g_law ?l_law ?c_law ?p_law ?r1_AnytuneError ?r2_AnytuneError ?r3_AnytuneError ?o1_NoMoment ?o2_NoMoment ?o3_NoMoment ?o4_NoMoment ?o5_NoMoment ?o6_NoMoment ?o7_NoMoment ?o8_NoMoment ?o9_NoMoment ?oA_NoMoment ?oB_NoMoment ?na_NoMoment_top ?na_NoMoment_bottom ?o1_NoMark ?o2_NoMark ?o3_NoMark ?o4_NoMark ?o5_NoMark ?o6_NoMark ?o7_NoMark ?o8_NoMark ?o9_NoMark ?oA_NoMark ?oB_NoMark ?na_NoMark_tone ?na_NoMark_begin ?na_NoMark_end ?o1_NoWindow ?o2_NoWindow ?o3_NoWindow ?o4_NoWindow ?o5_NoWindow ?o6_NoWindow ?o7_NoWindow ?o8_NoWindow ?o9_NoWindow ?oA_NoWindow ?oB_NoWindow ?na_NoWindow_begin ?na_NoWindow_end ?na_NoWindow_rounds ?o1_NoPace ?o2_NoPace ?o3_NoPace ?o4_NoPace ?o5_NoPace ?o6_NoPace ?o7_NoPace ?o8_NoPace ?o9_NoPace ?oA_NoPace ?oB_NoPace ?na_NoPace_hole ?na_NoPace_speed ?o1_Lost ?o2_Lost ?o3_Lost ?o4_Lost ?o5_Lost ?o6_Lost ?o7_Lost ?o8_Lost ?o9_Lost ?oA_Lost ?oB_Lost ?na_Lost_start ?na_Lost_stop ?o1_LooksAhead ?o2_LooksAhead ?o3_LooksAhead ?o4_LooksAhead ?o5_LooksAhead ?o6_LooksAhead ?o7_LooksAhead ?o8_LooksAhead ?o9_LooksAhead ?oA_LooksAhead ?oB_LooksAhead ?na_LooksAhead_name ?na_LooksAhead_hole ?o1_NoText ?o2_NoText ?o3_NoText ?o4_NoText ?o5_NoText ?o6_NoText ?o7_NoText ?o8_NoText ?o9_NoText ?oA_NoText ?oB_NoText ?na_NoText_text ?o1_NoRounds ?o2_NoRounds ?o3_NoRounds ?o4_NoRounds ?o5_NoRounds ?o6_NoRounds ?o7_NoRounds ?o8_NoRounds ?o9_NoRounds ?oA_NoRounds ?oB_NoRounds ?na_NoRounds_rounds ?o1_NoName ?o2_NoName ?o3_NoName ?o4_NoName ?o5_NoName ?o6_NoName ?o7_NoName ?o8_NoName ?o9_NoName ?oA_NoName ?oB_NoName ?na_NoName_name ?o1_BadPace ?o2_BadPace ?o3_BadPace ?o4_BadPace ?o5_BadPace ?o6_BadPace ?o7_BadPace ?o8_BadPace ?o9_BadPace ?oA_BadPace ?oB_BadPace ?na_BadPace_pace ?o1_NoStep ?o2_NoStep ?o3_NoStep ?o4_NoStep ?o5_NoStep ?o6_NoStep ?o7_NoStep ?o8_NoStep ?o9_NoStep ?oA_NoStep ?oB_NoStep ?na_NoStep_step ?o1_Unfilled ?o2_Unfilled ?o3_Unfilled ?o4_Unfilled ?o5_Unfilled ?o6_Unfilled ?o7_Unfilled ?o8_Unfilled ?o9_Unfilled ?oA_Unfilled ?oB_Unfilled ?na_Unfilled_name ?o1_NoChart ?o2_NoChart ?o3_NoChart ?o4_NoChart ?o5_NoChart ?o6_NoChart ?o7_NoChart ?o8_NoChart ?o9_NoChart ?oA_NoChart ?oB_NoChart ?na_NoChart_line ?o1_TooSoon ?o2_TooSoon ?o3_TooSoon ?o4_TooSoon ?o5_TooSoon ?o6_TooSoon ?o7_TooSoon ?o8_TooSoon ?o9_TooSoon ?oA_TooSoon ?oB_TooSoon ?na_TooSoon_least ?o1_NoStretch ?o2_NoStretch ?o3_NoStretch ?o4_NoStretch ?o5_NoStretch ?o6_NoStretch ?o7_NoStretch ?o8_NoStretch ?o9_NoStretch ?oA_NoStretch ?oB_NoStretch ?na_NoStretch_until ?o1_OutOfWindow ?o2_OutOfWindow ?o3_OutOfWindow ?o4_OutOfWindow ?o5_OutOfWindow ?o6_OutOfWindow ?o7_OutOfWindow ?o8_OutOfWindow ?o9_OutOfWindow ?oA_OutOfWindow ?oB_OutOfWindow ?na_OutOfWindow_name ?o1_NoMove ?o2_NoMove ?o3_NoMove ?o4_NoMove ?o5_NoMove ?o6_NoMove ?o7_NoMove ?o8_NoMove ?o9_NoMove ?oA_NoMove ?oB_NoMove ?na_NoMove_begin ?o1_NoChannel ?o2_NoChannel ?o3_NoChannel ?o4_NoChannel ?o5_NoChannel ?o6_NoChannel ?o7_NoChannel ?o8_NoChannel ?o9_NoChannel ?oA_NoChannel ?oB_NoChannel ?na_NoChannel_name ?o1_NoSpan ?o2_NoSpan ?o3_NoSpan ?o4_NoSpan ?o5_NoSpan ?o6_NoSpan ?o7_NoSpan ?o8_NoSpan ?o9_NoSpan ?oA_NoSpan ?oB_NoSpan ?na_NoSpan_span ?o1_Ringed ?o2_Ringed ?o3_Ringed ?o4_Ringed ?o5_Ringed ?o6_Ringed ?o7_Ringed ?o8_Ringed ?o9_Ringed ?oA_Ringed ?oB_Ringed ?na_Ringed_ring ?q_NoTurns ?kp_NoTurns ?o5_NoTurns ?o7_NoTurns ?o8_NoTurns ?o9_NoTurns ?q_NotPlain ?kp_NotPlain ?o5_NotPlain ?o7_NotPlain ?o8_NotPlain ?o9_NotPlain ?xn ?xt ?xc1_NoMoment ?xc2_NoMoment ?xa_NoMoment ?xc1_NoMark ?xc2_NoMark ?xa_NoMark ?xc1_NoWindow ?xc2_NoWindow ?xa_NoWindow ?xc1_NoPace ?xc2_NoPace ?xa_NoPace ?xc1_Lost ?xc2_Lost ?xa_Lost ?xc1_LooksAhead ?xc2_LooksAhead ?xa_LooksAhead ?xc1_NoTurns ?xc2_NoTurns ?xa_NoTurns ?xc1_NotPlain ?xc2_NotPlain ?xa_NotPlain ?xc1_NoText ?xc2_NoText ?xa_NoText ?xc1_NoRounds ?xc2_NoRounds ?xa_NoRounds ?xc1_NoName ?xc2_NoName ?xa_NoName ?xc1_BadPace ?xc2_BadPace ?xa_BadPace ?xc1_NoStep ?xc2_NoStep ?xa_NoStep ?xc1_Unfilled ?xc2_Unfilled ?xa_Unfilled ?xc1_NoChart ?xc2_NoChart ?xa_NoChart ?xc1_TooSoon ?xc2_TooSoon ?xa_TooSoon ?xc1_NoStretch ?xc2_NoStretch ?xa_NoStretch ?xc1_OutOfWindow ?xc2_OutOfWindow ?xa_OutOfWindow ?xc1_NoMove ?xc2_NoMove ?xa_NoMove ?xc1_NoChannel ?xc2_NoChannel ?xa_NoChannel ?xc1_NoSpan ?xc2_NoSpan ?xa_NoSpan ?xc1_Ringed ?xc2_Ringed ?xa_Ringed ?xtA ?xiA ?xnd ?n_len ?n_isinstance ?n_range ?n_int ?n_ValueError
    (case g_AnytuneError => k_is)
    (case g_NoMoment => k_is)
    (case g_NoMark => k_is)
    (case g_NoWindow => k_is)
    (case g_NoPace => k_is)
    (case g_Lost => k_is)
    (case g_LooksAhead => k_is)
    (case g_NoText => k_is)
    (case g_NoRounds => k_is)
    (case g_NoName => k_is)
    (case g_BadPace => k_is)
    (case g_NoStep => k_is)
    (case g_Unfilled => k_is)
    (case g_NoChart => k_is)
    (case g_TooSoon => k_is)
    (case g_NoStretch => k_is)
    (case g_OutOfWindow => k_is)
    (case g_NoMove => k_is)
    (case g_NoChannel => k_is)
    (case g_NoSpan => k_is)
    (case g_Ringed => k_is)
    (case g_NoTurns => k_is)
    (case g_NotPlain => k_is)
    (case x_NoMoment___init__ => k_is)
    (case l_NoMoment___init__ => k_is)
    (case c_NoMoment___init__ => k_is)
    (case p_NoMoment___init__ => k_is)
    (case f_NoMoment___init__ => k_is)
    (case x_NoMark___init__ => k_is)
    (case l_NoMark___init__ => k_is)
    (case c_NoMark___init__ => k_is)
    (case p_NoMark___init__ => k_is)
    (case f_NoMark___init__ => k_is)
    (case x_NoWindow___init__ => k_is)
    (case l_NoWindow___init__ => k_is)
    (case c_NoWindow___init__ => k_is)
    (case p_NoWindow___init__ => k_is)
    (case f_NoWindow___init__ => k_is)
    (case x_NoPace___init__ => k_is)
    (case l_NoPace___init__ => k_is)
    (case c_NoPace___init__ => k_is)
    (case p_NoPace___init__ => k_is)
    (case f_NoPace___init__ => k_is)
    (case x_Lost___init__ => k_is)
    (case l_Lost___init__ => k_is)
    (case c_Lost___init__ => k_is)
    (case p_Lost___init__ => k_is)
    (case f_Lost___init__ => k_is)
    (case x_LooksAhead___init__ => k_is)
    (case l_LooksAhead___init__ => k_is)
    (case c_LooksAhead___init__ => k_is)
    (case p_LooksAhead___init__ => k_is)
    (case f_LooksAhead___init__ => k_is)
    (case x_NoText___init__ => k_is)
    (case l_NoText___init__ => k_is)
    (case c_NoText___init__ => k_is)
    (case p_NoText___init__ => k_is)
    (case f_NoText___init__ => k_is)
    (case x_NoRounds___init__ => k_is)
    (case l_NoRounds___init__ => k_is)
    (case c_NoRounds___init__ => k_is)
    (case p_NoRounds___init__ => k_is)
    (case f_NoRounds___init__ => k_is)
    (case x_NoName___init__ => k_is)
    (case l_NoName___init__ => k_is)
    (case c_NoName___init__ => k_is)
    (case p_NoName___init__ => k_is)
    (case f_NoName___init__ => k_is)
    (case x_BadPace___init__ => k_is)
    (case l_BadPace___init__ => k_is)
    (case c_BadPace___init__ => k_is)
    (case p_BadPace___init__ => k_is)
    (case f_BadPace___init__ => k_is)
    (case x_NoStep___init__ => k_is)
    (case l_NoStep___init__ => k_is)
    (case c_NoStep___init__ => k_is)
    (case p_NoStep___init__ => k_is)
    (case f_NoStep___init__ => k_is)
    (case x_Unfilled___init__ => k_is)
    (case l_Unfilled___init__ => k_is)
    (case c_Unfilled___init__ => k_is)
    (case p_Unfilled___init__ => k_is)
    (case f_Unfilled___init__ => k_is)
    (case x_NoChart___init__ => k_is)
    (case l_NoChart___init__ => k_is)
    (case c_NoChart___init__ => k_is)
    (case p_NoChart___init__ => k_is)
    (case f_NoChart___init__ => k_is)
    (case x_TooSoon___init__ => k_is)
    (case l_TooSoon___init__ => k_is)
    (case c_TooSoon___init__ => k_is)
    (case p_TooSoon___init__ => k_is)
    (case f_TooSoon___init__ => k_is)
    (case x_NoStretch___init__ => k_is)
    (case l_NoStretch___init__ => k_is)
    (case c_NoStretch___init__ => k_is)
    (case p_NoStretch___init__ => k_is)
    (case f_NoStretch___init__ => k_is)
    (case x_OutOfWindow___init__ => k_is)
    (case l_OutOfWindow___init__ => k_is)
    (case c_OutOfWindow___init__ => k_is)
    (case p_OutOfWindow___init__ => k_is)
    (case f_OutOfWindow___init__ => k_is)
    (case x_NoMove___init__ => k_is)
    (case l_NoMove___init__ => k_is)
    (case c_NoMove___init__ => k_is)
    (case p_NoMove___init__ => k_is)
    (case f_NoMove___init__ => k_is)
    (case x_NoChannel___init__ => k_is)
    (case l_NoChannel___init__ => k_is)
    (case c_NoChannel___init__ => k_is)
    (case p_NoChannel___init__ => k_is)
    (case f_NoChannel___init__ => k_is)
    (case x_NoSpan___init__ => k_is)
    (case l_NoSpan___init__ => k_is)
    (case c_NoSpan___init__ => k_is)
    (case p_NoSpan___init__ => k_is)
    (case f_NoSpan___init__ => k_is)
    (case x_Ringed___init__ => k_is)
    (case l_Ringed___init__ => k_is)
    (case c_Ringed___init__ => k_is)
    (case p_Ringed___init__ => k_is)
    (case f_Ringed___init__ => k_is)
    (case g__law_cell => k_is)
    (case l__law_cell => k_is)
    (case c__law_cell => k_is)
    (case p__law_cell => k_is)
    (case g__law_pairs => k_is)
    (case l__law_pairs => k_is)
    (case c__law_pairs => k_is)
    (case p__law_pairs => k_is)
    (case g__law_singles => k_is)
    (case l__law_singles => k_is)
    (case c__law_singles => k_is)
    (case p__law_singles => k_is)
    (case g__law_kinds => k_is)
    (case l__law_kinds => k_is)
    (case c__law_kinds => k_is)
    (case p__law_kinds => k_is)
    (case g_law => k_is)
    (case l_law => k_is)
    (case c_law => k_is)
    (case p_law => k_is)
    (case r1_AnytuneError => k_is)
    (case r2_AnytuneError => k_is)
    (case r3_AnytuneError => k_is)
    (case o1_NoMoment => k_is)
    (case o2_NoMoment => decide +kernel)
    (case o3_NoMoment => k_is)
    (case o4_NoMoment => k_is)
    (case o5_NoMoment => k_is)
    (case o6_NoMoment => k_is)
    (case o7_NoMoment => k_is)
    (case o8_NoMoment => k_is)
    (case o9_NoMoment => k_is)
    (case oA_NoMoment => k_is)
    (case oB_NoMoment => k_is)
    (case na_NoMoment_top => k_is)
    (case na_NoMoment_bottom => k_is)
    (case o1_NoMark => k_is)
    (case o2_NoMark => decide +kernel)
    (case o3_NoMark => k_is)
    (case o4_NoMark => k_is)
    (case o5_NoMark => k_is)
    (case o6_NoMark => k_is)
    (case o7_NoMark => k_is)
    (case o8_NoMark => k_is)
    (case o9_NoMark => k_is)
    (case oA_NoMark => k_is)
    (case oB_NoMark => k_is)
    (case na_NoMark_tone => k_is)
    (case na_NoMark_begin => k_is)
    (case na_NoMark_end => k_is)
    (case o1_NoWindow => k_is)
    (case o2_NoWindow => decide +kernel)
    (case o3_NoWindow => k_is)
    (case o4_NoWindow => k_is)
    (case o5_NoWindow => k_is)
    (case o6_NoWindow => k_is)
    (case o7_NoWindow => k_is)
    (case o8_NoWindow => k_is)
    (case o9_NoWindow => k_is)
    (case oA_NoWindow => k_is)
    (case oB_NoWindow => k_is)
    (case na_NoWindow_begin => k_is)
    (case na_NoWindow_end => k_is)
    (case na_NoWindow_rounds => k_is)
    (case o1_NoPace => k_is)
    (case o2_NoPace => decide +kernel)
    (case o3_NoPace => k_is)
    (case o4_NoPace => k_is)
    (case o5_NoPace => k_is)
    (case o6_NoPace => k_is)
    (case o7_NoPace => k_is)
    (case o8_NoPace => k_is)
    (case o9_NoPace => k_is)
    (case oA_NoPace => k_is)
    (case oB_NoPace => k_is)
    (case na_NoPace_hole => k_is)
    (case na_NoPace_speed => k_is)
    (case o1_Lost => k_is)
    (case o2_Lost => decide +kernel)
    (case o3_Lost => k_is)
    (case o4_Lost => k_is)
    (case o5_Lost => k_is)
    (case o6_Lost => k_is)
    (case o7_Lost => k_is)
    (case o8_Lost => k_is)
    (case o9_Lost => k_is)
    (case oA_Lost => k_is)
    (case oB_Lost => k_is)
    (case na_Lost_start => k_is)
    (case na_Lost_stop => k_is)
    (case o1_LooksAhead => k_is)
    (case o2_LooksAhead => decide +kernel)
    (case o3_LooksAhead => k_is)
    (case o4_LooksAhead => k_is)
    (case o5_LooksAhead => k_is)
    (case o6_LooksAhead => k_is)
    (case o7_LooksAhead => k_is)
    (case o8_LooksAhead => k_is)
    (case o9_LooksAhead => k_is)
    (case oA_LooksAhead => k_is)
    (case oB_LooksAhead => k_is)
    (case na_LooksAhead_name => k_is)
    (case na_LooksAhead_hole => k_is)
    (case o1_NoText => k_is)
    (case o2_NoText => decide +kernel)
    (case o3_NoText => k_is)
    (case o4_NoText => k_is)
    (case o5_NoText => k_is)
    (case o6_NoText => k_is)
    (case o7_NoText => k_is)
    (case o8_NoText => k_is)
    (case o9_NoText => k_is)
    (case oA_NoText => k_is)
    (case oB_NoText => k_is)
    (case na_NoText_text => k_is)
    (case o1_NoRounds => k_is)
    (case o2_NoRounds => decide +kernel)
    (case o3_NoRounds => k_is)
    (case o4_NoRounds => k_is)
    (case o5_NoRounds => k_is)
    (case o6_NoRounds => k_is)
    (case o7_NoRounds => k_is)
    (case o8_NoRounds => k_is)
    (case o9_NoRounds => k_is)
    (case oA_NoRounds => k_is)
    (case oB_NoRounds => k_is)
    (case na_NoRounds_rounds => k_is)
    (case o1_NoName => k_is)
    (case o2_NoName => decide +kernel)
    (case o3_NoName => k_is)
    (case o4_NoName => k_is)
    (case o5_NoName => k_is)
    (case o6_NoName => k_is)
    (case o7_NoName => k_is)
    (case o8_NoName => k_is)
    (case o9_NoName => k_is)
    (case oA_NoName => k_is)
    (case oB_NoName => k_is)
    (case na_NoName_name => k_is)
    (case o1_BadPace => k_is)
    (case o2_BadPace => decide +kernel)
    (case o3_BadPace => k_is)
    (case o4_BadPace => k_is)
    (case o5_BadPace => k_is)
    (case o6_BadPace => k_is)
    (case o7_BadPace => k_is)
    (case o8_BadPace => k_is)
    (case o9_BadPace => k_is)
    (case oA_BadPace => k_is)
    (case oB_BadPace => k_is)
    (case na_BadPace_pace => k_is)
    (case o1_NoStep => k_is)
    (case o2_NoStep => decide +kernel)
    (case o3_NoStep => k_is)
    (case o4_NoStep => k_is)
    (case o5_NoStep => k_is)
    (case o6_NoStep => k_is)
    (case o7_NoStep => k_is)
    (case o8_NoStep => k_is)
    (case o9_NoStep => k_is)
    (case oA_NoStep => k_is)
    (case oB_NoStep => k_is)
    (case na_NoStep_step => k_is)
    (case o1_Unfilled => k_is)
    (case o2_Unfilled => decide +kernel)
    (case o3_Unfilled => k_is)
    (case o4_Unfilled => k_is)
    (case o5_Unfilled => k_is)
    (case o6_Unfilled => k_is)
    (case o7_Unfilled => k_is)
    (case o8_Unfilled => k_is)
    (case o9_Unfilled => k_is)
    (case oA_Unfilled => k_is)
    (case oB_Unfilled => k_is)
    (case na_Unfilled_name => k_is)
    (case o1_NoChart => k_is)
    (case o2_NoChart => decide +kernel)
    (case o3_NoChart => k_is)
    (case o4_NoChart => k_is)
    (case o5_NoChart => k_is)
    (case o6_NoChart => k_is)
    (case o7_NoChart => k_is)
    (case o8_NoChart => k_is)
    (case o9_NoChart => k_is)
    (case oA_NoChart => k_is)
    (case oB_NoChart => k_is)
    (case na_NoChart_line => k_is)
    (case o1_TooSoon => k_is)
    (case o2_TooSoon => decide +kernel)
    (case o3_TooSoon => k_is)
    (case o4_TooSoon => k_is)
    (case o5_TooSoon => k_is)
    (case o6_TooSoon => k_is)
    (case o7_TooSoon => k_is)
    (case o8_TooSoon => k_is)
    (case o9_TooSoon => k_is)
    (case oA_TooSoon => k_is)
    (case oB_TooSoon => k_is)
    (case na_TooSoon_least => k_is)
    (case o1_NoStretch => k_is)
    (case o2_NoStretch => decide +kernel)
    (case o3_NoStretch => k_is)
    (case o4_NoStretch => k_is)
    (case o5_NoStretch => k_is)
    (case o6_NoStretch => k_is)
    (case o7_NoStretch => k_is)
    (case o8_NoStretch => k_is)
    (case o9_NoStretch => k_is)
    (case oA_NoStretch => k_is)
    (case oB_NoStretch => k_is)
    (case na_NoStretch_until => k_is)
    (case o1_OutOfWindow => k_is)
    (case o2_OutOfWindow => decide +kernel)
    (case o3_OutOfWindow => k_is)
    (case o4_OutOfWindow => k_is)
    (case o5_OutOfWindow => k_is)
    (case o6_OutOfWindow => k_is)
    (case o7_OutOfWindow => k_is)
    (case o8_OutOfWindow => k_is)
    (case o9_OutOfWindow => k_is)
    (case oA_OutOfWindow => k_is)
    (case oB_OutOfWindow => k_is)
    (case na_OutOfWindow_name => k_is)
    (case o1_NoMove => k_is)
    (case o2_NoMove => decide +kernel)
    (case o3_NoMove => k_is)
    (case o4_NoMove => k_is)
    (case o5_NoMove => k_is)
    (case o6_NoMove => k_is)
    (case o7_NoMove => k_is)
    (case o8_NoMove => k_is)
    (case o9_NoMove => k_is)
    (case oA_NoMove => k_is)
    (case oB_NoMove => k_is)
    (case na_NoMove_begin => k_is)
    (case o1_NoChannel => k_is)
    (case o2_NoChannel => decide +kernel)
    (case o3_NoChannel => k_is)
    (case o4_NoChannel => k_is)
    (case o5_NoChannel => k_is)
    (case o6_NoChannel => k_is)
    (case o7_NoChannel => k_is)
    (case o8_NoChannel => k_is)
    (case o9_NoChannel => k_is)
    (case oA_NoChannel => k_is)
    (case oB_NoChannel => k_is)
    (case na_NoChannel_name => k_is)
    (case o1_NoSpan => k_is)
    (case o2_NoSpan => decide +kernel)
    (case o3_NoSpan => k_is)
    (case o4_NoSpan => k_is)
    (case o5_NoSpan => k_is)
    (case o6_NoSpan => k_is)
    (case o7_NoSpan => k_is)
    (case o8_NoSpan => k_is)
    (case o9_NoSpan => k_is)
    (case oA_NoSpan => k_is)
    (case oB_NoSpan => k_is)
    (case na_NoSpan_span => k_is)
    (case o1_Ringed => k_is)
    (case o2_Ringed => decide +kernel)
    (case o3_Ringed => k_is)
    (case o4_Ringed => k_is)
    (case o5_Ringed => k_is)
    (case o6_Ringed => k_is)
    (case o7_Ringed => k_is)
    (case o8_Ringed => k_is)
    (case o9_Ringed => k_is)
    (case oA_Ringed => k_is)
    (case oB_Ringed => k_is)
    (case na_Ringed_ring => k_is)
    (case q_NoTurns => k_exc)
    (case kp_NoTurns => k_is)
    (case o5_NoTurns => k_is)
    (case o7_NoTurns => k_is)
    (case o8_NoTurns => k_is)
    (case o9_NoTurns => k_is)
    (case q_NotPlain => k_exc)
    (case kp_NotPlain => k_is)
    (case o5_NotPlain => k_is)
    (case o7_NotPlain => k_is)
    (case o8_NotPlain => k_is)
    (case o9_NotPlain => k_is)
    (case xn => k_is)
    (case xt => k_is)
    (case xc1_NoMoment => k_is)
    (case xc2_NoMoment => exact rfl)
    (case xa_NoMoment => k_is)
    (case xc1_NoMark => k_is)
    (case xc2_NoMark => exact rfl)
    (case xa_NoMark => k_is)
    (case xc1_NoWindow => k_is)
    (case xc2_NoWindow => exact rfl)
    (case xa_NoWindow => k_is)
    (case xc1_NoPace => k_is)
    (case xc2_NoPace => exact rfl)
    (case xa_NoPace => k_is)
    (case xc1_Lost => k_is)
    (case xc2_Lost => exact rfl)
    (case xa_Lost => k_is)
    (case xc1_LooksAhead => k_is)
    (case xc2_LooksAhead => exact rfl)
    (case xa_LooksAhead => k_is)
    (case xc1_NoTurns => k_is)
    (case xc2_NoTurns => exact rfl)
    (case xa_NoTurns => k_is)
    (case xc1_NotPlain => k_is)
    (case xc2_NotPlain => exact rfl)
    (case xa_NotPlain => k_is)
    (case xc1_NoText => k_is)
    (case xc2_NoText => exact rfl)
    (case xa_NoText => k_is)
    (case xc1_NoRounds => k_is)
    (case xc2_NoRounds => exact rfl)
    (case xa_NoRounds => k_is)
    (case xc1_NoName => k_is)
    (case xc2_NoName => exact rfl)
    (case xa_NoName => k_is)
    (case xc1_BadPace => k_is)
    (case xc2_BadPace => exact rfl)
    (case xa_BadPace => k_is)
    (case xc1_NoStep => k_is)
    (case xc2_NoStep => exact rfl)
    (case xa_NoStep => k_is)
    (case xc1_Unfilled => k_is)
    (case xc2_Unfilled => exact rfl)
    (case xa_Unfilled => k_is)
    (case xc1_NoChart => k_is)
    (case xc2_NoChart => exact rfl)
    (case xa_NoChart => k_is)
    (case xc1_TooSoon => k_is)
    (case xc2_TooSoon => exact rfl)
    (case xa_TooSoon => k_is)
    (case xc1_NoStretch => k_is)
    (case xc2_NoStretch => exact rfl)
    (case xa_NoStretch => k_is)
    (case xc1_OutOfWindow => k_is)
    (case xc2_OutOfWindow => exact rfl)
    (case xa_OutOfWindow => k_is)
    (case xc1_NoMove => k_is)
    (case xc2_NoMove => exact rfl)
    (case xa_NoMove => k_is)
    (case xc1_NoChannel => k_is)
    (case xc2_NoChannel => exact rfl)
    (case xa_NoChannel => k_is)
    (case xc1_NoSpan => k_is)
    (case xc2_NoSpan => exact rfl)
    (case xa_NoSpan => k_is)
    (case xc1_Ringed => k_is)
    (case xc2_Ringed => exact rfl)
    (case xa_Ringed => k_is)
    (case xtA => k_is)
    (case xiA => k_is)
    (case xnd => decide +kernel)
    (case n_len => k_is)
    (case n_isinstance => k_is)
    (case n_range => k_is)
    (case n_int => k_is)
    (case n_ValueError => k_is)
#print axioms PySem.Challenge.cw_anytune_k01_errors_holds
