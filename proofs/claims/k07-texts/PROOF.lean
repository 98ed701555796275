import PyProof.Rows.All
import Wide.All
import OpenK.AllK
import Wide.FinOn
import HandS.ForSpec
import HandS.IsInst
import HandS.Wide
import HandS.ExcInit
import HandS.ClsMeth
import PyProof.InstNe
import PyProof.StrReplace2
import HandS.SlotsOwn
import HandS.ExcBuiltin
import HandS.RaiseOp
import PyProof.AutoIntOpsIf
import HandS.Defaults
import HandS.ExcField
import HandS.Steps
import HandS.Evl
import PyProof.Rows.Range3
import PyProof.Conv_bool
import HandS.ExcIs
import KE.KExcIs
import HandS.ExcValue
import HandS.MakeKwOnly
import HandS.OwnEq
import HandS.Codes
import HandS.Text
import HandS.FStr
import HandS.Iter
import KE.KCallOwn
import KE.IntTextLaws
import PySem.Challenge.RW_anytune_k07_texts_of_moments
set_option Elab.async false
set_option maxRecDepth 100000
set_option maxHeartbeats 4000000
set_option linter.all false
section
/-! Operators of an own class, over the hand layer. -/
namespace AT
open PySem PySem.Spec PyProof.Rows L2
open AutoSeq1 (wpAny_loadPart')

/-- an object that is no int within -/
def NoPrim (o : Obj) : Prop := ∀ v, o.data ≠ .prim v
theorem noprim_inst {C dx : Addr} : NoPrim (PySem.W.instObj C dx) := fun v e => by cases e

def HasObj (x : Addr) (s : Shared) : Prop := ∃ C dx, s.heap.get? x = some (PySem.W.instObj C dx)

theorem decl_add (a : Int) (t : Tok) (x : Addr) : GivesAt (HasObj x) (Builtin.«int.__add__» ⟨[.int a t, .ref x], []⟩) (.val .notImplemented) := by
  intro prog w A R s hP hq
  obtain ⟨C, dx, hx⟩ := hP
  obtain ⟨hp, g, d, tk, os⟩ := s
  wp_walk using wpAny_loadPart' hx
  exact hq
theorem decl_sub (a : Int) (t : Tok) (x : Addr) : GivesAt (HasObj x) (Builtin.«int.__sub__» ⟨[.int a t, .ref x], []⟩) (.val .notImplemented) := by
  intro prog w A R s hP hq
  obtain ⟨C, dx, hx⟩ := hP
  obtain ⟨hp, g, d, tk, os⟩ := s
  wp_walk using wpAny_loadPart' hx
  exact hq
theorem decl_mul (a : Int) (t : Tok) (x : Addr) : GivesAt (HasObj x) (Builtin.«int.__mul__» ⟨[.int a t, .ref x], []⟩) (.val .notImplemented) := by
  intro prog w A R s hP hq
  obtain ⟨C, dx, hx⟩ := hP
  obtain ⟨hp, g, d, tk, os⟩ := s
  wp_walk using wpAny_loadPart' hx
  exact hq
theorem decl_floordiv (a : Int) (t : Tok) (x : Addr) : GivesAt (HasObj x) (Builtin.«int.__floordiv__» ⟨[.int a t, .ref x], []⟩) (.val .notImplemented) := by
  intro prog w A R s hP hq
  obtain ⟨C, dx, hx⟩ := hP
  obtain ⟨hp, g, d, tk, os⟩ := s
  wp_walk using wpAny_loadPart' hx
  exact hq
theorem decl_mod (a : Int) (t : Tok) (x : Addr) : GivesAt (HasObj x) (Builtin.«int.__mod__» ⟨[.int a t, .ref x], []⟩) (.val .notImplemented) := by
  intro prog w A R s hP hq
  obtain ⟨C, dx, hx⟩ := hP
  obtain ⟨hp, g, d, tk, os⟩ := s
  wp_walk using wpAny_loadPart' hx
  exact hq
theorem decl_lt (a : Int) (t : Tok) (x : Addr) : GivesAt (HasObj x) (Builtin.«int.__lt__» ⟨[.int a t, .ref x], []⟩) (.val .notImplemented) := by
  intro prog w A R s hP hq
  obtain ⟨C, dx, hx⟩ := hP
  obtain ⟨hp, g, d, tk, os⟩ := s
  wp_walk using wpAny_loadPart' hx
  exact hq
theorem decl_le (a : Int) (t : Tok) (x : Addr) : GivesAt (HasObj x) (Builtin.«int.__le__» ⟨[.int a t, .ref x], []⟩) (.val .notImplemented) := by
  intro prog w A R s hP hq
  obtain ⟨C, dx, hx⟩ := hP
  obtain ⟨hp, g, d, tk, os⟩ := s
  wp_walk using wpAny_loadPart' hx
  exact hq
theorem decl_gt (a : Int) (t : Tok) (x : Addr) : GivesAt (HasObj x) (Builtin.«int.__gt__» ⟨[.int a t, .ref x], []⟩) (.val .notImplemented) := by
  intro prog w A R s hP hq
  obtain ⟨C, dx, hx⟩ := hP
  obtain ⟨hp, g, d, tk, os⟩ := s
  wp_walk using wpAny_loadPart' hx
  exact hq
theorem decl_ge (a : Int) (t : Tok) (x : Addr) : GivesAt (HasObj x) (Builtin.«int.__ge__» ⟨[.int a t, .ref x], []⟩) (.val .notImplemented) := by
  intro prog w A R s hP hq
  obtain ⟨C, dx, hx⟩ := hP
  obtain ⟨hp, g, d, tk, os⟩ := s
  wp_walk using wpAny_loadPart' hx
  exact hq
theorem decl_eq (a : Int) (t : Tok) (x : Addr) : GivesAt (HasObj x) (Builtin.«int.__eq__» ⟨[.int a t, .ref x], []⟩) (.val .notImplemented) := by
  intro prog w A R s hP hq
  obtain ⟨C, dx, hx⟩ := hP
  obtain ⟨hp, g, d, tk, os⟩ := s
  wp_walk using wpAny_loadPart' hx
  exact hq
theorem decl_ne (a : Int) (t : Tok) (x : Addr) : GivesAt (HasObj x) (Builtin.«int.__ne__» ⟨[.int a t, .ref x], []⟩) (.val .notImplemented) := by
  intro prog w A R s hP hq
  obtain ⟨C, dx, hx⟩ := hP
  obtain ⟨hp, g, d, tk, os⟩ := s
  wp_walk using wpAny_loadPart' hx
  exact hq

section
variable {prog : Program} {w : World} {A : Around} {E : Value → Shared → Prop} {s : Shared} {K : PySem.W.Frag} {x C L f : Addr} {h₀ : Heap} {m : Str → Option Value} {ox : Obj} {od : Option Obj}
open PySem.W

/-- x op y, two instances of one class -/
theorem bin_same {op : Operator} {y : Addr} {oy : Obj} {od' : Option Obj} {Q : Value → Shared → Prop} (X : K.In s.heap) (I : InstAt s.heap x ox C od) (J : InstAt s.heap y oy C od') (hc : selfFirst K C = true)
    (hs : findIn K (.ref C) (PySem.dunder op.info.2) = some (some (.ref f))) (hf : isFn K (.ref f) = true)
    (h : wpAny (model prog w) A (call (.ref f) [.ref x, .ref y]) (PySem.W.CmpBack Q) E s) : wpAny (model prog w) A (binaryOp op (.ref x) (.ref y)) Q E s := by
  obtain ⟨cd, rest, hcd, hm⟩ := ksp_first hc
  rcases hi : op.info with ⟨sym, nm'⟩
  rw [hi] at hs
  dsimp only at hs
  have one := ksp_try X I hs hf h
  obtain ⟨hh, g, d, tt, os⟩ := s
  have L1 : Looks (model prog w) hh (typeOf (.ref x)) (.ref C) := I.type
  have L2 : Looks (model prog w) hh (typeOf (.ref y)) (.ref C) := J.type
  have L3 : Looks (model prog w) hh (fillsNumberSlot (.ref C) nm') true := fills_K X hcd hm hs
  simp only [binaryOp, hi]
  refine wpAny_holding (wpAny_bind ?_)
  unfold binaryOp1
  refine wpAny_bind (L1.at (wpAny_bind (L2.at (wpAny_bind (L3.at ?_)))))
  simp only [beq_self_eq_true, if_true]
  ksp_lk
  refine wpAny_mono one (fun r s' hr' => ?_) fun _ _ e => e
  obtain ⟨v, rfl, hq⟩ := hr'
  ksp_lk
  exact hq

/-- int op y, y an instance with the reflected method -/
theorem bin_refl {op : Operator} {i : Int} {t : Tok} {id : String} {B : Builtin} {dx : Addr} {Q : Value → Shared → Prop} (X : K.In s.heap) (I : InstAt s.heap x (instObj C dx) C od) (hc : selfFirst K C = true)
    (hl : findIn K (.ref C) (PySem.dunder op.info.2) = some (some (.ref L))) (hs : findIn K (.ref C) (dunderR op.info.2) = some (some (.ref f))) (hf : isFn K (.ref f) = true)
    (hsub : subIn K (.ref C) (.type "int") = some false) (hfi : fillsNumberSlot (.type "int") op.info.2 = pure true)
    (slot : Slot "int" (PySem.dunder op.info.2) id) (entry : entryFor table id = some B) (args : argsOk id ⟨[.int i t, .ref x], []⟩) (dec : GivesAt (HasObj x) (B ⟨[.int i t, .ref x], []⟩) (.val .notImplemented))
    (h : wpAny (model prog w) A (call (.ref f) [.ref x, .int i t]) (PySem.W.CmpBack Q) E s) : wpAny (model prog w) A (binaryOp op (.int i t) (.ref x)) Q E s := by
  obtain ⟨cd, rest, hcd, hm⟩ := ksp_first hc
  have hx : HasObj x s := ⟨C, dx, I.at_⟩
  rcases hi : op.info with ⟨sym, nm'⟩
  rw [hi] at hs hl hfi slot
  dsimp only at hs hl hfi slot
  have one := ksp_try X I hs hf h
  have two : ∀ {Q' : Option Value → Shared → Prop}, Q' none s → wpAny (model prog w) A (tryMethod (.int i t) (PySem.dunder nm') (.ref x)) Q' E s := fun q =>
    wpAny_tryMethod_declines (typeIs_int s i t) slot (call_givesAt slot (typeIs_int s i t) entry args dec hx ⟨rfl, q⟩)
  obtain ⟨hh, g, d, tt, os⟩ := s
  have L1 : Looks (model prog w) hh (typeOf (.int i t)) (.type "int") := Looks.of_pure rfl
  have L2 : Looks (model prog w) hh (typeOf (.ref x)) (.ref C) := I.type
  have L3 : Looks (model prog w) hh (fillsNumberSlot (.type "int") nm') true := Looks.of_pure hfi
  have L4 : Looks (model prog w) hh (fillsNumberSlot (.ref C) nm') true := fills_K X hcd hm hl
  have L5 : Looks (model prog w) hh (isSubtype (.ref C) (.type "int")) false := looks_subIn X hsub
  have hne : (Value.type "int" == Value.ref C) = false := Bool.eq_false_iff.mpr fun q => by cases beq_iff_eq.mp q
  have hpy : numberSlotInPython (.type "int") nm' = pure false := rfl
  simp only [binaryOp, hi]
  refine wpAny_holding (wpAny_bind ?_)
  unfold binaryOp1
  refine wpAny_bind (L1.at (wpAny_bind (L2.at (wpAny_bind (L3.at ?_)))))
  simp only [hne, Bool.false_eq_true, if_false]
  refine wpAny_bind (L4.at ?_)
  simp only [Bool.and_self, if_true]
  refine wpAny_bind (L5.at ?_)
  simp only [Bool.false_eq_true, if_false, pure_bind, Bool.not_false, Bool.and_self, if_true, hpy]
  refine wpAny_bind (two ?_)
  refine wpAny_bind (wpAny_mono one (fun r s' hr' => ?_) fun _ _ e => e)
  obtain ⟨v, rfl, hq⟩ := hr'
  ksp_lk
  exact hq
end
end AT

end

section
namespace AT
open PySem PySem.Spec PyProof.Rows L2
open AutoSeq1 (wpAny_loadPart')
section
variable {prog : Program} {w : World} {A : Around} {E : Value → Shared → Prop} {s : Shared} {K : PySem.W.Frag} {x C L f : Addr} {h₀ : Heap} {m : Str → Option Value} {ox : Obj} {od : Option Obj} {b : Value}
open PySem.W

/-- int op x by comparison, x an instance with the reflected method -/
theorem cmp_refl {op : CmpOp} {i : Int} {t : Tok} {id : String} {B : Builtin} {dx : Addr} {Q : Value → Shared → Prop} (hu : A.units < cLine) (X : K.In s.heap) (I : InstAt s.heap x (instObj C dx) C od)
    (hs : findIn K (.ref C) (cmpInfo op).2.2 = some (some (.ref f))) (hf : isFn K (.ref f) = true) (hsub : subIn K (.ref C) (.type "int") = some false)
    (slot : Slot "int" (cmpInfo op).2.1 id) (entry : entryFor table id = some B) (args : argsOk id ⟨[.int i t, .ref x], []⟩) (dec : GivesAt (HasObj x) (B ⟨[.int i t, .ref x], []⟩) (.val .notImplemented))
    (h : wpAny (model prog w) A (call (.ref f) [.ref x, .int i t]) (PySem.W.CmpBack Q) E s) : wpAny (model prog w) A (richCompare op (.int i t) (.ref x)) Q E s := by
  have hx : HasObj x s := ⟨C, dx, I.at_⟩
  have one : wpAny (model prog w) A (tryCompare (.ref x) (cmpInfo op).2.2 (.int i t)) (fun r s' => ∃ v, r = some v ∧ Q v s') E s := by
    unfold tryCompare
    refine wpAny_bind (ifBound_K X I hs hf (wpAny_mono h (fun v s' hv => ?_) fun _ _ e => e))
    cases v <;> first | exact hv.elim | exact wpAny_pure ⟨_, rfl, hv⟩
  have two : ∀ {Q' : Option Value → Shared → Prop}, Q' none s → wpAny (model prog w) A (tryCompare (.int i t) (cmpInfo op).2.1 (.ref x)) Q' E s := fun q =>
    wpAny_tryCompare_declines (typeIs_int s i t) slot (call_givesAt slot (typeIs_int s i t) entry args dec hx ⟨rfl, q⟩)
  have hne : (Value.type "int" != Value.ref C) = true := by simp
  unfold richCompare
  simp only [(typeIs_int s i t).oneThing_none]
  refine wpAny_holding (wpAny_bind (wpAny_cRoomFor hu ?_))
  refine wpAny_bind (wpAny_typeOf (typeIs_int s i t) (wpAny_bind (I.type.here ?_)))
  simp only [hne, if_true]
  refine wpAny_bind ((looks_subIn X hsub).here ?_)
  simp only [Bool.false_eq_true, if_false, Bool.not_false, if_true]
  refine wpAny_bind (two ?_)
  refine wpAny_bind (wpAny_mono one (fun r s' z => ?_) fun _ _ e => e)
  obtain ⟨v, rfl, hq⟩ := z
  exact wpAny_pure hq

theorem check_ne {Q : Unit → Shared → Prop} (X : K.In s.heap) (I : InstAt s.heap x ox C od) (hm : mroIn K C (.type "object") = some true) (h : Q () s) : wpAny (model prog w) A (checkBuiltinCall "object.__ne__" ⟨[.ref x, b], []⟩) Q E s := by
  simp only [checkBuiltinCall, F.cmpKind_ne, F.cmpSplit_ne]
  refine wpAny_bind ?_
  have LI : Looks (model prog w) s.heap (isInstance (.ref x) (.type "object")) true := I.type.andThen (looks_mroIn X hm)
  refine LI.here ?_
  cases hsig : Manifest.signature? "object.__ne__" with
  | none => exact wpAny_pure h
  | some sig =>
    have ha := F.cmpArgs_ne (.ref x) b
    simp only [argsOk, hsig] at ha
    have h2 : Bind.checkArgs "object.__ne__" sig ⟨[.ref x, b], []⟩ = pure () := ha
    show wpAny _ A (Bind.checkArgs "object.__ne__" sig ⟨[.ref x, b], []⟩) Q E _
    rw [h2]
    exact wpAny_pure h
/-- object.__ne__ asks the own __eq__ -/
theorem run_ne {Q : Fin → Shared → Prop} (hu : A.units < cLine) (X : K.In s.heap) (I : InstAt s.heap x ox C od) (hs : findIn K (.ref C) "__eq__" = some (some (.ref f))) (hf : isFn K (.ref f) = true)
    (h : wpAny (model prog w) A (call (.ref f) [.ref x, b]) (fun v s' => ∃ k, v = .bool k ∧ Q (.done (.ret (.bool (!k)))) s') E s) : wpAny (model prog w) A (Builtin.«object.__ne__» ⟨[.ref x, b], []⟩) Q E s := by
  unfold Builtin.«object.__ne__»
  repeat (first
    | with_reducible refine wpAny_cRoomFor hu ?_
    | (refine wpAny_bind (m := callSpecialIfBound? (.ref x) (Str.ofString "__eq__") [b])
        (ifBound_K X I hs hf (wpAny_mono h (fun r s' hr => by
          obtain ⟨k, rfl, hq⟩ := hr
          repeat (first | exact hq | exact wpAny_pure hq | exact wpAny_truthy_bool hq | (refine wpAny_bind (m := truthy (.bool _)) (wpAny_truthy_bool ?_)) | wp_step)) fun _ _ e => e)))
    | wp_step)
theorem try_ne {Q : Option Value → Shared → Prop} (hu : A.units + 1 < cLine) (X : K.In s.heap) (I : InstAt s.heap x ox C od) (hn : findIn K (.ref C) "__ne__" = some (some (.builtin "object.__ne__"))) (hm : mroIn K C (.type "object") = some true)
    (hs : findIn K (.ref C) "__eq__" = some (some (.ref f))) (hf : isFn K (.ref f) = true)
    (h : wpAny (model prog w) A.in1 (call (.ref f) [.ref x, b]) (fun v s' => ∃ k, v = .bool k ∧ Q (some (.bool (!k))) s') E s) : wpAny (model prog w) A (tryCompare (.ref x) "__ne__" b) Q E s := by
  have fin : wpAny (model prog w) A (call (.builtin "object.__ne__") [.ref x, b]) (fun v s' => ∃ k, v = .bool k ∧ Q (some v) s') E s := by
    refine wpAny_call (codeAny_call_builtin F.cmp_object.ne.plain F.cmpEntry_ne (check_ne X I hm (run_ne (A := A.in1) hu X I hs hf (wpAny_mono h (fun v s' hv => ?_) fun _ _ e => e))))
    obtain ⟨k, rfl, hq⟩ := hv
    exact ⟨k, rfl, !k, rfl, hq⟩
  unfold tryCompare
  simp only [callSpecialIfBound?, bindSpecialIfBound?]
  refine wpAny_bind (wpAny_holding (wpAny_bind (wpAny_bind (wpAny_bind (I.type.here ((looks_findIn X hn).here ?_))))))
  simp only [F.cmp_object.ne.bind]
  refine wpAny_bind (wpAny_askSetting (wpAny_ite ?_))
  have fin2 : wpAny (model prog w) A (call (.builtin "object.__ne__") ([.ref x] ++ [b]) >>= fun v => pure (some v)) (fun r s' => ∃ k, r = some (.bool k) ∧ Q r s') E s :=
    wpAny_bind (wpAny_mono fin (fun v s' h' => by obtain ⟨k, rfl, q⟩ := h'; exact wpAny_pure ⟨k, rfl, q⟩) fun _ _ h' => h')
  have fin3 : wpAny (model prog w) A (call (.builtin "object.__ne__") ([.ref x] ++ [b]) >>= fun v => pure (some v)) (fun r s' => wpAny (model prog w) A (match r with | some .notImplemented | none => pure none | some v => pure (some v)) Q E s') E s :=
    wpAny_mono fin2 (fun r s' h' => by obtain ⟨k, rfl, q⟩ := h'; exact wpAny_pure q) fun _ _ h' => h'
  split
  · exact wpAny_bind (wpAny_pure (wpAny_pure fin3))
  · exact wpAny_tryCatch (wpAny_bind (wpAny_pure (wpAny_pure fin3)))
/-- x != b, x an instance whose class has an own __eq__ alone; b of a class that is not below -/
theorem ne_own {tb : Value} {Q : Value → Shared → Prop} (hu : A.units + 1 < cLine) (X : K.In s.heap) (I : InstAt s.heap x ox C od) (hb : Looks (model prog w) s.heap (typeOf b) tb) (hnf : notFirst K C tb = true) (hn : findIn K (.ref C) "__ne__" = some (some (.builtin "object.__ne__")))
    (hm : mroIn K C (.type "object") = some true) (hs : findIn K (.ref C) "__eq__" = some (some (.ref f))) (hf : isFn K (.ref f) = true)
    (h : wpAny (model prog w) A.in1 (call (.ref f) [.ref x, b]) (fun v s' => ∃ k, v = .bool k ∧ Q (.bool (!k)) s') E s) : wpAny (model prog w) A (richCompare .NotEq (.ref x) b) Q E s := by
  have one : wpAny (model prog w) A (tryCompare (.ref x) "__ne__" b) (fun r s' => ∃ v, r = some v ∧ Q v s') E s :=
    try_ne hu X I hn hm hs hf (wpAny_mono h (fun v s' hv => by obtain ⟨k, rfl, q⟩ := hv; exact ⟨k, rfl, _, rfl, q⟩) fun _ _ e => e)
  unfold richCompare
  simp only [oneThing_ref]
  refine wpAny_holding (wpAny_bind (wpAny_cRoomFor (Nat.lt_of_succ_lt hu) ?_))
  rw [cmpInfo_NotEq]
  dsimp only
  refine wpAny_bind (I.type.here (wpAny_bind (hb.here ?_)))
  split
  · rename_i q
    have e : subIn K tb (.ref C) = some false := by
      rcases Bool.or_eq_true_iff.mp hnf with e | e
      · rw [beq_iff_eq.mp e] at q; simp at q
      · exact beq_iff_eq.mp e
    refine wpAny_bind ((looks_subIn X e).here ?_)
    simp only [Bool.false_eq_true, if_false]
    refine wpAny_bind (wpAny_mono one (fun r s' z => ?_) fun _ _ e => e)
    obtain ⟨v, rfl, hq⟩ := z
    exact wpAny_pure hq
  · refine wpAny_bind (wpAny_pure ?_)
    simp only [Bool.false_eq_true, if_false]
    refine wpAny_bind (wpAny_mono one (fun r s' z => ?_) fun _ _ e => e)
    obtain ⟨v, rfl, hq⟩ := z
    exact wpAny_pure hq
/-- int != x -/
theorem ne_refl {i : Int} {t : Tok} {dx : Addr} {Q : Value → Shared → Prop} (hu : A.units + 1 < cLine) (X : K.In s.heap) (I : InstAt s.heap x (instObj C dx) C od) (hsub : subIn K (.ref C) (.type "int") = some false)
    (hn : findIn K (.ref C) "__ne__" = some (some (.builtin "object.__ne__"))) (hm : mroIn K C (.type "object") = some true) (hs : findIn K (.ref C) "__eq__" = some (some (.ref f))) (hf : isFn K (.ref f) = true)
    (h : wpAny (model prog w) A.in1 (call (.ref f) [.ref x, .int i t]) (fun v s' => ∃ k, v = .bool k ∧ Q (.bool (!k)) s') E s) : wpAny (model prog w) A (richCompare .NotEq (.int i t) (.ref x)) Q E s := by
  have hx : HasObj x s := ⟨C, dx, I.at_⟩
  have one : wpAny (model prog w) A (tryCompare (.ref x) "__ne__" (.int i t)) (fun r s' => ∃ v, r = some v ∧ Q v s') E s :=
    try_ne hu X I hn hm hs hf (wpAny_mono h (fun v s' hv => by obtain ⟨k, rfl, q⟩ := hv; exact ⟨k, rfl, _, rfl, q⟩) fun _ _ e => e)
  have two : ∀ {Q' : Option Value → Shared → Prop}, Q' none s → wpAny (model prog w) A (tryCompare (.int i t) "__ne__" (.ref x)) Q' E s := fun q =>
    wpAny_tryCompare_declines (typeIs_int s i t) F.slot_int_ne (call_givesAt F.slot_int_ne (typeIs_int s i t) F.entry_int_ne (F.args_int_ne_2 _ _) (decl_ne i t x) hx ⟨rfl, q⟩)
  have hne : (Value.type "int" != Value.ref C) = true := by simp
  unfold richCompare
  simp only [(typeIs_int s i t).oneThing_none]
  refine wpAny_holding (wpAny_bind (wpAny_cRoomFor (Nat.lt_of_succ_lt hu) ?_))
  rw [cmpInfo_NotEq]
  dsimp only
  refine wpAny_bind (wpAny_typeOf (typeIs_int s i t) (wpAny_bind (I.type.here ?_)))
  simp only [hne, if_true]
  refine wpAny_bind ((looks_subIn X hsub).here ?_)
  simp only [Bool.false_eq_true, if_false, Bool.not_false, if_true]
  refine wpAny_bind (two ?_)
  refine wpAny_bind (wpAny_mono one (fun r s' z => ?_) fun _ _ e => e)
  obtain ⟨v, rfl, hq⟩ := z
  exact wpAny_pure hq
end
end AT

end

section
namespace AT
open PySem PySem.Spec PyProof.Rows L2
/-- what the written part says of a class whose operators are its own -/
structure OwnC (K : PySem.W.Frag) (C : Addr) : Prop where
  cl : Cls K C
  first : PySem.W.selfFirst K C = true
  notInt : PySem.W.subIn K (.ref C) (.type "int") = some false
  obj : PySem.W.mroIn K C (.type "object") = some true
  ca : PySem.W.findIn K (.ref C) "__class__" = some (some (.builtin "object.__class__"))
  cn : PySem.W.specialIn K (.builtin "object.__class__") "__get__" = some (some (.builtin "getset_descriptor.__get__"))
  ct : PySem.W.takesIn K (.builtin "object.__class__") = some true
/-- a method of the class by its name -/
structure OwnM (K : PySem.W.Frag) (C f : Addr) (name : Str) : Prop where
  at_ : PySem.W.findIn K (.ref C) name = some (some (.ref f))
  fn : PySem.W.isFn K (.ref f) = true
theorem OwnC.ty {K : PySem.W.Frag} {C a dx : Addr} {H : Hp} {fs : List (Str × V)} (o : OwnC K C) (h : H a = some (.ins C dx fs)) : TyX K H (.ref a) (.ref C) := .base (.ins h o.cl o.ca o.cn o.ct o.obj)

theorem rel_ref {a : Addr} : RelV (.ref a) (.ref a) := rfl
theorem rel_int {i : Int} {t : Tok} : RelV (.int i) (.int i t) := ⟨t, rfl⟩
section
variable {X : Cx} {CX : CXT} {C g r : Addr} {fd fd' : FuncData} {ps ps' : List Str} {n : Nat} {sp : Sp} {E : XK} {op : Operator} {cop : CmpOp}
theorem inst_at {pins : List (Addr × Obj)} {σ : L2.St} {H : Hp} {s : Shared} {a dx : Addr} {fs : List (Str × V)} (I : Inv X pins σ H s) (h : H a = some (.ins C dx fs)) : ∃ od, PySem.W.InstAt s.heap a (PySem.W.instObj C dx) C (some od) := by
  obtain ⟨mA, O, _⟩ := ins_get I.hok h
  obtain ⟨od, J, _⟩ := O.look
  exact ⟨od, J⟩
theorem run_two {pins : List (Addr × Obj)} {σ : L2.St} {H : Hp} {s : Shared} {Q : VK} {x y : V} {u v : Value} (F : FnOk X.prog X.w X.K X.mg X.base CX n g fd ps sp) (hr : Room n X.A) (hb : Binds X.K fd ps []) (hx : Passes CX X E) (I : Inv X pins σ H s)
    (rx : RelV x u) (ry : RelV y v) (h : sp [x, y] H Q E) : wpAny (model X.prog X.w) X.A (call (.ref g) [u, v]) (PySem.W.CmpBack (EP X pins σ Q)) X.xe s := by
  have z : wpAny (model X.prog X.w) X.A (call (.ref g) [u, v]) (EP X pins σ Q) X.xe s := run_fn (us := [u, v]) (vs := [x, y]) F hr hb .nil hx I (.cons rx (.cons ry .nil)) (by simpa using h)
  refine thn z fun w s' q => ?_
  obtain ⟨z', H', I', rz, qz⟩ := q
  exact SlX.cmpback rz ⟨z', H', I', rz, qz⟩
/-- x op y: both instances of the class -/
def rInsIns (C : Addr) (sp : Sp) (E : XK) : R2 := fun x y H Q => ∃ a dx fs b dy gs, x = .ref a ∧ y = .ref b ∧ H a = some (.ins C dx fs) ∧ H b = some (.ins C dy gs) ∧ sp [x, y] H Q E
/-- x op i, i an int -/
def rInsInt (C : Addr) (sp : Sp) (E : XK) : R2 := fun x y H Q => ∃ a dx fs i, x = .ref a ∧ y = .int i ∧ H a = some (.ins C dx fs) ∧ sp [x, y] H Q E
/-- i op y: the reflected method of y -/
def rIntIns (C : Addr) (sp : Sp) (E : XK) : R2 := fun x y H Q => ∃ i b dy gs, x = .int i ∧ y = .ref b ∧ H b = some (.ins C dy gs) ∧ sp [y, x] H Q E
theorem op_insIns (o : OwnC X.K C) (m : OwnM X.K C g (PySem.dunder op.info.2)) (F : FnOk X.prog X.w X.K X.mg X.base CX n g fd ps sp) (hr : Room n X.A) (hb : Binds X.K fd ps []) (hx : Passes CX X E) : OpR X (binaryOp op) (rInsIns C sp E) := by
  intro pins s σ H x y v u Q I rx ry h
  obtain ⟨a, dx, fs, b, dy, gs, rfl, rfl, ha, hb', q⟩ := h
  cases (show v = Value.ref a from rx)
  cases (show u = Value.ref b from ry)
  obtain ⟨od, J⟩ := inst_at I ha
  obtain ⟨od', J'⟩ := inst_at I hb'
  exact bin_same I.kIn J J' o.first m.at_ m.fn (run_two F hr hb hx I rel_ref rel_ref q)
theorem op_insInt {fo ro rc : Option Value} (o : OwnC X.K C) (m : OwnM X.K C g (PySem.dunder op.info.2)) (hrc : PySem.W.findIn X.K (.ref C) (dunderR op.info.2) = some rc) (hp : rc = none ∨ ∃ q : Addr, rc = some (.ref q))
    (h1 : PySem.W.findIn X.K (.type "int") (PySem.dunder op.info.2) = some fo) (h2 : PySem.W.findIn X.K (.type "int") (dunderR op.info.2) = some ro) (hsub : PySem.W.subIn X.K (.type "int") (.ref C) = some false)
    (F : FnOk X.prog X.w X.K X.mg X.base CX n g fd ps sp) (hr : Room n X.A) (hb : Binds X.K fd ps []) (hx : Passes CX X E) : OpR X (binaryOp op) (rInsInt C sp E) := by
  intro pins s σ H x y v u Q I rx ry h
  obtain ⟨a, dx, fs, i, rfl, rfl, ha, q⟩ := h
  cases (show v = Value.ref a from rx)
  obtain ⟨t, rfl⟩ := (show ∃ t, u = Value.int i t from ry)
  obtain ⟨od, J⟩ := inst_at I ha
  obtain ⟨mm, hF⟩ := I.fr
  exact PySem.W.ksp_binT hF I.ok.mod.kin J rfl o.first m.at_ m.fn hrc hp h1 h2 hsub (run_two F hr hb hx I rel_ref rel_int q)
/-- the int's own slot declines -/
structure IntDeclines (op : Operator) : Prop where
  fills : fillsNumberSlot (.type "int") op.info.2 = pure true
  ex : ∃ (id : String) (B : Builtin), Slot "int" (PySem.dunder op.info.2) id ∧ entryFor table id = some B ∧ ∀ (i : Int) (t : Tok) (x : Addr), argsOk id ⟨[.int i t, .ref x], []⟩ ∧ GivesAt (HasObj x) (B ⟨[.int i t, .ref x], []⟩) (.val .notImplemented)
theorem dec_add : IntDeclines .Add := ⟨PySem.F.fills_int_add, _, _, PySem.F.slot_int_add, PySem.F.entry_int_add, fun i t x => ⟨PySem.F.args_int_add_2 _ _, decl_add i t x⟩⟩
theorem dec_sub : IntDeclines .Sub := ⟨PySem.F.fills_int_sub, _, _, PySem.F.slot_int_sub, PySem.F.entry_int_sub, fun i t x => ⟨PySem.F.args_int_sub_2 _ _, decl_sub i t x⟩⟩
theorem dec_mul : IntDeclines .Mult := ⟨PySem.F.fills_int_mul, _, _, PySem.F.slot_int_mul, PySem.F.entry_int_mul, fun i t x => ⟨PySem.F.args_int_mul_2 _ _, decl_mul i t x⟩⟩
theorem dec_fdiv : IntDeclines .FloorDiv := ⟨PySem.F.fills_int_floordiv, _, _, PySem.F.slot_int_floordiv, PySem.F.entry_int_floordiv, fun i t x => ⟨PySem.F.args_int_floordiv_2 _ _, decl_floordiv i t x⟩⟩
theorem dec_mod : IntDeclines .Mod := ⟨PySem.F.fills_int_mod, _, _, PySem.F.slot_int_mod, PySem.F.entry_int_mod, fun i t x => ⟨PySem.F.args_int_mod_2 _ _, decl_mod i t x⟩⟩
theorem op_intIns {l : Addr} (d : IntDeclines op) (o : OwnC X.K C) (hl : PySem.W.findIn X.K (.ref C) (PySem.dunder op.info.2) = some (some (.ref l))) (m : OwnM X.K C g (dunderR op.info.2))
    (F : FnOk X.prog X.w X.K X.mg X.base CX n g fd ps sp) (hr : Room n X.A) (hb : Binds X.K fd ps []) (hx : Passes CX X E) : OpR X (binaryOp op) (rIntIns C sp E) := by
  intro pins s σ H x y v u Q I rx ry h
  obtain ⟨i, b, dy, gs, rfl, rfl, hb', q⟩ := h
  obtain ⟨t, rfl⟩ := (show ∃ t, v = Value.int i t from rx)
  cases (show u = Value.ref b from ry)
  obtain ⟨od, J⟩ := inst_at I hb'
  obtain ⟨hfi, id, B, slot, entry, dd⟩ := d
  exact bin_refl I.kIn J o.first hl m.at_ m.fn o.notInt hfi slot entry (dd i t b).1 (dd i t b).2 (run_two F hr hb hx I rel_ref rel_int q)
/-- x cop y, x an instance, y of any kind told -/
def rCmpIns (K : PySem.W.Frag) (C : Addr) (sp : Sp) (E : XK) : R2 := fun x y H Q => ∃ a dx fs ty, x = .ref a ∧ H a = some (.ins C dx fs) ∧ TyX K H y ty ∧ PySem.W.notFirst K C ty = true ∧ sp [x, y] H Q E
theorem op_cmpIns (hop : ∀ a b, compareOp cop a b = richCompare cop a b) (m : OwnM X.K C g (cmpInfo cop).2.1) (F : FnOk X.prog X.w X.K X.mg X.base CX n g fd ps sp) (hr : Room n X.A) (hb : Binds X.K fd ps []) (hx : Passes CX X E) :
    OpR X (compareOp cop) (rCmpIns X.K C sp E) := by
  intro pins s σ H x y v u Q I rx ry h
  obtain ⟨a, dx, fs, ty, rfl, ha, hty, hn, q⟩ := h
  cases (show v = Value.ref a from rx)
  obtain ⟨od, J⟩ := inst_at I ha
  obtain ⟨P, Z, p, _⟩ := kit_of I ry hty
  obtain ⟨mm, hF⟩ := I.fr
  rw [hop]
  exact PySem.W.cmp_K (op := cop) hr.units0 hF I.ok.mod.kin J (Z.ty _ _ I.kIn p) hn m.at_ m.fn (run_two F hr hb hx I rel_ref ry q)
structure IntDeclinesC (op : CmpOp) : Prop where
  ex : ∃ (id : String) (B : Builtin), Slot "int" (cmpInfo op).2.1 id ∧ entryFor table id = some B ∧ ∀ (i : Int) (t : Tok) (x : Addr), argsOk id ⟨[.int i t, .ref x], []⟩ ∧ GivesAt (HasObj x) (B ⟨[.int i t, .ref x], []⟩) (.val .notImplemented)
theorem dec_lt : IntDeclinesC .Lt := ⟨_, _, PySem.F.slot_int_lt, PySem.F.entry_int_lt, fun i t x => ⟨PySem.F.args_int_lt_2 _ _, decl_lt i t x⟩⟩
theorem dec_le : IntDeclinesC .LtE := ⟨_, _, PySem.F.slot_int_le, PySem.F.entry_int_le, fun i t x => ⟨PySem.F.args_int_le_2 _ _, decl_le i t x⟩⟩
theorem dec_gt : IntDeclinesC .Gt := ⟨_, _, PySem.F.slot_int_gt, PySem.F.entry_int_gt, fun i t x => ⟨PySem.F.args_int_gt_2 _ _, decl_gt i t x⟩⟩
theorem dec_ge : IntDeclinesC .GtE := ⟨_, _, PySem.F.slot_int_ge, PySem.F.entry_int_ge, fun i t x => ⟨PySem.F.args_int_ge_2 _ _, decl_ge i t x⟩⟩
theorem dec_eq : IntDeclinesC .Eq := ⟨_, _, PySem.F.slot_int_eq, PySem.F.entry_int_eq, fun i t x => ⟨PySem.F.args_int_eq_2 _ _, decl_eq i t x⟩⟩
theorem op_cmpInt (hop : ∀ a b, compareOp cop a b = richCompare cop a b) (d : IntDeclinesC cop) (o : OwnC X.K C) (m : OwnM X.K C g (cmpInfo cop).2.2) (F : FnOk X.prog X.w X.K X.mg X.base CX n g fd ps sp) (hr : Room n X.A) (hb : Binds X.K fd ps []) (hx : Passes CX X E) :
    OpR X (compareOp cop) (rIntIns C sp E) := by
  intro pins s σ H x y v u Q I rx ry h
  obtain ⟨i, b, dy, gs, rfl, rfl, hb', q⟩ := h
  obtain ⟨t, rfl⟩ := (show ∃ t, v = Value.int i t from rx)
  cases (show u = Value.ref b from ry)
  obtain ⟨od, J⟩ := inst_at I hb'
  obtain ⟨id, B, slot, entry, dd⟩ := d
  rw [hop]
  exact cmp_refl hr.units0 I.kIn J m.at_ m.fn o.notInt slot entry (dd i t b).1 (dd i t b).2 (run_two F hr hb hx I rel_ref rel_int q)
/-- the callee runs one call deeper -/
theorem run_deep {A : Around} {pins : List (Addr × Obj)} {σ : L2.St} {H : Hp} {s : Shared} {Q : VK} {x y : V} {u v : Value} (F : FnOk X.prog X.w X.K X.mg X.base CX n g fd ps sp) (hr : Room n A) (e0 : Env0 X.prog X.w X.K X.mg X.base A X.stack s H) (hb : Binds X.K fd ps []) (hx : Passes CX X E)
    (I : Inv X pins σ H s) (rx : RelV x u) (ry : RelV y v) (h : sp [x, y] H Q E) : wpAny (model X.prog X.w) A (call (.ref g) [u, v]) (EP X pins σ Q) X.xe s := by
  have r2 : Vals [x, y] [u, v] := .cons rx (.cons ry .nil)
  have hl : [u, v].length = ps.length := by rw [← r2.length]; exact F.len _ _ _ _ h
  refine wpAny_call (codeAny_mono (F.run A X.stack s H ⟨[u, v], []⟩ [u, v] [x, y] Q E hr e0 (by have := hb s [u, v] I.kIn (by simpa using hl); simpa using this) r2 h) fun r s' hq => ?_)
  cases r with
  | error e => exact hx pins σ H s e s' I hq
  | ok fl => cases fl with
    | ret w => exact I.after hq
    | next => exact (show False from hq).elim
    | brk => exact (show False from hq).elim
    | cont => exact (show False from hq).elim
/-- x != y by an own == alone -/
def rNeIns (K : PySem.W.Frag) (C : Addr) (sp : Sp) (E : XK) : R2 := fun x y H Q => ∃ a dx fs ty, x = .ref a ∧ H a = some (.ins C dx fs) ∧ TyX K H y ty ∧ PySem.W.notFirst K C ty = true ∧ sp [x, y] H (fun z H' => ∃ k, z = .bl k ∧ Q (.bl (!k)) H') E
def rNeInt (C : Addr) (sp : Sp) (E : XK) : R2 := fun x y H Q => ∃ i b dy gs, x = .int i ∧ y = .ref b ∧ H b = some (.ins C dy gs) ∧ sp [y, x] H (fun z H' => ∃ k, z = .bl k ∧ Q (.bl (!k)) H') E
theorem op_neIns (o : OwnC X.K C) (hn : PySem.W.findIn X.K (.ref C) "__ne__" = some (some (.builtin "object.__ne__"))) (m : OwnM X.K C g "__eq__") (F : FnOk X.prog X.w X.K X.mg X.base CX n g fd ps sp) (hr : Room (n + 1) X.A) (hb : Binds X.K fd ps []) (hx : Passes CX X E) :
    OpR X (compareOp .NotEq) (rNeIns X.K C sp E) := by
  intro pins s σ H x y v u Q I rx ry h
  obtain ⟨a, dx, fs, ty, rfl, ha, hty, hnf, q⟩ := h
  cases (show v = Value.ref a from rx)
  obtain ⟨od, J⟩ := inst_at I ha
  obtain ⟨P, Z, p, _⟩ := kit_of I ry hty
  show wpAny _ _ (richCompare .NotEq _ _) _ _ _
  have dd := run_deep (Q := fun z H' => ∃ k, z = .bl k ∧ Q (.bl (!k)) H') F hr.in1 I.env0.in1 hb hx I rel_ref ry q
  refine ne_own (s := s) (hu_of hr) I.kIn J (Z.ty _ _ I.kIn p) hnf hn o.obj m.at_ m.fn (thn dd fun w s' z => ?_)
  obtain ⟨z', H', I', rz, k, rfl, qz⟩ := z
  exact ⟨k, rz, .bl (!k), H', I', rfl, qz⟩
theorem op_neInt (o : OwnC X.K C) (hn : PySem.W.findIn X.K (.ref C) "__ne__" = some (some (.builtin "object.__ne__"))) (m : OwnM X.K C g "__eq__") (F : FnOk X.prog X.w X.K X.mg X.base CX n g fd ps sp) (hr : Room (n + 1) X.A) (hb : Binds X.K fd ps []) (hx : Passes CX X E) :
    OpR X (compareOp .NotEq) (rNeInt C sp E) := by
  intro pins s σ H x y v u Q I rx ry h
  obtain ⟨i, b, dy, gs, rfl, rfl, hb', q⟩ := h
  obtain ⟨t, rfl⟩ := (show ∃ t, v = Value.int i t from rx)
  cases (show u = Value.ref b from ry)
  obtain ⟨od, J⟩ := inst_at I hb'
  show wpAny _ _ (richCompare .NotEq _ _) _ _ _
  have dd := run_deep (v := .int i t) (Q := fun z H' => ∃ k, z = .bl k ∧ Q (.bl (!k)) H') F hr.in1 I.env0.in1 hb hx I rel_ref rel_int q
  refine ne_refl (s := s) (hu_of hr) I.kIn J o.notInt hn o.obj m.at_ m.fn (thn dd fun w s' z => ?_)
  obtain ⟨z', H', I', rz, k, rfl, qz⟩ := z
  exact ⟨k, rz, .bl (!k), H', I', rfl, qz⟩
/-- -x -/
def rUnIns (C : Addr) (sp : Sp) (E : XK) : V → Hp → VK → Prop := fun x H Q => ∃ a dx fs, x = .ref a ∧ H a = some (.ins C dx fs) ∧ sp [x] H Q E
theorem un_negIns (m : OwnM X.K C g "__neg__") (F : FnOk X.prog X.w X.K X.mg X.base CX n g fd ps sp) (hr : Room n X.A) (hb : Binds X.K fd ps []) (hx : Passes CX X E) : UnR X (unaryOp .USub) (rUnIns C sp E) := by
  intro pins s σ H x v Q I rx h
  obtain ⟨a, dx, fs, rfl, ha, q⟩ := h
  cases (show v = Value.ref a from rx)
  obtain ⟨od, J⟩ := inst_at I ha
  obtain ⟨mm, hF⟩ := I.fr
  exact PySem.W.ksp_neg hF I.ok.mod.kin J m.at_ m.fn (run_fn (us := [.ref a]) (vs := [.ref a]) F hr hb .nil hx I (.cons rfl .nil) (by simpa using q))
/-- // that may be by zero -/
theorem op_fdivX {W : XK} (hc : X.calm = true) (tk : Takes X (fun cls d _ H => W cls d H)) : OpR X (binaryOp .FloorDiv) (fun x y H Q => ∃ i j, x = .int i ∧ y = .int j ∧ ((j ≠ 0 ∧ j.natAbs.log2 < 9000 ∧ Q (.int (i.fdiv j)) H) ∨ (j = 0 ∧ ∀ d, W (.type "ZeroDivisionError") d H))) := by
  intro pins s σ H x y v u Q I rx ry h
  obtain ⟨i, j, rfl, rfl, h⟩ := h
  obtain ⟨t, rfl⟩ := (show ∃ t, v = Value.int i t from rx)
  obtain ⟨t', rfl⟩ := (show ∃ t, u = Value.int j t from ry)
  rcases h with ⟨h0, hl, q⟩ | ⟨rfl, w⟩
  · exact floordiv_int h0 ⟨.int (i.fdiv j), H, I.tok _, ⟨_, rfl⟩, q⟩ (.inl (PyProof.noPylong_of_log2 hl))
  · refine PySem.AutoIntOps.floordiv_0 rfl ?_
    exact ⟨I.ok.hd hc, fun h' tk' e hx => takes_new (t' := tk') tk I hx w⟩
end
end AT

end

section
namespace AT
open PySem PySem.Spec PyProof.Rows L2
section
variable {prog : Program} {w : World} {M : Model} {A : Around} {E : Value → Shared → Prop} {s : Shared} {K : PySem.W.Frag} {x C L f : Addr} {h₀ : Heap} {m : Str → Option Value} {ox : Obj} {od : Option Obj} {nm T : String} {h : Heap} {cd : ClassData}
open PySem.W
/-- no own op= -/
theorem noI {add : Bool} (X : K.In h) (hc : clsIn K C = some cd) (hm : cd.mro = [.ref C, .type "object"]) (h1 : findIn K (.ref C) (dunderI nm) = some none) (h2 : findIn K (.type "object") (dunderI nm) = some none) : Looks M h (fillsInplaceSlot (.ref C) nm add) false := by
  intro A Q E s k q
  have Lm : Looks M h (mroOf (.ref C)) cd.mro := (looks_clsIn X hc).andThen (f := fun cd => pure cd.mro) .now
  have Lm' := Lm.keeps k
  obtain ⟨hh, g, d, tk, os⟩ := s
  have X' : K.In hh := X.keeps k
  have L1 : Looks M hh (typeLookup (.ref C) (dunderI nm)) none := looks_findIn X' h1
  have L2 : Looks M hh (typeLookup (.type "object") (dunderI nm)) none := looks_findIn X' h2
  unfold fillsInplaceSlot
  refine wpAny_bind (Lm'.at ?_)
  rw [hm, List.anyM_cons]
  refine wpAny_bind ?_
  repeat lk
  exact q
/-- x op= y, two instances of one class, by op -/
theorem ibin_same {op : Operator} {y : Addr} {oy : Obj} {od' : Option Obj} {Q : Value → Shared → Prop} (X : K.In s.heap) (I : InstAt s.heap x ox C od) (J : InstAt s.heap y oy C od') (hcd : clsIn K C = some cd) (hm : cd.mro = [.ref C, .type "object"])
    (i1 : findIn K (.ref C) (dunderI op.info.2) = some none) (i2 : findIn K (.type "object") (dunderI op.info.2) = some none)
    (hs : findIn K (.ref C) (PySem.dunder op.info.2) = some (some (.ref f))) (hf : isFn K (.ref f) = true)
    (h : wpAny (model prog w) A (call (.ref f) [.ref x, .ref y]) (PySem.W.CmpBack Q) E s) : wpAny (model prog w) A (inplaceOp op (.ref x) (.ref y)) Q E s := by
  have one := ksp_try X I hs hf h
  obtain ⟨hh, g, d, tt, os⟩ := s
  have L1 : Looks (model prog w) hh (typeOf (.ref x)) (.ref C) := I.type
  have L2 : Looks (model prog w) hh (typeOf (.ref y)) (.ref C) := J.type
  have L3 : Looks (model prog w) hh (fillsNumberSlot (.ref C) op.info.2) true := fills_K X hcd hm hs
  have L4 : Looks (model prog w) hh (fillsInplaceSlot (.ref C) op.info.2 (op == .Add)) false := noI X hcd hm i1 i2
  unfold inplaceOp
  refine wpAny_holding ?_
  refine wpAny_bind (L1.at (wpAny_bind (L4.at ?_)))
  simp only [Bool.false_eq_true, if_false, pure_bind]
  refine wpAny_bind ?_
  unfold binaryOp1
  refine wpAny_bind (L1.at (wpAny_bind (L2.at (wpAny_bind (L3.at ?_)))))
  simp only [beq_self_eq_true, if_true]
  ksp_lk
  refine wpAny_mono one (fun r s' hr' => ?_) fun _ _ e => e
  obtain ⟨v, rfl, hq⟩ := hr'
  ksp_lk
  exact hq
/-- x op= i, i of a built-in type -/
theorem ibin_ty {op : Operator} {b : Value} {fo ro rc : Option Value} {Q : Value → Shared → Prop} (X : K.In s.heap) (I : InstAt s.heap x ox C od) (hb : typeOf b = pure (.type T)) (hcd : clsIn K C = some cd) (hm : cd.mro = [.ref C, .type "object"])
    (i1 : findIn K (.ref C) (dunderI op.info.2) = some none) (i2 : findIn K (.type "object") (dunderI op.info.2) = some none)
    (hs : findIn K (.ref C) (PySem.dunder op.info.2) = some (some (.ref f))) (hf : isFn K (.ref f) = true) (hr : findIn K (.ref C) (dunderR op.info.2) = some rc) (hp : rc = none ∨ ∃ g : Addr, rc = some (.ref g))
    (h1 : findIn K (.type T) (PySem.dunder op.info.2) = some fo) (h2 : findIn K (.type T) (dunderR op.info.2) = some ro) (hsub : subIn K (.type T) (.ref C) = some false)
    (h : wpAny (model prog w) A (call (.ref f) [.ref x, b]) (PySem.W.CmpBack Q) E s) : wpAny (model prog w) A (inplaceOp op (.ref x) b) Q E s := by
  have one := ksp_try X I hs hf h
  obtain ⟨hh, g, d, tt, os⟩ := s
  have L1 : Looks (model prog w) hh (typeOf (.ref x)) (.ref C) := I.type
  have L2 : Looks (model prog w) hh (typeOf b) (.type T) := Looks.of_pure hb
  have L3 : Looks (model prog w) hh (fillsNumberSlot (.ref C) op.info.2) true := fills_K X hcd hm hs
  have L4 : Looks (model prog w) hh (fillsNumberSlot (.type T) op.info.2) ((fo.isSome && !isSeqSlot fo) || (ro.isSome && !isSeqSlot ro)) := ksp_fillsT X h1 h2
  have L5 : Looks (model prog w) hh (isSubtype (.type T) (.ref C)) false := looks_subIn X hsub
  have L6 : Looks (model prog w) hh (numberSlotInPython (.ref C) op.info.2) true := ksp_inPy X hs hr hp
  have L7 : Looks (model prog w) hh (numberSlotInPython (.type T) op.info.2) false := Looks.of_pure rfl
  have L8 : Looks (model prog w) hh (typeLookup (.type T) (dunderR op.info.2)) ro := looks_findIn X h2
  have L9 : Looks (model prog w) hh (fillsInplaceSlot (.ref C) op.info.2 (op == .Add)) false := noI X hcd hm i1 i2
  generalize ((fo.isSome && !isSeqSlot fo) || (ro.isSome && !isSeqSlot ro)) = right at L4
  have hne : (Value.ref C == Value.type T) = false := Bool.eq_false_iff.mpr fun q => by cases beq_iff_eq.mp q
  unfold inplaceOp
  refine wpAny_holding ?_
  refine wpAny_bind (L1.at (wpAny_bind (L9.at ?_)))
  simp only [Bool.false_eq_true, if_false, pure_bind]
  refine wpAny_bind ?_
  unfold binaryOp1
  refine wpAny_bind (L1.at (wpAny_bind (L2.at (wpAny_bind (L3.at ?_)))))
  simp only [hne, Bool.false_eq_true, if_false]
  cases right with
  | false =>
    ksp_lk
    refine wpAny_mono one (fun r s' hr' => ?_) fun _ _ e => e
    obtain ⟨v, rfl, hq⟩ := hr'
    ksp_lk
    exact hq
  | true =>
    ksp_lk
    refine wpAny_mono one (fun r s' hr' => ?_) fun _ _ e => e
    obtain ⟨v, rfl, hq⟩ := hr'
    ksp_lk
    exact hq
end
/-- names of the operators' methods -/
theorem dn_add : PySem.dunder (Operator.info .Add).2 = "__add__" := by decide +kernel
theorem dn_sub : PySem.dunder (Operator.info .Sub).2 = "__sub__" := by decide +kernel
theorem dn_mul : PySem.dunder (Operator.info .Mult).2 = "__mul__" := by decide +kernel
theorem dn_fdiv : PySem.dunder (Operator.info .FloorDiv).2 = "__floordiv__" := by decide +kernel
theorem dn_mod : PySem.dunder (Operator.info .Mod).2 = "__mod__" := by decide +kernel
theorem dn_pow : PySem.dunder (Operator.info .Pow).2 = "__pow__" := by decide +kernel
theorem dr_add : dunderR (Operator.info .Add).2 = "__radd__" := by decide +kernel
theorem dr_sub : dunderR (Operator.info .Sub).2 = "__rsub__" := by decide +kernel
theorem dr_mul : dunderR (Operator.info .Mult).2 = "__rmul__" := by decide +kernel
theorem dr_fdiv : dunderR (Operator.info .FloorDiv).2 = "__rfloordiv__" := by decide +kernel
theorem dr_mod : dunderR (Operator.info .Mod).2 = "__rmod__" := by decide +kernel
theorem dr_pow : dunderR (Operator.info .Pow).2 = "__rpow__" := by decide +kernel
theorem di_add : dunderI (Operator.info .Add).2 = "__iadd__" := by decide +kernel
theorem di_sub : dunderI (Operator.info .Sub).2 = "__isub__" := by decide +kernel
/-- the method, and how int's own type is looked at -/
structure IntOp (K : PySem.W.Frag) (C : Addr) (op : Operator) (l r : Addr) : Prop where
  ml : OwnM K C l (PySem.dunder op.info.2)
  mr : PySem.W.findIn K (.ref C) (dunderR op.info.2) = some none ∨ OwnM K C r (dunderR op.info.2)
  h1 : ∃ fo, PySem.W.findIn K (.type "int") (PySem.dunder op.info.2) = some fo
  h2 : ∃ ro, PySem.W.findIn K (.type "int") (dunderR op.info.2) = some ro
  hs : PySem.W.subIn K (.type "int") (.ref C) = some false
section
variable {X : Cx} {CX : CXT} {C l r : Addr} {fd : FuncData} {ps : List Str} {n : Nat} {sp : Sp} {E : XK} {op : Operator} {cd : ClassData}
theorem IntOp.rc {K : PySem.W.Frag} (o : IntOp K C op l r) : ∃ rc, PySem.W.findIn K (.ref C) (dunderR op.info.2) = some rc ∧ (rc = none ∨ ∃ q : Addr, rc = some (.ref q)) := by
  rcases o.mr with h | h
  · exact ⟨_, h, .inl rfl⟩
  · exact ⟨_, h.at_, .inr ⟨_, rfl⟩⟩
/-- x op y, x an instance, y one too or an int -/
def rIns (C : Addr) (sp : Sp) (E : XK) : R2 := fun x y H Q => ∃ a dx fs, x = .ref a ∧ H a = some (.ins C dx fs) ∧ ((∃ i, y = .int i) ∨ ∃ b dy gs, y = .ref b ∧ H b = some (.ins C dy gs)) ∧ sp [x, y] H Q E
theorem op_ins (o : OwnC X.K C) (i : IntOp X.K C op l r) (F : FnOk X.prog X.w X.K X.mg X.base CX n l fd ps sp) (hr : Room n X.A) (hb : Binds X.K fd ps []) (hx : Passes CX X E) : OpR X (binaryOp op) (rIns C sp E) := by
  intro pins s σ H x y v u Q I rx ry h
  obtain ⟨a, dx, fs, rfl, ha, hy, q⟩ := h
  obtain ⟨rc, e1, e2⟩ := i.rc
  obtain ⟨fo, h1⟩ := i.h1
  obtain ⟨ro, h2⟩ := i.h2
  rcases hy with ⟨j, rfl⟩ | ⟨b, dy, gs, rfl, hb'⟩
  · exact op_insInt o i.ml e1 e2 h1 h2 i.hs F hr hb hx pins s σ H _ _ v u Q I rx ry ⟨a, dx, fs, j, rfl, rfl, ha, q⟩
  · exact op_insIns o i.ml F hr hb hx pins s σ H _ _ v u Q I rx ry ⟨a, dx, fs, b, dy, gs, rfl, rfl, ha, hb', q⟩
structure MroC (K : PySem.W.Frag) (C : Addr) : Prop where
  at_ : ∃ cd, PySem.W.clsIn K C = some cd ∧ cd.mro = [.ref C, .type "object"]
theorem iop_ins (o : OwnC X.K C) (mr : MroC X.K C) (i1 : PySem.W.findIn X.K (.ref C) (dunderI op.info.2) = some none) (i2 : PySem.W.findIn X.K (.type "object") (dunderI op.info.2) = some none) (i : IntOp X.K C op l r)
    (F : FnOk X.prog X.w X.K X.mg X.base CX n l fd ps sp) (hr : Room n X.A) (hb : Binds X.K fd ps []) (hx : Passes CX X E) : PIp X op (rIns C sp E) := by
  intro pins s σ H x y v u Q I rx ry h
  obtain ⟨a, dx, fs, rfl, ha, hy, q⟩ := h
  obtain ⟨rc, e1, e2⟩ := i.rc
  obtain ⟨fo, h1⟩ := i.h1
  obtain ⟨ro, h2⟩ := i.h2
  obtain ⟨cd, c1, c2⟩ := mr.at_
  cases (show v = Value.ref a from rx)
  obtain ⟨od, J⟩ := inst_at I ha
  rcases hy with ⟨j, rfl⟩ | ⟨b, dy, gs, rfl, hb'⟩
  · obtain ⟨t, rfl⟩ := (show ∃ t, u = Value.int j t from ry)
    exact ibin_ty I.kIn J rfl c1 c2 i1 i2 i.ml.at_ i.ml.fn e1 e2 h1 h2 i.hs (run_two F hr hb hx I rel_ref rel_int q)
  · cases (show u = Value.ref b from ry)
    obtain ⟨od', J'⟩ := inst_at I hb'
    exact ibin_same I.kIn J J' c1 c2 i1 i2 i.ml.at_ i.ml.fn (run_two F hr hb hx I rel_ref rel_ref q)
end
end AT

end

section
namespace AT
open PySem PySem.Spec PyProof.Rows L2
section
variable {X : Cx} {e : Expr} {es : List Expr} {ta : TA} {p1 p2 pos : Pos} {B : Addr} {mc : Value} {x : Str}
/-- B.__init__(self, ..), B an own class over ValueError without an __init__ of its own -/
theorem pe_clsinit {pl : Sem Bool} (hg : Gl X x) (hm : X.mg x = some (.ref B)) (r : ClX.CRead X.K B mc) (hv : PySem.W.findCls X.K (.ref B) mc "__init__" = some (.val (.builtin "ValueError.__init__"))) (ha : PA X (e :: es) ta)
    (hd : (x == ("__debug__" : Str)) = false := by decide)
    (hcall : eval (.Call (.Attribute (.Name x p1) "__init__" p2) (e :: es) [] pos) X.env = (eval (.Name x p1) X.env >>= fun ov => standAt p2.atName >>= fun _ => holding [ov] (getMethod ov "__init__" pl) >>= fun q =>
      callWith pos q.1 q.2 (backTo pos (starEach (e :: es) X.env)) (backToKw pos (keywordEach [] X.env))) := by rfl)
    (hst : starEach (e :: es) X.env = (false, eval e X.env) :: starEach es X.env := by rfl) (hnp : (backTo pos (starEach es X.env)).any (·.1) = false := by rfl) :
    PE X (.Call (.Attribute (.Name x p1) "__init__" p2) (e :: es) [] pos) (tVeI X.K ta) := by
  constructor
  intro pins s σ H Q I h
  refine PySem.W.methodCall_KW (ld_glob I hg hm ?_ hd) hcall
  refine PySem.W.method_cls I.kIn r.ga (PySem.W.cls_value I.kIn r.rd hv rfl ?_)
  show wpAny _ _ (callWith pos (Value.builtin "ValueError.__init__") [] (backTo pos (starEach (e :: es) X.env)) []) _ _ _
  refine PyProof.Rows.callWith_method1 (thn (ha.run pos pins _ σ H _ (I.tok _) h) fun us s1 q1 => ?_) hst hnp
  obtain ⟨vs, H1, I1, r1, a, C, ws, rfl, hl, T, ea, q⟩ := q1
  cases r1 with
  | @cons _ u0 _ ur ra rw' =>
    obtain rfl : u0 = Value.ref a := ra
    refine oinit_ok T I1 ea ?_ fun s' J => ⟨.non, H1, J, rfl, q⟩
    rw [← Paired.length rw', sizeLine_eq]
    omega
end
end AT

end

section
/-! Steps of a reading, one by one. -/
namespace AT
open PySem PySem.Spec PyProof.Rows L2
abbrev rNewL (xs : List V) : Hp → VK → Prop := fun H Q => xs.length ≤ sizeLine ∧ ∀ p, H p = none → Q (.ref p) (upd H p (.lst xs))
abbrev rNewT (xs : List V) : Hp → VK → Prop := fun H Q => xs.length ≤ sizeLine ∧ ∀ p, H p = none → Q (.ref p) (upd H p (.tup xs))
/-- all that stood stands -/
abbrev Ext (H H' : Hp) : Prop := Same H H'
theorem Ext.new {H : Hp} {p : Addr} {o : HO} (h : H p = none) : Ext H (upd H p o) := fun b u e => by rw [upd_ne (ne_of_none e h)]; exact e
theorem Ext.mut {H H' : Hp} {p : Addr} {o : HO} (e : Ext H H') (h : H p = none) : Ext H (upd H' p o) := fun b u z => by rw [upd_ne (ne_of_none z h)]; exact e b u z
theorem Ext.t {H H1 H2 : Hp} (a : Ext H H1) (b : Ext H1 H2) : Ext H H2 := Same.trans a b
theorem Ext.fresh {H H' : Hp} (e : Ext H H') {p : Addr} (h : H' p = none) : H p = none := Same.free e h
theorem n_lst {xs : List V} {H : Hp} {Q : VK} (z : xs.length ≤ 100000) (k : ∀ p H', H p = none → Ext H H' → H' p = some (.lst xs) → Q (.ref p) H') : rNewL xs H Q := ⟨Nat.le_trans z (by decide), fun p np => k p _ np (Ext.new np) upd_same⟩
theorem n_tup {xs : List V} {H : Hp} {Q : VK} (z : xs.length ≤ 100000) (k : ∀ p H', H p = none → Ext H H' → H' p = some (.tup xs) → Q (.ref p) H') : rNewT xs H Q := ⟨Nat.le_trans z (by decide), fun p np => k p _ np (Ext.new np) upd_same⟩
end AT
namespace AT
open PySem PySem.Spec PyProof.Rows L2
/-- x.f of an instance; x.f = y -/
def rFld (K : PySem.W.Frag) (f : Str) : V → Hp → VK → Prop := fun x H Q => ∃ a C dx fs v, x = .ref a ∧ H a = some (.ins C dx fs) ∧ Cls K C ∧ NoAttr K C f ∧ fs.lookup f = some v ∧ Q v H
def rSFld (K : PySem.W.Frag) (f : Str) : V → V → Hp → (Hp → Prop) → Prop := fun x y H Q => ∃ a C dx fs, x = .ref a ∧ H a = some (.ins C dx fs) ∧ Cls K C ∧ NoAttr K C f ∧ fs.length < 1000 ∧ Q (upd H a (.ins C dx (putF f y fs)))
end AT
namespace AT
open PySem PySem.Spec PyProof.Rows L2
section
variable {K : PySem.W.Frag} {σ : L2.St} {H : Hp} {Q : VK} {tl : TE} {ta : TA} {R : It → Hp → Prop} {a : Addr} {xs : List V} {j i : Int} {x c : V} {t u : Value} {b : Bool} {g : TGs} {tg : TG} {QS : L2.St → Hp → Prop}
theorem w_iList (h : tl σ H fun x H1 => ∃ a, x = .ref a ∧ (∃ xs, SqL K H1 a xs) ∧ R (Itl K a) H1) : iList K tl σ H R := h
theorem w_itL (l : SqL K H a xs) (h : R (Itl K a) H) : ∃ a', V.ref a = .ref a' ∧ (∃ xs, SqL K H a' xs) ∧ R (Itl K a') H := ⟨a, rfl, ⟨xs, l⟩, h⟩
theorem w_iTup (h : tl σ H fun x H1 => ∃ a, x = .ref a ∧ (∃ xs, SqT K H1 a xs) ∧ R (Itt K a) H1) : iTup K tl σ H R := h
theorem w_itT (l : SqT K H a xs) (h : R (Itt K a) H) : ∃ a', V.ref a = .ref a' ∧ (∃ xs, SqT K H a' xs) ∧ R (Itt K a') H := ⟨a, rfl, ⟨xs, l⟩, h⟩
theorem w_iRng1 (h : ta σ H fun vs H1 => ∃ j : Int, vs = [.int j] ∧ -(2 ^ 62) ≤ j ∧ j < 2 ^ 62 ∧ R (Itr 0 j.toNat) H1) : iRng1 ta σ H R := h
theorem w_itR1 (h1 : -(2 ^ 62) ≤ j) (h2 : j < 2 ^ 62) (h : R (Itr 0 j.toNat) H) : ∃ j' : Int, [V.int j] = [.int j'] ∧ -(2 ^ 62) ≤ j' ∧ j' < 2 ^ 62 ∧ R (Itr 0 j'.toNat) H := ⟨j, rfl, h1, h2, h⟩
theorem w_gname {k : Nat} {v : V} (h : QS (σ.set k (some v)) H) : gName k v σ H QS := h
/-- isinstance -/
theorem w_isi (k : ClsV c u) (ty : TyX K H x t) (e : PySem.W.kitOne K t u = some b) (h : Q (.bl b) H) : rIsi K [x, c] H Q := ⟨x, c, t, u, b, rfl, k, ty, e, h⟩
theorem w_intInt (h : Q (.bl true) H) : rIsi K [.int i, .ty "int"] H Q := w_isi (.ty "int") (.base (.int i)) (kit_ty (by decide +kernel)) h
theorem w_intBool (h : Q (.bl false) H) : rIsi K [.int i, .ty "bool"] H Q := w_isi (.ty "bool") (.base (.int i)) (kit_ty (by decide +kernel)) h
theorem w_boolBool {k : Bool} (h : Q (.bl true) H) : rIsi K [.bl k, .ty "bool"] H Q := w_isi (.ty "bool") (.base (.bl k)) (kit_ty (by decide +kernel)) h
theorem kit_own {C : Addr} (h1 : PySem.W.isClsIn K C = true) (h2 : PySem.W.typeIn K (.ref C) = some (.type "type")) (h3 : PySem.W.subIn K t (.ref C) = some b) (hn : (t == .ref C) = false) : PySem.W.kitOne K t (.ref C) = some b := by
  have h1' : (PySem.W.clsIn K C).isSome = true := h1
  unfold PySem.W.kitOne
  rw [hn, if_neg (by decide)]
  simp only [PySem.W.kitCls]
  rw [h1', h2, if_pos (by simp)]
  exact h3
theorem kit_insTy {C : Addr} {T : String} (h3 : PySem.W.subIn K (.ref C) (.type T) = some b) (hm : PySem.W.kitMeta T = true) : PySem.W.kitOne K (.ref C) (.type T) = some b := by
  unfold PySem.W.kitOne
  rw [if_neg (by simp)]
  simp only [PySem.W.kitCls]
  rw [if_pos hm]
  exact h3
theorem kit_self {C : Addr} : PySem.W.kitOne K (.ref C) (.ref C) = some true := by
  unfold PySem.W.kitOne
  rw [if_pos (by simp)]
end
end AT
namespace AT
open PySem PySem.Spec PyProof.Rows L2
/-- a while by what holds ahead of each turn and a measure -/
theorem w_while {c : TT} {tb : TS} {D : Ends} {σ : L2.St} {H : Hp} (Pv : L2.St → Hp → Prop) (μ : L2.St → Hp → Nat) (h0 : Pv σ H)
    (hs : ∀ σ H, Pv σ H → c σ H fun b H1 => if b = true then ∃ N : L2.St → Hp → Prop, (∀ σ' H', N σ' H' → ∃ m', m' < μ σ H ∧ m' = μ σ' H' ∧ Pv σ' H') ∧ tb { D with nx := N, ct := N, bk := D.nx } σ H1 else D.nx σ H1) : tWhile c tb D σ H := by
  refine ⟨fun m σ H => m = μ σ H ∧ Pv σ H, ⟨_, rfl, h0⟩, ?_⟩
  rintro m σ H ⟨rfl, p⟩
  exact hs σ H p
theorem w_wturn {Pv : L2.St → Hp → Prop} {μ : L2.St → Hp → Nat} {m : Nat} {D : Ends} {tb : TS} {σ : L2.St} {H : Hp}
    (h : tb { D with nx := fun σ' H' => μ σ' H' < m ∧ Pv σ' H', ct := fun σ' H' => μ σ' H' < m ∧ Pv σ' H', bk := D.nx } σ H) :
    ∃ N : L2.St → Hp → Prop, (∀ σ' H', N σ' H' → ∃ m', m' < m ∧ m' = μ σ' H' ∧ Pv σ' H') ∧ tb { D with nx := N, ct := N, bk := D.nx } σ H := ⟨_, fun _ _ z => ⟨_, z.1, rfl, z.2⟩, h⟩
end AT
namespace AT
open PySem PySem.Spec PyProof.Rows L2
def rAbs : List V → Hp → VK → Prop := fun xs H Q => ∃ i, xs = [.int i] ∧ Q (.int (if i < 0 then -i else i)) H
theorem call_absR {X : Cx} : CallR X (.builtin "abs") rAbs := call_abs
def rInt1 : List V → Hp → VK → Prop := fun xs H Q => (∃ i, xs = [.int i] ∧ Q (.int i) H) ∨ ∃ k, xs = [.bl k] ∧ Q (.int (if k then 1 else 0)) H
theorem call_intR {X : Cx} : CallR X (.type "int") rInt1 := call_int1
def rLenS (K : PySem.W.Frag) : List V → Hp → VK → Prop := fun xs H Q => ∃ p ys, xs = [.ref p] ∧ (SqL K H p ys ∨ SqT K H p ys) ∧ Q (.int ys.length) H
theorem call_lenR {X : Cx} : CallR X (.builtin "len") (rLenS X.K) := call_len_seq
section
variable {K : PySem.W.Frag} {H : Hp} {Q : VK} {a : Int} {p : Addr} {xs : List V} {v x : V} {i : Int}
theorem w_abs (h : Q (.int (a.natAbs : Int)) H) : rAbs [.int a] H Q := ⟨a, rfl, by
  have e : (if a < 0 then -a else a) = (a.natAbs : Int) := by split <;> omega
  rw [e]; exact h⟩
theorem w_int (h : Q (.int a) H) : rInt1 [.int a] H Q := .inl ⟨a, rfl, h⟩
theorem w_len (l : SqL K H p xs) (h : Q (.int xs.length) H) : rLenS K [.ref p] H Q := ⟨p, xs, rfl, .inl l, h⟩
theorem w_lenT (l : SqT K H p xs) (h : Q (.int xs.length) H) : rLenS K [.ref p] H Q := ⟨p, xs, rfl, .inr l, h⟩
theorem w_ixL (l : SqL K H p xs) (e : atI xs i = some v) (h : Q v H) : rIxL K (.ref p) (.int i) H Q := ⟨p, xs, i, v, rfl, rfl, l, e, h⟩
theorem w_ixT (l : SqT K H p xs) (e : atI xs i = some v) (h : Q v H) : rIxT K (.ref p) (.int i) H Q := ⟨p, xs, i, v, rfl, rfl, l, e, h⟩
theorem w_app (l : H p = some (.lst xs)) (z : xs.length < 100000) (h : Q .non (upd H p (.lst (xs ++ [x])))) : rAppend (.ref p) [x] H Q := ⟨p, xs, x, rfl, rfl, l, Nat.lt_of_lt_of_le z (by decide), h⟩
end
end AT
namespace AT
open PySem PySem.Spec PyProof.Rows L2
/-- floor division by any divisor below 2 ^ 9000 but 0 -/
theorem op_fdivG {X : Cx} : OpR X (binaryOp .FloorDiv) (rI (fun _ j => j ≠ 0 ∧ j.natAbs.log2 < 9000) fun i j => .int (i.fdiv j)) := opI fun _ _ _ _ _ _ _ hc q => floordiv_int hc.1 q (.inl (PyProof.noPylong_of_log2 hc.2))
end AT
namespace AT
open PySem PySem.Spec PyProof.Rows L2
section
variable {K : PySem.W.Frag} {σ : L2.St} {H : Hp} {Q : VK} {D : Ends} {te ta tb : TE} {t u : TS} {c d : TT} {v x y : V} {i j : Nat} {r : R2} {QB : Bool → Hp → Prop} {QA : List V → Hp → Prop} {tr : TA} {tl : TA}
theorem w_seq (h : t { D with nx := u D } σ H) : tSeq t u D σ H := h
theorem w_next (h : D.nx σ H) : tNext D σ H := h
theorem w_if (h : c σ H fun b H1 => if b = true then t D σ H1 else u D σ H1) : tIfS c t u D σ H := h
theorem w_set (h : te σ H fun x H1 => D.nx (σ.set i (some x)) H1) : tAsg te (gName i) D σ H := h
theorem w_par (h : tr σ H fun vs H1 => ∃ v w, vs = [v, w] ∧ D.nx ((σ.set i (some v)).set j (some w)) H1) : tPar i j tr D σ H := h
theorem w_two {P : V → V → Prop} (h : P x y) : ∃ v w, [x, y] = [v, w] ∧ P v w := ⟨x, y, rfl, h⟩
theorem w_drop (h : te σ H fun _ H1 => D.nx σ H1) : tDrop te D σ H := h
theorem w_ret (h : te σ H D.rt) : tRet te D σ H := h
theorem w_retN (h : D.rt .non H) : tRetN D σ H := h
theorem w_var (e : σ[i]? = some (some v)) (h : Q v H) : tVar i σ H Q := ⟨v, e, h⟩
theorem w_aug {ti : TIp} (e : σ[i]? = some (some x)) (h : te σ H fun y H1 => ti x y H1 fun z H2 => D.nx (σ.set i (some z)) H2) : tAug i te ti D σ H := ⟨x, e, h⟩
theorem w_c (h : Q v H) : tC v σ H Q := h
theorem w_test (h : te σ H fun x H' => ∃ k, x = .bl k ∧ QB k H') : tTest te σ H QB := h
theorem w_B (h : te σ H fun x H' => ∃ k, x = .bl k ∧ QB k H') : tB te σ H QB := h
theorem w_bl {k : Bool} (h : QB k H) : ∃ k', V.bl k = .bl k' ∧ QB k' H := ⟨k, rfl, h⟩
theorem w_op (h : ta σ H fun x H1 => tb σ H1 fun y H2 => r x y H2 Q) : tOp r ta tb σ H Q := h
theorem w_un {ru : V → Hp → VK → Prop} (h : ta σ H fun x H1 => ru x H1 Q) : tUn ru ta σ H Q := h
theorem w_rU {g : Int → V} {a : Int} (h : Q (g a) H) : rU g (.int a) H Q := ⟨a, rfl, h⟩
theorem w_rI0 {g : Int → Int → V} {a b : Int} (h : Q (g a b) H) : rI0 g (.int a) (.int b) H Q := ⟨a, b, rfl, rfl, h⟩
theorem w_rI {C : Int → Int → Prop} {g : Int → Int → V} {a b : Int} (hc : C a b) (h : Q (g a b) H) : rI C g (.int a) (.int b) H Q := ⟨a, b, rfl, rfl, hc, h⟩
theorem w_pow {g : Int → Int → V} {a b : Int} (c : 0 ≤ b ∧ b ≤ 1000000 ∧ a.natAbs < 2 ^ 64) (h : Q (g a b) H) : rI CPow g (.int a) (.int b) H Q := ⟨a, b, rfl, rfl, c, h⟩
theorem w_mod {g : Int → Int → V} {a b : Int} (c : 0 < b) (h : Q (g a b) H) : rI (fun _ j => 0 < j) g (.int a) (.int b) H Q := ⟨a, b, rfl, rfl, c, h⟩
theorem w_eqI {a b : Int} (h : Q (.bl (decide (a = b))) H) : rEq (.int a) (.int b) H Q := ⟨rfl, by
  have e : decide (V.int a = V.int b) = decide (a = b) := by rw [dec_int, Bool.eq_iff_iff, beq_iff_eq, decide_eq_true_iff]
  rw [e]
  exact h⟩
theorem w_neI {a b : Int} (h : Q (.bl (!decide (a = b))) H) : rNe (.int a) (.int b) H Q := ⟨rfl, by
  have e : decide (V.int a = V.int b) = decide (a = b) := by rw [dec_int, Bool.eq_iff_iff, beq_iff_eq, decide_eq_true_iff]
  rw [e]
  exact h⟩
theorem w_chain {r' : R2} {tc : TE} (h : ta σ H fun x H1 => tb σ H1 fun y H2 => r x y H2 fun z H3 => ∃ k, z = .bl k ∧ (if k = true then tc σ H3 fun w' H4 => r' y w' H4 Q else Q (.bl false) H3)) : tChain r r' ta tb tc σ H Q := h
theorem w_blV {k : Bool} {P : Bool → Prop} (h : P k) : ∃ k', V.bl k = .bl k' ∧ P k' := ⟨k, rfl, h⟩
theorem w_and (h : c σ H fun b H1 => if b = true then d σ H1 QB else QB false H1) : tAnd c d σ H QB := h
theorem w_or (h : c σ H fun b H1 => if b = true then QB true H1 else d σ H1 QB) : tOr c d σ H QB := h
theorem w_not (h : c σ H fun b H1 => QB (!b) H1) : tNot c σ H QB := h
theorem w_andV (h : ta σ H fun x H1 => ∃ k, x = .bl k ∧ if k = true then tb σ H1 Q else Q (.bl false) H1) : tAndV ta tb σ H Q := h
theorem w_orV (h : ta σ H fun x H1 => ∃ k, x = .bl k ∧ if k = true then Q (.bl true) H1 else tb σ H1 Q) : tOrV ta tb σ H Q := h
theorem w_notV (h : ta σ H fun x H1 => ∃ k, x = .bl k ∧ Q (.bl (!k)) H1) : tNotV ta σ H Q := h
theorem w_ifE (h : c σ H fun b H1 => if b = true then ta σ H1 Q else tb σ H1 Q) : tIf c ta tb σ H Q := h
theorem w_nil (h : QA [] H) : tNil σ H QA := h
theorem w_cons (h : te σ H fun x H1 => tl σ H1 fun xs H2 => QA (x :: xs) H2) : tCons te tl σ H QA := h
theorem w_call {sp : Sp} {dvs : List V} {E : XK} (h : tr σ H fun vs H1 => sp (vs ++ dvs) H1 Q E) : tCall sp dvs E tr σ H Q := h
theorem w_callS {sp : Sp} {E : L2.St → XK} (h : tr σ H fun vs H1 => sp vs H1 Q (E σ)) : tCallS sp E tr σ H Q := h
theorem w_cb {rc : List V → Hp → VK → Prop} (h : tr σ H fun vs H1 => rc vs H1 Q) : tCB rc tr σ H Q := h
theorem w_fld {f : Str} (h : ta σ H fun x H1 => rFld K f x H1 Q) : tFld K ta f σ H Q := h
theorem w_sfld {f : Str} (h : tb σ H fun y H1 => ta σ H1 fun x H2 => rSFld K f x y H2 (D.nx σ)) : sFld K ta tb f D σ H := h
theorem w_lst (h : tr σ H fun xs H1 => rNewL xs H1 Q) : tLst tr σ H Q := h
theorem w_tup (h : tr σ H fun xs H1 => rNewT xs H1 Q) : tTup tr σ H Q := h
theorem w_bm {T : String} {rm : V → List V → Hp → VK → Prop} (h : ta σ H fun x H1 => tyV K T x H1 ∧ tr σ H1 fun xs H2 => rm x xs H2 Q) : tBM K T rm ta tr σ H Q := h
theorem w_for {wi : TI} {g : TG} (h : wi σ H fun J H1 => ∃ W : Nat → Nat → L2.St → Hp → Prop, (∃ m, W 0 m σ H1) ∧ ∀ i m σ H, W i m σ H →
  (J.stop i H ∧ D.nx σ H) ∨ (J.go i H ∧ ∃ N : L2.St → Hp → Prop, (∀ σ' H', N σ' H' → ∃ m', m' < m ∧ W (i + 1) m' σ' H') ∧ ∀ x H', J.yld i H x H' → g x σ H' fun σ2 H2 => t { D with nx := N, ct := N, bk := D.nx } σ2 H2)) : tFor wi g t D σ H := h
end
section
variable {p q : Prop} [Decidable p] {A B : Prop} {b : Bool}
theorem i_dec (h1 : p → A) (h2 : ¬ p → B) : if decide p = true then A else B := by
  by_cases hp : p
  · rw [decide_eq_true hp]; exact h1 hp
  · rw [decide_eq_false hp]; exact h2 hp
theorem i_ndec (h1 : p → B) (h2 : ¬ p → A) : if (!decide p) = true then A else B := by
  by_cases hp : p
  · rw [decide_eq_true hp]; exact h1 hp
  · rw [decide_eq_false hp]; exact h2 hp
theorem i_yes (hp : b = true) (h : A) : if b = true then A else B := by rw [hp]; exact h
theorem i_no (hp : b = false) (h : B) : if b = true then A else B := by rw [hp]; exact h
end
end AT
namespace AT
open PySem PySem.Spec PyProof.Rows L2
theorem w_mulW {H : Hp} {Q : VK} {i j : Int} {m n : Nat} (h1 : i.natAbs < 2 ^ m) (h2 : j.natAbs < 2 ^ n) (h0 : 0 < m) (h3 : 0 < n) (h4 : m + n ≤ 1000000) (k : Q (.int (i * j)) H) : rI CMulW (fun i j => .int (i * j)) (.int i) (.int j) H Q :=
  ⟨i, j, rfl, rfl, wide_mul h1 h2 h0 h3 h4, k⟩
end AT
namespace L2
open PySem PySem.Spec PyProof.Rows
theorem Same.seqT {K : PySem.W.Frag} {H H' : Hp} {a : Addr} {xs : List V} (e : Same H H') (h : SqT K H a xs) : SqT K H' a xs := by
  rcases h with (h | ⟨o, h⟩) | h
  · exact .inl (.inl (e _ _ h))
  · exact .inl (.inr ⟨o, e _ _ h⟩)
  · exact .inr h
end L2

end

section
/-! Making an object, methods and operators in a try: what is raised is wished for at the slots as they stand. -/
namespace AT
open PySem PySem.Spec PyProof.Rows L2
/-- C(e, ..) in a try -/
def rMakeS (C : Addr) (sp : Sp) (dvs : List V) (E : XK) : List V → Hp → VK → Prop := fun vs H1 Q => ∀ x dx, H1 x = none → H1 dx = none → dx ≠ x →
  sp (.ref x :: (vs ++ dvs)) (upd (upd H1 dx (.own x)) x (.ins C dx [])) (fun v H2 => v = .non ∧ Q (.ref x) H2) E
def tMakeS (C : Addr) (sp : Sp) (dvs : List V) (E : L2.St → XK) (t : TA) : TE := fun σ H Q => t σ H fun vs H1 => rMakeS C sp dvs (E σ) vs H1 Q
section
variable {X : Cx} {CX : CXT} {k : Nat} {f C : Addr} {fd : FuncData} {ps : List Str} {sp : Sp} {E : L2.St → XK} {x : Str} {p pos : Pos} {e : Expr} {es : List Expr} {t : TA} {dvs : List V} {ds : List Value}
theorem run_makeS {pins : List (Addr × Obj)} {σ : L2.St} {H : Hp} {s : Shared} {Q : VK} {us : List Value} {vs : List V} (M : Mk X.K C f) (F : FnOk X.prog X.w X.K X.mg X.base CX k f fd ps sp) (hr : Room (k + 1) X.A) (hb : Binds X.K fd ps ds) (hd : Vals dvs ds)
    (hx : PassesAt CX X σ (E σ)) (I : Inv X pins σ H s) (r : Vals vs us) (h : rMakeS C sp dvs (E σ) vs H Q) : wpAny (model X.prog X.w) X.A (call (.ref C) us) (EP X pins σ Q) X.xe s := by
  have hq := h (s.heap.objs.size + 1) s.heap.objs.size (I.hok.fresh (Nat.le_succ _)) (I.hok.fresh (Nat.le_refl _)) (Nat.ne_of_lt (Nat.lt_succ_self _))
  have J := Inv.made (C := C) I
  have r2 : Vals (V.ref (s.heap.objs.size + 1) :: (vs ++ dvs)) (Value.ref (s.heap.objs.size + 1) :: (us ++ ds)) := Paired.cons rfl (Vals.append r hd)
  have hl : (Value.ref (s.heap.objs.size + 1) :: us ++ ds).length = ps.length := (Vals.length r2).symm.trans (F.len _ _ _ _ hq)
  have bb := hb _ (Value.ref (s.heap.objs.size + 1) :: us) J.kIn hl
  refine wpAny_call (make_map (f := f) I.kIn M.makes M.init (beq_iff_eq.mp M.fn) (codeAny_mono (F.run _ X.stack _ _ ⟨Value.ref (s.heap.objs.size + 1) :: us, []⟩ (Value.ref (s.heap.objs.size + 1) :: (us ++ ds)) _ _ (E σ)
    (hr.make C us []) (J.env0.make C us []) bb r2 hq) fun q s1 z => ?_))
  cases q with
  | error er => exact hx pins _ _ er s1 J z
  | ok fl =>
    cases fl with
    | ret u =>
      obtain ⟨v, H2, I2, rv, ev, q2⟩ := J.after z
      subst ev
      exact ⟨rv, V.ref (s.heap.objs.size + 1), H2, I2, rfl, q2⟩
    | next => exact (show False from z).elim
    | brk => exact (show False from z).elim
    | cont => exact (show False from z).elim
theorem pe_makeS (M : Mk X.K C f) (F : FnOk X.prog X.w X.K X.mg X.base CX k f fd ps sp) (hr : Room (k + 1) X.A) (hg : Gl X x) (hm : X.mg x = some (.ref C)) (hb : Binds X.K fd ps ds) (hd : Vals dvs ds) (hx : ∀ σ, PassesAt CX X σ (E σ)) (ha : PA X (e :: es) t)
    (hdb : (x == ("__debug__" : Str)) = false := by decide) (hst : starEach (e :: es) X.env = (false, eval e X.env) :: starEach es X.env := by rfl) (hnp : (backTo pos (starEach es X.env)).any (·.1) = false := by rfl) :
    PE X (.Call (.Name x p) (e :: es) [] pos) (tMakeS C sp dvs E t) := by
  constructor
  intro pins s σ H Q I h
  refine wpAny_Call_Name_kw (ld_glob I hg hm ?_ hdb)
  refine PySem.W.callWith_K (h₀ := X.base) I.ok.mod.kin M.kp (thn (ha.run pos pins s σ H _ I h) fun us s1 q1 => ?_) hst hnp
  obtain ⟨vs, H1, I1, r, q⟩ := q1
  exact ⟨I1.kIn, run_makeS M F hr hb hd (hx σ) I1 r q⟩
/-- C(e, ..) with the made part named -/
theorem pe_makeR {E1 : XK} (M : Mk X.K C f) (F : FnOk X.prog X.w X.K X.mg X.base CX k f fd ps sp) (hr : Room (k + 1) X.A) (hg : Gl X x) (hm : X.mg x = some (.ref C)) (hb : Binds X.K fd ps ds) (hd : Vals dvs ds) (hx : Passes CX X E1) (ha : PA X (e :: es) t)
    (hdb : (x == ("__debug__" : Str)) = false := by decide) (hst : starEach (e :: es) X.env = (false, eval e X.env) :: starEach es X.env := by rfl) (hnp : (backTo pos (starEach es X.env)).any (·.1) = false := by rfl) :
    PE X (.Call (.Name x p) (e :: es) [] pos) (tMakeS C sp dvs (fun _ => E1) t) := pe_makeS M F hr hg hm hb hd (fun σ pins H s e s' I c => hx pins σ H s e s' I c) ha hdb hst hnp
theorem w_makeS {σ : L2.St} {H : Hp} {Q : VK} (h : t σ H fun vs H1 => rMakeS C sp dvs (E σ) vs H1 Q) : tMakeS C sp dvs E t σ H Q := h
end
theorem exm_own {K : PySem.W.Frag} {D C : Addr} {b : Bool} (h1 : PySem.W.subIn K (.ref C) (.type "BaseException") = some true) (h2 : PySem.W.isClsIn K C = true) (h3 : PySem.W.typeIn K (.ref C) = some (.type "type")) (h4 : PySem.W.subIn K (.ref D) (.ref C) = some b) :
    PySem.W.exmOne K (.ref D) (.ref C) = some b := by
  have h2' : (PySem.W.clsIn K C).isSome = true := h2
  unfold PySem.W.exmOne
  rw [h1, if_pos (by simp)]
  simp only [PySem.W.kitCls]
  rw [h2', h3, if_pos (by simp)]
  exact h4
/-- e.f of a caught error -/
abbrev rXf (a : Addr) (cls : Value) (d : Option Addr) (C : Addr) (f : Str) : V → Hp → VK → Prop := fun x H1 Q => x = .ref a ∧ cls = .ref C ∧ ∃ (dd : Addr) (fs : List (Str × V)) (v : V), d = some dd ∧ H1 dd = some (.xd fs) ∧ fs.lookup f = some v ∧ Q v H1
section
variable {σ : L2.St} {H : Hp} {Q : VK} {a C dd : Addr} {cls : Value} {d : Option Addr} {f g : Str} {te : TE} {fs : List (Str × V)} {v w : V} {K : PySem.W.Frag} {p q : Addr}
theorem w_xf (h : te σ H fun x H1 => rXf a cls d C f x H1 Q) : tXf a cls d C f te σ H Q := h
theorem n_xf (hd : H dd = some (.xd fs)) (hl : fs.lookup f = some v) (k : Q v H) : rXf a (.ref C) (some dd) C f (.ref a) H Q := ⟨rfl, rfl, dd, fs, v, rfl, hd, hl, k⟩
theorem lk_1 {r : List (Str × V)} : List.lookup f ((f, v) :: r) = some v := by simp
theorem lk_2 {r : List (Str × V)} (h : (g == f) = false) : List.lookup g ((f, v) :: (g, w) :: r) = some w := by
  rw [List.lookup_cons, h]
  simp
/-- == of lists of data -/
theorem n_eqD {d e : PyData} {x y : V} (h1 : Dp K H x d) (h2 : Dp K H y e) (s1 : SeqAt.shaped d = true) (s2 : SeqAt.shaped e = true) (k : Q (.bl (PyData.eqv d e)) H) : rEqD K x y H Q := ⟨d, e, h1, h2, s1, s2, k⟩
theorem n_neD {d e : PyData} {x y : V} (h1 : Dp K H x d) (h2 : Dp K H y e) (s1 : SeqAt.shaped d = true) (s2 : SeqAt.shaped e = true) (k : Q (.bl (!PyData.eqv d e)) H) : rNeD K x y H Q := ⟨d, e, h1, h2, s1, s2, k⟩
/-- is None, is not None -/
theorem n_isN {x : V} (k : Q (.bl (decide (x = .non))) H) : L2.rIsN x .non H Q := ⟨rfl, k⟩
theorem n_notN {x : V} (k : Q (.bl (!decide (x = .non))) H) : L2.rNotN x .non H Q := ⟨rfl, k⟩
end
end AT

end

section
/-! Fractions in lowest terms: plain arithmetic. -/
namespace AT
/-- smaller than 2 ^ n -/
def Bn (n : Nat) (i : Int) : Prop := i.natAbs < 2 ^ n
instance {n : Nat} {i : Int} : Decidable (Bn n i) := inferInstanceAs (Decidable (i.natAbs < 2 ^ n))
theorem Bn.mono {m n : Nat} {i : Int} (h : Bn m i) (l : m ≤ n) : Bn n i := Nat.lt_of_lt_of_le h (Nat.pow_le_pow_right (by decide) l)
theorem Bn.neg {n : Nat} {i : Int} (h : Bn n i) : Bn n (-i) := by unfold Bn at *; rw [Int.natAbs_neg]; exact h
theorem Bn.mul {m n : Nat} {i j : Int} (h : Bn m i) (l : Bn n j) : Bn (m + n) (i * j) := by
  unfold Bn at *
  rw [Int.natAbs_mul, Nat.pow_add]
  exact Nat.mul_lt_mul'' h l
theorem Bn.add {n : Nat} {i j : Int} (h : Bn n i) (l : Bn n j) : Bn (n + 1) (i + j) := by
  unfold Bn at *
  have := Int.natAbs_add_le i j
  rw [Nat.pow_succ]
  omega
theorem Bn.sub {n : Nat} {i j : Int} (h : Bn n i) (l : Bn n j) : Bn (n + 1) (i - j) := by
  rw [Int.sub_eq_add_neg]
  exact h.add l.neg
theorem Bn.le {n : Nat} {i j : Int} (h : Bn n j) (l : i.natAbs ≤ j.natAbs) : Bn n i := Nat.lt_of_le_of_lt l h
theorem Bn.pos {n : Nat} {i : Int} (h : Bn n i) : 0 ≤ n := Nat.zero_le _
theorem Bn.log {n : Nat} {i : Int} (h : Bn n i) (h0 : 0 < n) : i.natAbs.log2 < n := by
  unfold Bn at h
  by_cases hz : i.natAbs = 0
  · rw [hz]; simpa using h0
  · exact (Nat.log2_lt hz).mpr h
theorem Bn.log' {n m : Nat} {i : Int} (h : Bn n i) (h0 : n < m) : i.natAbs.log2 < m := Bn.log (h.mono (Nat.le_of_lt h0)) (by omega)
theorem Bn.nat {n k : Nat} (h : k < 2 ^ n) : Bn n (k : Int) := by unfold Bn; simpa using h
theorem Bn.abs {n : Nat} {i : Int} (h : Bn n i) : Bn n (i.natAbs : Int) := by unfold Bn at *; simpa using h

/-! ### one step of the common divisor -/
theorem rest_eq {a b : Int} (hb : 0 < b) : a - b * (a.fdiv b) = a % b := by
  rw [Int.fdiv_eq_ediv_of_nonneg a (by omega)]
  have := Int.emod_add_mul_ediv a b
  omega
theorem gcd_step {a b : Int} (hb : 0 < b) : Int.gcd b (a - b * (a.fdiv b)) = Int.gcd a b := by
  have e : a - b * (a.fdiv b) = a + b * (-(a.fdiv b)) := by rw [Int.mul_neg]; omega
  rw [e, Int.gcd_comm, Int.gcd_add_mul_left_left]
theorem abs_if (i : Int) : (if i < 0 then -i else i) = (i.natAbs : Int) := by split <;> omega

/-! ### lowest terms -/
theorem fdiv_dvd {a g : Int} (hg : g ≠ 0) (h : g ∣ a) : a.fdiv g * g = a := by
  exact Int.fdiv_mul_cancel_of_dvd h
theorem fdiv_eq {a g k : Int} (hg : g ≠ 0) (h : a = k * g) : a.fdiv g = k := by
  subst h
  exact Int.mul_fdiv_cancel k hg
/-- the part that is divided out -/
def part (t b : Int) : Int := if b < 0 then -(Int.gcd t b : Int) else (Int.gcd t b : Int)
theorem part_ne {t b : Int} (hb : b ≠ 0) : part t b ≠ 0 := by
  have h : Int.gcd t b ≠ 0 := fun e => hb (Int.gcd_eq_zero_iff.mp e).2
  unfold part
  split <;> omega
theorem num_eq {t b : Int} (hb : b ≠ 0) : t.fdiv (part t b) = (Rat.divInt t b).num := by
  obtain ⟨k, hk⟩ : ((Int.gcd t b : Nat) : Int) ∣ t := Int.gcd_dvd_left t b
  have h : (Int.gcd t b : Int) ≠ 0 := by
    have : Int.gcd t b ≠ 0 := fun e => hb (Int.gcd_eq_zero_iff.mp e).2
    omega
  rw [Rat.num_divInt, Int.gcd_comm b t]
  unfold part
  split
  · rename_i hn
    rw [Int.sign_eq_neg_one_of_neg hn]
    have e1 : t.fdiv (-(Int.gcd t b : Int)) = -k := fdiv_eq (by omega) (by rw [Int.neg_mul_neg, Int.mul_comm]; exact hk)
    rw [e1]
    refine (Int.ediv_eq_of_eq_mul_left h ?_).symm
    rw [Int.neg_mul, Int.one_mul, Int.neg_mul, Int.mul_comm k, ← hk]
  · rename_i hn
    have hp : 0 < b := by omega
    rw [Int.sign_eq_one_of_pos hp, Int.one_mul]
    have e1 : t.fdiv (Int.gcd t b : Int) = k := fdiv_eq h (by rw [Int.mul_comm]; exact hk)
    rw [e1]
    refine (Int.ediv_eq_of_eq_mul_left h ?_).symm
    rw [Int.mul_comm, ← hk]
theorem den_eq {t b : Int} (hb : b ≠ 0) : b.fdiv (part t b) = ((Rat.divInt t b).den : Int) := by
  obtain ⟨k, hk⟩ : ((Int.gcd t b : Nat) : Int) ∣ b := Int.gcd_dvd_right t b
  have h : (Int.gcd t b : Int) ≠ 0 := by
    have : Int.gcd t b ≠ 0 := fun e => hb (Int.gcd_eq_zero_iff.mp e).2
    omega
  rw [Rat.den_divInt, if_neg hb, Int.gcd_comm b t, Int.natCast_ediv]
  unfold part
  split
  · rename_i hn
    have e1 : b.fdiv (-(Int.gcd t b : Int)) = -k := fdiv_eq (by omega) (by rw [Int.neg_mul_neg, Int.mul_comm]; exact hk)
    rw [e1]
    refine (Int.ediv_eq_of_eq_mul_left h ?_).symm
    have : (b.natAbs : Int) = -b := by omega
    rw [this, Int.neg_mul, Int.mul_comm k, ← hk]
  · rename_i hn
    have e1 : b.fdiv (Int.gcd t b : Int) = k := fdiv_eq h (by rw [Int.mul_comm]; exact hk)
    rw [e1]
    refine (Int.ediv_eq_of_eq_mul_left h ?_).symm
    have : (b.natAbs : Int) = b := by omega
    rw [this, Int.mul_comm k, ← hk]
theorem den_pos (q : Rat) : 0 < (q.den : Int) := by have := q.den_pos; omega
theorem gcd_low (q : Rat) : Int.gcd q.num q.den = 1 := q.reduced
/-- as a fraction the two are the same -/
theorem cross {t b : Int} (hb : b ≠ 0) : (Rat.divInt t b).num * b = t * ((Rat.divInt t b).den : Int) := by
  have h1 := num_eq (t := t) hb
  have h2 := den_eq (t := t) hb
  have hp := part_ne (t := t) hb
  have d1 : part t b ∣ t := by
    have := Int.gcd_dvd_left t b
    unfold part
    split
    · exact (Int.neg_dvd).mpr this
    · exact this
  have d2 : part t b ∣ b := by
    have := Int.gcd_dvd_right t b
    unfold part
    split
    · exact (Int.neg_dvd).mpr this
    · exact this
  have e1 := fdiv_dvd hp d1
  have e2 := fdiv_dvd hp d2
  rw [h1] at e1
  rw [h2] at e2
  generalize (Rat.divInt t b).num = n at *
  generalize ((Rat.divInt t b).den : Int) = d at *
  generalize part t b = p at *
  subst e1
  rw [← e2]
  grind
theorem num_le {t b : Int} (hb : b ≠ 0) : (Rat.divInt t b).num.natAbs ≤ t.natAbs := by
  have h1 := num_eq (t := t) hb
  have d1 : part t b ∣ t := by
    have := Int.gcd_dvd_left t b
    unfold part
    split
    · exact (Int.neg_dvd).mpr this
    · exact this
  have e1 := fdiv_dvd (part_ne (t := t) hb) d1
  rw [h1] at e1
  have := part_ne (t := t) hb
  have e2 := congrArg Int.natAbs e1
  rw [Int.natAbs_mul] at e2
  have hpp : 0 < (part t b).natAbs := Int.natAbs_pos.mpr this
  rw [← e2]
  exact Nat.le_mul_of_pos_right _ hpp
theorem den_le {t b : Int} (hb : b ≠ 0) : (Rat.divInt t b).den ≤ b.natAbs := by
  have h1 := den_eq (t := t) hb
  have d1 : part t b ∣ b := by
    have := Int.gcd_dvd_right t b
    unfold part
    split
    · exact (Int.neg_dvd).mpr this
    · exact this
  have e1 := fdiv_dvd (part_ne (t := t) hb) d1
  rw [h1] at e1
  have := part_ne (t := t) hb
  have e2 := congrArg Int.natAbs e1
  rw [Int.natAbs_mul, Int.natAbs_natCast] at e2
  have hpp : 0 < (part t b).natAbs := Int.natAbs_pos.mpr this
  rw [← e2]
  exact Nat.le_mul_of_pos_right _ hpp
end AT
namespace AT
theorem fdiv_abs {a b : Int} (hb : 0 < b) (ha : 0 ≤ a) : (a.fdiv b).natAbs ≤ a.natAbs := by
  rw [Int.fdiv_eq_ediv_of_nonneg a (by omega)]
  have h1 := Int.ediv_nonneg ha (by omega : 0 ≤ b)
  have h2 := Int.ediv_le_self b ha
  omega
end AT
namespace AT
theorem part_bn {n : Nat} {t b : Int} (ht : Bn n t) (hb : Bn n b) (h0 : b ≠ 0) : Bn n (part t b) := by
  have h1 : (Int.gcd t b : Int).natAbs ≤ b.natAbs := by
    rw [Int.natAbs_natCast]
    exact Nat.le_of_dvd (by omega) (Int.gcd_dvd_natAbs_right t b)
  unfold part
  split
  · exact (hb.le h1).neg
  · exact hb.le h1
end AT
namespace AT
theorem bn_of {n : Nat} {m i : Int} (hm : Bn n m) (h1 : -m ≤ i) (h2 : i ≤ m) : Bn n i := hm.le (by omega)
theorem divInt_neg {t b : Int} : Rat.divInt (-t) (-b) = Rat.divInt t b := Rat.neg_divInt_neg t b
theorem divInt_one {t : Int} : Rat.divInt t 1 = (t : Rat) := by rw [Rat.divInt_eq_div]; grind
end AT
namespace AT
theorem qd (q : Rat) : q = Rat.divInt q.num q.den := by rw [Rat.divInt_ofNat, Rat.mkRat_self]
theorem dne (q : Rat) : (q.den : Int) ≠ 0 := by have := q.den_nz; omega
theorem add_eq (q r : Rat) : Rat.divInt (q.num * r.den + r.num * q.den) (q.den * r.den) = q + r := by
  conv => rhs; rw [qd q, qd r, Rat.divInt_add_divInt _ _ (dne q) (dne r)]
theorem sub_eq (q r : Rat) : Rat.divInt (q.num * r.den - r.num * q.den) (q.den * r.den) = q - r := by
  conv => rhs; rw [qd q, qd r, Rat.divInt_sub_divInt _ _ (dne q) (dne r)]
theorem mul_eq (q r : Rat) : Rat.divInt (q.num * r.num) (q.den * r.den) = q * r := by
  conv => rhs; rw [qd q, qd r, Rat.divInt_mul_divInt _ _]
theorem addI_eq (q : Rat) (i : Int) : Rat.divInt (q.num + i * q.den) q.den = q + (i : Rat) := by
  have h := add_eq q i
  rw [Rat.num_intCast, Rat.den_intCast] at h
  simpa using h
theorem subI_eq (q : Rat) (i : Int) : Rat.divInt (q.num - i * q.den) q.den = q - (i : Rat) := by
  have h := sub_eq q i
  rw [Rat.num_intCast, Rat.den_intCast] at h
  simpa using h
theorem rsubI_eq (q : Rat) (i : Int) : Rat.divInt (i * q.den - q.num) q.den = (i : Rat) - q := by
  have h := sub_eq i q
  rw [Rat.num_intCast, Rat.den_intCast] at h
  simpa using h
theorem mulI_eq (q : Rat) (i : Int) : Rat.divInt (q.num * i) q.den = q * (i : Rat) := by
  have h := mul_eq q i
  rw [Rat.num_intCast, Rat.den_intCast] at h
  simpa using h
end AT
namespace AT
theorem fdiv_scale {a b c : Int} (hc : c ≠ 0) : (a * c).fdiv (b * c) = a.fdiv b := by
  rcases Int.lt_or_gt_of_ne hc with h | h
  · have e : (a * c).fdiv (b * c) = (a * (-c)).fdiv (b * (-c)) := by
      rw [Int.mul_neg, Int.mul_neg, Int.neg_fdiv_neg]
    rw [e, Int.mul_comm a, Int.mul_comm b]
    exact Int.mul_fdiv_mul_of_pos _ _ (by omega)
  · rw [Int.mul_comm a, Int.mul_comm b]
    exact Int.mul_fdiv_mul_of_pos _ _ h
theorem fdiv_cross {a b c d : Int} (hb : b ≠ 0) (hd : d ≠ 0) (e : a * d = c * b) : a.fdiv b = c.fdiv d := by
  rw [← fdiv_scale (a := a) (b := b) hd, ← fdiv_scale (a := c) (b := d) hb, e, Int.mul_comm b d]
theorem fdiv_small {a b : Int} : (a.fdiv b).natAbs ≤ a.natAbs := by
  by_cases hb : b = 0
  · subst hb; simp
  have key : ∀ {a b : Int}, 0 < b → (a.fdiv b).natAbs ≤ a.natAbs := by
    intro a b hb
    rw [Int.fdiv_eq_ediv_of_nonneg _ (by omega)]
    rcases (by omega : a < 0 ∨ 0 ≤ a) with h | h
    · have h1 : a / b < 0 := Int.ediv_neg_of_neg_of_pos h hb
      have h2 : a ≤ a / b := by
        apply Int.le_ediv_of_mul_le hb
        have : a * b ≤ a * 1 := Int.mul_le_mul_of_nonpos_left (by omega) (by omega)
        omega
      omega
    · have h1 : 0 ≤ a / b := Int.ediv_nonneg h (by omega)
      have h2 : a / b ≤ a := Int.ediv_le_self _ h
      omega
  rcases Int.lt_or_gt_of_ne hb with h | h
  · have := key (a := -a) (b := -b) (by omega)
    rw [Int.neg_fdiv_neg] at this
    omega
  · exact key h
/-- floor of the quotient -/
def fl (q r : Rat) : Int := (q.num * r.den).fdiv (q.den * r.num)
theorem flI_eq (q : Rat) (i : Int) : q.num.fdiv (q.den * i) = fl q (i : Rat) := by unfold fl; simp
theorem rflI_eq (q : Rat) (i : Int) : (i * q.den).fdiv q.num = fl (i : Rat) q := by unfold fl; simp
theorem rat_num0 {t b : Int} (hb : b ≠ 0) : (Rat.divInt t b).num = 0 ↔ t = 0 := by
  have c := cross (t := t) hb
  have d := den_pos (Rat.divInt t b)
  constructor
  · intro h
    rw [h, Int.zero_mul] at c
    rcases Int.mul_eq_zero.mp c.symm with h | h
    · exact h
    · omega
  · intro h
    subst h
    rw [Int.zero_mul] at c
    rcases Int.mul_eq_zero.mp c with h | h
    · exact h
    · exact absurd h hb
theorem fl_div {t b t' b' : Int} (hb : b ≠ 0) (hb' : b' ≠ 0) (ht' : t' ≠ 0) : fl (Rat.divInt t b) (Rat.divInt t' b') = (t * b').fdiv (b * t') := by
  have c1 := cross (t := t) hb
  have c2 := cross (t := t') hb'
  have d1 := den_pos (Rat.divInt t b)
  have d2 := den_pos (Rat.divInt t' b')
  have n2 : (Rat.divInt t' b').num ≠ 0 := fun h => ht' ((rat_num0 hb').mp h)
  unfold fl
  generalize (Rat.divInt t b).num = n at *
  generalize ((Rat.divInt t b).den : Int) = d at *
  generalize (Rat.divInt t' b').num = n' at *
  generalize ((Rat.divInt t' b').den : Int) = d' at *
  refine fdiv_cross (Int.mul_ne_zero (by omega) n2) (Int.mul_ne_zero hb ht') ?_
  have e1 : n * d' * (b * t') = (n * b) * (t' * d') := by ac_rfl
  have e2 : t * b' * (d * n') = (t * d) * (n' * b') := by ac_rfl
  rw [e1, e2, c1, c2]
theorem bn_fl {q r : Rat} {m n : Nat} (h1 : Bn m q.num) (h2 : Bn n (r.den : Int)) : Bn (m + n) (fl q r) := (h1.mul h2).le fdiv_small
end AT
namespace AT
theorem lt_num (q r : Rat) : q < r ↔ q.num * r.den < r.num * q.den := Rat.lt_iff q r
/-- the sign of a difference of two quotients -/
theorem sgn {t b t' b' : Int} (h : b ≠ 0) (h' : b' ≠ 0) : ∃ m : Int, 0 < m ∧ ∃ m' : Int, 0 < m' ∧ ((t * b' - t' * b) * b * b') * m = ((Rat.divInt t b).num * ((Rat.divInt t' b').den : Int) - (Rat.divInt t' b').num * ((Rat.divInt t b).den : Int)) * m' := by
  have c1 := cross (t := t) h
  have c2 := cross (t := t') h'
  have d1 := den_pos (Rat.divInt t b)
  have d2 := den_pos (Rat.divInt t' b')
  generalize (Rat.divInt t b).num = n at *
  generalize ((Rat.divInt t b).den : Int) = d at *
  generalize (Rat.divInt t' b').num = n' at *
  generalize ((Rat.divInt t' b').den : Int) = d' at *
  refine ⟨d * d', Int.mul_pos d1 d2, (b * b') * (b * b'), ?_, ?_⟩
  · have z := Int.mul_ne_zero h h'
    rcases Int.lt_or_gt_of_ne z with z | z
    · exact Int.mul_pos_of_neg_of_neg z z
    · exact Int.mul_pos z z
  · have e1 : (t * b' - t' * b) * b * b' * (d * d') = (t * d) * (b' * b * b' * d') - (t' * d') * (b * b * b' * d) := by
      rw [Int.sub_mul, Int.sub_mul, Int.sub_mul]
      congr 1 <;> ac_rfl
    have e2 : (n * d' - n' * d) * (b * b' * (b * b')) = (n * b) * (b' * b * b' * d') - (n' * b') * (b * b * b' * d) := by
      rw [Int.sub_mul]
      congr 1 <;> ac_rfl
    rw [e1, e2, c1, c2]
theorem sgn_lt {t b t' b' : Int} (h : b ≠ 0) (h' : b' ≠ 0) : (t * b' - t' * b) * b * b' < 0 ↔ Rat.divInt t b < Rat.divInt t' b' := by
  obtain ⟨m, hm, m', hm', e⟩ := sgn (t := t) (t' := t') h h'
  rw [lt_num]
  generalize (t * b' - t' * b) * b * b' = s at *
  generalize (Rat.divInt t b).num * ((Rat.divInt t' b').den : Int) = x at *
  generalize (Rat.divInt t' b').num * ((Rat.divInt t b).den : Int) = y at *
  constructor
  · intro hs
    have : (x - y) * m' < 0 := by rw [← e]; exact Int.mul_neg_of_neg_of_pos hs hm
    have := Int.neg_of_mul_neg_left this (by omega)
    omega
  · intro hs
    have : s * m < 0 := by rw [e]; exact Int.mul_neg_of_neg_of_pos (by omega) hm'
    exact Int.neg_of_mul_neg_left this (by omega)
theorem rat_eq_num (q r : Rat) : q = r ↔ q.num * r.den = r.num * q.den := by
  constructor
  · rintro rfl; rfl
  · intro h
    refine Rat.le_antisymm ?_ ?_
    · rw [Rat.le_iff]; omega
    · rw [Rat.le_iff]; omega
theorem sgn_eq {t b t' b' : Int} (h : b ≠ 0) (h' : b' ≠ 0) : (t * b' - t' * b) * b * b' = 0 ↔ Rat.divInt t b = Rat.divInt t' b' := by
  obtain ⟨m, hm, m', hm', e⟩ := sgn (t := t) (t' := t') h h'
  rw [rat_eq_num]
  generalize (t * b' - t' * b) * b * b' = s at *
  generalize (Rat.divInt t b).num * ((Rat.divInt t' b').den : Int) = x at *
  generalize (Rat.divInt t' b').num * ((Rat.divInt t b).den : Int) = y at *
  constructor
  · intro hs
    subst hs
    rw [Int.zero_mul] at e
    rcases Int.mul_eq_zero.mp e.symm with h | h <;> omega
  · intro hs
    have : x - y = 0 := by omega
    rw [this, Int.zero_mul] at e
    rcases Int.mul_eq_zero.mp e with h | h <;> omega
/-- the sign s tells how q stands to r -/
structure Sgn (q r : Rat) (s : Int) : Prop where
  lt : s < 0 ↔ q < r
  eq : s = 0 ↔ q = r
theorem Sgn.of {t b t' b' : Int} (h : b ≠ 0) (h' : b' ≠ 0) : Sgn (Rat.divInt t b) (Rat.divInt t' b') ((t * b' - t' * b) * b * b') := ⟨sgn_lt h h', sgn_eq h h'⟩
theorem Sgn.gt {q r : Rat} {s : Int} (h : Sgn q r s) : s > 0 ↔ r < q := by
  constructor
  · intro hs
    have h1 : ¬ q < r := fun z => by have := h.lt.mpr z; omega
    have h2 : ¬ q = r := fun z => by have := h.eq.mpr z; omega
    rw [Rat.not_lt] at h1
    exact Rat.lt_iff_le_and_ne.mpr ⟨h1, fun e => h2 e.symm⟩
  · intro hs
    have h1 : ¬ s < 0 := fun z => Rat.not_lt.mpr (Rat.le_iff_lt_or_eq.mpr (.inl hs)) (h.lt.mp z)
    have h2 : ¬ s = 0 := fun z => by rw [h.eq.mp z] at hs; exact Rat.lt_irrefl hs
    omega
theorem Sgn.le {q r : Rat} {s : Int} (h : Sgn q r s) : s ≤ 0 ↔ q ≤ r := by
  rw [← Rat.not_lt, ← h.gt]; omega
theorem Sgn.ge {q r : Rat} {s : Int} (h : Sgn q r s) : s ≥ 0 ↔ r ≤ q := by
  rw [← Rat.not_lt, ← h.lt]; omega
theorem Sgn.swap {q r : Rat} {s : Int} (h : Sgn q r s) : Sgn r q (-s) := ⟨by rw [← h.gt]; omega, by rw [eq_comm (a := r), ← h.eq]; omega⟩
theorem ltI (q : Rat) (i : Int) : q.num < i * q.den ↔ q < (i : Rat) := by rw [lt_num]; simp
theorem leI (q : Rat) (i : Int) : q.num ≤ i * q.den ↔ q ≤ (i : Rat) := by rw [Rat.le_iff]; simp
theorem gtI (q : Rat) (i : Int) : q.num > i * q.den ↔ (i : Rat) < q := by rw [lt_num]; simp
theorem geI (q : Rat) (i : Int) : q.num ≥ i * q.den ↔ (i : Rat) ≤ q := by rw [Rat.le_iff]; simp
end AT
namespace AT
theorem neg_eq (q : Rat) : Rat.divInt (-q.num) q.den = -q := by
  conv => rhs; rw [qd q]
  exact (Rat.neg_divInt _ _).symm
theorem neg_div {t b : Int} : -(Rat.divInt t b) = Rat.divInt (-t) b := Rat.neg_divInt _ _
theorem dvC {t b t' b' : Int} : Rat.divInt t b * Rat.divInt t' b' = Rat.divInt (t * t') (b * b') := Rat.divInt_mul_divInt _ _
theorem pow_div {t b : Int} : ∀ n : Nat, (Rat.divInt t b) ^ n = Rat.divInt (t ^ n) (b ^ n)
  | 0 => by rw [Rat.pow_zero, Int.pow_zero, Int.pow_zero, divInt_one]; rfl
  | n + 1 => by rw [Rat.pow_succ, pow_div n, dvC, ← Int.pow_succ, ← Int.pow_succ]
theorem pow_ne {b : Int} (h : b ≠ 0) : ∀ n : Nat, b ^ n ≠ 0
  | 0 => by simp
  | n + 1 => by rw [Int.pow_succ]; exact Int.mul_ne_zero (pow_ne h n) h
theorem bn_pow {m : Nat} {t : Int} (h : Bn m t) : ∀ n : Nat, Bn (m * n + 1) (t ^ n)
  | 0 => by rw [Int.pow_zero, Nat.mul_zero]; decide
  | n + 1 => by
    rw [Int.pow_succ]
    exact ((bn_pow h n).mul h).mono (by rw [Nat.mul_succ]; omega)
theorem quo_eq {t b t' b' : Int} (h : b ≠ 0) (h' : b' ≠ 0) (n : t' ≠ 0) : Rat.divInt ((Rat.divInt t b).num * (Rat.divInt t' b').den) ((Rat.divInt t b).den * (Rat.divInt t' b').num) = Rat.divInt (t * b') (b * t') := by
  have c1 := cross (t := t) h
  have c2 := cross (t := t') h'
  have d1 := den_pos (Rat.divInt t b)
  have d2 := den_pos (Rat.divInt t' b')
  have n2 : (Rat.divInt t' b').num ≠ 0 := fun e => n ((rat_num0 h').mp e)
  generalize (Rat.divInt t b).num = x at *
  generalize ((Rat.divInt t b).den : Int) = d at *
  generalize (Rat.divInt t' b').num = x' at *
  generalize ((Rat.divInt t' b').den : Int) = d' at *
  rw [Rat.divInt_eq_divInt_iff (Int.mul_ne_zero (by omega) n2) (Int.mul_ne_zero h n)]
  have e1 : x * d' * (b * t') = (x * b) * (t' * d') := by ac_rfl
  have e2 : t * b' * (d * x') = (t * d) * (x' * b') := by ac_rfl
  rw [e1, e2, c1, c2]
theorem abs_div {t b : Int} (h : b ≠ 0) {s : Int} (hs : if t * b < 0 then s = -1 else s = 1) : Rat.divInt ((Rat.divInt t b).num.natAbs : Int) (Rat.divInt t b).den = Rat.divInt (s * t) b := by
  have c := cross (t := t) h
  have d := den_pos (Rat.divInt t b)
  have q := qd (Rat.divInt t b)
  have bb : 0 < b * b := by
    rcases Int.lt_or_gt_of_ne h with z | z
    · exact Int.mul_pos_of_neg_of_neg z z
    · exact Int.mul_pos z z
  have key : (Rat.divInt t b).num * (b * b) = (t * b) * (Rat.divInt t b).den := by
    rw [← Int.mul_assoc, c]; ac_rfl
  by_cases z : t * b < 0
  · rw [if_pos z] at hs
    subst hs
    have hn : (Rat.divInt t b).num < 0 := by
      have : (Rat.divInt t b).num * (b * b) < 0 := by rw [key]; exact Int.mul_neg_of_neg_of_pos z d
      exact Int.neg_of_mul_neg_left this (by omega)
    have e : ((Rat.divInt t b).num.natAbs : Int) = -(Rat.divInt t b).num := by omega
    rw [e, neg_eq, neg_div, Int.neg_mul, Int.one_mul]
  · rw [if_neg z] at hs
    subst hs
    have hn : 0 ≤ (Rat.divInt t b).num := by
      have : 0 ≤ (Rat.divInt t b).num * (b * b) := by rw [key]; exact Int.mul_nonneg (by omega) (by omega)
      rcases (by omega : (Rat.divInt t b).num < 0 ∨ 0 ≤ (Rat.divInt t b).num) with w | w
      · have := Int.mul_neg_of_neg_of_pos w bb
        omega
      · exact w
    have e : ((Rat.divInt t b).num.natAbs : Int) = (Rat.divInt t b).num := by omega
    rw [e, ← q, Int.one_mul]
end AT

end

section
/-! Operators of an own class in a try; two readings of one operator. -/
namespace AT
open PySem PySem.Spec PyProof.Rows L2
/-- an operation at slots that are told -/
def OpRA (X : Cx) (σ : L2.St) (f : Value → Value → Sem Value) (r : R2) : Prop :=
  ∀ (pins : List (Addr × Obj)) (s : Shared) (H : Hp) (x y : V) (v u : Value) (Q : VK), Inv X pins σ H s → RelV x v → RelV y u → r x y H Q →
    wpAny (model X.prog X.w) X.A (f v u) (EP X pins σ Q) X.xe s
def tOpS (r : L2.St → R2) (ta tb : TE) : TE := fun σ H Q => ta σ H fun x H1 => tb σ H1 fun y H2 => r σ x y H2 Q
def rOr2 (r r' : R2) : R2 := fun x y H Q => r x y H Q ∨ r' x y H Q
section
variable {X : Cx} {CX : CXT} {C l r : Addr} {fd fd' : FuncData} {ps ps' : List Str} {n : Nat} {sp sp' : Sp} {E E' : XK} {op : Operator} {σ : L2.St} {f : Value → Value → Sem Value} {a b : Expr} {ta tb : TE} {pos : Pos} {W : WX}
theorem pe_opS {r : L2.St → R2} (ho : ∀ σ, OpRA X σ (binaryOp op) (r σ)) (ha : PE X a ta) (hb : PE X b tb) : PE X (.BinOp a op b pos) (tOpS r ta tb) := by
  refine ⟨fun pins s σ H Q I h => ?_⟩
  exact wpAny_BinOp (binT ha hb I h fun v u s2 x y H2 I2 rx ry q => ho σ pins s2 H2 x y v u Q I2 rx ry q)
theorem w_opS {r : L2.St → R2} {H : Hp} {Q : VK} (h : ta σ H fun x H1 => tb σ H1 fun y H2 => r σ x y H2 Q) : tOpS r ta tb σ H Q := h
theorem OpRA.or {r r' : R2} (h : OpRA X σ f r) (h' : OpRA X σ f r') : OpRA X σ f (rOr2 r r') := fun pins s H x y v u Q I rx ry q => q.elim (h pins s H x y v u Q I rx ry) (h' pins s H x y v u Q I rx ry)
theorem OpR.or {r r' : R2} (h : OpR X f r) (h' : OpR X f r') : OpR X f (rOr2 r r') := fun pins s σ H x y v u Q I rx ry q => q.elim (h pins s σ H x y v u Q I rx ry) (h' pins s σ H x y v u Q I rx ry)
theorem run_twoA {g : Addr} {pins : List (Addr × Obj)} {H : Hp} {s : Shared} {Q : VK} {x y : V} {u v : Value} (F : FnOk X.prog X.w X.K X.mg X.base CX n g fd ps sp) (hr : Room n X.A) (hb : Binds X.K fd ps []) (hx : PassesAt CX X σ E) (I : Inv X pins σ H s)
    (rx : RelV x u) (ry : RelV y v) (h : sp [x, y] H Q E) : wpAny (model X.prog X.w) X.A (call (.ref g) [u, v]) (PySem.W.CmpBack (EP X pins σ Q)) X.xe s := by
  have z : wpAny (model X.prog X.w) X.A (call (.ref g) [u, v]) (EP X pins σ Q) X.xe s := run_fnS (E := fun _ => E) (us := [u, v]) (vs := [x, y]) F hr hb hx I (.cons rx (.cons ry .nil)) h
  refine thn z fun w s' q => ?_
  obtain ⟨z', H', I', rz, qz⟩ := q
  exact SlX.cmpback rz ⟨z', H', I', rz, qz⟩
theorem opA_ins (o : OwnC X.K C) (i : IntOp X.K C op l r) (F : FnOk X.prog X.w X.K X.mg X.base CX n l fd ps sp) (hr : Room n X.A) (hb : Binds X.K fd ps []) (hx : PassesAt CX X σ E) : OpRA X σ (binaryOp op) (rIns C sp E) := by
  intro pins s H x y v u Q I rx ry h
  obtain ⟨a, dx, fs, rfl, ha, hy, q⟩ := h
  obtain ⟨rc, e1, e2⟩ := i.rc
  obtain ⟨fo, h1⟩ := i.h1
  obtain ⟨ro, h2⟩ := i.h2
  cases (show v = Value.ref a from rx)
  obtain ⟨od, J⟩ := inst_at I ha
  rcases hy with ⟨j, rfl⟩ | ⟨b, dy, gs, rfl, hb'⟩
  · obtain ⟨t, rfl⟩ := (show ∃ t, u = Value.int j t from ry)
    obtain ⟨mm, hF⟩ := I.fr
    exact PySem.W.ksp_binT hF I.ok.mod.kin J rfl o.first i.ml.at_ i.ml.fn e1 e2 h1 h2 i.hs (run_twoA F hr hb hx I rel_ref rel_int q)
  · cases (show u = Value.ref b from ry)
    obtain ⟨od', J'⟩ := inst_at I hb'
    exact bin_same I.kIn J J' o.first i.ml.at_ i.ml.fn (run_twoA F hr hb hx I rel_ref rel_ref q)
theorem opA_intIns {lo : Addr} (d : IntDeclines op) (o : OwnC X.K C) (hl : PySem.W.findIn X.K (.ref C) (PySem.dunder op.info.2) = some (some (.ref lo))) (m : OwnM X.K C l (dunderR op.info.2))
    (F : FnOk X.prog X.w X.K X.mg X.base CX n l fd ps sp) (hr : Room n X.A) (hb : Binds X.K fd ps []) (hx : PassesAt CX X σ E) : OpRA X σ (binaryOp op) (rIntIns C sp E) := by
  intro pins s H x y v u Q I rx ry h
  obtain ⟨i, b, dy, gs, rfl, rfl, hb', q⟩ := h
  obtain ⟨t, rfl⟩ := (show ∃ t, v = Value.int i t from rx)
  cases (show u = Value.ref b from ry)
  obtain ⟨od, J⟩ := inst_at I hb'
  obtain ⟨hfi, id, B, slot, entry, dd⟩ := d
  exact bin_refl I.kIn J o.first hl m.at_ m.fn o.notInt hfi slot entry (dd i t b).1 (dd i t b).2 (run_twoA F hr hb hx I rel_ref rel_int q)
theorem passX (tk : Takes X (fun cls d _ H => E cls d H)) : Passes (L2.CX X.prog X.w) X E := L2.passes_call tk fun _ _ _ _ h => h
theorem exm_ZDE {K : PySem.W.Frag} : PySem.W.exmOne K (.type "ZeroDivisionError") (.type "ZeroDivisionError") = some true := by kernel_rfl
/-- // that may be by zero, named -/
def rFdX (W : XK) : R2 := fun x y H Q => ∃ i j, x = .int i ∧ y = .int j ∧ ((j ≠ 0 ∧ j.natAbs.log2 < 9000 ∧ Q (.int (i.fdiv j)) H) ∨ (j = 0 ∧ ∀ d, W (.type "ZeroDivisionError") d H))
theorem op_fdX {W : XK} (hc : X.calm = true) (tk : Takes X (fun cls d _ H => W cls d H)) : OpR X (binaryOp .FloorDiv) (rFdX W) := op_fdivX hc tk
theorem w_fdX {W : XK} {H : Hp} {Q : VK} {i j : Int} (h0 : j = 0 → ∀ d, W (.type "ZeroDivisionError") d H) (hl : Bn 8900 j) (h : j ≠ 0 → Q (.int (i.fdiv j)) H) : rFdX W (.int i) (.int j) H Q := by
  by_cases e : j = 0
  · exact ⟨i, j, rfl, rfl, .inr ⟨e, h0 e⟩⟩
  · exact ⟨i, j, rfl, rfl, .inl ⟨e, hl.log' (by decide), h e⟩⟩
/-- isinstance(x, (c1, ..)) -/
theorem w_isiT {K : PySem.W.Frag} {x : V} {tp : Addr} {cs : List V} {t : Value} {us : List Value} {b : Bool} {H : Hp} {Q : VK} (u : H tp = some (.tup cs)) (k : Paired ClsV cs us) (ty : TyX K H x t) (e : PySem.W.kitAny K t us = some b) (h : Q (.bl b) H) : rIsiT K [x, .ref tp] H Q := ⟨x, tp, cs, t, us, b, rfl, u, k, ty, e, h⟩
theorem kitAny_hit {K : PySem.W.Frag} {t c : Value} {r : List Value} (h : PySem.W.kitOne K t c = some true) : PySem.W.kitAny K t (c :: r) = some true := by
  unfold PySem.W.kitAny
  rw [h]
theorem kitAny_miss {K : PySem.W.Frag} {t c : Value} {r : List Value} {b : Bool} (h : PySem.W.kitOne K t c = some false) (h' : PySem.W.kitAny K t r = some b) : PySem.W.kitAny K t (c :: r) = some b := by
  conv => lhs; unfold PySem.W.kitAny
  rw [h]
  exact h'
end
/-- a list comprehension -/
theorem w_lc {wi : TI} {g : TG} {tt : TT} {te : TE} {vs : List Nat} {σ : L2.St} {H : Hp} {Q : VK} (h : wi σ H fun J H1 => ∀ D, H1 D = none → ∃ W : Nat → Nat → Hp → Prop, (∃ m, W 0 m (upd H1 D (.lst []))) ∧ ∀ i m H, W i m H →
  (J.stop i H ∧ Q (.ref D) H) ∨ (J.go i H ∧ ∃ Nx : Hp → Prop, (∀ H', Nx H' → ∃ m', m' < m ∧ W (i + 1) m' H') ∧ ∀ x H', J.yld i H x H' → g x (L2.wipe σ vs) H' fun σ2 H2 => L2.wipe σ2 vs = L2.wipe σ vs ∧ tt σ2 H2 fun b H3 =>
    if b = true then te σ2 H3 fun y H4 => ∃ acc, H4 D = some (.lst acc) ∧ acc.length < sizeLine ∧ Nx (upd H4 D (.lst (acc ++ [y]))) else Nx H3)) : tLc wi g tt te vs σ H Q := h
/-- str(i) -/
def rStrI : List V → Hp → VK → Prop := fun xs H Q => ∃ i, xs = [.int i] ∧ i.natAbs.log2 < 1920 ∧ Q (.str (toString i)) H
theorem call_strR {X : Cx} : CallR X (.type "str") rStrI := call_str_int
theorem w_strI {i : Int} {H : Hp} {Q : VK} (b : Bn 1900 i) (k : Q (.str (toString i)) H) : rStrI [.int i] H Q := ⟨i, rfl, b.log' (by decide), k⟩
end AT

end

section
/-! abs, bool of an own class; methods in a try. -/
namespace AT
open PySem PySem.Spec PyProof.Rows L2
/-- abs(x) by x's own method, bool(x) likewise -/
def rOwn1 (C : Addr) (sp : Sp) (E : XK) : List V → Hp → VK → Prop := fun xs H Q => ∃ a dx fs, xs = [.ref a] ∧ H a = some (.ins C dx fs) ∧ sp [.ref a] H Q E
def rOwnB (C : Addr) (sp : Sp) (E : XK) : List V → Hp → VK → Prop := fun xs H Q => ∃ a dx fs, xs = [.ref a] ∧ H a = some (.ins C dx fs) ∧ sp [.ref a] H (fun z H' => ∃ k, z = .bl k ∧ Q (.bl k) H') E
section
variable {X : Cx} {CX : CXT} {C g : Addr} {fd : FuncData} {ps : List Str} {n : Nat} {sp : Sp} {E : XK}
theorem run_deep1 {A : Around} {pins : List (Addr × Obj)} {σ : L2.St} {H : Hp} {s : Shared} {Q : VK} {x : V} {u : Value} (F : FnOk X.prog X.w X.K X.mg X.base CX n g fd ps sp) (hr : Room n A) (e0 : Env0 X.prog X.w X.K X.mg X.base A X.stack s H) (hb : Binds X.K fd ps []) (hx : Passes CX X E)
    (I : Inv X pins σ H s) (rx : RelV x u) (h : sp [x] H Q E) : wpAny (model X.prog X.w) A (call (.ref g) [u]) (EP X pins σ Q) X.xe s := by
  have r2 : Vals [x] [u] := .cons rx .nil
  have hl : [u].length = ps.length := by rw [← r2.length]; exact F.len _ _ _ _ h
  refine wpAny_call (codeAny_mono (F.run A X.stack s H ⟨[u], []⟩ [u] [x] Q E hr e0 (by have := hb s [u] I.kIn (by simpa using hl); simpa using this) r2 h) fun r s' hq => ?_)
  cases r with
  | error e => exact hx pins σ H s e s' I hq
  | ok fl => cases fl with
    | ret w => exact I.after hq
    | next => exact (show False from hq).elim
    | brk => exact (show False from hq).elim
    | cont => exact (show False from hq).elim
theorem call_absOwn (m : OwnM X.K C g "__abs__") (F : FnOk X.prog X.w X.K X.mg X.base CX n g fd ps sp) (hr : Room (n + 1) X.A) (hb : Binds X.K fd ps []) (hx : Passes CX X E) : CallR X (.builtin "abs") (rOwn1 C sp E) := by
  intro pins s σ H xs us Q I r h
  obtain ⟨a, dx, fs, rfl, ha, q⟩ := h
  obtain ⟨u, rfl, r1⟩ := vals1 r
  cases (show u = Value.ref a from r1)
  obtain ⟨od, J⟩ := inst_at I ha
  refine PySem.Calls.call_function_entry kind_abs plain_abs entry_abs (args_abs _) ?_
  unfold Builtin.«abs»
  refine wpAny_bind (m := oneArg "abs" _) (wpAny_pure ?_)
  refine wpAny_bind (m := callSpecial? (.ref a) (Str.ofString "__abs__")) (PySem.W.special_fn I.kIn J m.at_ (beq_iff_eq.mp m.fn) (thn (run_deep1 F hr.in1 I.env0.in1 hb hx I rel_ref q) fun w s' z => ?_))
  exact wpAny_pure ⟨w, rfl, z⟩
theorem tru_own {A : Around} {pins : List (Addr × Obj)} {σ : L2.St} {H : Hp} {s : Shared} {Q : Bool → Hp → Prop} {a dx : Addr} {fs : List (Str × V)} (m : OwnM X.K C g "__bool__") (F : FnOk X.prog X.w X.K X.mg X.base CX n g fd ps sp) (hr : Room n A) (e0 : Env0 X.prog X.w X.K X.mg X.base A X.stack s H) (hb : Binds X.K fd ps []) (hx : Passes CX X E)
    (I : Inv X pins σ H s) (ha : H a = some (.ins C dx fs)) (h : sp [.ref a] H (fun z H' => ∃ k, z = .bl k ∧ Q k H') E) : wpAny (model X.prog X.w) A (truthy (.ref a)) (TP X pins σ Q) X.xe s := by
  obtain ⟨od, J⟩ := inst_at I ha
  unfold truthy
  have main : ∀ {Q' : Option Value → Shared → Prop}, (∀ (k : Bool) s', TP X pins σ Q k s' → Q' (some (.bool k)) s') → wpAny (model X.prog X.w) A (callSpecial? (.ref a) (Str.ofString "__bool__")) Q' X.xe s := fun {Q'} hq =>
    PySem.W.special_fn I.kIn J m.at_ (beq_iff_eq.mp m.fn) (thn (run_deep1 F hr e0 hb hx I rel_ref h) fun w s' z => by
      obtain ⟨z', H', I', rz, k, rfl, qz⟩ := z
      cases (show w = Value.bool k from rz)
      exact hq k s' ⟨H', I', qz⟩)
  first
    | refine wpAny_bind (main fun k s' z => ?_)
    | refine wpAny_bind (wpAny_pure (wpAny_bind (main fun k s' z => ?_)))
  exact wpAny_pure z
theorem call_boolOwn (m : OwnM X.K C g "__bool__") (F : FnOk X.prog X.w X.K X.mg X.base CX n g fd ps sp) (hr : Room (n + 2) X.A) (hb : Binds X.K fd ps []) (hx : Passes CX X E) : CallR X (.type "bool") (rOwnB C sp E) := by
  intro pins s σ H xs us Q I r h
  obtain ⟨a, dx, fs, rfl, ha, q⟩ := h
  obtain ⟨u, rfl, r1⟩ := vals1 r
  cases (show u = Value.ref a from r1)
  refine callType_newIn (S := fun A R s => wpAny (model X.prog X.w) A.in1 (truthy (.ref a)) (fun b s' => R (.ok (.ret (.bool b))) s') (fun e s' => R (.error e) s') s) PySem.F.called_bool PySem.F.newNe_bool (PySem.F.typeCall_bool_1 _) (PySem.F.newCall_bool_1 _) (fun obj => PySem.F.args_object_init_2 obj _) PySem.F.entry_bool_new
    (MeetsIn.of_wp fun A R s hs => ?_) ?_
  · obtain ⟨hp, g, d, tk, os⟩ := s
    have f1 := PySem.F.conv_sub_bool
    repeat (any_goals (first | assumption | with_reducible refine wpAny_mono hs (fun b s' z => ?_) (fun _ _ z => z) | wp_step))
    all_goals exact ⟨_, rfl, z⟩
  · show wpAny _ _ _ _ _ _
    refine wpAny_mono (tru_own (Q := fun k H' => Q (.bl k) H') m F hr.in1.in1 I.env0.in1.in1 hb hx I ha q) (fun b s' z => ?_) (fun _ _ z => z)
    obtain ⟨H', I', qz⟩ := z
    exact ⟨rfl, .bl b, H', I', rfl, qz⟩
/-- o.m(e, ..) in a try -/
def tMethS (C : Addr) (m : Str) (sp : Sp) (dvs : List V) (E : L2.St → XK) (ta : TE) (t : TA) : TE := fun σ H Q => ta σ H fun x H1 => ∃ a dx fs, x = .ref a ∧ H1 a = some (.ins C dx fs) ∧ fs.lookup m = none ∧ t σ H1 fun vs H2 => sp (.ref a :: (vs ++ dvs)) H2 Q (E σ)
theorem pe_methA {f : Addr} {m : Str} {o e : Expr} {es : List Expr} {E : L2.St → XK} {ta : TE} {t : TA} {apos pos : Pos} {pl : Sem Bool} (he : PE X o ta) (c : Cls X.K C) (hm : Meth X.K C m f) (F : FnOk X.prog X.w X.K X.mg X.base CX n f fd ps sp) (hr : Room n X.A) (hb : Binds X.K fd ps []) (hx : ∀ σ, PassesAt CX X σ (E σ)) (ha : PA X (e :: es) t)
    (hst : starEach (e :: es) X.env = (false, eval e X.env) :: starEach es X.env := by rfl) (hpl : (backTo pos (starEach es X.env)).any (·.1) = false := by rfl)
    (ht : eval (.Call (.Attribute o m apos) (e :: es) [] pos) X.env = (do
      let ov ← eval o X.env
      standAt apos.atName
      let (f, first) ← holding [ov] (getMethod ov m pl)
      callWith pos f first (backTo pos (starEach (e :: es) X.env)) (backToKw pos (keywordEach [] X.env))) := by rfl) :
    PE X (.Call (.Attribute o m apos) (e :: es) [] pos) (tMethS C m sp [] E ta t) := by
  refine ⟨fun pins s σ H Q I h => ?_⟩
  refine PySem.W.methodCall_KW (pl := pl) (thn (he.run pins s σ H _ I h) fun u s1 ⟨x, H1, I1, rx, a, dx, fs, ex, ea, l, q⟩ => ?_) ht
  subst ex
  obtain rfl : u = Value.ref a := rx
  refine getmeth_ok I1 ea c hm l ?_
  refine PySem.W.callWith_K (first := [.ref a]) (h₀ := X.base) I.ok.mod.kin hm.kp (thn (ha.run pos pins s1 σ H1 _ I1 q) fun us s2 ⟨vs, H2, I2, r, q2⟩ => ⟨I2.kIn, ?_⟩) hst hpl
  exact run_fnS (us := .ref a :: us) (vs := .ref a :: vs) F hr hb (hx σ) I2 (.cons rfl r) (by simpa using q2)
theorem w_methS {m : Str} {E : L2.St → XK} {ta : TE} {t : TA} {dvs : List V} {σ : L2.St} {H : Hp} {Q : VK} (h : ta σ H fun x H1 => ∃ a dx fs, x = .ref a ∧ H1 a = some (.ins C dx fs) ∧ fs.lookup m = none ∧ t σ H1 fun vs H2 => sp (.ref a :: (vs ++ dvs)) H2 Q (E σ)) : tMethS C m sp dvs E ta t σ H Q := h
/-- -x, named -/
theorem w_gtup {K : PySem.W.Frag} {k : Nat} {t : TGs} {p : Addr} {xs : List V} {σ : L2.St} {H : Hp} {Q : L2.St → Hp → Prop} (u : SqT K H p xs) (e : xs.length = k) (h : t xs σ H Q) : gTup K k t (.ref p) σ H Q := ⟨p, xs, rfl, u, e, h⟩
end
end AT

end

section
/-! Own exceptions as values: making one, reading its attributes, asking its kind. -/
namespace AT
open PySem PySem.Spec PyProof.Rows L2
/-- C(e, ..), an own exception with its own __init__ -/
def rMkV (C : Addr) (sp : Sp) : List V → Hp → VK → Prop := fun vs H1 Q => vs.length ≤ 1000 ∧ ∀ a, H1 a = none → sp (.ref a :: vs) (upd H1 a (exo a C none)) (fun v H2 => v = .non ∧ Q (.ref a) H2) (fun _ _ _ => False)
def tMkV (C : Addr) (sp : Sp) (t : TA) : TE := fun σ H Q => t σ H fun vs H1 => rMkV C sp vs H1 Q
/-- C(), an own exception without -/
def rMkV0 (C : Addr) : Hp → VK → Prop := fun H Q => ∀ a, H a = none → Q (.ref a) (upd H a (exo a C none))
def tMkV0 (C : Addr) : TE := fun _ H Q => rMkV0 C H Q
/-- e.f -/
def rXv (C : Addr) (f : Str) : V → Hp → VK → Prop := fun x H Q => ∃ (a d : Addr) (fs : List (Str × V)) (v : V), x = .ref a ∧ H a = some (exo a C (some d)) ∧ H d = some (exd d fs) ∧ fs.lookup f = some v ∧ Q v H
def tXv (C : Addr) (f : Str) (te : TE) : TE := fun σ H Q => te σ H fun x H1 => rXv C f x H1 Q
/-- isinstance(e, c) -/
def rIsX (K : PySem.W.Frag) : List V → Hp → VK → Prop := fun xs H Q => ∃ (a C : Addr) (c : V) (u : Value) (b : Bool), xs = [.ref a, c] ∧ (H a = some (exo a C none) ∨ ∃ d fs, H a = some (exo a C (some d)) ∧ H d = some (exd d fs)) ∧ ExcC K C ∧ ClsV c u ∧ PySem.W.kitOne K (.ref C) u = some b ∧ Q (.bl b) H
section
variable {X : Cx} {e : Expr} {es : List Expr} {te : TE} {ta : TA} {p pos : Pos}
theorem pe_exV {CX : CXT} {x : Str} {C fI : Addr} {k : Nat} {fd : FuncData} {ps : List Str} {sp : Sp} (T : OexC X.K C) (iC : PySem.W.findIn X.K (.ref C) "__init__" = some (some (.ref fI))) (tI : PySem.W.typeIn X.K (.ref fI) = some (.type "function"))
    (F1 : FnOk X.prog X.w X.K X.mg X.base CX k fI fd ps sp) (hr : Room (k + 1) X.A) (hb : Binds X.K fd ps []) (hx : Passes CX X (fun _ _ _ => False)) (hg : Gl X x) (hm : X.mg x = some (.ref C)) (ha : PA X (e :: es) ta)
    (hdb : (x == ("__debug__" : Str)) = false := by decide) (he : starEach (e :: es) X.env = (false, eval e X.env) :: starEach es X.env := by rfl) (hpl : (backTo pos (starEach es X.env)).any (·.1) = false := by rfl) :
    PE X (.Call (.Name x p) (e :: es) [] pos) (tMkV C sp ta) := by
  refine ⟨fun pins s σ H Q I h => ?_⟩
  obtain ⟨nm, q, N, bs, bm, sn, sub, ab, col, dd, k0, k1, k2, k3, k5, hC, hbm⟩ := T.cls
  refine wpAny_Call_Name_kw (ld_glob I hg hm ?_ hdb)
  refine PySem.W.callWith_K (h₀ := X.base) I.ok.mod.kin T.kC (thn (ha.run pos pins s σ H _ I h) fun us s1 ⟨vs, H1, I1, r1, hz, q1⟩ => ⟨I1.kIn, ?_⟩) he hpl
  show wpAny _ _ (call (.ref C) us) _ _ _
  obtain ⟨hp, g, dr, tk, os⟩ := s1
  have hsz : hp.objs.size ≤ hp.objs.size + 1 := Nat.le_succ _
  have hn : H1 (hp.objs.size + 1) = none := I1.hok.fresh hsz
  have hq := q1 (hp.objs.size + 1) hn
  have kk : ∀ b o, hp.get? b = some o → ((hp.push (PySem.W.kdv_tup us)).push (PySem.HandSPX.excO C hp.objs.size)).get? b = some o := fun b o e => Heap.get?_push_of_some _ (Heap.get?_push_of_some _ e)
  have hget : ((hp.push (PySem.W.kdv_tup us)).push (PySem.HandSPX.excO C hp.objs.size)).get? (hp.objs.size + 1) = some (PySem.HandSPX.excO C hp.objs.size) := by heap_get
  have I2 : Inv X pins σ (upd H1 (hp.objs.size + 1) (exo (hp.objs.size + 1) C none)) ⟨(hp.push (PySem.W.kdv_tup us)).push (PySem.HandSPX.excO C hp.objs.size), g, dr, tk, os⟩ :=
    I1.laid (t' := tk) (a := hp.objs.size + 1) (o := exo (hp.objs.size + 1) C none) (h' := (hp.push (PySem.W.kdv_tup us)).push (PySem.HandSPX.excO C hp.objs.size)) kk hsz (exo_ok hget)
  have r2 : Vals (V.ref (hp.objs.size + 1) :: vs) (Value.ref (hp.objs.size + 1) :: us) := .cons rfl r1
  have hl : (Value.ref (hp.objs.size + 1) :: us).length = ps.length := by
    have e := r2.length
    rw [F1.len _ _ _ _ hq] at e
    exact e.symm
  have hus : us.length ≤ sizeLine := by
    rw [← Paired.length r1, sizeLine_eq]
    omega
  refine wpAny_call (PySem.HandSPX.call_own PySem.F.excBase_ValueError (fun Y => PySem.HandSPX.refsVE_contains Y bm hbm) (I1.kIn _ _ hC) (PySem.W.looks_findIn I1.kIn iC) (fun self => PySem.W.bind_fn I1.kIn self tI) hus
    (codeAny_mono (F1.run _ X.stack _ _ ⟨Value.ref (hp.objs.size + 1) :: us, []⟩ (Value.ref (hp.objs.size + 1) :: us) _ _ (fun _ _ _ => False) (hr.make C us []) (I2.env0.make C us []) (by have := hb _ (Value.ref (hp.objs.size + 1) :: us) I2.kIn (by simpa using hl); simpa using this) r2 hq) fun r s' hq' => ?_))
  cases r with
  | error er => exact hx pins σ _ _ er s' I2 hq'
  | ok fl =>
    cases fl with
    | ret u =>
      obtain ⟨v, H2, I3, rv, ev, q2⟩ := I2.after hq'
      subst ev
      exact ⟨rv, V.ref (hp.objs.size + 1), H2, I3, rfl, q2⟩
    | next => exact False.elim hq'
    | brk => exact False.elim hq'
    | cont => exact False.elim hq'
theorem pe_exV0 {C : Addr} {bmB : List Value} {B newId initId : String} {x : Str} (F : ExcBaseFacts B newId initId bmB) (q : PySem.W.excIn X.K C bmB newId = true) (kC : PySem.W.keepIn X.K (.ref C) = true) (hg : Gl X x) (gC : X.mg x = some (.ref C))
    (hdb : (x == ("__debug__" : Str)) = false := by decide) : PE X (.Call (.Name x p) [] [] pos) (tMkV0 C) := by
  refine ⟨fun pins s σ H Q I h => ?_⟩
  refine wpAny_Call_Name_kw (ld_glob I hg gC ?_ hdb)
  refine PySem.W.callWith_K0 I.kIn kC ?_
  obtain ⟨bm, N, nm, qn, bs, hdct, sn, sub, ab, col, dd, k0, k1, k2, k3, k5, mN, hC, hN, hni, T⟩ := exc_obj I.kIn q
  obtain ⟨hp, g, dr, tk, os⟩ := s
  refine wpAny_call_exc_subT F T hC hN hni (fun h' e hm => ?_) (by show 0 ≤ sizeLine; omega)
  obtain ⟨t, he, _, _⟩ := hm.there
  exact ⟨.ref e, _, I.laidN (t' := tk) hm.keeps hm.new (I.hok.gone hm.new) (exo_ok he), rfl, h e (I.hok.gone hm.new)⟩
theorem pe_xv {C : Addr} {n : Str} (T : XfC X.K C) (hno : PySem.W.findIn X.K (.ref C) n = some none) (he : PE X e te) (hb : attributeBase e n X.env (eval e X.env) = eval e X.env := by rfl) : PE X (.Attribute e n pos) (tXv C n te) := by
  refine ⟨fun pins s σ H Q I h => ?_⟩
  refine attr_of hb (thn (he.run pins s σ H _ I h) fun u s1 hh => ?_)
  obtain ⟨x, H1, I1, rx, a, dd, fs, v, ex, ea, ed, l, q⟩ := hh
  subst ex
  obtain rfl : u = Value.ref a := rx
  obtain ⟨t1, ha⟩ := exo_at I1.hok ea
  obtain ⟨mA, hns, hr⟩ := exd_at I1.hok ed
  obtain ⟨od, ho, hl⟩ := lookIn_ns hns
  obtain ⟨u, hu, ru⟩ := RelO.some_of (v := v) (o := mA n) (by rw [← l]; exact hr n)
  have J : PySem.W.InstAt s1.heap a _ C (some od) := ⟨ha, rfl, rfl, ho⟩
  exact HandSPX.exc_get I1.kIn J T.ga T.gg T.exC (PySem.W.findObj_own T.hdC hno rfl (by rw [hl, hu])) (handed_of ru) ⟨v, H1, I1.tok _, ru, q⟩
theorem call_isX : CallR X (.builtin "isinstance") (rIsX X.K) := by
  intro pins s σ H xs us Q I r h
  obtain ⟨a, C, c, u, b, rfl, hx, T, k, ek, q⟩ := h
  obtain ⟨u1, u2, rfl, r1, r2⟩ := vals2 r
  cases (show u1 = Value.ref a from r1)
  have e2 := k.eq r2
  subst e2
  rcases hx with ha | ⟨d, fs, ha, hd⟩
  · obtain ⟨t1, hg⟩ := exo_at I.hok ha
    have J : PySem.W.InstAt s.heap a _ C none := ⟨hg, rfl, rfl, True.intro⟩
    exact PySem.W.kia_one (PySem.W.handS_kitx_exc T.hg T.hk T.hs T.hd T.ha T.hn T.ht T.hm) I.kIn J ek (fun z => nomatch z) fun tk => ⟨.bl b, H, I.tok tk, rfl, q⟩
  · obtain ⟨t1, hg⟩ := exo_at I.hok ha
    obtain ⟨mA, hns, _⟩ := exd_at I.hok hd
    obtain ⟨od, ho, _⟩ := lookIn_ns hns
    have J : PySem.W.InstAt s.heap a _ C (some od) := ⟨hg, rfl, rfl, ho⟩
    obtain ⟨cd, hc, _⟩ := PySem.W.any_some T.hd
    exact PySem.W.kia_one (PySem.W.kitx_exc (Option.isSome_iff_exists.mpr ⟨cd, hc⟩) T.hg T.hk T.hs T.ha T.hn T.ht T.hm) I.kIn J ek (fun z => nomatch z) fun tk => ⟨.bl b, H, I.tok tk, rfl, q⟩
end
/-- the kinds of an own error -/
def mroE (C A : Addr) : List Value := [.ref C, .ref A, .type "ValueError", .type "Exception", .type "BaseException", .type "object"]
structure ErrO (K : PySem.W.Frag) (A C : Addr) : Prop where
  mro : ∃ cd, PySem.W.clsIn K C = some cd ∧ cd.mro = mroE C A
  hg : PySem.W.findIn K (.ref C) "__getattribute__" = some (some (.builtin "BaseException.__getattribute__"))
  hk : PySem.W.findIn K (.ref C) "__getattr__" = some none
  hd : PySem.W.hasDictIn K C = true
  ha : PySem.W.findIn K (.ref C) "__class__" = some (some (.builtin "object.__class__"))
  hn : PySem.W.specialIn K (.builtin "object.__class__") "__get__" = some (some (.builtin "getset_descriptor.__get__"))
  ht : PySem.W.takesIn K (.builtin "object.__class__") = some true
  ty : PySem.W.typeIn K (.ref C) = some (.type "type")
theorem ErrO.sub {K : PySem.W.Frag} {A C : Addr} (o : ErrO K A C) (c : Value) : PySem.W.subIn K (.ref C) c = some ((mroE C A).contains c) := by
  obtain ⟨cd, h1, h2⟩ := o.mro
  show PySem.W.mroIn K C c = _
  unfold PySem.W.mroIn
  rw [h1]
  show (if cd.mro.isEmpty then none else some (cd.mro.contains c)) = _
  rw [h2]
  rfl
theorem ErrO.isC {K : PySem.W.Frag} {A C : Addr} (o : ErrO K A C) : PySem.W.isClsIn K C = true := by
  obtain ⟨cd, h1, h2⟩ := o.mro
  show (PySem.W.clsIn K C).isSome = true
  rw [h1]
  rfl
theorem ErrO.exc {K : PySem.W.Frag} {A C : Addr} (o : ErrO K A C) : ExcC K C := ⟨o.hg, o.hk, by rw [o.sub]; simp [mroE], o.hd, o.ha, o.hn, o.ht, (o.sub (.type "object")).trans (by simp [mroE])⟩
theorem ErrO.kit {K : PySem.W.Frag} {A C D : Addr} (o : ErrO K A C) (od : ErrO K A D) (h : D ≠ A) : PySem.W.kitOne K (.ref C) (.ref D) = some (decide (C = D)) := by
  by_cases e : C = D
  · subst e
    rw [kit_self, decide_eq_true rfl]
  · have hne : (Value.ref C == Value.ref D) = false := Bool.eq_false_iff.mpr fun q => by cases beq_iff_eq.mp q; exact e rfl
    rw [kit_own od.isC od.ty (o.sub _) hne, decide_eq_false e]
    have h' : ¬ D = C := fun z => e z.symm
    simp [mroE, h, h']
theorem ErrO.kitA {K : PySem.W.Frag} {A C : Addr} (o : ErrO K A C) (i : PySem.W.isClsIn K A = true) (t : PySem.W.typeIn K (.ref A) = some (.type "type")) (h : C ≠ A) : PySem.W.kitOne K (.ref C) (.ref A) = some true := by
  have hne : (Value.ref C == Value.ref A) = false := Bool.eq_false_iff.mpr fun q => by cases beq_iff_eq.mp q; exact h rfl
  rw [kit_own i t (o.sub _) hne]
  simp [mroE]
theorem ErrO.kitV {K : PySem.W.Frag} {A C : Addr} (o : ErrO K A C) : PySem.W.kitOne K (.ref C) (.type "ValueError") = some true := by
  rw [kit_insTy (o.sub _) (by decide +kernel)]
  simp [mroE]
/-- what stands of an error: itself, perhaps its dict -/
def IsEx (H : Hp) (a C : Addr) : Prop := H a = some (exo a C none) ∨ ∃ d fs, H a = some (exo a C (some d)) ∧ H d = some (exd d fs)
theorem IsEx.up {H H' : Hp} {a C : Addr} (e : Ext H H') (h : IsEx H a C) : IsEx H' a C := h.imp (fun h => e _ _ h) fun ⟨d, fs, h1, h2⟩ => ⟨d, fs, e _ _ h1, e _ _ h2⟩
def ExAt (H : Hp) (a C : Addr) (fs : List (Str × V)) : Prop := ∃ d, H a = some (exo a C (some d)) ∧ H d = some (exd d fs)
theorem ExAt.up {H H' : Hp} {a C : Addr} {fs : List (Str × V)} (e : Ext H H') (h : ExAt H a C fs) : ExAt H' a C fs := by
  obtain ⟨d, h1, h2⟩ := h
  exact ⟨d, e _ _ h1, e _ _ h2⟩
theorem ExAt.is {H : Hp} {a C : Addr} {fs : List (Str × V)} (h : ExAt H a C fs) : IsEx H a C := by
  obtain ⟨d, h1, h2⟩ := h
  exact .inr ⟨d, fs, h1, h2⟩
/-- an error's own __init__: fs its attributes -/
def spErr (C : Addr) (fs : List Str) : Sp := fun vs H Q _ => ∃ (a : Addr) (xs : List V), vs = .ref a :: xs ∧ xs.length = fs.length ∧ H a = some (exo a C none) ∧
  ∀ d H', H d = none → H' a = some (exo a C (some d)) → H' d = some (exd d (fs.zip xs).reverse) → (∀ b o, H b = some o → b ≠ a → H' b = some o) → Q .non H'
section
variable {K : PySem.W.Frag} {H : Hp} {Q : VK} {a C : Addr} {fs : List Str} {vs : List V} {f : Str} {v c : V} {u : Value} {b : Bool} {l : List (Str × V)}
theorem w_mkV (e : vs.length = fs.length) (z : fs.length ≤ 1000) (k : ∀ a H', Ext H H' → ExAt H' a C (fs.zip vs).reverse → Q (.ref a) H') : rMkV C (spErr C fs) vs H Q := by
  refine ⟨by omega, fun a na => ⟨a, vs, rfl, e, upd_same, fun d H' nd h1 h2 kp => ⟨rfl, k a H' (fun q o eo => ?_) ⟨d, h1, h2⟩⟩⟩⟩
  exact kp q o (by rw [upd_ne (ne_of_none eo na)]; exact eo) (ne_of_none eo na)
theorem w_mkV0 (k : ∀ a H', Ext H H' → IsEx H' a C → Q (.ref a) H') : rMkV0 C H Q := fun a na => k a _ (Ext.new na) (.inl upd_same)
theorem w_xv (x : ExAt H a C l) (e : l.lookup f = some v) (k : Q v H) : rXv C f (.ref a) H Q := by
  obtain ⟨d, h1, h2⟩ := x
  exact ⟨a, d, l, v, rfl, h1, h2, e, k⟩
theorem w_isX (x : IsEx H a C) (o : ExcC K C) (kc : ClsV c u) (e : PySem.W.kitOne K (.ref C) u = some b) (k : Q (.bl b) H) : rIsX K [.ref a, c] H Q := ⟨a, C, c, u, b, rfl, x, o, kc, e, k⟩
theorem w_tMkV {sp : Sp} {t : TA} {σ : L2.St} (h : t σ H fun vs H1 => rMkV C sp vs H1 Q) : tMkV C sp t σ H Q := h
theorem w_tMkV0 {σ : L2.St} (h : rMkV0 C H Q) : tMkV0 C σ H Q := h
theorem w_tXv {te : TE} {σ : L2.St} (h : te σ H fun x H1 => rXv C f x H1 Q) : tXv C f te σ H Q := h
end
end AT

end

section
namespace AT
open PySem PySem.Spec PyProof.Rows L2
theorem i_decN {p : Prop} [Decidable p] {A B : Prop} (h2 : ¬ p → B) (h1 : p → A) : if decide p = true then A else B := i_dec h1 h2
theorem i_ndecN {p : Prop} [Decidable p] {A B : Prop} (h2 : ¬ p → A) (h1 : p → B) : if (!decide p) = true then A else B := i_ndec h1 h2
theorem lk_ne {f g : Str} {v : V} {r : List (Str × V)} (h : (f == g) = false) : List.lookup f ((g, v) :: r) = List.lookup f r := by rw [List.lookup_cons, h]
theorem w_makeK {C : Addr} {n m : Nat} {sp : Sp} {gV : List V → List V → List V} {E : XK} {t tk : TA} {σ : L2.St} {H : Hp} {Q : VK} (h : t σ H fun vs H1 => tk σ H1 fun zs H2 => vs.length = n ∧ zs.length = m ∧ ∀ x dx, H2 x = none → H2 dx = none → dx ≠ x →
  sp (gV (.ref x :: vs) zs) (upd (upd H2 dx (.own x)) x (.ins C dx [])) (fun v H3 => v = .non ∧ Q (.ref x) H3) E) : tMakeK C n m sp gV E t tk σ H Q := h
end AT

end

section
/-! Static methods, str of an own class. -/
namespace AT
open PySem PySem.Spec PyProof.Rows L2
/-- C.m is a static method: its record at p, its def at g -/
structure SMet (K : PySem.W.Frag) (C : Addr) (m : Str) (g : Addr) : Prop where
  rd : ClX.CRead K C (.type "type")
  at_ : ∃ p, PySem.W.findCls K (.ref C) (.type "type") m = some (.get (.builtin "staticmethod.__get__") (.ref p) .none (.ref C)) ∧ ∃ rest, PySem.W.recIn K p "staticmethod" = some (.ref g :: rest)
section
variable {X : Cx} {CX : CXT} {k : Nat} {C g : Addr} {fd : FuncData} {ps : List Str} {ds : List Value} {dvs : List V} {sp : Sp} {E : XK} {Es : L2.St → XK} {x m : Str} {p1 p2 pos : Pos} {e : Expr} {es : List Expr} {t : TA} {pl : Sem Bool}
theorem smet_get {pins : List (Addr × Obj)} {σ : L2.St} {H : Hp} {s : Shared} {A : Around} {E' : Value → Shared → Prop} {Q : Value × List Value → Shared → Prop} (I : Inv X pins σ H s) (r : SMet X.K C m g) (h : ∀ s', Inv X pins σ H s' → Q (.ref g, []) s') : wpAny (model X.prog X.w) A (getMethod (.ref C) m pl) Q E' s := by
  obtain ⟨p, ea, rest, er⟩ := r.at_
  refine PySem.W.method_cls I.kIn r.rd.ga ?_
  refine PySem.W.cls_bind I.kIn r.rd.rd ea ?_
  exact wpAny_call (PySem.W.sm_get (s := { s with toks := s.toks + 1 }) I.kIn er (PySem.W.handed_on rfl (h _ (I.tok _))))
/-- C.m(e, ..), m a static method; what it lets out is wished for at the slots as they stand -/
theorem pe_smethA (F : FnOk X.prog X.w X.K X.mg X.base CX k g fd ps sp) (hr : Room k X.A) (r : SMet X.K C m g) (hk : PySem.W.keepIn X.K (.ref g) = true) (hb : Binds X.K fd ps []) (hx : ∀ σ, PassesAt CX X σ (Es σ)) (hg : Gl X x) (hm : X.mg x = some (.ref C)) (ha : PA X (e :: es) t)
    (hd : (x == ("__debug__" : Str)) = false := by decide)
    (hcall : eval (.Call (.Attribute (.Name x p1) m p2) (e :: es) [] pos) X.env = (eval (.Name x p1) X.env >>= fun ov => standAt p2.atName >>= fun _ => holding [ov] (getMethod ov m pl) >>= fun q =>
      callWith pos q.1 q.2 (backTo pos (starEach (e :: es) X.env)) (backToKw pos (keywordEach [] X.env))) := by rfl)
    (hst : starEach (e :: es) X.env = (false, eval e X.env) :: starEach es X.env := by rfl) (hnp : (backTo pos (starEach es X.env)).any (·.1) = false := by rfl) :
    PE X (.Call (.Attribute (.Name x p1) m p2) (e :: es) [] pos) (tCallS sp Es t) := by
  constructor
  intro pins s σ H Q I h
  refine PySem.W.methodCall_KW (ld_glob I hg hm ?_ hd) hcall
  refine smet_get (I.tok _) r fun s2 I2 => ?_
  refine PySem.W.callWith_K (h₀ := X.base) I2.ok.mod.kin hk (thn (ha.run pos pins _ σ H _ I2 h) fun us s1 q1 => ?_) hst hnp
  obtain ⟨vs, H1, I1, r1, q⟩ := q1
  exact ⟨I1.kIn, run_fnS F hr hb (hx σ) I1 r1 q⟩
theorem pe_smeth (F : FnOk X.prog X.w X.K X.mg X.base CX k g fd ps sp) (hr : Room k X.A) (r : SMet X.K C m g) (hk : PySem.W.keepIn X.K (.ref g) = true) (hb : Binds X.K fd ps []) (hx : Passes CX X E) (hg : Gl X x) (hm : X.mg x = some (.ref C)) (ha : PA X (e :: es) t)
    (hd : (x == ("__debug__" : Str)) = false := by decide)
    (hcall : eval (.Call (.Attribute (.Name x p1) m p2) (e :: es) [] pos) X.env = (eval (.Name x p1) X.env >>= fun ov => standAt p2.atName >>= fun _ => holding [ov] (getMethod ov m pl) >>= fun q =>
      callWith pos q.1 q.2 (backTo pos (starEach (e :: es) X.env)) (backToKw pos (keywordEach [] X.env))) := by rfl)
    (hst : starEach (e :: es) X.env = (false, eval e X.env) :: starEach es X.env := by rfl) (hnp : (backTo pos (starEach es X.env)).any (·.1) = false := by rfl) :
    PE X (.Call (.Attribute (.Name x p1) m p2) (e :: es) [] pos) (tCallS sp (fun _ => E) t) := pe_smethA F hr r hk hb (fun σ pins H s e s' I c => hx pins σ H s e s' I c) hg hm ha hd hcall hst hnp
/-- C.m() -/
theorem pe_smeth0 (F : FnOk X.prog X.w X.K X.mg X.base CX k g fd ps sp) (hr : Room k X.A) (r : SMet X.K C m g) (hk : PySem.W.keepIn X.K (.ref g) = true) (hb : Binds X.K fd ps []) (hx : Passes CX X E) (hg : Gl X x) (hm : X.mg x = some (.ref C))
    (hd : (x == ("__debug__" : Str)) = false := by decide)
    (hcall : eval (.Call (.Attribute (.Name x p1) m p2) [] [] pos) X.env = (eval (.Name x p1) X.env >>= fun ov => standAt p2.atName >>= fun _ => holding [ov] (getMethod ov m pl) >>= fun q =>
      callWith pos q.1 q.2 (backTo pos (starEach [] X.env)) (backToKw pos (keywordEach [] X.env))) := by rfl) :
    PE X (.Call (.Attribute (.Name x p1) m p2) [] [] pos) (tCallS sp (fun _ => E) tNil) := by
  constructor
  intro pins s σ H Q I h
  refine PySem.W.methodCall_KW (ld_glob I hg hm ?_ hd) hcall
  refine smet_get (I.tok _) r fun s2 I2 => ?_
  exact PySem.W.callWith_K0 I2.kIn hk (run_fnS (us := []) (E := fun _ => E) F hr hb (fun pins H s e s' I c => hx pins σ H s e s' I c) I2 .nil h)
/-- str(x), x an instance of an own class with its own __str__ -/
def rOwnS (C : Addr) (sp : Sp) (E : XK) : List V → Hp → VK → Prop := fun xs H Q => ∃ a dx fs, xs = [.ref a] ∧ H a = some (.ins C dx fs) ∧ sp [.ref a] H (fun z H' => ∃ y : Str, z = .str y ∧ Q (.str y) H') E
theorem call_strOwn (m : OwnM X.K C g "__str__") (F : FnOk X.prog X.w X.K X.mg X.base CX k g fd ps sp) (hr : Room (k + 2) X.A) (hb : Binds X.K fd ps []) (hx : Passes CX X E) : CallR X (.type "str") (rOwnS C sp E) := by
  intro pins s σ H xs us Q I r h
  obtain ⟨a, dx, fs, rfl, ha, q⟩ := h
  obtain ⟨u, rfl, r1⟩ := vals1 r
  cases (show u = Value.ref a from r1)
  obtain ⟨od, J⟩ := inst_at I ha
  refine PySem.W.kso_call hr.in1.in1.units0 I.kIn J m.at_ m.fn (thn (run_deep1 F hr.in1.in1 I.env0.in1.in1 hb hx I rel_ref q) fun w s' z => ?_)
  obtain ⟨z', H', I', rz, y, rfl, qz⟩ := z
  obtain ⟨t, rfl⟩ := (show ∃ t, w = Value.str y t from rz)
  exact ⟨.str y, H', I', ⟨t, rfl⟩, qz⟩
end
end AT

end

section
set_option maxHeartbeats 1000000
/-! Texts as lists of code points: readings and steps. -/
namespace AT
open PySem PySem.Spec PyProof.Rows L2 SX
open Builtin.Str in
theorem occ_full (s sub : Str) (hi : Nat) : ∀ (l : List Nat) (st : Array Nat × Nat), 1 ≤ st.fst.size → (forIn l st (StrLaws.occBody s sub hi 1)).run.fst = st.fst
  | [], st, h => rfl
  | a :: l, st, h => by
    rw [List.forIn_cons]
    unfold StrLaws.occBody
    have c : ¬ (((st.fst.size < 1 ∧ st.snd ≤ a) ∧ a + sub.length ≤ hi) ∧ subAt s sub a = true) := fun z => by have := z.1.1.1; omega
    rw [if_neg c]
    exact occ_full s sub hi l st h
open Builtin.Str in
theorem occ_first (s sub : Str) (hi k : Nat) (hk : k + sub.length ≤ hi ∧ subAt s sub k = true) : ∀ (m a free : Nat), free ≤ a → a ≤ k → k < a + m → (∀ i, a ≤ i → i < k → ¬ (i + sub.length ≤ hi ∧ subAt s sub i = true)) →
    (forIn (List.range' a m) ((#[] : Array Nat), free) (StrLaws.occBody s sub hi 1)).run.fst = #[k]
  | 0, a, free, h1, h2, h3, h4 => by omega
  | m + 1, a, free, h1, h2, h3, h4 => by
    rw [List.range'_succ, List.forIn_cons]
    unfold StrLaws.occBody
    by_cases e : a = k
    · subst e
      rw [if_pos ⟨⟨⟨by simp, h1⟩, hk.1⟩, hk.2⟩]
      exact occ_full s sub hi _ _ (by simp)
    · have c : ¬ (((((#[] : Array Nat), free).fst.size < 1 ∧ ((#[] : Array Nat), free).snd ≤ a) ∧ a + sub.length ≤ hi) ∧ subAt s sub a = true) := fun z => h4 a (Nat.le_refl _) (by omega) ⟨z.1.2, z.2⟩
      rw [if_neg c]
      exact occ_first s sub hi k hk m (a + 1) free (by omega) (by omega) (by omega) fun i hi' hk' => h4 i (by omega) hk'
theorem find_at {p r : List Nat} {c : Nat} (h : c ∉ p) : Txt.find (S (p ++ c :: r)) (S [c]) = (p.length : Int) := by
  have hk : p.length + (S [c]).length ≤ (S (p ++ c :: r)).length ∧ Builtin.Str.subAt (S (p ++ c :: r)) (S [c]) p.length = true := (StrLaws.subAt_one _ c _).mpr (by
    show (p ++ c :: r)[p.length]? = some c
    simp)
  have hn : ∀ i, 0 ≤ i → i < p.length → ¬ (i + (S [c]).length ≤ (S (p ++ c :: r)).length ∧ Builtin.Str.subAt (S (p ++ c :: r)) (S [c]) i = true) := fun i _ hi z => by
    have e : (p ++ c :: r)[i]? = some c := (StrLaws.subAt_one (S (p ++ c :: r)) c i).mp z
    rw [List.getElem?_append_left hi] at e
    exact h (List.mem_of_getElem? e)
  have e : Builtin.Str.occurrences (S (p ++ c :: r)) (S [c]) 0 (S (p ++ c :: r)).length 1 = [p.length] := by
    rw [StrLaws.occ_eq, occ_first _ _ _ _ hk _ 0 0 (Nat.le_refl _) (Nat.zero_le _) (by rw [S_len]; simp; omega) hn]
  unfold Txt.find
  rw [e]
theorem find_no {l : List Nat} {c : Nat} (h : c ∉ l) : Txt.find (S l) (S [c]) = -1 := by
  have e := in_one l c
  rw [decide_eq_false h] at e
  unfold Txt.find
  cases hz : Builtin.Str.occurrences (S l) (S [c]) 0 (S l).length 1 with
  | nil => rfl
  | cons a r => rw [hz] at e; simp at e
theorem split_no {l : List Nat} {c : Nat} (hc : c < 256) (h : c ∉ l) : Txt.split (S l) (S [c]) = [S l] := by
  rw [split_S (List.cons_ne_nil _ _) (by simp [hc]), TL.spl_last1 h]
  rfl
theorem split_at {p r : List Nat} {c : Nat} (hc : c < 256) (h : c ∉ p) : Txt.split (S (p ++ c :: r)) (S [c]) = S p :: (TL.spl [c] 0 [] r).map S := by
  rw [split_S (List.cons_ne_nil _ _) (by simp [hc]), show p ++ c :: r = p ++ ([c] ++ r) from rfl, TL.spl_part1 h]
  rfl
theorem mem_first {c : Nat} : ∀ {r : List Nat}, c ∈ r → ∃ p q, r = p ++ c :: q ∧ c ∉ p
  | [], h => by cases h
  | a :: r, h => by
    by_cases e : a = c
    · exact ⟨[], r, by rw [e]; rfl, by simp⟩
    · obtain ⟨p, q, e1, e2⟩ := mem_first (r := r) (by rcases List.mem_cons.mp h with z | z; exact absurd z.symm e; exact z)
      exact ⟨a :: p, q, by rw [e1]; rfl, by simp [e2]; exact fun z => e z.symm⟩
theorem spl_len {r : List Nat} {c : Nat} (h : c ∈ r) : 2 ≤ (TL.spl [c] 0 [] r).length := by
  obtain ⟨p, q, rfl, hp⟩ := mem_first h
  rw [show p ++ c :: q = p ++ ([c] ++ q) from rfl, TL.spl_part1 hp]
  cases q with
  | nil => simp [TL.spl_nil]
  | cons a q =>
    have := TL.spl_pass [c] 0 [] (a :: q)
    cases hz : TL.spl [c] 0 [] (a :: q) with
    | nil =>
      exfalso
      have f : ∀ (l acc : List Nat), TL.spl [c] 0 acc l ≠ [] := fun l => by
        induction l with
        | nil => intro acc; rw [TL.spl_nil]; simp
        | cons b l ih =>
          intro acc
          cases hb : TL.pre [c] (b :: l) with
          | true => rw [TL.spl_hit hb]; simp
          | false => rw [TL.spl_miss hb]; exact ih _
      exact f _ _ hz
    | cons x y => simp
/-- where c is: nowhere, or first behind p -/
theorem first_of (c : Nat) : ∀ l : List Nat, c ∉ l ∨ ∃ p r, l = p ++ c :: r ∧ c ∉ p
  | [] => .inl (by simp)
  | a :: l => by
    by_cases e : a = c
    · exact .inr ⟨[], l, by rw [e]; rfl, by simp⟩
    · rcases first_of c l with h | ⟨p, r, e1, e2⟩
      · exact .inl (by simp [h]; exact fun z => e z.symm)
      · exact .inr ⟨a :: p, r, by rw [e1]; rfl, by simp [e2]; exact fun z => e z.symm⟩
/-- readings -/
theorem pe_strS {X : Cx} {x : Str} {j} {pos : Pos} {l : List Nat} (e : x = S l) : PE X (.Constant (.str x) j pos) (tC (.str (S l))) := by
  subst e
  exact pe_str
def rInS : R2 := fun x y H Q => ∃ (c : Nat) (z : Str), x = .str ⟨#[c]⟩ ∧ y = .str z ∧ Q (.bl (decide (c ∈ z.cps.toList))) H
def rNotInS : R2 := fun x y H Q => ∃ (c : Nat) (z : Str), x = .str ⟨#[c]⟩ ∧ y = .str z ∧ Q (.bl (!decide (c ∈ z.cps.toList))) H
theorem op_inS {X : Cx} : OpR X (compareOp .In) rInS := op_in_sign
theorem op_notInS {X : Cx} : OpR X (compareOp .NotIn) rNotInS := op_notIn_sign
def rLenT : List V → Hp → VK → Prop := fun xs H Q => ∃ z, xs = [.str z] ∧ z.length ≤ sizeLine ∧ Q (.int z.length) H
theorem call_lenT {X : Cx} : CallR X (.builtin "len") rLenT := call_len_str
def rIntT : List V → Hp → VK → Prop := fun xs H Q => ∃ a n, xs = [.str a] ∧ PySem.intText? a = some n ∧ a.length ≤ 640 ∧ Q (.int n) H
theorem call_intT {X : Cx} : CallR X (.type "int") rIntT := call_int_str
def rFind : V → List V → Hp → VK → Prop := fun x xs H Q => ∃ a b, x = .str a ∧ xs = [.str b] ∧ Q (.int (Txt.find a b)) H
theorem mt_findN {X : Cx} : MtR X "str.find" rFind := mt_find
def rSplit : V → List V → Hp → VK → Prop := fun x xs H Q => ∃ a b, x = .str a ∧ xs = [.str b] ∧ (b.length == 0) = false ∧ a.length + 2 ≤ sizeLine ∧ rNewStrs (Txt.split a b) H Q
theorem mt_splitN {X : Cx} : MtR X "str.split" rSplit := mt_split
def rCatT : R2 := fun x y H Q => ∃ i j, x = .str i ∧ y = .str j ∧ i.length + j.length ≤ sizeLine ∧ Q (.str (i ++ j)) H
theorem op_catT {X : Cx} : OpR X (binaryOp .Add) rCatT := op_add_str
theorem zl {n : Nat} (h : n ≤ 100000) : n ≤ sizeLine := Nat.le_trans h (by decide)
section
variable {σ : L2.St} {H : Hp} {Q : VK} {l m : List Nat} {c : Nat} {i j : Int} {n : Nat} {te : TE} {tl th : TO} {r : V → Option Int → Option Int → Hp → VK → Prop} {QO : Option Int → Hp → Prop}
theorem w_inS (h : Q (.bl (decide (c ∈ l))) H) : rInS (.str (S [c])) (.str (S l)) H Q := ⟨c, S l, rfl, rfl, h⟩
theorem w_notInS (h : Q (.bl (!decide (c ∈ l))) H) : rNotInS (.str (S [c])) (.str (S l)) H Q := ⟨c, S l, rfl, rfl, h⟩
theorem w_lenT' (hl : l.length ≤ 100000) (h : Q (.int (l.length : Int)) H) : rLenT [.str (S l)] H Q := ⟨S l, rfl, by rw [S_len]; exact zl hl, by rw [S_len]; exact h⟩
theorem w_intT (e : PySem.intText? (S l) = some i) (hl : l.length ≤ 640) (h : Q (.int i) H) : rIntT [.str (S l)] H Q := ⟨S l, i, rfl, e, by rw [S_len]; exact hl, h⟩
theorem w_catT (hl : l.length + m.length ≤ 100000) (h : Q (.str (S (l ++ m))) H) : rCatT (.str (S l)) (.str (S m)) H Q := ⟨S l, S m, rfl, rfl, by rw [S_len, S_len]; exact zl hl, by rw [S_cat]; exact h⟩
theorem w_ixS (hl : l.length ≤ 100000) (e : atI l i = some c) (h : Q (.str (S [c])) H) : rIxS (.str (S l)) (.int i) H Q := ⟨S l, i, c, rfl, rfl, by rw [S_len]; exact zl hl, e, h⟩
theorem w_eqT (h : Q (.bl (decide (l = m))) H) : rEq (.str (S l)) (.str (S m)) H Q := ⟨rfl, by
  have e : decide (V.str (S l) = V.str (S m)) = decide (l = m) := by rw [decide_eq_decide]; exact ⟨fun z => S_inj (V.str.inj z), fun z => by rw [z]⟩
  rw [e]
  exact h⟩
theorem w_neT (h : Q (.bl (!decide (l = m))) H) : rNe (.str (S l)) (.str (S m)) H Q := ⟨rfl, by
  have e : decide (V.str (S l) = V.str (S m)) = decide (l = m) := by rw [decide_eq_decide]; exact ⟨fun z => S_inj (V.str.inj z), fun z => by rw [z]⟩
  rw [e]
  exact h⟩
theorem w_sl (h : te σ H fun x H1 => tl σ H1 fun l H2 => th σ H2 fun u H3 => r x l u H3 Q) : tSl r te tl th σ H Q := h
theorem w_noPart (h : QO none H) : tNoPart σ H QO := h
theorem w_part (h : te σ H fun x H1 => ∃ i, x = .int i ∧ QO (some i) H1) : tPart te σ H QO := h
theorem w_partI {P : Int → Prop} (h : P i) : ∃ j, V.int i = .int j ∧ P j := ⟨i, rfl, h⟩
theorem w_slTo (h0 : 0 ≤ i) (hl : l.length ≤ 100000) (h : Q (.str (S (l.take i.toNat))) H) : C8.rSlX (.str (S l)) none (some i) H Q := ⟨S l, rfl, by rw [S_len]; exact zl hl, by rw [slice_to h0]; exact h⟩
theorem w_slFrom (h0 : 0 ≤ i) (hl : l.length ≤ 100000) (h : Q (.str (S (l.drop i.toNat))) H) : C8.rSlX (.str (S l)) (some i) none H Q := ⟨S l, rfl, by rw [S_len]; exact zl hl, by rw [slice_from h0]; exact h⟩
theorem slice_mid {a : List Nat} {i j : Nat} (h : i ≤ j) : Txt.slice (S a) (some (i : Int)) (some (j : Int)) = S ((a.drop i).take (j - i)) := by
  rw [← C8.cutS_slice]
  unfold cutS
  rw [HT.sIx_nat, HT.sIx_nat, S_len]
  show S (((a.drop (min i a.length)).take (min j a.length - min i a.length))) = _
  congr 1
  by_cases hi : i ≤ a.length
  · rw [Nat.min_eq_left hi]
    by_cases hj : j ≤ a.length
    · rw [Nat.min_eq_left hj]
    · rw [Nat.min_eq_right (by omega), List.take_of_length_le (by rw [List.length_drop]; omega), List.take_of_length_le (by rw [List.length_drop]; omega)]
  · have e1 : min i a.length = a.length := Nat.min_eq_right (by omega)
    rw [e1, List.drop_eq_nil_of_le (Nat.le_refl _), List.drop_eq_nil_of_le (by omega)]
    simp
theorem w_slMid {i j : Nat} {u v : Int} (eu : u = (i : Int)) (ev : v = (j : Int)) (h0 : i ≤ j) (hl : l.length ≤ 100000) (h : Q (.str (S ((l.drop i).take (j - i)))) H) : C8.rSlX (.str (S l)) (some u) (some v) H Q := ⟨S l, rfl, by rw [S_len]; exact zl hl, by rw [eu, ev, slice_mid h0]; exact h⟩
end
/-- for c in text -/
theorem for_str {l : List Nat} {g : TG} {tb : TS} {D : Ends} {σ : L2.St} {H : Hp} (Pv : Nat → L2.St → Hp → Prop) (h0 : Pv 0 σ H)
    (hs : ∀ i c σ H, l[i]? = some c → Pv i σ H → g (.str (S [c])) σ H fun σ2 H2 => tb { D with nx := Pv (i + 1), ct := Pv (i + 1), bk := D.nx } σ2 H2) (hd : ∀ σ H, Pv l.length σ H → D.nx σ H) :
    ∃ W : Nat → Nat → L2.St → Hp → Prop, (∃ m, W 0 m σ H) ∧ ∀ i m σ H, W i m σ H →
      ((Its (S l)).stop i H ∧ D.nx σ H) ∨ ((Its (S l)).go i H ∧ ∃ N : L2.St → Hp → Prop, (∀ σ' H', N σ' H' → ∃ m', m' < m ∧ W (i + 1) m' σ' H') ∧ ∀ x H', (Its (S l)).yld i H x H' → g x σ H' fun σ2 H2 => tb { D with nx := N, ct := N, bk := D.nx } σ2 H2) := by
  refine ⟨fun i m σ H => m = l.length - i ∧ i ≤ l.length ∧ Pv i σ H, ⟨l.length, by simp, Nat.zero_le _, h0⟩, ?_⟩
  rintro i m σ H ⟨rfl, hi, p⟩
  by_cases hlt : i < l.length
  · refine .inr ⟨by show i < l.toArray.size; simpa using hlt, Pv (i + 1), fun σ' H' p' => ⟨l.length - (i + 1), by omega, rfl, hlt, p'⟩, fun x H' y => ?_⟩
    obtain ⟨e, c, hc, ex⟩ := y
    subst e
    subst ex
    exact hs i c σ _ (by simpa using hc) p
  · have e : i = l.length := by omega
    subst e
    exact .inl ⟨by show l.toArray.size ≤ l.length; simp, hd σ H p⟩
theorem lc_str {l : List Nat} {g : TG} {tt : TT} {te : TE} {vs : List Nat} {σ : L2.St} {H1 : Hp} {D : Addr} {Qd : Hp → Prop} (Pv : Nat → Hp → Prop) (h0 : Pv 0 (upd H1 D (.lst [])))
    (hs : ∀ i c H, l[i]? = some c → Pv i H → g (.str (S [c])) (wipe σ vs) H fun σ2 H2 => wipe σ2 vs = wipe σ vs ∧ tt σ2 H2 fun b H3 =>
      if b = true then te σ2 H3 fun y H4 => ∃ acc, H4 D = some (.lst acc) ∧ acc.length < sizeLine ∧ Pv (i + 1) (upd H4 D (.lst (acc ++ [y]))) else Pv (i + 1) H3) (hd : ∀ H, Pv l.length H → Qd H) :
    ∃ W : Nat → Nat → Hp → Prop, (∃ m, W 0 m (upd H1 D (.lst []))) ∧ ∀ i m H, W i m H →
      ((Its (S l)).stop i H ∧ Qd H) ∨ ((Its (S l)).go i H ∧ ∃ Nx : Hp → Prop, (∀ H', Nx H' → ∃ m', m' < m ∧ W (i + 1) m' H') ∧ ∀ x H', (Its (S l)).yld i H x H' → g x (wipe σ vs) H' fun σ2 H2 => wipe σ2 vs = wipe σ vs ∧ tt σ2 H2 fun b H3 =>
        if b = true then te σ2 H3 fun y H4 => ∃ acc, H4 D = some (.lst acc) ∧ acc.length < sizeLine ∧ Nx (upd H4 D (.lst (acc ++ [y]))) else Nx H3) := by
  refine ⟨fun i m H => m = l.length - i ∧ i ≤ l.length ∧ Pv i H, ⟨l.length, by simp, Nat.zero_le _, h0⟩, ?_⟩
  rintro i m H ⟨rfl, hi, p⟩
  by_cases hlt : i < l.length
  · refine .inr ⟨by show i < l.toArray.size; simpa using hlt, Pv (i + 1), fun H' p' => ⟨l.length - (i + 1), by omega, rfl, hlt, p'⟩, fun x H' y => ?_⟩
    obtain ⟨e, c, hc, ex⟩ := y
    subst e
    subst ex
    exact hs i c _ (by simpa using hc) p
  · have e : i = l.length := by omega
    subst e
    exact .inl ⟨by show l.toArray.size ≤ l.length; simp, hd H p⟩
theorem w_iStr {te : TE} {σ : L2.St} {H : Hp} {R : It → Hp → Prop} (h : te σ H fun v H1 => ∃ x, v = .str x ∧ R (Its x) H1) : iStr te σ H R := h
theorem w_m1 {r : V → List V → Hp → VK → Prop} {to te : TE} {σ : L2.St} {H : Hp} {Q : VK} (h : tM1 r to te σ H Q) : tM1 r to te σ H Q := h
theorem w_itS {l : List Nat} {H : Hp} {R : It → Hp → Prop} (h : R (Its (S l)) H) : ∃ x, V.str (S l) = .str x ∧ R (Its x) H := ⟨S l, rfl, h⟩
end AT

end
namespace AT
open PySem L2
def top (i : Nat) : Stmt := PySem.Challenge.pw_anytune_k07_texts_of_moments.main.body.getD i (.Pass ⟨0, 0, 0, 0⟩)
abbrev s_NoMoment___init__ : Stmt := inClass (top 3) 0
theorem sc_NoMoment___init__ : FnScope ["self", "top", "bottom"] ["self", "top", "bottom"] (defScope s_NoMoment___init__) := ⟨rfl, rfl, rfl, by decide +kernel, rfl, by decide +kernel, by decide +kernel⟩
abbrev s_NoText___init__ : Stmt := inClass (top 4) 0
theorem sc_NoText___init__ : FnScope ["self", "text"] ["self", "text"] (defScope s_NoText___init__) := ⟨rfl, rfl, rfl, by decide +kernel, rfl, by decide +kernel, by decide +kernel⟩
abbrev s_common : Stmt := top 8
theorem sc_common : FnScope ["a", "b"] ["a", "b"] (defScope s_common) := ⟨rfl, rfl, rfl, by decide +kernel, rfl, by decide +kernel, by decide +kernel⟩
abbrev s_Moment___init__ : Stmt := inClass (top 9) 0
theorem sc_Moment___init__ : FnScope ["self", "top", "bottom", "part"] ["self", "top", "bottom"] (defScope s_Moment___init__) := ⟨rfl, rfl, rfl, by decide +kernel, rfl, by decide +kernel, by decide +kernel⟩
abbrev s_Moment___str__ : Stmt := inClass (top 9) 21
theorem sc_Moment___str__ : FnScope ["self"] ["self"] (defScope s_Moment___str__) := ⟨rfl, rfl, rfl, by decide +kernel, rfl, by decide +kernel, by decide +kernel⟩
abbrev s_Moment_read : Stmt := inClass (top 9) 22
theorem sc_Moment_read : FnScope ["text", "found"] ["text"] (defScope s_Moment_read) := ⟨rfl, rfl, rfl, by decide +kernel, rfl, by decide +kernel, by decide +kernel⟩
abbrev s_whole_in : Stmt := top 10
theorem sc_whole_in : FnScope ["text", "digits", "one"] ["text"] (defScope s_whole_in) := ⟨rfl, rfl, rfl, by decide +kernel, rfl, by decide +kernel, by decide +kernel⟩
abbrev s_moment_in : Stmt := top 11
theorem sc_moment_in : FnScope ["text", "parts", "top", "bottom"] ["text"] (defScope s_moment_in) := ⟨rfl, rfl, rfl, by decide +kernel, rfl, by decide +kernel, by decide +kernel⟩
abbrev s__law_cell : Stmt := top 13
theorem sc__law_cell : FnScope ["_law_script", "_law_k"] ["_law_script", "_law_k"] (defScope s__law_cell) := ⟨rfl, rfl, rfl, by decide +kernel, rfl, by decide +kernel, by decide +kernel⟩
abbrev s__law_row : Stmt := top 14
theorem sc__law_row : FnScope ["_law_cell_here", "_law_sizes", "_law_out", "_law_size", "_law_seed", "_law_k", "_law_mixed"] ["_law_cell_here", "_law_sizes"] (defScope s__law_row) := ⟨rfl, rfl, rfl, by decide +kernel, rfl, by decide +kernel, by decide +kernel⟩
abbrev s__law_whole : Stmt := top 15
theorem sc__law_whole : FnScope ["_law_cell_here", "_law_most"] ["_law_cell_here", "_law_most"] (defScope s__law_whole) := ⟨rfl, rfl, rfl, by decide +kernel, rfl, by decide +kernel, by decide +kernel⟩
abbrev s__law_ratio : Stmt := top 16
theorem sc__law_ratio : FnScope ["_law_a", "_law_b", "_law_most", "_law_bottom"] ["_law_a", "_law_b", "_law_most"] (defScope s__law_ratio) := ⟨rfl, rfl, rfl, by decide +kernel, rfl, by decide +kernel, by decide +kernel⟩
abbrev s__law_gcd : Stmt := top 17
theorem sc__law_gcd : FnScope ["_law_a", "_law_b", "_law_rest"] ["_law_a", "_law_b"] (defScope s__law_gcd) := ⟨rfl, rfl, rfl, by decide +kernel, rfl, by decide +kernel, by decide +kernel⟩
abbrev s__law_is_int : Stmt := top 18
theorem sc__law_is_int : FnScope ["_law_actual"] ["_law_actual"] (defScope s__law_is_int) := ⟨rfl, rfl, rfl, by decide +kernel, rfl, by decide +kernel, by decide +kernel⟩
abbrev s__law_holds : Stmt := top 19
theorem sc__law_holds : FnScope ["_law_actual", "_law_top", "_law_bottom"] ["_law_actual", "_law_top", "_law_bottom"] (defScope s__law_holds) := ⟨rfl, rfl, rfl, by decide +kernel, rfl, by decide +kernel, by decide +kernel⟩
abbrev s__law_is_number : Stmt := top 20
theorem sc__law_is_number : FnScope ["_law_text", "_law_least", "_law_digits", "_law_one"] ["_law_text", "_law_least"] (defScope s__law_is_number) := ⟨rfl, rfl, rfl, by decide +kernel, rfl, by decide +kernel, by decide +kernel⟩
abbrev s__law_is_written : Stmt := top 21
theorem sc__law_is_written : FnScope ["_law_text", "_law_place", "_law_bottom"] ["_law_text"] (defScope s__law_is_written) := ⟨rfl, rfl, rfl, by decide +kernel, rfl, by decide +kernel, by decide +kernel⟩
abbrev s__law_low : Stmt := top 22
theorem sc__law_low : FnScope ["_law_top", "_law_bottom", "_law_part"] ["_law_top", "_law_bottom"] (defScope s__law_low) := ⟨rfl, rfl, rfl, by decide +kernel, rfl, by decide +kernel, by decide +kernel⟩
abbrev s__law_printed : Stmt := top 23
theorem sc__law_printed : FnScope ["_law_pair"] ["_law_pair"] (defScope s__law_printed) := ⟨rfl, rfl, rfl, by decide +kernel, rfl, by decide +kernel, by decide +kernel⟩
abbrev s__law_sign : Stmt := top 24
theorem sc__law_sign : FnScope ["_law_k", "_law_signs"] ["_law_k"] (defScope s__law_sign) := ⟨rfl, rfl, rfl, by decide +kernel, rfl, by decide +kernel, by decide +kernel⟩
abbrev s__law_spoilt : Stmt := top 25
theorem sc__law_spoilt : FnScope ["_law_text", "_law_kind", "_law_place", "_law_k", "_law_at"] ["_law_text", "_law_kind", "_law_place", "_law_k"] (defScope s__law_spoilt) := ⟨rfl, rfl, rfl, by decide +kernel, rfl, by decide +kernel, by decide +kernel⟩
abbrev s__law_near : Stmt := top 26
theorem sc__law_near : FnScope ["_law_k", "_law_texts"] ["_law_k"] (defScope s__law_near) := ⟨rfl, rfl, rfl, by decide +kernel, rfl, by decide +kernel, by decide +kernel⟩
abbrev s_law : Stmt := top 27
theorem sc_law : FnScope ["_law_script", "_law_row_here", "_law_pair", "_law_text", "_law_actual", "_law_refused", "e", "_law_place"] ["_law_script"] (defScope s_law) := ⟨rfl, rfl, rfl, by decide +kernel, rfl, by decide +kernel, by decide +kernel⟩
structure Tx (K : PySem.W.Frag) (mg : Str → Option Value) where
  a_NoMoment___init__ : Addr
  d_NoMoment___init__ : FuncData
  F_NoMoment___init__ : Fun K "__init__" "NoMoment.__init__" s_NoMoment___init__ a_NoMoment___init__ d_NoMoment___init__
  a_NoText___init__ : Addr
  d_NoText___init__ : FuncData
  F_NoText___init__ : Fun K "__init__" "NoText.__init__" s_NoText___init__ a_NoText___init__ d_NoText___init__
  a_common : Addr
  d_common : FuncData
  F_common : Fun K "common" "common" s_common a_common d_common
  g_common : mg "common" = some (.ref a_common)
  a_Moment___init__ : Addr
  d_Moment___init__ : FuncData
  F_Moment___init__ : FunD K "__init__" "Moment.__init__" (defArgs s_Moment___init__) (defBody s_Moment___init__) (defScope s_Moment___init__) [.int 1] [] a_Moment___init__ d_Moment___init__
  a_Moment___str__ : Addr
  d_Moment___str__ : FuncData
  F_Moment___str__ : Fun K "__str__" "Moment.__str__" s_Moment___str__ a_Moment___str__ d_Moment___str__
  a_Moment_read : Addr
  d_Moment_read : FuncData
  F_Moment_read : Fun K "read" "Moment.read" s_Moment_read a_Moment_read d_Moment_read
  a_whole_in : Addr
  d_whole_in : FuncData
  F_whole_in : Fun K "whole_in" "whole_in" s_whole_in a_whole_in d_whole_in
  g_whole_in : mg "whole_in" = some (.ref a_whole_in)
  a_moment_in : Addr
  d_moment_in : FuncData
  F_moment_in : Fun K "moment_in" "moment_in" s_moment_in a_moment_in d_moment_in
  g_moment_in : mg "moment_in" = some (.ref a_moment_in)
  a__law_cell : Addr
  d__law_cell : FuncData
  F__law_cell : Fun K "_law_cell" "_law_cell" s__law_cell a__law_cell d__law_cell
  g__law_cell : mg "_law_cell" = some (.ref a__law_cell)
  a__law_row : Addr
  d__law_row : FuncData
  F__law_row : Fun K "_law_row" "_law_row" s__law_row a__law_row d__law_row
  g__law_row : mg "_law_row" = some (.ref a__law_row)
  a__law_whole : Addr
  d__law_whole : FuncData
  F__law_whole : Fun K "_law_whole" "_law_whole" s__law_whole a__law_whole d__law_whole
  g__law_whole : mg "_law_whole" = some (.ref a__law_whole)
  a__law_ratio : Addr
  d__law_ratio : FuncData
  F__law_ratio : Fun K "_law_ratio" "_law_ratio" s__law_ratio a__law_ratio d__law_ratio
  g__law_ratio : mg "_law_ratio" = some (.ref a__law_ratio)
  a__law_gcd : Addr
  d__law_gcd : FuncData
  F__law_gcd : Fun K "_law_gcd" "_law_gcd" s__law_gcd a__law_gcd d__law_gcd
  g__law_gcd : mg "_law_gcd" = some (.ref a__law_gcd)
  a__law_is_int : Addr
  d__law_is_int : FuncData
  F__law_is_int : Fun K "_law_is_int" "_law_is_int" s__law_is_int a__law_is_int d__law_is_int
  g__law_is_int : mg "_law_is_int" = some (.ref a__law_is_int)
  a__law_holds : Addr
  d__law_holds : FuncData
  F__law_holds : Fun K "_law_holds" "_law_holds" s__law_holds a__law_holds d__law_holds
  g__law_holds : mg "_law_holds" = some (.ref a__law_holds)
  a__law_is_number : Addr
  d__law_is_number : FuncData
  F__law_is_number : Fun K "_law_is_number" "_law_is_number" s__law_is_number a__law_is_number d__law_is_number
  g__law_is_number : mg "_law_is_number" = some (.ref a__law_is_number)
  a__law_is_written : Addr
  d__law_is_written : FuncData
  F__law_is_written : Fun K "_law_is_written" "_law_is_written" s__law_is_written a__law_is_written d__law_is_written
  g__law_is_written : mg "_law_is_written" = some (.ref a__law_is_written)
  a__law_low : Addr
  d__law_low : FuncData
  F__law_low : Fun K "_law_low" "_law_low" s__law_low a__law_low d__law_low
  g__law_low : mg "_law_low" = some (.ref a__law_low)
  a__law_printed : Addr
  d__law_printed : FuncData
  F__law_printed : Fun K "_law_printed" "_law_printed" s__law_printed a__law_printed d__law_printed
  g__law_printed : mg "_law_printed" = some (.ref a__law_printed)
  a__law_sign : Addr
  d__law_sign : FuncData
  F__law_sign : Fun K "_law_sign" "_law_sign" s__law_sign a__law_sign d__law_sign
  g__law_sign : mg "_law_sign" = some (.ref a__law_sign)
  a__law_spoilt : Addr
  d__law_spoilt : FuncData
  F__law_spoilt : Fun K "_law_spoilt" "_law_spoilt" s__law_spoilt a__law_spoilt d__law_spoilt
  g__law_spoilt : mg "_law_spoilt" = some (.ref a__law_spoilt)
  a__law_near : Addr
  d__law_near : FuncData
  F__law_near : Fun K "_law_near" "_law_near" s__law_near a__law_near d__law_near
  g__law_near : mg "_law_near" = some (.ref a__law_near)
  a_law : Addr
  d_law : FuncData
  F_law : Fun K "law" "law" s_law a_law d_law
  g_law : mg "law" = some (.ref a_law)
  C_AnytuneError : Addr
  g_AnytuneError : mg "AnytuneError" = some (.ref C_AnytuneError)
  rd_AnytuneError : ClX.CRead K C_AnytuneError (.type "type")
  in_AnytuneError : PySem.W.findCls K (.ref C_AnytuneError) (.type "type") "__init__" = some (.val (.builtin "ValueError.__init__"))
  C_NoMoment : Addr
  g_NoMoment : mg "NoMoment" = some (.ref C_NoMoment)
  ox_NoMoment : OexC K C_NoMoment
  xf_NoMoment : XfC K C_NoMoment
  em_NoMoment : PySem.W.exmOne K (.ref C_NoMoment) (.ref C_NoMoment) = some true
  na_NoMoment_top : PySem.W.findIn K (.ref C_NoMoment) "top" = some none
  na_NoMoment_bottom : PySem.W.findIn K (.ref C_NoMoment) "bottom" = some none
  C_NoText : Addr
  g_NoText : mg "NoText" = some (.ref C_NoText)
  ox_NoText : OexC K C_NoText
  xf_NoText : XfC K C_NoText
  em_NoText : PySem.W.exmOne K (.ref C_NoText) (.ref C_NoText) = some true
  na_NoText_text : PySem.W.findIn K (.ref C_NoText) "text" = some none
  C_Moment : Addr
  g_Moment : mg "Moment" = some (.ref C_Moment)
  o_Moment : OwnC K C_Moment
  k1_Moment : PySem.W.isClsIn K C_Moment = true
  k2_Moment : PySem.W.typeIn K (.ref C_Moment) = some (.type "type")
  k3_Moment : PySem.W.keepIn K (.ref C_Moment) = true
  mk_Moment : PySem.W.makesIn K C_Moment = true
  na_Moment_top : NoAttr K C_Moment "top"
  na_Moment_bottom : NoAttr K C_Moment "bottom"
  z_Moment_int : PySem.W.subIn K (.type "int") (.ref C_Moment) = some false
  z_Moment_str : PySem.W.subIn K (.type "str") (.ref C_Moment) = some false
  z_Moment_list : PySem.W.subIn K (.type "list") (.ref C_Moment) = some false
  z_Moment_tuple : PySem.W.subIn K (.type "tuple") (.ref C_Moment) = some false
  z_Moment_NoneType : PySem.W.subIn K (.type "NoneType") (.ref C_Moment) = some false
  z_Moment_bool : PySem.W.subIn K (.type "bool") (.ref C_Moment) = some false
  ne_Moment : PySem.W.findIn K (.ref C_Moment) "__ne__" = some (some (.builtin "object.__ne__"))
  m_NoMoment___init__ : OwnM K C_NoMoment a_NoMoment___init__ "__init__"
  m_NoText___init__ : OwnM K C_NoText a_NoText___init__ "__init__"
  m_Moment___init__ : OwnM K C_Moment a_Moment___init__ "__init__"
  m_Moment___str__ : OwnM K C_Moment a_Moment___str__ "__str__"
  sm_Moment_read : SMet K C_Moment "read" a_Moment_read
  u_DIGITS : Value
  g_DIGITS : mg "DIGITS" = some u_DIGITS
  v_DIGITS : RelV (.str (SX.S [48, 49, 50, 51, 52, 53, 54, 55, 56, 57])) u_DIGITS
  u_MOST_DIGITS : Value
  g_MOST_DIGITS : mg "MOST_DIGITS" = some u_MOST_DIGITS
  v_MOST_DIGITS : RelV (.int 60) u_MOST_DIGITS
  n_abs : mg "abs" = none
  n_str : mg "str" = none
  n_staticmethod : mg "staticmethod" = none
  n_int : mg "int" = none
  n_len : mg "len" = none
  n_range : mg "range" = none
  n_isinstance : mg "isinstance" = none
  n_bool : mg "bool" = none
section
variable {K : PySem.W.Frag} {mg : Str → Option Value}
theorem Tx.b_NoMoment___init__ (T : Tx K mg) : Binds K T.d_NoMoment___init__ ["self", "top", "bottom"] [] := T.F_NoMoment___init__.binds (ps := ["self", "top", "bottom"]) fun _ _ _ _ _ _ us hl => match us, hl with | [_, _, _], _ => rfl
theorem Tx.b_NoText___init__ (T : Tx K mg) : Binds K T.d_NoText___init__ ["self", "text"] [] := T.F_NoText___init__.binds (ps := ["self", "text"]) fun _ _ _ _ _ _ us hl => match us, hl with | [_, _], _ => rfl
theorem Tx.b_common (T : Tx K mg) : Binds K T.d_common ["a", "b"] [] := T.F_common.binds (ps := ["a", "b"]) fun _ _ _ _ _ _ us hl => match us, hl with | [_, _], _ => rfl
theorem Tx.M_Moment (T : Tx K mg) : Mk K T.C_Moment T.a_Moment___init__ := ⟨T.mk_Moment, T.m_Moment___init__.at_, T.m_Moment___init__.fn, T.k3_Moment⟩
theorem Tx.mt_Moment___init__ (T : Tx K mg) : Meth K T.C_Moment "__init__" T.a_Moment___init__ := ⟨T.m_Moment___init__.at_, T.m_Moment___init__.fn, T.F_Moment___init__.kp⟩
theorem Tx.b_Moment___str__ (T : Tx K mg) : Binds K T.d_Moment___str__ ["self"] [] := T.F_Moment___str__.binds (ps := ["self"]) fun _ _ _ _ _ _ us hl => match us, hl with | [_], _ => rfl
theorem Tx.mt_Moment___str__ (T : Tx K mg) : Meth K T.C_Moment "__str__" T.a_Moment___str__ := ⟨T.m_Moment___str__.at_, T.m_Moment___str__.fn, T.F_Moment___str__.kp⟩
theorem Tx.b_Moment_read (T : Tx K mg) : Binds K T.d_Moment_read ["text"] [] := T.F_Moment_read.binds (ps := ["text"]) fun _ _ _ _ _ _ us hl => match us, hl with | [_], _ => rfl
theorem Tx.b_whole_in (T : Tx K mg) : Binds K T.d_whole_in ["text"] [] := T.F_whole_in.binds (ps := ["text"]) fun _ _ _ _ _ _ us hl => match us, hl with | [_], _ => rfl
theorem Tx.b_moment_in (T : Tx K mg) : Binds K T.d_moment_in ["text"] [] := T.F_moment_in.binds (ps := ["text"]) fun _ _ _ _ _ _ us hl => match us, hl with | [_], _ => rfl
theorem Tx.b__law_cell (T : Tx K mg) : Binds K T.d__law_cell ["_law_script", "_law_k"] [] := T.F__law_cell.binds (ps := ["_law_script", "_law_k"]) fun _ _ _ _ _ _ us hl => match us, hl with | [_, _], _ => rfl
theorem Tx.b__law_row (T : Tx K mg) : Binds K T.d__law_row ["_law_cell_here", "_law_sizes"] [] := T.F__law_row.binds (ps := ["_law_cell_here", "_law_sizes"]) fun _ _ _ _ _ _ us hl => match us, hl with | [_, _], _ => rfl
theorem Tx.b__law_whole (T : Tx K mg) : Binds K T.d__law_whole ["_law_cell_here", "_law_most"] [] := T.F__law_whole.binds (ps := ["_law_cell_here", "_law_most"]) fun _ _ _ _ _ _ us hl => match us, hl with | [_, _], _ => rfl
theorem Tx.b__law_ratio (T : Tx K mg) : Binds K T.d__law_ratio ["_law_a", "_law_b", "_law_most"] [] := T.F__law_ratio.binds (ps := ["_law_a", "_law_b", "_law_most"]) fun _ _ _ _ _ _ us hl => match us, hl with | [_, _, _], _ => rfl
theorem Tx.b__law_gcd (T : Tx K mg) : Binds K T.d__law_gcd ["_law_a", "_law_b"] [] := T.F__law_gcd.binds (ps := ["_law_a", "_law_b"]) fun _ _ _ _ _ _ us hl => match us, hl with | [_, _], _ => rfl
theorem Tx.b__law_is_int (T : Tx K mg) : Binds K T.d__law_is_int ["_law_actual"] [] := T.F__law_is_int.binds (ps := ["_law_actual"]) fun _ _ _ _ _ _ us hl => match us, hl with | [_], _ => rfl
theorem Tx.b__law_holds (T : Tx K mg) : Binds K T.d__law_holds ["_law_actual", "_law_top", "_law_bottom"] [] := T.F__law_holds.binds (ps := ["_law_actual", "_law_top", "_law_bottom"]) fun _ _ _ _ _ _ us hl => match us, hl with | [_, _, _], _ => rfl
theorem Tx.b__law_is_number (T : Tx K mg) : Binds K T.d__law_is_number ["_law_text", "_law_least"] [] := T.F__law_is_number.binds (ps := ["_law_text", "_law_least"]) fun _ _ _ _ _ _ us hl => match us, hl with | [_, _], _ => rfl
theorem Tx.b__law_is_written (T : Tx K mg) : Binds K T.d__law_is_written ["_law_text"] [] := T.F__law_is_written.binds (ps := ["_law_text"]) fun _ _ _ _ _ _ us hl => match us, hl with | [_], _ => rfl
theorem Tx.b__law_low (T : Tx K mg) : Binds K T.d__law_low ["_law_top", "_law_bottom"] [] := T.F__law_low.binds (ps := ["_law_top", "_law_bottom"]) fun _ _ _ _ _ _ us hl => match us, hl with | [_, _], _ => rfl
theorem Tx.b__law_printed (T : Tx K mg) : Binds K T.d__law_printed ["_law_pair"] [] := T.F__law_printed.binds (ps := ["_law_pair"]) fun _ _ _ _ _ _ us hl => match us, hl with | [_], _ => rfl
theorem Tx.b__law_sign (T : Tx K mg) : Binds K T.d__law_sign ["_law_k"] [] := T.F__law_sign.binds (ps := ["_law_k"]) fun _ _ _ _ _ _ us hl => match us, hl with | [_], _ => rfl
theorem Tx.b__law_spoilt (T : Tx K mg) : Binds K T.d__law_spoilt ["_law_text", "_law_kind", "_law_place", "_law_k"] [] := T.F__law_spoilt.binds (ps := ["_law_text", "_law_kind", "_law_place", "_law_k"]) fun _ _ _ _ _ _ us hl => match us, hl with | [_, _, _, _], _ => rfl
theorem Tx.b__law_near (T : Tx K mg) : Binds K T.d__law_near ["_law_k"] [] := T.F__law_near.binds (ps := ["_law_k"]) fun _ _ _ _ _ _ us hl => match us, hl with | [_], _ => rfl
theorem Tx.b_law (T : Tx K mg) : Binds K T.d_law ["_law_script"] [] := T.F_law.binds (ps := ["_law_script"]) fun _ _ _ _ _ _ us hl => match us, hl with | [_], _ => rfl
end
end AT
open AT
local macro_rules | `(tactic| walk_at "vc1") => `(tactic| (with_reducible first
  | refine w_seq ?_ | refine w_if ?_ | refine w_set ?_ | refine w_par ?_ | refine w_drop ?_ | refine w_ret ?_ | refine w_retN ?_ | refine w_next ?_
  | refine w_c ?_ | refine w_test ?_ | refine w_B ?_ | refine w_op ?_ | refine w_un ?_ | refine w_chain ?_ | refine w_and ?_ | refine w_or ?_ | refine w_not ?_
  | refine w_andV ?_ | refine w_orV ?_ | refine w_notV ?_ | refine w_ifE ?_ | refine w_nil ?_ | refine w_cons ?_ | refine w_call ?_ | refine w_callS ?_ | refine w_cb ?_
  | refine w_fld ?_ | refine w_sfld ?_ | refine w_lst ?_ | refine w_tup ?_ | refine w_bm ?_
  | refine w_rI0 ?_ | refine w_rU ?_ | refine w_eqI ?_ | refine w_neI ?_ | refine w_bl ?_ | refine w_blV ?_ | refine w_abs ?_ | refine w_int ?_ | refine w_two ?_ | refine w_iList ?_ | refine w_iTup ?_ | refine w_iRng1 ?_ | refine w_gname ?_ | refine w_intInt ?_ | refine w_intBool ?_ | refine w_boolBool ?_ | refine w_for ?_ | refine w_makeS ?_ | refine w_xf ?_ | refine n_isN ?_ | refine n_notN ?_ | refine w_opS ?_ | refine w_lc ?_ | refine i_yes rfl ?_ | refine i_no rfl ?_))
local macro_rules | `(tactic| walk_at "vc") => `(tactic| (repeat (first | (walk_at "vc1") | (refine w_var (by rfl) ?_) | (refine w_aug (by rfl) ?_) | (refine w_pow (by decide) ?_) | (refine w_mod (by decide) ?_))))
namespace AT
open PySem PySem.Spec PyProof.Rows L2
section
variable {P : Program} {w : World} {K : PySem.W.Frag} {mg : Str → Option Value} {base : Heap}
/-- two ints, both below 2 ^ 8000: their greatest common divisor -/
def spGcd : Sp := fun vs H Q _ => ∃ a b : Int, vs = [.int a, .int b] ∧ Bn 8000 a ∧ Bn 8000 b ∧ Q (.int (Int.gcd a b)) H
theorem c_gcd {a b : Int} {H : Hp} {Q : VK} {E : XK} (ha : Bn 8000 a) (hb : Bn 8000 b) (h : Q (.int (Int.gcd a b)) H) : spGcd [.int a, .int b] H Q E := ⟨a, b, rfl, ha, hb, h⟩
theorem gcd_turn {a b a0 b0 : Int} (hb : 0 < b) (ha : 0 ≤ a) (g : Int.gcd a b = Int.gcd a0 b0) (z : Bn 8000 b) : 0 ≤ b ∧ 0 ≤ a - b * (a.fdiv b) ∧ Int.gcd b (a - b * (a.fdiv b)) = Int.gcd a0 b0 ∧ Bn 8000 b ∧ Bn 8000 (a - b * (a.fdiv b)) ∧ (a - b * (a.fdiv b)).toNat < b.toNat := by
  have e := rest_eq (a := a) hb
  have h1 := Int.emod_nonneg a (by omega : b ≠ 0)
  have h2 := Int.emod_lt_of_pos a hb
  refine ⟨by omega, by omega, (gcd_step hb).trans g, z, z.le (by omega), by omega⟩
theorem gcd_out {a b a0 b0 : Int} (hb : ¬ 0 < b) (hb0 : 0 ≤ b) (ha : 0 ≤ a) (g : Int.gcd a b = Int.gcd a0 b0) : a = (Int.gcd a0 b0 : Int) := by
  have : b = 0 := by omega
  subst this
  rw [← g, Int.gcd_zero_right]
  omega
theorem ok_common (T : Tx K mg) : FnOk P w K mg base CX0 1 T.a_common T.d_common ["a", "b"] spGcd := by
  refine T.F_common.ok sc_common (fun vs H Q E h => ?_) (fun cdv A outer s H vs Q E hr h => ?_)
  · obtain ⟨a, b, rfl, _⟩ := h
    rfl
  · obtain ⟨a, b, rfl, ha, hb, k⟩ := h
    refine ⟨_, ((pss_cons (ps_set (i := 0) sc_common.nd rfl (Or.inl rfl) (pe_callB call_absR (by rfl) T.n_abs boot_abs (pa_cons (pv 0) pa_nil)))
 (pss_cons (ps_set (i := 1) sc_common.nd rfl (Or.inl rfl) (pe_callB call_absR (by rfl) T.n_abs boot_abs (pa_cons (pv 1) pa_nil)))
 (pss_cons (ps_while PassesOwn.never (pt_cmpR op_gt (pv 1) pe_int (nomark _)) (pss_one (ps_par (i := 0) (j := 1) rfl sc_common.nd rfl rfl (by decide) rfl rfl (pa_cons (pv 1) (pa_cons (pe_op op_sub (pv 0) (pe_op op_mulW (pv 1) (pe_op op_fdivG (pv 0) (pv 1)))) pa_nil)) rfl)))
 (pss_one (ps_ret (pv 0))))))), ?_⟩
    walk_at "vc"
    refine w_while (fun σ H' => H' = H ∧ ∃ x y : Int, σ = [some (.int x), some (.int y)] ∧ 0 ≤ x ∧ 0 ≤ y ∧ Int.gcd x y = Int.gcd a b ∧ Bn 8000 x ∧ Bn 8000 y) (fun σ _ => match σ with | [_, some (.int y)] => y.toNat | _ => 0)
      ⟨rfl, _, _, rfl, by omega, by omega, rfl, ha.abs, hb.abs⟩ ?_
    rintro σ H' ⟨rfl, x, y, rfl, hx, hy, g, bx, bY⟩
    walk_at "vc"
    refine i_dec (fun hp => ?_) (fun hp => ?_)
    · refine w_wturn ?_
      walk_at "vc"
      refine w_rI ⟨by omega, bY.log' (by decide)⟩ ?_
      obtain ⟨t1, t2, t3, t4, t5, t6⟩ := gcd_turn hp hx g bY
      refine w_rI (wide_mul (a := 8000) (b := 8000) bY (bx.le (fdiv_abs hp hx)) (by decide) (by decide) (by decide)) ?_
      walk_at "vc"
      exact ⟨t6, rfl, _, _, rfl, t1, t2, t3, t4, t5⟩
    · walk_at "vc"
      rw [gcd_out hp hy hx g]
      exact k
end
end AT
namespace AT
open PySem PySem.Spec PyProof.Rows L2
/-- the attributes of a moment -/
def momF (q : Rat) : List (Str × V) := [("top", .int q.num), ("bottom", .int (q.den : Int))]
theorem momF_new (q : Rat) : putF "bottom" (.int (q.den : Int)) (putF "top" (.int q.num) []) = momF q := by
  show (if ("top" : Str) = "bottom" then _ else (("top" : Str), V.int q.num) :: putF "bottom" _ []) = _
  rw [if_neg (by decide +kernel)]
  rfl
theorem momF_top (q : Rat) : (momF q).lookup ("top" : Str) = some (.int q.num) := rfl
theorem momF_bottom (q : Rat) : (momF q).lookup ("bottom" : Str) = some (.int (q.den : Int)) := by
  rw [← momF_new, lookup_putF, if_pos rfl]
/-- v is a moment that is worth q -/
def Mo (C : Addr) (H : Hp) (v : V) (q : Rat) : Prop := ∃ a dx, v = .ref a ∧ H a = some (.ins C dx (momF q))
theorem Mo.up {C : Addr} {H H' : Hp} {v : V} {q : Rat} (e : Ext H H') (h : Mo C H v q) : Mo C H' v q := by
  obtain ⟨a, dx, rfl, z⟩ := h
  exact ⟨a, dx, rfl, e _ _ z⟩
/-- small enough to reckon with: both parts below 2 ^ n -/
structure Sm (n : Nat) (q : Rat) : Prop where
  num : Bn n q.num
  den : Bn n (q.den : Int)
theorem Sm.mono {m n : Nat} {q : Rat} (h : Sm m q) (l : m ≤ n) : Sm n q := ⟨h.num.mono l, h.den.mono l⟩
theorem sm_div {n : Nat} {t b : Int} (hb : b ≠ 0) (ht : Bn n t) (hb' : Bn n b) : Sm n (Rat.divInt t b) := ⟨ht.le (num_le hb), hb'.le (by rw [Int.natAbs_natCast]; exact den_le hb)⟩
section
variable {P : Program} {w : World} {K : PySem.W.Frag} {mg : Str → Option Value} {base : Heap}
/-- an error of two values -/
def spErr2 (C : Addr) (f g : Str) : Sp := fun vs H Q _ => ∃ (a : Addr) (x y : V), vs = [.ref a, x, y] ∧ H a = some (exo a C none) ∧
  ∀ d H', H d = none → H' a = some (exo a C (some d)) → H' d = some (exd d [(g, y), (f, x)]) → (∀ b o, H b = some o → b ≠ a → H' b = some o) → Q .non H'
theorem ok_NoMoment___init__ (T : Tx K mg) : FnOk P w K mg base CX0 1 T.a_NoMoment___init__ T.d_NoMoment___init__ ["self", "top", "bottom"] (spErr2 T.C_NoMoment "top" "bottom") := by
  refine T.F_NoMoment___init__.ok sc_NoMoment___init__ (fun vs H Q E h => ?_) (fun cdv A outer s H vs Q E hr h => ?_)
  · obtain ⟨a, x, y, rfl, _⟩ := h
    rfl
  · obtain ⟨a, x, y, rfl, ha, k⟩ := h
    refine ⟨_, ((pss_cons (ps_expr (pe_clsinit rfl T.g_AnytuneError T.rd_AnytuneError T.in_AnytuneError (pa_cons (pv 0) (pa_cons pe_str pa_nil))))
 (pss_cons (ps_ost (pv 0) (pv 1))
 (pss_one (ps_ost (pv 0) (pv 2)))))), ?_⟩
    refine ⟨_, rfl, a, T.C_NoMoment, _, rfl, by decide, T.ox_NoMoment, ha, ?_⟩
    refine ⟨_, rfl, _, rfl, a, T.C_NoMoment, rfl, T.ox_NoMoment, T.na_NoMoment_top, .inl ⟨ha, fun dx nd ne => ?_⟩⟩
    refine ⟨_, rfl, _, rfl, a, T.C_NoMoment, rfl, T.ox_NoMoment, T.na_NoMoment_bottom, .inr ⟨dx, _, upd_same, by rw [upd_ne ne, upd_same], (by show 1 ≤ 900; decide), ?_⟩⟩
    refine k dx _ nd (by rw [upd_ne (Ne.symm ne), upd_same]) upd_same fun b o e hb => ?_
    rw [upd_ne (ne_of_none e nd), upd_ne hb, upd_ne (ne_of_none e nd)]
    exact e
/-- Moment(top, bottom) on a new instance -/
def spMom (C CE : Addr) : Sp := fun vs H Q E => ∃ (x dx : Addr) (t b : Int), vs = [.ref x, .int t, .int b] ∧ H x = some (.ins C dx []) ∧ Bn 8000 t ∧ Bn 8000 b ∧
  (b = 0 → ∀ d H', H d = none → Ext H H' → H' d = some (.xd [("bottom", .int b), ("top", .int t)]) → E (.ref CE) (some d) H') ∧
  (b ≠ 0 → Q .non (upd H x (.ins C dx (momF (Rat.divInt t b)))))
theorem ok_Moment___init__ (T : Tx K mg) : FnOk P w K mg base (L2.CX P w) 3 T.a_Moment___init__ T.d_Moment___init__ ["self", "top", "bottom"] (spMom T.C_Moment T.C_NoMoment) := by
  refine T.F_Moment___init__.ok sc_Moment___init__ (fun vs H Q E h => ?_) (fun cdv A outer s H vs Q E hr h => ?_)
  · obtain ⟨x, dx, t, b, rfl, _⟩ := h
    rfl
  · obtain ⟨x, dx, t, b, rfl, hx, ht, hb, kE, kQ⟩ := h
    have G_common : FnOk P w K mg base CX0 1 T.a_common T.d_common ["a", "b"] spGcd := ok_common T
    have G_err : FnOk P w K mg base CX0 1 T.a_NoMoment___init__ T.d_NoMoment___init__ ["self", "top", "bottom"] (spErr2 T.C_NoMoment "top" "bottom") := ok_NoMoment___init__ T
    have hr_common : Room 1 _ := hr.mono (by decide : 1 ≤ 2)
    refine ⟨_, ((pss_cons (ps_if (pt_cmpR op_eq (pv 2) pe_int (nomark _)) (pss_one (ps_raise rfl (takes_of rfl rfl rfl rfl) (pmk_oex T.ox_NoMoment T.m_NoMoment___init__.at_ (beq_iff_eq.mp T.m_NoMoment___init__.fn) G_err hr T.b_NoMoment___init__ .nil pass0 rfl T.g_NoMoment (pa_cons (pv 1) (pa_cons (pv 2) pa_nil))))) pss_nil)
 (pss_cons (ps_set (i := 3) sc_Moment___init__.nd rfl (Or.inl rfl) (pe_call G_common hr_common rfl T.g_common T.F_common.kp T.b_common .nil pass0 (pa_cons (pv 1) (pa_cons (pv 2) pa_nil))))
 (pss_cons (ps_if (pt_cmpR op_lt (pv 2) pe_int (nomark _)) (pss_one (ps_set (i := 3) sc_Moment___init__.nd rfl (Or.inl rfl) (pe_un un_neg (pv 3)))) pss_nil)
 (pss_cons (ps_fld (pv 0) (pe_op op_fdivG (pv 1) (pv 3)) rfl)
 (pss_one (ps_fld (pv 0) (pe_op op_fdivG (pv 2) (pv 3)) rfl))))))), ?_⟩
    walk_at "vc"
    refine i_dec (fun h0 => ?_) (fun h0 => ?_)
    · refine ⟨_, rfl, _, rfl, (by decide : 2 ≤ 1000), fun a na => ⟨a, _, _, rfl, upd_same, fun d H' nd h1 h2 kp => ⟨rfl, d, _, h1, h2, Ext.fresh (Ext.new na) nd, ?_⟩⟩⟩
      have nd' : H d = none := Ext.fresh (Ext.new na) nd
      refine kE h0 d _ nd' (fun q o e => ?_) upd_same
      rw [upd_ne (ne_of_none e nd'), del_ne (ne_of_none e na)]
      exact kp q o (by rw [upd_ne (ne_of_none e na)]; exact e) (ne_of_none e na)
    · walk_at "vc"
      refine c_gcd ht hb ?_
      walk_at "vc"
      have hp := part_ne (t := t) h0
      have pb : Bn 8000 (part t b) := part_bn ht hb h0
      refine i_dec (fun hn => ?_) (fun hn => ?_)
      · walk_at "vc"
        have e : -(Int.gcd t b : Int) = part t b := by unfold part; rw [if_pos hn]
        rw [e]
        refine w_rI ⟨hp, pb.log' (by decide)⟩ ?_
        walk_at "vc"
        refine ⟨x, _, dx, [], rfl, hx, T.o_Moment.cl, T.na_Moment_top, by decide, ?_⟩
        walk_at "vc"
        refine w_rI ⟨hp, pb.log' (by decide)⟩ ?_
        walk_at "vc"
        refine ⟨x, _, dx, _, rfl, upd_same, T.o_Moment.cl, T.na_Moment_bottom, (by show 1 < 1000; decide), ?_⟩
        have z := kQ h0
        rw [num_eq h0, den_eq h0, momF_new, upd_upd]
        exact z
      · walk_at "vc"
        have e : (Int.gcd t b : Int) = part t b := by unfold part; rw [if_neg hn]
        rw [e]
        refine w_rI ⟨hp, pb.log' (by decide)⟩ ?_
        walk_at "vc"
        refine ⟨x, _, dx, [], rfl, hx, T.o_Moment.cl, T.na_Moment_top, by decide, ?_⟩
        walk_at "vc"
        refine w_rI ⟨hp, pb.log' (by decide)⟩ ?_
        walk_at "vc"
        refine ⟨x, _, dx, _, rfl, upd_same, T.o_Moment.cl, T.na_Moment_bottom, (by show 1 < 1000; decide), ?_⟩
        have z := kQ h0
        rw [num_eq h0, den_eq h0, momF_new, upd_upd]
        exact z
end
end AT
namespace AT
open PySem PySem.Spec PyProof.Rows L2
theorem map_at {α β : Type} {f : α → β} {l : List α} {i : Nat} {y : β} (h : (l.map f)[i]? = some y) : ∃ x, l[i]? = some x ∧ y = f x := by
  rw [List.getElem?_map] at h
  cases e : l[i]? with
  | none => rw [e] at h; cases h
  | some x => rw [e] at h; exact ⟨x, rfl, (Option.some.inj h).symm⟩
theorem at_map {α β : Type} {f : α → β} {l : List α} {i : Nat} {x : α} (h : l[i]? = some x) : (l.map f)[i]? = some (f x) := by
  rw [List.getElem?_map, h]
  rfl
section
variable {P : Program} {w : World} {K : PySem.W.Frag} {mg : Str → Option Value} {base : Heap}
/-- a cell of the script: some int -/
def spCell (K : PySem.W.Frag) : Sp := fun vs H Q _ => ∃ (a : Addr) (ns : List Int) (k : Int), vs = [.ref a, .int k] ∧ SqL K H a (ns.map V.int) ∧ 0 ≤ k ∧ ∀ c : Int, Q (.int c) H
theorem c_cell {a : Addr} {ns : List Int} {k : Int} {H : Hp} {Q : VK} {E : XK} (l : SqL K H a (ns.map V.int)) (hk : 0 ≤ k) (h : ∀ c : Int, Q (.int c) H) : spCell K [.ref a, .int k] H Q E := ⟨a, ns, k, rfl, l, hk, h⟩
theorem ok__law_cell (T : Tx K mg) : FnOk P w K mg base CX0 1 T.a__law_cell T.d__law_cell ["_law_script", "_law_k"] (spCell K) := by
  refine T.F__law_cell.ok sc__law_cell (fun vs H Q E h => ?_) (fun cdv A outer s H vs Q E hr h => ?_)
  · obtain ⟨a, ns, k, rfl, _⟩ := h
    rfl
  · obtain ⟨a, ns, k, rfl, l, hk, q⟩ := h
    refine ⟨_, ((pss_cons (ps_if (pt_cmpR op_lt (pv 1) (pe_callB call_lenR (by rfl) T.n_len PySem.boot_len (pa_cons (pv 0) pa_nil)) (nomark _)) (pss_one (ps_ret (pe_ix ix_list (pv 0) (pv 1) (fun _ _ => rfl)))) pss_nil)
 (pss_one (ps_ret pe_int)))), ?_⟩
    walk_at "vc"
    refine w_len l ?_
    walk_at "vc"
    refine i_dec (fun hp => ?_) (fun hp => ?_)
    · walk_at "vc"
      rw [List.length_map] at hp
      obtain ⟨j, rfl⟩ : ∃ j : Nat, k = (j : Int) := ⟨k.toNat, by omega⟩
      have hj : j < ns.length := by omega
      exact w_ixL l (atI_nat (at_map (List.getElem?_eq_getElem hj))) (q _)
    · walk_at "vc"
      exact q 0
theorem mw {i j : Int} (hi : Bn 64 i) (hj : Bn 8000 j) : CMulW i j := wide_mul (a := 64) (b := 8000) hi hj (by decide) (by decide) (by decide)
end
end AT
namespace AT
open PySem PySem.Spec PyProof.Rows L2
section
variable {P : Program} {w : World} {K : PySem.W.Frag} {mg : Str → Option Value} {base : Heap}
/-- numbers below their sizes -/
def RowOk (ss ns : List Int) : Prop := ns.length = ss.length ∧ ∀ (i : Nat) s, ss[i]? = some s → ∃ n, ns[i]? = some n ∧ 0 ≤ n ∧ n < s
theorem RowOk.nil : RowOk [] [] := ⟨rfl, fun i s h => by simp at h⟩
theorem RowOk.more {ss ns : List Int} {i : Nat} {s n : Int} (h : RowOk (ss.take i) ns) (e : ss[i]? = some s) (h0 : 0 ≤ n) (h1 : n < s) : RowOk (ss.take (i + 1)) (ns ++ [n]) := by
  have hi : i < ss.length := (List.getElem?_eq_some_iff.mp e).1
  have hl : ns.length = i := by rw [h.1, List.length_take]; omega
  refine ⟨by rw [List.length_append, hl, List.length_take]; simp; omega, fun j s' hj => ?_⟩
  have hj' : j < i + 1 := by
    have := (List.getElem?_eq_some_iff.mp hj).1
    rw [List.length_take] at this
    omega
  rw [List.getElem?_take, if_pos hj'] at hj
  by_cases hji : j = i
  · subst hji
    rw [e] at hj
    cases hj
    refine ⟨n, ?_, h0, h1⟩
    rw [List.getElem?_append_right (by omega), hl]
    simp
  · obtain ⟨m, h2, h3, h4⟩ := h.2 j s' (by rw [List.getElem?_take, if_pos (by omega)]; exact hj)
    exact ⟨m, by rw [List.getElem?_append_left (by omega)]; exact h2, h3, h4⟩
theorem RowOk.one {s : Int} {ns : List Int} (h : RowOk [s] ns) : ∃ a, ns = [a] ∧ 0 ≤ a ∧ a < s := by
  obtain ⟨h1, h2⟩ := h
  obtain ⟨a, ea, pa⟩ := h2 0 s rfl
  match ns, h1 with
  | [x], _ =>
    cases ea
    exact ⟨_, rfl, pa⟩
theorem RowOk.cons {s : Int} {ss ns : List Int} (h : RowOk (s :: ss) ns) : ∃ a r, ns = a :: r ∧ 0 ≤ a ∧ a < s ∧ RowOk ss r := by
  obtain ⟨h1, h2⟩ := h
  obtain ⟨a, ea, pa⟩ := h2 0 s rfl
  match ns, h1 with
  | x :: r, h1 =>
    cases ea
    refine ⟨_, r, rfl, pa.1, pa.2, by simpa using h1, fun i s' e => ?_⟩
    obtain ⟨n, e1, e2⟩ := h2 (i + 1) s' (by simpa using e)
    exact ⟨n, by simpa using e1, e2⟩
def spRow (K : PySem.W.Frag) : Sp := fun vs H Q _ => ∃ (c : Int) (l : Addr) (ss : List Int), vs = [.int c, .ref l] ∧ SqL K H l (ss.map V.int) ∧ ss.length ≤ 63 ∧ (∀ s ∈ ss, 0 < s ∧ s < 1073741824) ∧
  ∀ p ns, H p = none → RowOk ss ns → Q (.ref p) (upd H p (.lst (ns.map V.int)))
theorem c_row {c : Int} {l : Addr} {ss : List Int} {H : Hp} {Q : VK} {E : XK} (hl : SqL K H l (ss.map V.int)) (hz : ss.length ≤ 63) (hs : ∀ s ∈ ss, 0 < s ∧ s < 1073741824)
    (h : ∀ p ns, H p = none → RowOk ss ns → Q (.ref p) (upd H p (.lst (ns.map V.int)))) : spRow K [.int c, .ref l] H Q E := ⟨c, l, ss, rfl, hl, hz, hs, h⟩
theorem pow5 {x : Int} (h : x.natAbs < 2 ^ 64) : CPow x 5 := ⟨by decide, by decide, h⟩
theorem ok__law_row (T : Tx K mg) : FnOk P w K mg base CX0 1 T.a__law_row T.d__law_row ["_law_cell_here", "_law_sizes"] (spRow K) := by
  refine T.F__law_row.ok sc__law_row (fun vs H Q E h => ?_) (fun cdv A outer s H vs Q E hr h => ?_)
  · obtain ⟨c, l, ss, rfl, _⟩ := h
    rfl
  · obtain ⟨c, l, ss, rfl, hl, hz, hs, q⟩ := h
    refine ⟨_, ((pss_cons (ps_set (i := 2) sc__law_row.nd rfl (Or.inl rfl) (pe_lst pa_nil))
 (pss_cons (ps_if (pt_cmpR op_ge (pv 0) (pe_op op_pow pe_int pe_int) (nomark _)) (pss_cons (ps_for PassesOwn.never rfl (pi_list (pv 1)) (pg_name (i := 3) sc__law_row.nd rfl (Or.inl rfl)) (pss_cons (ps_expr (pe_bm PySem.F.plainAttrs_list PySem.F.slot_list_append PySem.F.type_list_append mt_append (pv 2) (pa_cons (pe_op op_mod (pe_callTy call_intR (by rfl) T.n_int boot_int (pa_cons (pv 0) pa_nil)) (pv 3)) pa_nil)))
 (pss_one (ps_set (i := 0) sc__law_row.nd rfl (Or.inl rfl) (pe_op op_fdivG (pv 0) (pv 3))))))
 (pss_one (ps_ret (pv 2)))) pss_nil)
 (pss_cons (ps_set (i := 4) sc__law_row.nd rfl (Or.inl rfl) (pe_op op_mod (pe_callTy call_intR (by rfl) T.n_int boot_int (pa_cons (pv 0) pa_nil)) pe_int))
 (pss_cons (ps_for PassesOwn.never rfl (pi_range1 rfl T.n_range (pa_cons (pe_callB call_lenR (by rfl) T.n_len PySem.boot_len (pa_cons (pv 1) pa_nil)) pa_nil)) (pg_name (i := 5) sc__law_row.nd rfl (Or.inl rfl)) (pss_cons (ps_set (i := 6) sc__law_row.nd rfl (Or.inl rfl) (pe_op op_add (pe_op op_mod (pe_callTy call_intR (by rfl) T.n_int boot_int (pa_cons (pe_op op_pow (pe_op op_add (pe_op op_add (pv 4) (pe_op op_mulW pe_int (pv 5))) pe_int) pe_int) pa_nil)) pe_int) (pv 5)))
 (pss_one (ps_expr (pe_bm PySem.F.plainAttrs_list PySem.F.slot_list_append PySem.F.type_list_append mt_append (pv 2) (pa_cons (pe_op op_mod (pe_callTy call_intR (by rfl) T.n_int boot_int (pa_cons (pe_op op_mod (pe_callTy call_intR (by rfl) T.n_int boot_int (pa_cons (pe_op op_mulW (pv 6) pe_int) pa_nil)) pe_int) pa_nil)) (pe_ix ix_list (pv 1) (pv 5) (fun _ _ => rfl))) pa_nil))))))
 (pss_one (ps_ret (pv 2)))))))), ?_⟩
    walk_at "vc"
    refine ⟨by decide, fun p np => ?_⟩
    have hl1 : ∀ o, SqL K (upd H p o) l (ss.map V.int) := fun o => Same.seq (fun b u e => by rw [upd_ne (ne_of_none e np)]; exact e) hl
    walk_at "vc"
    refine i_dec (fun hp => ?_) (fun hp => ?_)
    · walk_at "vc"
      refine ⟨l, rfl, ⟨_, hl1 _⟩, for_list (K := K) (a := l) (xs := ss.map V.int) (fun i σ H' => ∃ (z : Int) (ns : List Int) (v4 v5 v6 v7 : Option V), σ = [some (.int z), some (.ref l), some (.ref p), v4, v5, v6, v7] ∧ H' = upd H p (.lst (ns.map V.int)) ∧ RowOk (ss.take i) ns)
        ⟨c, [], none, none, none, none, rfl, rfl, RowOk.nil⟩ (fun i σ H' _ h => by obtain ⟨_, _, _, _, _, _, _, rfl, _⟩ := h; exact hl1 _) ?_ ?_⟩
      · rintro i y σ H' hi ⟨z, ns, v4, v5, v6, v7, rfl, rfl, r⟩
        obtain ⟨sz, hsz, rfl⟩ := map_at hi
        have hpos := hs sz (List.mem_of_getElem? hsz)
        walk_at "vc"
        refine ⟨.inl ⟨rfl, _, SqL.of upd_same⟩, ?_⟩
        walk_at "vc"
        refine w_rI hpos.1 ?_
        walk_at "vc"
        have hln : ns.length ≤ 63 := by
          have := r.1
          rw [List.length_take] at this
          omega
        refine w_app upd_same (by rw [List.length_map]; omega) ?_
        walk_at "vc"
        refine w_rI ⟨by omega, by have : Bn 30 sz := by (unfold Bn; omega)
                                  exact this.log' (by decide)⟩ ?_
        walk_at "vc"
        exact ⟨_, ns ++ [z % sz], _, _, _, _, rfl, by rw [upd_upd, List.map_append]; rfl, r.more hsz (Int.emod_nonneg _ (by omega)) (Int.emod_lt_of_pos _ hpos.1)⟩
      · rintro σ H' ⟨z, ns, v4, v5, v6, v7, rfl, rfl, r⟩
        walk_at "vc"
        rw [List.length_map, List.take_length] at r
        exact q p ns np r
    · walk_at "vc"
      refine w_len (hl1 _) ?_
      walk_at "vc"
      have e1 : 0 ≤ c % 2147483647 := Int.emod_nonneg _ (by decide)
      have e2 : c % 2147483647 < 2147483647 := Int.emod_lt_of_pos _ (by decide)
      generalize c % 2147483647 = sd at e1 e2
      refine ⟨_, rfl, by omega, by rw [List.length_map]; omega, for_range (lo := 0) (n := ((ss.map V.int).length : Int).toNat) (fun i σ H' => ∃ (ns : List Int) (v4 v6 v7 : Option V), σ = [some (.int c), some (.ref l), some (.ref p), v4, some (.int sd), v6, v7] ∧ H' = upd H p (.lst (ns.map V.int)) ∧ RowOk (ss.take i) ns)
        ⟨[], none, none, none, rfl, rfl, RowOk.nil⟩ ?_ ?_⟩
      · rintro i σ H' hi ⟨ns, v4, v6, v7, rfl, rfl, r⟩
        have hi' : i < ss.length := by simpa using hi
        have hsz := List.getElem?_eq_getElem hi'
        generalize ss[i] = sz at hsz
        have hpos := hs sz (List.mem_of_getElem? hsz)
        walk_at "vc"
        refine w_rI (mw (by unfold Bn; omega) (Bn.mono (m := 64) (by unfold Bn; omega) (by decide))) ?_
        walk_at "vc"
        refine w_rI (pow5 (by omega)) ?_
        walk_at "vc"
        generalize (sd + 7919 * (0 + (i : Int)) + 104729) ^ (5 : Int).toNat = pw
        have f1 : 0 ≤ pw % 2147483647 := Int.emod_nonneg _ (by decide)
        have f2 : pw % 2147483647 < 2147483647 := Int.emod_lt_of_pos _ (by decide)
        generalize pw % 2147483647 = mx at f1 f2
        refine ⟨.inl ⟨rfl, _, SqL.of upd_same⟩, ?_⟩
        walk_at "vc"
        refine w_rI (mw (by unfold Bn; omega) (Bn.mono (m := 64) (by unfold Bn; omega) (by decide))) ?_
        walk_at "vc"
        refine w_ixL (hl1 _) (at_of (by omega) (at_map hsz)) ?_
        refine w_rI hpos.1 ?_
        walk_at "vc"
        have hln : ns.length ≤ 63 := by
          have := r.1
          rw [List.length_take] at this
          omega
        refine w_app upd_same (by rw [List.length_map]; omega) ?_
        walk_at "vc"
        exact ⟨ns ++ [_], _, _, _, rfl, by rw [upd_upd, List.map_append]; rfl, r.more hsz (Int.emod_nonneg _ (by omega)) (Int.emod_lt_of_pos _ hpos.1)⟩
      · rintro σ H' ⟨ns, v4, v6, v7, rfl, rfl, r⟩
        walk_at "vc"
        have e : ((ss.map V.int).length : Int).toNat = ss.length := by simp
        rw [e, List.take_length] at r
        exact q p ns np r
end
end AT
namespace AT
open PySem PySem.Spec PyProof.Rows L2
section
variable {P : Program} {w : World} {K : PySem.W.Frag} {mg : Str → Option Value} {base : Heap}
def spWhole : Sp := fun vs H Q _ => ∃ c m : Int, vs = [.int c, .int m] ∧ 0 ≤ m ∧ Bn 400 m ∧ ∀ r : Int, -m ≤ r → r ≤ m → Q (.int r) H
theorem c_whole {c m : Int} {H : Hp} {Q : VK} {E : XK} (h0 : 0 ≤ m) (hm : Bn 400 m) (h : ∀ r : Int, -m ≤ r → r ≤ m → Q (.int r) H) : spWhole [.int c, .int m] H Q E := ⟨c, m, rfl, h0, hm, h⟩
theorem ok__law_whole (T : Tx K mg) : FnOk P w K mg base CX0 1 T.a__law_whole T.d__law_whole ["_law_cell_here", "_law_most"] spWhole := by
  refine T.F__law_whole.ok sc__law_whole (fun vs H Q E h => ?_) (fun cdv A outer s H vs Q E hr h => ?_)
  · obtain ⟨c, m, rfl, _⟩ := h
    rfl
  · obtain ⟨c, m, rfl, h0, hm, q⟩ := h
    refine ⟨_, ((pss_cons (ps_if (pt_chain op_le op_le (pe_un un_neg (pv 1)) (pv 0) (pv 1)) (pss_one (ps_ret (pv 0))) pss_nil)
 (pss_one (ps_ret (pe_op op_sub (pe_op op_mod (pe_callTy call_intR (by rfl) T.n_int boot_int (pa_cons (pv 0) pa_nil)) (pe_op op_add (pe_op op_mulW pe_int (pv 1)) pe_int)) (pv 1)))))), ?_⟩
    walk_at "vc"
    have last : ¬ (-m ≤ c ∧ c ≤ m) → Q (.int (c % (2 * m + 1) - m)) H := fun _ => q _ (by have := Int.emod_nonneg c (by omega : 2 * m + 1 ≠ 0); omega) (by have := Int.emod_lt_of_pos c (by omega : 0 < 2 * m + 1); omega)
    refine i_dec (fun h1 => ?_) (fun h1 => ?_)
    · walk_at "vc"
      refine i_dec (fun h2 => ?_) (fun h2 => ?_)
      · walk_at "vc"
        exact q c h1 h2
      · walk_at "vc"
        refine w_rI (mw (by unfold Bn; omega) (hm.mono (by decide))) ?_
        walk_at "vc"
        refine w_rI (by omega) ?_
        walk_at "vc"
        exact last (by omega)
    · walk_at "vc"
      refine w_rI (mw (by unfold Bn; omega) (hm.mono (by decide))) ?_
      walk_at "vc"
      refine w_rI (by omega) ?_
      walk_at "vc"
      exact last (by omega)
end
end AT
namespace AT
open PySem PySem.Spec PyProof.Rows L2
section
variable {P : Program} {w : World} {K : PySem.W.Frag} {mg : Str → Option Value} {base : Heap}
def spRatio : Sp := fun vs H Q _ => ∃ a b m : Int, vs = [.int a, .int b, .int m] ∧ 1 ≤ m ∧ Bn 400 m ∧
  ∀ (t b : Int) p, H p = none → -m ≤ t → t ≤ m → -m ≤ b → b ≤ m → b ≠ 0 → Q (.ref p) (upd H p (.tup [.int t, .int b]))
theorem c_ratio {a b m : Int} {H : Hp} {Q : VK} {E : XK} (h0 : 1 ≤ m) (hm : Bn 400 m) (h : ∀ (t b : Int) p, H p = none → -m ≤ t → t ≤ m → -m ≤ b → b ≤ m → b ≠ 0 → Q (.ref p) (upd H p (.tup [.int t, .int b]))) : spRatio [.int a, .int b, .int m] H Q E := ⟨a, b, m, rfl, h0, hm, h⟩
theorem ok__law_ratio (T : Tx K mg) : FnOk P w K mg base CX0 2 T.a__law_ratio T.d__law_ratio ["_law_a", "_law_b", "_law_most"] spRatio := by
  refine T.F__law_ratio.ok sc__law_ratio (fun vs H Q E h => ?_) (fun cdv A outer s H vs Q E hr h => ?_)
  · obtain ⟨a, b, m, rfl, _⟩ := h
    rfl
  · obtain ⟨a, b, m, rfl, h0, hm, q⟩ := h
    have G__law_whole : FnOk P w K mg base CX0 1 T.a__law_whole T.d__law_whole ["_law_cell_here", "_law_most"] spWhole := ok__law_whole T
    have hr__law_whole : Room 1 _ := hr
    refine ⟨_, ((pss_cons (ps_set (i := 3) sc__law_ratio.nd rfl (Or.inl rfl) (pe_call G__law_whole hr__law_whole rfl T.g__law_whole T.F__law_whole.kp T.b__law_whole .nil pass0 (pa_cons (pv 1) (pa_cons (pv 2) pa_nil))))
 (pss_cons (ps_if (pt_cmpR op_eq (pv 3) pe_int (nomark _)) (pss_one (ps_set (i := 3) sc__law_ratio.nd rfl (Or.inl rfl) pe_int)) pss_nil)
 (pss_one (ps_ret (pe_tup (pa_cons (pe_call G__law_whole hr__law_whole rfl T.g__law_whole T.F__law_whole.kp T.b__law_whole .nil pass0 (pa_cons (pv 0) (pa_cons (pv 2) pa_nil))) (pa_cons (pv 3) pa_nil)))))))), ?_⟩
    walk_at "vc"
    refine c_whole (by omega) hm fun r2 l1 l2 => ?_
    walk_at "vc"
    refine i_dec (fun hz => ?_) (fun hz => ?_)
    · walk_at "vc"
      refine c_whole (by omega) hm fun r1 l3 l4 => ?_
      walk_at "vc"
      exact ⟨(by show 2 ≤ sizeLine; decide), fun p np => q _ _ p np l3 l4 (by omega) (by omega) (by decide)⟩
    · walk_at "vc"
      refine c_whole (by omega) hm fun r1 l3 l4 => ?_
      walk_at "vc"
      exact ⟨(by show 2 ≤ sizeLine; decide), fun p np => q _ _ p np l3 l4 l1 l2 hz⟩
end
end AT
namespace AT
open PySem PySem.Spec PyProof.Rows L2
section
variable {P : Program} {w : World} {K : PySem.W.Frag} {mg : Str → Option Value} {base : Heap}
/-- making a moment -/
theorem w_mom {C CE : Addr} {t b : Int} {dvs vs : List V} {H : Hp} {Q : VK} {E : XK} (e : vs ++ dvs = [.int t, .int b]) (ht : Bn 8000 t) (hb : Bn 8000 b) (h0 : b ≠ 0)
    (k : ∀ p H', Ext H H' → Mo C H' (.ref p) (Rat.divInt t b) → Q (.ref p) H') : rMakeS C (spMom C CE) dvs E vs H Q := by
  intro x dx nx ndx ne
  refine ⟨x, dx, t, b, by rw [e], upd_same, ht, hb, fun z => absurd z h0, fun _ => ⟨rfl, k x _ ?_ ⟨x, dx, rfl, upd_same⟩⟩⟩
  exact Ext.mut (Ext.mut (Ext.new ndx) nx) nx
/-- .. or the error -/
theorem w_momX {C CE : Addr} {t b : Int} {dvs vs : List V} {H : Hp} {Q : VK} {E : XK} (e : vs ++ dvs = [.int t, .int b]) (ht : Bn 8000 t) (hb : Bn 8000 b)
    (hE : b = 0 → ∀ d H', H d = none → Ext H H' → H' d = some (.xd [("bottom", .int b), ("top", .int t)]) → E (.ref CE) (some d) H')
    (k : b ≠ 0 → ∀ p H', Ext H H' → Mo C H' (.ref p) (Rat.divInt t b) → Q (.ref p) H') : rMakeS C (spMom C CE) dvs E vs H Q := by
  intro x dx nx ndx ne
  have e1 : ∀ o o', Ext H (upd (upd H dx o) x o') := fun o o' => Ext.mut (Ext.new ndx) nx
  refine ⟨x, dx, t, b, by rw [e], upd_same, ht, hb, fun z d H' nd x1 hd => hE z d H' ((e1 _ _).fresh nd) ((e1 _ _).t x1) hd, fun h0 => ⟨rfl, k h0 x _ ?_ ⟨x, dx, rfl, upd_same⟩⟩⟩
  exact Ext.mut (e1 _ _) nx
theorem mom_binds2 (T : Tx K mg) : ∃ ds, Vals [.int 1] ds ∧ Binds K T.d_Moment___init__ ["self", "top", "bottom"] ds :=
  T.F_Moment___init__.binds1 2 0 (by simp) (by decide) fun Td kV doc pm an cdv ct us its hu hi => match us, its, hu, hi with
    | [_, _], [_], _, _ => ⟨_, rfl, rfl⟩
theorem mom_binds3 (T : Tx K mg) : ∃ ds, Vals [] ds ∧ Binds K T.d_Moment___init__ ["self", "top", "bottom"] ds :=
  T.F_Moment___init__.binds1 3 1 (by simp) (by decide) fun Td kV doc pm an cdv ct us its hu hi => match us, its, hu, hi with
    | [_, _, _], [_], _, _ => ⟨_, rfl, rfl⟩
end
end AT
namespace AT
open PySem PySem.Spec PyProof.Rows L2
section
variable {P : Program} {w : World} {K : PySem.W.Frag} {mg : Str → Option Value} {base : Heap}
/-- an int or a moment that is worth r -/
def Opd (n : Nat) (C : Addr) (H : Hp) (y : V) (r : Rat) : Prop := (∃ i : Int, y = .int i ∧ r = (i : Rat) ∧ Bn n i) ∨ (Mo C H y r ∧ Sm n r)
theorem Opd.int {n : Nat} {C : Addr} {H : Hp} {i : Int} (b : Bn n i) : Opd n C H (.int i) (i : Rat) := .inl ⟨i, rfl, rfl, b⟩
theorem Opd.up {n : Nat} {C : Addr} {H H' : Hp} {y : V} {r : Rat} (h : Opd n C H y r) (e : Ext H H') : Opd n C H' y r := h.imp id fun h => ⟨h.1.up e, h.2⟩
theorem Opd.mono {m n : Nat} {C : Addr} {H : Hp} {y : V} {r : Rat} (h : Opd m C H y r) (l : m ≤ n) : Opd n C H y r := h.imp (fun ⟨i, a, b, c⟩ => ⟨i, a, b, c.mono l⟩) fun h => ⟨h.1, h.2.mono l⟩
/-- v op y -/
def spBin (f : Rat → Rat → Rat) (C : Addr) : Sp := fun vs H Q _ => ∃ (v y : V) (q r : Rat), vs = [v, y] ∧ Mo C H v q ∧ Sm 3900 q ∧ Opd 3900 C H y r ∧ ∀ p H', Ext H H' → Mo C H' (.ref p) (f q r) → Q (.ref p) H'
/-- i op v, by v's method -/
def spRBin (f : Rat → Rat → Rat) (C : Addr) : Sp := fun vs H Q _ => ∃ (v : V) (i : Int) (q : Rat), vs = [v, .int i] ∧ Mo C H v q ∧ Sm 3900 q ∧ Bn 3900 i ∧ ∀ p H', Ext H H' → Mo C H' (.ref p) (f q (i : Rat)) → Q (.ref p) H'
theorem w_bin {f : Rat → Rat → Rat} {C : Addr} {v y : V} {q r : Rat} {H : Hp} {Q : VK} {E : XK} (m : Mo C H v q) (s : Sm 3900 q) (o : Opd 3900 C H y r) (k : ∀ p H', Ext H H' → Mo C H' (.ref p) (f q r) → Q (.ref p) H') : rIns C (spBin f C) E v y H Q := by
  obtain ⟨a, dx, rfl, z⟩ := id m
  refine ⟨a, dx, _, rfl, z, ?_, _, _, q, r, rfl, m, s, o, k⟩
  rcases o with ⟨i, rfl, _⟩ | ⟨⟨b, dy, rfl, z2⟩, _⟩
  · exact .inl ⟨i, rfl⟩
  · exact .inr ⟨b, dy, _, rfl, z2⟩
theorem w_rbin {f : Rat → Rat → Rat} {C : Addr} {v : V} {i : Int} {q : Rat} {H : Hp} {Q : VK} {E : XK} (m : Mo C H v q) (s : Sm 3900 q) (b : Bn 3900 i) (k : ∀ p H', Ext H H' → Mo C H' (.ref p) (f q (i : Rat)) → Q (.ref p) H') : rIntIns C (spRBin f C) E (.int i) v H Q := by
  obtain ⟨a, dx, rfl, z⟩ := id m
  exact ⟨i, a, dx, _, rfl, rfl, z, _, i, q, rfl, m, s, b, k⟩
theorem bn_mul {i j : Int} (h : Bn 3900 i) (l : Bn 3900 j) : Bn 7800 (i * j) := (h.mul l).mono (by decide)
theorem bn_addM {i j k l : Int} (h : Bn 3900 i) (h2 : Bn 3900 j) (h3 : Bn 3900 k) (h4 : Bn 3900 l) : Bn 8000 (i * j + k * l) := ((bn_mul h h2).add (bn_mul h3 h4)).mono (by decide)
theorem bn_subM {i j k l : Int} (h : Bn 3900 i) (h2 : Bn 3900 j) (h3 : Bn 3900 k) (h4 : Bn 3900 l) : Bn 8000 (i * j - k * l) := ((bn_mul h h2).sub (bn_mul h3 h4)).mono (by decide)
theorem bn_add1 {i k l : Int} (h : Bn 3900 i) (h3 : Bn 3900 k) (h4 : Bn 3900 l) : Bn 8000 (i + k * l) := ((h.mono (by decide)).add (bn_mul h3 h4)).mono (by decide)
theorem bn_sub1 {i k l : Int} (h : Bn 3900 i) (h3 : Bn 3900 k) (h4 : Bn 3900 l) : Bn 8000 (i - k * l) := ((h.mono (by decide)).sub (bn_mul h3 h4)).mono (by decide)
theorem bn_sub2 {i k l : Int} (h : Bn 3900 i) (h3 : Bn 3900 k) (h4 : Bn 3900 l) : Bn 8000 (k * l - i) := ((bn_mul h3 h4).sub (h.mono (by decide))).mono (by decide)
theorem bn_up {i : Int} (h : Bn 3900 i) : Bn 8000 i := h.mono (by decide)
theorem bn_mulU {i j : Int} (h : Bn 3900 i) (l : Bn 3900 j) : Bn 8000 (i * j) := (bn_mul h l).mono (by decide)
theorem w_m39 {H : Hp} {Q : VK} {i j : Int} (h1 : Bn 3900 i) (h2 : Bn 3900 j) (k : Q (.int (i * j)) H) : rI CMulW (fun i j => .int (i * j)) (.int i) (.int j) H Q := w_mulW (m := 3900) (n := 3900) h1 h2 (by decide) (by decide) (by decide) k
end
end AT
namespace AT
open PySem PySem.Spec PyProof.Rows L2
section
variable {P : Program} {w : World} {K : PySem.W.Frag} {mg : Str → Option Value} {base : Heap}
/-- a moment's attributes -/
theorem w_top {T : Tx K mg} {H : Hp} {Q : VK} {v : V} {q : Rat} (h : Mo T.C_Moment H v q) (k : Q (.int q.num) H) : rFld K "top" v H Q := by
  obtain ⟨a, dx, rfl, z⟩ := h
  exact ⟨a, _, dx, _, _, rfl, z, T.o_Moment.cl, T.na_Moment_top, momF_top q, k⟩
theorem w_bottom {T : Tx K mg} {H : Hp} {Q : VK} {v : V} {q : Rat} (h : Mo T.C_Moment H v q) (k : Q (.int (q.den : Int)) H) : rFld K "bottom" v H Q := by
  obtain ⟨a, dx, rfl, z⟩ := h
  exact ⟨a, _, dx, _, _, rfl, z, T.o_Moment.cl, T.na_Moment_bottom, momF_bottom q, k⟩
theorem Mo.ty {T : Tx K mg} {H : Hp} {v : V} {q : Rat} (h : Mo T.C_Moment H v q) : TyX K H v (.ref T.C_Moment) := by
  obtain ⟨a, dx, rfl, z⟩ := h
  exact T.o_Moment.ty z
theorem w_moMo {T : Tx K mg} {H : Hp} {Q : VK} {v : V} {q : Rat} (h : Mo T.C_Moment H v q) (k : Q (.bl true) H) : rIsi K [v, .ref T.C_Moment] H Q := w_isi (.own _) h.ty kit_self k
theorem w_moInt {T : Tx K mg} {H : Hp} {Q : VK} {v : V} {q : Rat} (h : Mo T.C_Moment H v q) (k : Q (.bl false) H) : rIsi K [v, .ty "int"] H Q := w_isi (.ty "int") h.ty (kit_insTy T.o_Moment.notInt (by decide +kernel)) k
theorem w_tyMo {T : Tx K mg} {H : Hp} {Q : VK} {v : V} {t : String} (h : TyX K H v (.type t)) (hs : PySem.W.subIn K (.type t) (.ref T.C_Moment) = some false) (k : Q (.bl false) H) : rIsi K [v, .ref T.C_Moment] H Q :=
  w_isi (.own _) h (kit_own T.k1_Moment T.k2_Moment hs (by simp)) k
end
end AT
namespace AT
open PySem PySem.Spec PyProof.Rows L2
section
variable {P : Program} {w : World} {K : PySem.W.Frag} {mg : Str → Option Value} {base : Heap}
theorem gcd_turn2 {a b a0 b0 : Int} (hb : 0 < b) (ha : 0 ≤ a) (g : Int.gcd a b = Int.gcd a0 b0) (z : Bn 8000 b) : 0 ≤ b ∧ 0 ≤ a - a.fdiv b * b ∧ Int.gcd b (a - a.fdiv b * b) = Int.gcd a0 b0 ∧ Bn 8000 b ∧ Bn 8000 (a - a.fdiv b * b) ∧ (a - a.fdiv b * b).toNat < b.toNat := by
  rw [Int.mul_comm (a.fdiv b) b]
  exact gcd_turn hb ha g z
theorem ok__law_gcd (T : Tx K mg) : FnOk P w K mg base CX0 1 T.a__law_gcd T.d__law_gcd ["_law_a", "_law_b"] spGcd := by
  refine T.F__law_gcd.ok sc__law_gcd (fun vs H Q E h => ?_) (fun cdv A outer s H vs Q E hr h => ?_)
  · obtain ⟨a, b, rfl, _⟩ := h
    rfl
  · obtain ⟨a, b, rfl, ha, hb, k⟩ := h
    refine ⟨_, ((pss_cons (ps_set (i := 0) sc__law_gcd.nd rfl (Or.inl rfl) (pe_callB call_absR (by rfl) T.n_abs boot_abs (pa_cons (pv 0) pa_nil)))
 (pss_cons (ps_set (i := 1) sc__law_gcd.nd rfl (Or.inl rfl) (pe_callB call_absR (by rfl) T.n_abs boot_abs (pa_cons (pv 1) pa_nil)))
 (pss_cons (ps_while PassesOwn.never (pt_cmpR op_gt (pv 1) pe_int (nomark _)) (pss_cons (ps_set (i := 2) sc__law_gcd.nd rfl (Or.inl rfl) (pe_op op_sub (pv 0) (pe_op op_mulW (pe_op op_fdivG (pv 0) (pv 1)) (pv 1))))
 (pss_cons (ps_set (i := 0) sc__law_gcd.nd rfl (Or.inl rfl) (pv 1))
 (pss_one (ps_set (i := 1) sc__law_gcd.nd rfl (Or.inl rfl) (pv 2))))))
 (pss_one (ps_ret (pv 0))))))), ?_⟩
    walk_at "vc"
    refine w_while (fun σ H' => H' = H ∧ ∃ (x y : Int) (v : Option V), σ = [some (.int x), some (.int y), v] ∧ 0 ≤ x ∧ 0 ≤ y ∧ Int.gcd x y = Int.gcd a b ∧ Bn 8000 x ∧ Bn 8000 y) (fun σ _ => match σ with | [_, some (.int y), _] => y.toNat | _ => 0)
      ⟨rfl, _, _, _, rfl, by omega, by omega, rfl, ha.abs, hb.abs⟩ ?_
    rintro σ H' ⟨rfl, x, y, v, rfl, hx, hy, g, bx, bY⟩
    walk_at "vc"
    refine i_dec (fun hp => ?_) (fun hp => ?_)
    · refine w_wturn ?_
      walk_at "vc"
      refine w_rI ⟨by omega, bY.log' (by decide)⟩ ?_
      obtain ⟨t1, t2, t3, t4, t5, t6⟩ := gcd_turn2 hp hx g bY
      walk_at "vc"
      refine w_rI (wide_mul (a := 8000) (b := 8000) (bx.le (fdiv_abs hp hx)) bY (by decide) (by decide) (by decide)) ?_
      walk_at "vc"
      exact ⟨t6, rfl, _, _, _, rfl, t1, t2, t3, t4, t5⟩
    · walk_at "vc"
      rw [gcd_out hp hy hx g]
      exact k
def spIsInt : Sp := fun vs H Q _ => ∃ a : Int, vs = [.int a] ∧ Q (.bl true) H
theorem c_isInt {a : Int} {H : Hp} {Q : VK} {E : XK} (h : Q (.bl true) H) : spIsInt [.int a] H Q E := ⟨a, rfl, h⟩
theorem ok__law_is_int (T : Tx K mg) : FnOk P w K mg base CX0 1 T.a__law_is_int T.d__law_is_int ["_law_actual"] spIsInt := by
  refine T.F__law_is_int.ok sc__law_is_int (fun vs H Q E h => ?_) (fun cdv A outer s H vs Q E hr h => ?_)
  · obtain ⟨a, rfl, _⟩ := h
    rfl
  · obtain ⟨a, rfl, q⟩ := h
    refine ⟨_, ((pss_one (ps_ret (pe_and (pe_callB call_isi (by rfl) T.n_isinstance boot_isinstance (pa_cons (pv 0) (pa_cons (pe_bltn (v := .ty "int") rfl T.n_int boot_int rfl) pa_nil))) (pe_one (pe_not (pe_callB call_isi (by rfl) T.n_isinstance boot_isinstance (pa_cons (pv 0) (pa_cons (pe_bltn (v := .ty "bool") rfl T.n_bool boot_bool rfl) pa_nil))))))))), ?_⟩
    walk_at "vc"
    exact q
def spHolds (C : Addr) : Sp := fun vs H Q _ => ∃ (v : V) (q : Rat) (t b : Int), vs = [v, .int t, .int b] ∧ Mo C H v q ∧ Sm 8000 q ∧ Bn 8000 t ∧ Bn 8000 b ∧ q.num * b = t * (q.den : Int) ∧ Q (.bl true) H
theorem c_holds {C : Addr} {v : V} {q : Rat} {t b : Int} {H : Hp} {Q : VK} {E : XK} (m : Mo C H v q) (sq : Sm 8000 q) (ht : Bn 8000 t) (hb : Bn 8000 b) (e : q.num * b = t * (q.den : Int)) (h : Q (.bl true) H) : spHolds C [v, .int t, .int b] H Q E := ⟨v, q, t, b, rfl, m, sq, ht, hb, e, h⟩
theorem ok__law_holds (T : Tx K mg) : FnOk P w K mg base CX0 2 T.a__law_holds T.d__law_holds ["_law_actual", "_law_top", "_law_bottom"] (spHolds T.C_Moment) := by
  refine T.F__law_holds.ok sc__law_holds (fun vs H Q E h => ?_) (fun cdv A outer s H vs Q E hr h => ?_)
  · obtain ⟨v, q, t, b, rfl, _⟩ := h
    rfl
  · obtain ⟨v, q, t, b, rfl, m, sq, ht, hb, e, k⟩ := h
    have G__law_gcd : FnOk P w K mg base CX0 1 T.a__law_gcd T.d__law_gcd ["_law_a", "_law_b"] spGcd := ok__law_gcd T
    have G__law_is_int : FnOk P w K mg base CX0 1 T.a__law_is_int T.d__law_is_int ["_law_actual"] spIsInt := ok__law_is_int T
    have hr__law_gcd : Room 1 _ := hr
    have hr__law_is_int : Room 1 _ := hr
    refine ⟨_, ((pss_cons (ps_if (PW.pt (pw_or (pt_not (pt_val (pe_callB call_isi (by rfl) T.n_isinstance boot_isinstance (pa_cons (pv 0) (pa_cons (pe_glob (v := .ref T.C_Moment) rfl T.g_Moment rfl) pa_nil))))) (pw_or (pt_not (pt_val (pe_call G__law_is_int hr__law_is_int rfl T.g__law_is_int T.F__law_is_int.kp T.b__law_is_int .nil pass0 (pa_cons (pe_fld (pv 0) rfl) pa_nil)))) (pw_or1 (pt_not (pt_val (pe_call G__law_is_int hr__law_is_int rfl T.g__law_is_int T.F__law_is_int.kp T.b__law_is_int .nil pass0 (pa_cons (pe_fld (pv 0) rfl) pa_nil)))))))) (pss_one (ps_ret pe_bl)) pss_nil)
 (pss_cons (ps_if (PW.pt (pw_or (pt_cmpR op_lt (pe_fld (pv 0) rfl) pe_int (nomark _)) (pw_or1 (pt_cmpR op_ne (pe_call G__law_gcd hr__law_gcd rfl T.g__law_gcd T.F__law_gcd.kp T.b__law_gcd .nil pass0 (pa_cons (pe_fld (pv 0) rfl) (pa_cons (pe_fld (pv 0) rfl) pa_nil))) pe_int (nomark _))))) (pss_one (ps_ret pe_bl)) pss_nil)
 (pss_one (ps_ret (pe_cmpR op_eq (pe_op op_mulW (pe_fld (pv 0) rfl) (pv 2)) (pe_op op_mulW (pv 1) (pe_fld (pv 0) rfl)) (nomark _))))))), ?_⟩
    walk_at "vc"
    refine w_moMo m ?_
    walk_at "vc"
    refine w_top m ?_
    walk_at "vc"
    refine c_isInt ?_
    walk_at "vc"
    refine w_bottom m ?_
    walk_at "vc"
    refine c_isInt ?_
    walk_at "vc"
    refine w_bottom m ?_
    walk_at "vc"
    have dp := den_pos q
    refine i_dec (fun z => absurd z (by omega)) (fun _ => ?_)
    walk_at "vc"
    refine w_top m ?_
    walk_at "vc"
    refine w_bottom m ?_
    walk_at "vc"
    refine c_gcd sq.num sq.den ?_
    rw [gcd_low]
    walk_at "vc"
    refine w_top m ?_
    walk_at "vc"
    refine w_rI (wide_mul (a := 8000) (b := 8000) sq.num hb (by decide) (by decide) (by decide)) ?_
    walk_at "vc"
    refine w_bottom m ?_
    walk_at "vc"
    refine w_rI (wide_mul (a := 8000) (b := 8000) ht sq.den (by decide) (by decide) (by decide)) ?_
    walk_at "vc"
    rw [decide_eq_true e]
    exact k
end
end AT
namespace AT
open PySem PySem.Spec PyProof.Rows L2
section
variable {P : Program} {w : World} {K : PySem.W.Frag} {mg : Str → Option Value} {base : Heap}
/-- a pair of ints, in lowest terms: worth q -/
def PrQ (K : PySem.W.Frag) (H : Hp) (v : V) (q : Rat) : Prop := ∃ p, v = .ref p ∧ SqT K H p [.int q.num, .int (q.den : Int)]
theorem PrQ.up {H H' : Hp} {v : V} {q : Rat} (e : Ext H H') (h : PrQ K H v q) : PrQ K H' v q := by
  obtain ⟨p, rfl, u⟩ := h
  exact ⟨p, rfl, e.seqT u⟩
def spLow (K : PySem.W.Frag) : Sp := fun vs H Q _ => ∃ t b : Int, vs = [.int t, .int b] ∧ 0 < b ∧ Bn 8000 t ∧ Bn 8000 b ∧ ∀ p H', Ext H H' → PrQ K H' (.ref p) (Rat.divInt t b) → Q (.ref p) H'
theorem c_low {t b : Int} {H : Hp} {Q : VK} {E : XK} (h0 : 0 < b) (ht : Bn 8000 t) (hb : Bn 8000 b) (k : ∀ p H', Ext H H' → PrQ K H' (.ref p) (Rat.divInt t b) → Q (.ref p) H') : spLow K [.int t, .int b] H Q E := ⟨t, b, rfl, h0, ht, hb, k⟩
theorem ok__law_low (T : Tx K mg) : FnOk P w K mg base CX0 2 T.a__law_low T.d__law_low ["_law_top", "_law_bottom"] (spLow K) := by
  refine T.F__law_low.ok sc__law_low (fun vs H Q E h => ?_) (fun cdv A outer s H vs Q E hr h => ?_)
  · obtain ⟨t, b, rfl, _⟩ := h
    rfl
  · obtain ⟨t, b, rfl, h0, ht, hb, k⟩ := h
    have G__law_gcd : FnOk P w K mg base CX0 1 T.a__law_gcd T.d__law_gcd ["_law_a", "_law_b"] spGcd := ok__law_gcd T
    have hr__law_gcd : Room 1 _ := hr
    refine ⟨_, ((pss_cons (ps_set (i := 2) sc__law_low.nd rfl (Or.inl rfl) (pe_call G__law_gcd hr__law_gcd rfl T.g__law_gcd T.F__law_gcd.kp T.b__law_gcd .nil pass0 (pa_cons (pv 0) (pa_cons (pv 1) pa_nil))))
 (pss_one (ps_ret (pe_tup (pa_cons (pe_op op_fdivG (pv 0) (pv 2)) (pa_cons (pe_op op_fdivG (pv 1) (pv 2)) pa_nil))))))), ?_⟩
    walk_at "vc"
    refine c_gcd ht hb ?_
    walk_at "vc"
    have hn : b ≠ 0 := by omega
    have hp := part_ne (t := t) hn
    have pb : Bn 8000 (part t b) := part_bn ht hb hn
    have e : (Int.gcd t b : Int) = part t b := by unfold part; rw [if_neg (by omega)]
    rw [e]
    refine w_rI ⟨hp, pb.log' (by decide)⟩ ?_
    walk_at "vc"
    refine w_rI ⟨hp, pb.log' (by decide)⟩ ?_
    walk_at "vc"
    rw [num_eq hn, den_eq hn]
    exact n_tup (by show 2 ≤ 100000; decide) fun p H1 _ e1 u1 => k p H1 e1 ⟨p, rfl, SqT.of u1⟩
end
end AT
local macro_rules | `(tactic| walk_at "up") => `(tactic| (first | assumption | (apply Mo.up; assumption; walk_at "up") | (apply AT.up_opd; assumption; walk_at "up") | (apply PrQ.up; assumption; walk_at "up") | (apply MkA.up; assumption; walk_at "up") | (apply L2.Same.seq; assumption; walk_at "up") | (apply L2.Same.seqT; assumption; walk_at "up")))
local macro_rules | `(tactic| walk_at "go") => `(tactic| (repeat (first | (walk_at "vc1") | (refine w_var (by rfl) ?_) | (refine w_aug (by rfl) ?_) | (refine w_pow (by decide) ?_) | (refine w_mod (by decide) ?_) | (refine w_ixT (by walk_at "up") (by rfl) ?_) | (refine w_ixL (by walk_at "up") (by rfl) ?_) | (refine w_top (by walk_at "up") ?_) | (refine w_bottom (by walk_at "up") ?_) | (refine w_eqMM (by walk_at "up") (by walk_at "up") ?_) | (refine w_neMM (by walk_at "up") (by walk_at "up") ?_))))
local macro_rules | `(tactic| walk_at "txl") => `(tactic| (first | omega | (simp only [List.length_take, List.length_drop, List.length_append, List.length_cons, List.length_nil]; omega)))
local macro_rules | `(tactic| walk_at "tx1") => `(tactic| (with_reducible first
  | refine w_sl ?_ | refine w_noPart ?_ | refine w_part ?_ | refine w_partI ?_ | refine w_eqT ?_ | refine w_neT ?_ | refine w_inS ?_ | refine w_notInS ?_ | refine w_iStr ?_ | refine w_itS ?_))
local macro_rules | `(tactic| walk_at "tx") => `(tactic| (repeat (first | (walk_at "vc1") | (walk_at "tx1") | (refine w_var (by rfl) ?_) | (refine w_aug (by rfl) ?_) | (refine w_pow (by decide) ?_) | (refine w_mod (by decide) ?_) | (refine w_ixT (by walk_at "up") (by rfl) ?_) | (refine w_ixL (by walk_at "up") (by rfl) ?_) | (refine w_top (by walk_at "up") ?_) | (refine w_bottom (by walk_at "up") ?_) | (refine w_lenT' (by walk_at "txl") ?_) | (refine w_slTo (by decide) (by walk_at "txl") ?_) | (refine w_slFrom (by decide) (by walk_at "txl") ?_) | (refine w_catT (by walk_at "txl") ?_))))
namespace AT
open PySem PySem.Spec PyProof.Rows L2 SX
/-! ### the plain law of written numbers -/
def dg : List Nat := [48, 49, 50, 51, 52, 53, 54, 55, 56, 57]
theorem dg_iff {c : Nat} : c ∈ dg ↔ 48 ≤ c ∧ c ≤ 57 := by
  simp only [dg, List.mem_cons, List.not_mem_nil, or_false]
  omega
/-- the digits behind a sign -/
def dgs (l : List Nat) : List Nat := if l.take 1 = [45] then l.drop 1 else l
def WholeOk (l : List Nat) : Prop := dgs l ≠ [] ∧ (dgs l).length ≤ 60 ∧ (∀ c ∈ dgs l, c ∈ dg) ∧ ¬ ((dgs l).head? = some 48 ∧ 1 < l.length)
theorem digitsVal_lt : ∀ (cs : List Nat), NumText.AllDigits cs → NumText.digitsVal cs < 10 ^ cs.length := by
  have key : ∀ (cs : List Nat) (acc k : Nat), NumText.AllDigits cs → acc < 10 ^ k → cs.foldl (fun acc c => acc * 10 + (c - 48)) acc < 10 ^ (k + cs.length) := by
    intro cs
    induction cs with
    | nil => intro acc k _ h; simpa using h
    | cons c cs ih =>
      intro acc k h h1
      have hc := h.head
      have := ih (acc * 10 + (c - 48)) (k + 1) h.tail (by rw [Nat.pow_succ]; omega)
      rw [List.length_cons, show k + (cs.length + 1) = k + 1 + cs.length by omega]
      exact this
  intro cs h
  have := key cs 0 0 h (by decide)
  rw [Nat.zero_add] at this
  exact this
theorem bn_ten {n k : Nat} (h : n < 10 ^ k) (hk : k ≤ 60) : Bn 200 (n : Int) := by
  have h1 : 10 ^ k ≤ 10 ^ 60 := Nat.pow_le_pow_right (by decide) hk
  have h2 : (10 ^ 60 : Nat) < 2 ^ 200 := by decide +kernel
  exact Bn.nat (by omega)
theorem dgs_of {l : List Nat} : (l.take 1 = [45] ∧ l = 45 :: dgs l) ∨ (l.take 1 ≠ [45] ∧ dgs l = l) := by
  unfold dgs
  by_cases h : l.take 1 = [45]
  · rw [if_pos h]
    cases l with
    | nil => cases h
    | cons a r =>
      have : a = 45 := by simpa using h
      subst this
      exact .inl ⟨h, rfl⟩
  · rw [if_neg h]
    exact .inr ⟨h, rfl⟩
theorem WholeOk.int {l : List Nat} (h : WholeOk l) : l.length ≤ 61 ∧ ∃ n, intText? (S l) = some n ∧ Bn 200 n := by
  obtain ⟨h1, h2, h3, _⟩ := h
  have ad : NumText.AllDigits (dgs l) := fun c hc => dg_iff.mp (h3 c hc)
  have lt := digitsVal_lt _ ad
  rcases dgs_of (l := l) with ⟨_, e⟩ | ⟨_, e⟩
  · have el : l.length = (dgs l).length + 1 := congrArg List.length e
    refine ⟨by omega, _, intText_neg (x := S l) (cs := dgs l) e ad h1 (by rw [S_len]; omega), ?_⟩
    exact (bn_ten lt h2).neg
  · rw [e] at h1 h2 ad lt
    refine ⟨by omega, _, int_S (by rw [List.all_eq_true]; intro c hc; have := ad c hc; simp; omega) h1 (by omega), bn_ten lt h2⟩
instance {l : List Nat} : Decidable (WholeOk l) := inferInstanceAs (Decidable (_ ∧ _ ∧ _ ∧ _))
section
variable {P : Program} {w : World} {K : PySem.W.Frag} {mg : Str → Option Value} {base : Heap}
def spWholeIn : Sp := fun vs H Q _ => ∃ l : List Nat, vs = [.str (S l)] ∧ l.length ≤ 5000 ∧ (WholeOk l → ∀ n, intText? (S l) = some n → Bn 200 n → Q (.int n) H) ∧ (¬ WholeOk l → Q .non H)
theorem ok_whole_in (T : Tx K mg) : FnOk P w K mg base CX0 1 T.a_whole_in T.d_whole_in ["text"] spWholeIn := by
  refine T.F_whole_in.ok sc_whole_in (fun vs H Q E h => ?_) (fun cdv A outer s H vs Q E hr h => ?_)
  · obtain ⟨l, rfl, _⟩ := h
    rfl
  · obtain ⟨l, rfl, hl, k1, k2⟩ := h
    refine ⟨_, ((Evl.pss_cut (ps_set (i := 1) sc_whole_in.nd rfl (Or.inl rfl) (pe_ifExp (pt_cmpR op_eq (pe_slice C8.sl_txt (pv 0) po_none (po_some pe_int)) (pe_strS (l := [45]) (by decide +kernel)) (nomark _)) (pe_slice C8.sl_txt (pv 0) (po_some pe_int) po_none) (pv 0)))
 (pss_cons (ps_if (PW.pt (pw_or (pt_cmpR op_eq (pe_callB call_lenT (by rfl) T.n_len PySem.boot_len (pa_cons (pv 1) pa_nil)) pe_int (nomark _)) (pw_or1 (pt_cmpR op_gt (pe_callB call_lenT (by rfl) T.n_len PySem.boot_len (pa_cons (pv 1) pa_nil)) (pe_glob rfl T.g_MOST_DIGITS T.v_MOST_DIGITS) (nomark _))))) (pss_one (ps_ret pe_non)) pss_nil)
 (Evl.pss_cut (ps_for PassesOwn.never rfl (pi_str (pv 1)) (pg_name (i := 2) sc_whole_in.nd rfl (Or.inl rfl)) (pss_one (ps_if (pt_cmpR op_notInS (pv 2) (pe_glob rfl T.g_DIGITS T.v_DIGITS) (by rfl)) (pss_one (ps_ret pe_non)) pss_nil)))
 (pss_cons (ps_if (PW.pt (pw_and (pt_cmpR op_eq (pe_ix ix_str (pv 1) pe_int (fun _ _ => rfl)) (pe_strS (l := [48]) (by decide +kernel)) (nomark _)) (pw_and1 (pt_cmpR op_gt (pe_callB call_lenT (by rfl) T.n_len PySem.boot_len (pa_cons (pv 0) pa_nil)) pe_int (nomark _))))) (pss_one (ps_ret pe_non)) pss_nil)
 (pss_one (ps_ret (pe_callTy call_intT (by rfl) T.n_int boot_int (pa_cons (pv 0) pa_nil))))))))), ?_⟩
    refine ⟨fun σ' H' => σ' = [some (.str (S l)), some (.str (S (dgs l))), none] ∧ H = H', ?_, ?_⟩
    · walk_at "tx"
      refine i_dec (fun c => ?_) (fun c => ?_)
      · walk_at "tx"
        have c : l.take 1 = [45] := c
        exact ⟨by unfold dgs; rw [if_pos c]; rfl, rfl⟩
      · walk_at "tx"
        have c : ¬ l.take 1 = [45] := c
        exact ⟨by unfold dgs; rw [if_neg c]; rfl, rfl⟩
    rintro σ' H' ⟨rfl, rfl⟩
    have hd : (dgs l).length ≤ 5000 := by
      rcases dgs_of (l := l) with ⟨_, e⟩ | ⟨_, e⟩
      · have el : l.length = (dgs l).length + 1 := congrArg List.length e
        omega
      · rw [e]; exact hl
    walk_at "tx"
    refine i_dec (fun c => ?_) (fun c0 => ?_)
    · walk_at "tx"
      exact k2 fun z => z.1 (List.eq_nil_of_length_eq_zero (by omega))
    walk_at "tx"
    refine i_dec (fun c => ?_) (fun c1 => ?_)
    · walk_at "tx"
      exact k2 fun z => absurd z.2.1 (by omega)
    walk_at "tx"
    refine ⟨fun σ' H' => (∃ v, σ' = [some (.str (S l)), some (.str (S (dgs l))), v]) ∧ H = H' ∧ ∀ c ∈ dgs l, c ∈ dg, ?_, ?_⟩
    · walk_at "tx"
      refine ⟨S (dgs l), rfl, for_str (l := dgs l) (fun i σ' H' => (∃ v, σ' = [some (.str (S l)), some (.str (S (dgs l))), v]) ∧ H = H' ∧ ∀ j c, j < i → (dgs l)[j]? = some c → c ∈ dg) ⟨⟨_, rfl⟩, rfl, fun j c h => by omega⟩ ?_ ?_⟩
      · rintro i c σ' H' hi ⟨⟨v, rfl⟩, rfl, h⟩
        walk_at "tx"
        refine i_ndec (fun hc => ?_) (fun hc => ?_)
        · walk_at "tx"
          refine ⟨⟨_, rfl⟩, rfl, fun j d hj e => ?_⟩
          by_cases ej : j = i
          · subst ej
            rw [hi] at e
            cases e
            exact hc
          · exact h j d (by omega) e
        · walk_at "tx"
          exact k2 fun z => hc (z.2.2.1 c (List.mem_of_getElem? hi))
      · rintro σ' H' ⟨e, rfl, h⟩
        refine ⟨e, rfl, fun c hc => ?_⟩
        obtain ⟨j, hj⟩ := List.mem_iff_getElem?.mp hc
        exact h j c (List.getElem?_eq_some_iff.mp hj).1 hj
    rintro σ' H' ⟨⟨v, rfl⟩, rfl, hg⟩
    obtain ⟨d0, hd0⟩ : ∃ d0, (dgs l)[0]? = some d0 := ⟨_, List.getElem?_eq_getElem (by omega)⟩
    have hh : (dgs l).head? = some d0 := by rw [List.head?_eq_getElem?]; exact hd0
    have fin : ¬ ((dgs l).head? = some 48 ∧ 1 < l.length) → rIntT [.str (S l)] H Q := fun n => by
      have ok : WholeOk l := ⟨fun z => by rw [z] at hd0; simp at hd0, by omega, hg, n⟩
      obtain ⟨l61, n, en, bn⟩ := ok.int
      exact w_intT en (by omega) (k1 ok n en bn)
    walk_at "tx"
    refine w_ixS (by omega) (atI_nat (j := 0) hd0) ?_
    walk_at "tx"
    refine i_dec (fun c2 => ?_) (fun c2 => ?_)
    · have e48 : d0 = 48 := by simpa using c2
      walk_at "tx"
      refine i_dec (fun c3 => ?_) (fun c3 => ?_)
      · walk_at "tx"
        exact k2 fun z => z.2.2.2 ⟨by rw [hh, e48], by omega⟩
      · walk_at "tx"
        exact fin fun z => c3 (by have := z.2; omega)
    · walk_at "tx"
      exact fin fun z => c2 (by rw [hh] at z; have := z.1; simpa using this)
end
end AT
namespace AT
open PySem PySem.Spec PyProof.Rows L2 SX
/-- what is written: t over b -/
def MomVal (l : List Nat) (t b : Int) : Prop := (47 ∉ l ∧ WholeOk l ∧ intText? (S l) = some t ∧ b = 1) ∨
  ∃ p r, l = p ++ 47 :: r ∧ 47 ∉ p ∧ 47 ∉ r ∧ WholeOk p ∧ WholeOk r ∧ intText? (S p) = some t ∧ intText? (S r) = some b ∧ 2 ≤ b ∧ Int.gcd t b = 1
theorem first_uniq {c : Nat} : ∀ {p p' r r' : List Nat}, p ++ c :: r = p' ++ c :: r' → c ∉ p → c ∉ p' → p = p' ∧ r = r'
  | [], [], r, r', e, _, _ => ⟨rfl, by simpa using e⟩
  | [], a :: p', r, r', e, _, h => by
    have : c = a := by simpa using (List.cons.inj e).1
    exact absurd (by rw [this]; exact List.mem_cons_self ..) h
  | a :: p, [], r, r', e, h, _ => by
    have : a = c := by simpa using (List.cons.inj e).1
    exact absurd (by rw [← this]; exact List.mem_cons_self ..) h
  | a :: p, b :: p', r, r', e, h, h' => by
    obtain ⟨e1, e2⟩ := List.cons.inj e
    obtain ⟨e3, e4⟩ := first_uniq e2 (fun z => h (List.mem_cons_of_mem _ z)) (fun z => h' (List.mem_cons_of_mem _ z))
    exact ⟨by rw [e1, e3], e4⟩
section
variable {P : Program} {w : World} {K : PySem.W.Frag} {mg : Str → Option Value} {base : Heap}
theorem w_tM1 {r : V → List V → Hp → VK → Prop} {to te : TE} {σ : L2.St} {H : Hp} {Q : VK} (h : to σ H fun x H1 => (∃ z, x = .str z) ∧ te σ H1 fun y H2 => r x [y] H2 Q) : tM1 r to te σ H Q := h
theorem w_strZ {z : Str} {P : Prop} (h : P) : (∃ y, V.str z = .str y) ∧ P := ⟨⟨z, rfl⟩, h⟩
theorem w_split1 {l : List Nat} {c : Nat} {H : Hp} {Q : VK} (hl : l.length ≤ 5000) (h : ∀ p H', Ext H H' → H' p = some (.lst ((Txt.split (S l) (S [c])).map V.str)) → Q (.ref p) H') : rSplit (.str (S l)) [.str (S [c])] H Q :=
  ⟨S l, S [c], rfl, rfl, rfl, by rw [S_len]; exact zl (by omega), fun p np => h p _ (Ext.new np) upd_same⟩
theorem c_whole_in {l : List Nat} {H : Hp} {Q : VK} {E : XK} (hl : l.length ≤ 5000) (k1 : WholeOk l → ∀ n, intText? (S l) = some n → Bn 200 n → Q (.int n) H) (k2 : ¬ WholeOk l → Q .non H) : spWholeIn [.str (S l)] H Q E := ⟨l, rfl, hl, k1, k2⟩
/-- an error of one value -/
def spErr1 (C : Addr) (f : Str) : Sp := fun vs H Q _ => ∃ (a : Addr) (x : V), vs = [.ref a, x] ∧ H a = some (exo a C none) ∧
  ∀ d H', H d = none → H' a = some (exo a C (some d)) → H' d = some (exd d [(f, x)]) → (∀ b o, H b = some o → b ≠ a → H' b = some o) → Q .non H'
theorem ok_NoText___init__ (T : Tx K mg) : FnOk P w K mg base CX0 1 T.a_NoText___init__ T.d_NoText___init__ ["self", "text"] (spErr1 T.C_NoText "text") := by
  refine T.F_NoText___init__.ok sc_NoText___init__ (fun vs H Q E h => ?_) (fun cdv A outer s H vs Q E hr h => ?_)
  · obtain ⟨a, x, rfl, _⟩ := h
    rfl
  · obtain ⟨a, x, rfl, ha, k⟩ := h
    refine ⟨_, ((pss_cons (ps_expr (pe_clsinit rfl T.g_AnytuneError T.rd_AnytuneError T.in_AnytuneError (pa_cons (pv 0) (pa_cons pe_str pa_nil))))
 (pss_one (ps_ost (pv 0) (pv 1))))), ?_⟩
    refine ⟨_, rfl, a, T.C_NoText, _, rfl, by decide, T.ox_NoText, ha, ?_⟩
    refine ⟨_, rfl, _, rfl, a, T.C_NoText, rfl, T.ox_NoText, T.na_NoText_text, .inl ⟨ha, fun dx nd ne => ?_⟩⟩
    refine k dx _ nd upd_same (by rw [upd_ne ne, upd_same]) fun b o e hb => ?_
    rw [upd_ne hb, upd_ne (ne_of_none e nd)]
    exact e
def spMomentIn (C : Addr) : Sp := fun vs H Q _ => ∃ l : List Nat, vs = [.str (S l)] ∧ l.length ≤ 5000 ∧ (∀ t b, MomVal l t b → Bn 200 t → Bn 200 b → b ≠ 0 → ∀ p H', Ext H H' → Mo C H' (.ref p) (Rat.divInt t b) → Q (.ref p) H') ∧ ((¬ ∃ t b, MomVal l t b) → ∀ H', Ext H H' → Q .non H')
theorem ok_moment_in (T : Tx K mg) : FnOk P w K mg base CX0 5 T.a_moment_in T.d_moment_in ["text"] (spMomentIn T.C_Moment) := by
  refine T.F_moment_in.ok sc_moment_in (fun vs H Q E h => ?_) (fun cdv A outer s H vs Q E hr h => ?_)
  · obtain ⟨l, rfl, _⟩ := h
    rfl
  · obtain ⟨l, rfl, hl, k1, k2⟩ := h
    have G_whole_in : FnOk P w K mg base CX0 1 T.a_whole_in T.d_whole_in ["text"] spWholeIn := ok_whole_in T
    have G_common : FnOk P w K mg base CX0 1 T.a_common T.d_common ["a", "b"] spGcd := ok_common T
    have G_Moment___init__ : FnOk P w K mg base (L2.CX P w) 3 T.a_Moment___init__ T.d_Moment___init__ ["self", "top", "bottom"] (spMom T.C_Moment T.C_NoMoment) := ok_Moment___init__ T
    obtain ⟨ds2, V2_Moment___init__, B2_Moment___init__⟩ := mom_binds2 T
    obtain ⟨ds3, V3_Moment___init__, B3_Moment___init__⟩ := mom_binds3 T
    have hr1 : Room 1 _ := hr.mono (by decide : 1 ≤ 4)
    have hr_whole_in := hr1
    have hr_common := hr1
    have hr_Moment___init__ : Room 4 _ := hr
    refine ⟨_, ((pss_cons (ps_set (i := 1) sc_moment_in.nd rfl (Or.inl rfl) (pe_m1 PySem.F.slot_str_split PySem.F.type_str_split mt_splitN (pv 0) (pe_strS (l := [47]) (by decide +kernel))))
 (pss_cons (ps_set (i := 2) sc_moment_in.nd rfl (Or.inl rfl) (pe_call G_whole_in hr_whole_in rfl T.g_whole_in T.F_whole_in.kp T.b_whole_in .nil pass0 (pa_cons (pe_ix ix_list (pv 1) pe_int (fun _ _ => rfl)) pa_nil)))
 (pss_cons (ps_if (PW.pt (pw_or (pt_cmpR op_isN1 (pv 2) pe_non (nomark _)) (pw_or1 (pt_cmpR op_gt (pe_callB call_lenR (by rfl) T.n_len PySem.boot_len (pa_cons (pv 1) pa_nil)) pe_int (nomark _))))) (pss_one (ps_ret pe_non)) pss_nil)
 (pss_cons (ps_if (pt_cmpR op_eq (pe_callB call_lenR (by rfl) T.n_len PySem.boot_len (pa_cons (pv 1) pa_nil)) pe_int (nomark _)) (pss_one (ps_ret (pe_makeR T.M_Moment G_Moment___init__ hr_Moment___init__ rfl T.g_Moment B2_Moment___init__ V2_Moment___init__ passL (pa_cons (pv 2) pa_nil)))) pss_nil)
 (pss_cons (ps_set (i := 3) sc_moment_in.nd rfl (Or.inl rfl) (pe_call G_whole_in hr_whole_in rfl T.g_whole_in T.F_whole_in.kp T.b_whole_in .nil pass0 (pa_cons (pe_ix ix_list (pv 1) pe_int (fun _ _ => rfl)) pa_nil)))
 (pss_cons (ps_if (PW.pt (pw_or (pt_cmpR op_isN1 (pv 3) pe_non (nomark _)) (pw_or (pt_cmpR op_lt (pv 3) pe_int (nomark _)) (pw_or1 (pt_cmpR op_ne (pe_call G_common hr_common rfl T.g_common T.F_common.kp T.b_common .nil pass0 (pa_cons (pv 2) (pa_cons (pv 3) pa_nil))) pe_int (nomark _)))))) (pss_one (ps_ret pe_non)) pss_nil)
 (pss_one (ps_ret (pe_makeR T.M_Moment G_Moment___init__ hr_Moment___init__ rfl T.g_Moment B3_Moment___init__ V3_Moment___init__ passL (pa_cons (pv 2) (pa_cons (pv 3) pa_nil)))))))))))), ?_⟩
    walk_at "tx"
    refine w_strZ ?_
    walk_at "tx"
    refine w_split1 hl fun p1 H1 e1 u1 => ?_
    rcases first_of 47 l with h | ⟨p, r, rfl, hp⟩
    · rw [split_no (by decide) h] at u1
      have v1 : SqL K H1 p1 [.str (S l)] := SqL.of u1
      walk_at "tx"
      refine c_whole_in hl (fun ok n en bn => ?_) (fun nok => ?_)
      · have ml : MomVal l n 1 := .inl ⟨h, ok, en, rfl⟩
        walk_at "tx"
        refine w_len v1 ?_
        walk_at "tx"
        refine w_len v1 ?_
        walk_at "tx"
        refine w_mom rfl (bn.mono (by decide)) (by decide) (by decide) fun p2 H2 e2 m2 => ?_
        exact k1 n 1 ml bn (by decide) (by decide) p2 H2 (e1.t e2) m2
      · walk_at "tx"
        refine k2 (fun ⟨t, b, z⟩ => ?_) H1 e1
        rcases z with ⟨_, z, _⟩ | ⟨p, r, e, _⟩
        · exact nok z
        · exact h (by rw [e]; simp)
    · rw [split_at (by decide) hp] at u1
      have hpl : p.length ≤ 5000 := by simp at hl; omega
      have hrl : r.length ≤ 5000 := by simp at hl; omega
      have v1 : SqL K H1 p1 (.str (S p) :: ((TL.spl [47] 0 [] r).map S).map V.str) := SqL.of u1
      have no : ∀ P', (∀ p' r', p ++ 47 :: r = p' ++ 47 :: r' → 47 ∉ p' → 47 ∉ r' → WholeOk p' → WholeOk r' → ∀ t b, intText? (S p') = some t → intText? (S r') = some b → 2 ≤ b → Int.gcd t b = 1 → P') → (P' → False) → ∀ H', Ext H H' → Q .non H' := fun P' f g H' e => by
        refine k2 (fun ⟨t, b, z⟩ => ?_) H' e
        rcases z with ⟨z, _⟩ | ⟨p', r', e, h1, h2, o1, o2, i1, i2, hb, hg⟩
        · exact z (by simp)
        · exact g (f p' r' e h1 h2 o1 o2 t b i1 i2 hb hg)
      walk_at "tx"
      refine w_ixL v1 (atI_nat (j := 0) rfl) ?_
      walk_at "tx"
      refine c_whole_in hpl (fun ok n en bn => ?_) (fun nok => ?_)
      rotate_left
      · walk_at "tx"
        refine no False (fun p' r' e h1 h2 o1 _ _ _ _ _ _ _ => ?_) id H1 e1
        obtain ⟨rfl, rfl⟩ := first_uniq e hp h1
        exact nok o1
      walk_at "tx"
      refine w_len v1 ?_
      walk_at "tx"
      by_cases hr2 : 47 ∈ r
      · have := spl_len hr2
        refine i_dec (fun c => ?_) (fun c => absurd (by simp; omega) c)
        walk_at "tx"
        refine no False (fun p' r' e h1 h2 _ _ _ _ _ _ _ _ => ?_) id H1 e1
        obtain ⟨rfl, rfl⟩ := first_uniq e hp h1
        exact h2 hr2
      · rw [TL.spl_last1 hr2] at v1
        change SqL K H1 p1 [.str (S p), .str (S r)] at v1
        rw [TL.spl_last1 hr2]
        refine i_no rfl ?_
        walk_at "tx"
        refine w_len v1 ?_
        walk_at "tx"
        refine c_whole_in hrl (fun ok2 n2 en2 bn2 => ?_) (fun nok => ?_)
        rotate_left
        · walk_at "tx"
          refine no False (fun p' r' e h1 h2 _ o2 _ _ _ _ _ _ => ?_) id H1 e1
          obtain ⟨rfl, rfl⟩ := first_uniq e hp h1
          exact nok o2
        walk_at "tx"
        have uq : ∀ p' r', p ++ 47 :: r = p' ++ 47 :: r' → 47 ∉ p' → ∀ t b, intText? (S p') = some t → intText? (S r') = some b → n = t ∧ n2 = b := fun p' r' e h1 t b i1 i2 => by
          obtain ⟨rfl, rfl⟩ := first_uniq e hp h1
          rw [en] at i1
          rw [en2] at i2
          exact ⟨Option.some.inj i1, Option.some.inj i2⟩
        refine i_dec (fun c => ?_) (fun c => ?_)
        · walk_at "tx"
          refine no False (fun p' r' e h1 _ _ _ t b i1 i2 hb _ => ?_) id H1 e1
          obtain ⟨rfl, rfl⟩ := uq p' r' e h1 t b i1 i2
          omega
        walk_at "tx"
        refine c_gcd (bn.mono (by decide)) (bn2.mono (by decide)) ?_
        walk_at "tx"
        refine i_ndec (fun g => ?_) (fun g => ?_)
        · have g1 : Int.gcd n n2 = 1 := by omega
          have ml : MomVal (p ++ 47 :: r) n n2 := .inr ⟨p, r, rfl, hp, hr2, ok, ok2, en, en2, by omega, g1⟩
          walk_at "tx"
          refine w_mom rfl (bn.mono (by decide)) (bn2.mono (by decide)) (by omega) fun p2 H2 e2 m2 => ?_
          exact k1 n n2 ml bn bn2 (by omega) p2 H2 (e1.t e2) m2
        · walk_at "tx"
          refine no False (fun p' r' e h1 _ _ _ t b i1 i2 _ hg => ?_) id H1 e1
          obtain ⟨rfl, rfl⟩ := uq p' r' e h1 t b i1 i2
          exact g (by omega)
end
end AT
namespace AT
open PySem PySem.Spec PyProof.Rows L2 SX
/-- an int's text -/
def nl (i : Int) : List Nat := (Str.ofString (toString i)).cps.toList
theorem S_nl (i : Int) : S (nl i) = Str.ofString (toString i) := S_tl _
theorem nl_len {i : Int} (h : Bn 300 i) : (nl i).length ≤ 1921 := by
  have h2 := PyProof.Rows.int_text_len_1921 (i := i) (h.log' (by decide))
  rw [← S_nl, S_len] at h2
  exact h2
/-- a moment's text -/
def prt (q : Rat) : List Nat := if (q.den : Int) = 1 then nl q.num else nl q.num ++ 47 :: nl (q.den : Int)
def rJs (ts : List TE) (acc : Str) (σ : L2.St) : V → Hp → (Str → Hp → Prop) → Prop := fun x H1 Q => ∃ y : Str, x = .str y ∧ (acc ++ y).length ≤ sizeLine ∧ tJs ts (acc ++ y) σ H1 Q
def rFmt : V → Hp → VK → Prop := fun x H1 Q => (∃ y : Str, x = .str y ∧ y.length ≤ sizeLine ∧ Q (.str y) H1) ∨ ∃ i : Int, x = .int i ∧ i.natAbs.log2 < 1920 ∧ Q (.str (toString i)) H1
section
variable {P : Program} {w : World} {K : PySem.W.Frag} {mg : Str → Option Value} {base : Heap}
theorem w_js1 {t : TE} {ts : List TE} {acc : Str} {σ : L2.St} {H : Hp} {Q : Str → Hp → Prop} (h : t σ H fun x H1 => rJs ts acc σ x H1 Q) : tJs (t :: ts) acc σ H Q := h
theorem w_js0 {acc : Str} {σ : L2.St} {H : Hp} {Q : Str → Hp → Prop} (h : Q acc H) : tJs [] acc σ H Q := h
theorem w_rjs {ts : List TE} {σ : L2.St} {l m : List Nat} {H : Hp} {Q : Str → Hp → Prop} (hl : l.length + m.length ≤ 100000) (h : tJs ts (S (l ++ m)) σ H Q) : rJs ts (S l) σ (.str (S m)) H Q := ⟨S m, rfl, by rw [S_cat, S_len, List.length_append]; exact zl hl, by rw [S_cat]; exact h⟩
theorem w_fmt {te : TE} {σ : L2.St} {H : Hp} {Q : VK} (h : te σ H fun x H1 => rFmt x H1 Q) : tFmt te σ H Q := h
theorem w_rfmt {i : Int} {H : Hp} {Q : VK} (b : Bn 300 i) (h : Q (.str (S (nl i))) H) : rFmt (.int i) H Q := .inr ⟨i, rfl, b.log' (by decide), by rw [S_nl] at h; exact h⟩
theorem w_strL {i : Int} {H : Hp} {Q : VK} (b : Bn 300 i) (h : Q (.str (S (nl i))) H) : rStrI [.int i] H Q := ⟨i, rfl, b.log' (by decide), by rw [S_nl] at h; exact h⟩
def spStr (C : Addr) : Sp := fun vs H Q _ => ∃ (v : V) (q : Rat), vs = [v] ∧ Mo C H v q ∧ Bn 300 q.num ∧ Bn 300 (q.den : Int) ∧ Q (.str (S (prt q))) H
theorem ok_Moment___str__ (T : Tx K mg) : FnOk P w K mg base CX0 1 T.a_Moment___str__ T.d_Moment___str__ ["self"] (spStr T.C_Moment) := by
  refine T.F_Moment___str__.ok sc_Moment___str__ (fun vs H Q E h => ?_) (fun cdv A outer s H vs Q E hr h => ?_)
  · obtain ⟨v, q, rfl, _⟩ := h
    rfl
  · obtain ⟨v, q, rfl, m, bn, bd, k⟩ := h
    refine ⟨_, ((pss_cons (ps_if (pt_cmpR op_eq (pe_fld (pv 0) rfl) pe_int (nomark _)) (pss_one (ps_ret (pe_callTy call_strR (by rfl) T.n_str boot_str (pa_cons (pe_fld (pv 0) rfl) pa_nil)))) pss_nil)
 (pss_one (ps_ret (pe_joined (PJ.cons (pe_fmt (pe_fld (pv 0) rfl)) (PJ.cons (pe_strS (l := [47]) (by decide +kernel)) (PJ.cons (pe_fmt (pe_fld (pv 0) rfl)) PJ.nil)))))))), ?_⟩
    unfold prt at k
    have l1 := nl_len bn
    have l2 := nl_len bd
    walk_at "tx"
    refine i_dec (fun c => ?_) (fun c => ?_)
    · rw [if_pos c] at k
      walk_at "tx"
      exact w_strL bn k
    · rw [if_neg c] at k
      walk_at "tx"
      refine w_js1 (acc := S []) ?_
      refine w_fmt ?_
      walk_at "tx"
      refine w_rfmt bn ?_
      refine w_rjs (by simp; omega) ?_
      refine w_js1 ?_
      walk_at "tx"
      refine w_rjs (by simp; omega) ?_
      refine w_js1 ?_
      refine w_fmt ?_
      walk_at "tx"
      refine w_rfmt bd ?_
      refine w_rjs (by simp; omega) ?_
      refine w_js0 ?_
      have e : [] ++ nl q.num ++ [47] ++ nl (q.den : Int) = nl q.num ++ 47 :: nl (q.den : Int) := by simp
      rw [e]
      exact k
def spRead (C CE : Addr) : Sp := fun vs H Q E => ∃ l : List Nat, vs = [.str (S l)] ∧ l.length ≤ 5000 ∧ (∀ t b, MomVal l t b → Bn 200 t → Bn 200 b → b ≠ 0 → ∀ p H', Ext H H' → Mo C H' (.ref p) (Rat.divInt t b) → Q (.ref p) H') ∧
  ((¬ ∃ t b, MomVal l t b) → ∀ d H', H d = none → Ext H H' → H' d = some (.xd [("text", .str (S l))]) → E (.ref CE) (some d) H')
theorem c_moment_in {C : Addr} {l : List Nat} {H : Hp} {Q : VK} {E : XK} (hl : l.length ≤ 5000) (k1 : ∀ t b, MomVal l t b → Bn 200 t → Bn 200 b → b ≠ 0 → ∀ p H', Ext H H' → Mo C H' (.ref p) (Rat.divInt t b) → Q (.ref p) H') (k2 : (¬ ∃ t b, MomVal l t b) → ∀ H', Ext H H' → Q .non H') : spMomentIn C [.str (S l)] H Q E := ⟨l, rfl, hl, k1, k2⟩
theorem ok_Moment_read (T : Tx K mg) : FnOk P w K mg base (L2.CX P w) 6 T.a_Moment_read T.d_Moment_read ["text"] (spRead T.C_Moment T.C_NoText) := by
  refine T.F_Moment_read.okX sc_Moment_read (fun vs H Q E h => ?_) (fun cdv A outer s H vs Q E hr h => ?_)
  · obtain ⟨l, rfl, _⟩ := h
    rfl
  · obtain ⟨l, rfl, hl, k1, k2⟩ := h
    have G_moment_in : FnOk P w K mg base CX0 5 T.a_moment_in T.d_moment_in ["text"] (spMomentIn T.C_Moment) := ok_moment_in T
    have G_err : FnOk P w K mg base CX0 1 T.a_NoText___init__ T.d_NoText___init__ ["self", "text"] (spErr1 T.C_NoText "text") := ok_NoText___init__ T
    have hr_moment_in : Room 5 _ := hr
    have hr2 : Room 2 _ := hr.mono (by decide : 2 ≤ 5)
    refine ⟨_, ((pss_cons (ps_set (i := 1) sc_Moment_read.nd rfl (Or.inl rfl) (pe_call G_moment_in hr_moment_in rfl T.g_moment_in T.F_moment_in.kp T.b_moment_in .nil pass0 (pa_cons (pv 0) pa_nil)))
 (pss_cons (ps_if (pt_cmpR op_isN1 (pv 1) pe_non (nomark _)) (pss_one (ps_raise rfl (takes_of rfl rfl rfl rfl) (pmk_oex T.ox_NoText T.m_NoText___init__.at_ (beq_iff_eq.mp T.m_NoText___init__.fn) G_err hr2 T.b_NoText___init__ .nil pass0 rfl T.g_NoText (pa_cons (pv 0) pa_nil)))) pss_nil)
 (pss_one (ps_ret (pv 1)))))), ?_⟩
    walk_at "tx"
    refine c_moment_in hl (fun t b mv bt bb b0 p H1 e1 m => ?_) (fun n H1 e1 => ?_)
    · walk_at "tx"
      exact k1 t b mv bt bb b0 p H1 e1 m
    · walk_at "tx"
      refine ⟨(by show 1 ≤ 1000; decide), fun a na => ⟨a, _, rfl, upd_same, fun d H' nd h1 h2 kp => ⟨rfl, d, _, h1, h2, Ext.fresh (Ext.new na) nd, ?_⟩⟩⟩
      have nd' : H1 d = none := Ext.fresh (Ext.new na) nd
      refine k2 n d _ (e1.fresh nd') (e1.t fun q o e => ?_) upd_same
      rw [upd_ne (ne_of_none e nd'), del_ne (ne_of_none e na)]
      exact kp q o (by rw [upd_ne (ne_of_none e na)]; exact e) (ne_of_none e na)
end
end AT
namespace AT
open PySem PySem.Spec PyProof.Rows L2 SX
def NumOk (least : Int) (l : List Nat) : Prop := WholeOk l ∧ (least < 0 ∨ l.take 1 ≠ [45])
instance {least : Int} {l : List Nat} : Decidable (NumOk least l) := inferInstanceAs (Decidable (_ ∧ _))
theorem whole_last {l : List Nat} {d0 : Nat} (hh : (dgs l).head? = some d0) : (d0 ≠ 48 ∨ l = [48]) ↔ ¬ ((dgs l).head? = some 48 ∧ 1 < l.length) := by
  rw [hh]
  constructor
  · rintro (h | h) ⟨h1, h2⟩
    · exact h (Option.some.inj h1)
    · rw [h] at h2; simp at h2
  · intro h
    by_cases e : d0 = 48
    · subst e
      have hl : ¬ 1 < l.length := fun z => h ⟨rfl, z⟩
      rcases dgs_of (l := l) with ⟨_, e⟩ | ⟨_, e⟩
      · have el : l.length = (dgs l).length + 1 := congrArg List.length e
        have : dgs l = [] := List.eq_nil_of_length_eq_zero (by omega)
        rw [this] at hh
        cases hh
      · rw [e] at hh
        match l, hl, hh with
        | [a], _, hh => right; have : a = 48 := by simpa using hh
                        rw [this]
        | a :: b :: r, hl, _ => exact absurd (by simp) hl
    · exact .inl e
section
variable {P : Program} {w : World} {K : PySem.W.Frag} {mg : Str → Option Value} {base : Heap}
def chV (c : Nat) : V := .str (S [c])
theorem dp_chs {H : Hp} : ∀ l : List Nat, DpAll K H (l.map chV) (l.map fun c => PyData.str (S [c]))
  | [] => .nil
  | c :: r => .cons (.str _) (dp_chs r)
theorem lay_chs : ∀ l : List Nat, (∀ c ∈ l, c < 1114112) → PyData.canLayAll0 (l.map fun c => PyData.str (S [c])) = true
  | [], _ => rfl
  | c :: r, h => by
    have hc := h c (List.mem_cons_self ..)
    have ih := lay_chs r fun d hd => h d (List.mem_cons_of_mem _ hd)
    simp [PyData.canLayAll0, PyData.canLay0, PyData.strOk, hc, ih]
theorem dep_chs : ∀ l : List Nat, PyData.depthAll (l.map fun c => PyData.str (S [c])) = 0
  | [] => rfl
  | c :: r => by simp [PyData.depthAll, PyData.depth, dep_chs r]
theorem shaped_chs {l : List Nat} (h : ∀ c ∈ l, c < 1114112) : SeqAt.shaped (.list (l.map fun c => PyData.str (S [c]))) = true := by
  simp [SeqAt.shaped, PyData.canLay0, PyData.depth, lay_chs l h, dep_chs l]
theorem eqv_nil (l : List Nat) : PyData.eqv (.list (l.map fun c => PyData.str (S [c]))) (.list []) = l.isEmpty := by
  cases l <;> simp [PyData.eqv, PyData.eqvAll]
def spIsNum : Sp := fun vs H Q _ => ∃ (l : List Nat) (least : Int), vs = [.str (S l), .int least] ∧ l.length ≤ 5000 ∧ (∀ c ∈ l, c < 1114112) ∧ ∀ H', Ext H H' → Q (.bl (decide (NumOk least l))) H'
theorem c_isNum {l : List Nat} {least : Int} {H : Hp} {Q : VK} {E : XK} (hl : l.length ≤ 5000) (hc : ∀ c ∈ l, c < 1114112) (k : ∀ H', Ext H H' → Q (.bl (decide (NumOk least l))) H') : spIsNum [.str (S l), .int least] H Q E := ⟨l, least, rfl, hl, hc, k⟩
theorem ok__law_is_number (T : Tx K mg) : FnOk P w K mg base CX0 2 T.a__law_is_number T.d__law_is_number ["_law_text", "_law_least"] spIsNum := by
  refine T.F__law_is_number.ok sc__law_is_number (fun vs H Q E h => ?_) (fun cdv A outer s H vs Q E hr h => ?_)
  · obtain ⟨l, least, rfl, _⟩ := h
    rfl
  · obtain ⟨l, least, rfl, hl, hch, k⟩ := h
    have hr1 : Room 1 _ := hr
    refine ⟨_, ((pss_cons (ps_set (i := 2) sc__law_is_number.nd rfl (Or.inl rfl) (pv 0))
 (Evl.pss_cut (ps_if (PW.pt (pw_and (pt_cmpR op_eq (pe_slice C8.sl_txt (pv 0) po_none (po_some pe_int)) (pe_strS (l := [45]) (by decide +kernel)) (nomark _)) (pw_and1 (pt_cmpR op_lt (pv 1) pe_int (nomark _))))) (pss_one (ps_set (i := 2) sc__law_is_number.nd rfl (Or.inl rfl) (pe_slice C8.sl_txt (pv 0) (po_some pe_int) po_none))) pss_nil)
 (pss_cons (ps_if (PW.pt (pw_or (pt_cmpR op_eq (pv 2) (pe_strS (l := []) (by decide +kernel)) (nomark _)) (pw_or1 (pt_cmpR op_gt (pe_callB call_lenT (by rfl) T.n_len PySem.boot_len (pa_cons (pv 2) pa_nil)) pe_int (nomark _))))) (pss_one (ps_ret pe_bl)) pss_nil)
 (pss_cons (ps_if (pt_cmpR (op_neD hr1.units) (pe_lc (own := [("_law_one", 3)]) (g := gName 3) (by rfl) sc__law_is_number.nd (pi_str (pv 2)) (blkOk_by (own := [("_law_one", 3)]) (N := ["_law_text", "_law_least", "_law_digits", "_law_one"]) (sc := defScope s__law_is_number) (by decide +kernel)) (fun _ _ _ _ _ => pg_name (i := 3) sc__law_is_number.nd rfl (Or.inl rfl)) (fun _ _ _ _ _ => (pts_one (pt_cmpR op_notInS (pv 3) (pe_strS (l := [48, 49, 50, 51, 52, 53, 54, 55, 56, 57]) (by decide +kernel)) (by rfl)))) (fun _ _ _ _ _ => (pv 3))) (pe_lst pa_nil) (nomark _)) (pss_one (ps_ret pe_bl)) pss_nil)
 (pss_one (ps_ret (pe_or (pe_cmpR op_ne (pe_ix ix_str (pv 2) pe_int (fun _ _ => rfl)) (pe_strS (l := [48]) (by decide +kernel)) (nomark _)) (pe_one (pe_cmpR op_eq (pv 0) (pe_strS (l := [48]) (by decide +kernel)) (nomark _))))))))))), ?_⟩
    walk_at "tx"
    refine ⟨fun σ' H' => H = H' ∧ ∃ ds : List Nat, σ' = [some (.str (S l)), some (.int least), some (.str (S ds)), none] ∧ ((ds = dgs l ∧ (least < 0 ∨ l.take 1 ≠ [45])) ∨ (ds = l ∧ l.take 1 = [45] ∧ ¬ least < 0)), ?_, ?_⟩
    · walk_at "tx"
      refine i_dec (fun c => ?_) (fun c => ?_)
      · have c : l.take 1 = [45] := c
        walk_at "tx"
        refine i_dec (fun c2 => ?_) (fun c2 => ?_)
        · walk_at "tx"
          exact ⟨rfl, l.drop 1, rfl, .inl ⟨by unfold dgs; rw [if_pos c], .inl c2⟩⟩
        · walk_at "tx"
          exact ⟨rfl, l, rfl, .inr ⟨rfl, c, c2⟩⟩
      · have c : ¬ l.take 1 = [45] := c
        walk_at "tx"
        exact ⟨rfl, l, rfl, .inl ⟨by unfold dgs; rw [if_neg c], .inr c⟩⟩
    rintro σ' H' ⟨rfl, ds, rfl, hds⟩
    have hd : ds.length ≤ 5000 := by
      rcases hds with ⟨e, _⟩ | ⟨e, _⟩
      · rcases dgs_of (l := l) with ⟨_, e2⟩ | ⟨_, e2⟩
        · have el : l.length = (dgs l).length + 1 := congrArg List.length e2
          rw [e]; omega
        · rw [e, e2]; exact hl
      · rw [e]; exact hl
    have hds_mem : ∀ c ∈ ds, c ∈ l := fun c hc => by
      rcases hds with ⟨e, _⟩ | ⟨e, _⟩
      · rw [e] at hc
        rcases dgs_of (l := l) with ⟨_, e2⟩ | ⟨_, e2⟩
        · rw [e2]
          exact List.mem_cons_of_mem _ hc
        · rw [e2] at hc; exact hc
      · rw [e] at hc; exact hc
    have no : ¬ NumOk least l → ∀ H', Ext H H' → Q (.bl false) H' := fun n H' e => by have := k H' e; rw [decide_eq_false n] at this; exact this
    have k' : ∀ p : Prop, ∀ (_ : Decidable p), (p ↔ NumOk least l) → ∀ H', Ext H H' → Q (.bl (decide p)) H' := fun p _ e H' x => by
      have := k H' x
      rw [show decide (NumOk least l) = decide p from by rw [decide_eq_decide]; exact e.symm] at this
      exact this
    have bad : ds = l ∧ l.take 1 = [45] ∧ ¬ least < 0 → ¬ NumOk least l := fun ⟨_, h1, h2⟩ z => by
      rcases z.2 with z | z
      · exact h2 z
      · exact z h1
    walk_at "tx"
    refine i_dec (fun c => ?_) (fun c0 => ?_)
    · walk_at "tx"
      refine no (fun z => ?_) H fun _ _ e => e
      rcases hds with ⟨e, _⟩ | b
      · exact z.1.1 (by rw [← e]; exact c)
      · exact bad b z
    walk_at "tx"
    refine i_dec (fun c => ?_) (fun c1 => ?_)
    · walk_at "tx"
      refine no (fun z => ?_) H fun _ _ e => e
      rcases hds with ⟨e, _⟩ | b
      · exact absurd z.1.2.1 (by rw [← e]; omega)
      · exact bad b z
    walk_at "tx"
    refine ⟨S ds, rfl, fun D nD => lc_str (l := ds) (fun i H' => H' = upd H D (.lst (((ds.take i).filter fun c => !decide (c ∈ dg)).map chV))) rfl ?_ ?_⟩
    · rintro i c H' hi rfl
      refine w_gname ⟨rfl, ?_⟩
      walk_at "tx"
      have hf : (ds.take (i + 1)).filter (fun c => !decide (c ∈ dg)) = (ds.take i).filter (fun c => !decide (c ∈ dg)) ++ ([c].filter fun c => !decide (c ∈ dg)) := by
        rw [List.take_add_one, hi, List.filter_append]
        rfl
      refine i_ndec (fun hc => ?_) (fun hc => ?_)
      · have hc : c ∈ dg := hc
        rw [hf]
        simp [hc]
      · have hc : ¬ c ∈ dg := hc
        walk_at "tx"
        refine ⟨_, upd_same, ?_, ?_⟩
        · rw [List.length_map]
          refine Nat.lt_of_le_of_lt (List.length_filter_le ..) ?_
          refine Nat.lt_of_le_of_lt (List.length_take_le' ..) ?_
          rw [sizeLine_eq]
          omega
        · rw [upd_upd, hf]
          simp [hc, chV]
    · rintro H' rfl
      walk_at "tx"
      rw [List.take_length]
      have e1 : Ext H (upd H D (.lst ((ds.filter fun c => !decide (c ∈ dg)).map chV))) := Ext.new nD
      generalize hH1 : upd H D (.lst ((ds.filter fun c => !decide (c ∈ dg)).map chV)) = H1 at e1
      have u1 : H1 D = some (.lst ((ds.filter fun c => !decide (c ∈ dg)).map chV)) := by rw [← hH1]; exact upd_same
      refine n_lst (by decide) fun p2 H2 _ e2 u2 => ?_
      refine n_neD (.lst (SqL.of (e2 _ _ u1)) (dp_chs _)) (.lst (SqL.of u2) .nil) (shaped_chs fun c hc => hch c (hds_mem c (List.mem_filter.mp hc).1)) rfl ?_
      rw [eqv_nil]
      have e12 := e1.t e2
      cases hz : (ds.filter fun c => !decide (c ∈ dg)).isEmpty with
      | false =>
        walk_at "tx"
        refine no (fun z => ?_) H2 e12
        rcases hds with ⟨e, _⟩ | b
        · have : (ds.filter fun c => !decide (c ∈ dg)) = [] := by
            rw [List.filter_eq_nil_iff]
            intro c hc
            rw [e] at hc
            simp [z.1.2.2.1 c hc]
          rw [this] at hz
          cases hz
        · exact bad b z
      | true =>
        have ad : ∀ c ∈ ds, c ∈ dg := fun c hc => by
          have h := List.filter_eq_nil_iff.mp (List.isEmpty_iff.mp hz) c hc
          simpa using h
        rcases hds with ⟨e, hl2⟩ | ⟨e, h45, _⟩
        · obtain ⟨d0, hd0⟩ : ∃ d0, ds[0]? = some d0 := ⟨_, List.getElem?_eq_getElem (List.length_pos_iff.mpr c0)⟩
          have hh : (dgs l).head? = some d0 := by rw [← e, List.head?_eq_getElem?]; exact hd0
          walk_at "tx"
          refine w_ixS (by omega) (atI_nat (j := 0) hd0) ?_
          walk_at "tx"
          have wl := whole_last hh
          have key : NumOk least l ↔ (d0 ≠ 48 ∨ l = [48]) := by
            rw [wl]
            exact ⟨fun z => z.1.2.2.2, fun z => ⟨⟨by rw [← e]; exact c0, by rw [← e]; omega, by rw [← e]; exact ad, z⟩, hl2⟩⟩
          by_cases e48 : d0 = 48
          · subst e48
            refine i_no (by simp) ?_
            walk_at "tx"
            refine k' (l = [48]) _ ?_ H2 e12
            rw [key]
            simp
          · refine i_yes (by simp [e48]) ?_
            have := k' True inferInstance (by rw [key]; simp [e48]) H2 e12
            simpa using this
        · exfalso
          rw [e] at ad
          have : (45 : Nat) ∈ l := List.mem_of_mem_take (by rw [h45]; simp : (45 : Nat) ∈ l.take 1)
          exact absurd (ad 45 this) (by decide)
end
end AT
namespace AT
open PySem PySem.Spec PyProof.Rows L2 SX
theorem whole_neg {l : List Nat} (h : WholeOk l) (h45 : l.take 1 = [45]) {n : Int} (e : intText? (S l) = some n) : n ≤ 0 := by
  obtain ⟨h1, h2, h3, _⟩ := h
  have ad : NumText.AllDigits (dgs l) := fun c hc => dg_iff.mp (h3 c hc)
  rcases dgs_of (l := l) with ⟨_, el⟩ | ⟨z, _⟩
  · have ln : l.length = (dgs l).length + 1 := congrArg List.length el
    have := intText_neg (x := S l) (cs := dgs l) el ad h1 (by rw [S_len]; omega)
    rw [e] at this
    have := Option.some.inj this
    omega
  · exact absurd h45 z
theorem whole_47 {l : List Nat} (h : WholeOk l) : 47 ∉ l := by
  intro hm
  obtain ⟨h1, h2, h3, _⟩ := h
  rcases dgs_of (l := l) with ⟨_, el⟩ | ⟨_, el⟩
  · rw [el] at hm
    rcases List.mem_cons.mp hm with z | z
    · cases z
    · exact absurd (h3 47 z) (by decide)
  · rw [← el] at hm
    exact absurd (h3 47 hm) (by decide)
def signsA : List Nat := [32, 33, 34, 35, 36, 38, 39, 40, 41, 42, 43, 44, 45, 46, 47, 48, 49, 50, 51, 52, 53, 54, 55, 56, 57, 58, 59, 60, 61, 62, 63, 64, 65, 66, 67, 68, 69, 70, 71, 72, 73, 74, 75, 76, 77, 78, 79, 80, 81, 82, 83, 84, 85, 86, 87, 88, 89, 90, 91, 92, 93, 94, 95, 96]
def signsB : List Nat := [97, 98, 99, 100, 101, 102, 103, 104, 105, 106, 107, 108, 109, 110, 111, 112, 113, 114, 115, 116, 117, 118, 119, 120, 121, 122, 123, 124, 125, 126, 10, 9]
theorem signs_at : ∀ j, j < 96 → ∃ c, (signsA ++ signsB)[j]? = some c ∧ c < 1114112 := fun j hj => by
  have h : ∀ j : Fin 96, ((signsA ++ signsB)[j.val]?.any fun c => decide (c < 1114112)) = true := by decide +kernel
  have := h ⟨j, hj⟩
  cases e : (signsA ++ signsB)[j]? with
  | none => simp [e] at this
  | some c => exact ⟨c, rfl, by simpa [e] using this⟩
section
variable {P : Program} {w : World} {K : PySem.W.Frag} {mg : Str → Option Value} {base : Heap}
theorem w_find_no {l : List Nat} {c : Nat} {H : Hp} {Q : VK} (h : c ∉ l) (k : Q (.int (-1)) H) : rFind (.str (S l)) [.str (S [c])] H Q := ⟨S l, S [c], rfl, rfl, by rw [find_no h]; exact k⟩
theorem w_find_at {p r : List Nat} {c : Nat} {H : Hp} {Q : VK} (h : c ∉ p) (k : Q (.int (p.length : Int)) H) : rFind (.str (S (p ++ c :: r))) [.str (S [c])] H Q := ⟨_, S [c], rfl, rfl, by rw [find_at h]; exact k⟩
theorem drop_at {p r : List Nat} {c : Nat} {i : Int} (e : i = (p.length : Int) + 1) : (p ++ c :: r).drop i.toNat = r := by
  have : i.toNat = p.length + 1 := by omega
  rw [this, List.drop_append]
  simp
theorem take_at {p r : List Nat} {c : Nat} : (p ++ c :: r).take ((p.length : Int)).toNat = p := by simp
def spWritten : Sp := fun vs H Q _ => ∃ l : List Nat, vs = [.str (S l)] ∧ l.length ≤ 5000 ∧ (∀ c ∈ l, c < 1114112) ∧ ∀ H' (b : Bool), Ext H H' → (b = true ↔ ∃ t b, MomVal l t b) → Q (.bl b) H'
theorem ok__law_is_written (T : Tx K mg) : FnOk P w K mg base CX0 3 T.a__law_is_written T.d__law_is_written ["_law_text"] spWritten := by
  refine T.F__law_is_written.ok sc__law_is_written (fun vs H Q E h => ?_) (fun cdv A outer s H vs Q E hr h => ?_)
  · obtain ⟨l, rfl, _⟩ := h
    rfl
  · obtain ⟨l, rfl, hl, hc, k⟩ := h
    have G__law_is_number : FnOk P w K mg base CX0 2 T.a__law_is_number T.d__law_is_number ["_law_text", "_law_least"] spIsNum := ok__law_is_number T
    have G__law_gcd : FnOk P w K mg base CX0 1 T.a__law_gcd T.d__law_gcd ["_law_a", "_law_b"] spGcd := ok__law_gcd T
    have hr__law_is_number : Room 2 _ := hr
    have hr__law_gcd : Room 1 _ := hr.mono (by decide : 1 ≤ 2)
    refine ⟨_, ((pss_cons (ps_set (i := 1) sc__law_is_written.nd rfl (Or.inl rfl) (pe_m1 PySem.F.slot_str_find PySem.F.type_str_find mt_findN (pv 0) (pe_strS (l := [47]) (by decide +kernel))))
 (pss_cons (ps_if (pt_cmpR op_lt (pv 1) pe_int (nomark _)) (pss_one (ps_ret (pe_call G__law_is_number hr__law_is_number rfl T.g__law_is_number T.F__law_is_number.kp T.b__law_is_number .nil pass0 (pa_cons (pv 0) (pa_cons (pe_un un_neg pe_int) pa_nil))))) pss_nil)
 (pss_cons (ps_set (i := 2) sc__law_is_written.nd rfl (Or.inl rfl) (pe_slice C8.sl_txt (pv 0) (po_some (pe_op op_add (pv 1) pe_int)) po_none))
 (pss_cons (ps_if (PW.pt (pw_or (pt_not (pt_val (pe_call G__law_is_number hr__law_is_number rfl T.g__law_is_number T.F__law_is_number.kp T.b__law_is_number .nil pass0 (pa_cons (pe_slice C8.sl_txt (pv 0) po_none (po_some (pv 1))) (pa_cons (pe_un un_neg pe_int) pa_nil))))) (pw_or1 (pt_not (pt_val (pe_call G__law_is_number hr__law_is_number rfl T.g__law_is_number T.F__law_is_number.kp T.b__law_is_number .nil pass0 (pa_cons (pv 2) (pa_cons pe_int pa_nil)))))))) (pss_one (ps_ret pe_bl)) pss_nil)
 (pss_one (ps_ret (pe_and (pe_cmpR op_gt (pe_callTy call_intT (by rfl) T.n_int boot_int (pa_cons (pv 2) pa_nil)) pe_int (nomark _)) (pe_one (pe_cmpR op_eq (pe_call G__law_gcd hr__law_gcd rfl T.g__law_gcd T.F__law_gcd.kp T.b__law_gcd .nil pass0 (pa_cons (pe_callTy call_intT (by rfl) T.n_int boot_int (pa_cons (pe_slice C8.sl_txt (pv 0) po_none (po_some (pv 1))) pa_nil)) (pa_cons (pe_callTy call_intT (by rfl) T.n_int boot_int (pa_cons (pv 2) pa_nil)) pa_nil))) pe_int (nomark _))))))))))), ?_⟩
    walk_at "tx"
    refine w_strZ ?_
    walk_at "tx"
    rcases first_of 47 l with h | ⟨p, r, rfl, hp⟩
    · refine w_find_no h ?_
      walk_at "tx"
      refine c_isNum hl hc fun H1 e1 => ?_
      refine k H1 _ e1 ?_
      rw [decide_eq_true_iff]
      constructor
      · intro z
        obtain ⟨_, n, en, _⟩ := z.1.int
        exact ⟨n, 1, .inl ⟨h, z.1, en, rfl⟩⟩
      · rintro ⟨t, b, ⟨_, ok, _⟩ | ⟨p, r, e, _⟩⟩
        · exact ⟨ok, .inl (by decide)⟩
        · exact absurd (by rw [e]; simp) h
    · have hpl : p.length ≤ 5000 := by simp at hl; omega
      have hrl : r.length ≤ 5000 := by simp at hl; omega
      have hcp : ∀ c ∈ p, c < 1114112 := fun c z => hc c (by simp [z])
      have hcr : ∀ c ∈ r, c < 1114112 := fun c z => hc c (by simp [z])
      have bad : ¬ (WholeOk p ∧ NumOk 0 r) → ∀ H', Ext H H' → Q (.bl false) H' := fun n H' e => by
        refine k H' false e ?_
        constructor
        · intro z; cases z
        · rintro ⟨t, b, ⟨z, _⟩ | ⟨p', r', e', h1, h2, o1, o2, i1, i2, hb, _⟩⟩
          · exact absurd (by simp) z
          · obtain ⟨rfl, rfl⟩ := first_uniq e' hp h1
            refine absurd ⟨o1, o2, .inr fun z => ?_⟩ n
            have := whole_neg o2 z i2
            omega
      refine w_find_at hp ?_
      walk_at "tx"
      refine w_slFrom (by omega) (by omega) ?_
      rw [drop_at rfl]
      walk_at "tx"
      refine w_slTo (by omega) (by omega) ?_
      rw [take_at]
      walk_at "tx"
      refine c_isNum hpl hcp fun H1 e1 => ?_
      walk_at "tx"
      refine i_ndecN (fun z => ?_) (fun np => ?_)
      · walk_at "tx"
        exact bad (fun y => z ⟨y.1, .inl (by decide)⟩) H1 e1
      walk_at "tx"
      refine c_isNum hrl hcr fun H2 e2 => ?_
      walk_at "tx"
      refine i_ndecN (fun z => ?_) (fun nr => ?_)
      · walk_at "tx"
        exact bad (fun y => z y.2) H2 (e1.t e2)
      walk_at "tx"
      obtain ⟨lp, n, en, bn⟩ := np.1.int
      obtain ⟨lr, n2, en2, bn2⟩ := nr.1.int
      have fin : ∀ b : Bool, (b = true ↔ 2 ≤ n2 ∧ Int.gcd n n2 = 1) → Q (.bl b) H2 := fun b hb => by
        refine k H2 b (e1.t e2) ?_
        rw [hb]
        constructor
        · intro z
          exact ⟨n, n2, .inr ⟨p, r, rfl, hp, whole_47 nr.1, np.1, nr.1, en, en2, z.1, z.2⟩⟩
        · rintro ⟨t, b, ⟨z, _⟩ | ⟨p', r', e', h1, h2, o1, o2, i1, i2, hb, hg⟩⟩
          · exact absurd (by simp) z
          · obtain ⟨rfl, rfl⟩ := first_uniq e' hp h1
            rw [en] at i1
            rw [en2] at i2
            cases i1
            cases i2
            exact ⟨hb, hg⟩
      refine w_intT en2 (by omega) ?_
      walk_at "tx"
      refine i_dec (fun c => ?_) (fun c => ?_)
      · walk_at "tx"
        refine w_slTo (by omega) (by simp; omega) ?_
        rw [take_at]
        walk_at "tx"
        refine w_intT en (by omega) ?_
        walk_at "tx"
        refine w_intT en2 (by omega) ?_
        walk_at "tx"
        refine c_gcd (bn.mono (by decide)) (bn2.mono (by decide)) ?_
        walk_at "tx"
        refine fin _ ?_
        rw [decide_eq_true_iff]
        omega
      · refine fin false ⟨fun z => (by cases z), fun z => absurd z.1 (by omega)⟩
theorem nl_ch {i : Int} : ∀ c ∈ nl i, c < 1114112 := fun c hc => by
  by_cases h : c ≠ 45 ∧ (c < 48 ∨ 57 < c)
  · exact absurd hc (PyProof.Rows.int_text_free' c h i)
  · omega
theorem prt_ch {q : Rat} : ∀ c ∈ prt q, c < 1114112 := fun c hc => by
  unfold prt at hc
  split at hc
  · exact nl_ch c hc
  · rcases List.mem_append.mp hc with h | h
    · exact nl_ch c h
    · rcases List.mem_cons.mp h with h | h
      · omega
      · exact nl_ch c h
theorem prt_len {q : Rat} (h1 : Bn 300 q.num) (h2 : Bn 300 (q.den : Int)) : (prt q).length ≤ 4000 := by
  have l1 := nl_len h1
  have l2 := nl_len h2
  unfold prt
  split
  · omega
  · simp; omega
def spPrinted (K : PySem.W.Frag) : Sp := fun vs H Q _ => ∃ (v : V) (q : Rat), vs = [v] ∧ PrQ K H v q ∧ Bn 300 q.num ∧ Bn 300 (q.den : Int) ∧ Q (.str (S (prt q))) H
theorem ok__law_printed (T : Tx K mg) : FnOk P w K mg base CX0 1 T.a__law_printed T.d__law_printed ["_law_pair"] (spPrinted K) := by
  refine T.F__law_printed.ok sc__law_printed (fun vs H Q E h => ?_) (fun cdv A outer s H vs Q E hr h => ?_)
  · obtain ⟨v, q, rfl, _⟩ := h
    rfl
  · obtain ⟨v, q, rfl, ⟨p, rfl, u⟩, bn, bd, k⟩ := h
    refine ⟨_, ((pss_cons (ps_if (pt_cmpR op_eq (pe_ix ix_tup (pv 0) pe_int (fun _ _ => rfl)) pe_int (nomark _)) (pss_one (ps_ret (pe_callTy call_strR (by rfl) T.n_str boot_str (pa_cons (pe_ix ix_tup (pv 0) pe_int (fun _ _ => rfl)) pa_nil)))) pss_nil)
 (pss_one (ps_ret (pe_op op_catT (pe_op op_catT (pe_callTy call_strR (by rfl) T.n_str boot_str (pa_cons (pe_ix ix_tup (pv 0) pe_int (fun _ _ => rfl)) pa_nil)) (pe_strS (l := [47]) (by decide +kernel))) (pe_callTy call_strR (by rfl) T.n_str boot_str (pa_cons (pe_ix ix_tup (pv 0) pe_int (fun _ _ => rfl)) pa_nil))))))), ?_⟩
    unfold prt at k
    have l1 := nl_len bn
    have l2 := nl_len bd
    walk_at "tx"
    refine i_dec (fun c => ?_) (fun c => ?_)
    · rw [if_pos c] at k
      walk_at "tx"
      exact w_strL bn k
    · rw [if_neg c] at k
      walk_at "tx"
      refine w_strL bn ?_
      walk_at "tx"
      refine w_strL bd ?_
      refine w_catT (by simp; omega) ?_
      have e : nl q.num ++ [47] ++ nl (q.den : Int) = nl q.num ++ 47 :: nl (q.den : Int) := by simp
      rw [e]
      exact k
def spSign : Sp := fun vs H Q _ => ∃ k : Int, vs = [.int k] ∧ ∀ c : Nat, c < 1114112 → Q (.str (S [c])) H
theorem ok__law_sign (T : Tx K mg) : FnOk P w K mg base CX0 1 T.a__law_sign T.d__law_sign ["_law_k"] spSign := by
  refine T.F__law_sign.ok sc__law_sign (fun vs H Q E h => ?_) (fun cdv A outer s H vs Q E hr h => ?_)
  · obtain ⟨k, rfl, _⟩ := h
    rfl
  · obtain ⟨i, rfl, k⟩ := h
    refine ⟨_, ((pss_cons (ps_set (i := 1) sc__law_sign.nd rfl (Or.inl rfl) (pe_strS (l := [32, 33, 34, 35, 36, 38, 39, 40, 41, 42, 43, 44, 45, 46, 47, 48, 49, 50, 51, 52, 53, 54, 55, 56, 57, 58, 59, 60, 61, 62, 63, 64, 65, 66, 67, 68, 69, 70, 71, 72, 73, 74, 75, 76, 77, 78, 79, 80, 81, 82, 83, 84, 85, 86, 87, 88, 89, 90, 91, 92, 93, 94, 95, 96]) (by decide +kernel)))
 (pss_cons (ps_set (i := 1) sc__law_sign.nd rfl (Or.inl rfl) (pe_op op_catT (pv 1) (pe_strS (l := [97, 98, 99, 100, 101, 102, 103, 104, 105, 106, 107, 108, 109, 110, 111, 112, 113, 114, 115, 116, 117, 118, 119, 120, 121, 122, 123, 124, 125, 126, 10, 9]) (by decide +kernel))))
 (pss_one (ps_ret (pe_ix ix_str (pv 1) (pe_op op_mod (pv 0) pe_int) (fun _ _ => rfl))))))), ?_⟩
    walk_at "tx"
    obtain ⟨j, hj, ej⟩ : ∃ j : Nat, j < 96 ∧ i % 96 = (j : Int) := ⟨(i % 96).toNat, by omega, by omega⟩
    obtain ⟨c, hc, hcl⟩ := signs_at j hj
    rw [ej]
    exact w_ixS (l := signsA ++ signsB) (by decide) (atI_nat hc) (k c hcl)
def spSpoilt : Sp := fun vs H Q _ => ∃ (l : List Nat) (kd pl k : Int), vs = [.str (S l), .int kd, .int pl, .int k] ∧ l.length ≤ 4500 ∧ (∀ c ∈ l, c < 1114112) ∧ ∀ m : List Nat, m.length ≤ 5000 → (∀ c ∈ m, c < 1114112) → Q (.str (S m)) H
theorem c_sign {k : Int} {H : Hp} {Q : VK} {E : XK} (h : ∀ c : Nat, c < 1114112 → Q (.str (S [c])) H) : spSign [.int k] H Q E := ⟨k, rfl, h⟩
theorem ok__law_spoilt (T : Tx K mg) : FnOk P w K mg base CX0 2 T.a__law_spoilt T.d__law_spoilt ["_law_text", "_law_kind", "_law_place", "_law_k"] spSpoilt := by
  refine T.F__law_spoilt.ok sc__law_spoilt (fun vs H Q E h => ?_) (fun cdv A outer s H vs Q E hr h => ?_)
  · obtain ⟨l, kd, pl, k, rfl, _⟩ := h
    rfl
  · obtain ⟨l, kd, pl, ks, rfl, hl, hc, k⟩ := h
    have G__law_sign : FnOk P w K mg base CX0 1 T.a__law_sign T.d__law_sign ["_law_k"] spSign := ok__law_sign T
    have hr__law_sign : Room 1 _ := hr
    refine ⟨_, ((pss_cons (ps_set (i := 4) sc__law_spoilt.nd rfl (Or.inl rfl) (pe_op op_mod (pv 2) (pe_op op_add (pe_callB call_lenT (by rfl) T.n_len PySem.boot_len (pa_cons (pv 0) pa_nil)) pe_int)))
 (pss_cons (ps_if (pt_cmpR op_eq (pv 1) pe_int (nomark _)) (pss_one (ps_ret (pv 0))) pss_nil)
 (pss_cons (ps_if (pt_cmpR op_eq (pv 1) pe_int (nomark _)) (pss_one (ps_ret (pe_op op_catT (pe_op op_catT (pe_slice C8.sl_txt (pv 0) po_none (po_some (pv 4))) (pe_call G__law_sign hr__law_sign rfl T.g__law_sign T.F__law_sign.kp T.b__law_sign .nil pass0 (pa_cons (pv 3) pa_nil))) (pe_slice C8.sl_txt (pv 0) (po_some (pv 4)) po_none)))) pss_nil)
 (pss_cons (ps_if (pt_cmpR op_eq (pv 1) pe_int (nomark _)) (pss_one (ps_ret (pe_op op_catT (pe_slice C8.sl_txt (pv 0) po_none (po_some (pv 4))) (pe_slice C8.sl_txt (pv 0) (po_some (pe_op op_add (pv 4) pe_int)) po_none)))) pss_nil)
 (pss_cons (ps_if (pt_cmpR op_eq (pv 1) pe_int (nomark _)) (pss_one (ps_ret (pe_op op_catT (pe_op op_catT (pe_slice C8.sl_txt (pv 0) po_none (po_some (pv 4))) (pe_call G__law_sign hr__law_sign rfl T.g__law_sign T.F__law_sign.kp T.b__law_sign .nil pass0 (pa_cons (pv 3) pa_nil))) (pe_slice C8.sl_txt (pv 0) (po_some (pe_op op_add (pv 4) pe_int)) po_none)))) pss_nil)
 (pss_one (ps_ret (pe_op op_catT (pe_op op_catT (pe_slice C8.sl_txt (pv 0) po_none (po_some (pv 4))) (pe_slice C8.sl_txt (pv 0) (po_some (pv 4)) (po_some (pe_op op_add (pv 4) pe_int)))) (pe_slice C8.sl_txt (pv 0) (po_some (pv 4)) po_none)))))))))), ?_⟩
    walk_at "tx"
    refine w_mod (by omega) ?_
    obtain ⟨j, hj, ej⟩ : ∃ j : Nat, j ≤ l.length ∧ pl % ((l.length : Int) + 1) = (j : Int) := by
      have h1 := Int.emod_nonneg pl (show ((l.length : Int) + 1) ≠ 0 by omega)
      have h2 := Int.emod_lt_of_pos pl (show (0 : Int) < (l.length : Int) + 1 by omega)
      exact ⟨(pl % ((l.length : Int) + 1)).toNat, by omega, by omega⟩
    rw [ej]
    have tk : ∀ c ∈ l.take j, c < 1114112 := fun c z => hc c (List.mem_of_mem_take z)
    have dr : ∀ i, ∀ c ∈ l.drop i, c < 1114112 := fun i c z => hc c (List.mem_of_mem_drop z)
    have n1 : ((j : Int)).toNat = j := by omega
    have n2 : ((j : Int) + 1).toNat = j + 1 := by omega
    have lt := List.length_take_le' j l
    have ld : ∀ i, (l.drop i).length ≤ l.length := fun i => by rw [List.length_drop]; omega
    walk_at "tx"
    refine i_dec (fun c => ?_) (fun c0 => ?_)
    · walk_at "tx"
      exact k l (by omega) hc
    walk_at "tx"
    refine i_dec (fun c => ?_) (fun c1 => ?_)
    · walk_at "tx"
      refine w_slTo (by omega) (by omega) ?_
      walk_at "tx"
      refine c_sign fun c hcc => ?_
      walk_at "tx"
      refine w_slFrom (by omega) (by omega) ?_
      rw [n1]
      have := ld j
      refine w_catT (by simp; omega) (k _ (by simp; omega) fun d hd => ?_)
      rcases List.mem_append.mp hd with h | h
      · rcases List.mem_append.mp h with h | h
        · exact tk d h
        · have : d = c := by simpa using h
          omega
      · exact dr _ d h
    walk_at "tx"
    refine i_dec (fun c => ?_) (fun c2 => ?_)
    · walk_at "tx"
      refine w_slTo (by omega) (by omega) ?_
      walk_at "tx"
      refine w_slFrom (by omega) (by omega) ?_
      rw [n1, n2]
      have := ld (j + 1)
      refine w_catT (by omega) (k _ (by simp; omega) fun d hd => ?_)
      rcases List.mem_append.mp hd with h | h
      · exact tk d h
      · exact dr _ d h
    walk_at "tx"
    refine i_dec (fun c => ?_) (fun c3 => ?_)
    · walk_at "tx"
      refine w_slTo (by omega) (by omega) ?_
      walk_at "tx"
      refine c_sign fun c hcc => ?_
      walk_at "tx"
      refine w_slFrom (by omega) (by omega) ?_
      rw [n1, n2]
      have := ld (j + 1)
      refine w_catT (by simp; omega) (k _ (by simp; omega) fun d hd => ?_)
      rcases List.mem_append.mp hd with h | h
      · rcases List.mem_append.mp h with h | h
        · exact tk d h
        · have : d = c := by simpa using h
          omega
      · exact dr _ d h
    walk_at "tx"
    refine w_slTo (by omega) (by omega) ?_
    walk_at "tx"
    refine w_slMid (i := j) (j := j + 1) rfl (by omega) (by omega) (by omega) ?_
    walk_at "tx"
    refine w_slFrom (by omega) (by omega) ?_
    rw [n1]
    have := ld j
    have lm : ((l.drop j).take (j + 1 - j)).length ≤ 1 := by
      have := List.length_take_le (j + 1 - j) (l.drop j)
      omega
    refine w_catT (by simp; omega) (k _ (by simp; omega) fun d hd => ?_)
    rcases List.mem_append.mp hd with h | h
    · rcases List.mem_append.mp h with h | h
      · exact tk d h
      · exact dr _ d (List.mem_of_mem_take h)
    · exact dr _ d h
end
end AT
namespace AT
open PySem PySem.Spec PyProof.Rows L2 SX
def nearA : List (List Nat) := [[], [45], [47], [45, 48], [43, 49], [48, 49], [49, 47, 49], [50, 47, 52], [49, 47, 45, 50], [32, 49], [49, 32], [49, 47, 48]]
def nearB : List (List Nat) := [[48, 47, 50], [49, 95, 48], [49, 47, 50, 47, 51], [45, 45, 49], [49, 47], [47, 50]]
def strV (l : List Nat) : V := .str (S l)
theorem near_at : ∀ j, j < 18 → ∃ m : List Nat, ((nearA ++ nearB).map strV)[j]? = some (.str (S m)) ∧ m.length ≤ 10 ∧ ∀ c ∈ m, c < 1114112 := fun j hj => by
  have h : ∀ j : Fin 18, ((nearA ++ nearB)[j.val]?.any fun m => decide (m.length ≤ 10) && m.all fun c => decide (c < 1114112)) = true := by decide +kernel
  have := h ⟨j, hj⟩
  cases e : (nearA ++ nearB)[j]? with
  | none => simp [e] at this
  | some m =>
    simp only [e, Option.any_some, Bool.and_eq_true, decide_eq_true_eq, List.all_eq_true] at this
    exact ⟨m, by rw [List.getElem?_map, e]; rfl, this.1, fun c hc => by simpa using this.2 c hc⟩
section
variable {P : Program} {w : World} {K : PySem.W.Frag} {mg : Str → Option Value} {base : Heap}
def spNear : Sp := fun vs H Q _ => ∃ k : Int, vs = [.int k] ∧ ∀ (m : List Nat) H', Ext H H' → m.length ≤ 10 → (∀ c ∈ m, c < 1114112) → Q (.str (S m)) H'
theorem ok__law_near (T : Tx K mg) : FnOk P w K mg base CX0 1 T.a__law_near T.d__law_near ["_law_k"] spNear := by
  refine T.F__law_near.ok sc__law_near (fun vs H Q E h => ?_) (fun cdv A outer s H vs Q E hr h => ?_)
  · obtain ⟨k, rfl, _⟩ := h
    rfl
  · obtain ⟨i, rfl, k⟩ := h
    refine ⟨_, ((pss_cons (ps_set (i := 1) sc__law_near.nd rfl (Or.inl rfl) (pe_lst (pa_cons (pe_strS (l := []) (by decide +kernel)) (pa_cons (pe_strS (l := [45]) (by decide +kernel)) (pa_cons (pe_strS (l := [47]) (by decide +kernel)) (pa_cons (pe_strS (l := [45, 48]) (by decide +kernel)) (pa_cons (pe_strS (l := [43, 49]) (by decide +kernel)) (pa_cons (pe_strS (l := [48, 49]) (by decide +kernel)) (pa_cons (pe_strS (l := [49, 47, 49]) (by decide +kernel)) (pa_cons (pe_strS (l := [50, 47, 52]) (by decide +kernel)) (pa_cons (pe_strS (l := [49, 47, 45, 50]) (by decide +kernel)) (pa_cons (pe_strS (l := [32, 49]) (by decide +kernel)) (pa_cons (pe_strS (l := [49, 32]) (by decide +kernel)) (pa_cons (pe_strS (l := [49, 47, 48]) (by decide +kernel)) pa_nil))))))))))))))
 (pss_cons (ps_set (i := 1) sc__law_near.nd rfl (Or.inl rfl) (pe_op op_cat (pv 1) (pe_lst (pa_cons (pe_strS (l := [48, 47, 50]) (by decide +kernel)) (pa_cons (pe_strS (l := [49, 95, 48]) (by decide +kernel)) (pa_cons (pe_strS (l := [49, 47, 50, 47, 51]) (by decide +kernel)) (pa_cons (pe_strS (l := [45, 45, 49]) (by decide +kernel)) (pa_cons (pe_strS (l := [49, 47]) (by decide +kernel)) (pa_cons (pe_strS (l := [47, 50]) (by decide +kernel)) pa_nil)))))))))
 (pss_one (ps_ret (pe_ix ix_list (pv 1) (pe_op op_mod (pv 0) pe_int) (fun _ _ => rfl))))))), ?_⟩
    walk_at "tx"
    refine n_lst (by show 12 ≤ 100000; decide) fun p1 H1 _ e1 u1 => ?_
    walk_at "tx"
    refine n_lst (by show 6 ≤ 100000; decide) fun p2 H2 _ e2 u2 => ?_
    have u1' := e2 _ _ u1
    refine ⟨p1, p2, nearA.map strV, nearB.map strV, rfl, rfl, u1', u2, by rw [sizeLine_eq]; decide, fun p3 n3 => ?_⟩
    have e3 : Ext H2 (upd H2 p3 (.lst (nearA.map strV ++ nearB.map strV))) := Ext.new n3
    have u3 : (upd H2 p3 (.lst (nearA.map strV ++ nearB.map strV))) p3 = some (.lst (nearA.map strV ++ nearB.map strV)) := upd_same
    generalize upd H2 p3 (.lst (nearA.map strV ++ nearB.map strV)) = H3 at e3 u3
    rw [← List.map_append] at u3
    walk_at "tx"
    obtain ⟨j, hj, ej⟩ : ∃ j : Nat, j < 18 ∧ i % 18 = (j : Int) := ⟨(i % 18).toNat, by omega, by omega⟩
    obtain ⟨m, hm, lm, cm⟩ := near_at j hj
    rw [ej]
    exact w_ixL (SqL.of u3) (atI_nat hm) (k m H3 ((e1.t e2).t e3) lm cm)
theorem c_printed {v : V} {q : Rat} {H : Hp} {Q : VK} {E : XK} (m : PrQ K H v q) (bn : Bn 300 q.num) (bd : Bn 300 (q.den : Int)) (k : Q (.str (S (prt q))) H) : spPrinted K [v] H Q E := ⟨v, q, rfl, m, bn, bd, k⟩
theorem c_spoilt {l : List Nat} {kd pl ks : Int} {H : Hp} {Q : VK} {E : XK} (hl : l.length ≤ 4500) (hc : ∀ c ∈ l, c < 1114112) (k : ∀ m : List Nat, m.length ≤ 5000 → (∀ c ∈ m, c < 1114112) → Q (.str (S m)) H) : spSpoilt [.str (S l), .int kd, .int pl, .int ks] H Q E := ⟨l, kd, pl, ks, rfl, hl, hc, k⟩
theorem c_near {i : Int} {H : Hp} {Q : VK} {E : XK} (k : ∀ (m : List Nat) H', Ext H H' → m.length ≤ 10 → (∀ c ∈ m, c < 1114112) → Q (.str (S m)) H') : spNear [.int i] H Q E := ⟨i, rfl, k⟩
theorem c_written {l : List Nat} {H : Hp} {Q : VK} {E : XK} (hl : l.length ≤ 5000) (hc : ∀ c ∈ l, c < 1114112) (k : ∀ H' (b : Bool), Ext H H' → (b = true ↔ ∃ t b, MomVal l t b) → Q (.bl b) H') : spWritten [.str (S l)] H Q E := ⟨l, rfl, hl, hc, k⟩
theorem c_rowE {c : Int} {l : Addr} {ss : List Int} {H : Hp} {Q : VK} {E : XK} (hl : SqL K H l (ss.map V.int)) (hz : ss.length ≤ 63) (hs : ∀ s ∈ ss, 0 < s ∧ s < 1073741824)
    (h : ∀ p ns H', Ext H H' → SqL K H' p (ns.map V.int) → RowOk ss ns → Q (.ref p) H') : spRow K [.int c, .ref l] H Q E := c_row hl hz hs fun p ns n r => h p ns _ (Ext.new n) (SqL.of upd_same) r
theorem r_str {C : Addr} {v : V} {q : Rat} {H : Hp} {Q : VK} {E : XK} (m : Mo C H v q) (bn : Bn 300 q.num) (bd : Bn 300 (q.den : Int)) (k : Q (.str (S (prt q))) H) : rOwnS C (spStr C) E [v] H Q := by
  obtain ⟨a, dx, rfl, z⟩ := id m
  exact ⟨a, dx, _, rfl, z, _, q, rfl, m, bn, bd, _, rfl, k⟩
def spLaw (K : PySem.W.Frag) : Sp := fun vs H Q _ => ∃ (a : Addr) (ns : List Int), vs = [.ref a] ∧ SqL K H a (ns.map V.int) ∧ ns.length ≤ 63 ∧ ∀ H', Q (.bl true) H'
theorem ok_law (T : Tx K mg) : FnOk P w K mg base CX0 10 T.a_law T.d_law ["_law_script"] (spLaw K) := by
  refine T.F_law.ok sc_law (fun vs H Q E h => ?_) (fun cdv A outer s H vs Q E hr h => ?_)
  · obtain ⟨a, ns, rfl, _⟩ := h
    rfl
  · obtain ⟨a, ns, rfl, l, hz, q⟩ := h
    have G__law_cell : FnOk P w K mg base CX0 1 T.a__law_cell T.d__law_cell ["_law_script", "_law_k"] (spCell K) := ok__law_cell T
    have G__law_row : FnOk P w K mg base CX0 1 T.a__law_row T.d__law_row ["_law_cell_here", "_law_sizes"] (spRow K) := ok__law_row T
    have G__law_ratio : FnOk P w K mg base CX0 2 T.a__law_ratio T.d__law_ratio ["_law_a", "_law_b", "_law_most"] spRatio := ok__law_ratio T
    have G__law_low : FnOk P w K mg base CX0 2 T.a__law_low T.d__law_low ["_law_top", "_law_bottom"] (spLow K) := ok__law_low T
    have G__law_printed : FnOk P w K mg base CX0 1 T.a__law_printed T.d__law_printed ["_law_pair"] (spPrinted K) := ok__law_printed T
    have G__law_spoilt : FnOk P w K mg base CX0 2 T.a__law_spoilt T.d__law_spoilt ["_law_text", "_law_kind", "_law_place", "_law_k"] spSpoilt := ok__law_spoilt T
    have G__law_near : FnOk P w K mg base CX0 1 T.a__law_near T.d__law_near ["_law_k"] spNear := ok__law_near T
    have G__law_is_written : FnOk P w K mg base CX0 3 T.a__law_is_written T.d__law_is_written ["_law_text"] spWritten := ok__law_is_written T
    have G__law_holds : FnOk P w K mg base CX0 2 T.a__law_holds T.d__law_holds ["_law_actual", "_law_top", "_law_bottom"] (spHolds T.C_Moment) := ok__law_holds T
    have G_Moment___init__ : FnOk P w K mg base (L2.CX P w) 3 T.a_Moment___init__ T.d_Moment___init__ ["self", "top", "bottom"] (spMom T.C_Moment T.C_NoMoment) := ok_Moment___init__ T
    have G_Moment_read : FnOk P w K mg base (L2.CX P w) 6 T.a_Moment_read T.d_Moment_read ["text"] (spRead T.C_Moment T.C_NoText) := ok_Moment_read T
    have G_str : FnOk P w K mg base CX0 1 T.a_Moment___str__ T.d_Moment___str__ ["self"] (spStr T.C_Moment) := ok_Moment___str__ T
    obtain ⟨ds3, V3_Moment___init__, B3_Moment___init__⟩ := mom_binds3 T
    have hr1 : Room 1 _ := hr.mono (by decide : 1 ≤ 9)
    have hr2 : Room 2 _ := hr.mono (by decide : 2 ≤ 9)
    have hr_str : Room (1 + 2) _ := hr.mono (by decide : 3 ≤ 9)
    have hr__law_cell := hr1
    have hr__law_row := hr1
    have hr__law_printed := hr1
    have hr__law_near := hr1
    have hr__law_ratio := hr2
    have hr__law_low := hr2
    have hr__law_spoilt := hr2
    have hr__law_holds := hr2
    have hr__law_is_written : Room 3 _ := hr.mono (by decide : 3 ≤ 9)
    have hr_Moment___init__ : Room 4 _ := hr.mono (by decide : 4 ≤ 9)
    have hr_Moment_read : Room 6 _ := hr.mono (by decide : 6 ≤ 9)
    refine ⟨_, ((pss_cons (ps_set (i := 1) sc_law.nd rfl (Or.inl rfl) (pe_call G__law_row hr__law_row rfl T.g__law_row T.F__law_row.kp T.b__law_row .nil pass0 (pa_cons (pe_call G__law_cell hr__law_cell rfl T.g__law_cell T.F__law_cell.kp T.b__law_cell .nil pass0 (pa_cons (pv 0) (pa_cons pe_int pa_nil))) (pa_cons (pe_lst (pa_cons pe_int (pa_cons pe_int (pa_cons pe_int (pa_cons pe_int (pa_cons pe_int pa_nil)))))) pa_nil))))
 (pss_cons (ps_set (i := 2) sc_law.nd rfl (Or.inl rfl) (pe_call G__law_ratio hr__law_ratio rfl T.g__law_ratio T.F__law_ratio.kp T.b__law_ratio .nil pass0 (pa_cons (pe_call G__law_cell hr__law_cell rfl T.g__law_cell T.F__law_cell.kp T.b__law_cell .nil pass0 (pa_cons (pv 0) (pa_cons pe_int pa_nil))) (pa_cons (pe_call G__law_cell hr__law_cell rfl T.g__law_cell T.F__law_cell.kp T.b__law_cell .nil pass0 (pa_cons (pv 0) (pa_cons pe_int pa_nil))) (pa_cons (pe_op op_pow pe_int pe_int) pa_nil)))))
 (Evl.pss_cut (ps_if (pt_cmpR op_lt (pe_ix ix_tup (pv 2) pe_int (fun _ _ => rfl)) pe_int (nomark _)) (pss_one (ps_set (i := 2) sc_law.nd rfl (Or.inl rfl) (pe_tup (pa_cons (pe_un un_neg (pe_ix ix_tup (pv 2) pe_int (fun _ _ => rfl))) (pa_cons (pe_un un_neg (pe_ix ix_tup (pv 2) pe_int (fun _ _ => rfl))) pa_nil))))) pss_nil)
 (pss_cons (ps_set (i := 2) sc_law.nd rfl (Or.inl rfl) (pe_call G__law_low hr__law_low rfl T.g__law_low T.F__law_low.kp T.b__law_low .nil pass0 (pa_cons (pe_ix ix_tup (pv 2) pe_int (fun _ _ => rfl)) (pa_cons (pe_ix ix_tup (pv 2) pe_int (fun _ _ => rfl)) pa_nil))))
 (pss_cons (ps_set (i := 3) sc_law.nd rfl (Or.inl rfl) (pe_call G__law_printed hr__law_printed rfl T.g__law_printed T.F__law_printed.kp T.b__law_printed .nil pass0 (pa_cons (pv 2) pa_nil)))
 (pss_cons (ps_if (pt_cmpR op_ne (pe_callTy (call_strOwn T.m_Moment___str__ G_str hr_str T.b_Moment___str__ pass0) (by rfl) T.n_str boot_str (pa_cons (pe_makeR T.M_Moment G_Moment___init__ hr_Moment___init__ rfl T.g_Moment B3_Moment___init__ V3_Moment___init__ passL (pa_cons (pe_ix ix_tup (pv 2) pe_int (fun _ _ => rfl)) (pa_cons (pe_ix ix_tup (pv 2) pe_int (fun _ _ => rfl)) pa_nil))) pa_nil)) (pv 3) (nomark _)) (pss_one (ps_ret pe_bl)) pss_nil)
 (pss_cons (ps_set (i := 3) sc_law.nd rfl (Or.inl rfl) (pe_call G__law_spoilt hr__law_spoilt rfl T.g__law_spoilt T.F__law_spoilt.kp T.b__law_spoilt .nil pass0 (pa_cons (pv 3) (pa_cons (pe_ix ix_list (pv 1) pe_int (fun _ _ => rfl)) (pa_cons (pe_ix ix_list (pv 1) pe_int (fun _ _ => rfl)) (pa_cons (pe_ix ix_list (pv 1) pe_int (fun _ _ => rfl)) pa_nil))))))
 (Evl.pss_cut (ps_if (pt_cmpR op_eq (pe_ix ix_list (pv 1) pe_int (fun _ _ => rfl)) pe_int (nomark _)) (pss_one (ps_set (i := 3) sc_law.nd rfl (Or.inl rfl) (pe_call G__law_near hr__law_near rfl T.g__law_near T.F__law_near.kp T.b__law_near .nil pass0 (pa_cons (pe_ix ix_list (pv 1) pe_int (fun _ _ => rfl)) pa_nil)))) pss_nil)
 (pss_cons (ps_set (i := 4) sc_law.nd rfl (Or.inl rfl) pe_non)
 (pss_cons (ps_set (i := 5) sc_law.nd rfl (Or.inl rfl) pe_non)
 (pss_cons (ps_try_as (i := 6) rfl rfl sc_law.nd rfl rfl ⟨rfl, by decide, Or.inl T.g_NoText⟩ takes0 (fun W pn xe tk _ => (pss_one (ps_set (i := 4) sc_law.nd rfl (Or.inl rfl) (pe_smethA G_Moment_read hr_Moment_read T.sm_Moment_read T.F_Moment_read.kp T.b_Moment_read (fun σ => passAt tk σ) rfl T.g_Moment (pa_cons (pv 3) pa_nil))))) (fun a oe cls d pn hz hf => (pss_one (ps_set (i := 5) sc_law.nd rfl (Or.inl rfl) (pe_lst (pa_cons (pe_xf T.xf_NoText T.na_NoText_text hz hf (pv 6)) pa_nil))))))
 (pss_cons (ps_if (pt_not (pt_val (pe_call G__law_is_written hr__law_is_written rfl T.g__law_is_written T.F__law_is_written.kp T.b__law_is_written .nil pass0 (pa_cons (pv 3) pa_nil)))) (pss_one (ps_ret (pe_cmpR (op_eqD hr1.units) (pv 5) (pe_lst (pa_cons (pv 3) pa_nil)) (nomark _)))) pss_nil)
 (pss_cons (ps_if (pt_cmpR op_notN1 (pv 5) pe_non (nomark _)) (pss_one (ps_ret pe_bl)) pss_nil)
 (pss_cons (ps_set (i := 7) sc_law.nd rfl (Or.inl rfl) (pe_m1 PySem.F.slot_str_find PySem.F.type_str_find mt_findN (pv 3) (pe_strS (l := [47]) (by decide +kernel))))
 (pss_cons (ps_if (pt_cmpR op_lt (pv 7) pe_int (nomark _)) (pss_one (ps_ret (pe_call G__law_holds hr__law_holds rfl T.g__law_holds T.F__law_holds.kp T.b__law_holds .nil pass0 (pa_cons (pv 4) (pa_cons (pe_callTy call_intT (by rfl) T.n_int boot_int (pa_cons (pv 3) pa_nil)) (pa_cons pe_int pa_nil)))))) pss_nil)
 (pss_one (ps_ret (pe_call G__law_holds hr__law_holds rfl T.g__law_holds T.F__law_holds.kp T.b__law_holds .nil pass0 (pa_cons (pv 4) (pa_cons (pe_callTy call_intT (by rfl) T.n_int boot_int (pa_cons (pe_slice C8.sl_txt (pv 3) po_none (po_some (pv 7))) pa_nil)) (pa_cons (pe_callTy call_intT (by rfl) T.n_int boot_int (pa_cons (pe_slice C8.sl_txt (pv 3) (po_some (pe_op op_add (pv 7) pe_int)) po_none) pa_nil)) pa_nil)))))))))))))))))))))), ?_⟩
    walk_at "tx"
    refine c_cell l (by decide) fun c2 => ?_
    walk_at "tx"
    refine n_lst (by decide) fun p1 H1 _ e1 u1 => ?_
    walk_at "tx"
    refine c_rowE (ss := [5, 130, 96, 6, 18]) (SqL.of u1) (by decide) (by decide) fun r0 rows H2 e2 uR rk => ?_
    obtain ⟨k0, r1, rfl, a0, b0, rk⟩ := rk.cons
    obtain ⟨k1, r1, rfl, a1, b1, rk⟩ := rk.cons
    obtain ⟨k2, r1, rfl, a2, b2, rk⟩ := rk.cons
    obtain ⟨k3, r1, rfl, a3, b3, rk⟩ := rk.cons
    obtain ⟨k4, rfl, a4, b4⟩ := rk.one
    change SqL K H2 r0 [.int k0, .int k1, .int k2, .int k3, .int k4] at uR
    have l2 : SqL K H2 a (ns.map V.int) := e2.seq (e1.seq l)
    clear e1 e2 u1 l
    walk_at "tx"
    refine c_cell l2 (by decide) fun c0 => ?_
    walk_at "tx"
    refine c_cell l2 (by decide) fun c1 => ?_
    walk_at "tx"
    refine c_ratio (by decide +kernel) (by decide +kernel) fun t d p3 n3 ta tb da db d0 => ?_
    have e3 : Ext H2 (upd H2 p3 (.tup [.int t, .int d])) := Ext.new n3
    have u3 : SqT K (upd H2 p3 (.tup [.int t, .int d])) p3 [.int t, .int d] := SqT.of upd_same
    generalize upd H2 p3 (.tup [.int t, .int d]) = H3 at e3 u3
    have uR := e3.seq uR
    clear l2 e3 n3
    have bt : Bn 290 t := bn_of (by decide +kernel) ta tb
    have bd : Bn 290 d := bn_of (by decide +kernel) da db
    clear ta tb da db
    walk_at "tx"
    refine ⟨fun σ H' => Ext H3 H' ∧ ∃ (p : Addr) (t d : Int), σ = [some (.ref a), some (.ref r0), some (.ref p), none, none, none, none, none] ∧ SqT K H' p [.int t, .int d] ∧ Bn 290 t ∧ Bn 290 d ∧ 0 < d, ?_, ?_⟩
    · walk_at "tx"
      refine i_dec (fun c => ?_) (fun c => ?_)
      · walk_at "tx"
        refine n_tup (by show 2 ≤ 100000; decide) fun p4 H4 _ e4 u4 => ?_
        walk_at "tx"
        exact ⟨e4, p4, -t, -d, rfl, SqT.of u4, bt.neg, bd.neg, by omega⟩
      · walk_at "tx"
        exact ⟨fun _ _ e => e, p3, t, d, rfl, u3, bt, bd, by omega⟩
    clear u3 bt bd d0
    rintro σ H4 ⟨e4, p, t, d, rfl, u4, bt, bd, d0⟩
    have uR := e4.seq uR
    clear e4
    walk_at "tx"
    refine c_low d0 (bt.mono (by decide)) (bd.mono (by decide)) fun p5 H5 e5 m5 => ?_
    have hne : d ≠ 0 := by omega
    have sq : Sm 290 (Rat.divInt t d) := sm_div hne bt bd
    generalize Rat.divInt t d = qq at m5 sq
    have uR := e5.seq uR
    clear u4 e5
    walk_at "tx"
    refine c_printed m5 (sq.num.mono (by decide)) (sq.den.mono (by decide)) ?_
    have hpl := prt_len (sq.num.mono (show 290 ≤ 300 by decide)) (sq.den.mono (show 290 ≤ 300 by decide))
    obtain ⟨p5', e5', u5⟩ := m5
    cases e5'
    walk_at "tx"
    refine w_mom rfl (sq.num.mono (by decide)) (sq.den.mono (by decide)) (dne qq) fun p6 H6 e6 m6 => ?_
    rw [← qd] at m6
    have uR := e6.seq uR
    walk_at "tx"
    refine r_str m6 (sq.num.mono (by decide)) (sq.den.mono (by decide)) ?_
    walk_at "tx"
    refine i_ndec (fun _ => ?_) (fun z => absurd rfl z)
    walk_at "tx"
    refine c_spoilt (by omega) prt_ch fun m lm cm => ?_
    walk_at "tx"
    refine ⟨fun σ H' => ∃ m : List Nat, σ = [some (.ref a), some (.ref r0), some (.ref p5), some (.str (S m)), none, none, none, none] ∧ m.length ≤ 5000 ∧ ∀ c ∈ m, c < 1114112, ?_, ?_⟩
    · walk_at "tx"
      refine i_dec (fun c => ?_) (fun c => ?_)
      · walk_at "tx"
        refine c_near fun m2 H7 e7 l2 c2 => ?_
        walk_at "tx"
        exact ⟨m2, rfl, by omega, c2⟩
      · walk_at "tx"
        exact ⟨m, rfl, lm, cm⟩
    clear lm cm hpl u5 m6 uR sq e6
    rintro σ H7 ⟨m, rfl, lm, cm⟩
    walk_at "tx"
    refine ⟨m, rfl, lm, fun t b mv bt bb b0 p H8 e8 mo => ?_, fun n d H8 nd e8 hd => ⟨true, T.em_NoText, fun _ ae nae => ?_, fun z => nomatch z⟩⟩
    · walk_at "tx"
      refine c_written lm cm fun H9 b' e9 hb => ?_
      have := hb.mpr ⟨t, b, mv⟩
      subst this
      have mo := mo.up e9
      walk_at "tx"
      refine w_strZ ?_
      walk_at "tx"
      have sm : Sm 8000 (Rat.divInt t b) := (sm_div b0 bt bb).mono (by decide)
      rcases mv with ⟨h47, ok, en, rfl⟩ | ⟨p', r', rfl, h1, h2, o1, o2, i1, i2, hb2, hg⟩
      · refine w_find_no h47 ?_
        walk_at "tx"
        obtain ⟨l61, _⟩ := ok.int
        refine w_intT en (by omega) ?_
        walk_at "tx"
        exact c_holds mo sm (bt.mono (by decide)) (by decide) (cross b0) (q _)
      · refine w_find_at h1 ?_
        walk_at "tx"
        obtain ⟨l1, _⟩ := o1.int
        obtain ⟨l2, _⟩ := o2.int
        refine w_slTo (by omega) (by omega) ?_
        rw [take_at]
        walk_at "tx"
        refine w_intT i1 (by omega) ?_
        walk_at "tx"
        refine w_slFrom (by omega) (by omega) ?_
        rw [drop_at rfl]
        walk_at "tx"
        refine w_intT i2 (by omega) ?_
        walk_at "tx"
        exact c_holds mo sm (bt.mono (by decide)) (bb.mono (by decide)) (cross b0) (q _)
    · walk_at "tx"
      refine n_xf hd lk_1 ?_
      walk_at "tx"
      refine n_lst (by show 1 ≤ 100000; decide) fun p9 H9 _ e9 u9 => ?_
      walk_at "tx"
      refine c_written lm cm fun H10 b' e10 hb => ?_
      have hb' : b' = false := by
        cases b' with
        | false => rfl
        | true => exact absurd (hb.mp rfl) n
      subst hb'
      walk_at "tx"
      refine n_lst (by show 1 ≤ 100000; decide) fun p11 H11 _ e11 u11 => ?_
      have sh : SeqAt.shaped (.list [.str (S m)]) = true := by
        have : PyData.strOk (S m) = true := by simpa [PyData.strOk] using cm
        simp [SeqAt.shaped, PyData.canLay0, PyData.canLayAll0, PyData.depth, PyData.depthAll, this]
      refine n_eqD (.lst (SqL.of (e11 _ _ (e10 _ _ u9))) (.cons (.str (S m)) .nil)) (.lst (SqL.of u11) (.cons (.str (S m)) .nil)) sh sh ?_
      rw [show PyData.eqv (.list [.str (S m)]) (.list [.str (S m)]) = true from by simp [PyData.eqv, PyData.eqvAll]]
      exact q _
end
end AT
namespace AT
open PySem L2
theorem all_mk {K : PySem.W.Frag} {h : Heap} {mg : Str → Option Value} {fa : Addr} (X : K.In h) (G : h.Ns mainGlobals mg) (hfa : mg "law" = some (.ref fa))
    {C_AnytuneError : Addr}
    {C_NoMoment : Addr}
    {C_NoText : Addr}
    {C_Moment : Addr}
    {a_NoMoment___init__ : Addr} {oc_NoMoment___init__ kV_NoMoment___init__ dc_NoMoment___init__ pm_NoMoment___init__ cd_NoMoment___init__ ct_NoMoment___init__ : Value} {od_NoMoment___init__ an_NoMoment___init__ : Option Addr} {sl_NoMoment___init__ : Array (Option Value)}
    {a_NoText___init__ : Addr} {oc_NoText___init__ kV_NoText___init__ dc_NoText___init__ pm_NoText___init__ cd_NoText___init__ ct_NoText___init__ : Value} {od_NoText___init__ an_NoText___init__ : Option Addr} {sl_NoText___init__ : Array (Option Value)}
    {a_common : Addr} {oc_common kV_common dc_common pm_common cd_common ct_common : Value} {od_common an_common : Option Addr} {sl_common : Array (Option Value)}
    {a_Moment___init__ : Addr} {oc_Moment___init__ kV_Moment___init__ dc_Moment___init__ pm_Moment___init__ cd_Moment___init__ ct_Moment___init__ : Value} {od_Moment___init__ an_Moment___init__ : Option Addr} {sl_Moment___init__ : Array (Option Value)}
    {td_Moment___init__ : Addr} {to_Moment___init__ : Obj} {ti_Moment___init__ : List Value} {tn_Moment___init__ : Nat}
    {a_Moment___str__ : Addr} {oc_Moment___str__ kV_Moment___str__ dc_Moment___str__ pm_Moment___str__ cd_Moment___str__ ct_Moment___str__ : Value} {od_Moment___str__ an_Moment___str__ : Option Addr} {sl_Moment___str__ : Array (Option Value)}
    {a_Moment_read : Addr} {oc_Moment_read kV_Moment_read dc_Moment_read pm_Moment_read cd_Moment_read ct_Moment_read : Value} {od_Moment_read an_Moment_read : Option Addr} {sl_Moment_read : Array (Option Value)}
    {sp_Moment_read : Addr} {sr_Moment_read : List Value}
    {a_whole_in : Addr} {oc_whole_in kV_whole_in dc_whole_in pm_whole_in cd_whole_in ct_whole_in : Value} {od_whole_in an_whole_in : Option Addr} {sl_whole_in : Array (Option Value)}
    {a_moment_in : Addr} {oc_moment_in kV_moment_in dc_moment_in pm_moment_in cd_moment_in ct_moment_in : Value} {od_moment_in an_moment_in : Option Addr} {sl_moment_in : Array (Option Value)}
    {a__law_cell : Addr} {oc__law_cell kV__law_cell dc__law_cell pm__law_cell cd__law_cell ct__law_cell : Value} {od__law_cell an__law_cell : Option Addr} {sl__law_cell : Array (Option Value)}
    {a__law_row : Addr} {oc__law_row kV__law_row dc__law_row pm__law_row cd__law_row ct__law_row : Value} {od__law_row an__law_row : Option Addr} {sl__law_row : Array (Option Value)}
    {a__law_whole : Addr} {oc__law_whole kV__law_whole dc__law_whole pm__law_whole cd__law_whole ct__law_whole : Value} {od__law_whole an__law_whole : Option Addr} {sl__law_whole : Array (Option Value)}
    {a__law_ratio : Addr} {oc__law_ratio kV__law_ratio dc__law_ratio pm__law_ratio cd__law_ratio ct__law_ratio : Value} {od__law_ratio an__law_ratio : Option Addr} {sl__law_ratio : Array (Option Value)}
    {a__law_gcd : Addr} {oc__law_gcd kV__law_gcd dc__law_gcd pm__law_gcd cd__law_gcd ct__law_gcd : Value} {od__law_gcd an__law_gcd : Option Addr} {sl__law_gcd : Array (Option Value)}
    {a__law_is_int : Addr} {oc__law_is_int kV__law_is_int dc__law_is_int pm__law_is_int cd__law_is_int ct__law_is_int : Value} {od__law_is_int an__law_is_int : Option Addr} {sl__law_is_int : Array (Option Value)}
    {a__law_holds : Addr} {oc__law_holds kV__law_holds dc__law_holds pm__law_holds cd__law_holds ct__law_holds : Value} {od__law_holds an__law_holds : Option Addr} {sl__law_holds : Array (Option Value)}
    {a__law_is_number : Addr} {oc__law_is_number kV__law_is_number dc__law_is_number pm__law_is_number cd__law_is_number ct__law_is_number : Value} {od__law_is_number an__law_is_number : Option Addr} {sl__law_is_number : Array (Option Value)}
    {a__law_is_written : Addr} {oc__law_is_written kV__law_is_written dc__law_is_written pm__law_is_written cd__law_is_written ct__law_is_written : Value} {od__law_is_written an__law_is_written : Option Addr} {sl__law_is_written : Array (Option Value)}
    {a__law_low : Addr} {oc__law_low kV__law_low dc__law_low pm__law_low cd__law_low ct__law_low : Value} {od__law_low an__law_low : Option Addr} {sl__law_low : Array (Option Value)}
    {a__law_printed : Addr} {oc__law_printed kV__law_printed dc__law_printed pm__law_printed cd__law_printed ct__law_printed : Value} {od__law_printed an__law_printed : Option Addr} {sl__law_printed : Array (Option Value)}
    {a__law_sign : Addr} {oc__law_sign kV__law_sign dc__law_sign pm__law_sign cd__law_sign ct__law_sign : Value} {od__law_sign an__law_sign : Option Addr} {sl__law_sign : Array (Option Value)}
    {a__law_spoilt : Addr} {oc__law_spoilt kV__law_spoilt dc__law_spoilt pm__law_spoilt cd__law_spoilt ct__law_spoilt : Value} {od__law_spoilt an__law_spoilt : Option Addr} {sl__law_spoilt : Array (Option Value)}
    {a__law_near : Addr} {oc__law_near kV__law_near dc__law_near pm__law_near cd__law_near ct__law_near : Value} {od__law_near an__law_near : Option Addr} {sl__law_near : Array (Option Value)}
    {a_law : Addr} {oc_law kV_law dc_law pm_law cd_law ct_law : Value} {od_law an_law : Option Addr} {sl_law : Array (Option Value)}
    {nm_NoMoment q_NoMoment : Str} {N_NoMoment : Addr} {bs_NoMoment bm_NoMoment : List Value} {sn_NoMoment : List Str} {sub_NoMoment : List Value} {ab_NoMoment : Bool} {col_NoMoment : Option Bool} {dd_NoMoment : Option Addr} {k0_NoMoment k1_NoMoment k2_NoMoment k3_NoMoment k5_NoMoment : Option Value}
    {nm_NoText q_NoText : Str} {N_NoText : Addr} {bs_NoText bm_NoText : List Value} {sn_NoText : List Str} {sub_NoText : List Value} {ab_NoText : Bool} {col_NoText : Option Bool} {dd_NoText : Option Addr} {k0_NoText k1_NoText k2_NoText k3_NoText k5_NoText : Option Value}
    {u_DIGITS : Value}
    {u_MOST_DIGITS : Value}
    (g_AnytuneError : PySem.W.nsIn K mainGlobals "AnytuneError" = some (some (.ref C_AnytuneError)))
    (g_NoMoment : PySem.W.nsIn K mainGlobals "NoMoment" = some (some (.ref C_NoMoment)))
    (g_NoText : PySem.W.nsIn K mainGlobals "NoText" = some (some (.ref C_NoText)))
    (g_Moment : PySem.W.nsIn K mainGlobals "Moment" = some (some (.ref C_Moment)))
    (x_NoMoment___init__ : PySem.W.findIn K (.ref C_NoMoment) "__init__" = some (some (.ref a_NoMoment___init__)))
    (l_NoMoment___init__ : K.lookup a_NoMoment___init__ = some ⟨oc_NoMoment___init__, od_NoMoment___init__, .func (PySem.W.fnOf "__init__" "NoMoment.__init__" (defArgs s_NoMoment___init__) (defBody s_NoMoment___init__) (defScope s_NoMoment___init__) .none kV_NoMoment___init__ dc_NoMoment___init__ pm_NoMoment___init__ an_NoMoment___init__ cd_NoMoment___init__ ct_NoMoment___init__), sl_NoMoment___init__⟩)
    (c_NoMoment___init__ : PySem.W.codeIn K cd_NoMoment___init__ "NoMoment.__init__" = true)
    (p_NoMoment___init__ : PySem.W.keepIn K (.ref a_NoMoment___init__) = true)
    (f_NoMoment___init__ : PySem.W.isFn K (.ref a_NoMoment___init__) = true)
    (x_NoText___init__ : PySem.W.findIn K (.ref C_NoText) "__init__" = some (some (.ref a_NoText___init__)))
    (l_NoText___init__ : K.lookup a_NoText___init__ = some ⟨oc_NoText___init__, od_NoText___init__, .func (PySem.W.fnOf "__init__" "NoText.__init__" (defArgs s_NoText___init__) (defBody s_NoText___init__) (defScope s_NoText___init__) .none kV_NoText___init__ dc_NoText___init__ pm_NoText___init__ an_NoText___init__ cd_NoText___init__ ct_NoText___init__), sl_NoText___init__⟩)
    (c_NoText___init__ : PySem.W.codeIn K cd_NoText___init__ "NoText.__init__" = true)
    (p_NoText___init__ : PySem.W.keepIn K (.ref a_NoText___init__) = true)
    (f_NoText___init__ : PySem.W.isFn K (.ref a_NoText___init__) = true)
    (g_common : PySem.W.nsIn K mainGlobals "common" = some (some (.ref a_common)))
    (l_common : K.lookup a_common = some ⟨oc_common, od_common, .func (PySem.W.fnOf "common" "common" (defArgs s_common) (defBody s_common) (defScope s_common) .none kV_common dc_common pm_common an_common cd_common ct_common), sl_common⟩)
    (c_common : PySem.W.codeIn K cd_common "common" = true)
    (p_common : PySem.W.keepIn K (.ref a_common) = true)
    (x_Moment___init__ : PySem.W.findIn K (.ref C_Moment) "__init__" = some (some (.ref a_Moment___init__)))
    (l_Moment___init__ : K.lookup a_Moment___init__ = some ⟨oc_Moment___init__, od_Moment___init__, .func (PySem.W.fnOf "__init__" "Moment.__init__" (defArgs s_Moment___init__) (defBody s_Moment___init__) (defScope s_Moment___init__) (.ref td_Moment___init__) kV_Moment___init__ dc_Moment___init__ pm_Moment___init__ an_Moment___init__ cd_Moment___init__ ct_Moment___init__), sl_Moment___init__⟩)
    (c_Moment___init__ : PySem.W.codeIn K cd_Moment___init__ "Moment.__init__" = true)
    (p_Moment___init__ : PySem.W.keepIn K (.ref a_Moment___init__) = true)
    (f_Moment___init__ : PySem.W.isFn K (.ref a_Moment___init__) = true)
    (t_Moment___init__ : K.lookup td_Moment___init__ = some to_Moment___init__)
    (u_Moment___init__ : to_Moment___init__.data = .seq ti_Moment___init__.toArray tn_Moment___init__) (v_Moment___init__ : Vals [.int 1] ti_Moment___init__)
    (x_Moment___str__ : PySem.W.findIn K (.ref C_Moment) "__str__" = some (some (.ref a_Moment___str__)))
    (l_Moment___str__ : K.lookup a_Moment___str__ = some ⟨oc_Moment___str__, od_Moment___str__, .func (PySem.W.fnOf "__str__" "Moment.__str__" (defArgs s_Moment___str__) (defBody s_Moment___str__) (defScope s_Moment___str__) .none kV_Moment___str__ dc_Moment___str__ pm_Moment___str__ an_Moment___str__ cd_Moment___str__ ct_Moment___str__), sl_Moment___str__⟩)
    (c_Moment___str__ : PySem.W.codeIn K cd_Moment___str__ "Moment.__str__" = true)
    (p_Moment___str__ : PySem.W.keepIn K (.ref a_Moment___str__) = true)
    (f_Moment___str__ : PySem.W.isFn K (.ref a_Moment___str__) = true)
    (sx_Moment_read : PySem.W.findCls K (.ref C_Moment) (.type "type") "read" = some (.get (.builtin "staticmethod.__get__") (.ref sp_Moment_read) .none (.ref C_Moment)))
    (sy_Moment_read : PySem.W.recIn K sp_Moment_read "staticmethod" = some (.ref a_Moment_read :: sr_Moment_read))
    (l_Moment_read : K.lookup a_Moment_read = some ⟨oc_Moment_read, od_Moment_read, .func (PySem.W.fnOf "read" "Moment.read" (defArgs s_Moment_read) (defBody s_Moment_read) (defScope s_Moment_read) .none kV_Moment_read dc_Moment_read pm_Moment_read an_Moment_read cd_Moment_read ct_Moment_read), sl_Moment_read⟩)
    (c_Moment_read : PySem.W.codeIn K cd_Moment_read "Moment.read" = true)
    (p_Moment_read : PySem.W.keepIn K (.ref a_Moment_read) = true)
    (g_whole_in : PySem.W.nsIn K mainGlobals "whole_in" = some (some (.ref a_whole_in)))
    (l_whole_in : K.lookup a_whole_in = some ⟨oc_whole_in, od_whole_in, .func (PySem.W.fnOf "whole_in" "whole_in" (defArgs s_whole_in) (defBody s_whole_in) (defScope s_whole_in) .none kV_whole_in dc_whole_in pm_whole_in an_whole_in cd_whole_in ct_whole_in), sl_whole_in⟩)
    (c_whole_in : PySem.W.codeIn K cd_whole_in "whole_in" = true)
    (p_whole_in : PySem.W.keepIn K (.ref a_whole_in) = true)
    (g_moment_in : PySem.W.nsIn K mainGlobals "moment_in" = some (some (.ref a_moment_in)))
    (l_moment_in : K.lookup a_moment_in = some ⟨oc_moment_in, od_moment_in, .func (PySem.W.fnOf "moment_in" "moment_in" (defArgs s_moment_in) (defBody s_moment_in) (defScope s_moment_in) .none kV_moment_in dc_moment_in pm_moment_in an_moment_in cd_moment_in ct_moment_in), sl_moment_in⟩)
    (c_moment_in : PySem.W.codeIn K cd_moment_in "moment_in" = true)
    (p_moment_in : PySem.W.keepIn K (.ref a_moment_in) = true)
    (g__law_cell : PySem.W.nsIn K mainGlobals "_law_cell" = some (some (.ref a__law_cell)))
    (l__law_cell : K.lookup a__law_cell = some ⟨oc__law_cell, od__law_cell, .func (PySem.W.fnOf "_law_cell" "_law_cell" (defArgs s__law_cell) (defBody s__law_cell) (defScope s__law_cell) .none kV__law_cell dc__law_cell pm__law_cell an__law_cell cd__law_cell ct__law_cell), sl__law_cell⟩)
    (c__law_cell : PySem.W.codeIn K cd__law_cell "_law_cell" = true)
    (p__law_cell : PySem.W.keepIn K (.ref a__law_cell) = true)
    (g__law_row : PySem.W.nsIn K mainGlobals "_law_row" = some (some (.ref a__law_row)))
    (l__law_row : K.lookup a__law_row = some ⟨oc__law_row, od__law_row, .func (PySem.W.fnOf "_law_row" "_law_row" (defArgs s__law_row) (defBody s__law_row) (defScope s__law_row) .none kV__law_row dc__law_row pm__law_row an__law_row cd__law_row ct__law_row), sl__law_row⟩)
    (c__law_row : PySem.W.codeIn K cd__law_row "_law_row" = true)
    (p__law_row : PySem.W.keepIn K (.ref a__law_row) = true)
    (g__law_whole : PySem.W.nsIn K mainGlobals "_law_whole" = some (some (.ref a__law_whole)))
    (l__law_whole : K.lookup a__law_whole = some ⟨oc__law_whole, od__law_whole, .func (PySem.W.fnOf "_law_whole" "_law_whole" (defArgs s__law_whole) (defBody s__law_whole) (defScope s__law_whole) .none kV__law_whole dc__law_whole pm__law_whole an__law_whole cd__law_whole ct__law_whole), sl__law_whole⟩)
    (c__law_whole : PySem.W.codeIn K cd__law_whole "_law_whole" = true)
    (p__law_whole : PySem.W.keepIn K (.ref a__law_whole) = true)
    (g__law_ratio : PySem.W.nsIn K mainGlobals "_law_ratio" = some (some (.ref a__law_ratio)))
    (l__law_ratio : K.lookup a__law_ratio = some ⟨oc__law_ratio, od__law_ratio, .func (PySem.W.fnOf "_law_ratio" "_law_ratio" (defArgs s__law_ratio) (defBody s__law_ratio) (defScope s__law_ratio) .none kV__law_ratio dc__law_ratio pm__law_ratio an__law_ratio cd__law_ratio ct__law_ratio), sl__law_ratio⟩)
    (c__law_ratio : PySem.W.codeIn K cd__law_ratio "_law_ratio" = true)
    (p__law_ratio : PySem.W.keepIn K (.ref a__law_ratio) = true)
    (g__law_gcd : PySem.W.nsIn K mainGlobals "_law_gcd" = some (some (.ref a__law_gcd)))
    (l__law_gcd : K.lookup a__law_gcd = some ⟨oc__law_gcd, od__law_gcd, .func (PySem.W.fnOf "_law_gcd" "_law_gcd" (defArgs s__law_gcd) (defBody s__law_gcd) (defScope s__law_gcd) .none kV__law_gcd dc__law_gcd pm__law_gcd an__law_gcd cd__law_gcd ct__law_gcd), sl__law_gcd⟩)
    (c__law_gcd : PySem.W.codeIn K cd__law_gcd "_law_gcd" = true)
    (p__law_gcd : PySem.W.keepIn K (.ref a__law_gcd) = true)
    (g__law_is_int : PySem.W.nsIn K mainGlobals "_law_is_int" = some (some (.ref a__law_is_int)))
    (l__law_is_int : K.lookup a__law_is_int = some ⟨oc__law_is_int, od__law_is_int, .func (PySem.W.fnOf "_law_is_int" "_law_is_int" (defArgs s__law_is_int) (defBody s__law_is_int) (defScope s__law_is_int) .none kV__law_is_int dc__law_is_int pm__law_is_int an__law_is_int cd__law_is_int ct__law_is_int), sl__law_is_int⟩)
    (c__law_is_int : PySem.W.codeIn K cd__law_is_int "_law_is_int" = true)
    (p__law_is_int : PySem.W.keepIn K (.ref a__law_is_int) = true)
    (g__law_holds : PySem.W.nsIn K mainGlobals "_law_holds" = some (some (.ref a__law_holds)))
    (l__law_holds : K.lookup a__law_holds = some ⟨oc__law_holds, od__law_holds, .func (PySem.W.fnOf "_law_holds" "_law_holds" (defArgs s__law_holds) (defBody s__law_holds) (defScope s__law_holds) .none kV__law_holds dc__law_holds pm__law_holds an__law_holds cd__law_holds ct__law_holds), sl__law_holds⟩)
    (c__law_holds : PySem.W.codeIn K cd__law_holds "_law_holds" = true)
    (p__law_holds : PySem.W.keepIn K (.ref a__law_holds) = true)
    (g__law_is_number : PySem.W.nsIn K mainGlobals "_law_is_number" = some (some (.ref a__law_is_number)))
    (l__law_is_number : K.lookup a__law_is_number = some ⟨oc__law_is_number, od__law_is_number, .func (PySem.W.fnOf "_law_is_number" "_law_is_number" (defArgs s__law_is_number) (defBody s__law_is_number) (defScope s__law_is_number) .none kV__law_is_number dc__law_is_number pm__law_is_number an__law_is_number cd__law_is_number ct__law_is_number), sl__law_is_number⟩)
    (c__law_is_number : PySem.W.codeIn K cd__law_is_number "_law_is_number" = true)
    (p__law_is_number : PySem.W.keepIn K (.ref a__law_is_number) = true)
    (g__law_is_written : PySem.W.nsIn K mainGlobals "_law_is_written" = some (some (.ref a__law_is_written)))
    (l__law_is_written : K.lookup a__law_is_written = some ⟨oc__law_is_written, od__law_is_written, .func (PySem.W.fnOf "_law_is_written" "_law_is_written" (defArgs s__law_is_written) (defBody s__law_is_written) (defScope s__law_is_written) .none kV__law_is_written dc__law_is_written pm__law_is_written an__law_is_written cd__law_is_written ct__law_is_written), sl__law_is_written⟩)
    (c__law_is_written : PySem.W.codeIn K cd__law_is_written "_law_is_written" = true)
    (p__law_is_written : PySem.W.keepIn K (.ref a__law_is_written) = true)
    (g__law_low : PySem.W.nsIn K mainGlobals "_law_low" = some (some (.ref a__law_low)))
    (l__law_low : K.lookup a__law_low = some ⟨oc__law_low, od__law_low, .func (PySem.W.fnOf "_law_low" "_law_low" (defArgs s__law_low) (defBody s__law_low) (defScope s__law_low) .none kV__law_low dc__law_low pm__law_low an__law_low cd__law_low ct__law_low), sl__law_low⟩)
    (c__law_low : PySem.W.codeIn K cd__law_low "_law_low" = true)
    (p__law_low : PySem.W.keepIn K (.ref a__law_low) = true)
    (g__law_printed : PySem.W.nsIn K mainGlobals "_law_printed" = some (some (.ref a__law_printed)))
    (l__law_printed : K.lookup a__law_printed = some ⟨oc__law_printed, od__law_printed, .func (PySem.W.fnOf "_law_printed" "_law_printed" (defArgs s__law_printed) (defBody s__law_printed) (defScope s__law_printed) .none kV__law_printed dc__law_printed pm__law_printed an__law_printed cd__law_printed ct__law_printed), sl__law_printed⟩)
    (c__law_printed : PySem.W.codeIn K cd__law_printed "_law_printed" = true)
    (p__law_printed : PySem.W.keepIn K (.ref a__law_printed) = true)
    (g__law_sign : PySem.W.nsIn K mainGlobals "_law_sign" = some (some (.ref a__law_sign)))
    (l__law_sign : K.lookup a__law_sign = some ⟨oc__law_sign, od__law_sign, .func (PySem.W.fnOf "_law_sign" "_law_sign" (defArgs s__law_sign) (defBody s__law_sign) (defScope s__law_sign) .none kV__law_sign dc__law_sign pm__law_sign an__law_sign cd__law_sign ct__law_sign), sl__law_sign⟩)
    (c__law_sign : PySem.W.codeIn K cd__law_sign "_law_sign" = true)
    (p__law_sign : PySem.W.keepIn K (.ref a__law_sign) = true)
    (g__law_spoilt : PySem.W.nsIn K mainGlobals "_law_spoilt" = some (some (.ref a__law_spoilt)))
    (l__law_spoilt : K.lookup a__law_spoilt = some ⟨oc__law_spoilt, od__law_spoilt, .func (PySem.W.fnOf "_law_spoilt" "_law_spoilt" (defArgs s__law_spoilt) (defBody s__law_spoilt) (defScope s__law_spoilt) .none kV__law_spoilt dc__law_spoilt pm__law_spoilt an__law_spoilt cd__law_spoilt ct__law_spoilt), sl__law_spoilt⟩)
    (c__law_spoilt : PySem.W.codeIn K cd__law_spoilt "_law_spoilt" = true)
    (p__law_spoilt : PySem.W.keepIn K (.ref a__law_spoilt) = true)
    (g__law_near : PySem.W.nsIn K mainGlobals "_law_near" = some (some (.ref a__law_near)))
    (l__law_near : K.lookup a__law_near = some ⟨oc__law_near, od__law_near, .func (PySem.W.fnOf "_law_near" "_law_near" (defArgs s__law_near) (defBody s__law_near) (defScope s__law_near) .none kV__law_near dc__law_near pm__law_near an__law_near cd__law_near ct__law_near), sl__law_near⟩)
    (c__law_near : PySem.W.codeIn K cd__law_near "_law_near" = true)
    (p__law_near : PySem.W.keepIn K (.ref a__law_near) = true)
    (g_law : PySem.W.nsIn K mainGlobals "law" = some (some (.ref a_law)))
    (l_law : K.lookup a_law = some ⟨oc_law, od_law, .func (PySem.W.fnOf "law" "law" (defArgs s_law) (defBody s_law) (defScope s_law) .none kV_law dc_law pm_law an_law cd_law ct_law), sl_law⟩)
    (c_law : PySem.W.codeIn K cd_law "law" = true)
    (p_law : PySem.W.keepIn K (.ref a_law) = true)
    (r1_AnytuneError : PySem.W.readsIn K C_AnytuneError (.type "type") = true)
    (r2_AnytuneError : PySem.W.specialIn K (.ref C_AnytuneError) "__getattribute__" = some (some (.builtin "type.__getattribute__")))
    (r3_AnytuneError : PySem.W.findCls K (.ref C_AnytuneError) (.type "type") "__init__" = some (.val (.builtin "ValueError.__init__")))
    (o1_NoMoment : K.lookup C_NoMoment = some (excClassObj nm_NoMoment q_NoMoment C_NoMoment N_NoMoment bs_NoMoment bm_NoMoment true sn_NoMoment sub_NoMoment ab_NoMoment col_NoMoment dd_NoMoment k0_NoMoment k1_NoMoment k2_NoMoment k3_NoMoment k5_NoMoment "ValueError.__new__"))
    (o2_NoMoment : PySem.HandSPX.refsVE bm_NoMoment = true)
    (o3_NoMoment : PySem.W.findIn K (.ref C_NoMoment) "__setattr__" = some (some (.builtin "object.__setattr__")))
    (o4_NoMoment : PySem.W.subIn K (.ref C_NoMoment) (.type "BaseException") = some true)
    (o5_NoMoment : PySem.W.typeIn K (.ref C_NoMoment) = some (.type "type"))
    (o6_NoMoment : PySem.W.keepIn K (.ref C_NoMoment) = true)
    (o7_NoMoment : PySem.W.findIn K (.ref C_NoMoment) "__getattribute__" = some (some (.builtin "BaseException.__getattribute__")))
    (o8_NoMoment : PySem.W.findIn K (.ref C_NoMoment) "__getattr__" = some none)
    (o9_NoMoment : PySem.W.hasDictIn K C_NoMoment = true)
    (oA_NoMoment : PySem.W.isClsIn K C_NoMoment = true)
    (oB_NoMoment : PySem.W.subIn K (.ref C_NoMoment) (.ref C_NoMoment) = some true)
    (na_NoMoment_top : PySem.W.findIn K (.ref C_NoMoment) "top" = some none)
    (na_NoMoment_bottom : PySem.W.findIn K (.ref C_NoMoment) "bottom" = some none)
    (o1_NoText : K.lookup C_NoText = some (excClassObj nm_NoText q_NoText C_NoText N_NoText bs_NoText bm_NoText true sn_NoText sub_NoText ab_NoText col_NoText dd_NoText k0_NoText k1_NoText k2_NoText k3_NoText k5_NoText "ValueError.__new__"))
    (o2_NoText : PySem.HandSPX.refsVE bm_NoText = true)
    (o3_NoText : PySem.W.findIn K (.ref C_NoText) "__setattr__" = some (some (.builtin "object.__setattr__")))
    (o4_NoText : PySem.W.subIn K (.ref C_NoText) (.type "BaseException") = some true)
    (o5_NoText : PySem.W.typeIn K (.ref C_NoText) = some (.type "type"))
    (o6_NoText : PySem.W.keepIn K (.ref C_NoText) = true)
    (o7_NoText : PySem.W.findIn K (.ref C_NoText) "__getattribute__" = some (some (.builtin "BaseException.__getattribute__")))
    (o8_NoText : PySem.W.findIn K (.ref C_NoText) "__getattr__" = some none)
    (o9_NoText : PySem.W.hasDictIn K C_NoText = true)
    (oA_NoText : PySem.W.isClsIn K C_NoText = true)
    (oB_NoText : PySem.W.subIn K (.ref C_NoText) (.ref C_NoText) = some true)
    (na_NoText_text : PySem.W.findIn K (.ref C_NoText) "text" = some none)
    (y1_Moment : PySem.W.plainGet K C_Moment Str.empty = true)
    (y2_Moment : PySem.W.hasDictIn K C_Moment = true)
    (y3_Moment : PySem.W.plainOver K C_Moment = true)
    (y4_Moment : PySem.W.findIn K (.ref C_Moment) "__setattr__" = some (some (.builtin "object.__setattr__")))
    (y5_Moment : PySem.W.selfFirst K C_Moment = true)
    (y6_Moment : PySem.W.subIn K (.ref C_Moment) (.type "int") = some false)
    (y7_Moment : PySem.W.mroIn K C_Moment (.type "object") = some true)
    (y8_Moment : PySem.W.findIn K (.ref C_Moment) "__class__" = some (some (.builtin "object.__class__")))
    (y9_Moment : PySem.W.specialIn K (.builtin "object.__class__") "__get__" = some (some (.builtin "getset_descriptor.__get__")))
    (yA_Moment : PySem.W.takesIn K (.builtin "object.__class__") = some true)
    (yB_Moment : PySem.W.isClsIn K C_Moment = true)
    (yC_Moment : PySem.W.typeIn K (.ref C_Moment) = some (.type "type"))
    (yD_Moment : PySem.W.keepIn K (.ref C_Moment) = true)
    (yE_Moment : PySem.W.makesIn K C_Moment = true)
    (r1_Moment : PySem.W.readsIn K C_Moment (.type "type") = true)
    (r2_Moment : PySem.W.specialIn K (.ref C_Moment) "__getattribute__" = some (some (.builtin "type.__getattribute__")))
    (na_Moment_top : PySem.W.findIn K (.ref C_Moment) "top" = some none)
    (na_Moment_bottom : PySem.W.findIn K (.ref C_Moment) "bottom" = some none)
    (z_Moment_int : PySem.W.subIn K (.type "int") (.ref C_Moment) = some false)
    (z_Moment_str : PySem.W.subIn K (.type "str") (.ref C_Moment) = some false)
    (z_Moment_list : PySem.W.subIn K (.type "list") (.ref C_Moment) = some false)
    (z_Moment_tuple : PySem.W.subIn K (.type "tuple") (.ref C_Moment) = some false)
    (z_Moment_NoneType : PySem.W.subIn K (.type "NoneType") (.ref C_Moment) = some false)
    (z_Moment_bool : PySem.W.subIn K (.type "bool") (.ref C_Moment) = some false)
    (ne_Moment : PySem.W.findIn K (.ref C_Moment) "__ne__" = some (some (.builtin "object.__ne__")))
    (g_DIGITS : PySem.W.nsIn K mainGlobals "DIGITS" = some (some u_DIGITS))
    (v_DIGITS : RelV (.str (SX.S [48, 49, 50, 51, 52, 53, 54, 55, 56, 57])) u_DIGITS)
    (g_MOST_DIGITS : PySem.W.nsIn K mainGlobals "MOST_DIGITS" = some (some u_MOST_DIGITS))
    (v_MOST_DIGITS : RelV (.int 60) u_MOST_DIGITS)
    (n_abs : PySem.W.nsIn K mainGlobals "abs" = some none)
    (n_str : PySem.W.nsIn K mainGlobals "str" = some none)
    (n_staticmethod : PySem.W.nsIn K mainGlobals "staticmethod" = some none)
    (n_int : PySem.W.nsIn K mainGlobals "int" = some none)
    (n_len : PySem.W.nsIn K mainGlobals "len" = some none)
    (n_range : PySem.W.nsIn K mainGlobals "range" = some none)
    (n_isinstance : PySem.W.nsIn K mainGlobals "isinstance" = some none)
    (n_bool : PySem.W.nsIn K mainGlobals "bool" = some none) :
    ∃ T : Tx K mg, T.a_law = fa := by
  have e := hfa.symm.trans (PySem.W.mg_of X G g_law)
  cases e
  exact ⟨⟨_,
    _,
    (fun_mk (st := s_NoMoment___init__) l_NoMoment___init__ c_NoMoment___init__ p_NoMoment___init__),
    _,
    _,
    (fun_mk (st := s_NoText___init__) l_NoText___init__ c_NoText___init__ p_NoText___init__),
    _,
    _,
    (fun_mk (st := s_common) l_common c_common p_common),
    (PySem.W.mg_of X G g_common),
    _,
    _,
    ⟨⟨_, _, _, _, _, _, _, _, _, _, rfl, l_Moment___init__, c_Moment___init__, .inr ⟨by simp, td_Moment___init__, to_Moment___init__, ti_Moment___init__, tn_Moment___init__, rfl, t_Moment___init__, u_Moment___init__, v_Moment___init__⟩, .inl rfl⟩, p_Moment___init__⟩,
    _,
    _,
    (fun_mk (st := s_Moment___str__) l_Moment___str__ c_Moment___str__ p_Moment___str__),
    _,
    _,
    (fun_mk (st := s_Moment_read) l_Moment_read c_Moment_read p_Moment_read),
    _,
    _,
    (fun_mk (st := s_whole_in) l_whole_in c_whole_in p_whole_in),
    (PySem.W.mg_of X G g_whole_in),
    _,
    _,
    (fun_mk (st := s_moment_in) l_moment_in c_moment_in p_moment_in),
    (PySem.W.mg_of X G g_moment_in),
    _,
    _,
    (fun_mk (st := s__law_cell) l__law_cell c__law_cell p__law_cell),
    (PySem.W.mg_of X G g__law_cell),
    _,
    _,
    (fun_mk (st := s__law_row) l__law_row c__law_row p__law_row),
    (PySem.W.mg_of X G g__law_row),
    _,
    _,
    (fun_mk (st := s__law_whole) l__law_whole c__law_whole p__law_whole),
    (PySem.W.mg_of X G g__law_whole),
    _,
    _,
    (fun_mk (st := s__law_ratio) l__law_ratio c__law_ratio p__law_ratio),
    (PySem.W.mg_of X G g__law_ratio),
    _,
    _,
    (fun_mk (st := s__law_gcd) l__law_gcd c__law_gcd p__law_gcd),
    (PySem.W.mg_of X G g__law_gcd),
    _,
    _,
    (fun_mk (st := s__law_is_int) l__law_is_int c__law_is_int p__law_is_int),
    (PySem.W.mg_of X G g__law_is_int),
    _,
    _,
    (fun_mk (st := s__law_holds) l__law_holds c__law_holds p__law_holds),
    (PySem.W.mg_of X G g__law_holds),
    _,
    _,
    (fun_mk (st := s__law_is_number) l__law_is_number c__law_is_number p__law_is_number),
    (PySem.W.mg_of X G g__law_is_number),
    _,
    _,
    (fun_mk (st := s__law_is_written) l__law_is_written c__law_is_written p__law_is_written),
    (PySem.W.mg_of X G g__law_is_written),
    _,
    _,
    (fun_mk (st := s__law_low) l__law_low c__law_low p__law_low),
    (PySem.W.mg_of X G g__law_low),
    _,
    _,
    (fun_mk (st := s__law_printed) l__law_printed c__law_printed p__law_printed),
    (PySem.W.mg_of X G g__law_printed),
    _,
    _,
    (fun_mk (st := s__law_sign) l__law_sign c__law_sign p__law_sign),
    (PySem.W.mg_of X G g__law_sign),
    _,
    _,
    (fun_mk (st := s__law_spoilt) l__law_spoilt c__law_spoilt p__law_spoilt),
    (PySem.W.mg_of X G g__law_spoilt),
    _,
    _,
    (fun_mk (st := s__law_near) l__law_near c__law_near p__law_near),
    (PySem.W.mg_of X G g__law_near),
    _,
    _,
    (fun_mk (st := s_law) l_law c_law p_law),
    (PySem.W.mg_of X G g_law),
    C_AnytuneError,
    (PySem.W.mg_of X G g_AnytuneError),
    ⟨r1_AnytuneError, r2_AnytuneError⟩,
    r3_AnytuneError,
    C_NoMoment,
    (PySem.W.mg_of X G g_NoMoment),
    ⟨⟨_, _, _, _, _, _, _, _, _, _, _, _, _, _, _, o1_NoMoment, o2_NoMoment⟩, o3_NoMoment, o4_NoMoment, o5_NoMoment, o6_NoMoment⟩,
    ⟨o7_NoMoment, o8_NoMoment, o4_NoMoment, o9_NoMoment⟩,
    (exm_own o4_NoMoment oA_NoMoment o5_NoMoment oB_NoMoment),
    na_NoMoment_top,
    na_NoMoment_bottom,
    C_NoText,
    (PySem.W.mg_of X G g_NoText),
    ⟨⟨_, _, _, _, _, _, _, _, _, _, _, _, _, _, _, o1_NoText, o2_NoText⟩, o3_NoText, o4_NoText, o5_NoText, o6_NoText⟩,
    ⟨o7_NoText, o8_NoText, o4_NoText, o9_NoText⟩,
    (exm_own o4_NoText oA_NoText o5_NoText oB_NoText),
    na_NoText_text,
    C_Moment,
    (PySem.W.mg_of X G g_Moment),
    ⟨⟨y1_Moment, y2_Moment, y3_Moment, y4_Moment⟩, y5_Moment, y6_Moment, y7_Moment, y8_Moment, y9_Moment, yA_Moment⟩,
    yB_Moment,
    yC_Moment,
    yD_Moment,
    yE_Moment,
    na_Moment_top,
    na_Moment_bottom,
    z_Moment_int,
    z_Moment_str,
    z_Moment_list,
    z_Moment_tuple,
    z_Moment_NoneType,
    z_Moment_bool,
    ne_Moment,
    ⟨x_NoMoment___init__, f_NoMoment___init__⟩,
    ⟨x_NoText___init__, f_NoText___init__⟩,
    ⟨x_Moment___init__, f_Moment___init__⟩,
    ⟨x_Moment___str__, f_Moment___str__⟩,
    ⟨⟨r1_Moment, r2_Moment⟩, _, sx_Moment_read, _, sy_Moment_read⟩,
    _,
    (PySem.W.mg_of X G g_DIGITS),
    v_DIGITS,
    _,
    (PySem.W.mg_of X G g_MOST_DIGITS),
    v_MOST_DIGITS,
    (PySem.W.mg_none_of X G n_abs),
    (PySem.W.mg_none_of X G n_str),
    (PySem.W.mg_none_of X G n_staticmethod),
    (PySem.W.mg_none_of X G n_int),
    (PySem.W.mg_none_of X G n_len),
    (PySem.W.mg_none_of X G n_range),
    (PySem.W.mg_none_of X G n_isinstance),
    (PySem.W.mg_none_of X G n_bool)⟩, rfl⟩
theorem walk {l : PySem.W.OpenLaw} {pr : Program} {loose : List Str} {XP : (Str → Option Value) → Heap → Prop} {YP : World → Heap → Prop} {d : DefRec} {K : Params → PySem.W.Frag} (hn : l.most = some 63) (hdf : d.params.defaults = [])
    (hY : ∀ (w : World) (h : Heap), YP w h → (K w.params).In h)
    (F : ∀ (w : World) (mg : Str → Option Value) (fa : Addr) (h : Heap), (K w.params).In h → h.Ns mainGlobals mg → mg d.name = some (.ref fa) → ∃ T : Tx (K w.params) mg, T.a_law = fa) :
    PySem.W.WalkO pr loose XP YP l.row.toRowW d [] (fun f vs => PySem.call f vs) :=
  L2.walk_of (n := 63) (k := 10) (x := "_law_script") (CX := fun _ => CX0) (sp := fun w => spLaw (K w.params)) hn (by decide) hdf ⟨rfl, by decide, by decide⟩ hY
    (fun w mg fa h KX G hmg => by
      obtain ⟨T, rfl⟩ := F w mg fa h KX G hmg
      exact ⟨T.d_law, fun s v => by
        obtain ⟨oc, od, kV, doc, pm, an, cdv, ct, osl, e, _⟩ := T.F_law.ex
        rw [e]
        exact .of_eq rfl, fun base _ _ => ok_law T⟩)
    (fun _ _ a ns hl _ hS => ⟨a, ns, rfl, hS, hl, fun _ => rfl⟩) fun _ _ _ _ _ z => z
end AT
open PySem PySem.W PyProof.Rows
set_option maxRecDepth 100000 in
set_option maxHeartbeats 0 in
theorem PySem.Challenge.cw_anytune_k07_texts_of_moments_holds : PySem.Challenge.rw_anytune_k07_texts_of_moments.Holds := by
  w_on; o_law; k_head; (case hw => w_witness2)
  k_fill
  refine AT.walk (l := PySem.Challenge.rw_anytune_k07_texts_of_moments) rfl rfl (fun w h Y => PySem.W.kIn_of Y) ?F
  case F =>
    intro w mg fa h KX G hmg
    refine' AT.all_mk KX G hmg ?g_AnytuneError ?g_NoMoment ?g_NoText ?g_Moment ?x_NoMoment___init__ ?l_NoMoment___init__ ?c_NoMoment___init__ ?p_NoMoment___init__ ?f_NoMoment___init__ ?x_NoText___init__ ?l_NoText___init__ ?c_NoText___init__ ?p_NoText___init__ ?f_NoText___init__ ?g_common ?l_common ?c_common ?p_common ?x_Moment___init__ ?l_Moment___init__ ?c_Moment___init__ ?p_Moment___init__ ?f_Moment___init__ ?t_Moment___init__ ?u_Moment___init__ ?v_Moment___init__ ?x_Moment___str__ ?l_Moment___str__ ?c_Moment___str__ ?p_Moment___str__ ?f_Moment___str__ ?sx_Moment_read ?sy_Moment_read ?l_Moment_read ?c_Moment_read ?p_Moment_read ?g_whole_in ?l_whole_in ?c_whole_in ?p_whole_in ?g_moment_in ?l_moment_in ?c_moment_in ?p_moment_in ?g__law_cell ?l__law_cell ?c__law_cell ?p__law_cell ?g__law_row ?l__law_row ?c__law_row ?p__law_row ?g__law_whole ?l__law_whole ?c__law_whole ?p__law_whole ?g__law_ratio ?l__law_ratio ?c__law_ratio ?p__law_ratio ?g__law_gcd ?l__law_gcd ?c__law_gcd ?p__law_gcd ?g__law_is_int ?l__law_is_int ?c__law_is_int ?p__law_is_int ?g__law_holds ?l__law_holds ?c__law_holds ?p__law_holds ?g__law_is_number ?l__law_is_number ?c__law_is_number ?p__law_is_number ?g__law_is_written ?l__law_is_written ?c__law_is_written ?p__law_is_written ?g__law_low ?l__law_low ?c__law_low ?p__law_low ?g__law_printed ?l__law_printed ?c__law_printed ?p__law_printed ?g__law_sign ?l__law_sign ?c__law_sign ?p__law_sign ?g__law_spoilt ?l__law_spoilt ?c__law_spoilt ?p__law_spoilt ?g__law_near ?l__law_near ?c__law_near ?p__law_near ?g_law ?l_law ?c_law ?p_law ?r1_AnytuneError ?r2_AnytuneError ?r3_AnytuneError ?o1_NoMoment ?o2_NoMoment ?o3_NoMoment ?o4_NoMoment ?o5_NoMoment ?o6_NoMoment ?o7_NoMoment ?o8_NoMoment ?o9_NoMoment ?oA_NoMoment ?oB_NoMoment ?na_NoMoment_top ?na_NoMoment_bottom ?o1_NoText ?o2_NoText ?o3_NoText ?o4_NoText ?o5_NoText ?o6_NoText ?o7_NoText ?o8_NoText ?o9_NoText ?oA_NoText ?oB_NoText ?na_NoText_text ?y1_Moment ?y2_Moment ?y3_Moment ?y4_Moment ?y5_Moment ?y6_Moment ?y7_Moment ?y8_Moment ?y9_Moment ?yA_Moment ?yB_Moment ?yC_Moment ?yD_Moment ?yE_Moment ?r1_Moment ?r2_Moment ?na_Moment_top ?na_Moment_bottom ?z_Moment_int ?z_Moment_str ?z_Moment_list ?z_Moment_tuple ?z_Moment_NoneType ?z_Moment_bool ?ne_Moment ?g_DIGITS ?v_DIGITS ?g_MOST_DIGITS ?v_MOST_DIGITS ?n_abs ?n_str ?n_staticmethod ?n_int ?n_len ?n_range ?n_isinstance ?n_bool
    (case g_AnytuneError => k_is)
    (case g_NoMoment => k_is)
    (case g_NoText => k_is)
    (case g_Moment => k_is)
    (case x_NoMoment___init__ => k_is)
    (case l_NoMoment___init__ => k_is)
    (case c_NoMoment___init__ => k_is)
    (case p_NoMoment___init__ => k_is)
    (case f_NoMoment___init__ => k_is)
    (case x_NoText___init__ => k_is)
    (case l_NoText___init__ => k_is)
    (case c_NoText___init__ => k_is)
    (case p_NoText___init__ => k_is)
    (case f_NoText___init__ => k_is)
    (case g_common => k_is)
    (case l_common => k_is)
    (case c_common => k_is)
    (case p_common => k_is)
    (case x_Moment___init__ => k_is)
    (case l_Moment___init__ => k_is)
    (case c_Moment___init__ => k_is)
    (case p_Moment___init__ => k_is)
    (case f_Moment___init__ => k_is)
    (case t_Moment___init__ => k_is)
    (case u_Moment___init__ => exact rfl)
    (case v_Moment___init__ => exact (.cons ⟨_, rfl⟩ .nil))
    (case x_Moment___str__ => k_is)
    (case l_Moment___str__ => k_is)
    (case c_Moment___str__ => k_is)
    (case p_Moment___str__ => k_is)
    (case f_Moment___str__ => k_is)
    (case sx_Moment_read => k_is)
    (case sy_Moment_read => k_is)
    (case l_Moment_read => k_is)
    (case c_Moment_read => k_is)
    (case p_Moment_read => k_is)
    (case g_whole_in => k_is)
    (case l_whole_in => k_is)
    (case c_whole_in => k_is)
    (case p_whole_in => k_is)
    (case g_moment_in => k_is)
    (case l_moment_in => k_is)
    (case c_moment_in => k_is)
    (case p_moment_in => k_is)
    (case g__law_cell => k_is)
    (case l__law_cell => k_is)
    (case c__law_cell => k_is)
    (case p__law_cell => k_is)
    (case g__law_row => k_is)
    (case l__law_row => k_is)
    (case c__law_row => k_is)
    (case p__law_row => k_is)
    (case g__law_whole => k_is)
    (case l__law_whole => k_is)
    (case c__law_whole => k_is)
    (case p__law_whole => k_is)
    (case g__law_ratio => k_is)
    (case l__law_ratio => k_is)
    (case c__law_ratio => k_is)
    (case p__law_ratio => k_is)
    (case g__law_gcd => k_is)
    (case l__law_gcd => k_is)
    (case c__law_gcd => k_is)
    (case p__law_gcd => k_is)
    (case g__law_is_int => k_is)
    (case l__law_is_int => k_is)
    (case c__law_is_int => k_is)
    (case p__law_is_int => k_is)
    (case g__law_holds => k_is)
    (case l__law_holds => k_is)
    (case c__law_holds => k_is)
    (case p__law_holds => k_is)
    (case g__law_is_number => k_is)
    (case l__law_is_number => k_is)
    (case c__law_is_number => k_is)
    (case p__law_is_number => k_is)
    (case g__law_is_written => k_is)
    (case l__law_is_written => k_is)
    (case c__law_is_written => k_is)
    (case p__law_is_written => k_is)
    (case g__law_low => k_is)
    (case l__law_low => k_is)
    (case c__law_low => k_is)
    (case p__law_low => k_is)
    (case g__law_printed => k_is)
    (case l__law_printed => k_is)
    (case c__law_printed => k_is)
    (case p__law_printed => k_is)
    (case g__law_sign => k_is)
    (case l__law_sign => k_is)
    (case c__law_sign => k_is)
    (case p__law_sign => k_is)
    (case g__law_spoilt => k_is)
    (case l__law_spoilt => k_is)
    (case c__law_spoilt => k_is)
    (case p__law_spoilt => k_is)
    (case g__law_near => k_is)
    (case l__law_near => k_is)
    (case c__law_near => k_is)
    (case p__law_near => k_is)
    (case g_law => k_is)
    (case l_law => k_is)
    (case c_law => k_is)
    (case p_law => k_is)
    (case r1_AnytuneError => k_is)
    (case r2_AnytuneError => k_is)
    (case r3_AnytuneError => k_is)
    (case o1_NoMoment => k_is)
    (case o2_NoMoment => decide +kernel)
    (case o3_NoMoment => k_is)
    (case o4_NoMoment => k_is)
    (case o5_NoMoment => k_is)
    (case o6_NoMoment => k_is)
    (case o7_NoMoment => k_is)
    (case o8_NoMoment => k_is)
    (case o9_NoMoment => k_is)
    (case oA_NoMoment => k_is)
    (case oB_NoMoment => k_is)
    (case na_NoMoment_top => k_is)
    (case na_NoMoment_bottom => k_is)
    (case o1_NoText => k_is)
    (case o2_NoText => decide +kernel)
    (case o3_NoText => k_is)
    (case o4_NoText => k_is)
    (case o5_NoText => k_is)
    (case o6_NoText => k_is)
    (case o7_NoText => k_is)
    (case o8_NoText => k_is)
    (case o9_NoText => k_is)
    (case oA_NoText => k_is)
    (case oB_NoText => k_is)
    (case na_NoText_text => k_is)
    (case y1_Moment => k_is)
    (case y2_Moment => k_is)
    (case y3_Moment => k_is)
    (case y4_Moment => k_is)
    (case y5_Moment => k_is)
    (case y6_Moment => k_is)
    (case y7_Moment => k_is)
    (case y8_Moment => k_is)
    (case y9_Moment => k_is)
    (case yA_Moment => k_is)
    (case yB_Moment => k_is)
    (case yC_Moment => k_is)
    (case yD_Moment => k_is)
    (case yE_Moment => k_is)
    (case r1_Moment => k_is)
    (case r2_Moment => k_is)
    (case na_Moment_top => k_is)
    (case na_Moment_bottom => k_is)
    (case z_Moment_int => k_is)
    (case z_Moment_str => k_is)
    (case z_Moment_list => k_is)
    (case z_Moment_tuple => k_is)
    (case z_Moment_NoneType => k_is)
    (case z_Moment_bool => k_is)
    (case ne_Moment => k_is)
    (case g_DIGITS => k_is)
    (case v_DIGITS => exact ⟨_, congrArg (fun z => Value.str z _) (by decide +kernel)⟩)
    (case g_MOST_DIGITS => k_is)
    (case v_MOST_DIGITS => exact ⟨_, rfl⟩)
    (case n_abs => k_is)
    (case n_str => k_is)
    (case n_staticmethod => k_is)
    (case n_int => k_is)
    (case n_len => k_is)
    (case n_range => k_is)
    (case n_isinstance => k_is)
    (case n_bool => k_is)
#print axioms PySem.Challenge.cw_anytune_k07_texts_of_moments_holds
